import PyProof.Rows.All
import Wide.All
import OpenK.AllK
import Wide.FinOn
import KE.KStateDown
import Lean
import HandS.ForMost
import HandS.ForExc
import HandS.More
import HandS.Star
import HandS.IsInst
import HandS.Conv
import HandS.Flow
import HandS.Defaults
import HandS.Walk
import HandS.Head0
import HandS.Head1
import HandS.Head2
import HandS.HeadEnd
import HandS.HeadHook1
import HandS.HeadHook2
import HandS.TupAny
import HandS.TupLe
import HandS.Small
import HandS.ExcIs
import HandS.TryOnly
import HandS.Zip
import HandS.Deep
import HandS.Steps
import HandS.Rev
import HandS.WordsExc
import HandS.ExcInit
import KE.KDictKeyed
import KE.KDictDisplayH
import HandS.DictComp
import HandS.FStr
import HandS.StrMore
import KE.SortData
import HandS.SortKw
import KE.SortKeyHeap
import KE.GoesZip
import KE.GoesMore
import KE.GoesEnum
import PyProof.StrBlock
import HandS.OwnEq
import HandS.ExcField
import HandS.SetKeys
import HandS.IterVal
import KE.DataFind
import HandS.WordsDict
import PySem.Challenge.RW_looporpile_k63_nodes_counted
set_option Elab.async false
set_option linter.all false
set_option maxRecDepth 10000000
set_option maxHeartbeats 4000000
/-! Lay: my own layer over HandS: rules by positional promises, operators for all kinds of values, a ledger of objects. -/
namespace G
open PySem PySem.Spec PyProof.Rows L2

/-! ### calls -/
def tCallR (sp : Sp) (E : XK) (t : TA) : TE := fun σ H Q => t σ H fun vs H1 => sp vs H1 Q E
section
variable {X : Cx} {CX : CXT} {k : Nat} {f C : Addr} {sp : Sp} {E : XK} {x m : Str} {e o : Expr} {es : List Expr} {te ta : TE} {t : TA} {p pos apos : Pos}
theorem pe_callR (F : FnR X.prog X.w X.K X.mg X.base CX k f sp) (hr : Room k X.A) (hg : Gl X x) (hm : X.mg x = some (.ref f)) (hk : PySem.W.keepIn X.K (.ref f) = true) (hx : Passes CX X E)
    (ha : PA X (e :: es) t) (hdb : (x == ("__debug__" : Str)) = false := by decide) (he : starEach (e :: es) X.env = (false, eval e X.env) :: starEach es X.env := by rfl) (hpl : (backTo pos (starEach es X.env)).any (·.1) = false := by rfl) :
    PE X (.Call (.Name x p) (e :: es) [] pos) (tCallR sp E t) := by
  refine ⟨fun pins s σ H Q I h => ?_⟩
  refine wpAny_Call_Name_kw (ld_glob I hg hm ?_ hdb)
  refine PySem.W.callWith_K (h₀ := X.base) I.ok.mod.kin hk (thn (ha.run pos pins s σ H _ I h) fun us s1 ⟨vs, H1, I1, r, q⟩ => ⟨I1.kIn, ?_⟩) he hpl
  exact wpAny_call (run_fnR F hr hx I1 r q)
/-- two readings of one expression -/
theorem PE.or {t t' : TE} (h : PE X e t) (h' : PE X e t') : PE X e (fun σ H Q => t σ H Q ∨ t' σ H Q) :=
  ⟨fun pins s σ H Q I q => q.elim (fun q => h.run pins s σ H Q I q) fun q => h'.run pins s σ H Q I q⟩
theorem PE.imp {t t' : TE} (h : PE X e t) (hi : ∀ σ H Q, t' σ H Q → t σ H Q) : PE X e t' := ⟨fun pins s σ H Q I q => h.run pins s σ H Q I (hi σ H Q q)⟩
theorem PT.imp {t t' : TT} (h : PT X e t) (hi : ∀ σ H Q, t' σ H Q → t σ H Q) : PT X e t' := ⟨fun pins s σ H Q I q => h.run pins s σ H Q I (hi σ H Q q)⟩
theorem OpR.imp {f : Value → Value → Sem Value} {r r' : R2} (h : OpR X f r) (hi : ∀ x y H Q, r' x y H Q → r x y H Q) : OpR X f r' :=
  fun pins s σ H x y v u Q I r1 r2 q => h pins s σ H x y v u Q I r1 r2 (hi _ _ _ _ q)
theorem CallR.imp {f : Value} {r r' : List V → Hp → VK → Prop} (h : CallR X f r) (hi : ∀ x H Q, r' x H Q → r x H Q) : CallR X f r' :=
  fun pins s σ H xs us Q I r1 q => h pins s σ H xs us Q I r1 (hi _ _ _ q)
end

/-! ### operators -/
def rAdd' (K : PySem.W.Frag) : R2
  | .int i, .int j, H, Q => Q (.int (i + j)) H
  | .str i, .str j, H, Q => i.length + j.length ≤ sizeLine ∧ Q (.str (i ++ j)) H
  | .ref a, .ref b, H, Q => (∃ xs zs, Rd H a (.lst xs) ∧ Rd H b (.lst zs) ∧ xs.length + zs.length ≤ sizeLine ∧ ∀ p, H p = none → Q (.ref p) (upd H p (.lst (xs ++ zs)))) ∨ rCatA K (.ref a) (.ref b) H Q
  | _, _, _, _ => False
def rSub' : R2
  | .int i, .int j, H, Q => Q (.int (i - j)) H
  | _, _, _, _ => False
/-- one factor within 2^64 -/
def rMul' : R2
  | .int i, .int j, H, Q => CMul i j ∧ Q (.int (i * j)) H
  | .str x, .int j, H, Q => MulOk x j ∧ Q (.str (Txt.mul x j)) H
  | _, _, _, _ => False
def rDiv' : R2
  | .int i, .int j, H, Q => (0 < j ∧ j < 1073741824) ∧ Q (.int (i / j)) H
  | _, _, _, _ => False
def rMod' : R2
  | .int i, .int j, H, Q => 0 < j ∧ Q (.int (i % j)) H
  | _, _, _, _ => False
def rPow' : R2
  | .int i, .int j, H, Q => CPow i j ∧ Q (.int (i ^ j.toNat)) H
  | _, _, _, _ => False
def rLt' : R2
  | .int i, .int j, H, Q => Q (.bl (decide (i < j))) H
  | .str i, .str j, H, Q => Q (.bl (decide (i.cps.toList < j.cps.toList))) H
  | _, _, _, _ => False
def rLe' : R2
  | .int i, .int j, H, Q => Q (.bl (decide (i ≤ j))) H
  | .str i, .str j, H, Q => Q (.bl (!decide (j.cps.toList < i.cps.toList))) H
  | _, _, _, _ => False
def rGt' : R2
  | .int i, .int j, H, Q => Q (.bl (decide (j < i))) H
  | _, _, _, _ => False
def rGe' : R2
  | .int i, .int j, H, Q => Q (.bl (decide (j ≤ i))) H
  | _, _, _, _ => False
section
variable {X : Cx}
theorem op_catR : OpR X (binaryOp .Add) (fun x y H Q => ∃ l b xs zs, x = .ref l ∧ y = .ref b ∧ Rd H l (.lst xs) ∧ Rd H b (.lst zs) ∧ xs.length + zs.length ≤ sizeLine ∧ ∀ p, H p = none → Q (.ref p) (upd H p (.lst (xs ++ zs)))) := by
  intro pins s σ H x y v u Q I rx ry h
  obtain ⟨l, b, xs, zs, rfl, rfl, hH, hB, hz, q⟩ := h
  cases rx
  cases ry
  obtain ⟨z, its, n, r, e⟩ := hH.ok I.hok
  obtain ⟨z2, its2, n2, r2, e2⟩ := hB.ok I.hok
  have hl := r.length
  have hl2 := r2.length
  refine PySem.P.add_list e e2 ?_ (by rw [List.size_toArray, List.size_toArray]; omega)
  have ea : its.toArray ++ its2.toArray = (its ++ its2).toArray := by simp
  rw [ea]
  exact ⟨.ref _, _, I.lnew (t' := s.toks) (r.append r2) (by rw [List.length_append]; omega), rfl, q _ I.fresh⟩
theorem o_add : OpR X (binaryOp .Add) (rAdd' X.K) := by
  refine OpR.imp (OpR.or op_add (OpR.or op_add_str (OpR.or op_catR op_catA))) fun x y H Q h => ?_
  cases x <;> cases y <;> first
    | exact h.elim
    | exact .inl ⟨_, _, rfl, rfl, h⟩
    | exact .inr (.inl ⟨_, _, rfl, rfl, h.1, h.2⟩)
    | skip
  rcases h with ⟨xs, zs, h1, h2, h3, h4⟩ | h
  · exact .inr (.inr (.inl ⟨_, _, xs, zs, rfl, rfl, h1, h2, h3, h4⟩))
  · exact .inr (.inr (.inr h))
theorem o_sub : OpR X (binaryOp .Sub) rSub' := OpR.imp op_sub fun x y H Q h => by
  cases x <;> cases y <;> first | exact h.elim | exact ⟨_, _, rfl, rfl, h⟩
theorem o_mulS : OpR X (binaryOp .Mult) (fun x y H Q => ∃ z j, x = .str z ∧ y = .int j ∧ MulOk z j ∧ Q (.str (Txt.mul z j)) H) := by
  intro pins s σ H x y v u Q I rx ry h
  obtain ⟨z, j, rfl, rfl, hok, q⟩ := h
  obtain ⟨t, rfl⟩ := rx
  obtain ⟨t2, rfl⟩ := ry
  exact PySem.SB.mul hok fun t' k => ⟨.str _, H, I.tok _, ⟨t', rfl⟩, q⟩
theorem o_mul : OpR X (binaryOp .Mult) rMul' := OpR.imp (OpR.or op_mul o_mulS) fun x y H Q h => by
  cases x <;> cases y <;> first | exact h.elim | exact .inl ⟨_, _, rfl, rfl, h⟩ | exact .inr ⟨_, _, rfl, rfl, h.1, h.2⟩
theorem o_div : OpR X (binaryOp .FloorDiv) rDiv' := OpR.imp op_fdiv fun x y H Q h => by
  cases x <;> cases y <;> first | exact h.elim | exact ⟨_, _, rfl, rfl, h⟩
theorem o_mod : OpR X (binaryOp .Mod) rMod' := OpR.imp op_mod fun x y H Q h => by
  cases x <;> cases y <;> first | exact h.elim | exact ⟨_, _, rfl, rfl, h⟩
theorem o_pow : OpR X (binaryOp .Pow) rPow' := OpR.imp op_pow fun x y H Q h => by
  cases x <;> cases y <;> first | exact h.elim | exact ⟨_, _, rfl, rfl, h⟩
theorem o_lt : OpR X (compareOp .Lt) rLt' := OpR.imp (OpR.or op_lt op_lt_str) fun x y H Q h => by
  cases x <;> cases y <;> first | exact h.elim | exact .inl ⟨_, _, rfl, rfl, h⟩ | exact .inr ⟨_, _, rfl, rfl, h⟩
theorem o_le : OpR X (compareOp .LtE) rLe' := OpR.imp (OpR.or op_le op_le_str) fun x y H Q h => by
  cases x <;> cases y <;> first | exact h.elim | exact .inl ⟨_, _, rfl, rfl, h⟩ | exact .inr ⟨_, _, rfl, rfl, h⟩
theorem o_gt : OpR X (compareOp .Gt) rGt' := OpR.imp op_gt fun x y H Q h => by
  cases x <;> cases y <;> first | exact h.elim | exact ⟨_, _, rfl, rfl, h⟩
theorem o_ge : OpR X (compareOp .GtE) rGe' := OpR.imp op_ge fun x y H Q h => by
  cases x <;> cases y <;> first | exact h.elim | exact ⟨_, _, rfl, rfl, h⟩
end

/-! ### truth, equality, subscripts -/
def tTru' (K : PySem.W.Frag) (te : TE) : TT := fun σ H Q => te σ H fun x H' => ∃ k, TruV K x H' k ∧ Q k H'
def rNeg' : V → Hp → VK → Prop
  | .int i, H, Q => Q (.int (-i)) H
  | _, _, _ => False
def rEq' (K : PySem.W.Frag) : R2 := fun x y H Q => (scal x y = true ∧ Q (.bl (decide (x = y))) H) ∨ rEqD K x y H Q
def rNe' (K : PySem.W.Frag) : R2 := fun x y H Q => (scal x y = true ∧ Q (.bl (!decide (x = y))) H) ∨ rNeD K x y H Q
def rIx' (K : PySem.W.Frag) : R2 := fun x y H Q => rIxL K x y H Q ∨ rIxT K x y H Q ∨ rIxS x y H Q ∨ ∃ a v, x = .ref a ∧ DGet H a y (some v) ∧ Q v H
def rInt' : List V → Hp → VK → Prop
  | [.int i], H, Q => Q (.int i) H
  | _, _, _ => False
def rLen' (K : PySem.W.Frag) : List V → Hp → VK → Prop
  | [.ref p], H, Q => (∃ ys, (SqL K H p ys ∨ SqT K H p ys) ∧ Q (.int ys.length) H)
  | [.str z], H, Q => z.length ≤ sizeLine ∧ Q (.int z.length) H
  | _, _, _ => False
def rIsi' (K : PySem.W.Frag) : List V → Hp → VK → Prop := fun xs H Q => rIsi K xs H Q ∨ rIsiT K xs H Q ∨ rIsiK K xs H Q
section
variable {X : Cx} {a b e : Expr} {te : TE} {pos : Pos}
theorem o_neg : UnR X (unaryOp .USub) rNeg' := fun pins s σ H x v Q I r h => by
  cases x <;> first | exact h.elim | exact un_neg pins s σ H _ v Q I r ⟨_, rfl, h⟩
theorem o_eq (hu : X.A.units + 64 < cLine) : OpR X (compareOp .Eq) (rEq' X.K) := OpR.or op_eq (op_eqD hu)
theorem o_ne (hu : X.A.units + 64 < cLine) : OpR X (compareOp .NotEq) (rNe' X.K) := OpR.or op_ne (op_neD hu)
theorem ix_dict (hu : X.A.units + 64 < cLine) : IxR X (fun x y H Q => ∃ a v, x = .ref a ∧ DGet H a y (some v) ∧ Q v H) := by
  intro value slice pins s σ H x y v u Q I rx ry q hs
  obtain ⟨a, z, rfl, g, q⟩ := q
  obtain rfl : v = Value.ref a := rx
  exact tail_any (dict_typeIs I g) PySem.F.slot_dict_getitem.lookup (d_getItem (by omega) I g ry fun w' s' I' r' => ⟨z, H, I', r', q⟩) hs
theorem o_ix (hu : X.A.units + 64 < cLine) : IxR X (rIx' X.K) := ix_list.or (ix_tup.or (ix_str.or (ix_dict hu)))
theorem c_int : CallR X (.type "int") rInt' := CallR.imp call_int1 fun xs H Q h => by
  match xs, h with
  | [.int i], h => exact .inl ⟨i, rfl, h⟩
theorem c_len : CallR X (.builtin "len") (rLen' X.K) := CallR.imp (CallR.or call_len_seq call_len_str) fun xs H Q h => by
  match xs, h with
  | [.ref p], ⟨ys, h, q⟩ => exact .inl ⟨p, ys, rfl, h, q⟩
  | [.str z], ⟨h, q⟩ => exact .inr ⟨z, rfl, h, q⟩
theorem c_isi : CallR X (.builtin "isinstance") (rIsi' X.K) := CallR.or call_isi (CallR.or call_isiT call_isiK)
end
/-! ### iterables -/
def iAny (K : PySem.W.Frag) (te : TE) : TI := fun σ H R => te σ H fun x H1 => (∃ a, x = .ref a ∧ (∃ xs, SqL K H1 a xs) ∧ R (Itl K a) H1) ∨ (∃ a, x = .ref a ∧ (∃ xs, SqT K H1 a xs) ∧ R (Itt K a) H1) ∨ (∃ z, x = .str z ∧ R (Its z) H1)
section
variable {X : Cx} {tg e : Expr} {te : TE}
/-- by the value that has come -/
theorem pi_any (he : PE X e te) : PI X tg e (iAny X.K te) := by
  refine ⟨fun pins s σ H R I h => ?_⟩
  refine thn (he.run pins s σ H _ I h) fun v s1 ⟨x, H1, I1, r1, q1⟩ => ?_
  rcases q1 with ⟨a, rfl, ⟨xs, hq⟩, q⟩ | ⟨a, rfl, ⟨xs, hq⟩, q⟩ | ⟨z, rfl, q⟩
  · obtain rfl : v = Value.ref a := r1
    obtain ⟨its, _, p, _⟩ := I1.list hq
    exact wpAny_pyIter_list p.isList (pi_one (tk := s1.toks) I1 _ (turn_list a _) ⟨_, Heap.get?_push_size _ rfl, rfl, rfl⟩ q)
  · obtain rfl : v = Value.ref a := r1
    obtain ⟨its, _, p, _⟩ := I1.tuple hq
    exact wpAny_pyIter_tuple (show s1.heap.IsTuple a its.toArray from p) (pi_one (tk := s1.toks) I1 _ (turn_tuple a _) ⟨_, Heap.get?_push_size _ rfl, rfl, rfl⟩ q)
  · obtain ⟨t, rfl⟩ := r1
    by_cases ha : z.cps.all (· < 128) = true
    · exact wpAny_pyIter_ascii ha (pi_one (tk := s1.toks) I1 _ (turn_str _ z t "str_ascii_iterator" (Or.inl rfl)) ⟨_, Heap.get?_push_size _ rfl, rfl, rfl⟩ q)
    · exact wpAny_pyIter_wide (by simpa using ha) (pi_one (tk := s1.toks) I1 _ (turn_str _ z t "str_iterator" (Or.inr rfl)) ⟨_, Heap.get?_push_size _ rfl, rfl, rfl⟩ q)
end

/-! ### steps of a reading -/
section
variable {K : PySem.W.Frag} {σ : L2.St} {H : Hp} {Q : VK} {D : Ends} {ta tb te : TE} {t u : TS} {tt tu : TT} {v x y : V} {i : Nat} {QB : Bool → Hp → Prop} {p : Prop} [Decidable p] {A B : Prop}
theorem e_var (h : σ[i]? = some (some v)) (q : Q v H) : tVar i σ H Q := ⟨v, h, q⟩
theorem e_c (q : Q v H) : tC v σ H Q := q
theorem e_op {r : R2} (q : ta σ H fun x H1 => tb σ H1 fun y H2 => r x y H2 Q) : tOp r ta tb σ H Q := q
theorem e_un {r : V → Hp → VK → Prop} (q : ta σ H fun x H1 => r x H1 Q) : tUn r ta σ H Q := q
theorem e_cb {r : List V → Hp → VK → Prop} {a : TA} (q : a σ H fun vs H1 => r vs H1 Q) : tCB r a σ H Q := q
theorem e_call {sp : Sp} {E : XK} {a : TA} (q : a σ H fun vs H1 => sp vs H1 Q E) : tCallR sp E a σ H Q := q
theorem a_nil {QA : List V → Hp → Prop} (q : QA [] H) : tNil σ H QA := q
theorem a_cons {tr : TA} {QA : List V → Hp → Prop} (q : ta σ H fun x H1 => tr σ H1 fun xs H2 => QA (x :: xs) H2) : tCons ta tr σ H QA := q
theorem e_lst {a : TA} (q : a σ H fun xs H1 => xs.length ≤ sizeLine ∧ ∀ p, H1 p = none → Q (.ref p) (upd H1 p (.lst xs))) : tLst a σ H Q := q
theorem e_tup {a : TA} (q : a σ H fun xs H1 => xs.length ≤ sizeLine ∧ ∀ p, H1 p = none → Q (.ref p) (upd H1 p (.tup xs))) : tTup a σ H Q := q
theorem e_if (q : tt σ H fun c H1 => if c = true then ta σ H1 Q else tb σ H1 Q) : tIf tt ta tb σ H Q := q
theorem e_andT (q : ta σ H fun x H1 => ∃ k, TruV K x H1 k ∧ if k = true then tb σ H1 Q else Q x H1) : tAndT K ta tb σ H Q := q
theorem e_orT (q : ta σ H fun x H1 => ∃ k, TruV K x H1 k ∧ if k = true then Q x H1 else tb σ H1 Q) : tOrT K ta tb σ H Q := q
theorem e_notT (q : ta σ H fun x H1 => ∃ k, TruV K x H1 k ∧ Q (.bl (!k)) H1) : tNotT K ta σ H Q := q
theorem e_chain {r r' : R2} {tc : TE} (q : ta σ H fun x H1 => tb σ H1 fun y H2 => r x y H2 fun z H3 => ∃ k, z = .bl k ∧ (if k = true then tc σ H3 fun w' H4 => r' y w' H4 Q else Q (.bl false) H3)) : tChain r r' ta tb tc σ H Q := q
theorem e_lc {wi : TI} {g : TG} {vs : List Nat} (q : wi σ H fun J H1 => ∀ D, H1 D = none → ∃ W : Nat → Nat → Hp → Prop, (∃ m, W 0 m (upd H1 D (.lst []))) ∧ ∀ i m H, W i m H →
  (J.stop i H ∧ Q (.ref D) H) ∨ (J.go i H ∧ ∃ Nx : Hp → Prop, (∀ H', Nx H' → ∃ m', m' < m ∧ W (i + 1) m' H') ∧ ∀ x H', J.yld i H x H' → g x (wipe σ vs) H' fun σ2 H2 => wipe σ2 vs = wipe σ vs ∧ tt σ2 H2 fun b H3 =>
    if b = true then te σ2 H3 fun y H4 => ∃ acc, H4 D = some (.lst acc) ∧ acc.length < sizeLine ∧ Nx (upd H4 D (.lst (acc ++ [y]))) else Nx H3)) : tLc wi g tt te vs σ H Q := q
theorem t_test (q : te σ H fun x H' => ∃ k, x = .bl k ∧ QB k H') : tTest te σ H QB := q
theorem t_tru (q : te σ H fun x H' => ∃ k, TruV K x H' k ∧ QB k H') : tTru' K te σ H QB := q
theorem t_and (q : tt σ H fun c H1 => if c = true then tu σ H1 QB else QB false H1) : tAnd tt tu σ H QB := q
theorem t_or (q : tt σ H fun c H1 => if c = true then QB true H1 else tu σ H1 QB) : tOr tt tu σ H QB := q
theorem t_not (q : tt σ H fun c H1 => QB (!c) H1) : tNot tt σ H QB := q
theorem t_yes (q : QB true H) : tYes σ H QB := q
theorem s_seq (q : t { D with nx := u D } σ H) : tSeq t u D σ H := q
theorem s_seqA {g : TG} (q : te σ H fun x H1 => g x σ H1 (u D)) : tSeq (tAsg te g) u D σ H := q
theorem s_seqF {wi : TI} {g : TG} (q : tFor wi g t { D with nx := u D } σ H) : tSeq (tFor wi g t) u D σ H := q
theorem s_seqW (q : tWhile tt t { D with nx := u D } σ H) : tSeq (tWhile tt t) u D σ H := q
theorem s_seqD (q : te σ H fun _ H1 => u D σ H1) : tSeq (tDrop te) u D σ H := q
theorem s_seqI {w : TS} (q : tt σ H fun b H1 => if b = true then t { D with nx := u D } σ H1 else w { D with nx := u D } σ H1) : tSeq (tIfS tt t w) u D σ H := q
/-- a statement, then the rest, which is shown once from Mid -/
theorem s_cut (Mid : L2.St → Hp → Prop) (h2 : ∀ σ' H', Mid σ' H' → u D σ' H') (h1 : ∀ N : L2.St → Hp → Prop, (∀ σ' H', Mid σ' H' → N σ' H') → t { D with nx := N } σ H) : tSeq t u D σ H := h1 _ h2
theorem s_asg {g : TG} (q : te σ H fun x H1 => g x σ H1 D.nx) : tAsg te g D σ H := q
theorem s_drop (q : te σ H fun _ H1 => D.nx σ H1) : tDrop te D σ H := q
theorem s_ret (q : te σ H D.rt) : tRet te D σ H := q
theorem s_if (q : tt σ H fun b H1 => if b = true then t D σ H1 else u D σ H1) : tIfS tt t u D σ H := q
theorem s_next (q : D.nx σ H) : tNext D σ H := q
theorem s_brk (q : D.bk σ H) : tBreak D σ H := q
theorem s_cont (q : D.ct σ H) : tCont D σ H := q
theorem g_name {QS : L2.St → Hp → Prop} (q : QS (σ.set i (some v)) H) : gName i v σ H QS := q
-- leaves
theorem l_bl {R : Bool → Prop} {b : Bool} (q : R b) : ∃ k, V.bl b = V.bl k ∧ R k := ⟨b, rfl, q⟩
theorem l_tbl {R : Bool → Prop} {b : Bool} (q : R b) : ∃ k, TruV K (.bl b) H k ∧ R k := ⟨b, rfl, q⟩
theorem l_tint {R : Bool → Prop} {n : Int} (q : R (n != 0)) : ∃ k, TruV K (.int n) H k ∧ R k := ⟨_, rfl, q⟩
theorem l_tnon {R : Bool → Prop} (q : R false) : ∃ k, TruV K .non H k ∧ R k := ⟨_, rfl, q⟩
theorem l_tstr {R : Bool → Prop} {z : Str} (h : z.length ≤ sizeLine) (q : R ((z.length : Int) != 0)) : ∃ k, TruV K (.str z) H k ∧ R k := ⟨_, ⟨h, rfl⟩, q⟩
theorem l_tlst {R : Bool → Prop} {a : Addr} {xs : List V} (h : SqL K H a xs) (q : R (!xs.isEmpty)) : ∃ k, TruV K (.ref a) H k ∧ R k := ⟨_, .inl ⟨xs, h, rfl⟩, q⟩
theorem l_ttup {R : Bool → Prop} {a : Addr} {xs : List V} (h : SqT K H a xs) (q : R (!xs.isEmpty)) : ∃ k, TruV K (.ref a) H k ∧ R k := ⟨_, .inr (.inl ⟨xs, h, rfl⟩), q⟩
theorem if_dec (h1 : p → A) (h2 : ¬ p → B) : if decide p = true then A else B := by
  by_cases h : p
  · rw [if_pos (decide_eq_true h)]; exact h1 h
  · rw [if_neg (by simpa using h)]; exact h2 h
theorem if_ndec (h1 : ¬ p → A) (h2 : p → B) : if (!decide p) = true then A else B := by
  by_cases h : p
  · rw [if_neg (by simpa using h)]; exact h2 h
  · rw [if_pos (by simpa using h)]; exact h1 h
theorem if_b {b : Bool} (h1 : b = true → A) (h2 : b = false → B) : if b = true then A else B := by
  cases b with
  | true => rw [if_pos rfl]; exact h1 rfl
  | false => rw [if_neg (by decide)]; exact h2 rfl
theorem if_tt (h : A) : if true = true then A else B := by rw [if_pos rfl]; exact h
theorem if_ff (h : B) : if false = true then A else B := by rw [if_neg (by decide)]; exact h
theorem if_not {b : Bool} (h : if b = true then B else A) : if (!b) = true then A else B := by
  cases b
  · exact if_tt (by rw [if_neg (by decide)] at h; exact h)
  · exact if_ff (by rw [if_pos rfl] at h; exact h)
-- operators
theorem r_add {n m : Int} (q : Q (.int (n + m)) H) : rAdd' K (.int n) (.int m) H Q := q
theorem r_adds {n m : Str} (h : n.length + m.length ≤ sizeLine) (q : Q (.str (n ++ m)) H) : rAdd' K (.str n) (.str m) H Q := ⟨h, q⟩
theorem r_sub {n m : Int} (q : Q (.int (n - m)) H) : rSub' (.int n) (.int m) H Q := q
theorem r_mul {n m : Int} (h : CMul n m) (q : Q (.int (n * m)) H) : rMul' (.int n) (.int m) H Q := ⟨h, q⟩
theorem r_div {n m : Int} (h : 0 < m ∧ m < 1073741824) (q : Q (.int (n / m)) H) : rDiv' (.int n) (.int m) H Q := ⟨h, q⟩
theorem r_mod {n m : Int} (h : 0 < m) (q : Q (.int (n % m)) H) : rMod' (.int n) (.int m) H Q := ⟨h, q⟩
theorem r_lt {n m : Int} (q : Q (.bl (decide (n < m))) H) : rLt' (.int n) (.int m) H Q := q
theorem r_le {n m : Int} (q : Q (.bl (decide (n ≤ m))) H) : rLe' (.int n) (.int m) H Q := q
theorem r_gt {n m : Int} (q : Q (.bl (decide (m < n))) H) : rGt' (.int n) (.int m) H Q := q
theorem r_ge {n m : Int} (q : Q (.bl (decide (m ≤ n))) H) : rGe' (.int n) (.int m) H Q := q
theorem dec_ii {n m : Int} : decide (V.int n = V.int m) = decide (n = m) := by rw [Bool.eq_iff_iff]; simp
theorem dec_ss {n m : Str} : decide (V.str n = V.str m) = decide (n = m) := by rw [Bool.eq_iff_iff]; simp
theorem dec_bb {n m : Bool} : decide (V.bl n = V.bl m) = decide (n = m) := by rw [Bool.eq_iff_iff]; simp
theorem r_eqi {n m : Int} (q : Q (.bl (decide (n = m))) H) : rEq' K (.int n) (.int m) H Q := .inl ⟨rfl, by rw [dec_ii]; exact q⟩
theorem r_nei {n m : Int} (q : Q (.bl (!decide (n = m))) H) : rNe' K (.int n) (.int m) H Q := .inl ⟨rfl, by rw [dec_ii]; exact q⟩
theorem r_eqs {n m : Str} (q : Q (.bl (decide (n = m))) H) : rEq' K (.str n) (.str m) H Q := .inl ⟨rfl, by rw [dec_ss]; exact q⟩
theorem r_nes {n m : Str} (q : Q (.bl (!decide (n = m))) H) : rNe' K (.str n) (.str m) H Q := .inl ⟨rfl, by rw [dec_ss]; exact q⟩
theorem r_eqb {n m : Bool} (q : Q (.bl (decide (n = m))) H) : rEq' K (.bl n) (.bl m) H Q := .inl ⟨rfl, by rw [dec_bb]; exact q⟩
theorem r_neb {n m : Bool} (q : Q (.bl (!decide (n = m))) H) : rNe' K (.bl n) (.bl m) H Q := .inl ⟨rfl, by rw [dec_bb]; exact q⟩
theorem r_int {n : Int} (q : Q (.int n) H) : rInt' [.int n] H Q := q
theorem r_neg {n : Int} (q : Q (.int (-n)) H) : rNeg' (.int n) H Q := q
theorem r_len {a : Addr} {ys : List V} (h : SqL K H a ys) (q : Q (.int ys.length) H) : rLen' K [.ref a] H Q := ⟨ys, .inl h, q⟩
theorem r_lenT {a : Addr} {ys : List V} (h : SqT K H a ys) (q : Q (.int ys.length) H) : rLen' K [.ref a] H Q := ⟨ys, .inr h, q⟩
theorem r_lens {z : Str} (h : z.length ≤ sizeLine) (q : Q (.int z.length) H) : rLen' K [.str z] H Q := ⟨h, q⟩
theorem r_ixL {a : Addr} {xs : List V} {n : Int} (h : SqL K H a xs) (e : atI xs n = some v) (q : Q v H) : rIx' K (.ref a) (.int n) H Q := .inl ⟨a, xs, n, v, rfl, rfl, h, e, q⟩
theorem r_ixT {a : Addr} {xs : List V} {n : Int} (h : SqT K H a xs) (e : atI xs n = some v) (q : Q v H) : rIx' K (.ref a) (.int n) H Q := .inr (.inl ⟨a, xs, n, v, rfl, rfl, h, e, q⟩)
theorem r_ixS {z : Str} {n : Int} {c : Nat} (h : z.length ≤ sizeLine) (e : atI z.cps.toList n = some c) (q : Q (.str ⟨#[c]⟩) H) : rIx' K (.str z) (.int n) H Q := .inr (.inr (.inl ⟨z, n, c, rfl, rfl, h, e, q⟩))
theorem r_ixD {a : Addr} (h : DGet H a y (some v)) (q : Q v H) : rIx' K (.ref a) y H Q := .inr (.inr (.inr ⟨a, v, rfl, h, q⟩))
theorem r_isi {t T : String} {b : Bool} (ty : TyX K H x (.type t)) (h : kitB t T = some b) (q : Q (.bl b) H) : rIsi' K [x, .ty T] H Q := .inl ⟨x, .ty T, _, _, b, rfl, .ty T, ty, kit_ty h, q⟩
theorem kb_ii : kitB "int" "int" = some true := by decide +kernel
theorem kb_ib : kitB "int" "bool" = some false := by decide +kernel
theorem kb_is : kitB "int" "str" = some false := by decide +kernel
theorem kb_bi : kitB "bool" "int" = some true := by decide +kernel
theorem kb_bb : kitB "bool" "bool" = some true := by decide +kernel
theorem kb_bs : kitB "bool" "str" = some false := by decide +kernel
theorem kb_si : kitB "str" "int" = some false := by decide +kernel
theorem kb_sb : kitB "str" "bool" = some false := by decide +kernel
theorem kb_ss : kitB "str" "str" = some true := by decide +kernel
theorem kb_ns : kitB "NoneType" "str" = some false := by decide +kernel
theorem kb_ni : kitB "NoneType" "int" = some false := by decide +kernel
theorem kb_ls : kitB "list" "str" = some false := by decide +kernel
theorem kb_ts : kitB "tuple" "str" = some false := by decide +kernel
theorem r_isi_ii {n : Int} (q : Q (.bl true) H) : rIsi' K [.int n, .ty "int"] H Q := r_isi (.base (.int _)) kb_ii q
theorem r_isi_ib {n : Int} (q : Q (.bl false) H) : rIsi' K [.int n, .ty "bool"] H Q := r_isi (.base (.int _)) kb_ib q
theorem r_isi_is {n : Int} (q : Q (.bl false) H) : rIsi' K [.int n, .ty "str"] H Q := r_isi (.base (.int _)) kb_is q
theorem r_isi_bi {n : Bool} (q : Q (.bl true) H) : rIsi' K [.bl n, .ty "int"] H Q := r_isi (.base (.bl _)) kb_bi q
theorem r_isi_bb {n : Bool} (q : Q (.bl true) H) : rIsi' K [.bl n, .ty "bool"] H Q := r_isi (.base (.bl _)) kb_bb q
theorem r_isi_bs {n : Bool} (q : Q (.bl false) H) : rIsi' K [.bl n, .ty "str"] H Q := r_isi (.base (.bl _)) kb_bs q
theorem r_isi_si {n : Str} (q : Q (.bl false) H) : rIsi' K [.str n, .ty "int"] H Q := r_isi (.base (.str _)) kb_si q
theorem r_isi_sb {n : Str} (q : Q (.bl false) H) : rIsi' K [.str n, .ty "bool"] H Q := r_isi (.base (.str _)) kb_sb q
theorem r_isi_ss {n : Str} (q : Q (.bl true) H) : rIsi' K [.str n, .ty "str"] H Q := r_isi (.base (.str _)) kb_ss q
theorem r_isi_ns (q : Q (.bl false) H) : rIsi' K [.non, .ty "str"] H Q := r_isi (.base .non) kb_ns q
theorem r_isi_ni (q : Q (.bl false) H) : rIsi' K [.non, .ty "int"] H Q := r_isi (.base .non) kb_ni q
-- ranges
theorem i_rng1 {a : TA} {R : It → Hp → Prop} (q : a σ H fun vs H1 => ∃ j : Int, vs = [.int j] ∧ -(2 ^ 62) ≤ j ∧ j < 2 ^ 62 ∧ R (Itr 0 j.toNat) H1) : iRng1 a σ H R := q
theorem i_rng2 {a : TA} {R : It → Hp → Prop} (q : a σ H fun vs H1 => ∃ i j : Int, vs = [.int i, .int j] ∧ (-(2 ^ 62) ≤ i ∧ i < 2 ^ 62 ∧ -(2 ^ 62) ≤ j ∧ j < 2 ^ 62) ∧ R (Itr i (j - i).toNat) H1) : iRng2 a σ H R := q
theorem i_any {R : It → Hp → Prop} (q : te σ H fun x H1 => (∃ a, x = .ref a ∧ (∃ xs, SqL K H1 a xs) ∧ R (Itl K a) H1) ∨ (∃ a, x = .ref a ∧ (∃ xs, SqT K H1 a xs) ∧ R (Itt K a) H1) ∨ (∃ z, x = .str z ∧ R (Its z) H1)) : iAny K te σ H R := q
theorem s_for {wi : TI} {g : TG} (q : wi σ H fun J H1 => ∃ W : Nat → Nat → L2.St → Hp → Prop, (∃ m, W 0 m σ H1) ∧ ∀ i m σ H, W i m σ H →
  (J.stop i H ∧ D.nx σ H) ∨ (J.go i H ∧ ∃ N : L2.St → Hp → Prop, (∀ σ' H', N σ' H' → ∃ m', m' < m ∧ W (i + 1) m' σ' H') ∧ ∀ x H', J.yld i H x H' → g x σ H' fun σ2 H2 => t { D with nx := N, ct := N, bk := D.nx } σ2 H2)) : tFor wi g t D σ H := q
theorem l_rng1 {n : Int} {R : It → Hp → Prop} (h : -1000000000 ≤ n ∧ n ≤ 1000000000) (q : R (Itr 0 n.toNat) H) : ∃ j : Int, [V.int n] = [V.int j] ∧ -(2 ^ 62) ≤ j ∧ j < 2 ^ 62 ∧ R (Itr 0 j.toNat) H := ⟨n, rfl, by omega, by omega, q⟩
theorem l_rng2 {n m : Int} {R : It → Hp → Prop} (h : (-1000000000 ≤ n ∧ n ≤ 1000000000) ∧ -1000000000 ≤ m ∧ m ≤ 1000000000) (q : R (Itr n (m - n).toNat) H) :
    ∃ i j : Int, [V.int n, V.int m] = [V.int i, V.int j] ∧ (-(2 ^ 62) ≤ i ∧ i < 2 ^ 62 ∧ -(2 ^ 62) ≤ j ∧ j < 2 ^ 62) ∧ R (Itr i (j - i).toNat) H := ⟨n, m, rfl, by omega, q⟩
-- methods
theorem e_app {ao ax : TE} {QV : VK} (q : ao σ H fun x H1 => (∃ a, x = .ref a ∧ ∃ xs, H1 a = some (.lst xs)) ∧ ax σ H1 fun y H2 => ∃ a xs, x = .ref a ∧ H2 a = some (.lst xs) ∧ xs.length < sizeLine ∧ QV .non (upd H2 a (.lst (xs ++ [y])))) (mono : ∀ σ H (Q Q' : VK), (∀ v H', Q v H' → Q' v H') → ao σ H Q → ao σ H Q') (mono2 : ∀ σ H (Q Q' : VK), (∀ v H', Q v H' → Q' v H') → ax σ H Q → ax σ H Q') :
    tBM K "list" rAppend ao (tCons ax tNil) σ H QV := by
  refine mono σ H _ _ (fun x H1 h => ?_) q
  obtain ⟨⟨a, rfl, xs, hx⟩, h⟩ := h
  refine ⟨.inl ⟨rfl, xs, SqL.of hx⟩, ?_⟩
  refine mono2 σ H1 _ _ (fun y H2 h => ?_) h
  obtain ⟨b, ys, e, h1, h2, h3⟩ := h
  exact ⟨b, ys, y, e, rfl, h1, h2, h3⟩
end
/-- the tactic's reach: a reading is run until a fact is asked -/
theorem bm_step {K : PySem.W.Frag} {T : String} {r : V → List V → Hp → VK → Prop} {to : TE} {t : TA} {σ : L2.St} {H : Hp} {Q : VK} (q : to σ H fun x H1 => tyV K T x H1 ∧ t σ H1 fun xs H2 => r x xs H2 Q) : tBM K T r to t σ H Q := q
/-- x.append(y) of a list that stands at a -/
theorem r_app {K : PySem.W.Frag} {σ : L2.St} {H : Hp} {Q : VK} {ax : TE} {a : Addr} {xs : List V} (h : H a = some (.lst xs)) (q : ax σ H fun y H2 => rAppend (.ref a) [y] H2 Q) :
    tyV K "list" (.ref a) H ∧ (tCons ax tNil) σ H fun vs H2 => rAppend (.ref a) vs H2 Q := ⟨.inl ⟨rfl, xs, SqL.of h⟩, q⟩
theorem r_app2 {H : Hp} {Q : VK} {a : Addr} {xs : List V} {y : V} (h : H a = some (.lst xs)) (hn : xs.length < sizeLine) (q : Q .non (upd H a (.lst (xs ++ [y])))) : rAppend (.ref a) [y] H Q := ⟨a, xs, y, rfl, rfl, h, hn, q⟩

/-! ### a ledger of objects -/
theorem nd_ix {α : Type} {xs : List α} (h : xs.Nodup) {i j : Nat} {x : α} (h1 : xs[i]? = some x) (h2 : xs[j]? = some x) : i = j := by
  have a := (List.getElem?_eq_some_iff.mp h1)
  have b := (List.getElem?_eq_some_iff.mp h2)
  obtain ⟨a1, a2⟩ := a
  obtain ⟨b1, b2⟩ := b
  exact (List.getElem_inj h).mp (a2.trans b2.symm)
/-- H0 the heap at the entry; M what may change of it; L the objects that are known by now -/
structure Led (H0 : Hp) (M : List Addr) (L : List (Addr × HO)) (H : Hp) : Prop where
  keep : ∀ a o, H0 a = some o → a ∉ M → H a = some o
  has : ∀ e ∈ L, H e.1 = some e.2
  nd : (L.map Prod.fst).Nodup
  new : ∀ e ∈ L, e.1 ∈ M ∨ H0 e.1 = none
section
variable {H0 H H' : Hp} {M : List Addr} {L : List (Addr × HO)} {p : Addr} {o u : HO} {K : PySem.W.Frag} {Q : VK}
theorem Led.start (H0 : Hp) : Led H0 [] [] H0 := ⟨fun _ _ h _ => h, fun _ h => (by cases h), List.nodup_nil, fun _ h => (by cases h)⟩
/-- one object of the entry's may change -/
theorem Led.start1 (h : H0 p = some o) : Led H0 [p] [(p, o)] H0 :=
  ⟨fun _ _ h _ => h, fun e he => by rw [List.mem_singleton.mp he]; exact h, by simp, fun e he => by rw [List.mem_singleton.mp he]; exact .inl (List.mem_singleton.mpr rfl)⟩
theorem Led.at_ (l : Led H0 M L H) (i : Nat) (h : L[i]? = some (p, o) := by rfl) : H p = some o := l.has (p, o) (List.mem_of_getElem? h)
theorem Led.alloc (l : Led H0 M L H) (h : H p = none) (hM : ∀ a ∈ M, ∃ u, H a = some u := by intro a h; cases h) (o : HO) : Led H0 M ((p, o) :: L) (upd H p o) := by
  have h0 : p ∉ M → H0 p = none := fun hp => by
    cases q : H0 p with
    | none => rfl
    | some u => rw [l.keep p u q hp] at h; cases h
  have hpM : p ∉ M := fun hp => by
    obtain ⟨u, e⟩ := hM p hp
    rw [e] at h; cases h
  refine ⟨fun a u ha hm => ?_, fun e he => ?_, ?_, fun e he => ?_⟩
  · rw [upd_ne (ne_of_none (l.keep a u ha hm) h)]; exact l.keep a u ha hm
  · rcases List.mem_cons.mp he with rfl | he
    · exact upd_same
    · rw [upd_ne (ne_of_none (l.has e he) h)]; exact l.has e he
  · refine List.nodup_cons.mpr ⟨fun hm => ?_, l.nd⟩
    obtain ⟨e, he, e1⟩ := List.mem_map.mp hm
    have := l.has e he
    rw [e1] at this
    rw [this] at h; cases h
  · rcases List.mem_cons.mp he with rfl | he
    · exact .inr (h0 hpM)
    · exact l.new e he
theorem Led.put (l : Led H0 M L H) (i : Nat) (h : L[i]? = some (p, o) := by rfl) (u : HO) : Led H0 M (L.set i (p, u)) (upd H p u) := by
  have hi : i < L.length := (List.getElem?_eq_some_iff.mp h).1
  have hmem : (p, o) ∈ L := List.mem_of_getElem? h
  have hmap : (L.set i (p, u)).map Prod.fst = L.map Prod.fst := by
    rw [List.map_set]
    refine List.ext_getElem? fun j => ?_
    by_cases hj : i = j
    · subst hj
      rw [List.getElem?_set_self (by simpa using hi), List.getElem?_map, h]
      rfl
    · rw [List.getElem?_set_ne hj]
  have hpn : p ∈ M ∨ H0 p = none := l.new _ hmem
  refine ⟨fun a w ha hm => ?_, fun e he => ?_, by rw [hmap]; exact l.nd, fun e he => ?_⟩
  · have hne : a ≠ p := by
      rintro rfl
      rcases hpn with z | z
      · exact hm z
      · rw [z] at ha; cases ha
    rw [upd_ne hne]; exact l.keep a w ha hm
  · obtain ⟨j, hj, e1⟩ := List.mem_iff_getElem.mp he
    have hj' : j < L.length := by simpa using hj
    by_cases e2 : i = j
    · subst e2
      rw [List.getElem_set_self] at e1
      subst e1
      exact upd_same
    · rw [List.getElem_set_ne e2] at e1
      have hin : e ∈ L := by rw [← e1]; exact List.getElem_mem _
      have hne : e.1 ≠ p := fun z => by
        have a1 : (L.map Prod.fst)[j]? = some p := by rw [List.getElem?_map, List.getElem?_eq_getElem hj', e1, ← z]; rfl
        have a2 : (L.map Prod.fst)[i]? = some p := by rw [List.getElem?_map, h]; rfl
        exact e2 (nd_ix l.nd a2 a1)
      rw [upd_ne hne]; exact l.has e hin
  · rcases List.mem_or_eq_of_mem_set he with he | rfl
    · exact l.new e he
    · exact hpn
/-- behind a call that leaves all as it was -/
theorem Led.same (l : Led H0 M L H) (s : Same H H') : Led H0 M L H' := ⟨fun a o h hm => s a o (l.keep a o h hm), fun e he => s _ _ (l.has e he), l.nd, l.new⟩
theorem Led.toSame (l : Led H0 [] L H) : Same H0 H := fun a o h => l.keep a o h (by simp)
/-- some objects forgotten -/
theorem Led.sub {L' : List (Addr × HO)} (l : Led H0 M L H) (h : List.Sublist L' L := by repeat (first | exact List.Sublist.refl _ | exact List.nil_sublist _ | apply List.Sublist.cons₂ | apply List.Sublist.cons)) : Led H0 M L' H :=
  ⟨l.keep, fun e he => l.has e (h.subset he), (List.Sublist.map Prod.fst h).nodup l.nd, fun e he => l.new e (h.subset he)⟩
theorem Led.seqL {a : Addr} {xs : List V} (l : Led H0 [] L H) (h : SqL K H0 a xs) : SqL K H a xs := l.toSame.seq h
theorem l_lst {xs : List V} (l : Led H0 [] L H) (hn : xs.length ≤ sizeLine) (q : ∀ p H', Led H0 [] ((p, .lst xs) :: L) H' → Q (.ref p) H') : xs.length ≤ sizeLine ∧ ∀ p, H p = none → Q (.ref p) (upd H p (.lst xs)) :=
  ⟨hn, fun p hp => q p _ (l.alloc hp (o := .lst xs))⟩
theorem l_tup {xs : List V} (l : Led H0 [] L H) (hn : xs.length ≤ sizeLine) (q : ∀ p H', Led H0 [] ((p, .tup xs) :: L) H' → Q (.ref p) H') : xs.length ≤ sizeLine ∧ ∀ p, H p = none → Q (.ref p) (upd H p (.tup xs)) :=
  ⟨hn, fun p hp => q p _ (l.alloc hp (o := .tup xs))⟩
theorem small {n : Nat} (h : n ≤ 10000000) : n ≤ sizeLine := Nat.le_trans h (by decide)
theorem smallL {n : Nat} (h : n < 10000000) : n < sizeLine := Nat.lt_of_lt_of_le h (by decide)
end

/-! ### loops over ranges -/
section
variable {nx0 : L2.St → Hp → Prop} {rt0 : VK} {σ : L2.St} {H : Hp} {g : TG} {t : TS}
theorem f_rng1 {m : Int} (n : Nat) (e : m = (n : Int)) (hn : n ≤ 1000000000) (Pv : Nat → L2.St → Hp → Prop) (h0 : Pv 0 σ H)
    (hs : ∀ (i : Nat) σ H, i < n → Pv i σ H → g (.int (i : Int)) σ H fun σ2 H2 => t { nx := Pv (i + 1), rt := rt0, bk := nx0, ct := Pv (i + 1) } σ2 H2) (hd : ∀ σ H, Pv n σ H → nx0 σ H) :
    ∃ j : Int, [V.int m] = [V.int j] ∧ -(2 ^ 62) ≤ j ∧ j < 2 ^ 62 ∧ ∃ W : Nat → Nat → L2.St → Hp → Prop, (∃ m, W 0 m σ H) ∧ ∀ i m σ H, W i m σ H →
      ((Itr 0 j.toNat).stop i H ∧ nx0 σ H) ∨ ((Itr 0 j.toNat).go i H ∧ ∃ N : L2.St → Hp → Prop, (∀ σ' H', N σ' H' → ∃ m', m' < m ∧ W (i + 1) m' σ' H') ∧ ∀ x H', (Itr 0 j.toNat).yld i H x H' → g x σ H' fun σ2 H2 => t { nx := N, rt := rt0, bk := nx0, ct := N } σ2 H2) := by
  subst e
  refine ⟨n, rfl, by omega, by omega, ?_⟩
  rw [Int.toNat_natCast]
  refine for_range (lo := 0) (n := n) (D := { nx := nx0, rt := rt0 }) Pv h0 (fun i σ H hi p => ?_) hd
  rw [Int.zero_add]
  exact hs i σ H hi p
theorem f_rng2 {a b : Int} (n : Nat) (e : b - a = (n : Int)) (h1 : -1000000000 ≤ a ∧ b ≤ 1000000000) (Pv : Nat → L2.St → Hp → Prop) (h0 : Pv 0 σ H)
    (hs : ∀ (i : Nat) σ H, i < n → Pv i σ H → g (.int (a + (i : Int))) σ H fun σ2 H2 => t { nx := Pv (i + 1), rt := rt0, bk := nx0, ct := Pv (i + 1) } σ2 H2) (hd : ∀ σ H, Pv n σ H → nx0 σ H) :
    ∃ i j : Int, [V.int a, V.int b] = [V.int i, V.int j] ∧ (-(2 ^ 62) ≤ i ∧ i < 2 ^ 62 ∧ -(2 ^ 62) ≤ j ∧ j < 2 ^ 62) ∧ ∃ W : Nat → Nat → L2.St → Hp → Prop, (∃ m, W 0 m σ H) ∧ ∀ k m σ H, W k m σ H →
      ((Itr i (j - i).toNat).stop k H ∧ nx0 σ H) ∨ ((Itr i (j - i).toNat).go k H ∧ ∃ N : L2.St → Hp → Prop, (∀ σ' H', N σ' H' → ∃ m', m' < m ∧ W (k + 1) m' σ' H') ∧ ∀ x H', (Itr i (j - i).toNat).yld k H x H' → g x σ H' fun σ2 H2 => t { nx := N, rt := rt0, bk := nx0, ct := N } σ2 H2) := by
  refine ⟨a, b, rfl, by omega, ?_⟩
  rw [e, Int.toNat_natCast]
  exact for_range (lo := a) (n := n) (D := { nx := nx0, rt := rt0 }) Pv h0 hs hd
/-- [.. for x in range(..)], one list made -/
theorem c_rng1 {m : Int} {tt : TT} {te : TE} {vs : List Nat} {Q : Addr → Hp → Prop} (n : Nat) (e : m = (n : Int)) (hn : n ≤ 1000000000) (Pv : Addr → Nat → Hp → Prop) (h0 : ∀ D, H D = none → Pv D 0 (upd H D (.lst [])))
    (hs : ∀ D (i : Nat) H, i < n → Pv D i H → g (.int (i : Int)) (wipe σ vs) H fun σ2 H2 => wipe σ2 vs = wipe σ vs ∧ tt σ2 H2 fun b H3 =>
      if b = true then te σ2 H3 fun y H4 => ∃ acc, H4 D = some (.lst acc) ∧ acc.length < sizeLine ∧ Pv D (i + 1) (upd H4 D (.lst (acc ++ [y]))) else Pv D (i + 1) H3) (hd : ∀ D H, Pv D n H → Q D H) :
    ∃ j : Int, [V.int m] = [V.int j] ∧ -(2 ^ 62) ≤ j ∧ j < 2 ^ 62 ∧ ∀ D, H D = none → ∃ W : Nat → Nat → Hp → Prop, (∃ m, W 0 m (upd H D (.lst []))) ∧ ∀ i m H, W i m H →
      ((Itr 0 j.toNat).stop i H ∧ Q D H) ∨ ((Itr 0 j.toNat).go i H ∧ ∃ Nx : Hp → Prop, (∀ H', Nx H' → ∃ m', m' < m ∧ W (i + 1) m' H') ∧ ∀ x H', (Itr 0 j.toNat).yld i H x H' → g x (wipe σ vs) H' fun σ2 H2 => wipe σ2 vs = wipe σ vs ∧ tt σ2 H2 fun b H3 =>
        if b = true then te σ2 H3 fun y H4 => ∃ acc, H4 D = some (.lst acc) ∧ acc.length < sizeLine ∧ Nx (upd H4 D (.lst (acc ++ [y]))) else Nx H3) := by
  subst e
  refine ⟨n, rfl, by omega, by omega, fun D hD => ?_⟩
  rw [Int.toNat_natCast]
  refine lc_range (lo := 0) (n := n) (Pv D) (h0 D hD) (fun i H hi p => ?_) (hd D)
  rw [Int.zero_add]
  exact hs D i H hi p
end

/-! ### loops over lists -/
section
variable {nx0 : L2.St → Hp → Prop} {rt0 : VK} {σ : L2.St} {H : Hp} {g : TG} {t : TS} {K : PySem.W.Frag}
theorem f_list {a : Addr} (xs : List V) (h : SqL K H a xs) (Pv : Nat → L2.St → Hp → Prop) (h0 : Pv 0 σ H) (hl : ∀ i σ H, i ≤ xs.length → Pv i σ H → SqL K H a xs)
    (hs : ∀ i x σ H, xs[i]? = some x → Pv i σ H → g x σ H fun σ2 H2 => t { nx := Pv (i + 1), rt := rt0, bk := nx0, ct := Pv (i + 1) } σ2 H2) (hd : ∀ σ H, Pv xs.length σ H → nx0 σ H) {Z : Prop} :
    (∃ b, V.ref a = V.ref b ∧ (∃ xs, SqL K H b xs) ∧ ∃ W : Nat → Nat → L2.St → Hp → Prop, (∃ m, W 0 m σ H) ∧ ∀ k m σ H, W k m σ H →
      ((Itl K b).stop k H ∧ nx0 σ H) ∨ ((Itl K b).go k H ∧ ∃ N : L2.St → Hp → Prop, (∀ σ' H', N σ' H' → ∃ m', m' < m ∧ W (k + 1) m' σ' H') ∧ ∀ x H', (Itl K b).yld k H x H' → g x σ H' fun σ2 H2 => t { nx := N, rt := rt0, bk := nx0, ct := N } σ2 H2)) ∨ Z :=
  .inl ⟨a, rfl, ⟨xs, h⟩, for_list (D := { nx := nx0, rt := rt0 }) Pv h0 hl hs hd⟩
theorem f_tup {a : Addr} (xs : List V) (h : SqT K H a xs) (Pv : Nat → L2.St → Hp → Prop) (h0 : Pv 0 σ H) (hl : ∀ i σ H, i ≤ xs.length → Pv i σ H → SqT K H a xs)
    (hs : ∀ i x σ H, xs[i]? = some x → Pv i σ H → g x σ H fun σ2 H2 => t { nx := Pv (i + 1), rt := rt0, bk := nx0, ct := Pv (i + 1) } σ2 H2) (hd : ∀ σ H, Pv xs.length σ H → nx0 σ H) {Y Z : Prop} :
    Y ∨ (∃ b, V.ref a = V.ref b ∧ (∃ xs, SqT K H b xs) ∧ ∃ W : Nat → Nat → L2.St → Hp → Prop, (∃ m, W 0 m σ H) ∧ ∀ k m σ H, W k m σ H →
      ((Itt K b).stop k H ∧ nx0 σ H) ∨ ((Itt K b).go k H ∧ ∃ N : L2.St → Hp → Prop, (∀ σ' H', N σ' H' → ∃ m', m' < m ∧ W (k + 1) m' σ' H') ∧ ∀ x H', (Itt K b).yld k H x H' → g x σ H' fun σ2 H2 => t { nx := N, rt := rt0, bk := nx0, ct := N } σ2 H2)) ∨ Z :=
  .inr (.inl ⟨a, rfl, ⟨xs, h⟩, for_tup (D := { nx := nx0, rt := rt0 }) Pv h0 hl hs hd⟩)
theorem f_str {z : Str} (Pv : Nat → L2.St → Hp → Prop) (h0 : Pv 0 σ H)
    (hs : ∀ i c σ H, z.cps[i]? = some c → Pv i σ H → g (.str ⟨#[c]⟩) σ H fun σ2 H2 => t { nx := Pv (i + 1), rt := rt0, bk := nx0, ct := Pv (i + 1) } σ2 H2) (hd : ∀ σ H, Pv z.cps.size σ H → nx0 σ H) {X Y : Prop} :
    X ∨ Y ∨ (∃ y, V.str z = V.str y ∧ ∃ W : Nat → Nat → L2.St → Hp → Prop, (∃ m, W 0 m σ H) ∧ ∀ k m σ H, W k m σ H →
      ((Its y).stop k H ∧ nx0 σ H) ∨ ((Its y).go k H ∧ ∃ N : L2.St → Hp → Prop, (∀ σ' H', N σ' H' → ∃ m', m' < m ∧ W (k + 1) m' σ' H') ∧ ∀ x H', (Its y).yld k H x H' → g x σ H' fun σ2 H2 => t { nx := N, rt := rt0, bk := nx0, ct := N } σ2 H2)) := by
  refine .inr (.inr ⟨z, rfl, for_it (D := { nx := nx0, rt := rt0 }) walk_str Pv h0 (fun _ _ _ _ _ => trivial) ?_ hd⟩)
  rintro i x σ H H' hi p ⟨rfl, c, hc, rfl⟩
  exact hs i c σ H' hc p
end
theorem sq_get {ns : List Int} {i : Nat} {x : V} (h : (ns.map V.int)[i]? = some x) : ∃ n, ns[i]? = some n ∧ x = .int n := by
  rw [List.getElem?_map] at h
  cases e : ns[i]? with
  | none => rw [e] at h; cases h
  | some n => rw [e] at h; exact ⟨n, rfl, (Option.some.inj h).symm⟩
theorem at_nat {xs : List V} {n : Int} {j : Nat} {v : V} (e : n = (j : Int)) (h : xs[j]? = some v) : atI xs n = some v := by
  subst e
  exact atI_nat h

/-! ### more words -/
def rIs' : R2 := fun x y H Q => (y = .non ∧ Q (.bl (decide (x = .non))) H) ∨ ∃ a b, x = .bl a ∧ y = .bl b ∧ Q (.bl (decide (a = b))) H
def rIsNot' : R2 := fun x y H Q => (y = .non ∧ Q (.bl (!decide (x = .non))) H) ∨ ∃ a b, x = .bl a ∧ y = .bl b ∧ Q (.bl (!decide (a = b))) H
/-- x in d, d a dict -/
def rInK : R2 := fun x y H Q => ∃ a o, y = .ref a ∧ DGet H a x o ∧ Q (.bl o.isSome) H
def rNotInK : R2 := fun x y H Q => ∃ a o, y = .ref a ∧ DGet H a x o ∧ Q (.bl (!o.isSome)) H
/-- in, not in over data of a list or a tuple -/
def rInA (K : PySem.W.Frag) : R2 := fun x y H Q => ∃ d ds e, Dp K H x d ∧ Dp K H y e ∧ (e = .list ds ∨ e = .tuple ds) ∧ SeqAt.shaped d = true ∧ SeqAt.shaped e = true ∧ Q (.bl (ds.any fun z => PyData.eqv z d)) H
def rNotInA (K : PySem.W.Frag) : R2 := fun x y H Q => ∃ d ds e, Dp K H x d ∧ Dp K H y e ∧ (e = .list ds ∨ e = .tuple ds) ∧ SeqAt.shaped d = true ∧ SeqAt.shaped e = true ∧ Q (.bl (!ds.any fun z => PyData.eqv z d)) H
theorem op_inA {X : Cx} (hu : X.A.units + 65 < cLine) : OpR X (compareOp .In) (rInA X.K) := by
  intro pins s σ H x y v u Q I rx ry h
  obtain ⟨d, ds, e, hd, he, ee, sd, se, q⟩ := h
  obtain ⟨as, r1⟩ := Dp.reads I d x v hd rx
  obtain ⟨bs, r2⟩ := Dp.reads I e y u he ry
  rcases ee with rfl | rfl
  · exact SeqAt.in_list_reads r2 r1 (SeqAt.canLay_of_shaped se) (SeqAt.canLay_of_shaped sd) (room_in_shaped sd hu) ⟨.bl _, H, I, rfl, q⟩
  · exact SeqAt.in_tuple_reads r2 r1 (SeqAt.canLay_of_shaped se) (SeqAt.canLay_of_shaped sd) (room_in_shaped sd hu) ⟨.bl _, H, I, rfl, q⟩
theorem op_notInA {X : Cx} (hu : X.A.units + 65 < cLine) : OpR X (compareOp .NotIn) (rNotInA X.K) := by
  intro pins s σ H x y v u Q I rx ry h
  obtain ⟨d, ds, e, hd, he, ee, sd, se, q⟩ := h
  obtain ⟨as, r1⟩ := Dp.reads I d x v hd rx
  obtain ⟨bs, r2⟩ := Dp.reads I e y u he ry
  rcases ee with rfl | rfl
  · exact SeqAt.notIn_list_reads r2 r1 (SeqAt.canLay_of_shaped se) (SeqAt.canLay_of_shaped sd) (room_in_shaped sd hu) ⟨.bl _, H, I, rfl, q⟩
  · exact SeqAt.notIn_tuple_reads r2 r1 (SeqAt.canLay_of_shaped se) (SeqAt.canLay_of_shaped sd) (room_in_shaped sd hu) ⟨.bl _, H, I, rfl, q⟩
def rIn' (K : PySem.W.Frag) : R2 := fun x y H Q => rIn K false x y H Q ∨ rInA K x y H Q ∨ rInS x y H Q ∨ rInK x y H Q
def rNotIn' (K : PySem.W.Frag) : R2 := fun x y H Q => rIn K true x y H Q ∨ rNotInA K x y H Q ∨ rNotInS x y H Q ∨ rNotInK x y H Q
def rMax' (K : PySem.W.Frag) : List V → Hp → VK → Prop := fun vs H Q => (∃ i j, vs = [.int i, .int j] ∧ Q (.int (if j > i then j else i)) H) ∨ rMax K vs H Q
def rMin' (K : PySem.W.Frag) : List V → Hp → VK → Prop := fun vs H Q => (∃ i j, vs = [.int i, .int j] ∧ Q (.int (if j < i then j else i)) H) ∨ rMin K vs H Q
def rTuple' (K : PySem.W.Frag) : List V → Hp → VK → Prop := fun xs H Q => ∃ p ys, xs = [.ref p] ∧ ((SqL K H p ys ∧ ∀ l, H l = none → Q (.ref l) (upd H l (.tup ys))) ∨ (SqT K H p ys ∧ Q (.ref p) H))
def rList' (K : PySem.W.Frag) : List V → Hp → VK → Prop := fun xs H Q => ∃ p ys, xs = [.ref p] ∧ (SqL K H p ys ∨ SqT K H p ys) ∧ ∀ l, H l = none → Q (.ref l) (upd H l (.lst ys))
/-- list(x), x a dict too -/
def rListA (K : PySem.W.Frag) : List V → Hp → VK → Prop := fun xs H Q => rList' K xs H Q ∨ rListD xs H Q
def rSl' (K : PySem.W.Frag) : V → Option Int → Option Int → Hp → VK → Prop := fun x lo hi H Q => rSlS x lo hi H Q ∨ rSlL K x lo hi H Q ∨ rSlA K x lo hi H Q
def rSet' : TSet := fun o i v H Q => rSetL o i v H Q ∨ rSetD o i v H Q
section
variable {X : Cx}
theorem o_is : OpR X (compareOp .Is) rIs' := OpR.or op_isN op_is_bl
theorem o_isnot : OpR X (compareOp .IsNot) rIsNot' := OpR.or op_notN op_isnot_bl
theorem c_max (hc : X.calm = true) : CallR X (.builtin "max") (rMax' X.K) := CallR.or (call_max2 hc) (cr_max hc)
theorem c_min (hc : X.calm = true) : CallR X (.builtin "min") (rMin' X.K) := CallR.or (call_min2 hc) (cr_min hc)
theorem c_tuple : CallR X (.type "tuple") (rTuple' X.K) := call_tuple_of
theorem c_list : CallR X (.type "list") (rList' X.K) := call_list_of
theorem s_any : SlR X (rSl' X.K) := SlR.or sl_str (SlR.or sl_list sl_tupA)
theorem PSet.or {t t' : TSet} (h : PSet X t) (h' : PSet X t') : PSet X (fun o i v H Q => t o i v H Q ∨ t' o i v H Q) := fun pins s σ H o i v ov iv u Q I a b c q =>
  q.elim (fun q => h pins s σ H o i v ov iv u Q I a b c q) fun q => h' pins s σ H o i v ov iv u Q I a b c q
theorem s_set (hu : X.A.units + 64 < cLine) : PSet X rSet' := PSet.or set_list (set_dict (by omega))
/-- X(), X an own exception class without own __init__ -/
theorem pmk_own0 {C : Addr} {bmB : List Value} {B newId initId : String} {x : Str} {p pos : Pos} (F : ExcBaseFacts B newId initId bmB) (q : PySem.W.excIn X.K C bmB newId = true) (gC : X.mg x = some (.ref C))
    (kC : PySem.W.keepIn X.K (.ref C) = true) (r : Raises X (.ref C)) (hg : Gl X x) (hdb : (x == ("__debug__" : Str)) = false := by decide) :
    PMk X (.Call (.Name x p) [] [] pos) (fun σ H Q => Q (.ref C) none H) := by
  intro pins s σ H Q I h
  refine wpAny_Call_Name_kw (ld_glob I hg gC ?_ hdb)
  refine PySem.W.callWith_K0 I.kIn kC ?_
  show wpAny _ _ (call (.ref C) []) _ _ _
  obtain ⟨bm, N, nm, qn, bs, hdct, sn, sub, ab, col, dd, k0, k1, k2, k3, k5, mN, hC, hN, hni, T⟩ := exc_obj I.kIn q
  refine wpAny_call_exc_subT F T hC hN hni (fun h' e hm => ?_) (by show 0 ≤ sizeLine; omega)
  exact mk_of I hm r h (I.hok.gone hm.new)
end
section
variable {X : Cx}
theorem op_inK (hu : X.A.units + 65 < cLine) : OpR X (compareOp .In) rInK := by
  intro pins s σ H x y v u Q I rx ry h
  obtain ⟨a, o, rfl, g, q⟩ := h
  cases ry
  exact d_in (by omega) I g rx fun s' I' => ⟨.bl _, H, I', rfl, q⟩
theorem op_notInK (hu : X.A.units + 65 < cLine) : OpR X (compareOp .NotIn) rNotInK := by
  intro pins s σ H x y v u Q I rx ry h
  obtain ⟨a, o, rfl, g, q⟩ := h
  cases ry
  exact d_notIn (by omega) I g rx fun s' I' => ⟨.bl _, H, I', rfl, q⟩
theorem c_listA (hc : X.calm = true) : CallR X (.type "list") (rListA X.K) := CallR.or c_list (call_list_dK hc)
theorem o_in (hu : X.A.units + 65 < cLine) : OpR X (compareOp .In) (rIn' X.K) := OpR.or op_in_seq (OpR.or (op_inA hu) (OpR.or op_inS (op_inK hu)))
theorem o_notin (hu : X.A.units + 65 < cLine) : OpR X (compareOp .NotIn) (rNotIn' X.K) := OpR.or op_notIn_seq (OpR.or (op_notInA hu) (OpR.or op_notInS (op_notInK hu)))
end

/-! ### calls that may raise -/
abbrev WF (E : XK) : WX := fun c d _ H => E c d H
def tRaise (W : WX) (t : L2.St → Hp → XK → Prop) : TS := fun _ σ H => t σ H fun cls d H' => W cls d σ H'
def tMk0 (C : Addr) : L2.St → Hp → XK → Prop := fun _ H Q => Q (.ref C) none H
def tMkA (C : Addr) (t : TA) : L2.St → Hp → XK → Prop := fun σ H Q => t σ H fun vs H1 => vs.length ≤ sizeLine ∧ Q (.ref C) none H1
def tTry (tb : WX → TS) (w : Ends → WX) : TS := fun D σ H => tb (w D) D σ H
def tMakeS (C : Addr) (sp : Sp) (E : L2.St → XK) (t : TA) : TE := fun σ H Q => t σ H fun vs H1 => ∀ x dx, H1 x = none → H1 dx = none → dx ≠ x →
  sp (.ref x :: vs) (upd (upd H1 dx (.own x)) x (.ins C dx [])) (fun v H2 => v = .non ∧ Q (.ref x) H2) (E σ)
def rExtend' (K : PySem.W.Frag) : V → List V → Hp → VK → Prop := fun x vs H Q => ∃ l b xs zs, x = .ref l ∧ vs = [.ref b] ∧ H l = some (.lst xs) ∧ Rd H b (.lst zs) ∧ xs.length + zs.length ≤ sizeLine ∧ Q .non (upd H l (.lst (xs ++ zs)))
section
variable {X : Cx} {CX : CXT} {k : Nat} {f C : Addr} {sp : Sp} {E : L2.St → XK} {x m : Str} {p pos apos : Pos} {e o : Expr} {es : List Expr} {ta : TE} {t : TA}
theorem m_extend : MtM X "list.extend" (rExtend' X.K) := by
  intro pins s σ H x vs v us Q I rx rv h
  obtain ⟨l, b, xs, zs, rfl, rfl, hH, hB, hz, q⟩ := h
  cases rx
  obtain ⟨u, rfl, ru⟩ := rv.one
  cases ru
  obtain ⟨z, its, n, r, hl, e⟩ := I.lstM hH
  obtain ⟨z2, its2, n2, r2, e2⟩ := hB.ok I.hok
  have hl2 := r2.length
  have hsz : its.toArray.size + its2.toArray.size ≤ sizeLine := by rw [List.size_toArray, List.size_toArray]; omega
  have hlong : ¬ (!its.toArray.isEmpty && Builtin.List.listTooLong (its.toArray.size + its2.toArray.size)) = true := by
    rw [notLongL hsz, Bool.and_false]
    exact Bool.false_ne_true
  refine call_meets F.slot_list_extend ⟨_, e, rfl⟩ F.entry_list_extend (F.args_list_extend_2 _ _)
    (AutoSeq1.list_extend_list_list_0 l its.toArray n b its2.toArray n2 hlong (by rw [List.size_toArray]; omega) (by omega)) ⟨e, e2, ?_⟩
  refine ⟨.non, _, I.lset (its' := its ++ its2) hH e (by simp) (r.append r2) ?_, rfl, q⟩
  rw [List.length_append]
  omega
theorem units65 {k : Nat} {A : Around} (r : Room k A) : A.units + 65 < cLine := by have := r.un; omega
theorem passS0 {σ : L2.St} {E : XK} : PassesAt CX0 X σ E := fun _ _ _ _ _ _ h => h.elim
theorem run_fnSR {pins : List (Addr × Obj)} {σ : L2.St} {H : Hp} {s : Shared} {Q : VK} {us : List Value} {vs : List V} (F : FnR X.prog X.w X.K X.mg X.base CX k f sp) (hr : Room k X.A) (hx : PassesAt CX X σ (E σ))
    (I : Inv X pins σ H s) (r : Vals vs us) (h : sp vs H Q (E σ)) : wpAny (model X.prog X.w) X.A (call (.ref f) us) (EP X pins σ Q) X.xe s := by
  refine wpAny_call (codeAny_mono (F X.A X.stack s H us vs Q (E σ) hr I.env0 r h) fun r s' hq => ?_)
  cases r with
  | error e => exact hx pins H s e s' I hq
  | ok fl =>
    cases fl with
    | ret u => exact I.after hq
    | next => exact False.elim hq
    | brk => exact False.elim hq
    | cont => exact False.elim hq
theorem pe_callSR (F : FnR X.prog X.w X.K X.mg X.base CX k f sp) (hr : Room k X.A) (hg : Gl X x) (hm : X.mg x = some (.ref f)) (hk : PySem.W.keepIn X.K (.ref f) = true) (hx : ∀ σ, PassesAt CX X σ (E σ))
    (ha : PA X (e :: es) t) (hdb : (x == ("__debug__" : Str)) = false := by decide) (he : starEach (e :: es) X.env = (false, eval e X.env) :: starEach es X.env := by rfl) (hpl : (backTo pos (starEach es X.env)).any (·.1) = false := by rfl) :
    PE X (.Call (.Name x p) (e :: es) [] pos) (tCallS sp E t) := by
  refine ⟨fun pins s σ H Q I h => ?_⟩
  refine wpAny_Call_Name_kw (ld_glob I hg hm ?_ hdb)
  refine PySem.W.callWith_K (h₀ := X.base) I.ok.mod.kin hk (thn (ha.run pos pins s σ H _ I h) fun us s1 ⟨vs, H1, I1, r, q⟩ => ⟨I1.kIn, ?_⟩) he hpl
  exact run_fnSR F hr (hx σ) I1 r q
theorem run_makeSR {pins : List (Addr × Obj)} {σ : L2.St} {H : Hp} {s : Shared} {Q : VK} {us : List Value} {vs : List V} (M : Mk X.K C f) (F : FnR X.prog X.w X.K X.mg X.base CX k f sp) (hr : Room (k + 1) X.A)
    (hx : PassesAt (fun st H s E e s' => CX st H s E e s') X σ (E σ)) (I : Inv X pins σ H s) (r : Vals vs us)
    (hce : ∀ (H0 H1 : Hp) (s1 : Shared) (e : Value) (s' : Shared), True)
    (h : ∀ x dx, H x = none → H dx = none → dx ≠ x → sp (.ref x :: vs) (upd (upd H dx (.own x)) x (.ins C dx [])) (fun v H2 => v = .non ∧ Q (.ref x) H2) (E σ)) :
    wpAny (model X.prog X.w) X.A (call (.ref C) us) (EP X pins σ Q) X.xe s := by
  have hq := h (s.heap.objs.size + 1) s.heap.objs.size (I.hok.fresh (Nat.le_succ _)) (I.hok.fresh (Nat.le_refl _)) (Nat.ne_of_lt (Nat.lt_succ_self _))
  have I2 := Inv.made (C := C) I
  have r2 : Vals (V.ref (s.heap.objs.size + 1) :: vs) (Value.ref (s.heap.objs.size + 1) :: us) := .cons rfl r
  refine wpAny_call (make_map (f := f) I.kIn M.makes M.init (beq_iff_eq.mp M.fn) (codeAny_mono (F _ X.stack _ _ (Value.ref (s.heap.objs.size + 1) :: us) _ _ (E σ) (hr.make C us []) (I2.env0.make C us []) r2 hq) fun r s' hq' => ?_))
  cases r with
  | error e => exact hx pins _ _ e s' I2 hq'
  | ok fl =>
    cases fl with
    | ret u =>
      obtain ⟨v, H', I3, rv, ev, q3⟩ := I2.after hq'
      subst ev
      exact ⟨rv, ⟨V.ref (s.heap.objs.size + 1), H', I3, rfl, q3⟩⟩
    | next => exact False.elim hq'
    | brk => exact False.elim hq'
    | cont => exact False.elim hq'
theorem pe_makeSR (M : Mk X.K C f) (F : FnR X.prog X.w X.K X.mg X.base CX k f sp) (hr : Room (k + 1) X.A) (hg : Gl X x) (hm : X.mg x = some (.ref C)) (hx : ∀ σ, PassesAt CX X σ (E σ)) (ha : PA X (e :: es) t) (hdb : (x == ("__debug__" : Str)) = false := by decide)
    (he : starEach (e :: es) X.env = (false, eval e X.env) :: starEach es X.env := by rfl) (hpl : (backTo pos (starEach es X.env)).any (·.1) = false := by rfl) : PE X (.Call (.Name x p) (e :: es) [] pos) (tMakeS C sp E t) := by
  refine ⟨fun pins s σ H Q I h => ?_⟩
  refine wpAny_Call_Name_kw (ld_glob I hg hm ?_ hdb)
  refine PySem.W.callWith_K (h₀ := X.base) I.ok.mod.kin M.kp (thn (ha.run pos pins s σ H _ I h) fun us s1 ⟨vs, H1, I1, r, q⟩ => ⟨I1.kIn, ?_⟩) he hpl
  exact run_makeSR M F hr (hx σ) I1 r (fun _ _ _ _ _ => trivial) q
/-- isinstance(e, c), e the exception that the suite holds -/
def rIsEX (K : PySem.W.Frag) (a : Addr) (cls : Value) (d : Option Addr) : List V → Hp → VK → Prop := fun xs H Q => d = none ∧ ∃ (D : Addr) (c : V) (cv : Value) (b : Bool), cls = .ref D ∧ ExcC K D ∧ xs = [.ref a, c] ∧ (∀ u, RelV c u → u = cv) ∧ PySem.W.kitOne K (.ref D) cv = some b ∧ Q (.bl b) H
theorem call_isEX {a : Addr} {cls : Value} {d : Option Addr} {oe : Obj} {pn : List (Addr × Obj)} (hz : Zc cls d oe) (hf : ∃ vs, oe.data = .fields vs) : CallR (X.suite a ((a, oe) :: pn)) (.builtin "isinstance") (rIsEX X.K a cls d) := by
  intro pins s σ H xs us Q I r h
  obtain ⟨rfl, D, c, cv, b, rfl, hC, h⟩ := h
  exact call_isE hC hz hf pins s σ H xs us Q I r ⟨c, cv, b, h⟩
end
/-! ### a hook with further facts -/
abbrev AlX : Type := He.AlD × Bool
structure SaysX (fa : List He.Fa) (fn : List He.DefD) (fx : List (PySem.W.Frag → Bool)) (K : PySem.W.Frag) : Prop where
  d : He.SaysD fa fn K
  x : (fx.all fun f => f K) = true
def obsX (fa : List He.Fa) (fn : List He.DefD) (fx : List (PySem.W.Frag → Bool)) (K : PySem.W.Frag) : AlX := (He.obsD fa fn K, fx.all fun f => f K)
def obsXG (n : Nat) (fa : List He.Fa) (fn : List He.DefD) (fx : List (PySem.W.Frag → Bool)) (g : Addr → Option Obj) : AlX := obsX fa fn fx (He.frG g (He.asD g n))
def hookX (n : Nat) (fa : List He.Fa) (fn : List He.DefD) (fx : List (PySem.W.Frag → Bool)) : PySem.W.Hook where
  α := AlX
  obs := fun s => obsXG n fa fn fx s.heap.get?
  val := fun _ => (He.valD fn, true)
  says := fun _ h => ∃ K : PySem.W.Frag, K.In h ∧ SaysX fa fn fx K
  of := fun _ _ e => ⟨_, He.frG_in, congrArg Prod.fst e, congrArg Prod.snd e⟩
  keeps := fun _ _ _ ⟨K, hK, c⟩ k => ⟨K, PySem.W.Frag.In.keeps hK k, c⟩
theorem obsXG_eq {n : Nat} {fa : List He.Fa} {fn : List He.DefD} {fx : List (PySem.W.Frag → Bool)} {g : Addr → Option Obj} {s : Shared} (h : ∀ a, g a = s.heap.get? a) : obsXG n fa fn fx g = (hookX n fa fn fx).obs s := by
  have e : g = s.heap.get? := funext h
  rw [e] <;> rfl
theorem SaysX.extra {fa : List He.Fa} {fn : List He.DefD} {fx : List (PySem.W.Frag → Bool)} {K : PySem.W.Frag} (c : SaysX fa fn fx K) (i : Nat) {f : PySem.W.Frag → Bool} (h : fx[i]? = some f := by rfl) : f K = true :=
  List.all_eq_true.mp c.x f (List.mem_of_getElem? h)
def fKit (x y : Str) (b : Bool) : PySem.W.Frag → Bool := fun K => decide (PySem.W.kitOne K (.ref (He.ga K x)) (.ref (He.ga K y)) = some b)
theorem fKit_ok {K : PySem.W.Frag} {x y : Str} {b : Bool} (h : fKit x y b K = true) : PySem.W.kitOne K (.ref (He.ga K x)) (.ref (He.ga K y)) = some b := of_decide_eq_true h
def fExcC (x : Str) : PySem.W.Frag → Bool := fun K =>
  He.eqO (PySem.W.findIn K (.ref (He.ga K x)) "__getattribute__") (some (some (.builtin "BaseException.__getattribute__"))) && (He.eqO (PySem.W.findIn K (.ref (He.ga K x)) "__getattr__") (some none) && (decide (PySem.W.subIn K (.ref (He.ga K x)) (.type "BaseException") = some true) &&
    (PySem.W.hasDictIn K (He.ga K x) && (He.eqO (PySem.W.findIn K (.ref (He.ga K x)) "__class__") (some (some (.builtin "object.__class__"))) && (He.eqO (PySem.W.specialIn K (.builtin "object.__class__") "__get__") (some (some (.builtin "getset_descriptor.__get__"))) &&
      (decide (PySem.W.takesIn K (.builtin "object.__class__") = some true) && decide (PySem.W.mroIn K (He.ga K x) (.type "object") = some true)))))))
theorem fExcC_ok {K : PySem.W.Frag} {x : Str} (h : fExcC x K = true) : ExcC K (He.ga K x) := by
  unfold fExcC at h
  obtain ⟨h1, h⟩ := He.ba h
  obtain ⟨h2, h⟩ := He.ba h
  obtain ⟨h3, h⟩ := He.ba h
  obtain ⟨h4, h⟩ := He.ba h
  obtain ⟨h5, h⟩ := He.ba h
  obtain ⟨h6, h⟩ := He.ba h
  obtain ⟨h7, h8⟩ := He.ba h
  exact ⟨He.eqO_ok h1, He.eqO_ok h2, of_decide_eq_true h3, h4, He.eqO_ok h5, He.eqO_ok h6, of_decide_eq_true h7, of_decide_eq_true h8⟩
/-! ### methods that may raise -/
def tMethS (C : Addr) (m : Str) (sp : Sp) (E : L2.St → XK) (ta : TE) (t : TA) : TE := fun σ H Q => ta σ H fun x H1 => ∃ a dx fs, x = .ref a ∧ H1 a = some (.ins C dx fs) ∧ fs.lookup m = none ∧ t σ H1 fun vs H2 => sp (x :: vs) H2 Q (E σ)
theorem pe_methSR {X : Cx} {CX : CXT} {k : Nat} {C f : Addr} {m : Str} {sp : Sp} {E : L2.St → XK} {o e : Expr} {es : List Expr} {ta : TE} {t : TA} {apos pos : Pos} {pl : Sem Bool} (he : PE X o ta) (c : Cls X.K C) (hm : Meth X.K C m f)
    (F : FnR X.prog X.w X.K X.mg X.base CX k f sp) (hr : Room k X.A) (hx : ∀ σ, PassesAt CX X σ (E σ)) (ha : PA X (e :: es) t)
    (hst : starEach (e :: es) X.env = (false, eval e X.env) :: starEach es X.env := by rfl) (hpl : (backTo pos (starEach es X.env)).any (·.1) = false := by rfl)
    (ht : eval (.Call (.Attribute o m apos) (e :: es) [] pos) X.env = (do
      let ov ← eval o X.env
      standAt apos.atName
      let (f, first) ← holding [ov] (getMethod ov m pl)
      callWith pos f first (backTo pos (starEach (e :: es) X.env)) (backToKw pos (keywordEach [] X.env))) := by rfl) :
    PE X (.Call (.Attribute o m apos) (e :: es) [] pos) (tMethS C m sp E ta t) := by
  refine ⟨fun pins s σ H Q I h => ?_⟩
  refine PySem.W.methodCall_KW (pl := pl) (thn (he.run pins s σ H _ I h) fun u s1 ⟨x, H1, I1, rx, a, dx, fs, ex, ea, l, q⟩ => ?_) ht
  subst ex
  obtain rfl : u = Value.ref a := rx
  refine getmeth_ok I1 ea c hm l ?_
  refine PySem.W.callWith_K (first := [.ref a]) (h₀ := X.base) I1.ok.mod.kin hm.kp (thn (ha.run pos pins s1 σ H1 _ I1 q) fun us s2 ⟨vs, H2, I2, r, q2⟩ => ⟨I2.kIn, ?_⟩) hst hpl
  exact run_fnSR (us := .ref a :: us) (vs := .ref a :: vs) F hr (hx σ) I2 (.cons rfl r) q2
/-! ### more methods -/
def rInsert' : V → List V → Hp → VK → Prop := fun x vs H Q => ∃ (l : Addr) (xs : List V) (i : Int) (y : V), x = .ref l ∧ vs = [.int i, y] ∧ H l = some (.lst xs) ∧ xs.length < sizeLine ∧ 0 ≤ i ∧ i < 2 ^ 63 ∧
    Q .non (upd H l (.lst (xs.take i.toNat ++ [y] ++ xs.drop i.toNat)))
theorem m_insert {X : Cx} : MtR X "list.insert" rInsert' := mt_insert
theorem pe_methSR0 {X : Cx} {CX : CXT} {k : Nat} {C f : Addr} {m : Str} {sp : Sp} {E : L2.St → XK} {o : Expr} {ta : TE} {apos pos : Pos} {pl : Sem Bool} (he : PE X o ta) (c : Cls X.K C) (hm : Meth X.K C m f)
    (F : FnR X.prog X.w X.K X.mg X.base CX k f sp) (hr : Room k X.A) (hx : ∀ σ, PassesAt CX X σ (E σ))
    (ht : eval (.Call (.Attribute o m apos) [] [] pos) X.env = (do
      let ov ← eval o X.env
      standAt apos.atName
      let (f, first) ← holding [ov] (getMethod ov m pl)
      callWith pos f first (backTo pos (starEach [] X.env)) (backToKw pos (keywordEach [] X.env))) := by rfl) :
    PE X (.Call (.Attribute o m apos) [] [] pos) (tMethS C m sp E ta tNil) := by
  refine ⟨fun pins s σ H Q I h => ?_⟩
  refine PySem.W.methodCall_KW (pl := pl) (thn (he.run pins s σ H _ I h) fun u s1 ⟨x, H1, I1, rx, a, dx, fs, ex, ea, l, q⟩ => ?_) ht
  subst ex
  obtain rfl : u = Value.ref a := rx
  refine getmeth_ok I1 ea c hm l ?_
  exact PySem.W.callWith_K0 (first := [.ref a]) I1.kIn hm.kp (run_fnSR (us := [.ref a]) (vs := [.ref a]) F hr (hx σ) I1 (.cons rfl .nil) q)
end G

set_option Elab.async false
set_option linter.all false
set_option maxRecDepth 100000
set_option maxHeartbeats 4000000
/-! Lnd: dicts whose keys are tuples, nested: {k: v}, k in d, d[k] = v, d[k]. -/
namespace L2
open PySem PySem.Spec PyProof.Rows
abbrev NEnt := NestedKey × Addr × Value
def nent (w : World) (x : NEnt) : DictEntry := ⟨x.1.hash w, .ref x.2.1, x.2.2⟩
/-- a dict with these entries -/
def ndF (w : World) (a : Addr) (xs : List NEnt) (h : Heap) : Prop := (a == sysModules) = false ∧ xs.length ≤ sizeLine ∧ (∃ o es ep, h.get? a = some o ∧ o.ExactDict ∧ o.data = .dict es ep ∧ es.toList = xs.map (nent w)) ∧ (xs.map (·.1)).Nodup
def ndO (w : World) (a : Addr) (xs : List NEnt) : HO := .ext (ndF w a xs)
theorem ndF_obj {P : Program} {w : World} {H : Hp} {h : Heap} {a : Addr} {xs : List NEnt} (q : ndF w a xs h) : ObjOk P w H h a (ndO w a xs) := by
  refine ⟨q, ?_, fun h1 h2 f k => ?_⟩
  · obtain ⟨_, _, ⟨o, es, ep, e, _⟩, _⟩ := q
    exact ⟨o, e⟩
  · obtain ⟨f1, f2, ⟨o, es, ep, e, r⟩, f4⟩ := f
    exact ⟨f1, f2, ⟨o, es, ep, k _ e, r⟩, f4⟩
/-- the description speaks of its own object -/
theorem ndO_own {P : Program} {w : World} {H : Hp} {h : Heap} {p a : Addr} {xs : List NEnt} (q : ObjOk P w H h p (ndO w a xs)) : a = p ∧ ndF w a xs h := by
  obtain ⟨f, ⟨o, e⟩, st⟩ := q
  refine ⟨?_, f⟩
  obtain ⟨G, g1, g2⟩ := restrict h fun b => decide (b = p)
  have hf := st h G f fun o q => (g1 p (decide_eq_true rfl)).trans q
  obtain ⟨_, _, ⟨o', _, _, e', _⟩, _⟩ := hf
  by_cases hap : a = p
  · exact hap
  · rw [g2 a (decide_eq_false hap)] at e'
    cases e'
/- a value stands for a key -/
mutual
inductive NIs (K : PySem.W.Frag) (H : Hp) : V → NestedKey → Prop
  | non : NIs K H .non .none
  | int (i : Int) : NIs K H (.int i) (.num i)
  | str (x : Str) : NIs K H (.str x) (.text x)
  | tup {a : Addr} {xs : List V} {ks : List NestedKey} : SqT K H a xs → NIsAll K H xs ks → NIs K H (.ref a) (.tup ks)
inductive NIsAll (K : PySem.W.Frag) (H : Hp) : List V → List NestedKey → Prop
  | nil : NIsAll K H [] []
  | cons {v : V} {vs : List V} {k : NestedKey} {ks : List NestedKey} : NIs K H v k → NIsAll K H vs ks → NIsAll K H (v :: vs) (k :: ks)
end
section
variable {X : Cx} {pins : List (Addr × Obj)} {σ : St} {H : Hp} {s : Shared}
mutual
theorem NIs.at (I : Inv X pins σ H s) : ∀ (k : NestedKey) (v : V) (u : Value), NIs X.K H v k → RelV v u → NestedIs s.heap k u
  | .none, _, u, h, r => by cases h; cases (show u = Value.none from r); exact .none
  | .num i, _, u, h, r => by cases h; obtain ⟨t, rfl⟩ := r; exact .int i t
  | .text x, _, u, h, r => by cases h; obtain ⟨t, rfl⟩ := r; exact .text x t
  | .tup ks, _, u, h, r => by
    cases h with
    | tup h1 h2 =>
      obtain ⟨its, rv, p, _⟩ := I.tuple h1
      obtain ⟨o, ho, hc, n, hd⟩ := p
      cases (show u = Value.ref _ from r)
      exact .tup ho hc hd (NIsAll.at I ks _ _ h2 (by simpa using rv))
theorem NIsAll.at (I : Inv X pins σ H s) : ∀ (ks : List NestedKey) (vs : List V) (us : List Value), NIsAll X.K H vs ks → Vals vs us → NestedAll s.heap ks us
  | [], _, _, h, r => by cases h; cases r; exact .nil
  | k :: ks, _, _, h, r => by
    cases h with
    | cons a b =>
      cases r with
      | cons c d => exact .cons (NIs.at I k _ _ a c) (NIsAll.at I ks _ _ b d)
end
/-- the keys stand -/
def NKeys (K : PySem.W.Frag) (H : Hp) (xs : List NEnt) : Prop := ∀ e ∈ xs, NIs K H (.ref e.2.1) e.1 ∧ e.1.depth ≤ 8
theorem nd_dict (I : Inv X pins σ H s) {p a : Addr} {xs : List NEnt} (h : H p = some (ndO X.w a xs)) (hk : NKeys X.K H xs) : a = p ∧ (p == sysModules) = false ∧ xs.length ≤ sizeLine ∧ s.heap.DictOfH (nestedKind X.prog X.w) p xs := by
  obtain ⟨e, f⟩ := ndO_own (I.hok _ _ h)
  subst e
  obtain ⟨f1, f2, ⟨o, es, ep, e1, e2, e3, e4⟩, f4⟩ := f
  exact ⟨rfl, f1, f2, o, es, ep, e1, e2, e3, e4, fun x hx => ⟨NIs.at I _ _ _ (hk x hx).1 rfl, (hk x hx).2⟩, f4⟩
end
/-- k in d -/
def rInN (K : PySem.W.Frag) (w : World) : R2 := fun x y H Q => ∃ p a xs b k, y = .ref p ∧ x = .ref b ∧ H p = some (ndO w a xs) ∧ NKeys K H xs ∧ NIs K H (.ref b) k ∧ k.depth ≤ 8 ∧ Q (.bl (atKey xs k).isSome) H
def rNotInN (K : PySem.W.Frag) (w : World) : R2 := fun x y H Q => ∃ p a xs b k, y = .ref p ∧ x = .ref b ∧ H p = some (ndO w a xs) ∧ NKeys K H xs ∧ NIs K H (.ref b) k ∧ k.depth ≤ 8 ∧ Q (.bl (!(atKey xs k).isSome)) H
/-- d[k] -/
def rIxN (K : PySem.W.Frag) (w : World) : R2 := fun x y H Q => ∃ p a xs b k u, x = .ref p ∧ y = .ref b ∧ H p = some (ndO w a xs) ∧ NKeys K H xs ∧ NIs K H (.ref b) k ∧ k.depth ≤ 8 ∧ atKey xs k = some u ∧ ∀ v, RelV v u.2 → Q v H
/-- d[k] = v -/
def rSetN (K : PySem.W.Frag) (w : World) : TSet := fun o i v H Q => ∃ p a xs b k, o = .ref p ∧ i = .ref b ∧ H p = some (ndO w a xs) ∧ NKeys K H xs ∧ NIs K H (.ref b) k ∧ k.depth ≤ 8 ∧ xs.length < sizeLine ∧ ∀ u, RelV v u → Q (upd H p (ndO w p (storedH xs k b u)))
/-- {k: v} -/
def tND1 (K : PySem.W.Frag) (w : World) (tk tv : TE) : TE := fun σ H Q => ∀ p, H p = none → tk σ (upd H p (ndO w p [])) fun x H1 => tv σ H1 fun y H2 => H2 p = some (ndO w p []) ∧ ∃ b k, x = .ref b ∧ NIs K H2 x k ∧ k.depth ≤ 8 ∧ ∀ u, RelV y u → Q (.ref p) (upd H2 p (ndO w p [(k, b, u)]))
theorem storedH_len {xs : List NEnt} {k : NestedKey} {b : Addr} {u : Value} : (storedH xs k b u).length ≤ xs.length + 1 := by
  unfold storedH
  split
  · simp
  · simp
section
variable {X : Cx}
theorem op_inN (hu : X.A.units + 65 < cLine) : OpR X (compareOp .In) (rInN X.K X.w) := by
  intro pins s σ H x y v u Q I rx ry h
  obtain ⟨p, a, xs, b, k, rfl, rfl, hd, hk, hi, hdep, q⟩ := h
  obtain ⟨e, f1, f2, dd⟩ := nd_dict I hd hk
  cases rx; cases ry
  exact wpAny_in_heap (knd := nestedKind X.prog X.w) (show X.A.units + 1 + 8 < cLine by omega) ⟨NIs.at I _ _ _ hi rfl, hdep⟩ f1 dd ⟨.bl _, H, I.tok _, rfl, q⟩
theorem op_notInN (hu : X.A.units + 65 < cLine) : OpR X (compareOp .NotIn) (rNotInN X.K X.w) := by
  intro pins s σ H x y v u Q I rx ry h
  obtain ⟨p, a, xs, b, k, rfl, rfl, hd, hk, hi, hdep, q⟩ := h
  obtain ⟨e, f1, f2, dd⟩ := nd_dict I hd hk
  cases rx; cases ry
  exact wpAny_notIn_heap (knd := nestedKind X.prog X.w) (show X.A.units + 1 + 8 < cLine by omega) ⟨NIs.at I _ _ _ hi rfl, hdep⟩ f1 dd ⟨.bl _, H, I.tok _, rfl, q⟩
theorem set_nd (hu : X.A.units + 64 < cLine) : PSet X (rSetN X.K X.w) := by
  intro pins s σ H o i v ov iv u Q I ro ri rv h
  obtain ⟨p, a, xs, b, k, rfl, rfl, hd, hk, hi, hdep, hl, q⟩ := h
  obtain ⟨e, f1, f2, dd⟩ := nd_dict I hd hk
  cases (show ov = Value.ref p from ro)
  cases (show iv = Value.ref b from ri)
  refine wpAny_setItem_heap (knd := nestedKind X.prog X.w) (hsz := f2) (show X.A.units + 1 + 8 < cLine by omega) ⟨NIs.at I _ _ _ hi rfl, hdep⟩ dd fun h' dd' hs => ?_
  obtain ⟨o, es, ep, g1, g2, g3, g4, g5, g6⟩ := dd'
  have hl2 : (storedH xs k b u).length ≤ sizeLine := by
    have := storedH_len (xs := xs) (k := k) (b := b) (u := u)
    omega
  exact ⟨_, d_write I (by rw [hd]; exact True.intro) hs ⟨o, g1⟩ (ndF_obj ⟨f1, hl2, ⟨o, es, ep, g1, g2, g3, g4⟩, g6⟩), q u rv⟩
theorem pe_nd1 (hu : X.A.units + 64 < cLine) {ke ve : Expr} {tk tv : TE} {pos : Pos} (hk : PE X ke tk) (hv : PE X ve tv) : PE X (.Dict [some ke] [ve] pos) (tND1 X.K X.w tk tv) := by
  refine ⟨fun pins s σ H Q I q => ?_⟩
  have hn := I.hok.fresh (Nat.le_refl s.heap.objs.size)
  have low : (s.heap.objs.size == sysModules) = false := by
    exact beq_eq_false_iff_ne.mpr (Nat.ne_of_gt I.big)
  have I1 := I.laid (a := s.heap.objs.size) (o := ndO X.w s.heap.objs.size []) (h' := s.heap.push { cls := .type "dict", data := .dict #[] }) (t' := s.toks) (fun _ _ q => Heap.get?_push_of_some _ q) (Nat.le_refl _)
    (ndF_obj ⟨low, Nat.zero_le _, ⟨_, #[], 0, Heap.get?_push_size _ rfl, ⟨rfl, rfl, rfl⟩, rfl, rfl⟩, List.nodup_nil⟩)
  have hsh : (evalEachOpt [some ke] X.env).zip ((evalEach [ve] X.env).map fun v => do let x ← v; standAt pos; pure x) = (pairTrees [some ke] [ve] X.env pos).map fun p => (some p.1, p.2) := by
    first
      | rfl
      | exact zip_pairTrees [some ke] [ve] X.env pos rfl rfl
  have h0 : pairTrees [some ke] [ve] X.env pos ≠ [] := fun z => by cases z
  rw [arm_eval_Dict, hsh, dictDisplay_pairs _ h0 (by show (1 : Nat) < 17; decide)]
  refine wpAny_bind (wpAny_standAt (wpAny_bind (wpAny_subDictH (knd := nestedKind X.prog X.w) (Q := fun d s' => wpAny (model X.prog X.w) X.A (pure (Value.ref d)) (EP X pins σ Q) X.xe s') (show X.A.units + 8 < cLine by omega) (by show (1 : Nat) ≤ 15; decide) ?_)))
  refine pairTrees_cons_walk (thn (hk.run pins _ σ _ _ I1 (q _ hn)) fun u s1 hq1 => ?_)
  obtain ⟨x, H1, I1', rx, q1⟩ := hq1
  refine thn (hv.run pins s1 σ H1 _ I1' q1) fun u2 s2 hq2 => ?_
  obtain ⟨y, H2, I2, ry, hp, b, k, rfl, hi, hdep, q2⟩ := hq2
  cases (show u = Value.ref b from rx)
  refine pairTrees_nil_walk ?_
  obtain ⟨e, f1, f2, dd⟩ := nd_dict I2 hp (fun e he => by cases he)
  refine ⟨[(k, b, u2)], ⟨rfl, rfl, ⟨NIs.at I2 _ _ _ hi rfl, hdep⟩, trivial⟩, dd, fun h' tk hd hs => ?_⟩
  obtain ⟨o, es, ep, g1, g2, g3, g4, g5, g6⟩ := hd
  exact wpAny_pure ⟨.ref s.heap.objs.size, _, d_write (t' := tk) I2 (by rw [hp]; exact True.intro) hs ⟨o, g1⟩ (ndF_obj ⟨f1, by show (1 : Nat) ≤ sizeLine; decide, ⟨o, es, ep, g1, g2, g3, g4⟩, g6⟩), rfl, q2 u2 ry⟩
end
end L2

set_option Elab.async false
set_option linter.all false
set_option maxRecDepth 10000000
set_option maxHeartbeats 4000000
/-! Dat: values as data. A reading is told by data alone: no heap stands in the judgements. -/
namespace G
open PySem PySem.Spec PyProof.Rows L2

inductive D where
  | non | bl (b : Bool) | int (i : Int) | str (x : Str) | tup (ds : List D) | lst (ds : List D) | ins (C : Addr) (ns : List Str) (ds : List D) | kl (ds : List D) | val (v : V) | dct (ks : List L2.Key) (ds : List D) | ndc (w : World) (kds ds : List D) | exc (a dd : Addr) (fns : List Str) (ds : List D) | xt (ds : List D)

mutual
/-- tuples as keys -/
def nkD : D → NestedKey
  | .non => .none
  | .int i => .num i
  | .str x => .text x
  | .tup ds => .tup (nkL ds)
  | _ => .none
def nkL : List D → List NestedKey
  | [] => []
  | d :: ds => nkD d :: nkL ds
end
mutual
def D.nk : D → Bool
  | .non => true
  | .int _ => true
  | .str _ => true
  | .tup ds => D.nkAll ds
  | _ => false
def D.nkAll : List D → Bool
  | [] => true
  | d :: ds => d.nk && D.nkAll ds
end
/-- a key: a tuple of such -/
def D.key (d : D) : Bool := d.nk && decide ((nkD d).depth ≤ 8) && (match d with | .tup _ => true | _ => false)
mutual
/-- in the heap R the value v stands for the datum -/
inductive Rep (K : PySem.W.Frag) (R : Hp) : V → D → Prop
  | non : Rep K R .non .non
  | bl (b : Bool) : Rep K R (.bl b) (.bl b)
  | int (i : Int) : Rep K R (.int i) (.int i)
  | str (x : Str) : Rep K R (.str x) (.str x)
  | tup {a : Addr} {xs : List V} {ds : List D} : SqT K R a xs → RepL K R xs ds → Rep K R (.ref a) (.tup ds)
  | lst {a : Addr} {xs : List V} {ds : List D} : Rd R a (.lst xs) → RepL K R xs ds → Rep K R (.ref a) (.lst ds)
  | kl {a : Addr} {xs : List V} {ds : List D} : SqL K R a xs → RepL K R xs ds → Rep K R (.ref a) (.kl ds)
  | ins {a C dx : Addr} {ns : List Str} {vs : List V} {ds : List D} : R a = some (.ins C dx (ns.zip vs)) → ns.length = ds.length → RepL K R vs ds → Rep K R (.ref a) (.ins C ns ds)
  | val (v : V) : Rep K R v (.val v)
  | ndc {p a : Addr} {w : World} {xs : List NEnt} {vs : List V} {kds ds : List D} : R p = some (ndO w a xs) → xs.map (·.1) = kds.map nkD → (∀ d ∈ kds, d.key = true) → RepL K R (xs.map fun e => V.ref e.2.1) kds → Vals vs (xs.map fun e => e.2.2) → RepL K R vs ds → Rep K R (.ref p) (.ndc w kds ds)
  | xt {a : Addr} {ob : Obj} {xs : List V} {ds : List D} : R a = some (.frz ob (.tup xs)) → ob.dict = none → RepL K R xs ds → Rep K R (.ref a) (.xt ds)
  | exc {a dd : Addr} {fns : List Str} {vs : List V} {ds : List D} : R dd = some (.xd (fns.zip vs)) → fns.length = ds.length → RepL K R vs ds → Rep K R (.ref a) (.exc a dd fns ds)
  | dct {a : Addr} {ks : List L2.Key} {vs : List V} {ds : List D} : R a = some (.dK (ks.zip vs)) → ks.length = ds.length → RepL K R vs ds → Rep K R (.ref a) (.dct ks ds)
inductive RepL (K : PySem.W.Frag) (R : Hp) : List V → List D → Prop
  | nil : RepL K R [] []
  | cons {v : V} {vs : List V} {d : D} {ds : List D} : Rep K R v d → RepL K R vs ds → RepL K R (v :: vs) (d :: ds)
end

theorem rdSame {R R' : Hp} {a : Addr} {o : HO} (h : Same R R') (q : Rd R a o) : Rd R' a o := q.elim (fun e => .inl (h _ _ e)) fun ⟨x, e⟩ => .inr ⟨x, h _ _ e⟩
theorem rdS {K : PySem.W.Frag} {R R' : Hp} {a : Addr} {xs : List V} (h : Same R R') (q : Rd R a (.lst xs)) : SqL K R' a xs := .inl (rdSame h q)
theorem sqT_mono {K : PySem.W.Frag} {R R' : Hp} {a : Addr} {xs : List V} (h : ∀ b zs, Rd R b (.tup zs) → Rd R' b (.tup zs)) (q : SqT K R a xs) : SqT K R' a xs := by
  rcases q with q | q
  · exact .inl (h _ _ q)
  · exact .inr q
theorem sqT_same {K : PySem.W.Frag} {R R' : Hp} {a : Addr} {xs : List V} (h : Same R R') (q : SqT K R a xs) : SqT K R' a xs :=
  sqT_mono (fun b zs r => r.elim (fun e => .inl (h _ _ e)) fun ⟨o, e⟩ => .inr ⟨o, h _ _ e⟩) q
section
variable {K : PySem.W.Frag} {R R' : Hp}
mutual
theorem Rep.mono (h : Same R R') : ∀ (d : D) (v : V), Rep K R v d → Rep K R' v d
  | .non, _, q => by cases q; exact .non
  | .bl b, _, q => by cases q; exact .bl b
  | .int i, _, q => by cases q; exact .int i
  | .str x, _, q => by cases q; exact .str x
  | .tup ds, _, q => by
    cases q with
    | tup a b => exact .tup (sqT_same h a) (RepL.mono h ds _ b)
  | .lst ds, _, q => by
    cases q with
    | lst a b => exact .lst (rdSame h a) (RepL.mono h ds _ b)
  | .kl ds, _, q => by
    cases q with
    | kl a b => exact .kl (h.seq a) (RepL.mono h ds _ b)
  | .ins C ns ds, _, q => by
    cases q with
    | ins a l b => exact .ins (h _ _ a) l (RepL.mono h ds _ b)
  | .val v, _, q => by cases q; exact .val v
  | .dct ks ds, _, q => by
    cases q with
    | dct a l b => exact .dct (h _ _ a) l (RepL.mono h ds _ b)
  | .ndc w kds ds, _, q => by
    cases q with
    | ndc a b c d e f => exact .ndc (h _ _ a) b c (RepL.mono h kds _ d) e (RepL.mono h ds _ f)
  | .exc a dd fns ds, _, q => by
    cases q with
    | exc a l b => exact .exc (h _ _ a) l (RepL.mono h ds _ b)
  | .xt ds, _, q => by
    cases q with
    | xt a l b => exact .xt (h _ _ a) l (RepL.mono h ds _ b)
theorem RepL.mono (h : Same R R') : ∀ (ds : List D) (vs : List V), RepL K R vs ds → RepL K R' vs ds
  | [], _, q => by cases q; exact .nil
  | d :: ds, _, q => by
    cases q with
    | cons a b => exact .cons (Rep.mono h d _ a) (RepL.mono h ds _ b)
end
/- no list in it -/
mutual
def D.sol : D → Bool
  | .tup ds => D.solL ds
  | .lst _ => false
  | .ins _ _ _ => false
  | .kl _ => false
  | .dct _ _ => false
  | .ndc _ _ _ => false
  | .exc _ _ _ _ => false
  | .xt _ => false
  | _ => true
def D.solL : List D → Bool
  | [] => true
  | d :: ds => d.sol && D.solL ds
end
mutual
theorem Rep.solid (h : ∀ b zs, Rd R b (.tup zs) → Rd R' b (.tup zs)) : ∀ (d : D) (v : V), d.sol = true → Rep K R v d → Rep K R' v d
  | .non, _, _, q => by cases q; exact .non
  | .bl b, _, _, q => by cases q; exact .bl b
  | .int i, _, _, q => by cases q; exact .int i
  | .str x, _, _, q => by cases q; exact .str x
  | .tup ds, _, s, q => by
    cases q with
    | tup a b => exact .tup (sqT_mono h a) (RepL.solid h ds _ (by simpa [D.sol] using s) b)
  | .lst ds, _, s, _ => by simp [D.sol] at s
  | .ins C ns ds, _, s, _ => by simp [D.sol] at s
  | .kl ds, _, s, _ => by simp [D.sol] at s
  | .val v, _, _, q => by cases q; exact .val v
  | .dct ks ds, _, s, _ => by simp [D.sol] at s
  | .ndc _ _ _, _, s, _ => by simp [D.sol] at s
  | .exc _ _ _ _, _, s, _ => by simp [D.sol] at s
  | .xt _, _, s, _ => by simp [D.sol] at s
theorem RepL.solid (h : ∀ b zs, Rd R b (.tup zs) → Rd R' b (.tup zs)) : ∀ (ds : List D) (vs : List V), D.solL ds = true → RepL K R vs ds → RepL K R' vs ds
  | [], _, _, q => by cases q; exact .nil
  | d :: ds, _, s, q => by
    simp only [D.solL, Bool.and_eq_true] at s
    cases q with
    | cons a b => exact .cons (Rep.solid h d _ s.1 a) (RepL.solid h ds _ s.2 b)
end
theorem RepL.len : ∀ {vs : List V} {ds : List D}, RepL K R vs ds → vs.length = ds.length
  | _, _, .nil => rfl
  | _, _, .cons _ t => by rw [List.length_cons, List.length_cons, RepL.len t]
theorem RepL.get : ∀ {vs : List V} {ds : List D} {i : Nat} {d : D}, RepL K R vs ds → ds[i]? = some d → ∃ v, vs[i]? = some v ∧ Rep K R v d
  | _, _, _, _, .nil, e => by simp at e
  | _, _, 0, _, .cons r _, e => by
    simp at e
    subst e
    exact ⟨_, rfl, r⟩
  | _, _, i + 1, d, .cons _ t, e => by
    obtain ⟨v, h1, h2⟩ := RepL.get (i := i) (d := d) t (by simpa using e)
    exact ⟨v, by simpa using h1, h2⟩
theorem RepL.getV : ∀ {vs : List V} {ds : List D} {i : Nat} {v : V}, RepL K R vs ds → vs[i]? = some v → ∃ d, ds[i]? = some d ∧ Rep K R v d
  | _, _, _, _, .nil, e => by simp at e
  | _, _, 0, _, .cons r _, e => by
    simp at e
    subst e
    exact ⟨_, rfl, r⟩
  | _, _, i + 1, v, .cons _ t, e => by
    obtain ⟨d, h1, h2⟩ := RepL.getV (i := i) (v := v) t (by simpa using e)
    exact ⟨d, by simpa using h1, h2⟩
theorem RepL.app : ∀ {vs ws : List V} {ds es : List D}, RepL K R vs ds → RepL K R ws es → RepL K R (vs ++ ws) (ds ++ es)
  | _, _, _, _, .nil, s => s
  | _, _, _, _, .cons r t, s => .cons r (RepL.app t s)
theorem RepL.take : ∀ {vs : List V} {ds : List D} (n : Nat), RepL K R vs ds → RepL K R (vs.take n) (ds.take n)
  | _, _, 0, _ => .nil
  | _, _, _ + 1, .nil => .nil
  | _, _, n + 1, .cons r t => .cons r (RepL.take n t)
theorem RepL.drop : ∀ {vs : List V} {ds : List D} (n : Nat), RepL K R vs ds → RepL K R (vs.drop n) (ds.drop n)
  | _, _, 0, r => r
  | _, _, _ + 1, .nil => .nil
  | _, _, n + 1, .cons _ t => RepL.drop n t
theorem RepL.set : ∀ {vs : List V} {ds : List D} (i : Nat) {v : V} {d : D}, RepL K R vs ds → Rep K R v d → RepL K R (vs.set i v) (ds.set i d)
  | _, _, _, _, _, .nil, _ => .nil
  | _, _, 0, _, _, .cons _ t, q => .cons q t
  | _, _, i + 1, _, _, .cons r t, q => .cons r (RepL.set i t q)
theorem RepL.last {vs : List V} {ds : List D} (h : RepL K R vs ds) : RepL K R vs.dropLast ds.dropLast := by
  rw [List.dropLast_eq_take, List.dropLast_eq_take, h.len]
  exact h.take _
end

/-! ### how the heaps grow: H the heap, R the part of it that the data stand in -/
structure Gr (H R H' R' : Hp) : Prop where
  h : Same H H'
  r : Same R R'
  i : Same R' H'
  o : ∀ a o, H a = some o → R a = none → R' a = none
theorem Gr.refl {H R : Hp} (h : Same R H) : Gr H R H R := ⟨Same.refl _, Same.refl _, h, fun _ _ _ e => e⟩
theorem Gr.trans {H R H1 R1 H2 R2 : Hp} (a : Gr H R H1 R1) (b : Gr H1 R1 H2 R2) : Gr H R H2 R2 :=
  ⟨a.h.trans b.h, a.r.trans b.r, b.i, fun x o e n => b.o x o (a.h x o e) (a.o x o e n)⟩
/-- a new object, kept as data -/
theorem Gr.new {H R : Hp} (h : Same R H) {p : Addr} {u : HO} (hp : H p = none) : Gr H R (upd H p u) (upd R p u) := by
  have rp : R p = none := h.free hp
  refine ⟨fun b o e => ?_, fun b o e => ?_, fun b o e => ?_, fun a o e n => ?_⟩
  · rw [upd_ne (ne_of_none e hp)]; exact e
  · rw [upd_ne (ne_of_none e rp)]; exact e
  · by_cases hb : b = p
    · subst hb; rw [upd_same] at e ⊢; exact e
    · rw [upd_ne hb] at e ⊢; exact h b o e
  · rw [upd_ne (ne_of_none e hp)]; exact n
/-- a new object, not among the data -/
theorem Gr.apart {H R : Hp} (h : Same R H) {p : Addr} {u : HO} (hp : H p = none) : Gr H R (upd H p u) R :=
  ⟨fun b o e => by rw [upd_ne (ne_of_none e hp)]; exact e, Same.refl _, fun b o e => by rw [upd_ne (ne_of_none (h b o e) hp)]; exact h b o e, fun _ _ _ n => n⟩

/-! ### expressions -/
abbrev DEnv := List (Option D)
def EnvR (K : PySem.W.Frag) (R : Hp) (σ : L2.St) (δ : DEnv) : Prop := δ.length ≤ σ.length ∧ ∀ (i : Nat) (d : D), δ[i]? = some (some d) → ∃ v, σ[i]? = some (some v) ∧ Rep K R v d
theorem EnvR.mono {K : PySem.W.Frag} {R R' : Hp} {σ : L2.St} {δ : DEnv} (s : Same R R') (e : EnvR K R σ δ) : EnvR K R' σ δ := ⟨e.1, fun i d h => by
  obtain ⟨v, h1, h2⟩ := e.2 i d h
  exact ⟨v, h1, h2.mono s⟩⟩
/-- the expression gives the datum -/
def DE (K : PySem.W.Frag) (δ : DEnv) (te : TE) (d : D) : Prop := ∀ (H R : Hp) (σ : L2.St) (Q : VK), Same R H → EnvR K R σ δ → (∀ v H' R', Gr H R H' R' → Rep K R' v d → Q v H') → te σ H Q
/-- .. a new list of these -/
def DL (K : PySem.W.Frag) (δ : DEnv) (te : TE) (ds : List D) : Prop := ∀ (H R : Hp) (σ : L2.St) (Q : VK), Same R H → EnvR K R σ δ →
  (∀ p xs H' R', Gr H R H' R' → H p = none → H' p = some (.lst xs) → R' p = none → xs.length ≤ sizeLine → RepL K R' xs ds → Q (.ref p) H') → te σ H Q
def DT (K : PySem.W.Frag) (δ : DEnv) (tt : TT) (b : Bool) : Prop := ∀ (H R : Hp) (σ : L2.St) (Q : Bool → Hp → Prop), Same R H → EnvR K R σ δ → (∀ H' R', Gr H R H' R' → Q b H') → tt σ H Q
def DA (K : PySem.W.Frag) (δ : DEnv) (ta : TA) (ds : List D) : Prop := ∀ (H R : Hp) (σ : L2.St) (Q : List V → Hp → Prop), Same R H → EnvR K R σ δ → (∀ vs H' R', Gr H R H' R' → RepL K R' vs ds → Q vs H') → ta σ H Q
/-- an operation on values gives the datum -/
def DO (K : PySem.W.Frag) (r : R2) (x y z : D) : Prop := ∀ (H R : Hp) (v u : V) (Q : VK), Same R H → Rep K R v x → Rep K R u y → (∀ w H' R', Gr H R H' R' → Rep K R' w z → Q w H') → r v u H Q
def DC (K : PySem.W.Frag) (r : List V → Hp → VK → Prop) (xs : List D) (z : D) : Prop := ∀ (H R : Hp) (vs : List V) (Q : VK), Same R H → RepL K R vs xs → (∀ w H' R', Gr H R H' R' → Rep K R' w z → Q w H') → r vs H Q
section
variable {K : PySem.W.Frag} {δ : DEnv} {ta tb te tc : TE} {tt tu : TT} {a : TA} {x y z d : D} {ds es : List D} {b c : Bool} {i : Nat} {r r' : R2}
theorem d_var (h : δ[i]? = some (some d)) : DE K δ (tVar i) d := fun H R σ Q s e q => by
  obtain ⟨v, h1, h2⟩ := e.2 i d h
  exact ⟨v, h1, q v H R (Gr.refl s) h2⟩
theorem d_non : DE K δ (tC .non) .non := fun H R σ Q s e q => q _ H R (Gr.refl s) .non
theorem d_bl : DE K δ (tC (.bl b)) (.bl b) := fun H R σ Q s e q => q _ H R (Gr.refl s) (.bl b)
theorem d_int {n : Int} : DE K δ (tC (.int n)) (.int n) := fun H R σ Q s e q => q _ H R (Gr.refl s) (.int n)
theorem d_str {n : Str} : DE K δ (tC (.str n)) (.str n) := fun H R σ Q s e q => q _ H R (Gr.refl s) (.str n)
theorem d_val {v : V} : DE K δ (tC v) (.val v) := fun H R σ Q s e q => q _ H R (Gr.refl s) (.val v)
theorem d_op (h1 : DE K δ ta x) (h2 : DE K δ tb y) (h3 : DO K r x y z) : DE K δ (tOp r ta tb) z := fun H R σ Q s e q =>
  h1 H R σ _ s e fun v H1 R1 g1 r1 => h2 H1 R1 σ _ g1.i (e.mono g1.r) fun u H2 R2 g2 r2 => h3 H2 R2 v u Q g2.i (r1.mono g2.r) r2 fun w H3 R3 g3 r3 => q w H3 R3 ((g1.trans g2).trans g3) r3
theorem d_anil : DA K δ tNil [] := fun H R σ Q s e q => q [] H R (Gr.refl s) .nil
theorem d_acons (h1 : DE K δ ta x) (h2 : DA K δ a ds) : DA K δ (tCons ta a) (x :: ds) := fun H R σ Q s e q =>
  h1 H R σ _ s e fun v H1 R1 g1 r1 => h2 H1 R1 σ _ g1.i (e.mono g1.r) fun vs H2 R2 g2 r2 => q (v :: vs) H2 R2 (g1.trans g2) (.cons (r1.mono g2.r) r2)
theorem d_cb {rc : List V → Hp → VK → Prop} (h1 : DA K δ a ds) (h2 : DC K rc ds z) : DE K δ (tCB rc a) z := fun H R σ Q s e q =>
  h1 H R σ _ s e fun vs H1 R1 g1 r1 => h2 H1 R1 vs Q g1.i r1 fun w H2 R2 g2 r2 => q w H2 R2 (g1.trans g2) r2
theorem d_tup (h : DA K δ a ds) (hn : ds.length ≤ 10000000) : DE K δ (tTup a) (.tup ds) := fun H R σ Q s e q =>
  h H R σ _ s e fun vs H1 R1 g1 r1 => ⟨small (by rw [r1.len]; exact hn), fun p hp => q (.ref p) _ _ (g1.trans (Gr.new g1.i hp)) (.tup (SqT.of upd_same) (r1.mono (Gr.new g1.i hp).r))⟩
theorem dl_lst (h : DA K δ a ds) (hn : ds.length ≤ 10000000) : DL K δ (tLst a) ds := fun H R σ Q s e q =>
  h H R σ _ s e fun vs H1 R1 g1 r1 => ⟨small (by rw [r1.len]; exact hn), fun p hp => q p vs _ _ (g1.trans (Gr.apart g1.i hp)) (g1.h.free hp) upd_same (g1.i.free hp) (small (by rw [r1.len]; exact hn)) r1⟩
/-- a new list as data -/
theorem DL.de (h : DL K δ te ds) : DE K δ te (.lst ds) := fun H R σ Q s e q =>
  h H R σ Q s e fun p xs H' R' g hp h1 h2 hn r => by
    have g2 : Gr H R H' (upd R' p (.lst xs)) := by
      refine ⟨g.h, fun b o e => ?_, fun b o e => ?_, fun a o e n => ?_⟩
      · have e' := g.r b o e
        rw [upd_ne (ne_of_none e' h2)]; exact e'
      · by_cases hb : b = p
        · subst hb; rw [upd_same] at e; rw [h1]; exact e
        · rw [upd_ne hb] at e; exact g.i b o e
      · rw [upd_ne (ne_of_none e hp)]; exact g.o a o e n
    refine q (.ref p) H' _ g2 (.lst (.inl upd_same) (r.mono fun b o e => ?_))
    rw [upd_ne (ne_of_none e h2)]; exact e
theorem d_if (h1 : DT K δ tt b) (h2 : b = true → DE K δ ta d) (h3 : b = false → DE K δ tb d) : DE K δ (tIf tt ta tb) d := fun H R σ Q s e q =>
  h1 H R σ _ s e fun H1 R1 g1 => by
    have k : ∀ v H' R', Gr H1 R1 H' R' → Rep K R' v d → Q v H' := fun v H' R' g r => q v H' R' (g1.trans g) r
    cases b with
    | true => exact if_tt (h2 rfl H1 R1 σ Q g1.i (e.mono g1.r) k)
    | false => exact if_ff (h3 rfl H1 R1 σ Q g1.i (e.mono g1.r) k)
theorem dt_test (h : DE K δ te (.bl b)) : DT K δ (tTest te) b := fun H R σ Q s e q => h H R σ _ s e fun v H' R' g r => by cases r; exact ⟨b, rfl, q H' R' g⟩
theorem dt_and (h1 : DT K δ tt b) (h2 : b = true → DT K δ tu c) : DT K δ (tAnd tt tu) (b && c) := fun H R σ Q s e q =>
  h1 H R σ _ s e fun H1 R1 g1 => by
    cases b with
    | true => exact if_tt (h2 rfl H1 R1 σ Q g1.i (e.mono g1.r) fun H' R' g => q H' R' (g1.trans g))
    | false => exact if_ff (q H1 R1 g1)
theorem dt_or (h1 : DT K δ tt b) (h2 : b = false → DT K δ tu c) : DT K δ (tOr tt tu) (b || c) := fun H R σ Q s e q =>
  h1 H R σ _ s e fun H1 R1 g1 => by
    cases b with
    | true => exact if_tt (q H1 R1 g1)
    | false => exact if_ff (h2 rfl H1 R1 σ Q g1.i (e.mono g1.r) fun H' R' g => q H' R' (g1.trans g))
theorem dt_not (h : DT K δ tt b) : DT K δ (tNot tt) (!b) := fun H R σ Q s e q => h H R σ _ s e fun H1 R1 g1 => q H1 R1 g1
theorem dt_yes : DT K δ tYes true := fun H R σ Q s e q => q H R (Gr.refl s)
theorem dt_is (h : DT K δ tt b) (e : b = c) : DT K δ tt c := e ▸ h
theorem de_is (h : DE K δ te x) (e : x = y) : DE K δ te y := e ▸ h
/-- truth -/
def D.truth : D → Bool
  | .non => false
  | .bl b => b
  | .int i => i != 0
  | .str x => (x.length : Int) != 0
  | .tup ds => !ds.isEmpty
  | .lst ds => !ds.isEmpty
  | .dct ks _ => !ks.isEmpty
  | _ => true
def D.truOk : D → Prop
  | .str x => x.length ≤ sizeLine
  | .val _ => False
  | .ins _ _ _ => False
  | .kl _ => False
  | .ndc _ _ _ => False
  | .exc _ _ _ _ => False
  | .xt _ => False
  | _ => True
theorem Rep.tru {R H : Hp} {v : V} (s : Same R H) (h : Rep K R v d) (o : d.truOk) : TruV K v H d.truth := by
  cases h with
  | non => rfl
  | bl b => rfl
  | int i => rfl
  | str x => exact ⟨o, rfl⟩
  | @tup a xs ds h1 h2 => exact .inr (.inl ⟨xs, sqT_same s h1, by cases h2 <;> rfl⟩)
  | @lst a xs ds h1 h2 => exact .inl ⟨xs, rdS s h1, by cases h2 <;> rfl⟩
  | ins _ _ _ => exact o.elim
  | kl _ _ => exact o.elim
  | val v => exact o.elim
  | ndc _ _ _ _ _ _ => exact o.elim
  | exc _ _ _ => exact o.elim
  | xt _ _ _ => exact o.elim
  | @dct a ks vs ds h1 h2 h3 => exact .inr (.inr ⟨_, s _ _ h1, by
    have := h3.len
    cases ks with
    | nil => rfl
    | cons k ks =>
      cases vs with
      | nil => simp at this h2; omega
      | cons v vs => rfl⟩)
theorem dt_tru (h : DE K δ te d) (o : d.truOk) : DT K δ (tTru' K te) d.truth := fun H R σ Q s e q => h H R σ _ s e fun v H' R' g r => ⟨_, r.tru g.i o, q H' R' g⟩
theorem d_andT (h1 : DE K δ ta x) (o : x.truOk) (h2 : x.truth = true → DE K δ tb y) (hz : z = if x.truth = true then y else x) : DE K δ (tAndT K ta tb) z := fun H R σ Q s e q =>
  h1 H R σ _ s e fun v H1 R1 g1 r1 => ⟨_, r1.tru g1.i o, by
    subst hz
    cases hx : x.truth with
    | true =>
      rw [hx] at q
      exact if_tt (h2 hx H1 R1 σ Q g1.i (e.mono g1.r) fun w H' R' g r => q w H' R' (g1.trans g) (by rw [if_pos rfl]; exact r))
    | false =>
      rw [hx] at q
      exact if_ff (q v H1 R1 g1 (by rw [if_neg (by decide)]; exact r1))⟩
theorem d_orT (h1 : DE K δ ta x) (o : x.truOk) (h2 : x.truth = false → DE K δ tb y) (hz : z = if x.truth = true then x else y) : DE K δ (tOrT K ta tb) z := fun H R σ Q s e q =>
  h1 H R σ _ s e fun v H1 R1 g1 r1 => ⟨_, r1.tru g1.i o, by
    subst hz
    cases hx : x.truth with
    | true =>
      rw [hx] at q
      exact if_tt (q v H1 R1 g1 (by rw [if_pos rfl]; exact r1))
    | false =>
      rw [hx] at q
      exact if_ff (h2 hx H1 R1 σ Q g1.i (e.mono g1.r) fun w H' R' g r => q w H' R' (g1.trans g) (by rw [if_neg (by decide)]; exact r))⟩
theorem d_notT (h1 : DE K δ ta x) (o : x.truOk) : DE K δ (tNotT K ta) (.bl (!x.truth)) := fun H R σ Q s e q =>
  h1 H R σ _ s e fun v H1 R1 g1 r1 => ⟨_, r1.tru g1.i o, q _ H1 R1 g1 (.bl _)⟩
theorem d_chain (h1 : DE K δ ta x) (h2 : DE K δ tb y) (h3 : DO K r x y (.bl b)) (h4 : b = true → DE K δ tc z ∧ DO K r' y z (.bl c)) : DE K δ (tChain r r' ta tb tc) (.bl (b && c)) := fun H R σ Q s e q =>
  h1 H R σ _ s e fun v H1 R1 g1 r1 => h2 H1 R1 σ _ g1.i (e.mono g1.r) fun u H2 R2 g2 r2 => h3 H2 R2 v u _ g2.i (r1.mono g2.r) r2 fun w H3 R3 g3 r3 => by
    cases r3
    refine ⟨b, rfl, ?_⟩
    have gg := (g1.trans g2).trans g3
    cases b with
    | true => exact if_tt ((h4 rfl).1 H3 R3 σ _ gg.i (e.mono gg.r) fun w' H4 R4 g4 r4 => (h4 rfl).2 H4 R4 u w' Q g4.i ((r2.mono g3.r).mono g4.r) r4 fun w2 H5 R5 g5 r5 => q w2 H5 R5 ((gg.trans g4).trans g5) r5)
    | false => exact if_ff (q _ H3 R3 gg (.bl _))
/-- how a def's body ends -/
inductive Res where
  | rt (d : D) | rl (ds : List D) | ex (c : Value) (fs : List (Str × D))
/-- an exception's own dict, as data -/
def ExOk (K : PySem.W.Frag) (R : Hp) : Option Addr → List (Str × D) → Prop
  | none, fs => fs = []
  | some a, fs => fs ≠ [] ∧ ∃ vs, R a = some (.xd ((fs.map Prod.fst).zip vs)) ∧ RepL K R vs (fs.map Prod.snd)
def ResOk (K : PySem.W.Frag) (H R : Hp) (Q : VK) (E : XK) : Res → Prop
  | .rt d => ∀ v H' R', Gr H R H' R' → Rep K R' v d → Q v H'
  | .rl es => ∀ p xs H' R', Gr H R H' R' → H p = none → H' p = some (.lst xs) → R' p = none → xs.length ≤ sizeLine → RepL K R' xs es → Q (.ref p) H'
  | .ex c fs => ∀ dd H' R', Gr H R H' R' → ExOk K R' dd fs → E c dd H'
/-- a def's promise on data -/
def spD (K : PySem.W.Frag) (rel : List D → Res → Prop) : Sp := fun vs H Q E => ∃ R ds r, Same R H ∧ RepL K R vs ds ∧ rel ds r ∧ ResOk K H R Q E r
theorem d_call {rel : List D → Res → Prop} {E : XK} (h1 : DA K δ a ds) (h2 : rel ds (.rt d)) : DE K δ (tCallR (spD K rel) E a) d := fun H R σ Q s e q =>
  h1 H R σ _ s e fun vs H1 R1 g1 r1 => ⟨R1, ds, .rt d, g1.i, r1, h2, fun v H' R' g r => q v H' R' (g1.trans g) r⟩
theorem dl_call {rel : List D → Res → Prop} {E : XK} (h1 : DA K δ a ds) (h2 : rel ds (.rl es)) : DL K δ (tCallR (spD K rel) E a) es := fun H R σ Q s e q =>
  h1 H R σ _ s e fun vs H1 R1 g1 r1 => ⟨R1, ds, .rl es, g1.i, r1, h2, fun p xs H' R' g hp h1 h2 hn r => q p xs H' R' (g1.trans g) (g1.h.free hp) h1 h2 hn r⟩
theorem d_callS {rel : List D → Res → Prop} {E : L2.St → XK} (h1 : DA K δ a ds) (h2 : rel ds (.rt d)) : DE K δ (tCallS (spD K rel) E a) d := fun H R σ Q s e q =>
  h1 H R σ _ s e fun vs H1 R1 g1 r1 => ⟨R1, ds, .rt d, g1.i, r1, h2, fun v H' R' g r => q v H' R' (g1.trans g) r⟩
theorem dl_callS {rel : List D → Res → Prop} {E : L2.St → XK} (h1 : DA K δ a ds) (h2 : rel ds (.rl es)) : DL K δ (tCallS (spD K rel) E a) es := fun H R σ Q s e q =>
  h1 H R σ _ s e fun vs H1 R1 g1 r1 => ⟨R1, ds, .rl es, g1.i, r1, h2, fun p xs H' R' g hp h1 h2 hn r => q p xs H' R' (g1.trans g) (g1.h.free hp) h1 h2 hn r⟩
/-- the expression raises -/
def DEx (K : PySem.W.Frag) (W : WX) (δ : DEnv) (te : TE) (c : Value) (fs : List (Str × D)) : Prop := ∀ (H R : Hp) (σ : L2.St) (Q : VK), Same R H → EnvR K R σ δ → (∀ dd H' R', Gr H R H' R' → ExOk K R' dd fs → W c dd σ H') → te σ H Q
theorem dx_callS {rel : List D → Res → Prop} {W : WX} {c : Value} {fs : List (Str × D)} (h1 : DA K δ a ds) (h2 : rel ds (.ex c fs)) : DEx K W δ (tCallS (spD K rel) (WE W) a) c fs := fun H R σ Q s e q =>
  h1 H R σ _ s e fun vs H1 R1 g1 r1 => ⟨R1, ds, .ex c fs, g1.i, r1, h2, fun dd H' R' g r => q dd H' R' (g1.trans g) r⟩
/-- .. in the first of the arguments that does -/
def DAx (K : PySem.W.Frag) (W : WX) (δ : DEnv) (ta : TA) (c : Value) (fs : List (Str × D)) : Prop := ∀ (H R : Hp) (σ : L2.St) (Q : List V → Hp → Prop), Same R H → EnvR K R σ δ → (∀ dd H' R', Gr H R H' R' → ExOk K R' dd fs → W c dd σ H') → ta σ H Q
theorem dxa_here {W : WX} {c : Value} {fs : List (Str × D)} (h : DEx K W δ ta c fs) : DAx K W δ (tCons ta a) c fs := fun H R σ Q s e q => h H R σ _ s e q
theorem dxa_next {W : WX} {c : Value} {fs : List (Str × D)} (h1 : DE K δ ta d) (h : DAx K W δ a c fs) : DAx K W δ (tCons ta a) c fs := fun H R σ Q s e q =>
  h1 H R σ _ s e fun v H1 R1 g1 _ => h H1 R1 σ _ g1.i (e.mono g1.r) fun dd H' R' g x => q dd H' R' (g1.trans g) x
theorem dx_cb {W : WX} {rc : List V → Hp → VK → Prop} {c : Value} {fs : List (Str × D)} (h : DAx K W δ a c fs) : DEx K W δ (tCB rc a) c fs := fun H R σ Q s e q => h H R σ _ s e q
theorem dx_callA {W : WX} {sp : Sp} {E : L2.St → XK} {c : Value} {fs : List (Str × D)} (h : DAx K W δ a c fs) : DEx K W δ (tCallS sp E a) c fs := fun H R σ Q s e q => h H R σ _ s e q
theorem dx_callA' {W : WX} {sp : Sp} {E : XK} {c : Value} {fs : List (Str × D)} (h : DAx K W δ a c fs) : DEx K W δ (tCallR sp E a) c fs := fun H R σ Q s e q => h H R σ _ s e q
theorem dx_op1 {W : WX} {c : Value} {fs : List (Str × D)} (h : DEx K W δ ta c fs) : DEx K W δ (tOp r ta tb) c fs := fun H R σ Q s e q => h H R σ _ s e q
/-- a field of an instance -/
theorem lookup_zip {ns : List Str} {vs : List V} {ds : List D} {f : Str} {R : Hp} (hl : ns.length = ds.length) (r : RepL K R vs ds) (h : (ns.zip ds).lookup f = some d) : ∃ v, (ns.zip vs).lookup f = some v ∧ Rep K R v d := by
  induction ns generalizing vs ds with
  | nil => simp at h
  | cons n ns ih =>
    cases r with
    | nil => simp at hl
    | @cons v vs d' ds r0 rr =>
      simp only [List.zip_cons_cons, List.lookup_cons] at h ⊢
      cases hb : f == n with
      | true => rw [hb] at h; cases h; exact ⟨v, rfl, r0⟩
      | false => rw [hb] at h; exact ih (by simpa using hl) rr h
theorem d_fld {C : Addr} {ns : List Str} {f : Str} (h1 : DE K δ te (.ins C ns ds)) (hc : Cls K C) (hn : NoAttr K C f) (h : (ns.zip ds).lookup f = some d) : DE K δ (tFld K te f) d := fun H R σ Q s e q =>
  h1 H R σ _ s e fun v H1 R1 g1 r1 => by
    cases r1 with
    | @ins a _ dx _ vs _ hr hl rl =>
      obtain ⟨w, hw, rw'⟩ := lookup_zip hl rl h
      exact ⟨a, C, dx, _, w, rfl, g1.i _ _ hr, hc, hn, hw, q w H1 R1 g1 rw'⟩
end

/-! ### operators on data -/
section
variable {K : PySem.W.Frag}
theorem do_of {r : R2} {x y z : D} (h : ∀ (H R : Hp) (v u : V) (Q : VK), Same R H → Rep K R v x → Rep K R u y → (∀ w, (∀ R, Rep K R w z) → Q w H) → r v u H Q) : DO K r x y z :=
  fun H R v u Q s rv ru q => h H R v u Q s rv ru fun w rw => q w H R (Gr.refl s) (rw R)
theorem o_addi {n m : Int} : DO K (rAdd' K) (.int n) (.int m) (.int (n + m)) := do_of fun H R v u Q s rv ru q => by cases rv; cases ru; exact q _ fun _ => .int _
theorem o_adds {n m : Str} (h : n.length + m.length ≤ sizeLine) : DO K (rAdd' K) (.str n) (.str m) (.str (n ++ m)) := do_of fun H R v u Q s rv ru q => by cases rv; cases ru; exact ⟨h, q _ fun _ => .str _⟩
theorem o_subi {n m : Int} : DO K rSub' (.int n) (.int m) (.int (n - m)) := do_of fun H R v u Q s rv ru q => by cases rv; cases ru; exact q _ fun _ => .int _
theorem o_muli {n m : Int} (h : CMul n m) : DO K rMul' (.int n) (.int m) (.int (n * m)) := do_of fun H R v u Q s rv ru q => by cases rv; cases ru; exact ⟨h, q _ fun _ => .int _⟩
theorem o_divi {n m : Int} (h : 0 < m ∧ m < 1073741824) : DO K rDiv' (.int n) (.int m) (.int (n / m)) := do_of fun H R v u Q s rv ru q => by cases rv; cases ru; exact ⟨h, q _ fun _ => .int _⟩
theorem o_modi {n m : Int} (h : 0 < m) : DO K rMod' (.int n) (.int m) (.int (n % m)) := do_of fun H R v u Q s rv ru q => by cases rv; cases ru; exact ⟨h, q _ fun _ => .int _⟩
theorem o_powi {n m : Int} (h : CPow n m) : DO K rPow' (.int n) (.int m) (.int (n ^ m.toNat)) := do_of fun H R v u Q s rv ru q => by cases rv; cases ru; exact ⟨h, q _ fun _ => .int _⟩
theorem o_lti {n m : Int} : DO K rLt' (.int n) (.int m) (.bl (decide (n < m))) := do_of fun H R v u Q s rv ru q => by cases rv; cases ru; exact q _ fun _ => .bl _
theorem o_lei {n m : Int} : DO K rLe' (.int n) (.int m) (.bl (decide (n ≤ m))) := do_of fun H R v u Q s rv ru q => by cases rv; cases ru; exact q _ fun _ => .bl _
theorem o_gti {n m : Int} : DO K rGt' (.int n) (.int m) (.bl (decide (m < n))) := do_of fun H R v u Q s rv ru q => by cases rv; cases ru; exact q _ fun _ => .bl _
theorem o_gei {n m : Int} : DO K rGe' (.int n) (.int m) (.bl (decide (m ≤ n))) := do_of fun H R v u Q s rv ru q => by cases rv; cases ru; exact q _ fun _ => .bl _
theorem o_eqi {n m : Int} : DO K (rEq' K) (.int n) (.int m) (.bl (decide (n = m))) := do_of fun H R v u Q s rv ru q => by cases rv; cases ru; exact r_eqi (q _ fun _ => .bl _)
theorem o_nei {n m : Int} : DO K (rNe' K) (.int n) (.int m) (.bl (!decide (n = m))) := do_of fun H R v u Q s rv ru q => by cases rv; cases ru; exact r_nei (q _ fun _ => .bl _)
theorem o_eqs {n m : Str} : DO K (rEq' K) (.str n) (.str m) (.bl (decide (n = m))) := do_of fun H R v u Q s rv ru q => by cases rv; cases ru; exact r_eqs (q _ fun _ => .bl _)
theorem o_nes {n m : Str} : DO K (rNe' K) (.str n) (.str m) (.bl (!decide (n = m))) := do_of fun H R v u Q s rv ru q => by cases rv; cases ru; exact r_nes (q _ fun _ => .bl _)
theorem o_eqb {n m : Bool} : DO K (rEq' K) (.bl n) (.bl m) (.bl (decide (n = m))) := do_of fun H R v u Q s rv ru q => by cases rv; cases ru; exact r_eqb (q _ fun _ => .bl _)
theorem o_neb {n m : Bool} : DO K (rNe' K) (.bl n) (.bl m) (.bl (!decide (n = m))) := do_of fun H R v u Q s rv ru q => by cases rv; cases ru; exact r_neb (q _ fun _ => .bl _)
/- data of any depth compared -/
mutual
def D.py : D → PyData
  | .non => .none
  | .bl b => .bool b
  | .int i => .int i
  | .str x => .str x
  | .tup ds => .tuple (D.pyL ds)
  | .lst ds => .list (D.pyL ds)
  | _ => .none
def D.pyL : List D → List PyData
  | [] => []
  | d :: ds => d.py :: D.pyL ds
end
mutual
def D.plain : D → Bool
  | .tup ds => D.plainL ds
  | .lst ds => D.plainL ds
  | .ins _ _ _ => false
  | .kl _ => false
  | .val _ => false
  | .dct _ _ => false
  | .ndc _ _ _ => false
  | .exc _ _ _ _ => false
  | .xt _ => false
  | _ => true
def D.plainL : List D → Bool
  | [] => true
  | d :: ds => d.plain && D.plainL ds
end
mutual
theorem Rep.dp {R H : Hp} (s : Same R H) : ∀ (d : D) (v : V), d.plain = true → Rep K R v d → Dp K H v d.py
  | .non, _, _, q => by cases q; exact .non
  | .bl b, _, _, q => by cases q; exact .bl b
  | .int i, _, _, q => by cases q; exact .int i
  | .str x, _, _, q => by cases q; exact .str x
  | .tup ds, _, h, q => by
    cases q with
    | tup a b => exact .tup (sqT_same s a) (RepL.dp s ds _ (by simpa [D.plain] using h) b)
  | .lst ds, _, h, q => by
    cases q with
    | lst a b => exact .lst (rdS s a) (RepL.dp s ds _ (by simpa [D.plain] using h) b)
  | .ins _ _ _, _, h, _ => by simp [D.plain] at h
  | .kl _, _, h, _ => by simp [D.plain] at h
  | .val _, _, h, _ => by simp [D.plain] at h
  | .dct _ _, _, h, _ => by simp [D.plain] at h
  | .ndc _ _ _, _, h, _ => by simp [D.plain] at h
  | .exc _ _ _ _, _, h, _ => by simp [D.plain] at h
  | .xt _, _, h, _ => by simp [D.plain] at h
theorem RepL.dp {R H : Hp} (s : Same R H) : ∀ (ds : List D) (vs : List V), D.plainL ds = true → RepL K R vs ds → DpAll K H vs (D.pyL ds)
  | [], _, _, q => by cases q; exact .nil
  | d :: ds, _, h, q => by
    simp only [D.plainL, Bool.and_eq_true] at h
    cases q with
    | cons a b => exact .cons (Rep.dp s d _ h.1 a) (RepL.dp s ds _ h.2 b)
end
def D.cmp (d : D) : Bool := d.plain && SeqAt.shaped d.py
theorem o_eqd {x y : D} (h1 : x.cmp = true) (h2 : y.cmp = true) : DO K (rEq' K) x y (.bl (PyData.eqv x.py y.py)) := do_of fun H R v u Q s rv ru q => by
  simp only [D.cmp, Bool.and_eq_true] at h1 h2
  exact .inr ⟨_, _, rv.dp s _ _ h1.1, ru.dp s _ _ h2.1, h1.2, h2.2, q _ fun _ => .bl _⟩
theorem o_ned {x y : D} (h1 : x.cmp = true) (h2 : y.cmp = true) : DO K (rNe' K) x y (.bl (!PyData.eqv x.py y.py)) := do_of fun H R v u Q s rv ru q => by
  simp only [D.cmp, Bool.and_eq_true] at h1 h2
  exact .inr ⟨_, _, rv.dp s _ _ h1.1, ru.dp s _ _ h2.1, h1.2, h2.2, q _ fun _ => .bl _⟩
/-- subscripts -/
theorem o_ixt {ds : List D} {n : Int} {d : D} {j : Nat} (e : ixN ds.length n = some j) (h : ds[j]? = some d) : DO K (rIx' K) (.tup ds) (.int n) d := fun H R v u Q s rv ru q => by
  cases rv with
  | @tup a xs _ h1 h2 =>
    cases ru
    obtain ⟨w, hw, rw'⟩ := h2.get h
    exact r_ixT (sqT_same s h1) (by unfold atI; rw [h2.len, e]; exact hw) (q w H R (Gr.refl s) rw')
theorem o_ixl {ds : List D} {n : Int} {d : D} {j : Nat} (e : ixN ds.length n = some j) (h : ds[j]? = some d) : DO K (rIx' K) (.lst ds) (.int n) d := fun H R v u Q s rv ru q => by
  cases rv with
  | @lst a xs _ h1 h2 =>
    cases ru
    obtain ⟨w, hw, rw'⟩ := h2.get h
    exact r_ixL (rdS s h1) (by unfold atI; rw [h2.len, e]; exact hw) (q w H R (Gr.refl s) rw')
theorem o_ixs {z : Str} {n : Int} {c : Nat} (h : z.length ≤ sizeLine) (e : atI z.cps.toList n = some c) : DO K (rIx' K) (.str z) (.int n) (.str ⟨#[c]⟩) := do_of fun H R v u Q s rv ru q => by
  cases rv; cases ru; exact r_ixS h e (q _ fun _ => .str _)
theorem ixN_of {n : Nat} {m : Int} {j : Nat} (e : m = (j : Int)) (h : j < n) : ixN n m = some j := by
  subst e
  unfold ixN
  rw [if_pos (by omega), if_pos (by omega)]
  simp
/-- calls of built-ins -/
theorem dc_of {r : List V → Hp → VK → Prop} {xs : List D} {z : D} (h : ∀ (H R : Hp) (vs : List V) (Q : VK), Same R H → RepL K R vs xs → (∀ w, (∀ R, Rep K R w z) → Q w H) → r vs H Q) : DC K r xs z :=
  fun H R vs Q s rv q => h H R vs Q s rv fun w rw => q w H R (Gr.refl s) (rw R)
theorem rep1 {R : Hp} {vs : List V} {x : D} (h : RepL K R vs [x]) : ∃ v, vs = [v] ∧ Rep K R v x := by
  cases h with
  | cons a b => cases b; exact ⟨_, rfl, a⟩
theorem rep2 {R : Hp} {vs : List V} {x y : D} (h : RepL K R vs [x, y]) : ∃ v u, vs = [v, u] ∧ Rep K R v x ∧ Rep K R u y := by
  cases h with
  | cons a b => obtain ⟨u, rfl, q⟩ := rep1 b; exact ⟨_, u, rfl, a, q⟩
theorem c_leni {ds : List D} : DC K (rLen' K) [.lst ds] (.int ds.length) := dc_of fun H R vs Q s rv q => by
  obtain ⟨v, rfl, r⟩ := rep1 rv
  cases r with
  | lst h1 h2 => exact r_len (rdS s h1) (by rw [h2.len]; exact q _ fun _ => .int _)
theorem c_lenk {ds : List D} : DC K (rLen' K) [.kl ds] (.int ds.length) := dc_of fun H R vs Q s rv q => by
  obtain ⟨v, rfl, r⟩ := rep1 rv
  cases r with
  | kl h1 h2 => exact r_len (s.seq h1) (by rw [h2.len]; exact q _ fun _ => .int _)
theorem o_ixk {ds : List D} {n : Int} {d : D} {j : Nat} (e : ixN ds.length n = some j) (h : ds[j]? = some d) : DO K (rIx' K) (.kl ds) (.int n) d := fun H R v u Q s rv ru q => by
  cases rv with
  | @kl a xs _ h1 h2 =>
    cases ru
    obtain ⟨w, hw, rw'⟩ := h2.get h
    exact r_ixL (s.seq h1) (by unfold atI; rw [h2.len, e]; exact hw) (q w H R (Gr.refl s) rw')
theorem c_lent {ds : List D} : DC K (rLen' K) [.tup ds] (.int ds.length) := dc_of fun H R vs Q s rv q => by
  obtain ⟨v, rfl, r⟩ := rep1 rv
  cases r with
  | tup h1 h2 => exact r_lenT (sqT_same s h1) (by rw [h2.len]; exact q _ fun _ => .int _)
theorem c_lens {z : Str} (h : z.length ≤ sizeLine) : DC K (rLen' K) [.str z] (.int z.length) := dc_of fun H R vs Q s rv q => by
  obtain ⟨v, rfl, r⟩ := rep1 rv
  cases r; exact r_lens h (q _ fun _ => .int _)
theorem c_inti {n : Int} : DC K rInt' [.int n] (.int n) := dc_of fun H R vs Q s rv q => by
  obtain ⟨v, rfl, r⟩ := rep1 rv
  cases r; exact q _ fun _ => .int _
/-- the type of a datum -/
def D.isV : D → Bool
  | .val _ => true
  | .ins _ _ _ => true
  | .kl _ => true
  | .dct _ _ => true
  | .ndc _ _ _ => true
  | .exc _ _ _ _ => true
  | .xt _ => true
  | _ => false
def D.typ : D → String
  | .non => "NoneType"
  | .bl _ => "bool"
  | .int _ => "int"
  | .str _ => "str"
  | .tup _ => "tuple"
  | .lst _ => "list"
  | _ => ""
theorem Rep.tyX {R H : Hp} {v : V} {d : D} (s : Same R H) (h : Rep K R v d) (n : d.isV = false) : TyX K H v (.type d.typ) := by
  cases h with
  | non => exact .base .non
  | bl b => exact .base (.bl b)
  | int i => exact .base (.int i)
  | str x => exact .base (.str x)
  | @tup a xs ds h1 h2 =>
    rcases sqT_same s h1 with (e | ⟨o, e⟩) | ⟨o, its, n, e, c, _⟩
    · exact .base (.tup e)
    · exact .fTuple e
    · exact .kTuple e c
  | @lst a xs ds h1 h2 =>
    rcases (rdS s h1 : SqL K H a xs) with (e | ⟨o, e⟩) | ⟨o, its, n, e, c, _⟩
    · exact .base (.lst e)
    · exact .base (.frz e)
    · exact .kList e c
  | ins _ _ _ => cases n
  | kl _ _ => cases n
  | val v => cases n
  | dct _ _ _ => cases n
  | ndc _ _ _ _ _ _ => cases n
  | exc _ _ _ => cases n
  | xt _ _ _ => cases n
theorem c_isi1 {d : D} {T : String} {b : Bool} (n : d.isV = false) (h : kitB d.typ T = some b) : DC K (rIsi' K) [d, .val (.ty T)] (.bl b) := dc_of fun H R vs Q s rv q => by
  obtain ⟨v, u, rfl, r1, r2⟩ := rep2 rv
  cases r2
  exact r_isi (r1.tyX s n) h (q _ fun _ => .bl _)
end
end G

set_option Elab.async false
set_option linter.all false
set_option maxRecDepth 10000000
set_option maxHeartbeats 4000000
/-! Dst: statements told by data. A slot: nothing known, a datum, an object that this name alone holds (ow). -/
namespace G
open PySem PySem.Spec PyProof.Rows L2

/-- the object stands for the datum, its parts in R -/
def Top (K : PySem.W.Frag) (R : Hp) : HO → D → Prop
  | .lst xs, .lst ds => RepL K R xs ds
  | .ins C _ fs, .ins C' ns ds => C = C' ∧ ns.length = ds.length ∧ ∃ vs, fs = ns.zip vs ∧ RepL K R vs ds
  | .ext φ, .ndc w kds ds => ∃ a xs vs, HO.ext φ = ndO w a xs ∧ xs.map (·.1) = kds.map nkD ∧ (∀ d ∈ kds, d.key = true) ∧ RepL K R (xs.map fun e => V.ref e.2.1) kds ∧ Vals vs (xs.map fun e => e.2.2) ∧ RepL K R vs ds
  | .dK kvs, .dct ks ds => ks.length = ds.length ∧ ∃ vs, kvs = ks.zip vs ∧ RepL K R vs ds
  | _, _ => False
def D.solT : D → Bool
  | .lst ds => D.solL ds
  | .ins _ _ ds => D.solL ds
  | .dct _ ds => D.solL ds
  | .ndc _ kds ds => D.solL kds && D.solL ds
  | _ => false
section
variable {K : PySem.W.Frag} {R R' : Hp} {o : HO} {u : D} {p : Addr}
theorem Top.rep (h : R p = some o) (t : Top K R o u) : Rep K R (.ref p) u := by
  cases o <;> cases u <;> first
    | exact t.elim
    | exact .lst (.inl h) t
    | (obtain ⟨hl, vs, rfl, r⟩ := t; exact .dct h hl r)
    | (obtain ⟨a, xs, vs, e, t1, t2, t3, t4, t5⟩ := t; exact .ndc (e ▸ h) t1 t2 t3 t4 t5)
    | skip
  obtain ⟨rfl, hl, vs, rfl, r⟩ := t
  exact .ins h hl r
theorem Top.mono (s : Same R R') (t : Top K R o u) : Top K R' o u := by
  cases o <;> cases u <;> first
    | exact t.elim
    | exact RepL.mono s _ _ t
    | (obtain ⟨hl, vs, rfl, r⟩ := t; exact ⟨hl, vs, rfl, r.mono s⟩)
    | (obtain ⟨a, xs, vs, e, t1, t2, t3, t4, t5⟩ := t; exact ⟨a, xs, vs, e, t1, t2, t3.mono s, t4, t5.mono s⟩)
    | skip
  obtain ⟨rfl, hl, vs, rfl, r⟩ := t
  exact ⟨rfl, hl, vs, rfl, r.mono s⟩
theorem Top.solid (h : ∀ b zs, Rd R b (.tup zs) → Rd R' b (.tup zs)) (s : u.solT = true) (t : Top K R o u) : Top K R' o u := by
  cases o <;> cases u <;> first
    | exact t.elim
    | exact RepL.solid h _ _ s t
    | (obtain ⟨hl, vs, rfl, r⟩ := t; exact ⟨hl, vs, rfl, r.solid h _ _ s⟩)
    | (obtain ⟨a, xs, vs, e, t1, t2, t3, t4, t5⟩ := t; exact ⟨a, xs, vs, e, t1, t2, t3.solid h _ _ (by simp [D.solT] at s; exact s.1), t4, t5.solid h _ _ (by simp [D.solT] at s; exact s.2)⟩)
    | skip
  obtain ⟨rfl, hl, vs, rfl, r⟩ := t
  exact ⟨rfl, hl, vs, rfl, r.solid h _ _ s⟩
theorem Top.ne (t : Top K R o u) : (∀ zs, o ≠ .tup zs) ∧ (∀ ob w, o ≠ .frz ob w) ∧ ∀ fs, o ≠ .xd fs := by
  cases o <;> cases u <;> first
    | exact t.elim
    | (refine ⟨?_, ?_, ?_⟩ <;> (intros; intro z; cases z))
end

inductive Sl where
  | no | va (d : D) | ow (u : D)
def Sl.fr (l : Bool) : Sl → Option D
  | .no => none
  | .va d => some d
  | .ow u => if l then some u else none
abbrev SEnv := List Sl
/-- what an expression may read: with l the owned objects too -/
def fz (l : Bool) (ρ : SEnv) : DEnv := ρ.map (Sl.fr l)
def SlOk (K : PySem.W.Frag) (R H : Hp) (o : Option V) : Sl → Prop
  | .no => True
  | .va d => ∃ v, o = some v ∧ Rep K R v d
  | .ow u => ∃ p x, o = some (.ref p) ∧ H p = some x ∧ R p = none ∧ Top K R x u
structure EvR (K : PySem.W.Frag) (H0 R0 H R : Hp) (σ : L2.St) (ρ : SEnv) : Prop where
  r : Same R0 R
  i : Same R H
  h : Same H0 H
  o : ∀ a o, H0 a = some o → R0 a = none → R a = none
  len : σ.length = ρ.length
  ok : ∀ (i : Nat) (s : Sl), ρ[i]? = some s → ∃ o, σ[i]? = some o ∧ SlOk K R H o s
  ap : ∀ (i j : Nat) (u w : D) (p : Addr), ρ[i]? = some (.ow u) → ρ[j]? = some (.ow w) → σ[i]? = some (some (.ref p)) → σ[j]? = some (some (.ref p)) → i = j
  fr : ∀ (i : Nat) (u : D) (p : Addr), ρ[i]? = some (.ow u) → σ[i]? = some (some (.ref p)) → H0 p = none
def EvS (K : PySem.W.Frag) (H0 R0 H : Hp) (σ : L2.St) (ρ : SEnv) : Prop := ∃ R, EvR K H0 R0 H R σ ρ
/-- an address that an owning name holds -/
def Own (σ : L2.St) (ρ : SEnv) (a : Addr) : Prop := ∃ (i : Nat) (u : D), ρ[i]? = some (.ow u) ∧ σ[i]? = some (some (.ref a))
open Classical in
noncomputable def lend (l : Bool) (H R : Hp) (σ : L2.St) (ρ : SEnv) : Hp := fun a => if l = true ∧ Own σ ρ a then H a else R a
open Classical in
noncomputable def less (l : Bool) (R' : Hp) (σ : L2.St) (ρ : SEnv) : Hp := fun a => if l = true ∧ Own σ ρ a then none else R' a
/-- less is known of the names -/
def wk : SEnv → SEnv → Prop
  | [], [] => True
  | s :: r, s' :: r' => (s' = .no ∨ s = s') ∧ wk r r'
  | _, _ => False
theorem wk.refl : ∀ ρ, wk ρ ρ
  | [] => trivial
  | _ :: r => ⟨.inr rfl, wk.refl r⟩
theorem wk.len : ∀ {ρ ρ' : SEnv}, wk ρ ρ' → ρ.length = ρ'.length
  | [], [], _ => rfl
  | _ :: _, _ :: _, h => by rw [List.length_cons, List.length_cons, wk.len h.2]
  | [], _ :: _, h => h.elim
  | _ :: _, [], h => h.elim
theorem wk.get : ∀ {ρ ρ' : SEnv}, wk ρ ρ' → ∀ {i : Nat} {s : Sl}, ρ'[i]? = some s → s = .no ∨ ρ[i]? = some s
  | [], [], _, i, s, e => by simp at e
  | a :: _, b :: _, h, 0, s, e => by
    simp at e
    subst e
    rcases h.1 with h | h
    · exact .inl h
    · exact .inr (by simp [h])
  | _ :: _, _ :: _, h, i + 1, s, e => by
    have := wk.get h.2 (i := i) (s := s) (by simpa using e)
    simpa using this
  | [], _ :: _, h, _, _, _ => h.elim
  | _ :: _, [], h, _, _, _ => h.elim
section
variable {K : PySem.W.Frag} {H0 R0 H R H' R' : Hp} {σ : L2.St} {ρ : SEnv} {l : Bool}
theorem EvR.own (e : EvR K H0 R0 H R σ ρ) {a : Addr} (h : Own σ ρ a) : (∃ x u, H a = some x ∧ Top K R x u) ∧ R a = none ∧ H0 a = none := by
  obtain ⟨i, ds, h1, h2⟩ := h
  obtain ⟨o, h3, p, x, e1, e2, e3, t⟩ := e.ok i _ h1
  rw [h2] at h3
  have e4 := Option.some.inj h3
  rw [e1] at e4
  have e5 : a = p := V.ref.inj (Option.some.inj e4)
  subst e5
  exact ⟨⟨x, _, e2, t⟩, e3, e.fr i ds a h1 h2⟩
theorem lend_yes {a : Addr} (h : l = true ∧ Own σ ρ a) : lend l H R σ ρ a = H a := by unfold lend; rw [if_pos h]
theorem lend_no {a : Addr} (h : ¬ (l = true ∧ Own σ ρ a)) : lend l H R σ ρ a = R a := by unfold lend; rw [if_neg h]
theorem less_yes {a : Addr} (h : l = true ∧ Own σ ρ a) : less l R' σ ρ a = none := by unfold less; rw [if_pos h]
theorem less_no {a : Addr} (h : ¬ (l = true ∧ Own σ ρ a)) : less l R' σ ρ a = R' a := by unfold less; rw [if_neg h]
theorem lend_f : lend false H R σ ρ = R := by funext a; exact lend_no (fun z => by cases z.1)
theorem less_f : less false R' σ ρ = R' := by funext a; exact less_no (fun z => by cases z.1)
theorem EvR.up (e : EvR K H0 R0 H R σ ρ) : Same R (lend l H R σ ρ) := fun a o h => by
  rw [lend_no (fun z => by rw [(e.own z.2).2.1] at h; cases h)]
  exact h
theorem EvR.lendI (e : EvR K H0 R0 H R σ ρ) : Same (lend l H R σ ρ) H := fun a o h => by
  by_cases z : l = true ∧ Own σ ρ a
  · rw [lend_yes z] at h; exact h
  · rw [lend_no z] at h; exact e.i a o h
theorem EvR.env (e : EvR K H0 R0 H R σ ρ) : EnvR K (lend l H R σ ρ) σ (fz l ρ) := ⟨by rw [e.len]; simp [fz], fun i d h => by
  unfold fz at h
  rw [List.getElem?_map] at h
  cases hs : ρ[i]? with
  | none => rw [hs] at h; cases h
  | some s =>
    rw [hs] at h
    obtain ⟨o, h1, h2⟩ := e.ok i s hs
    cases s with
    | no => cases h
    | va d' =>
      obtain ⟨v, rfl, r⟩ := h2
      have : d' = d := Option.some.inj (Option.some.inj h)
      subst this
      exact ⟨v, h1, r.mono e.up⟩
    | ow u =>
      cases l with
      | false => cases h
      | true =>
        have : u = d := Option.some.inj (Option.some.inj h)
        subst this
        obtain ⟨p, x, rfl, hp, hr, t⟩ := h2
        exact ⟨.ref p, h1, (t.mono e.up).rep (by rw [lend_yes ⟨rfl, i, u, hs, h1⟩]; exact hp)⟩⟩
/-- behind an expression -/
theorem EvR.run (e : EvR K H0 R0 H R σ ρ) (g : Gr H (lend l H R σ ρ) H' R') : EvR K H0 R0 H' (less l R' σ ρ) σ ρ ∧ Same R (less l R' σ ρ) ∧
    (∀ v d, (l = true → d.sol = true) → Rep K R' v d → Rep K (less l R' σ ρ) v d) ∧ (∀ vs ds, (l = true → D.solL ds = true) → RepL K R' vs ds → RepL K (less l R' σ ρ) vs ds) ∧ (∀ a, R' a = none → less l R' σ ρ a = none) ∧
    ∀ a o, R' a = some o → ((∃ zs, o = .tup zs) ∨ ∃ fs, o = .xd fs) → less l R' σ ρ a = some o := by
  have up : Same R (less l R' σ ρ) := fun a o h => by
    rw [less_no (fun z => by rw [(e.own z.2).2.1] at h; cases h)]
    exact g.r a o (e.up a o h)
  have nx : ∀ b o, R' b = some o → ((∃ zs, o = .tup zs) ∨ (∃ fs, o = .xd fs) ∨ ∃ ob w, o = .frz ob w) → ¬ (l = true ∧ Own σ ρ b) := fun b o h q z => by
    obtain ⟨⟨x, u, hx, t⟩, _, _⟩ := e.own z.2
    have h1 : R' b = some x := g.r b _ (by rw [lend_yes z]; exact hx)
    rw [h] at h1
    cases h1
    obtain ⟨n1, n2, n3⟩ := t.ne
    rcases q with ⟨zs, q⟩ | ⟨fs, q⟩ | ⟨ob, w, q⟩
    · exact n1 zs q
    · exact n3 fs q
    · exact n2 ob w q
  have tu : ∀ b zs, Rd R' b (.tup zs) → Rd (less l R' σ ρ) b (.tup zs) := fun b zs h => by
    rcases h with h | ⟨o, h⟩
    · exact .inl (by rw [less_no (nx b _ h (.inl ⟨zs, rfl⟩))]; exact h)
    · exact .inr ⟨o, by rw [less_no (nx b _ h (.inr (.inr ⟨o, _, rfl⟩)))]; exact h⟩
  have eqf : l = false → less l R' σ ρ = R' := fun hl => by
    funext a
    exact less_no (fun z => by rw [hl] at z; cases z.1)
  refine ⟨⟨e.r.trans up, fun a o h => ?_, e.h.trans g.h, fun a o h n => ?_, e.len, fun i s hs => ?_, e.ap, e.fr⟩, up, fun v d hs r => ?_, fun vs ds hs r => ?_, fun a h => ?_, fun a o h q => ?_⟩
  · by_cases z : l = true ∧ Own σ ρ a
    · rw [less_yes z] at h; cases h
    · rw [less_no z] at h; exact g.i a o h
  · by_cases z : l = true ∧ Own σ ρ a
    · exact less_yes z
    · rw [less_no z]
      exact g.o a o (e.h a o h) (by rw [lend_no z]; exact e.o a o h n)
  · obtain ⟨o, h1, h2⟩ := e.ok i s hs
    refine ⟨o, h1, ?_⟩
    cases s with
    | no => trivial
    | va d => obtain ⟨v, h3, r⟩ := h2; exact ⟨v, h3, r.mono up⟩
    | ow u =>
      obtain ⟨p, x, rfl, hp, hr, t⟩ := h2
      refine ⟨p, x, rfl, g.h p _ hp, ?_, t.mono up⟩
      by_cases z : l = true ∧ Own σ ρ p
      · exact less_yes z
      · rw [less_no z]; exact g.o p _ hp (by rw [lend_no z]; exact hr)
  · cases l with
    | false => rw [eqf rfl]; exact r
    | true => exact Rep.solid tu d v (hs rfl) r
  · cases l with
    | false => rw [eqf rfl]; exact r
    | true => exact RepL.solid tu ds vs (hs rfl) r
  · by_cases z : l = true ∧ Own σ ρ a
    · exact less_yes z
    · rw [less_no z]; exact h
  · rw [less_no (nx a o h (q.imp id .inl))]; exact h
theorem EvR.lt (e : EvR K H0 R0 H R σ ρ) {i : Nat} (h : i < ρ.length) : i < σ.length := by rw [e.len]; exact h
theorem EvR.weak {ρ' : SEnv} (e : EvR K H0 R0 H R σ ρ) (w : wk ρ ρ') : EvR K H0 R0 H R σ ρ' := by
  refine ⟨e.r, e.i, e.h, e.o, e.len.trans w.len, fun i s hs => ?_, fun i j u x p h1 h2 => ?_, fun i u p h1 => ?_⟩
  · rcases w.get hs with rfl | h
    · have hi : i < σ.length := by rw [e.len, w.len]; exact (List.getElem?_eq_some_iff.mp hs).1
      exact ⟨_, List.getElem?_eq_getElem hi, trivial⟩
    · exact e.ok i s h
  · rcases w.get h1 with z | g1
    · cases z
    · rcases w.get h2 with z | g2
      · cases z
      · exact e.ap i j u x p g1 g2
  · rcases w.get h1 with z | g1
    · cases z
    · exact e.fr i u p g1
theorem set_self_some {α : Type} {l : List α} {i : Nat} {x y : α} (h : (l.set i x)[i]? = some y) : y = x ∧ i < l.length := by
  have hi : i < l.length := by
    have := (List.getElem?_eq_some_iff.mp h).1
    simpa using this
  rw [List.getElem?_set_self hi] at h
  exact ⟨(Option.some.inj h).symm, hi⟩
/-- a slot takes what is no owned object -/
theorem EvR.setN (e : EvR K H0 R0 H R σ ρ) {i : Nat} {w : Option V} {s0 : Sl} (hn : ∀ u, s0 ≠ .ow u) (r : SlOk K R H w s0) : EvR K H0 R0 H R (σ.set i w) (ρ.set i s0) := by
  have nx : ∀ j u, (ρ.set i s0)[j]? = some (.ow u) → i ≠ j := fun j u h1 z => by
    subst z
    exact hn u (set_self_some h1).1.symm
  refine ⟨e.r, e.i, e.h, e.o, by simp [e.len], fun j s hs => ?_, fun j k ds es p h1 h2 h3 h4 => ?_, fun j ds p h1 h2 => ?_⟩
  · by_cases hj : i = j
    · subst hj
      obtain ⟨rfl, hi⟩ := set_self_some hs
      exact ⟨w, by rw [List.getElem?_set_self (e.lt hi)], r⟩
    · rw [List.getElem?_set_ne hj] at hs ⊢
      exact e.ok j s hs
  · have hj := nx j _ h1
    have hk := nx k _ h2
    rw [List.getElem?_set_ne hj] at h1 h3
    rw [List.getElem?_set_ne hk] at h2 h4
    exact e.ap j k ds es p h1 h2 h3 h4
  · have hj := nx j _ h1
    rw [List.getElem?_set_ne hj] at h1 h2
    exact e.fr j ds p h1 h2
/-- a name takes a datum -/
theorem EvR.setV (e : EvR K H0 R0 H R σ ρ) {i : Nat} {v : V} {d : D} (r : Rep K R v d) : EvR K H0 R0 H R (σ.set i (some v)) (ρ.set i (.va d)) := e.setN (fun _ z => by cases z) ⟨v, rfl, r⟩
theorem EvR.gone (e : EvR K H0 R0 H R σ ρ) {i : Nat} : EvR K H0 R0 H R (σ.set i none) (ρ.set i .no) := e.setN (fun _ z => by cases z) trivial
/-- .. an object of its own -/
theorem EvR.setO (e : EvR K H0 R0 H R σ ρ) {i : Nat} {p : Addr} {x : HO} {u : D} (hp : H p = some x) (hr : R p = none) (h0 : H0 p = none) (t : Top K R x u)
    (hn : ∀ j, j ≠ i → ∀ w, ρ[j]? = some (.ow w) → σ[j]? ≠ some (some (.ref p))) : EvR K H0 R0 H R (σ.set i (some (.ref p))) (ρ.set i (.ow u)) := by
  refine ⟨e.r, e.i, e.h, e.o, by simp [e.len], fun j s hs => ?_, fun j k ds es q h1 h2 h3 h4 => ?_, fun j es q h1 h2 => ?_⟩
  · by_cases hj : i = j
    · subst hj
      obtain ⟨rfl, hi⟩ := set_self_some hs
      exact ⟨some (.ref p), by rw [List.getElem?_set_self (e.lt hi)], p, x, rfl, hp, hr, t⟩
    · rw [List.getElem?_set_ne hj] at hs ⊢
      exact e.ok j s hs
  · by_cases hj : i = j
    · by_cases hk : i = k
      · exact hj.symm.trans hk
      · subst hj
        have e1 := (set_self_some h3).1
        rw [List.getElem?_set_ne hk] at h2 h4
        have : q = p := V.ref.inj (Option.some.inj e1)
        subst this
        exact absurd h4 (hn k (Ne.symm hk) es h2)
    · by_cases hk : i = k
      · subst hk
        have e1 := (set_self_some h4).1
        rw [List.getElem?_set_ne hj] at h1 h3
        have : q = p := V.ref.inj (Option.some.inj e1)
        subst this
        exact absurd h3 (hn j (Ne.symm hj) ds h1)
      · rw [List.getElem?_set_ne hj] at h1 h3
        rw [List.getElem?_set_ne hk] at h2 h4
        exact e.ap j k ds es q h1 h2 h3 h4
  · by_cases hj : i = j
    · subst hj
      have e1 := (set_self_some h2).1
      have : q = p := V.ref.inj (Option.some.inj e1)
      subst this
      exact h0
    · rw [List.getElem?_set_ne hj] at h1 h2
      exact e.fr j es q h1 h2
/-- the object that a name holds is changed -/
theorem EvR.put (e : EvR K H0 R0 H R σ ρ) {i : Nat} {p : Addr} {u w : D} {y : HO} (h1 : ρ[i]? = some (.ow u)) (h2 : σ[i]? = some (some (.ref p))) (t : Top K R y w) : EvR K H0 R0 (upd H p y) R σ (ρ.set i (.ow w)) := by
  have hi : i < ρ.length := (List.getElem?_eq_some_iff.mp h1).1
  obtain ⟨⟨x, u', hx, t0⟩, hr, h0⟩ := e.own ⟨i, u, h1, h2⟩
  refine ⟨e.r, fun b o h => ?_, fun b o h => ?_, e.o, by simp [e.len], fun j s hs => ?_, fun j k ds' es' q g1 g2 g3 g4 => ?_, fun j es' q g1 g2 => ?_⟩
  · rw [upd_ne (ne_of_none h hr)]; exact e.i b o h
  · rw [upd_ne (ne_of_none h h0)]; exact e.h b o h
  · by_cases hj : i = j
    · subst hj
      obtain ⟨rfl, _⟩ := set_self_some hs
      exact ⟨_, h2, p, y, rfl, upd_same, hr, t⟩
    · rw [List.getElem?_set_ne hj] at hs
      obtain ⟨o, g1, g2⟩ := e.ok j s hs
      refine ⟨o, g1, ?_⟩
      cases s with
      | no => trivial
      | va d => exact g2
      | ow es' =>
        obtain ⟨q, zs, rfl, hq, hqr, rl⟩ := g2
        refine ⟨q, zs, rfl, ?_, hqr, rl⟩
        have hne : q ≠ p := fun z => by
          subst z
          exact hj (e.ap i j u es' q h1 hs h2 g1)
        rw [upd_ne hne]; exact hq
  · have back : ∀ m (fs : D), (ρ.set i (.ow w))[m]? = some (Sl.ow fs) → ∃ fs', ρ[m]? = some (Sl.ow fs') := fun m fs hm => by
      by_cases hmi : i = m
      · subst hmi; exact ⟨u, h1⟩
      · rw [List.getElem?_set_ne hmi] at hm; exact ⟨fs, hm⟩
    obtain ⟨_, b1⟩ := back j _ g1
    obtain ⟨_, b2⟩ := back k _ g2
    exact e.ap j k _ _ q b1 b2 g3 g4
  · by_cases hj : i = j
    · subst hj; exact e.fr i u q h1 g2
    · rw [List.getElem?_set_ne hj] at g1; exact e.fr j es' q g1 g2
/-- at the entry of a def -/
theorem EvR.enter {vs : List V} {ds : List D} {n : Nat} (s : Same R H) (r : RepL K R vs ds) : EvR K H R H R (vs.map some ++ List.replicate n none) (ds.map Sl.va ++ List.replicate n Sl.no) := by
  have noow : ∀ (i : Nat) (es : D), (ds.map Sl.va ++ List.replicate n Sl.no)[i]? ≠ some (Sl.ow es) := fun i es h => by
    have hm := List.mem_of_getElem? h
    rcases List.mem_append.mp hm with hm | hm
    · obtain ⟨d, _, e⟩ := List.mem_map.mp hm; cases e
    · have := (List.mem_replicate.mp hm).2; cases this
  refine ⟨Same.refl _, s, Same.refl _, fun _ _ _ n => n, by simp [r.len], fun i sl hs => ?_, fun i j ds es p h1 => absurd h1 (noow i _), fun i ds p h1 => absurd h1 (noow i _)⟩
  by_cases hi : i < ds.length
  · rw [List.getElem?_append_left (by simpa using hi), List.getElem?_map] at hs
    rw [List.getElem?_append_left (by rw [List.length_map, r.len]; exact hi), List.getElem?_map]
    obtain ⟨v, h1, h2⟩ := r.get (List.getElem?_eq_getElem hi)
    rw [List.getElem?_eq_getElem hi] at hs
    cases hs
    exact ⟨some v, by rw [h1]; rfl, v, rfl, h2⟩
  · have hs' : sl = .no := by
      rw [List.getElem?_append_right (by simpa using hi)] at hs
      exact (List.mem_replicate.mp (List.mem_of_getElem? hs)).2
    subst hs'
    have hl : i < (vs.map some ++ List.replicate n (none : Option V)).length := by
      have := (List.getElem?_eq_some_iff.mp hs).1
      simp [r.len] at this ⊢
      exact this
    exact ⟨_, List.getElem?_eq_getElem hl, trivial⟩
theorem EvR.gr (e : EvR K H0 R0 H R σ ρ) : Gr H0 R0 H R := ⟨e.h, e.r, e.i, e.o⟩
/-- the base moved on -/
theorem EvR.base (e : EvR K H0 R0 H R σ ρ) : EvR K H0 R H R σ ρ := ⟨Same.refl _, e.i, e.h, fun _ _ _ n => n, e.len, e.ok, e.ap, e.fr⟩
theorem EvR.unbase {R1 : Hp} (e : EvR K H0 R1 H R σ ρ) (s : Same R0 R1) (o : ∀ a o, H0 a = some o → R0 a = none → R1 a = none) : EvR K H0 R0 H R σ ρ :=
  ⟨s.trans e.r, e.i, e.h, fun a x h n => e.o a x h (o a x h n), e.len, e.ok, e.ap, e.fr⟩
theorem Gr.unbase {R1 : Hp} (g : Gr H0 R1 H' R') (s : Same R0 R1) (o : ∀ a o, H0 a = some o → R0 a = none → R1 a = none) : Gr H0 R0 H' R' := ⟨g.h, s.trans g.r, g.i, fun a x h n => g.o a x h (o a x h n)⟩
end

inductive Out where
  | nx (ρ : SEnv) | rt (d : D) | rl (ds : List D) | bk (ρ : SEnv) | ct (ρ : SEnv) | ex (ρ : SEnv) (c : Value) (fs : List (Str × D))
def OutOk (K : PySem.W.Frag) (H0 R0 : Hp) (W : WX) (E : Ends) : Out → Prop
  | .nx ρ => ∀ σ' H', EvS K H0 R0 H' σ' ρ → E.nx σ' H'
  | .rt d => ∀ v H' R', Gr H0 R0 H' R' → Rep K R' v d → E.rt v H'
  | .rl ds => ∀ p xs H' R', Gr H0 R0 H' R' → H0 p = none → H' p = some (.lst xs) → R' p = none → xs.length ≤ sizeLine → RepL K R' xs ds → E.rt (.ref p) H'
  | .bk ρ => ∀ σ' H', EvS K H0 R0 H' σ' ρ → E.bk σ' H'
  | .ct ρ => ∀ σ' H', EvS K H0 R0 H' σ' ρ → E.ct σ' H'
  | .ex ρ c fs => ∀ σ' H' R' dd, EvR K H0 R0 H' R' σ' ρ → ExOk K R' dd fs → W c dd σ' H'
/-- from names that stand so the statement ends so -/
def DS (K : PySem.W.Frag) (W : WX) (ρ : SEnv) (t : TS) (o : Out) : Prop := ∀ (H0 R0 H : Hp) (σ : L2.St) (E : Ends), EvS K H0 R0 H σ ρ → OutOk K H0 R0 W E o → t E σ H
theorem OutOk.rebase {K : PySem.W.Frag} {H0 R0 R1 : Hp} {W : WX} {E : Ends} (s : Same R0 R1) (h : ∀ a o, H0 a = some o → R0 a = none → R1 a = none) : ∀ {o : Out}, OutOk K H0 R0 W E o → OutOk K H0 R1 W E o
  | .nx _, k => fun σ' H' ⟨R, e⟩ => k σ' H' ⟨R, e.unbase s h⟩
  | .bk _, k => fun σ' H' ⟨R, e⟩ => k σ' H' ⟨R, e.unbase s h⟩
  | .ct _, k => fun σ' H' ⟨R, e⟩ => k σ' H' ⟨R, e.unbase s h⟩
  | .rt _, k => fun v H' R' g r => k v H' R' (g.unbase s h) r
  | .rl _, k => fun p xs H' R' g a b c n r => k p xs H' R' (g.unbase s h) a b c n r
  | .ex _ _ _, k => fun σ' H' R' dd e x => k σ' H' R' dd (e.unbase s h) x
/-- targets: which slots take what -/
def sets : L2.St → List Nat → List V → L2.St
  | σ, i :: is, u :: us => sets (σ.set i (some u)) is us
  | σ, _, _ => σ
def setsD : DEnv → List (Nat × D) → DEnv
  | δ, [] => δ
  | δ, (i, d) :: r => setsD (δ.set i (some d)) r
def setsS : SEnv → List (Nat × D) → SEnv
  | ρ, [] => ρ
  | ρ, (i, d) :: r => setsS (ρ.set i (.va d)) r
def DG (K : PySem.W.Frag) (g : TG) (d : D) (ps : List (Nat × D)) : Prop := ∀ (H R : Hp) (σ : L2.St) (v : V) (QS : L2.St → Hp → Prop), Same R H → Rep K R v d → (∀ us, RepL K R us (ps.map Prod.snd) → QS (sets σ (ps.map Prod.fst) us) H) → g v σ H QS
def DGs (K : PySem.W.Frag) (g : TGs) (ds : List D) (ps : List (Nat × D)) : Prop := ∀ (H R : Hp) (σ : L2.St) (vs : List V) (QS : L2.St → Hp → Prop), Same R H → RepL K R vs ds → (∀ us, RepL K R us (ps.map Prod.snd) → QS (sets σ (ps.map Prod.fst) us) H) → g vs σ H QS
section
variable {K : PySem.W.Frag} {W : WX} {ρ ρ' : SEnv} {l : Bool} {te : TE} {tt : TT} {t u : TS} {d x : D} {ds es : List D} {i : Nat} {o o' : Out} {b : Bool} {g : TG} {gs : TGs} {ps qs : List (Nat × D)} {c : Value} {fs : List (Str × D)}
theorem EvR.sets {H0 R0 H R : Hp} : ∀ {ps : List (Nat × D)} {us : List V} {σ : L2.St} {ρ : SEnv}, EvR K H0 R0 H R σ ρ → RepL K R us (ps.map Prod.snd) → EvR K H0 R0 H R (G.sets σ (ps.map Prod.fst) us) (setsS ρ ps)
  | [], _, _, _, e, .nil => e
  | (i, d) :: _, v :: _, σ, ρ, e, .cons r rr => EvR.sets (σ := σ.set i (some v)) (ρ := ρ.set i (.va d)) (e.setV r) rr
theorem g_name' : DG K (gName i) d [(i, d)] := fun H R σ v QS s r q => q [v] (.cons r .nil)
theorem g_nil : DGs K gNil [] [] := fun H R σ vs QS s r q => by cases r; exact ⟨rfl, q [] .nil⟩
theorem sets_app : ∀ {is js : List Nat} {us ws : List V} {σ : L2.St}, is.length = us.length → sets (sets σ is us) js ws = sets σ (is ++ js) (us ++ ws)
  | [], _, [], _, _, _ => rfl
  | i :: is, js, u :: us, ws, σ, h => by
    show sets (sets (σ.set i (some u)) is us) js ws = sets (σ.set i (some u)) (is ++ js) (us ++ ws)
    exact sets_app (by simpa using h)
  | [], _, _ :: _, _, _, h => by simp at h
  | _ :: _, _, [], _, _, h => by simp at h
theorem g_cons (h1 : DG K g d ps) (h2 : DGs K gs ds qs) : DGs K (gCons g gs) (d :: ds) (ps ++ qs) := fun H R σ vs QS s r q => by
  cases r with
  | @cons v vs _ _ r rr =>
    refine ⟨v, vs, rfl, h1 H R σ v _ s r fun us ru => h2 H R _ vs QS s rr fun ws rw' => ?_⟩
    rw [sets_app (by rw [List.length_map, ru.len, List.length_map])]
    have := q (us ++ ws) (by rw [List.map_append]; exact ru.app rw')
    rw [List.map_append] at this
    exact this
theorem g_tup {n : Nat} (h : DGs K gs ds ps) (hn : ds.length = n) : DG K (gTup K n gs) (.tup ds) ps := fun H R σ v QS s r q => by
  cases r with
  | tup h1 h2 => exact ⟨_, _, rfl, sqT_same s h1, by rw [h2.len]; exact hn, h H R σ _ QS s h2 q⟩

/-! ### the statements -/
theorem x_next : DS K W ρ tNext (.nx ρ) := fun H0 R0 H σ E e k => k σ H e
theorem x_brk : DS K W ρ tBreak (.bk ρ) := fun H0 R0 H σ E e k => k σ H e
theorem x_cont : DS K W ρ tCont (.ct ρ) := fun H0 R0 H σ E e k => k σ H e
theorem x_seq (h1 : DS K W ρ t (.nx ρ')) (h2 : DS K W ρ' u o) : DS K W ρ (tSeq t u) o := fun H0 R0 H σ E e k =>
  h1 H0 R0 H σ _ e fun σ' H' e' => h2 H0 R0 H' σ' E e' k
/-- what leaves the statement leaves the block -/
def Out.out : Out → Bool
  | .nx _ => false
  | _ => true
theorem x_leave (h1 : DS K W ρ t o) (ho : o.out = true) : DS K W ρ (tSeq t u) o := fun H0 R0 H σ E e k =>
  h1 H0 R0 H σ _ e (by cases o <;> first | (cases ho; done) | exact k)
theorem x_is (h : DS K W ρ t o) (e : o = o') : DS K W ρ t o' := e ▸ h
theorem x_weak (w : wk ρ ρ') (h : DS K W ρ' t o) : DS K W ρ t o := fun H0 R0 H σ E ⟨R, e⟩ k => h H0 R0 H σ E ⟨R, e.weak w⟩ k
/-- the outcome weakened -/
def wkO : Out → Out → Prop
  | .nx ρ, .nx ρ' => wk ρ ρ'
  | .bk ρ, .bk ρ' => wk ρ ρ'
  | .ct ρ, .ct ρ' => wk ρ ρ'
  | .ex ρ c fs, .ex ρ' c' fs' => wk ρ ρ' ∧ c = c' ∧ fs = fs'
  | a, b => a = b
theorem OutOk.weak {H0 R0 : Hp} {E : Ends} (w : wkO o o') (k : OutOk K H0 R0 W E o') : OutOk K H0 R0 W E o := by
  cases o <;> cases o' <;> first
    | (exact fun σ' H' ⟨R, e⟩ => k σ' H' ⟨R, e.weak w⟩)
    | (cases w; exact k)
    | (obtain ⟨w, rfl, rfl⟩ := w; exact fun σ' H' R' dd e x => k σ' H' R' dd (e.weak w) x)
    | (exact absurd w (by simp [wkO]))
theorem x_weakO (h : DS K W ρ t o) (w : wkO o o') : DS K W ρ t o' := fun H0 R0 H σ E e k => h H0 R0 H σ E e (k.weak w)
theorem x_if (l : Bool) (h1 : DT K (fz l ρ) tt b) (h2 : b = true → DS K W ρ t o) (h3 : b = false → DS K W ρ u o) : DS K W ρ (tIfS tt t u) o := fun H0 R0 H σ E ⟨R, e⟩ k =>
  h1 H _ σ _ e.lendI e.env fun H1 R1 g => by
    have e1 := (e.run g).1
    cases b with
    | true => exact if_tt (h2 rfl H0 R0 H1 σ E ⟨_, e1⟩ k)
    | false => exact if_ff (h3 rfl H0 R0 H1 σ E ⟨_, e1⟩ k)
theorem x_asg (l : Bool) (h1 : DE K (fz l ρ) te d) (hg : DG K g d ps) (hs : l = true → d.sol = true) : DS K W ρ (tAsg te g) (.nx (setsS ρ ps)) := fun H0 R0 H σ E ⟨R, e⟩ k =>
  h1 H _ σ _ e.lendI e.env fun v H1 R1 g' r => by
    obtain ⟨e1, _, q, _⟩ := e.run g'
    exact hg H1 _ σ v _ e1.i (q v d hs r) fun us ru => k _ H1 ⟨_, e1.sets ru⟩
theorem x_set (l : Bool) (h1 : DE K (fz l ρ) te d) (hs : l = true → d.sol = true) : DS K W ρ (tAsg te (gName i)) (.nx (ρ.set i (.va d))) := x_asg l h1 g_name' hs
theorem EvR.notOwn {H0 R0 H R : Hp} {σ : L2.St} (e : EvR K H0 R0 H R σ ρ) {p : Addr} (hp : H p = none) : ¬ Own σ ρ p := fun h => by
  obtain ⟨⟨x, u, hx, _⟩, _⟩ := e.own h
  rw [hp] at hx; cases hx
theorem x_setL (l : Bool) (h1 : DL K (fz l ρ) te ds) (hs : l = true → D.solL ds = true) : DS K W ρ (tAsg te (gName i)) (.nx (ρ.set i (.ow (.lst ds)))) := fun H0 R0 H σ E ⟨R, e⟩ k =>
  h1 H _ σ _ e.lendI e.env fun p xs H1 R1 g hp h2 h3 h4 r => by
    obtain ⟨e1, _, _, q, n, _⟩ := e.run g
    exact k _ H1 ⟨_, e1.setO h2 (n p h3) (e.h.free hp) (u := .lst ds) (q xs ds hs r) fun j _ es g1 g2 => e.notOwn hp ⟨j, es, g1, g2⟩⟩
theorem x_drop (l : Bool) (h1 : DE K (fz l ρ) te d) : DS K W ρ (tDrop te) (.nx ρ) := fun H0 R0 H σ E ⟨R, e⟩ k =>
  h1 H _ σ _ e.lendI e.env fun v H1 R1 g r => k _ H1 ⟨_, (e.run g).1⟩
theorem EvR.grL {H0 R0 H R H' R' : Hp} {σ : L2.St} (e : EvR K H0 R0 H R σ ρ) (g : Gr H (lend l H R σ ρ) H' R') : Gr H0 R0 H' R' := by
  refine ⟨e.h.trans g.h, (e.r.trans e.up).trans g.r, g.i, fun a o h n => ?_⟩
  by_cases z : l = true ∧ Own σ ρ a
  · rw [(e.own z.2).2.2] at h; cases h
  · exact g.o a o (e.h a o h) (by rw [lend_no z]; exact e.o a o h n)
theorem x_ret (l : Bool) (h1 : DE K (fz l ρ) te d) : DS K W ρ (tRet te) (.rt d) := fun H0 R0 H σ E ⟨R, e⟩ k =>
  h1 H _ σ _ e.lendI e.env fun v H1 R1 g r => k v H1 R1 (e.grL g) r
theorem x_retL (l : Bool) (h1 : DL K (fz l ρ) te ds) : DS K W ρ (tRet te) (.rl ds) := fun H0 R0 H σ E ⟨R, e⟩ k =>
  h1 H _ σ _ e.lendI e.env fun p xs H1 R1 g hp h2 h3 h4 r => k p xs H1 R1 (e.grL g) (e.h.free hp) h2 h3 h4 r
theorem x_retN : DS K W ρ tRetN (.rt .non) := fun H0 R0 H σ E ⟨R, e⟩ k => k .non H R e.gr .non
/-- return x, x an owned list -/
theorem x_retO (h : ρ[i]? = some (.ow (.lst ds))) (hn : ds.length ≤ 10000000) : DS K W ρ (tRet (tVar i)) (.rl ds) := fun H0 R0 H σ E ⟨R, e⟩ k => by
  obtain ⟨o, h1, p, xs, rfl, h2, h3, r⟩ := e.ok i _ h
  cases xs <;> first
    | exact r.elim
    | skip
  rename_i xs
  exact ⟨.ref p, h1, k p xs H R e.gr (e.fr i _ p h h1) h2 h3 (small (by rw [RepL.len r]; exact hn)) r⟩
/-- an owned object may be kept as a datum -/
theorem EvR.freeze {H0 R0 H R : Hp} {σ : L2.St} (e : EvR K H0 R0 H R σ ρ) (h : ρ[i]? = some (.ow x)) : ∃ R', EvR K H0 R0 H R' σ (ρ.set i (.va x)) := by
  have hi : i < ρ.length := (List.getElem?_eq_some_iff.mp h).1
  obtain ⟨o, h1, p, y, rfl, h2, h3, r⟩ := e.ok i _ h
  have h0 := e.fr i _ p h h1
  have up : Same R (upd R p y) := fun b o e' => by rw [upd_ne (ne_of_none e' h3)]; exact e'
  have ne : ∀ m (w : D), (ρ.set i (.va x))[m]? = some (.ow w) → i ≠ m := fun m w hm z => by
    subst z
    have := (set_self_some hm).1; cases this
  refine ⟨upd R p y, e.r.trans up, fun b o e' => ?_, e.h, fun a o e' n => ?_, by simp [e.len], fun j s hs => ?_, fun j k ds' es' q g1 g2 g3 g4 => ?_, fun j es' q g1 g2 => ?_⟩
  · by_cases hb : b = p
    · subst hb; rw [upd_same] at e'; rw [h2]; exact e'
    · rw [upd_ne hb] at e'; exact e.i b o e'
  · rw [upd_ne (ne_of_none e' h0)]; exact e.o a o e' n
  · by_cases hj : i = j
    · subst hj
      obtain ⟨rfl, _⟩ := set_self_some hs
      exact ⟨_, h1, .ref p, rfl, (r.mono up).rep upd_same⟩
    · rw [List.getElem?_set_ne hj] at hs
      obtain ⟨o, g1, g2⟩ := e.ok j s hs
      refine ⟨o, g1, ?_⟩
      cases s with
      | no => trivial
      | va d => obtain ⟨v, g3, r'⟩ := g2; exact ⟨v, g3, r'.mono up⟩
      | ow es' =>
        obtain ⟨q, zs, rfl, hq, hqr, rl⟩ := g2
        refine ⟨q, zs, rfl, hq, ?_, rl.mono up⟩
        have hne : q ≠ p := fun z => by
          subst z
          exact hj (e.ap i j x es' q h hs h1 g1)
        rw [upd_ne hne]; exact hqr
  · have n1 := ne j _ g1
    have n2 := ne k _ g2
    rw [List.getElem?_set_ne n1] at g1
    rw [List.getElem?_set_ne n2] at g2
    exact e.ap j k _ _ q g1 g2 g3 g4
  · have n1 := ne j _ g1
    rw [List.getElem?_set_ne n1] at g1
    exact e.fr j es' q g1 g2
theorem x_frz (i : Nat) (h : ρ[i]? = some (.ow x)) (k : DS K W (ρ.set i (.va x)) t o) : DS K W ρ t o := fun H0 R0 H σ E ⟨R, e⟩ q => by
  obtain ⟨R', e'⟩ := e.freeze h
  exact k H0 R0 H σ E ⟨R', e'⟩ q
/-- behind an operation on an owned list -/
theorem x_own {H0 R0 H : Hp} {σ : L2.St} {P : Prop} (h : ρ[i]? = some (.ow (.lst ds))) (e : EvS K H0 R0 H σ ρ) (k : ∀ p xs R, EvR K H0 R0 H R σ ρ → σ[i]? = some (some (.ref p)) → H p = some (.lst xs) → RepL K R xs ds → P) : P := by
  obtain ⟨R, e⟩ := e
  obtain ⟨o, g1, p, xs, rfl, g2, g3, r⟩ := e.ok i _ h
  cases xs <;> first
    | exact r.elim
    | skip
  rename_i xs
  exact k p xs R e g1 g2 r
/-- x.append(e) -/
theorem x_app (l : Bool) (h : ρ[i]? = some (.ow (.lst ds))) (h1 : DE K (fz l ρ) te d) (hs : l = true → d.sol = true) (hn : ds.length < 10000000) : DS K W ρ (tDrop (tBM K "list" rAppend (tVar i) (tCons te tNil))) (.nx (ρ.set i (.ow (.lst (ds ++ [d]))))) := fun H0 R0 H σ E e k =>
  x_own h e fun p xs R e g1 g2 r => by
    refine ⟨.ref p, g1, .inl ⟨rfl, xs, SqL.of g2⟩, ?_⟩
    refine h1 H _ σ _ e.lendI e.env fun v H1 R1 g r1 => ?_
    obtain ⟨e1, up, q, _⟩ := e.run g
    exact ⟨p, xs, v, rfl, rfl, g.h p _ g2, smallL (by rw [r.len]; exact hn), k _ _ ⟨_, e1.put h g1 (w := .lst (ds ++ [d])) (y := .lst (xs ++ [v])) ((r.mono up).app (.cons (q v d hs r1) .nil))⟩⟩
/-- y = x.pop() -/
theorem x_pop (h : ρ[i]? = some (.ow (.lst (ds ++ [d])))) (hg : DG K g d ps) : DS K W ρ (tAsg (tBM K "list" rPop (tVar i) tNil) g) (.nx (setsS (ρ.set i (.ow (.lst ds))) ps)) := fun H0 R0 H σ E e k =>
  x_own h e fun p xs R e g1 g2 r => by
    have hl := r.len
    obtain ⟨v, hv, rv⟩ := r.get (i := ds.length) (d := d) (by simp)
    refine ⟨.ref p, g1, .inl ⟨rfl, xs, SqL.of g2⟩, p, xs, v, rfl, rfl, g2, ?_, ?_⟩
    · rw [hl, List.length_append]; exact hv
    · have e1 := e.put h g1 (w := .lst ds) (y := .lst xs.dropLast) (by have := r.last; rw [List.dropLast_concat] at this; exact this)
      exact hg _ R σ v _ e1.i rv fun us ru => k _ _ ⟨_, e1.sets ru⟩
theorem x_popD (h : ρ[i]? = some (.ow (.lst (ds ++ [d])))) : DS K W ρ (tDrop (tBM K "list" rPop (tVar i) tNil)) (.nx (ρ.set i (.ow (.lst ds)))) := fun H0 R0 H σ E e k =>
  x_own h e fun p xs R e g1 g2 r => by
    have hl := r.len
    obtain ⟨v, hv, rv⟩ := r.get (i := ds.length) (d := d) (by simp)
    refine ⟨.ref p, g1, .inl ⟨rfl, xs, SqL.of g2⟩, p, xs, v, rfl, rfl, g2, ?_, ?_⟩
    · rw [hl, List.length_append]; exact hv
    · exact k _ _ ⟨_, e.put h g1 (w := .lst ds) (y := .lst xs.dropLast) (by have := r.last; rw [List.dropLast_concat] at this; exact this)⟩
/-! ### errors -/
theorem x_raise0 : DS K W ρ (fun _ σ H => W c none σ H) (.ex ρ c []) := fun H0 R0 H σ E ⟨R, e⟩ k => k σ H R none e rfl
theorem EvR.exc {H0 R0 H R H' R' : Hp} {σ : L2.St} {dd : Option Addr} (e : EvR K H0 R0 H R σ ρ) (g : Gr H (lend l H R σ ρ) H' R') (hs : l = true → D.solL (fs.map Prod.snd) = true) (x : ExOk K R' dd fs) : EvR K H0 R0 H' (less l R' σ ρ) σ ρ ∧ ExOk K (less l R' σ ρ) dd fs := by
  obtain ⟨e1, _, _, q, _, k⟩ := e.run g
  refine ⟨e1, ?_⟩
  cases dd with
  | none => exact x
  | some a =>
    obtain ⟨h0, vs, h1, h2⟩ := x
    exact ⟨h0, vs, k a _ h1 (.inr ⟨_, rfl⟩), q _ _ hs h2⟩
theorem x_setX (l : Bool) (h1 : DEx K W (fz l ρ) te c fs) (hs : l = true → D.solL (fs.map Prod.snd) = true) : DS K W ρ (tAsg te g) (.ex ρ c fs) := fun H0 R0 H σ E ⟨R, e⟩ k =>
  h1 H _ σ _ e.lendI e.env fun dd H1 R1 g x => by
    obtain ⟨a, b⟩ := e.exc g hs x
    exact k σ H1 _ dd a b
theorem x_dropX (l : Bool) (h1 : DEx K W (fz l ρ) te c fs) (hs : l = true → D.solL (fs.map Prod.snd) = true) : DS K W ρ (tDrop te) (.ex ρ c fs) := fun H0 R0 H σ E ⟨R, e⟩ k =>
  h1 H _ σ _ e.lendI e.env fun dd H1 R1 g x => by
    obtain ⟨a, b⟩ := e.exc g hs x
    exact k σ H1 _ dd a b
theorem x_retX (l : Bool) (h1 : DEx K W (fz l ρ) te c fs) (hs : l = true → D.solL (fs.map Prod.snd) = true) : DS K W ρ (tRet te) (.ex ρ c fs) := fun H0 R0 H σ E ⟨R, e⟩ k =>
  h1 H _ σ _ e.lendI e.env fun dd H1 R1 g x => by
    obtain ⟨a, b⟩ := e.exc g hs x
    exact k σ H1 _ dd a b
def Out.noEx : Out → Bool
  | .ex _ _ _ => false
  | _ => true
/-- try: nothing is raised -/
theorem x_tryN {tb : WX → TS} {w : Ends → WX} (hb : ∀ W, DS K W ρ (tb W) o) (ho : o.noEx = true) : DS K W ρ (fun D σ H => tb (w D) D σ H) o := fun H0 R0 H σ E e k =>
  hb _ H0 R0 H σ E e (by cases o <;> first | (cases ho; done) | exact k)
/-- except C as e: the suite -/
theorem x_tryAs {tb : WX → TS} {c : Value} {i : Nat} {ts : Addr → Value → Option Addr → TS} {Wout : WX} {c' : Value} (hb : ∀ W, DS K W ρ (tb W) (.ex ρ' c' fs)) (hc : PySem.W.exmOne K c' c = some true)
    (hs : ∀ (a : Addr) (dd : Option Addr) (H0 R0 H R : Hp) (σ : L2.St) (E : Ends), H a = none → EvR K H0 R0 H R σ ρ' → ExOk K R dd fs → OutOk K H0 R0 Wout { nx := fun σ' H' => E.nx (σ'.set i none) H', rt := E.rt, bk := fun σ' H' => E.bk (σ'.set i none) H', ct := fun σ' H' => E.ct (σ'.set i none) H' } o → ts a c' dd { nx := fun σ' H' => E.nx (σ'.set i none) H', rt := E.rt, bk := fun σ' H' => E.bk (σ'.set i none) H', ct := fun σ' H' => E.ct (σ'.set i none) H' } (σ.set i (some (.ref a))) H)
    (ho : ∀ (H0 R0 : Hp) (E : Ends), OutOk K H0 R0 W E o' → OutOk K H0 R0 Wout { nx := fun σ' H' => E.nx (σ'.set i none) H', rt := E.rt, bk := fun σ' H' => E.bk (σ'.set i none) H', ct := fun σ' H' => E.ct (σ'.set i none) H' } o) :
    DS K W ρ (fun D σ H => tb (wAs K c i ts Wout D) D σ H) o' := fun H0 R0 H σ E e k =>
  hb _ H0 R0 H σ E e fun σ' H' R' dd e' x => ⟨true, hc, fun _ a ha => hs a dd H0 R0 H' R' σ' E ha e' x (ho H0 R0 E k), fun z => by cases z⟩
end

/-! ### loops -/
def Goes (N : SEnv → Prop) (o : Out) : Out → Prop
  | .nx ρ => ∃ ρ', wk ρ ρ' ∧ N ρ'
  | .ct ρ => ∃ ρ', wk ρ ρ' ∧ N ρ'
  | .bk ρ => ∃ ρ', wk ρ ρ' ∧ o = .nx ρ'
  | .ex ρ c fs => ∃ ρ', wk ρ ρ' ∧ o = .ex ρ' c fs
  | o' => o = o'
section
variable {K : PySem.W.Frag} {W : WX} {ρ ρ' : SEnv} {l : Bool} {te : TE} {tt : TT} {t u : TS} {o : Out} {g : TG} {wi : TI} {xs : List D}
theorem Goes.ok {H0 R0 : Hp} {E : Ends} {N : SEnv → Prop} {N' : L2.St → Hp → Prop} {o' : Out} (h : Goes N o o') (k : OutOk K H0 R0 W E o) (hn : ∀ ρ σ H, N ρ → EvS K H0 R0 H σ ρ → N' σ H) : OutOk K H0 R0 W { E with nx := N', ct := N', bk := E.nx } o' := by
  cases o' with
  | nx ρ => obtain ⟨ρ', w, n⟩ := h; exact fun σ' H' ⟨R, e⟩ => hn ρ' σ' H' n ⟨R, e.weak w⟩
  | ct ρ => obtain ⟨ρ', w, n⟩ := h; exact fun σ' H' ⟨R, e⟩ => hn ρ' σ' H' n ⟨R, e.weak w⟩
  | bk ρ => obtain ⟨ρ', w, rfl⟩ := h; exact fun σ' H' ⟨R, e⟩ => k σ' H' ⟨R, e.weak w⟩
  | ex ρ c fs => obtain ⟨ρ', w, rfl⟩ := h; exact fun σ' H' R' dd e x => k σ' H' R' dd (e.weak w) x
  | rt d => cases h; exact k
  | rl d => cases h; exact k
theorem x_while (l : Bool) (P : Nat → SEnv → Prop) (n : Nat) (h0 : P n ρ)
    (h : ∀ n ρ, P n ρ → ∃ b, DT K (fz l ρ) tt b ∧ (b = true → ∃ o', DS K W ρ t o' ∧ Goes (fun ρ' => ∃ n', n' < n ∧ P n' ρ') o o') ∧ (b = false → ∃ ρ', wk ρ ρ' ∧ o = .nx ρ')) : DS K W ρ (tWhile tt t) o := fun H0 R0 H σ E e k => by
  refine ⟨fun m σ H => ∃ ρ, P m ρ ∧ EvS K H0 R0 H σ ρ, ⟨n, ρ, h0, e⟩, ?_⟩
  rintro m σ H ⟨ρ, p, R, e⟩
  obtain ⟨b, hb, h1, h2⟩ := h m ρ p
  refine hb H _ σ _ e.lendI e.env fun H1 R1 g => ?_
  have e1 := (e.run g).1
  cases b with
  | true =>
    refine if_tt ?_
    obtain ⟨o', hd, hg⟩ := h1 rfl
    refine ⟨fun σ' H' => ∃ n' ρ', n' < m ∧ P n' ρ' ∧ EvS K H0 R0 H' σ' ρ', fun σ' H' ⟨n', ρ', a, b, c⟩ => ⟨n', a, ρ', b, c⟩, ?_⟩
    refine hd H0 R0 H1 σ _ ⟨_, e1⟩ (hg.ok k ?_)
    rintro ρ' σ' H' ⟨n', a, b⟩ ev
    exact ⟨n', ρ', a, b, ev⟩
  | false =>
    refine if_ff ?_
    obtain ⟨ρ', w, rfl⟩ := h2 rfl
    exact k σ H1 ⟨_, e1.weak w⟩
/-- what a for walks: one datum after another -/
def DWk (K : PySem.W.Frag) (J : It) (R : Hp) (xs : List D) : Prop := ∃ Y, Walk J xs.length (fun H => Same R H) Y ∧ ∀ (i : Nat) (H R2 : Hp) (x : V) (H' : Hp), i < xs.length → Same R R2 → Same R2 H → Y i H x H' → ∃ d R3, xs[i]? = some d ∧ Gr H R2 H' R3 ∧ Rep K R3 x d
def DI (K : PySem.W.Frag) (δ : DEnv) (wi : TI) (xs : List D) : Prop := ∀ (H R : Hp) (σ : L2.St) (Rk : It → Hp → Prop), Same R H → EnvR K R σ δ → (∀ J H' R', Gr H R H' R' → DWk K J R' xs → Rk J H') → wi σ H Rk
theorem EvR.grow {H0 R0 H R H' R' : Hp} {σ : L2.St} (e : EvR K H0 R0 H R σ ρ) (g : Gr H R H' R') : EvR K H0 R0 H' R' σ ρ := by
  have := (e.run (l := false) (by rw [lend_f]; exact g)).1
  rw [less_f] at this
  exact this
theorem x_for (hi : DI K (fz false ρ) wi xs) (P : Nat → SEnv → Prop) (h0 : ∃ ρ', wk ρ ρ' ∧ P 0 ρ')
    (hs : ∀ i d ρ, xs[i]? = some d → P i ρ → ∃ ps, DG K g d ps ∧ ∃ o', DS K W (setsS ρ ps) t o' ∧ Goes (P (i + 1)) o o') (hd : ∀ ρ, P xs.length ρ → ∃ ρ', wk ρ ρ' ∧ o = .nx ρ') : DS K W ρ (tFor wi g t) o := fun H0 R0 H σ E ⟨R, e⟩ k => by
  refine hi H R σ _ e.i (by have := e.env (l := false); rw [lend_f] at this; exact this) fun J H1 R1 g1 ⟨Y, hw, hy⟩ => ?_
  have e1 := e.grow g1
  have s1 : Same R0 R1 := e1.r
  have o1 : ∀ a o, H0 a = some o → R0 a = none → R1 a = none := e1.o
  have k1 : OutOk K H0 R1 W E o := k.rebase s1 o1
  obtain ⟨ρ1, w1, p0⟩ := h0
  refine for_it (D := E) hw (fun i σ H => ∃ ρ, P i ρ ∧ EvS K H0 R1 H σ ρ) ⟨ρ1, p0, R1, (e1.base).weak w1⟩ ?_ ?_ ?_
  · rintro i σ H _ ⟨ρ, _, R2, e2⟩
    exact e2.r.trans e2.i
  · rintro i x σ H H' hi ⟨ρ, p, R2, e2⟩ y
    obtain ⟨d, R3, hd', g3, r3⟩ := hy i H R2 x H' hi e2.r e2.i y
    have e3 := e2.grow g3
    obtain ⟨ps, hg, o', hds, hgo⟩ := hs i d ρ hd' p
    refine hg H' R3 σ x _ e3.i r3 fun us ru => ?_
    exact hds H0 R1 H' _ _ ⟨R3, e3.sets ru⟩ (hgo.ok k1 fun ρ' σ' H'' n ev => ⟨ρ', n, ev⟩)
  · rintro σ H ⟨ρ, p, R2, e2⟩
    obtain ⟨ρ', w, rfl⟩ := hd ρ p
    exact k1 σ H ⟨R2, e2.weak w⟩
/-- a loop whose state at each turn is told -/
theorem x_forE (hi : DI K (fz false ρ) wi xs) (S : Nat → SEnv) (ps : Nat → List (Nat × D)) (h0 : wk ρ (S 0))
    (hs : ∀ i d, xs[i]? = some d → DG K g d (ps i) ∧ ∃ o', DS K W (setsS (S i) (ps i)) t o' ∧ Goes (fun ρ => ρ = S (i + 1)) (.nx (S xs.length)) o') : DS K W ρ (tFor wi g t) (.nx (S xs.length)) := by
  refine x_for hi (fun i ρ => ρ = S i) ⟨S 0, h0, rfl⟩ ?_ ?_
  · rintro i d ρ hd rfl
    obtain ⟨h1, h2⟩ := hs i d hd
    exact ⟨ps i, h1, h2⟩
  · rintro ρ rfl
    exact ⟨_, wk.refl _, rfl⟩

/-! ### iterables -/
variable {δ : DEnv} {ta : TA} {ds : List D}
theorem DWk.plain {J : It} {R : Hp} {n : Nat} {f : Nat → V → Prop} (w : Walk J n (fun H => Same R H) (fun i H x H' => H' = H ∧ f i x)) (hl : xs.length = n) (h : ∀ i x, i < n → f i x → ∃ d, xs[i]? = some d ∧ ∀ R', Same R R' → Rep K R' x d) : DWk K J R xs := by
  subst hl
  refine ⟨_, w, fun i H R2 x H' hi s1 s2 ⟨e, y⟩ => ?_⟩
  subst e
  obtain ⟨d, h1, h2⟩ := h i x hi y
  exact ⟨d, R2, h1, Gr.refl s2, h2 R2 s1⟩
def rngD (lo : Int) (n : Nat) : List D := (List.range n).map fun (i : Nat) => D.int (lo + (i : Int))
theorem rngD_get {lo : Int} {n i : Nat} : (rngD lo n)[i]? = if i < n then some (.int (lo + (i : Int))) else none := by
  unfold rngD
  rw [List.getElem?_map]
  by_cases h : i < n
  · rw [if_pos h, List.getElem?_range h]; rfl
  · rw [if_neg h, List.getElem?_eq_none (by simpa using h)]; rfl
theorem rngD_len {lo : Int} {n : Nat} : (rngD lo n).length = n := by simp [rngD]
theorem wk_rng {R : Hp} {lo : Int} {n : Nat} : DWk K (Itr lo n) R (rngD lo n) := by
  refine DWk.plain (f := fun i x => x = .int (lo + i)) (n := n) (walk_range.mono (fun _ _ => trivial) fun i H x H' _ _ y => y) rngD_len fun i x hi e => ?_
  exact ⟨.int (lo + i), by rw [rngD_get, if_pos hi], fun _ _ => by rw [e]; exact .int _⟩
theorem it_rng1 {m : Int} {n : Nat} (h : DA K δ ta [.int m]) (e : m.toNat = n) (hm : m ≤ 1000000000 ∧ -1000000000 ≤ m) : DI K δ (iRng1 ta) (rngD 0 n) := fun H R σ Rk s ev q =>
  h H R σ _ s ev fun vs H1 R1 g r => by
    obtain ⟨v, rfl, r1⟩ := rep1 r
    cases r1
    subst e
    exact ⟨m, rfl, by omega, by omega, q _ H1 R1 g wk_rng⟩
theorem it_rng2 {a b : Int} {n : Nat} (h : DA K δ ta [.int a, .int b]) (e : (b - a).toNat = n) (hm : (a ≤ 1000000000 ∧ -1000000000 ≤ a) ∧ b ≤ 1000000000 ∧ -1000000000 ≤ b) : DI K δ (iRng2 ta) (rngD a n) := fun H R σ Rk s ev q =>
  h H R σ _ s ev fun vs H1 R1 g r => by
    obtain ⟨v, u, rfl, r1, r2⟩ := rep2 r
    cases r1; cases r2
    subst e
    exact ⟨a, b, rfl, by omega, q _ H1 R1 g wk_rng⟩
/-- a list, a tuple, a text -/
theorem it_lst (h : DE K δ te (.lst ds)) : DI K δ (iAny K te) ds := fun H R σ Rk s ev q =>
  h H R σ _ s ev fun v H1 R1 g r => by
    cases r with
    | @lst a vs _ h1 h2 =>
      refine .inl ⟨a, rfl, ⟨vs, rdS g.i h1⟩, q _ H1 R1 g ?_⟩
      refine DWk.plain (f := fun i x => vs[i]? = some x) (n := vs.length) (walk_list.mono (fun H s => rdS s h1) fun i H x H' _ _ y => y) h2.len.symm fun i x _ e => ?_
      obtain ⟨d, h3, h4⟩ := h2.getV e
      exact ⟨d, h3, fun _ s => h4.mono s⟩
theorem it_kl (h : DE K δ te (.kl ds)) : DI K δ (iAny K te) ds := fun H R σ Rk s ev q =>
  h H R σ _ s ev fun v H1 R1 g r => by
    cases r with
    | @kl a vs _ h1 h2 =>
      refine .inl ⟨a, rfl, ⟨vs, g.i.seq h1⟩, q _ H1 R1 g ?_⟩
      refine DWk.plain (f := fun i x => vs[i]? = some x) (n := vs.length) (walk_list.mono (fun H s => s.seq h1) fun i H x H' _ _ y => y) h2.len.symm fun i x _ e => ?_
      obtain ⟨d, h3, h4⟩ := h2.getV e
      exact ⟨d, h3, fun _ s => h4.mono s⟩
theorem it_tup (h : DE K δ te (.tup ds)) : DI K δ (iAny K te) ds := fun H R σ Rk s ev q =>
  h H R σ _ s ev fun v H1 R1 g r => by
    cases r with
    | @tup a vs _ h1 h2 =>
      refine .inr (.inl ⟨a, rfl, ⟨vs, sqT_same g.i h1⟩, q _ H1 R1 g ?_⟩)
      refine DWk.plain (f := fun i x => vs[i]? = some x) (n := vs.length) (walk_tup.mono (fun H s => sqT_same s h1) fun i H x H' _ _ y => y) h2.len.symm fun i x _ e => ?_
      obtain ⟨d, h3, h4⟩ := h2.getV e
      exact ⟨d, h3, fun _ s => h4.mono s⟩
def signs (z : Str) : List D := z.cps.toList.map fun c => .str ⟨#[c]⟩
theorem it_str {z : Str} (h : DE K δ te (.str z)) : DI K δ (iAny K te) (signs z) := fun H R σ Rk s ev q =>
  h H R σ _ s ev fun v H1 R1 g r => by
    cases r
    refine .inr (.inr ⟨z, rfl, q _ H1 R1 g ?_⟩)
    refine DWk.plain (f := fun i x => ∃ c, z.cps[i]? = some c ∧ x = .str ⟨#[c]⟩) (n := z.cps.size) (walk_str.mono (fun _ _ => trivial) fun i H x H' _ _ y => y) (by simp [signs]) fun i x _ ⟨c, e, hx⟩ => ?_
    refine ⟨.str ⟨#[c]⟩, ?_, fun _ _ => by rw [hx]; exact .str _⟩
    unfold signs
    rw [List.getElem?_map, Array.getElem?_toList, e]
    rfl
end

/-! ### comprehensions -/
theorem wipe_get : ∀ (vs : List Nat) (σ : L2.St) (j : Nat), (wipe σ vs)[j]? = if j ∈ vs ∧ j < σ.length then some none else σ[j]?
  | [], σ, j => by simp [wipe]
  | i :: vs, σ, j => by
    show ((wipe σ vs).set i none)[j]? = _
    by_cases h2 : i = j
    · subst h2
      by_cases h3 : i < σ.length
      · rw [List.getElem?_set_self (by rw [wipe_length]; exact h3), if_pos ⟨List.mem_cons_self, h3⟩]
      · rw [List.getElem?_eq_none (by rw [List.length_set, wipe_length]; omega), if_neg (fun z => h3 z.2), List.getElem?_eq_none (by omega)]
    · rw [List.getElem?_set_ne h2, wipe_get vs]
      by_cases h1 : j ∈ vs ∧ j < σ.length
      · rw [if_pos h1, if_pos ⟨List.mem_cons_of_mem _ h1.1, h1.2⟩]
      · rw [if_neg h1, if_neg]
        rintro ⟨z1, z2⟩
        rcases List.mem_cons.mp z1 with z | z
        · exact h2 z.symm
        · exact h1 ⟨z, z2⟩
theorem sets_get : ∀ (is : List Nat) (us : List V) (σ : L2.St) (j : Nat), j ∉ is → (sets σ is us)[j]? = σ[j]?
  | [], _, _, _, _ => by simp [sets]
  | _ :: _, [], _, _, _ => by simp [sets]
  | i :: is, u :: us, σ, j, h => by
    show (sets (σ.set i (some u)) is us)[j]? = _
    rw [sets_get is us _ j (fun z => h (List.mem_cons_of_mem _ z)), List.getElem?_set_ne (fun z => h (by rw [z]; exact List.mem_cons_self))]
theorem sets_len : ∀ (is : List Nat) (us : List V) (σ : L2.St), (sets σ is us).length = σ.length
  | [], _, _ => by simp [sets]
  | _ :: _, [], _ => by simp [sets]
  | i :: is, u :: us, σ => by
    show (sets (σ.set i (some u)) is us).length = _
    rw [sets_len is us, List.length_set]
theorem wipe_sets {is vs : List Nat} {us : List V} {σ : L2.St} (h : ∀ i ∈ is, i ∈ vs) : wipe (sets (wipe σ vs) is us) vs = wipe σ vs := by
  refine List.ext_getElem? fun j => ?_
  rw [wipe_get, wipe_get, sets_len, wipe_length]
  by_cases hj : j ∈ vs ∧ j < σ.length
  · rw [if_pos hj, if_pos hj]
  · rw [if_neg hj, if_neg hj]
    by_cases h1 : j ∈ vs
    · have h2 : ¬ j < σ.length := fun z => hj ⟨h1, z⟩
      rw [List.getElem?_eq_none (by rw [sets_len, wipe_length]; omega), List.getElem?_eq_none (by omega)]
    · rw [sets_get _ _ _ _ (fun z => h1 (h j z)), wipe_get, if_neg hj]
def wipeD : DEnv → List Nat → DEnv
  | δ, [] => δ
  | δ, i :: is => wipeD (δ.set i none) is
section
variable {K : PySem.W.Frag} {δ : DEnv} {wi : TI} {g : TG} {tt : TT} {te : TE} {vs : List Nat} {xs : List D} {R : Hp} {σ : L2.St}
theorem wipeD_get : ∀ (vs : List Nat) (δ : DEnv) (j : Nat) (d : D), (wipeD δ vs)[j]? = some (some d) → j ∉ vs ∧ δ[j]? = some (some d)
  | [], _, _, _, h => ⟨by simp, h⟩
  | i :: vs, δ, j, d, h => by
    obtain ⟨h1, h2⟩ := wipeD_get vs (δ.set i none) j d h
    by_cases hj : i = j
    · subst hj
      have := (set_self_some h2).1; cases this
    · rw [List.getElem?_set_ne hj] at h2
      refine ⟨fun z => ?_, h2⟩
      rcases List.mem_cons.mp z with z | z
      · exact hj z.symm
      · exact h1 z
theorem wipeD_len : ∀ (vs : List Nat) (δ : DEnv), (wipeD δ vs).length = δ.length
  | [], _ => rfl
  | i :: vs, δ => by
    show (wipeD (δ.set i none) vs).length = _
    rw [wipeD_len vs, List.length_set]
theorem EnvR.wipe (e : EnvR K R σ δ) : EnvR K R (L2.wipe σ vs) (wipeD δ vs) := ⟨by rw [wipeD_len, wipe_length]; exact e.1, fun j d h => by
  obtain ⟨h1, h2⟩ := wipeD_get vs δ j d h
  obtain ⟨v, h3, h4⟩ := e.2 j d h2
  exact ⟨v, by rw [wipe_get, if_neg (fun z => h1 z.1)]; exact h3, h4⟩⟩
theorem setsD_len : ∀ (ps : List (Nat × D)) (δ : DEnv), (setsD δ ps).length = δ.length
  | [], _ => rfl
  | (i, x) :: ps, δ => by
    show (setsD (δ.set i (some x)) ps).length = _
    rw [setsD_len ps, List.length_set]
theorem EnvR.set {i : Nat} {v : V} {d : D} (e : EnvR K R σ δ) (r : Rep K R v d) : EnvR K R (σ.set i (some v)) (δ.set i (some d)) := ⟨by rw [List.length_set, List.length_set]; exact e.1, fun j d' h => by
  by_cases hj : i = j
  · subst hj
    obtain ⟨h1, h2⟩ := set_self_some h
    cases h1
    exact ⟨v, by rw [List.getElem?_set_self (Nat.lt_of_lt_of_le h2 e.1)], r⟩
  · rw [List.getElem?_set_ne hj] at h ⊢
    exact e.2 j d' h⟩
theorem EnvR.sets : ∀ {ps : List (Nat × D)} {us : List V} {σ : L2.St} {δ : DEnv}, EnvR K R σ δ → RepL K R us (ps.map Prod.snd) → EnvR K R (G.sets σ (ps.map Prod.fst) us) (setsD δ ps)
  | [], _, _, _, e, .nil => e
  | (i, d) :: ps, _, σ, δ, e, .cons (v := v) r rr => EnvR.sets (σ := σ.set i (some v)) (δ := δ.set i (some d)) (e.set r) rr
theorem Gr.put {H R H' R' : Hp} (g : Gr H R H' R') {p : Addr} {y : HO} (h : H p = none) (hr : R' p = none) : Gr H R (upd H' p y) R' :=
  ⟨fun b o e => by rw [upd_ne (ne_of_none e h)]; exact g.h b o e, g.r, fun b o e => by rw [upd_ne (ne_of_none e hr)]; exact g.i b o e, g.o⟩
/-- [te for g in wi if tt]: f tells what each turn adds -/
theorem dl_lc (hi : DI K δ wi xs) (f : Nat → Option D) (ps : Nat → List (Nat × D)) (hg : ∀ i d, xs[i]? = some d → DG K g d (ps i) ∧ ∀ p ∈ ps i, p.1 ∈ vs)
    (hs : ∀ i d, xs[i]? = some d → DT K (setsD (wipeD δ vs) (ps i)) tt (f i).isSome ∧ ∀ y, f i = some y → DE K (setsD (wipeD δ vs) (ps i)) te y) (hn : xs.length ≤ 10000000) {ys : List D} (hy : ys = (List.range xs.length).filterMap f) :
    DL K δ (tLc wi g tt te vs) ys := fun H R σ Q s ev q => by
  refine hi H R σ _ s ev fun J H1 R1 g1 ⟨Y, hw, hyl⟩ L hL => ?_
  have rL : R1 L = none := g1.i.free hL
  have HL : H L = none := g1.h.free hL
  have fl : ∀ i, ((List.range i).filterMap f).length ≤ i := fun i => by
    have := List.length_filterMap_le f (List.range i)
    simpa using this
  have fs : ∀ i, (List.range (i + 1)).filterMap f = (List.range i).filterMap f ++ (f i).toList := fun i => by
    rw [List.range_succ, List.filterMap_append]
    cases h : f i <;> simp [h]
  refine lc_it hw (fun i H2 => ∃ R2 acc, Gr H1 R1 H2 R2 ∧ R2 L = none ∧ H2 L = some (.lst acc) ∧ RepL K R2 acc ((List.range i).filterMap f)) ⟨R1, [], ⟨fun b o e => by rw [upd_ne (ne_of_none e hL)]; exact e, Same.refl _, fun b o e => by rw [upd_ne (ne_of_none e rL)]; exact g1.i b o e, fun _ _ _ n => n⟩, rL, upd_same, .nil⟩ ?_ ?_ ?_
  · rintro i H2 _ ⟨R2, acc, g2, _⟩
    exact g2.r.trans g2.i
  · rintro i x H2 H3 hi' ⟨R2, acc, g2, n2, a2, r2⟩ y
    obtain ⟨d, R3, hd, g3, r3⟩ := hyl i H2 R2 x H3 hi' g2.r g2.i y
    obtain ⟨hg1, hg2⟩ := hg i d hd
    have e3 : EnvR K R3 (L2.wipe σ vs) (wipeD δ vs) := (ev.mono ((g1.r.trans g2.r).trans g3.r)).wipe
    have k2 : Gr H2 R2 H3 R3 := g3
    have n3 : R3 L = none := g3.o L _ a2 n2
    have a3 : H3 L = some (.lst acc) := g3.h _ _ a2
    refine hg1 H3 R3 _ x _ g3.i r3 fun us ru => ?_
    refine ⟨wipe_sets fun i' hi2 => ?_, ?_⟩
    · obtain ⟨p, hp, rfl⟩ := List.mem_map.mp hi2
      exact hg2 p hp
    obtain ⟨ht, he⟩ := hs i d hd
    refine ht H3 R3 _ _ g3.i (e3.sets ru) fun H4 R4 g4 => ?_
    have n4 : R4 L = none := g4.o L _ a3 n3
    have a4 : H4 L = some (.lst acc) := g4.h _ _ a3
    have r4 : RepL K R4 acc ((List.range i).filterMap f) := (r2.mono g3.r).mono g4.r
    have g14 : Gr H1 R1 H4 R4 := (g2.trans g3).trans g4
    cases hf : f i with
    | none =>
      refine if_ff ⟨R4, acc, g14, n4, a4, ?_⟩
      rw [fs, hf]
      simpa using r4
    | some z =>
      refine if_tt (he z hf H4 R4 _ _ g4.i ((e3.sets ru).mono g4.r) fun w H5 R5 g5 r5 => ?_)
      have n5 : R5 L = none := g5.o L _ a4 n4
      have a5 : H5 L = some (.lst acc) := g5.h _ _ a4
      refine ⟨acc, a5, smallL (by rw [r4.len]; exact Nat.lt_of_le_of_lt (fl i) (by omega)), R5, acc ++ [w], (g14.trans g5).put hL n5, n5, upd_same, ?_⟩
      rw [fs, hf]
      exact (r4.mono g5.r).app (.cons r5 .nil)
  · rintro H2 ⟨R2, acc, g2, n2, a2, r2⟩
    subst hy
    exact q L acc H2 R2 (g1.trans g2) HL a2 n2 (small (by rw [r2.len]; exact Nat.le_trans (fl _) hn)) r2
end
end G

set_option Elab.async false
set_option linter.all false
set_option maxRecDepth 10000000
set_option maxHeartbeats 4000000
/-! Dop: more words on data; the tactics. -/
namespace G
open PySem PySem.Spec PyProof.Rows L2
section
variable {K : PySem.W.Frag} {W : WX} {δ : DEnv} {ρ ρ' : SEnv} {l : Bool} {ta tb te : TE} {tt : TT} {t u : TS} {a : TA} {d x y z : D} {ds es : List D} {i : Nat} {o o' : Out} {b : Bool} {g : TG} {ps : List (Nat × D)}
/-- a + b of two new lists -/
theorem dl_cat (h1 : DL K δ ta ds) (h2 : DL K δ tb es) (hn : ds.length + es.length ≤ 10000000) : DL K δ (tOp (rAdd' K) ta tb) (ds ++ es) := fun H R σ Q s e q =>
  h1 H R σ _ s e fun p xs H1 R1 g1 p0 p1 p2 _ r1 => h2 H1 R1 σ _ g1.i (e.mono g1.r) fun p' ys H2 R2 g2 q0 q1 q2 _ r2 => by
    have e1 := g2.h _ _ p1
    have l1 := r1.len
    have l2 := r2.len
    have hz : xs.length + ys.length ≤ sizeLine := small (by omega)
    refine .inl ⟨xs, ys, .inl e1, .inl q1, hz, fun p'' hp => ?_⟩
    have gg : Gr H R H2 R2 := g1.trans g2
    refine q p'' (xs ++ ys) _ R2 (gg.trans (Gr.apart gg.i hp)) (gg.h.free hp) upd_same (gg.i.free hp) (by rw [List.length_append]; exact hz) ((r1.mono g2.r).app r2)
theorem dl_is (h : DL K δ te ds) (e : ds = es) : DL K δ te es := e ▸ h
/-- parts of a slice -/
def DP (K : PySem.W.Frag) (δ : DEnv) (to : TO) (o : Option Int) : Prop := ∀ (H R : Hp) (σ : L2.St) (Q : Option Int → Hp → Prop), Same R H → EnvR K R σ δ → (∀ H' R', Gr H R H' R' → Q o H') → to σ H Q
theorem d_part {n : Int} (h : DE K δ te (.int n)) : DP K δ (tPart te) (some n) := fun H R σ Q s e q => h H R σ _ s e fun v H' R' g r => by cases r; exact ⟨n, rfl, q H' R' g⟩
theorem d_noPart : DP K δ tNoPart none := fun H R σ Q s e q => q H R (Gr.refl s)
def cutD {α : Type} (xs : List α) (lo hi : Option Int) : List α := (xs.drop (HT.sIx xs.length 0 lo)).take (HT.sIx xs.length xs.length hi - HT.sIx xs.length 0 lo)
theorem cutD_rep {R : Hp} {vs : List V} {lo hi : Option Int} (r : RepL K R vs ds) : RepL K R (cutV vs lo hi) (cutD ds lo hi) := by
  unfold cutV cutD
  rw [r.len]
  exact (r.drop _).take _
theorem cutD_len {α : Type} (xs : List α) (lo hi : Option Int) : (cutD xs lo hi).length ≤ xs.length := by
  unfold cutD
  rw [List.length_take, List.length_drop]; omega
variable {to tu : TO} {lo hi : Option Int}
theorem dl_cutL (h1 : DE K δ te (.lst ds)) (h2 : DP K δ to lo) (h3 : DP K δ tu hi) (hn : ds.length ≤ 10000000) : DL K δ (tSl (rSl' K) te to tu) (cutD ds lo hi) := fun H R σ Q s e q =>
  h1 H R σ _ s e fun v H1 R1 g1 r1 => h2 H1 R1 σ _ g1.i (e.mono g1.r) fun H2 R2 g2 => h3 H2 R2 σ _ g2.i ((e.mono g1.r).mono g2.r) fun H3 R3 g3 => by
    cases r1 with
    | @lst a xs _ k1 k2 =>
      have gg := (g1.trans g2).trans g3
      have k3 : RepL K R3 xs ds := (k2.mono g2.r).mono g3.r
      refine .inr (.inl ⟨a, xs, rfl, rdS gg.i (rdSame g3.r (rdSame g2.r k1)), fun p hp => ?_⟩)
      refine q p _ _ R3 (gg.trans (Gr.apart gg.i hp)) (gg.h.free hp) upd_same (gg.i.free hp) (small ?_) (cutD_rep k3)
      rw [(cutD_rep (lo := lo) (hi := hi) k3).len]
      exact Nat.le_trans (cutD_len _ _ _) hn
theorem d_cutT (h1 : DE K δ te (.tup ds)) (h2 : DP K δ to lo) (h3 : DP K δ tu hi) : DE K δ (tSl (rSl' K) te to tu) (.tup (cutD ds lo hi)) := fun H R σ Q s e q =>
  h1 H R σ _ s e fun v H1 R1 g1 r1 => h2 H1 R1 σ _ g1.i (e.mono g1.r) fun H2 R2 g2 => h3 H2 R2 σ _ g2.i ((e.mono g1.r).mono g2.r) fun H3 R3 g3 => by
    cases r1 with
    | @tup a xs _ k1 k2 =>
      have gg := (g1.trans g2).trans g3
      have k3 : RepL K R3 xs ds := (k2.mono g2.r).mono g3.r
      have k4 : SqT K R3 a xs := sqT_same g3.r (sqT_same g2.r k1)
      refine .inr (.inr ⟨a, xs, rfl, sqT_same gg.i k4, fun hw => ?_, fun _ p hp => ?_⟩)
      · refine q (.ref a) H3 R3 gg (.tup k4 ?_)
        have := cutD_rep (lo := lo) (hi := hi) k3
        unfold cutV at this
        rw [hw.1, hw.2, List.drop_zero, Nat.sub_zero, List.take_length] at this
        exact this
      · exact q (.ref p) _ _ (gg.trans (Gr.new gg.i hp)) (.tup (SqT.of upd_same) ((cutD_rep k3).mono (Gr.new gg.i hp).r))
theorem d_cutS {z : Str} (h1 : DE K δ te (.str z)) (h2 : DP K δ to lo) (h3 : DP K δ tu hi) (hn : z.length ≤ sizeLine) : DE K δ (tSl (rSl' K) te to tu) (.str (cutS z lo hi)) := fun H R σ Q s e q =>
  h1 H R σ _ s e fun v H1 R1 g1 r1 => h2 H1 R1 σ _ g1.i (e.mono g1.r) fun H2 R2 g2 => h3 H2 R2 σ _ g2.i ((e.mono g1.r).mono g2.r) fun H3 R3 g3 => by
    cases r1
    exact .inl ⟨z, rfl, hn, q _ H3 R3 ((g1.trans g2).trans g3) (.str _)⟩
/-! built-ins -/
theorem c_min2 {n m : Int} : DC K (rMin' K) [.int n, .int m] (.int (if m < n then m else n)) := dc_of fun H R vs Q s rv q => by
  obtain ⟨v, u, rfl, r1, r2⟩ := rep2 rv
  cases r1; cases r2
  exact .inl ⟨n, m, rfl, q _ fun _ => .int _⟩
theorem c_max2 {n m : Int} : DC K (rMax' K) [.int n, .int m] (.int (if m > n then m else n)) := dc_of fun H R vs Q s rv q => by
  obtain ⟨v, u, rfl, r1, r2⟩ := rep2 rv
  cases r1; cases r2
  exact .inl ⟨n, m, rfl, q _ fun _ => .int _⟩
theorem rep_ints {R : Hp} : ∀ {ns : List Int} {vs : List V}, RepL K R vs (ns.map D.int) → vs = ns.map V.int
  | [], _, r => by cases r; rfl
  | n :: ns, _, r => by
    cases r with
    | cons a b =>
      cases a
      rw [rep_ints b]; rfl
theorem c_maxL {ns : List Int} {m : Int} (h1 : m ∈ ns) (h2 : ∀ y ∈ ns, y ≤ m) : DC K (rMax' K) [.lst (ns.map D.int)] (.int m) := dc_of fun H R vs Q s rv q => by
  obtain ⟨v, rfl, r⟩ := rep1 rv
  cases r with
  | @lst a xs _ k1 k2 =>
    have e := rep_ints k2
    subst e
    refine .inr ⟨a, ns, rfl, rdS s k1, List.length_pos_of_mem h1, fun m' m1 m2 => ?_⟩
    have : m' = m := Int.le_antisymm (h2 _ m1) (m2 _ h1)
    rw [this]
    exact q _ fun _ => .int _
theorem c_tupL : DC K (rTuple' K) [.lst ds] (.tup ds) := fun H R vs Q s rv q => by
  obtain ⟨v, rfl, r⟩ := rep1 rv
  cases r with
  | @lst a xs _ k1 k2 => exact ⟨a, xs, rfl, .inl ⟨rdS s k1, fun p hp => q (.ref p) _ _ (Gr.new s hp) (.tup (SqT.of upd_same) (k2.mono (Gr.new s hp).r))⟩⟩
theorem c_tupT : DC K (rTuple' K) [.tup ds] (.tup ds) := fun H R vs Q s rv q => by
  obtain ⟨v, rfl, r⟩ := rep1 rv
  cases r with
  | @tup a xs _ k1 k2 => exact ⟨a, xs, rfl, .inr ⟨sqT_same s k1, q (.ref a) H R (Gr.refl s) (.tup k1 k2)⟩⟩
theorem dl_list (h : DA K δ a [x]) (hx : x = .lst ds ∨ x = .tup ds) (hn : ds.length ≤ 10000000) : DL K δ (tCB (rList' K) a) ds := fun H R σ Q s e q =>
  h H R σ _ s e fun vs H1 R1 g1 r1 => by
    obtain ⟨v, rfl, r⟩ := rep1 r1
    have fin : ∀ xs : List V, RepL K R1 xs ds → ∀ l, H1 l = none → Q (.ref l) (upd H1 l (.lst xs)) := fun xs k2 p hp =>
      q p xs _ R1 (g1.trans (Gr.apart g1.i hp)) (g1.h.free hp) upd_same (g1.i.free hp) (small (by rw [k2.len]; exact hn)) k2
    rcases hx with rfl | rfl
    · cases r with
      | @lst a xs _ k1 k2 => exact ⟨a, xs, rfl, .inl (rdS g1.i k1), fin xs k2⟩
    · cases r with
      | @tup a xs _ k1 k2 => exact ⟨a, xs, rfl, .inr (sqT_same g1.i k1), fin xs k2⟩
def D.isNon : D → Bool
  | .non => true
  | _ => false
def D.isVal : D → Bool
  | .val _ => true
  | _ => false
theorem Rep.non_iff {R : Hp} {v : V} (h : x.isVal = false) (r : Rep K R v x) : decide (v = .non) = x.isNon := by
  cases r <;> first
    | rfl
    | (cases h; done)
    | (exact decide_eq_false (fun z => by cases z))
theorem o_isN (h : x.isVal = false) : DO K rIs' x .non (.bl x.isNon) := fun H R v u Q s rv ru q => by
  have e := rv.non_iff h
  cases ru
  exact .inl ⟨rfl, by rw [e]; exact q _ H R (Gr.refl s) (.bl _)⟩
theorem o_isNN (h : x.isVal = false) : DO K rIsNot' x .non (.bl (!x.isNon)) := fun H R v u Q s rv ru q => by
  have e := rv.non_iff h
  cases ru
  exact .inl ⟨rfl, by rw [e]; exact q _ H R (Gr.refl s) (.bl _)⟩
theorem o_isB {b c : Bool} : DO K rIs' (.bl b) (.bl c) (.bl (decide (b = c))) := do_of fun H R v u Q s rv ru q => by cases rv; cases ru; exact .inr ⟨b, c, rfl, rfl, q _ fun _ => .bl _⟩
theorem o_isNB {b c : Bool} : DO K rIsNot' (.bl b) (.bl c) (.bl (!decide (b = c))) := do_of fun H R v u Q s rv ru q => by cases rv; cases ru; exact .inr ⟨b, c, rfl, rfl, q _ fun _ => .bl _⟩
/-- a + b of lists that stand -/
theorem dl_catD (h1 : DE K δ ta (.lst ds)) (h2 : DE K δ tb (.lst es)) (hn : ds.length + es.length ≤ 10000000) : DL K δ (tOp (rAdd' K) ta tb) (ds ++ es) := fun H R σ Q s e q =>
  h1 H R σ _ s e fun v H1 R1 g1 r1 => h2 H1 R1 σ _ g1.i (e.mono g1.r) fun w H2 R2 g2 r2 => by
    cases r1 with
    | @lst a xs _ k1 k2 =>
      cases r2 with
      | @lst b ys _ m1 m2 =>
        have l1 := k2.len
        have l2 := m2.len
        have hz : xs.length + ys.length ≤ sizeLine := small (by omega)
        have gg : Gr H R H2 R2 := g1.trans g2
        refine .inl ⟨xs, ys, rdSame gg.i (rdSame g2.r k1), rdSame g2.i m1, hz, fun p hp => ?_⟩
        exact q p (xs ++ ys) _ R2 (gg.trans (Gr.apart gg.i hp)) (gg.h.free hp) upd_same (gg.i.free hp) (by rw [List.length_append]; exact hz) ((k2.mono g2.r).app m2)
theorem d_neg {n : Int} (h : DE K δ te (.int n)) : DE K δ (tUn rNeg' te) (.int (-n)) := fun H R σ Q s e q => h H R σ _ s e fun v H' R' g r => by cases r; exact q _ H' R' g (.int _)
/-- isinstance(x, (A, B)) of kinds of data -/
theorem d_isi2 {A B1 : String} {b : Bool} (h : DE K δ te d) (n : d.isV = false) (hk : PySem.W.kitAny K (.type d.typ) [.type A, .type B1] = some b) :
    DE K δ (tCB (rIsi' K) (tCons te (tCons (tTup (tCons (tC (.ty A)) (tCons (tC (.ty B1)) tNil))) tNil))) (.bl b) := fun H R σ Q s e q =>
  h H R σ _ s e fun v H1 R1 g r => ⟨small (by show (2 : Nat) ≤ _; omega), fun p hp => by
    have g2 := Gr.new (u := .tup [V.ty A, V.ty B1]) g.i hp
    refine .inr (.inl ⟨v, p, [V.ty A, V.ty B1], .type d.typ, [.type A, .type B1], b, rfl, upd_same, .cons (.ty A) (.cons (.ty B1) .nil), (r.mono g2.r).tyX g2.i n, hk, ?_⟩)
    exact q (.bl b) _ _ (g.trans g2) (.bl b)⟩
theorem rep_bools {R : Hp} : ∀ {bs : List Bool} {vs : List V}, RepL K R vs (bs.map D.bl) → vs = bs.map V.bl
  | [], _, r => by cases r; rfl
  | b :: bs, _, r => by
    cases r with
    | cons a1 a2 =>
      cases a1
      rw [rep_bools a2]; rfl
theorem c_allB {bs : List Bool} : DC K (rAll K) [.lst (bs.map D.bl)] (.bl (bs.all id)) := dc_of fun H R vs Q s rv q => by
  obtain ⟨v, rfl, r⟩ := rep1 rv
  cases r with
  | @lst a xs _ k1 k2 =>
    have e := rep_bools k2
    subst e
    exact ⟨a, bs, rfl, rdS s k1, q _ fun _ => .bl _⟩
/-! ### writes at an owned list -/
/-- x[i] = e -/
theorem x_put (l : Bool) {ti : TE} {n : Int} {j : Nat} (h : ρ[i]? = some (.ow (.lst ds))) (h1 : DE K (fz l ρ) te d) (hs : l = true → d.sol = true) (h2 : DE K (fz l (ρ.set i (.ow (.lst ds)))) ti (.int n)) (hj : n = (j : Int)) (hlt : j < ds.length) :
    DS K W ρ (tAsg te (gSub (tVar i) ti rSet')) (.nx (ρ.set i (.ow (.lst (ds.set j d))))) := fun H0 R0 H σ E e k =>
  x_own h e fun p xs R e g1 g2 r => by
    refine h1 H _ σ _ e.lendI e.env fun v H1 R1 g r1 => ?_
    obtain ⟨e1, up, q, _⟩ := e.run g
    have hρ : ρ.set i (.ow (.lst ds)) = ρ := by
      refine List.ext_getElem? fun m => ?_
      by_cases hm : i = m
      · subst hm
        rw [List.getElem?_set_self (List.getElem?_eq_some_iff.mp h).1, h]
      · rw [List.getElem?_set_ne hm]
    rw [hρ] at h2
    refine ⟨.ref p, g1, h2 H1 _ σ _ e1.lendI e1.env fun w H2 R2 gg r2 => ?_⟩
    cases r2
    obtain ⟨e2, up2, _⟩ := e1.run gg
    have l1 := r.len
    refine .inl ⟨p, xs, n, j, rfl, rfl, gg.h p _ (g.h p _ g2), ixN_of hj (by omega), k _ _ ⟨_, e2.put h g1 (w := .lst (ds.set j d)) (y := .lst (xs.set j v)) ?_⟩⟩
    exact ((r.mono up).mono up2).set j ((q v d hs r1).mono up2)
/-- x.extend(e), e a new list -/
theorem x_ext (l : Bool) (h : ρ[i]? = some (.ow (.lst ds))) (h1 : DL K (fz l ρ) te es) (hs : l = true → D.solL es = true) (hn : ds.length + es.length ≤ 10000000) : DS K W ρ (tDrop (tBM K "list" (rExtend' K) (tVar i) (tCons te tNil))) (.nx (ρ.set i (.ow (.lst (ds ++ es))))) := fun H0 R0 H σ E e k =>
  x_own h e fun p xs R e g1 g2 r => by
    refine ⟨.ref p, g1, .inl ⟨rfl, xs, SqL.of g2⟩, ?_⟩
    refine h1 H _ σ _ e.lendI e.env fun q0 ys H1 R1 g hq0 hq1 hq2 hq3 r1 => ?_
    obtain ⟨e1, up, _, q, _⟩ := e.run g
    have l1 := r.len
    have l2 := r1.len
    exact ⟨p, q0, xs, ys, rfl, rfl, g.h p _ g2, .inl hq1, small (by omega), k _ _ ⟨_, e1.put h g1 (w := .lst (ds ++ es)) (y := .lst (xs ++ ys)) ((r.mono up).app (q ys es hs r1))⟩⟩
/-- x.extend(e), e a list that stands -/
theorem x_extD (l : Bool) (h : ρ[i]? = some (.ow (.lst ds))) (h1 : DE K (fz l ρ) te (.lst es)) (hs : l = true → D.solL es = true) (hn : ds.length + es.length ≤ 10000000) : DS K W ρ (tDrop (tBM K "list" (rExtend' K) (tVar i) (tCons te tNil))) (.nx (ρ.set i (.ow (.lst (ds ++ es))))) := fun H0 R0 H σ E e k =>
  x_own h e fun p xs R e g1 g2 r => by
    refine ⟨.ref p, g1, .inl ⟨rfl, xs, SqL.of g2⟩, ?_⟩
    refine h1 H _ σ _ e.lendI e.env fun v H1 R1 g r1 => ?_
    obtain ⟨e1, up, _, q, _⟩ := e.run g
    cases r1 with
    | @lst b ys _ m1 m2 =>
      have l1 := r.len
      have l2 := m2.len
      exact ⟨p, b, xs, ys, rfl, rfl, g.h p _ g2, rdSame g.i m1, small (by omega), k _ _ ⟨_, e1.put h g1 (w := .lst (ds ++ es)) (y := .lst (xs ++ ys)) ((r.mono up).app (q ys es hs m2))⟩⟩
/-- y = x.pop() -/
theorem x_pop0 (h : ρ[i]? = some (.ow (.lst (ds ++ [d])))) (hg : DG K g d ps) : DS K W ρ (tAsg (tBM0 K "list" rPop (tVar i)) g) (.nx (setsS (ρ.set i (.ow (.lst ds))) ps)) := x_pop h hg
theorem x_popD0 (h : ρ[i]? = some (.ow (.lst (ds ++ [d])))) : DS K W ρ (tDrop (tBM0 K "list" rPop (tVar i))) (.nx (ρ.set i (.ow (.lst ds)))) := x_popD h
/-! ### range downwards -/
def rngDn (hi : Int) (n : Nat) : List D := (List.range n).map fun (i : Nat) => D.int (hi + (i : Nat) * (-1))
theorem it_rngDn {a1 b1 : Int} {n : Nat} (h : DA K δ a [.int a1, .int b1, .int (-1)]) (e : (a1 - b1).toNat = n) (hm : (a1 ≤ 1000000000 ∧ -1000000000 ≤ a1) ∧ b1 ≤ 1000000000 ∧ -1000000000 ≤ b1) : DI K δ (iRng3 a) (rngDn a1 n) := fun H R σ Rk s ev q =>
  h H R σ _ s ev fun vs H1 R1 g r => by
    cases r with
    | cons r1 rr =>
      obtain ⟨v, u, rfl, r2, r3⟩ := rep2 rr
      cases r1; cases r2; cases r3
      subst e
      refine ⟨a1, b1, -1, _, rfl, RgC.neg (by omega) (by omega) (by omega) (by omega), q _ H1 R1 g ?_⟩
      refine DWk.plain (f := fun i x => x = .int (a1 + (i : Nat) * (-1))) (n := (a1 - b1).toNat) (walk_rangeC.mono (fun _ _ => trivial) fun i H x H' _ _ y => y) (by simp [rngDn]) fun i x hi e => ?_
      exact ⟨.int (a1 + (i : Nat) * (-1)), by unfold rngDn; rw [List.getElem?_map, List.getElem?_range hi]; rfl, fun _ _ => by rw [e]; exact .int _⟩
theorem rngD_val {n i : Nat} {d : D} (h : (rngD 0 n)[i]? = some d) : i < n ∧ d = .int (i : Int) := by
  rw [rngD_get] at h
  by_cases hi : i < n
  · rw [if_pos hi] at h
    exact ⟨hi, by rw [← Option.some.inj h, Int.zero_add]⟩
  · rw [if_neg hi] at h; cases h
theorem rngD_valA {a1 : Int} {n i : Nat} {d : D} (h : (rngD a1 n)[i]? = some d) : i < n ∧ d = .int (a1 + (i : Int)) := by
  rw [rngD_get] at h
  by_cases hi : i < n
  · rw [if_pos hi] at h
    exact ⟨hi, (Option.some.inj h).symm⟩
  · rw [if_neg hi] at h; cases h
theorem rngDn_val {a1 : Int} {n i : Nat} {d : D} (h : (rngDn a1 n)[i]? = some d) : i < n ∧ d = .int (a1 - (i : Int)) := by
  unfold rngDn at h
  rw [List.getElem?_map] at h
  by_cases hi : i < n
  · rw [List.getElem?_range hi] at h
    refine ⟨hi, ?_⟩
    have e : D.int (a1 + (i : Nat) * (-1)) = d := Option.some.inj h
    rw [← e, show a1 + ((i : Nat) : Int) * (-1) = a1 - (i : Int) by omega]
  · rw [List.getElem?_eq_none (by simpa using hi)] at h; cases h
theorem rngDn_len {a1 : Int} {n : Nat} : (rngDn a1 n).length = n := by simp [rngDn]
/-! ### a def's promise by its body -/
/-- how the body ends, and what the def gives -/
def Fits : Out → Res → Prop
  | .rt d, .rt d' => d = d'
  | .nx _, .rt d' => d' = .non
  | .rl ds, .rl es => ds = es
  | .rl ds, .rt d' => d' = .lst ds
  | .ex _ c fs, .ex c' fs' => c = c' ∧ fs = fs'
  | _, _ => False
theorem spD_of {rel : List D → Res → Prop} {n : Nat} {E : XK} (h : ∀ ds r, rel ds r → ∃ o, Fits o r ∧ DS K (WF E) (ds.map Sl.va ++ List.replicate (n - ds.length) Sl.no) t o) {N : List Str} (hN : N.length = n) (vs : List V) (H : Hp) (Q : VK)
    (q : spD K rel vs H Q E) : t { nx := fun _ H' => Q .non H', rt := Q } (L2.start N vs) H := by
  obtain ⟨R, ds, r, s, rr, hr, q⟩ := q
  have e := EvR.enter (n := n - ds.length) s rr
  obtain ⟨o, hf, hd⟩ := h ds r hr
  have hst : L2.start N vs = vs.map some ++ List.replicate (n - ds.length) none := by
    unfold L2.start
    rw [hN, rr.len]
  rw [hst]
  refine hd H R H _ _ ⟨R, e⟩ ?_
  cases o with
  | nx ρ =>
    cases r with
    | rt d => cases hf; exact fun σ' H' ⟨R', e'⟩ => q .non H' R' e'.gr .non
    | rl es => exact hf.elim
    | ex c fs => exact hf.elim
  | rt d =>
    cases r with
    | rt d' => cases hf; exact q
    | rl es => exact hf.elim
    | ex c fs => exact hf.elim
  | rl ds =>
    cases r with
    | rt d' =>
      cases hf
      intro p xs H' R' g h0 h1 h2 h3 r
      have up : Same R' (upd R' p (.lst xs)) := fun b o e' => by rw [upd_ne (ne_of_none e' h2)]; exact e'
      refine q (.ref p) H' (upd R' p (.lst xs)) ⟨g.h, g.r.trans up, fun b o e' => ?_, fun a o e' n' => ?_⟩ (.lst (.inl upd_same) (r.mono up))
      · by_cases hb : b = p
        · subst hb; rw [upd_same] at e'; rw [h1]; exact e'
        · rw [upd_ne hb] at e'; exact g.i b o e'
      · rw [upd_ne (ne_of_none e' h0)]; exact g.o a o e' n'
    | rl es => cases hf; exact q
    | ex c fs => exact hf.elim
  | bk ρ => cases r <;> exact hf.elim
  | ct ρ => cases r <;> exact hf.elim
  | ex ρ c fs =>
    cases r with
    | rt d => exact hf.elim
    | rl es => exact hf.elim
    | ex c' fs' =>
      obtain ⟨rfl, rfl⟩ := hf
      exact fun σ' H' R' dd e' x => q dd H' R' e'.gr x
/-- a def that lets nothing out -/
theorem spD_of0 {rel : List D → Res → Prop} {n : Nat} (h : ∀ ds r, rel ds r → ∃ o, Fits o r ∧ ∀ W, DS K W (ds.map Sl.va ++ List.replicate (n - ds.length) Sl.no) t o) {N : List Str} (hN : N.length = n) (vs : List V) (H : Hp) (Q : VK) (E : XK)
    (q : spD K rel vs H Q E) : t { nx := fun _ H' => Q .non H', rt := Q } (L2.start N vs) H :=
  spD_of (fun ds r hr => by obtain ⟨o, a, b⟩ := h ds r hr; exact ⟨o, a, b _⟩) hN vs H Q q
theorem spD_len {rel : List D → Res → Prop} {n : Nat} (h : ∀ ds r, rel ds r → ds.length = n) (vs : List V) (H : Hp) (Q : VK) (E : XK) (q : spD K rel vs H Q E) : vs.length = n := by
  obtain ⟨R, ds, r, s, rr, hr, q⟩ := q
  rw [rr.len]; exact h ds r hr
/-! ### raise, try -/
theorem x_raise {c : Addr} : DS K W ρ (tRaise W (tMk0 c)) (.ex ρ (.ref c) []) := x_raise0
theorem x_try0 {tb : WX → TS} {w : Ends → WX} (hb : ∀ W, DS K W ρ (tb W) o) (ho : o.noEx = true) : DS K W ρ (tTry tb w) o := x_tryN hb ho
def Out.gone (i : Nat) : Out → Out
  | .nx ρ => .nx (ρ.set i .no)
  | .bk ρ => .bk (ρ.set i .no)
  | .ct ρ => .ct (ρ.set i .no)
  | o => o
/-- except C as e, an error without fields -/
theorem x_tryE {tb : WX → TS} {c c' : Value} {ts : Addr → Value → Option Addr → TS} (hb : ∀ W, DS K W ρ (tb W) (.ex ρ' c' [])) (hc : PySem.W.exmOne K c' c = some true)
    (hs : ∀ a, DS K W (ρ'.set i (.va (.val (.ref a)))) (ts a c' none) o) : DS K W ρ (tTry tb (wAs K c i ts W)) (o.gone i) := fun H0 R0 H σ E e k =>
  hb _ H0 R0 H σ E e fun σ' H' R' dd e' x => by
    refine ⟨true, hc, fun _ a ha => ?_, fun z => by cases z⟩
    cases dd with
    | some dd => obtain ⟨h, _⟩ := x; exact absurd rfl h
    | none =>
      refine hs a H0 R0 H' _ _ ⟨R', e'.setV (.val _)⟩ ?_
      cases o with
      | nx ρ1 => exact fun σ2 H2 ⟨R2, e2⟩ => k _ H2 ⟨R2, e2.gone⟩
      | bk ρ1 => exact fun σ2 H2 ⟨R2, e2⟩ => k _ H2 ⟨R2, e2.gone⟩
      | ct ρ1 => exact fun σ2 H2 ⟨R2, e2⟩ => k _ H2 ⟨R2, e2.gone⟩
      | rt d => exact k
      | rl d => exact k
      | ex ρ1 c fs => exact k
theorem c_isE {a D0 A : Addr} {b : Bool} (hC : ExcC K D0) (h : PySem.W.kitOne K (.ref D0) (.ref A) = some b) : DC K (rIsEX K a (.ref D0) none) [.val (.ref a), .val (.ref A)] (.bl b) := dc_of fun H R vs Q s rv q => by
  obtain ⟨v, u, rfl, r1, r2⟩ := rep2 rv
  cases r1; cases r2
  exact ⟨rfl, D0, .ref A, .ref A, b, rfl, hC, rfl, fun u hu => hu, h, q _ fun _ => .bl _⟩
end
end G

set_option Elab.async false
set_option linter.all false
set_option maxRecDepth 10000000
set_option maxHeartbeats 4000000
/-! Dtac: makers of instances; the tactics. -/
namespace G
open PySem PySem.Spec PyProof.Rows L2
/-! ### C(..): a def __init__ that stores fields of self -/
inductive IOut where
  | nx (ρ : SEnv) (ns : List Str) (ds : List D) | ex (ρ : SEnv) (c : Value) (fs : List (Str × D))
def IOk (K : PySem.W.Frag) (H0 R0 : Hp) (W : WX) (C x : Addr) (E : Ends) : IOut → Prop
  | .nx ρ ns ds => ∀ σ' H' R' dx vs, EvR K H0 R0 H' R' σ' ρ → H' x = some (.ins C dx (ns.zip vs)) → ns.length = ds.length → RepL K R' vs ds → R' x = none → E.nx σ' H'
  | .ex ρ c fs => ∀ σ' H' R' dd, EvR K H0 R0 H' R' σ' ρ → ExOk K R' dd fs → W c dd σ' H'
/-- self at x, its fields ns by ds -/
def DSI (K : PySem.W.Frag) (W : WX) (C x : Addr) (ρ : SEnv) (ns : List Str) (ds : List D) (t : TS) (o : IOut) : Prop :=
  ∀ (H0 R0 H R : Hp) (σ : L2.St) (E : Ends) (dx : Addr) (vs : List V), EvR K H0 R0 H R σ ρ → H x = some (.ins C dx (ns.zip vs)) → ns.length = ds.length → RepL K R vs ds → R x = none → H0 x = none → IOk K H0 R0 W C x E o → t E σ H
def Res.io (r : Res) (ρ : SEnv) (C : Addr) : IOut → Prop
  | .nx ρ' ns ds => r = .rt (.ins C ns ds)
  | .ex ρ' c fs => r = .ex c fs
/-- the promise of C.__init__ -/
def spI (K : PySem.W.Frag) (C : Addr) (rel : List D → Res → Prop) : Sp := fun vs H Q E => ∃ x dx ws H00 R ds r, vs = .ref x :: ws ∧ H = upd (upd H00 dx (.own x)) x (.ins C dx []) ∧ H00 x = none ∧ H00 dx = none ∧ dx ≠ x ∧ Same R H00 ∧ RepL K R ws ds ∧ rel ds r ∧
  match r with
  | .rt (.ins C' ns es) => C' = C ∧ ∀ H' R' dx' us, Gr H00 R H' R' → H' x = some (.ins C dx' (ns.zip us)) → ns.length = es.length → RepL K R' us es → R' x = none → Q .non H'
  | .ex c fs => ∀ dd H' R', Gr H00 R H' R' → ExOk K R' dd fs → E c dd H'
  | _ => False
section
variable {K : PySem.W.Frag} {W : WX} {δ : DEnv} {ρ ρ' : SEnv} {l : Bool} {te : TE} {t u : TS} {a : TA} {d : D} {ds es : List D} {C x : Addr} {ns ms : List Str} {o : IOut} {f : Str}
def noOw : SEnv → Bool
  | [] => true
  | .ow _ :: _ => false
  | _ :: r => noOw r
theorem noOw_get : ∀ {ρ : SEnv}, noOw ρ = true → ∀ (i : Nat) (u : D), ρ[i]? ≠ some (.ow u)
  | [], _, i, u => by simp
  | .ow _ :: _, h, _, _ => by cases h
  | .no :: r, h, 0, u => by simp
  | .va _ :: r, h, 0, u => by simp
  | .no :: r, h, i + 1, u => by simpa using noOw_get (ρ := r) h i u
  | .va _ :: r, h, i + 1, u => by simpa using noOw_get (ρ := r) h i u
theorem xi_next : DSI K W C x ρ ns ds tNext (.nx ρ ns ds) := fun H0 R0 H R σ E dx vs e hx hl r rx h0 k => k σ H R dx vs e hx hl r rx
theorem xi_seq (h1 : DSI K W C x ρ ns ds t (.nx ρ' ms es)) (h2 : DSI K W C x ρ' ms es u o) : DSI K W C x ρ ns ds (tSeq t u) o := fun H0 R0 H R σ E dx vs e hx hl r rx h0 k =>
  h1 H0 R0 H R σ _ dx vs e hx hl r rx h0 fun σ' H' R' dx' vs' e' hx' hl' r' rx' => h2 H0 R0 H' R' σ' E dx' vs' e' hx' hl' r' rx' h0 k
def putN {α : Type} (f : Str) (v : α) : List Str → List α → List Str × List α
  | n :: ns, d :: ds => if n = f then (n :: ns, v :: ds) else (n :: (putN f v ns ds).1, d :: (putN f v ns ds).2)
  | _, _ => ([f], [v])
theorem putN_spec {f : Str} {d : D} {R : Hp} {v : V} (rv : Rep K R v d) : ∀ {ns : List Str} {vs : List V} {ds : List D}, ns.length = ds.length → RepL K R vs ds →
    (putN f d ns ds).1.length = (putN f d ns ds).2.length ∧ ∃ us, putF f v (ns.zip vs) = (putN f d ns ds).1.zip us ∧ RepL K R us (putN f d ns ds).2
  | [], vs, ds, hl, r => by
    have : ds = [] := by cases ds <;> simp at hl ⊢
    subst this
    exact ⟨rfl, [v], by simp [putF, putN], .cons rv .nil⟩
  | n :: ns, vs, ds, hl, r => by
    cases r with
    | nil => simp at hl
    | @cons w ws d' ds' r0 rr =>
      have hl' : ns.length = ds'.length := by simpa using hl
      obtain ⟨h1, us, h2, h3⟩ := putN_spec (f := f) rv hl' rr
      simp only [List.zip_cons_cons, putF, putN]
      by_cases hn : n = f
      · rw [if_pos hn, if_pos hn]
        exact ⟨by simp [hl'], v :: ws, by simp, .cons rv rr⟩
      · rw [if_neg hn, if_neg hn]
        refine ⟨by simp [h1], w :: us, by simp [h2], .cons r0 h3⟩
/-- self.f = e -/
theorem xi_fld (hc : Cls K C) (hn : NoAttr K C f) (h0 : ρ[0]? = some (.va (.val (.ref x)))) (h1 : DE K (fz false ρ) te d) (hz : ns.length < 900) (hno : noOw ρ = true := by rfl) :
    DSI K W C x ρ ns ds (sFld K (tVar 0) te f) (.nx ρ (putN f d ns ds).1 (putN f d ns ds).2) := fun H0 R0 H R σ E dx vs e hx hl r rx hx0 k => by
  refine h1 H R σ _ e.i (by have := e.env (l := false); rw [lend_f] at this; exact this) fun v H1 R1 g r1 => ?_
  have e1 := e.grow g
  obtain ⟨o', g1, v', rfl, rv⟩ := e1.ok 0 _ h0
  cases rv
  have hx1 : H1 x = some (.ins C dx (ns.zip vs)) := g.h _ _ hx
  have rx1 : R1 x = none := g.o x _ hx rx
  have hlv := r.len
  refine ⟨.ref x, g1, x, C, dx, _, rfl, hx1, hc, hn, by rw [List.length_zip]; omega, ?_⟩
  obtain ⟨k1, us, k2, k3⟩ := putN_spec (f := f) r1 hl (r.mono g.r)
  rw [k2]
  refine k σ _ R1 dx us ?_ upd_same k1 k3 rx1
  -- x stands apart from what the names hold
  refine ⟨e1.r, fun b o hb => ?_, fun b o hb => ?_, e1.o, e1.len, fun i s hs => ?_, e1.ap, e1.fr⟩
  · rw [upd_ne (ne_of_none hb rx1)]; exact e1.i b o hb
  · rw [upd_ne (ne_of_none hb hx0)]; exact e1.h b o hb
  · obtain ⟨o, q1, q2⟩ := e1.ok i s hs
    refine ⟨o, q1, ?_⟩
    cases s with
    | no => trivial
    | va d => exact q2
    | ow w =>
      obtain ⟨p, y, rfl, hp, hr, tp⟩ := q2
      exact absurd hs (noOw_get hno i w)
/-- a statement that does not touch self -/
theorem xi_frame {o : Out} (h : DS K W ρ t o) (hno : noOw ρ = true) : DSI K W C x ρ ns ds t (match o with | .nx ρ' => .nx ρ' ns ds | .ex ρ' c fs => .ex ρ' c fs | _ => .ex [] .none []) ∨ (o.out = true ∧ o.noEx = true) := by
  cases o with
  | nx ρ' =>
    refine .inl fun H0 R0 H R σ E dx vs e hx hl r rx hx0 k => ?_
    have nn := noOw_get hno
    have eb : EvR K H R H R σ ρ := ⟨Same.refl _, e.i, Same.refl _, fun _ _ _ n => n, e.len, e.ok, e.ap, fun i u p h1 => absurd h1 (nn i u)⟩
    refine h H R H σ E ⟨R, eb⟩ fun σ' H' ⟨R', e'⟩ => ?_
    refine k σ' H' R' dx vs ⟨e.r.trans e'.r, e'.i, e.h.trans e'.h, fun a o h1 h2 => e'.o a o (e.h a o h1) (e.o a o h1 h2), e'.len, e'.ok, e'.ap, fun i u p h1 h2 => e.h.free (e'.fr i u p h1 h2)⟩ (e'.h _ _ hx) hl (r.mono e'.r) (e'.o x _ hx rx)
  | ex ρ' c fs =>
    refine .inl fun H0 R0 H R σ E dx vs e hx hl r rx hx0 k => ?_
    have nn := noOw_get hno
    have eb : EvR K H R H R σ ρ := ⟨Same.refl _, e.i, Same.refl _, fun _ _ _ n => n, e.len, e.ok, e.ap, fun i u p h1 => absurd h1 (nn i u)⟩
    refine h H R H σ E ⟨R, eb⟩ fun σ' H' R' dd e' ex => ?_
    exact k σ' H' R' dd ⟨e.r.trans e'.r, e'.i, e.h.trans e'.h, fun a o h1 h2 => e'.o a o (e.h a o h1) (e.o a o h1 h2), e'.len, e'.ok, e'.ap, fun i u p h1 h2 => e.h.free (e'.fr i u p h1 h2)⟩ ex
  | rt d => exact .inr ⟨rfl, rfl⟩
  | rl d => exact .inr ⟨rfl, rfl⟩
  | bk d => exact .inr ⟨rfl, rfl⟩
  | ct d => exact .inr ⟨rfl, rfl⟩
theorem xi_nx (h : DS K W ρ t (.nx ρ')) (hno : noOw ρ = true := by rfl) : DSI K W C x ρ ns ds t (.nx ρ' ns ds) := (xi_frame h hno).elim id fun z => by cases z.1
theorem xi_ex {c : Value} {fs : List (Str × D)} (h : DS K W ρ t (.ex ρ' c fs)) (hno : noOw ρ = true := by rfl) : DSI K W C x ρ ns ds t (.ex ρ' c fs) := (xi_frame h hno).elim id fun z => by cases z.2
theorem xi_stop {c : Value} {fs : List (Str × D)} (h1 : DSI K W C x ρ ns ds t (.ex ρ' c fs)) : DSI K W C x ρ ns ds (tSeq t u) (.ex ρ' c fs) := fun H0 R0 H R σ E dx vs e hx hl r rx h0 k => h1 H0 R0 H R σ _ dx vs e hx hl r rx h0 k
/-- the def __init__ by its body -/
theorem spI_of {rel : List D → Res → Prop} {n : Nat} {E : XK} (h : ∀ ds r, rel ds r → ∀ x, ∃ o, Res.io r [] C o ∧ DSI K (WF E) C x (.va (.val (.ref x)) :: (ds.map Sl.va ++ List.replicate (n - (ds.length + 1)) Sl.no)) [] [] t o) {N : List Str} (hN : N.length = n) (vs : List V) (H : Hp) (Q : VK)
    (q : spI K C rel vs H Q E) : t { nx := fun _ H' => Q .non H', rt := Q } (L2.start N vs) H := by
  obtain ⟨x, dx, ws, H00, R, ds, r, rfl, rfl, hx, hdx, hne, s, rr, hr, q⟩ := q
  obtain ⟨o, ho, hd⟩ := h ds r hr x
  have e0 := EvR.enter (n := n - (ds.length + 1)) (K := K) (vs := .ref x :: ws) (ds := .val (.ref x) :: ds) s (.cons (.val _) rr)
  have hst : L2.start N (.ref x :: ws) = (V.ref x :: ws).map some ++ List.replicate (n - (ds.length + 1)) none := by
    unfold L2.start
    rw [hN, List.length_cons, rr.len]
  rw [hst]
  have up : Same H00 (upd (upd H00 dx (.own x)) x (.ins C dx [])) := fun b o e => by
    rw [upd_ne (ne_of_none e hx), upd_ne (ne_of_none e hdx)]; exact e
  have e1 : EvR K H00 R (upd (upd H00 dx (.own x)) x (.ins C dx [])) R ((V.ref x :: ws).map some ++ List.replicate (n - (ds.length + 1)) none) (.va (.val (.ref x)) :: (ds.map Sl.va ++ List.replicate (n - (ds.length + 1)) Sl.no)) := by
    refine ⟨e0.r, s.trans up, up, e0.o, e0.len, fun i sl hs => ?_, e0.ap, e0.fr⟩
    obtain ⟨o, g1, g2⟩ := e0.ok i sl hs
    refine ⟨o, g1, ?_⟩
    cases sl with
    | no => trivial
    | va d => exact g2
    | ow w =>
      obtain ⟨p, y, rfl, hp, hr, tp⟩ := g2
      exact ⟨p, y, rfl, up _ _ hp, hr, tp⟩
  refine hd H00 R _ R _ _ dx [] e1 upd_same rfl .nil (s.free hx) hx ?_
  cases o with
  | nx ρ' ns es =>
    have ho' : r = .rt (.ins C ns es) := ho
    subst ho'
    obtain ⟨_, q⟩ := q
    exact fun σ' H' R' dx' us e' a b c d => q H' R' dx' us e'.gr a b c d
  | ex ρ' c fs =>
    have ho' : r = .ex c fs := ho
    subst ho'
    exact fun σ' H' R' dd e' xx => q dd H' R' e'.gr xx
theorem spI_len {rel : List D → Res → Prop} {n : Nat} (h : ∀ ds r, rel ds r → ds.length + 1 = n) (vs : List V) (H : Hp) (Q : VK) (E : XK) (q : spI K C rel vs H Q E) : vs.length = n := by
  obtain ⟨x, dx, ws, H00, R, ds, r, rfl, rfl, hx, hdx, hne, s, rr, hr, q⟩ := q
  rw [List.length_cons, rr.len]; exact h ds r hr
/-- the class is called -/
theorem d_make {rel : List D → Res → Prop} {E : L2.St → XK} (h1 : DA K δ a ds) (h2 : rel ds (.rt (.ins C ns es))) : DE K δ (tMakeS C (spI K C rel) E a) (.ins C ns es) := fun H R σ Q s e q =>
  h1 H R σ _ s e fun vs H1 R1 g1 r1 => fun x dx hx hdx hne => by
    refine ⟨x, dx, vs, H1, R1, ds, _, rfl, rfl, hx, hdx, hne, g1.i, r1, h2, rfl, fun H' R' dx' us g h3 hl r2 h4 => ⟨rfl, ?_⟩⟩
    have up : Same R' (upd R' x (.ins C dx' (ns.zip us))) := fun b o e' => by rw [upd_ne (ne_of_none e' h4)]; exact e'
    refine q (.ref x) H' (upd R' x (.ins C dx' (ns.zip us))) ⟨g1.h.trans g.h, (g1.r.trans g.r).trans up, fun b o e' => ?_, fun a o e' n' => ?_⟩ (.ins upd_same hl (r2.mono up))
    · by_cases hb : b = x
      · subst hb; rw [upd_same] at e'; rw [h3]; exact e'
      · rw [upd_ne hb] at e'; exact g.i b o e'
    · rw [upd_ne (ne_of_none (g1.h a o e') hx)]; exact g.o a o (g1.h a o e') (g1.o a o e' n')
theorem dx_make {rel : List D → Res → Prop} {W : WX} {c : Value} {fs : List (Str × D)} (h1 : DA K δ a ds) (h2 : rel ds (.ex c fs)) : DEx K W δ (tMakeS C (spI K C rel) (WE W) a) c fs := fun H R σ Q s e q =>
  h1 H R σ _ s e fun vs H1 R1 g1 r1 => fun x dx hx hdx hne =>
    ⟨x, dx, vs, H1, R1, ds, .ex c fs, rfl, rfl, hx, hdx, hne, g1.i, r1, h2, fun dd H' R' g xx => q dd H' R' (g1.trans g) xx⟩
end
end G

set_option Elab.async false
set_option linter.all false
set_option maxRecDepth 10000000
set_option maxHeartbeats 4000000
/-! Dwp: statements told forwards: what is to hold of the way they end. -/
namespace G
open PySem PySem.Spec PyProof.Rows L2
/-- the statement ends in one way that O holds of -/
def WP (K : PySem.W.Frag) (W : WX) (ρ : SEnv) (t : TS) (O : Out → Prop) : Prop := ∃ o, O o ∧ DS K W ρ t o
/-- what is wanted of a loop's body: N ahead of the next turn, B behind the loop, O elsewhere -/
def Turns (N : SEnv → Prop) (B : SEnv → Prop) (O : Out → Prop) : Out → Prop
  | .nx ρ => N ρ
  | .ct ρ => N ρ
  | .bk ρ => B ρ
  | o => O o
section
variable {K : PySem.W.Frag} {W : WX} {ρ ρ' : SEnv} {te : TE} {tt : TT} {t u v : TS} {a : TA} {d x : D} {ds es xs : List D} {i : Nat} {b : Bool} {g : TG} {ps : List (Nat × D)} {O O' : Out → Prop} {wi : TI} {c : Value} {fs : List (Str × D)}
theorem WP.of {o : Out} (h : DS K W ρ t o) (q : O o) : WP K W ρ t O := ⟨o, q, h⟩
theorem WP.imp (h : WP K W ρ t O) (q : ∀ o, O o → O' o) : WP K W ρ t O' := let ⟨o, a, b⟩ := h; ⟨o, q o a, b⟩
theorem q_weak (w : wk ρ ρ') (h : WP K W ρ' t O) : WP K W ρ t O := let ⟨o, a, b⟩ := h; ⟨o, a, x_weak w b⟩
theorem DS.unit (h : DS K W ρ (tSeq t tNext) o) : DS K W ρ t o := fun H0 R0 H σ E e k => h H0 R0 H σ E e k
theorem q_last (h : WP K W ρ (tSeq t tNext) O) : WP K W ρ t O := let ⟨o, a, b⟩ := h; ⟨o, a, b.unit⟩
theorem q_assoc (h : WP K W ρ (tSeq t (tSeq u v)) O) : WP K W ρ (tSeq (tSeq t u) v) O := let ⟨o, a, b⟩ := h; ⟨o, a, fun H0 R0 H σ E e k => b H0 R0 H σ E e k⟩
theorem q_then (h : DS K W ρ t (.nx ρ')) (q : WP K W ρ' u O) : WP K W ρ (tSeq t u) O := let ⟨o, a, b⟩ := q; ⟨o, a, x_seq h b⟩
theorem q_done {o : Out} (h : DS K W ρ t o) (ho : o.out = true := by rfl) (q : O o) : WP K W ρ (tSeq t u) O := ⟨o, q, x_leave h ho⟩
theorem q_nx (q : O (.nx ρ)) : WP K W ρ tNext O := ⟨_, q, x_next⟩
theorem q_next (q : WP K W ρ u O) : WP K W ρ (tSeq tNext u) O := q_then x_next q
theorem q_brk (q : O (.bk ρ)) : WP K W ρ (tSeq tBreak u) O := q_done x_brk rfl q
theorem q_cont (q : O (.ct ρ)) : WP K W ρ (tSeq tCont u) O := q_done x_cont rfl q
theorem q_set (l : Bool) (h1 : DE K (fz l ρ) te d) (hs : l = true → d.sol = true) (q : WP K W (ρ.set i (.va d)) u O) : WP K W ρ (tSeq (tAsg te (gName i)) u) O := q_then (x_set l h1 hs) q
theorem q_setL (l : Bool) (h1 : DL K (fz l ρ) te ds) (hs : l = true → D.solL ds = true) (q : WP K W (ρ.set i (.ow (.lst ds))) u O) : WP K W ρ (tSeq (tAsg te (gName i)) u) O := q_then (x_setL l h1 hs) q
theorem q_asg (l : Bool) (h1 : DE K (fz l ρ) te d) (hg : DG K g d ps) (hs : l = true → d.sol = true) (q : WP K W (setsS ρ ps) u O) : WP K W ρ (tSeq (tAsg te g) u) O := q_then (x_asg l h1 hg hs) q
theorem q_drop (l : Bool) (h1 : DE K (fz l ρ) te d) (q : WP K W ρ u O) : WP K W ρ (tSeq (tDrop te) u) O := q_then (x_drop l h1) q
theorem q_app (l : Bool) (h : ρ[i]? = some (.ow (.lst ds))) (h1 : DE K (fz l ρ) te d) (hs : l = true → d.sol = true) (hn : ds.length < 10000000) (q : WP K W (ρ.set i (.ow (.lst (ds ++ [d])))) u O) :
    WP K W ρ (tSeq (tDrop (tBM K "list" rAppend (tVar i) (tCons te tNil))) u) O := q_then (x_app l h h1 hs hn) q
theorem q_ext (l : Bool) (h : ρ[i]? = some (.ow (.lst ds))) (h1 : DL K (fz l ρ) te es) (hs : l = true → D.solL es = true) (hn : ds.length + es.length ≤ 10000000) (q : WP K W (ρ.set i (.ow (.lst (ds ++ es)))) u O) :
    WP K W ρ (tSeq (tDrop (tBM K "list" (rExtend' K) (tVar i) (tCons te tNil))) u) O := q_then (x_ext l h h1 hs hn) q
theorem q_put (l : Bool) {ti : TE} {n : Int} {j : Nat} (h : ρ[i]? = some (.ow (.lst ds))) (h1 : DE K (fz l ρ) te d) (hs : l = true → d.sol = true) (h2 : DE K (fz l (ρ.set i (.ow (.lst ds)))) ti (.int n)) (hj : n = (j : Int)) (hlt : j < ds.length)
    (q : WP K W (ρ.set i (.ow (.lst (ds.set j d)))) u O) : WP K W ρ (tSeq (tAsg te (gSub (tVar i) ti rSet')) u) O := q_then (x_put l h h1 hs h2 hj hlt) q
theorem q_pop (h : ρ[i]? = some (.ow (.lst (ds ++ [d])))) (hg : DG K g d ps) (q : WP K W (setsS (ρ.set i (.ow (.lst ds))) ps) u O) : WP K W ρ (tSeq (tAsg (tBM0 K "list" rPop (tVar i)) g) u) O := q_then (x_pop0 h hg) q
theorem q_popD (h : ρ[i]? = some (.ow (.lst (ds ++ [d])))) (q : WP K W (ρ.set i (.ow (.lst ds))) u O) : WP K W ρ (tSeq (tDrop (tBM0 K "list" rPop (tVar i))) u) O := q_then (x_popD0 h) q
theorem q_ret (l : Bool) (h1 : DE K (fz l ρ) te d) (q : O (.rt d)) : WP K W ρ (tSeq (tRet te) u) O := q_done (x_ret l h1) rfl q
theorem q_retL (l : Bool) (h1 : DL K (fz l ρ) te ds) (q : O (.rl ds)) : WP K W ρ (tSeq (tRet te) u) O := q_done (x_retL l h1) rfl q
theorem q_retO (h : ρ[i]? = some (.ow (.lst ds))) (hn : ds.length ≤ 10000000) (q : O (.rl ds)) : WP K W ρ (tSeq (tRet (tVar i)) u) O := q_done (x_retO h hn) rfl q
theorem q_retN (q : O (.rt .non)) : WP K W ρ (tSeq tRetN u) O := q_done x_retN rfl q
theorem q_if (l : Bool) (h1 : DT K (fz l ρ) tt b) (h2 : b = true → WP K W ρ (tSeq t v) O) (h3 : b = false → WP K W ρ (tSeq u v) O) : WP K W ρ (tSeq (tIfS tt t u) v) O := by
  cases b with
  | true =>
    obtain ⟨o, q, h⟩ := h2 rfl
    refine ⟨o, q, fun H0 R0 H σ E ⟨R, e⟩ k => h1 H _ σ _ e.lendI e.env fun H1 R1 g => if_tt (h H0 R0 H1 σ E ⟨_, (e.run g).1⟩ k)⟩
  | false =>
    obtain ⟨o, q, h⟩ := h3 rfl
    refine ⟨o, q, fun H0 R0 H σ E ⟨R, e⟩ k => h1 H _ σ _ e.lendI e.env fun H1 R1 g => if_ff (h H0 R0 H1 σ E ⟨_, (e.run g).1⟩ k)⟩
theorem q_ifT (l : Bool) (h1 : DT K (fz l ρ) tt true) (h2 : WP K W ρ (tSeq t v) O) : WP K W ρ (tSeq (tIfS tt t u) v) O := q_if l h1 (fun _ => h2) fun z => by cases z
theorem q_ifF (l : Bool) (h1 : DT K (fz l ρ) tt false) (h2 : WP K W ρ (tSeq u v) O) : WP K W ρ (tSeq (tIfS tt t u) v) O := q_if l h1 (fun z => by cases z) fun _ => h2
theorem q_frz (i : Nat) (h : ρ[i]? = some (.ow x)) (q : WP K W (ρ.set i (.va x)) t O) : WP K W ρ t O := let ⟨o, a, b⟩ := q; ⟨o, a, x_frz i h b⟩
theorem q_raise {C : Addr} (q : O (.ex ρ (.ref C) [])) : WP K W ρ (tSeq (tRaise W (tMk0 C)) u) O := q_done x_raise rfl q
theorem q_dropX (l : Bool) (h1 : DEx K W (fz l ρ) te c fs) (hs : l = true → D.solL (fs.map Prod.snd) = true) (q : O (.ex ρ c fs)) : WP K W ρ (tSeq (tDrop te) u) O := q_done (x_dropX l h1 hs) rfl q
theorem q_setX (l : Bool) (h1 : DEx K W (fz l ρ) te c fs) (hs : l = true → D.solL (fs.map Prod.snd) = true) (q : O (.ex ρ c fs)) : WP K W ρ (tSeq (tAsg te g) u) O := q_done (x_setX l h1 hs) rfl q
theorem q_retX (l : Bool) (h1 : DEx K W (fz l ρ) te c fs) (hs : l = true → D.solL (fs.map Prod.snd) = true) (q : O (.ex ρ c fs)) : WP K W ρ (tSeq (tRet te) u) O := q_done (x_retX l h1 hs) rfl q
/-! loops -/
/-- the turns of a for, as data: from the i-th on it ends so -/
inductive Run (K : PySem.W.Frag) (W : WX) (xs : List D) (g : TG) (t : TS) : Nat → SEnv → Out → Prop
  | stop {ρ : SEnv} : Run K W xs g t xs.length ρ (.nx ρ)
  | next {i : Nat} {d : D} {ρ ρ' : SEnv} {ps : List (Nat × D)} {o : Out} : xs[i]? = some d → DG K g d ps → DS K W (setsS ρ ps) t (.nx ρ') → Run K W xs g t (i + 1) ρ' o → Run K W xs g t i ρ o
  | cont {i : Nat} {d : D} {ρ ρ' : SEnv} {ps : List (Nat × D)} {o : Out} : xs[i]? = some d → DG K g d ps → DS K W (setsS ρ ps) t (.ct ρ') → Run K W xs g t (i + 1) ρ' o → Run K W xs g t i ρ o
  | brk {i : Nat} {d : D} {ρ ρ' : SEnv} {ps : List (Nat × D)} : xs[i]? = some d → DG K g d ps → DS K W (setsS ρ ps) t (.bk ρ') → Run K W xs g t i ρ (.nx ρ')
  | rt {i : Nat} {d z : D} {ρ : SEnv} {ps : List (Nat × D)} : xs[i]? = some d → DG K g d ps → DS K W (setsS ρ ps) t (.rt z) → Run K W xs g t i ρ (.rt z)
  | rl {i : Nat} {d : D} {zs : List D} {ρ : SEnv} {ps : List (Nat × D)} : xs[i]? = some d → DG K g d ps → DS K W (setsS ρ ps) t (.rl zs) → Run K W xs g t i ρ (.rl zs)
  | ex {i : Nat} {d : D} {ρ ρ' : SEnv} {c : Value} {fs : List (Str × D)} {ps : List (Nat × D)} : xs[i]? = some d → DG K g d ps → DS K W (setsS ρ ps) t (.ex ρ' c fs) → Run K W xs g t i ρ (.ex ρ' c fs)
theorem Run.lt {n : Nat} {o : Out} (h : Run K W xs g t n ρ o) : n ≤ xs.length := by
  cases h with
  | stop => exact Nat.le_refl _
  | next h _ _ _ => exact Nat.le_of_lt (List.getElem?_eq_some_iff.mp h).1
  | cont h _ _ _ => exact Nat.le_of_lt (List.getElem?_eq_some_iff.mp h).1
  | brk h _ _ => exact Nat.le_of_lt (List.getElem?_eq_some_iff.mp h).1
  | rt h _ _ => exact Nat.le_of_lt (List.getElem?_eq_some_iff.mp h).1
  | rl h _ _ => exact Nat.le_of_lt (List.getElem?_eq_some_iff.mp h).1
  | ex h _ _ => exact Nat.le_of_lt (List.getElem?_eq_some_iff.mp h).1
theorem Run.told (hi : DI K (fz false ρ) wi xs) {o : Out} (h : Run K W xs g t 0 ρ o) : DS K W ρ (tFor wi g t) o := by
  refine x_for hi (fun i ρ => Run K W xs g t i ρ o) ⟨ρ, wk.refl _, h⟩ ?_ ?_
  · intro i d ρ hd hr
    cases hr with
    | stop => rw [List.getElem?_eq_none (Nat.le_refl _)] at hd; cases hd
    | next h1 h2 h3 h4 => rw [h1] at hd; cases hd; exact ⟨_, h2, _, h3, _, wk.refl _, h4⟩
    | cont h1 h2 h3 h4 => rw [h1] at hd; cases hd; exact ⟨_, h2, _, h3, _, wk.refl _, h4⟩
    | brk h1 h2 h3 => rw [h1] at hd; cases hd; exact ⟨_, h2, _, h3, _, wk.refl _, rfl⟩
    | rt h1 h2 h3 => rw [h1] at hd; cases hd; exact ⟨_, h2, _, h3, rfl⟩
    | rl h1 h2 h3 => rw [h1] at hd; cases hd; exact ⟨_, h2, _, h3, rfl⟩
    | ex h1 h2 h3 => rw [h1] at hd; cases hd; exact ⟨_, h2, _, h3, _, wk.refl _, rfl⟩
  · intro ρ hr
    have no : ∀ d, xs[xs.length]? ≠ some d := fun d z => by rw [List.getElem?_eq_none (Nat.le_refl _)] at z; cases z
    generalize hn : xs.length = n at hr
    cases hr with
    | stop => exact ⟨_, wk.refl _, rfl⟩
    | next h1 => rw [← hn] at h1; exact absurd h1 (no _)
    | cont h1 => rw [← hn] at h1; exact absurd h1 (no _)
    | brk h1 => rw [← hn] at h1; exact absurd h1 (no _)
    | rt h1 => rw [← hn] at h1; exact absurd h1 (no _)
    | rl h1 => rw [← hn] at h1; exact absurd h1 (no _)
    | ex h1 => rw [← hn] at h1; exact absurd h1 (no _)
/-- the outcome weakened to a state -/
theorem Run.weak {n : Nat} {o : Out} (w : wk ρ ρ') (h : Run K W xs g t n ρ' o) (hn : n < xs.length) : ∃ o', Run K W xs g t n ρ o' ∧ o' = o := by
  have ss : ∀ (ps : List (Nat × D)) (ρ ρ' : SEnv), wk ρ ρ' → wk (setsS ρ ps) (setsS ρ' ps) := by
    intro ps
    induction ps with
    | nil => intro ρ ρ' w; exact w
    | cons p ps ih =>
      intro ρ ρ' w
      refine ih _ _ ?_
      clear ih
      induction ρ generalizing ρ' p with
      | nil => cases ρ' <;> first | exact trivial | exact w.elim
      | cons s r ih2 =>
        cases ρ' with
        | nil => exact w.elim
        | cons s' r' =>
          obtain ⟨j, d⟩ := p
          cases j with
          | zero => exact ⟨.inr rfl, w.2⟩
          | succ j => exact ⟨w.1, ih2 (p := (j, d)) r' w.2⟩
  cases h with
  | stop => exact absurd hn (Nat.lt_irrefl _)
  | next h1 h2 h3 h4 => exact ⟨_, .next h1 h2 (x_weak (ss _ _ _ w) h3) h4, rfl⟩
  | cont h1 h2 h3 h4 => exact ⟨_, .cont h1 h2 (x_weak (ss _ _ _ w) h3) h4, rfl⟩
  | brk h1 h2 h3 => exact ⟨_, .brk h1 h2 (x_weak (ss _ _ _ w) h3), rfl⟩
  | rt h1 h2 h3 => exact ⟨_, .rt h1 h2 (x_weak (ss _ _ _ w) h3), rfl⟩
  | rl h1 h2 h3 => exact ⟨_, .rl h1 h2 (x_weak (ss _ _ _ w) h3), rfl⟩
  | ex h1 h2 h3 => exact ⟨_, .ex h1 h2 (x_weak (ss _ _ _ w) h3), rfl⟩
/-- a for: P by the turn -/
theorem q_for (hi : DI K (fz false ρ) wi xs) (P : Nat → SEnv → Prop) (h0 : P 0 ρ) (hs : ∀ i d ρ, xs[i]? = some d → P i ρ → ∃ ps, DG K g d ps ∧ WP K W (setsS ρ ps) t (Turns (P (i + 1)) (fun ρ => WP K W ρ u O) O))
    (hd : ∀ ρ, P xs.length ρ → WP K W ρ u O) (hO : ∀ o, O o → o.out = true → True := by intro _ _ _; trivial) : WP K W ρ (tSeq (tFor wi g t) u) O := by
  have key : ∀ k i ρ, i + k = xs.length → P i ρ → ∃ o, Run K W xs g t i ρ o ∧ ((∃ ρ', o = .nx ρ' ∧ WP K W ρ' u O) ∨ (o.out = true ∧ O o)) := by
    intro k
    induction k with
    | zero =>
      intro i ρ hk p
      have : i = xs.length := by omega
      subst this
      exact ⟨_, .stop, .inl ⟨ρ, rfl, hd ρ p⟩⟩
    | succ k ih =>
      intro i ρ hk p
      have hlt : i < xs.length := by omega
      obtain ⟨ps, hg, o, hq, hds⟩ := hs i _ ρ (List.getElem?_eq_getElem hlt) p
      have hx := List.getElem?_eq_getElem hlt
      cases o with
      | nx ρ' =>
        obtain ⟨o, r, q⟩ := ih (i + 1) ρ' (by omega) hq
        exact ⟨o, .next hx hg hds r, q⟩
      | ct ρ' =>
        obtain ⟨o, r, q⟩ := ih (i + 1) ρ' (by omega) hq
        exact ⟨o, .cont hx hg hds r, q⟩
      | bk ρ' => exact ⟨_, .brk hx hg hds, .inl ⟨ρ', rfl, hq⟩⟩
      | rt z => exact ⟨_, .rt hx hg hds, .inr ⟨rfl, hq⟩⟩
      | rl z => exact ⟨_, .rl hx hg hds, .inr ⟨rfl, hq⟩⟩
      | ex ρ' c fs => exact ⟨_, .ex hx hg hds, .inr ⟨rfl, hq⟩⟩
  obtain ⟨o, r, q⟩ := key xs.length 0 ρ (by omega) h0
  rcases q with ⟨ρ', rfl, q⟩ | ⟨ho, q⟩
  · exact q_then (r.told hi) q
  · exact q_done (r.told hi) ho q
/-- .. its states told -/
theorem q_forS (hi : DI K (fz false ρ) wi xs) (S : Nat → SEnv) (h0 : wk ρ (S 0)) (hs : ∀ i d, xs[i]? = some d → ∃ ps, DG K g d ps ∧ WP K W (setsS (S i) ps) t (Turns (fun ρ => wk ρ (S (i + 1))) (fun ρ => WP K W ρ u O) O))
    (hd : WP K W (S xs.length) u O) : WP K W ρ (tSeq (tFor wi g t) u) O := by
  refine q_for hi (fun i ρ => wk ρ (S i)) h0 (fun i d ρ hx w => ?_) fun ρ w => q_weak w hd
  obtain ⟨ps, hg, h⟩ := hs i d hx
  refine ⟨ps, hg, q_weak ?_ h⟩
  have ss : ∀ (ps : List (Nat × D)) (ρ ρ' : SEnv), wk ρ ρ' → wk (setsS ρ ps) (setsS ρ' ps) := by
    intro ps
    induction ps with
    | nil => intro ρ ρ' w; exact w
    | cons p ps ih =>
      intro ρ ρ' w
      refine ih _ _ ?_
      clear ih
      induction ρ generalizing ρ' p with
      | nil => cases ρ' <;> first | exact trivial | exact w.elim
      | cons s r ih2 =>
        cases ρ' with
        | nil => exact w.elim
        | cons s' r' =>
          obtain ⟨j, d⟩ := p
          cases j with
          | zero => exact ⟨.inr rfl, w.2⟩
          | succ j => exact ⟨w.1, ih2 (p := (j, d)) r' w.2⟩
  exact ss ps _ _ w
/-- the turns of a while -/
inductive RunW (K : PySem.W.Frag) (W : WX) (l : Bool) (tt : TT) (t : TS) : Nat → SEnv → Out → Prop
  | stop {n : Nat} {ρ : SEnv} : DT K (fz l ρ) tt false → RunW K W l tt t n ρ (.nx ρ)
  | next {n : Nat} {ρ ρ' : SEnv} {o : Out} : DT K (fz l ρ) tt true → DS K W ρ t (.nx ρ') → RunW K W l tt t n ρ' o → RunW K W l tt t (n + 1) ρ o
  | cont {n : Nat} {ρ ρ' : SEnv} {o : Out} : DT K (fz l ρ) tt true → DS K W ρ t (.ct ρ') → RunW K W l tt t n ρ' o → RunW K W l tt t (n + 1) ρ o
  | brk {n : Nat} {ρ ρ' : SEnv} : DT K (fz l ρ) tt true → DS K W ρ t (.bk ρ') → RunW K W l tt t n ρ (.nx ρ')
  | rt {n : Nat} {ρ : SEnv} {z : D} : DT K (fz l ρ) tt true → DS K W ρ t (.rt z) → RunW K W l tt t n ρ (.rt z)
  | rl {n : Nat} {ρ : SEnv} {zs : List D} : DT K (fz l ρ) tt true → DS K W ρ t (.rl zs) → RunW K W l tt t n ρ (.rl zs)
  | ex {n : Nat} {ρ ρ' : SEnv} {c : Value} {fs : List (Str × D)} : DT K (fz l ρ) tt true → DS K W ρ t (.ex ρ' c fs) → RunW K W l tt t n ρ (.ex ρ' c fs)
theorem RunW.told {l : Bool} {n : Nat} {o : Out} (h : RunW K W l tt t n ρ o) : DS K W ρ (tWhile tt t) o := by
  refine x_while l (fun n ρ => RunW K W l tt t n ρ o) n h ?_
  intro n ρ hr
  cases hr with
  | stop h1 => exact ⟨false, h1, (fun z => by cases z), fun _ => ⟨_, wk.refl _, rfl⟩⟩
  | next h1 h2 h3 => exact ⟨true, h1, (fun _ => ⟨_, h2, _, wk.refl _, _, Nat.lt_succ_self _, h3⟩), fun z => by cases z⟩
  | cont h1 h2 h3 => exact ⟨true, h1, (fun _ => ⟨_, h2, _, wk.refl _, _, Nat.lt_succ_self _, h3⟩), fun z => by cases z⟩
  | brk h1 h2 => exact ⟨true, h1, (fun _ => ⟨_, h2, _, wk.refl _, rfl⟩), fun z => by cases z⟩
  | rt h1 h2 => exact ⟨true, h1, (fun _ => ⟨_, h2, rfl⟩), fun z => by cases z⟩
  | rl h1 h2 => exact ⟨true, h1, (fun _ => ⟨_, h2, rfl⟩), fun z => by cases z⟩
  | ex h1 h2 => exact ⟨true, h1, (fun _ => ⟨_, h2, _, wk.refl _, rfl⟩), fun z => by cases z⟩
/-- a while: P by a number that falls -/
theorem q_while (l : Bool) (P : Nat → SEnv → Prop) (n : Nat) (h0 : P n ρ)
    (hs : ∀ n ρ, P n ρ → ∃ b, DT K (fz l ρ) tt b ∧ (b = true → ∃ m, n = m + 1 ∧ WP K W ρ t (Turns (P m) (fun ρ => WP K W ρ u O) O)) ∧ (b = false → WP K W ρ u O)) : WP K W ρ (tSeq (tWhile tt t) u) O := by
  have key : ∀ n ρ, P n ρ → ∃ o, RunW K W l tt t n ρ o ∧ ((∃ ρ', o = .nx ρ' ∧ WP K W ρ' u O) ∨ (o.out = true ∧ O o)) := by
    intro n
    induction n with
    | zero =>
      intro ρ p
      obtain ⟨b, h1, h2, h3⟩ := hs 0 ρ p
      cases b with
      | false => exact ⟨_, .stop h1, .inl ⟨ρ, rfl, h3 rfl⟩⟩
      | true => obtain ⟨m, e, _⟩ := h2 rfl; cases e
    | succ n ih =>
      intro ρ p
      obtain ⟨b, h1, h2, h3⟩ := hs (n + 1) ρ p
      cases b with
      | false => exact ⟨_, .stop h1, .inl ⟨ρ, rfl, h3 rfl⟩⟩
      | true =>
        obtain ⟨m, e, o, hq, hds⟩ := h2 rfl
        have e' : n = m := by omega
        subst e'
        cases o with
        | nx ρ' =>
          obtain ⟨o, r, q⟩ := ih ρ' hq
          exact ⟨o, .next h1 hds r, q⟩
        | ct ρ' =>
          obtain ⟨o, r, q⟩ := ih ρ' hq
          exact ⟨o, .cont h1 hds r, q⟩
        | bk ρ' => exact ⟨_, .brk h1 hds, .inl ⟨ρ', rfl, hq⟩⟩
        | rt z => exact ⟨_, .rt h1 hds, .inr ⟨rfl, hq⟩⟩
        | rl z => exact ⟨_, .rl h1 hds, .inr ⟨rfl, hq⟩⟩
        | ex ρ' c fs => exact ⟨_, .ex h1 hds, .inr ⟨rfl, hq⟩⟩
  obtain ⟨o, r, q⟩ := key n ρ h0
  rcases q with ⟨ρ', rfl, q⟩ | ⟨ho, q⟩
  · exact q_then r.told q
  · exact q_done r.told ho q
theorem EnvR.wk {R : Hp} {σ : L2.St} {l : Bool} (w : G.wk ρ ρ') (e : EnvR K R σ (fz l ρ)) : EnvR K R σ (fz l ρ') := by
  refine ⟨?_, fun i d h => ?_⟩
  · have := e.1
    unfold fz at this ⊢
    rw [List.length_map] at this ⊢
    rw [← w.len]; exact this
  · unfold fz at h
    rw [List.getElem?_map] at h
    cases hs : ρ'[i]? with
    | none => rw [hs] at h; cases h
    | some s =>
      rw [hs] at h
      rcases w.get hs with rfl | h2
      · cases h
      · exact e.2 i d (by unfold fz; rw [List.getElem?_map, h2]; exact h)
theorem dt_wk {l : Bool} (w : wk ρ ρ') (h : DT K (fz l ρ') tt b) : DT K (fz l ρ) tt b := fun H R σ Q s e q => h H R σ Q s (e.wk w) q
/-- a while whose states are told by P -/
theorem q_whileS (l : Bool) (P : Nat → SEnv → Prop) (n : Nat) (S0 : SEnv) (w : wk ρ S0) (h0 : P n S0)
    (hs : ∀ n S, P n S → ∃ b, DT K (fz l S) tt b ∧ (b = true → ∃ m, n = m + 1 ∧ WP K W S t (Turns (fun ρ => ∃ S', wk ρ S' ∧ P m S') (fun ρ => WP K W ρ u O) O)) ∧ (b = false → WP K W S u O)) : WP K W ρ (tSeq (tWhile tt t) u) O := by
  refine q_while l (fun n ρ => ∃ S, wk ρ S ∧ P n S) n ⟨S0, w, h0⟩ ?_
  rintro n ρ ⟨S, w, p⟩
  obtain ⟨b, h1, h2, h3⟩ := hs n S p
  exact ⟨b, dt_wk w h1, (fun hb => by obtain ⟨m, e, q⟩ := h2 hb; exact ⟨m, e, q_weak w q⟩), fun hb => q_weak w (h3 hb)⟩
theorem setsS_wk : ∀ (ps : List (Nat × D)) (ρ ρ' : SEnv), wk ρ ρ' → wk (setsS ρ ps) (setsS ρ' ps) := by
  intro ps
  induction ps with
  | nil => intro ρ ρ' w; exact w
  | cons p ps ih =>
    intro ρ ρ' w
    refine ih _ _ ?_
    clear ih
    induction ρ generalizing ρ' p with
    | nil => cases ρ' <;> first | exact trivial | exact w.elim
    | cons s r ih2 =>
      cases ρ' with
      | nil => exact w.elim
      | cons s' r' =>
        obtain ⟨j, d⟩ := p
        cases j with
        | zero => exact ⟨.inr rfl, w.2⟩
        | succ j => exact ⟨w.1, ih2 (p := (j, d)) r' w.2⟩
/-- a for whose states are told by P -/
theorem q_forP (hi : DI K (fz false ρ) wi xs) (P : Nat → SEnv → Prop) (S0 : SEnv) (w : wk ρ S0) (h0 : P 0 S0) (hs : ∀ i d S, xs[i]? = some d → P i S → ∃ ps, DG K g d ps ∧ WP K W (setsS S ps) t (Turns (fun ρ => ∃ S', wk ρ S' ∧ P (i + 1) S') (fun ρ => WP K W ρ u O) O))
    (hd : ∀ S, P xs.length S → WP K W S u O) : WP K W ρ (tSeq (tFor wi g t) u) O := by
  refine q_for hi (fun i ρ => ∃ S, wk ρ S ∧ P i S) ⟨S0, w, h0⟩ ?_ fun ρ ⟨S, w, p⟩ => q_weak w (hd S p)
  rintro i d ρ hx ⟨S, w, p⟩
  obtain ⟨ps, hg, h⟩ := hs i d S hx p
  exact ⟨ps, hg, q_weak (setsS_wk ps _ _ w) h⟩
def Joins (M : SEnv → Prop) (O : Out → Prop) : Out → Prop
  | .nx ρ => M ρ
  | o => O o
/-- a statement, then the rest, shown once from M -/
theorem q_join (M : SEnv → Prop) (h : WP K W ρ t (Joins M O)) (q : ∀ ρ', M ρ' → WP K W ρ' u O) : WP K W ρ (tSeq t u) O := by
  obtain ⟨o, a, b⟩ := h
  cases o with
  | nx ρ' => exact q_then b (q ρ' a)
  | rt d => exact q_done b rfl a
  | rl d => exact q_done b rfl a
  | bk ρ => exact q_done b rfl a
  | ct ρ => exact q_done b rfl a
  | ex ρ c fs => exact q_done b rfl a
/-- where nothing is let out the wish for errors says nothing -/
theorem wp_W {W' : WX} (h : WP K W ρ t O) (ho : ∀ o, O o → o.noEx = true) : WP K W' ρ t O := by
  obtain ⟨o, a, b⟩ := h
  refine ⟨o, a, fun H0 R0 H σ E e k => b H0 R0 H σ E e ?_⟩
  have := ho o a
  cases o <;> first | (cases this; done) | exact k
theorem fits_noEx {o : Out} {d : D} (h : Fits o (.rt d)) : o.noEx = true := by
  cases o <;> first | rfl | exact h.elim
theorem fits_noExL {o : Out} {d : List D} (h : Fits o (.rl d)) : o.noEx = true := by
  cases o <;> first | rfl | exact h.elim
/-! a def -/
theorem fits_of {rel : List D → Res → Prop} {n : Nat} {E : XK} {N : List Str} (h : ∀ ds r, rel ds r → WP K (WF E) (ds.map Sl.va ++ List.replicate (n - ds.length) Sl.no) t (fun o => Fits o r)) (hN : N.length = n) (vs : List V) (H : Hp) (Q : VK)
    (q : spD K rel vs H Q E) : t { nx := fun _ H' => Q .non H', rt := Q } (L2.start N vs) H := spD_of h hN vs H Q q
end
end G

set_option Elab.async false
set_option linter.all false
set_option maxRecDepth 10000000
set_option maxHeartbeats 4000000
local macro_rules | `(tactic| walk_at "dd1") => `(tactic| with_reducible first
  | (apply G.d_var; with_unfolding_all exact rfl)
  | exact G.d_int | exact G.d_str | exact G.d_bl | exact G.d_non | exact G.d_val | exact G.d_anil
  | apply G.d_acons | apply G.d_tup | apply G.d_cb | apply G.d_op | apply G.d_notT | apply G.d_callS | apply G.d_call | apply G.d_neg | apply G.d_fld | apply G.d_make | apply G.d_part | exact G.d_noPart
  | apply G.dt_test | apply G.dt_not | apply G.dt_tru | exact G.dt_yes
  | apply G.dl_lst | apply G.dl_cat
  | exact G.o_addi | exact G.o_subi | exact G.o_lti | exact G.o_lei | exact G.o_gti | exact G.o_gei | exact G.o_eqi | exact G.o_nei | exact G.o_eqs | exact G.o_nes | exact G.o_eqb | exact G.o_neb
  | apply G.o_muli | apply G.o_divi | apply G.o_modi | apply G.o_powi | apply G.o_adds
  | exact G.o_isB | exact G.o_isNB | exact G.o_isN rfl | exact G.o_isNN rfl
  | (apply G.o_ixt; with_unfolding_all exact rfl; with_unfolding_all exact rfl)
  | (apply G.o_ixl; with_unfolding_all exact rfl; with_unfolding_all exact rfl)
  | exact G.c_inti | exact G.c_leni | exact G.c_lenk | exact G.c_lent | exact G.c_min2 | exact G.c_max2 | exact G.c_tupL | exact G.c_tupT
  | apply G.c_lens
  | exact G.c_isi1 rfl rfl)
local macro_rules | `(tactic| walk_at "dd") => `(tactic| repeat' (walk_at "dd1"))
local macro_rules | `(tactic| walk_at "wk") => `(tactic| (with_unfolding_all first | exact G.wk.refl _ | (repeat' (first | exact trivial | refine ⟨.inr rfl, ?_⟩ | refine ⟨.inl rfl, ?_⟩))))
local macro_rules | `(tactic| walk_at "side") => `(tactic| first
  | (intro h; cases h; done) | (intro _; rfl) | decide | omega | (simp; omega)
  | exact Or.inr ⟨by omega, by omega⟩ | exact Or.inl ⟨by omega, by omega⟩ | exact Or.inr (by decide) | exact ⟨by omega, by omega⟩)
local macro_rules | `(tactic| walk_at "e") => `(tactic| (repeat' (walk_at "dd1")) <;> try (walk_at "side"))
/-! Com: the defs that stand in every law's text. -/
namespace G
open PySem PySem.Spec PyProof.Rows L2
/-- _law_whole(value) -/
def t__law_whole (K : PySem.W.Frag) : TS :=
  (tRet (tAndT K (tCB (rIsi' K) (tCons (tVar 0) (tCons (tC (.ty "int")) tNil))) (tNotT K (tCB (rIsi' K) (tCons (tVar 0) (tCons (tC (.ty "bool")) tNil))))))
def D.isInt : D → Bool
  | .int _ => true
  | _ => false
def relWhole (ds : List D) (r : Res) : Prop := ∃ d, ds = [d] ∧ d.isV = false ∧ r = .rt (.bl d.isInt)
theorem whole_ds {K : PySem.W.Frag} (ds : List D) (r : Res) (h : relWhole ds r) : ∃ o, Fits o r ∧ ∀ W, DS K W (ds.map Sl.va ++ List.replicate (1 - ds.length) Sl.no) (t__law_whole K) o := by
  obtain ⟨d, rfl, hd, rfl⟩ := h
  refine ⟨.rt (.bl d.isInt), rfl, fun W => x_ret false ?_⟩
  have h1 : ∃ b, kitB d.typ "int" = some b ∧ kitB d.typ "bool" = some (b && !d.isInt) := by
    cases d <;> first
      | (cases hd; done)
      | exact ⟨_, rfl, rfl⟩
  obtain ⟨b, h1, h2⟩ := h1
  have e1 : DE K (fz false (List.map Sl.va [d] ++ List.replicate (1 - 1) Sl.no)) (tCB (rIsi' K) (tCons (tVar 0) (tCons (tC (.ty "int")) tNil))) (.bl b) := d_cb (d_acons (d_var rfl) (d_acons d_val d_anil)) (c_isi1 hd h1)
  have e2 : DE K (fz false (List.map Sl.va [d] ++ List.replicate (1 - 1) Sl.no)) (tCB (rIsi' K) (tCons (tVar 0) (tCons (tC (.ty "bool")) tNil))) (.bl (b && !d.isInt)) := d_cb (d_acons (d_var rfl) (d_acons d_val d_anil)) (c_isi1 hd h2)
  refine d_andT e1 trivial (fun hb => d_notT e2 trivial) ?_
  show D.bl d.isInt = if b = true then D.bl (!(b && !d.isInt)) else D.bl b
  cases b with
  | true => simp [D.truth]
  | false =>
    cases d <;> first
      | (cases hd; done)
      | rfl
      | (cases h1; done)
/-- _law_cell(script, k) -/
def t__law_cell (K : PySem.W.Frag) : TS :=
  (tSeq (tIfS (tTest (tOp rLt' (tVar 1) (tCB (rLen' K) (tCons (tVar 0) tNil))))
  (tRet (tOp (rIx' K) (tVar 0) (tVar 1)))
  tNext)
  (tSeq (tAsg (tC (.int 17)) (gName 2))
  (tSeq (tFor (iAny K (tVar 0)) (gName 3)
  (tAsg (tOp rMod' (tCB rInt' (tCons (tOp (rAdd' K) (tOp rMul' (tVar 2) (tC (.int 31))) (tOp rMod' (tCB rInt' (tCons (tVar 3) tNil)) (tC (.int 1000003)))) tNil)) (tC (.int 1000003))) (gName 2)))
  (tRet (tOp rMod' (tCB rInt' (tCons (tOp rMul' (tOp rMul' (tOp (rAdd' K) (tVar 2) (tC (.int 7))) (tOp (rAdd' K) (tVar 1) (tC (.int 3)))) (tC (.int 69621))) tNil)) (tC (.int 2147483647)))))))
def seedI (ns : List Int) : Int := ns.foldl (fun s c => (s * 31 + c % 1000003) % 1000003) 17
def cellI (ns : List Int) (k : Nat) : Int := match ns[k]? with
  | some c => c
  | none => (seedI ns + 7) * ((k : Int) + 3) * 69621 % 2147483647
def relCell (ds : List D) (r : Res) : Prop := ∃ (ns : List Int) (k : Nat), ds = [.kl (ns.map D.int), .int k] ∧ k ≤ 1000 ∧ r = .rt (.int (cellI ns k))
theorem seed_rangeS : ∀ (ns : List Int) (s : Int), 0 ≤ s → s < 1000003 → 0 ≤ ns.foldl (fun s c => (s * 31 + c % 1000003) % 1000003) s ∧ ns.foldl (fun s c => (s * 31 + c % 1000003) % 1000003) s < 1000003
  | [], s, h0, h1 => ⟨h0, h1⟩
  | n :: ns, s, h0, h1 => seed_rangeS ns _ (by show 0 ≤ (s * 31 + n % 1000003) % 1000003; omega) (by show (s * 31 + n % 1000003) % 1000003 < 1000003; omega)
theorem seed_range (ns : List Int) : 0 ≤ seedI ns ∧ seedI ns < 1000003 := seed_rangeS ns 17 (by decide) (by decide)
theorem seed_take {ns : List Int} {i : Nat} {c : Int} (h : ns[i]? = some c) : seedI (ns.take (i + 1)) = (seedI (ns.take i) * 31 + c % 1000003) % 1000003 := by
  unfold seedI
  rw [List.take_add_one, h, List.foldl_append]
  rfl
theorem cell_ds {K : PySem.W.Frag} {W : WX} (ds : List D) (r : Res) (h : relCell ds r) : WP K W (ds.map Sl.va ++ List.replicate (4 - ds.length) Sl.no) (t__law_cell K) (fun o => Fits o r) := by
  obtain ⟨ns, k, rfl, hk, rfl⟩ := h
  show WP K W [.va (.kl (ns.map D.int)), .va (.int k), .no, .no] _ _
  unfold t__law_cell
  apply q_if false
  · walk_at "e"
  · intro hb
    have hlt : k < ns.length := by simpa using hb
    apply q_ret false
    · apply d_op
      · walk_at "e"
      · walk_at "e"
      · refine o_ixk (ixN_of rfl (by simpa using hlt)) (d := .int (cellI ns k)) ?_
        unfold cellI
        rw [List.getElem?_map, List.getElem?_eq_getElem hlt] <;> rfl
    · exact rfl
  · intro hb
    have hlt : ¬ k < ns.length := by simpa using hb
    apply q_next
    apply q_set false
    · walk_at "e"
    · walk_at "e"
    refine q_forS (it_kl (d_var rfl)) (fun i => [.va (.kl (ns.map D.int)), .va (.int k), .va (.int (seedI (ns.take i))), .no]) (by walk_at "wk") (fun i d hd => ?_) ?_
    · rw [List.getElem?_map] at hd
      cases hn : ns[i]? with
      | none => rw [hn] at hd; cases hd
      | some c =>
        rw [hn] at hd
        have hd' : d = .int c := (Option.some.inj hd).symm
        subst hd'
        refine ⟨_, g_name', ?_⟩
        apply q_last
        apply q_set false
        · walk_at "e"
        · walk_at "e"
        · apply q_nx
          refine ⟨.inr rfl, .inr rfl, .inr ?_, .inl rfl, trivial⟩
          rw [seed_take hn] <;> rfl
    · have hs := seed_range (ns.take ns.length)
      apply q_last
      apply q_ret false
      · walk_at "e"
      · show D.int _ = D.int _
        unfold cellI
        rw [List.getElem?_eq_none (by omega), List.length_map, List.take_length]
/-! ### _law_same -/
def t__law_same (K : PySem.W.Frag) (sp__law_same : Sp) (sp__law_whole : Sp) : TS :=
  (tSeq (tIfS (tOr (tTru' K (tCB (rIsi' K) (tCons (tVar 1) (tCons (tC (.ty "tuple")) tNil)))) (tTru' K (tCB (rIsi' K) (tCons (tVar 1) (tCons (tC (.ty "list")) tNil)))))
  (tSeq (tIfS (tOr (tNot (tTru' K (tCB (rIsi' K) (tCons (tVar 0) (tCons (tC (.ty "tuple")) tNil))))) (tTest (tOp (rNe' K) (tCB (rLen' K) (tCons (tVar 0) tNil)) (tCB (rLen' K) (tCons (tVar 1) tNil)))))
  (tRet (tC (.bl false)))
  tNext)
  (tSeq (tFor (iRng1 (tCons (tCB (rLen' K) (tCons (tVar 1) tNil)) tNil)) (gName 2)
  (tIfS (tNot (tTru' K (tCallR sp__law_same E0 (tCons (tOp (rIx' K) (tVar 0) (tVar 2)) (tCons (tOp (rIx' K) (tVar 1) (tVar 2)) tNil)))))
  (tRet (tC (.bl false)))
  tNext))
  (tRet (tC (.bl true)))))
  tNext)
  (tSeq (tIfS (tTest (tOp rIs' (tVar 1) (tC .non)))
  (tRet (tOp rIs' (tVar 0) (tC .non)))
  tNext)
  (tSeq (tIfS (tTru' K (tCB (rIsi' K) (tCons (tVar 1) (tCons (tC (.ty "str")) tNil))))
  (tRet (tAndT K (tCB (rIsi' K) (tCons (tVar 0) (tCons (tC (.ty "str")) tNil))) (tOp (rEq' K) (tVar 0) (tVar 1))))
  tNext)
  (tRet (tAndT K (tCallR sp__law_whole E0 (tCons (tVar 0) tNil)) (tOp (rEq' K) (tVar 0) (tVar 1)))))))
mutual
def sameD : D → D → Bool
  | v, .tup ds => (match v with
    | .tup vs => sameL vs ds
    | _ => false)
  | v, .lst ds => (match v with
    | .tup vs => sameL vs ds
    | _ => false)
  | v, .non => v.isNon
  | v, .str x => (match v with
    | .str y => decide (y = x)
    | _ => false)
  | v, .int j => (match v with
    | .int i => decide (i = j)
    | _ => false)
  | _, _ => false
def sameL : List D → List D → Bool
  | [], [] => true
  | v :: vs, d :: ds => sameD v d && sameL vs ds
  | _, _ => false
end
def sameT : D → List D → Bool
  | .tup vs, ds => sameL vs ds
  | _, _ => false
mutual
def D.fin (due : Bool) : D → Bool
  | .bl _ => !due
  | .tup ds => D.finL due ds && decide (ds.length ≤ 10000000)
  | .lst ds => D.finL due ds && decide (ds.length ≤ 10000000)
  | .ins _ _ _ => false
  | .kl _ => false
  | .val _ => false
  | .dct _ _ => false
  | .ndc _ _ _ => false
  | .exc _ _ _ _ => false
  | .xt _ => false
  | _ => true
def D.finL (due : Bool) : List D → Bool
  | [] => true
  | d :: ds => d.fin due && D.finL due ds
end
mutual
def D.depth : D → Nat
  | .tup ds => D.depthL ds + 1
  | .lst ds => D.depthL ds + 1
  | _ => 0
def D.depthL : List D → Nat
  | [] => 0
  | d :: ds => max d.depth (D.depthL ds)
end
theorem finL_get {due : Bool} : ∀ {ds : List D} {i : Nat} {d : D}, D.finL due ds = true → ds[i]? = some d → d.fin due = true
  | [], _, _, _, h => by simp at h
  | a :: ds, 0, d, f, h => by
    simp only [D.finL, Bool.and_eq_true] at f
    simp at h
    rw [← h]; exact f.1
  | a :: ds, i + 1, d, f, h => by
    simp only [D.finL, Bool.and_eq_true] at f
    exact finL_get f.2 (by simpa using h)
theorem depthL_get : ∀ {ds : List D} {i : Nat} {d : D}, ds[i]? = some d → d.depth ≤ D.depthL ds
  | [], _, _, h => by simp at h
  | a :: ds, 0, d, h => by
    simp at h
    simp only [D.depthL]
    rw [← h]; omega
  | a :: ds, i + 1, d, h => by
    have := depthL_get (ds := ds) (i := i) (d := d) (by simpa using h)
    simp only [D.depthL]; omega
theorem sameL_iff : ∀ {vs ds : List D}, sameL vs ds = true ↔ vs.length = ds.length ∧ ∀ (i : Nat) (v d : D), vs[i]? = some v → ds[i]? = some d → sameD v d = true
  | [], [] => by simp [sameL]
  | [], d :: ds => by simp [sameL]
  | v :: vs, [] => by simp [sameL]
  | v :: vs, d :: ds => by
    simp only [sameL, Bool.and_eq_true, List.length_cons]
    rw [sameL_iff (vs := vs) (ds := ds)]
    constructor
    · rintro ⟨h1, h2, h3⟩
      refine ⟨by omega, fun i x y hx hy => ?_⟩
      cases i with
      | zero => simp at hx hy; rw [← hx, ← hy]; exact h1
      | succ i => exact h3 i x y (by simpa using hx) (by simpa using hy)
    · rintro ⟨h1, h2⟩
      exact ⟨h2 0 v d rfl rfl, by omega, fun i x y hx hy => h2 (i + 1) x y (by simpa using hx) (by simpa using hy)⟩
def relSame (n : Nat) (ds : List D) (r : Res) : Prop := ∃ v u, ds = [v, u] ∧ v.fin false = true ∧ u.fin true = true ∧ u.depth < n ∧ r = .rt (.bl (sameD v u))
theorem fin_isV {due : Bool} {d : D} (h : d.fin due = true) : d.isV = false := by
  cases d <;> first
    | rfl
    | (simp [D.fin] at h)
theorem same_seq {K : PySem.W.Frag} {W : WX} {n : Nat} {v u : D} {ds : List D} (hu : u = .tup ds ∨ u = .lst ds) (hv : v.fin false = true) (hd : u.fin true = true) (hn : u.depth < n + 1) :
    WP K W [.va v, .va u, .no] (t__law_same K (spD K (relSame n)) (spD K relWhole)) (fun o => Fits o (.rt (.bl (sameD v u)))) := by
  have hfl : D.finL true ds = true ∧ ds.length ≤ 10000000 := by
    rcases hu with rfl | rfl <;> simpa [D.fin] using hd
  have hdl : D.depthL ds < n := by
    rcases hu with rfl | rfl <;> simpa [D.depth] using hn
  have hsm : sameD v u = sameT v ds := by
    rcases hu with rfl | rfl <;> cases v <;> simp [sameD, sameT]
  have hlen : ∀ {ρ : SEnv} {j : Nat}, ρ[j]? = some (.va u) → DE K (fz false ρ) (tCB (rLen' K) (tCons (tVar j) tNil)) (.int ds.length) := by
    intro ρ j hj
    have hj' : (fz false ρ)[j]? = some (some u) := by unfold fz; rw [List.getElem?_map, hj]; rfl
    rcases hu with rfl | rfl
    · exact d_cb (d_acons (d_var hj') d_anil) c_lent
    · exact d_cb (d_acons (d_var hj') d_anil) c_leni
  have hix : ∀ {i : Nat} {d : D}, ds[i]? = some d → DO K (rIx' K) u (.int (i : Int)) d := by
    intro i d h
    have hi := (List.getElem?_eq_some_iff.mp h).1
    rcases hu with rfl | rfl
    · exact o_ixt (ixN_of rfl hi) h
    · exact o_ixl (ixN_of rfl hi) h
  unfold t__law_same
  apply q_if false (b := true)
  · rcases hu with rfl | rfl
    · exact dt_is (dt_or (b := true) (c := true) (dt_tru (d_cb (d_acons (d_var rfl) (d_acons d_val d_anil)) (c_isi1 (b := true) rfl rfl)) trivial) (fun z => nomatch z)) rfl
    · exact dt_is (dt_or (b := false) (c := true) (dt_tru (d_cb (d_acons (d_var rfl) (d_acons d_val d_anil)) (c_isi1 (b := false) rfl rfl)) trivial) fun _ => dt_tru (d_cb (d_acons (d_var rfl) (d_acons d_val d_anil)) (c_isi1 (b := true) rfl rfl)) trivial) rfl
  rotate_left
  · intro z; cases z
  intro _
  apply q_assoc
  by_cases hv2 : ∃ vs, v = .tup vs ∧ vs.length = ds.length
  · obtain ⟨vs, rfl, hl⟩ := hv2
    have hvl : D.finL false vs = true := by
      have := hv
      simp [D.fin] at this
      exact this.1
    apply q_ifF false
    · refine dt_is (dt_or (b := false) (c := false) (dt_is (dt_not (dt_tru (d_cb (d_acons (d_var rfl) (d_acons d_val d_anil)) (c_isi1 (b := true) rfl rfl)) trivial)) rfl) fun _ => dt_test (de_is (d_op (d_cb (d_acons (d_var rfl) d_anil) c_lent) (hlen rfl) o_nei) ?_)) rfl
      simp [hl]
    apply q_next
    apply q_assoc
    refine q_for (it_rng1 (n := ds.length) (d_acons (hlen rfl) d_anil) (by omega) (by omega)) (fun i ρ => wk ρ [.va (.tup vs), .va u, .no] ∧ ∀ j, j < i → ∀ a b, vs[j]? = some a → ds[j]? = some b → sameD a b = true) ⟨wk.refl _, fun j hj => absurd hj (Nat.not_lt_zero _)⟩ ?_ ?_
    · rintro i d ρ hd ⟨w, inv⟩
      obtain ⟨hi, rfl⟩ := rngD_val hd
      obtain ⟨b, hb⟩ : ∃ b, ds[i]? = some b := ⟨_, List.getElem?_eq_getElem hi⟩
      obtain ⟨a, ha⟩ : ∃ a, vs[i]? = some a := ⟨_, List.getElem?_eq_getElem (by omega)⟩
      refine ⟨_, g_name', q_weak (ρ' := [.va (.tup vs), .va u, .va (.int (i : Int))]) ?_ ?_⟩
      · match ρ, w with
        | [s1, s2, s3], ⟨w1, w2, w3, _⟩ => exact ⟨w1, w2, .inr rfl, trivial⟩
      apply q_last
      apply q_if false (b := !sameD a b)
      · refine dt_not (dt_is (dt_tru (d_call (d_acons (d_op (d_var rfl) (d_var rfl) (o_ixt (ixN_of rfl (by omega)) ha)) (d_acons (d_op (d_var rfl) (d_var rfl) (hix hb)) d_anil)) (show relSame n _ _ from ⟨a, b, rfl, finL_get hvl ha, finL_get hfl.1 hb, ?_, rfl⟩)) trivial) rfl)
        have := depthL_get hb
        omega
      · intro z
        have z' : sameD a b = false := by simpa using z
        apply q_ret false d_bl
        show D.bl false = D.bl _
        rw [hsm]
        show D.bl false = D.bl (sameL vs ds)
        have : sameL vs ds = false := by
          cases h : sameL vs ds with
          | false => rfl
          | true => rw [(sameL_iff.mp h).2 i a b ha hb] at z'; cases z'
        rw [this]
      · intro z
        have z' : sameD a b = true := by simpa using z
        apply q_next
        apply q_nx
        refine ⟨⟨.inr rfl, .inr rfl, .inl rfl, trivial⟩, fun j hj x y hx hy => ?_⟩
        by_cases hji : j = i
        · subst hji
          rw [ha] at hx; rw [hb] at hy
          cases hx; cases hy; exact z'
        · exact inv j (by omega) x y hx hy
    · rintro ρ ⟨w, inv⟩
      rw [rngD_len] at inv
      apply q_ret false d_bl
      show D.bl true = D.bl _
      rw [hsm]
      show D.bl true = D.bl (sameL vs ds)
      have : sameL vs ds = true := sameL_iff.mpr ⟨hl, fun i a b ha hb => inv i (List.getElem?_eq_some_iff.mp hb).1 a b ha hb⟩
      rw [this]
  · have hff : sameD v u = false := by
      rw [hsm]
      cases v <;> try rfl
      rename_i vs
      show sameL vs ds = false
      cases h : sameL vs ds with
      | false => rfl
      | true => exact absurd ⟨vs, rfl, (sameL_iff.mp h).1⟩ hv2
    apply q_ifT false
    · by_cases hv3 : ∃ vs, v = .tup vs
      · obtain ⟨vs, rfl⟩ := hv3
        refine dt_is (dt_or (b := false) (c := true) (dt_is (dt_not (dt_tru (d_cb (d_acons (d_var rfl) (d_acons d_val d_anil)) (c_isi1 (b := true) rfl rfl)) trivial)) rfl) fun _ => dt_test (de_is (d_op (d_cb (d_acons (d_var rfl) d_anil) c_lent) (hlen rfl) o_nei) ?_)) rfl
        have hne : vs.length ≠ ds.length := fun z => hv2 ⟨vs, rfl, z⟩
        simp only [D.bl.injEq, Bool.not_eq_true', decide_eq_false_iff_not]
        omega
      · refine dt_is (dt_or (b := true) (c := true) (dt_is (dt_not (dt_tru (d_cb (d_acons (d_var rfl) (d_acons d_val d_anil)) (c_isi1 (b := false) (fin_isV hv) ?_)) trivial)) rfl) (fun z => nomatch z)) rfl
        cases v <;> first
          | rfl
          | exact absurd ⟨_, rfl⟩ hv3
          | (simp [D.fin] at hv)
    · apply q_ret false d_bl
      show D.bl false = D.bl _
      rw [hff]
theorem same_ds {K : PySem.W.Frag} {W : WX} (n : Nat) (ds : List D) (r : Res) (h : relSame (n + 1) ds r) : WP K W (ds.map Sl.va ++ List.replicate (3 - ds.length) Sl.no) (t__law_same K (spD K (relSame n)) (spD K relWhole)) (fun o => Fits o r) := by
  obtain ⟨v, u, rfl, hv, hu, hn, rfl⟩ := h
  show WP K W [.va v, .va u, .no] _ _
  have hV := fin_isV hv
  cases u with
  | tup us => exact same_seq (.inl rfl) hv hu hn
  | lst us => exact same_seq (.inr rfl) hv hu hn
  | bl b => simp [D.fin] at hu
  | ins _ _ _ => simp [D.fin] at hu
  | kl _ => simp [D.fin] at hu
  | val _ => simp [D.fin] at hu
  | dct _ _ => simp [D.fin] at hu
  | ndc _ _ _ => simp [D.fin] at hu
  | exc _ _ _ _ => simp [D.fin] at hu
  | xt _ => simp [D.fin] at hu
  | non =>
    unfold t__law_same
    apply q_ifF false
    · exact dt_is (dt_or (b := false) (c := false) (dt_tru (d_cb (d_acons (d_var rfl) (d_acons d_val d_anil)) (c_isi1 (b := false) rfl rfl)) trivial) fun _ => dt_tru (d_cb (d_acons (d_var rfl) (d_acons d_val d_anil)) (c_isi1 (b := false) rfl rfl)) trivial) rfl
    apply q_next
    apply q_ifT false
    · exact dt_test (d_op (d_var rfl) d_non (o_isN rfl))
    · apply q_ret false (d_op (d_var rfl) d_non (o_isN (by cases v <;> first | rfl | (cases hV))))
      show D.bl _ = D.bl _
      simp [sameD]
  | str z =>
    unfold t__law_same
    apply q_ifF false
    · exact dt_is (dt_or (b := false) (c := false) (dt_tru (d_cb (d_acons (d_var rfl) (d_acons d_val d_anil)) (c_isi1 (b := false) rfl rfl)) trivial) fun _ => dt_tru (d_cb (d_acons (d_var rfl) (d_acons d_val d_anil)) (c_isi1 (b := false) rfl rfl)) trivial) rfl
    apply q_next
    apply q_ifF false
    · exact dt_test (d_op (d_var rfl) d_non (o_isN rfl))
    apply q_next
    apply q_ifT false
    · exact dt_tru (d_cb (d_acons (d_var rfl) (d_acons d_val d_anil)) (c_isi1 (b := true) rfl rfl)) trivial
    · by_cases hs : ∃ y, v = .str y
      · obtain ⟨y, rfl⟩ := hs
        apply q_ret false (d_andT (d_cb (d_acons (d_var rfl) (d_acons d_val d_anil)) (c_isi1 (b := true) rfl rfl)) trivial (fun _ => d_op (d_var rfl) (d_var rfl) o_eqs) rfl)
        show D.bl _ = D.bl _
        simp [sameD]
      · have h1 : kitB v.typ "str" = some false := by
          cases v <;> first
            | rfl
            | exact absurd ⟨_, rfl⟩ hs
            | (cases hV)
        apply q_ret false (d_andT (y := .non) (d_cb (d_acons (d_var rfl) (d_acons d_val d_anil)) (c_isi1 (b := false) hV h1)) trivial (fun z => nomatch z) rfl)
        show D.bl _ = D.bl _
        cases v <;> first
          | rfl
          | exact absurd ⟨_, rfl⟩ hs
          | (cases hV)
  | int j =>
    unfold t__law_same
    apply q_ifF false
    · exact dt_is (dt_or (b := false) (c := false) (dt_tru (d_cb (d_acons (d_var rfl) (d_acons d_val d_anil)) (c_isi1 (b := false) rfl rfl)) trivial) fun _ => dt_tru (d_cb (d_acons (d_var rfl) (d_acons d_val d_anil)) (c_isi1 (b := false) rfl rfl)) trivial) rfl
    apply q_next
    apply q_ifF false
    · exact dt_test (d_op (d_var rfl) d_non (o_isN rfl))
    apply q_next
    apply q_ifF false
    · exact dt_tru (d_cb (d_acons (d_var rfl) (d_acons d_val d_anil)) (c_isi1 (b := false) rfl rfl)) trivial
    apply q_next
    apply q_last
    by_cases hs : ∃ i, v = .int i
    · obtain ⟨i, rfl⟩ := hs
      apply q_ret false (d_andT (d_call (d_acons (d_var rfl) d_anil) (show relWhole _ _ from ⟨_, rfl, rfl, rfl⟩)) trivial (fun _ => d_op (d_var rfl) (d_var rfl) o_eqi) rfl)
      show D.bl _ = D.bl _
      simp [sameD]
    · have h1 : v.isInt = false := by
        cases v <;> first
          | rfl
          | exact absurd ⟨_, rfl⟩ hs
      apply q_ret false (d_andT (y := .non) (d_call (d_acons (d_var rfl) d_anil) (show relWhole _ _ from ⟨_, rfl, hV, rfl⟩)) trivial (fun z => by rw [h1] at z; cases z) rfl)
      rw [h1]
      show D.bl false = D.bl _
      cases v <;> first
        | rfl
        | exact absurd ⟨_, rfl⟩ hs
/-! ### the end -/
theorem rep_of_ints {K : PySem.W.Frag} {R : Hp} : ∀ ns : List Int, RepL K R (ns.map V.int) (ns.map D.int)
  | [] => .nil
  | n :: ns => .cons (.int n) (rep_of_ints ns)
theorem law_end {K : PySem.W.Frag} {rel : List D → Res → Prop} {H : Hp} {a : Addr} {ns : List Int} {E : XK} (hS : SqL K H a (ns.map V.int)) (h : rel [.kl (ns.map D.int)] (.rt (.bl true))) : spD K rel [.ref a] H (fun v _ => v = .bl true) E :=
  ⟨H, [.kl (ns.map D.int)], .rt (.bl true), Same.refl _, .cons (.kl hS (rep_of_ints ns)) .nil, h, fun v H' R' g r => by cases r; rfl⟩
/-- the proofs of defs by their readings -/
theorem whole_wp {K : PySem.W.Frag} {W : WX} (ds : List D) (r : Res) (h : relWhole ds r) : WP K W (ds.map Sl.va ++ List.replicate (1 - ds.length) Sl.no) (t__law_whole K) (fun o => Fits o r) := by
  obtain ⟨o, a, b⟩ := whole_ds (K := K) ds r h
  exact ⟨o, a, b W⟩
end G

set_option Elab.async false
set_option linter.all false
set_option maxRecDepth 100000
set_option maxHeartbeats 4000000
/-! Ldc: name = {..: .. for ..} on one line. -/
namespace L2
open PySem PySem.Spec PyProof.Rows
section
variable {X : Cx}
theorem ps_setDc {i : Nat} {y : Str} {py : Pos} {kx vx tg iter : Expr} {ifs : List Expr} {scope : Scope} {own : List (Str × Nat)} {pos spos : Pos} {wi : TI} {g : TG} {tt : TT} {tk tv : TE} (hc : X.calm = true) (hN : X.N.Nodup) (hy : X.N[i]? = some y) (hyl : X.env.scope.names.lookup y = some .local)
    (hsw : swapsWith (.DictComp kx vx [⟨tg, iter, ifs, 0⟩] scope pos) (some (.Name y py)) spos.line X.env = pure true) (hi : PI X tg iter wi) (ok : BlkOk X.N X.env.scope scope own)
    (hg : ∀ (s1 : Shared) (G : Hp) (C : Addr) (cl : List (Str × Addr)) (fp : List Addr), PG (X.blk s1 G scope (compEnvC scope cl C X.env) fp) tg g) (ht : ∀ (s1 : Shared) (G : Hp) (C : Addr) (cl : List (Str × Addr)) (fp : List Addr), PTs (X.blk s1 G scope (compEnvC scope cl C X.env) fp) ifs tt)
    (hk : ∀ (s1 : Shared) (G : Hp) (C : Addr) (cl : List (Str × Addr)) (fp : List Addr), PE (X.blk s1 G scope (compEnvC scope cl C X.env) fp) kx tk)
    (he : ∀ (s1 : Shared) (G : Hp) (C : Addr) (cl : List (Str × Addr)) (fp : List Addr), PE (X.blk s1 G scope (compEnvC scope cl C X.env) fp) vx tv) (hs : ∀ x, foldedSetIterable iter X.env x = pure x := by intro _; rfl) :
    PS X (.Assign [.Name y py] (.DictComp kx vx [⟨tg, iter, ifs, 0⟩] scope pos) spos) (tAsg (tDc wi g tt tk tv (own.map (·.2))) (gName i)) := by
  constructor
  intro pins s σ H D I hh
  rw [exec_Assign_Name_used _ _ _ _ hsw]
  refine wpAny_bind (wpAny_standAt (wpAny_bind ?_))
  show wpAny _ X.A (do let _ ← comprehension (.DictComp kx vx [⟨tg, iter, ifs, 0⟩] scope pos) scope X.env (firstIterPos [⟨tg, iter, ifs, 0⟩] pos) newDict false (eval iter X.env) (some (assign (.Name y py) X.env))) _ _ s
  have h1 : tDc wi g tt tk tv (own.map (·.2)) σ H (fun x H1 => gName i x σ H1 D.nx) := hh
  refine wpAny_bind (thn (dc_core (Qf := fun _ s' => SP X pins D .next s') hc hN I hi ok hg ht hk he hs h1 fun A0 C s' m H' I1 q hn f => ?_) fun _ s' hq => wpAny_pure (wpAny_pure hq))
  show wpAny _ _ (assign (.Name y py) X.env (.ref A0)) _ _ _
  refine wpAny_assign_Name (store_ok2 (v := V.ref A0) I1 hN hy (.inl hyl) rfl (fun s2 I2 hx => ?_) (.inr hyl))
  obtain ⟨a, sb, ha⟩ := hx
  have hCa : C ≠ a := ha.elim (fun z => z ▸ f.2.1) fun z e => f.2.2.2.2.1 y a z e.symm
  exact ⟨m, hn.sameBut sb hCa, fun h3 sb3 => ⟨_, H', I2.turned (t' := s2.toks) (fun b o hb e => (sb3.2 b hb).trans e) f.1 f.2.1 f.2.2.2.1 f.2.2.2.2.1 f.2.2.2.2.2, q⟩⟩
theorem sw_trueD {kx vx : Expr} {gs : List Comprehension} {scope : Scope} {pos py : Pos} {y : Str} {l : Nat} {env : Env} (hk : env.scope.kind = .function) (hy : env.scope.names.lookup y = some .local) (hl : (py.line == pos.line) = true)
    (ha : (scope.names.any fun (n, k) => n == y && (k == .local || k == .cell)) = false) : swapsWith (.DictComp kx vx gs scope pos) (some (.Name y py)) l env = pure true := by
  have kk : env.kindOf y = some .local := hy
  have bb : env.blockKind = .function := by unfold Env.blockKind; rw [hk]; rfl
  unfold swapsWith
  simp only [bb, kk, ha, Expr.pos, hl]
  rfl
end
end L2

set_option Elab.async false
set_option linter.all false
set_option maxRecDepth 10000000
set_option maxHeartbeats 4000000
/-! Ddc: dicts as data, keys numbers and texts. -/
namespace G
open PySem PySem.Spec PyProof.Rows L2
/-- a key as a datum -/
def kD : L2.Key → D
  | .inl i => .int i
  | .inr x => .str x
def atK (ks : List L2.Key) (ds : List D) (k : L2.Key) : Option D := ((ks.zip ds).find? fun p => decide (p.1 = k)).map (·.2)
def hasK (ks : List L2.Key) (k : L2.Key) : Bool := ks.any fun x => decide (x = k)
theorem hasK_iff {ks : List L2.Key} {k : L2.Key} : hasK ks k = true ↔ k ∈ ks := by
  unfold hasK
  rw [List.any_eq_true]
  constructor
  · rintro ⟨x, h1, h2⟩
    have := of_decide_eq_true h2
    exact this ▸ h1
  · exact fun h => ⟨k, h, decide_eq_true rfl⟩
/-- the dict with k: d -/
def putKs (ks : List L2.Key) (k : L2.Key) : List L2.Key := if hasK ks k = true then ks else ks ++ [k]
def putDs (ks : List L2.Key) (ds : List D) (k : L2.Key) (d : D) : List D := if hasK ks k = true then (ks.zip ds).map (fun p => if p.1 = k then d else p.2) else ds ++ [d]
section
variable {K : PySem.W.Frag} {R : Hp}
theorem rep_key {v : V} {k : L2.Key} (h : Rep K R v (kD k)) : v = kV k := by
  cases k with
  | inl i => cases h; rfl
  | inr x => cases h; rfl
theorem key_rep {k : L2.Key} : Rep K R (kV k) (kD k) := by
  cases k with
  | inl i => exact .int i
  | inr x => exact .str x
theorem keys_rep : ∀ {ks : List L2.Key}, RepL K R (ks.map kV) (ks.map kD)
  | [] => .nil
  | _ :: _ => .cons key_rep keys_rep
theorem valV_rep {k : L2.Key} {d : D} : ∀ {ks : List L2.Key} {vs : List V} {ds : List D}, ks.length = ds.length → RepL K R vs ds → atK ks ds k = some d → ∃ v, valV (ks.zip vs) k = some v ∧ Rep K R v d
  | [], vs, ds, hl, r, h => by simp [atK] at h
  | k0 :: ks, _, _, hl, .nil, h => by simp at hl
  | k0 :: ks, v0 :: vs, d0 :: ds, hl, .cons r rr, h => by
    by_cases e : k0 = k
    · refine ⟨v0, by simp [valV, e], ?_⟩
      simp [atK, e] at h
      exact h ▸ r
    · obtain ⟨v, h1, h2⟩ := valV_rep (ks := ks) (vs := vs) (ds := ds) (k := k) (d := d) (by simpa using hl) rr (by simpa [atK, e] using h)
      exact ⟨v, by simpa [valV, e] using h1, h2⟩
theorem valV_is {k : L2.Key} : ∀ {ks : List L2.Key} {vs : List V}, ks.length = vs.length → (valV (ks.zip vs) k).isSome = hasK ks k
  | [], _, _ => by simp [valV, hasK]
  | k0 :: ks, [], h => by simp at h
  | k0 :: ks, v0 :: vs, h => by
    by_cases e : k0 = k
    · simp [valV, hasK, e]
    · have := valV_is (k := k) (ks := ks) (vs := vs) (by simpa using h)
      simp [valV, hasK, e] at this ⊢
      exact this
theorem putK_any {k : L2.Key} {ks : List L2.Key} {vs : List V} (h : ks.length = vs.length) : ((ks.zip vs).any fun kv => decide (kv.1 = k)) = hasK ks k := by
  rw [valV_any, valV_is h]
theorem zip_map_snd : ∀ {ks : List L2.Key} {vs : List V} {f : L2.Key → V → V}, (ks.zip vs).map (fun kv => (kv.1, f kv.1 kv.2)) = ks.zip ((ks.zip vs).map fun kv => f kv.1 kv.2)
  | [], _, _ => by simp
  | _ :: _, [], _ => by simp
  | k :: ks, v :: vs, f => by
    simp only [List.zip_cons_cons, List.map_cons]
    rw [zip_map_snd (ks := ks) (vs := vs) (f := f)]
theorem rep_zip_map {k : L2.Key} {v : V} {d : D} (r : Rep K R v d) : ∀ {ks : List L2.Key} {vs : List V} {ds : List D}, RepL K R vs ds → RepL K R ((ks.zip vs).map fun kv => if kv.1 = k then v else kv.2) ((ks.zip ds).map fun p => if p.1 = k then d else p.2)
  | [], _, _, _ => by simpa using RepL.nil
  | _ :: _, _, _, .nil => by simpa using RepL.nil
  | k0 :: ks, _, _, .cons r0 rr => by
    simp only [List.zip_cons_cons, List.map_cons]
    refine .cons ?_ (rep_zip_map r rr)
    by_cases e : k0 = k
    · simp only [e, if_true]; exact r
    · simp only [e, if_false]; exact r0
theorem put_rep {k : L2.Key} {v : V} {d : D} {ks : List L2.Key} {vs : List V} {ds : List D} (hl : ks.length = ds.length) (rr : RepL K R vs ds) (r : Rep K R v d) :
    (putKs ks k).length = (putDs ks ds k d).length ∧ ∃ ws, putK (ks.zip vs) k v = (putKs ks k).zip ws ∧ RepL K R ws (putDs ks ds k d) := by
  have lv := rr.len
  unfold putKs putDs putK
  rw [putK_any (hl.trans lv.symm)]
  by_cases h : hasK ks k = true
  · rw [if_pos h, if_pos h, if_pos h]
    refine ⟨by simp [hl], (ks.zip vs).map fun kv => if kv.1 = k then v else kv.2, ?_, rep_zip_map r rr⟩
    have e := zip_map_snd (ks := ks) (vs := vs) (f := fun a b => if a = k then v else b)
    rw [← e]
    refine List.map_congr_left fun p _ => ?_
    by_cases hp : p.1 = k
    · simp [hp]
    · simp [hp]
  · rw [if_neg h, if_neg h, if_neg h]
    refine ⟨by simp [hl], vs ++ [v], ?_, rr.app (.cons r .nil)⟩
    rw [List.zip_append (hl.trans lv.symm)]
    rfl
end
section
variable {K : PySem.W.Frag} {W : WX} {δ : DEnv} {ρ ρ' : SEnv} {l : Bool} {ta tb te ti : TE} {t u : TS} {a : TA} {d x y z : D} {ds es : List D} {ks : List L2.Key} {k : L2.Key} {i : Nat} {O : Out → Prop} {w : D}
theorem o_ixd (h : atK ks ds k = some d) : DO K (rIx' K) (.dct ks ds) (kD k) d := fun H R v u Q s rv ru q => by
  cases rv with
  | dct h1 h2 h3 =>
    obtain ⟨v, e, r⟩ := valV_rep h2 h3 h
    rw [rep_key ru]
    exact .inr (.inr (.inr ⟨_, v, rfl, e ▸ DGet.k (s _ _ h1), q v H R (Gr.refl s) r⟩))
theorem o_inK : DO K (rIn' K) (kD k) (.dct ks ds) (.bl (hasK ks k)) := fun H R v u Q s rv ru q => by
  cases ru with
  | dct h1 h2 h3 =>
    rw [rep_key rv]
    refine .inr (.inr (.inr ⟨_, _, rfl, DGet.k (s _ _ h1), ?_⟩))
    rw [valV_is (h2.trans h3.len.symm)]
    exact q _ H R (Gr.refl s) (.bl _)
theorem o_notinK : DO K (rNotIn' K) (kD k) (.dct ks ds) (.bl (!hasK ks k)) := fun H R v u Q s rv ru q => by
  cases ru with
  | dct h1 h2 h3 =>
    rw [rep_key rv]
    refine .inr (.inr (.inr ⟨_, _, rfl, DGet.k (s _ _ h1), ?_⟩))
    rw [valV_is (h2.trans h3.len.symm)]
    exact q _ H R (Gr.refl s) (.bl _)
/-- one sign in a text -/
theorem o_inS {c : Nat} {z : Str} : DO K (rIn' K) (.str ⟨#[c]⟩) (.str z) (.bl (decide (c ∈ z.cps.toList))) := fun H R v u Q s rv ru q => by
  cases rv; cases ru
  exact .inr (.inr (.inl ⟨c, z, rfl, rfl, q _ H R (Gr.refl s) (.bl _)⟩))
theorem o_notinS {c : Nat} {z : Str} : DO K (rNotIn' K) (.str ⟨#[c]⟩) (.str z) (.bl (!decide (c ∈ z.cps.toList))) := fun H R v u Q s rv ru q => by
  cases rv; cases ru
  exact .inr (.inr (.inl ⟨c, z, rfl, rfl, q _ H R (Gr.refl s) (.bl _)⟩))
/-- x.startswith(y) -/
def rStartswith : V → List V → Hp → VK → Prop := fun x xs H Q => ∃ a b, x = .str a ∧ xs = [.str b] ∧ Q (.bl (Txt.startswith a b)) H
theorem d_starts {x y : Str} (h1 : DE K δ te (.str x)) (h2 : DA K δ a [.str y]) : DE K δ (tBM K "str" rStartswith te a) (.bl (Txt.startswith x y)) := fun H R σ Q s e q =>
  h1 H R σ _ s e fun v H1 R1 g1 r1 => by
    cases r1
    refine ⟨rfl, h2 H1 R1 σ _ g1.i (e.mono g1.r) fun vs H2 R2 g2 r2 => ?_⟩
    obtain ⟨w, rfl, r⟩ := rep1 r2
    cases r
    exact ⟨x, y, rfl, rfl, q _ H2 R2 (g1.trans g2) (.bl _)⟩
/-- list(x): a list, a tuple, a dict -/
theorem dl_listA (h : DA K δ a [x]) (hx : x = .lst ds ∨ x = .tup ds) (hn : ds.length ≤ 10000000) : DL K δ (tCB (rListA K) a) ds := fun H R σ Q s e q =>
  h H R σ _ s e fun vs H1 R1 g1 r1 => by
    obtain ⟨v, rfl, r⟩ := rep1 r1
    have fin : ∀ xs : List V, RepL K R1 xs ds → ∀ l, H1 l = none → Q (.ref l) (upd H1 l (.lst xs)) := fun xs k2 p hp =>
      q p xs _ R1 (g1.trans (Gr.apart g1.i hp)) (g1.h.free hp) upd_same (g1.i.free hp) (small (by rw [k2.len]; exact hn)) k2
    rcases hx with rfl | rfl
    · cases r with
      | @lst a xs _ k1 k2 => exact .inl ⟨a, xs, rfl, .inl (rdS g1.i k1), fin xs k2⟩
    · cases r with
      | @tup a xs _ k1 k2 => exact .inl ⟨a, xs, rfl, .inr (sqT_same g1.i k1), fin xs k2⟩
theorem dl_listK (h : DA K δ a [.dct ks ds]) (hn : ks.length ≤ 10000000) : DL K δ (tCB (rListA K) a) (ks.map kD) := fun H R σ Q s e q =>
  h H R σ _ s e fun vs H1 R1 g1 r1 => by
    obtain ⟨v, rfl, r⟩ := rep1 r1
    cases r with
    | @dct a _ vs _ h1 h2 h3 =>
      refine .inr ⟨a, _, rfl, g1.i _ _ h1, fun p hp => ?_⟩
      have em : (ks.zip vs).map (fun kv => kV kv.1) = ks.map kV := by
        have e1 : (ks.zip vs).map (·.1) = ks := List.map_fst_zip (by rw [h3.len, h2]; exact Nat.le_refl _)
        conv => rhs; rw [← e1, List.map_map]
        rfl
      rw [em]
      exact q p _ _ R1 (g1.trans (Gr.apart g1.i hp)) (g1.h.free hp) upd_same (g1.i.free hp) (small (by rw [List.length_map]; exact hn)) keys_rep
/-- a new object -/
def DNw (K : PySem.W.Frag) (δ : DEnv) (te : TE) (u : D) : Prop := ∀ (H R : Hp) (σ : L2.St) (Q : VK), Same R H → EnvR K R σ δ → (∀ p x H' R', Gr H R H' R' → H p = none → H' p = some x → R' p = none → Top K R' x u → Q (.ref p) H') → te σ H Q
theorem DNw.de (h : DNw K δ te w) : DE K δ te w := fun H R σ Q s e q =>
  h H R σ Q s e fun p x H' R' g hp h1 h2 r => by
    have up : Same R' (upd R' p x) := fun b o e' => by rw [upd_ne (ne_of_none e' h2)]; exact e'
    have g2 : Gr H R H' (upd R' p x) := by
      refine ⟨g.h, g.r.trans up, fun b o e => ?_, fun a o e n => ?_⟩
      · by_cases hb : b = p
        · subst hb; rw [upd_same] at e; rw [h1]; exact e
        · rw [upd_ne hb] at e; exact g.i b o e
      · rw [upd_ne (ne_of_none e hp)]; exact g.o a o e n
    exact q (.ref p) H' _ g2 ((r.mono up).rep upd_same)
theorem DL.nw (h : DL K δ te ds) : DNw K δ te (.lst ds) := fun H R σ Q s e q => h H R σ Q s e fun p xs H' R' g hp h1 h2 _ r => q p (.lst xs) H' R' g hp h1 h2 r
theorem dn_dict0 : DNw K δ tDNewK (.dct [] []) := fun H R σ Q s e q p hp => q p (.dK []) _ R (Gr.apart s hp) hp upd_same (s.free hp) ⟨rfl, [], rfl, .nil⟩
theorem Top.conv {R R2 : Hp} {o : HO} (q : ∀ vs ds, (l = true → D.solL ds = true) → RepL K R vs ds → RepL K R2 vs ds) (hs : l = true → w.solT = true) (t : Top K R o w) : Top K R2 o w := by
  cases o <;> cases w <;> first
    | exact t.elim
    | exact q _ _ hs t
    | (obtain ⟨hl, vs, rfl, r⟩ := t; exact ⟨hl, vs, rfl, q _ _ hs r⟩)
    | (obtain ⟨a, xs, vs, e, t1, t2, t3, t4, t5⟩ := t; exact ⟨a, xs, vs, e, t1, t2, q _ _ (fun hl => by have := hs hl; simp [D.solT] at this; exact this.1) t3, t4, q _ _ (fun hl => by have := hs hl; simp [D.solT] at this; exact this.2) t5⟩)
    | (obtain ⟨rfl, hl, vs, rfl, r⟩ := t; exact ⟨rfl, hl, vs, rfl, q _ _ hs r⟩)
theorem x_setN (l : Bool) (h1 : DNw K (fz l ρ) te w) (hs : l = true → w.solT = true) : DS K W ρ (tAsg te (gName i)) (.nx (ρ.set i (.ow w))) := fun H0 R0 H σ E ⟨R, e⟩ k =>
  h1 H _ σ _ e.lendI e.env fun p x H1 R1 g hp h2 h3 t => by
    obtain ⟨e1, _, _, q, n, _⟩ := e.run g
    exact k _ H1 ⟨_, e1.setO h2 (n p h3) (e.h.free hp) (u := w) (t.conv q hs) fun j _ es g1 g2 => e.notOwn hp ⟨j, es, g1, g2⟩⟩
theorem q_setN (l : Bool) (h1 : DNw K (fz l ρ) te w) (hs : l = true → w.solT = true) (q : WP K W (ρ.set i (.ow w)) u O) : WP K W ρ (tSeq (tAsg te (gName i)) u) O := q_then (x_setN l h1 hs) q
theorem x_ownD {H0 R0 H : Hp} {σ : L2.St} {P : Prop} (h : ρ[i]? = some (.ow (.dct ks ds))) (e : EvS K H0 R0 H σ ρ) (f : ∀ p vs R, EvR K H0 R0 H R σ ρ → σ[i]? = some (some (.ref p)) → H p = some (.dK (ks.zip vs)) → ks.length = ds.length → RepL K R vs ds → P) : P := by
  obtain ⟨R, e⟩ := e
  obtain ⟨o, g1, p, xs, rfl, g2, g3, r⟩ := e.ok i _ h
  cases xs <;> first
    | exact r.elim
    | skip
  rename_i kvs
  obtain ⟨hl, vs, rfl, r⟩ := r
  exact f p vs R e g1 g2 hl r
/-- x[k] = e, x an owned dict -/
theorem x_dput (l : Bool) (h : ρ[i]? = some (.ow (.dct ks ds))) (h1 : DE K (fz l ρ) te d) (hs : l = true → d.sol = true) (h2 : DE K (fz l ρ) ti (kD k)) (hn : ks.length < 10000000) :
    DS K W ρ (tAsg te (gSub (tVar i) ti rSet')) (.nx (ρ.set i (.ow (.dct (putKs ks k) (putDs ks ds k d))))) := fun H0 R0 H σ E e q =>
  x_ownD h e fun p vs R e g1 g2 hl r => by
    refine h1 H _ σ _ e.lendI e.env fun v H1 R1 g r1 => ?_
    obtain ⟨e1, up, qq, _⟩ := e.run g
    refine ⟨.ref p, g1, h2 H1 _ σ _ e1.lendI e1.env fun w H2 R2 gg r2 => ?_⟩
    obtain ⟨e2, up2, _⟩ := e1.run gg
    have ew := rep_key r2
    subst ew
    have lz : (ks.zip vs).length < sizeLine := by
      rw [List.length_zip]
      have := smallL hn
      omega
    obtain ⟨hl2, ws, hw, rw2⟩ := put_rep (K := K) (k := k) (d := d) hl ((r.mono up).mono up2) ((qq v d hs r1).mono up2)
    exact .inr ⟨p, _, rfl, DPut.k (gg.h p _ (g.h p _ g2)) lz, q _ _ ⟨_, e2.put h g1 (w := .dct (putKs ks k) (putDs ks ds k d)) ⟨hl2, ws, hw, rw2⟩⟩⟩
theorem q_dput (l : Bool) (h : ρ[i]? = some (.ow (.dct ks ds))) (h1 : DE K (fz l ρ) te d) (hs : l = true → d.sol = true) (h2 : DE K (fz l ρ) ti (kD k)) (hn : ks.length < 10000000) (q : WP K W (ρ.set i (.ow (.dct (putKs ks k) (putDs ks ds k d)))) u O) :
    WP K W ρ (tSeq (tAsg te (gSub (tVar i) ti rSet')) u) O := q_then (x_dput l h h1 hs h2 hn) q
/-- {tk: tv for g in wi if tt}: f tells what each turn adds -/
def dcAcc (f : Nat → Option (L2.Key × D)) : Nat → List L2.Key × List D
  | 0 => ([], [])
  | n + 1 => match f n with
    | none => dcAcc f n
    | some (k, d) => (putKs (dcAcc f n).1 k, putDs (dcAcc f n).1 (dcAcc f n).2 k d)
theorem dcAcc_len (f : Nat → Option (L2.Key × D)) : ∀ n, (dcAcc f n).1.length = (dcAcc f n).2.length ∧ (dcAcc f n).1.length ≤ n
  | 0 => ⟨rfl, Nat.le_refl _⟩
  | n + 1 => by
    obtain ⟨h1, h2⟩ := dcAcc_len f n
    rw [dcAcc]
    cases f n with
    | none => exact ⟨h1, Nat.le_succ_of_le h2⟩
    | some p =>
      obtain ⟨k, d⟩ := p
      dsimp only
      unfold putKs putDs
      by_cases h : hasK (dcAcc f n).1 k = true
      · rw [if_pos h, if_pos h]
        exact ⟨by simp [h1], by omega⟩
      · rw [if_neg h, if_neg h]
        exact ⟨by simp [h1], by simp; omega⟩
theorem dc_it {J : It} {n : Nat} {M : Hp → Prop} {Y : Nat → Hp → V → Hp → Prop} (w : Walk J n M Y) {g : TG} {tt : TT} {tk tv : TE} {vs : List Nat} {σ : L2.St} {H1 : Hp} {D0 : Addr} {Qd : Hp → Prop} (Pv : Nat → Hp → Prop) (h0 : Pv 0 (upd H1 D0 (.dK []))) (hm : ∀ i H, i ≤ n → Pv i H → M H)
    (hs : ∀ i x H H', i < n → Pv i H → Y i H x H' → g x (wipe σ vs) H' fun σ2 H2 => wipe σ2 vs = wipe σ vs ∧ tt σ2 H2 fun b H3 =>
      if b = true then tk σ2 H3 fun y H4 => tv σ2 H4 fun z H5 => ∃ kvs k, y = kV k ∧ H5 D0 = some (.dK kvs) ∧ kvs.length < sizeLine ∧ Pv (i + 1) (upd H5 D0 (.dK (putK kvs k z))) else Pv (i + 1) H3) (hd : ∀ H, Pv n H → Qd H) :
    ∃ Wv : Nat → Nat → Hp → Prop, (∃ m, Wv 0 m (upd H1 D0 (.dK []))) ∧ ∀ i m H, Wv i m H →
      (J.stop i H ∧ Qd H) ∨ (J.go i H ∧ ∃ Nx : Hp → Prop, (∀ H', Nx H' → ∃ m', m' < m ∧ Wv (i + 1) m' H') ∧ ∀ x H', J.yld i H x H' → g x (wipe σ vs) H' fun σ2 H2 => wipe σ2 vs = wipe σ vs ∧ tt σ2 H2 fun b H3 =>
        if b = true then tk σ2 H3 fun y H4 => tv σ2 H4 fun z H5 => ∃ kvs k, y = kV k ∧ H5 D0 = some (.dK kvs) ∧ kvs.length < sizeLine ∧ Nx (upd H5 D0 (.dK (putK kvs k z))) else Nx H3) := by
  refine ⟨fun i m H => m = n - i ∧ i ≤ n ∧ Pv i H, ⟨n, by simp, Nat.zero_le _, h0⟩, ?_⟩
  rintro i m H ⟨rfl, hi, p⟩
  have hM := hm i H hi p
  by_cases hlt : i < n
  · refine .inr ⟨w.goes i H hlt hM, Pv (i + 1), fun H' p' => ⟨n - (i + 1), by omega, rfl, hlt, p'⟩, fun x H' y => ?_⟩
    exact hs i x H H' hlt p (w.yields i H x H' hlt hM y)
  · have e : i = n := by omega
    subst e
    exact .inl ⟨w.stops H hM, hd H p⟩
variable {wi : TI} {g : TG} {tt : TT} {tk tv : TE} {vs : List Nat} {xs : List D}
theorem dn_dc (hi : DI K δ wi xs) (f : Nat → Option (L2.Key × D)) (ps : Nat → List (Nat × D)) (hg : ∀ i d, xs[i]? = some d → DG K g d (ps i) ∧ ∀ p ∈ ps i, p.1 ∈ vs)
    (hs : ∀ i d, xs[i]? = some d → DT K (setsD (wipeD δ vs) (ps i)) tt (f i).isSome ∧ ∀ k y, f i = some (k, y) → DE K (setsD (wipeD δ vs) (ps i)) tk (kD k) ∧ DE K (setsD (wipeD δ vs) (ps i)) tv y) (hn : xs.length ≤ 10000000) {ks : List L2.Key} {ys : List D} (hy : (ks, ys) = dcAcc f xs.length) :
    DNw K δ (tDc wi g tt tk tv vs) (.dct ks ys) := fun H R σ Q s ev q => by
  refine hi H R σ _ s ev fun J H1 R1 g1 ⟨Y, hw, hyl⟩ L hL => ?_
  have rL : R1 L = none := g1.i.free hL
  have HL : H L = none := g1.h.free hL
  refine dc_it hw (fun i H2 => ∃ R2 acc, Gr H1 R1 H2 R2 ∧ R2 L = none ∧ H2 L = some (.dK ((dcAcc f i).1.zip acc)) ∧ RepL K R2 acc (dcAcc f i).2) ⟨R1, [], ⟨fun b o e => by rw [upd_ne (ne_of_none e hL)]; exact e, Same.refl _, fun b o e => by rw [upd_ne (ne_of_none e rL)]; exact g1.i b o e, fun _ _ _ n => n⟩, rL, upd_same, .nil⟩ ?_ ?_ ?_
  · rintro i H2 _ ⟨R2, acc, g2, _⟩
    exact g2.r.trans g2.i
  · rintro i x H2 H3 hi' ⟨R2, acc, g2, n2, a2, r2⟩ y
    obtain ⟨d, R3, hd, g3, r3⟩ := hyl i H2 R2 x H3 hi' g2.r g2.i y
    obtain ⟨hg1, hg2⟩ := hg i d hd
    have e3 : EnvR K R3 (L2.wipe σ vs) (wipeD δ vs) := (ev.mono ((g1.r.trans g2.r).trans g3.r)).wipe
    have n3 : R3 L = none := g3.o L _ a2 n2
    have a3 := g3.h _ _ a2
    refine hg1 H3 R3 _ x _ g3.i r3 fun us ru => ?_
    refine ⟨wipe_sets fun i' hi2 => ?_, ?_⟩
    · obtain ⟨p, hp, rfl⟩ := List.mem_map.mp hi2
      exact hg2 p hp
    obtain ⟨ht, he⟩ := hs i d hd
    refine ht H3 R3 _ _ g3.i (e3.sets ru) fun H4 R4 g4 => ?_
    have n4 : R4 L = none := g4.o L _ a3 n3
    have a4 := g4.h _ _ a3
    have r4 : RepL K R4 acc (dcAcc f i).2 := (r2.mono g3.r).mono g4.r
    have g14 : Gr H1 R1 H4 R4 := (g2.trans g3).trans g4
    cases hf : f i with
    | none =>
      have ed : dcAcc f (i + 1) = dcAcc f i := by
        rw [dcAcc, hf]
      refine if_ff ⟨R4, acc, g14, n4, ?_, ?_⟩
      · rw [ed]; exact a4
      · rw [ed]; exact r4
    | some z =>
      obtain ⟨k, z⟩ := z
      obtain ⟨he1, he2⟩ := he k z hf
      refine if_tt (he1 H4 R4 _ _ g4.i ((e3.sets ru).mono g4.r) fun w H5 R5 g5 r5 => he2 H5 R5 _ _ g5.i (((e3.sets ru).mono g4.r).mono g5.r) fun w2 H6 R6 g6 r6 => ?_)
      have g56 := g5.trans g6
      have n6 : R6 L = none := g56.o L _ a4 n4
      have a6 := g56.h _ _ a4
      have ew := rep_key r5
      subst ew
      obtain ⟨hl1, hl2⟩ := dcAcc_len f i
      obtain ⟨hl3, ws, hw2, rw2⟩ := put_rep (K := K) (k := k) hl1 (r4.mono g56.r) r6
      refine ⟨_, k, rfl, a6, ?_, R6, ws, (g14.trans g56).put hL n6, n6, ?_, ?_⟩
      · rw [List.length_zip]
        have : i < 10000000 := by omega
        have := smallL this
        omega
      · rw [hw2]
        have ed : dcAcc f (i + 1) = (putKs (dcAcc f i).1 k, putDs (dcAcc f i).1 (dcAcc f i).2 k z) := by
          rw [dcAcc, hf]
        rw [ed]
        exact upd_same
      · have ed : dcAcc f (i + 1) = (putKs (dcAcc f i).1 k, putDs (dcAcc f i).1 (dcAcc f i).2 k z) := by
          rw [dcAcc, hf]
        rw [ed]
        exact rw2
  · rintro H2 ⟨R2, acc, g2, n2, a2, r2⟩
    rw [← hy] at a2 r2
    have hl := (dcAcc_len f xs.length).1
    rw [← hy] at hl
    exact q L _ H2 R2 (g1.trans g2) HL a2 n2 ⟨hl, acc, rfl, r2⟩
end
end G

set_option Elab.async false
set_option linter.all false
set_option maxRecDepth 10000000
set_option maxHeartbeats 4000000
/-! Dnd: dicts with tuples as keys, as data. -/
namespace G
open PySem PySem.Spec PyProof.Rows L2
section
variable {K : PySem.W.Frag} {R H : Hp}
mutual
theorem rep_nis (s : Same R H) : ∀ (d : D) (v : V), d.nk = true → Rep K R v d → NIs K H v (nkD d)
  | .non, _, _, q => by cases q; exact .non
  | .int i, _, _, q => by cases q; exact .int i
  | .str x, _, _, q => by cases q; exact .str x
  | .tup ds, _, n, q => by
    cases q with
    | tup a b => exact .tup (sqT_same s a) (repL_nis s ds _ (by simpa [D.nk] using n) b)
  | .bl _, _, n, _ => by simp [D.nk] at n
  | .lst _, _, n, _ => by simp [D.nk] at n
  | .ins _ _ _, _, n, _ => by simp [D.nk] at n
  | .kl _, _, n, _ => by simp [D.nk] at n
  | .val _, _, n, _ => by simp [D.nk] at n
  | .dct _ _, _, n, _ => by simp [D.nk] at n
  | .ndc _ _ _, _, n, _ => by simp [D.nk] at n
  | .exc _ _ _ _, _, n, _ => by simp [D.nk] at n
  | .xt _, _, n, _ => by simp [D.nk] at n
theorem repL_nis (s : Same R H) : ∀ (ds : List D) (vs : List V), D.nkAll ds = true → RepL K R vs ds → NIsAll K H vs (nkL ds)
  | [], _, _, q => by cases q; exact .nil
  | d :: ds, _, n, q => by
    simp only [D.nkAll, Bool.and_eq_true] at n
    cases q with
    | cons a b => exact .cons (rep_nis s d _ n.1 a) (repL_nis s ds _ n.2 b)
end
theorem key_ok {k : D} (h : k.key = true) : k.nk = true ∧ (nkD k).depth ≤ 8 ∧ ∃ ds, k = .tup ds := by
  unfold D.key at h
  simp only [Bool.and_eq_true] at h
  refine ⟨h.1.1, of_decide_eq_true h.1.2, ?_⟩
  cases k with
  | tup ds => exact ⟨ds, rfl⟩
  | _ => exact absurd h.2 (by simp)
theorem rep_ref {k : D} {v : V} (h : k.key = true) (r : Rep K R v k) : ∃ b, v = .ref b := by
  obtain ⟨_, _, ds, rfl⟩ := key_ok h
  cases r with
  | tup a b => exact ⟨_, rfl⟩
theorem nkeys_of (s : Same R H) : ∀ {xs : List NEnt} {kds : List D}, xs.map (·.1) = kds.map nkD → (∀ d ∈ kds, d.key = true) → RepL K R (xs.map fun e => V.ref e.2.1) kds → NKeys K H xs
  | [], _, _, _, _ => fun e he => by cases he
  | x :: xs, [], h, _, _ => by cases h
  | x :: xs, k :: kds, h, hk, r => by
    simp only [List.map_cons, List.cons.injEq] at h
    rw [List.map_cons] at r
    cases r with
    | cons r0 rr =>
      intro e he
      rcases List.mem_cons.mp he with rfl | he
      · obtain ⟨n1, n2, _⟩ := key_ok (hk k List.mem_cons_self)
        rw [h.1]
        exact ⟨rep_nis s k _ n1 r0, n2⟩
      · exact nkeys_of s h.2 (fun d hd => hk d (List.mem_cons_of_mem _ hd)) rr e he
end
/-- the key is among them -/
def hasN (kds : List D) (k : D) : Bool := kds.any fun x => decide (nkD x = nkD k)
theorem atKey_has : ∀ {xs : List NEnt} {kds : List D} {k : D}, xs.map (·.1) = kds.map nkD → (atKey xs (nkD k)).isSome = hasN kds k
  | [], [], _, _ => rfl
  | x :: xs, [], _, h => by cases h
  | [], k :: kds, _, h => by cases h
  | x :: xs, k0 :: kds, k, h => by
    simp only [List.map_cons, List.cons.injEq] at h
    have ih := atKey_has (k := k) h.2
    unfold hasN at ih ⊢
    rw [List.any_cons, ← h.1]
    by_cases e : x.1 = nkD k
    · simp [atKey, e]
    · simp [atKey, e] at ih ⊢
      exact ih
section
variable {K : PySem.W.Frag} {W : WX} {w : World} {δ : DEnv} {ρ ρ' : SEnv} {l : Bool} {ta tb te ti tk tv : TE} {t u : TS} {a : TA} {d x y z k : D} {ds es kds : List D} {i : Nat} {O : Out → Prop}
theorem o_inN (hk : k.key = true) : DO K (rInN K w) k (.ndc w kds ds) (.bl (hasN kds k)) := fun H R v u Q s rv ru q => by
  obtain ⟨b, rfl⟩ := rep_ref hk rv
  obtain ⟨n1, n2, _⟩ := key_ok hk
  cases ru with
  | ndc a1 a2 a3 a4 a5 a6 =>
    refine ⟨_, _, _, b, nkD k, rfl, rfl, s _ _ a1, nkeys_of s a2 a3 a4, rep_nis s k _ n1 rv, n2, ?_⟩
    rw [atKey_has a2]
    exact q _ H R (Gr.refl s) (.bl _)
theorem o_notinN (hk : k.key = true) : DO K (rNotInN K w) k (.ndc w kds ds) (.bl (!hasN kds k)) := fun H R v u Q s rv ru q => by
  obtain ⟨b, rfl⟩ := rep_ref hk rv
  obtain ⟨n1, n2, _⟩ := key_ok hk
  cases ru with
  | ndc a1 a2 a3 a4 a5 a6 =>
    refine ⟨_, _, _, b, nkD k, rfl, rfl, s _ _ a1, nkeys_of s a2 a3 a4, rep_nis s k _ n1 rv, n2, ?_⟩
    rw [atKey_has a2]
    exact q _ H R (Gr.refl s) (.bl _)
/-- {k: v} -/
theorem dn_nd1 (h1 : DE K δ tk k) (h2 : DE K δ tv d) (hk : k.key = true) : DNw K δ (tND1 K w tk tv) (.ndc w [k] [d]) := fun H R σ Q s e q p hp => by
  have rp : R p = none := s.free hp
  have g0 := Gr.apart (u := ndO w p []) s hp
  refine h1 _ R σ _ g0.i e fun v H1 R1 g1 r1 => h2 H1 R1 σ _ g1.i (e.mono g1.r) fun v2 H2 R2 g2 r2 => ?_
  obtain ⟨b, rfl⟩ := rep_ref hk r1
  obtain ⟨n1, n2, _⟩ := key_ok hk
  have gg := g1.trans g2
  have hp2 : H2 p = some (ndO w p []) := gg.h _ _ upd_same
  have rp2 : R2 p = none := gg.o p _ upd_same rp
  refine ⟨hp2, b, nkD k, rfl, rep_nis (Same.trans g2.r g2.i) k _ n1 r1, n2, fun u ru => ?_⟩
  refine q p (ndO w p [(nkD k, b, u)]) _ R2 ((g0.trans gg).put hp rp2) hp upd_same rp2 ?_
  exact ⟨p, [(nkD k, b, u)], [v2], rfl, rfl, fun x hx => by rw [List.mem_singleton.mp hx]; exact hk, .cons (r1.mono g2.r) .nil, .cons ru .nil, .cons r2 .nil⟩
theorem x_ownN {H0 R0 H : Hp} {σ : L2.St} {P : Prop} (h : ρ[i]? = some (.ow (.ndc w kds ds))) (e : EvS K H0 R0 H σ ρ)
    (f : ∀ p a xs vs R, EvR K H0 R0 H R σ ρ → σ[i]? = some (some (.ref p)) → H p = some (ndO w a xs) → xs.map (·.1) = kds.map nkD → (∀ d ∈ kds, d.key = true) → RepL K R (xs.map fun e => V.ref e.2.1) kds → Vals vs (xs.map fun e => e.2.2) → RepL K R vs ds → P) : P := by
  obtain ⟨R, e⟩ := e
  obtain ⟨o, g1, p, x, rfl, g2, g3, r⟩ := e.ok i _ h
  cases x <;> first
    | exact r.elim
    | skip
  rename_i φ
  obtain ⟨a, xs, vs, e1, r1, r2, r3, r4, r5⟩ := r
  exact f p a xs vs R e g1 (e1 ▸ g2) r1 r2 r3 r4 r5
/-- x[k] = e, a key that is not there yet -/
theorem x_nput (l : Bool) (h : ρ[i]? = some (.ow (.ndc w kds ds))) (h1 : DE K (fz l ρ) te d) (hs : l = true → d.sol = true) (h2 : DE K (fz l ρ) ti k) (hks : l = true → k.sol = true) (hk : k.key = true) (hnew : hasN kds k = false) (hn : kds.length < 10000000) :
    DS K W ρ (tAsg te (gSub (tVar i) ti (rSetN K w))) (.nx (ρ.set i (.ow (.ndc w (kds ++ [k]) (ds ++ [d]))))) := fun H0 R0 H σ E e q =>
  x_ownN h e fun p a xs vs R e g1 g2 m1 m2 m3 m4 m5 => by
    refine h1 H _ σ _ e.lendI e.env fun v H1 R1 g r1 => ?_
    obtain ⟨e1, up, qq, _⟩ := e.run g
    refine ⟨.ref p, g1, h2 H1 _ σ _ e1.lendI e1.env fun w2 H2 R2 gg r2 => ?_⟩
    obtain ⟨e2, up2, qq2, _⟩ := e1.run gg
    have rk := qq2 _ _ hks r2
    obtain ⟨b, rfl⟩ := rep_ref hk rk
    obtain ⟨n1, n2, _⟩ := key_ok hk
    have s2 := e2.i
    have m3' := (m3.mono up).mono up2
    have lx : xs.length = kds.length := by have := congrArg List.length m1; simpa using this
    have hat : atKey xs (nkD k) = none := by
      have := atKey_has (k := k) m1
      rw [hnew] at this
      simpa using this
    refine ⟨p, a, xs, b, nkD k, rfl, rfl, gg.h p _ (g.h p _ g2), nkeys_of s2 m1 m2 m3', rep_nis s2 k _ n1 rk, n2, smallL (by rw [lx]; exact hn), fun u ru => ?_⟩
    rw [storedH_new hat]
    refine q _ _ ⟨_, e2.put h g1 (w := .ndc w (kds ++ [k]) (ds ++ [d])) (y := ndO w p (xs ++ [(nkD k, b, u)])) ?_⟩
    refine ⟨p, xs ++ [(nkD k, b, u)], vs ++ [v], rfl, by simp [m1], fun x hx => ?_, ?_, ?_, ((m5.mono up).mono up2).app (.cons ((qq v d hs r1).mono up2) .nil)⟩
    · rcases List.mem_append.mp hx with hx | hx
      · exact m2 x hx
      · rw [List.mem_singleton.mp hx]; exact hk
    · rw [List.map_append]
      exact m3'.app (.cons rk .nil)
    · rw [List.map_append]
      exact m4.append (.cons ru .nil)
theorem q_nput (l : Bool) (h : ρ[i]? = some (.ow (.ndc w kds ds))) (h1 : DE K (fz l ρ) te d) (hs : l = true → d.sol = true) (h2 : DE K (fz l ρ) ti k) (hks : l = true → k.sol = true) (hk : k.key = true) (hnew : hasN kds k = false) (hn : kds.length < 10000000)
    (q : WP K W (ρ.set i (.ow (.ndc w (kds ++ [k]) (ds ++ [d])))) u O) : WP K W ρ (tSeq (tAsg te (gSub (tVar i) ti (rSetN K w))) u) O := q_then (x_nput l h h1 hs h2 hks hk hnew hn) q
end
end G

set_option Elab.async false
set_option linter.all false
set_option maxRecDepth 10000000
set_option maxHeartbeats 4000000
/-! Dtx: texts: f-strings, join, isalpha, startswith from a place. -/
namespace G
open PySem PySem.Spec PyProof.Rows L2
def tJoin (ts : List TE) : TE := fun σ H Q => tJs ts Str.empty σ H fun out H1 => Q (.str out) H1
def rStarts3 : V → List V → Hp → VK → Prop := fun x xs H Q => ∃ (a b : Str) (i : Int), x = .str a ∧ xs = [.str b, .int i] ∧ Q (.bl (Txt.startswith3 a b i)) H
def rIsalpha : V → List V → Hp → VK → Prop := fun x xs H Q => ∃ a, x = .str a ∧ xs = [] ∧ True ∧ Q (.bl (Txt.isalpha a)) H
def rJoin (K : PySem.W.Frag) : V → List V → Hp → VK → Prop := fun x xs H Q => ∃ a p, ∃ ys : List Str, x = .str a ∧ xs = [.ref p] ∧ (SqL K H p (ys.map V.str) ∨ SqT K H p (ys.map V.str)) ∧ (ys.map (·.length)).sum + ys.length * a.length ≤ 16777216 ∧ Q (.str (Txt.join a ys)) H
section
variable {K : PySem.W.Frag} {δ : DEnv} {te : TE} {a : TA} {ts : List TE}
theorem d_fmt {z : Str} (h : DE K δ te (.str z)) (hn : z.length ≤ sizeLine) : DE K δ (tFmt te) (.str z) := fun H R σ Q s e q => h H R σ _ s e fun v H1 R1 g r => by
  cases r
  exact .inl ⟨z, rfl, hn, q _ H1 R1 g (.str z)⟩
/-- the parts of an f-string -/
inductive DJs (K : PySem.W.Frag) (δ : DEnv) : List TE → List Str → Prop
  | nil : DJs K δ [] []
  | cons {t : TE} {ts : List TE} {y : Str} {ys : List Str} : DE K δ t (.str y) → DJs K δ ts ys → DJs K δ (t :: ts) (y :: ys)
def cat : Str → List Str → Str
  | acc, [] => acc
  | acc, y :: ys => cat (acc ++ y) ys
theorem cat_len : ∀ (ys : List Str) (acc : Str), acc.length ≤ (cat acc ys).length
  | [], acc => Nat.le_refl _
  | y :: ys, acc => by
    refine Nat.le_trans ?_ (cat_len ys (acc ++ y))
    show acc.cps.size ≤ (acc.cps ++ y.cps).size
    rw [Array.size_append]
    omega
theorem djs_run : ∀ {ts : List TE} {ys : List Str}, DJs K δ ts ys → ∀ (acc : Str) (H R : Hp) (σ : L2.St) (Q : Str → Hp → Prop), (cat acc ys).length ≤ sizeLine → Same R H → EnvR K R σ δ → (∀ H' R', Gr H R H' R' → Q (cat acc ys) H') → tJs ts acc σ H Q
  | _, _, .nil, acc, H, R, σ, Q, hn, s, e, q => q H R (Gr.refl s)
  | _, _, .cons h t, acc, H, R, σ, Q, hn, s, e, q => h H R σ _ s e fun v H1 R1 g r => by
    cases r
    rename_i ts y ys
    exact ⟨_, rfl, Nat.le_trans (cat_len _ _) hn, djs_run t _ H1 R1 σ Q hn g.i (e.mono g.r) fun H' R' g' => q H' R' (g.trans g')⟩
theorem d_joined {ys : List Str} (h : DJs K δ ts ys) (hn : (cat Str.empty ys).length ≤ sizeLine) : DE K δ (tJoin ts) (.str (cat Str.empty ys)) := fun H R σ Q s e q =>
  djs_run h Str.empty H R σ _ hn s e fun H' R' g => q _ H' R' g (.str _)
theorem d_isalpha {z : Str} (h : DE K δ te (.str z)) : DE K δ (tBM0 K "str" rIsalpha te) (.bl (Txt.isalpha z)) := fun H R σ Q s e q => h H R σ _ s e fun v H1 R1 g r => by
  cases r
  exact ⟨rfl, z, rfl, rfl, trivial, q _ H1 R1 g (.bl _)⟩
theorem d_starts3 {x y : Str} {i : Int} (h1 : DE K δ te (.str x)) (h2 : DA K δ a [.str y, .int i]) : DE K δ (tBM K "str" rStarts3 te a) (.bl (Txt.startswith3 x y i)) := fun H R σ Q s e q =>
  h1 H R σ _ s e fun v H1 R1 g1 r1 => by
    cases r1
    refine ⟨rfl, h2 H1 R1 σ _ g1.i (e.mono g1.r) fun vs H2 R2 g2 r2 => ?_⟩
    obtain ⟨w, u, rfl, r, r'⟩ := rep2 r2
    cases r; cases r'
    exact ⟨x, y, i, rfl, rfl, q _ H2 R2 (g1.trans g2) (.bl _)⟩
theorem isAlpha_ascii : ∀ c, c < 128 → Unicode.isAlpha c = (decide (65 ≤ c ∧ c ≤ 90) || decide (97 ≤ c ∧ c ≤ 122)) := by decide +kernel
theorem rep_strs {R : Hp} : ∀ {ys : List Str} {vs : List V}, RepL K R vs (ys.map D.str) → vs = ys.map V.str
  | [], _, r => by cases r; rfl
  | y :: ys, _, r => by
    cases r with
    | cons a b =>
      cases a
      rw [rep_strs b]; rfl
theorem d_join {z : Str} {ys : List Str} (h1 : DE K δ te (.str z)) (h2 : DA K δ a [.lst (ys.map D.str)]) (hn : (ys.map (·.length)).sum + ys.length * z.length ≤ 16777216) : DE K δ (tBM K "str" (rJoin K) te a) (.str (Txt.join z ys)) := fun H R σ Q s e q =>
  h1 H R σ _ s e fun v H1 R1 g1 r1 => by
    cases r1
    refine ⟨rfl, h2 H1 R1 σ _ g1.i (e.mono g1.r) fun vs H2 R2 g2 r2 => ?_⟩
    obtain ⟨w, rfl, r⟩ := rep1 r2
    cases r with
    | @lst p xs _ k1 k2 =>
      have e2 := rep_strs k2
      subst e2
      exact ⟨z, p, ys, rfl, rfl, .inl (rdS g2.i k1), hn, q _ H2 R2 (g1.trans g2) (.str _)⟩
end
end G

set_option Elab.async false
set_option linter.all false
set_option maxRecDepth 100000
set_option maxHeartbeats 4000000
namespace L2
open PySem PySem.Spec PyProof.Rows PySem.W PySem.Calls
theorem dpAll_each {X : Cx} {pins : List (Addr × Obj)} {σ : St} {H : Hp} {s : Shared} (I : Inv X pins σ H s) : ∀ (bs : List (V × PyData)) (us : List Value), DpAll X.K H (bs.map (·.1)) (bs.map (·.2)) → Vals (bs.map (·.1)) us →
    EachIs (fun v (b : V × PyData) => RelV b.1 v) us bs ∧ EachIs (fun v (b : V × PyData) => ∃ as, Reads s.heap v b.2 as) us bs
  | [], _, _, r => by
    cases r
    exact ⟨.nil, .nil⟩
  | b :: bs, _, h, r => by
    rw [List.map_cons, List.map_cons] at h
    rw [List.map_cons] at r
    cases h with
    | cons h1 h2 =>
      cases r with
      | cons r1 r2 =>
        obtain ⟨q1, q2⟩ := dpAll_each I bs _ h2 r2
        exact ⟨.cons r1 q1, .cons (Dp.reads I _ _ _ h1 r1) q2⟩
theorem each_vals {bs : List (V × PyData)} {us : List Value} (e : EachIs (fun v (b : V × PyData) => RelV b.1 v) us bs) : Vals (bs.map (·.1)) us := by
  induction e with
  | nil => exact .nil
  | cons h _ ih => exact .cons h ih
/-- sorted(xs): xs a list that reads as data (alike, sortable) -/
def rSortD (K : PySem.W.Frag) : List V → Hp → VK → Prop := fun vs H Q => ∃ (a : Addr) (bs : List (V × PyData)), vs = [V.ref a] ∧ SqL K H a (bs.map (·.1)) ∧ DpAll K H (bs.map (·.1)) (bs.map (·.2)) ∧ AllAlike (bs.map (·.2)) ∧ Sortable (bs.map (·.2)) ∧ (∀ b ∈ bs, b.2.depth ≤ 32) ∧
  ∀ p, H p = none → Q (.ref p) (upd H p (.lst ((bs.mergeSort (dataLe false (·.2))).map (·.1))))
section
variable {X : Cx}
theorem cr_sortD (hu : X.A.units + 64 < cLine) : CallR X (.builtin "sorted") (rSortD X.K) := by
  intro pins s σ H vs us Q I r h
  obtain ⟨a, bs, rfl, hs, hd, hal, hk, hdep, q⟩ := h
  obtain ⟨its, rv, hl, hz⟩ := I.list hs
  obtain ⟨u, rfl, ru⟩ := vals1 r
  obtain rfl : u = Value.ref a := ru
  obtain ⟨e1, e2⟩ := dpAll_each I bs its hd rv
  refine sorted_data (enc := fun b : V × PyData => b.2) hl.isList e1 e2 hal hk (by rw [List.length_map] at hz; exact hz) (fun b hb => by have := hdep b hb; omega) fun out ho hE => ?_
  obtain ⟨ep, he'⟩ := PyProof.Rows.sortedAll_at s.heap its (List.toArray out)
  have hlen : ((bs.mergeSort (dataLe false (·.2))).map (·.1)).length ≤ sizeLine := by
    rw [List.length_map, List.length_mergeSort]
    rw [List.length_map] at hz
    exact hz
  exact ⟨.ref _, upd H (s.heap.objs.size + 1) (.lst _), I.laid (t' := s.toks) (fun _ _ => PyProof.Rows.sortedAll_old) (Nat.le_succ _) ⟨hlen, _, ep, each_vals hE, he'⟩, rfl, q _ (I.hok.fresh (Nat.le_succ _))⟩
end
end L2

set_option Elab.async false
set_option linter.all false
set_option maxRecDepth 100000
set_option maxHeartbeats 4000000
namespace G
open PySem PySem.Spec PyProof.Rows L2 L2 PySem.W PySem.Calls
mutual
/-- plain data as the sorts read them -/
def encD : D → PyData
  | .non => .none
  | .bl b => .bool b
  | .int i => .int i
  | .str x => .str x
  | .tup ds => .tuple (encL ds)
  | .lst ds => .list (encL ds)
  | _ => .none
def encL : List D → List PyData
  | [] => []
  | d :: ds => encD d :: encL ds
end
mutual
def D.pl : D → Bool
  | .non => true
  | .bl _ => true
  | .int _ => true
  | .str _ => true
  | .tup ds => plL ds
  | .lst ds => plL ds
  | _ => false
def plL : List D → Bool
  | [] => true
  | d :: ds => d.pl && plL ds
end
section
variable {K : PySem.W.Frag} {R : Hp}
mutual
theorem rep_dp : ∀ (d : D) (v : V), Rep K R v d → d.pl = true → Dp K R v (encD d)
  | .non, _, h, _ => by cases h; rw [encD]; exact .non
  | .bl b, _, h, _ => by cases h; rw [encD]; exact .bl b
  | .int i, _, h, _ => by cases h; rw [encD]; exact .int i
  | .str x, _, h, _ => by cases h; rw [encD]; exact .str x
  | .tup ds, _, h, p => by
    rw [D.pl] at p
    cases h with
    | tup h1 h2 => rw [encD]; exact .tup h1 (repL_dp ds _ h2 p)
  | .lst ds, _, h, p => by
    rw [D.pl] at p
    cases h with
    | lst h1 h2 => rw [encD]; exact .lst (.inl h1) (repL_dp ds _ h2 p)
  | .ins _ _ _, _, _, p => by simp [D.pl] at p
  | .kl _, _, _, p => by simp [D.pl] at p
  | .val _, _, _, p => by simp [D.pl] at p
  | .dct _ _, _, _, p => by simp [D.pl] at p
  | .ndc _ _ _, _, _, p => by simp [D.pl] at p
  | .exc _ _ _ _, _, _, p => by simp [D.pl] at p
  | .xt _, _, _, p => by simp [D.pl] at p
theorem repL_dp : ∀ (ds : List D) (vs : List V), RepL K R vs ds → plL ds = true → DpAll K R vs (encL ds)
  | [], _, h, _ => by cases h; rw [encL]; exact .nil
  | d :: ds, _, h, p => by
    rw [plL, Bool.and_eq_true] at p
    cases h with
    | cons h1 h2 => rw [encL]; exact .cons (rep_dp d _ h1 p.1) (repL_dp ds _ h2 p.2)
end
theorem encL_map : ∀ ds : List D, encL ds = ds.map encD
  | [] => by rw [encL]; rfl
  | d :: ds => by rw [encL, encL_map ds]; rfl
theorem repL_zip : ∀ {xs : List V} {ds : List D}, RepL K R xs ds → (xs.zip ds).map (·.1) = xs ∧ (xs.zip ds).map (·.2) = ds ∧ ∀ c ∈ xs.zip ds, Rep K R c.1 c.2
  | _, _, .nil => ⟨rfl, rfl, fun _ h => by cases h⟩
  | _, _, .cons h t => by
    obtain ⟨e1, e2, e3⟩ := repL_zip t
    refine ⟨by simp [e1], by simp [e2], fun c hc => ?_⟩
    rw [List.zip_cons_cons] at hc
    rcases List.mem_cons.mp hc with rfl | hc
    · exact h
    · exact e3 c hc
theorem repL_of_zip : ∀ (cs : List (V × D)), (∀ c ∈ cs, Rep K R c.1 c.2) → RepL K R (cs.map (·.1)) (cs.map (·.2))
  | [], _ => .nil
  | c :: cs, h => .cons (h c List.mem_cons_self) (repL_of_zip cs fun c' m => h c' (List.mem_cons_of_mem _ m))
theorem dpAll_of : ∀ (cs : List (V × D)), (∀ c ∈ cs, Rep K R c.1 c.2 ∧ c.2.pl = true) → DpAll K R (cs.map (·.1)) (cs.map fun c => encD c.2)
  | [], _ => .nil
  | c :: cs, h => .cons (rep_dp _ _ (h c List.mem_cons_self).1 (h c List.mem_cons_self).2) (dpAll_of cs fun c' m => h c' (List.mem_cons_of_mem _ m))
end
section
variable {K : PySem.W.Frag} {δ : DEnv} {a : TA} {ds es : List D}
/-- sorted(xs), xs a list of plain data, alike -/
theorem dl_sorted (h : DA K δ a [.lst ds]) (hp : ∀ d ∈ ds, d.pl = true) (hal : AllAlike (ds.map encD)) (hk : Sortable (ds.map encD)) (hdep : ∀ d ∈ ds, (encD d).depth ≤ 32) (hn : ds.length ≤ 10000000) (hr : ds.mergeSort (dataLe false encD) = es) : DL K δ (tCB (rSortD K) a) es := fun H R σ Q s e q =>
  h H R σ _ s e fun vs H1 R1 g1 r1 => by
    obtain ⟨v, rfl, r⟩ := rep1 r1
    cases r with
    | @lst a xs _ k1 k2 =>
      obtain ⟨z1, z2, z3⟩ := repL_zip k2
      have m1 : ((xs.zip ds).map fun c => (c.1, encD c.2)).map (·.1) = xs := by rw [List.map_map]; exact z1
      have m2 : ((xs.zip ds).map fun c => (c.1, encD c.2)).map (·.2) = ds.map encD := by
        rw [List.map_map]
        conv => rhs; rw [← z2, List.map_map]
        rfl
      have s1 : (((xs.zip ds).map fun c => (c.1, encD c.2)).mergeSort (dataLe false (·.2))) = ((xs.zip ds).mergeSort (dataLe false fun c => encD c.2)).map fun c => (c.1, encD c.2) :=
        (List.map_mergeSort (f := fun c : V × D => (c.1, encD c.2)) (s := dataLe false (·.2)) (r := dataLe false fun c => encD c.2) (fun _ _ _ _ => rfl)).symm
      have s2 : ((xs.zip ds).mergeSort (dataLe false fun c => encD c.2)).map (·.2) = ds.mergeSort (dataLe false encD) := by
        rw [List.map_mergeSort (f := fun c : V × D => c.2) (r := dataLe false fun c => encD c.2) (s := dataLe false encD) (fun _ _ _ _ => rfl), z2]
      have hx : ∀ c ∈ (xs.zip ds).mergeSort (dataLe false fun c => encD c.2), Rep K R1 c.1 c.2 := fun c hc => z3 c (List.mem_mergeSort.mp hc)
      refine ⟨a, (xs.zip ds).map fun c => (c.1, encD c.2), rfl, by rw [m1]; exact rdS g1.i k1, ?_, by rw [m2]; exact hal, by rw [m2]; exact hk, ?_, fun p hp' => ?_⟩
      · have k3 : RepL K H1 xs ds := k2.mono g1.i
        obtain ⟨y1, y2, y3⟩ := repL_zip k3
        rw [m1, m2]
        have := dpAll_of (K := K) (R := H1) (xs.zip ds) fun c hc => ⟨y3 c hc, hp _ (by rw [← z2]; exact List.mem_map_of_mem hc)⟩
        have e2 : ((xs.zip ds).map fun c => encD c.2) = ds.map encD := by
          conv => rhs; rw [← z2, List.map_map]
          rfl
        rw [z1, e2] at this
        exact this
      · intro b hb
        obtain ⟨c, hc, rfl⟩ := List.mem_map.mp hb
        exact hdep _ (by rw [← z2]; exact List.mem_map_of_mem hc)
      · rw [s1, List.map_map]
        have hrep := repL_of_zip (K := K) (R := R1) _ hx
        rw [s2, hr] at hrep
        refine q p _ _ R1 (g1.trans (Gr.apart g1.i hp')) (g1.h.free hp') upd_same (g1.i.free hp') (small ?_) hrep
        have := hrep.len
        rw [List.length_map] at this
        rw [List.length_map, this, ← hr, List.length_mergeSort]
        exact hn
end
end G

set_option Elab.async false
set_option linter.all false
set_option maxRecDepth 100000
set_option maxHeartbeats 4000000
/-! Ksrt: sorted(xs, key=f), f a def of the program, any length. -/
namespace L2
open PySem PySem.Spec PyProof.Rows PySem.W PySem.Calls
mutual
theorem Dp.up {K : PySem.W.Frag} {H H' : Hp} (e : ∀ b o, H b = some o → H' b = some o) : ∀ (d : PyData) (v : V), Dp K H v d → Dp K H' v d
  | .none, _, h => by cases h; exact .non
  | .bool b, _, h => by cases h; exact .bl b
  | .int i, _, h => by cases h; exact .int i
  | .str x, _, h => by cases h; exact .str x
  | .list ds, _, h => by
    cases h with
    | lst h1 h2 => exact .lst (h1.elim (fun q => .inl (q.elim (fun z => .inl (e _ _ z)) fun ⟨o, z⟩ => .inr ⟨o, e _ _ z⟩)) .inr) (DpAll.up e ds _ h2)
  | .tuple ds, _, h => by
    cases h with
    | tup h1 h2 => exact .tup (h1.elim (fun q => .inl (q.elim (fun z => .inl (e _ _ z)) fun ⟨o, z⟩ => .inr ⟨o, e _ _ z⟩)) .inr) (DpAll.up e ds _ h2)
  | .dict _, _, h => by cases h
theorem DpAll.up {K : PySem.W.Frag} {H H' : Hp} (e : ∀ b o, H b = some o → H' b = some o) : ∀ (ds : List PyData) (vs : List V), DpAll K H vs ds → DpAll K H' vs ds
  | [], _, h => by cases h; exact .nil
  | d :: ds, _, h => by
    cases h with
    | cons h1 h2 => exact .cons (Dp.up e d _ h1) (DpAll.up e ds _ h2)
end
/-- objects that were not there at the start may change freely -/
theorem Un.but {fs : List Addr} {H H' : Hp} {h g g' : Heap} (U : Un fs [] H H' h g) (P : Addr → Prop) (hP : ∀ b o, h.get? b = some o → ¬ P b) (k : ∀ b o, ¬ P b → g.get? b = some o → g'.get? b = some o) : Un fs [] H H' h g' where
  keep := fun b o q n nf nx => k b o (hP b o q) (U.keep b o q n nf nx)
  slot := fun b o q n nf nx => by
    obtain ⟨sl, z⟩ := U.slot b o q n nf nx
    exact ⟨sl, k b _ (hP b o q) z⟩
  free := U.free
  there := fun b o q nx => by
    obtain ⟨o', z⟩ := U.there b o q nx
    exact ⟨o', k b _ (hP b o q) z⟩
  tups := U.tups
  frzs := U.frzs
  tbls := U.tbls
theorem HOk.but {P : Program} {w : World} {H : Hp} {g g' : Heap} (ok : HOk P w H g) (Pr : Addr → Prop) (hP : ∀ b, Pr b → H b = none) (k : ∀ b o, ¬ Pr b → g.get? b = some o → g'.get? b = some o) : HOk P w H g' := fun b u e =>
  (ok b u e).stay (fun c v hc q => k c v (fun z => by
    have hn := hP c z
    rcases hc with rfl | hc
    · rw [hn] at e; cases e
    · rw [hn] at hc; cases hc) q) (fun _ q => q) fun _ _ q => q
theorem Un.add {fs : List Addr} {H H' : Hp} {h g : Heap} {a : Addr} {u : HO} (U : Un fs [] H H' h g) (ha : h.get? a = none) (hn : H a = none) : Un fs [] H (upd H' a u) h g where
  keep := U.keep
  slot := U.slot
  free := fun b o q n nx => by
    rw [upd_ne (fun z => by subst z; rw [ha] at q; cases q)]
    exact U.free b o q n nx
  there := U.there
  tups := fun b xs q => by rw [upd_ne (ne_of_none q hn)]; exact U.tups b xs q
  frzs := fun b o x q => by rw [upd_ne (ne_of_none q hn)]; exact U.frzs b o x q
  tbls := fun b ps q => by rw [upd_ne (ne_of_none q hn)]; exact U.tbls b ps q
theorem HOk.add {P : Program} {w : World} {H : Hp} {g : Heap} {a : Addr} {u : HO} (ok : HOk P w H g) (hn : H a = none) (new : ObjOk P w (upd H a u) g a u) : HOk P w (upd H a u) g := fun b x e => by
  by_cases hb : b = a
  · subst hb
    rw [upd_same] at e
    cases e
    exact new
  · rw [upd_ne hb] at e
    exact (ok b x e).stay (fun _ _ _ q => q) (fun c q => by rw [upd_ne (ne_of_none q hn)]; exact q) fun c xs q => by rw [upd_ne (ne_of_none q hn)]; exact q
/-- what the key's call does: what is tracked stays, the result reads as the key -/
def KeyTurn (X : Cx) (pins : List (Addr × Obj)) (σ : St) (H : Hp) (f : Value) (x : V) (k : PyData) : Prop :=
  ∀ (s : Shared) (H1 : Hp) (v : Value), Inv X pins σ H1 s → (∀ b o, H b = some o → H1 b = some o) → RelV x v →
    wpAny (model X.prog X.w) X.A.in1.in1 (call f [v]) (CE X.stack X.prog X.w H1 s fun y H2 => (∀ b o, H1 b = some o → H2 b = some o) ∧ Dp X.K H2 y k) (fun _ _ => False) s
/-- the state while the keys are made -/
structure KSt (X : Cx) (pins : List (Addr × Obj)) (σ : St) (H : Hp) (s : Shared) (a kS : Addr) (e1 : Nat) (kz : List PyData) (s' : Shared) : Prop where
  ex : ∃ (H' : Hp) (ys : List V) (us : List Value) (n : Nat), s'.os = s.os ∧ AllBare s'.gens ∧ Un (frs X.stack) [] H H' s.heap s'.heap ∧ HOk X.prog X.w H' s'.heap ∧ (∀ b o, H b = some o → H' b = some o) ∧ H' a = none ∧ H' kS = none ∧
    s'.heap.get? a = some (seqObj "list" #[] e1) ∧ s'.heap.get? kS = some (seqObj "list" us.toArray n) ∧ Vals ys us ∧ DpAll X.K H' ys kz
theorem dpAll_app {K : PySem.W.Frag} {H : Hp} : ∀ {vs ws : List V} {ds es : List PyData}, DpAll K H vs ds → DpAll K H ws es → DpAll K H (vs ++ ws) (ds ++ es)
  | _, _, _, _, .nil, s => s
  | _, _, _, _, .cons r t, s => .cons r (dpAll_app t s)
theorem dpAll_len {K : PySem.W.Frag} {H : Hp} : ∀ {vs : List V} {ds : List PyData}, DpAll K H vs ds → vs.length = ds.length
  | _, _, .nil => rfl
  | _, _, .cons r t => by rw [List.length_cons, List.length_cons, dpAll_len t]
section
variable {X : Cx} {pins : List (Addr × Obj)} {σ : St} {H : Hp} {s : Shared} {a kS : Addr}
/-- the invariant's own words at a state with other objects -/
theorem Inv.of_un {H' : Hp} {s' : Shared} (I : Inv X pins σ H s) (ho : s'.os = s.os) (hb : AllBare s'.gens) (U : Un (frs X.stack) [] H H' s.heap s'.heap) (ok : HOk X.prog X.w H' s'.heap) : Inv X pins σ H' s' := by
  obtain ⟨h', g', d', t', o'⟩ := s'
  have e : o' = s.os := ho
  subst e
  exact I.call (h' := h') (g' := g') (d' := d') (t' := t') (ch := []) U ok hb (fun b z => absurd z (by simp))
theorem keys_run {f : Value} {b : Bool} {e1 : Nat} {P : PySem.Fin → Shared → Prop} {E : Value → Shared → Prop} {bs : List (V × PyData)} {vs : List Value} {s0 : Shared} (I : Inv X pins σ H s) (ha : s.heap.get? a = none) (hk : s.heap.get? kS = none) (hn1 : H a = none) (hn2 : H kS = none) (hak : kS ≠ a)
    (rv : Vals (bs.map (·.1)) vs) (hz : vs.length ≤ sizeLine) (hal : AllAlike (bs.map (·.2))) (hsk : Sortable (bs.map (·.2))) (hdep : ∀ c ∈ bs, c.2.depth ≤ 32) (hu : X.A.units + 64 < cLine)
    (st : KSt X pins σ H s a kS e1 [] s0) (turn : ∀ c ∈ bs, KeyTurn X pins σ H f c.1 c.2)
    (done : ∀ s' H', Inv X pins σ H' s' → CE X.stack X.prog X.w H s (fun v H2 => v = .ref a ∧ (∀ c o, H c = some o → H2 c = some o) ∧ H2 a = some (.lst ((bs.mergeSort (dataLe b (·.2))).map (·.1)))) (.ref a) s' → P (.done (.ret .none)) s') :
    wpAny (model X.prog X.w) X.A.in1.in1 (ksk_rest a f b vs.toArray e1 (.ref kS)) P E s0 := by
  have nfr : ∀ c, s.heap.get? c = none → c ∉ frs X.stack := fun c hc hm => by
    obtain ⟨_, o, ho, _⟩ := Heap.FunFrames.mem I.stack hm
    rw [hc] at ho; cases ho
  unfold ksk_rest
  refine wpAny_bind (wpAny_rule ?_)
  rw [List.forIn_toArray]
  have lv : bs.length = vs.length := by
    have := rv.length
    rw [List.length_map] at this
    exact this
  refine wpAny_bind (ksk_fold (fun i s' => KSt X pins σ H s a kS e1 ((bs.map (·.2)).take i) s') vs 0 s0 (by rw [List.take_zero]; exact st) ?step ?fin)
  case step =>
    intro j x s' hx hJ
    rw [Nat.zero_add] at hJ ⊢
    obtain ⟨H1, ys, us, n, o1, b1, U1, ok1, up1, na, nk, ga, gk, r1, d1⟩ := hJ.ex
    have hj : j < vs.length := (List.getElem?_eq_some_iff.mp hx).1
    have hjb : j < bs.length := by omega
    have hbj : bs[j]? = some bs[j] := List.getElem?_eq_getElem hjb
    have hr : RelV bs[j].1 x := by
      obtain ⟨u, h1, h2⟩ := rv.get (i := j) (x := bs[j].1) (by rw [List.getElem?_map, hbj]; rfl)
      rw [hx] at h1
      cases h1
      exact h2
    have I1 := I.of_un o1 b1 U1 ok1
    have hlen : us.length ≤ vs.length := by
      rw [← r1.length, dpAll_len d1, List.length_take, List.length_map]
      omega
    refine wpAny_bind (wpAny_attempt (wpAny_mono (turn bs[j] (List.getElem_mem hjb) s' H1 x I1 up1 hr) (fun k s2 hk2 => ?_) fun _ _ z => z.elim))
    obtain ⟨y, H2, o2, b2, U2, ok2, ry, up2, dy⟩ := hk2
    try dsimp only
    have ga2 : s2.heap.get? a = some (seqObj "list" #[] e1) := U2.keep _ _ ga na (nfr a ha) (by simp)
    have gk2 : s2.heap.get? kS = some (seqObj "list" us.toArray n) := U2.keep _ _ gk nk (nfr kS hk) (by simp)
    have na2 : H2 a = none := U2.free _ _ ga na (by simp)
    have nk2 : H2 kS = none := U2.free _ _ gk nk (by simp)
    refine wpAny_bind (listUpdate_at gk2 rfl ?_ (by rw [List.size_toArray]; omega) (by rw [Array.size_push, List.size_toArray]; omega))
    have sb := Heap.SameBut.update s2.heap kS (Obj.mapSeq (·.push k))
    have kk : ∀ c o, ¬ (c = kS) → s2.heap.get? c = some o → (s2.heap.update kS (Obj.mapSeq (·.push k))).get? c = some o := fun c o hc q => (sb.2 c hc).trans q
    obtain ⟨n2, gk3⟩ : ∃ n2, (s2.heap.update kS (Obj.mapSeq (·.push k))).get? kS = some (seqObj "list" (us.toArray.push k) n2) := ⟨_, get?_update_seq gk2 (·.push k)⟩
    refine wpAny_pure ⟨rfl, ⟨H2, ys ++ [y], us ++ [k], n2, o2.trans o1, b2, (U1.trans U2).but (fun c => c = kS) (fun c o q z => by rw [z, hk] at q; cases q) kk, ok2.but (fun c => c = kS) (fun c z => z ▸ nk2) kk, fun c o q => up2 _ _ (up1 _ _ q), na2, nk2, kk _ _ hak.symm ga2, ?_, r1.append (.cons ry .nil), ?_⟩⟩
    · show (s2.heap.update kS (Obj.mapSeq (·.push k))).get? kS = _
      rw [gk3]
      simp
    · have et : (bs.map (·.2)).take (j + 1) = (bs.map (·.2)).take j ++ [bs[j].2] := by
        rw [List.take_add_one, List.getElem?_map, hbj]
        rfl
      show DpAll X.K H2 (ys ++ [y]) ((bs.map (·.2)).take (j + 1))
      rw [et]
      exact dpAll_app (DpAll.up up2 _ _ d1) (.cons dy .nil)
  case fin =>
    intro s' hJ
    rw [Nat.zero_add, List.take_of_length_le (by rw [List.length_map, lv]; exact Nat.le_refl _)] at hJ
    obtain ⟨H1, ys, us, n, o1, b1, U1, ok1, up1, na, nk, ga, gk, r1, d1⟩ := hJ.ex
    have I1 := I.of_un o1 b1 U1 ok1
    have hlen : us.length = vs.length := by
      rw [← r1.length, dpAll_len d1, List.length_map, lv]
    have hks : EachIs (fun v d => ∃ as, Reads s'.heap v d as) us (bs.map (·.2)) := by
      have e1 : ((ys.zip (bs.map (·.2))).map (·.1)) = ys := List.map_fst_zip (by rw [dpAll_len d1]; exact Nat.le_refl _)
      have e2 : ((ys.zip (bs.map (·.2))).map (·.2)) = bs.map (·.2) := List.map_snd_zip (by rw [dpAll_len d1]; exact Nat.le_refl _)
      have q := (dpAll_each I1 (ys.zip (bs.map (·.2))) us (by rw [e1, e2]; exact d1) (by rw [e1]; exact r1)).2
      have : ∀ {as : List Value} {cs : List (V × PyData)}, EachIs (fun v (c : V × PyData) => ∃ as, Reads s'.heap v c.2 as) as cs → EachIs (fun v d => ∃ as, Reads s'.heap v d as) as (cs.map (·.2)) := by
        intro as cs h
        induction h with
        | nil => exact .nil
        | cons r _ ih => exact .cons r ih
      have q2 := this q
      rw [e2] at q2
      exact q2
    try dsimp only
    refine wpAny_bind (listItems_at gk rfl ?_)
    obtain ⟨G, g1, g2⟩ := restrict s'.heap fun c => decide (c ≠ kS)
    have gG : ∀ c o, c ≠ kS → s'.heap.get? c = some o → G.get? c = some o := fun c o hc q => by
      rw [g1 c (decide_eq_true hc)]
      exact q
    have Gg : ∀ c o, G.get? c = some o → s'.heap.get? c = some o := fun c o q => by
      by_cases hc : c = kS
      · rw [hc, g2 kS (decide_eq_false fun z => z rfl)] at q
        cases q
      · rw [← g1 c (decide_eq_true hc)]
        exact q
    have hu' : ∀ d, d ∈ bs.map (·.2) → X.A.in1.in1.units + d.depth < cLine := fun d hd => by
      obtain ⟨c, hc, rfl⟩ := List.mem_map.mp hd
      have := hdep c hc
      show X.A.units + 1 + 1 + c.2.depth < cLine
      omega
    refine keyH_end (κ := dataKind s'.heap (bs.map (·.2))) (h₁ := G) (vs := vs) (fun c o _ q => Gg c o q) (g2 kS (decide_eq_false fun z => z rfl)) gk ga hak (SortsAt.data (s := s') hks hal hsk hu') (by rw [List.size_toArray]; exact hlen) hz fun h' tk cc kp hD => ?_
    have kk : ∀ c o, ¬ (c = a ∨ c = kS) → s'.heap.get? c = some o → h'.get? c = some o := fun c o hc q => kp c o (fun z => hc (.inl z)) (gG c o (fun z => hc (.inr z)) q)
    have hout : KeyedOut b (bs.map (·.2)) vs (sortVals (dataKind s'.heap (bs.map (·.2))) b us vs) := ⟨s'.heap, us, hal, rfl, hks⟩
    have heach : EachIs (fun v (c : V × PyData) => RelV c.1 v) vs bs := by
      have : ∀ {cs : List (V × PyData)} {ws : List Value}, Vals (cs.map (·.1)) ws → EachIs (fun v (c : V × PyData) => RelV c.1 v) ws cs := by
        intro cs
        induction cs with
        | nil => intro ws h; cases h; exact .nil
        | cons c cs ih =>
          intro ws h
          rw [List.map_cons] at h
          cases h with
          | cons h1 h2 => exact .cons h1 (ih h2)
      exact this rv
    have hE := keyedOut_each (·.2) hout heach
    have hlo : (sortVals (dataKind s'.heap (bs.map (·.2))) b us vs).length = vs.length := hout.length (by rw [List.length_map, lv])
    have U3 : Un (frs X.stack) [] H H1 s.heap h' := U1.but (fun c => c = a ∨ c = kS) (fun c o q z => by
      rcases z with z | z
      · rw [z, ha] at q; cases q
      · rw [z, hk] at q; cases q) kk
    have ok3 : HOk X.prog X.w H1 h' := ok1.but (fun c => c = a ∨ c = kS) (fun c z => by
      rcases z with z | z
      · rw [z]; exact na
      · rw [z]; exact nk) kk
    have hval := each_vals hE
    have new : ObjOk X.prog X.w (upd H1 a (.lst ((bs.mergeSort (dataLe b (·.2))).map (·.1)))) h' a (.lst ((bs.mergeSort (dataLe b (·.2))).map (·.1))) :=
      ⟨by rw [hval.length, hlo]; exact hz, _, cc, hval, hD⟩
    have ok4 := ok3.add na new
    have U4 := U3.add (u := .lst ((bs.mergeSort (dataLe b (·.2))).map (·.1))) ha hn1
    refine done _ _ (I.of_un (s' := { s' with heap := h', toks := tk }) o1 b1 U4 ok4) ⟨.ref a, _, o1, b1, U4, ok4, rfl, rfl, fun c o q => ?_, upd_same⟩
    rw [upd_ne (ne_of_none q hn1)]
    exact up1 c o q
end
end L2

set_option Elab.async false
set_option linter.all false
set_option maxRecDepth 100000
set_option maxHeartbeats 4000000
/-! Srk: sorted(xs, key=f), f a def of the program: as a call by keywords, and as data. -/
namespace L2
open PySem PySem.Spec PyProof.Rows PySem.W PySem.Calls
theorem Room.in2 {k : Nat} {A : Around} (r : Room (k + 1) A) : Room k A.in1.in1 :=
  ⟨r.hd, by have := r.dp; show A.depth + 3 * k + 5 < _; omega, by have := r.un; show A.units + 1 + 1 + 16 * k + 200 < _; omega⟩
/-- sorted(xs, key=f): each key by f's promise -/
def rSortKey (K : PySem.W.Frag) (sp : Sp) (f : Addr) : List V → List V → Hp → VK → Prop := fun vs zs H Q => ∃ (a : Addr) (bs : List (V × PyData)), vs = [V.ref a] ∧ zs = [V.ref f] ∧ SqL K H a (bs.map (·.1)) ∧ AllAlike (bs.map (·.2)) ∧ Sortable (bs.map (·.2)) ∧ (∀ b ∈ bs, b.2.depth ≤ 32) ∧
  (∀ b ∈ bs, ∀ H1, (∀ c o, H c = some o → H1 c = some o) → sp [b.1] H1 (fun y H2 => (∀ c o, H1 c = some o → H2 c = some o) ∧ Dp K H2 y b.2) E0) ∧
  ∀ p H', H p = none → (∀ c o, H c = some o → H' c = some o) → H' p = some (.lst ((bs.mergeSort (dataLe false (·.2))).map (·.1))) → Q (.ref p) H'
section
variable {X : Cx}
theorem cr_sortKey {k : Nat} {f : Addr} {sp : Sp} (F : FnR X.prog X.w X.K X.mg X.base CX0 k f sp) (hr : Room (k + 1) X.A) : CallRK X (.builtin "sorted") [Str.ofString "key"] (rSortKey X.K sp f) := by
  intro pins s σ H vs zs us ws Q I r rz h
  obtain ⟨l, bs, rfl, rfl, hs, hal, hsk, hdep, hsp, q⟩ := h
  obtain rfl := Vals.ref1 r
  obtain ⟨w1, rfl, e1⟩ := vals1 rz
  obtain rfl : w1 = Value.ref f := e1
  obtain ⟨its, rv, hl, hz⟩ := I.list hs
  have hz' : its.length ≤ sizeLine := by rw [← rv.length]; exact hz
  have fr1 : s.heap.get? (s.heap.objs.size + 1) = none := Heap.get?_none_of_le (Nat.le_succ _)
  have turn : ∀ c ∈ bs, KeyTurn X pins σ H (.ref f) c.1 c.2 := fun c hc s1 H1 v I1 up rx => by
    refine wpAny_call (codeAny_mono (F X.A.in1.in1 X.stack s1 H1 [v] [c.1] _ E0 hr.in2 I1.env0.in1.in1 (.cons rx .nil) (hsp c hc H1 up)) fun r s' hq => ?_)
    cases r with
    | error e => exact hq.elim
    | ok fl =>
      cases fl with
      | ret u => exact hq
      | next => exact False.elim hq
      | brk => exact False.elim hq
      | cont => exact False.elim hq
  show wpAny _ _ (call (.builtin "sorted") [.ref l] [(Str.ofString "key", .ref f)]) _ _ s
  refine sorted_of_sort hl.isList hz' (ksk_s1 _ _) (fun _ => ksk_l1 _ _) fun E' => ?_
  rw [ksk_t1]
  have ho : (copyHeap s.heap its).get? (s.heap.objs.size + 1) = some (seqObj "list" its.toArray 0) := copyHeap_at s.heap its
  have csz : (copyHeap s.heap its).objs.size = s.heap.objs.size + 2 := by
    unfold copyHeap
    rw [size_push', Heap.size_update, size_push']
  obtain ⟨e1, ho1⟩ : ∃ e1, ((copyHeap s.heap its).update (s.heap.objs.size + 1) (Obj.mapSeq fun _ => (#[] : Array Value))).get? (s.heap.objs.size + 1) = some (seqObj "list" #[] e1) := ⟨_, get?_update_seq ho fun _ => #[]⟩
  have gsz : (((copyHeap s.heap its).update (s.heap.objs.size + 1) (Obj.mapSeq fun _ => (#[] : Array Value))).push (seqObj "tuple" its.toArray 0)).objs.size = s.heap.objs.size + 3 := by rw [size_push', Heap.size_update, csz]
  unfold ksk_tree
  refine wpAny_bind (listItems_at ho rfl ?_)
  refine wpAny_bind (listUpdate_at ho rfl ?_ (by rw [List.size_toArray]; exact hz') (Nat.zero_le _))
  refine wpAny_bind (seqEpoch_at ho1 rfl ?_)
  refine wpAny_bind (wpAny_newTuple ?_ (by show its.length ≤ _; exact hz'))
  refine wpAny_bind (wpAny_newList ?_ (Nat.zero_le _))
  refine wpAny_holding ?_
  dsimp only
  have up0 : ∀ b o, s.heap.get? b = some o → ((((copyHeap s.heap its).update (s.heap.objs.size + 1) (Obj.mapSeq fun _ => (#[] : Array Value))).push (seqObj "tuple" its.toArray 0)).push (seqObj "list" #[] 0)).get? b = some o := fun b o q => by
    refine Heap.get?_push_of_some _ (Heap.get?_push_of_some _ ?_)
    rw [Heap.get?_update_ne _ _ _ _ (Nat.ne_of_lt (Nat.lt_succ_of_lt (Heap.lt_size q)))]
    exact copyHeap_old q
  refine keys_run (s := s) (kS := (((copyHeap s.heap its).update (s.heap.objs.size + 1) (Obj.mapSeq fun _ => (#[] : Array Value))).push (seqObj "tuple" its.toArray 0)).objs.size) (a := s.heap.objs.size + 1) (bs := bs) I fr1 (Heap.get?_none_of_le (by rw [gsz]; omega)) (I.hok.fresh (Nat.le_succ _)) (I.hok.fresh (by rw [gsz]; omega)) (fun z => by rw [gsz] at z; exact absurd z (by simp)) rv hz' hal hsk hdep hr.units ?_ turn ?_
  · exact ⟨⟨H, [], [], 0, rfl, I.bare, Un.kept up0, I.hok.kept up0, fun _ _ q => q, I.hok.fresh (Nat.le_succ _), I.hok.fresh (by rw [gsz]; omega), Heap.get?_push_of_some _ (Heap.get?_push_of_some _ ho1), Heap.get?_push_size _ rfl, .nil, .nil⟩⟩
  · intro s' H' I' hce
    refine ⟨rfl, ?_⟩
    refine I.after ?_
    obtain ⟨v, H2, a1, a2, a3, a4, a5, rfl, a7, a8⟩ := hce
    exact ⟨.ref (s.heap.objs.size + 1), H2, a1, a2, a3, a4, rfl, q _ _ (I.hok.fresh (Nat.le_succ _)) a7 a8⟩
end
end L2
namespace G
open PySem PySem.Spec PyProof.Rows L2 PySem.W PySem.Calls
section
variable {K : PySem.W.Frag} {δ : DEnv} {a : TA} {ds es : List D}
/-- sorted(xs, key=f): key is what f gives -/
theorem dl_sortedKey {rel : List D → Res → Prop} {f : Addr} (key : D → D) (h : DA K δ a [.lst ds]) (hrel : ∀ d ∈ ds, rel [d] (.rt (key d))) (hp : ∀ d ∈ ds, (key d).pl = true) (hal : AllAlike (ds.map fun d => encD (key d))) (hk : Sortable (ds.map fun d => encD (key d)))
    (hdep : ∀ d ∈ ds, (encD (key d)).depth ≤ 32) (hn : ds.length ≤ 10000000) (hr : ds.mergeSort (dataLe false fun d => encD (key d)) = es) : DL K δ (tCKw (rSortKey K (spD K rel) f) a (tCons (tC (.ref f)) tNil)) es := fun H R σ Q s e q =>
  h H R σ _ s e fun vs H1 R1 g1 r1 => by
    obtain ⟨v, rfl, r⟩ := rep1 r1
    cases r with
    | @lst a xs _ k1 k2 =>
      obtain ⟨z1, z2, z3⟩ := repL_zip k2
      have m1 : ((xs.zip ds).map fun c => (c.1, encD (key c.2))).map (·.1) = xs := by rw [List.map_map]; exact z1
      have m2 : ((xs.zip ds).map fun c => (c.1, encD (key c.2))).map (·.2) = ds.map fun d => encD (key d) := by
        rw [List.map_map]
        conv => rhs; rw [← z2, List.map_map]
        rfl
      have s1 : (((xs.zip ds).map fun c => (c.1, encD (key c.2))).mergeSort (dataLe false (·.2))) = ((xs.zip ds).mergeSort (dataLe false fun c => encD (key c.2))).map fun c => (c.1, encD (key c.2)) :=
        (List.map_mergeSort (f := fun c : V × D => (c.1, encD (key c.2))) (s := dataLe false (·.2)) (r := dataLe false fun c => encD (key c.2)) (fun _ _ _ _ => rfl)).symm
      have s2 : ((xs.zip ds).mergeSort (dataLe false fun c => encD (key c.2))).map (·.2) = ds.mergeSort (dataLe false fun d => encD (key d)) := by
        rw [List.map_mergeSort (f := fun c : V × D => c.2) (r := dataLe false fun c => encD (key c.2)) (s := dataLe false fun d => encD (key d)) (fun _ _ _ _ => rfl), z2]
      have hx : ∀ c ∈ (xs.zip ds).mergeSort (dataLe false fun c => encD (key c.2)), Rep K R1 c.1 c.2 := fun c hc => z3 c (List.mem_mergeSort.mp hc)
      refine ⟨a, (xs.zip ds).map fun c => (c.1, encD (key c.2)), rfl, rfl, by rw [m1]; exact rdS g1.i k1, by rw [m2]; exact hal, by rw [m2]; exact hk, ?_, ?_, fun p H' hp0 up hl => ?_⟩
      · intro b hb
        obtain ⟨c, hc, rfl⟩ := List.mem_map.mp hb
        exact hdep _ (by rw [← z2]; exact List.mem_map_of_mem hc)
      · intro b hb H2 up
        obtain ⟨c, hc, rfl⟩ := List.mem_map.mp hb
        have hcd : c.2 ∈ ds := by rw [← z2]; exact List.mem_map_of_mem hc
        refine ⟨R1, [c.2], .rt (key c.2), fun b o e => up _ _ (g1.i _ _ e), .cons (z3 c hc) .nil, hrel _ hcd, fun v H3 R3 g r => ⟨g.h, ?_⟩⟩
        exact Dp.up g.i _ _ (rep_dp _ _ r (hp _ hcd))
      · rw [s1, List.map_map] at hl
        have hrep := repL_of_zip (K := K) (R := R1) _ hx
        rw [s2, hr] at hrep
        have g2 : Gr H1 R1 H' R1 := ⟨up, Same.refl _, fun b o e => up _ _ (g1.i _ _ e), fun _ _ _ n => n⟩
        refine q p _ H' R1 (g1.trans g2) (g1.h.free hp0) hl (g1.i.free hp0) (small ?_) hrep
        have := hrep.len
        rw [List.length_map] at this
        show ((((xs.zip ds).mergeSort (dataLe false fun c => encD (key c.2))).map _).length) ≤ _
        rw [List.length_map, this, ← hr, List.length_mergeSort]
        exact hn
end
end G

set_option Elab.async false
set_option linter.all false
set_option maxRecDepth 100000
set_option maxHeartbeats 4000000
/-! Lzip: for a, b in zip(x, y), x and y texts. -/
namespace L2
open PySem PySem.Spec PyProof.Rows
def ItzS (x y : Str) : It :=
  ⟨fun i _ => i < x.cps.size ∧ i < y.cps.size,
    fun i H v H' => ∃ T c d, v = .ref T ∧ H T = none ∧ H' = upd H T (.tup [.str ⟨#[c]⟩, .str ⟨#[d]⟩]) ∧ x.cps[i]? = some c ∧ y.cps[i]? = some d,
    fun i _ => i ≤ x.cps.size ∧ i ≤ y.cps.size ∧ (i = x.cps.size ∨ i = y.cps.size)⟩
theorem mem5 {c z a b d e : Addr} (h : c ∈ [z, a, b, d, e]) : c = z ∨ c = a ∨ c = b ∨ c = d ∨ c = e := by simpa using h
theorem turn_zipS {P : Program} {w : World} {K : PySem.W.Frag} {elts : List Expr} {kk : Nat} {tpos : Pos} {x y : Str} {t u : Tok} {z TI TO i1 i2 : Addr} (S : ZipSep2 z TI TO i1 i2 [i1] [i2]) :
    Turn P w K (.Tuple elts kk tpos) (ItzS x y) [z, TI, TO, i1, i2] z (fun i h => IsZip h z TI TO .none ∧ IsTupOf2 h TI (.ref i1) (.ref i2) ∧ (∃ a b, IsTupOf2 h TO a b) ∧ h.IsStrIter i1 (strIterType x) x t i ∧ h.IsStrIter i2 (strIterType y) y u i) where
  mem := List.mem_cons_self
  obj := fun i h st c hc => by
    obtain ⟨h1, h2, ⟨a, b, h3⟩, ⟨o1, e1, _, d1⟩, ⟨o2, e2, _, d2⟩⟩ := st
    rcases mem5 hc with q | q | q | q | q <;> subst q
    · exact ⟨_, h1, fun v q => nomatch q⟩
    · exact ⟨_, h2, fun v q => nomatch q⟩
    · exact ⟨_, h3, fun v q => nomatch q⟩
    · exact ⟨o1, e1, fun v q => by rw [d1] at q; cases q⟩
    · exact ⟨o2, e2, fun v q => by rw [d2] at q; cases q⟩
  keep := fun i h h' st k => by
    obtain ⟨h1, h2, ⟨a, b, h3⟩, ⟨o1, e1, r1⟩, ⟨o2, e2, r2⟩⟩ := st
    exact ⟨k _ (by simp) _ h1, k _ (by simp) _ h2, ⟨a, b, k _ (by simp) _ h3⟩, ⟨o1, k _ (by simp) _ e1, r1⟩, ⟨o2, k _ (by simp) _ e2, r2⟩⟩
  item := by
    intro X hP hw hK hc i pins s σ H E I hf st hg
    subst hP hw hK
    obtain ⟨h1, h2, ⟨a, b, h3⟩, s1, s2⟩ := st
    have hh : X.A.in1.handled = none := I.ok.hd hc
    refine wpAny_pyNext_zipD2_item S (Draws.text hh i1 x t) (Draws.text hh i2 y u) h1 h2 h3 s1 s2 hg.1 hg.2 fun x1 x2 h' tk p1 p2 z' to' s1' s2' hT hsz hk => ?_
    obtain ⟨c, uc, hc1, rfl⟩ := p1
    obtain ⟨d, ud, hd1, rfl⟩ := p2
    refine ⟨_, rfl, wpAny_letOwnedTupleGo_zip (s := { s with heap := h', toks := tk }) z' fun h'' z'' sb => ?_⟩
    have hzl : z < s.heap.objs.size := Heap.lt_size h1
    have hT2 : h''.get? s.heap.objs.size = some { cls := .type "tuple", data := .seq #[.str ⟨#[c]⟩ uc, .str ⟨#[d]⟩ ud] } := (sb.2 _ (Nat.ne_of_gt hzl)).trans hT
    have new : ObjOk X.prog X.w (upd H s.heap.objs.size (.tup [.str ⟨#[c]⟩, .str ⟨#[d]⟩])) h'' s.heap.objs.size (.tup [.str ⟨#[c]⟩, .str ⟨#[d]⟩]) :=
      ⟨by show 2 ≤ sizeLine; decide, [_, _], .cons ⟨uc, rfl⟩ (.cons ⟨ud, rfl⟩ .nil), ⟨_, hT2, rfl, _, rfl⟩⟩
    have I1 : Inv X pins σ (upd H s.heap.objs.size (.tup [.str ⟨#[c]⟩, .str ⟨#[d]⟩])) { s with heap := h'', toks := tk } :=
      I.turnedNew (t' := tk) (ch := [z, TI, TO, i1, i2]) (fun q o hb e => (sb.2 q (fun w => hb (by simp [w]))).trans (hk q o (fun w => hb (by simp [w])) (fun w => hb (by simp [w])) (fun w => hb (by simp [w])) (fun w => hb (by simp [w])) e)) hf (Nat.le_refl _) new
    have lt : ∀ q, q ∈ [z, TI, TO, i1, i2] → q < s.heap.objs.size := fun q hq => by
      obtain ⟨o1, e1, _⟩ := s1
      obtain ⟨o2, e2, _⟩ := s2
      rcases mem5 hq with w | w | w | w | w <;> rw [w]
      · exact hzl
      · exact Heap.lt_size h2
      · exact Heap.lt_size h3
      · exact Heap.lt_size e1
      · exact Heap.lt_size e2
    refine ⟨.ref s.heap.objs.size, _, I1, rfl, ⟨_, c, d, rfl, I.hok.fresh (Nat.le_refl _), rfl, hc1, hd1⟩, ⟨z'', ?_, ⟨.str ⟨#[c]⟩ uc, .str ⟨#[d]⟩ ud, ?_⟩, ?_, ?_⟩, fun q hq => ?_⟩
    · exact (sb.2 _ S.TIz).trans (hk _ _ S.TIz S.TITO S.TIi1 S.TIi2 h2)
    · exact (sb.2 _ S.TOz).trans to'
    · obtain ⟨o, e, r⟩ := s1'
      exact ⟨o, (sb.2 _ S.zi1.symm).trans e, r⟩
    · obtain ⟨o, e, r⟩ := s2'
      exact ⟨o, (sb.2 _ S.zi2.symm).trans e, r⟩
    · rw [upd_ne (Nat.ne_of_lt (lt q hq))]
      exact (hf q hq).1
  done := by
    intro X hP hw hK hc i pins s σ H E I hf st hg
    subst hP hw hK
    obtain ⟨h1, h2, ⟨a, b, h3⟩, s1, s2⟩ := st
    have hh : X.A.in1.handled = none := I.ok.hd hc
    refine wpAny_pyNext_zipD2_end S (Draws.text hh i1 x t) (Draws.text hh i2 y u) h1 h2 h3 s1 s2 hg.1 hg.2.1 hg.2.2 fun h' tk hk => ⟨rfl, ?_⟩
    exact I.turnedL (t' := tk) (ch := [z, TI, TO, i1, i2]) (fun q o hb e => hk q o (fun w => hb (by simp [w])) (fun w => hb (by simp [w])) (fun w => hb (by simp [w])) (fun w => hb (by simp [w])) e) hf
  self := fun A i s Q E st h => wpAny_pyIter_zip st.1 h
def iZipS (ta : TA) : TI := fun σ H R => ta σ H fun vs H1 => ∃ x y, vs = [.str x, .str y] ∧ R (ItzS x y) H1
theorem pi_zipS {X : Cx} {e e2 : Expr} {ta : TA} {p pos tpos : Pos} {elts : List Expr} {kk : Nat} (hg : Gl X "zip") (hm : X.mg "zip" = none) (ha : PA X [e, e2] ta)
    (hs : starEach [e, e2] X.env = (false, eval e X.env) :: starEach [e2] X.env := by rfl) (hpl : (backTo pos (starEach [e2] X.env)).any (·.1) = false := by rfl) :
    PI X (.Tuple elts kk tpos) (.Call (.Name "zip" p) [e, e2] [] pos) (iZipS ta) := by
  constructor
  intro pins s σ H R I h
  refine Call_ (ld_blt I hg hm PyProof.Rows.boot_zip (PyProof.Rows.callWith_type1 (thn (ha.run pos pins s σ H _ I h) fun us s1 hq => ?_) hs hpl))
  obtain ⟨vs, H1, I1, r1, x, y, rfl, q1⟩ := hq
  obtain ⟨w1, w2, rfl, ⟨t, rfl⟩, ⟨u, rfl⟩⟩ := vals2 r1
  refine zip_begins2 (begins_text x t) (begins_text y u) trivial trivial fun h' hz hTI hTO h1 h2 hsz hk => wpAny_pyIter_zip hz ?_
  have I2 : Inv X pins σ H1 { s1 with heap := h' } := I1.kept (t' := s1.toks) hk
  refine ⟨s1.heap.objs.size + 4, [s1.heap.objs.size + 4, s1.heap.objs.size + 2, s1.heap.objs.size + 3, s1.heap.objs.size, s1.heap.objs.size + 1], _, ItzS x y, H1, rfl, I2, turn_zipS (zip_sep2 (fp1 := []) (fp2 := []) (fun b hb => nomatch hb) (fun b hb => nomatch hb)), ⟨hz, hTI, ⟨_, _, hTO⟩, ⟨_, h1, rfl, rfl⟩, ⟨_, h2, rfl, rfl⟩⟩, fun c hc => ?_, q1⟩
  have hle : s1.heap.objs.size ≤ c := by
    rcases mem5 hc with w | w | w | w | w <;> rw [w]
    · exact Nat.le_add_right _ _
    · exact Nat.le_add_right _ _
    · exact Nat.le_add_right _ _
    · exact Nat.le_refl _
    · exact Nat.le_add_right _ _
  obtain ⟨f0, f1, f2, f3, f4, f5⟩ := I1.fpOk hle (I1.hok.fresh hle)
  exact ⟨f0, f1, f2, f3, f4, f5⟩
end L2
namespace G
open PySem PySem.Spec PyProof.Rows L2
end G

set_option Elab.async false
set_option linter.all false
set_option maxRecDepth 100000
set_option maxHeartbeats 4000000
/-! Dig: _law_digits; [e for k in range(n)]. -/
namespace G
open PySem PySem.Spec PyProof.Rows L2
/-- _law_digits(cell, sizes) -/
def t__law_digits (K : PySem.W.Frag) : TS :=
  (tSeq (tAsg (tLst tNil) (gName 2))
  (tSeq (tAsg (tCB rInt' (tCons (tVar 0) tNil)) (gName 3))
  (tSeq (tIfS (tTest (tOp rGe' (tVar 3) (tOp rPow' (tC (.int 10)) (tC (.int 18)))))
  (tSeq (tAsg (tOp rSub' (tVar 3) (tOp rPow' (tC (.int 10)) (tC (.int 18)))) (gName 3))
  (tSeq (tFor (iAny K (tVar 1)) (gName 4)
  (tSeq (tDrop (tBM K "list" rAppend (tVar 2) (tCons (tOp rMod' (tCB rInt' (tCons (tVar 3) tNil)) (tVar 4)) tNil)))
  (tAsg (tOp rDiv' (tCB rInt' (tCons (tVar 3) tNil)) (tVar 4)) (gName 3))))
  (tRet (tVar 2))))
  tNext)
  (tSeq (tAsg (tOp rMod' (tCB rInt' (tCons (tVar 3) tNil)) (tC (.int 2147483629))) (gName 5))
  (tSeq (tFor (iRng1 (tCons (tCB (rLen' K) (tCons (tVar 1) tNil)) tNil)) (gName 6)
  (tSeq (tAsg (tOp rMod' (tCB rInt' (tCons (tOp (rAdd' K) (tOp (rAdd' K) (tOp rMul' (tVar 5) (tC (.int 48271))) (tOp rMul' (tC (.int 974711)) (tVar 6))) (tC (.int 12345))) tNil)) (tC (.int 2147483647))) (gName 5))
  (tSeq (tAsg (tOp rMod' (tCB rInt' (tCons (tOp rMul' (tVar 5) (tOp (rAdd' K) (tOp rDiv' (tVar 5) (tC (.int 65537))) (tC (.int 3)))) tNil)) (tC (.int 2147483629))) (gName 7))
  (tDrop (tBM K "list" rAppend (tVar 2) (tCons (tOp rMod' (tOp rDiv' (tVar 7) (tC (.int 19))) (tOp (rIx' K) (tVar 1) (tVar 6))) tNil))))))
  (tRet (tVar 2)))))))
section
variable {K : PySem.W.Frag} {W : WX}
def stA (r0 : Int) (sz : List Int) : List Int × Int := sz.foldl (fun z s => (z.1 ++ [z.2 % s], z.2 / s)) ([], r0)
def seedB (z : List Int × Int) : Int := (z.2 * 48271 + 974711 * (z.1.length : Int) + 12345) % 2147483647
def stB (r0 : Int) (sz : List Int) : List Int × Int := sz.foldl (fun z s => (z.1 ++ [seedB z * (seedB z / 65537 + 3) % 2147483629 / 19 % s], seedB z)) ([], r0)
def digitsI (c : Int) (sz : List Int) : List Int := if c ≥ 10 ^ 18 then (stA (c - 10 ^ 18) sz).1 else (stB (c % 2147483629) sz).1
theorem stA_next {r0 : Int} {sz : List Int} {i : Nat} {s : Int} (h : sz[i]? = some s) : stA r0 (sz.take (i + 1)) = ((stA r0 (sz.take i)).1 ++ [(stA r0 (sz.take i)).2 % s], (stA r0 (sz.take i)).2 / s) := by
  unfold stA
  rw [List.take_add_one, h, List.foldl_append]; rfl
theorem stB_next {r0 : Int} {sz : List Int} {i : Nat} {s : Int} (h : sz[i]? = some s) : stB r0 (sz.take (i + 1)) = ((stB r0 (sz.take i)).1 ++ [seedB (stB r0 (sz.take i)) * (seedB (stB r0 (sz.take i)) / 65537 + 3) % 2147483629 / 19 % s], seedB (stB r0 (sz.take i))) := by
  unfold stB
  rw [List.take_add_one, h, List.foldl_append]; rfl
theorem foldl_len {f : List Int × Int → Int → List Int × Int} (hf : ∀ z s, (f z s).1.length = z.1.length + 1) : ∀ (sz : List Int) (z : List Int × Int), (sz.foldl f z).1.length = z.1.length + sz.length
  | [], z => rfl
  | s :: sz, z => by
    show (sz.foldl f (f z s)).1.length = _
    rw [foldl_len hf sz, hf, List.length_cons]; omega
theorem stA_len {r0 : Int} {sz : List Int} : (stA r0 sz).1.length = sz.length := by
  unfold stA
  rw [foldl_len (fun z s => by simp)]
  show 0 + _ = _
  omega
theorem stB_len {r0 : Int} {sz : List Int} : (stB r0 sz).1.length = sz.length := by
  unfold stB
  rw [foldl_len (fun z s => by simp)]
  show 0 + _ = _
  omega
theorem digits_len {c : Int} {sz : List Int} : (digitsI c sz).length = sz.length := by
  unfold digitsI
  split
  · exact stA_len
  · exact stB_len
theorem stB_seed {r0 : Int} (h0 : 0 ≤ r0 ∧ r0 < 2147483647) : ∀ sz : List Int, ∀ i, 0 ≤ (stB r0 (sz.take i)).2 ∧ (stB r0 (sz.take i)).2 < 2147483647 := fun sz i => by
  induction i with
  | zero => exact h0
  | succ i ih =>
    cases h : sz[i]? with
    | none => rw [List.take_add_one, h]; simpa using ih
    | some s => rw [stB_next h]; show 0 ≤ seedB _ ∧ seedB _ < _; unfold seedB; omega
def relDigits (ds : List D) (r : Res) : Prop := ∃ (c : Int) (sz : List Int), ds = [.int c, .lst (sz.map D.int)] ∧ sz.length ≤ 1000 ∧ (∀ s ∈ sz, 0 < s ∧ s < 1073741824) ∧ r = .rl ((digitsI c sz).map D.int)
theorem digits_ds (ds : List D) (r : Res) (h : relDigits ds r) : WP K W (ds.map Sl.va ++ List.replicate (8 - ds.length) Sl.no) (t__law_digits K) (fun o => Fits o r) := by
  obtain ⟨c, sz, rfl, hn, hs, rfl⟩ := h
  show WP K W [.va (.int c), .va (.lst (sz.map D.int)), .no, .no, .no, .no, .no, .no] _ _
  unfold t__law_digits
  have sget : ∀ {i : Nat} {d : D}, (sz.map D.int)[i]? = some d → ∃ s, sz[i]? = some s ∧ d = .int s ∧ 0 < s ∧ s < 1073741824 := fun {i d} h => by
    rw [List.getElem?_map] at h
    cases e : sz[i]? with
    | none => rw [e] at h; cases h
    | some s =>
      rw [e] at h
      exact ⟨s, rfl, (Option.some.inj h).symm, hs s (List.mem_of_getElem? e)⟩
  have hpow : ∀ δ : DEnv, DE K δ (tOp rPow' (tC (.int 10)) (tC (.int 18))) (.int (10 ^ 18)) := fun δ => de_is (d_op d_int d_int (o_powi ⟨by decide, by decide, by decide⟩)) rfl
  apply q_setL false (dl_lst d_anil (by decide)) (fun z => nomatch z)
  apply q_set false (d_cb (d_acons (d_var rfl) d_anil) c_inti) (fun z => nomatch z)
  apply q_if false (dt_test (d_op (d_var rfl) (hpow _) o_gei))
  · intro hb
    have hc : c ≥ 10 ^ 18 := of_decide_eq_true hb
    have hd : digitsI c sz = (stA (c - 10 ^ 18) sz).1 := if_pos hc
    rw [hd]
    apply q_assoc
    apply q_set false (d_op (d_var rfl) (hpow _) o_subi) (fun z => nomatch z)
    apply q_assoc
    refine q_forS (it_lst (d_var rfl)) (fun i => [.va (.int c), .va (.lst (sz.map D.int)), .ow (.lst ((stA (c - 10 ^ 18) (sz.take i)).1.map D.int)), .va (.int (stA (c - 10 ^ 18) (sz.take i)).2), .no, .no, .no, .no]) ⟨.inr rfl, .inr rfl, .inr rfl, .inr rfl, .inr rfl, .inr rfl, .inr rfl, .inr rfl, trivial⟩ (fun i d hd => ?_) ?_
    · obtain ⟨s, hsi, rfl, s1, s2⟩ := sget hd
      refine ⟨_, g_name', ?_⟩
      refine q_app false rfl (d_op (d_cb (d_acons (d_var rfl) d_anil) c_inti) (d_var rfl) (o_modi s1)) (fun z => nomatch z) (by rw [List.length_map, stA_len, List.length_take]; omega) ?_
      apply q_last
      apply q_set false (d_op (d_cb (d_acons (d_var rfl) d_anil) c_inti) (d_var rfl) (o_divi ⟨s1, s2⟩)) (fun z => nomatch z)
      apply q_nx
      refine ⟨.inr rfl, .inr rfl, .inr ?_, .inr ?_, .inl rfl, .inr rfl, .inr rfl, .inr rfl, trivial⟩
      · rw [stA_next hsi]; simp
      · rw [stA_next hsi]
    · rw [List.length_map, List.take_length]
      exact q_retO rfl (by rw [List.length_map, stA_len]; omega) rfl
  · intro hb
    have hc : ¬ c ≥ 10 ^ 18 := of_decide_eq_false hb
    have hd : digitsI c sz = (stB (c % 2147483629) sz).1 := if_neg hc
    rw [hd]
    apply q_next
    apply q_set false (d_op (d_cb (d_acons (d_var rfl) d_anil) c_inti) d_int (o_modi (by decide))) (fun z => nomatch z)
    refine q_forS (it_rng1 (n := sz.length) (d_acons (d_cb (d_acons (d_var rfl) d_anil) c_leni) d_anil) (by rw [List.length_map]; omega) (by rw [List.length_map]; omega)) (fun i => [.va (.int c), .va (.lst (sz.map D.int)), .ow (.lst ((stB (c % 2147483629) (sz.take i)).1.map D.int)), .va (.int c), .no, .va (.int (stB (c % 2147483629) (sz.take i)).2), .no, .no]) ⟨.inr rfl, .inr rfl, .inr rfl, .inr rfl, .inr rfl, .inr rfl, .inr rfl, .inr rfl, trivial⟩ (fun i d hd => ?_) ?_
    · obtain ⟨hi, rfl⟩ := rngD_val hd
      obtain ⟨s, hsi⟩ : ∃ s, sz[i]? = some s := ⟨_, List.getElem?_eq_getElem hi⟩
      obtain ⟨s1, s2⟩ := hs s (List.mem_of_getElem? hsi)
      have hr := stB_seed (r0 := c % 2147483629) (by omega) sz i
      have hsb : seedB (stB (c % 2147483629) (sz.take i)) = ((stB (c % 2147483629) (sz.take i)).2 * 48271 + 974711 * (i : Int) + 12345) % 2147483647 := by
        unfold seedB
        rw [stB_len, List.length_take, show min i sz.length = i by omega]
      refine ⟨_, g_name', ?_⟩
      apply q_set false (d_op (d_cb (d_acons (d_op (d_op (d_op (d_var rfl) d_int (o_muli (.inr ⟨by decide, by decide⟩))) (d_op d_int (d_var rfl) (o_muli (.inl ⟨by decide, by decide⟩))) o_addi) d_int o_addi) d_anil) c_inti) d_int (o_modi (by decide))) (fun z => nomatch z)
      rw [← hsb]
      have hsr : 0 ≤ seedB (stB (c % 2147483629) (sz.take i)) ∧ seedB (stB (c % 2147483629) (sz.take i)) < 2147483647 := by rw [hsb]; omega
      apply q_set false (d_op (d_cb (d_acons (d_op (d_var rfl) (d_op (d_op (d_var rfl) d_int (o_divi ⟨by decide, by decide⟩)) d_int o_addi) (o_muli (.inl ⟨by omega, by omega⟩))) d_anil) c_inti) d_int (o_modi (by decide))) (fun z => nomatch z)
      apply q_last
      refine q_app false rfl (d_op (d_op (d_var rfl) d_int (o_divi ⟨by decide, by decide⟩)) (d_op (d_var (d := .lst (sz.map D.int)) rfl) (d_var rfl) (o_ixl (ixN_of rfl (by rw [List.length_map]; exact hi)) (d := .int s) (by rw [List.getElem?_map, hsi]; rfl))) (o_modi s1)) (fun z => nomatch z) (by rw [List.length_map, stB_len, List.length_take]; omega) ?_
      apply q_nx
      refine ⟨.inr rfl, .inr rfl, .inr ?_, .inr rfl, .inr rfl, .inr ?_, .inl rfl, .inl rfl, trivial⟩
      · rw [stB_next hsi]; simp
      · rw [stB_next hsi]
    · rw [rngD_len, List.take_length]
      apply q_last
      exact q_retO rfl (by rw [List.length_map, stB_len]; omega) rfl
end
section
variable {K : PySem.W.Frag} {W : WX}
theorem rep_none (c : Nat) (d : D) : (List.range c).filterMap (fun _ => some d) = List.replicate c d := by
  induction c with
  | zero => rfl
  | succ c ih => rw [List.range_succ, List.filterMap_append, ih, List.replicate_succ']; rfl
theorem dl_rep {δ : DEnv} {ta : TA} {te : TE} {i c : Nat} {n : Int} {d : D} (h : DA K δ ta [.int n]) (hc : n.toNat = c) (hn : n ≤ 1000 ∧ -1000 ≤ n) (hd : ∀ δ', DE K δ' te d) : DL K δ (tLc (iRng1 ta) (gName i) tYes te [i]) (List.replicate c d) := by
  refine dl_lc (it_rng1 (n := c) h hc (by omega)) (fun _ => some d) (fun j => [(i, .int (j : Int))]) (fun j d hd => ?_) (fun j d' hd' => ⟨dt_yes, fun y hy => by cases hy; exact hd _⟩) (by rw [rngD_len]; omega) (by rw [rngD_len, rep_none])
  obtain ⟨_, rfl⟩ := rngD_val hd
  exact ⟨g_name', fun p hp => by rw [List.mem_singleton.mp hp]; exact List.mem_singleton.mpr rfl⟩
end
end G

set_option Elab.async false
set_option linter.all false
set_option maxRecDepth 100000
/-! Pm: paths as lists of signs: their order, the ordered rows, prefixes. -/
namespace Pm
open PySem PySem.W
/-- a text by its signs -/
def mkS (p : List Nat) : Str := ⟨p.toArray⟩
theorem mkS_cps (p : List Nat) : (mkS p).cps.toList = p := by simp [mkS]
theorem mkS_len (p : List Nat) : (mkS p).length = p.length := by simp [mkS, Str.length]
theorem mkS_inj {p q : List Nat} (h : mkS p = mkS q) : p = q := by rw [← mkS_cps p, h, mkS_cps]
theorem mkS_of (x : Str) : mkS x.cps.toList = x := by cases x; simp [mkS]
/-- shorter first, then by the alphabet -/
def leP (a b : List Nat) : Bool := decide (a.length < b.length ∨ (a.length = b.length ∧ a ≤ b))
def keyP (p : List Nat) : PyData := .tuple [.int p.length, .str (mkS p)]
theorem leP_refl (a : List Nat) : leP a a = true := decide_eq_true (.inr ⟨rfl, List.le_refl a⟩)
theorem leP_total (a b : List Nat) : (leP a b || leP b a) = true := by
  unfold leP
  rw [Bool.or_eq_true, decide_eq_true_iff, decide_eq_true_iff]
  rcases Nat.lt_trichotomy a.length b.length with h | h | h
  · exact .inl (.inl h)
  · rcases List.le_total a b with q | q
    · exact .inl (.inr ⟨h, q⟩)
    · exact .inr (.inr ⟨h.symm, q⟩)
  · exact .inr (.inl h)
theorem leP_trans (a b c : List Nat) (h1 : leP a b = true) (h2 : leP b c = true) : leP a c = true := by
  unfold leP at *
  rw [decide_eq_true_iff] at *
  rcases h1 with h1 | ⟨h1, q1⟩
  · rcases h2 with h2 | ⟨h2, q2⟩
    · exact .inl (by omega)
    · exact .inl (by omega)
  · rcases h2 with h2 | ⟨h2, q2⟩
    · exact .inl (by omega)
    · exact .inr ⟨by omega, List.le_trans q1 q2⟩
theorem leP_anti {a b : List Nat} (h1 : leP a b = true) (h2 : leP b a = true) : a = b := by
  unfold leP at *
  rw [decide_eq_true_iff] at *
  rcases h1 with h1 | ⟨h1, q1⟩
  · rcases h2 with h2 | ⟨h2, q2⟩ <;> omega
  · rcases h2 with h2 | ⟨h2, q2⟩
    · omega
    · exact List.le_antisymm q1 q2
theorem dataLe_path : dataLe false keyP = leP := by
  funext p q
  show (!dataLt (keyP q) (keyP p)) = _
  unfold keyP leP
  rw [dataLt_pair (by simp [alike]) (by simp [alike]), dataLt_int, dataLt_str, mkS_cps, mkS_cps]
  simp only [PyData.eqv, beq_iff_eq]
  by_cases h1 : (q.length : Int) = (p.length : Int)
  · have h1' : q.length = p.length := by omega
    rw [if_pos h1]
    by_cases h2 : mkS q = mkS p
    · have h2' := mkS_inj h2
      rw [if_pos h2]
      symm
      exact decide_eq_true (.inr ⟨by omega, by rw [h2']; exact List.le_refl p⟩)
    · rw [if_neg h2]
      rw [not_lt_str]
      by_cases h3 : p ≤ q
      · rw [decide_eq_true h3]
        symm
        exact decide_eq_true (.inr ⟨h1'.symm, h3⟩)
      · rw [decide_eq_false h3]
        symm
        refine decide_eq_false ?_
        rintro (z | ⟨_, z⟩)
        · omega
        · exact h3 z
  · rw [if_neg h1, not_lt_int]
    have : ¬ q.length = p.length := fun z => h1 (by omega)
    by_cases h3 : (p.length : Int) ≤ (q.length : Int)
    · rw [decide_eq_true h3]
      symm
      exact decide_eq_true (.inl (by omega))
    · rw [decide_eq_false h3]
      symm
      refine decide_eq_false ?_
      rintro (z | ⟨z, _⟩) <;> omega
/-- strictly ordered rows -/
def Str3 (l : List (List Nat)) : Prop := l.Pairwise fun a b => leP a b = true ∧ a ≠ b
theorem uniq : ∀ {l m : List (List Nat)}, Str3 l → Str3 m → (∀ x, x ∈ l ↔ x ∈ m) → l = m
  | [], [], _, _, _ => rfl
  | [], y :: m, _, _, h => by have := (h y).mpr List.mem_cons_self; cases this
  | x :: l, [], _, _, h => by have := (h x).mp List.mem_cons_self; cases this
  | x :: l, y :: m, hl, hm, h => by
    have hl' := List.pairwise_cons.mp hl
    have hm' := List.pairwise_cons.mp hm
    have e : x = y := by
      have h1 := (h x).mp List.mem_cons_self
      have h2 := (h y).mpr List.mem_cons_self
      rcases List.mem_cons.mp h1 with h1 | h1
      · exact h1
      · rcases List.mem_cons.mp h2 with h2 | h2
        · exact h2.symm
        · exact leP_anti (hl'.1 y h2).1 (hm'.1 x h1).1
    subst e
    congr 1
    refine uniq hl'.2 hm'.2 fun z => ?_
    constructor
    · intro hz
      rcases List.mem_cons.mp ((h z).mp (List.mem_cons_of_mem _ hz)) with e | e
      · exact absurd e.symm (hl'.1 z hz).2
      · exact e
    · intro hz
      rcases List.mem_cons.mp ((h z).mpr (List.mem_cons_of_mem _ hz)) with e | e
      · exact absurd e.symm (hm'.1 z hz).2
      · exact e
/-- each once, as they come -/
def once (l : List (List Nat)) : List (List Nat) := l.foldl (fun acc p => if p ∈ acc then acc else acc ++ [p]) []
theorem once_snoc (l : List (List Nat)) (p : List Nat) : once (l ++ [p]) = if p ∈ once l then once l else once l ++ [p] := by
  unfold once
  rw [List.foldl_append]
  rfl
theorem once_mem : ∀ (n : Nat) (l : List (List Nat)), l.length = n → ∀ x, x ∈ once l ↔ x ∈ l
  | 0, l, h, x => by
    have : l = [] := List.length_eq_zero_iff.mp h
    subst this
    simp [once]
  | n + 1, l, h, x => by
    have hne : l ≠ [] := fun z => by rw [z] at h; cases h
    obtain ⟨l', z', rfl⟩ : ∃ l' z', l = l' ++ [z'] := ⟨_, _, (List.dropLast_concat_getLast hne).symm⟩
    have hl' : l'.length = n := by simpa using h
    have ih := once_mem n l' hl'
    rw [once_snoc]
    by_cases hp : z' ∈ once l'
    · rw [if_pos hp, ih, List.mem_append]
      constructor
      · exact .inl
      · rintro (z | z)
        · exact z
        · rw [List.mem_singleton.mp z]
          exact (ih _).mp hp
    · rw [if_neg hp, List.mem_append, List.mem_append, ih]
theorem once_nodup : ∀ (n : Nat) (l : List (List Nat)), l.length = n → (once l).Nodup
  | 0, l, h => by
    have : l = [] := List.length_eq_zero_iff.mp h
    subst this
    simp [once]
  | n + 1, l, h => by
    have hne : l ≠ [] := fun z => by rw [z] at h; cases h
    obtain ⟨l', z', rfl⟩ : ∃ l' z', l = l' ++ [z'] := ⟨_, _, (List.dropLast_concat_getLast hne).symm⟩
    have hl' : l'.length = n := by simpa using h
    have ih := once_nodup n l' hl'
    rw [once_snoc]
    by_cases hp : z' ∈ once l'
    · rw [if_pos hp]
      exact ih
    · rw [if_neg hp]
      refine List.nodup_append.mpr ⟨ih, by simp, ?_⟩
      intro a ha b hb
      rw [List.mem_singleton.mp hb]
      exact fun z => hp (z ▸ ha)
/-- the paths in order, each once -/
def ordS (l : List (List Nat)) : List (List Nat) := (once l).mergeSort leP
theorem sort_pw (l : List (List Nat)) : (l.mergeSort leP).Pairwise fun a b => leP a b = true := List.pairwise_mergeSort (le := leP) leP_trans leP_total l
theorem ordS_mem {l : List (List Nat)} {x : List Nat} : x ∈ ordS l ↔ x ∈ l := by
  unfold ordS
  rw [List.mem_mergeSort]
  exact once_mem _ l rfl x
theorem ordS_str (l : List (List Nat)) : Str3 (ordS l) := by
  have h1 := sort_pw (once l)
  have h2 : ((once l).mergeSort leP).Nodup := (List.mergeSort_perm (once l) leP).nodup_iff.mpr (once_nodup _ l rfl)
  exact (List.pairwise_and_iff.mpr ⟨h1, h2⟩)
theorem ordS_eq {l m : List (List Nat)} (h : ∀ x, x ∈ l ↔ x ∈ m) : ordS l = ordS m :=
  uniq (ordS_str l) (ordS_str m) fun x => by rw [ordS_mem, ordS_mem, h]
/-- without what stands twice in a row -/
def runs (l : List (List Nat)) : List (List Nat) := l.foldl (fun acc p => if acc.getLast? = some p then acc else acc ++ [p]) []
theorem runs_snoc (l : List (List Nat)) (p : List Nat) : runs (l ++ [p]) = if (runs l).getLast? = some p then runs l else runs l ++ [p] := by
  unfold runs
  rw [List.foldl_append]
  rfl
theorem runs_ok : ∀ (n : Nat) (l : List (List Nat)), l.length = n → (l.Pairwise fun a b => leP a b = true) → Str3 (runs l) ∧ ∀ x, x ∈ runs l ↔ x ∈ l
  | 0, l, h, _ => by
    have : l = [] := List.length_eq_zero_iff.mp h
    subst this
    simp [runs, Str3]
  | n + 1, l, h, hp => by
    have hne : l ≠ [] := fun z => by rw [z] at h; cases h
    obtain ⟨l', z', rfl⟩ : ∃ l' z', l = l' ++ [z'] := ⟨_, _, (List.dropLast_concat_getLast hne).symm⟩
    have hl' : l'.length = n := by simpa using h
    obtain ⟨p1, p2, p3⟩ := List.pairwise_append.mp hp
    obtain ⟨h1, h2⟩ := runs_ok n l' hl' p1
    rw [runs_snoc]
    by_cases hl : (runs l').getLast? = some z'
    · rw [if_pos hl]
      refine ⟨h1, fun x => ?_⟩
      rw [h2, List.mem_append]
      constructor
      · exact .inl
      · rintro (z | z)
        · exact z
        · rw [List.mem_singleton.mp z]
          exact (h2 _).mp (List.mem_of_getLast? hl)
    · rw [if_neg hl]
      refine ⟨List.pairwise_append.mpr ⟨h1, by simp, fun a ha b hb => ?_⟩, fun x => by rw [List.mem_append, List.mem_append, h2]⟩
      rw [List.mem_singleton.mp hb]
      have hle := p3 a ((h2 a).mp ha) _ (List.mem_singleton.mpr rfl)
      refine ⟨hle, fun z => hl ?_⟩
      -- a is the greatest there: it stands last
      have hne2 : runs l' ≠ [] := fun z => by rw [z] at ha; cases ha
      have e2 := List.dropLast_concat_getLast hne2
      rw [List.getLast?_eq_some_getLast hne2]
      congr 1
      have hm2 : (runs l').getLast hne2 ∈ l' := (h2 _).mp (List.getLast_mem hne2)
      have hle2 := p3 _ hm2 _ (List.mem_singleton.mpr rfl)
      refine leP_anti hle2 ?_
      rw [← z]
      rw [← e2] at ha h1
      rcases List.mem_append.mp ha with ha | ha
      · exact ((List.pairwise_append.mp h1).2.2 a ha _ (List.mem_singleton.mpr rfl)).1
      · rw [List.mem_singleton.mp ha]
        exact leP_refl _
theorem runs_sort (l : List (List Nat)) : runs (l.mergeSort leP) = ordS l := by
  obtain ⟨h1, h2⟩ := runs_ok _ (l.mergeSort leP) rfl (sort_pw l)
  exact uniq h1 (ordS_str l) fun x => by rw [h2, List.mem_mergeSort, ordS_mem]
/-- all prefixes -/
def prefs (l : List (List Nat)) : List (List Nat) := l.flatMap fun p => (List.range (p.length + 1)).map fun n => p.take n
theorem prefs_mem {l : List (List Nat)} {x : List Nat} : x ∈ prefs l ↔ ∃ p ∈ l, x <+: p := by
  unfold prefs
  rw [List.mem_flatMap]
  constructor
  · rintro ⟨p, hp, h⟩
    obtain ⟨n, _, rfl⟩ := List.mem_map.mp h
    exact ⟨p, hp, List.take_prefix n p⟩
  · rintro ⟨p, hp, h⟩
    refine ⟨p, hp, List.mem_map.mpr ⟨x.length, List.mem_range.mpr (by have := h.length_le; omega), ?_⟩⟩
    exact (List.prefix_iff_eq_take.mp h).symm
/-- the longest common prefix -/
def cpr : List Nat → List Nat → List Nat
  | a :: p, b :: q => if a = b then a :: cpr p q else []
  | _, _ => []
theorem cpr_take : ∀ (p q : List Nat) (n : Nat), n ≤ p.length → n ≤ q.length → (p.take n = q.take n ↔ n ≤ (cpr p q).length)
  | [], q, n, h1, h2 => by
    have : n = 0 := by simpa using h1
    subst this
    simp
  | a :: p, [], n, h1, h2 => by
    have : n = 0 := by simpa using h2
    subst this
    simp
  | a :: p, b :: q, 0, h1, h2 => by simp
  | a :: p, b :: q, n + 1, h1, h2 => by
    simp only [List.take_succ_cons, List.cons.injEq]
    unfold cpr
    by_cases e : a = b
    · rw [if_pos e, cpr_take p q n (by simpa using h1) (by simpa using h2)]
      simp [e]
    · rw [if_neg e]
      simp [e]
theorem cpr_len : ∀ p q : List Nat, (cpr p q).length ≤ p.length ∧ (cpr p q).length ≤ q.length
  | [], q => by simp [cpr]
  | a :: p, [] => by simp [cpr]
  | a :: p, b :: q => by
    have := cpr_len p q
    unfold cpr
    split
    · simp; omega
    · simp
theorem cpr_pre : ∀ p q : List Nat, p.take (cpr p q).length = cpr p q
  | [], q => by simp [cpr]
  | a :: p, [] => by simp [cpr]
  | a :: p, b :: q => by
    unfold cpr
    split
    · simp [cpr_pre p q]
    · simp
theorem cpr_eq {p q : List Nat} : cpr p q = p ↔ p <+: q := by
  have h0 := cpr_len p q
  constructor
  · intro h
    have h1 := (cpr_take p q p.length (Nat.le_refl _) (by rw [h] at h0; exact h0.2)).mpr (by rw [h]; exact Nat.le_refl _)
    rw [List.take_length] at h1
    rw [h1]
    exact List.take_prefix _ _
  · intro h
    have hl := h.length_le
    have h1 := (cpr_take p q p.length (Nat.le_refl _) hl).mp (by rw [List.take_length]; exact List.prefix_iff_eq_take.mp h)
    have h2 := cpr_pre p q
    rw [← h2]
    have : (cpr p q).length = p.length := by omega
    rw [this, List.take_length]
theorem cpr_eq2 {p q : List Nat} : cpr p q = q ↔ q <+: p := by
  have h0 := cpr_len p q
  constructor
  · intro h
    have := cpr_pre p q
    rw [h] at this
    rw [← this]
    exact List.take_prefix _ _
  · intro h
    have hl := h.length_le
    have h1 := (cpr_take p q q.length hl (Nat.le_refl _)).mp (by rw [List.take_length]; exact (List.prefix_iff_eq_take.mp h).symm)
    have h2 := cpr_pre p q
    have h3 : (cpr p q).length = q.length := by omega
    rw [← h2, h3]
    exact (List.prefix_iff_eq_take.mp h).symm
theorem starts (x y : List Nat) : Txt.startswith (mkS x) (mkS y) = decide (y <+: x) := by
  unfold Txt.startswith
  rw [mkS_len, mkS_len]
  unfold Builtin.Str.subAt
  rw [mkS_len]
  have e : ((mkS x).cps.extract 0 (0 + y.length) == (mkS y).cps) = decide (x.take y.length = y) := by
    unfold mkS
    rw [Bool.eq_iff_iff, beq_iff_eq, decide_eq_true_iff]
    simp
  rw [e]
  rw [Bool.eq_iff_iff, Bool.and_eq_true, decide_eq_true_iff, decide_eq_true_iff, decide_eq_true_iff]
  constructor
  · rintro ⟨h1, h2⟩
    exact List.prefix_iff_eq_take.mpr h2.symm
  · intro h
    exact ⟨by have := h.length_le; omega, (List.prefix_iff_eq_take.mp h).symm⟩
end Pm

set_option Elab.async false
set_option linter.all false
set_option maxRecDepth 100000
set_option maxHeartbeats 4000000
/-! Pth: the paths' functions: their readings, what they give. -/
namespace G
open PySem PySem.Spec PyProof.Rows L2
def t_is_path (K : PySem.W.Frag) : TS :=
  (tSeq (tIfS (tNot (tTru' K (tCB (rIsi' K) (tCons (tVar 0) (tCons (tC (.ty "str")) tNil)))))
  (tRet (tC (.bl false)))
  tNext)
  (tRet (tCB (rAll K) (tCons (tLc (iAny K (tVar 0)) (gName 2) tYes (tOp (rIn' K) (tVar 2) (tVar 1)) [2]) tNil))))
def t_begins (K : PySem.W.Frag) : TS :=
  (tRet (tBM K "str" rStartswith (tVar 1) (tCons (tVar 0) tNil)))
def t_apart (K : PySem.W.Frag) (sp_begins : Sp) : TS :=
  (tRet (tAndT K (tNotT K (tCallR sp_begins E0 (tCons (tVar 0) (tCons (tVar 1) tNil)))) (tNotT K (tCallR sp_begins E0 (tCons (tVar 1) (tCons (tVar 0) tNil))))))
def t_common (K : PySem.W.Frag) : TS :=
  (tSeq (tAsg (tC (.int 0)) (gName 2))
  (tSeq (tFor (iZipS (tCons (tVar 0) (tCons (tVar 1) tNil))) (gTup K 2 (gCons (gName 3) (gCons (gName 4) gNil)))
  (tSeq (tIfS (tTest (tOp (rNe' K) (tVar 3) (tVar 4)))
  tBreak
  tNext)
  (tAsg (tOp (rAdd' K) (tVar 2) (tC (.int 1))) (gName 2))))
  (tRet (tSl (rSl' K) (tVar 0) tNoPart (tPart (tVar 2))))))
def t_path_key (K : PySem.W.Frag) : TS :=
  (tRet (tTup (tCons (tCB (rLen' K) (tCons (tVar 0) tNil)) (tCons (tVar 0) tNil))))
def t_in_order (K : PySem.W.Frag) (kf : Addr) (sp_path_key : Sp) : TS :=
  (tSeq (tAsg (tDc (iAny K (tVar 0)) (gName 2) tYes (tVar 2) (tC (.bl true)) [2]) (gName 1))
  (tRet (tCB (rTuple' K) (tCons (tCKw (rSortKey K sp_path_key kf) (tCons (tCB (rListA K) (tCons (tVar 1) tNil)) tNil) (tCons (tC (.ref kf)) tNil)) tNil))))
def t_closed (K : PySem.W.Frag) (sp_in_order : Sp) : TS :=
  (tSeq (tAsg tDNewK (gName 1))
  (tSeq (tFor (iAny K (tVar 0)) (gName 2)
  (tFor (iRng3 (tCons (tCB (rLen' K) (tCons (tVar 2) tNil)) (tCons (tUn rNeg' (tC (.int 1))) (tCons (tUn rNeg' (tC (.int 1))) tNil)))) (gName 3)
  (tSeq (tIfS (tTest (tOp (rIn' K) (tSl (rSl' K) (tVar 2) tNoPart (tPart (tVar 3))) (tVar 1)))
  tBreak
  tNext)
  (tAsg (tC (.bl true)) (gSub (tVar 1) (tSl (rSl' K) (tVar 2) tNoPart (tPart (tVar 3))) rSet')))))
  (tRet (tCallR sp_in_order E0 (tCons (tCB (rListA K) (tCons (tVar 1) tNil)) tNil)))))
def t__law_common (K : PySem.W.Frag) : TS :=
  (tSeq (tAsg (tC (.int 0)) (gName 2))
  (tSeq (tFor (iRng1 (tCons (tCB (rMin' K) (tCons (tCB (rLen' K) (tCons (tVar 0) tNil)) (tCons (tCB (rLen' K) (tCons (tVar 1) tNil)) tNil))) tNil)) (gName 3)
  (tIfS (tTest (tOp (rEq' K) (tSl (rSl' K) (tVar 0) tNoPart (tPart (tOp (rAdd' K) (tVar 3) (tC (.int 1))))) (tSl (rSl' K) (tVar 1) tNoPart (tPart (tOp (rAdd' K) (tVar 3) (tC (.int 1)))))))
  (tAsg (tOp (rAdd' K) (tVar 3) (tC (.int 1))) (gName 2))
  tNext))
  (tRet (tSl (rSl' K) (tVar 0) tNoPart (tPart (tVar 2))))))
def t__law_ordered (K : PySem.W.Frag) : TS :=
  (tSeq (tAsg (tLst tNil) (gName 1))
  (tSeq (tFor (iAny K (tCB (rSortD K) (tCons (tLc (iAny K (tVar 0)) (gName 3) tYes (tTup (tCons (tCB (rLen' K) (tCons (tVar 3) tNil)) (tCons (tVar 3) tNil))) [3]) tNil))) (gName 2)
  (tIfS (tOr (tTest (tOp (rEq' K) (tCB (rLen' K) (tCons (tVar 1) tNil)) (tC (.int 0)))) (tTest (tOp (rNe' K) (tOp (rIx' K) (tVar 1) (tUn rNeg' (tC (.int 1)))) (tOp (rIx' K) (tVar 2) (tC (.int 1))))))
  (tDrop (tBM K "list" rAppend (tVar 1) (tCons (tOp (rIx' K) (tVar 2) (tC (.int 1))) tNil)))
  tNext))
  (tRet (tCB (rTuple' K) (tCons (tVar 1) tNil)))))
open Pm
def sD (p : List Nat) : D := .str (mkS p)
abbrev PD (ps : List (List Nat)) : List D := ps.map sD
section
variable {K : PySem.W.Frag} {W : WX} {δ : DEnv} {ta : TA}
theorem fm_map {α β : Type} (g : α → β) (l : List α) : (List.range l.length).filterMap (fun i => (l[i]?).map g) = l.map g := by
  have : ∀ n, n ≤ l.length → (List.range n).filterMap (fun k => (l[k]?).map g) = (l.take n).map g := by
    intro n
    induction n with
    | zero => intro _; rfl
    | succ n ih =>
      intro hn
      have hx : l[n]? = some l[n] := List.getElem?_eq_getElem (by omega)
      rw [List.range_succ, List.filterMap_append, ih (by omega), List.take_add_one, List.map_append]
      simp only [List.filterMap_cons, List.filterMap_nil, hx, Option.map_some, Option.toList_some, List.map_cons, List.map_nil]
  have := this l.length (Nat.le_refl _)
  rw [List.take_length] at this
  exact this
theorem cut_to (p : List Nat) (n : Nat) : cutS (mkS p) none (some (n : Int)) = mkS (p.take n) := by
  unfold cutS
  rw [mkS_cps, mkS_len, HT.sIx_nat, HT.sIx_none, List.drop_zero, Nat.sub_zero]
  unfold mkS
  congr 1
  congr 1
  by_cases h : n ≤ p.length
  · rw [Nat.min_eq_left h]
  · rw [Nat.min_eq_right (by omega), List.take_length, List.take_of_length_le (by omega)]
theorem sD_len {p : List Nat} {n : Nat} (h : p.length ≤ n) : (mkS p).length ≤ n := by rw [mkS_len]; exact h
/-- pairs of signs -/
def zipS (x y : Str) : List D := (x.cps.toList.zip y.cps.toList).map fun c => .tup [.str ⟨#[c.1]⟩, .str ⟨#[c.2]⟩]
theorem it_zipS {x y : Str} (h : DA K δ ta [.str x, .str y]) : DI K δ (iZipS ta) (zipS x y) := fun H R σ Rk s ev q =>
  h H R σ _ s ev fun vs H1 R1 g r => by
    obtain ⟨v, u, rfl, r1, r2⟩ := rep2 r
    cases r1; cases r2
    have hl : (zipS x y).length = min x.cps.size y.cps.size := by simp [zipS]
    refine ⟨x, y, rfl, q _ H1 R1 g ⟨fun i H v H' => (ItzS x y).yld i H v H', ⟨fun i H hi _ => ?_, fun H _ => ?_, fun i H x H' _ _ y => y⟩, ?_⟩⟩
    · rw [hl] at hi
      exact ⟨by omega, by omega⟩
    · rw [hl]
      exact ⟨by omega, by omega, by omega⟩
    · rintro i H R2 v H' hi s1 s2 ⟨T, c, d, rfl, hT, rfl, hc, hd⟩
      have g2 := Gr.new (u := .tup [.str ⟨#[c]⟩, .str ⟨#[d]⟩]) s2 hT
      refine ⟨.tup [.str ⟨#[c]⟩, .str ⟨#[d]⟩], upd R2 T (.tup [.str ⟨#[c]⟩, .str ⟨#[d]⟩]), ?_, g2, .tup (SqT.of upd_same) (.cons (.str _) (.cons (.str _) .nil))⟩
      unfold zipS
      rw [List.getElem?_map]
      have e1 : (x.cps.toList.zip y.cps.toList)[i]? = some (c, d) := by
        rw [List.getElem?_zip_eq_some]
        exact ⟨by rw [Array.getElem?_toList]; exact hc, by rw [Array.getElem?_toList]; exact hd⟩
      rw [e1]
      rfl
/-! is_path -/
def pathB (s : Str) : D → Bool
  | .str x => x.cps.toList.all fun c => decide (c ∈ s.cps.toList)
  | _ => false
def relIsPath (ds : List D) (r : Res) : Prop := ∃ (v : D) (s : Str), ds = [v, .str s] ∧ v.isV = false ∧ (∀ x, v = .str x → x.length ≤ 10000000) ∧ r = .rt (.bl (pathB s v))
theorem is_path_wp (ds : List D) (r : Res) (h : relIsPath ds r) : WP K W (ds.map Sl.va ++ List.replicate (3 - ds.length) Sl.no) (t_is_path K) (fun o => Fits o r) := by
  obtain ⟨v, s, rfl, hv, hl, rfl⟩ := h
  show WP K W [.va v, .va (.str s), .no] _ _
  unfold t_is_path
  by_cases hs : ∃ x, v = .str x
  · obtain ⟨x, rfl⟩ := hs
    apply q_ifF false
    · exact dt_is (dt_not (dt_tru (d_cb (d_acons (d_var rfl) (d_acons d_val d_anil)) (c_isi1 (b := true) rfl rfl)) trivial)) rfl
    apply q_next
    apply q_last
    have hx := hl x rfl
    have hz : x.cps.toList.length ≤ 10000000 := by simpa [Str.length] using hx
    refine q_ret false (d_cb (d_acons (DL.de (ds := (x.cps.toList.map fun c => decide (c ∈ s.cps.toList)).map D.bl) (dl_lc (it_str (d_var rfl)) (fun i => (x.cps.toList[i]?).map fun c => D.bl (decide (c ∈ s.cps.toList))) (fun i => [(2, ((signs x)[i]?).getD .non)]) (fun i d hd => ?_) (fun i d hd => ?_) ?_ ?_)) d_anil) c_allB) ?_
    · rw [hd]
      exact ⟨g_name', fun p hp => by rw [List.mem_singleton.mp hp]; exact List.mem_singleton.mpr rfl⟩
    · rw [hd]
      unfold signs at hd
      rw [List.getElem?_map] at hd
      cases e : x.cps.toList[i]? with
      | none => rw [e] at hd; cases hd
      | some c =>
        rw [e] at hd
        have hd' : d = .str ⟨#[c]⟩ := (Option.some.inj hd).symm
        subst hd'
        refine ⟨dt_yes, fun y hy => ?_⟩
        have hy' : y = D.bl (decide (c ∈ s.cps.toList)) := (Option.some.inj hy).symm
        subst hy'
        exact d_op (d_var rfl) (d_var rfl) o_inS
    · unfold signs
      rw [List.length_map]
      exact hz
    · unfold signs
      rw [List.length_map, fm_map, List.map_map]
      rfl
    · show D.bl _ = D.bl _
      simp [pathB, List.all_map]
  · have h1 : kitB v.typ "str" = some false := by
      cases v <;> first
        | rfl
        | exact absurd ⟨_, rfl⟩ hs
        | (cases hv)
    apply q_ifT false
    · exact dt_is (dt_not (dt_tru (d_cb (d_acons (d_var rfl) (d_acons d_val d_anil)) (c_isi1 (b := false) hv h1)) trivial)) rfl
    · apply q_ret false d_bl
      show D.bl _ = D.bl _
      cases v <;> first
        | rfl
        | exact absurd ⟨_, rfl⟩ hs
/-! begins, apart -/
def relBegins (ds : List D) (r : Res) : Prop := ∃ p q : List Nat, ds = [sD p, sD q] ∧ r = .rt (.bl (decide (p <+: q)))
theorem begins_wp (ds : List D) (r : Res) (h : relBegins ds r) : WP K W (ds.map Sl.va ++ List.replicate (2 - ds.length) Sl.no) (t_begins K) (fun o => Fits o r) := by
  obtain ⟨p, q, rfl, rfl⟩ := h
  show WP K W [.va (sD p), .va (sD q)] _ _
  unfold t_begins
  apply q_last
  refine q_ret false (d_starts (x := mkS q) (y := mkS p) (d_var rfl) (d_acons (d_var rfl) d_anil)) ?_
  show D.bl _ = D.bl _
  rw [starts]
def relApart (ds : List D) (r : Res) : Prop := ∃ p q : List Nat, ds = [sD p, sD q] ∧ r = .rt (.bl (!decide (p <+: q) && !decide (q <+: p)))
theorem apart_wp (ds : List D) (r : Res) (h : relApart ds r) : WP K W (ds.map Sl.va ++ List.replicate (2 - ds.length) Sl.no) (t_apart K (spD K relBegins)) (fun o => Fits o r) := by
  obtain ⟨p, q, rfl, rfl⟩ := h
  show WP K W [.va (sD p), .va (sD q)] _ _
  unfold t_apart
  apply q_last
  refine q_ret false (d_andT (x := .bl (!decide (p <+: q))) (y := .bl (!decide (q <+: p))) (d_notT (d_call (d_acons (d_var rfl) (d_acons (d_var rfl) d_anil)) (show relBegins _ _ from ⟨p, q, rfl, rfl⟩)) trivial) trivial (fun _ => d_notT (d_call (d_acons (d_var rfl) (d_acons (d_var rfl) d_anil)) (show relBegins _ _ from ⟨q, p, rfl, rfl⟩)) trivial) rfl) ?_
  show (if (!decide (p <+: q)) = true then D.bl (!decide (q <+: p)) else D.bl (!decide (p <+: q))) = D.bl _
  cases decide (p <+: q) <;> simp
/-! common -/
def relCommon (ds : List D) (r : Res) : Prop := ∃ p q : List Nat, ds = [sD p, sD q] ∧ p.length ≤ 1000000 ∧ q.length ≤ 1000000 ∧ r = .rt (sD (cpr p q))
theorem common_wp (ds : List D) (r : Res) (h : relCommon ds r) : WP K W (ds.map Sl.va ++ List.replicate (5 - ds.length) Sl.no) (t_common K) (fun o => Fits o r) := by
  obtain ⟨p, q, rfl, hp, hq, rfl⟩ := h
  show WP K W [.va (sD p), .va (sD q), .no, .no, .no] _ _
  unfold t_common
  have hcl := cpr_len p q
  have fin : ∀ (S : SEnv) (i : Nat), wk S [.va (sD p), .va (sD q), .va (.int (i : Int)), .no, .no] → i = (cpr p q).length → WP K W S (tRet (tSl (rSl' K) (tVar 0) tNoPart (tPart (tVar 2)))) (fun o => Fits o (.rt (sD (cpr p q)))) := by
    intro S i w hi
    refine q_weak w ?_
    apply q_last
    refine q_ret false (d_cutS (z := mkS p) (d_var rfl) d_noPart (d_part (d_var rfl)) (small (sD_len (by omega)))) ?_
    show D.str _ = D.str _
    rw [cut_to, hi, cpr_pre]
  apply q_set false d_int (fun z => nomatch z)
  have hzl : (zipS (mkS p) (mkS q)).length = min p.length q.length := by simp [zipS, mkS_cps]
  refine q_forP (it_zipS (x := mkS p) (y := mkS q) (d_acons (d_var rfl) (d_acons (d_var rfl) d_anil))) (fun i S => S = [.va (sD p), .va (sD q), .va (.int (i : Int)), .no, .no] ∧ i ≤ (cpr p q).length) [.va (sD p), .va (sD q), .va (.int ((0 : Nat) : Int)), .no, .no] (wk.refl _) ⟨rfl, Nat.zero_le _⟩ ?_ ?_
  · rintro i d S hd ⟨rfl, hi⟩
    unfold zipS at hd
    rw [mkS_cps, mkS_cps, List.getElem?_map] at hd
    cases e : (p.zip q)[i]? with
    | none => rw [e] at hd; cases hd
    | some c =>
      obtain ⟨a, b⟩ := c
      rw [e] at hd
      have hd' : d = .tup [.str ⟨#[a]⟩, .str ⟨#[b]⟩] := (Option.some.inj hd).symm
      subst hd'
      obtain ⟨e1, e2⟩ := List.getElem?_zip_eq_some.mp e
      have hip : i < p.length := (List.getElem?_eq_some_iff.mp e1).1
      have hiq : i < q.length := (List.getElem?_eq_some_iff.mp e2).1
      have htk := cpr_take p q i (by omega) (by omega)
      have htk1 := cpr_take p q (i + 1) (by omega) (by omega)
      refine ⟨_, g_tup (g_cons g_name' (g_cons g_name' g_nil)) rfl, ?_⟩
      have hne : (!decide ((⟨#[a]⟩ : Str) = ⟨#[b]⟩)) = !decide (a = b) := by
        by_cases hab : a = b
        · subst hab; simp
        · have : ¬ ((⟨#[a]⟩ : Str) = ⟨#[b]⟩) := fun z => hab (by simpa using z)
          simp [hab, this]
      apply q_if false (dt_test (d_op (d_var rfl) (d_var rfl) o_nes))
      · intro hb
        rw [hne] at hb
        have hab : a ≠ b := by simpa using hb
        apply q_brk
        refine fin _ i ⟨.inr rfl, .inr rfl, .inr rfl, .inl rfl, .inl rfl, trivial⟩ ?_
        have : ¬ i + 1 ≤ (cpr p q).length := fun z => by
          have h1 := htk1.mpr z
          rw [List.take_add_one, List.take_add_one, e1, e2] at h1
          have h2 := List.append_inj' h1 rfl
          simp at h2
          exact hab h2.2
        omega
      · intro hb
        rw [hne] at hb
        have hab : a = b := by simpa using hb
        apply q_next
        apply q_last
        apply q_set false (d_op (d_var rfl) d_int o_addi) (fun z => nomatch z)
        apply q_nx
        refine ⟨_, ?_, rfl, ?_⟩
        · refine ⟨.inr rfl, .inr rfl, .inr ?_, .inl rfl, .inl rfl, trivial⟩
          simp
        · refine htk1.mp ?_
          rw [List.take_add_one, List.take_add_one, e1, e2, htk.mpr hi, hab]
  · rintro S ⟨rfl, hi⟩
    rw [hzl] at hi ⊢
    exact fin _ _ (wk.refl _) (by omega)
/-! _law_common -/
theorem lcommon_wp (ds : List D) (r : Res) (h : relCommon ds r) : WP K W (ds.map Sl.va ++ List.replicate (4 - ds.length) Sl.no) (t__law_common K) (fun o => Fits o r) := by
  obtain ⟨p, q, rfl, hp, hq, rfl⟩ := h
  show WP K W [.va (sD p), .va (sD q), .no, .no] _ _
  unfold t__law_common
  have hcl := cpr_len p q
  apply q_set false d_int (fun z => nomatch z)
  have hmin : (if ((mkS q).length : Int) < ((mkS p).length : Int) then ((mkS q).length : Int) else ((mkS p).length : Int)) = ((min p.length q.length : Nat) : Int) := by
    rw [mkS_len, mkS_len]
    split <;> omega
  refine q_forP (it_rng1 (m := ((min p.length q.length : Nat) : Int)) (n := min p.length q.length) (d_acons (de_is (d_cb (d_acons (d_cb (d_acons (d_var rfl) d_anil) (c_lens (small (sD_len (by omega))))) (d_acons (d_cb (d_acons (d_var rfl) d_anil) (c_lens (small (sD_len (by omega))))) d_anil)) c_min2) (by rw [← hmin])) d_anil) (by simp) (by omega))
    (fun i S => S = [.va (sD p), .va (sD q), .va (.int ((min i (cpr p q).length : Nat) : Int)), .no]) [.va (sD p), .va (sD q), .va (.int ((min 0 (cpr p q).length : Nat) : Int)), .no] (by rw [Nat.zero_min]; exact wk.refl _) rfl ?_ ?_
  · rintro i d S hd rfl
    obtain ⟨hi, rfl⟩ := rngD_val hd
    have htk1 := cpr_take p q (i + 1) (by omega) (by omega)
    refine ⟨_, g_name', ?_⟩
    have hcut : ∀ (z : List Nat), z.length ≤ 1000000 → ∀ j, (fz false [.va (sD p), .va (sD q), .va (.int ((min i (cpr p q).length : Nat) : Int)), .va (.int (i : Int))])[j]? = some (some (sD z)) →
        DE K (fz false [.va (sD p), .va (sD q), .va (.int ((min i (cpr p q).length : Nat) : Int)), .va (.int (i : Int))]) (tSl (rSl' K) (tVar j) tNoPart (tPart (tOp (rAdd' K) (tVar 3) (tC (.int 1))))) (.str (mkS (z.take (i + 1)))) := by
      intro z hz j hj
      refine de_is (d_cutS (z := mkS z) (d_var hj) d_noPart (d_part (d_op (d_var rfl) d_int o_addi)) (small (sD_len (by omega)))) ?_
      show D.str _ = D.str _
      rw [← cut_to]
      rfl
    have heq : decide ((mkS (p.take (i + 1))) = mkS (q.take (i + 1))) = decide (i + 1 ≤ (cpr p q).length) := by
      by_cases hc : i + 1 ≤ (cpr p q).length
      · rw [decide_eq_true hc, htk1.mpr hc]; simp
      · rw [decide_eq_false hc]
        exact decide_eq_false fun z => hc (htk1.mp (mkS_inj z))
    apply q_last
    apply q_if false (dt_test (d_op (hcut p hp 0 rfl) (hcut q hq 1 rfl) o_eqs))
    · intro hb
      rw [heq] at hb
      have hc := of_decide_eq_true hb
      apply q_set false (d_op (d_var rfl) d_int o_addi) (fun z => nomatch z)
      apply q_nx
      refine ⟨_, ?_, rfl⟩
      refine ⟨.inr rfl, .inr rfl, .inr ?_, .inl rfl, trivial⟩
      rw [Nat.min_eq_left hc]
      simp
    · intro hb
      rw [heq] at hb
      have hc := of_decide_eq_false hb
      apply q_next
      apply q_nx
      refine ⟨_, ?_, rfl⟩
      refine ⟨.inr rfl, .inr rfl, .inr ?_, .inl rfl, trivial⟩
      have e1 : min i (cpr p q).length = min (i + 1) (cpr p q).length := by omega
      rw [← e1]
  · rintro S rfl
    rw [rngD_len]
    apply q_last
    refine q_ret false (d_cutS (z := mkS p) (d_var rfl) d_noPart (d_part (d_var rfl)) (small (sD_len (by omega)))) ?_
    show D.str _ = D.str _
    rw [cut_to, Nat.min_eq_right (by omega), cpr_pre]
/-! path_key, in_order -/
def relKey (ds : List D) (r : Res) : Prop := ∃ p : List Nat, ds = [sD p] ∧ p.length ≤ 10000000 ∧ r = .rt (.tup [.int p.length, sD p])
theorem path_key_wp (ds : List D) (r : Res) (h : relKey ds r) : WP K W (ds.map Sl.va ++ List.replicate (1 - ds.length) Sl.no) (t_path_key K) (fun o => Fits o r) := by
  obtain ⟨p, rfl, hp, rfl⟩ := h
  show WP K W [.va (sD p)] _ _
  unfold t_path_key
  apply q_last
  refine q_ret false (d_tup (d_acons (d_cb (d_acons (d_var rfl) d_anil) (c_lens (small (sD_len hp)))) (d_acons (d_var rfl) d_anil)) (by simp)) ?_
  show D.tup [.int ((mkS p).length : Int), _] = D.tup [.int (p.length : Int), _]
  rw [mkS_len]
def kP (p : List Nat) : L2.Key := .inr (mkS p)
theorem kP_inj {p q : List Nat} (h : kP p = kP q) : p = q := mkS_inj (Sum.inr.inj h)
theorem hasK_path {l : List (List Nat)} {p : List Nat} : hasK (l.map kP) (kP p) = decide (p ∈ l) := by
  rw [Bool.eq_iff_iff, hasK_iff, decide_eq_true_iff, List.mem_map]
  constructor
  · rintro ⟨q, h, e⟩
    exact kP_inj e ▸ h
  · exact fun h => ⟨p, h, rfl⟩
theorem dc_once (ps : List (List Nat)) (f : Nat → Option (L2.Key × D)) (hf : ∀ i p, ps[i]? = some p → f i = some (kP p, .bl true)) : ∀ n, n ≤ ps.length → (dcAcc f n).1 = (once (ps.take n)).map kP
  | 0, _ => by simp [dcAcc, once]
  | n + 1, hn => by
    have hx : ps[n]? = some ps[n] := List.getElem?_eq_getElem (by omega)
    have ih := dc_once ps f hf n (by omega)
    rw [dcAcc, hf n _ hx]
    dsimp only
    rw [ih, List.take_add_one, hx, Option.toList_some, once_snoc]
    unfold putKs
    rw [hasK_path]
    by_cases h : ps[n] ∈ once (ps.take n)
    · rw [if_pos (decide_eq_true h), if_pos h]
    · rw [if_neg (by simpa using h), if_neg h, List.map_append]
      rfl
/-- the row of paths, a list or a tuple -/
def IsRowP (x : D) (ps : List (List Nat)) : Prop := (x = .lst (PD ps) ∨ x = .tup (PD ps)) ∧ ps.length ≤ 10000000 ∧ ∀ p ∈ ps, p.length ≤ 10000000
def relInOrder (ds : List D) (r : Res) : Prop := ∃ (x : D) (ps : List (List Nat)), ds = [x] ∧ IsRowP x ps ∧ r = .rt (.tup (PD (ordS ps)))
theorem it_row {te : TE} {x : D} {ds : List D} (h : DE K δ te x) (hx : x = .lst ds ∨ x = .tup ds) : DI K δ (iAny K te) ds := by
  rcases hx with rfl | rfl
  · exact it_lst h
  · exact it_tup h
def keyD : D → D
  | .str x => .tup [.int x.length, .str x]
  | d => d
theorem encKey (p : List Nat) : encD (keyD (sD p)) = keyP p := by
  show encD (.tup [.int ((mkS p).length : Int), .str (mkS p)]) = _
  rw [mkS_len]
  simp [encD, encL, keyP]
theorem sortD_path (l : List (List Nat)) : (PD l).mergeSort (PySem.W.dataLe false fun d => encD (keyD d)) = PD (l.mergeSort leP) := by
  refine (List.map_mergeSort (f := sD) (r := leP) (s := PySem.W.dataLe false fun d => encD (keyD d)) fun a _ b _ => ?_).symm
  rw [← dataLe_path]
  show PySem.W.dataLe false keyP a b = PySem.W.dataLe false (fun d => encD (keyD d)) (sD a) (sD b)
  have e1 : PySem.W.dataLe false keyP a b = !PySem.W.dataLt (keyP b) (keyP a) := rfl
  have e2 : PySem.W.dataLe false (fun d => encD (keyD d)) (sD a) (sD b) = !PySem.W.dataLt (encD (keyD (sD b))) (encD (keyD (sD a))) := rfl
  rw [e1, e2, encKey, encKey]
theorem mem_PD {l : List (List Nat)} {d : D} (h : d ∈ PD l) : ∃ p ∈ l, d = sD p := by
  obtain ⟨p, hp, rfl⟩ := List.mem_map.mp h
  exact ⟨p, hp, rfl⟩
theorem once_len (l : List (List Nat)) : (once l).length ≤ l.length := by
  have : ∀ (l acc : List (List Nat)), (l.foldl (fun acc p => if p ∈ acc then acc else acc ++ [p]) acc).length ≤ acc.length + l.length := by
    intro l
    induction l with
    | nil => intro acc; simp
    | cons p l ih =>
      intro acc
      rw [List.foldl_cons]
      refine Nat.le_trans (ih _) ?_
      split
      · simp
      · simp; omega
  have h := this l []
  rw [List.length_nil, Nat.zero_add] at h
  exact h
theorem in_order_wp {f : Addr} (ds : List D) (r : Res) (h : relInOrder ds r) : WP K W (ds.map Sl.va ++ List.replicate (3 - ds.length) Sl.no) (t_in_order K f (spD K relKey)) (fun o => Fits o r) := by
  obtain ⟨x, ps, rfl, ⟨hx, hn, hb⟩, rfl⟩ := h
  show WP K W [.va x, .no, .no] _ _
  unfold t_in_order
  have hd : DE K (fz false [.va x, .no, .no]) (tDc (iAny K (tVar 0)) (gName 2) tYes (tVar 2) (tC (.bl true)) [2]) (.dct ((once ps).map kP) (dcAcc (fun i => (ps[i]?).map fun p => (kP p, D.bl true)) ps.length).2) := by
    refine DNw.de (dn_dc (it_row (d_var rfl) hx) (fun i => (ps[i]?).map fun p => (kP p, D.bl true)) (fun i => [(2, ((PD ps)[i]?).getD .non)]) (fun i d hd => ?_) (fun i d hd => ?_) (by rw [List.length_map]; exact hn) ?_)
    · rw [hd]
      exact ⟨g_name', fun p hp => by rw [List.mem_singleton.mp hp]; exact List.mem_singleton.mpr rfl⟩
    · rw [hd]
      rw [List.getElem?_map] at hd
      cases e : ps[i]? with
      | none => rw [e] at hd; cases hd
      | some p =>
        rw [e] at hd
        have hd' : d = sD p := (Option.some.inj hd).symm
        subst hd'
        refine ⟨dt_yes, fun k y hy => ?_⟩
        have hy' := Option.some.inj hy
        cases hy'
        exact ⟨d_var rfl, d_bl⟩
    · have e := dc_once ps (fun i => (ps[i]?).map fun p => (kP p, D.bl true)) (fun i p h => by show (ps[i]?).map _ = _; rw [h]; rfl) ps.length (Nat.le_refl _)
      rw [List.take_length] at e
      rw [List.length_map, ← e]
  apply q_set false hd (fun z => nomatch z)
  apply q_last
  have hk : ∀ d ∈ PD (once ps), ∃ p, d = sD p ∧ p.length ≤ 10000000 := fun d hd => by
    obtain ⟨p, hp, rfl⟩ := mem_PD hd
    exact ⟨p, rfl, hb p ((once_mem _ ps rfl p).mp hp)⟩
  have hol := once_len ps
  have hlk : (once ps).length ≤ 10000000 := by omega
  refine q_ret false (d_cb (d_acons (DL.de (ds := PD (ordS ps)) (dl_sortedKey (ds := PD (once ps)) (rel := relKey) keyD (d_acons (DL.de (dl_is (dl_listK (d_acons (d_var rfl) d_anil) (by rw [List.length_map]; exact hlk)) ?_)) d_anil) ?_ ?_ ?_ ?_ ?_ ?_ ?_)) d_anil) c_tupL) rfl
  · rw [List.map_map]
    rfl
  · intro d hd
    obtain ⟨p, rfl, hp⟩ := hk d hd
    refine ⟨p, rfl, hp, ?_⟩
    show Res.rt (.tup [.int ((mkS p).length : Int), .str (mkS p)]) = _
    rw [mkS_len]
    rfl
  · intro d hd
    obtain ⟨p, rfl, _⟩ := hk d hd
    rfl
  · rw [List.map_map]
    refine (show ((once ps).map ((fun d => encD (keyD d)) ∘ sD)) = (once ps).map keyP from List.map_congr_left fun p _ => encKey p) ▸ ?_
    exact PySem.W.AllAlike.of fun a b => by show PySem.W.alike (encD (keyD (sD a))) (encD (keyD (sD b))) = true; rw [encKey, encKey]; simp [keyP, PySem.W.alike, PySem.W.alikeAll]
  · rw [List.map_map]
    refine (show ((once ps).map ((fun d => encD (keyD d)) ∘ sD)) = (once ps).map keyP from List.map_congr_left fun p _ => encKey p) ▸ ?_
    exact PySem.W.Sortable.tuples fun p => ⟨_, _, rfl⟩
  · intro d hd
    obtain ⟨p, rfl, _⟩ := hk d hd
    rw [encKey]
    simp [keyP, PyData.depth, PyData.depthAll]
  · rw [List.length_map]
    exact hlk
  · exact sortD_path _
/-! closed -/
theorem putKs_path {l : List (List Nat)} {p : List Nat} : putKs (l.map kP) (kP p) = (if p ∈ l then l else l ++ [p]).map kP := by
  unfold putKs
  rw [hasK_path]
  by_cases h : p ∈ l
  · rw [if_pos (decide_eq_true h), if_pos h]
  · rw [if_neg (by simpa using h), if_neg h, List.map_append]
    rfl
def relClosed (ds : List D) (r : Res) : Prop := ∃ (x : D) (ps : List (List Nat)), ds = [x] ∧ (x = .lst (PD ps) ∨ x = .tup (PD ps)) ∧ ps.length ≤ 9000 ∧ (∀ p ∈ ps, p.length ≤ 1000) ∧ r = .rt (.tup (PD (ordS (prefs ps))))
theorem prefs_snoc {ps : List (List Nat)} {i : Nat} {p x : List Nat} (h : ps[i]? = some p) : x ∈ prefs (ps.take (i + 1)) ↔ x ∈ prefs (ps.take i) ∨ x <+: p := by
  rw [List.take_add_one, h, prefs_mem, prefs_mem]
  constructor
  · rintro ⟨q, hq, hx⟩
    rcases List.mem_append.mp hq with hq | hq
    · exact .inl ⟨q, hq, hx⟩
    · have : q = p := by simpa using hq
      exact .inr (this ▸ hx)
  · rintro (⟨q, hq, hx⟩ | hx)
    · exact ⟨q, List.mem_append_left _ hq, hx⟩
    · exact ⟨p, by simp, hx⟩
theorem prefs_down {ps : List (List Nat)} {x y : List Nat} (h : x ∈ prefs ps) (hy : y <+: x) : y ∈ prefs ps := by
  obtain ⟨p, hp, hx⟩ := prefs_mem.mp h
  exact prefs_mem.mpr ⟨p, hp, hy.trans hx⟩
theorem closed_wp (ds : List D) (r : Res) (h : relClosed ds r) : WP K W (ds.map Sl.va ++ List.replicate (4 - ds.length) Sl.no) (t_closed K (spD K relInOrder)) (fun o => Fits o r) := by
  obtain ⟨x, ps, rfl, hx, hn, hb, rfl⟩ := h
  show WP K W [.va x, .no, .no, .no] _ _
  unfold t_closed
  apply q_setN false dn_dict0 (fun z => nomatch z)
  refine q_forP (it_row (d_var rfl) hx) (fun i S => ∃ (qs : List (List Nat)) (vs : List D), S = [.va x, .ow (.dct (qs.map kP) vs), .no, .no] ∧ (∀ y, y ∈ qs ↔ y ∈ prefs (ps.take i)) ∧ qs.length ≤ i * 1001) [.va x, .ow (.dct (([] : List (List Nat)).map kP) []), .no, .no] (wk.refl _) ⟨[], [], rfl, fun y => by simp [prefs], Nat.zero_le _⟩ ?_ ?_
  · rintro i d S hd ⟨qs, vs, rfl, hm, hl⟩
    rw [List.getElem?_map] at hd
    cases hp : ps[i]? with
    | none => rw [hp] at hd; cases hd
    | some p =>
      rw [hp] at hd
      have hd' : d = sD p := (Option.some.inj hd).symm
      subst hd'
      have hpl := hb p (List.mem_of_getElem? hp)
      have hil : i < ps.length := (List.getElem?_eq_some_iff.mp hp).1
      refine ⟨_, g_name', ?_⟩
      show WP K W [.va x, .ow (.dct (qs.map kP) vs), .va (sD p), .no] _ _
      apply q_last
      refine q_forP (it_rngDn (a1 := (p.length : Int)) (b1 := -1) (n := p.length + 1) (d_acons (de_is (d_cb (d_acons (d_var rfl) d_anil) (c_lens (small (sD_len (by omega))))) (by rw [mkS_len])) (d_acons (d_neg d_int) (d_acons (d_neg d_int) d_anil))) (by omega) (by omega))
        (fun j S => ∃ (qs' : List (List Nat)) (vs' : List D), S = [.va x, .ow (.dct (qs'.map kP) vs'), .va (sD p), .no] ∧ (∀ y, y ∈ qs' ↔ y ∈ prefs (ps.take i) ∨ ∃ m, p.length < m + j ∧ m ≤ p.length ∧ y = p.take m) ∧ qs'.length ≤ i * 1001 + j) [.va x, .ow (.dct (qs.map kP) vs), .va (sD p), .no] (wk.refl _)
        ⟨qs, vs, rfl, fun y => ?_, hl⟩ ?_ ?_
      · rw [hm]
        constructor
        · exact .inl
        · rintro (h | ⟨m, h1, h2, _⟩)
          · exact h
          · omega
      · rintro j d S hd ⟨qs', vs', rfl, hm', hl'⟩
        obtain ⟨hj, rfl⟩ := rngDn_val hd
        refine ⟨_, g_name', ?_⟩
        show WP K W [.va x, .ow (.dct (qs'.map kP) vs'), .va (sD p), .va (.int ((p.length : Int) - (j : Int)))] _ _
        have hcnt : (p.length : Int) - (j : Int) = ((p.length - j : Nat) : Int) := by omega
        have hcut : ∀ l : Bool, DE K (fz l [.va x, .ow (.dct (qs'.map kP) vs'), .va (sD p), .va (.int ((p.length : Int) - (j : Int)))]) (tSl (rSl' K) (tVar 2) tNoPart (tPart (tVar 3))) (kD (kP (p.take (p.length - j)))) := by
          intro l
          refine de_is (d_cutS (z := mkS p) (d_var (d := sD p) (by cases l <;> rfl)) d_noPart (d_part (d_var (d := .int ((p.length : Int) - (j : Int))) (by cases l <;> rfl))) (small (sD_len (by omega)))) ?_
          show D.str _ = D.str _
          rw [hcnt, cut_to]
        apply q_if true (dt_test (d_op (hcut true) (d_var rfl) o_inK))
        · intro hb'
          rw [hasK_path] at hb'
          have hin := of_decide_eq_true hb'
          apply q_brk
          apply q_nx
          refine ⟨_, ?_, qs', vs', rfl, fun y => ?_, ?_⟩
          · exact ⟨.inr rfl, .inr rfl, .inl rfl, .inl rfl, trivial⟩
          · rw [prefs_snoc hp, hm']
            have hold : p.take (p.length - j) ∈ prefs (ps.take i) := by
              rcases (hm' _).mp hin with h | ⟨m, h1, h2, h3⟩
              · exact h
              · have := congrArg List.length h3
                rw [List.length_take, List.length_take] at this
                omega
            constructor
            · rintro (h | ⟨m, h1, h2, rfl⟩)
              · exact .inl h
              · exact .inr (List.take_prefix _ _)
            · rintro (h | h)
              · exact .inl h
              · have e := List.prefix_iff_eq_take.mp h
                have hle := h.length_le
                by_cases hc : y.length ≤ p.length - j
                · refine .inl (prefs_down hold ?_)
                  rw [e]
                  refine List.prefix_iff_eq_take.mpr ?_
                  rw [List.length_take, List.take_take]
                  congr 1
                  omega
                · exact .inr ⟨y.length, by omega, hle, e⟩
          · omega
        · intro hb'
          rw [hasK_path] at hb'
          have hout := of_decide_eq_false hb'
          apply q_next
          apply q_last
          refine q_dput false (k := kP (p.take (p.length - j))) rfl d_bl (fun z => nomatch z) (hcut false) (by rw [List.length_map]; omega) ?_
          apply q_nx
          refine ⟨_, ?_, qs' ++ [p.take (p.length - j)], putDs (qs'.map kP) vs' (kP (p.take (p.length - j))) (.bl true), rfl, fun y => ?_, ?_⟩
          · refine ⟨.inr rfl, .inr ?_, .inr rfl, .inl rfl, trivial⟩
            rw [putKs_path, if_neg hout]
          · rw [List.mem_append, hm', List.mem_singleton]
            constructor
            · rintro ((h | ⟨m, h1, h2, h3⟩) | h)
              · exact .inl h
              · exact .inr ⟨m, by omega, h2, h3⟩
              · exact .inr ⟨p.length - j, by omega, by omega, h⟩
            · rintro (h | ⟨m, h1, h2, h3⟩)
              · exact .inl (.inl h)
              · by_cases hc : p.length < m + j
                · exact .inl (.inr ⟨m, hc, h2, h3⟩)
                · have : m = p.length - j := by omega
                  exact .inr (this ▸ h3)
          · rw [List.length_append, List.length_singleton]
            omega
      · rintro S ⟨qs', vs', rfl, hm', hl'⟩
        rw [rngDn_len] at hm' hl'
        apply q_nx
        refine ⟨_, ?_, qs', vs', rfl, fun y => ?_, by omega⟩
        · exact ⟨.inr rfl, .inr rfl, .inl rfl, .inl rfl, trivial⟩
        · rw [prefs_snoc hp, hm']
          constructor
          · rintro (h | ⟨m, h1, h2, rfl⟩)
            · exact .inl h
            · exact .inr (List.take_prefix _ _)
          · rintro (h | h)
            · exact .inl h
            · have hle := h.length_le
              exact .inr ⟨y.length, by omega, hle, List.prefix_iff_eq_take.mp h⟩
  · rintro S ⟨qs, vs, rfl, hm, hl⟩
    rw [List.length_map, List.take_length] at hm
    rw [List.length_map] at hl
    apply q_last
    refine q_ret true (d_call (rel := relInOrder) (d_acons (DL.de (dl_listK (d_acons (d_var rfl) d_anil) (by rw [List.length_map]; omega))) d_anil) (show relInOrder _ _ from ⟨_, qs, rfl, ⟨.inl ?_, by omega, fun p hp => ?_⟩, rfl⟩)) ?_
    · rw [List.map_map]
      rfl
    · obtain ⟨q, hq, hpre⟩ := prefs_mem.mp ((hm p).mp hp)
      have := hpre.length_le
      have := hb q hq
      omega
    · show D.tup _ = D.tup _
      rw [ordS_eq hm]
/-! _law_ordered -/
def pairD (p : List Nat) : D := .tup [.int p.length, sD p]
theorem encPair (p : List Nat) : encD (pairD p) = keyP p := by
  unfold pairD sD keyP
  simp [encD, encL]
theorem sortD_pair (l : List (List Nat)) : (l.map pairD).mergeSort (PySem.W.dataLe false encD) = (l.mergeSort leP).map pairD := by
  refine (List.map_mergeSort (f := pairD) (r := leP) (s := PySem.W.dataLe false encD) fun a _ b _ => ?_).symm
  rw [← dataLe_path]
  have e1 : PySem.W.dataLe false keyP a b = !PySem.W.dataLt (keyP b) (keyP a) := rfl
  have e2 : PySem.W.dataLe false encD (pairD a) (pairD b) = !PySem.W.dataLt (encD (pairD b)) (encD (pairD a)) := rfl
  rw [e1, e2, encPair, encPair]
def relLOrdered (ds : List D) (r : Res) : Prop := ∃ ps : List (List Nat), ds = [.lst (PD ps)] ∧ ps.length ≤ 1000000 ∧ (∀ p ∈ ps, p.length ≤ 1000000) ∧ r = .rt (.tup (PD (ordS ps)))
theorem runs_len (l : List (List Nat)) : (runs l).length ≤ l.length := by
  have : ∀ (l acc : List (List Nat)), (l.foldl (fun acc p => if acc.getLast? = some p then acc else acc ++ [p]) acc).length ≤ acc.length + l.length := by
    intro l
    induction l with
    | nil => intro acc; simp
    | cons p l ih =>
      intro acc
      rw [List.foldl_cons]
      refine Nat.le_trans (ih _) ?_
      split
      · simp
      · simp; omega
  have h := this l []
  rw [List.length_nil, Nat.zero_add] at h
  exact h
theorem lordered_wp (ds : List D) (r : Res) (h : relLOrdered ds r) : WP K W (ds.map Sl.va ++ List.replicate (4 - ds.length) Sl.no) (t__law_ordered K) (fun o => Fits o r) := by
  obtain ⟨ps, rfl, hn, hb, rfl⟩ := h
  show WP K W [.va (.lst (PD ps)), .no, .no, .no] _ _
  unfold t__law_ordered
  apply q_setL false (dl_lst d_anil (by simp)) (fun z => nomatch z)
  have hpairs : DL K (fz false [.va (.lst (PD ps)), .ow (.lst []), .no, .no]) (tCB (rSortD K) (tCons (tLc (iAny K (tVar 0)) (gName 3) tYes (tTup (tCons (tCB (rLen' K) (tCons (tVar 3) tNil)) (tCons (tVar 3) tNil))) [3]) tNil)) ((ps.mergeSort leP).map pairD) := by
    refine dl_sorted (ds := ps.map pairD) (d_acons (DL.de (dl_lc (it_lst (d_var rfl)) (fun i => (ps[i]?).map pairD) (fun i => [(3, ((PD ps)[i]?).getD .non)]) (fun i d hd => ?_) (fun i d hd => ?_) (by rw [List.length_map]; omega) (by rw [List.length_map, fm_map]))) d_anil) ?_ ?_ ?_ ?_ (by rw [List.length_map]; omega) (sortD_pair ps)
    · rw [hd]
      exact ⟨g_name', fun p hp => by rw [List.mem_singleton.mp hp]; exact List.mem_singleton.mpr rfl⟩
    · rw [hd]
      rw [List.getElem?_map] at hd
      cases e : ps[i]? with
      | none => rw [e] at hd; cases hd
      | some p =>
        rw [e] at hd
        have hd' : d = sD p := (Option.some.inj hd).symm
        subst hd'
        refine ⟨dt_yes, fun y hy => ?_⟩
        have hy' : y = pairD p := (Option.some.inj hy).symm
        subst hy'
        have hp := hb p (List.mem_of_getElem? e)
        refine de_is (d_tup (d_acons (d_cb (d_acons (d_var rfl) d_anil) (c_lens (small (sD_len (by omega))))) (d_acons (d_var rfl) d_anil)) (by simp)) ?_
        show D.tup [.int ((mkS p).length : Int), _] = D.tup [.int (p.length : Int), _]
        rw [mkS_len]
        rfl
    · intro d hd
      obtain ⟨p, hp, rfl⟩ := List.mem_map.mp hd
      rfl
    · rw [List.map_map]
      exact PySem.W.AllAlike.of fun a b => by rw [show (encD ∘ pairD) a = keyP a from encPair a, show (encD ∘ pairD) b = keyP b from encPair b]; simp [keyP, PySem.W.alike, PySem.W.alikeAll]
    · rw [List.map_map]
      exact PySem.W.Sortable.tuples fun p => ⟨_, _, encPair p⟩
    · intro d hd
      obtain ⟨p, hp, rfl⟩ := List.mem_map.mp hd
      rw [encPair]
      simp [keyP, PyData.depth, PyData.depthAll]
  have hsl : (ps.mergeSort leP).length = ps.length := List.length_mergeSort _
  refine q_forS (it_lst hpairs.de) (fun i => [.va (.lst (PD ps)), .ow (.lst (PD (runs ((ps.mergeSort leP).take i)))), .no, .no]) ⟨.inr rfl, .inr rfl, .inr rfl, .inr rfl, trivial⟩ (fun i d hd => ?_) ?_
  · rw [List.getElem?_map] at hd
    cases e : (ps.mergeSort leP)[i]? with
    | none => rw [e] at hd; cases hd
    | some p =>
      rw [e] at hd
      have hd' : d = pairD p := (Option.some.inj hd).symm
      subst hd'
      have hi : i < ps.length := by rw [← hsl]; exact (List.getElem?_eq_some_iff.mp e).1
      have hrl := runs_len ((ps.mergeSort leP).take i)
      rw [List.length_take] at hrl
      have hnx : (ps.mergeSort leP).take (i + 1) = (ps.mergeSort leP).take i ++ [p] := by rw [List.take_add_one, e]; rfl
      refine ⟨_, g_name', ?_⟩
      apply q_last
      generalize hR : runs ((ps.mergeSort leP).take i) = R at *
      show WP K W [.va (.lst (PD ps)), .ow (.lst (PD R)), .va (pairD p), .no] _ _
      have hp1 : DO K (rIx' K) (pairD p) (.int 1) (sD p) := o_ixt (j := 1) rfl rfl
      apply q_if true (b := decide (¬ R.getLast? = some p))
      · refine dt_is (dt_or (b := decide (R.length = 0)) (c := decide (¬ R.getLast? = some p)) (dt_is (dt_test (d_op (d_cb (d_acons (d_var rfl) d_anil) c_leni) d_int o_eqi)) ?_) (fun hz => ?_)) ?_
        · rw [List.length_map]
          by_cases h0 : R.length = 0
          · simp [h0]
          · have : ¬ ((R.length : Int) = 0) := by omega
            simp [h0, this]
        · have h0 : R.length ≠ 0 := of_decide_eq_false hz
          have hne : R ≠ [] := fun z => h0 (by rw [z]; rfl)
          have hg : R.getLast? = some (R.getLast hne) := List.getLast?_eq_some_getLast hne
          have hix : (PD R)[R.length - 1]? = some (sD (R.getLast hne)) := by
            rw [List.getElem?_map, ← List.getLast?_eq_getElem?, hg]
            rfl
          refine dt_is (dt_test (d_op (d_op (d_var rfl) (d_neg d_int) (o_ixl (j := R.length - 1) ?_ hix)) (d_op (d_var rfl) d_int hp1) o_nes)) ?_
          · unfold ixN
            rw [if_neg (by decide), List.length_map, if_pos (by omega)]
            congr 1
            omega
          · rw [hg]
            by_cases hc : R.getLast hne = p
            · simp [hc]
            · have : ¬ mkS (R.getLast hne) = mkS p := fun z => hc (mkS_inj z)
              simp [hc, this]
        · by_cases h0 : R.length = 0
          · have : R = [] := List.length_eq_zero_iff.mp h0
            subst this
            simp
          · simp [h0]
      · intro hb'
        have hlast : ¬ R.getLast? = some p := of_decide_eq_true hb'
        refine q_app false rfl (d_op (d_var rfl) d_int hp1) (fun z => nomatch z) (by rw [List.length_map]; omega) ?_
        apply q_nx
        refine ⟨.inr rfl, .inr ?_, .inl rfl, .inr rfl, trivial⟩
        rw [hnx, runs_snoc, hR, if_neg hlast, show PD (R ++ [p]) = PD R ++ [sD p] from List.map_append]
      · intro hb'
        have hlast : R.getLast? = some p := Decidable.not_not.mp (of_decide_eq_false hb')
        apply q_next
        apply q_nx
        refine ⟨.inr rfl, .inr ?_, .inl rfl, .inr rfl, trivial⟩
        rw [hnx, runs_snoc, hR, if_pos hlast]
  · rw [List.length_map, List.take_length, runs_sort]
    apply q_last
    refine q_ret true (d_cb (d_acons (d_var rfl) d_anil) c_tupL) rfl
end
end G

set_option Elab.async false
set_option linter.all false
set_option maxRecDepth 100000
set_option maxHeartbeats 4000000
/-! Dcp: comprehensions over data by a function of the item; `and` of truths; literal texts. -/
namespace G
open PySem PySem.Spec PyProof.Rows L2 Pm
section
variable {K : PySem.W.Frag} {W : WX} {δ : DEnv} {ta tb te : TE} {tt : TT} {wi : TI} {xs : List D} {b c : Bool} {i : Nat}
theorem d_andB (h1 : DE K δ ta (.bl b)) (h2 : b = true → DE K δ tb (.bl c)) : DE K δ (tAndT K ta tb) (.bl (b && c)) :=
  d_andT (x := .bl b) (y := .bl c) h1 trivial h2 (by cases b <;> rfl)
theorem setsD_at {i : Nat} {d : D} (h : i < δ.length) : (setsD (wipeD δ [i]) [(i, d)])[i]? = some (some d) := by
  show ((wipeD δ [i]).set i (some d))[i]? = _
  rw [List.getElem?_set_self (by rw [wipeD_len]; exact h)]
theorem fm_filter {f : D → Option D} (l : List D) : (List.range l.length).filterMap (fun i => (l[i]?).bind f) = l.filterMap f := by
  have : ∀ n, n ≤ l.length → (List.range n).filterMap (fun k => (l[k]?).bind f) = (l.take n).filterMap f := by
    intro n
    induction n with
    | zero => intro _; rfl
    | succ n ih =>
      intro hn
      have hx : l[n]? = some l[n] := List.getElem?_eq_getElem (by omega)
      rw [List.range_succ, List.filterMap_append, ih (by omega), List.take_add_one, List.filterMap_append]
      simp only [List.filterMap_cons, List.filterMap_nil, hx, Option.bind_some, Option.toList_some]
  have := this l.length (Nat.le_refl _)
  rw [List.take_length] at this
  exact this
/-- [te for i in wi if tt] -/
theorem dl_mapF (hi : DI K δ wi xs) (f : D → Option D) (h : ∀ d ∈ xs, DT K (setsD (wipeD δ [i]) [(i, d)]) tt (f d).isSome ∧ ∀ y, f d = some y → DE K (setsD (wipeD δ [i]) [(i, d)]) te y) (hl : xs.length ≤ 10000000) :
    DL K δ (tLc wi (gName i) tt te [i]) (xs.filterMap f) := by
  refine dl_lc hi (fun j => (xs[j]?).bind f) (fun j => [(i, (xs[j]?).getD .non)]) (fun j d hd => ?_) (fun j d hd => ?_) hl (fm_filter xs).symm
  · rw [hd]
    exact ⟨g_name', fun p hp => by rw [List.mem_singleton.mp hp]; exact List.mem_singleton.mpr rfl⟩
  · rw [hd]
    exact h d (List.mem_of_getElem? hd)
/-- [te for i in wi] -/
theorem dl_mapL (hi : DI K δ wi xs) (f : D → D) (h : ∀ d ∈ xs, DE K (setsD (wipeD δ [i]) [(i, d)]) te (f d)) (hl : xs.length ≤ 10000000) :
    DL K δ (tLc wi (gName i) tYes te [i]) (xs.map f) := by
  refine dl_is (dl_mapF hi (fun d => some (f d)) (fun d hd => ⟨dt_yes, fun y hy => by cases hy; exact h d hd⟩) hl) ?_
  simp
/-- .. over data told by a plain list -/
theorem dl_mapG {α : Type} {l : List α} {g : α → D} (hi : DI K δ wi (l.map g)) (f : α → Option D) (h : ∀ x ∈ l, DT K (setsD (wipeD δ [i]) [(i, g x)]) tt (f x).isSome ∧ ∀ y, f x = some y → DE K (setsD (wipeD δ [i]) [(i, g x)]) te y) (hl : l.length ≤ 10000000) :
    DL K δ (tLc wi (gName i) tt te [i]) (l.filterMap f) := by
  have e : l.filterMap f = (List.range (l.map g).length).filterMap (fun j => (l[j]?).bind f) := by
    rw [List.length_map]
    have : ∀ n, n ≤ l.length → (List.range n).filterMap (fun k => (l[k]?).bind f) = (l.take n).filterMap f := by
      intro n
      induction n with
      | zero => intro _; rfl
      | succ n ih =>
        intro hn
        have hx : l[n]? = some l[n] := List.getElem?_eq_getElem (by omega)
        rw [List.range_succ, List.filterMap_append, ih (by omega), List.take_add_one, List.filterMap_append]
        simp only [List.filterMap_cons, List.filterMap_nil, hx, Option.bind_some, Option.toList_some]
    have := this l.length (Nat.le_refl _)
    rw [List.take_length] at this
    exact this.symm
  refine dl_lc hi (fun j => (l[j]?).bind f) (fun j => [(i, ((l.map g)[j]?).getD .non)]) (fun j d hd => ?_) (fun j d hd => ?_) (by rw [List.length_map]; exact hl) e
  · rw [hd]
    exact ⟨g_name', fun p hp => by rw [List.mem_singleton.mp hp]; exact List.mem_singleton.mpr rfl⟩
  · have hd0 := hd
    rw [List.getElem?_map] at hd
    cases hx : l[j]? with
    | none => rw [hx] at hd; cases hd
    | some x =>
      rw [hx] at hd
      cases hd
      rw [hd0]
      exact h x (List.mem_of_getElem? hx)
theorem dl_mapLG {α : Type} {l : List α} {g f : α → D} (hi : DI K δ wi (l.map g)) (h : ∀ x ∈ l, DE K (setsD (wipeD δ [i]) [(i, g x)]) te (f x)) (hl : l.length ≤ 10000000) :
    DL K δ (tLc wi (gName i) tYes te [i]) (l.map f) := by
  refine dl_is (dl_mapG hi (fun d => some (f d)) (fun d hd => ⟨dt_yes, fun y hy => by cases hy; exact h d hd⟩) hl) ?_
  simp
/-- all([te for i in wi]) -/
theorem d_allL (hi : DI K δ wi xs) (f : D → Bool) (h : ∀ d ∈ xs, DE K (setsD (wipeD δ [i]) [(i, d)]) te (.bl (f d))) (hl : xs.length ≤ 10000000) :
    DE K δ (tCB (rAll K) (tCons (tLc wi (gName i) tYes te [i]) tNil)) (.bl (xs.all f)) := by
  refine de_is (d_cb (d_acons (DL.de (ds := (xs.map f).map D.bl) (dl_is (dl_mapL hi (fun d => .bl (f d)) h hl) (by simp))) d_anil) c_allB) ?_
  show D.bl _ = D.bl _
  simp [List.all_map]
/-- a text and a literal -/
theorem d_eqL {l z : List Nat} {y : Str} (h : DE K δ te (sD l)) (hz : y.cps.toList = z) : DE K δ (tOp (rEq' K) te (tC (.str y))) (.bl (decide (l = z))) := by
  refine de_is (d_op h d_str o_eqs) ?_
  show D.bl _ = D.bl _
  congr 1
  rw [Bool.eq_iff_iff, decide_eq_true_iff, decide_eq_true_iff]
  constructor
  · intro e
    rw [← hz, ← e, mkS_cps]
  · intro e
    rw [e, ← hz, mkS_of]
theorem d_neL {l z : List Nat} {y : Str} (h : DE K δ te (sD l)) (hz : y.cps.toList = z) : DE K δ (tOp (rNe' K) te (tC (.str y))) (.bl (!decide (l = z))) := by
  refine de_is (d_op h d_str o_nes) ?_
  show D.bl _ = D.bl _
  congr 2
  rw [Bool.eq_iff_iff, decide_eq_true_iff, decide_eq_true_iff]
  constructor
  · intro e
    rw [← hz, ← e, mkS_cps]
  · intro e
    rw [e, ← hz, mkS_of]
theorem d_lit {l : List Nat} {y : Str} (hz : y.cps.toList = l) : DE K δ (tC (.str y)) (sD l) := de_is d_str (by rw [← hz]; unfold sD; rw [mkS_of])
theorem d_len {l : List Nat} (h : DE K δ te (sD l)) (hl : l.length ≤ 1000000) : DE K δ (tCB (rLen' K) (tCons te tNil)) (.int (l.length : Int)) :=
  de_is (d_cb (d_acons h d_anil) (c_lens (small (sD_len (by omega))))) (by rw [mkS_len])
/-- a text's part -/
theorem d_cut {l : List Nat} {to tu : TO} {lo hi : Option Int} (h1 : DE K δ te (sD l)) (h2 : DP K δ to lo) (h3 : DP K δ tu hi) (hl : l.length ≤ 1000000) : DE K δ (tSl (rSl' K) te to tu) (sD (cutD l lo hi)) := by
  refine de_is (d_cutS (z := mkS l) h1 h2 h3 (small (sD_len (by omega)))) ?_
  unfold cutS cutD
  rw [mkS_cps, mkS_len]
  rfl
theorem cutD_nat {α : Type} (xs : List α) (a b : Nat) : cutD xs (some (a : Int)) (some (b : Int)) = (xs.drop a).take (b - a) := by
  unfold cutD
  rw [HT.sIx_nat, HT.sIx_nat]
  by_cases h : a ≤ xs.length
  · rw [Nat.min_eq_left h]
    by_cases h2 : b ≤ xs.length
    · rw [Nat.min_eq_left h2]
    · rw [Nat.min_eq_right (by omega)]
      rw [List.take_of_length_le (by simp), List.take_of_length_le (by simp; omega)]
  · rw [List.drop_eq_nil_of_le (by omega), List.drop_eq_nil_of_le (by omega)]
    simp
theorem cutD_from {α : Type} (xs : List α) (a : Nat) : cutD xs (some (a : Int)) none = xs.drop a := by
  unfold cutD
  rw [HT.sIx_nat, HT.sIx_none]
  by_cases h : a ≤ xs.length
  · rw [Nat.min_eq_left h, List.take_of_length_le (by simp)]
  · rw [Nat.min_eq_right (by omega)]
    simp
    omega
theorem cutD_to {α : Type} (xs : List α) (b : Nat) : cutD xs none (some (b : Int)) = xs.take b := by
  unfold cutD
  rw [HT.sIx_nat, HT.sIx_none, List.drop_zero, Nat.sub_zero]
  by_cases h : b ≤ xs.length
  · rw [Nat.min_eq_left h]
  · rw [Nat.min_eq_right (by omega), List.take_length, List.take_of_length_le (by omega)]
/-- texts together -/
theorem d_cats {l m : List Nat} (h1 : DE K δ ta (sD l)) (h2 : DE K δ tb (sD m)) (hn : l.length + m.length ≤ 1000000) : DE K δ (tOp (rAdd' K) ta tb) (sD (l ++ m)) := by
  refine de_is (d_op h1 h2 (o_adds (small (n := (mkS l).length + (mkS m).length) (by rw [mkS_len, mkS_len]; omega)))) ?_
  show D.str _ = D.str _
  congr 1
  show (⟨l.toArray ++ m.toArray⟩ : Str) = ⟨(l ++ m).toArray⟩
  simp
end
end G

set_option Elab.async false
set_option linter.all false
set_option maxRecDepth 10000000
set_option maxHeartbeats 4000000
/-! Lown: in, not in, ==, !=, len by methods of an own class; own exceptions with an own __init__, made. -/
namespace PySem.W
open PySem PySem.Calls PyProof.Rows Builtin
section
variable {M : Model} {prog : Program} {w : World} {A : Around} {E : Value → Shared → Prop} {s : Shared} {K : Frag} {x C L f : Addr} {h₀ : Heap} {m : Str → Option Value} {ox : Obj} {od : Option Obj} {b tb : Value}
theorem ifBound_B {name : Str} {id : String} {args : List Value} {Q : Option Value → Shared → Prop} (X : K.In s.heap) (I : InstAt s.heap x ox C od) (hs : findIn K (.ref C) name = some (some (.builtin id)))
    (hb : ∀ self, bindSpecial (.builtin id) self = pure (.builtin id, [self]))
    (h : wpAny M A (call (.builtin id) (.ref x :: args)) (fun v => Q (some v)) E s) : wpAny M A (callSpecialIfBound? (.ref x) name args) Q E s := by
  simp only [callSpecialIfBound?, bindSpecialIfBound?]
  refine wpAny_holding (wpAny_bind (wpAny_bind (wpAny_bind (I.type.here ((looks_findIn X hs).here ?_)))))
  simp only [hb]
  refine wpAny_bind (wpAny_askSetting (wpAny_ite ?_))
  have fin : wpAny M A (call (.builtin id) ([.ref x] ++ args) >>= fun v => pure (some v)) Q E s := wpAny_bind (wpAny_mono h (fun v s' h' => wpAny_pure h') fun _ _ h' => h')
  split
  · exact wpAny_bind (wpAny_pure (wpAny_pure fin))
  · exact wpAny_tryCatch (wpAny_bind (wpAny_pure (wpAny_pure fin)))
theorem check_neK {rest : List Value} {Q : Unit → Shared → Prop} (X : K.In s.heap) (I : InstAt s.heap x ox C od) (hsub : subIn K (.ref C) (.type "object") = some true) (ha : argsOk "object.__ne__" ⟨.ref x :: rest, []⟩) (hq : Q () s) :
    wpAny M A (checkBuiltinCall "object.__ne__" ⟨.ref x :: rest, []⟩) Q E s := by
  simp only [checkBuiltinCall, F.cmpKind_ne, F.cmpSplit_ne]
  refine wpAny_bind ?_
  · unfold isInstance
    refine wpAny_bind (I.type.here ((looks_subIn X hsub).here ?_))
    cases hsig : Manifest.signature? "object.__ne__" with
    | none => exact wpAny_pure hq
    | some sig =>
      simp only [argsOk, hsig] at ha
      have h2 : Bind.checkArgs "object.__ne__" sig ⟨.ref x :: rest, []⟩ = pure () := ha
      show wpAny M A (Bind.checkArgs "object.__ne__" sig ⟨.ref x :: rest, []⟩) Q E _
      rw [h2]; exact wpAny_pure hq
theorem objNe_K {Q : Fin → Shared → Prop} (X : K.In s.heap) (I : InstAt s.heap x ox C od) (hu : A.units < cLine) (hs : findIn K (.ref C) "__eq__" = some (some (.ref f))) (hf : isFn K (.ref f) = true)
    (hcall : wpAny (model prog w) A (call (.ref f) [.ref x, b]) (fun v s' => ∃ r, v = .bool r ∧ Q (.done (.ret (.bool (!r)))) s') E s) :
    wpAny (model prog w) A (Builtin.«object.__ne__» ⟨[.ref x, b], []⟩) Q E s := by
  unfold Builtin.«object.__ne__»
  repeat (first
    | with_reducible refine wpAny_cRoomFor hu ?_
    | (refine wpAny_bind (m := callSpecialIfBound? (.ref x) (Str.ofString "__eq__") [b])
        (ifBound_K X I hs hf (wpAny_mono hcall (fun r s' hr => by
          obtain ⟨b, rfl, hq⟩ := hr
          repeat (first | exact hq | exact wpAny_pure hq | exact wpAny_truthy_bool hq | (refine wpAny_bind (m := truthy (.bool _)) (wpAny_truthy_bool ?_)) | wp_step)) fun _ _ e => e)))
    | wp_step)
theorem ne_own_K {Q : Value → Shared → Prop} (hu : A.units + 1 < cLine) (Fr0 : Fr h₀ L s.heap m) (X₀ : K.In h₀) (I : InstAt s.heap x ox C od) (hb : Looks (model prog w) s.heap (typeOf b) tb) (hn : notFirst K C tb = true)
    (hs : findIn K (.ref C) "__eq__" = some (some (.ref f))) (hf : isFn K (.ref f) = true) (hne : findIn K (.ref C) "__ne__" = some (some (.builtin "object.__ne__"))) (hsub : subIn K (.ref C) (.type "object") = some true)
    (h : wpAny (model prog w) A.in1 (call (.ref f) [.ref x, b]) (fun v s' => ∃ r, v = .bool r ∧ Q (.bool (!r)) s') E s) : wpAny (model prog w) A (richCompare .NotEq (.ref x) b) Q E s := by
  have X := X₀.keeps Fr0.keep
  have one : wpAny (model prog w) A (tryCompare (.ref x) (cmpInfo .NotEq).2.1 b) (fun r s' => ∃ v, r = some v ∧ Q v s') E s := by
    unfold tryCompare
    refine wpAny_bind (ifBound_B X I hne F.cmp_object.ne.bind (wpAny_call (codeAny_call_builtin F.cmp_object.ne.plain F.cmpEntry_ne
      (check_neK X I hsub (F.cmpArgs_ne _ _) (objNe_K (A := A.in1) X I hu hs hf (wpAny_mono h (fun v s' hv => ?_) fun _ _ e => e))))))
    obtain ⟨r, rfl, hq⟩ := hv
    first | exact ⟨r, rfl, wpAny_pure ⟨_, rfl, hq⟩⟩ | exact ⟨r, rfl, ⟨_, rfl, wpAny_pure ⟨_, rfl, hq⟩⟩⟩ | exact ⟨r, rfl, ⟨_, rfl, hq⟩⟩
  unfold richCompare
  simp only [oneThing_ref]
  refine wpAny_holding (wpAny_bind (wpAny_cRoomFor (Nat.lt_of_succ_lt hu) ?_))
  refine wpAny_bind (I.type.here (wpAny_bind (hb.here ?_)))
  split
  · rename_i q
    have e : subIn K tb (.ref C) = some false := by
      rcases Bool.or_eq_true_iff.mp hn with e | e
      · rw [beq_iff_eq.mp e] at q; simp at q
      · exact beq_iff_eq.mp e
    refine wpAny_bind ((looks_subIn X e).here ?_)
    simp only [Bool.false_eq_true, if_false]
    refine wpAny_bind (wpAny_mono one (fun r s' z => ?_) fun _ _ e => e)
    obtain ⟨v, rfl, hq⟩ := z
    exact wpAny_pure hq
  · refine wpAny_bind (wpAny_pure ?_)
    simp only [Bool.false_eq_true, if_false]
    refine wpAny_bind (wpAny_mono one (fun r s' z => ?_) fun _ _ e => e)
    obtain ⟨v, rfl, hq⟩ := z
    exact wpAny_pure hq
end
end PySem.W

namespace G
open PySem PySem.Spec PyProof.Rows L2
section
variable {X : Cx} {k : Nat} {C f : Addr} {sp : Sp}
/-- a def is called at another place of the stack -/
theorem run_at {A : Around} {pins : List (Addr × Obj)} {σ : L2.St} {H : Hp} {s : Shared} {Q : VK} {us : List Value} {vs : List V} (F : FnR X.prog X.w X.K X.mg X.base CX0 k f sp) (hr : Room k A) (he : Env0 X.prog X.w X.K X.mg X.base A X.stack s H)
    (I : Inv X pins σ H s) (r : Vals vs us) (h : sp vs H Q E0) {E : Value → Shared → Prop} : wpAny (model X.prog X.w) A (call (.ref f) us) (EP X pins σ Q) E s := by
  refine wpAny_call (codeAny_mono (F A X.stack s H us vs Q E0 hr he r h) fun r s' hq => ?_)
  cases r with
  | error e => exact hq.elim
  | ok fl =>
    cases fl with
    | ret u => exact I.after hq
    | next => exact False.elim hq
    | brk => exact False.elim hq
    | cont => exact False.elim hq
/-- x in o -/
def rInO (K : PySem.W.Frag) (C : Addr) (sp : Sp) : R2 := fun x y H Q => ∃ a dx fs, y = .ref a ∧ H a = some (.ins C dx fs) ∧ sp [.ref a, x] H (fun v H' => ∃ b, v = .bl b ∧ Q (.bl b) H') E0
def rNotInO (K : PySem.W.Frag) (C : Addr) (sp : Sp) : R2 := fun x y H Q => ∃ a dx fs, y = .ref a ∧ H a = some (.ins C dx fs) ∧ sp [.ref a, x] H (fun v H' => ∃ b, v = .bl b ∧ Q (.bl (!b)) H') E0
theorem op_inO (F : FnR X.prog X.w X.K X.mg X.base CX0 k f sp) (hr : Room k X.A) (hm : Meth X.K C "__contains__" f) : OpR X (compareOp .In) (rInO X.K C sp) := by
  intro pins s σ H x y v u Q I rx ry h
  obtain ⟨a, dx, fs, rfl, ha, q⟩ := h
  cases (show u = Value.ref a from ry)
  obtain ⟨mA, J, _⟩ := ins_get I.hok ha
  obtain ⟨od, J, _⟩ := J.look
  obtain ⟨m, hF⟩ := I.fr
  refine PySem.W.in_K hF I.ok.mod.kin J hm.at_ hm.fn (thn (run_at (us := [.ref a, v]) (vs := [.ref a, x]) F hr I.env0 I (.cons rfl (.cons rx .nil)) q) fun r s' ⟨z, H', I', rz, b, ez, q'⟩ => ?_)
  subst ez
  cases rz
  exact wpAny_truthy_bool ⟨.bl b, H', I', rfl, q'⟩
theorem op_notInO (F : FnR X.prog X.w X.K X.mg X.base CX0 k f sp) (hr : Room k X.A) (hm : Meth X.K C "__contains__" f) : OpR X (compareOp .NotIn) (rNotInO X.K C sp) := by
  intro pins s σ H x y v u Q I rx ry h
  obtain ⟨a, dx, fs, rfl, ha, q⟩ := h
  cases (show u = Value.ref a from ry)
  obtain ⟨mA, J, _⟩ := ins_get I.hok ha
  obtain ⟨od, J, _⟩ := J.look
  obtain ⟨m, hF⟩ := I.fr
  refine PySem.W.notIn_K hF I.ok.mod.kin J hm.at_ hm.fn (thn (run_at (us := [.ref a, v]) (vs := [.ref a, x]) F hr I.env0 I (.cons rfl (.cons rx .nil)) q) fun r s' ⟨z, H', I', rz, b, ez, q'⟩ => ?_)
  subst ez
  cases rz
  exact wpAny_truthy_bool ⟨.bl (!b), H', I', rfl, q'⟩
/-- len(o) -/
def rLenO (K : PySem.W.Frag) (C : Addr) (sp : Sp) : List V → Hp → VK → Prop := fun xs H Q => ∃ a dx fs, xs = [.ref a] ∧ H a = some (.ins C dx fs) ∧ sp [.ref a] H (fun v H' => ∃ n : Int, v = .int n ∧ 0 ≤ n ∧ n < 2 ^ 63 ∧ Q (.int n) H') E0
theorem c_lenO (F : FnR X.prog X.w X.K X.mg X.base CX0 k f sp) (hr : Room (k + 1) X.A) (hm : Meth X.K C "__len__" f) : CallR X (.builtin "len") (rLenO X.K C sp) := by
  intro pins s σ H xs us Q I r h
  obtain ⟨a, dx, fs, rfl, ha, q⟩ := h
  obtain ⟨u, rfl, ru⟩ := r.one
  cases (show u = Value.ref a from ru)
  obtain ⟨mA, J, _⟩ := ins_get I.hok ha
  obtain ⟨od, J, _⟩ := J.look
  obtain ⟨m, hF⟩ := I.fr
  refine PySem.W.len_K hF I.ok.mod.kin J hm.at_ hm.fn (thn (run_at (us := [.ref a]) (vs := [.ref a]) F hr.in1 I.env0.in1 I (.cons rfl .nil) q) fun r s' ⟨z, H', I', rz, n, ez, h0, h1, q'⟩ => ?_)
  subst ez
  obtain ⟨t, rfl⟩ := rz
  exact ⟨⟨h0, h1⟩, .int n, H', I'.tok _, ⟨_, rfl⟩, q'⟩
/-- o == y, o != y -/
def EqArg (C : Addr) (H : Hp) (y : V) : Prop := (∃ b dy gs, y = .ref b ∧ H b = some (.ins C dy gs)) ∨ ∃ n : Int, y = .int n
def rEqO (K : PySem.W.Frag) (C : Addr) (sp : Sp) : R2 := fun x y H Q => ∃ a dx fs, x = .ref a ∧ H a = some (.ins C dx fs) ∧ EqArg C H y ∧ sp [.ref a, y] H (fun v H' => ∃ b, v = .bl b ∧ Q (.bl b) H') E0
def rNeO (K : PySem.W.Frag) (C : Addr) (sp : Sp) : R2 := fun x y H Q => ∃ a dx fs, x = .ref a ∧ H a = some (.ins C dx fs) ∧ EqArg C H y ∧ sp [.ref a, y] H (fun v H' => ∃ b, v = .bl b ∧ Q (.bl (!b)) H') E0
/-- what the class must have -/
structure EqCls (K : PySem.W.Frag) (C f : Addr) : Prop where
  eq : Meth K C "__eq__" f
  int : PySem.W.subIn K (.type "int") (.ref C) = some false
  ne : PySem.W.findIn K (.ref C) "__ne__" = some (some (.builtin "object.__ne__"))
  obj : PySem.W.subIn K (.ref C) (.type "object") = some true
theorem eq_looks {M : Model} {pins : List (Addr × Obj)} {σ : L2.St} {H : Hp} {s : Shared} {y : V} {u : Value} (I : Inv X pins σ H s) (T : EqCls X.K C f) (e : EqArg C H y) (r : RelV y u) : ∃ tb, PySem.W.Looks M s.heap (typeOf u) tb ∧ PySem.W.notFirst X.K C tb = true := by
  rcases e with ⟨b, dy, gs, rfl, hb⟩ | ⟨n, rfl⟩
  · cases (show u = Value.ref b from r)
    obtain ⟨mA, J, _⟩ := ins_get I.hok hb
    obtain ⟨od, J, _⟩ := J.look
    exact ⟨.ref C, J.type, by simp [PySem.W.notFirst]⟩
  · obtain ⟨t, rfl⟩ := r
    exact ⟨.type "int", .now, by simp [PySem.W.notFirst, T.int]⟩
theorem op_eqO (F : FnR X.prog X.w X.K X.mg X.base CX0 k f sp) (hr : Room k X.A) (hu : X.A.units < cLine) (T : EqCls X.K C f) : OpR X (compareOp .Eq) (rEqO X.K C sp) := by
  intro pins s σ H x y v u Q I rx ry h
  obtain ⟨a, dx, fs, rfl, ha, hy, q⟩ := h
  cases (show v = Value.ref a from rx)
  obtain ⟨tb, hb, hn⟩ := eq_looks (M := model X.prog X.w) I T hy ry
  obtain ⟨mA, J, _⟩ := ins_get I.hok ha
  obtain ⟨od, J, _⟩ := J.look
  obtain ⟨m, hF⟩ := I.fr
  show wpAny _ _ (richCompare .Eq _ _) _ _ _
  refine PySem.W.cmp_K (op := .Eq) hu hF I.ok.mod.kin J hb hn T.eq.at_ T.eq.fn (thn (run_at (us := [.ref a, u]) (vs := [.ref a, y]) F hr I.env0 I (.cons rfl (.cons ry .nil)) q) fun r s' ⟨z, H', I', rz, b, ez, q'⟩ => ?_)
  subst ez
  cases rz
  exact ⟨.bl b, H', I', rfl, q'⟩
theorem op_neO (F : FnR X.prog X.w X.K X.mg X.base CX0 k f sp) (hr : Room (k + 1) X.A) (hu : X.A.units + 1 < cLine) (T : EqCls X.K C f) : OpR X (compareOp .NotEq) (rNeO X.K C sp) := by
  intro pins s σ H x y v u Q I rx ry h
  obtain ⟨a, dx, fs, rfl, ha, hy, q⟩ := h
  cases (show v = Value.ref a from rx)
  obtain ⟨tb, hb, hn⟩ := eq_looks (M := model X.prog X.w) I T hy ry
  obtain ⟨mA, J, _⟩ := ins_get I.hok ha
  obtain ⟨od, J, _⟩ := J.look
  obtain ⟨m, hF⟩ := I.fr
  show wpAny _ _ (richCompare .NotEq _ _) _ _ _
  refine PySem.W.ne_own_K hu hF I.ok.mod.kin J hb hn T.eq.at_ T.eq.fn T.ne T.obj (thn (run_at (us := [.ref a, u]) (vs := [.ref a, y]) F hr.in1 I.env0.in1 I (.cons rfl (.cons ry .nil)) q) fun r s' ⟨z, H', I', rz, b, ez, q'⟩ => ?_)
  subst ez
  cases rz
  exact ⟨b, rfl, .bl (!b), H', I', rfl, q'⟩
/-- C(e, ..), an own exception with an own __init__ -/
def tMkOR (C : Addr) (sp : Sp) (ta : TA) : L2.St → Hp → XK → Prop := fun σ H Q => ta σ H fun vs H1 => vs.length ≤ 1000 ∧ ∀ a, H1 a = none → sp (.ref a :: vs) (upd H1 a (exo a C none))
  (fun v H2 => v = .non ∧ ∃ (d : Addr) (fs : List (Str × V)), H2 a = some (exo a C (some d)) ∧ H2 d = some (exd d fs) ∧ H1 d = none ∧ Q (.ref C) (some d) (upd (del H2 a) d (.xd fs))) E0
theorem pmk_oexR {x : Str} {fI : Addr} {e : Expr} {es : List Expr} {ta : TA} {p pos : Pos} (T : OexC X.K C) (iC : Meth X.K C "__init__" fI)
    (hm : X.mg x = some (.ref C)) (F1 : FnR X.prog X.w X.K X.mg X.base CX0 k fI sp) (hr : Room (k + 1) X.A) (hg : Gl X x) (ha : PA X (e :: es) ta)
    (hdb : (x == ("__debug__" : Str)) = false := by decide) (he : starEach (e :: es) X.env = (false, eval e X.env) :: starEach es X.env := by rfl) (hpl : (backTo pos (starEach es X.env)).any (·.1) = false := by rfl) :
    PMk X (.Call (.Name x p) (e :: es) [] pos) (tMkOR C sp ta) := by
  intro pins s σ H Q I h
  obtain ⟨nm, q, N, bs, bm, sn, sub, ab, col, dd, k0, k1, k2, k3, k5, hC, hbm⟩ := T.cls
  refine wpAny_Call_Name_kw (ld_glob I hg hm ?_ hdb)
  refine PySem.W.callWith_K (h₀ := X.base) I.ok.mod.kin T.kC (thn (ha.run pos pins s σ H _ I h) fun us s1 ⟨vs, H1, I1, r1, hz, q1⟩ => ⟨I1.kIn, ?_⟩) he hpl
  show wpAny _ _ (call (.ref C) us) _ _ _
  obtain ⟨hp, g, dr, tk, os⟩ := s1
  have hsz : hp.objs.size ≤ hp.objs.size + 1 := Nat.le_succ _
  have hn : H1 (hp.objs.size + 1) = none := I1.hok.fresh hsz
  have hq := q1 (hp.objs.size + 1) hn
  have kk : ∀ b o, hp.get? b = some o → ((hp.push (PySem.W.kdv_tup us)).push (PySem.HandSPX.excO C hp.objs.size)).get? b = some o := fun b o e => Heap.get?_push_of_some _ (Heap.get?_push_of_some _ e)
  have hget : ((hp.push (PySem.W.kdv_tup us)).push (PySem.HandSPX.excO C hp.objs.size)).get? (hp.objs.size + 1) = some (PySem.HandSPX.excO C hp.objs.size) := by heap_get
  have I2 : Inv X pins σ (upd H1 (hp.objs.size + 1) (exo (hp.objs.size + 1) C none)) ⟨(hp.push (PySem.W.kdv_tup us)).push (PySem.HandSPX.excO C hp.objs.size), g, dr, tk, os⟩ :=
    I1.laid (t' := tk) (a := hp.objs.size + 1) (o := exo (hp.objs.size + 1) C none) (h' := (hp.push (PySem.W.kdv_tup us)).push (PySem.HandSPX.excO C hp.objs.size)) kk hsz (exo_ok hget)
  have r2 : Vals (V.ref (hp.objs.size + 1) :: vs) (Value.ref (hp.objs.size + 1) :: us) := .cons rfl r1
  have hus : us.length ≤ sizeLine := by
    rw [← Paired.length r1, sizeLine_eq]
    omega
  refine wpAny_call (PySem.HandSPX.call_own F.excBase_ValueError (fun Y => PySem.HandSPX.refsVE_contains Y bm hbm) (I1.kIn _ _ hC) (PySem.W.looks_findIn I1.kIn iC.at_) (fun self => PySem.W.bind_fn I1.kIn self (beq_iff_eq.mp iC.fn)) hus
    (codeAny_mono (F1 _ X.stack _ _ (Value.ref (hp.objs.size + 1) :: us) _ _ E0 (hr.make C us []) (I2.env0.make C us []) r2 hq) fun r s' hq' => ?_))
  cases r with
  | error er => exact hq'.elim
  | ok fl =>
    cases fl with
    | ret u =>
      obtain ⟨v, H2, os2, bare2, un2, hok2, rv, ev, d, fs, ea, ed, hd1, q2⟩ := hq'
      subst ev
      obtain ⟨h2, g2, d2, t2, os'⟩ := s'
      exact ⟨rv, mk_end (raises_own T.exC T.tyC) I1 hsz kk un2 hok2 os2 bare2 ea ed hd1 q2⟩
    | next => exact False.elim hq'
    | brk => exact False.elim hq'
    | cont => exact False.elim hq'
end
/-- f() -/
theorem pe_callR0 {X : Cx} {CX : CXT} {k : Nat} {f : Addr} {sp : Sp} {E : XK} {x : Str} {p pos : Pos} (F : FnR X.prog X.w X.K X.mg X.base CX k f sp) (hr : Room k X.A) (hg : Gl X x) (hm : X.mg x = some (.ref f)) (hk : PySem.W.keepIn X.K (.ref f) = true) (hx : ∀ σ, PassesAt CX X σ E)
    (hdb : (x == ("__debug__" : Str)) = false := by decide) :
    PE X (.Call (.Name x p) [] [] pos) (tCallR sp E tNil) := by
  refine ⟨fun pins s σ H Q I h => ?_⟩
  refine wpAny_Call_Name_kw (ld_glob I hg hm ?_ hdb)
  exact PySem.W.callWith_K0 (first := []) I.kIn hk (run_fnSR (E := fun _ => E) (us := []) (vs := []) F hr (hx σ) I .nil h)
theorem units0 {k : Nat} {A : Around} (r : Room k A) : A.units < cLine := by have := r.un; omega
theorem units1 {k : Nat} {A : Around} (r : Room k A) : A.units + 1 < cLine := by have := r.un; omega
/-! facts of the written part, asked as Booleans -/
def oexB (K : PySem.W.Frag) (C : Addr) : Bool := match K.lookup C with
  | some ⟨.type "type", _, .cls cd, sl⟩ => (match cd.mro, sl.toList with
    | .ref C' :: bm, [_, _, _, _, some (.builtin n), _] => C' == C && n == "ValueError.__new__" && !cd.hasDel && cd.hasDict && PySem.HandSPX.refsVE bm
    | _, _ => false)
  | _ => false
theorem oexB_ok {K : PySem.W.Frag} {C : Addr} (q : oexB K C = true) : ∃ nm q N bs bm sn sub ab col dd k0 k1 k2 k3 k5, K.lookup C = some (excClassObj nm q C N bs bm true sn sub ab col dd k0 k1 k2 k3 k5 "ValueError.__new__") ∧ PySem.HandSPX.refsVE bm = true := by
  unfold oexB at q
  split at q
  · rename_i dd cd sl ho
    split at q
    · rename_i C' bm k0 k1 k2 k3 n k5 hm hs
      simp only [Bool.and_eq_true, beq_iff_eq, Bool.not_eq_true'] at q
      obtain ⟨⟨⟨⟨rfl, rfl⟩, hdel⟩, hd⟩, hb⟩ := q
      obtain ⟨nm, bs, mro, ns, qn, hd', sn, sub, ab, col, del⟩ := cd
      dsimp only at hm hdel hd
      subst hm hdel hd
      have hsl : sl = #[k0, k1, k2, k3, some (.builtin "ValueError.__new__"), k5] := by
        obtain ⟨l⟩ := sl
        simp only at hs
        rw [hs]
      subst hsl
      exact ⟨nm, qn, ns, bs, bm, sn, sub, ab, col, dd, k0, k1, k2, k3, k5, ho, hb⟩
    · cases q
  · cases q
def fKitT (x : Str) (T : String) (b : Bool) : PySem.W.Frag → Bool := fun K => decide (PySem.W.kitOne K (.ref (He.ga K x)) (.type T) = some b)
theorem fKitT_ok {K : PySem.W.Frag} {x : Str} {T : String} {b : Bool} (h : fKitT x T b K = true) : PySem.W.kitOne K (.ref (He.ga K x)) (.type T) = some b := of_decide_eq_true h
def fOex (x : Str) : PySem.W.Frag → Bool := fun K => oexB K (He.ga K x) && (He.eqO (PySem.W.findIn K (.ref (He.ga K x)) "__setattr__") (some (some (.builtin "object.__setattr__"))) && (decide (PySem.W.subIn K (.ref (He.ga K x)) (.type "BaseException") = some true) && (decide (PySem.W.typeIn K (.ref (He.ga K x)) = some (.type "type")) && PySem.W.keepIn K (.ref (He.ga K x)))))
theorem fOex_ok {K : PySem.W.Frag} {x : Str} (h : fOex x K = true) : OexC K (He.ga K x) := by
  unfold fOex at h
  obtain ⟨h1, h⟩ := He.ba h
  obtain ⟨h2, h⟩ := He.ba h
  obtain ⟨h3, h⟩ := He.ba h
  obtain ⟨h4, h5⟩ := He.ba h
  exact ⟨oexB_ok h1, He.eqO_ok h2, of_decide_eq_true h3, of_decide_eq_true h4, h5⟩
def fXf (x : Str) : PySem.W.Frag → Bool := fun K => xfB K (He.ga K x)
theorem fXf_ok {K : PySem.W.Frag} {x : Str} (h : fXf x K = true) : XfC K (He.ga K x) := xfB_ok h
def fEqC (x : Str) : PySem.W.Frag → Bool := fun K => decide (PySem.W.subIn K (.type "int") (.ref (He.ga K x)) = some false) && (He.eqO (PySem.W.findIn K (.ref (He.ga K x)) "__ne__") (some (some (.builtin "object.__ne__"))) && decide (PySem.W.subIn K (.ref (He.ga K x)) (.type "object") = some true))
structure EqC1 (K : PySem.W.Frag) (C : Addr) : Prop where
  int : PySem.W.subIn K (.type "int") (.ref C) = some false
  ne : PySem.W.findIn K (.ref C) "__ne__" = some (some (.builtin "object.__ne__"))
  obj : PySem.W.subIn K (.ref C) (.type "object") = some true
theorem fEqC_ok {K : PySem.W.Frag} {x : Str} (h : fEqC x K = true) : EqC1 K (He.ga K x) := by
  unfold fEqC at h
  obtain ⟨h1, h⟩ := He.ba h
  obtain ⟨h2, h3⟩ := He.ba h
  exact ⟨of_decide_eq_true h1, He.eqO_ok h2, of_decide_eq_true h3⟩
/-- what isinstance asks of an own class -/
structure IsiC (K : PySem.W.Frag) (C : Addr) : Prop where
  cl : Cls K C
  ha : PySem.W.findIn K (.ref C) "__class__" = some (some (.builtin "object.__class__"))
  hn : PySem.W.specialIn K (.builtin "object.__class__") "__get__" = some (some (.builtin "getset_descriptor.__get__"))
  ht : PySem.W.takesIn K (.builtin "object.__class__") = some true
  hm : PySem.W.mroIn K C (.type "object") = some true
  own : PySem.W.kitOne K (.ref C) (.ref C) = some true
  int : PySem.W.kitOne K (.type "int") (.ref C) = some false
structure IsiC0 (K : PySem.W.Frag) (C : Addr) : Prop where
  ha : PySem.W.findIn K (.ref C) "__class__" = some (some (.builtin "object.__class__"))
  hn : PySem.W.specialIn K (.builtin "object.__class__") "__get__" = some (some (.builtin "getset_descriptor.__get__"))
  ht : PySem.W.takesIn K (.builtin "object.__class__") = some true
  hm : PySem.W.mroIn K C (.type "object") = some true
  own : PySem.W.kitOne K (.ref C) (.ref C) = some true
  int : PySem.W.kitOne K (.type "int") (.ref C) = some false
theorem IsiC0.up {K : PySem.W.Frag} {C : Addr} (h : IsiC0 K C) (c : Cls K C) : IsiC K C := ⟨c, h.ha, h.hn, h.ht, h.hm, h.own, h.int⟩
def fIsi (x : Str) : PySem.W.Frag → Bool := fun K =>
  He.eqO (PySem.W.findIn K (.ref (He.ga K x)) "__class__") (some (some (.builtin "object.__class__"))) && (He.eqO (PySem.W.specialIn K (.builtin "object.__class__") "__get__") (some (some (.builtin "getset_descriptor.__get__"))) && (decide (PySem.W.takesIn K (.builtin "object.__class__") = some true) &&
    (decide (PySem.W.mroIn K (He.ga K x) (.type "object") = some true) && (decide (PySem.W.kitOne K (.ref (He.ga K x)) (.ref (He.ga K x)) = some true) && decide (PySem.W.kitOne K (.type "int") (.ref (He.ga K x)) = some false)))))
theorem fIsi_ok {K : PySem.W.Frag} {x : Str} (h : fIsi x K = true) : IsiC0 K (He.ga K x) := by
  unfold fIsi at h
  obtain ⟨h1, h⟩ := He.ba h
  obtain ⟨h2, h⟩ := He.ba h
  obtain ⟨h3, h⟩ := He.ba h
  obtain ⟨h4, h⟩ := He.ba h
  obtain ⟨h5, h6⟩ := He.ba h
  exact ⟨He.eqO_ok h1, He.eqO_ok h2, of_decide_eq_true h3, of_decide_eq_true h4, of_decide_eq_true h5, of_decide_eq_true h6⟩
theorem EqC1.cls {K : PySem.W.Frag} {C f : Addr} (e : EqC1 K C) (m : Meth K C "__eq__" f) : EqCls K C f := ⟨m, e.int, e.ne, e.obj⟩
end G

namespace PySem.W
open PySem PySem.Spec PySem.Calls PyProof.Rows
section
variable {prog : Program} {w : World} {A : Around} {E : Value → Shared → Prop} {s : Shared} {K : Frag} {x D : Addr} {ox : Obj} {od : Option Obj}
theorem findObj_dataO {C : Addr} {name : Str} {a g : Value} (hc : (clsIn K C).isSome = true) (ha : findIn K (.ref C) name = some (some a)) (hg : specialIn K a "__get__" = some (some g)) (ht : takesIn K a = some true) : findObj K C od name = some (.bind g a) := by
  obtain ⟨cd, hc⟩ := Option.isSome_iff_exists.mp hc
  unfold findObj
  rw [hc, Option.bind_some, ha, Option.bind_some]
  simp [hg, ht]
/-- e.__class__, e an exception with a dict of its own, too -/
theorem kin_classO {Q : Option Value → Shared → Prop} (C : L2.ExcC K D) (X : K.In s.heap) (I : InstAt s.heap x ox D od) (h : Q (some (.ref D)) { s with toks := s.toks + 1 }) : wpAny (model prog w) A (getAttr? (.ref x) "__class__") Q E s := by
  have hf : findObj K D od "__class__" = some (.bind (.builtin "getset_descriptor.__get__") (.builtin "object.__class__")) := findObj_dataO (by obtain ⟨cd, hc, _⟩ := any_some C.hd; rw [hc]; rfl) C.ha C.hn C.ht
  obtain ⟨hp, g, d, t, os⟩ := s
  have l0 := I.type (M := model prog w)
  have l1 := looks_findIn (M := model prog w) X C.hg
  have l2 := looks_findIn (M := model prog w) X C.hk
  have l3 := looks_find (M := model prog w) X I hf
  have sub : Looks (model prog w) hp (isInstance (.ref x) (.type "BaseException")) true := l0.andThen (looks_subIn X C.hs)
  have hx0 : (false && onTheHeap (Value.builtin "BaseException.__getattribute__")) = false := rfl
  have hx2 : (Value.builtin "BaseException.__getattribute__" == Value.builtin "object.__getattribute__") = false := by decide +kernel
  have hx1 : (onTheHeap (Value.ref D) && Value.builtin "BaseException.__getattribute__" == Value.builtin "object.__getattribute__") = false := by rw [hx2]; rfl
  unfold getAttr? getAttrBy? getAttrBy
  refine wpAny_bind (wpAny_mkText (wpAny_bind (wpAny_attempt (wpAny_holding (wpAny_bind (l0.at (wpAny_bind (l1.at ?_))))))))
  show wpAny _ _ (if (onTheHeap (Value.ref D) && Value.builtin "BaseException.__getattribute__" == Value.builtin "object.__getattribute__") = true then _ else _) _ _ _
  rw [hx1, if_neg Bool.false_ne_true]
  unfold getAttrByItsOwn hookBefore
  refine wpAny_bind ?_
  rw [if_pos (show onTheHeap (Value.ref D) = true from rfl)]
  refine l2.at ?_
  refine wpAny_bind (wpAny_attempt (wpAny_holding ?_))
  unfold callGetattribute
  rw [hx0, if_neg Bool.false_ne_true]
  unfold boundAndCalled
  rw [PySem.F.excAttr_ValueError.ga.bind (.ref x)]
  refine wpAny_bind (wpAny_pure ?_)
  show wpAny _ _ (call (.builtin "BaseException.__getattribute__") [.ref x, .str "__class__" t]) _ _ _
  refine wpAny_call (codeAny_call_builtin PySem.F.excAttr_ValueError.ga.plain PySem.F.entry_bexc_ga ?_)
  refine @check_slot (model prog w) _ _ ⟨hp, g, d, t + 1, os⟩ "BaseException.__getattribute__" "BaseException" "__getattribute__" (.ref x) [.str "__class__" t] [] _ (by decide +kernel) (by decide +kernel) sub (PySem.F.args_bexc_ga (.ref x) (.str "__class__" t)) ?_
  unfold Builtin.«object.__getattribute__»
  refine wpAny_bind (wpAny_of_eq (a := ((Value.ref x : Value), [Value.str "__class__" t])) (by first | rfl | (simp only [slotArgs]; rfl)) ?_)
  refine wpAny_bind (wpAny_pure (wpAny_bind (l0.at (wpAny_bind (l3.at ?_)))))
  show wpAny _ _ (holding [Value.builtin "object.__class__"] (call (.builtin "getset_descriptor.__get__") [.builtin "object.__class__", .ref x, .ref D]) >>= ret) _ _ _
  refine wpAny_bind (wpAny_holding (wpAny_call (class_get (s := ⟨hp, g, d, t + 1, os⟩) (ox := ox) (od := od) X I C.hm ?_)))
  refine wpAny_pure ?_
  show wpAny _ _ (handedOut (.ref D)) _ _ _
  rw [handedOut_of (v := .ref D) rfl]
  first
    | exact wpAny_pure (wpAny_pure h)
    | exact wpAny_pure h
    | exact wpAny_pure (wpAny_bind (wpAny_pure (wpAny_pure h)))
theorem kitx_excO (C : L2.ExcC K D) : KitX K (.ref x) (.ref D) (fun h => InstAt h x ox D od) where
  ty := fun _ _ _ I => I.type
  it := fun _ _ X _ => by
    obtain ⟨cdD, hcD, _⟩ := any_some C.hd
    unfold clsIn at hcD
    split at hcD
    · rename_i c' d' cd' sl' ho
      intro A' Q' E' s' k q
      unfold isType loadHead
      exact wpAny_bind (wpAny_loadPart (k _ _ (X _ _ ho)) (wpAny_pure q))
    · cases hcD
  ne := fun h tp dd its n sl X htp => by
    obtain ⟨cdD, hcD, _⟩ := any_some C.hd
    refine Bool.eq_false_iff.mpr fun q => ?_
    have e : D = tp := Value.ref.inj (beq_iff_eq.mp q)
    subst e
    unfold clsIn at hcD
    split at hcD
    · rename_i c' d' cd' sl' ho
      have z := (X _ _ ho).symm.trans htp
      cases z
    · cases hcD
  ca := fun X I k => kin_classO C X I k
end
end PySem.W
namespace G
open PySem PySem.Spec PyProof.Rows L2
/-- isinstance(e, c), e the exception that the suite holds, with fields or without -/
def rIsEY (K : PySem.W.Frag) (a : Addr) (cls : Value) (d : Option Addr) : List V → Hp → VK → Prop := fun xs H Q => (d = none ∨ ∃ dd fs, d = some dd ∧ H dd = some (.xd fs)) ∧ ∃ (D : Addr) (c : V) (cv : Value) (b : Bool), cls = .ref D ∧ ExcC K D ∧ xs = [.ref a, c] ∧ (∀ u, RelV c u → u = cv) ∧ PySem.W.kitOne K (.ref D) cv = some b ∧ Q (.bl b) H
theorem call_isEY {X : Cx} {a : Addr} {cls : Value} {d : Option Addr} {oe : Obj} {pn : List (Addr × Obj)} (hz : Zc cls d oe) (hf : ∃ vs, oe.data = .fields vs) : CallR (X.suite a ((a, oe) :: pn)) (.builtin "isinstance") (rIsEY X.K a cls d) := by
  intro pins s σ H xs us Q I r h
  obtain ⟨hd, D, c, cv, b, rfl, C, rfl, hcv, e, q⟩ := h
  cases r with
  | cons rx rr =>
    cases rr with
    | cons rt rr =>
      cases rr
      cases rx
      have ec := hcv _ rt
      subst ec
      obtain ⟨hget, _⟩ := I.pin (a, oe) (List.mem_append.mpr (.inl List.mem_cons_self))
      obtain ⟨vs, hv⟩ := hf
      have J : ∃ od, PySem.W.InstAt s.heap a oe D od := by
        rcases hd with rfl | ⟨dd, fs, rfl, hdd⟩
        · obtain ⟨oc, od, oda, osl⟩ := oe
          obtain ⟨h1, h2⟩ := hz
          dsimp only at h1 h2 hv
          subst h1 h2 hv
          exact ⟨none, hget, rfl, rfl, trivial⟩
        · have hx : ObjOk X.prog X.w H s.heap dd (.xd fs) := I.hok dd _ hdd
          obtain ⟨mA, hns, hr⟩ := hx
          obtain ⟨od, ho, hl⟩ := lookIn_ns hns
          exact ⟨some od, hget, hz.1, by unfold PySem.W.notCls; rw [hv] <;> rfl, by rw [hz.2]; exact ho⟩
      obtain ⟨od, J⟩ := J
      exact PySem.W.kia_one (PySem.W.kitx_excO C) I.kIn J e (fun z => nomatch z) fun tk => ⟨.bl b, H, I.kept (t' := tk) fun _ _ z => z, rfl, q⟩
end G

set_option Elab.async false
set_option linter.all false
set_option maxRecDepth 10000000
set_option maxHeartbeats 4000000
/-! Lown2: iteration over an own object whose __iter__ gives the iterator of a tuple. -/
namespace G
open PySem PySem.Spec PyProof.Rows L2
section
variable {X : Cx} {pins : List (Addr × Obj)} {σ : L2.St} {H : Hp} {s : Shared}
/-- places that were free at the entry -/
def holes (X : Cx) : List Addr := (List.range X.s_0.heap.objs.size).filter fun b => (X.s_0.heap.get? b).isNone && decide (b ≠ X.env.locals) && !(X.env.cells.any fun p => decide (X.env.cells.lookup p.1 = some b)) && !X.fs.contains b
theorem holes_mem {b : Addr} : b ∈ holes X ↔ b < X.s_0.heap.objs.size ∧ X.s_0.heap.get? b = none ∧ b ≠ X.env.locals ∧ (X.env.cells.any fun p => decide (X.env.cells.lookup p.1 = some b)) = false ∧ b ∉ X.fs := by
  unfold holes
  rw [List.mem_filter, List.mem_range]
  simp only [Bool.and_eq_true, Option.isNone_iff_eq_none, decide_eq_true_iff, Bool.not_eq_true', List.contains_eq_mem, decide_eq_false_iff_not, and_assoc]
def hX (X : Cx) : Cx := { X with ex := holes X ++ X.ex }
theorem cells_mem {x : Str} {c : Addr} : ∀ {l : List (Str × Addr)}, l.lookup x = some c → ∃ p ∈ l, p.1 = x
  | [], h => by cases h
  | (y, d) :: l, h => by
    rw [List.lookup_cons] at h
    cases e : x == y with
    | true => exact ⟨(y, d), List.mem_cons_self, (beq_iff_eq.mp e).symm⟩
    | false =>
      rw [e] at h
      obtain ⟨p, hp, q⟩ := cells_mem h
      exact ⟨p, List.mem_cons_of_mem _ hp, q⟩
theorem cells_any {x : Str} {c : Addr} {l : List (Str × Addr)} (h : l.lookup x = some c) : (l.any fun p => decide (l.lookup p.1 = some c)) = true := by
  obtain ⟨p, hp, rfl⟩ := cells_mem h
  exact List.any_eq_true.mpr ⟨p, hp, decide_eq_true h⟩
theorem inv_in (I : Inv X pins σ H s) : Inv (hX X) pins σ H s := by
  have k := I.ok
  refine ⟨⟨k.mod, k.kind, k.glob, k.blt, k.above, k.inj, k.has, k.cab, k.hd, k.frames, k.stk, fun b hb => ?_, k.bs, k.bsz, fun b o h hb => ?_, fun b hb => ?_, k.funs, k.frf⟩, I.os, I.bare, ?_, I.loc, I.cell, I.free, I.freeC, I.pin, I.hok, I.len⟩
  · rcases List.mem_append.mp hb with hb | hb
    · obtain ⟨_, _, h3, h4, _⟩ := holes_mem.mp hb
      exact ⟨h3, fun x c h z => by
        have h' : X.env.cells.lookup x = some c := h
        rw [z] at h'
        rw [cells_any h'] at h4
        cases h4⟩
    · exact k.exf b hb
  · rcases List.mem_append.mp hb with hb | hb
    · have := (holes_mem.mp hb).2.1
      rw [(k.bs b o h).1] at this
      cases this
    · exact k.noex b o h hb
  · rcases List.mem_append.mp hb with hb | hb
    · exact (holes_mem.mp hb).2.2.2.2
    · exact k.exfs b hb
  · have u := I.base
    have sub : ∀ b, b ∉ holes X ++ X.ex → b ∉ X.ex := fun b hb z => hb (List.mem_append_right _ z)
    exact ⟨fun b o h n f x => u.keep b o h n f (sub b x), fun b o h n f x => u.slot b o h n f (sub b x), fun b o h n x => u.free b o h n (sub b x), fun b o h x => u.there b o h (sub b x), u.tups, u.frzs, u.tbls⟩
theorem inv_out (K0 : X.Ok) (I : Inv (hX X) pins σ H s) : Inv X pins σ H s := by
  refine ⟨K0, I.os, I.bare, ?_, I.loc, I.cell, I.free, I.freeC, I.pin, I.hok, I.len⟩
  have u : Un X.fs (holes X ++ X.ex) X.H_0 H X.s_0.heap s.heap := I.base
  have sub : ∀ b o, X.s_0.heap.get? b = some o → b ∉ X.ex → b ∉ holes X ++ X.ex := fun b o h hb z => by
    rcases List.mem_append.mp z with z | z
    · have := (holes_mem.mp z).2.1
      rw [h] at this
      cases this
    · exact hb z
  exact ⟨fun b o h n f x => u.keep b o h n f (sub b o h x), fun b o h n f x => u.slot b o h n f (sub b o h x), fun b o h n x => u.free b o h n (sub b o h x), fun b o h x => u.there b o h (sub b o h x), u.tups, u.frzs, u.tbls⟩
theorem pe_hX {e : Expr} {te : TE} (h : PE (hX X) e te) : PE X e te := ⟨fun pins s σ H Q I q =>
  thn (h.run pins s σ H Q (inv_in I) q) fun v s1 ⟨x, H1, I1, r, q1⟩ => ⟨x, H1, inv_out I.ok I1, r, q1⟩⟩
/-- the iterator of a tuple -/
def ItTO (t it : Addr) : HO := .ext fun h => h.IsTupleIter it t 0
theorem itTO_ok {P : Program} {w : World} {H : Hp} {h : Heap} {t it : Addr} (e : h.IsTupleIter it t 0) : ObjOk P w H h it (ItTO t it) :=
  ⟨e, let ⟨o, ho, _⟩ := e; ⟨o, ho⟩, fun h1 h2 q k => q.at fun o e => k o e⟩
/-- iter(t) -/
def rIterT (K : PySem.W.Frag) : List V → Hp → VK → Prop := fun xs H Q => ∃ (t : Addr) (zs : List V), xs = [.ref t] ∧ SqT K H t zs ∧ ∀ it, H it = none → Q (.ref it) (upd H it (ItTO t it))
theorem call_iterT : CallR X (.builtin "iter") (rIterT X.K) := by
  intro pins s σ H xs us Q I r h
  obtain ⟨t, zs, rfl, hq, q⟩ := h
  obtain ⟨u, rfl, ru⟩ := r.one
  cases (show u = Value.ref t from ru)
  obtain ⟨its, rv, p, _⟩ := I.tuple hq
  refine Calls.call_function_entry (by decide +kernel) (by decide +kernel) PySem.W.kdk_entry_iter (PySem.W.kdk_args_iter _) ?_
  unfold Builtin.«iter»
  refine wpAny_bind (m := someArgs "iter" 1 2 _) (wpAny_of_eq (a := [Value.ref t]) (by first | rfl | kernel_rfl!) ?_)
  show wpAny _ _ (pyIter (.ref t) >>= _) _ _ _
  refine wpAny_bind (wpAny_pyIter_tuple (show s.heap.IsTuple t its.toArray from p) ?_)
  have hp := I.hok.fresh (Nat.le_refl s.heap.objs.size)
  have eb : (s.heap.push { cls := .type "tuple_iterator", data := .fields #[.ref t, .int 0 0] }).IsTupleIter s.heap.objs.size t 0 := ⟨_, Heap.get?_push_size _ rfl, rfl, rfl⟩
  exact wpAny_pure ⟨_, rfl, .ref s.heap.objs.size, upd H s.heap.objs.size (ItTO t s.heap.objs.size), I.laid (t' := s.toks) (a := s.heap.objs.size) (o := ItTO t s.heap.objs.size) (fun b u q => Heap.get?_push_of_some _ q) (Nat.le_refl _) (itTO_ok eb), rfl, q _ hp⟩
/-- for .. in o -/
def iOwn (K : PySem.W.Frag) (C : Addr) (sp : Sp) (te : TE) : TI := fun σ H R => te σ H fun x H1 => ∃ a dx fs, x = .ref a ∧ H1 a = some (.ins C dx fs) ∧
  sp [.ref a] H1 (fun v H2 => ∃ it t, v = .ref it ∧ H1 it = none ∧ H2 it = some (ItTO t it) ∧ (∃ xs, SqT K H2 t xs) ∧ R (Itt K t) (ItX.dropH H2 it)) E0
theorem pi_own {k : Nat} {C f : Addr} {sp : Sp} {tg e : Expr} {te : TE} (F : FnR X.prog X.w X.K X.mg X.base CX0 k f sp) (hr : Room k X.A) (hm : Meth X.K C "__iter__" f) (hex : X.ex = []) (he : PE (hX X) e te) : PI (hX X) tg e (iOwn X.K C sp te) := by
  refine ⟨fun pins s σ H R I h => ?_⟩
  refine thn (he.run pins s σ H _ I h) fun v s1 ⟨x, H1, I1, rx, a, dx, fs, ex, ha, q⟩ => ?_
  subst ex
  obtain rfl : v = Value.ref a := rx
  obtain ⟨mA, J, _⟩ := ins_get I1.hok ha
  obtain ⟨od, J, _⟩ := J.look
  obtain ⟨m, hF⟩ := I1.fr
  refine PySem.W.owit_iter hF I1.ok.mod.kin J hm.at_ hm.fn (wpAny_call (codeAny_mono (F X.A X.stack s1 H1 [.ref a] [.ref a] _ E0 hr I1.env0 (.cons rfl .nil) q) fun r s' hq => ?_))
  cases r with
  | error e => exact hq.elim
  | ok fl =>
    cases fl with
    | next => exact False.elim hq
    | brk => exact False.elim hq
    | cont => exact False.elim hq
    | ret u =>
      obtain ⟨v, H2, os, bare, un, hok, rv, it, t, ev, n1, e2, hs, q2⟩ := hq
      subst ev
      cases (show u = Value.ref it from rv)
      have I2 : Inv (hX X) pins σ H2 s' := by
        obtain ⟨hh, g, d, tt, os'⟩ := s'
        obtain rfl : os' = s1.os := os
        exact I1.call (h' := hh) (g' := g) (d' := d) (t' := tt) (ch := []) un hok bare (fun b z => absurd z (by simp))
      have hit : s'.heap.IsTupleIter it t 0 := by
        have x : ObjOk X.prog X.w H2 s'.heap it (.ext fun h => h.IsTupleIter it t 0) := hok it _ e2
        exact x.1
      have g1 : s1.heap.get? it = none := by
        cases hg : s1.heap.get? it with
        | none => rfl
        | some o =>
          have := un.free it o hg n1 (by simp)
          rw [e2] at this
          cases this
      have g0 : X.s_0.heap.get? it = none := by
        cases hg : X.s_0.heap.get? it with
        | none => rfl
        | some o =>
          have I1' := inv_out (X := X) (by
            have k := I1.ok
            refine ⟨k.mod, k.kind, k.glob, k.blt, k.above, k.inj, k.has, k.cab, k.hd, k.frames, k.stk, fun b hb => k.exf b (List.mem_append_right _ hb), k.bs, k.bsz, fun b o h hb => k.noex b o h (List.mem_append_right _ hb), fun b hb => k.exfs b (List.mem_append_right _ hb), k.funs, k.frf⟩) I1
          obtain ⟨o', z⟩ := I1'.base.there it o hg (by rw [hex]; simp)
          rw [g1] at z
          cases z
      have nl : it ≠ X.env.locals := fun z => by
        obtain ⟨m', hn, _⟩ := I1.loc
        obtain ⟨o, _, _, ho, _⟩ := hn
        have ho' : s1.heap.get? X.env.locals = some o := ho
        rw [← z, g1] at ho'
        cases ho'
      have nc : ∀ x c, X.env.cells.lookup x = some c → c ≠ it := fun x c hc z => by
        obtain ⟨v, o, ho, _⟩ := I1.cell x c hc
        rw [z, g1] at ho
        cases ho
      have nf : it ∉ X.fs := fun hb => by
        obtain ⟨_, o, ho, _⟩ := I1.ok.funs.mem hb
        have ho' : X.s_0.heap.get? it = some o := ho
        rw [g0] at ho'
        cases ho'
      have J3 := ItX.inv_drop I2 (φ := fun h => h.IsTupleIter it t 0) e2
      unfold PySem.W.OwitIt
      have hT : s'.TypeIs (.ref it) "tuple_iterator" := by
        obtain ⟨o, ho, hc, _⟩ := hit
        exact ⟨o, ho, hc⟩
      refine wpAny_specialOf hT PySem.F.slot_tuple_iterator_next.lookup ?_
      refine ⟨it, [it], _, _, _, rfl, J3, turn_tuple t it, hit, fun b hb => ?_, q2⟩
      have eb : b = it := by simpa using hb
      subst eb
      refine ⟨ItX.dropH_same, nl, nf, ?_, fun x c hc => nc x c hc, fun p hp z => ?_⟩
      · by_cases hlt : b < X.s_0.heap.objs.size
        · refine .inl (List.mem_append_left _ (holes_mem.mpr ⟨hlt, g0, nl, ?_, nf⟩))
          refine Bool.eq_false_iff.mpr fun hm => ?_
          obtain ⟨p, _, hp⟩ := List.any_eq_true.mp hm
          exact nc p.1 _ (of_decide_eq_true hp) rfl
        · exact .inr (Nat.le_of_not_lt hlt)
      · have := (I1.pin p hp).1
        rw [z, g1] at this
        cases this
end
end G

set_option Elab.async false
set_option linter.all false
set_option maxRecDepth 10000000
set_option maxHeartbeats 4000000
/-! Lenum: enumerate of a tuple, too. -/
namespace PySem
open Sem (wp)
open AutoSeq1 (wpAny_loadPart')
theorem meets_enumerate_newTp (l : Addr) (items : Array Value) (n : Nat) (dct : Option Addr) (sl : Array (Option Value)) :
    Meets (Builtin.«enumerate.__new__» ⟨[.type "enumerate", .ref l], []⟩) (fun _ R s => s.heap.get? l = some { cls := .type "tuple", dict := dct, data := .seq items n, slots := sl } ∧
      R (.ok (.ret (.ref (s.heap.push { cls := .type "tuple_iterator", data := .fields #[.ref l, .int 0 0] }).objs.size)))
        { s with heap := (s.heap.push { cls := .type "tuple_iterator", data := .fields #[.ref l, .int 0 0] }).push { cls := .type "enumerate", data := .fields #[.none, .bool false, .ref s.heap.objs.size, rawInt 0, .none, .none] } }) :=
  .of_wp fun prog w A R s h => by
    obtain ⟨hp, g, d, tk, os⟩ := s; obtain ⟨hl, h⟩ := h
    have hsub := sub_enumerate
    have hL : Heap.IsTuple (Shared.heap ⟨hp, g, d, tk, os⟩) l items := ⟨_, hl, rfl, n, rfl⟩
    wp_walk using wpAny_loadPart' hl
    refine wpAny_stack_any fun st => wpAny_pure ?_
    split
    · rename_i c _ _ _ _ _
      cases (c == Value.type "enumerate")
      · wp_walk using wpAny_loadPart' hl, wpAny_pyIter_tuple hL
        exact ⟨_, rfl, h⟩
      · wp_walk using wpAny_loadPart' hl, wpAny_pyIter_tuple hL
        exact ⟨_, rfl, h⟩
    · wp_walk using wpAny_loadPart' hl, wpAny_pyIter_tuple hL
      exact ⟨_, rfl, h⟩
theorem call_enumerate_tuple {prog : Program} {w : World} {A : Around} {E : Value → Shared → Prop} {s : Shared} {l : Addr} {items : Array Value} {Q : Value → Shared → Prop} (hL : s.heap.IsTuple l items)
    (h : ∀ h', IsEnum h' (s.heap.objs.size + 1) s.heap.objs.size 0 .none → h'.IsTupleIter s.heap.objs.size l 0 → h'.objs.size = s.heap.objs.size + 2 →
      (∀ b o, s.heap.get? b = some o → h'.get? b = some o) → Q (.ref (s.heap.objs.size + 1)) { s with heap := h' }) :
    wpAny (model prog w) A (call (.type "enumerate") [.ref l]) Q E s := by
  obtain ⟨⟨c, dct, dt, sl⟩, hl, hc, n, hd⟩ := hL
  replace hc : c = .type "tuple" := hc
  replace hd : dt = .seq items n := hd
  subst hc hd
  refine callType_new F.called_enumerate (by decide) (F.typeCall_enumerate_1 _) (F.newCall_enumerate_1 _) (fun obj => F.args_object_init_2 obj _) F.entry_enumerate_new
    (meets_enumerate_newTp l items n dct sl) ⟨hl, ?_⟩
  have hz : (s.heap.push { cls := .type "tuple_iterator", data := .fields #[.ref l, .int 0 0] }).objs.size = s.heap.objs.size + 1 := Heap.size_push ..
  show _ ∧ _
  rw [hz]
  have he : IsEnum ((s.heap.push { cls := .type "tuple_iterator", data := .fields #[.ref l, .int 0 0] }).push
      { cls := .type "enumerate", data := .fields #[.none, .bool false, .ref s.heap.objs.size, rawInt 0, .none, .none] }) (s.heap.objs.size + 1) s.heap.objs.size 0 .none := by
    have := Heap.get?_push_size (s.heap.push { cls := .type "tuple_iterator", data := .fields #[.ref l, .int 0 0] })
      (o := { cls := .type "enumerate", data := .fields #[.none, .bool false, .ref s.heap.objs.size, rawInt 0, .none, .none] }) rfl
    rw [hz] at this; exact this
  refine ⟨⟨_, he, rfl⟩, h _ he ⟨_, Heap.get?_push_of_some _ (Heap.get?_push_size _ rfl), rfl, rfl⟩ (by rw [Heap.size_push, hz]) fun b o x => Heap.get?_push_of_some _ (Heap.get?_push_of_some _ x)⟩
end PySem
namespace G
open PySem PySem.Spec PyProof.Rows L2
def IteT (K : PySem.W.Frag) (a : Addr) : It :=
  ⟨fun i H => ∃ (xs : List V) (x : V), SqT K H a xs ∧ xs[i]? = some x, fun i H v H' => ∃ T x, v = .ref T ∧ H T = none ∧ H' = upd H T (.tup [.int (i : Nat), x]) ∧ ∀ xs, SqT K H a xs → xs[i]? = some x, fun i H => ∃ xs : List V, SqT K H a xs ∧ xs.length = i⟩
theorem enum_ne {h : Heap} {e it a : Addr} {i : Int} {old : Value} {items : Array Value} (he : IsEnum h e it i old) (p : h.IsTuple a items) : e ≠ a := fun z => by
  obtain ⟨o, ho, hc, _⟩ := p
  rw [← z, he] at ho
  cases ho
  exact absurd (Value.type.inj hc) (by decide)
theorem iter_ne {h : Heap} {it a b : Addr} {i : Nat} {items : Array Value} (hi : h.IsTupleIter it b i) (p : h.IsTuple a items) : a ≠ it := fun z => by
  obtain ⟨o, ho, hc, _⟩ := p
  obtain ⟨o', ho', hc', _⟩ := hi
  rw [z, ho'] at ho
  cases ho
  rw [hc'] at hc
  exact absurd (Value.type.inj hc) (by decide)
theorem turn_enumT {P : Program} {w : World} {K : PySem.W.Frag} {elts : List Expr} {kk : Nat} {tpos : Pos} (a e it : Addr) :
    Turn P w K (.Tuple elts kk tpos) (IteT K a) [e, it] e (fun i h => (∃ old, IsEnum h e it ((i : Nat) : Int) old) ∧ h.IsTupleIter it a i ∧ e ≠ it) where
  mem := by simp
  obj := fun i h st b hb => by
    obtain ⟨⟨old, he⟩, ⟨o, ho, hc, hd⟩, _⟩ := st
    have e' : b = e ∨ b = it := by simpa using hb
    rcases e' with z | z
    · rw [z]; exact ⟨_, he, fun v q => nomatch q⟩
    · rw [z]; exact ⟨o, ho, fun v q => by rw [hd] at q; cases q⟩
  keep := fun i h h' st k => let ⟨⟨old, he⟩, hi, hne⟩ := st; ⟨⟨old, k e (by simp) _ he⟩, hi.at fun o q => k it (by simp) o q, hne⟩
  item := by
    intro X hP hw hK hc i pins s σ H E I hf st hg
    subst hP hw hK
    obtain ⟨⟨old, he⟩, hit, hne⟩ := st
    obtain ⟨xs, x, hq, hx⟩ := hg
    obtain ⟨its, rv, p, hz⟩ := I.tuple hq
    have p' : s.heap.IsTuple a its.toArray := p
    obtain ⟨u, hu, ru⟩ := rv.get hx
    have hu' : its.toArray[i]? = some u := by simpa using hu
    have hel : e < s.heap.objs.size := Heap.lt_size he
    have hil : it < s.heap.objs.size := by obtain ⟨_, q, _⟩ := hit; exact Heap.lt_size q
    have hlt : i < its.toArray.size := (Array.getElem?_eq_some_iff.mp hu').1
    refine wpAny_pyNext_enum_itemD (Draws.tuple (A := X.A.in1) (I.ok.hd hc) it a (iter_ne hit p') its.toArray) he ⟨hit, p'⟩ hlt hne (by
      intro z
      rcases List.mem_cons.mp z with z | z
      · exact hne z
      · exact enum_ne he p' (by simpa using z)) fun v h' tk hv ho hst' hT hsz hk => ?_
    obtain ⟨hit', _⟩ := hst'
    have ev : v = u := by rw [hu'] at hv; exact (Option.some.inj hv).symm
    subst ev
    refine ⟨_, rfl, wpAny_letOwnedTupleGo_enum (s := { s with heap := h', toks := tk + 1 }) ho fun h'' he' sb => ?_⟩
    have hT2 : h''.get? s.heap.objs.size = some { cls := .type "tuple", data := .seq #[.int i tk, v] } := (sb.2 _ (Nat.ne_of_gt hel)).trans hT
    have new : ObjOk X.prog X.w (upd H s.heap.objs.size (.tup [.int (i : Nat), x])) h'' s.heap.objs.size (.tup [.int (i : Nat), x]) :=
      ⟨by show 2 ≤ sizeLine; decide, [.int i tk, v], .cons ⟨_, rfl⟩ (.cons ru .nil), ⟨_, hT2, rfl, _, rfl⟩⟩
    have I1 : Inv X pins σ (upd H s.heap.objs.size (.tup [.int (i : Nat), x])) { s with heap := h'', toks := tk + 1 } :=
      I.turnedNew (ch := [e, it]) (fun b ob hb q => (sb.2 b (fun z => hb (by simp [z]))).trans (hk b ob (fun z => hb (by simp [z])) (fun z => hb (by simp [z])) q)) hf (Nat.le_refl _) new
    refine ⟨.ref s.heap.objs.size, _, I1, rfl, ⟨_, x, rfl, I.hok.fresh (Nat.le_refl _), rfl, fun ys hy => by rw [I.tuple_inj hy hq]; exact hx⟩, ⟨⟨v, ?_⟩, hit'.at fun o q => (sb.2 it (Ne.symm hne)).trans q, hne⟩, fun b hb => ?_⟩
    · have e1 : ((i + 1 : Nat) : Int) = (i : Int) + 1 := by omega
      rw [e1]; exact he'
    · have hb' : b < s.heap.objs.size := by
        have e' : b = e ∨ b = it := by simpa using hb
        rcases e' with z | z
        · rw [z]; exact hel
        · rw [z]; exact hil
      rw [upd_ne (Nat.ne_of_lt hb')]
      exact (hf b hb).1
  done := by
    intro X hP hw hK hc i pins s σ H E I hf st hg
    subst hP hw hK
    obtain ⟨⟨old, he⟩, hit, hne⟩ := st
    obtain ⟨xs, hq, hx⟩ := hg
    obtain ⟨its, rv, p, hz⟩ := I.tuple hq
    have p' : s.heap.IsTuple a its.toArray := p
    obtain ⟨f0, f1, f2, f3, f4, f5⟩ := hf it (by simp)
    have hl := rv.length
    have ei : i = its.toArray.size := by rw [List.size_toArray]; omega
    subst ei
    exact wpAny_pyNext_enum_endD (Draws.tuple (A := X.A.in1) (I.ok.hd hc) it a (iter_ne hit p') its.toArray) he ⟨hit, p'⟩ fun h' eb => ⟨rfl, I.turned (t' := s.toks) (fun b o hb q => eb b o hb q) f0 f1 f3 f4 f5⟩
  self := fun A i s Q E st h => let ⟨⟨_, he⟩, _⟩ := st; wpAny_pyIter_enum he h
/-- enumerate of a list or a tuple -/
def iEnumA (K : PySem.W.Frag) (ta : TA) : TI := fun σ H R => ta σ H fun vs H1 => (∃ a xs, vs = [.ref a] ∧ SqL K H1 a xs ∧ R (Ite K a) H1) ∨ ∃ a xs, vs = [.ref a] ∧ SqT K H1 a xs ∧ R (IteT K a) H1
theorem pi_enumA {X : Cx} {e : Expr} {ta : TA} {p pos tpos : Pos} {elts : List Expr} {kk : Nat} (hg : Gl X "enumerate") (hm : X.mg "enumerate" = none) (ha : PA X [e] ta) (hs : starEach [e] X.env = [(false, eval e X.env)] := by rfl) :
    PI X (.Tuple elts kk tpos) (.Call (.Name "enumerate" p) [e] [] pos) (iEnumA X.K ta) := by
  refine ⟨fun pins s σ H R I h => ?_⟩
  refine Call_ (ld_blt I hg hm boot_enumerate (PyProof.Rows.callWith_type1 (thn (ha.run pos pins s σ H _ I h) fun us s1 ⟨vs, H1, I1, r1, q1⟩ => ?_) hs rfl))
  rcases q1 with ⟨a, xs, ex, hq, q⟩ | ⟨a, xs, ex, hq, q⟩
  · subst ex
    cases r1 with
    | cons r rr =>
      cases rr
      cases r
      obtain ⟨its, rv, p', hz⟩ := I1.list hq
      refine call_enumerate_list p'.isList fun h' he hit hsz hk => wpAny_pyIter_enum he ?_
      have I2 : Inv X pins σ H1 { s1 with heap := h' } := I1.kept (t' := s1.toks) hk
      refine ⟨s1.heap.objs.size + 1, [s1.heap.objs.size + 1, s1.heap.objs.size], _, _, H1, rfl, I2, turn_enum a (s1.heap.objs.size + 1) s1.heap.objs.size, ⟨⟨.none, he⟩, hit, Nat.succ_ne_self _⟩, fun b hb => ?_, q⟩
      have e' : b = s1.heap.objs.size + 1 ∨ b = s1.heap.objs.size := by simpa using hb
      have hle : s1.heap.objs.size ≤ b := by
        rcases e' with z | z
        · rw [z]; exact Nat.le_add_right _ _
        · rw [z]; exact Nat.le_refl _
      exact I1.fpOk hle (I1.hok.fresh hle)
  · subst ex
    cases r1 with
    | cons r rr =>
      cases rr
      cases r
      obtain ⟨its, rv, p', hz⟩ := I1.tuple hq
      refine call_enumerate_tuple (show s1.heap.IsTuple a its.toArray from p') fun h' he hit hsz hk => wpAny_pyIter_enum he ?_
      have I2 : Inv X pins σ H1 { s1 with heap := h' } := I1.kept (t' := s1.toks) hk
      refine ⟨s1.heap.objs.size + 1, [s1.heap.objs.size + 1, s1.heap.objs.size], _, _, H1, rfl, I2, turn_enumT a (s1.heap.objs.size + 1) s1.heap.objs.size, ⟨⟨.none, he⟩, hit, Nat.succ_ne_self _⟩, fun b hb => ?_, q⟩
      have e' : b = s1.heap.objs.size + 1 ∨ b = s1.heap.objs.size := by simpa using hb
      have hle : s1.heap.objs.size ≤ b := by
        rcases e' with z | z
        · rw [z]; exact Nat.le_add_right _ _
        · rw [z]; exact Nat.le_refl _
      exact I1.fpOk hle (I1.hok.fresh hle)
end G

set_option Elab.async false
set_option linter.all false
set_option maxRecDepth 100000
set_option maxHeartbeats 4000000
/-! Mst: objects that change, told by a store of their own: names and parts of objects are data or numbers of the store's objects. -/
namespace G
open PySem PySem.Spec PyProof.Rows L2
inductive SD where
  | no | dat (d : D) | rf (i : Nat)
inductive Ob where
  | lst (xs : List SD) | ins (C : Addr) (ns : List Str) (xs : List SD) | gone | dct (ks : List L2.Key) (xs : List SD) | ndc (w : World) (kds : List D) (xs : List SD)
abbrev MEnv := List SD
abbrev Sto := List Ob
/-- a value by what is told of it; al: where the store's objects stand -/
def VOk (K : PySem.W.Frag) (R : Hp) (al : Nat → Addr) : SD → V → Prop
  | .no, _ => False
  | .dat d, v => Rep K R v d
  | .rf i, v => v = .ref (al i)
inductive VsOk (K : PySem.W.Frag) (R : Hp) (al : Nat → Addr) : List SD → List V → Prop
  | nil : VsOk K R al [] []
  | cons {x : SD} {v : V} {xs : List SD} {vs : List V} : VOk K R al x v → VsOk K R al xs vs → VsOk K R al (x :: xs) (v :: vs)
def ObOk (K : PySem.W.Frag) (R : Hp) (al : Nat → Addr) : HO → Ob → Prop
  | .lst vs, .lst xs => VsOk K R al xs vs
  | .ins C _ fs, .ins C' ns xs => C = C' ∧ ns.length = xs.length ∧ ∃ vs, fs = ns.zip vs ∧ VsOk K R al xs vs
  | .dK kvs, .dct ks xs => ks.length = xs.length ∧ ∃ vs, kvs = ks.zip vs ∧ VsOk K R al xs vs
  | .ext φ, .ndc w kds xs => ∃ (a : Addr) (es : List NEnt) (vs : List V), φ = ndF w a es ∧ es.map (·.1) = kds.map nkD ∧ (∀ d ∈ kds, d.key = true) ∧ RepL K R (es.map fun e => V.ref e.2.1) kds ∧ Vals vs (es.map fun e => e.2.2) ∧ VsOk K R al xs vs
  | _, _ => False
section
variable {K : PySem.W.Frag} {R R' : Hp} {al al' : Nat → Addr}
theorem VOk.mono (s : Same R R') : ∀ {x : SD} {v : V}, VOk K R al x v → VOk K R' al x v
  | .no, _, h => h.elim
  | .dat d, v, h => Rep.mono s d v h
  | .rf i, v, h => h
theorem VsOk.mono (s : Same R R') : ∀ {xs : List SD} {vs : List V}, VsOk K R al xs vs → VsOk K R' al xs vs
  | _, _, .nil => .nil
  | _, _, .cons a b => .cons (a.mono s) (b.mono s)
theorem VsOk.len : ∀ {xs : List SD} {vs : List V}, VsOk K R al xs vs → vs.length = xs.length
  | _, _, .nil => rfl
  | _, _, .cons _ t => by rw [List.length_cons, List.length_cons, VsOk.len t]
theorem VsOk.get : ∀ {xs : List SD} {vs : List V} {i : Nat} {x : SD}, VsOk K R al xs vs → xs[i]? = some x → ∃ v, vs[i]? = some v ∧ VOk K R al x v
  | _, _, _, _, .nil, e => by simp at e
  | _, _, 0, _, .cons r _, e => by
    simp at e
    subst e
    exact ⟨_, rfl, r⟩
  | _, _, i + 1, x, .cons _ t, e => by
    obtain ⟨v, h1, h2⟩ := VsOk.get (i := i) (x := x) t (by simpa using e)
    exact ⟨v, by simpa using h1, h2⟩
theorem VsOk.app : ∀ {xs ys : List SD} {vs ws : List V}, VsOk K R al xs vs → VsOk K R al ys ws → VsOk K R al (xs ++ ys) (vs ++ ws)
  | _, _, _, _, .nil, s => s
  | _, _, _, _, .cons r t, s => .cons r (VsOk.app t s)
theorem VsOk.set : ∀ {xs : List SD} {vs : List V} (i : Nat) {x : SD} {v : V}, VsOk K R al xs vs → VOk K R al x v → VsOk K R al (xs.set i x) (vs.set i v)
  | _, _, _, _, _, .nil, _ => .nil
  | _, _, 0, _, _, .cons _ t, q => .cons q t
  | _, _, i + 1, _, _, .cons r t, q => .cons r (VsOk.set i t q)
theorem VsOk.take : ∀ {xs : List SD} {vs : List V} (n : Nat), VsOk K R al xs vs → VsOk K R al (xs.take n) (vs.take n)
  | _, _, 0, _ => .nil
  | _, _, _ + 1, .nil => .nil
  | _, _, n + 1, .cons r t => .cons r (VsOk.take n t)
theorem VsOk.last {xs : List SD} {vs : List V} (h : VsOk K R al xs vs) : VsOk K R al xs.dropLast vs.dropLast := by
  rw [List.dropLast_eq_take, List.dropLast_eq_take, h.len]
  exact h.take _
theorem VsOk.dats : ∀ {ds : List D} {vs : List V}, RepL K R vs ds → VsOk K R al (ds.map SD.dat) vs
  | _, _, .nil => .nil
  | _, _, .cons a b => .cons a (VsOk.dats b)
/-- only numbers below n are spoken of -/
def SD.below (n : Nat) : SD → Prop
  | .rf i => i < n
  | _ => True
theorem VOk.move {n : Nat} (h : ∀ i, i < n → al' i = al i) : ∀ {x : SD} {v : V}, x.below n → VOk K R al x v → VOk K R al' x v
  | .no, _, _, h => h.elim
  | .dat d, v, _, r => r
  | .rf i, v, b, r => by
    have r' : v = .ref (al i) := r
    show v = .ref (al' i)
    rw [r', h i b]
theorem VsOk.move {n : Nat} (h : ∀ i, i < n → al' i = al i) : ∀ {xs : List SD} {vs : List V}, (∀ x ∈ xs, x.below n) → VsOk K R al xs vs → VsOk K R al' xs vs
  | _, _, _, .nil => .nil
  | _, _, b, .cons r t => .cons (r.move h (b _ List.mem_cons_self)) (VsOk.move h (fun x hx => b x (List.mem_cons_of_mem _ hx)) t)
theorem ObOk.mono (s : Same R R') {o : HO} {b : Ob} (h : ObOk K R al o b) : ObOk K R' al o b := by
  cases o <;> cases b <;> first
    | exact h.elim
    | exact VsOk.mono s h
    | (obtain ⟨rfl, hl, vs, rfl, r⟩ := h
       exact ⟨rfl, hl, vs, rfl, r.mono s⟩)
    | (obtain ⟨hl, vs, rfl, r⟩ := h
       exact ⟨hl, vs, rfl, r.mono s⟩)
    | (obtain ⟨a, es, vs, h1, h2, h3, h4, h5, r⟩ := h
       exact ⟨a, es, vs, h1, h2, h3, h4.mono s, h5, r.mono s⟩)
def Ob.parts : Ob → List SD
  | .lst xs => xs
  | .ins _ _ xs => xs
  | .gone => []
  | .dct _ xs => xs
  | .ndc _ _ xs => xs
theorem ObOk.move {n : Nat} (h : ∀ i, i < n → al' i = al i) {o : HO} {b : Ob} (hb : ∀ x ∈ b.parts, x.below n) (k : ObOk K R al o b) : ObOk K R al' o b := by
  cases o <;> cases b <;> first
    | exact k.elim
    | exact VsOk.move h hb k
    | (obtain ⟨rfl, hl, vs, rfl, r⟩ := k
       exact ⟨rfl, hl, vs, rfl, r.move h hb⟩)
    | (obtain ⟨hl, vs, rfl, r⟩ := k
       exact ⟨hl, vs, rfl, r.move h hb⟩)
    | (obtain ⟨a, es, vs, h1, h2, h3, h4, h5, r⟩ := k
       exact ⟨a, es, vs, h1, h2, h3, h4, h5, r.move h hb⟩)
theorem ObOk.ne {o : HO} {b : Ob} (t : ObOk K R al o b) : (∀ zs, o ≠ .tup zs) ∧ (∀ ob w, o ≠ .frz ob w) ∧ ∀ fs, o ≠ .xd fs := by
  cases o <;> cases b <;> first
    | exact t.elim
    | (refine ⟨?_, ?_, ?_⟩ <;> (intros; intro z; cases z))
end
/-- a name or part as data, the store's objects read as they stand -/
def alls (f : SD → Option D) : List SD → Option (List D)
  | [] => some []
  | x :: xs => match f x, alls f xs with
    | some d, some ds => some (d :: ds)
    | _, _ => none
def res (S : Sto) : Nat → SD → Option D
  | 0 => fun x => match x with
    | .dat d => some d
    | _ => none
  | n + 1 => fun x => match x with
    | .dat d => some d
    | .no => none
    | .rf i => match S[i]? with
      | some (.lst xs) => (alls (res S n) xs).map D.lst
      | some (.ins C ns xs) => (alls (res S n) xs).map (D.ins C ns)
      | some (.dct ks xs) => (alls (res S n) xs).map (D.dct ks)
      | some (.ndc w kds xs) => (alls (res S n) xs).map (D.ndc w kds)
      | _ => none
def rd (l : Bool) (S : Sto) (x : SD) : Option D := res S (if l then 4 else 0) x
def fm (l : Bool) (S : Sto) (ρ : MEnv) : DEnv := ρ.map (rd l S)
structure Bs where
  M : Addr → Prop
  H : Hp
  R : Hp
  al : Nat → Addr
  n : Nat
structure EvM (K : PySem.W.Frag) (B : Bs) (H R : Hp) (σ : L2.St) (al : Nat → Addr) (ρ : MEnv) (S : Sto) : Prop where
  r : Same B.R R
  i : Same R H
  h : ∀ a o, B.H a = some o → ¬ B.M a → H a = some o
  t : ∀ a o, B.H a = some o → ∃ o', H a = some o'
  o : ∀ a o, B.H a = some o → ¬ B.M a → B.R a = none → R a = none
  len : σ.length = ρ.length
  ok : ∀ (i : Nat) (x : SD), ρ[i]? = some x → x = .no ∨ ∃ v, σ[i]? = some (some v) ∧ VOk K R al x v
  be : ∀ x ∈ ρ, x.below S.length
  ob : ∀ (j : Nat) (b : Ob), S[j]? = some b → b ≠ .gone → ∃ o, H (al j) = some o ∧ ObOk K R al o b ∧ R (al j) = none
  fp : ∀ j, j < S.length → B.H (al j) = none ∨ B.M (al j)
  bo : ∀ (j : Nat) (b : Ob), S[j]? = some b → ∀ x ∈ b.parts, x.below S.length
  inj : ∀ j k, j < S.length → k < S.length → al j = al k → j = k
  nl : B.n ≤ S.length
  na : ∀ j, j < B.n → al j = B.al j
  nw : ∀ j, B.n ≤ j → j < S.length → B.H (al j) = none
  st : ∀ j, j < S.length → ∃ o, H (al j) = some o
def OwnM (al : Nat → Addr) (S : Sto) (a : Addr) : Prop := ∃ j b, S[j]? = some b ∧ b ≠ Ob.gone ∧ al j = a
open Classical in
noncomputable def lendM (l : Bool) (H R : Hp) (al : Nat → Addr) (S : Sto) : Hp := fun a => if l = true ∧ OwnM al S a then H a else R a
open Classical in
noncomputable def lessM (l : Bool) (R' : Hp) (al : Nat → Addr) (S : Sto) : Hp := fun a => if l = true ∧ OwnM al S a then none else R' a
section
variable {K : PySem.W.Frag} {B : Bs} {H R H' R' : Hp} {σ : L2.St} {al : Nat → Addr} {ρ : MEnv} {S : Sto} {l : Bool}
theorem EvM.own (e : EvM K B H R σ al ρ S) {a : Addr} (h : OwnM al S a) : (∃ x b, H a = some x ∧ ObOk K R al x b) ∧ R a = none ∧ (B.H a = none ∨ B.M a) := by
  obtain ⟨j, b, h1, h2, rfl⟩ := h
  obtain ⟨o, h3, h4, h5⟩ := e.ob j b h1 h2
  exact ⟨⟨o, b, h3, h4⟩, h5, e.fp j (List.getElem?_eq_some_iff.mp h1).1⟩
theorem lendM_yes {a : Addr} (h : l = true ∧ OwnM al S a) : lendM l H R al S a = H a := by unfold lendM; rw [if_pos h]
theorem lendM_no {a : Addr} (h : ¬ (l = true ∧ OwnM al S a)) : lendM l H R al S a = R a := by unfold lendM; rw [if_neg h]
theorem lessM_yes {a : Addr} (h : l = true ∧ OwnM al S a) : lessM l R' al S a = none := by unfold lessM; rw [if_pos h]
theorem lessM_no {a : Addr} (h : ¬ (l = true ∧ OwnM al S a)) : lessM l R' al S a = R' a := by unfold lessM; rw [if_neg h]
theorem lendM_f : lendM false H R al S = R := by funext a; exact lendM_no (fun z => by cases z.1)
theorem lessM_f : lessM false R' al S = R' := by funext a; exact lessM_no (fun z => by cases z.1)
theorem EvM.up (e : EvM K B H R σ al ρ S) : Same R (lendM l H R al S) := fun a o h => by
  rw [lendM_no (fun z => by rw [(e.own z.2).2.1] at h; cases h)]
  exact h
theorem EvM.lendI (e : EvM K B H R σ al ρ S) : Same (lendM l H R al S) H := fun a o h => by
  by_cases z : l = true ∧ OwnM al S a
  · rw [lendM_yes z] at h; exact h
  · rw [lendM_no z] at h; exact e.i a o h
theorem alls_rep {f : SD → Option D} {R' : Hp} (hf : ∀ x d v, f x = some d → VOk K R al x v → Rep K R' v d) : ∀ {xs : List SD} {ds : List D} {vs : List V}, alls f xs = some ds → VsOk K R al xs vs → RepL K R' vs ds
  | _, ds, _, h, .nil => by
    simp only [alls] at h
    cases h; exact .nil
  | x :: xs, ds, v :: vs, h, .cons a b => by
    simp only [alls] at h
    cases h1 : f x with
    | none => rw [h1] at h; cases h
    | some d =>
      cases h2 : alls f xs with
      | none => rw [h1, h2] at h; cases h
      | some ds' =>
        rw [h1, h2] at h
        cases h
        exact .cons (hf x d v h1 a) (alls_rep hf h2 b)
theorem EvM.res (e : EvM K B H R σ al ρ S) : ∀ (n : Nat) (x : SD) (d : D) (v : V), (n ≠ 0 → l = true) → G.res S n x = some d → VOk K R al x v → Rep K (lendM l H R al S) v d
  | 0, x, d, v, _, h, r => by
    cases x with
    | dat d' => cases h; exact Rep.mono e.up _ _ r
    | no => cases h
    | rf i => cases h
  | n + 1, x, d, v, hl, h, r => by
    cases x with
    | dat d' => cases h; exact Rep.mono e.up _ _ r
    | no => cases h
    | rf i =>
      have r' : v = .ref (al i) := r
      subst r'
      have hl' := hl (by omega)
      simp only [G.res] at h
      cases hs : S[i]? with
      | none => rw [hs] at h; cases h
      | some b =>
        rw [hs] at h
        cases b with
        | gone => cases h
        | lst xs =>
          cases ha : alls (G.res S n) xs with
          | none => simp only [ha] at h; cases h
          | some ds =>
            simp only [ha] at h
            cases h
            obtain ⟨o, h3, h4, h5⟩ := e.ob i _ hs (fun z => by cases z)
            cases o <;> first
              | exact h4.elim
              | skip
            rename_i vs
            refine .lst (.inl (by rw [lendM_yes ⟨hl', i, _, hs, (fun z => by cases z), rfl⟩]; exact h3)) ?_
            exact alls_rep (fun x d v q r => EvM.res e n x d v (fun _ => hl') q r) ha h4
        | ins C ns xs =>
          cases ha : alls (G.res S n) xs with
          | none => simp only [ha] at h; cases h
          | some ds =>
            simp only [ha] at h
            cases h
            obtain ⟨o, h3, h4, h5⟩ := e.ob i _ hs (fun z => by cases z)
            cases o <;> first
              | exact h4.elim
              | skip
            rename_i C0 dx fs
            obtain ⟨rfl, hn, vs, rfl, rr⟩ := h4
            have rl := alls_rep (fun x d v q r => EvM.res e n x d v (fun _ => hl') q r) ha rr
            refine .ins (by rw [lendM_yes ⟨hl', i, _, hs, (fun z => by cases z), rfl⟩]; exact h3) ?_ rl
            rw [hn, ← rr.len, rl.len]
        | dct ks xs =>
          cases ha : alls (G.res S n) xs with
          | none => simp only [ha] at h; cases h
          | some ds =>
            simp only [ha] at h
            cases h
            obtain ⟨o, h3, h4, h5⟩ := e.ob i _ hs (fun z => by cases z)
            cases o <;> first
              | exact h4.elim
              | skip
            rename_i kvs
            obtain ⟨hn, vs, rfl, rr⟩ := h4
            have rl := alls_rep (fun x d v q r => EvM.res e n x d v (fun _ => hl') q r) ha rr
            refine .dct (by rw [lendM_yes ⟨hl', i, _, hs, (fun z => by cases z), rfl⟩]; exact h3) ?_ rl
            rw [hn, ← rr.len, rl.len]
        | ndc w kds xs =>
          cases ha : alls (G.res S n) xs with
          | none => simp only [ha] at h; cases h
          | some ds =>
            simp only [ha] at h
            cases h
            obtain ⟨o, h3, h4, h5⟩ := e.ob i _ hs (fun z => by cases z)
            cases o <;> first
              | exact h4.elim
              | skip
            rename_i φ
            obtain ⟨a, es, vs, rfl, q1, q2, q3, q4, rr⟩ := h4
            have rl := alls_rep (fun x d v q r => EvM.res e n x d v (fun _ => hl') q r) ha rr
            exact .ndc (by rw [lendM_yes ⟨hl', i, _, hs, (fun z => by cases z), rfl⟩]; exact h3) q1 q2 (q3.mono e.up) q4 rl
theorem EvM.env (e : EvM K B H R σ al ρ S) : EnvR K (lendM l H R al S) σ (fm l S ρ) := ⟨by rw [e.len]; simp [fm], fun i d h => by
  unfold fm at h
  rw [List.getElem?_map] at h
  cases hs : ρ[i]? with
  | none => rw [hs] at h; cases h
  | some x =>
    rw [hs] at h
    have h' : rd l S x = some d := Option.some.inj h
    rcases e.ok i x hs with rfl | ⟨v, h1, h2⟩
    · unfold rd at h'
      cases l <;> cases h'
    · refine ⟨v, h1, e.res (if l then 4 else 0) x d v (fun z => ?_) h' h2⟩
      cases l with
      | true => rfl
      | false => exact absurd rfl z⟩
/-- behind an expression -/
theorem EvM.run (e : EvM K B H R σ al ρ S) (g : Gr H (lendM l H R al S) H' R') : EvM K B H' (lessM l R' al S) σ al ρ S ∧ Same R (lessM l R' al S) ∧
    (∀ v d, (l = true → d.sol = true) → Rep K R' v d → Rep K (lessM l R' al S) v d) ∧ (∀ vs ds, (l = true → D.solL ds = true) → RepL K R' vs ds → RepL K (lessM l R' al S) vs ds) ∧ (∀ a, R' a = none → lessM l R' al S a = none) ∧
    ∀ a o, R' a = some o → ((∃ zs, o = .tup zs) ∨ ∃ fs, o = .xd fs) → lessM l R' al S a = some o := by
  have up : Same R (lessM l R' al S) := fun a o h => by
    rw [lessM_no (fun z => by rw [(e.own z.2).2.1] at h; cases h)]
    exact g.r a o (e.up a o h)
  have nx : ∀ b o, R' b = some o → ((∃ zs, o = .tup zs) ∨ (∃ fs, o = .xd fs) ∨ ∃ ob w, o = .frz ob w) → ¬ (l = true ∧ OwnM al S b) := fun b o h q z => by
    obtain ⟨⟨x, u, hx, t⟩, _, _⟩ := e.own z.2
    have h1 : R' b = some x := g.r b _ (by rw [lendM_yes z]; exact hx)
    rw [h] at h1
    cases h1
    obtain ⟨n1, n2, n3⟩ := t.ne
    rcases q with ⟨zs, q⟩ | ⟨fs, q⟩ | ⟨ob, w, q⟩
    · exact n1 zs q
    · exact n3 fs q
    · exact n2 ob w q
  have tu : ∀ b zs, Rd R' b (.tup zs) → Rd (lessM l R' al S) b (.tup zs) := fun b zs h => by
    rcases h with h | ⟨o, h⟩
    · exact .inl (by rw [lessM_no (nx b _ h (.inl ⟨zs, rfl⟩))]; exact h)
    · exact .inr ⟨o, by rw [lessM_no (nx b _ h (.inr (.inr ⟨o, _, rfl⟩)))]; exact h⟩
  have eqf : l = false → lessM l R' al S = R' := fun hl => by
    funext a
    exact lessM_no (fun z => by rw [hl] at z; cases z.1)
  refine ⟨⟨e.r.trans up, fun a o h => ?_, fun a o h n => g.h a o (e.h a o h n), fun a o h => ?_, fun a o h nm n => ?_, e.len, fun i x hs => ?_, e.be, fun j b hs hb => ?_, e.fp, e.bo, e.inj, e.nl, e.na, e.nw, fun j hj => ?_⟩, up, fun v d hs r => ?_, fun vs ds hs r => ?_, fun a h => ?_, fun a o h q => ?_⟩
  · by_cases z : l = true ∧ OwnM al S a
    · rw [lessM_yes z] at h; cases h
    · rw [lessM_no z] at h; exact g.i a o h
  · obtain ⟨o', h'⟩ := e.t a o h
    exact ⟨o', g.h a o' h'⟩
  · by_cases z : l = true ∧ OwnM al S a
    · exact lessM_yes z
    · rw [lessM_no z]
      obtain ⟨o', h'⟩ := e.t a o h
      exact g.o a o' h' (by rw [lendM_no z]; exact e.o a o h nm n)
  · rcases e.ok i x hs with h | ⟨v, h1, h2⟩
    · exact .inl h
    · exact .inr ⟨v, h1, h2.mono up⟩
  · obtain ⟨o, h1, h2, h3⟩ := e.ob j b hs hb
    refine ⟨o, g.h _ _ h1, h2.mono up, ?_⟩
    by_cases z : l = true ∧ OwnM al S (al j)
    · exact lessM_yes z
    · rw [lessM_no z]; exact g.o _ _ h1 (by rw [lendM_no z]; exact h3)
  · obtain ⟨o, h1⟩ := e.st j hj
    exact ⟨o, g.h _ _ h1⟩
  · cases l with
    | false => rw [eqf rfl]; exact r
    | true => exact Rep.solid tu d v (hs rfl) r
  · cases l with
    | false => rw [eqf rfl]; exact r
    | true => exact RepL.solid tu ds vs (hs rfl) r
  · by_cases z : l = true ∧ OwnM al S a
    · exact lessM_yes z
    · rw [lessM_no z]; exact h
  · rw [lessM_no (nx a o h (q.imp id .inl))]; exact h
theorem EvM.runF (e : EvM K B H R σ al ρ S) (g : Gr H R H' R') : EvM K B H' R' σ al ρ S := by
  have := (e.run (l := false) (by rw [lendM_f]; exact g)).1
  rw [lessM_f] at this
  exact this
/-- a name takes a datum or what is a number of the store -/
theorem EvM.set (e : EvM K B H R σ al ρ S) {i : Nat} {x : SD} {v : V} (r : VOk K R al x v) (hb : x.below S.length) : EvM K B H R (σ.set i (some v)) al (ρ.set i x) S := by
  refine ⟨e.r, e.i, e.h, e.t, e.o, by simp [e.len], fun j y hs => ?_, fun y hy => ?_, e.ob, e.fp, e.bo, e.inj, e.nl, e.na, e.nw, e.st⟩
  · by_cases hj : i = j
    · subst hj
      obtain ⟨rfl, hi⟩ := set_self_some hs
      exact .inr ⟨v, by rw [List.getElem?_set_self (by rw [e.len]; exact hi)], r⟩
    · rw [List.getElem?_set_ne hj] at hs ⊢
      exact e.ok j y hs
  · rcases List.mem_or_eq_of_mem_set hy with hy | rfl
    · exact e.be y hy
    · exact hb
theorem EvM.drop (e : EvM K B H R σ al ρ S) {i : Nat} : EvM K B H R (σ.set i none) al (ρ.set i .no) S := by
  refine ⟨e.r, e.i, e.h, e.t, e.o, by simp [e.len], fun j y hs => ?_, fun y hy => ?_, e.ob, e.fp, e.bo, e.inj, e.nl, e.na, e.nw, e.st⟩
  · by_cases hj : i = j
    · subst hj
      exact .inl (set_self_some hs).1
    · rw [List.getElem?_set_ne hj] at hs ⊢
      exact e.ok j y hs
  · rcases List.mem_or_eq_of_mem_set hy with hy | rfl
    · exact e.be y hy
    · trivial
/-- an object of the store is changed -/
theorem EvM.put (e : EvM K B H R σ al ρ S) {j : Nat} {b c : Ob} {y : HO} (h1 : S[j]? = some b) (hb : b ≠ .gone) (t : ObOk K R al y c) (hc : ∀ x ∈ c.parts, x.below S.length) : EvM K B (upd H (al j) y) R σ al ρ (S.set j c) := by
  have hj : j < S.length := (List.getElem?_eq_some_iff.mp h1).1
  obtain ⟨o0, k1, k2, k3⟩ := e.ob j b h1 hb
  have k4 := e.fp j hj
  refine ⟨e.r, fun a o h => ?_, fun a o h n => ?_, fun a o h => ?_, e.o, e.len, e.ok, fun x hx => by rw [List.length_set]; exact e.be x hx, fun m c' hs hg => ?_, fun m hm => e.fp m (by rw [List.length_set] at hm; exact hm), fun m c' hs x hx => ?_, ?_, by rw [List.length_set]; exact e.nl, e.na, fun m hm hs => e.nw m hm (by rw [List.length_set] at hs; exact hs), fun m hm => ?_⟩
  · rw [upd_ne (ne_of_none h k3)]; exact e.i a o h
  · have hne : a ≠ al j := fun z => by
      subst z
      rcases k4 with k4 | k4
      · rw [k4] at h; cases h
      · exact n k4
    rw [upd_ne hne]; exact e.h a o h n
  · by_cases z : a = al j
    · subst z; exact ⟨y, upd_same⟩
    · rw [upd_ne z]; exact e.t a o h
  · by_cases hm : j = m
    · subst hm
      obtain ⟨rfl, _⟩ := set_self_some hs
      exact ⟨y, upd_same, t, k3⟩
    · rw [List.getElem?_set_ne hm] at hs
      obtain ⟨o', q1, q2, q3⟩ := e.ob m c' hs hg
      have hne : al m ≠ al j := fun z => hm (e.inj m j (List.getElem?_eq_some_iff.mp hs).1 hj z).symm
      exact ⟨o', by rw [upd_ne hne]; exact q1, q2, q3⟩
  · rw [List.length_set]
    by_cases hm : j = m
    · subst hm
      obtain ⟨rfl, _⟩ := set_self_some hs
      exact hc x hx
    · rw [List.getElem?_set_ne hm] at hs
      exact e.bo m c' hs x hx
  · intro m k hm hk
    rw [List.length_set] at hm hk
    exact e.inj m k hm hk
  · rw [List.length_set] at hm
    by_cases z : al m = al j
    · rw [z]; exact ⟨y, upd_same⟩
    · rw [upd_ne z]; exact e.st m hm
def extA (al : Nat → Addr) (n : Nat) (p : Addr) : Nat → Addr := fun j => if j = n then p else al j
theorem extA_lt {n i : Nat} {p : Addr} (h : i < n) : extA al n p i = al i := if_neg (by omega)
theorem extA_eq {n : Nat} {p : Addr} : extA al n p n = p := if_pos rfl
theorem snoc_get {S : Sto} {c : Ob} {j : Nat} {b : Ob} (h : (S ++ [c])[j]? = some b) : (j < S.length ∧ S[j]? = some b) ∨ (j = S.length ∧ b = c) := by
  by_cases hj : j < S.length
  · rw [List.getElem?_append_left hj] at h; exact .inl ⟨hj, h⟩
  · rw [List.getElem?_append_right (by omega)] at h
    have : j - S.length = 0 := by
      have := (List.getElem?_eq_some_iff.mp h).1
      simp at this; omega
    rw [this] at h
    simp at h
    exact .inr ⟨by omega, h.symm⟩
theorem SD.below_mono {n m : Nat} (h : n ≤ m) : ∀ {x : SD}, x.below n → x.below m
  | .no, _ => trivial
  | .dat _, _ => trivial
  | .rf i, b => Nat.lt_of_lt_of_le b h
/-- a new object comes into the store -/
theorem EvM.alloc (e : EvM K B H R σ al ρ S) {p : Addr} {y : HO} {c : Ob} (hp : H p = some y) (hr : R p = none) (h0 : B.H p = none) (hn : ∀ j, j < S.length → al j ≠ p) (t : ObOk K R al y c) (hc : ∀ x ∈ c.parts, x.below S.length) :
    EvM K B H R σ (extA al S.length p) ρ (S ++ [c]) := by
  have l1 : (S ++ [c]).length = S.length + 1 := by simp
  have mv : ∀ i, i < S.length → extA al S.length p i = al i := fun i hi => extA_lt hi
  have up : ∀ x : SD, x.below S.length → x.below (S ++ [c]).length := fun x hx => SD.below_mono (by rw [l1]; omega) hx
  have nl := e.nl
  refine ⟨e.r, e.i, e.h, e.t, e.o, e.len, fun i x hs => ?_, fun x hx => up x (e.be x hx), fun j b hs hg => ?_, fun j hj => ?_, fun j b hs x hx => ?_, ?_, by rw [l1]; omega, fun j hj => ?_, fun j hm hj => ?_, fun j hj => ?_⟩
  · rcases e.ok i x hs with h | ⟨v, h1, h2⟩
    · exact .inl h
    · exact .inr ⟨v, h1, h2.move mv (e.be x (List.mem_of_getElem? hs))⟩
  · rcases snoc_get hs with ⟨hj, h⟩ | ⟨rfl, rfl⟩
    · obtain ⟨o, h1, h2, h3⟩ := e.ob j b h hg
      rw [mv j hj]
      exact ⟨o, h1, h2.move mv (e.bo j b h), h3⟩
    · rw [extA_eq]
      exact ⟨y, hp, t.move mv hc, hr⟩
  · rw [l1] at hj
    by_cases h1 : j = S.length
    · rw [h1, extA_eq]; exact .inl h0
    · rw [mv j (by omega)]; exact e.fp j (by omega)
  · rcases snoc_get hs with ⟨hj, h⟩ | ⟨rfl, rfl⟩
    · exact up x (e.bo j b h x hx)
    · exact up x (hc x hx)
  · intro j k hj hk hjk
    rw [l1] at hj hk
    by_cases h1 : j = S.length
    · by_cases h2 : k = S.length
      · omega
      · rw [h1, extA_eq, mv k (by omega)] at hjk
        exact absurd hjk.symm (hn k (by omega))
    · by_cases h2 : k = S.length
      · rw [h2, extA_eq, mv j (by omega)] at hjk
        exact absurd hjk (hn j (by omega))
      · rw [mv j (by omega), mv k (by omega)] at hjk
        exact e.inj j k (by omega) (by omega) hjk
  · rw [mv j (by omega)]; exact e.na j hj
  · rw [l1] at hj
    by_cases h1 : j = S.length
    · rw [h1, extA_eq]; exact h0
    · rw [mv j (by omega)]; exact e.nw j hm (by omega)
  · rw [l1] at hj
    by_cases h1 : j = S.length
    · rw [h1, extA_eq]; exact ⟨y, hp⟩
    · rw [mv j (by omega)]; exact e.st j (by omega)
/-- an address of the store's objects -/
def OwnA (al : Nat → Addr) (S : Sto) (a : Addr) : Prop := ∃ j, j < S.length ∧ al j = a
/-- at the entry of a def -/
def StoOk (K : PySem.W.Frag) (R H : Hp) (al : Nat → Addr) (S : Sto) : Prop :=
  (∀ (j : Nat) (b : Ob), S[j]? = some b → b ≠ .gone → ∃ o, H (al j) = some o ∧ ObOk K R al o b ∧ R (al j) = none) ∧ (∀ (j : Nat) (b : Ob), S[j]? = some b → ∀ x ∈ b.parts, x.below S.length) ∧ (∀ j k, j < S.length → k < S.length → al j = al k → j = k) ∧ ∀ j, j < S.length → ∃ o, H (al j) = some o
theorem EvM.enter {vs : List V} {args : List SD} {n : Nat} (s : Same R H) (r : VsOk K R al args vs) (hb : ∀ x ∈ args, x.below S.length) (k : StoOk K R H al S) :
    EvM K ⟨OwnA al S, H, R, al, S.length⟩ H R (vs.map some ++ List.replicate n none) al (args ++ List.replicate n SD.no) S := by
  obtain ⟨k1, k2, k3, k4⟩ := k
  refine ⟨Same.refl _, s, fun _ _ h _ => h, fun a o h => ⟨o, h⟩, fun _ _ _ _ n => n, by simp [r.len], fun i x hs => ?_, fun x hx => ?_, k1, fun j hj => .inr ⟨j, hj, rfl⟩, k2, k3, Nat.le_refl _, fun _ _ => rfl, fun j hm hj => absurd hj (Nat.not_lt.mpr hm), k4⟩
  · by_cases hi : i < args.length
    · rw [List.getElem?_append_left hi] at hs
      obtain ⟨v, h1, h2⟩ := r.get hs
      refine .inr ⟨v, ?_, h2⟩
      rw [List.getElem?_append_left (by rw [List.length_map, r.len]; exact hi), List.getElem?_map, h1]; rfl
    · rw [List.getElem?_append_right (by omega)] at hs
      exact .inl (List.mem_replicate.mp (List.mem_of_getElem? hs)).2
  · rcases List.mem_append.mp hx with hx | hx
    · exact hb x hx
    · rw [(List.mem_replicate.mp hx).2]; trivial
end
end G

set_option Elab.async false
set_option linter.all false
set_option maxRecDepth 100000
set_option maxHeartbeats 4000000
/-! Mwp: expressions and statements over a store, told forwards. -/
namespace G
open PySem PySem.Spec PyProof.Rows L2
/-- what has grown -/
structure MGr (S S' : Sto) (R R' : Hp) (al al' : Nat → Addr) : Prop where
  s : Same R R'
  a : ∀ j, j < S.length → al' j = al j
  l : S.length ≤ S'.length
theorem MGr.refl {S : Sto} {R : Hp} {al : Nat → Addr} : MGr S S R R al al := ⟨Same.refl _, fun _ _ => rfl, Nat.le_refl _⟩
theorem MGr.trans {S S1 S2 : Sto} {R R1 R2 : Hp} {al al1 al2 : Nat → Addr} (g : MGr S S1 R R1 al al1) (k : MGr S1 S2 R1 R2 al1 al2) : MGr S S2 R R2 al al2 :=
  ⟨g.s.trans k.s, fun j hj => (k.a j (Nat.lt_of_lt_of_le hj g.l)).trans (g.a j hj), Nat.le_trans g.l k.l⟩
section
variable (K : PySem.W.Frag)
/-- the expression gives x; behind it the store is S' -/
def MX (ρ : MEnv) (S : Sto) (te : TE) (x : SD) (S' : Sto) : Prop := ∀ (B : Bs) (H R : Hp) (σ : L2.St) (al : Nat → Addr) (Q : VK), EvM K B H R σ al ρ S →
  (∀ v H' R' al', EvM K B H' R' σ al' ρ S' → MGr S S' R R' al al' → VOk K R' al' x v → x.below S'.length → Q v H') → te σ H Q
/-- .. a row of arguments -/
def MA (ρ : MEnv) (S : Sto) (ta : TA) (xs : List SD) (S' : Sto) : Prop := ∀ (B : Bs) (H R : Hp) (σ : L2.St) (al : Nat → Addr) (Q : List V → Hp → Prop), EvM K B H R σ al ρ S →
  (∀ vs H' R' al', EvM K B H' R' σ al' ρ S' → MGr S S' R R' al al' → VsOk K R' al' xs vs → (∀ x ∈ xs, x.below S'.length) → Q vs H') → ta σ H Q
/-- .. a test -/
def MT (ρ : MEnv) (S : Sto) (tt : TT) (b : Bool) (S' : Sto) : Prop := ∀ (B : Bs) (H R : Hp) (σ : L2.St) (al : Nat → Addr) (Q : Bool → Hp → Prop), EvM K B H R σ al ρ S →
  (∀ H' R' al', EvM K B H' R' σ al' ρ S' → MGr S S' R R' al al' → Q b H') → tt σ H Q
end
/-- the ways a statement ends -/
inductive OutM where
  | nx (ρ : MEnv) (S : Sto) | rt (x : SD) (S : Sto) | bk (ρ : MEnv) (S : Sto) | ct (ρ : MEnv) (S : Sto) | ex (ρ : MEnv) (S : Sto) (c : Value) (fs : List (Str × D))
def EvMS (K : PySem.W.Frag) (B : Bs) (H : Hp) (σ : L2.St) (ρ : MEnv) (S : Sto) : Prop := ∃ R al, EvM K B H R σ al ρ S
def OutMOk (K : PySem.W.Frag) (B : Bs) (W : WX) (E : Ends) : OutM → Prop
  | .nx ρ S => ∀ σ' H', EvMS K B H' σ' ρ S → E.nx σ' H'
  | .rt x S => ∀ v σ' H' R' al' ρ', EvM K B H' R' σ' al' ρ' S → VOk K R' al' x v → x.below S.length → E.rt v H'
  | .bk ρ S => ∀ σ' H', EvMS K B H' σ' ρ S → E.bk σ' H'
  | .ct ρ S => ∀ σ' H', EvMS K B H' σ' ρ S → E.ct σ' H'
  | .ex ρ S c fs => ∀ σ' H' R' al' dd, EvM K B H' R' σ' al' ρ S → ExOk K R' dd fs → W c dd σ' H'
def DSM (K : PySem.W.Frag) (W : WX) (ρ : MEnv) (S : Sto) (t : TS) (o : OutM) : Prop := ∀ (B : Bs) (H : Hp) (σ : L2.St) (E : Ends), EvMS K B H σ ρ S → OutMOk K B W E o → t E σ H
def WM (K : PySem.W.Frag) (W : WX) (ρ : MEnv) (S : Sto) (t : TS) (O : OutM → Prop) : Prop := ∃ o, O o ∧ DSM K W ρ S t o
def OutM.out : OutM → Bool
  | .nx _ _ => false
  | _ => true
def OutM.noEx : OutM → Bool
  | .ex _ _ _ _ => false
  | _ => true
/-- a promise of a def over a store -/
inductive ResM where
  | rt (x : SD) (S : Sto) | ex (c : Value) (fs : List (Str × D)) (S : Sto)
structure GrM (M : Addr → Prop) (H R H' R' : Hp) : Prop where
  h : ∀ a o, H a = some o → ¬ M a → H' a = some o
  t : ∀ a o, H a = some o → ∃ o', H' a = some o'
  r : Same R R'
  i : Same R' H'
  o : ∀ a o, H a = some o → ¬ M a → R a = none → R' a = none
structure StoGr (K : PySem.W.Frag) (H : Hp) (al : Nat → Addr) (S : Sto) (H' R' : Hp) (al' : Nat → Addr) (S' : Sto) : Prop where
  ok : StoOk K R' H' al' S'
  al : ∀ j, j < S.length → al' j = al j
  nw : ∀ j, S.length ≤ j → j < S'.length → H (al' j) = none
  nl : S.length ≤ S'.length
def ResMOk (K : PySem.W.Frag) (H R : Hp) (al : Nat → Addr) (S : Sto) (Q : VK) (E : XK) : ResM → Prop
  | .rt x S' => ∀ v H' R' al', GrM (OwnA al S) H R H' R' → StoGr K H al S H' R' al' S' → VOk K R' al' x v → x.below S'.length → Q v H'
  | .ex c fs S' => ∀ dd H' R' al', GrM (OwnA al S) H R H' R' → StoGr K H al S H' R' al' S' → ExOk K R' dd fs → E c dd H'
def spM (K : PySem.W.Frag) (rel : List SD → Sto → ResM → Prop) : Sp := fun vs H Q E => ∃ R al args S r, Same R H ∧ VsOk K R al args vs ∧ (∀ x ∈ args, x.below S.length) ∧ StoOk K R H al S ∧ rel args S r ∧ ResMOk K H R al S Q E r
section
variable {K : PySem.W.Frag} {W : WX} {ρ ρ' : MEnv} {S S' S1 S2 : Sto} {te ta tb : TE} {tt tu : TT} {t u v : TS} {a : TA} {d : D} {ds es xs : List D} {x y : SD} {zs : List SD} {i j n : Nat} {b c : Bool} {g : TG} {ps : List (Nat × D)} {O O' : OutM → Prop} {wi : TI}
theorem EvM.sto {B : Bs} {H R : Hp} {σ : L2.St} {al : Nat → Addr} (e : EvM K B H R σ al ρ S) : StoOk K R H al S :=
  ⟨e.ob, e.bo, e.inj, e.st⟩
/-- behind a call -/
theorem EvM.after {B : Bs} {H R H' R' : Hp} {σ : L2.St} {al al' : Nat → Addr} (e : EvM K B H R σ al ρ S) (g : GrM (OwnA al S) H R H' R') (k : StoGr K H al S H' R' al' S') : EvM K B H' R' σ al' ρ S' := by
  obtain ⟨k1, k2, k3, k4⟩ := k.ok
  have fresh : ∀ a, H a = none → B.H a = none := fun a ha => by
    cases q : B.H a with
    | none => rfl
    | some o => obtain ⟨o', z⟩ := e.t a o q; rw [ha] at z; cases z
  have own : ∀ a o, B.H a = some o → ¬ B.M a → ¬ OwnA al S a := fun a o h n ⟨j, hj, z⟩ => by
    subst z
    rcases e.fp j hj with q | q
    · rw [q] at h; cases h
    · exact n q
  refine ⟨e.r.trans g.r, g.i, fun a o h n => g.h a o (e.h a o h n) (own a o h n), fun a o h => by obtain ⟨o', z⟩ := e.t a o h; exact g.t a o' z, fun a o h nm n => by obtain ⟨o', z⟩ := e.t a o h; exact g.o a o' z (own a o h nm) (e.o a o h nm n), e.len, fun i x hs => ?_,
    fun x hx => SD.below_mono k.nl (e.be x hx), k1, fun j hj => ?_, k2, k3, Nat.le_trans e.nl k.nl, fun j hj => (k.al j (Nat.lt_of_lt_of_le hj e.nl)).trans (e.na j hj), fun j hm hj => ?_, k4⟩
  · rcases e.ok i x hs with h | ⟨v, h1, h2⟩
    · exact .inl h
    · exact .inr ⟨v, h1, (h2.mono g.r).move k.al (e.be x (List.mem_of_getElem? hs))⟩
  · by_cases hjs : j < S.length
    · rw [k.al j hjs]; exact e.fp j hjs
    · exact .inl (fresh _ (k.nw j (by omega) hj))
  · by_cases hjs : j < S.length
    · rw [k.al j hjs]; exact e.nw j hm hjs
    · exact fresh _ (k.nw j (by omega) hj)
/-! ### expressions -/
theorem mx_de (l : Bool) (h : DE K (fm l S ρ) te d) (hs : l = true → d.sol = true) : MX K ρ S te (.dat d) S := fun B H R σ al Q e q =>
  h H _ σ _ e.lendI e.env fun v H1 R1 g r => by
    obtain ⟨e1, up, k, _⟩ := e.run g
    exact q v H1 _ al e1 ⟨up, fun _ _ => rfl, Nat.le_refl _⟩ (k v d hs r) trivial
theorem EvM.new {B : Bs} {H R : Hp} {σ : L2.St} {al : Nat → Addr} (e : EvM K B H R σ al ρ S) {p : Addr} {y : HO} {c : Ob} (hp : H p = none) (t : ObOk K R al y c) (hc : ∀ x ∈ c.parts, x.below S.length) : EvM K B (upd H p y) R σ (extA al S.length p) ρ (S ++ [c]) := by
  have e1 := e.runF (Gr.apart e.i hp (u := y))
  have hB : B.H p = none := by
    cases z : B.H p with
    | none => rfl
    | some o => obtain ⟨o', z'⟩ := e.t p o z; rw [hp] at z'; cases z'
  exact e1.alloc upd_same (e.i.free hp) hB (fun j hj z => by obtain ⟨o, w⟩ := e.st j hj; rw [z, hp] at w; cases w) t hc
theorem mgr_new {R : Hp} {al : Nat → Addr} {p : Addr} {c : Ob} : MGr S (S ++ [c]) R R al (extA al S.length p) := ⟨Same.refl _, fun j hj => extA_lt hj, by simp⟩
theorem new_below {c : Ob} : (SD.rf S.length).below (S ++ [c]).length := by show S.length < _; simp
theorem new_ok {R : Hp} {al : Nat → Addr} {p : Addr} : VOk K R (extA al S.length p) (.rf S.length) (.ref p) := by show V.ref p = .ref (extA al S.length p S.length); rw [extA_eq]
theorem mx_dl (l : Bool) (h : DL K (fm l S ρ) te ds) (hs : l = true → D.solL ds = true) : MX K ρ S te (.rf S.length) (S ++ [.lst (ds.map SD.dat)]) := fun B H R σ al Q e q =>
  h H _ σ _ e.lendI e.env fun p vs H1 R1 g hp h2 h3 h4 r => by
    obtain ⟨e1, up, _, k, n, _⟩ := e.run g
    have hB : B.H p = none := by
      cases z : B.H p with
      | none => rfl
      | some o => obtain ⟨o', z'⟩ := e.t p o z; rw [hp] at z'; cases z'
    have e2 := e1.alloc h2 (n p h3) hB (fun j hj z => by obtain ⟨o, w⟩ := e.st j hj; rw [z, hp] at w; cases w) (c := .lst (ds.map SD.dat)) (VsOk.dats (k vs ds hs r)) (fun x hx => by
      obtain ⟨d, _, rfl⟩ := List.mem_map.mp hx; trivial)
    exact q (.ref p) H1 _ _ e2 ⟨up, fun j hj => extA_lt hj, by simp⟩ new_ok new_below
theorem mx_var (h : ρ[i]? = some x) (hx : x ≠ .no) : MX K ρ S (tVar i) x S := fun B H R σ al Q e q => by
  rcases e.ok i x h with z | ⟨v, h1, h2⟩
  · exact absurd z hx
  · exact ⟨v, h1, q v H R al e MGr.refl h2 (e.be x (List.mem_of_getElem? h))⟩
/-- the object of a number, a list -/
theorem EvM.lst {B : Bs} {H R : Hp} {σ : L2.St} {al : Nat → Addr} {zs : List SD} (e : EvM K B H R σ al ρ S) (h : S[j]? = some (.lst zs)) : ∃ vs, H (al j) = some (.lst vs) ∧ VsOk K R al zs vs := by
  obtain ⟨o, a1, a2, a3⟩ := e.ob j _ h (fun z => by cases z)
  cases o <;> first
    | exact a2.elim
    | exact ⟨_, a1, a2⟩
theorem EvM.ins {B : Bs} {H R : Hp} {σ : L2.St} {al : Nat → Addr} {C : Addr} {ns : List Str} {zs : List SD} (e : EvM K B H R σ al ρ S) (h : S[j]? = some (.ins C ns zs)) : ∃ dx vs, H (al j) = some (.ins C dx (ns.zip vs)) ∧ ns.length = zs.length ∧ VsOk K R al zs vs := by
  obtain ⟨o, a1, a2, a3⟩ := e.ob j _ h (fun z => by cases z)
  cases o <;> first
    | exact a2.elim
    | skip
  obtain ⟨rfl, hl, vs, rfl, rr⟩ := a2
  exact ⟨_, vs, a1, hl, rr⟩
theorem mx_ix (l : Bool) {zs : List SD} {m : Int} {k : Nat} (h1 : MX K ρ S ta (.rf j) S1) (h2 : DE K (fm l S1 ρ) tb (.int m)) (h3 : S1[j]? = some (.lst zs)) (h4 : ixN zs.length m = some k) (h5 : zs[k]? = some x) : MX K ρ S (tOp (rIx' K) ta tb) x S1 := fun B H R σ al Q e q =>
  h1 B H R σ al _ e fun v H1 R1 al1 e1 ga r1 _ => h2 H1 _ σ _ e1.lendI e1.env fun w H2 R2 g r2 => by
    cases r2
    obtain ⟨e2, up, _⟩ := e1.run g
    obtain ⟨vs, a1, a2⟩ := e2.lst h3
    have r1' : v = .ref (al1 j) := r1
    subst r1'
    obtain ⟨w, b1, b2⟩ := a2.get h5
    exact r_ixL (SqL.of a1) (by unfold atI; rw [a2.len, h4]; exact b1) (q w H2 _ al1 e2 (ga.trans ⟨up, fun _ _ => rfl, Nat.le_refl _⟩) b2 (e2.bo j _ h3 x (List.mem_of_getElem? h5)))
theorem lookupSD {R : Hp} {al : Nat → Addr} {ns : List Str} {zs : List SD} {vs : List V} {f : Str} {x : SD} (hl : ns.length = zs.length) (r : VsOk K R al zs vs) (h : (ns.zip zs).lookup f = some x) : ∃ v, (ns.zip vs).lookup f = some v ∧ VOk K R al x v ∧ x ∈ zs := by
  induction ns generalizing vs zs with
  | nil => simp at h
  | cons n ns ih =>
    cases r with
    | nil => simp at hl
    | @cons d' v zs vs r0 rr =>
      simp only [List.zip_cons_cons, List.lookup_cons] at h ⊢
      cases hb : f == n with
      | true => rw [hb] at h; cases h; exact ⟨v, rfl, r0, List.mem_cons_self⟩
      | false =>
        rw [hb] at h
        obtain ⟨w, k1, k2, k3⟩ := ih (by simpa using hl) rr h
        exact ⟨w, k1, k2, List.mem_cons_of_mem _ k3⟩
theorem mx_fld {C : Addr} {ns : List Str} {zs : List SD} {f : Str} (h1 : MX K ρ S te (.rf j) S1) (h3 : S1[j]? = some (.ins C ns zs)) (hc : Cls K C) (hn : NoAttr K C f) (h5 : (ns.zip zs).lookup f = some x) : MX K ρ S (tFld K te f) x S1 := fun B H R σ al Q e q =>
  h1 B H R σ al _ e fun v H1 R1 al1 e1 ga r1 _ => by
    obtain ⟨dx, vs, a1, hl, rr⟩ := e1.ins h3
    have r1' : v = .ref (al1 j) := r1
    subst r1'
    obtain ⟨w, b1, b2, b3⟩ := lookupSD hl rr h5
    exact ⟨al1 j, C, dx, _, w, rfl, a1, hc, hn, b1, q w H1 R1 al1 e1 ga b2 (e1.bo j _ h3 x b3)⟩
theorem ma_nil : MA K ρ S tNil [] S := fun B H R σ al Q e q => q [] H R al e MGr.refl .nil (fun x hx => by cases hx)
theorem ma_cons {v0 : SD} (h1 : MX K ρ S te v0 S1) (h2 : MA K ρ S1 a zs S2) : MA K ρ S (tCons te a) (v0 :: zs) S2 := fun B H R σ al Q e q =>
  h1 B H R σ al _ e fun v H1 R1 al1 e1 ga r1 hb => h2 B H1 R1 σ al1 _ e1 fun vs H2 R2 al2 e2 ga2 r2 hb2 =>
    q (v :: vs) H2 R2 al2 e2 (ga.trans ga2) (.cons ((r1.mono ga2.s).move ga2.a hb) r2) (fun x hx => by
      rcases List.mem_cons.mp hx with rfl | hx
      · exact SD.below_mono ga2.l hb
      · exact hb2 x hx)
theorem mx_lst (h : MA K ρ S a zs S1) (hn : zs.length ≤ 10000000) : MX K ρ S (tLst a) (.rf S1.length) (S1 ++ [.lst zs]) := fun B H R σ al Q e q =>
  h B H R σ al _ e fun vs H1 R1 al1 e1 ga r hb => ⟨small (by rw [r.len]; exact hn), fun p hp => q (.ref p) _ R1 _ (e1.new hp (c := .lst zs) r hb) (ga.trans mgr_new) new_ok new_below⟩
/-- a def over the store is called -/
theorem EvM.call {B : Bs} {H R : Hp} {σ : L2.St} {al : Nat → Addr} {rel : List SD → Sto → ResM → Prop} {vs : List V} {Q : VK} {E : XK} (e : EvM K B H R σ al ρ S) (r : VsOk K R al zs vs) (hb : ∀ x ∈ zs, x.below S.length) (hr : rel zs S (.rt x S'))
    (q : ∀ v H' R' al', EvM K B H' R' σ al' ρ S' → MGr S S' R R' al al' → VOk K R' al' x v → x.below S'.length → Q v H') : spM K rel vs H Q E :=
  ⟨R, al, zs, S, _, e.i, r, hb, e.sto, hr, fun v H' R' al' g k rv hx => q v H' R' al' (e.after g k) ⟨g.r, k.al, k.nl⟩ rv hx⟩
theorem mx_call {rel : List SD → Sto → ResM → Prop} {E : XK} (h : MA K ρ S a zs S1) (hr : rel zs S1 (.rt x S')) : MX K ρ S (tCallR (spM K rel) E a) x S' := fun B H R σ al Q e q =>
  h B H R σ al _ e fun vs H1 R1 al1 e1 ga r hb => e1.call r hb hr fun v H' R' al' e2 g2 rv hx => q v H' R' al' e2 (ga.trans g2) rv hx
theorem mx_callS {rel : List SD → Sto → ResM → Prop} {E : L2.St → XK} (h : MA K ρ S a zs S1) (hr : rel zs S1 (.rt x S')) : MX K ρ S (tCallS (spM K rel) E a) x S' := fun B H R σ al Q e q =>
  h B H R σ al _ e fun vs H1 R1 al1 e1 ga r hb => e1.call r hb hr fun v H' R' al' e2 g2 rv hx => q v H' R' al' e2 (ga.trans g2) rv hx
theorem mt_dt (l : Bool) (h : DT K (fm l S ρ) tt b) : MT K ρ S tt b S := fun B H R σ al Q e q =>
  h H _ σ _ e.lendI e.env fun H1 R1 g => by
    obtain ⟨e1, up, _⟩ := e.run g
    exact q H1 _ al e1 ⟨up, fun _ _ => rfl, Nat.le_refl _⟩
theorem mt_tru (h : MX K ρ S te (.dat d) S1) (o : d.truOk) : MT K ρ S (tTru' K te) d.truth S1 := fun B H R σ al Q e q =>
  h B H R σ al _ e fun v H1 R1 al1 e1 ga r _ => ⟨_, Rep.tru e1.i (show Rep K R1 v d from r) o, q H1 R1 al1 e1 ga⟩
theorem mt_test (h : MX K ρ S te (.dat (.bl b)) S1) : MT K ρ S (tTest te) b S1 := fun B H R σ al Q e q =>
  h B H R σ al _ e fun v H1 R1 al1 e1 ga r _ => by
    have r' : Rep K R1 v (.bl b) := r
    cases r'
    exact ⟨b, rfl, q H1 R1 al1 e1 ga⟩
theorem mt_not (h : MT K ρ S tt b S1) : MT K ρ S (tNot tt) (!b) S1 := fun B H R σ al Q e q => h B H R σ al _ e fun H1 R1 al1 e1 ga => q H1 R1 al1 e1 ga
theorem mt_or (h1 : MT K ρ S tt b S1) (h2 : b = false → MT K ρ S1 tu c S2) (hs : b = true → S2 = S1) : MT K ρ S (tOr tt tu) (b || c) S2 := fun B H R σ al Q e q =>
  h1 B H R σ al _ e fun H1 R1 al1 e1 ga => by
    cases b with
    | true => rw [hs rfl] at q; exact if_tt (q H1 R1 al1 e1 ga)
    | false => exact if_ff (h2 rfl B H1 R1 σ al1 _ e1 fun H2 R2 al2 e2 ga2 => q H2 R2 al2 e2 (ga.trans ga2))
theorem mt_and (h1 : MT K ρ S tt b S1) (h2 : b = true → MT K ρ S1 tu c S2) (hs : b = false → S2 = S1) : MT K ρ S (tAnd tt tu) (b && c) S2 := fun B H R σ al Q e q =>
  h1 B H R σ al _ e fun H1 R1 al1 e1 ga => by
    cases b with
    | false => rw [hs rfl] at q; exact if_ff (q H1 R1 al1 e1 ga)
    | true => exact if_tt (h2 rfl B H1 R1 σ al1 _ e1 fun H2 R2 al2 e2 ga2 => q H2 R2 al2 e2 (ga.trans ga2))
/-! ### statements -/
theorem DSM.unit {o : OutM} (h : DSM K W ρ S (tSeq t tNext) o) : DSM K W ρ S t o := fun B H σ E e k => h B H σ E e k
theorem m_last (h : WM K W ρ S (tSeq t tNext) O) : WM K W ρ S t O := let ⟨o, a, b⟩ := h; ⟨o, a, b.unit⟩
theorem m_assoc (h : WM K W ρ S (tSeq t (tSeq u v)) O) : WM K W ρ S (tSeq (tSeq t u) v) O := let ⟨o, a, b⟩ := h; ⟨o, a, fun B H σ E e k => b B H σ E e k⟩
theorem m_then (h : DSM K W ρ S t (.nx ρ' S')) (q : WM K W ρ' S' u O) : WM K W ρ S (tSeq t u) O := let ⟨o, a, b⟩ := q; ⟨o, a, fun B H σ E e k => h B H σ _ e fun σ' H' e' => b B H' σ' E e' k⟩
theorem m_done {o : OutM} (h : DSM K W ρ S t o) (ho : o.out = true := by rfl) (q : O o) : WM K W ρ S (tSeq t u) O := ⟨o, q, fun B H σ E e k => h B H σ _ e (by cases o <;> first | (cases ho; done) | exact k)⟩
theorem m_nx (q : O (.nx ρ S)) : WM K W ρ S tNext O := ⟨_, q, fun B H σ E e k => k σ H e⟩
theorem m_next (q : WM K W ρ S u O) : WM K W ρ S (tSeq tNext u) O := let ⟨o, a, b⟩ := q; ⟨o, a, fun B H σ E e k => b B H σ E e k⟩
theorem m_brk (q : O (.bk ρ S)) : WM K W ρ S (tSeq tBreak u) O := m_done (o := .bk ρ S) (fun B H σ E e k => k σ H e) rfl q
theorem m_cont (q : O (.ct ρ S)) : WM K W ρ S (tSeq tCont u) O := m_done (o := .ct ρ S) (fun B H σ E e k => k σ H e) rfl q
theorem m_asg (h : MX K ρ S te x S1) (q : WM K W (ρ.set i x) S1 u O) : WM K W ρ S (tSeq (tAsg te (gName i)) u) O := m_then (fun B H σ E ⟨R, al, e⟩ k =>
  h B H R σ al _ e fun v H1 R1 al1 e1 ga r hb => k _ H1 ⟨R1, al1, e1.set r hb⟩) q
theorem m_drop (h : MX K ρ S te x S1) (q : WM K W ρ S1 u O) : WM K W ρ S (tSeq (tDrop te) u) O := m_then (fun B H σ E ⟨R, al, e⟩ k =>
  h B H R σ al _ e fun v H1 R1 al1 e1 ga r hb => k _ H1 ⟨R1, al1, e1⟩) q
theorem m_ret (h : MX K ρ S te x S1) (q : O (.rt x S1)) : WM K W ρ S (tSeq (tRet te) u) O := m_done (o := .rt x S1) (fun B H σ E ⟨R, al, e⟩ k =>
  h B H R σ al _ e fun v H1 R1 al1 e1 ga r hb => k v σ H1 R1 al1 ρ e1 r hb) rfl q
theorem m_retN (q : O (.rt (.dat .non) S)) : WM K W ρ S (tSeq tRetN u) O := m_done (o := .rt (.dat .non) S) (fun B H σ E ⟨R, al, e⟩ k => k .non σ H R al ρ e .non trivial) rfl q
theorem m_if (h1 : MT K ρ S tt b S1) (h2 : b = true → WM K W ρ S1 (tSeq t v) O) (h3 : b = false → WM K W ρ S1 (tSeq u v) O) : WM K W ρ S (tSeq (tIfS tt t u) v) O := by
  cases b with
  | true =>
    obtain ⟨o, q, h⟩ := h2 rfl
    exact ⟨o, q, fun B H σ E ⟨R, al, e⟩ k => h1 B H R σ al _ e fun H1 R1 al1 e1 ga => if_tt (h B H1 σ E ⟨R1, al1, e1⟩ k)⟩
  | false =>
    obtain ⟨o, q, h⟩ := h3 rfl
    exact ⟨o, q, fun B H σ E ⟨R, al, e⟩ k => h1 B H R σ al _ e fun H1 R1 al1 e1 ga => if_ff (h B H1 σ E ⟨R1, al1, e1⟩ k)⟩
theorem m_ifT (h1 : MT K ρ S tt true S1) (h2 : WM K W ρ S1 (tSeq t v) O) : WM K W ρ S (tSeq (tIfS tt t u) v) O := m_if h1 (fun _ => h2) fun z => by cases z
theorem m_ifF (h1 : MT K ρ S tt false S1) (h2 : WM K W ρ S1 (tSeq u v) O) : WM K W ρ S (tSeq (tIfS tt t u) v) O := m_if h1 (fun z => by cases z) fun _ => h2
/-- o.append(e) -/
theorem m_app {to : TE} {zs : List SD} (h1 : MX K ρ S to (.rf j) S1) (h0 : ∃ ys, S1[j]? = some (.lst ys)) (h2 : MX K ρ S1 te x S2) (h3 : S2[j]? = some (.lst zs)) (hn : zs.length < 10000000) (q : WM K W ρ (S2.set j (.lst (zs ++ [x]))) u O) :
    WM K W ρ S (tSeq (tDrop (tBM K "list" rAppend to (tCons te tNil))) u) O := m_then (fun B H σ E ⟨R, al, e⟩ k =>
  h1 B H R σ al _ e fun v H1 R1 al1 e1 ga r1 hj => by
    have r1' : v = .ref (al1 j) := r1
    subst r1'
    obtain ⟨ys, h0⟩ := h0
    obtain ⟨vs0, a0, _⟩ := e1.lst h0
    refine ⟨.inl ⟨rfl, vs0, SqL.of a0⟩, ?_⟩
    refine h2 B H1 R1 σ al1 _ e1 fun w H2 R2 al2 e2 ga2 r2 hb => ?_
    obtain ⟨vs, a1, a2⟩ := e2.lst h3
    have ej : al2 j = al1 j := ga2.a j hj
    refine ⟨al1 j, vs, w, rfl, rfl, by rw [← ej]; exact a1, smallL (by rw [a2.len]; exact hn), ?_⟩
    rw [← ej]
    refine k _ _ ⟨R2, al2, e2.put h3 (fun z => by cases z) (c := .lst (zs ++ [x])) (y := .lst (vs ++ [w])) (a2.app (.cons r2 .nil)) fun y hy => ?_⟩
    rcases List.mem_append.mp hy with hy | hy
    · exact e2.bo j _ h3 y hy
    · rw [List.mem_singleton.mp hy]; exact hb) q
/-- o[i] = e -/
theorem m_put (l : Bool) {to ti : TE} {zs : List SD} {m : Int} {k0 : Nat} (h1 : MX K ρ S te x S1) (h2 : MX K ρ S1 to (.rf j) S2) (h4 : DE K (fm l S2 ρ) ti (.int m)) (h3 : S2[j]? = some (.lst zs)) (h5 : ixN zs.length m = some k0) (q : WM K W ρ (S2.set j (.lst (zs.set k0 x))) u O) :
    WM K W ρ S (tSeq (tAsg te (gSub to ti rSet')) u) O := m_then (fun B H σ E ⟨R, al, e⟩ k =>
  h1 B H R σ al _ e fun w H1 R1 al1 e1 ga r1 hb => h2 B H1 R1 σ al1 _ e1 fun v H2 R2 al2 e2 ga2 r2 hj => h4 H2 _ σ _ e2.lendI e2.env fun z H3 R3 g3 r3 => by
    cases r3
    obtain ⟨e3, up, _⟩ := e2.run g3
    have r2' : v = .ref (al2 j) := r2
    subst r2'
    obtain ⟨vs, a1, a2⟩ := e3.lst h3
    refine .inl ⟨al2 j, vs, m, k0, rfl, rfl, a1, by rw [a2.len]; exact h5, ?_⟩
    refine k _ _ ⟨_, al2, e3.put h3 (fun z => by cases z) (c := .lst (zs.set k0 x)) (y := .lst (vs.set k0 w)) (a2.set k0 (((r1.mono ga2.s).move ga2.a hb).mono up)) fun y hy => ?_⟩
    rcases List.mem_or_eq_of_mem_set hy with hy | rfl
    · exact e3.bo j _ h3 y hy
    · exact SD.below_mono ga2.l hb) q
/-- y = o.pop() -/
theorem m_pop {to : TE} {zs : List SD} (h1 : MX K ρ S to (.rf j) S1) (h3 : S1[j]? = some (.lst (zs ++ [x]))) (q : WM K W (ρ.set i x) (S1.set j (.lst zs)) u O) : WM K W ρ S (tSeq (tAsg (tBM0 K "list" rPop to) (gName i)) u) O := m_then (fun B H σ E ⟨R, al, e⟩ k =>
  h1 B H R σ al _ e fun v H1 R1 al1 e1 ga r1 hj => by
    have r1' : v = .ref (al1 j) := r1
    subst r1'
    obtain ⟨vs, a1, a2⟩ := e1.lst h3
    obtain ⟨w, hv, rv⟩ := a2.get (i := zs.length) (x := x) (by simp)
    refine ⟨.inl ⟨rfl, vs, SqL.of a1⟩, al1 j, vs, w, rfl, rfl, a1, ?_, ?_⟩
    · rw [a2.len, List.length_append]; exact hv
    · have hb : x.below S1.length := e1.bo j _ h3 x (by show x ∈ zs ++ [x]; simp)
      have e2 := e1.put h3 (fun z => by cases z) (c := .lst zs) (y := .lst vs.dropLast) (by have := a2.last; rw [List.dropLast_concat] at this; exact this) (fun y hy => e1.bo j _ h3 y (by show y ∈ zs ++ [x]; have hy' : y ∈ zs := hy; simp [hy']))
      exact k _ _ ⟨R1, al1, e2.set rv (by rw [List.length_set]; exact hb)⟩) q
/-- o.f = e -/
theorem m_fld {to : TE} {C : Addr} {ns : List Str} {zs : List SD} {f : Str} (h1 : MX K ρ S te x S1) (h2 : MX K ρ S1 to (.rf j) S2) (h3 : S2[j]? = some (.ins C ns zs)) (hc : Cls K C) (hn : NoAttr K C f) (hz : ns.length < 900) (q : WM K W ρ (S2.set j (.ins C (putN f x ns zs).1 (putN f x ns zs).2)) u O) :
    WM K W ρ S (tSeq (sFld K to te f) u) O := m_then (fun B H σ E ⟨R, al, e⟩ k =>
  h1 B H R σ al _ e fun w H1 R1 al1 e1 ga r1 hb => h2 B H1 R1 σ al1 _ e1 fun v H2 R2 al2 e2 ga2 r2 hj => by
    have r2' : v = .ref (al2 j) := r2
    subst r2'
    obtain ⟨dx, vs, a1, hl, a2⟩ := e2.ins h3
    have rw' : VOk K R2 al2 x w := (r1.mono ga2.s).move ga2.a hb
    have key : ∀ (ns : List Str) (zs : List SD) (vs : List V), ns.length = zs.length → VsOk K R2 al2 zs vs → (putN f x ns zs).1.length = (putN f x ns zs).2.length ∧ ∃ us, putF f w (ns.zip vs) = (putN f x ns zs).1.zip us ∧ VsOk K R2 al2 (putN f x ns zs).2 us := by
      intro ns
      induction ns with
      | nil =>
        intro zs vs hl r
        have : zs = [] := by cases zs <;> simp at hl ⊢
        subst this
        exact ⟨rfl, [w], by simp [putF, putN], .cons rw' .nil⟩
      | cons n ns ih =>
        intro zs vs hl r
        cases r with
        | nil => simp at hl
        | @cons x0 v0 zs' vs' r0 rr =>
          have hl' : ns.length = zs'.length := by simpa using hl
          obtain ⟨h1, us, h2, h3⟩ := ih zs' vs' hl' rr
          simp only [List.zip_cons_cons, putF, putN]
          by_cases hn : n = f
          · rw [if_pos hn, if_pos hn]
            exact ⟨by simp [hl'], w :: vs', by simp, .cons rw' rr⟩
          · rw [if_neg hn, if_neg hn]
            exact ⟨by simp [h1], v0 :: us, by simp [h2], .cons r0 h3⟩
    obtain ⟨k1, us, k2, k3⟩ := key ns zs vs hl a2
    have sub : ∀ (ns : List Str) (zs : List SD) (y : SD), y ∈ (putN f x ns zs).2 → y = x ∨ y ∈ zs := by
      intro ns
      induction ns with
      | nil => intro zs y hy; simp [putN] at hy; exact .inl hy
      | cons n ns ih =>
        intro zs y hy
        cases zs with
        | nil => simp [putN] at hy; exact .inl hy
        | cons z zs =>
          simp only [putN] at hy
          by_cases hn : n = f
          · rw [if_pos hn] at hy
            rcases List.mem_cons.mp hy with hy | hy
            · exact .inl hy
            · exact .inr (List.mem_cons_of_mem _ hy)
          · rw [if_neg hn] at hy
            rcases List.mem_cons.mp hy with hy | hy
            · exact .inr (by rw [hy]; exact List.mem_cons_self)
            · rcases ih zs y hy with h | h
              · exact .inl h
              · exact .inr (List.mem_cons_of_mem _ h)
    refine ⟨al2 j, C, dx, _, rfl, a1, hc, hn, by rw [List.length_zip]; omega, ?_⟩
    rw [k2]
    refine k _ _ ⟨R2, al2, e2.put h3 (fun z => by cases z) (c := .ins C (putN f x ns zs).1 (putN f x ns zs).2) ⟨rfl, k1, us, rfl, k3⟩ fun y hy => ?_⟩
    rcases sub ns zs y hy with rfl | hy
    · exact SD.below_mono ga2.l hb
    · exact e2.bo j _ h3 y hy) q
end
end G

set_option Elab.async false
set_option linter.all false
set_option maxRecDepth 100000
set_option maxHeartbeats 4000000
/-! Mlp: loops, makers, methods, defs over a store. -/
namespace G
open PySem PySem.Spec PyProof.Rows L2
/-- less is known of the names -/
def wkM : MEnv → MEnv → Prop
  | [], [] => True
  | s :: r, s' :: r' => (s' = .no ∨ s = s') ∧ wkM r r'
  | _, _ => False
theorem wkM.refl : ∀ ρ, wkM ρ ρ
  | [] => trivial
  | _ :: r => ⟨.inr rfl, wkM.refl r⟩
theorem wkM.len : ∀ {ρ ρ' : MEnv}, wkM ρ ρ' → ρ.length = ρ'.length
  | [], [], _ => rfl
  | _ :: _, _ :: _, h => by rw [List.length_cons, List.length_cons, wkM.len h.2]
  | [], _ :: _, h => h.elim
  | _ :: _, [], h => h.elim
theorem wkM.get : ∀ {ρ ρ' : MEnv}, wkM ρ ρ' → ∀ {i : Nat} {s : SD}, ρ'[i]? = some s → s = .no ∨ ρ[i]? = some s
  | [], [], _, i, s, e => by simp at e
  | a :: _, b :: _, h, 0, s, e => by
    simp at e
    subst e
    rcases h.1 with h | h
    · exact .inl h
    · exact .inr (by simp [h])
  | _ :: _, _ :: _, h, i + 1, s, e => by
    have := wkM.get h.2 (i := i) (s := s) (by simpa using e)
    simpa using this
  | [], _ :: _, h, _, _, _ => h.elim
  | _ :: _, [], h, _, _, _ => h.elim
def setsM : MEnv → List (Nat × D) → MEnv
  | ρ, [] => ρ
  | ρ, (i, d) :: r => setsM (ρ.set i (.dat d)) r
def wipeM : MEnv → List Nat → MEnv
  | ρ, [] => ρ
  | ρ, v :: vs => (wipeM ρ vs).set v .no
def TurnsM (N : MEnv → Sto → Prop) (B : MEnv → Sto → Prop) (O : OutM → Prop) : OutM → Prop
  | .nx ρ S => N ρ S
  | .ct ρ S => N ρ S
  | .bk ρ S => B ρ S
  | o => O o
def JoinsM (M : MEnv → Sto → Prop) (O : OutM → Prop) : OutM → Prop
  | .nx ρ S => M ρ S
  | o => O o
section
variable {K : PySem.W.Frag} {W : WX} {ρ ρ' : MEnv} {S S' S1 S2 : Sto} {te ta tb : TE} {tt tu : TT} {t u v : TS} {a : TA} {d : D} {ds es xs : List D} {x y : SD} {zs : List SD} {i j n : Nat} {b c : Bool} {g : TG} {ps : List (Nat × D)} {O O' : OutM → Prop} {wi : TI} {B : Bs} {H R : Hp} {σ : L2.St} {al : Nat → Addr}
theorem EvM.weak (e : EvM K B H R σ al ρ S) (w : wkM ρ ρ') : EvM K B H R σ al ρ' S := by
  refine ⟨e.r, e.i, e.h, e.t, e.o, e.len.trans w.len, fun i x hs => ?_, fun x hx => ?_, e.ob, e.fp, e.bo, e.inj, e.nl, e.na, e.nw, e.st⟩
  · rcases w.get hs with h | h
    · exact .inl h
    · exact e.ok i x h
  · obtain ⟨i, hi, rfl⟩ := List.mem_iff_getElem.mp hx
    rcases w.get (List.getElem?_eq_getElem hi) with h | h
    · rw [h]; trivial
    · exact e.be _ (List.mem_of_getElem? h)
theorem m_weak (w : wkM ρ ρ') (h : WM K W ρ' S t O) : WM K W ρ S t O := let ⟨o, a, b⟩ := h; ⟨o, a, fun B H σ E ⟨R, al, e⟩ k => b B H σ E ⟨R, al, e.weak w⟩ k⟩
theorem EvM.sets {R : Hp} : ∀ {ps : List (Nat × D)} {us : List V} {σ : L2.St} {ρ : MEnv}, EvM K B H R σ al ρ S → RepL K R us (ps.map Prod.snd) → EvM K B H R (G.sets σ (ps.map Prod.fst) us) al (setsM ρ ps) S
  | [], _, _, _, e, .nil => e
  | (i, d) :: _, v :: _, σ, ρ, e, .cons r rr => EvM.sets (σ := σ.set i (some v)) (ρ := ρ.set i (.dat d)) (e.set (x := .dat d) r trivial) rr
theorem EvM.wipe : ∀ {vs : List Nat}, EvM K B H R σ al ρ S → EvM K B H R (L2.wipe σ vs) al (wipeM ρ vs) S
  | [], e => e
  | _ :: _, e => (EvM.wipe e).drop
theorem m_join (M : MEnv → Sto → Prop) (h : WM K W ρ S t (JoinsM M O)) (q : ∀ ρ' S', M ρ' S' → WM K W ρ' S' u O) : WM K W ρ S (tSeq t u) O := by
  obtain ⟨o, a, b⟩ := h
  cases o with
  | nx ρ' S' => exact m_then b (q ρ' S' a)
  | rt d S => exact m_done b rfl a
  | bk ρ S => exact m_done b rfl a
  | ct ρ S => exact m_done b rfl a
  | ex ρ S c fs => exact m_done b rfl a
theorem m_asgT (h : MX K ρ S te (.dat d) S1) (hg : DG K g d ps) (q : WM K W (setsM ρ ps) S1 u O) : WM K W ρ S (tSeq (tAsg te g) u) O := m_then (fun B H σ E ⟨R, al, e⟩ k =>
  h B H R σ al _ e fun v H1 R1 al1 e1 ga r hb => hg H1 R1 σ v _ e1.i r fun us ru => k _ H1 ⟨R1, al1, e1.sets ru⟩) q
theorem EvM.exc {c0 : Bool} {l : Bool} {H' R' : Hp} {fs : List (Str × D)} {dd : Option Addr} (e : EvM K B H R σ al ρ S) (g : Gr H (lendM l H R al S) H' R') (hs : l = true → D.solL (fs.map Prod.snd) = true) (x : ExOk K R' dd fs) : EvM K B H' (lessM l R' al S) σ al ρ S ∧ ExOk K (lessM l R' al S) dd fs := by
  obtain ⟨e1, _, _, q, _, k⟩ := e.run g
  refine ⟨e1, ?_⟩
  cases dd with
  | none => exact x
  | some a =>
    obtain ⟨h0, vs, h1, h2⟩ := x
    exact ⟨h0, vs, k a _ h1 (.inr ⟨_, rfl⟩), q _ _ hs h2⟩
theorem m_dropX (l : Bool) {c : Value} {fs : List (Str × D)} (h : DEx K W (fm l S ρ) te c fs) (hs : l = true → D.solL (fs.map Prod.snd) = true) (q : O (.ex ρ S c fs)) : WM K W ρ S (tSeq (tDrop te) u) O := m_done (o := .ex ρ S c fs) (fun B H σ E ⟨R, al, e⟩ k =>
  h H _ σ _ e.lendI e.env fun dd H1 R1 g x => by
    obtain ⟨a, b⟩ := e.exc (c0 := true) g hs x
    exact k σ H1 _ al dd a b) rfl q
/-! loops -/
inductive RunM (K : PySem.W.Frag) (W : WX) (xs : List D) (g : TG) (t : TS) : Nat → MEnv → Sto → OutM → Prop
  | stop {ρ : MEnv} {S : Sto} : RunM K W xs g t xs.length ρ S (.nx ρ S)
  | next {i : Nat} {d : D} {ρ ρ' : MEnv} {S S' : Sto} {ps : List (Nat × D)} {o : OutM} : xs[i]? = some d → DG K g d ps → DSM K W (setsM ρ ps) S t (.nx ρ' S') → RunM K W xs g t (i + 1) ρ' S' o → RunM K W xs g t i ρ S o
  | cont {i : Nat} {d : D} {ρ ρ' : MEnv} {S S' : Sto} {ps : List (Nat × D)} {o : OutM} : xs[i]? = some d → DG K g d ps → DSM K W (setsM ρ ps) S t (.ct ρ' S') → RunM K W xs g t (i + 1) ρ' S' o → RunM K W xs g t i ρ S o
  | brk {i : Nat} {d : D} {ρ ρ' : MEnv} {S S' : Sto} {ps : List (Nat × D)} : xs[i]? = some d → DG K g d ps → DSM K W (setsM ρ ps) S t (.bk ρ' S') → RunM K W xs g t i ρ S (.nx ρ' S')
  | rt {i : Nat} {d : D} {z : SD} {ρ : MEnv} {S S' : Sto} {ps : List (Nat × D)} : xs[i]? = some d → DG K g d ps → DSM K W (setsM ρ ps) S t (.rt z S') → RunM K W xs g t i ρ S (.rt z S')
  | ex {i : Nat} {d : D} {ρ ρ' : MEnv} {S S' : Sto} {c : Value} {fs : List (Str × D)} {ps : List (Nat × D)} : xs[i]? = some d → DG K g d ps → DSM K W (setsM ρ ps) S t (.ex ρ' S' c fs) → RunM K W xs g t i ρ S (.ex ρ' S' c fs)
/-- the base moved on to R -/
theorem EvM.base (e : EvM K B H R σ al ρ S) : EvM K { B with R := R } H R σ al ρ S := ⟨Same.refl _, e.i, e.h, e.t, fun _ _ _ _ n => n, e.len, e.ok, e.be, e.ob, e.fp, e.bo, e.inj, e.nl, e.na, e.nw, e.st⟩
theorem EvM.unbase {R1 : Hp} (e : EvM K { B with R := R1 } H R σ al ρ S) (s : Same B.R R1) (o : ∀ a o, B.H a = some o → ¬ B.M a → B.R a = none → R1 a = none) : EvM K B H R σ al ρ S :=
  ⟨s.trans e.r, e.i, e.h, e.t, fun a x h nm n => e.o a x h nm (o a x h nm n), e.len, e.ok, e.be, e.ob, e.fp, e.bo, e.inj, e.nl, e.na, e.nw, e.st⟩
theorem OutMOk.rebase {R1 : Hp} {W : WX} {E : Ends} (s : Same B.R R1) (h : ∀ a o, B.H a = some o → ¬ B.M a → B.R a = none → R1 a = none) : ∀ {o : OutM}, OutMOk K B W E o → OutMOk K { B with R := R1 } W E o
  | .nx _ _, k => fun σ' H' ⟨R, al, e⟩ => k σ' H' ⟨R, al, e.unbase s h⟩
  | .bk _ _, k => fun σ' H' ⟨R, al, e⟩ => k σ' H' ⟨R, al, e.unbase s h⟩
  | .ct _ _, k => fun σ' H' ⟨R, al, e⟩ => k σ' H' ⟨R, al, e.unbase s h⟩
  | .rt _ _, k => fun v σ' H' R' al' ρ' e r b => k v σ' H' R' al' ρ' (e.unbase s h) r b
  | .ex _ _ _ _, k => fun σ' H' R' al' dd e x => k σ' H' R' al' dd (e.unbase s h) x
theorem RunM.told (hi : DI K (fm false S ρ) wi xs) {o : OutM} (h : RunM K W xs g t 0 ρ S o) : DSM K W ρ S (tFor wi g t) o := fun B H σ E ⟨R, al, e⟩ k => by
  refine hi H R σ _ e.i (by have := e.env (l := false); rw [lendM_f] at this; exact this) fun J H1 R1 g1 ⟨Y, hw, hy⟩ => ?_
  have e1 := e.runF g1
  have k1 : OutMOk K { B with R := R1 } W E o := k.rebase e1.r e1.o
  refine for_it (D := E) hw (fun i σ H => ∃ ρ S, RunM K W xs g t i ρ S o ∧ EvMS K { B with R := R1 } H σ ρ S) ⟨ρ, S, h, R1, al, e1.base⟩ ?_ ?_ ?_
  · rintro i σ H _ ⟨ρ, S, _, R2, al2, e2⟩
    exact e2.r.trans e2.i
  · rintro i x σ H H' hi ⟨ρ, S, hr, R2, al2, e2⟩ y
    obtain ⟨d, R3, hd', g3, r3⟩ := hy i H R2 x H' hi e2.r e2.i y
    have e3 := e2.runF g3
    have fin : ∀ {ps : List (Nat × D)} {o' : OutM}, DG K g d ps → DSM K W (setsM ρ ps) S t o' → OutMOk K { B with R := R1 } W { E with nx := fun σ H => ∃ ρ S, RunM K W xs g t (i + 1) ρ S o ∧ EvMS K { B with R := R1 } H σ ρ S, ct := fun σ H => ∃ ρ S, RunM K W xs g t (i + 1) ρ S o ∧ EvMS K { B with R := R1 } H σ ρ S, bk := E.nx } o' →
        g x σ H' fun σ2 H2 => t { E with nx := fun σ H => ∃ ρ S, RunM K W xs g t (i + 1) ρ S o ∧ EvMS K { B with R := R1 } H σ ρ S, ct := fun σ H => ∃ ρ S, RunM K W xs g t (i + 1) ρ S o ∧ EvMS K { B with R := R1 } H σ ρ S, bk := E.nx } σ2 H2 := fun {ps o'} hg hds ho =>
      hg H' R3 σ x _ e3.i r3 fun us ru => hds _ H' _ _ ⟨R3, al2, e3.sets ru⟩ ho
    have no : xs[xs.length]? = none := List.getElem?_eq_none (Nat.le_refl _)
    cases hr with
    | stop => omega
    | next h1 h2 h3 h4 => rw [h1] at hd'; cases hd'; exact fin h2 h3 fun σ' H'' ev => ⟨_, _, h4, ev⟩
    | cont h1 h2 h3 h4 => rw [h1] at hd'; cases hd'; exact fin h2 h3 fun σ' H'' ev => ⟨_, _, h4, ev⟩
    | brk h1 h2 h3 => rw [h1] at hd'; cases hd'; exact fin h2 h3 k1
    | rt h1 h2 h3 => rw [h1] at hd'; cases hd'; exact fin h2 h3 k1
    | ex h1 h2 h3 => rw [h1] at hd'; cases hd'; exact fin h2 h3 k1
  · rintro σ H ⟨ρ, S, hr, R2, al2, e2⟩
    have no : ∀ d, xs[xs.length]? ≠ some d := fun d z => by rw [List.getElem?_eq_none (Nat.le_refl _)] at z; cases z
    generalize hn : xs.length = n at hr
    cases hr with
    | stop => exact k1 σ H ⟨R2, al2, e2⟩
    | next h1 => rw [← hn] at h1; exact absurd h1 (no _)
    | cont h1 => rw [← hn] at h1; exact absurd h1 (no _)
    | brk h1 => rw [← hn] at h1; exact absurd h1 (no _)
    | rt h1 => rw [← hn] at h1; exact absurd h1 (no _)
    | ex h1 => rw [← hn] at h1; exact absurd h1 (no _)
/-- a for over data -/
theorem m_for (hi : DI K (fm false S ρ) wi xs) (P : Nat → MEnv → Sto → Prop) (h0 : P 0 ρ S) (hs : ∀ i d ρ S, xs[i]? = some d → P i ρ S → ∃ ps, DG K g d ps ∧ WM K W (setsM ρ ps) S t (TurnsM (P (i + 1)) (fun ρ S => WM K W ρ S u O) O))
    (hd : ∀ ρ S, P xs.length ρ S → WM K W ρ S u O) : WM K W ρ S (tSeq (tFor wi g t) u) O := by
  have key : ∀ k i ρ S, i + k = xs.length → P i ρ S → ∃ o, RunM K W xs g t i ρ S o ∧ ((∃ ρ' S', o = .nx ρ' S' ∧ WM K W ρ' S' u O) ∨ (o.out = true ∧ O o)) := by
    intro k
    induction k with
    | zero =>
      intro i ρ S hk p
      have : i = xs.length := by omega
      subst this
      exact ⟨_, .stop, .inl ⟨ρ, S, rfl, hd ρ S p⟩⟩
    | succ k ih =>
      intro i ρ S hk p
      have hlt : i < xs.length := by omega
      obtain ⟨ps, hg, o, hq, hds⟩ := hs i _ ρ S (List.getElem?_eq_getElem hlt) p
      have hx := List.getElem?_eq_getElem hlt
      cases o with
      | nx ρ' S' =>
        obtain ⟨o, r, q⟩ := ih (i + 1) ρ' S' (by omega) hq
        exact ⟨o, .next hx hg hds r, q⟩
      | ct ρ' S' =>
        obtain ⟨o, r, q⟩ := ih (i + 1) ρ' S' (by omega) hq
        exact ⟨o, .cont hx hg hds r, q⟩
      | bk ρ' S' => exact ⟨_, .brk hx hg hds, .inl ⟨ρ', S', rfl, hq⟩⟩
      | rt z S' => exact ⟨_, .rt hx hg hds, .inr ⟨rfl, hq⟩⟩
      | ex ρ' S' c fs => exact ⟨_, .ex hx hg hds, .inr ⟨rfl, hq⟩⟩
  obtain ⟨o, r, q⟩ := key xs.length 0 ρ S (by omega) h0
  rcases q with ⟨ρ', S', rfl, q⟩ | ⟨ho, q⟩
  · exact m_then (r.told hi) q
  · exact m_done (r.told hi) ho q
theorem setsM_wk : ∀ (ps : List (Nat × D)) (ρ ρ' : MEnv), wkM ρ ρ' → wkM (setsM ρ ps) (setsM ρ' ps) := by
  intro ps
  induction ps with
  | nil => intro ρ ρ' w; exact w
  | cons p ps ih =>
    intro ρ ρ' w
    refine ih _ _ ?_
    clear ih
    induction ρ generalizing ρ' p with
    | nil => cases ρ' <;> first | exact trivial | exact w.elim
    | cons s r ih2 =>
      cases ρ' with
      | nil => exact w.elim
      | cons s' r' =>
        obtain ⟨j, d⟩ := p
        cases j with
        | zero => exact ⟨.inr rfl, w.2⟩
        | succ j => exact ⟨w.1, ih2 (p := (j, d)) r' w.2⟩
/-- .. whose states are told by P -/
theorem m_forP (hi : DI K (fm false S ρ) wi xs) (P : Nat → MEnv → Sto → Prop) (ρ0 : MEnv) (w : wkM ρ ρ0) (h0 : P 0 ρ0 S) (hs : ∀ i d ρ S, xs[i]? = some d → P i ρ S → ∃ ps, DG K g d ps ∧ WM K W (setsM ρ ps) S t (TurnsM (fun ρ S => ∃ ρ', wkM ρ ρ' ∧ P (i + 1) ρ' S) (fun ρ S => WM K W ρ S u O) O))
    (hd : ∀ ρ S, P xs.length ρ S → WM K W ρ S u O) : WM K W ρ S (tSeq (tFor wi g t) u) O := by
  refine m_for hi (fun i ρ S => ∃ ρ', wkM ρ ρ' ∧ P i ρ' S) ⟨ρ0, w, h0⟩ ?_ fun ρ S ⟨ρ', w, p⟩ => m_weak w (hd ρ' S p)
  rintro i d ρ S hx ⟨ρ', w, p⟩
  obtain ⟨ps, hg, h⟩ := hs i d ρ' S hx p
  exact ⟨ps, hg, m_weak (setsM_wk ps _ _ w) h⟩
/-! makers, methods -/
theorem mx_make {C : Addr} {rel : List SD → Sto → ResM → Prop} {E : L2.St → XK} (h : MA K ρ S a zs S1) (hr : rel (.rf S1.length :: zs) (S1 ++ [.ins C [] []]) (.rt (.dat .non) S2)) : MX K ρ S (tMakeS C (spM K rel) E a) (.rf S1.length) S2 := fun B H R σ al Q e q =>
  h B H R σ al _ e fun vs H1 R1 al1 e1 ga r hb => fun x dx hx hdx hne => by
    have e2 := e1.runF (Gr.apart e1.i hdx (u := .own x))
    have hx2 : (upd H1 dx (.own x)) x = none := by rw [upd_ne (fun z => hne z.symm)]; exact hx
    have e3 := e2.new hx2 (y := .ins C dx []) (c := .ins C [] []) ⟨rfl, rfl, [], rfl, .nil⟩ (fun y hy => by cases hy)
    have g3 : MGr S1 (S1 ++ [.ins C [] []]) R1 R1 al1 (extA al1 S1.length x) := mgr_new
    refine e3.call (zs := .rf S1.length :: zs) (.cons new_ok (r.move g3.a hb)) (fun y hy => ?_) hr fun v H' R' al' e4 g4 rv _ => ?_
    · rcases List.mem_cons.mp hy with rfl | hy
      · exact new_below
      · exact SD.below_mono g3.l (hb y hy)
    · have rv' : Rep K R' v .non := rv
      cases rv'
      refine ⟨rfl, q (.ref x) H' R' al' e4 ((ga.trans g3).trans g4) ?_ ?_⟩
      · show V.ref x = .ref (al' S1.length)
        rw [g4.a S1.length (by simp), extA_eq]
      · show S1.length < S2.length
        have := g4.l
        simp at this; omega
theorem lookup_none {ns : List Str} {zs : List SD} {vs : List V} {f : Str} {R : Hp} {al : Nat → Addr} (hl : ns.length = zs.length) (r : VsOk K R al zs vs) (h : (ns.zip zs).lookup f = none) : (ns.zip vs).lookup f = none := by
  induction ns generalizing vs zs with
  | nil => simp
  | cons n ns ih =>
    cases r with
    | nil => simp at hl
    | @cons d' v zs vs r0 rr =>
      simp only [List.zip_cons_cons, List.lookup_cons] at h ⊢
      cases hb : f == n with
      | true => rw [hb] at h; cases h
      | false => rw [hb] at h; exact ih (by simpa using hl) rr h
theorem mx_meth {C : Addr} {m : Str} {rel : List SD → Sto → ResM → Prop} {E : L2.St → XK} {ns : List Str} {ws : List SD} (h1 : MX K ρ S ta (.rf j) S1) (h3 : S1[j]? = some (.ins C ns ws)) (hm : (ns.zip ws).lookup m = none) (h2 : MA K ρ S1 a zs S2) (hr : rel (.rf j :: zs) S2 (.rt x S')) :
    MX K ρ S (tMethS C m (spM K rel) E ta a) x S' := fun B H R σ al Q e q =>
  h1 B H R σ al _ e fun v H1 R1 al1 e1 ga r1 hj => by
    obtain ⟨dx, vs, a1, hl, rr⟩ := e1.ins h3
    have r1' : v = .ref (al1 j) := r1
    subst r1'
    refine ⟨al1 j, dx, _, rfl, a1, lookup_none hl rr hm, h2 B H1 R1 σ al1 _ e1 fun us H2 R2 al2 e2 ga2 r2 hb => ?_⟩
    refine e2.call (zs := .rf j :: zs) (.cons (by show V.ref (al1 j) = .ref (al2 j); rw [ga2.a j hj]) r2) (fun y hy => ?_) hr fun v H' R' al' e3 g3 rv hx => q v H' R' al' e3 ((ga.trans ga2).trans g3) rv hx
    rcases List.mem_cons.mp hy with rfl | hy
    · exact SD.below_mono ga2.l hj
    · exact hb y hy
/-! what is read of the store -/
theorem res_dat {S : Sto} {n : Nat} {d : D} : res S n (.dat d) = some d := by cases n <;> rfl
theorem res_lst {S : Sto} {n i : Nat} {zs : List SD} {ds : List D} (h : S[i]? = some (.lst zs)) (k : alls (res S n) zs = some ds) : res S (n + 1) (.rf i) = some (.lst ds) := by
  simp only [res, h]
  rw [show alls (fun x => res S n x) zs = some ds from k]
  rfl
theorem res_ins {S : Sto} {n i : Nat} {C : Addr} {ns : List Str} {zs : List SD} {ds : List D} (h : S[i]? = some (.ins C ns zs)) (k : alls (res S n) zs = some ds) : res S (n + 1) (.rf i) = some (.ins C ns ds) := by
  simp only [res, h]
  rw [show alls (fun x => res S n x) zs = some ds from k]
  rfl
theorem alls_cons {f : SD → Option D} {x : SD} {xs : List SD} {d : D} {ds : List D} (h1 : f x = some d) (h2 : alls f xs = some ds) : alls f (x :: xs) = some (d :: ds) := by
  simp only [alls, h1, h2]
theorem alls_dats {S : Sto} {n : Nat} : ∀ {ds : List D}, alls (res S n) (ds.map SD.dat) = some ds
  | [] => rfl
  | d :: ds => alls_cons res_dat alls_dats
/-! comprehensions, built-ins -/
/-- the frame: a turn that runs over a base of its own -/
theorem MX.framed (h : MX K ρ S te x S') {Q : VK} (e : EvM K B H R σ al ρ S)
    (q : ∀ v H' R' al', EvM K B H' R' σ al' ρ S' → MGr S S' R R' al al' → VOk K R' al' x v → x.below S'.length → (∀ a o, H a = some o → ¬ OwnA al S a → H' a = some o ∧ (R a = none → R' a = none) ∧ ∀ j, j < S'.length → al' j ≠ a) → Q v H') : te σ H Q := by
  have e0 : EvM K ⟨OwnA al S, H, R, al, S.length⟩ H R σ al ρ S := ⟨Same.refl _, e.i, fun _ _ h _ => h, fun a o h => ⟨o, h⟩, fun _ _ _ _ n => n, e.len, e.ok, e.be, e.ob, fun j hj => .inr ⟨j, hj, rfl⟩, e.bo, e.inj, Nat.le_refl _, fun _ _ => rfl, fun j hm hj => absurd hj (Nat.not_lt.mpr hm), e.st⟩
  refine h _ H R σ al Q e0 fun v H' R' al' e' g rv hx => ?_
  have gm : GrM (OwnA al S) H R H' R' := ⟨e'.h, e'.t, e'.r, e'.i, e'.o⟩
  have gs : StoGr K H al S H' R' al' S' := ⟨e'.sto, e'.na, e'.nw, e'.nl⟩
  refine q v H' R' al' (e.after gm gs) g rv hx fun a o ha hn => ⟨e'.h a o ha hn, e'.o a o ha hn, fun j hj z => ?_⟩
  subst z
  by_cases hjs : j < S.length
  · exact hn ⟨j, hjs, (g.a j hjs).symm⟩
  · have := e'.nw j (by show S.length ≤ j; omega) hj
    have this' : H (al' j) = none := this
    rw [ha] at this'; cases this'
/-- [te for g in wi], each turn a datum; the store goes on from turn to turn -/
theorem mx_lc {vs : List Nat} (hi : DI K (fm false S ρ) wi xs) (St : Nat → Sto) (h0 : St 0 = S) (f : Nat → D) (ps : Nat → List (Nat × D)) (hg : ∀ i d, xs[i]? = some d → DG K g d (ps i) ∧ ∀ p ∈ ps i, p.1 ∈ vs)
    (hs : ∀ i d, xs[i]? = some d → MX K (setsM (wipeM ρ vs) (ps i)) (St i) te (.dat (f i)) (St (i + 1))) (hn : xs.length ≤ 10000000) :
    MX K ρ S (tLc wi g tYes te vs) (.rf (St xs.length).length) (St xs.length ++ [.lst ((List.range xs.length).map fun i => SD.dat (f i))]) := fun B H R σ al Q e q => by
  refine hi H R σ _ e.i (by have := e.env (l := false); rw [lendM_f] at this; exact this) fun J H1 R1 g1 ⟨Y, hw, hyl⟩ L hL => ?_
  have e1 := e.runF g1
  have rL : R1 L = none := e1.i.free hL
  have e1' := e1.runF (Gr.apart e1.i hL (u := .lst []))
  refine lc_it hw (fun i H2 => ∃ R2 al2 acc, EvM K B H2 R2 σ al2 ρ (St i) ∧ Same R1 R2 ∧ MGr S (St i) R R2 al al2 ∧ H2 L = some (.lst acc) ∧ R2 L = none ∧ (∀ j, j < (St i).length → al2 j ≠ L) ∧ RepL K R2 acc ((List.range i).map f))
    ⟨R1, al, [], by rw [h0]; exact e1', Same.refl _, by rw [h0]; exact ⟨g1.r, fun _ _ => rfl, Nat.le_refl _⟩, upd_same, rL, (fun j hj z => by rw [h0] at hj; obtain ⟨o, w⟩ := e1.st j hj; rw [z, hL] at w; cases w), .nil⟩ ?_ ?_ ?_
  · rintro i H2 _ ⟨R2, al2, acc, e2, s2, _⟩
    exact s2.trans e2.i
  · rintro i x H2 H3 hi' ⟨R2, al2, acc, e2, s2, ga, a2, n2, nl, r2⟩ y
    obtain ⟨d, R3, hd, g3, r3⟩ := hyl i H2 R2 x H3 hi' s2 e2.i y
    obtain ⟨hg1, hg2⟩ := hg i d hd
    have e3 := e2.runF g3
    have a3 : H3 L = some (.lst acc) := g3.h _ _ a2
    have n3 : R3 L = none := g3.o L _ a2 n2
    refine hg1 H3 R3 _ x _ g3.i r3 fun us ru => ?_
    refine ⟨wipe_sets fun i' hi2 => ?_, ?_⟩
    · obtain ⟨p, hp, rfl⟩ := List.mem_map.mp hi2
      exact hg2 p hp
    refine t_yes ?_
    have e4 := (e3.wipe (vs := vs)).sets ru
    refine if_tt ?_
    refine MX.framed (hs i d hd) (B := B) e4 fun v H5 R5 al5 e5 g5 rv _ fr => ?_
    obtain ⟨k1, k2, k3⟩ := fr L _ a3 (fun ⟨j, hj, z⟩ => nl j hj z)
    have rv' : Rep K R5 v (f i) := rv
    have racc := (r2.mono g3.r).mono g5.s
    have hl := r2.len
    simp only [List.length_map, List.length_range] at hl
    refine ⟨acc, k1, smallL (by omega), R5, al5, acc ++ [v], ?_, (s2.trans g3.r).trans g5.s, ga.trans ⟨g3.r.trans g5.s, g5.a, g5.l⟩, upd_same, k2 n3, k3, ?_⟩
    · -- the names as they were; the new list grows beside the store
      have e6 : EvM K B H5 R5 σ al5 ρ (St (i + 1)) := by
        refine ⟨e5.r, e5.i, e5.h, e5.t, e5.o, e2.len, fun m y hy => ?_, fun y hy => SD.below_mono g5.l (e2.be y hy), e5.ob, e5.fp, e5.bo, e5.inj, e5.nl, e5.na, e5.nw, e5.st⟩
        rcases e2.ok m y hy with h | ⟨w, h1, h2⟩
        · exact .inl h
        · exact .inr ⟨w, h1, ((h2.mono g3.r).mono g5.s).move g5.a (e2.be y (List.mem_of_getElem? hy))⟩
      refine ⟨e6.r, fun a o h => ?_, fun a o h n => ?_, fun a o h => ?_, e6.o, e6.len, e6.ok, e6.be, fun j b hs hb => ?_, e6.fp, e6.bo, e6.inj, e6.nl, e6.na, e6.nw, fun j hj => ?_⟩
      · rw [upd_ne (ne_of_none h (k2 n3))]; exact e6.i a o h
      · have hB : B.H L = none := by
          cases z : B.H L with
          | none => rfl
          | some o' => obtain ⟨o2, w⟩ := e1.t L o' z; rw [hL] at w; cases w
        rw [upd_ne (ne_of_none h hB)]; exact e6.h a o h n
      · by_cases z : a = L
        · subst z; exact ⟨_, upd_same⟩
        · rw [upd_ne z]; exact e6.t a o h
      · obtain ⟨o, p1, p2, p3⟩ := e6.ob j b hs hb
        exact ⟨o, by rw [upd_ne (k3 j (List.getElem?_eq_some_iff.mp hs).1)]; exact p1, p2, p3⟩
      · obtain ⟨o, p1⟩ := e6.st j hj
        exact ⟨o, by rw [upd_ne (k3 j hj)]; exact p1⟩
    · rw [List.range_succ, List.map_append]
      exact racc.app (.cons rv' .nil)
  · rintro H2 ⟨R2, al2, acc, e2, s2, ga, a2, n2, nl, r2⟩
    have hB : B.H L = none := by
      cases z : B.H L with
      | none => rfl
      | some o' => obtain ⟨o2, w⟩ := e1.t L o' z; rw [hL] at w; cases w
    have e3 := e2.alloc a2 n2 hB nl (c := .lst ((List.range xs.length).map fun i => SD.dat (f i))) (by
      have := VsOk.dats (al := al2) r2
      rw [List.map_map] at this
      exact this) (fun x hx => by obtain ⟨i, _, rfl⟩ := List.mem_map.mp hx; trivial)
    exact q (.ref L) H2 R2 _ e3 (ga.trans mgr_new) new_ok new_below
/-- a built-in of arguments that may be objects of the store, read as they stand -/
theorem mx_cb {rc : List V → Hp → VK → Prop} (h : MA K ρ S a zs S1) (ha : alls (res S1 4) zs = some ds) (hc : DC K rc ds d) (hs : d.sol = true) : MX K ρ S (tCB rc a) (.dat d) S1 := fun B H R σ al Q e q =>
  h B H R σ al _ e fun vs H1 R1 al1 e1 ga r hb => by
    have r' : RepL K (lendM true H1 R1 al1 S1) vs ds := alls_rep (fun x d v q r => e1.res 4 x d v (fun _ => rfl) q r) ha r
    refine hc H1 _ vs Q e1.lendI r' fun w H2 R2 g rw' => ?_
    obtain ⟨e2, up, k, _⟩ := e1.run g
    exact q w H2 _ al1 e2 (ga.trans ⟨up, fun _ _ => rfl, Nat.le_refl _⟩) (k w d (fun _ => hs) rw') trivial
/-! a def -/
def FitsM : OutM → ResM → Prop
  | .rt x S', .rt y S2 => x = y ∧ S' = S2
  | .nx _ S', .rt y S2 => y = .dat .non ∧ S' = S2
  | .ex _ S' c fs, .ex c' fs' S2 => c = c' ∧ fs = fs' ∧ S' = S2
  | _, _ => False
def FitsDM : OutM → Res → Prop
  | .rt (.dat x) _, .rt y => x = y
  | .nx _ _, .rt y => y = .non
  | .ex _ _ c fs, .ex c' fs' => c = c' ∧ fs = fs'
  | _, _ => False
/-- a promise over the store by the body -/
theorem spM_of {rel : List SD → Sto → ResM → Prop} {n : Nat} {E : XK} (h : ∀ zs S r, rel zs S r → WM K (WF E) (zs ++ List.replicate (n - zs.length) SD.no) S t (fun o => FitsM o r)) {N : List Str} (hN : N.length = n) (vs : List V) (H : Hp) (Q : VK)
    (q : spM K rel vs H Q E) : t { nx := fun _ H' => Q .non H', rt := Q } (L2.start N vs) H := by
  obtain ⟨R, al, zs, S, r, s, rr, hb, hS, hr, q⟩ := q
  obtain ⟨o, hf, hd⟩ := h zs S r hr
  have e := EvM.enter (n := n - zs.length) s rr hb hS
  have hst : L2.start N vs = vs.map some ++ List.replicate (n - zs.length) none := by
    unfold L2.start
    rw [hN, rr.len]
  have hg : ∀ {σ' H' R' al' ρ' S'}, EvM K ⟨OwnA al S, H, R, al, S.length⟩ H' R' σ' al' ρ' S' → GrM (OwnA al S) H R H' R' ∧ StoGr K H al S H' R' al' S' := fun e' => ⟨⟨e'.h, e'.t, e'.r, e'.i, e'.o⟩, ⟨e'.sto, e'.na, e'.nw, e'.nl⟩⟩
  rw [hst]
  refine hd _ H _ _ ⟨R, al, e⟩ ?_
  cases o with
  | nx ρ S' =>
    cases r with
    | rt y S2 =>
      obtain ⟨rfl, rfl⟩ := hf
      rintro σ' H' ⟨R', al', e'⟩
      obtain ⟨g1, g2⟩ := hg e'
      exact q .non H' R' al' g1 g2 .non trivial
    | ex c fs S2 => exact hf.elim
  | rt x S' =>
    cases r with
    | rt y S2 =>
      obtain ⟨rfl, rfl⟩ := hf
      intro v σ' H' R' al' ρ' e' rv hx
      obtain ⟨g1, g2⟩ := hg e'
      exact q v H' R' al' g1 g2 rv hx
    | ex c fs S2 => exact hf.elim
  | bk ρ S' => cases r <;> exact hf.elim
  | ct ρ S' => cases r <;> exact hf.elim
  | ex ρ S' c fs =>
    cases r with
    | rt y S2 => exact hf.elim
    | ex c' fs' S2 =>
      obtain ⟨rfl, rfl, rfl⟩ := hf
      intro σ' H' R' al' dd e' x
      obtain ⟨g1, g2⟩ := hg e'
      exact q dd H' R' al' g1 g2 x
/-- a promise on data by a body that keeps a store of its own -/
theorem spD_ofM {rel : List D → Res → Prop} {n : Nat} {E : XK} (h : ∀ ds r, rel ds r → WM K (WF E) (ds.map SD.dat ++ List.replicate (n - ds.length) SD.no) [] t (fun o => FitsDM o r)) {N : List Str} (hN : N.length = n) (vs : List V) (H : Hp) (Q : VK)
    (q : spD K rel vs H Q E) : t { nx := fun _ H' => Q .non H', rt := Q } (L2.start N vs) H := by
  obtain ⟨R, ds, r, s, rr, hr, q⟩ := q
  obtain ⟨o, hf, hd⟩ := h ds r hr
  have e := EvM.enter (K := K) (S := []) (al := fun _ => 0) (args := ds.map SD.dat) (n := n - ds.length) s (VsOk.dats rr) (fun x hx => by obtain ⟨d, _, rfl⟩ := List.mem_map.mp hx; trivial) ⟨fun j b h => by simp at h, fun j b h => by simp at h, fun j k h => by simp at h, fun j h => by simp at h⟩
  have hst : L2.start N vs = vs.map some ++ List.replicate (n - ds.length) none := by
    unfold L2.start
    rw [hN, rr.len]
  have hg : ∀ {σ' H' R' al' ρ' S'}, EvM K ⟨OwnA (fun _ => 0) [], H, R, fun _ => 0, ([] : Sto).length⟩ H' R' σ' al' ρ' S' → Gr H R H' R' := fun e' =>
    ⟨fun a o h => e'.h a o h (fun ⟨j, hj, _⟩ => by simp at hj), e'.r, e'.i, fun a o h => e'.o a o h (fun ⟨j, hj, _⟩ => by simp at hj)⟩
  rw [hst]
  refine hd _ H _ _ ⟨R, _, e⟩ ?_
  cases o with
  | nx ρ S' =>
    cases r with
    | rt y =>
      have hf' : y = .non := hf
      subst hf'
      rintro σ' H' ⟨R', al', e'⟩
      exact q .non H' R' (hg e') .non
    | rl y => exact hf.elim
    | ex c fs => exact hf.elim
  | rt x S' =>
    cases r with
    | rt y =>
      cases x with
      | dat d =>
        have hf' : d = y := hf
        subst hf'
        intro v σ' H' R' al' ρ' e' rv hx
        exact q v H' R' (hg e') rv
      | no => exact hf.elim
      | rf j => exact hf.elim
    | rl y => cases x <;> exact hf.elim
    | ex c fs => cases x <;> exact hf.elim
  | bk ρ S' => cases r <;> exact hf.elim
  | ct ρ S' => cases r <;> exact hf.elim
  | ex ρ S' c fs =>
    cases r with
    | rt y => exact hf.elim
    | rl y => exact hf.elim
    | ex c' fs' =>
      obtain ⟨rfl, rfl⟩ := hf
      intro σ' H' R' al' dd e' x
      exact q dd H' R' (hg e') x
end
end G

set_option Elab.async false
set_option linter.all false
set_option maxRecDepth 100000
set_option maxHeartbeats 4000000
/-! Down: own operators on data; own exceptions with fields: made, raised, caught, read. -/
namespace G
open PySem PySem.Spec PyProof.Rows L2
section
variable {K : PySem.W.Frag} {W : WX} {δ : DEnv} {ρ ρ' : SEnv} {l : Bool} {ta tb te : TE} {t u : TS} {a : TA} {d x y z : D} {ds es : List D} {i : Nat} {b : Bool} {o : Out} {O : Out → Prop} {C : Addr} {ns : List Str}
/-! own operators -/
theorem o_inO {rel : List D → Res → Prop} (h : rel [.ins C ns ds, x] (.rt (.bl b))) : DO K (rInO K C (spD K rel)) x (.ins C ns ds) (.bl b) := fun H R v u Q s rv ru q => by
  cases ru with
  | @ins a _ dx _ vs _ hr hl rl =>
    exact ⟨a, dx, _, rfl, s _ _ hr, R, [.ins C ns ds, x], .rt (.bl b), s, .cons (.ins hr hl rl) (.cons rv .nil), h, fun v' H' R' g r => by
      cases r
      exact ⟨b, rfl, q _ H' R' g (.bl b)⟩⟩
theorem o_notinO {rel : List D → Res → Prop} (h : rel [.ins C ns ds, x] (.rt (.bl b))) : DO K (rNotInO K C (spD K rel)) x (.ins C ns ds) (.bl (!b)) := fun H R v u Q s rv ru q => by
  cases ru with
  | @ins a _ dx _ vs _ hr hl rl =>
    exact ⟨a, dx, _, rfl, s _ _ hr, R, [.ins C ns ds, x], .rt (.bl b), s, .cons (.ins hr hl rl) (.cons rv .nil), h, fun v' H' R' g r => by
      cases r
      exact ⟨b, rfl, q _ H' R' g (.bl (!b))⟩⟩
def EqArgD (C : Addr) : D → Prop
  | .ins C' _ _ => C' = C
  | .int _ => True
  | _ => False
theorem eqArg_of {R H : Hp} {v : V} (s : Same R H) (r : Rep K R v y) (h : EqArgD C y) : EqArg C H v := by
  cases r with
  | @ins a _ dx _ vs _ hr hl rl =>
    have h' := h
    cases h'
    exact .inl ⟨a, dx, _, rfl, s _ _ hr⟩
  | int i => exact .inr ⟨i, rfl⟩
  | _ => exact h.elim
theorem o_eqO {rel : List D → Res → Prop} (ha : EqArgD C y) (h : rel [.ins C ns ds, y] (.rt (.bl b))) : DO K (rEqO K C (spD K rel)) (.ins C ns ds) y (.bl b) := fun H R v u Q s rv ru q => by
  cases rv with
  | @ins a _ dx _ vs _ hr hl rl =>
    exact ⟨a, dx, _, rfl, s _ _ hr, eqArg_of s ru ha, R, [.ins C ns ds, y], .rt (.bl b), s, .cons (.ins hr hl rl) (.cons ru .nil), h, fun v' H' R' g r => by
      cases r
      exact ⟨b, rfl, q _ H' R' g (.bl b)⟩⟩
theorem o_neO {rel : List D → Res → Prop} (ha : EqArgD C y) (h : rel [.ins C ns ds, y] (.rt (.bl b))) : DO K (rNeO K C (spD K rel)) (.ins C ns ds) y (.bl (!b)) := fun H R v u Q s rv ru q => by
  cases rv with
  | @ins a _ dx _ vs _ hr hl rl =>
    exact ⟨a, dx, _, rfl, s _ _ hr, eqArg_of s ru ha, R, [.ins C ns ds, y], .rt (.bl b), s, .cons (.ins hr hl rl) (.cons ru .nil), h, fun v' H' R' g r => by
      cases r
      exact ⟨b, rfl, q _ H' R' g (.bl (!b))⟩⟩
theorem c_lenOD {rel : List D → Res → Prop} {n : Int} (h : rel [.ins C ns ds] (.rt (.int n))) (h0 : 0 ≤ n) (h1 : n < 2 ^ 63) : DC K (rLenO K C (spD K rel)) [.ins C ns ds] (.int n) := fun H R vs Q s rv q => by
  obtain ⟨v, rfl, r⟩ := rep1 rv
  cases r with
  | @ins a _ dx _ vs _ hr hl rl =>
    exact ⟨a, dx, _, rfl, s _ _ hr, R, [.ins C ns ds], .rt (.int n), s, .cons (.ins hr hl rl) .nil, h, fun v' H' R' g r => by
      cases r
      exact ⟨n, rfl, h0, h1, q _ H' R' g (.int n)⟩⟩
/-- what an own __iter__ promises: the iterator of a row of its -/
def spIt (K : PySem.W.Frag) (rel : List D → List D → Prop) : Sp := fun vs H Q _ => ∃ R ds xs, Same R H ∧ RepL K R vs ds ∧ rel ds xs ∧
  ∀ it t zs H' R', Gr H R H' R' → H it = none → H' it = some (ItTO t it) → R' it = none → SqT K R' t zs → RepL K R' zs xs → Q (.ref it) H'
theorem sqT_drop {H : Hp} {a it : Addr} {zs : List V} {φ : Heap → Prop} (e : H it = some (.ext φ)) (h : SqT K H a zs) : SqT K (ItX.dropH H it) a zs := by
  refine sqT_mono (fun b ys r => ?_) h
  rcases r with r | ⟨o, r⟩
  · refine .inl ?_
    rw [ItX.dropH_ne]
    · exact r
    · intro z
      rw [z, e] at r
      cases r
  · refine .inr ⟨o, ?_⟩
    rw [ItX.dropH_ne]
    · exact r
    · intro z
      rw [z, e] at r
      cases r
theorem it_own {rel : List D → List D → Prop} {xs : List D} (h : DE K δ te (.ins C ns ds)) (hr : rel [.ins C ns ds] xs) : DI K δ (iOwn K C (spIt K rel) te) xs := fun H R σ Rk s ev q =>
  h H R σ _ s ev fun v H1 R1 g r => by
    cases r with
    | @ins a _ dx _ vs _ hr0 hl rl =>
      refine ⟨a, dx, _, rfl, g.i _ _ hr0, R1, [.ins C ns ds], xs, g.i, .cons (.ins hr0 hl rl) .nil, hr, fun it t zs H2 R2 g2 hn he hrn ht rz => ?_⟩
      have sR : Same R2 (ItX.dropH H2 it) := fun b o e => by
        rw [ItX.dropH_ne (ne_of_none e hrn)]
        exact g2.i b o e
      have g3 : Gr H1 R1 (ItX.dropH H2 it) R2 := ⟨fun b o e => by rw [ItX.dropH_ne (ne_of_none e hn)]; exact g2.h b o e, g2.r, sR, g2.o⟩
      have hl2 := rz.len
      refine ⟨it, t, rfl, hn, he, ⟨zs, sqT_same g2.i ht⟩, q _ _ R2 (g.trans g3) ⟨fun i H v H' => H' = H ∧ zs[i]? = some v, ⟨fun i H hi hm => ?_, fun H hm => ?_, fun i H x H' hi hm y => ?_⟩, ?_⟩⟩
      · exact ⟨zs, zs[i]'(by omega), sqT_same hm ht, List.getElem?_eq_getElem _⟩
      · exact ⟨zs, sqT_same hm ht, Nat.le_of_eq hl2⟩
      · exact ⟨y.1, y.2 zs (sqT_same hm ht)⟩
      · rintro i H R3 x H' hi s1 s2 ⟨rfl, hx⟩
        obtain ⟨d, hd, rd⟩ := rz.getV hx
        exact ⟨d, R3, hd, Gr.refl s2, rd.mono s1⟩
/-! own exceptions with fields -/
/-- what an exception's own __init__ promises: the fields, the last one first -/
def spX (K : PySem.W.Frag) (C : Addr) (fns : List Str) : Sp := fun vs H Q _ => ∃ a us, vs = .ref a :: us ∧ us.length = fns.length ∧ H a = some (exo a C none) ∧
  ∀ d H2, H d = none → H2 a = some (exo a C (some d)) → H2 d = some (exd d (fns.zip us).reverse) → (∀ b, b ≠ a → b ≠ d → H2 b = H b) → Q .non H2
theorem spX_len {fns : List Str} {n : Nat} (hn : fns.length + 1 = n) (vs : List V) (H : Hp) (Q : VK) (E : XK) (q : spX K C fns vs H Q E) : vs.length = n := by
  obtain ⟨a, us, rfl, hl, _⟩ := q
  rw [List.length_cons, hl]
  exact hn
theorem spX_1 {f : Str} {E : XK} (hC : OexC K C) (h1 : PySem.W.findIn K (.ref C) f = some none) (N : List Str) (hN : N.length = 2) (vs : List V) (H : Hp) (Q : VK) (q : spX K C [f] vs H Q E) :
    tOst K f (tVar 0) (tVar 1) { nx := fun _ H' => Q .non H', rt := Q } (L2.start N vs) H := by
  obtain ⟨a, us, rfl, hl, ha, q⟩ := q
  obtain ⟨u, rfl⟩ := List.length_eq_one_iff.mp hl
  have e : L2.start N [V.ref a, u] = [some (V.ref a), some u] := by
    unfold L2.start
    rw [hN]
    rfl
  rw [e]
  refine ⟨u, rfl, V.ref a, rfl, a, C, rfl, hC, h1, .inl ⟨ha, fun d hd hda => ?_⟩⟩
  refine q d _ hd upd_same ?_ fun b hb1 hb2 => ?_
  · rw [upd_ne hda]
    exact upd_same
  · rw [upd_ne hb1, upd_ne hb2]
theorem spX_2 {f g : Str} {E : XK} (hC : OexC K C) (h1 : PySem.W.findIn K (.ref C) f = some none) (h2 : PySem.W.findIn K (.ref C) g = some none) (N : List Str) (hN : N.length = 3) (vs : List V) (H : Hp) (Q : VK) (q : spX K C [f, g] vs H Q E) :
    tSeq (tOst K f (tVar 0) (tVar 1)) (tOst K g (tVar 0) (tVar 2)) { nx := fun _ H' => Q .non H', rt := Q } (L2.start N vs) H := by
  obtain ⟨a, us, rfl, hl, ha, q⟩ := q
  obtain ⟨u, v, rfl⟩ : ∃ u v, us = [u, v] := by
    match us, hl with
    | [u, v], _ => exact ⟨u, v, rfl⟩
  have e : L2.start N [V.ref a, u, v] = [some (V.ref a), some u, some v] := by
    unfold L2.start
    rw [hN]
    rfl
  rw [e]
  refine ⟨u, rfl, V.ref a, rfl, a, C, rfl, hC, h1, .inl ⟨ha, fun d hd hda => ?_⟩⟩
  refine ⟨v, rfl, V.ref a, rfl, a, C, rfl, hC, h2, .inr ⟨d, [(f, u)], upd_same, ?_, by simp, ?_⟩⟩
  · rw [upd_ne hda]
    exact upd_same
  · refine q d _ hd ?_ upd_same fun b hb1 hb2 => ?_
    · rw [upd_ne (Ne.symm hda)]
      exact upd_same
    · rw [upd_ne hb2, upd_ne hb1, upd_ne hb2]
/-- the fields of an error, as they stand -/
def exFs (fns : List Str) (ds : List D) : List (Str × D) := (fns.zip ds).reverse
theorem zip_rev {α β : Type} : ∀ {xs : List α} {ys : List β}, xs.length = ys.length → xs.reverse.zip ys.reverse = (xs.zip ys).reverse
  | [], [], _ => rfl
  | [], _ :: _, h => by simp at h
  | _ :: _, [], h => by simp at h
  | x :: xs, y :: ys, h => by
    have h' : xs.length = ys.length := by simpa using h
    rw [List.reverse_cons, List.reverse_cons, List.zip_cons_cons, List.reverse_cons, List.zip_append (by simp [h']), zip_rev h']
    rfl
theorem RepL.rev {R : Hp} : ∀ {vs : List V} {ds : List D}, RepL K R vs ds → RepL K R vs.reverse ds.reverse
  | _, _, .nil => .nil
  | _, _, .cons a b => by
    rw [List.reverse_cons, List.reverse_cons]
    exact (RepL.rev b).app (.cons a .nil)
theorem exFs_ok {R : Hp} {d : Addr} {fns : List Str} {vs : List V} {ds : List D} (hn : fns ≠ []) (hl : fns.length = ds.length) (r : RepL K R vs ds) (e : R d = some (.xd (fns.zip vs).reverse)) : ExOk K R (some d) (exFs fns ds) := by
  have hl2 : fns.length = vs.length := by rw [hl, r.len]
  have e1 : (exFs fns ds).map Prod.fst = fns.reverse := by
    unfold exFs
    rw [List.map_reverse, List.map_fst_zip (by omega)]
  have e2 : (exFs fns ds).map Prod.snd = ds.reverse := by
    unfold exFs
    rw [List.map_reverse, List.map_snd_zip (by omega)]
  refine ⟨fun z => hn ?_, vs.reverse, ?_, ?_⟩
  · have := congrArg List.length e1
    rw [z] at this
    simp at this
    exact List.length_eq_zero_iff.mp this.symm
  · rw [e1, zip_rev hl2]; exact e
  · rw [e2]; exact r.rev
/-- the error is made: what comes to pass -/
theorem mko_end {σ : L2.St} {H1 R1 : Hp} {vs : List V} {fns : List Str} {Q : XK} (s : Same R1 H1) (r : RepL K R1 vs ds) (hn : fns ≠ []) (hl : fns.length = ds.length) (hb : ds.length ≤ 100)
    (q : ∀ d H' R', Gr H1 R1 H' R' → H' = upd H1 d (.xd (fns.zip vs).reverse) → R' = upd R1 d (.xd (fns.zip vs).reverse) → H1 d = none → ExOk K R' (some d) (exFs fns ds) → Q (.ref C) (some d) H') :
    vs.length ≤ 1000 ∧ ∀ a, H1 a = none → spX K C fns (.ref a :: vs) (upd H1 a (exo a C none))
      (fun v H2 => v = .non ∧ ∃ (d : Addr) (fs : List (Str × V)), H2 a = some (exo a C (some d)) ∧ H2 d = some (exd d fs) ∧ H1 d = none ∧ Q (.ref C) (some d) (upd (del H2 a) d (.xd fs))) E0 := by
  refine ⟨by rw [r.len]; omega, fun a ha => ⟨a, vs, rfl, by rw [r.len, hl], upd_same, fun d H2 hd h1 h2 h3 => ⟨rfl, d, _, h1, h2, ?_, ?_⟩⟩⟩
  · by_cases e : d = a
    · rw [e]; exact ha
    · rw [upd_ne e] at hd; exact hd
  · have hda : d ≠ a := fun e => by
      rw [e, upd_same] at hd
      cases hd
    have hd1 : H1 d = none := by rw [upd_ne hda] at hd; exact hd
    have eH : upd (del H2 a) d (.xd (fns.zip vs).reverse) = upd H1 d (.xd (fns.zip vs).reverse) := by
      funext b
      by_cases e1 : b = d
      · rw [e1, upd_same, upd_same]
      · rw [upd_ne e1, upd_ne e1]
        by_cases e2 : b = a
        · rw [e2, del_same, ha]
        · rw [del_ne e2, h3 b e2 e1, upd_ne e2]
    have g := Gr.new (u := .xd (fns.zip vs).reverse) s hd1
    rw [eH]
    exact q d _ _ g rfl rfl hd1 (exFs_ok hn hl (r.mono g.r) upd_same)
theorem x_raiseO {fns : List Str} (l : Bool) (h : DA K (fz l ρ) a ds) (hs : l = true → D.solL ds = true) (hn : fns ≠ []) (hl : fns.length = ds.length) (hb : ds.length ≤ 100) :
    DS K W ρ (tRaise W (tMkOR C (spX K C fns) a)) (.ex ρ (.ref C) (exFs fns ds)) := fun H0 R0 H σ E ⟨R, e⟩ k =>
  h H _ σ _ e.lendI e.env fun vs H1 R1 g r => by
    obtain ⟨e1, up, _, k2, _⟩ := e.run g
    exact mko_end (C := C) (σ := σ) (Q := fun cls d H' => W cls d σ H') (R1 := less l R1 σ ρ) e1.i (k2 vs ds hs r) hn hl hb fun d H' R' g' eH eR hd x => k σ H' R' (some d) (e1.grow g') x
theorem q_raiseO {fns : List Str} (l : Bool) (h : DA K (fz l ρ) a ds) (hs : l = true → D.solL ds = true) (hn : fns ≠ []) (hl : fns.length = ds.length) (hb : ds.length ≤ 100) (q : O (.ex ρ (.ref C) (exFs fns ds))) :
    WP K W ρ (tSeq (tRaise W (tMkOR C (spX K C fns) a)) u) O := q_done (x_raiseO l h hs hn hl hb) rfl q
/-- except C as e, an error with fields -/
theorem x_tryF {tb : WX → TS} {c c' : Value} {fs : List (Str × D)} {ts : Addr → Value → Option Addr → TS} (hf : fs ≠ []) (hb : ∀ W, DS K W ρ (tb W) (.ex ρ' c' fs)) (hc : PySem.W.exmOne K c' c = some true)
    (hs : ∀ a dd, DS K W (ρ'.set i (.va (.exc a dd (fs.map Prod.fst) (fs.map Prod.snd)))) (ts a c' (some dd)) o) : DS K W ρ (tTry tb (wAs K c i ts W)) (o.gone i) := fun H0 R0 H σ E e k =>
  hb _ H0 R0 H σ E e fun σ' H' R' dd e' x => by
    refine ⟨true, hc, fun _ a ha => ?_, fun z => by cases z⟩
    cases dd with
    | none => exact absurd x hf
    | some dd =>
      obtain ⟨_, vs, hx, hv⟩ := x
      refine hs a dd H0 R0 H' _ _ ⟨R', e'.setV (.exc hx (by simp) hv)⟩ ?_
      cases o with
      | nx ρ1 => exact fun σ2 H2 ⟨R2, e2⟩ => k _ H2 ⟨R2, e2.gone⟩
      | bk ρ1 => exact fun σ2 H2 ⟨R2, e2⟩ => k _ H2 ⟨R2, e2.gone⟩
      | ct ρ1 => exact fun σ2 H2 ⟨R2, e2⟩ => k _ H2 ⟨R2, e2.gone⟩
      | rt d => exact k
      | rl d => exact k
      | ex ρ1 c fs => exact k
/-- isinstance(e, A) -/
theorem c_isEY {a dd D0 : Addr} {fns : List Str} {c : V} {cv : Value} (hC : ExcC K D0) (hc : ∀ u, RelV c u → u = cv) (h : PySem.W.kitOne K (.ref D0) cv = some b) : DC K (rIsEY K a (.ref D0) (some dd)) [.exc a dd fns ds, .val c] (.bl b) := fun H R vs Q s rv q => by
  obtain ⟨v, u, rfl, r1, r2⟩ := rep2 rv
  cases r1 with
  | exc hx hl r =>
    cases r2
    exact ⟨.inr ⟨dd, _, rfl, s _ _ hx⟩, D0, c, cv, b, rfl, hC, rfl, hc, h, q _ H R (Gr.refl s) (.bl b)⟩
theorem c_isEY0 {a D0 : Addr} {c : V} {cv : Value} (hC : ExcC K D0) (hc : ∀ u, RelV c u → u = cv) (h : PySem.W.kitOne K (.ref D0) cv = some b) : DC K (rIsEY K a (.ref D0) none) [.val (.ref a), .val c] (.bl b) := fun H R vs Q s rv q => by
  obtain ⟨v, u, rfl, r1, r2⟩ := rep2 rv
  cases r1; cases r2
  exact ⟨.inl rfl, D0, c, cv, b, rfl, hC, rfl, hc, h, q _ H R (Gr.refl s) (.bl b)⟩
/-- e.f -/
theorem d_xf {a dd : Addr} {fns : List Str} {f : Str} (h : DE K δ te (.exc a dd fns ds)) (hd : (fns.zip ds).lookup f = some d) : DE K δ (tXf a (.ref C) (some dd) C f te) d := fun H R σ Q s e q =>
  h H R σ _ s e fun v H1 R1 g r => by
    cases r with
    | exc hx hl r =>
      obtain ⟨w, hw, rw'⟩ := lookup_zip hl r hd
      exact ⟨rfl, rfl, dd, _, w, rfl, g.i _ _ hx, hw, q w H1 R1 g rw'⟩
end
end G

set_option Elab.async false
set_option linter.all false
set_option maxRecDepth 100000
set_option maxHeartbeats 4000000
/-! Mdc: dicts in the store; errors with fields raised over a store. -/
namespace G
open PySem PySem.Spec PyProof.Rows L2
section
variable {K : PySem.W.Frag} {W : WX} {ρ ρ' : MEnv} {S S' S1 S2 : Sto} {td ty tx te ta tb : TE} {tt tu : TT} {t u v : TS} {a : TA} {d : D} {ds es xs : List D} {x y : SD} {zs : List SD} {i j n : Nat} {b c : Bool} {O O' : OutM → Prop} {wi : TI} {l : Bool} {ks : List L2.Key} {k : L2.Key} {C : Addr}
theorem mx_dnew : MX K ρ S tDNewK (.rf S.length) (S ++ [.dct [] []]) := fun B H R σ al Q e q p hp =>
  q (.ref p) _ R _ (e.new hp (c := .dct [] []) (y := .dK []) ⟨rfl, [], rfl, .nil⟩ (fun x hx => by cases hx)) mgr_new new_ok new_below
theorem EvM.dct {B : Bs} {H R : Hp} {σ : L2.St} {al : Nat → Addr} {zs : List SD} (e : EvM K B H R σ al ρ S) (h : S[j]? = some (.dct ks zs)) : ∃ vs, H (al j) = some (.dK (ks.zip vs)) ∧ ks.length = zs.length ∧ VsOk K R al zs vs := by
  obtain ⟨o, a1, a2, a3⟩ := e.ob j _ h (fun z => by cases z)
  cases o <;> first
    | exact a2.elim
    | skip
  obtain ⟨hl, vs, rfl, r⟩ := a2
  exact ⟨vs, a1, hl, r⟩
theorem VsOk.undat {R : Hp} {al : Nat → Addr} : ∀ {es : List D} {vs : List V}, VsOk K R al (es.map SD.dat) vs → RepL K R vs es
  | [], _, h => by cases h; exact .nil
  | e :: es, _, h => by
    cases h with
    | cons a b => exact .cons a (VsOk.undat b)
theorem atK_has {ks : List L2.Key} {es : List D} {k : L2.Key} (h : ks.length = es.length) : (atK ks es k).isSome = hasK ks k := by
  induction ks generalizing es with
  | nil => rfl
  | cons k0 ks ih =>
    cases es with
    | nil => simp at h
    | cons e es =>
      have ih' := ih (es := es) (by simpa using h)
      unfold atK hasK at *
      rw [List.zip_cons_cons, List.find?_cons, List.any_cons]
      by_cases hk : k0 = k
      · simp [hk]
      · simp only [hk, decide_false, Bool.false_or]
        exact ih'
/-- d.setdefault(k, e), numbers and other data kept -/
theorem mx_setd (l : Bool) (h1 : MX K ρ S td (.rf j) S1) (h2 : DE K (fm l S1 ρ) ty (kD k)) (h3 : DE K (fm l S1 ρ) tx d) (hs : l = true → d.sol = true) (hS : S1[j]? = some (.dct ks (es.map SD.dat))) (hn : ks.length < 10000000) :
    MX K ρ S (tDSetd td ty tx) (.dat ((atK ks es k).getD d)) (if hasK ks k = true then S1 else S1.set j (.dct (ks ++ [k]) ((es ++ [d]).map SD.dat))) := fun B H R σ al Q e q =>
  h1 B H R σ al _ e fun v H1 R1 al1 e1 ga r1 hj => by
    have r1' : v = .ref (al1 j) := r1
    subst r1'
    obtain ⟨vs1, a1, _, _⟩ := e1.dct hS
    refine ⟨al1 j, rfl, .inl ⟨_, .inl a1⟩, ?_⟩
    refine h2 H1 _ σ _ e1.lendI e1.env fun y H2 R2 g2 r2 => ?_
    obtain ⟨e2, up2, _⟩ := e1.run g2
    refine h3 H2 _ σ _ e2.lendI e2.env fun z H3 R3 g3 r3 => ?_
    obtain ⟨e3, up3, k3, _⟩ := e2.run g3
    obtain ⟨vs, a3, hl, rr⟩ := e3.dct hS
    have rz := k3 z d hs r3
    have re := rr.undat
    rw [List.length_map] at hl
    have ey := rep_key r2
    have gg : MGr S S1 R (lessM l R3 al1 S1) al al1 := ga.trans ⟨up2.trans up3, fun _ _ => rfl, Nat.le_refl _⟩
    have hlen : ks.length = vs.length := by rw [hl, re.len]
    refine ⟨ks.zip vs, k, a3, ey, smallL (by rw [List.length_zip]; omega), fun w hw => ?_, fun hw => ?_⟩
    · have h0 : hasK ks k = true := by rw [← valV_is hlen, hw]; rfl
      cases hA : atK ks es k with
      | none =>
        have := atK_has (k := k) hl
        rw [hA, h0] at this
        cases this
      | some d0 =>
        obtain ⟨w', e1', rw'⟩ := valV_rep hl re hA
        rw [hw] at e1'
        cases e1'
        rw [if_pos h0, hA] at q
        exact q w H3 _ al1 e3 gg rw' trivial
    · have h0 : hasK ks k = false := by rw [← valV_is hlen, hw]; rfl
      have hA : atK ks es k = none := by
        have := atK_has (k := k) hl
        rw [h0] at this
        exact Option.isNone_iff_eq_none.mp (by rw [← Option.not_isSome, this]; rfl)
      rw [if_neg (by rw [h0]; decide), hA] at q
      have e0 : putK (ks.zip vs) k z = (ks ++ [k]).zip (vs ++ [z]) := by
        unfold putK
        rw [putK_any hlen, h0, List.zip_append hlen]
        rfl
      rw [e0]
      refine q z _ _ al1 (e3.put hS (fun z => by cases z) (c := .dct (ks ++ [k]) ((es ++ [d]).map SD.dat)) (y := .dK ((ks ++ [k]).zip (vs ++ [z]))) ⟨by simp [hl], vs ++ [z], rfl, ?_⟩ fun y hy => ?_) ⟨gg.s, gg.a, by rw [List.length_set]; exact gg.l⟩ rz trivial
      · rw [List.map_append]
        exact rr.app (.cons rz .nil)
      · obtain ⟨d', _, rfl⟩ := List.mem_map.mp hy
        trivial
/-- raise C(e, ..), an own error with fields -/
theorem m_raiseO {fns : List Str} (l : Bool) (h : DA K (fm l S ρ) a ds) (hs : l = true → D.solL ds = true) (hn : fns ≠ []) (hl : fns.length = ds.length) (hb : ds.length ≤ 100) (q : O (.ex ρ S (.ref C) (exFs fns ds))) :
    WM K W ρ S (tSeq (tRaise W (tMkOR C (spX K C fns) a)) u) O := m_done (o := .ex ρ S (.ref C) (exFs fns ds)) (fun B H σ E ⟨R, al, e⟩ k =>
  h H _ σ _ e.lendI e.env fun vs H1 R1 g r => by
    obtain ⟨e1, up, _, k2, _⟩ := e.run g
    exact mko_end (C := C) (σ := σ) (Q := fun cls d H' => W cls d σ H') (R1 := lessM l R1 al S) e1.i (k2 vs ds hs r) hn hl hb fun d H' R' g' eH eR hd x => k σ H' R' al (some d) (e1.runF g') x) rfl q
end
end G

set_option Elab.async false
set_option linter.all false
set_option maxRecDepth 100000
set_option maxHeartbeats 4000000
/-! Dini: enumerate over data; x in a row of texts; texts compared; __init__ told over a store. -/
namespace G
open PySem PySem.Spec PyProof.Rows L2 Pm
section
variable {K : PySem.W.Frag} {W : WX} {δ : DEnv} {ta tb te : TE} {a : TA} {x y d : D} {ds es : List D} {t : TS}
def enumD (ds : List D) : List D := ds.zipIdx.map fun p => .tup [.int (p.2 : Int), p.1]
theorem enumD_get {i : Nat} : (enumD ds)[i]? = (ds[i]?).map fun d => .tup [.int (i : Int), d] := by
  unfold enumD
  rw [List.getElem?_map, List.getElem?_zipIdx]
  cases ds[i]? <;> simp
theorem enumD_len : (enumD ds).length = ds.length := by simp [enumD]
theorem enumD_val {i : Nat} (h : (enumD ds)[i]? = some x) : ∃ d, ds[i]? = some d ∧ x = .tup [.int (i : Int), d] := by
  rw [enumD_get] at h
  cases e : ds[i]? with
  | none => rw [e] at h; cases h
  | some d => rw [e] at h; exact ⟨d, rfl, (Option.some.inj h).symm⟩
theorem it_enum {ta : TA} (h : DA K δ ta [x]) (hx : x = .lst ds ∨ x = .tup ds) : DI K δ (iEnumA K ta) (enumD ds) := fun H R σ Rk s ev q =>
  h H R σ _ s ev fun vs H1 R1 g r => by
    obtain ⟨v, rfl, r1⟩ := rep1 r
    rcases hx with rfl | rfl
    · cases r1 with
      | @lst p zs _ k1 k2 =>
        refine .inl ⟨p, zs, rfl, rdS g.i k1, q _ H1 R1 g ⟨fun i H v H' => ∃ T x, v = .ref T ∧ H T = none ∧ H' = upd H T (.tup [.int (i : Nat), x]) ∧ zs[i]? = some x, ⟨fun i H hi hm => ?_, fun H hm => ?_, fun i H x H' hi hm y => ?_⟩, ?_⟩⟩
        · rw [enumD_len, ← k2.len] at hi
          exact ⟨zs, zs[i], rdS hm k1, List.getElem?_eq_getElem hi⟩
        · exact ⟨zs, rdS hm k1, by rw [enumD_len, k2.len]; exact Nat.le_refl _⟩
        · obtain ⟨T, x0, e1, e2, e3, e4⟩ := y
          exact ⟨T, x0, e1, e2, e3, e4 zs (rdS hm k1)⟩
        · rintro i H R3 v H' hi s1 s2 ⟨T, x0, rfl, hT, rfl, hx⟩
          obtain ⟨d, hd, rd⟩ := k2.getV hx
          have g2 := Gr.new (u := .tup [.int (i : Nat), x0]) s2 hT
          exact ⟨.tup [.int (i : Int), d], upd R3 T (.tup [.int (i : Nat), x0]), by rw [enumD_get, hd]; rfl, g2, .tup (SqT.of upd_same) (.cons (.int _) (.cons ((rd.mono s1).mono g2.r) .nil))⟩
    · cases r1 with
      | @tup p zs _ k1 k2 =>
        refine .inr ⟨p, zs, rfl, sqT_same g.i k1, q _ H1 R1 g ⟨fun i H v H' => ∃ T x, v = .ref T ∧ H T = none ∧ H' = upd H T (.tup [.int (i : Nat), x]) ∧ zs[i]? = some x, ⟨fun i H hi hm => ?_, fun H hm => ?_, fun i H x H' hi hm y => ?_⟩, ?_⟩⟩
        · rw [enumD_len, ← k2.len] at hi
          exact ⟨zs, zs[i], sqT_same hm k1, List.getElem?_eq_getElem hi⟩
        · exact ⟨zs, sqT_same hm k1, by rw [enumD_len, k2.len]⟩
        · obtain ⟨T, x0, e1, e2, e3, e4⟩ := y
          exact ⟨T, x0, e1, e2, e3, e4 zs (sqT_same hm k1)⟩
        · rintro i H R3 v H' hi s1 s2 ⟨T, x0, rfl, hT, rfl, hx⟩
          obtain ⟨d, hd, rd⟩ := k2.getV hx
          have g2 := Gr.new (u := .tup [.int (i : Nat), x0]) s2 hT
          exact ⟨.tup [.int (i : Int), d], upd R3 T (.tup [.int (i : Nat), x0]), by rw [enumD_get, hd]; rfl, g2, .tup (SqT.of upd_same) (.cons (.int _) (.cons ((rd.mono s1).mono g2.r) .nil))⟩
/-! x in a row of texts -/
def memT (ps : List (List Nat)) : D → Bool
  | .str z => decide (z.cps.toList ∈ ps)
  | _ => false
def flatD : D → Bool
  | .str _ => true
  | .int _ => true
  | .non => true
  | _ => false
theorem rep_PD {R : Hp} {ps : List (List Nat)} {vs : List V} (h : RepL K R vs (PD ps)) : vs = ps.map fun p => V.str (mkS p) := by
  have e : PD ps = (ps.map mkS).map D.str := by rw [List.map_map]; rfl
  rw [e] at h
  rw [rep_strs h, List.map_map]
  rfl
theorem in_flat {ps : List (List Nat)} {R : Hp} {v : V} (hx : flatD x = true) (r : Rep K R v x) : flatV v = true ∧ (ps.map fun p => V.str (mkS p)).all flatV = true ∧ inV v (ps.map fun p => V.str (mkS p)) = memT ps x := by
  have h2 : (ps.map fun p => V.str (mkS p)).all flatV = true := List.all_eq_true.mpr fun y hy => by
    obtain ⟨p, _, rfl⟩ := List.mem_map.mp hy
    rfl
  cases r with
  | str z =>
    refine ⟨rfl, h2, ?_⟩
    unfold inV memT
    rw [Bool.eq_iff_iff, List.any_eq_true, decide_eq_true_iff]
    constructor
    · rintro ⟨y, hy, e⟩
      obtain ⟨p, hp, rfl⟩ := List.mem_map.mp hy
      have : mkS p = z := beq_iff_eq.mp e
      rw [← this, mkS_cps]
      exact hp
    · intro h
      exact ⟨_, List.mem_map_of_mem h, by show (mkS z.cps.toList == z) = true; rw [mkS_of]; simp⟩
  | int i =>
    refine ⟨rfl, h2, ?_⟩
    unfold inV memT
    rw [Bool.eq_false_iff]
    intro z
    obtain ⟨y, hy, e⟩ := List.any_eq_true.mp z
    obtain ⟨p, _, rfl⟩ := List.mem_map.mp hy
    cases e
  | non =>
    refine ⟨rfl, h2, ?_⟩
    unfold inV memT
    rw [Bool.eq_false_iff]
    intro z
    obtain ⟨y, hy, e⟩ := List.any_eq_true.mp z
    obtain ⟨p, _, rfl⟩ := List.mem_map.mp hy
    cases e
  | _ => cases hx
theorem o_inT {ps : List (List Nat)} (hx : flatD x = true) (hy : y = .lst (PD ps) ∨ y = .tup (PD ps)) : DO K (rIn' K) x y (.bl (memT ps x)) := fun H R v u Q s rv ru q => by
  obtain ⟨f1, f2, f3⟩ := in_flat (ps := ps) hx rv
  rcases hy with rfl | rfl
  · cases ru with
    | @lst p zs _ k1 k2 =>
      have e := rep_PD k2
      subst e
      exact .inl ⟨p, _, rfl, .inl (rdS s k1), f1, f2, by rw [f3]; exact q _ H R (Gr.refl s) (.bl _)⟩
  · cases ru with
    | @tup p zs _ k1 k2 =>
      have e := rep_PD k2
      subst e
      exact .inl ⟨p, _, rfl, .inr (sqT_same s k1), f1, f2, by rw [f3]; exact q _ H R (Gr.refl s) (.bl _)⟩
theorem o_notinT {ps : List (List Nat)} (hx : flatD x = true) (hy : y = .lst (PD ps) ∨ y = .tup (PD ps)) : DO K (rNotIn' K) x y (.bl (!memT ps x)) := fun H R v u Q s rv ru q => by
  obtain ⟨f1, f2, f3⟩ := in_flat (ps := ps) hx rv
  rcases hy with rfl | rfl
  · cases ru with
    | @lst p zs _ k1 k2 =>
      have e := rep_PD k2
      subst e
      exact .inl ⟨p, _, rfl, .inl (rdS s k1), f1, f2, by show Q (.bl (!inV _ _)) H; rw [f3]; exact q _ H R (Gr.refl s) (.bl _)⟩
  · cases ru with
    | @tup p zs _ k1 k2 =>
      have e := rep_PD k2
      subst e
      exact .inl ⟨p, _, rfl, .inr (sqT_same s k1), f1, f2, by show Q (.bl (!inV _ _)) H; rw [f3]; exact q _ H R (Gr.refl s) (.bl _)⟩
theorem o_les {m n : Str} : DO K rLe' (.str m) (.str n) (.bl (!decide (n.cps.toList < m.cps.toList))) := do_of fun H R v u Q s rv ru q => by cases rv; cases ru; exact q _ fun _ => .bl _
/-! __init__ over a store -/
def FitsIM (C : Addr) : OutM → Res → Prop
  | .nx _ S, .rt (.ins C' ns es) => C' = C ∧ S[0]? = some (.ins C ns (es.map SD.dat))
  | .ex _ _ c fs, .ex c' fs' => c = c' ∧ fs = fs'
  | _, _ => False
theorem spI_ofM {rel : List D → Res → Prop} {n : Nat} {E : XK} {C : Addr} (h : ∀ ds r, rel ds r → WM K (WF E) (.rf 0 :: (ds.map SD.dat ++ List.replicate (n - (ds.length + 1)) SD.no)) [.ins C [] []] t (fun o => FitsIM C o r)) {N : List Str} (hN : N.length = n) (vs : List V) (H : Hp) (Q : VK)
    (q : spI K C rel vs H Q E) : t { nx := fun _ H' => Q .non H', rt := Q } (L2.start N vs) H := by
  obtain ⟨x, dx, ws, H00, R, ds, r, rfl, rfl, hx, hd, hdx, s, rr, hr, q⟩ := q
  obtain ⟨o, hf, hd2⟩ := h ds r hr
  have s2 : Same R (upd (upd H00 dx (.own x)) x (.ins C dx [])) := fun a o e => by
    have e' := s a o e
    rw [upd_ne (ne_of_none e' hx), upd_ne (ne_of_none e' hd)]
    exact e'
  have hRx : R x = none := s.free hx
  have st : StoOk K R (upd (upd H00 dx (.own x)) x (.ins C dx [])) (fun _ => x) [.ins C [] []] := by
    refine ⟨fun j b hb _ => ?_, fun j b hb y hy => ?_, fun j k hj hk _ => ?_, fun j hj => ⟨_, upd_same⟩⟩
    · cases j with
      | zero =>
        cases hb
        exact ⟨_, upd_same, ⟨rfl, rfl, [], rfl, .nil⟩, hRx⟩
      | succ j => simp at hb
    · cases j with
      | zero => cases hb; cases hy
      | succ j => simp at hb
    · simp at hj hk
      omega
  have hb : ∀ y ∈ SD.rf 0 :: ds.map SD.dat, y.below ([Ob.ins C [] []] : Sto).length := fun y hy => by
    rcases List.mem_cons.mp hy with rfl | hy
    · show 0 < _; simp
    · obtain ⟨d, _, rfl⟩ := List.mem_map.mp hy; trivial
  have e := EvM.enter (K := K) (S := [.ins C [] []]) (al := fun _ => x) (args := SD.rf 0 :: ds.map SD.dat) (n := n - (ds.length + 1)) s2 (.cons (by show V.ref x = .ref x; rfl) (VsOk.dats rr)) hb st
  have hst : L2.start N (V.ref x :: ws) = (V.ref x :: ws).map some ++ List.replicate (n - (ds.length + 1)) none := by
    unfold L2.start
    rw [hN, List.length_cons, rr.len]
  have hg : ∀ {σ' H' R' al' ρ' S'}, EvM K ⟨OwnA (fun _ => x) [.ins C [] []], upd (upd H00 dx (.own x)) x (.ins C dx []), R, fun _ => x, ([.ins C [] []] : Sto).length⟩ H' R' σ' al' ρ' S' → Gr H00 R H' R' := fun e' => by
    refine ⟨fun a o h => ?_, e'.r, e'.i, fun a o h hn => ?_⟩
    · have nx := ne_of_none h hx
      refine e'.h a o ?_ ?_
      · show upd _ _ _ a = _
        rw [upd_ne nx, upd_ne (ne_of_none h hd)]
        exact h
      · rintro ⟨j, _, z⟩
        exact nx z.symm
    · have nx := ne_of_none h hx
      refine e'.o a o ?_ ?_ hn
      · show upd _ _ _ a = _
        rw [upd_ne nx, upd_ne (ne_of_none h hd)]
        exact h
      · rintro ⟨j, _, z⟩
        exact nx z.symm
  rw [hst]
  refine hd2 _ _ _ _ ⟨R, _, e⟩ ?_
  cases o with
  | nx ρ S' =>
    cases r with
    | rt y =>
      cases y with
      | ins C' ns es =>
        obtain ⟨rfl, hS⟩ := hf
        obtain ⟨_, q⟩ := q
        rintro σ' H' ⟨R', al', e'⟩
        have hal : al' 0 = x := e'.na 0 (by show 0 < 1; omega)
        obtain ⟨dx', us, h1, h2, h3⟩ := e'.ins hS
        obtain ⟨o0, _, _, h4⟩ := e'.ob 0 _ hS (fun z => by cases z)
        rw [hal] at h1 h4
        rw [List.length_map] at h2
        exact q H' R' dx' us (hg e') h1 h2 h3.undat h4
      | _ => exact hf.elim
    | rl y => exact hf.elim
    | ex c fs => exact hf.elim
  | ex ρ S' c fs =>
    cases r with
    | rt y => exact hf.elim
    | rl y => exact hf.elim
    | ex c' fs' =>
      obtain ⟨rfl, rfl⟩ := hf
      intro σ' H' R' al' dd e' x'
      exact q dd H' R' (hg e') x'
  | rt x S' => cases r <;> exact hf.elim
  | bk ρ S' => cases r <;> exact hf.elim
  | ct ρ S' => cases r <;> exact hf.elim
end
end G

set_option Elab.async false
set_option linter.all false
set_option maxRecDepth 100000
set_option maxHeartbeats 4000000
/-! Msol: data read of a store of lists; objects frozen; comprehensions of objects; list + over a store. -/
namespace G
open PySem PySem.Spec PyProof.Rows L2
mutual
/-- no list in it; instances (fi), dicts (fd) and errors may be -/
def D.solI (fi fd : Bool) : D → Bool
  | .tup ds => D.solIL fi fd ds
  | .lst _ => false
  | .ins _ _ ds => fi && D.solIL fi fd ds
  | .kl _ => false
  | .dct _ ds => fd && D.solIL fi fd ds
  | .ndc _ _ _ => false
  | .exc _ _ _ ds => D.solIL fi fd ds
  | .xt ds => D.solIL fi fd ds
  | _ => true
def D.solIL (fi fd : Bool) : List D → Bool
  | [] => true
  | d :: ds => D.solI fi fd d && D.solIL fi fd ds
end
def kOk (fi fd : Bool) : HO → Bool
  | .lst _ => false
  | .ins _ _ _ => fi
  | .dK _ => fd
  | .ext _ => false
  | _ => true
section
variable {K : PySem.W.Frag} {R R' : Hp} {fi fd : Bool}
mutual
theorem Rep.solidI (h : ∀ b o, R b = some o → kOk fi fd o = true → R' b = some o) : ∀ (d : D) (v : V), d.solI fi fd = true → Rep K R v d → Rep K R' v d
  | .non, _, _, q => by cases q; exact .non
  | .bl b, _, _, q => by cases q; exact .bl b
  | .int i, _, _, q => by cases q; exact .int i
  | .str x, _, _, q => by cases q; exact .str x
  | .tup ds, _, s, q => by
    cases q with
    | tup a b =>
      refine .tup (sqT_mono (fun b zs r => ?_) a) (RepL.solidI h ds _ (by simpa [D.solI] using s) b)
      rcases r with r | ⟨o, r⟩
      · exact .inl (h _ _ r rfl)
      · exact .inr ⟨o, h _ _ r rfl⟩
  | .lst ds, _, s, _ => by simp [D.solI] at s
  | .ins C ns ds, _, s, q => by
    simp only [D.solI, Bool.and_eq_true] at s
    cases q with
    | ins a l b => exact .ins (h _ _ a s.1) l (RepL.solidI h ds _ s.2 b)
  | .kl ds, _, s, _ => by simp [D.solI] at s
  | .val v, _, _, q => by cases q; exact .val v
  | .dct ks ds, _, s, q => by
    simp only [D.solI, Bool.and_eq_true] at s
    cases q with
    | dct a l b => exact .dct (h _ _ a s.1) l (RepL.solidI h ds _ s.2 b)
  | .ndc _ _ _, _, s, _ => by simp [D.solI] at s
  | .exc a dd fns ds, _, s, q => by
    cases q with
    | exc a l b => exact .exc (h _ _ a rfl) l (RepL.solidI h ds _ (by simpa [D.solI] using s) b)
  | .xt ds, _, s, q => by
    cases q with
    | xt a l b => exact .xt (h _ _ a rfl) l (RepL.solidI h ds _ (by simpa [D.solI] using s) b)
theorem RepL.solidI (h : ∀ b o, R b = some o → kOk fi fd o = true → R' b = some o) : ∀ (ds : List D) (vs : List V), D.solIL fi fd ds = true → RepL K R vs ds → RepL K R' vs ds
  | [], _, _, q => by cases q; exact .nil
  | d :: ds, _, s, q => by
    simp only [D.solIL, Bool.and_eq_true] at s
    cases q with
    | cons a b => exact .cons (Rep.solidI h d _ s.1 a) (RepL.solidI h ds _ s.2 b)
end
end
def Ob.isK (fi fd : Bool) : Ob → Bool
  | .ins _ _ _ => !fi
  | .dct _ _ => !fd
  | _ => true
def stK (fi fd : Bool) (S : Sto) : Bool := S.all (Ob.isK fi fd)
def Ob.asD : Ob → List D → D
  | .lst _, ds => .lst ds
  | .ins C ns _, ds => .ins C ns ds
  | .dct ks _, ds => .dct ks ds
  | .ndc w kds _, ds => .ndc w kds ds
  | .gone, _ => .non
section
variable {K : PySem.W.Frag} {W : WX} {ρ ρ' : MEnv} {S S' S1 S2 : Sto} {te ta tb : TE} {tt tu : TT} {t u v : TS} {a : TA} {d : D} {ds es xs : List D} {x y : SD} {zs ws : List SD} {i j n : Nat} {c : Bool} {b : Ob} {g : TG} {O O' : OutM → Prop} {wi : TI} {B : Bs} {H R H' R' : Hp} {σ : L2.St} {al : Nat → Addr} {l : Bool}
theorem EvM.keep {fi fd : Bool} (e : EvM K B H R σ al ρ S) (g : Gr H (lendM l H R al S) H' R') (hl : stK fi fd S = true) {p : Addr} {o : HO} (h : R' p = some o) (hn : kOk fi fd o = true) : lessM l R' al S p = some o := by
  rw [lessM_no]
  · exact h
  · rintro ⟨z1, j, b, h1, h2, rfl⟩
    obtain ⟨o', q1, q2, q3⟩ := e.ob j b h1 h2
    have h3 : R' (al j) = some o' := g.r _ _ (by rw [lendM_yes ⟨z1, j, b, h1, h2, rfl⟩]; exact q1)
    rw [h] at h3
    cases h3
    have h4 := List.all_eq_true.mp hl b (List.mem_of_getElem? h1)
    cases b <;> first
      | exact absurd rfl h2
      | skip
    all_goals (cases o <;> first
      | exact q2.elim
      | (cases hn; done)
      | (have h5 : (!fi) = true := h4; have h6 : fi = true := hn; rw [h6] at h5; cases h5)
      | (have h5 : (!fd) = true := h4; have h6 : fd = true := hn; rw [h6] at h5; cases h5))
theorem mx_deI (l fi fd : Bool) (h : DE K (fm l S ρ) te d) (ho : stK fi fd S = true) (hs : d.solI fi fd = true) : MX K ρ S te (.dat d) S := fun B H R σ al Q e q =>
  h H _ σ _ e.lendI e.env fun v H1 R1 g r => by
    obtain ⟨e1, up, _⟩ := e.run g
    exact q v H1 _ al e1 ⟨up, fun _ _ => rfl, Nat.le_refl _⟩ (Rep.solidI (fun b o => e.keep g ho) d v hs r) trivial
theorem ObOk.frz {p : Addr} {o : HO} (h : ObOk K R al o b) (hp : b.parts = ds.map SD.dat) (hg : b ≠ .gone) (hr : R p = none) : Rep K (upd R p o) (.ref p) (b.asD ds) := by
  have m : Same R (upd R p o) := fun q y e => by
    rw [upd_ne (ne_of_none e hr)]; exact e
  cases o <;> cases b <;> first
    | exact h.elim
    | (rename_i vs xs
       have hp' : xs = ds.map SD.dat := hp
       subst hp'
       exact .lst (.inl upd_same) ((VsOk.undat h).mono m))
    | (rename_i C dx fs C' ns xs
       have hp' : xs = ds.map SD.dat := hp
       subst hp'
       obtain ⟨rfl, hl, vs, rfl, r⟩ := h
       exact .ins upd_same (by rw [hl, List.length_map]) ((VsOk.undat r).mono m))
    | (rename_i kvs ks xs
       have hp' : xs = ds.map SD.dat := hp
       subst hp'
       obtain ⟨hl, vs, rfl, r⟩ := h
       exact .dct upd_same (by rw [hl, List.length_map]) ((VsOk.undat r).mono m))
    | (rename_i φ w kds xs
       have hp' : xs = ds.map SD.dat := hp
       subst hp'
       obtain ⟨a, es, vs, rfl, h2, h3, h4, h5, r⟩ := h
       exact .ndc upd_same h2 h3 (h4.mono m) h5 ((VsOk.undat r).mono m))
    | exact absurd rfl hg
/-- an object of the store becomes data -/
theorem EvM.frz (e : EvM K B H R σ al ρ S) (hi : ρ[i]? = some (.rf j)) (hS : S[j]? = some b) (hp : b.parts = ds.map SD.dat) (hg : b ≠ .gone) : ∃ R', EvM K B H R' σ al (ρ.set i (.dat (b.asD ds))) (S.set j .gone) := by
  obtain ⟨o, q1, q2, q3⟩ := e.ob j b hS hg
  have hj : j < S.length := (List.getElem?_eq_some_iff.mp hS).1
  have m : Same R (upd R (al j) o) := fun q y e => by
    rw [upd_ne (ne_of_none e q3)]; exact e
  refine ⟨upd R (al j) o, e.r.trans m, fun p y h => ?_, e.h, e.t, fun p y h nm n => ?_, by rw [List.length_set]; exact e.len, fun k x hx => ?_, fun x hx => ?_, fun k c hk hc => ?_, fun k hk => e.fp k (by rw [List.length_set] at hk; exact hk), fun k c hk x hx => ?_,
    fun k k' hk hk' => e.inj k k' (by rw [List.length_set] at hk; exact hk) (by rw [List.length_set] at hk'; exact hk'), by rw [List.length_set]; exact e.nl, e.na, fun k hk hk' => e.nw k hk (by rw [List.length_set] at hk'; exact hk'), fun k hk => e.st k (by rw [List.length_set] at hk; exact hk)⟩
  · by_cases z : p = al j
    · subst z
      rw [upd_same] at h
      rw [← h]; exact q1
    · rw [upd_ne z] at h; exact e.i p y h
  · have hne : p ≠ al j := fun z => by
      subst z
      rcases e.fp j hj with z | z
      · rw [z] at h; cases h
      · exact nm z
    rw [upd_ne hne]; exact e.o p y h nm n
  · by_cases hk : i = k
    · subst hk
      obtain ⟨rfl, _⟩ := set_self_some hx
      rcases e.ok i _ hi with z | ⟨v, h1, h2⟩
      · cases z
      · refine .inr ⟨v, h1, ?_⟩
        have h2' : v = .ref (al j) := h2
        subst h2'
        exact q2.frz hp hg q3
    · rw [List.getElem?_set_ne hk] at hx
      rcases e.ok k x hx with z | ⟨v, h1, h2⟩
      · exact .inl z
      · exact .inr ⟨v, h1, h2.mono m⟩
  · rw [List.length_set]
    rcases List.mem_or_eq_of_mem_set hx with hx | rfl
    · exact e.be x hx
    · trivial
  · by_cases hkj : j = k
    · subst hkj
      exact absurd (set_self_some hk).1 hc
    · rw [List.getElem?_set_ne hkj] at hk
      obtain ⟨o', p1, p2, p3⟩ := e.ob k c hk hc
      refine ⟨o', p1, p2.mono m, ?_⟩
      rw [upd_ne fun z => hkj (e.inj k j (List.getElem?_eq_some_iff.mp hk).1 hj z).symm]
      exact p3
  · rw [List.length_set]
    by_cases hkj : j = k
    · subst hkj
      rw [(set_self_some hk).1] at hx
      cases hx
    · rw [List.getElem?_set_ne hkj] at hk
      exact e.bo k c hk x hx
theorem m_frz (i : Nat) (hi : ρ[i]? = some (.rf j)) (hS : S[j]? = some b) (hp : b.parts = ds.map SD.dat) (hg : b ≠ .gone) (q : WM K W (ρ.set i (.dat (b.asD ds))) (S.set j .gone) t O) : WM K W ρ S t O := let ⟨o, a, k⟩ := q; ⟨o, a, fun B H σ E ⟨R, al, e⟩ k2 => by
  obtain ⟨R', e'⟩ := e.frz hi hS hp hg
  exact k B H σ E ⟨R', al, e'⟩ k2⟩
/-- list + : data ahead of a list of the store -/
theorem mx_catDM (h1 : DE K (fm false S ρ) ta (.lst ds)) (h2 : MX K ρ S tb (.rf j) S1) (h3 : S1[j]? = some (.lst ws)) (hn : ds.length + ws.length ≤ 10000000) : MX K ρ S (tOp (rAdd' K) ta tb) (.rf S1.length) (S1 ++ [.lst (ds.map SD.dat ++ ws)]) := fun B H R σ al Q e q =>
  h1 H R σ _ e.i (by have := e.env (l := false); rw [lendM_f] at this; exact this) fun v H1 R1 g r => by
    have e1 := e.runF g
    refine h2 B H1 R1 σ al _ e1 fun w H2 R2 al2 e2 ga r2 hj => ?_
    have r2' : w = .ref (al2 j) := r2
    subst r2'
    obtain ⟨vs, a1, a2⟩ := e2.lst h3
    cases r with
    | @lst p us _ k1 k2 =>
      have l1 := k2.len
      have l2 := a2.len
      have hz : us.length + vs.length ≤ sizeLine := small (by omega)
      refine .inl ⟨us, vs, rdSame e2.i (rdSame ga.s k1), .inl a1, hz, fun q0 hq => ?_⟩
      refine q (.ref q0) _ R2 _ (e2.new hq (c := .lst (ds.map SD.dat ++ ws)) ((VsOk.dats (k2.mono ga.s)).app a2) fun x hx => ?_) ((MGr.trans ⟨g.r, fun _ _ => rfl, Nat.le_refl _⟩ ga).trans mgr_new) new_ok new_below
      rcases List.mem_append.mp hx with hx | hx
      · obtain ⟨d, _, rfl⟩ := List.mem_map.mp hx; trivial
      · exact e2.bo j _ h3 x hx
/-- [te for g in wi], each turn a datum or an object of the store -/
theorem mx_lcR {vs : List Nat} (hi : DI K (fm false S ρ) wi xs) (St : Nat → Sto) (h0 : St 0 = S) (f : Nat → SD) (ps : Nat → List (Nat × D)) (hg : ∀ i d, xs[i]? = some d → DG K g d (ps i) ∧ ∀ p ∈ ps i, p.1 ∈ vs)
    (hs : ∀ i d, xs[i]? = some d → MX K (setsM (wipeM ρ vs) (ps i)) (St i) te (f i) (St (i + 1))) (hn : xs.length ≤ 10000000) :
    MX K ρ S (tLc wi g tYes te vs) (.rf (St xs.length).length) (St xs.length ++ [.lst ((List.range xs.length).map f)]) := fun B H R σ al Q e q => by
  refine hi H R σ _ e.i (by have := e.env (l := false); rw [lendM_f] at this; exact this) fun J H1 R1 g1 ⟨Y, hw, hyl⟩ L hL => ?_
  have e1 := e.runF g1
  have rL : R1 L = none := e1.i.free hL
  have e1' := e1.runF (Gr.apart e1.i hL (u := .lst []))
  refine lc_it hw (fun i H2 => ∃ R2 al2 acc, EvM K B H2 R2 σ al2 ρ (St i) ∧ Same R1 R2 ∧ MGr S (St i) R R2 al al2 ∧ H2 L = some (.lst acc) ∧ R2 L = none ∧ (∀ j, j < (St i).length → al2 j ≠ L) ∧ VsOk K R2 al2 ((List.range i).map f) acc ∧ ∀ x ∈ (List.range i).map f, x.below (St i).length)
    ⟨R1, al, [], by rw [h0]; exact e1', Same.refl _, by rw [h0]; exact ⟨g1.r, fun _ _ => rfl, Nat.le_refl _⟩, upd_same, rL, (fun j hj z => by rw [h0] at hj; obtain ⟨o, w⟩ := e1.st j hj; rw [z, hL] at w; cases w), .nil, fun x hx => by simp at hx⟩ ?_ ?_ ?_
  · rintro i H2 _ ⟨R2, al2, acc, e2, s2, _⟩
    exact s2.trans e2.i
  · rintro i x H2 H3 hi' ⟨R2, al2, acc, e2, s2, ga, a2, n2, nl, r2, b2⟩ y
    obtain ⟨d, R3, hd, g3, r3⟩ := hyl i H2 R2 x H3 hi' s2 e2.i y
    obtain ⟨hg1, hg2⟩ := hg i d hd
    have e3 := e2.runF g3
    have a3 : H3 L = some (.lst acc) := g3.h _ _ a2
    have n3 : R3 L = none := g3.o L _ a2 n2
    refine hg1 H3 R3 _ x _ g3.i r3 fun us ru => ?_
    refine ⟨wipe_sets fun i' hi2 => ?_, ?_⟩
    · obtain ⟨p, hp, rfl⟩ := List.mem_map.mp hi2
      exact hg2 p hp
    refine t_yes ?_
    have e4 := (e3.wipe (vs := vs)).sets ru
    refine if_tt ?_
    refine MX.framed (hs i d hd) (B := B) e4 fun v H5 R5 al5 e5 g5 rv bv fr => ?_
    obtain ⟨k1, k2, k3⟩ := fr L _ a3 (fun ⟨j, hj, z⟩ => nl j hj z)
    have racc := ((r2.mono g3.r).mono g5.s).move g5.a b2
    have hl := r2.len
    simp only [List.length_map, List.length_range] at hl
    refine ⟨acc, k1, smallL (by omega), R5, al5, acc ++ [v], ?_, (s2.trans g3.r).trans g5.s, ga.trans ⟨g3.r.trans g5.s, g5.a, g5.l⟩, upd_same, k2 n3, k3, ?_, ?_⟩
    · have e6 : EvM K B H5 R5 σ al5 ρ (St (i + 1)) := by
        refine ⟨e5.r, e5.i, e5.h, e5.t, e5.o, e2.len, fun m y hy => ?_, fun y hy => SD.below_mono g5.l (e2.be y hy), e5.ob, e5.fp, e5.bo, e5.inj, e5.nl, e5.na, e5.nw, e5.st⟩
        rcases e2.ok m y hy with h | ⟨w, h1, h2⟩
        · exact .inl h
        · exact .inr ⟨w, h1, ((h2.mono g3.r).mono g5.s).move g5.a (e2.be y (List.mem_of_getElem? hy))⟩
      refine ⟨e6.r, fun a o h => ?_, fun a o h n => ?_, fun a o h => ?_, e6.o, e6.len, e6.ok, e6.be, fun j b hs hb => ?_, e6.fp, e6.bo, e6.inj, e6.nl, e6.na, e6.nw, fun j hj => ?_⟩
      · rw [upd_ne (ne_of_none h (k2 n3))]; exact e6.i a o h
      · have hB : B.H L = none := by
          cases z : B.H L with
          | none => rfl
          | some o' => obtain ⟨o2, w⟩ := e1.t L o' z; rw [hL] at w; cases w
        rw [upd_ne (ne_of_none h hB)]; exact e6.h a o h n
      · by_cases z : a = L
        · subst z; exact ⟨_, upd_same⟩
        · rw [upd_ne z]; exact e6.t a o h
      · obtain ⟨o, p1, p2, p3⟩ := e6.ob j b hs hb
        exact ⟨o, by rw [upd_ne (k3 j (List.getElem?_eq_some_iff.mp hs).1)]; exact p1, p2, p3⟩
      · obtain ⟨o, p1⟩ := e6.st j hj
        exact ⟨o, by rw [upd_ne (k3 j hj)]; exact p1⟩
    · rw [List.range_succ, List.map_append]
      exact racc.app (.cons rv .nil)
    · intro x hx
      rw [List.range_succ, List.map_append] at hx
      rcases List.mem_append.mp hx with hx | hx
      · exact SD.below_mono g5.l (b2 x hx)
      · rw [List.mem_singleton.mp hx]
        exact bv
  · rintro H2 ⟨R2, al2, acc, e2, s2, ga, a2, n2, nl, r2, b2⟩
    have hB : B.H L = none := by
      cases z : B.H L with
      | none => rfl
      | some o' => obtain ⟨o2, w⟩ := e1.t L o' z; rw [hL] at w; cases w
    exact q (.ref L) H2 R2 _ (e2.alloc a2 n2 hB nl (c := .lst ((List.range xs.length).map f)) r2 b2) (ga.trans mgr_new) new_ok new_below
theorem lookup_noneR {R : Hp} {ns : List Str} {vs : List V} {ds : List D} {f : Str} (hl : ns.length = ds.length) (r : RepL K R vs ds) (h : (ns.zip ds).lookup f = none) : (ns.zip vs).lookup f = none := by
  induction ns generalizing vs ds with
  | nil => simp
  | cons n ns ih =>
    cases r with
    | nil => simp at hl
    | @cons v vs d ds r0 rr =>
      simp only [List.zip_cons_cons, List.lookup_cons] at h ⊢
      cases hb : f == n with
      | true => rw [hb] at h; cases h
      | false => rw [hb] at h; exact ih (by simpa using hl) rr h
variable {δ : DEnv} {C : Addr} {m : Str} {ns : List Str} {us : List D}
/-- o.m(..), o an instance as data -/
theorem d_methS {rel : List D → Res → Prop} {E : L2.St → XK} (h1 : DE K δ te (.ins C ns us)) (hm : (ns.zip us).lookup m = none) (h2 : DA K δ a ds) (hr : rel (.ins C ns us :: ds) (.rt d)) : DE K δ (tMethS C m (spD K rel) E te a) d := fun H R σ Q s e q =>
  h1 H R σ _ s e fun v H1 R1 g1 r1 => by
    cases r1 with
    | @ins p _ dx _ vs _ hp hl rl =>
      exact ⟨p, dx, _, rfl, g1.i _ _ hp, lookup_noneR hl rl hm, h2 H1 R1 σ _ g1.i (e.mono g1.r) fun ws H2 R2 g2 r2 => ⟨R2, _, .rt d, g2.i, .cons ((Rep.ins hp hl rl).mono g2.r) r2, hr, fun v' H' R' g r => q v' H' R' ((g1.trans g2).trans g) r⟩⟩
theorem dx_methS {rel : List D → Res → Prop} {W : WX} {c : Value} {fs : List (Str × D)} (h1 : DE K δ te (.ins C ns us)) (hm : (ns.zip us).lookup m = none) (h2 : DA K δ a ds) (hr : rel (.ins C ns us :: ds) (.ex c fs)) : DEx K W δ (tMethS C m (spD K rel) (WE W) te a) c fs := fun H R σ Q s e q =>
  h1 H R σ _ s e fun v H1 R1 g1 r1 => by
    cases r1 with
    | @ins p _ dx _ vs _ hp hl rl =>
      exact ⟨p, dx, _, rfl, g1.i _ _ hp, lookup_noneR hl rl hm, h2 H1 R1 σ _ g1.i (e.mono g1.r) fun ws H2 R2 g2 r2 => ⟨R2, _, .ex c fs, g2.i, .cons ((Rep.ins hp hl rl).mono g2.r) r2, hr, fun dd H' R' g r => q dd H' R' ((g1.trans g2).trans g) r⟩⟩
theorem c_isiO {b : Bool} (i : IsiC K C) (h : (d = .ins C ns us ∧ b = true) ∨ (∃ n, d = .int n) ∧ b = false) : DC K (rIsi' K) [d, .val (.ref C)] (.bl b) := dc_of fun H R vs Q s rv q => by
  obtain ⟨v, u, rfl, r1, r2⟩ := rep2 rv
  cases r2
  rcases h with ⟨rfl, rfl⟩ | ⟨⟨n, rfl⟩, rfl⟩
  · cases r1 with
    | @ins p _ dx _ vs _ hp hl rl => exact .inl ⟨_, _, _, _, _, rfl, .own C, .base (.ins (s _ _ hp) i.cl i.ha i.hn i.ht i.hm), i.own, q _ fun _ => .bl _⟩
  · cases r1
    exact .inl ⟨_, _, _, _, _, rfl, .own C, .base (.int n), i.int, q _ fun _ => .bl _⟩
/-- tuple + tuple -/
theorem d_catT (h1 : DE K δ ta (.tup ds)) (h2 : DE K δ tb (.tup es)) (hn : ds.length + es.length ≤ 10000000) : DE K δ (tOp (rAdd' K) ta tb) (.tup (ds ++ es)) := fun H R σ Q s e q =>
  h1 H R σ _ s e fun v H1 R1 g1 r1 => h2 H1 R1 σ _ g1.i (e.mono g1.r) fun u H2 R2 g2 r2 => by
    have gg := g1.trans g2
    cases r1 with
    | @tup a xs _ k1 k2 =>
      cases r2 with
      | @tup b ys _ m1 m2 =>
        have k1' := sqT_same g2.r k1
        have k2' := k2.mono g2.r
        have l1 := k2.len
        have l2 := m2.len
        refine .inr ⟨a, b, xs, ys, rfl, rfl, sqT_same gg.i k1', sqT_same gg.i m1, small (by omega), fun hx => ?_, fun _ hy => ?_, fun _ _ p hp => ?_⟩
        · have : ds = [] := List.length_eq_zero_iff.mp (by rw [← l1, hx]; rfl)
          subst this
          exact q (.ref b) H2 R2 gg (.tup m1 m2)
        · have : es = [] := List.length_eq_zero_iff.mp (by rw [← l2, hy]; rfl)
          subst this
          rw [List.append_nil] at q
          exact q (.ref a) H2 R2 gg (.tup k1' k2')
        · exact q (.ref p) _ _ (gg.trans (Gr.new gg.i hp)) (.tup (SqT.of upd_same) ((k2'.app m2).mono (Gr.new gg.i hp).r))
end
end G

set_option Elab.async false
set_option linter.all false
set_option maxRecDepth 10000000
set_option maxHeartbeats 4000000
/-! Lcnt: tuple(l) told exactly; t.count(x) of such a tuple; a constant tuple of the written part. -/
namespace G
open PySem PySem.Spec PyProof.Rows L2
section
variable {X : Cx}
/-- tuple(l), the new one told exactly -/
def rTupX (K : PySem.W.Frag) : List V → Hp → VK → Prop := fun xs H Q => ∃ p ys, xs = [.ref p] ∧ SqL K H p ys ∧ ∀ l (ob : Obj), ob.dict = none → H l = none → Q (.ref l) (upd H l (.frz ob (.tup ys)))
theorem call_tupX : CallR X (.type "tuple") (rTupX X.K) := by
  intro pins s σ H xs us Q I r h
  obtain ⟨p, ys, rfl, hq, q⟩ := h
  obtain ⟨u, rfl, rx⟩ := r.one
  cases (show u = Value.ref p from rx)
  obtain ⟨its, r', pl, hz⟩ := I.list hq
  have hlen := r'.length
  refine call_tuple_list pl.isList (fun h' kp => ?_) (by simp only [List.size_toArray] <;> omega)
  have I1 : Inv X pins σ H { s with heap := h' } := I.kept (t' := s.toks) kp
  have I2 : Inv X pins σ (upd H h'.objs.size (.frz { cls := .type "tuple", data := .seq its.toArray } (.tup ys))) { s with heap := h'.push { cls := .type "tuple", data := .seq its.toArray } } :=
    I1.laid (t' := s.toks) (fun b o e => Heap.get?_push_of_some _ e) (Nat.le_refl _) (show ObjOk X.prog X.w _ _ _ (.frz _ (.tup ys)) from ⟨Heap.get?_push_size _ rfl, hz, its, r', IsTup.new _ _⟩)
  exact ⟨.ref h'.objs.size, _, I2, rfl, q _ _ rfl (I1.hok.fresh (Nat.le_refl _))⟩
def rTupleX (K : PySem.W.Frag) : List V → Hp → VK → Prop := fun xs H Q => rTuple' K xs H Q ∨ rTupX K xs H Q
theorem c_tupleX : CallR X (.type "tuple") (rTupleX X.K) := CallR.or c_tuple call_tupX
/-- t.count(x) -/
def tCntX (K : PySem.W.Frag) (to te : TE) : TE := fun σ H Q => to σ H fun x H1 => ∃ (p : Addr) (ob : Obj) (xs : List V), x = .ref p ∧ H1 p = some (.frz ob (.tup xs)) ∧ ob.dict = none ∧
  te σ H1 fun y H2 => ∃ (d : PyData) (ds : List PyData), Dp K H2 (.ref p) (.tuple ds) ∧ Dp K H2 y d ∧ SeqAt.shaped d = true ∧ SeqAt.shaped (.tuple ds) = true ∧ Q (.int ((ds.countP fun z => PyData.eqv z d : Nat) : Int)) H2
theorem pe_cntX {o e : Expr} {apos cpos : Pos} {to te : TE} (hu : X.A.units + 65 < cLine) (ho : PE X o to) (he : PE X e te) (m : M1 X o "count" apos e cpos) : PE X (.Call (.Attribute o "count" apos) [e] [] cpos) (tCntX X.K to te) := by
  refine ⟨fun pins s σ H Q I h => ?_⟩
  refine wpAny_Call_method m.base m.few m.line PySem.F.plainAttrs_tuple PySem.F.slot_tuple_count PySem.F.type_tuple_count (thn (ho.run pins s σ H _ I h) fun u s1 ⟨x, H1, I1, rx, p, ob, xs, ex, hp, hd, q1⟩ => ?_)
  subst ex
  obtain rfl : u = Value.ref p := rx
  obtain ⟨e1, z, its, rv, it⟩ := (show ObjOk X.prog X.w H1 s1.heap p (.frz ob (.tup xs)) from I1.hok p _ hp)
  refine ⟨?_, fun a ea => ?_, ?_⟩
  · obtain ⟨o', h1, h2, _⟩ := it
    exact ⟨o', h1, h2⟩
  · cases ea
    exact ⟨ob, e1, hd⟩
  rw [m.trees]
  refine Calls.callWith_builtin rfl (Calls.evalArgs_plain (Calls.spliced_cons (thn (he.run pins s1 σ H1 _ I1 q1) fun iv s2 ⟨y, H2, I2, ry, d, ds, k1, k2, k3, k4, q2⟩ => Calls.spliced_nil ?_)))
  obtain ⟨as, r1⟩ := Dp.reads I2 (.tuple ds) (.ref p) (.ref p) k1 rfl
  obtain ⟨bs, r2⟩ := Dp.reads I2 d y iv k2 ry
  have c3 := SeqAt.canLay_of_shaped k3
  have c4 := SeqAt.canLay_of_shaped k4
  have d3 := SeqAt.depth_of_shaped k3
  cases r1 with
  | tuple h1 h2 h3 h4 =>
    refine SeqAt.count_tuple_data ⟨_, h1, h2, _, h3⟩ h4 r2 (PyData.plainAll_of_canLay0 ds c4) (PyData.plain_of_canLay0 d c3) ?_ ⟨V.int _, H2, I2.tok _, ⟨_, rfl⟩, q2⟩
    have : min (PyData.depthAll ds) d.depth ≤ d.depth := Nat.min_le_right _ _
    omega
end
/-- (x, y, ()) in the written part -/
def KTup3 (K : PySem.W.Frag) (a : Addr) (x y : Str) : Prop := ∃ (o ob : Obj) (t1 t2 : Tok) (n nb : Nat) (b : Addr), K.lookup a = some o ∧ o.cls = .type "tuple" ∧ o.data = .seq #[.str x t1, .str y t2, .ref b] n ∧ K.lookup b = some ob ∧ ob.cls = .type "tuple" ∧ ob.data = .seq #[] nb
def isTyTup : Value → Bool
  | .type t => t == "tuple"
  | _ => false
theorem isTyTup_ok {v : Value} (h : isTyTup v = true) : v = .type "tuple" := by
  cases v <;> first
    | (cases h; done)
    | (rename_i t; have : t = "tuple" := by simpa [isTyTup] using h
       rw [this])
def seqOf : Obj → Option (List Value × Nat)
  | ⟨_, _, .seq its n, _⟩ => some (its.toList, n)
  | _ => none
theorem seqOf_ok {o : Obj} {l : List Value} {n : Nat} (h : seqOf o = some (l, n)) : o.data = .seq l.toArray n := by
  obtain ⟨c, d, dt, sl⟩ := o
  cases dt <;> simp [seqOf] at h
  obtain ⟨rfl, rfl⟩ := h
  simp
def fKTup3 (nm x y : Str) : PySem.W.Frag → Bool := fun K => match K.lookup (He.ga K nm) with
  | some o => isTyTup o.cls && (match seqOf o with
    | some ([.str p _, .str q _, .ref b], _) => decide (p = x) && (decide (q = y) && (match K.lookup b with
      | some ob => isTyTup ob.cls && (match seqOf ob with
        | some ([], _) => true
        | _ => false)
      | none => false))
    | _ => false)
  | none => false
theorem fKTup3_ok {K : PySem.W.Frag} {nm x y : Str} (h : fKTup3 nm x y K = true) : KTup3 K (He.ga K nm) x y := by
  unfold fKTup3 at h
  split at h
  · rename_i o ho
    rw [Bool.and_eq_true] at h
    obtain ⟨h1, h⟩ := h
    split at h
    · rename_i p t1 q t2 b n hs
      simp only [Bool.and_eq_true, decide_eq_true_eq] at h
      obtain ⟨rfl, rfl, h⟩ := h
      split at h
      · rename_i ob hob
        rw [Bool.and_eq_true] at h
        obtain ⟨h2, h⟩ := h
        split at h
        · rename_i nb hsb
          exact ⟨o, ob, t1, t2, n, nb, b, ho, isTyTup_ok h1, by simpa using seqOf_ok hs, hob, isTyTup_ok h2, by simpa using seqOf_ok hsb⟩
        · cases h
      · cases h
    · cases h
  · cases h
end G

set_option Elab.async false
set_option linter.all false
set_option maxRecDepth 100000
set_option maxHeartbeats 4000000
/-! Lsto: {} with tuples as keys, d[k] there, text * number, {k: v} of texts. -/
namespace L2
open PySem PySem.Spec PyProof.Rows
/-- {}, to be a dict with tuples as keys -/
def tDNewN (w : World) : TE := fun _ H Q => ∀ p, H p = none → Q (.ref p) (upd H p (ndO w p []))
/-- len(d) -/
def rLenD : List V → Hp → VK → Prop := fun xs H Q => ∃ a kvs, xs = [V.ref a] ∧ H a = some (.dK kvs) ∧ Q (.int kvs.length) H
section
variable {X : Cx}
theorem pe_dnewN {pos : Pos} : PE X (.Dict [] [] pos) (tDNewN X.w) := ⟨fun pins s σ H Q I h => by
  have low : (s.heap.objs.size == sysModules) = false := beq_eq_false_iff_ne.mpr (Nat.ne_of_gt I.big)
  exact wpAny_Dict_empty ⟨.ref s.heap.objs.size, _, I.laid (a := s.heap.objs.size) (t' := s.toks) (fun _ _ q => Heap.get?_push_of_some _ q) (Nat.le_refl _) (ndF_obj (xs := []) ⟨low, Nat.zero_le _, ⟨_, #[], 0, Heap.get?_push_size _ rfl, ⟨rfl, rfl, rfl⟩, rfl, rfl⟩, List.nodup_nil⟩), rfl, h _ (I.hok.fresh (Nat.le_refl _))⟩⟩
/-- d[k], the key there -/
def rIxN2 (K : PySem.W.Frag) (w : World) : R2 := fun x y H Q => ∃ p a xs b k u v, x = .ref p ∧ y = .ref b ∧ H p = some (ndO w a xs) ∧ NKeys K H xs ∧ NIs K H (.ref b) k ∧ k.depth ≤ 8 ∧ atKey xs k = some u ∧ RelV v u.2 ∧ Q v H
theorem ix_nd (hu : X.A.units + 65 < cLine) : IxR X (rIxN2 X.K X.w) := by
  intro value slice pins s σ H x y v u Q I rx ry q hs
  obtain ⟨p, a, xs, b, k, c, z, rfl, rfl, hd, hk, hi, hdep, hat, rz, q⟩ := q
  obtain ⟨e, f1, f2, dd⟩ := nd_dict I hd hk
  obtain rfl : v = Value.ref p := rx
  obtain rfl : u = Value.ref b := ry
  exact tail_any dd.typeIs PySem.F.slot_dict_getitem.lookup (wpAny_getItem_heap (knd := nestedKind X.prog X.w) (show X.A.units + 1 + 8 < cLine by omega) ⟨NIs.at I _ _ _ hi rfl, hdep⟩ dd hat ⟨z, H, I.tok _, rz, q⟩) hs
end
end L2

set_option Elab.async false
set_option linter.all false
set_option maxRecDepth 100000
set_option maxHeartbeats 4000000
/-! Dsto: dicts with tuples as keys in the store; displays; text * number; results that are objects of the store. -/
namespace G
open PySem PySem.Spec PyProof.Rows L2
/-- what stands at a key -/
def atN : List D → List D → D → Option D
  | k0 :: ks, e :: es, k => if nkD k0 = nkD k then some e else atN ks es k
  | _, _, _ => none
section
variable {K : PySem.W.Frag} {R H : Hp}
theorem atN_rep : ∀ {xs : List NEnt} {kds ds : List D} {vs : List V} {k d : D}, xs.map (·.1) = kds.map nkD → Vals vs (xs.map fun e => e.2.2) → RepL K R vs ds → atN kds ds k = some d → ∃ u v, atKey xs (nkD k) = some u ∧ RelV v u.2 ∧ Rep K R v d
  | [], [], _, _, _, _, _, _, _, h => by simp [atN] at h
  | [], _ :: _, _, _, _, _, h, _, _, _ => by cases h
  | _ :: _, [], _, _, _, _, h, _, _, _ => by cases h
  | x :: xs, k0 :: kds, [], _, _, _, _, _, _, h => by simp [atN] at h
  | x :: xs, k0 :: kds, e :: es, vs, k, d, h, hv, hr, ha => by
    simp only [List.map_cons, List.cons.injEq] at h
    rw [List.map_cons] at hv
    cases hv with
    | cons v1 v2 =>
      cases hr with
      | cons r1 r2 =>
        unfold atN at ha
        by_cases e0 : nkD k0 = nkD k
        · rw [if_pos e0] at ha
          cases ha
          exact ⟨x.2, _, by simp [atKey, h.1, e0], v1, r1⟩
        · rw [if_neg e0] at ha
          obtain ⟨u, v, q1, q2, q3⟩ := atN_rep h.2 v2 r2 ha
          exact ⟨u, v, by simp [atKey, h.1, e0] at q1 ⊢; exact q1, q2, q3⟩
end
section
variable {K : PySem.W.Frag} {W : WX} {w : World} {δ : DEnv} {ρ ρ' : MEnv} {S S' S1 S2 : Sto} {td ty tx te ta tb tk ti : TE} {t u : TS} {d k x y : D} {ds es kds : List D} {i j n : Nat} {O : OutM → Prop} {l : Bool}
theorem o_ixN (hk : k.key = true) (h : atN kds ds k = some d) : DO K (rIxN2 K w) (.ndc w kds ds) k d := fun H R v u Q s rv ru q => by
  obtain ⟨b, rfl⟩ := rep_ref hk ru
  obtain ⟨n1, n2, _⟩ := key_ok hk
  cases rv with
  | ndc a1 a2 a3 a4 a5 a6 =>
    obtain ⟨u, v, q1, q2, q3⟩ := atN_rep a2 a5 a6 h
    exact ⟨_, _, _, b, nkD k, u, v, rfl, rfl, s _ _ a1, nkeys_of s a2 a3 a4, rep_nis s k _ n1 ru, n2, q1, q2, q v H R (Gr.refl s) q3⟩
theorem c_lenD {ks : List L2.Key} : DC K rLenD [.dct ks ds] (.int ks.length) := dc_of fun H R vs Q s rv q => by
  obtain ⟨v, rfl, r⟩ := rep1 rv
  cases r with
  | dct h1 h2 h3 =>
    refine ⟨_, _, rfl, s _ _ h1, ?_⟩
    have := q (.int ks.length) fun _ => .int _
    rw [List.length_zip, h3.len, ← h2, Nat.min_self]
    exact this
/-- {k: v}, the key a text or a number -/
theorem dn_disp1 {key : L2.Key} (h1 : DE K δ tk (kD key)) (h2 : DE K δ tx d) : DNw K δ (tDisp [(tk, tx)]) (.dct [key] [d]) := fun H R σ Q s e q p hp => by
  have rp : R p = none := s.free hp
  have g0 := Gr.apart (u := .dK []) s hp
  refine h1 _ R σ _ g0.i e fun v H1 R1 g1 r1 => h2 H1 R1 σ _ g1.i (e.mono g1.r) fun v2 H2 R2 g2 r2 => ?_
  have ev := rep_key r1
  subst ev
  have gg := g1.trans g2
  have hp2 : H2 p = some (.dK []) := gg.h _ _ upd_same
  have rp2 : R2 p = none := gg.o p _ upd_same rp
  exact ⟨hp2, [(key, v2)], rfl, by show (1 : Nat) ≤ 15; decide, q p (.dK [(key, v2)]) _ R2 ((g0.trans gg).put hp rp2) hp upd_same rp2 ⟨rfl, [v2], rfl, .cons r2 .nil⟩⟩
theorem mx_nnew : MX K ρ S (tDNewN w) (.rf S.length) (S ++ [.ndc w [] []]) := fun B H R σ al Q e q p hp =>
  q (.ref p) _ R _ (e.new hp (c := .ndc w [] []) (y := ndO w p []) ⟨p, [], [], rfl, rfl, (fun d hd => by cases hd), .nil, .nil, .nil⟩ (fun x hx => by cases hx)) mgr_new new_ok new_below
theorem EvM.ndc {B : Bs} {σ : L2.St} {al : Nat → Addr} {zs : List SD} (e : EvM K B H R σ al ρ S) (h : S[j]? = some (.ndc w kds zs)) : ∃ a xs vs, H (al j) = some (ndO w a xs) ∧ xs.map (·.1) = kds.map nkD ∧ (∀ d ∈ kds, d.key = true) ∧ RepL K R (xs.map fun e => V.ref e.2.1) kds ∧ Vals vs (xs.map fun e => e.2.2) ∧ VsOk K R al zs vs := by
  obtain ⟨o, a1, a2, a3⟩ := e.ob j _ h (fun z => by cases z)
  cases o <;> first
    | exact a2.elim
    | skip
  obtain ⟨a, xs, vs, rfl, h2, h3, h4, h5, h6⟩ := a2
  exact ⟨a, xs, vs, a1, h2, h3, h4, h5, h6⟩
/-- o[k] = e, a key that is not there yet -/
theorem m_nput (l : Bool) {to : TE} {zs : List SD} {x : D} (h1 : DE K (fm l S ρ) te x) (hs : l = true → x.sol = true) (h2 : MX K ρ S to (.rf j) S2) (h4 : DE K (fm l S2 ρ) ti k) (hks : l = true → k.sol = true) (hk : k.key = true) (h3 : S2[j]? = some (.ndc w kds zs)) (hnew : hasN kds k = false) (hn : kds.length < 10000000)
    (q : WM K W ρ (S2.set j (.ndc w (kds ++ [k]) (zs ++ [.dat x]))) u O) : WM K W ρ S (tSeq (tAsg te (gSub to ti (rSetN K w))) u) O := m_then (fun B H σ E ⟨R, al, e⟩ kk =>
  (mx_de l h1 hs) B H R σ al _ e fun v1 H1 R1 al1 e1 ga r1 hb => h2 B H1 R1 σ al1 _ e1 fun v H2 R2 al2 e2 ga2 r2 hj => h4 H2 _ σ _ e2.lendI e2.env fun z H3 R3 g3 r3 => by
    obtain ⟨e3, up, qq, _⟩ := e2.run g3
    have rk := qq _ _ hks r3
    obtain ⟨b, rfl⟩ := rep_ref hk rk
    obtain ⟨n1, n2, _⟩ := key_ok hk
    have r2' : v = .ref (al2 j) := r2
    subst r2'
    obtain ⟨a, xs, vs, a1, m1, m2, m3, m4, m5⟩ := e3.ndc h3
    have lx : xs.length = kds.length := by have := congrArg List.length m1; simpa using this
    have hat : atKey xs (nkD k) = none := by
      have := atKey_has (k := k) m1
      rw [hnew] at this
      simpa using this
    have rx : VOk K (lessM l R3 al2 S2) al2 (.dat x) v1 := ((r1.mono ga2.s).move ga2.a hb).mono up
    refine ⟨al2 j, a, xs, b, nkD k, rfl, rfl, a1, nkeys_of e3.i m1 m2 m3, rep_nis e3.i k _ n1 rk, n2, smallL (by rw [lx]; exact hn), fun u ru => ?_⟩
    rw [storedH_new hat]
    refine kk _ _ ⟨_, al2, e3.put h3 (fun z => by cases z) (c := .ndc w (kds ++ [k]) (zs ++ [.dat x])) (y := ndO w (al2 j) (xs ++ [(nkD k, b, u)])) ⟨al2 j, xs ++ [(nkD k, b, u)], vs ++ [v1], rfl, by simp [m1], fun d hd => ?_, ?_, ?_, m5.app (.cons rx .nil)⟩ fun y hy => ?_⟩
    · rcases List.mem_append.mp hd with hd | hd
      · exact m2 d hd
      · rw [List.mem_singleton.mp hd]; exact hk
    · rw [List.map_append]
      exact m3.app (.cons rk .nil)
    · rw [List.map_append]
      exact m4.append (.cons ru .nil)
    · rcases List.mem_append.mp hy with hy | hy
      · exact e3.bo j _ h3 y hy
      · rw [List.mem_singleton.mp hy]
        trivial) q
/-- o[k] = e, a key of texts and numbers that is not there yet -/
theorem m_dput (l : Bool) {to : TE} {ks : List L2.Key} {key : L2.Key} {x : D} (h1 : DE K (fm l S ρ) te x) (hs : l = true → x.sol = true) (h2 : MX K ρ S to (.rf j) S2) (h4 : DE K (fm l S2 ρ) ti (kD key)) (h3 : S2[j]? = some (.dct ks (es.map SD.dat))) (hn : ks.length < 10000000)
    (q : WM K W ρ (S2.set j (.dct (putKs ks key) ((putDs ks es key x).map SD.dat))) u O) : WM K W ρ S (tSeq (tAsg te (gSub to ti rSet')) u) O := m_then (fun B H σ E ⟨R, al, e⟩ kk =>
  (mx_de l h1 hs) B H R σ al _ e fun v1 H1 R1 al1 e1 ga r1 hb => h2 B H1 R1 σ al1 _ e1 fun v H2 R2 al2 e2 ga2 r2 hj => h4 H2 _ σ _ e2.lendI e2.env fun z H3 R3 g3 r3 => by
    obtain ⟨e3, up, _⟩ := e2.run g3
    have ek := rep_key r3
    subst ek
    have r2' : v = .ref (al2 j) := r2
    subst r2'
    obtain ⟨vs, a1, hl, a2⟩ := e3.dct h3
    have re := a2.undat
    rw [List.length_map] at hl
    have rx : VOk K (lessM l R3 al2 S2) al2 (.dat x) v1 := ((r1.mono ga2.s).move ga2.a hb).mono up
    have lz : (ks.zip vs).length < sizeLine := by
      rw [List.length_zip]
      have := smallL hn
      omega
    obtain ⟨hl2, ws, hw, rw2⟩ := put_rep (K := K) (k := key) (d := x) hl re rx
    refine .inr ⟨al2 j, _, rfl, DPut.k a1 lz, kk _ _ ⟨_, al2, e3.put h3 (fun z => by cases z) (c := .dct (putKs ks key) ((putDs ks es key x).map SD.dat)) (y := .dK (putK (ks.zip vs) key v1)) ⟨by rw [List.length_map]; exact hl2, ws, hw, VsOk.dats rw2⟩ fun y hy => ?_⟩⟩
    obtain ⟨d', _, rfl⟩ := List.mem_map.mp hy
    trivial) q
end
/-! data with lists, read when the store has no list -/
mutual
def D.solQ : D → Bool
  | .tup ds => D.solQL ds
  | .lst ds => D.solQL ds
  | .ins _ _ _ => false
  | .kl _ => false
  | .dct _ _ => false
  | .ndc _ _ _ => false
  | .exc _ _ _ _ => false
  | .xt _ => false
  | _ => true
def D.solQL : List D → Bool
  | [] => true
  | d :: ds => D.solQ d && D.solQL ds
end
def kOkQ : HO → Bool
  | .lst _ => true
  | .ins _ _ _ => false
  | .dK _ => false
  | .ext _ => false
  | .tup _ => true
  | .frz _ _ => true
  | _ => false
section
variable {K : PySem.W.Frag} {R R' : Hp}
mutual
theorem Rep.solidQ (h : ∀ b o, R b = some o → kOkQ o = true → R' b = some o) : ∀ (d : D) (v : V), d.solQ = true → Rep K R v d → Rep K R' v d
  | .non, _, _, q => by cases q; exact .non
  | .bl b, _, _, q => by cases q; exact .bl b
  | .int i, _, _, q => by cases q; exact .int i
  | .str x, _, _, q => by cases q; exact .str x
  | .tup ds, _, s, q => by
    cases q with
    | tup a b =>
      refine .tup (sqT_mono (fun b zs r => ?_) a) (RepL.solidQ h ds _ (by simpa [D.solQ] using s) b)
      rcases r with r | ⟨o, r⟩
      · exact .inl (h _ _ r rfl)
      · exact .inr ⟨o, h _ _ r rfl⟩
  | .lst ds, _, s, q => by
    cases q with
    | lst a b =>
      refine .lst ?_ (RepL.solidQ h ds _ (by simpa [D.solQ] using s) b)
      rcases a with r | ⟨o, r⟩
      · exact .inl (h _ _ r rfl)
      · exact .inr ⟨o, h _ _ r rfl⟩
  | .ins C ns ds, _, s, _ => by simp [D.solQ] at s
  | .kl ds, _, s, _ => by simp [D.solQ] at s
  | .val v, _, _, q => by cases q; exact .val v
  | .dct ks ds, _, s, _ => by simp [D.solQ] at s
  | .ndc _ _ _, _, s, _ => by simp [D.solQ] at s
  | .exc a dd fns ds, _, s, _ => by simp [D.solQ] at s
  | .xt ds, _, s, _ => by simp [D.solQ] at s
theorem RepL.solidQ (h : ∀ b o, R b = some o → kOkQ o = true → R' b = some o) : ∀ (ds : List D) (vs : List V), D.solQL ds = true → RepL K R vs ds → RepL K R' vs ds
  | [], _, _, q => by cases q; exact .nil
  | d :: ds, _, s, q => by
    simp only [D.solQL, Bool.and_eq_true] at s
    cases q with
    | cons a b => exact .cons (Rep.solidQ h d _ s.1 a) (RepL.solidQ h ds _ s.2 b)
end
end
def stQ (S : Sto) : Bool := S.all fun b => match b with | .lst _ => false | _ => true
section
variable {K : PySem.W.Frag} {W : WX} {B : Bs} {H R H' R' : Hp} {σ : L2.St} {al : Nat → Addr} {ρ : MEnv} {S : Sto} {te : TE} {d : D} {t : TS}
theorem EvM.keepQ {l : Bool} (e : EvM K B H R σ al ρ S) (g : Gr H (lendM l H R al S) H' R') (hl : stQ S = true) {p : Addr} {o : HO} (h : R' p = some o) (hn : kOkQ o = true) : lessM l R' al S p = some o := by
  rw [lessM_no]
  · exact h
  · rintro ⟨z1, j, b, h1, h2, rfl⟩
    obtain ⟨o', q1, q2, q3⟩ := e.ob j b h1 h2
    have h3 : R' (al j) = some o' := g.r _ _ (by rw [lendM_yes ⟨z1, j, b, h1, h2, rfl⟩]; exact q1)
    rw [h] at h3
    cases h3
    have h4 := List.all_eq_true.mp hl b (List.mem_of_getElem? h1)
    cases b <;> first
      | exact absurd rfl h2
      | (cases h4; done)
      | skip
    all_goals (cases o <;> first
      | exact q2.elim
      | (cases hn; done))
theorem mx_deQ (l : Bool) (h : DE K (fm l S ρ) te d) (ho : stQ S = true) (hs : d.solQ = true) : MX K ρ S te (.dat d) S := fun B H R σ al Q e q =>
  h H _ σ _ e.lendI e.env fun v H1 R1 g r => by
    obtain ⟨e1, up, _⟩ := e.run g
    exact q v H1 _ al e1 ⟨up, fun _ _ => rfl, Nat.le_refl _⟩ (Rep.solidQ (fun b o => e.keepQ g ho) d v hs r) trivial
def FitsDM2 : OutM → Res → Prop
  | .rt (.rf j) S, .rt y => res S 4 (.rf j) = some y
  | o, r => FitsDM o r
/-- a promise on data, by a body whose result may be an object of its store -/
theorem spD_ofM2 {rel : List D → Res → Prop} {n : Nat} {E : XK} (h : ∀ ds r, rel ds r → WM K (WF E) (ds.map SD.dat ++ List.replicate (n - ds.length) SD.no) [] t (fun o => FitsDM2 o r)) {N : List Str} (hN : N.length = n) (vs : List V) (H : Hp) (Q : VK)
    (q : spD K rel vs H Q E) : t { nx := fun _ H' => Q .non H', rt := Q } (L2.start N vs) H := by
  obtain ⟨R, ds, r, s, rr, hr, q⟩ := q
  obtain ⟨o, hf, hd⟩ := h ds r hr
  have e := EvM.enter (K := K) (S := []) (al := fun _ => 0) (args := ds.map SD.dat) (n := n - ds.length) s (VsOk.dats rr) (fun x hx => by obtain ⟨d, _, rfl⟩ := List.mem_map.mp hx; trivial) ⟨fun j b h => by simp at h, fun j b h => by simp at h, fun j k h => by simp at h, fun j h => by simp at h⟩
  have hst : L2.start N vs = vs.map some ++ List.replicate (n - ds.length) none := by
    unfold L2.start
    rw [hN, rr.len]
  have hg : ∀ {σ' H' R' al' ρ' S'}, EvM K ⟨OwnA (fun _ => 0) [], H, R, fun _ => 0, ([] : Sto).length⟩ H' R' σ' al' ρ' S' → Gr H R H' R' := fun e' =>
    ⟨fun a o h => e'.h a o h (fun ⟨j, hj, _⟩ => by simp at hj), e'.r, e'.i, fun a o h => e'.o a o h (fun ⟨j, hj, _⟩ => by simp at hj)⟩
  have hg2 : ∀ {σ' H' R' al' ρ' S'}, EvM K ⟨OwnA (fun _ => 0) [], H, R, fun _ => 0, ([] : Sto).length⟩ H' R' σ' al' ρ' S' → Gr H R H' (lendM true H' R' al' S') := fun {σ' H' R' al' ρ' S'} e' => by
    refine ⟨fun a o h => e'.h a o h (fun ⟨j, hj, _⟩ => by simp at hj), fun a o h => ?_, e'.lendI, fun a o h hn => ?_⟩
    · have h1 := e'.r a o h
      rw [lendM_no]
      · exact h1
      · rintro ⟨_, z⟩
        rw [(e'.own z).2.1] at h1
        cases h1
    · rw [lendM_no]
      · exact e'.o a o h (fun ⟨j, hj, _⟩ => by simp at hj) hn
      · rintro ⟨_, z⟩
        rcases (e'.own z).2.2 with y | ⟨j, hj, _⟩
        · exact absurd ((show H a = none from y).symm.trans h) (by simp)
        · simp at hj
  rw [hst]
  refine hd _ H _ _ ⟨R, _, e⟩ ?_
  cases o with
  | nx ρ S' =>
    cases r with
    | rt y =>
      have hf' : y = .non := hf
      subst hf'
      rintro σ' H' ⟨R', al', e'⟩
      exact q .non H' R' (hg e') .non
    | rl y => exact hf.elim
    | ex c fs => exact hf.elim
  | rt x S' =>
    cases r with
    | rt y =>
      cases x with
      | dat d =>
        have hf' : d = y := hf
        subst hf'
        intro v σ' H' R' al' ρ' e' rv hx
        exact q v H' R' (hg e') rv
      | no => exact hf.elim
      | rf j =>
        have hf' : res S' 4 (.rf j) = some y := hf
        intro v σ' H' R' al' ρ' e' rv hx
        exact q v H' _ (hg2 e') (e'.res (l := true) 4 (.rf j) y v (fun _ => rfl) hf' rv)
    | rl y => cases x <;> exact hf.elim
    | ex c fs => cases x <;> exact hf.elim
  | bk ρ S' => cases r <;> exact hf.elim
  | ct ρ S' => cases r <;> exact hf.elim
  | ex ρ S' c fs =>
    cases r with
    | rt y => exact hf.elim
    | rl y => exact hf.elim
    | ex c' fs' =>
      obtain ⟨rfl, rfl⟩ := hf
      intro σ' H' R' al' dd e' x
      exact q dd H' R' (hg e') x
end
end G

set_option Elab.async false
set_option linter.all false
set_option maxRecDepth 100000
set_option maxHeartbeats 1000000
/-! M01: terms: their forms, texts, readings. -/
namespace Tm
open PySem PySem.Spec G Pm
inductive T where
  | thing (p : List Nat)
  | call (n p : List Nat)
  | deed (n : List Nat) (ps : List T)
def sThing : List Nat := [116, 104, 105, 110, 103]
def sCall : List Nat := [99, 97, 108, 108]
def sDeed : List Nat := [100, 101, 101, 100]
/-- a row: a list or a tuple -/
def mk (f : Bool) (ds : List D) : D := if f then .lst ds else .tup ds
mutual
def T.df (f : Bool) : T → D
  | .thing p => mk f [sD sThing, sD p]
  | .call n p => mk f [sD sCall, sD n, sD p]
  | .deed n ps => mk f [sD sDeed, sD n, mk f (dfL f ps)]
def dfL (f : Bool) : List T → List D
  | [] => []
  | t :: ts => t.df f :: dfL f ts
end
theorem dfL_map (f : Bool) : ∀ ts : List T, dfL f ts = ts.map (T.df f)
  | [] => rfl
  | t :: ts => by rw [dfL, dfL_map f ts]; rfl
mutual
def T.nodes : T → List T
  | .thing p => [.thing p]
  | .call n p => [.call n p]
  | .deed n ps => .deed n ps :: nodesL ps
def nodesL : List T → List T
  | [] => []
  | t :: ts => t.nodes ++ nodesL ts
end
mutual
def T.dep : T → Nat
  | .thing _ => 1
  | .call _ _ => 1
  | .deed _ ps => depL ps + 1
def depL : List T → Nat
  | [] => 0
  | t :: ts => max t.dep (depL ts)
end
theorem nodes_pos (t : T) : 1 ≤ t.nodes.length := by cases t <;> simp [T.nodes]
mutual
theorem dep_nodes : ∀ t : T, t.dep ≤ t.nodes.length
  | .thing _ => by simp [T.dep, T.nodes]
  | .call _ _ => by simp [T.dep, T.nodes]
  | .deed n ps => by
    have := depL_nodes ps
    simp only [T.dep, T.nodes, List.length_cons]
    omega
theorem depL_nodes : ∀ ts : List T, depL ts ≤ (nodesL ts).length
  | [] => by simp [depL]
  | t :: ts => by
    have h1 := dep_nodes t
    have h2 := depL_nodes ts
    simp only [depL, nodesL, List.length_append]
    omega
end
theorem dep_mem {ts : List T} {t : T} (h : t ∈ ts) : t.dep ≤ depL ts := by
  induction ts with
  | nil => cases h
  | cons a ts ih =>
    rw [depL]
    rcases List.mem_cons.mp h with rfl | h
    · omega
    · have := ih h
      omega
theorem nodes_mem {ts : List T} {t : T} (h : t ∈ ts) : t.nodes.length ≤ (nodesL ts).length := by
  induction ts with
  | nil => cases h
  | cons a ts ih =>
    rw [nodesL, List.length_append]
    rcases List.mem_cons.mp h with rfl | h
    · omega
    · have := ih h
      omega
/-! the written form -/
def ptx (p : List Nat) : List Nat := if p = [] then [120] else p
def glue : List (List Nat) → List Nat
  | [] => []
  | [x] => x
  | x :: y :: r => x ++ [44, 32] ++ glue (y :: r)
mutual
def T.wr : T → List Nat
  | .thing p => ptx p
  | .call n p => n ++ [40] ++ ptx p ++ [41]
  | .deed n ps => n ++ [40] ++ glue (wrL ps) ++ [41]
def wrL : List T → List (List Nat)
  | [] => []
  | t :: ts => t.wr :: wrL ts
end
theorem wrL_map : ∀ ts : List T, wrL ts = ts.map T.wr
  | [] => rfl
  | t :: ts => by rw [wrL, wrL_map ts]; rfl
/-! names -/
def isCap (c : Nat) : Bool := decide (65 ≤ c ∧ c ≤ 90)
def isSm (c : Nat) : Bool := decide (97 ≤ c ∧ c ≤ 122)
def isAl (c : Nat) : Bool := isCap c || isSm c
def fnL : List Nat → Bool
  | [] => false
  | c :: r => decide (r.length ≤ 7) && isCap c && r.all isSm
def dnL (l : List Nat) : Bool := decide (1 ≤ l.length ∧ l.length ≤ 8) && l.all isSm
/-- the value's own parts -/
def rowB : D → Bool
  | .lst _ => true
  | .tup _ => true
  | _ => false
def items : D → List D
  | .lst l => l
  | .tup l => l
  | _ => []
def strL : D → Option (List Nat)
  | .str x => some x.cps.toList
  | _ => none
def fnB (d : D) : Bool := match strL d with | some l => fnL l | none => false
def dnB (d : D) : Bool := match strL d with | some l => dnL l | none => false
def ptB (s : List Nat) (d : D) : Bool := match strL d with | some l => l.all (fun c => decide (c ∈ s)) && decide (l.length ≤ 4) | none => false
def it (d : D) (i : Nat) : D := (items d).getD i .non
/-! node_bound -/
def nbLoop (f : D → Int → Int) (room : Int) : List D → Int → Int
  | [], c => c
  | d :: ds, c => if c + f d (room - c) > room then c + f d (room - c) else nbLoop f room ds (c + f d (room - c))
def nbF : Nat → D → Int → Int
  | 0, _, _ => 1
  | n + 1, v, room => if room ≤ 0 ∨ rowB v = false ∨ (items v).length ≠ 3 ∨ rowB (it v 2) = false then 1 else nbLoop (nbF n) room (items (it v 2)) 1
/-! is_shaped -/
def shF (s : List Nat) : Nat → D → Bool
  | 0, _ => false
  | n + 1, v =>
    if rowB v = false ∨ (items v).length < 2 ∨ 3 < (items v).length ∨ strL (it v 0) = none then false
    else if strL (it v 0) = some sThing then decide ((items v).length = 2) && ptB s (it v 1)
    else if (items v).length ≠ 3 then false
    else if strL (it v 0) = some sCall then fnB (it v 1) && ptB s (it v 2)
    else if strL (it v 0) ≠ some sDeed ∨ dnB (it v 1) = false ∨ rowB (it v 2) = false ∨ 4 < (items (it v 2)).length then false
    else (items (it v 2)).all (shF s n)
def tmB (s : List Nat) (v : D) : Bool := decide (nbF 60 v 12 ≤ 12) && shF s 60 v
theorem items_mk (f : Bool) (ds : List D) : items (mk f ds) = ds ∧ rowB (mk f ds) = true := by cases f <;> exact ⟨rfl, rfl⟩
theorem strL_sD (p : List Nat) : strL (sD p) = some p := by simp [strL, sD, mkS_cps]
theorem nbLoop_ok {n : Nat} {f : Bool} : ∀ (ts : List T) (room c : Int), (∀ t ∈ ts, ∀ r : Int, (t.nodes.length : Int) ≤ r → nbF n (t.df f) r = t.nodes.length) → c + ((nodesL ts).length : Int) ≤ room → nbLoop (nbF n) room (dfL f ts) c = c + ((nodesL ts).length : Int)
  | [], room, c, _, _ => by simp [dfL, nbLoop, nodesL]
  | t :: ts, room, c, h, hr => by
    rw [nodesL, List.length_append] at hr ⊢
    rw [dfL, nbLoop, h t List.mem_cons_self (room - c) (by omega), if_neg (by omega), nbLoop_ok ts room _ (fun t' ht' => h t' (List.mem_cons_of_mem _ ht')) (by omega)]
    omega
theorem nb_ok {f : Bool} : ∀ (n : Nat) (t : T) (room : Int), t.dep ≤ n → (t.nodes.length : Int) ≤ room → nbF n (t.df f) room = t.nodes.length
  | 0, t, _, h, _ => by cases t <;> simp [T.dep] at h
  | n + 1, .thing p, room, h, hr => by
    rw [nbF, if_pos]
    · simp [T.nodes]
    · refine .inr (.inr (.inl ?_))
      rw [T.df, (items_mk f _).1]
      simp
  | n + 1, .call m p, room, h, hr => by
    rw [nbF, if_pos]
    · simp [T.nodes]
    · refine .inr (.inr (.inr ?_))
      unfold it
      rw [T.df, (items_mk f _).1]
      rfl
  | n + 1, .deed m ps, room, h, hr => by
    have hd : depL ps ≤ n := by simp only [T.dep] at h; omega
    have hr' : 1 + ((nodesL ps).length : Int) ≤ room := by simp only [T.nodes, List.length_cons] at hr; omega
    have e2 : it ((T.deed m ps).df f) 2 = mk f (dfL f ps) := by
      unfold it
      rw [T.df, (items_mk f _).1]
      rfl
    rw [nbF, if_neg, e2, (items_mk f _).1, nbLoop_ok ps room 1 (fun t ht r hr => nb_ok n t r (Nat.le_trans (dep_mem ht) hd) hr) hr']
    · simp [T.nodes]
      omega
    · rw [e2, (items_mk f _).2, T.df, (items_mk f _).1, (items_mk f _).2]
      simp
      omega
/-! good terms -/
mutual
def T.ok (s : List Nat) : T → Bool
  | .thing p => p.all (fun c => decide (c ∈ s)) && decide (p.length ≤ 4)
  | .call n p => fnL n && (p.all (fun c => decide (c ∈ s)) && decide (p.length ≤ 4))
  | .deed n ps => dnL n && decide (ps.length ≤ 4) && okL s ps
def okL (s : List Nat) : List T → Bool
  | [] => true
  | t :: ts => t.ok s && okL s ts
end
theorem okL_all (s : List Nat) : ∀ ts : List T, okL s ts = ts.all (T.ok s)
  | [] => rfl
  | t :: ts => by rw [okL, okL_all s ts]; rfl
theorem sh_ok {f : Bool} {s : List Nat} : ∀ (n : Nat) (t : T), t.dep ≤ n → shF s n (t.df f) = t.ok s
  | 0, t, h => by cases t <;> simp [T.dep] at h
  | n + 1, .thing p, h => by
    have e : items ((T.thing p).df f) = [sD sThing, sD p] := (items_mk f _).1
    have e0 : it ((T.thing p).df f) 0 = sD sThing := by unfold it; rw [e]; rfl
    have e1 : it ((T.thing p).df f) 1 = sD p := by unfold it; rw [e]; rfl
    have er : rowB ((T.thing p).df f) = true := (items_mk f _).2
    rw [shF, if_neg, e0, strL_sD, if_pos rfl, e, e1]
    · unfold ptB
      rw [strL_sD, T.ok]
      rfl
    · rw [e, e0, er, strL_sD]
      simp
  | n + 1, .call m p, h => by
    have e : items ((T.call m p).df f) = [sD sCall, sD m, sD p] := (items_mk f _).1
    have e0 : it ((T.call m p).df f) 0 = sD sCall := by unfold it; rw [e]; rfl
    have e1 : it ((T.call m p).df f) 1 = sD m := by unfold it; rw [e]; rfl
    have e2 : it ((T.call m p).df f) 2 = sD p := by unfold it; rw [e]; rfl
    have er : rowB ((T.call m p).df f) = true := (items_mk f _).2
    rw [shF, if_neg, e0, strL_sD, if_neg (by decide), if_neg, if_pos rfl, e1, e2]
    · unfold ptB fnB
      rw [strL_sD, strL_sD, T.ok]
    · rw [e]; simp
    · rw [e, e0, er, strL_sD]
      simp
  | n + 1, .deed m ps, h => by
    have hd : depL ps ≤ n := by simp only [T.dep] at h; omega
    have e : items ((T.deed m ps).df f) = [sD sDeed, sD m, mk f (dfL f ps)] := (items_mk f _).1
    have e0 : it ((T.deed m ps).df f) 0 = sD sDeed := by unfold it; rw [e]; rfl
    have e1 : it ((T.deed m ps).df f) 1 = sD m := by unfold it; rw [e]; rfl
    have e2 : it ((T.deed m ps).df f) 2 = mk f (dfL f ps) := by unfold it; rw [e]; rfl
    have er : rowB ((T.deed m ps).df f) = true := (items_mk f _).2
    rw [shF, if_neg, e0, strL_sD, if_neg (by decide), if_neg, if_neg (by decide), e1, e2, (items_mk f _).1, (items_mk f _).2]
    · have hm : dnB (sD m) = dnL m := by unfold dnB; rw [strL_sD]
      rw [hm, T.ok, okL_all, dfL_map, List.length_map]
      have hall : (ps.map (T.df f)).all (shF s n) = ps.all (T.ok s) := by
        rw [List.all_map]
        have : ∀ t ∈ ps, (shF s n ∘ T.df f) t = T.ok s t := fun t ht => sh_ok n t (Nat.le_trans (dep_mem ht) hd)
        rw [Bool.eq_iff_iff, List.all_eq_true, List.all_eq_true]
        exact ⟨fun h t ht => (this t ht) ▸ h t ht, fun h t ht => by rw [this t ht]; exact h t ht⟩
      rw [hall]
      cases hdn : dnL m with
      | false => simp
      | true =>
        by_cases hl : ps.length ≤ 4
        · have : ¬ 4 < ps.length := by omega
          simp [hl, this]
        · have : 4 < ps.length := by omega
          simp [hl, this]
    · rw [e]; simp
    · rw [e, e0, er, strL_sD]
      simp
theorem tm_ok {f : Bool} {s : List Nat} {t : T} (h : t.nodes.length ≤ 12) : tmB s (t.df f) = t.ok s := by
  have hd := dep_nodes t
  unfold tmB
  rw [nb_ok 60 t 12 (by omega) (by omega), sh_ok 60 t (by omega)]
  rw [decide_eq_true (by omega)]
  rfl
/-! the reading -/
def rp (w : List Nat) : List Nat := if w = [120] then [] else w
def pL (f : List Nat → Option (T × List Nat)) (name : List Nat) : Nat → List T → List Nat → Option (T × List Nat)
  | 0, _, _ => none
  | k + 1, acc, w => match f w with
    | none => none
    | some (t, r) => match r with
      | 41 :: q => some (.deed name (acc ++ [t]), q)
      | 44 :: 32 :: q => pL f name k (acc ++ [t]) q
      | _ => none
def pD (f : List Nat → Option (T × List Nat)) (name : List Nat) (w : List Nat) : Option (T × List Nat) := match w with
  | 41 :: q => some (.deed name [], q)
  | _ => pL f name 4 [] w
def pT : Nat → List Nat → Option (T × List Nat)
  | 0, _ => none
  | n + 1, w => if w.takeWhile isAl = [] then none else match w.dropWhile isAl with
    | 40 :: r => if fnL (w.takeWhile isAl) = true then (match r.dropWhile isAl with
      | 41 :: q => some (.call (w.takeWhile isAl) (rp (r.takeWhile isAl)), q)
      | _ => none) else pD (pT n) (w.takeWhile isAl) r
    | rest => some (.thing (rp (w.takeWhile isAl)), rest)
theorem pT_par {n : Nat} {w m r : List Nat} (h1 : w.takeWhile isAl = m) (h2 : w.dropWhile isAl = 40 :: r) (hm : m ≠ []) : pT (n + 1) w = if fnL m = true then (match r.dropWhile isAl with
      | 41 :: q => some (.call m (rp (r.takeWhile isAl)), q)
      | _ => none) else pD (pT n) m r := by
  unfold pT
  rw [h1, h2, if_neg hm]
  rfl
theorem tw_app {w r : List Nat} (h : w.all isAl = true) (hr : ∀ c, r.head? = some c → isAl c = false) : (w ++ r).takeWhile isAl = w ∧ (w ++ r).dropWhile isAl = r := by
  induction w with
  | nil =>
    cases r with
    | nil => exact ⟨rfl, rfl⟩
    | cons c r =>
      have := hr c rfl
      simp [List.takeWhile_cons, List.dropWhile_cons, this]
  | cons a w ih =>
    simp only [List.all_cons, Bool.and_eq_true] at h
    obtain ⟨h1, h2⟩ := ih h.2
    simp [List.takeWhile_cons, List.dropWhile_cons, h.1, h1, h2]
theorem sm_al {c : Nat} (h : isSm c = true) : isAl c = true := by unfold isAl; rw [h]; simp
theorem fn_al {l : List Nat} (h : fnL l = true) : l.all isAl = true ∧ l ≠ [] := by
  cases l with
  | nil => cases h
  | cons c r =>
    unfold fnL at h
    simp only [Bool.and_eq_true] at h
    refine ⟨?_, by simp⟩
    rw [List.all_cons, List.all_eq_true.mpr fun c hc => sm_al (List.all_eq_true.mp h.2 c hc)]
    unfold isAl
    rw [h.1.2]
    rfl
theorem dn_al {l : List Nat} (h : dnL l = true) : l.all isAl = true ∧ l ≠ [] ∧ fnL l = false := by
  unfold dnL at h
  simp only [Bool.and_eq_true, decide_eq_true_iff] at h
  refine ⟨List.all_eq_true.mpr fun c hc => sm_al (List.all_eq_true.mp h.2 c hc), fun z => by rw [z] at h; simp at h, ?_⟩
  cases l with
  | nil => rfl
  | cons c r =>
    have hc := List.all_eq_true.mp h.2 c List.mem_cons_self
    have : isCap c = false := by
      unfold isSm at hc
      unfold isCap
      have := of_decide_eq_true hc
      exact decide_eq_false (by omega)
    show (decide (r.length ≤ 7) && isCap c && r.all isSm) = false
    rw [this]
    simp
/-- the letters of steps -/
def LetS (s : List Nat) : Prop := ∀ c ∈ s, 97 ≤ c ∧ c ≤ 104
theorem pt_al {s p : List Nat} (hs : LetS s) (h : p.all (fun c => decide (c ∈ s)) = true) : (ptx p).all isAl = true ∧ ptx p ≠ [] ∧ rp (ptx p) = p := by
  unfold ptx
  by_cases e : p = []
  · rw [if_pos e, e]
    exact ⟨rfl, by simp, rfl⟩
  · rw [if_neg e]
    have hall : ∀ c ∈ p, 97 ≤ c ∧ c ≤ 104 := fun c hc => hs c (by have := List.all_eq_true.mp h c hc; simpa using this)
    refine ⟨List.all_eq_true.mpr fun c hc => sm_al (by have := hall c hc; exact decide_eq_true (by omega)), e, ?_⟩
    unfold rp
    rw [if_neg]
    intro z
    have := hall 120 (by rw [z]; simp)
    omega
/-- what comes behind a term -/
def Stop (r : List Nat) : Prop := (∀ c, r.head? = some c → isAl c = false) ∧ r.head? ≠ some 40
theorem read_ok {s : List Nat} (hs : LetS s) : ∀ (n : Nat) (t : T) (r : List Nat), t.dep ≤ n → t.ok s = true → Stop r → pT n (t.wr ++ r) = some (t, r)
  | 0, t, _, h, _, _ => by cases t <;> simp [T.dep] at h
  | n + 1, .thing p, r, h, ho, hr => by
    rw [T.ok, Bool.and_eq_true] at ho
    obtain ⟨a1, a2, a3⟩ := pt_al hs ho.1
    obtain ⟨b1, b2⟩ := tw_app (r := r) a1 hr.1
    rw [T.wr, pT, b1, b2, if_neg a2, a3]
    match r, hr with
    | [], _ => rfl
    | c :: r, hr =>
      have hc : c ≠ 40 := fun z => hr.2 (by rw [z]; rfl)
      split
      · rename_i r' e
        cases e
        exact absurd rfl hc
      · rfl
  | n + 1, .call m p, r, h, ho, hr => by
    rw [T.ok, Bool.and_eq_true, Bool.and_eq_true] at ho
    obtain ⟨a1, a2, a3⟩ := pt_al hs ho.2.1
    obtain ⟨c1, c2⟩ := fn_al ho.1
    have e1 : (T.call m p).wr ++ r = m ++ (40 :: (ptx p ++ (41 :: r))) := by simp [T.wr]
    obtain ⟨b1, b2⟩ := tw_app (r := 40 :: (ptx p ++ (41 :: r))) c1 (fun c hc => by cases hc; rfl)
    obtain ⟨d1, d2⟩ := tw_app (r := 41 :: r) a1 (fun c hc => by cases hc; rfl)
    rw [e1, pT_par b1 b2 c2, if_pos ho.1, d1, d2, a3]
    rfl
  | n + 1, .deed m ps, r, h, ho, hr => by
    rw [T.ok, Bool.and_eq_true, Bool.and_eq_true, okL_all] at ho
    obtain ⟨⟨o1, o2⟩, o3⟩ := ho
    have hd : depL ps ≤ n := by simp only [T.dep] at h; omega
    obtain ⟨c1, c2, c3⟩ := dn_al o1
    have e1 : (T.deed m ps).wr ++ r = m ++ (40 :: (glue (wrL ps) ++ (41 :: r))) := by simp [T.wr]
    obtain ⟨b1, b2⟩ := tw_app (r := 40 :: (glue (wrL ps) ++ (41 :: r))) c1 (fun c hc => by cases hc; rfl)
    rw [e1, pT_par b1 b2 c2, if_neg (by rw [c3]; decide)]
    have hf : ∀ t ∈ ps, ∀ r', Stop r' → pT n (t.wr ++ r') = some (t, r') := fun t ht r' hr' => read_ok hs n t r' (Nat.le_trans (dep_mem ht) hd) (List.all_eq_true.mp o3 t ht) hr'
    have hlist : ∀ (ts : List T) (k : Nat) (acc : List T), ts ≠ [] → ts.length ≤ k → (∀ t ∈ ts, ∀ r', Stop r' → pT n (t.wr ++ r') = some (t, r')) → pL (pT n) m k acc (glue (wrL ts) ++ (41 :: r)) = some (.deed m (acc ++ ts), r) := by
      intro ts
      induction ts with
      | nil => intro k acc hne; exact absurd rfl hne
      | cons t ts ih =>
        intro k acc _ hk hg
        obtain ⟨k, rfl⟩ : ∃ k', k = k' + 1 := ⟨k - 1, by simp at hk; omega⟩
        cases ts with
        | nil =>
          rw [show glue (wrL [t]) = t.wr by simp [wrL, glue], pL, hg t List.mem_cons_self (41 :: r) ⟨fun c hc => by cases hc; rfl, by simp⟩]
          rfl
        | cons t2 ts =>
          have e2 : glue (wrL (t :: t2 :: ts)) ++ (41 :: r) = t.wr ++ (44 :: 32 :: (glue (wrL (t2 :: ts)) ++ (41 :: r))) := by simp [wrL, glue]
          rw [e2, pL, hg t List.mem_cons_self _ ⟨fun c hc => by cases hc; rfl, by simp⟩]
          show pL (pT n) m k (acc ++ [t]) (glue (wrL (t2 :: ts)) ++ (41 :: r)) = _
          rw [ih k (acc ++ [t]) (by simp) (by simp at hk ⊢; omega) fun t' ht' => hg t' (List.mem_cons_of_mem _ ht')]
          simp
    cases ps with
    | nil => simp [pD, wrL, glue]
    | cons t ts =>
      have hne : ∃ c w, glue (wrL (t :: ts)) ++ (41 :: r) = c :: w ∧ c ≠ 41 := by
        have hw : ∃ c w, t.wr = c :: w ∧ isAl c = true := by
          have htk := List.all_eq_true.mp o3 t List.mem_cons_self
          have hx : ∀ l r : List Nat, l.all isAl = true → l ≠ [] → ∃ c w, l ++ r = c :: w ∧ isAl c = true := by
            intro l r h1 h2
            cases l with
            | nil => exact absurd rfl h2
            | cons c l => exact ⟨c, l ++ r, rfl, by simp only [List.all_cons, Bool.and_eq_true] at h1; exact h1.1⟩
          cases t with
          | thing p =>
            rw [T.ok, Bool.and_eq_true] at htk
            obtain ⟨a1, a2, _⟩ := pt_al hs htk.1
            have := hx (ptx p) [] a1 a2
            rw [List.append_nil] at this
            rw [T.wr]
            exact this
          | call m' p =>
            rw [T.ok, Bool.and_eq_true] at htk
            obtain ⟨a1, a2⟩ := fn_al htk.1
            have := hx m' ([40] ++ ptx p ++ [41]) a1 a2
            rw [T.wr]
            simpa using this
          | deed m' qs =>
            rw [T.ok, Bool.and_eq_true, Bool.and_eq_true] at htk
            obtain ⟨a1, a2, _⟩ := dn_al htk.1.1
            have := hx m' ([40] ++ glue (wrL qs) ++ [41]) a1 a2
            rw [T.wr]
            simpa using this
        obtain ⟨c, w, e, hc⟩ := hw
        cases ts with
        | nil => exact ⟨c, w ++ (41 :: r), by simp [wrL, glue, e], fun z => by rw [z] at hc; cases hc⟩
        | cons t2 ts => exact ⟨c, _, by simp [wrL, glue, e]; rfl, fun z => by rw [z] at hc; cases hc⟩
      obtain ⟨c, w, e, hc⟩ := hne
      have hl := hlist (t :: ts) 4 [] (by simp) (by simpa using o2) hf
      rw [e] at hl ⊢
      unfold pD
      split
      · rename_i q e'
        cases e'
        exact absurd rfl hc
      · rw [hl]
        rfl
end Tm

set_option Elab.async false
set_option linter.all false
set_option maxRecDepth 100000
set_option maxHeartbeats 4000000
namespace K63
open PySem PySem.Spec PyProof.Rows L2 G
/-- path_key(path) -/
def t_path_key (K : PySem.W.Frag) : TS :=
  (tRet (tTup (tCons (tCB (rLen' K) (tCons (tVar 0) tNil)) (tCons (tVar 0) tNil))))
def n_path_key : List Str := ["path"]
/-- in_order(paths) -/
def t_in_order (K : PySem.W.Frag) (sp_path_key : Sp) : TS :=
  (tSeq (tAsg (tDc (iAny K (tVar 0)) (gName 2) tYes (tVar 2) (tC (.bl true)) [2]) (gName 1))
  (tRet (tCB (rTuple' K) (tCons (tCKw (rSortKey K sp_path_key (He.ga K "path_key")) (tCons (tCB (rListA K) (tCons (tVar 1) tNil)) tNil) (tCons (tC (.ref (He.ga K "path_key"))) tNil)) tNil))))
def n_in_order : List Str := ["paths", "seen", "path"]
/-- closed(paths) -/
def t_closed (K : PySem.W.Frag) (sp_in_order : Sp) : TS :=
  (tSeq (tAsg tDNewK (gName 1))
  (tSeq (tFor (iAny K (tVar 0)) (gName 2)
  (tFor (iRng3 (tCons (tCB (rLen' K) (tCons (tVar 2) tNil)) (tCons (tUn rNeg' (tC (.int 1))) (tCons (tUn rNeg' (tC (.int 1))) tNil)))) (gName 3)
  (tSeq (tIfS (tTest (tOp (rIn' K) (tSl (rSl' K) (tVar 2) tNoPart (tPart (tVar 3))) (tVar 1)))
  tBreak
  tNext)
  (tAsg (tC (.bl true)) (gSub (tVar 1) (tSl (rSl' K) (tVar 2) tNoPart (tPart (tVar 3))) rSet')))))
  (tRet (tCallR sp_in_order E0 (tCons (tCB (rListA K) (tCons (tVar 1) tNil)) tNil)))))
def n_closed : List Str := ["paths", "seen", "path", "count"]
/-- Nodes.__init__(self, sheet) -/
def t_Nodes_init (K : PySem.W.Frag) (sp_closed : Sp) (sp_node_ways : Sp) (E : XK) : TS :=
  (tSeq (tAsg (tLc (iAny K (tVar 1)) (gName 4) (tTest (tOp (rEq' K) (tOp (rIx' K) (tVar 4) (tC (.int 0))) (tC (.str "thing")))) (tOp (rIx' K) (tVar 4) (tC (.int 1))) [4]) (gName 2))
  (tSeq (tIfS (tNot (tTru' K (tCB (rAll K) (tCons (tLc (iAny K (tVar 2)) (gName 7) tYes (tCB (rIsi' K) (tCons (tVar 7) (tCons (tC (.ty "str")) tNil))) [7]) tNil))))
  (tRaise (WF E) (tMk0 (He.ga K "BadSheet")))
  tNext)
  (tSeq (sFld K (tVar 0) (tVar 1) "sheet")
  (tSeq (sFld K (tVar 0) (tCallR sp_closed E0 (tCons (tOp (rAdd' K) (tLst (tCons (tC (.str "")) tNil)) (tVar 2)) tNil)) "paths")
  (tSeq (sFld K (tVar 0) (tDc (iEnumA K (tCons (tFld K (tVar 0) "paths") tNil)) (gTup K 2 (gCons (gName 5) (gCons (gName 6) gNil))) tYes (tVar 6) (tVar 5) [5, 6]) "numbers")
  (tSeq (sFld K (tVar 0) (tCB (rLen' K) (tCons (tFld K (tVar 0) "paths") tNil)) "count")
  (tSeq (tAsg (tLst tNil) (gName 3))
  (tSeq (tFor (iAny K (tVar 1)) (gName 4)
  (tIfS (tTest (tOp (rEq' K) (tOp (rIx' K) (tVar 4) (tC (.int 0))) (tC (.str "thing"))))
  (tDrop (tBM K "list" rAppend (tVar 3) (tCons (tOp (rIx' K) (tFld K (tVar 0) "numbers") (tOp (rIx' K) (tVar 4) (tC (.int 1)))) tNil)))
  (tSeq (tDrop (tBM K "list" rAppend (tVar 3) (tCons (tFld K (tVar 0) "count") tNil)))
  (sFld K (tVar 0) (tOp (rAdd' K) (tFld K (tVar 0) "count") (tC (.int 1))) "count"))))
  (tSeq (sFld K (tVar 0) (tCB (rTuple' K) (tCons (tVar 3) tNil)) "places")
  (tSeq (sFld K (tVar 0) (tLc (iEnumA K (tCons (tVar 1) tNil)) (gTup K 2 (gCons (gName 5) (gCons (gName 4) gNil))) (tTest (tOp (rEq' K) (tOp (rIx' K) (tVar 4) (tC (.int 0))) (tC (.str "deed")))) (tVar 5) [5, 4]) "deeds")
  (tSeq (sFld K (tVar 0) (tOp (rIx' K) (tFld K (tVar 0) "places") (tUn rNeg' (tC (.int 1)))) "goal")
  (sFld K (tVar 0) (tCallR sp_node_ways E0 (tCons (tVar 0) tNil)) "ways"))))))))))))
def n_Nodes_init : List Str := ["self", "sheet", "things", "places", "part", "at", "path", "thing"]
/-- node_ways(nodes) -/
def t_node_ways (K : PySem.W.Frag) : TS :=
  (tSeq (tAsg (tLc (iRng1 (tCons (tFld K (tVar 0) "count") tNil)) (gName 2) tYes (tLst tNil) [2]) (gName 1))
  (tSeq (tFor (iEnumA K (tCons (tFld K (tVar 0) "paths") tNil)) (gTup K 2 (gCons (gName 2) (gCons (gName 3) gNil)))
  (tIfS (tTest (tOp (rNe' K) (tVar 3) (tC (.str ""))))
  (tSeq (tAsg (tOp (rIx' K) (tFld K (tVar 0) "numbers") (tSl (rSl' K) (tVar 3) tNoPart (tPart (tUn rNeg' (tC (.int 1)))))) (gName 4))
  (tSeq (tDrop (tBM K "list" rAppend (tOp (rIx' K) (tVar 1) (tVar 2)) (tCons (tTup (tCons (tTup (tCons (tC (.str "step")) (tCons (tOp (rIx' K) (tVar 3) (tUn rNeg' (tC (.int 1)))) tNil))) (tCons (tTup (tCons (tVar 4) tNil)) tNil))) tNil)))
  (tDrop (tBM K "list" rAppend (tOp (rIx' K) (tVar 1) (tVar 4)) (tCons (tTup (tCons (tTup (tCons (tC (.str "back")) (tCons (tOp (rIx' K) (tVar 3) (tUn rNeg' (tC (.int 1)))) tNil))) (tCons (tTup (tCons (tVar 2) tNil)) tNil))) tNil)))))
  tNext))
  (tSeq (tFor (iAny K (tFld K (tVar 0) "deeds")) (gName 5)
  (tSeq (tAsg (tOp (rIx' K) (tFld K (tVar 0) "sheet") (tVar 5)) (gName 6))
  (tDrop (tBM K "list" rAppend (tOp (rIx' K) (tVar 1) (tOp (rIx' K) (tFld K (tVar 0) "places") (tVar 5))) (tCons (tTup (tCons (tTup (tCons (tC (.str "deed")) (tCons (tOp (rIx' K) (tVar 6) (tC (.int 1))) tNil))) (tCons (tCB (rTuple' K) (tCons (tLc (iAny K (tOp (rIx' K) (tVar 6) (tC (.int 2)))) (gName 7) tYes (tOp (rIx' K) (tFld K (tVar 0) "places") (tVar 7)) [7]) tNil)) tNil))) tNil)))))
  (tRet (tVar 1)))))
def n_node_ways : List Str := ["nodes", "ways", "number", "path", "before", "at", "part", "inner"]
/-- node_count(sheet) -/
def t_node_count (K : PySem.W.Frag) (sp_Nodes_init : Sp) (E : XK) : TS :=
  (tRet (tFld K (tMakeS (He.ga K "Nodes") sp_Nodes_init (WE (WF E)) (tCons (tVar 0) tNil)) "count"))
def n_node_count : List Str := ["sheet"]
/-- _law_due(sheet) -/
def t__law_due (K : PySem.W.Frag) : TS :=
  (tSeq (tAsg (tDisp [((tC (.str "")), (tC (.bl true)))]) (gName 1))
  (tSeq (tAsg (tC (.int 0)) (gName 2))
  (tSeq (tFor (iAny K (tVar 0)) (gName 3)
  (tIfS (tTest (tOp (rEq' K) (tOp (rIx' K) (tVar 3) (tC (.int 0))) (tC (.str "thing"))))
  (tFor (iRng1 (tCons (tCB (rLen' K) (tCons (tOp (rIx' K) (tVar 3) (tC (.int 1))) tNil)) tNil)) (gName 4)
  (tAsg (tC (.bl true)) (gSub (tVar 1) (tSl (rSl' K) (tOp (rIx' K) (tVar 3) (tC (.int 1))) tNoPart (tPart (tOp (rAdd' K) (tVar 4) (tC (.int 1))))) rSet')))
  (tAsg (tOp (rAdd' K) (tVar 2) (tC (.int 1))) (gName 2))))
  (tRet (tOp (rAdd' K) (tCB rLenD (tCons (tVar 1) tNil)) (tVar 2))))))
def n__law_due : List Str := ["sheet", "paths", "deeds", "part", "count"]
/-- _law_whole(value) -/
def t__law_whole (K : PySem.W.Frag) : TS :=
  (tRet (tAndT K (tCB (rIsi' K) (tCons (tVar 0) (tCons (tC (.ty "int")) tNil))) (tNotT K (tCB (rIsi' K) (tCons (tVar 0) (tCons (tC (.ty "bool")) tNil))))))
def n__law_whole : List Str := ["value"]
/-- _law_cell(script, k) -/
def t__law_cell (K : PySem.W.Frag) : TS :=
  (tSeq (tIfS (tTest (tOp rLt' (tVar 1) (tCB (rLen' K) (tCons (tVar 0) tNil))))
  (tRet (tOp (rIx' K) (tVar 0) (tVar 1)))
  tNext)
  (tSeq (tAsg (tC (.int 17)) (gName 2))
  (tSeq (tFor (iAny K (tVar 0)) (gName 3)
  (tAsg (tOp rMod' (tCB rInt' (tCons (tOp (rAdd' K) (tOp rMul' (tVar 2) (tC (.int 31))) (tOp rMod' (tCB rInt' (tCons (tVar 3) tNil)) (tC (.int 1000003)))) tNil)) (tC (.int 1000003))) (gName 2)))
  (tRet (tOp rMod' (tCB rInt' (tCons (tOp rMul' (tOp rMul' (tOp (rAdd' K) (tVar 2) (tC (.int 7))) (tOp (rAdd' K) (tVar 1) (tC (.int 3)))) (tC (.int 69621))) tNil)) (tC (.int 2147483647)))))))
def n__law_cell : List Str := ["script", "k", "seed", "cell"]
/-- _law_digits(cell, sizes) -/
def t__law_digits (K : PySem.W.Frag) : TS :=
  (tSeq (tAsg (tLst tNil) (gName 2))
  (tSeq (tAsg (tCB rInt' (tCons (tVar 0) tNil)) (gName 3))
  (tSeq (tIfS (tTest (tOp rGe' (tVar 3) (tOp rPow' (tC (.int 10)) (tC (.int 18)))))
  (tSeq (tAsg (tOp rSub' (tVar 3) (tOp rPow' (tC (.int 10)) (tC (.int 18)))) (gName 3))
  (tSeq (tFor (iAny K (tVar 1)) (gName 4)
  (tSeq (tDrop (tBM K "list" rAppend (tVar 2) (tCons (tOp rMod' (tCB rInt' (tCons (tVar 3) tNil)) (tVar 4)) tNil)))
  (tAsg (tOp rDiv' (tCB rInt' (tCons (tVar 3) tNil)) (tVar 4)) (gName 3))))
  (tRet (tVar 2))))
  tNext)
  (tSeq (tAsg (tOp rMod' (tCB rInt' (tCons (tVar 3) tNil)) (tC (.int 2147483629))) (gName 5))
  (tSeq (tFor (iRng1 (tCons (tCB (rLen' K) (tCons (tVar 1) tNil)) tNil)) (gName 6)
  (tSeq (tAsg (tOp rMod' (tCB rInt' (tCons (tOp (rAdd' K) (tOp (rAdd' K) (tOp rMul' (tVar 5) (tC (.int 48271))) (tOp rMul' (tC (.int 974711)) (tVar 6))) (tC (.int 12345))) tNil)) (tC (.int 2147483647))) (gName 5))
  (tSeq (tAsg (tOp rMod' (tCB rInt' (tCons (tOp rMul' (tVar 5) (tOp (rAdd' K) (tOp rDiv' (tVar 5) (tC (.int 65537))) (tC (.int 3)))) tNil)) (tC (.int 2147483629))) (gName 7))
  (tDrop (tBM K "list" rAppend (tVar 2) (tCons (tOp rMod' (tOp rDiv' (tVar 7) (tC (.int 19))) (tOp (rIx' K) (tVar 1) (tVar 6))) tNil))))))
  (tRet (tVar 2)))))))
def n__law_digits : List Str := ["cell", "sizes", "row", "rest", "size", "seed", "k", "twice"]
/-- _law_store() -/
def t__law_store (K : PySem.W.Frag) (w : World) : TS :=
  (tRet (tLst (tCons (tLst tNil) (tCons (tDNewN w) (tCons (tLst tNil) tNil)))))
def n__law_store : List Str := []
/-- _law_put(store, row, height) -/
def t__law_put (K : PySem.W.Frag) (w : World) : TS :=
  (tSeq (tIfS (tTest (tOp (rNotInN K w) (tVar 1) (tOp (rIx' K) (tVar 0) (tC (.int 1)))))
  (tSeq (tAsg (tOp (rIx' K) (tVar 0) (tC (.int 1))) (gName 3))
  (tSeq (tAsg (tCB (rLen' K) (tCons (tOp (rIx' K) (tVar 0) (tC (.int 0))) tNil)) (gSub (tVar 3) (tVar 1) (rSetN K w)))
  (tSeq (tDrop (tBM K "list" rAppend (tOp (rIx' K) (tVar 0) (tC (.int 0))) (tCons (tVar 1) tNil)))
  (tDrop (tBM K "list" rAppend (tOp (rIx' K) (tVar 0) (tC (.int 2))) (tCons (tVar 2) tNil))))))
  tNext)
  (tRet (tOp (rIxN2 K w) (tOp (rIx' K) (tVar 0) (tC (.int 1))) (tVar 1))))
def n__law_put : List Str := ["store", "row", "height", "numbers"]
/-- _law_thing(store, thing) -/
def t__law_thing (K : PySem.W.Frag) (sp__law_put : Sp) : TS :=
  (tRet (tCallR sp__law_put E0 (tCons (tVar 0) (tCons (tTup (tCons (tC (.str "thing")) (tCons (tVar 1) tNil))) (tCons (tC (.int 0)) tNil)))))
def n__law_thing : List Str := ["store", "thing"]
/-- _law_deed(store, name, parts) -/
def t__law_deed (K : PySem.W.Frag) (sp__law_put : Sp) : TS :=
  (tSeq (tAsg (tC (.int 0)) (gName 3))
  (tSeq (tFor (iAny K (tVar 2)) (gName 4)
  (tAsg (tCB (rMax' K) (tCons (tVar 3) (tCons (tOp (rAdd' K) (tOp (rIx' K) (tOp (rIx' K) (tVar 0) (tC (.int 2))) (tVar 4)) (tC (.int 1))) tNil))) (gName 3)))
  (tRet (tCallR sp__law_put E0 (tCons (tVar 0) (tCons (tTup (tCons (tC (.str "deed")) (tCons (tVar 1) (tCons (tCB (rTuple' K) (tCons (tVar 2) tNil)) tNil)))) (tCons (tVar 3) tNil)))))))
def n__law_deed : List Str := ["store", "name", "parts", "high", "part"]
/-- _law_within(store, number) -/
def t__law_within (K : PySem.W.Frag) : TS :=
  (tSeq (tAsg (tLst tNil) (gName 2))
  (tSeq (tAsg tDNewK (gName 3))
  (tSeq (tAsg (tLst (tCons (tLst (tCons (tVar 1) (tCons (tC (.int 0)) tNil))) tNil)) (gName 4))
  (tSeq (tFor (iRng1 (tCons (tOp (rAdd' K) (tOp rMul' (tC (.int 12)) (tCB (rLen' K) (tCons (tOp (rIx' K) (tVar 0) (tC (.int 0))) tNil))) (tC (.int 12))) tNil)) (gName 5)
  (tSeq (tIfS (tNot (tTru' K (tVar 4)))
  tBreak
  tNext)
  (tSeq (tAsg (tOp (rIx' K) (tVar 4) (tUn rNeg' (tC (.int 1)))) (gName 6))
  (tSeq (tAsg (tOp (rIx' K) (tOp (rIx' K) (tVar 0) (tC (.int 0))) (tOp (rIx' K) (tVar 6) (tC (.int 0)))) (gName 7))
  (tIfS (tTest (tOp (rIn' K) (tOp (rIx' K) (tVar 6) (tC (.int 0))) (tVar 3)))
  (tDrop (tBM0 K "list" rPop (tVar 4)))
  (tIfS (tOr (tTest (tOp (rEq' K) (tOp (rIx' K) (tVar 7) (tC (.int 0))) (tC (.str "thing")))) (tTest (tOp (rEq' K) (tOp (rIx' K) (tVar 6) (tC (.int 1))) (tCB (rLen' K) (tCons (tOp (rIx' K) (tVar 7) (tC (.int 2))) tNil)))))
  (tSeq (tAsg (tC (.bl true)) (gSub (tVar 3) (tOp (rIx' K) (tVar 6) (tC (.int 0))) rSet'))
  (tSeq (tDrop (tBM K "list" rAppend (tVar 2) (tCons (tOp (rIx' K) (tVar 6) (tC (.int 0))) tNil)))
  (tDrop (tBM0 K "list" rPop (tVar 4)))))
  (tSeq (tAsg (tOp (rAdd' K) (tOp (rIx' K) (tVar 6) (tC (.int 1))) (tC (.int 1))) (gSub (tVar 6) (tC (.int 1)) rSet'))
  (tDrop (tBM K "list" rAppend (tVar 4) (tCons (tLst (tCons (tOp (rIx' K) (tOp (rIx' K) (tVar 7) (tC (.int 2))) (tOp rSub' (tOp (rIx' K) (tVar 6) (tC (.int 1))) (tC (.int 1)))) (tCons (tC (.int 0)) tNil))) tNil))))))))))
  (tRet (tVar 2))))))
def n__law_within : List Str := ["store", "number", "order", "done", "waiting", "turn", "top", "row"]
/-- _law_sheet(store, number) -/
def t__law_sheet (K : PySem.W.Frag) (sp__law_within : Sp) : TS :=
  (tSeq (tAsg tDNewK (gName 2))
  (tSeq (tAsg (tLst tNil) (gName 3))
  (tSeq (tFor (iAny K (tCallR sp__law_within E0 (tCons (tVar 0) (tCons (tVar 1) tNil)))) (gName 4)
  (tSeq (tAsg (tOp (rIx' K) (tOp (rIx' K) (tVar 0) (tC (.int 0))) (tVar 4)) (gName 5))
  (tSeq (tIfS (tTest (tOp (rEq' K) (tOp (rIx' K) (tVar 5) (tC (.int 0))) (tC (.str "deed"))))
  (tAsg (tTup (tCons (tC (.str "deed")) (tCons (tOp (rIx' K) (tVar 5) (tC (.int 1))) (tCons (tCB (rTuple' K) (tCons (tLc (iAny K (tOp (rIx' K) (tVar 5) (tC (.int 2)))) (gName 6) tYes (tOp (rIx' K) (tVar 2) (tVar 6)) [6]) tNil)) tNil)))) (gName 5))
  tNext)
  (tSeq (tAsg (tCB (rLen' K) (tCons (tVar 3) tNil)) (gSub (tVar 2) (tVar 4) rSet'))
  (tDrop (tBM K "list" rAppend (tVar 3) (tCons (tVar 5) tNil)))))))
  (tRet (tCB (rTuple' K) (tCons (tVar 3) tNil))))))
def n__law_sheet : List Str := ["store", "number", "places", "told", "part", "row", "inner"]
/-- _law_small_answer(row, things, deeds) -/
def t__law_small_answer (K : PySem.W.Frag) (sp__law_deed : Sp) (sp__law_sheet : Sp) (sp__law_store : Sp) (sp__law_thing : Sp) : TS :=
  (tSeq (tAsg (tCallR sp__law_store E0 tNil) (gName 3))
  (tSeq (tAsg (tLst tNil) (gName 4))
  (tSeq (tFor (iRng1 (tCons (tVar 1) tNil)) (gName 5)
  (tSeq (tAsg (tCB rInt' (tCons (tOp (rIx' K) (tVar 0) (tOp rMod' (tCB rInt' (tCons (tVar 5) tNil)) (tC (.int 30)))) tNil)) (gName 6))
  (tDrop (tBM K "list" rAppend (tVar 4) (tCons (tCallR sp__law_thing E0 (tCons (tVar 3) (tCons (tOp (rIx' K) (tLst (tCons (tC (.str "")) (tCons (tC (.str "a")) (tCons (tC (.str "b")) (tCons (tC (.str "aa")) (tCons (tC (.str "ab")) (tCons (tC (.str "ba")) (tCons (tC (.str "bb")) (tCons (tC (.str "aab")) (tCons (tC (.str "bab")) (tCons (tC (.str "abb")) tNil))))))))))) (tOp rMod' (tCB rInt' (tCons (tVar 6) tNil)) (tC (.int 10)))) tNil))) tNil)))))
  (tSeq (tFor (iRng1 (tCons (tVar 2) tNil)) (gName 5)
  (tSeq (tAsg (tCB rInt' (tCons (tOp (rIx' K) (tVar 0) (tOp rMod' (tCB rInt' (tCons (tOp (rAdd' K) (tC (.int 4)) (tOp rMul' (tC (.int 2)) (tVar 5))) tNil)) (tC (.int 30)))) tNil)) (gName 6))
  (tSeq (tAsg (tCB rInt' (tCons (tOp (rIx' K) (tVar 0) (tOp rMod' (tCB rInt' (tCons (tOp (rAdd' K) (tC (.int 5)) (tOp rMul' (tC (.int 2)) (tVar 5))) tNil)) (tC (.int 30)))) tNil)) (gName 7))
  (tSeq (tAsg (tLst (tCons (tOp (rIx' K) (tVar 4) (tOp rMod' (tCB rInt' (tCons (tOp rDiv' (tVar 6) (tC (.int 4))) tNil)) (tCB (rLen' K) (tCons (tVar 4) tNil)))) (tCons (tOp (rIx' K) (tVar 4) (tOp rMod' (tCB rInt' (tCons (tVar 7) tNil)) (tCB (rLen' K) (tCons (tVar 4) tNil)))) (tCons (tOp (rIx' K) (tVar 4) (tOp rMod' (tCB rInt' (tCons (tOp rDiv' (tVar 7) (tC (.int 7))) tNil)) (tCB (rLen' K) (tCons (tVar 4) tNil)))) tNil)))) (gName 8))
  (tDrop (tBM K "list" rAppend (tVar 4) (tCons (tCallR sp__law_deed E0 (tCons (tVar 3) (tCons (tOp (rIx' K) (tC (.str "efhm")) (tOp rMod' (tCB rInt' (tCons (tVar 6) tNil)) (tC (.int 4)))) (tCons (tSl (rSl' K) (tVar 8) tNoPart (tPart (tOp rMod' (tCB rInt' (tCons (tVar 6) tNil)) (tC (.int 4))))) tNil)))) tNil)))))))
  (tSeq (tAsg (tCallR sp__law_deed E0 (tCons (tVar 3) (tCons (tC (.str "h")) (tCons (tLst (tCons (tOp (rIx' K) (tVar 4) (tUn rNeg' (tC (.int 1)))) (tCons (tOp (rIx' K) (tVar 4) (tOp rMod' (tCB rInt' (tCons (tOp (rIx' K) (tVar 0) (tC (.int 20))) tNil)) (tCB (rLen' K) (tCons (tVar 4) tNil)))) tNil))) tNil)))) (gName 9))
  (tRet (tCallR sp__law_sheet E0 (tCons (tVar 3) (tCons (tVar 9) tNil)))))))))
def n__law_small_answer : List Str := ["row", "things", "deeds", "store", "parts", "k", "draw", "other", "mine", "top"]
/-- law(script) -/
def t_law (K : PySem.W.Frag) (sp__law_cell : Sp) (sp__law_digits : Sp) (sp__law_due : Sp) (sp__law_small_answer : Sp) (sp__law_whole : Sp) (sp_node_count : Sp) : TS :=
  (tSeq (tAsg (tCallR sp__law_digits E0 (tCons (tCallR sp__law_cell E0 (tCons (tVar 0) (tCons (tC (.int 0)) tNil))) (tCons (tLc (iRng1 (tCons (tC (.int 30)) tNil)) (gName 9) tYes (tC (.int 60)) [9]) tNil))) (gName 1))
  (tSeq (tAsg (tCallR sp__law_small_answer E0 (tCons (tVar 1) (tCons (tOp (rAdd' K) (tC (.int 1)) (tOp rMod' (tCB rInt' (tCons (tOp (rIx' K) (tVar 1) (tC (.int 21))) tNil)) (tC (.int 4)))) (tCons (tOp (rAdd' K) (tC (.int 1)) (tOp rMod' (tCB rInt' (tCons (tOp (rIx' K) (tVar 1) (tC (.int 22))) tNil)) (tC (.int 5)))) tNil)))) (gName 2))
  (tSeq (tAsg (tCallS sp_node_count (WE (fun _ _ _ _ => False)) (tCons (tVar 2) tNil)) (gName 3))
  (tSeq (tIfS (tOr (tNot (tTru' K (tCallR sp__law_whole E0 (tCons (tVar 3) tNil)))) (tTest (tOp (rNe' K) (tVar 3) (tCallR sp__law_due E0 (tCons (tVar 2) tNil)))))
  (tRet (tC (.bl false)))
  tNext)
  (tSeq (tIfS (tTest (tOp (rNe' K) (tCallS sp_node_count (WE (fun _ _ _ _ => False)) (tCons (tLc (iAny K (tVar 2)) (gName 10) tYes (tCB (rListA K) (tCons (tVar 10) tNil)) [10]) tNil)) (tVar 3)))
  (tRet (tC (.bl false)))
  tNext)
  (tSeq (tAsg (tOp (rAdd' K) (tOp rMul' (tC (.str "a")) (tOp rMod' (tCB rInt' (tCons (tOp (rIx' K) (tVar 1) (tC (.int 23))) tNil)) (tC (.int 60)))) (tOp rMul' (tC (.str "b")) (tOp rMod' (tCB rInt' (tCons (tOp (rIx' K) (tVar 1) (tC (.int 24))) tNil)) (tC (.int 3))))) (gName 4))
  (tSeq (tAsg (tOp rMul' (tC (.str "a")) (tOp rMod' (tCB rInt' (tCons (tOp (rIx' K) (tVar 1) (tC (.int 25))) tNil)) (tC (.int 60)))) (gName 5))
  (tSeq (tAsg (tTup (tCons (tTup (tCons (tC (.str "thing")) (tCons (tVar 4) tNil))) (tCons (tTup (tCons (tC (.str "thing")) (tCons (tOp (rAdd' K) (tVar 5) (tC (.str "c"))) tNil))) (tCons (tTup (tCons (tC (.str "deed")) (tCons (tC (.str "h")) (tCons (tTup (tCons (tC (.int 0)) (tCons (tC (.int 1)) (tCons (tC (.int 0)) tNil)))) tNil)))) (tCons (tTup (tCons (tC (.str "deed")) (tCons (tC (.str "e")) (tCons (tTup tNil) tNil)))) (tCons (tTup (tCons (tC (.str "deed")) (tCons (tC (.str "k")) (tCons (tTup (tCons (tC (.int 2)) (tCons (tC (.int 3)) tNil))) tNil)))) tNil)))))) (gName 6))
  (tSeq (tIfS (tOr (tTest (tOp (rNe' K) (tCallS sp_node_count (WE (fun _ _ _ _ => False)) (tCons (tVar 6) tNil)) (tCallR sp__law_due E0 (tCons (tVar 6) tNil)))) (tTest (tOp (rNe' K) (tCallS sp_node_count (WE (fun _ _ _ _ => False)) (tCons (tTup (tCons (tTup (tCons (tC (.str "deed")) (tCons (tC (.str "e")) (tCons (tTup tNil) tNil)))) tNil)) tNil)) (tC (.int 2)))))
  (tRet (tC (.bl false)))
  tNext)
  (tSeq (tAsg (tTup (tCons (tTup (tCons (tC (.str "thing")) (tCons (tCB rInt' (tCons (tOp (rIx' K) (tVar 1) (tC (.int 26))) tNil)) tNil))) (tCons (tTup (tCons (tC (.str "deed")) (tCons (tC (.str "e")) (tCons (tTup (tCons (tC (.int 0)) tNil)) tNil)))) tNil))) (gName 7))
  (tSeq (tTry (fun W => (tDrop (tCallS sp_node_count (WE W) (tCons (tVar 7) tNil)))) (wAs K (.ref (He.ga K "LoopError")) 8 (fun a cls d => (tRet (tCB (rIsEX K a cls d) (tCons (tVar 8) (tCons (tC (.ref (He.ga K "BadSheet"))) tNil))))) (fun _ _ _ _ => False)))
  (tRet (tC (.bl false))))))))))))))
def n_law : List Str := ["script", "row", "sheet", "told", "far", "near", "wide", "bad", "e", "k", "part"]
end K63

set_option Elab.async false
set_option linter.all false
set_option maxRecDepth 100000
set_option maxHeartbeats 4000000
/-! N63: the nodes of an answer, in plain terms. -/
namespace K63
open PySem PySem.Spec PyProof.Rows L2 G Pm Tm
def nD (i : Nat) : D := .int (i : Int)
inductive Row where
  | th (p : List Nat)
  | dd (n ps : List Nat)
deriving DecidableEq
def Row.d (b : Bool) : Row → D
  | .th p => mk b [sD sThing, sD p]
  | .dd n ps => mk b [sD sDeed, sD n, .tup (ps.map nD)]
def thP : Row → Option (List Nat)
  | .th p => some p
  | .dd _ _ => none
def isDd : Row → Bool
  | .th _ => false
  | .dd _ _ => true
def things (rs : List Row) : List (List Nat) := rs.filterMap thP
def PP (rs : List Row) : List (List Nat) := ordS (prefs ([] :: things rs))
def nds (rs : List Row) : Nat := (rs.filter isDd).length
def cnt (rs : List Row) : Nat := (PP rs).length + nds rs
def plcs (P : List (List Nat)) : Nat → List Row → List Nat
  | _, [] => []
  | c, .th p :: r => P.idxOf p :: plcs P c r
  | c, .dd _ _ :: r => c :: plcs P (c + 1) r
def pl (rs : List Row) : List Nat := plcs (PP rs) (PP rs).length rs
def ddAt (rs : List Row) (i : Nat) : Option Nat := match rs[i]? with
  | some (.dd _ _) => some i
  | _ => none
def ddIx (rs : List Row) : List Nat := (List.range rs.length).filterMap (ddAt rs)
structure ROk (rs : List Row) : Prop where
  n1 : 1 ≤ rs.length
  n : rs.length ≤ 20
  t : ∀ p, .th p ∈ rs → p.length ≤ 100
  d : ∀ n ps, .dd n ps ∈ rs → ps.length ≤ 20 ∧ ∀ i ∈ ps, i < rs.length
theorem nds_snoc (rs : List Row) (r : Row) : nds (rs ++ [r]) = nds rs + (if isDd r then 1 else 0) := by
  unfold nds
  rw [List.filter_append, List.length_append]
  cases h : isDd r <;> simp [h]
theorem nds_dd (n ps : List Nat) (rs : List Row) : nds (.dd n ps :: rs) = nds rs + 1 := by
  unfold nds
  rw [List.filter_cons_of_pos rfl, List.length_cons]
theorem nds_th (p : List Nat) (rs : List Row) : nds (.th p :: rs) = nds rs := by
  unfold nds
  rw [List.filter_cons_of_neg (by simp [isDd])]
theorem plcs_len (P : List (List Nat)) : ∀ (rs : List Row) (c : Nat), (plcs P c rs).length = rs.length
  | [], _ => rfl
  | .th p :: rs, c => by rw [plcs, List.length_cons, plcs_len P rs, List.length_cons]
  | .dd n ps :: rs, c => by rw [plcs, List.length_cons, plcs_len P rs, List.length_cons]
theorem plcs_snoc (P : List (List Nat)) (r : Row) : ∀ (rs : List Row) (c : Nat), plcs P c (rs ++ [r]) = plcs P c rs ++ plcs P (c + nds rs) [r]
  | [], c => by simp [plcs, nds]
  | .th p :: rs, c => by
    rw [List.cons_append, plcs, plcs, plcs_snoc P r rs c, nds_th]
    rfl
  | .dd n ps :: rs, c => by
    rw [List.cons_append, plcs, plcs, plcs_snoc P r rs (c + 1)]
    have : c + 1 + nds rs = c + nds (.dd n ps :: rs) := by rw [nds_dd]; omega
    rw [this]
    rfl
theorem plcs_lt {P : List (List Nat)} : ∀ {rs : List Row} {c : Nat}, P.length ≤ c → (∀ p, Row.th p ∈ rs → p ∈ P) → ∀ x ∈ plcs P c rs, x < c + nds rs
  | [], _, _, _, x, hx => by cases hx
  | .th p :: rs, c, hc, hp, x, hx => by
    rw [plcs] at hx
    have e := nds_th p rs
    rw [e]
    rcases List.mem_cons.mp hx with rfl | hx
    · have := List.idxOf_lt_length_of_mem (hp p List.mem_cons_self)
      omega
    · exact plcs_lt hc (fun q hq => hp q (List.mem_cons_of_mem _ hq)) x hx
  | .dd n ps :: rs, c, hc, hp, x, hx => by
    rw [plcs] at hx
    have e := nds_dd n ps rs
    rw [e]
    rcases List.mem_cons.mp hx with rfl | hx
    · omega
    · have := plcs_lt (c := c + 1) (by omega) (fun q hq => hp q (List.mem_cons_of_mem _ hq)) x hx
      omega
theorem th_mem {rs : List Row} {p : List Nat} : p ∈ things rs ↔ .th p ∈ rs := by
  unfold things
  rw [List.mem_filterMap]
  constructor
  · rintro ⟨r, hr, h⟩
    cases r with
    | th q => cases h; exact hr
    | dd _ _ => cases h
  · intro h
    exact ⟨_, h, rfl⟩
theorem PP_mem {rs : List Row} {x : List Nat} : x ∈ PP rs ↔ x = [] ∨ ∃ p, .th p ∈ rs ∧ x <+: p := by
  unfold PP
  rw [ordS_mem, prefs_mem]
  constructor
  · rintro ⟨p, hp, hx⟩
    rcases List.mem_cons.mp hp with rfl | hp
    · exact .inl (List.prefix_nil.mp hx)
    · exact .inr ⟨p, th_mem.mp hp, hx⟩
  · rintro (rfl | ⟨p, hp, hx⟩)
    · exact ⟨[], List.mem_cons_self, List.prefix_rfl⟩
    · exact ⟨p, List.mem_cons_of_mem _ (th_mem.mpr hp), hx⟩
theorem PP_th {rs : List Row} {p : List Nat} (h : .th p ∈ rs) : p ∈ PP rs := PP_mem.mpr (.inr ⟨p, h, List.prefix_rfl⟩)
theorem PP_down {rs : List Row} {x y : List Nat} (h : x ∈ PP rs) (hy : y <+: x) : y ∈ PP rs := by
  rcases PP_mem.mp h with rfl | ⟨p, hp, hx⟩
  · rw [List.prefix_nil.mp hy]; exact h
  · exact PP_mem.mpr (.inr ⟨p, hp, hy.trans hx⟩)
theorem PP_nodup (rs : List Row) : (PP rs).Nodup := by
  have := ordS_str (prefs ([] :: things rs))
  exact List.Pairwise.imp (fun h => h.2) this
theorem nodup_le {α : Type} [DecidableEq α] : ∀ {l m : List α}, l.Nodup → (∀ x ∈ l, x ∈ m) → l.length ≤ m.length
  | [], m, _, _ => Nat.zero_le _
  | x :: l, m, hu, hs => by
    rw [List.nodup_cons] at hu
    have hx := hs x List.mem_cons_self
    have := nodup_le (l := l) (m := m.erase x) hu.2 fun y hy => (List.mem_erase_of_ne (show y ≠ x from fun e => hu.1 (by rw [← e]; exact hy))).mpr (hs y (List.mem_cons_of_mem _ hy))
    rw [List.length_erase_of_mem hx] at this
    have hp : 0 < m.length := List.length_pos_of_mem hx
    rw [List.length_cons]
    omega
theorem prefs_len {l : List (List Nat)} {b : Nat} (h : ∀ p ∈ l, p.length ≤ b) : (prefs l).length ≤ l.length * (b + 1) := by
  induction l with
  | nil => simp [prefs]
  | cons p l ih =>
    have := ih fun q hq => h q (List.mem_cons_of_mem _ hq)
    unfold prefs at this ⊢
    rw [List.flatMap_cons, List.length_append, List.length_map, List.length_range, List.length_cons, Nat.succ_mul]
    have := h p List.mem_cons_self
    omega
theorem things_len (rs : List Row) : (things rs).length ≤ rs.length := List.length_filterMap_le _ _
theorem ROk.tl {rs : List Row} (h : ROk rs) : ∀ p ∈ [] :: things rs, p.length ≤ 100 := fun p hp => by
  rcases List.mem_cons.mp hp with rfl | hp
  · simp
  · exact h.t p (th_mem.mp hp)
theorem PP_len {rs : List Row} (h : ROk rs) : (PP rs).length ≤ 2121 := by
  have h1 := nodup_le (m := prefs ([] :: things rs)) (PP_nodup rs) fun x hx => ordS_mem.mp hx
  have h2 := prefs_len h.tl
  have h3 := things_len rs
  have h4 := h.n
  rw [List.length_cons] at h2
  omega
theorem PP_pl {rs : List Row} (h : ROk rs) {x : List Nat} (hx : x ∈ PP rs) : x.length ≤ 100 := by
  rcases PP_mem.mp hx with rfl | ⟨p, hp, hx⟩
  · simp
  · exact Nat.le_trans hx.length_le (h.t p hp)
theorem nds_le (rs : List Row) : nds rs ≤ rs.length := List.length_filter_le _ _
theorem cnt_le {rs : List Row} (h : ROk rs) : cnt rs ≤ 2200 := by
  have := PP_len h
  have := nds_le rs
  have := h.n
  unfold cnt
  omega
theorem pl_len (rs : List Row) : (pl rs).length = rs.length := plcs_len _ _ _
theorem pl_lt {rs : List Row} {x : Nat} (hx : x ∈ pl rs) : x < cnt rs := plcs_lt (Nat.le_refl _) (fun p hp => PP_th hp) x hx
theorem ddAt_eq {rs : List Row} {i j : Nat} (h : ddAt rs i = some j) : j = i ∧ ∃ n ps, rs[i]? = some (.dd n ps) := by
  unfold ddAt at h
  cases hr : rs[i]? with
  | none => rw [hr] at h; cases h
  | some r =>
    rw [hr] at h
    cases r with
    | th p => cases h
    | dd n ps => cases h; exact ⟨rfl, n, ps, rfl⟩
theorem ddIx_mem {rs : List Row} {i : Nat} (h : i ∈ ddIx rs) : ∃ n ps, rs[i]? = some (.dd n ps) := by
  obtain ⟨j, _, hj⟩ := List.mem_filterMap.mp h
  obtain ⟨rfl, n, ps, e⟩ := ddAt_eq hj
  exact ⟨n, ps, e⟩
theorem ddIx_len (rs : List Row) : (ddIx rs).length ≤ rs.length := by
  have := List.length_filterMap_le (ddAt rs) (List.range rs.length)
  rw [List.length_range] at this
  exact this
/-! ways -/
def addW (ws : List (List D)) (i : Nat) (x : D) : List (List D) := ws.set i (ws.getD i [] ++ [x])
theorem addW_len (ws : List (List D)) (i : Nat) (x : D) : (addW ws i x).length = ws.length := by simp [addW]
theorem addW_bd {ws : List (List D)} {i b : Nat} {x : D} (h : ∀ l ∈ ws, l.length ≤ b) : ∀ l ∈ addW ws i x, l.length ≤ b + 1 := fun l hl => by
  unfold addW at hl
  by_cases hi : i < ws.length
  · rcases List.mem_or_eq_of_mem_set hl with hl | rfl
    · have := h l hl; omega
    · rw [List.length_append, List.getD_eq_getElem?_getD, List.getElem?_eq_getElem hi]
      have := h _ (List.getElem_mem hi)
      simpa using this
  · rw [List.set_eq_of_length_le (by omega)] at hl
    have := h l hl; omega
theorem addW_sol {ws : List (List D)} {i : Nat} {x : D} (hx : x.solQ = true) (h : ∀ l ∈ ws, D.solQL l = true) : ∀ l ∈ addW ws i x, D.solQL l = true := fun l hl => by
  have app : ∀ a : List D, D.solQL a = true → D.solQL (a ++ [x]) = true := fun a ha => by
    induction a with
    | nil => show (x.solQ && true) = true; rw [hx]; rfl
    | cons y a ih =>
      rw [D.solQL, Bool.and_eq_true] at ha
      rw [List.cons_append, D.solQL, ha.1, ih ha.2]
      rfl
  unfold addW at hl
  by_cases hi : i < ws.length
  · rcases List.mem_or_eq_of_mem_set hl with hl | rfl
    · exact h l hl
    · refine app _ ?_
      rw [List.getD_eq_getElem?_getD, List.getElem?_eq_getElem hi]
      exact h _ (List.getElem_mem hi)
  · rw [List.set_eq_of_length_le (by omega)] at hl
    exact h l hl
def mvD (k : List Nat) (c need : Nat) : D := .tup [.tup [sD k, sD [c]], .tup [nD need]]
def wayD (n needs : List Nat) : D := .tup [.tup [sD sDeed, sD n], .tup (needs.map nD)]
def sStep : List Nat := [115, 116, 101, 112]
def sBack : List Nat := [98, 97, 99, 107]
def stepP (P : List (List Nat)) (ws : List (List D)) (n : Nat) (p : List Nat) : List (List D) := match p.getLast? with
  | none => ws
  | some c => addW (addW ws n (mvD sStep c (P.idxOf p.dropLast))) (P.idxOf p.dropLast) (mvD sBack c n)
def wP (P : List (List Nat)) (ws : List (List D)) : Nat → List (List D)
  | 0 => ws
  | n + 1 => match P[n]? with
    | some p => stepP P (wP P ws n) n p
    | none => wP P ws n
def stepDd (rs : List Row) (ws : List (List D)) (i : Nat) : List (List D) := match rs[i]? with
  | some (.dd n ps) => addW ws ((pl rs).getD i 0) (wayD n (ps.map fun j => (pl rs).getD j 0))
  | _ => ws
def waysOf (rs : List Row) : List (List D) := (ddIx rs).foldl (stepDd rs) (wP (PP rs) (List.replicate (cnt rs) []) (PP rs).length)
def GoodW (m b : Nat) (ws : List (List D)) : Prop := ws.length = m ∧ (∀ l ∈ ws, l.length ≤ b) ∧ ∀ l ∈ ws, D.solQL l = true
theorem GoodW.add {m b i : Nat} {ws : List (List D)} {x : D} (h : GoodW m b ws) (hx : x.solQ = true) : GoodW m (b + 1) (addW ws i x) := ⟨by rw [addW_len, h.1], addW_bd h.2.1, addW_sol hx h.2.2⟩
theorem GoodW.up {m b c : Nat} {ws : List (List D)} (h : GoodW m b ws) (hc : b ≤ c) : GoodW m c ws := ⟨h.1, fun l hl => Nat.le_trans (h.2.1 l hl) hc, h.2.2⟩
theorem nDs_sol : ∀ l : List Nat, D.solQL (l.map nD) = true
  | [] => rfl
  | x :: l => by rw [List.map_cons, D.solQL, nDs_sol l]; rfl
theorem stepP_good {P : List (List Nat)} {m b n : Nat} {p : List Nat} {ws : List (List D)} (h : GoodW m b ws) : GoodW m (b + 2) (stepP P ws n p) := by
  unfold stepP
  cases p.getLast? with
  | none => exact h.up (by omega)
  | some c => exact (h.add rfl).add rfl
theorem wP_good {P : List (List Nat)} {m : Nat} : ∀ n, GoodW m (2 * n) (wP P (List.replicate m []) n)
  | 0 => ⟨by simp [wP], fun l hl => by rw [wP] at hl; rw [(List.mem_replicate.mp hl).2]; simp, fun l hl => by rw [wP] at hl; rw [(List.mem_replicate.mp hl).2]; rfl⟩
  | n + 1 => by
    rw [wP]
    cases P[n]? with
    | none => exact (wP_good n).up (by omega)
    | some p => exact (stepP_good (wP_good n)).up (by omega)
theorem stepDd_good {rs : List Row} {m b i : Nat} {ws : List (List D)} (h : GoodW m b ws) : GoodW m (b + 1) (stepDd rs ws i) := by
  unfold stepDd
  split
  · refine h.add ?_
    show (true && (D.solQL _ && true)) = true
    rw [nDs_sol]
    rfl
  · exact h.up (by omega)
theorem foldDd_good {rs : List Row} {m : Nat} : ∀ (l : List Nat) {b : Nat} {ws : List (List D)}, GoodW m b ws → GoodW m (b + l.length) (l.foldl (stepDd rs) ws)
  | [], _, _, h => h
  | i :: l, b, ws, h => by
    have := foldDd_good (rs := rs) l (stepDd_good (rs := rs) (i := i) h)
    rw [List.length_cons, show b + (l.length + 1) = b + 1 + l.length by omega]
    exact this
theorem ways_good {rs : List Row} (h : ROk rs) : GoodW (cnt rs) 5000 (waysOf rs) := by
  have h1 := foldDd_good (rs := rs) (ddIx rs) (wP_good (P := PP rs) (m := cnt rs) (PP rs).length)
  have h2 := PP_len h
  have h3 := ddIx_len rs
  have h4 := h.n
  exact h1.up (by omega)
end K63

set_option Elab.async false
set_option linter.all false
set_option maxRecDepth 100000
set_option maxHeartbeats 4000000
/-! P63: node_ways. -/
namespace K63
open PySem PySem.Spec PyProof.Rows L2 G Pm Tm
def keyN (n : List Nat) : L2.Key := .inr (mkS n)
theorem keyN_inj {m n : List Nat} (h : keyN m = keyN n) : m = n := by
  injection h with h
  exact mkS_inj h
theorem hasK_names (ns : List (List Nat)) (n : List Nat) : hasK (ns.map keyN) (keyN n) = decide (n ∈ ns) := by
  rw [Bool.eq_iff_iff, hasK_iff, decide_eq_true_iff]
  constructor
  · intro h
    obtain ⟨m, hm, e⟩ := List.mem_map.mp h
    exact keyN_inj e ▸ hm
  · exact fun h => List.mem_map_of_mem h
theorem nodup_take {ns : List (List Nat)} (hu : ns.Nodup) {n : Nat} (h : n < ns.length) : ns[n] ∉ ns.take n := by
  intro z
  have e : ns = ns.take n ++ ns[n] :: ns.drop (n + 1) := by rw [← List.drop_eq_getElem_cons h, List.take_append_drop]
  rw [e] at hu
  have := (List.nodup_append.mp hu).2.2 _ z _ List.mem_cons_self
  exact this rfl
theorem dcAcc_names {ns : List (List Nat)} (hu : ns.Nodup) : ∀ n, n ≤ ns.length → dcAcc (fun i => (ns[i]?).map fun m => (keyN m, D.int (i : Int))) n = ((ns.take n).map keyN, (List.range n).map nD)
  | 0, _ => by simp [dcAcc]
  | n + 1, h => by
    have hn : n < ns.length := h
    rw [dcAcc, dcAcc_names hu n (by omega), List.getElem?_eq_getElem hn]
    dsimp only [Option.map_some]
    have hk : hasK ((ns.take n).map keyN) (keyN ns[n]) = false := by
      rw [hasK_names, decide_eq_false (nodup_take hu hn)]
    unfold putKs putDs
    rw [hk, if_neg (by decide), if_neg (by decide), List.take_add_one, List.getElem?_eq_getElem hn, List.range_succ, List.map_append, List.map_append]
    rfl
theorem atK_names : ∀ (ns : List (List Nat)) (k i : Nat) (n : List Nat), ns.Nodup → ns[i]? = some n → atK (ns.map keyN) ((List.range' k ns.length).map nD) (keyN n) = some (.int ((k + i : Nat) : Int))
  | [], k, i, n, _, h => by simp at h
  | m :: ns, k, i, n, hu, h => by
    rw [List.nodup_cons] at hu
    rw [List.length_cons, List.range'_succ, List.map_cons, List.map_cons]
    unfold atK
    rw [List.zip_cons_cons, List.find?_cons]
    cases i with
    | zero =>
      simp at h
      subst h
      simp [nD]
    | succ i =>
      have h' : ns[i]? = some n := by simpa using h
      have hne : ¬ keyN m = keyN n := fun z => hu.1 (keyN_inj z ▸ List.mem_of_getElem? h')
      have := atK_names ns (k + 1) i n hu.2 h'
      unfold atK at this
      simp only [hne, decide_false]
      rw [this]
      congr 2
      omega
theorem atK_names0 {ns : List (List Nat)} {i : Nat} {n : List Nat} (hu : ns.Nodup) (h : ns[i]? = some n) : atK (ns.map keyN) ((List.range ns.length).map nD) (keyN n) = some (.int (i : Int)) := by
  have := atK_names ns 0 i n hu h
  rw [List.range_eq_range', this]
  simp
theorem cutD_m1 {α : Type} (xs : List α) (a : α) : cutD (xs ++ [a]) none (some (-1)) = xs := by
  unfold G.cutD
  rw [HT.sIx_none, List.drop_zero, Nat.sub_zero]
  have : HT.sIx (xs ++ [a]).length (xs ++ [a]).length (some (-1)) = xs.length := by
    show (if (-1 : Int) < 0 then (-1 + ((xs ++ [a]).length : Int)).toNat else min (-1 : Int).toNat (xs ++ [a]).length) = _
    rw [if_pos (by decide), List.length_append]
    simp
    omega
  rw [this, List.take_append_of_le_length (Nat.le_refl _), List.take_length]
theorem wkMc {x x' : SD} {r r' : MEnv} (h : x' = .no ∨ x = x') (t : wkM r r') : wkM (x :: r) (x' :: r') := ⟨h, t⟩
theorem wkM0 : wkM [] [] := trivial
structure NC (K : PySem.W.Frag) (C : Addr) : Prop where
  cl : Cls K C
  sheet : NoAttr K C "sheet"
  paths : NoAttr K C "paths"
  numbers : NoAttr K C "numbers"
  count : NoAttr K C "count"
  places : NoAttr K C "places"
  deeds : NoAttr K C "deeds"
  goal : NoAttr K C "goal"
  ways : NoAttr K C "ways"
def goalD (rs : List Row) : D := nD ((pl rs).getLast?.getD 0)
/-- nodes, their ways not yet -/
def nd7 (C : Addr) (b c : Bool) (rs : List Row) : D := .ins C ["sheet", "paths", "numbers", "count", "places", "deeds", "goal"]
  [mk b (rs.map (Row.d c)), .tup (PD (PP rs)), .dct ((PP rs).map keyN) ((List.range (PP rs).length).map nD), nD (cnt rs), .tup ((pl rs).map nD), .lst ((ddIx rs).map nD), goalD rs]
def relNW (C : Addr) (ds : List D) (r : Res) : Prop := ∃ b c rs, ds = [nd7 C b c rs] ∧ ROk rs ∧ r = .rt (.lst ((waysOf rs).map D.lst))
section
variable {K : PySem.W.Frag} {W : WX} {δ : DEnv} {ρ : MEnv} {ta tb te ti tx : TE} {u : TS} {O : OutM → Prop}
theorem d_mkIx {b : Bool} {ds : List D} {i : Nat} {d : D} (h : DE K δ te (mk b ds)) (hi : DE K δ ti (nD i)) (hd : ds[i]? = some d) : DE K δ (tOp (rIx' K) te ti) d := by
  have hl := (List.getElem?_eq_some_iff.mp hd).1
  cases b
  · exact d_op h hi (o_ixt (j := i) (ixN_of rfl hl) hd)
  · exact d_op h hi (o_ixl (j := i) (ixN_of rfl hl) hd)
theorem d_row {b c : Bool} {rs : List Row} {i : Nat} {r : Row} (h : DE K δ te (mk b (rs.map (Row.d c)))) (hi : DE K δ ti (nD i)) (hr : rs[i]? = some r) : DE K δ (tOp (rIx' K) te ti) (r.d c) :=
  d_mkIx h hi (by rw [List.getElem?_map, hr]; rfl)
theorem d_lst {c : Bool} {ds : List D} {j : Nat} {d : D} (h : DE K δ te (mk c ds)) (hd : ds[j]? = some d) : DE K δ (tOp (rIx' K) te (tC (.int (j : Int)))) d := d_mkIx h d_int hd
/-! the rows of ways in the store -/
def wsS (ws : List (List D)) : Sto := ws.map (fun l => Ob.lst (l.map SD.dat)) ++ [.lst ((List.range ws.length).map SD.rf)]
theorem wsS_at {ws : List (List D)} {i : Nat} (hi : i < ws.length) : (wsS ws)[i]? = some (.lst ((ws.getD i []).map SD.dat)) := by
  unfold wsS
  rw [List.getElem?_append_left (by rw [List.length_map]; exact hi), List.getElem?_map, List.getElem?_eq_getElem hi, List.getD_eq_getElem?_getD, List.getElem?_eq_getElem hi]
  rfl
theorem wsS_top (ws : List (List D)) : (wsS ws)[ws.length]? = some (.lst ((List.range ws.length).map SD.rf)) := by
  unfold wsS
  rw [List.getElem?_append_right (by simp)]
  simp
theorem wsS_add {ws : List (List D)} {i : Nat} {x : D} (hi : i < ws.length) : (wsS ws).set i (.lst ((ws.getD i []).map SD.dat ++ [.dat x])) = wsS (addW ws i x) := by
  unfold wsS addW
  rw [List.set_append_left _ _ (by rw [List.length_map]; exact hi), List.map_set, List.length_set, List.map_append]
  rfl
theorem m_addW {ws : List (List D)} {i n : Nat} {x : D} (g : GoodW n 5000 ws) (hi : i < n) (hv : ρ[1]? = some (.rf n)) (h1 : DE K (fm false (wsS ws) ρ) ti (nD i)) (hx : DE K (fm false (wsS ws) ρ) tx x) (hn : n ≤ 2200)
    (q : WM K W ρ (wsS (addW ws i x)) u O) : WM K W ρ (wsS ws) (tSeq (tDrop (tBM K "list" rAppend (tOp (rIx' K) (tVar 1) ti) (tCons tx tNil))) u) O := by
  obtain ⟨rfl, g2, g3⟩ := g
  have hl : (ws.getD i []).length ≤ 5000 := by
    rw [List.getD_eq_getElem?_getD, List.getElem?_eq_getElem hi]
    exact g2 _ (List.getElem_mem hi)
  refine m_app (j := i) (x := .dat x) (zs := (ws.getD i []).map SD.dat) (S2 := wsS ws) (mx_ix false (j := ws.length) (m := (i : Int)) (k := i) (zs := (List.range ws.length).map SD.rf) (mx_var hv (fun z => by cases z)) h1 (wsS_top ws) (ixN_of rfl (by simpa using hi)) (by rw [List.getElem?_map, List.getElem?_range hi]; rfl)) ⟨_, wsS_at hi⟩ (mx_de false hx (fun z => nomatch z)) (wsS_at hi) (by rw [List.length_map]; omega) ?_
  rw [wsS_add hi]
  exact q
theorem res_ways {ws : List (List D)} : res (wsS ws) 4 (.rf ws.length) = some (.lst (ws.map D.lst)) := by
  refine res_lst (wsS_top ws) ?_
  have : ∀ n, n ≤ ws.length → alls (res (wsS ws) 3) ((List.range' n (ws.length - n)).map SD.rf) = some ((ws.drop n).map D.lst) := by
    intro n
    generalize hk : ws.length - n = k
    induction k generalizing n with
    | zero =>
      intro hn
      rw [show n = ws.length by omega, List.drop_length]
      rfl
    | succ k ih =>
      intro hn
      have hlt : n < ws.length := by omega
      rw [List.range'_succ, List.map_cons, List.drop_eq_getElem_cons hlt, List.map_cons]
      refine alls_cons ?_ (ih (n + 1) (by omega) (by omega))
      have := wsS_at hlt
      rw [List.getD_eq_getElem?_getD, List.getElem?_eq_getElem hlt] at this
      exact res_lst this alls_dats
  have h0 := this 0 (by omega)
  rw [List.drop_zero, Nat.sub_zero, ← List.range_eq_range'] at h0
  exact h0
theorem idx_at {P : List (List Nat)} {p : List Nat} (h : p ∈ P) : P[P.idxOf p]? = some p := by
  have := List.idxOf_lt_length_of_mem h
  rw [List.getElem?_eq_getElem this, List.getElem_idxOf]
theorem ways_wm {C : Addr} (hc : NC K C) (ds : List D) (r : Res) (h : relNW C ds r) (E : XK) : WM K (WF E) (ds.map SD.dat ++ List.replicate (8 - ds.length) SD.no) [] (t_node_ways K) (fun o => FitsDM2 o r) := by
  obtain ⟨b, c, rs, rfl, ok, rfl⟩ := h
  show WM K (WF E) [.dat (nd7 C b c rs), .no, .no, .no, .no, .no, .no, .no] _ _ _
  unfold t_node_ways
  have hcnt := cnt_le ok
  have hPl := PP_len ok
  have hcP : (PP rs).length ≤ cnt rs := by unfold cnt; omega
  have v0 : ∀ {S : Sto} {a b' c' d e f g : SD}, DE K (fm false S [.dat (nd7 C b c rs), a, b', c', d, e, f, g]) (tVar 0) (nd7 C b c rs) := d_var rfl
  -- ways
  have hw := mx_lcR (K := K) (ρ := [.dat (nd7 C b c rs), .no, .no, .no, .no, .no, .no, .no]) (S := []) (xs := rngD 0 (cnt rs)) (vs := [2]) (g := gName 2) (wi := iRng1 (tCons (tFld K (tVar 0) "count") tNil)) (te := tLst tNil)
    (it_rng1 (n := cnt rs) (m := (cnt rs : Int)) (d_acons (d_fld (d := nD (cnt rs)) v0 hc.cl hc.count rfl) d_anil) (by omega) (by omega)) (fun i => List.replicate i (.lst [])) rfl (fun i => .rf i) (fun i => [(2, ((rngD 0 (cnt rs))[i]?).getD .non)]) (fun i d hd => ⟨by rw [hd]; exact g_name', fun p hp => by rw [List.mem_singleton.mp hp]; exact List.mem_singleton.mpr rfl⟩)
    (fun i d hd => by
      have := mx_lst (K := K) (ρ := setsM (wipeM [.dat (nd7 C b c rs), .no, .no, .no, .no, .no, .no, .no] [2]) [(2, ((rngD 0 (cnt rs))[i]?).getD .non)]) (S := List.replicate i (.lst [])) ma_nil (by simp)
      rw [List.length_replicate] at this
      rw [List.replicate_succ']
      exact this) (by rw [rngD_len]; omega)
  rw [rngD_len] at hw
  apply m_asg hw
  have hS : (List.replicate (cnt rs) (Ob.lst []) ++ [.lst ((List.range (cnt rs)).map fun i => SD.rf i)] : Sto) = wsS (List.replicate (cnt rs) []) := by
    unfold wsS
    rw [List.map_replicate, List.length_replicate]
    rfl
  rw [List.length_replicate, hS]
  show WM K (WF E) [.dat (nd7 C b c rs), .rf (cnt rs), .no, .no, .no, .no, .no, .no] (wsS (wP (PP rs) (List.replicate (cnt rs) []) 0)) _ _
  -- the paths
  refine m_forP (it_enum (ds := PD (PP rs)) (x := .tup (PD (PP rs))) (d_acons (d_fld v0 hc.cl hc.paths rfl) d_anil) (.inr rfl)) (fun i ρ S => ρ = [.dat (nd7 C b c rs), .rf (cnt rs), .no, .no, .no, .no, .no, .no] ∧ S = wsS (wP (PP rs) (List.replicate (cnt rs) []) i)) _ (wkM.refl _) ⟨rfl, rfl⟩ ?_ ?_
  · rintro i x ρ S hx ⟨rfl, rfl⟩
    obtain ⟨y, hy, rfl⟩ := enumD_val hx
    unfold PD at hy
    rw [List.getElem?_map] at hy
    cases hp : (PP rs)[i]? with
    | none => rw [hp] at hy; cases hy
    | some p =>
      rw [hp] at hy
      cases hy
      have hi := (List.getElem?_eq_some_iff.mp hp).1
      have hmem := List.mem_of_getElem? hp
      refine ⟨_, g_tup (g_cons g_name' (g_cons g_name' g_nil)) rfl, ?_⟩
      have gw := wP_good (P := PP rs) (m := cnt rs) i
      have estep : wP (PP rs) (List.replicate (cnt rs) []) (i + 1) = stepP (PP rs) (wP (PP rs) (List.replicate (cnt rs) []) i) i p := by
        rw [wP, hp]
      generalize wP (PP rs) (List.replicate (cnt rs) []) i = ws at *
      have gw2 : GoodW (cnt rs) 4990 ws := gw.up (by omega)
      apply m_last
      have v3 : ∀ {S : Sto} {a e f g : SD}, DE K (fm false S [.dat (nd7 C b c rs), .rf (cnt rs), a, .dat (sD p), e, f, g, .no]) (tVar 3) (sD p) := d_var rfl
      have v2 : ∀ {S : Sto} {a e f g : SD}, DE K (fm false S [.dat (nd7 C b c rs), .rf (cnt rs), .dat (nD i), a, e, f, g, .no]) (tVar 2) (nD i) := d_var rfl
      refine m_if (S1 := wsS ws) (b := !decide (p = [])) (mt_dt false (dt_test (d_neL (z := []) v3 rfl))) (fun hb => ?_) (fun hb => ?_)
      · have hne : p ≠ [] := by simpa using hb
        obtain ⟨q, a, rfl⟩ : ∃ q a, p = q ++ [a] := ⟨p.dropLast, p.getLast hne, (List.dropLast_concat_getLast hne).symm⟩
        have hq : q ∈ PP rs := PP_down hmem (List.prefix_append q [a])
        have hqi := List.idxOf_lt_length_of_mem hq
        have hql := PP_pl ok hmem
        have e2 : stepP (PP rs) ws i (q ++ [a]) = addW (addW ws i (mvD sStep a ((PP rs).idxOf q))) ((PP rs).idxOf q) (mvD sBack a i) := by
          unfold stepP
          simp
        rw [e2] at estep
        have last : ∀ {S : Sto} {a' e f g : SD}, DE K (fm false S [.dat (nd7 C b c rs), .rf (cnt rs), a', .dat (sD (q ++ [a])), e, f, g, .no]) (tOp (rIx' K) (tVar 3) (tUn rNeg' (tC (.int 1)))) (sD [a]) := fun {S a' e f g} =>
          d_op v3 (d_neg d_int) (o_ixs (by rw [mkS_len, sizeLine_eq]; omega) (by
            rw [mkS_cps]
            unfold L2.atI
            have : ixN (q ++ [a]).length (-1) = some q.length := by
              unfold ixN
              rw [if_neg (by decide), if_pos (by simp; omega)]
              simp
              omega
            rw [this]
            simp))
        apply m_assoc
        have hkey : ∀ {S : Sto} {a' e f g : SD}, DE K (fm false S [.dat (nd7 C b c rs), .rf (cnt rs), a', .dat (sD (q ++ [a])), e, f, g, .no]) (tSl (rSl' K) (tVar 3) tNoPart (tPart (tUn rNeg' (tC (.int 1))))) (kD (keyN q)) := fun {S a' e f g} =>
          de_is (d_cut v3 d_noPart (d_part (d_neg d_int)) (by omega)) (by rw [cutD_m1]; rfl)
        apply m_asg (mx_de false (d := nD ((PP rs).idxOf q)) (d_op (d_fld v0 hc.cl hc.numbers rfl) hkey (o_ixd (atK_names0 (PP_nodup rs) (idx_at hq)))) (fun z => nomatch z))
        apply m_assoc
        refine m_addW (gw.up (by omega)) (i := i) (n := cnt rs) (x := mvD sStep a ((PP rs).idxOf q)) (by omega) rfl v2 (d_tup (d_acons (d_tup (d_acons (d_lit rfl) (d_acons last d_anil)) (by simp)) (d_acons (d_tup (d_acons (d_var rfl) d_anil) (by simp)) d_anil)) (by simp)) hcnt ?_
        refine m_addW ((gw.add (i := i) (x := mvD sStep a ((PP rs).idxOf q)) rfl).up (by omega)) (i := (PP rs).idxOf q) (n := cnt rs) (x := mvD sBack a i) (by omega) rfl (d_var rfl) (d_tup (d_acons (d_tup (d_acons (d_lit rfl) (d_acons last d_anil)) (by simp)) (d_acons (d_tup (d_acons v2 d_anil) (by simp)) d_anil)) (by simp)) hcnt ?_
        apply m_nx
        refine ⟨[.dat (nd7 C b c rs), .rf (cnt rs), .no, .no, .no, .no, .no, .no], ?_, rfl, by rw [estep]⟩
        exact wkMc (.inr rfl) (wkMc (.inr rfl) (wkMc (.inl rfl) (wkMc (.inl rfl) (wkMc (.inl rfl) (wkMc (.inr rfl) (wkMc (.inr rfl) (wkMc (.inr rfl) wkM0)))))))
      · have he : p = [] := by simpa using hb
        subst he
        have e2 : stepP (PP rs) ws i [] = ws := rfl
        rw [e2] at estep
        apply m_next
        apply m_nx
        refine ⟨[.dat (nd7 C b c rs), .rf (cnt rs), .no, .no, .no, .no, .no, .no], ?_, rfl, by rw [estep]⟩
        exact wkMc (.inr rfl) (wkMc (.inr rfl) (wkMc (.inl rfl) (wkMc (.inl rfl) (wkMc (.inr rfl) (wkMc (.inr rfl) (wkMc (.inr rfl) (wkMc (.inr rfl) wkM0)))))))
  · rintro ρ S ⟨rfl, rfl⟩
    rw [enumD_len, show (PD (PP rs)).length = (PP rs).length by unfold PD; rw [List.length_map]]
    have gw0 := wP_good (P := PP rs) (m := cnt rs) (PP rs).length
    have gwi : ∀ i, GoodW (cnt rs) (2 * (PP rs).length + ((ddIx rs).take i).length) (((ddIx rs).take i).foldl (stepDd rs) (wP (PP rs) (List.replicate (cnt rs) []) (PP rs).length)) := fun i => foldDd_good _ gw0
    have hdl := ddIx_len rs
    have hrl := ok.n
    -- the deeds
    refine m_forP (it_lst (ds := (ddIx rs).map nD) (d_fld v0 hc.cl hc.deeds rfl)) (fun i ρ S => ρ = [.dat (nd7 C b c rs), .rf (cnt rs), .no, .no, .no, .no, .no, .no] ∧ S = wsS (((ddIx rs).take i).foldl (stepDd rs) (wP (PP rs) (List.replicate (cnt rs) []) (PP rs).length))) _ (wkM.refl _) ⟨rfl, rfl⟩ ?_ ?_
    · rintro i x ρ S hx ⟨rfl, rfl⟩
      rw [List.getElem?_map] at hx
      cases ha : (ddIx rs)[i]? with
      | none => rw [ha] at hx; cases hx
      | some a =>
        rw [ha] at hx
        cases hx
        obtain ⟨n, ps, hr⟩ := ddIx_mem (List.mem_of_getElem? ha)
        have hal := (List.getElem?_eq_some_iff.mp hr).1
        obtain ⟨hpn, hpl⟩ := ok.d n ps (List.mem_of_getElem? hr)
        have gw := gwi i
        have htl : ((ddIx rs).take i).length ≤ 20 := by rw [List.length_take]; omega
        have estep : ((ddIx rs).take (i + 1)).foldl (stepDd rs) (wP (PP rs) (List.replicate (cnt rs) []) (PP rs).length) = stepDd rs (((ddIx rs).take i).foldl (stepDd rs) (wP (PP rs) (List.replicate (cnt rs) []) (PP rs).length)) a := by
          rw [List.take_add_one, ha, List.foldl_append]
          rfl
        generalize ((ddIx rs).take i).foldl (stepDd rs) (wP (PP rs) (List.replicate (cnt rs) []) (PP rs).length) = ws at *
        have e2 : stepDd rs ws a = addW ws ((pl rs).getD a 0) (wayD n (ps.map fun j => (pl rs).getD j 0)) := by
          unfold stepDd
          rw [hr]
        rw [e2] at estep
        have plg : ∀ j, j < rs.length → (pl rs)[j]? = some ((pl rs).getD j 0) ∧ (pl rs).getD j 0 < cnt rs := fun j hj => by
          have : j < (pl rs).length := by rw [pl_len]; exact hj
          rw [List.getD_eq_getElem?_getD, List.getElem?_eq_getElem this]
          exact ⟨rfl, pl_lt (List.getElem_mem this)⟩
        refine ⟨_, g_name', ?_⟩
        apply m_asg (mx_de false (d := (Row.dd n ps).d c) (d_row (d_fld v0 hc.cl hc.sheet rfl) (d_var rfl) hr) (fun z => nomatch z))
        apply m_last
        have v6 : ∀ {S : Sto} {a' e' f g h : SD}, DE K (fm false S [.dat (nd7 C b c rs), .rf (cnt rs), a', e', f, g, .dat ((Row.dd n ps).d c), h]) (tVar 6) ((Row.dd n ps).d c) := d_var rfl
        have pls : ∀ {δ : DEnv} {t : TE} {j : Nat}, DE K δ (tVar 0) (nd7 C b c rs) → DE K δ t (nD j) → j < rs.length → DE K δ (tOp (rIx' K) (tFld K (tVar 0) "places") t) (nD ((pl rs).getD j 0)) := fun {δ t j} h0 h1 hj =>
          d_op (d_fld (d := .tup ((pl rs).map nD)) h0 hc.cl hc.places rfl) h1 (o_ixt (j := j) (ixN_of rfl (by rw [List.length_map, pl_len]; exact hj)) (by rw [List.getElem?_map, (plg j hj).1]; rfl))
        refine m_addW (gw.up (by omega)) (i := (pl rs).getD a 0) (n := cnt rs) (x := wayD n (ps.map fun j => (pl rs).getD j 0)) (plg a hal).2 rfl (pls v0 (d_var rfl) hal) (d_tup (d_acons (d_tup (d_acons (d_lit rfl) (d_acons (d_lst (j := 1) v6 rfl) d_anil)) (by simp)) (d_acons (d_cb (d_acons (DL.de (dl_is (dl_mapLG (l := ps) (g := nD) (f := fun j => nD ((pl rs).getD j 0)) (it_tup (d_lst (j := 2) v6 rfl)) (fun j hj => pls (d_var rfl) (d_var rfl) (hpl j hj)) (by omega)) (by rw [List.map_map]; rfl))) d_anil) c_tupL) d_anil)) (by simp)) hcnt ?_
        apply m_nx
        refine ⟨[.dat (nd7 C b c rs), .rf (cnt rs), .no, .no, .no, .no, .no, .no], ?_, rfl, by rw [estep]⟩
        exact wkMc (.inr rfl) (wkMc (.inr rfl) (wkMc (.inr rfl) (wkMc (.inr rfl) (wkMc (.inr rfl) (wkMc (.inl rfl) (wkMc (.inl rfl) (wkMc (.inr rfl) wkM0)))))))
    · rintro ρ S ⟨rfl, rfl⟩
      rw [List.length_map, List.take_length]
      have g := ways_good ok
      apply m_last
      apply m_ret (mx_var (x := .rf (cnt rs)) rfl (fun z => by cases z))
      show res (wsS (waysOf rs)) 4 (.rf (cnt rs)) = _
      rw [← g.1]
      exact res_ways
end
end K63

set_option Elab.async false
set_option linter.all false
set_option maxRecDepth 100000
set_option maxHeartbeats 4000000
/-! Q63: Nodes, node_count. -/
namespace K63
open PySem PySem.Spec PyProof.Rows L2 G Pm Tm
def nd8 (C : Addr) (b c : Bool) (rs : List Row) : D := .ins C ["sheet", "paths", "numbers", "count", "places", "deeds", "goal", "ways"]
  [mk b (rs.map (Row.d c)), .tup (PD (PP rs)), .dct ((PP rs).map keyN) ((List.range (PP rs).length).map nD), nD (cnt rs), .tup ((pl rs).map nD), .lst ((ddIx rs).map nD), goalD rs, .lst ((waysOf rs).map D.lst)]
def badD (z : Int) : D := .tup [.tup [sD sThing, .int z], .tup [sD sDeed, sD [101], .tup [.int 0]]]
def relNI (C CB : Addr) (ds : List D) (r : Res) : Prop := (∃ b c rs, ds = [mk b (rs.map (Row.d c))] ∧ ROk rs ∧ r = .rt (nd8 C b c rs)) ∨ (∃ z, ds = [badD z] ∧ r = .ex (.ref CB) [])
section
variable {K : PySem.W.Frag} {W : WX} {δ : DEnv} {ρ : MEnv} {S : Sto} {ta tb te ti tx : TE} {u : TS} {O : OutM → Prop}
theorem m_raise0 {C : Addr} (q : O (.ex ρ S (.ref C) [])) : WM K W ρ S (tSeq (tRaise W (tMk0 C)) u) O := m_done (o := .ex ρ S (.ref C) []) (fun B H σ E ⟨R, al, e⟩ k => k σ H R al none e rfl) rfl q
theorem it_mk {b : Bool} {ds : List D} (h : DE K δ te (mk b ds)) : DI K δ (iAny K te) ds := by
  cases b
  · exact it_tup h
  · exact it_lst h
theorem mkX {b : Bool} {ds : List D} : mk b ds = .lst ds ∨ mk b ds = .tup ds := by
  cases b
  · exact .inr rfl
  · exact .inl rfl
theorem dt_w {c : Bool} {r : Row} {y : Str} {z : List Nat} {b : Bool} (h : DE K δ te (r.d c)) (hz : y.cps.toList = z) (hb : decide ((match r with | .th _ => sThing | .dd _ _ => sDeed) = z) = b) : DT K δ (tTest (tOp (rEq' K) (tOp (rIx' K) te (tC (.int 0))) (tC (.str y)))) b := by
  cases r with
  | th p => exact dt_is (dt_test (d_eqL (l := sThing) (d_lst (c := c) (ds := [sD sThing, sD p]) (j := 0) h rfl) hz)) hb
  | dd n ps => exact dt_is (dt_test (d_eqL (l := sDeed) (d_lst (c := c) (ds := [sD sDeed, sD n, .tup (ps.map nD)]) (j := 0) h rfl) hz)) hb
theorem PD_fm (rs : List Row) : rs.filterMap (fun r => (thP r).map sD) = PD (things rs) := by
  unfold things PD
  rw [List.map_filterMap]
theorem ddIx_fm (rs : List Row) : (List.range rs.length).filterMap (fun i => (rs[i]?).bind fun r => if isDd r then some (nD i) else none) = (ddIx rs).map nD := by
  unfold ddIx
  rw [List.map_filterMap]
  refine congrArg (fun f => (List.range rs.length).filterMap f) (funext fun i => ?_)
  unfold ddAt
  cases rs[i]? with
  | none => rfl
  | some r => cases r <;> rfl
theorem init_wm {C : Addr} (hc : NC K C) (ds : List D) (r : Res) (h : relNI C (He.ga K "BadSheet") ds r) (E : XK) :
    WM K (WF E) (.rf 0 :: (ds.map SD.dat ++ List.replicate (8 - (ds.length + 1)) SD.no)) [.ins C [] []] (t_Nodes_init K (spD K relClosed) (spD K (relNW C)) E) (fun o => FitsIM C o r) := by
  unfold t_Nodes_init
  rcases h with ⟨b, c, rs, rfl, ok, rfl⟩ | ⟨z, rfl, rfl⟩
  · show WM K (WF E) [.rf 0, .dat (mk b (rs.map (Row.d c))), .no, .no, .no, .no, .no, .no] [.ins C [] []] _ _
    have hrn := ok.n
    have htl := things_len rs
    have hPl := PP_len ok
    have v1 : ∀ {l : Bool} {S : Sto} {a x0 b' d e f g : SD}, DE K (fm l S [a, .dat (mk b (rs.map (Row.d c))), x0, b', d, e, f, g]) (tVar 1) (mk b (rs.map (Row.d c))) := fun {l} => by
      cases l <;> exact d_var rfl
    have var : ∀ {S : Sto} {a x0 b' d e f g : SD}, MX K [.rf 0, a, x0, b', d, e, f, g] S (tVar 0) (.rf 0) S := mx_var rfl (fun z => by cases z)
    -- things
    apply m_asg (mx_dl false (ds := PD (things rs)) (dl_is (dl_mapG (l := rs) (g := Row.d c) (it_mk v1) (fun r => (thP r).map sD) (fun r hr => ?_) (by omega)) (PD_fm rs)) (fun z => nomatch z))
    rotate_left
    · have hv : DE K (setsD (wipeD (fm false [.ins C [] []] [.rf 0, .dat (mk b (rs.map (Row.d c))), .no, .no, .no, .no, .no, .no]) [4]) [(4, r.d c)]) (tVar 4) (r.d c) := d_var rfl
      cases r with
      | th p => exact ⟨dt_w hv rfl rfl, fun y hy => by cases hy; exact d_lst (c := c) (ds := [sD sThing, sD p]) (j := 1) hv rfl⟩
      | dd n ps => exact ⟨dt_w hv rfl rfl, fun y hy => by cases hy⟩
    refine m_frz 2 (j := 1) (ds := PD (things rs)) rfl rfl rfl (by simp) ?_
    show WM K (WF E) [.rf 0, .dat (mk b (rs.map (Row.d c))), .dat (.lst (PD (things rs))), .no, .no, .no, .no, .no] [.ins C [] [], .gone] _ _
    refine m_ifF (mt_dt false (dt_not (b := true) (dt_is (dt_tru (d_allL (it_lst (ds := PD (things rs)) (d_var rfl)) (fun _ => true) (fun d hd => by
      obtain ⟨p, _, rfl⟩ := List.mem_map.mp hd
      exact d_cb (d_acons (d_var (d := sD p) rfl) (d_acons d_val d_anil)) (c_isi1 (b := true) rfl rfl)) (by unfold PD; rw [List.length_map]; omega)) trivial) (by show List.all _ _ = true; simp)))) ?_
    apply m_next
    -- sheet, paths
    refine m_fld (mx_var (x := .dat (mk b (rs.map (Row.d c)))) rfl (fun z => by cases z)) var rfl hc.cl hc.sheet (by show (0 : Nat) < 900; decide) ?_
    refine m_fld (mx_de false (d := .tup (PD (PP rs))) (d_call (d_acons (DL.de (dl_catD (ds := PD [[]]) (es := PD (things rs)) (DL.de (dl_lst (d_acons (d_lit rfl) d_anil) (by simp))) (d_var rfl) (by unfold PD; rw [List.length_map, List.length_map]; simp; omega))) d_anil) (show relClosed _ _ from ⟨_, [] :: things rs, rfl, .inl (by unfold PD; rfl), by simp; omega, fun p hp => by have := ok.tl p hp; omega, rfl⟩)) (fun z => nomatch z)) var rfl hc.cl hc.paths (by show (1 : Nat) < 900; decide) ?_
    show WM K (WF E) [.rf 0, .dat (mk b (rs.map (Row.d c))), .dat (.lst (PD (things rs))), .no, .no, .no, .no, .no] [.ins C ["sheet", "paths"] ([mk b (rs.map (Row.d c)), .tup (PD (PP rs))].map SD.dat), .gone] _ _
    have hPD : (PD (PP rs)).length = (PP rs).length := by unfold PD; rw [List.length_map]
    -- numbers
    have s2 : ∀ {a x0 b' d e f g : SD}, DE K (fm true [.ins C ["sheet", "paths"] ([mk b (rs.map (Row.d c)), .tup (PD (PP rs))].map SD.dat), .gone] [.rf 0, a, x0, b', d, e, f, g]) (tFld K (tVar 0) "paths") (.tup (PD (PP rs))) := fun {a x0 b' d e f g} =>
      d_fld (C := C) (ns := ["sheet", "paths"]) (d_var (d := .ins C ["sheet", "paths"] [mk b (rs.map (Row.d c)), .tup (PD (PP rs))]) (by
        show some (res _ 4 (.rf 0)) = _
        rw [res_ins (C := C) (ns := ["sheet", "paths"]) (zs := [mk b (rs.map (Row.d c)), .tup (PD (PP rs))].map SD.dat) rfl alls_dats])) hc.cl hc.paths rfl
    refine m_fld (mx_deI true false true (d := .dct ((PP rs).map keyN) ((List.range (PP rs).length).map nD)) ?_ rfl ?_) var rfl hc.cl hc.numbers (by show (2 : Nat) < 900; decide) ?_
    · refine DNw.de (dn_dc (it_enum (ds := PD (PP rs)) (x := .tup (PD (PP rs))) (d_acons s2 d_anil) (.inr rfl)) (fun i => ((PP rs)[i]?).map fun m => (keyN m, D.int (i : Int))) (fun i => [(5, .int (i : Int)), (6, ((PD (PP rs))[i]?).getD .non)]) (fun i x hx => ?_) (fun i x hx => ?_) (by rw [enumD_len, hPD]; omega) ?_)
      · obtain ⟨y, hy, rfl⟩ := enumD_val hx
        rw [hy]
        exact ⟨g_tup (g_cons g_name' (g_cons g_name' g_nil)) rfl, fun p hp => by
          rcases List.mem_cons.mp hp with rfl | hp
          · simp
          · rw [List.mem_singleton.mp hp]; simp⟩
      · obtain ⟨y, hy, rfl⟩ := enumD_val hx
        rw [hy]
        unfold PD at hy
        rw [List.getElem?_map] at hy
        cases hm : (PP rs)[i]? with
        | none => rw [hm] at hy; cases hy
        | some m =>
          rw [hm] at hy
          cases hy
          refine ⟨dt_yes, fun k z hz => ?_⟩
          cases hz
          exact ⟨d_var rfl, d_var rfl⟩
      · have := dcAcc_names (ns := PP rs) (PP_nodup rs) (PP rs).length (Nat.le_refl _)
        rw [List.take_length] at this
        rw [enumD_len, hPD, this]
    · show (true && D.solIL false true _) = true
      rw [Bool.true_and]
      have : ∀ l : List Nat, D.solIL false true (l.map nD) = true := by
        intro l
        induction l with
        | nil => rfl
        | cons x l ih => rw [List.map_cons, D.solIL, ih]; rfl
      exact this _
    show WM K (WF E) [.rf 0, .dat (mk b (rs.map (Row.d c))), .dat (.lst (PD (things rs))), .no, .no, .no, .no, .no] [.ins C ["sheet", "paths", "numbers"] ([mk b (rs.map (Row.d c)), .tup (PD (PP rs)), .dct ((PP rs).map keyN) ((List.range (PP rs).length).map nD)].map SD.dat), .gone] _ _
    -- count
    refine m_fld (mx_de true (d := nD (PP rs).length) (de_is (d_cb (d_acons (d_fld (C := C) (d := .tup (PD (PP rs))) (ns := ["sheet", "paths", "numbers"]) (d_var (d := .ins C ["sheet", "paths", "numbers"] [mk b (rs.map (Row.d c)), .tup (PD (PP rs)), .dct ((PP rs).map keyN) ((List.range (PP rs).length).map nD)]) (by
        show some (res _ 4 (.rf 0)) = _
        rw [res_ins (C := C) (ns := ["sheet", "paths", "numbers"]) (zs := [mk b (rs.map (Row.d c)), .tup (PD (PP rs)), .dct ((PP rs).map keyN) ((List.range (PP rs).length).map nD)].map SD.dat) rfl alls_dats])) hc.cl hc.paths rfl) d_anil) c_lent) (by rw [hPD]; rfl)) (fun _ => rfl)) var rfl hc.cl hc.count (by show (3 : Nat) < 900; decide) ?_
    apply m_asg (mx_lst ma_nil (by simp))
    show WM K (WF E) [.rf 0, .dat (mk b (rs.map (Row.d c))), .dat (.lst (PD (things rs))), .rf 2, .no, .no, .no, .no] [.ins C ["sheet", "paths", "numbers", "count"] ([mk b (rs.map (Row.d c)), .tup (PD (PP rs)), .dct ((PP rs).map keyN) ((List.range (PP rs).length).map nD), nD (PP rs).length].map SD.dat), .gone, .lst []] _ _
    -- the places
    refine m_forP (it_mk (ds := rs.map (Row.d c)) v1) (fun i ρ S => ρ = [.rf 0, .dat (mk b (rs.map (Row.d c))), .no, .rf 2, .no, .no, .no, .no] ∧ S = [.ins C ["sheet", "paths", "numbers", "count"] ([mk b (rs.map (Row.d c)), .tup (PD (PP rs)), .dct ((PP rs).map keyN) ((List.range (PP rs).length).map nD), nD ((PP rs).length + nds (rs.take i))].map SD.dat), .gone, .lst (((plcs (PP rs) (PP rs).length (rs.take i)).map nD).map SD.dat)]) _ (wkMc (.inr rfl) (wkMc (.inr rfl) (wkMc (.inl rfl) (wkMc (.inr rfl) (wkMc (.inr rfl) (wkMc (.inr rfl) (wkMc (.inr rfl) (wkMc (.inr rfl) wkM0)))))))) ⟨rfl, by simp [nds, plcs]⟩ ?_ ?_
    · rintro i d ρ S hd ⟨rfl, rfl⟩
      rw [List.getElem?_map] at hd
      cases hr : rs[i]? with
      | none => rw [hr] at hd; cases hd
      | some r =>
        rw [hr] at hd
        cases hd
        have hil := (List.getElem?_eq_some_iff.mp hr).1
        have hmem := List.mem_of_getElem? hr
        have hnd := nds_le (rs.take i)
        rw [List.length_take] at hnd
        have hpl : (plcs (PP rs) (PP rs).length (rs.take i)).length ≤ 20 := by rw [plcs_len, List.length_take]; omega
        refine ⟨_, g_name', ?_⟩
        apply m_last
        have v4 : ∀ {l : Bool} {S : Sto} {a x0 b' d' e f g : SD}, DE K (fm l S [a, x0, b', d', .dat (r.d c), e, f, g]) (tVar 4) (r.d c) := fun {l} => by
          cases l <;> exact d_var rfl
        have slf : ∀ {zs : List Ob} {k : Nat} {a x0 b' d' e f g : SD}, DE K (fm true (.ins C ["sheet", "paths", "numbers", "count"] ([mk b (rs.map (Row.d c)), .tup (PD (PP rs)), .dct ((PP rs).map keyN) ((List.range (PP rs).length).map nD), nD k].map SD.dat) :: zs) [.rf 0, a, x0, b', d', e, f, g]) (tVar 0) (.ins C ["sheet", "paths", "numbers", "count"] [mk b (rs.map (Row.d c)), .tup (PD (PP rs)), .dct ((PP rs).map keyN) ((List.range (PP rs).length).map nD), nD k]) := fun {zs k a x0 b' d' e f g} =>
          d_var (by
            show some (res _ 4 (.rf 0)) = _
            rw [res_ins (C := C) (ns := ["sheet", "paths", "numbers", "count"]) (zs := [mk b (rs.map (Row.d c)), .tup (PD (PP rs)), .dct ((PP rs).map keyN) ((List.range (PP rs).length).map nD), nD k].map SD.dat) rfl alls_dats])
        have tk : rs.take (i + 1) = rs.take i ++ [r] := by rw [List.take_add_one, hr]; rfl
        cases r with
        | th p =>
          apply m_ifT (mt_dt false (dt_w v4 rfl rfl))
          apply m_app (j := 2) (x := .dat (nD ((PP rs).idxOf p))) (zs := ((plcs (PP rs) (PP rs).length (rs.take i)).map nD).map SD.dat) (mx_var rfl (fun z => by cases z)) ⟨_, rfl⟩ (mx_de true (d_op (d_fld slf hc.cl hc.numbers rfl) (d_lst (c := c) (ds := [sD sThing, sD p]) (j := 1) v4 rfl) (o_ixd (k := keyN p) (atK_names0 (PP_nodup rs) (idx_at (PP_th hmem))))) (fun _ => rfl)) rfl (by simp; omega)
          apply m_nx
          refine ⟨[.rf 0, .dat (mk b (rs.map (Row.d c))), .no, .rf 2, .no, .no, .no, .no], wkMc (.inr rfl) (wkMc (.inr rfl) (wkMc (.inr rfl) (wkMc (.inr rfl) (wkMc (.inl rfl) (wkMc (.inr rfl) (wkMc (.inr rfl) (wkMc (.inr rfl) wkM0))))))), rfl, ?_⟩
          rw [tk, plcs_snoc, nds_snoc, List.map_append, List.map_append]
          rfl
        | dd n ps =>
          apply m_ifF (mt_dt false (dt_w v4 rfl rfl))
          apply m_assoc
          apply m_app (j := 2) (x := .dat (nD ((PP rs).length + nds (rs.take i)))) (zs := ((plcs (PP rs) (PP rs).length (rs.take i)).map nD).map SD.dat) (mx_var rfl (fun z => by cases z)) ⟨_, rfl⟩ (mx_de true (d_fld slf hc.cl hc.count rfl) (fun _ => rfl)) rfl (by simp; omega)
          refine m_fld (mx_de true (d := nD ((PP rs).length + nds (rs.take i) + 1)) (de_is (d_op (d_fld slf hc.cl hc.count rfl) d_int o_addi) rfl) (fun _ => rfl)) var rfl hc.cl hc.count (by show (4 : Nat) < 900; decide) ?_
          apply m_nx
          refine ⟨[.rf 0, .dat (mk b (rs.map (Row.d c))), .no, .rf 2, .no, .no, .no, .no], wkMc (.inr rfl) (wkMc (.inr rfl) (wkMc (.inr rfl) (wkMc (.inr rfl) (wkMc (.inl rfl) (wkMc (.inr rfl) (wkMc (.inr rfl) (wkMc (.inr rfl) wkM0))))))), rfl, ?_⟩
          rw [tk, plcs_snoc, nds_snoc, List.map_append, List.map_append]
          rfl
    · rintro ρ S ⟨rfl, rfl⟩
      rw [List.length_map, List.take_length]
      have hcn : (PP rs).length + nds rs = cnt rs := rfl
      have hpc : plcs (PP rs) (PP rs).length rs = pl rs := rfl
      rw [hcn, hpc]
      refine m_frz 3 (j := 2) (ds := (pl rs).map nD) rfl rfl rfl (by simp) ?_
      show WM K (WF E) [.rf 0, .dat (mk b (rs.map (Row.d c))), .no, .dat (.lst ((pl rs).map nD)), .no, .no, .no, .no] [.ins C ["sheet", "paths", "numbers", "count"] ([mk b (rs.map (Row.d c)), .tup (PD (PP rs)), .dct ((PP rs).map keyN) ((List.range (PP rs).length).map nD), nD (cnt rs)].map SD.dat), .gone, .gone] _ _
      refine m_fld (mx_de false (d := .tup ((pl rs).map nD)) (d_cb (d_acons (d_var rfl) d_anil) c_tupL) (fun z => nomatch z)) var rfl hc.cl hc.places (by show (4 : Nat) < 900; decide) ?_
      -- deeds
      refine m_fld (mx_de false (d := .lst ((ddIx rs).map nD)) (DL.de (dl_is (dl_lc (it_enum (ds := rs.map (Row.d c)) (x := mk b (rs.map (Row.d c))) (d_acons v1 d_anil) mkX) (fun i => (rs[i]?).bind fun r => if isDd r then some (nD i) else none) (fun i => [(5, .int (i : Int)), (4, ((rs.map (Row.d c))[i]?).getD .non)]) (fun i x hx => ?_) (fun i x hx => ?_) (by rw [enumD_len, List.length_map]; omega) rfl) (by rw [enumD_len, List.length_map]; exact ddIx_fm rs))) (fun z => nomatch z)) var rfl hc.cl hc.deeds (by show (5 : Nat) < 900; decide) ?_
      · obtain ⟨y, hy, rfl⟩ := enumD_val hx
        rw [hy]
        exact ⟨g_tup (g_cons g_name' (g_cons g_name' g_nil)) rfl, fun p hp => by
          rcases List.mem_cons.mp hp with rfl | hp
          · simp
          · rw [List.mem_singleton.mp hp]; simp⟩
      · obtain ⟨y, hy, rfl⟩ := enumD_val hx
        rw [hy]
        rw [List.getElem?_map] at hy
        cases hm : rs[i]? with
        | none => rw [hm] at hy; cases hy
        | some r =>
          rw [hm] at hy
          cases hy
          cases r with
          | th p => exact ⟨dt_w (c := c) (r := .th p) (d_var rfl) rfl rfl, fun z hz => by cases hz⟩
          | dd n ps => exact ⟨dt_w (c := c) (r := .dd n ps) (d_var rfl) rfl rfl, fun z hz => by cases hz; exact d_var rfl⟩
      show WM K (WF E) [.rf 0, .dat (mk b (rs.map (Row.d c))), .no, .dat (.lst ((pl rs).map nD)), .no, .no, .no, .no] [.ins C ["sheet", "paths", "numbers", "count", "places", "deeds"] ([mk b (rs.map (Row.d c)), .tup (PD (PP rs)), .dct ((PP rs).map keyN) ((List.range (PP rs).length).map nD), nD (cnt rs), .tup ((pl rs).map nD), .lst ((ddIx rs).map nD)].map SD.dat), .gone, .gone] _ _
      -- goal
      have hpn : (pl rs).length = rs.length := pl_len rs
      obtain ⟨q, a, hqa⟩ : ∃ q a, pl rs = q ++ [a] := by
        have hne : pl rs ≠ [] := fun z => by
          have := ok.n1
          rw [← hpn, z] at this
          simp at this
        exact ⟨_, _, (List.dropLast_concat_getLast hne).symm⟩
      have hgoal : goalD rs = nD a := by
        unfold goalD
        rw [hqa]
        simp
      refine m_fld (mx_de true (d := goalD rs) (d_op (d_fld (C := C) (d := .tup ((pl rs).map nD)) (ns := ["sheet", "paths", "numbers", "count", "places", "deeds"]) (d_var (d := .ins C ["sheet", "paths", "numbers", "count", "places", "deeds"] [mk b (rs.map (Row.d c)), .tup (PD (PP rs)), .dct ((PP rs).map keyN) ((List.range (PP rs).length).map nD), nD (cnt rs), .tup ((pl rs).map nD), .lst ((ddIx rs).map nD)]) (by
        show some (res _ 4 (.rf 0)) = _
        rw [res_ins (C := C) (ns := ["sheet", "paths", "numbers", "count", "places", "deeds"]) (zs := [mk b (rs.map (Row.d c)), .tup (PD (PP rs)), .dct ((PP rs).map keyN) ((List.range (PP rs).length).map nD), nD (cnt rs), .tup ((pl rs).map nD), .lst ((ddIx rs).map nD)].map SD.dat) rfl alls_dats])) hc.cl hc.places rfl) (d_neg d_int) (o_ixt (j := q.length) (by
          rw [List.length_map, hqa]
          unfold ixN
          rw [if_neg (by decide), if_pos (by simp; omega)]
          simp
          omega) (by rw [hgoal, hqa, List.map_append, List.getElem?_append_right (by simp)]; simp))) (fun _ => rfl)) var rfl hc.cl hc.goal (by show (6 : Nat) < 900; decide) ?_
      show WM K (WF E) [.rf 0, .dat (mk b (rs.map (Row.d c))), .no, .dat (.lst ((pl rs).map nD)), .no, .no, .no, .no] [.ins C ["sheet", "paths", "numbers", "count", "places", "deeds", "goal"] ([mk b (rs.map (Row.d c)), .tup (PD (PP rs)), .dct ((PP rs).map keyN) ((List.range (PP rs).length).map nD), nD (cnt rs), .tup ((pl rs).map nD), .lst ((ddIx rs).map nD), goalD rs].map SD.dat), .gone, .gone] _ _
      apply m_last
      refine m_fld (mx_deQ true (d := .lst ((waysOf rs).map D.lst)) (d_call (d_acons (d_var (d := nd7 C b c rs) (by
        show some (res _ 4 (.rf 0)) = _
        rw [res_ins (C := C) (ns := ["sheet", "paths", "numbers", "count", "places", "deeds", "goal"]) (zs := [mk b (rs.map (Row.d c)), .tup (PD (PP rs)), .dct ((PP rs).map keyN) ((List.range (PP rs).length).map nD), nD (cnt rs), .tup ((pl rs).map nD), .lst ((ddIx rs).map nD), goalD rs].map SD.dat) rfl alls_dats]
        rfl)) d_anil) (show relNW C _ _ from ⟨b, c, rs, rfl, ok, rfl⟩)) rfl ?_) var rfl hc.cl hc.ways (by show (7 : Nat) < 900; decide) ?_
      · show D.solQL _ = true
        have : ∀ ws : List (List D), (∀ l ∈ ws, D.solQL l = true) → D.solQL (ws.map D.lst) = true := by
          intro ws hws
          induction ws with
          | nil => rfl
          | cons l ws ih =>
            rw [List.map_cons, D.solQL, ih fun l hl => hws l (List.mem_cons_of_mem _ hl), D.solQ, hws l List.mem_cons_self]
            rfl
        exact this _ (ways_good ok).2.2
      apply m_nx
      exact ⟨rfl, rfl⟩
  · show WM K (WF E) [.rf 0, .dat (badD z), .no, .no, .no, .no, .no, .no] [.ins C [] []] _ _
    apply m_asg (mx_dl false (ds := [.int z]) (dl_is (dl_mapG (l := [D.tup [sD sThing, .int z], .tup [sD sDeed, sD [101], .tup [.int 0]]]) (g := id) (it_tup (d_var (by rfl))) (fun d => match d with | .tup [_, x] => some x | _ => none) (fun d hd => ?_) (by simp)) rfl) (fun z => nomatch z))
    rotate_left
    · simp only [List.mem_cons, List.not_mem_nil, or_false] at hd
      rcases hd with rfl | rfl
      · exact ⟨dt_test (d_eqL (l := sThing) (d_op (d_var (d := .tup [sD sThing, .int z]) rfl) d_int (o_ixt (j := 0) rfl rfl)) rfl), fun y hy => by cases hy; exact d_op (d_var (d := .tup [sD sThing, .int z]) rfl) d_int (o_ixt (j := 1) rfl rfl)⟩
      · exact ⟨dt_test (d_eqL (l := sDeed) (d_op (d_var (d := .tup [sD sDeed, sD [101], .tup [.int 0]]) rfl) d_int (o_ixt (j := 0) rfl rfl)) rfl), fun y hy => by cases hy⟩
    refine m_frz 2 (j := 1) (ds := [.int z]) rfl rfl rfl (by simp) ?_
    show WM K (WF E) [.rf 0, .dat (badD z), .dat (.lst [.int z]), .no, .no, .no, .no, .no] [.ins C [] [], .gone] _ _
    refine m_ifT (mt_dt false (dt_not (b := false) (dt_is (dt_tru (d_allL (it_lst (ds := [.int z]) (d_var rfl)) (fun _ => false) (fun d hd => by
      rw [List.mem_singleton.mp hd]
      exact d_cb (d_acons (d_var (d := .int z) rfl) (d_acons d_val d_anil)) (c_isi1 (b := false) rfl rfl)) (by simp)) trivial) rfl))) ?_
    exact m_raise0 ⟨rfl, rfl⟩
/-! node_count -/
def relCount (CB : Addr) (ds : List D) (r : Res) : Prop := (∃ b c rs, ds = [mk b (rs.map (Row.d c))] ∧ ROk rs ∧ r = .rt (nD (cnt rs))) ∨ (∃ z, ds = [badD z] ∧ r = .ex (.ref CB) [])
end
end K63

set_option Elab.async false
set_option linter.all false
set_option maxRecDepth 100000
set_option maxHeartbeats 4000000
/-! R63: node_count; the law's store. -/
namespace K63
open PySem PySem.Spec PyProof.Rows L2 G Pm Tm
section
variable {K : PySem.W.Frag} {W : WX} {δ : DEnv} {ρ : MEnv} {S : Sto} {ta tb te ti tx : TE} {u : TS}
theorem dx_fld {f : Str} {c : Value} {fs : List (Str × D)} (h : DEx K W δ te c fs) : DEx K W δ (tFld K te f) c fs := fun H R σ Q s e q => h H R σ _ s e q
theorem count_wp {C : Addr} (hC : C = He.ga K "Nodes") (hc : NC K C) (ds : List D) (r : Res) (h : relCount (He.ga K "BadSheet") ds r) (E : XK) : WP K (WF E) (ds.map Sl.va ++ List.replicate (1 - ds.length) Sl.no) (t_node_count K (spI K C (relNI C (He.ga K "BadSheet"))) E) (fun o => Fits o r) := by
  subst hC
  unfold t_node_count
  rcases h with ⟨b, c, rs, rfl, ok, rfl⟩ | ⟨z, rfl, rfl⟩
  · apply q_last
    exact q_ret false (d := nD (cnt rs)) (d_fld (d_make (d_acons (d_var rfl) d_anil) (show relNI _ _ _ _ from .inl ⟨b, c, rs, rfl, ok, rfl⟩)) hc.cl hc.count (by rfl)) rfl
  · apply q_last
    exact q_retX false (dx_fld (dx_make (d_acons (d_var rfl) d_anil) (show relNI _ _ _ _ from .inr ⟨z, rfl, rfl⟩))) (fun z => nomatch z) ⟨rfl, rfl⟩
/-! the store -/
theorem nk_ints : ∀ l : List Nat, D.nkAll (l.map nD) = true
  | [] => rfl
  | x :: l => by rw [List.map_cons, D.nkAll, nk_ints l]; rfl
theorem nkL_ints : ∀ l : List Nat, nkL (l.map nD) = l.map fun (x : Nat) => NestedKey.num (x : Int)
  | [] => rfl
  | x :: l => by rw [List.map_cons, nkL, nkL_ints l]; rfl
theorem dep_ints : ∀ l : List Nat, NestedKey.depthAll (l.map fun (x : Nat) => NestedKey.num (x : Int)) ≤ 1
  | [] => by simp [NestedKey.depthAll]
  | x :: l => by
    have := dep_ints l
    simp only [List.map_cons, NestedKey.depthAll, NestedKey.depth]
    omega
theorem row_key (r : Row) : (r.d false).key = true := by
  have key3 : ∀ {ds : List D} {ks : List NestedKey}, D.nkAll ds = true → nkL ds = ks → NestedKey.depthAll ks ≤ 7 → (D.tup ds).key = true := fun {ds ks} h1 h2 h3 => by
    unfold D.key
    have e : nkD (.tup ds) = .tup ks := by rw [← h2, nkD]
    have e2 : (D.tup ds).nk = true := by rw [D.nk]; exact h1
    rw [e, e2, NestedKey.depth]
    simp
    omega
  cases r with
  | th p => exact key3 (ds := [sD sThing, sD p]) (ks := [.text (mkS sThing), .text (mkS p)]) rfl rfl (by simp [NestedKey.depthAll, NestedKey.depth])
  | dd n ps =>
    refine key3 (ds := [sD sDeed, sD n, .tup (ps.map nD)]) (ks := [.text (mkS sDeed), .text (mkS n), .tup (ps.map fun (x : Nat) => NestedKey.num (x : Int))]) ?_ ?_ ?_
    · show (true && (true && ((D.tup (ps.map nD)).nk && true))) = true
      rw [D.nk, nk_ints]
      rfl
    · rw [← nkL_ints]
      rfl
    · have := dep_ints ps
      simp only [NestedKey.depthAll, NestedKey.depth]
      omega
theorem ints_inj : ∀ {l m : List Nat}, (l.map fun (x : Nat) => NestedKey.num (x : Int)) = m.map (fun (x : Nat) => NestedKey.num (x : Int)) → l = m
  | [], [], _ => rfl
  | [], _ :: _, h => by cases h
  | _ :: _, [], h => by cases h
  | x :: l, y :: m, h => by
    simp only [List.map_cons, List.cons.injEq, NestedKey.num.injEq] at h
    rw [ints_inj h.2, show x = y by omega]
theorem row_inj {r s : Row} (h : nkD (r.d false) = nkD (s.d false)) : r = s := by
  have two : ∀ p, nkD ((Row.th p).d false) = .tup [.text (mkS sThing), .text (mkS p)] := fun p => rfl
  have three : ∀ n ps, nkD ((Row.dd n ps).d false) = .tup [.text (mkS sDeed), .text (mkS n), .tup (ps.map fun (x : Nat) => NestedKey.num (x : Int))] := fun n ps => by
    rw [← nkL_ints]
    rfl
  cases r with
  | th p =>
    cases s with
    | th q =>
      rw [two, two] at h
      simp only [NestedKey.tup.injEq, List.cons.injEq, NestedKey.text.injEq, and_true, true_and] at h
      rw [mkS_inj h]
    | dd n ps =>
      rw [two, three] at h
      simp at h
  | dd n ps =>
    cases s with
    | th q =>
      rw [two, three] at h
      simp at h
    | dd m qs =>
      rw [three, three] at h
      simp only [NestedKey.tup.injEq, List.cons.injEq, NestedKey.text.injEq, and_true, true_and] at h
      rw [mkS_inj h.1, ints_inj h.2]
theorem hasN_rows {rows : List Row} {r : Row} : hasN (rows.map (Row.d false)) (r.d false) = decide (r ∈ rows) := by
  unfold hasN
  rw [Bool.eq_iff_iff, List.any_eq_true, decide_eq_true_iff]
  constructor
  · rintro ⟨x, hx, h⟩
    obtain ⟨s, hs, rfl⟩ := List.mem_map.mp hx
    exact row_inj (of_decide_eq_true h) ▸ hs
  · intro h
    exact ⟨_, List.mem_map_of_mem h, decide_eq_true rfl⟩
theorem atN_rows {r : Row} : ∀ {rows : List Row} {k : Nat}, r ∈ rows → atN (rows.map (Row.d false)) ((List.range' k rows.length).map nD) (r.d false) = some (nD (k + rows.idxOf r))
  | [], _, h => by cases h
  | s :: rows, k, h => by
    rw [List.length_cons, List.range'_succ, List.map_cons, List.map_cons, atN]
    by_cases e : s = r
    · subst e
      rw [if_pos rfl, List.idxOf_cons_self]
      rfl
    · rw [if_neg fun z => e (row_inj z)]
      have hm : r ∈ rows := by
        rcases List.mem_cons.mp h with z | z
        · exact absurd z.symm e
        · exact z
      have hi : (s :: rows).idxOf r = rows.idxOf r + 1 := by rw [List.idxOf_cons, (beq_eq_false_iff_ne.mpr e : (s == r) = false)]; rfl
      rw [atN_rows hm, hi]
      congr 2
      omega
def putR (rows : List Row) (r : Row) : List Row := if r ∈ rows then rows else rows ++ [r]
def putH (rows : List Row) (hs : List Nat) (r : Row) (h : Nat) : List Nat := if r ∈ rows then hs else hs ++ [h]
theorem putR_mem (rows : List Row) (r : Row) : r ∈ putR rows r := by
  unfold putR
  split
  · assumption
  · simp
def stS (w : World) (rows : List Row) (hs : List Nat) : Sto := [.lst ((rows.map (Row.d false)).map SD.dat), .ndc w (rows.map (Row.d false)) (((List.range rows.length).map nD).map SD.dat), .lst ((hs.map nD).map SD.dat), .lst [.rf 0, .rf 1, .rf 2]]
def storeD (w : World) (rows : List Row) (hs : List Nat) : D := .lst [.lst (rows.map (Row.d false)), .ndc w (rows.map (Row.d false)) ((List.range rows.length).map nD), .lst (hs.map nD)]
theorem res_store {w : World} {rows : List Row} {hs : List Nat} {T : Sto} : res (stS w rows hs ++ T) 4 (.rf 3) = some (storeD w rows hs) := by
  refine res_lst (i := 3) (zs := [.rf 0, .rf 1, .rf 2]) rfl (alls_cons (res_lst (i := 0) rfl alls_dats) (alls_cons ?_ (alls_cons (res_lst (i := 2) rfl alls_dats) rfl)))
  show (alls (res (stS w rows hs ++ T) 2) (((List.range rows.length).map nD).map SD.dat)).map (D.ndc w (rows.map (Row.d false))) = _
  rw [alls_dats]
  rfl
def relStore (w : World) (zs : List SD) (S : Sto) (r : ResM) : Prop := zs = [] ∧ S = [] ∧ r = .rt (.rf 3) (stS w [] [])
theorem store_wm (w : World) (zs : List SD) (S : Sto) (r : ResM) (h : relStore w zs S r) : WM K W (zs ++ List.replicate (0 - zs.length) SD.no) S (t__law_store K w) (fun o => FitsM o r) := by
  obtain ⟨rfl, rfl, rfl⟩ := h
  unfold t__law_store
  apply m_last
  exact m_ret (mx_lst (ma_cons (mx_lst ma_nil (by simp)) (ma_cons mx_nnew (ma_cons (mx_lst ma_nil (by simp)) ma_nil))) (by simp)) ⟨rfl, rfl⟩
def relPut (w : World) (zs : List SD) (S : Sto) (x : ResM) : Prop := ∃ rows hs r h T, zs = [.rf 3, .dat (r.d false), .dat (nD h)] ∧ S = stS w rows hs ++ T ∧ rows.length ≤ 1000 ∧ hs.length ≤ 1000 ∧
  x = .rt (.dat (nD ((putR rows r).idxOf r))) (stS w (putR rows r) (putH rows hs r h) ++ T)
theorem row_sol (r : Row) : (r.d false).sol = true := by
  have : ∀ l : List Nat, D.solL (l.map nD) = true := fun l => by
    induction l with
    | nil => rfl
    | cons x l ih => rw [List.map_cons, D.solL, ih]; rfl
  cases r with
  | th p => rfl
  | dd n ps =>
    show (true && (true && ((D.tup (ps.map nD)).sol && true))) = true
    rw [D.sol, this]
    rfl
theorem put_wm (w : World) (zs : List SD) (S : Sto) (x : ResM) (h : relPut w zs S x) : WM K W (zs ++ List.replicate (4 - zs.length) SD.no) S (t__law_put K w) (fun o => FitsM o x) := by
  obtain ⟨rows, hs, r, h, T, rfl, rfl, hn, hh, rfl⟩ := h
  show WM K W [.rf 3, .dat (r.d false), .dat (nD h), .no] _ _ _
  unfold t__law_put
  have v0 : ∀ {rows : List Row} {hs : List Nat} {T : Sto} {a b c : SD}, DE K (fm true (stS w rows hs ++ T) [.rf 3, a, b, c]) (tVar 0) (storeD w rows hs) := fun {rows hs T a b c} => d_var (by
    show some (res _ 4 (.rf 3)) = _
    rw [res_store])
  have s0 : ∀ {rows : List Row} {hs : List Nat} {T : Sto} {a b c : SD}, DE K (fm true (stS w rows hs ++ T) [.rf 3, a, b, c]) (tOp (rIx' K) (tVar 0) (tC (.int 0))) (.lst (rows.map (Row.d false))) := fun {rows hs T a b c} => d_op v0 d_int (o_ixl (j := 0) rfl rfl)
  have s1 : ∀ {rows : List Row} {hs : List Nat} {T : Sto} {a b c : SD}, DE K (fm true (stS w rows hs ++ T) [.rf 3, a, b, c]) (tOp (rIx' K) (tVar 0) (tC (.int 1))) (.ndc w (rows.map (Row.d false)) ((List.range rows.length).map nD)) := fun {rows hs T a b c} => d_op v0 d_int (o_ixl (j := 1) rfl rfl)
  have p0 : ∀ {rows : List Row} {hs : List Nat} {T : Sto} {a b c : SD} {i : Nat}, i < 3 → MX K [.rf 3, a, b, c] (stS w rows hs ++ T) (tOp (rIx' K) (tVar 0) (tC (.int (i : Int)))) (.rf i) (stS w rows hs ++ T) := fun {rows hs T a b c i} hi =>
    mx_ix false (j := 3) (zs := [.rf 0, .rf 1, .rf 2]) (k := i) (mx_var rfl (fun z => by cases z)) d_int rfl (ixN_of rfl hi) (by
      match i, hi with
      | 0, _ => rfl
      | 1, _ => rfl
      | 2, _ => rfl)
  have fin : ∀ {rows : List Row} {hs : List Nat} {a b : SD}, r ∈ rows → MX K [.rf 3, .dat (r.d false), a, b] (stS w rows hs ++ T) (tOp (rIxN2 K w) (tOp (rIx' K) (tVar 0) (tC (.int 1))) (tVar 1)) (.dat (nD (rows.idxOf r))) (stS w rows hs ++ T) := fun {rows hs a b} hm =>
    mx_de true (d_op s1 (d_var rfl) (o_ixN (row_key r) (by rw [List.range_eq_range', atN_rows hm, Nat.zero_add]))) (fun _ => rfl)
  by_cases hm : r ∈ rows
  · apply m_ifF (mt_dt true (dt_is (dt_test (d_op (d_var (d := r.d false) rfl) s1 (o_notinN (row_key r)))) (by rw [hasN_rows, decide_eq_true hm]; rfl)))
    apply m_next
    apply m_last
    unfold putR putH
    rw [if_pos hm, if_pos hm]
    exact m_ret (fin hm) ⟨rfl, rfl⟩
  · have hno : hasN (rows.map (Row.d false)) (r.d false) = false := by rw [hasN_rows, decide_eq_false hm]
    apply m_ifT (mt_dt true (dt_is (dt_test (d_op (d_var (d := r.d false) rfl) s1 (o_notinN (row_key r)))) (by rw [hno]; rfl)))
    apply m_assoc
    apply m_asg (p0 (i := 1) (by omega))
    apply m_assoc
    refine m_nput true (j := 1) (x := nD rows.length) (de_is (d_cb (d_acons s0 d_anil) c_leni) (by rw [List.length_map]; rfl)) (fun _ => rfl) (mx_var (x := .rf 1) rfl (fun z => by cases z)) (k := r.d false) (d_var rfl) (fun _ => row_sol r) (row_key r) rfl hno (by rw [List.length_map]; omega) ?_
    have p3 : ∀ {R0 N H : Ob} {a b c : SD} {i : Nat}, i < 3 → MX K [.rf 3, a, b, c] (R0 :: N :: H :: .lst [.rf 0, .rf 1, .rf 2] :: T) (tOp (rIx' K) (tVar 0) (tC (.int (i : Int)))) (.rf i) (R0 :: N :: H :: .lst [.rf 0, .rf 1, .rf 2] :: T) := fun {R0 N H a b c i} hi =>
      mx_ix false (j := 3) (zs := [.rf 0, .rf 1, .rf 2]) (k := i) (mx_var rfl (fun z => by cases z)) d_int rfl (ixN_of rfl hi) (by
        match i, hi with
        | 0, _ => rfl
        | 1, _ => rfl
        | 2, _ => rfl)
    apply m_assoc
    apply m_app (j := 0) (x := .dat (r.d false)) (zs := (rows.map (Row.d false)).map SD.dat) (p3 (i := 0) (by omega)) ⟨_, rfl⟩ (mx_var rfl (fun z => by cases z)) rfl (by simp; omega)
    apply m_app (j := 2) (x := .dat (nD h)) (zs := (hs.map nD).map SD.dat) (p3 (i := 2) (by omega)) ⟨_, rfl⟩ (mx_var rfl (fun z => by cases z)) rfl (by simp; omega)
    apply m_next
    apply m_last
    have e : putR rows r = rows ++ [r] := if_neg hm
    have e2 : putH rows hs r h = hs ++ [h] := if_neg hm
    rw [e, e2]
    have hS : stS w (rows ++ [r]) (hs ++ [h]) ++ T = .lst ((rows.map (Row.d false)).map SD.dat ++ [.dat (r.d false)]) :: .ndc w (rows.map (Row.d false) ++ [r.d false]) (((List.range rows.length).map nD).map SD.dat ++ [.dat (nD rows.length)]) :: .lst ((hs.map nD).map SD.dat ++ [.dat (nD h)]) :: .lst [.rf 0, .rf 1, .rf 2] :: T := by
      unfold stS
      rw [List.length_append, List.length_singleton, List.range_succ]
      simp
    have := fin (rows := rows ++ [r]) (hs := hs ++ [h]) (a := .dat (nD h)) (b := .rf 1) (by simp)
    rw [hS] at this
    refine m_ret this ⟨rfl, ?_⟩
    rw [hS]
end
end K63

set_option Elab.async false
set_option linter.all false
set_option maxRecDepth 100000
set_option maxHeartbeats 4000000
/-! S63: the law's things and deeds; the parts within. -/
namespace K63
open PySem PySem.Spec PyProof.Rows L2 G Pm Tm
section
variable {K : PySem.W.Frag} {W : WX} {δ : DEnv} {ρ : MEnv} {S : Sto} {ta tb te ti tx : TE} {u : TS}
def relThing (w : World) (zs : List SD) (S : Sto) (x : ResM) : Prop := ∃ rows hs p T, zs = [.rf 3, .dat (sD p)] ∧ S = stS w rows hs ++ T ∧ rows.length ≤ 1000 ∧ hs.length ≤ 1000 ∧
  x = .rt (.dat (nD ((putR rows (.th p)).idxOf (.th p)))) (stS w (putR rows (.th p)) (putH rows hs (.th p) 0) ++ T)
theorem thing_wm (w : World) (zs : List SD) (S : Sto) (x : ResM) (h : relThing w zs S x) : WM K W (zs ++ List.replicate (2 - zs.length) SD.no) S (t__law_thing K (spM K (relPut w))) (fun o => FitsM o x) := by
  obtain ⟨rows, hs, p, T, rfl, rfl, hn, hh, rfl⟩ := h
  show WM K W [.rf 3, .dat (sD p)] _ _ _
  unfold t__law_thing
  apply m_last
  exact m_ret (mx_call (ma_cons (mx_var (x := .rf 3) rfl (fun z => by cases z)) (ma_cons (mx_de false (d := (Row.th p).d false) (d_tup (d_acons (d_lit rfl) (d_acons (d_var rfl) d_anil)) (by simp)) (fun z => nomatch z)) (ma_cons (mx_de false (d := nD 0) d_int (fun z => nomatch z)) ma_nil))) (show relPut w _ _ _ from ⟨rows, hs, .th p, 0, T, rfl, rfl, hn, hh, rfl⟩)) ⟨rfl, rfl⟩
def hiOf (hs : List Nat) (ps : List Nat) : Nat := ps.foldl (fun a p => max a (hs.getD p 0 + 1)) 0
def relDeed (w : World) (zs : List SD) (S : Sto) (x : ResM) : Prop := ∃ rows hs n ps T, zs = [.rf 3, .dat (sD n), .dat (.lst (ps.map nD))] ∧ S = stS w rows hs ++ T ∧ rows.length ≤ 1000 ∧ hs.length ≤ 1000 ∧ ps.length ≤ 1000 ∧ (∀ p ∈ ps, p < hs.length) ∧
  x = .rt (.dat (nD ((putR rows (.dd n ps)).idxOf (.dd n ps)))) (stS w (putR rows (.dd n ps)) (putH rows hs (.dd n ps) (hiOf hs ps)) ++ T)
theorem deed_wm (w : World) (zs : List SD) (S : Sto) (x : ResM) (h : relDeed w zs S x) : WM K W (zs ++ List.replicate (5 - zs.length) SD.no) S (t__law_deed K (spM K (relPut w))) (fun o => FitsM o x) := by
  obtain ⟨rows, hs, n, ps, T, rfl, rfl, hn, hh, hp, hps, rfl⟩ := h
  show WM K W [.rf 3, .dat (sD n), .dat (.lst (ps.map nD)), .no, .no] _ _ _
  unfold t__law_deed
  apply m_asg (mx_de false (d := nD 0) d_int (fun z => nomatch z))
  refine m_forP (it_lst (ds := ps.map nD) (d_var rfl)) (fun i ρ S => ρ = [.rf 3, .dat (sD n), .dat (.lst (ps.map nD)), .dat (nD (hiOf hs (ps.take i))), .no] ∧ S = stS w rows hs ++ T) _ (wkM.refl _) ⟨rfl, rfl⟩ ?_ ?_
  · rintro i d ρ S hd ⟨rfl, rfl⟩
    rw [List.getElem?_map] at hd
    cases hx : ps[i]? with
    | none => rw [hx] at hd; cases hd
    | some p =>
      rw [hx] at hd
      cases hd
      have hpl := hps p (List.mem_of_getElem? hx)
      refine ⟨_, g_name', ?_⟩
      apply m_last
      apply m_asg (mx_de true (d := nD (hiOf hs (ps.take (i + 1)))) (de_is (d_cb (d_acons (d_var (d := nD (hiOf hs (ps.take i))) rfl) (d_acons (d_op (d_op (d_op (d_var (d := storeD w rows hs) (by
        show some (res _ 4 (.rf 3)) = _
        rw [res_store])) d_int (o_ixl (j := 2) rfl rfl)) (d_var (d := nD p) rfl) (o_ixl (d := nD (hs.getD p 0)) (j := p) (by rw [List.length_map]; exact ixN_of rfl hpl) (by rw [List.getElem?_map, List.getD_eq_getElem?_getD, List.getElem?_eq_getElem hpl]; rfl))) d_int o_addi) d_anil)) c_max2) (by
          have : hiOf hs (ps.take (i + 1)) = max (hiOf hs (ps.take i)) (hs.getD p 0 + 1) := by
            unfold hiOf
            rw [List.take_add_one, hx, List.foldl_append]
            rfl
          rw [this]
          show D.int _ = D.int _
          congr 1
          split <;> omega)) (fun _ => rfl))
      apply m_nx
      refine ⟨[.rf 3, .dat (sD n), .dat (.lst (ps.map nD)), .dat (nD (hiOf hs (ps.take (i + 1)))), .no], wkMc (.inr rfl) (wkMc (.inr rfl) (wkMc (.inr rfl) (wkMc (.inr rfl) (wkMc (.inl rfl) wkM0)))), rfl, rfl⟩
  · rintro ρ S ⟨rfl, rfl⟩
    rw [List.length_map, List.take_length]
    apply m_last
    exact m_ret (mx_call (ma_cons (mx_var (x := .rf 3) rfl (fun z => by cases z)) (ma_cons (mx_de false (d := (Row.dd n ps).d false) (d_tup (d_acons (d_lit rfl) (d_acons (d_var rfl) (d_acons (d_cb (d_acons (d_var rfl) d_anil) c_tupL) d_anil))) (by simp)) (fun z => nomatch z)) (ma_cons (mx_de false (d := nD (hiOf hs ps)) (d_var rfl) (fun z => nomatch z)) ma_nil))) (show relPut w _ _ _ from ⟨rows, hs, .dd n ps, _, T, rfl, rfl, hn, hh, rfl⟩)) ⟨rfl, rfl⟩
end
/-! the walk within, in plain terms -/
abbrev WS := List Nat × List (Nat × Nat)
def stepW (rows : List Row) (s : WS) : WS := match s.2.getLast? with
  | none => s
  | some (p, j) => if p ∈ s.1 then (s.1, s.2.dropLast) else match rows[p]? with
    | some (.dd _ ps) => if j = ps.length then (s.1 ++ [p], s.2.dropLast) else (s.1, s.2.dropLast ++ [(p, j + 1), (ps.getD j 0, 0)])
    | _ => (s.1 ++ [p], s.2.dropLast)
def runW (rows : List Row) (num : Nat) : Nat → WS
  | 0 => ([], [(num, 0)])
  | t + 1 => stepW rows (runW rows num t)
def within (rows : List Row) (num : Nat) : List Nat := (runW rows num (12 * rows.length + 12)).1
structure RowsOk (rows : List Row) : Prop where
  u : rows.Nodup
  d : ∀ (i : Nat) (n ps : List Nat), rows[i]? = some (Row.dd n ps) → ps.length ≤ 20 ∧ ∀ x ∈ ps, x < i
  t : ∀ p, .th p ∈ rows → p.length ≤ 100
/-- what of the stack has been done -/
def Chain (rows : List Row) (o : List Nat) : List (Nat × Nat) → Prop
  | [] => True
  | [(p, j)] => p < rows.length ∧ ∀ n ps, rows[p]? = some (.dd n ps) → j ≤ ps.length ∧ ∀ x ∈ ps.take j, x ∈ o
  | (p, j) :: (q, k) :: r => (p < rows.length ∧ ∃ n ps, rows[p]? = some (.dd n ps) ∧ 1 ≤ j ∧ j ≤ ps.length ∧ ps[j - 1]? = some q ∧ ∀ x ∈ ps.take (j - 1), x ∈ o) ∧ Chain rows o ((q, k) :: r)
structure InvW (rows : List Row) (s : WS) : Prop where
  u : s.1.Nodup
  lt : ∀ p ∈ s.1, p < rows.length
  d : ∀ (i p : Nat), s.1[i]? = some p → ∀ n ps, rows[p]? = some (Row.dd n ps) → ∀ x ∈ ps, x ∈ s.1.take i
  c : Chain rows s.1 s.2
theorem chain_mono {rows : List Row} {o : List Nat} {q : Nat} : ∀ {l : List (Nat × Nat)}, Chain rows o l → Chain rows (o ++ [q]) l
  | [], _ => trivial
  | [(p, j)], h => ⟨h.1, fun n ps e => ⟨(h.2 n ps e).1, fun x hx => List.mem_append_left _ ((h.2 n ps e).2 x hx)⟩⟩
  | (p, j) :: (q', k) :: r, ⟨⟨h1, n, ps, h2, h3, h4, h5, h6⟩, t⟩ => ⟨⟨h1, n, ps, h2, h3, h4, h5, fun x hx => List.mem_append_left _ (h6 x hx)⟩, chain_mono t⟩
/-- the last one is done and goes -/
theorem chain_pop {rows : List Row} {o : List Nat} {p j : Nat} (hp : p ∈ o) : ∀ {l : List (Nat × Nat)}, Chain rows o (l ++ [(p, j)]) → Chain rows o l
  | [], _ => trivial
  | [(a, b)], h => by
    obtain ⟨⟨h1, n, ps, h2, h3, h4, h5, h6⟩, _⟩ := h
    refine ⟨h1, fun n' ps' e => ?_⟩
    rw [h2] at e
    cases e
    refine ⟨h4, fun x hx => ?_⟩
    obtain ⟨b, rfl⟩ : ∃ b', b = b' + 1 := ⟨b - 1, by omega⟩
    rw [List.take_add_one] at hx
    rcases List.mem_append.mp hx with hx | hx
    · exact h6 x hx
    · have h5' : ps[b]? = some p := h5
      rw [h5'] at hx
      rw [List.mem_singleton.mp hx]
      exact hp
  | (a, b) :: (c, d) :: r, h => ⟨h.1, chain_pop hp h.2⟩
theorem chain_last {rows : List Row} {o : List Nat} {p j : Nat} : ∀ {l : List (Nat × Nat)}, Chain rows o (l ++ [(p, j)]) → p < rows.length ∧ ∀ n ps, rows[p]? = some (.dd n ps) → j ≤ ps.length ∧ ∀ x ∈ ps.take j, x ∈ o
  | [], h => h
  | [(a, b)], h => h.2
  | (a, b) :: (c, d) :: r, h => chain_last (l := (c, d) :: r) h.2
theorem chain_push {rows : List Row} {o : List Nat} {p j q n' : Nat} {n ps : List Nat} (hr : rows[p]? = some (.dd n ps)) (hq : ps[j]? = some q) (hql : q < rows.length) : ∀ {l : List (Nat × Nat)}, Chain rows o (l ++ [(p, j)]) → Chain rows o (l ++ [(p, j + 1), (q, 0)])
  | [], h => ⟨⟨h.1, n, ps, hr, by omega, (List.getElem?_eq_some_iff.mp hq).1, hq, (h.2 n ps hr).2⟩, hql, fun _ _ _ => ⟨Nat.zero_le _, fun x hx => by simp at hx⟩⟩
  | [(a, b)], h => ⟨h.1, chain_push hr hq hql (l := []) (n' := n') h.2⟩
  | (a, b) :: (c, d) :: r, h => ⟨h.1, chain_push hr hq hql (l := (c, d) :: r) (n' := n') h.2⟩
theorem stepW_inv {rows : List Row} (ok : RowsOk rows) {s : WS} (h : InvW rows s) : InvW rows (stepW rows s) := by
  obtain ⟨o, l⟩ := s
  unfold stepW
  cases hl : l.getLast? with
  | none => exact h
  | some top =>
    obtain ⟨p, j⟩ := top
    obtain ⟨r, rfl⟩ : ∃ r, l = r ++ [(p, j)] := by
      obtain ⟨r, e⟩ := List.getLast?_eq_some_iff.mp hl
      exact ⟨r, e⟩
    obtain ⟨hu, hlt, hd, hc⟩ := h
    dsimp only
    have hlast := chain_last hc
    rw [List.dropLast_concat]
    have done : p ∉ o → (∀ n ps, rows[p]? = some (.dd n ps) → ∀ x ∈ ps, x ∈ o) → InvW rows (o ++ [p], r) := fun hp hps => by
      refine ⟨?_, fun q hq => ?_, fun i q hi n ps e x hx => ?_, chain_pop (by simp) (chain_mono hc)⟩
      · show (o ++ [p]).Nodup
        rw [List.nodup_append]
        exact ⟨hu, by simp, fun a ha b hb => by rw [List.mem_singleton.mp hb]; exact fun z => hp (z ▸ ha)⟩
      · rcases List.mem_append.mp hq with hq | hq
        · exact hlt q hq
        · rw [List.mem_singleton.mp hq]; exact hlast.1
      · have hi' : (o ++ [p])[i]? = some q := hi
        show x ∈ (o ++ [p]).take i
        by_cases hio : i < o.length
        · rw [List.getElem?_append_left hio] at hi'
          rw [List.take_append_of_le_length (by omega)]
          exact hd i q hi' n ps e x hx
        · rw [List.getElem?_append_right (by omega)] at hi'
          have hi0 : i - o.length = 0 := by
            have := (List.getElem?_eq_some_iff.mp hi').1
            simp at this
            omega
          rw [hi0] at hi'
          cases hi'
          have : i = o.length := by omega
          subst this
          rw [List.take_append_of_le_length (Nat.le_refl _), List.take_length]
          exact hps n ps e x hx
    by_cases hp : p ∈ o
    · rw [if_pos hp]
      exact ⟨hu, hlt, hd, chain_pop hp hc⟩
    · rw [if_neg hp]
      cases hr : rows[p]? with
      | none => exact absurd (List.getElem?_eq_none_iff.mp hr) (by have := hlast.1; omega)
      | some row =>
        cases row with
        | th q => exact done hp fun n ps e => by rw [hr] at e; cases e
        | dd n ps =>
          dsimp only
          obtain ⟨h1, h2⟩ := hlast.2 n ps hr
          by_cases hj : j = ps.length
          · rw [if_pos hj]
            refine done hp fun n' ps' e => ?_
            rw [hr] at e
            cases e
            rw [hj, List.take_length] at h2
            exact h2
          · rw [if_neg hj]
            have hjl : j < ps.length := by omega
            have hq : ps[j]? = some (ps.getD j 0) := by rw [List.getD_eq_getElem?_getD, List.getElem?_eq_getElem hjl]; rfl
            have hlq := (ok.d p n ps hr).2 _ (List.mem_of_getElem? hq)
            exact ⟨hu, hlt, hd, chain_push hr hq (by have := hlast.1; omega) (n' := 0) hc⟩
theorem runW_inv {rows : List Row} {num : Nat} (ok : RowsOk rows) (hn : num < rows.length) : ∀ t, InvW rows (runW rows num t)
  | 0 => ⟨List.nodup_nil, (fun p hp => by cases hp), (fun i p hi => by simp [runW] at hi), hn, fun n ps _ => ⟨Nat.zero_le _, fun x hx => by simp at hx⟩⟩
  | t + 1 => stepW_inv ok (runW_inv ok hn t)
/-- before the first one is done the stack goes down -/
theorem runW_grow {rows : List Row} {num : Nat} (ok : RowsOk rows) (hn : num < rows.length) : ∀ t, (runW rows num t).1 ≠ [] ∨ ∃ p j, (runW rows num t).2.getLast? = some (p, j) ∧ p + t ≤ num
  | 0 => .inr ⟨num, 0, rfl, Nat.le_refl _⟩
  | t + 1 => by
    have iv := runW_inv ok hn t
    rcases runW_grow ok hn t with h | ⟨p, j, h, hp⟩
    · left
      rw [runW]
      generalize runW rows num t = s at *
      unfold stepW
      cases s.2.getLast? with
      | none => exact h
      | some x =>
        obtain ⟨p, j⟩ := x
        dsimp only
        split
        · exact h
        · split
          · split
            · simp
            · exact h
          · simp
    · rw [runW]
      generalize runW rows num t = s at *
      obtain ⟨o, l⟩ := s
      unfold stepW
      have h' : l.getLast? = some (p, j) := h
      obtain ⟨r, rfl⟩ := List.getLast?_eq_some_iff.mp h'
      dsimp only
      rw [h']
      dsimp only
      by_cases hm : p ∈ o
      · left
        rw [if_pos hm]
        intro z
        have z' : o = [] := z
        rw [z'] at hm
        cases hm
      · rw [if_neg hm]
        cases hr : rows[p]? with
        | none => left; simp
        | some row =>
          cases row with
          | th q => left; simp
          | dd n ps =>
            dsimp only
            by_cases hj : j = ps.length
            · left; rw [if_pos hj]; simp
            · rw [if_neg hj]
              right
              have hlast := chain_last iv.c
              obtain ⟨h1, _⟩ := hlast.2 n ps hr
              have hjl : j < ps.length := by omega
              have hq : ps[j]? = some (ps.getD j 0) := by rw [List.getD_eq_getElem?_getD, List.getElem?_eq_getElem hjl]; rfl
              have hlq := (ok.d p n ps hr).2 _ (List.mem_of_getElem? hq)
              refine ⟨ps.getD j 0, 0, ?_, by omega⟩
              rw [List.getLast?_append]
              rfl
theorem runW_keep {rows : List Row} {num : Nat} : ∀ {t k : Nat}, (runW rows num t).1 ≠ [] → (runW rows num (t + k)).1 ≠ []
  | t, 0, h => h
  | t, k + 1, h => by
    have := runW_keep (k := k) h
    rw [show t + (k + 1) = t + k + 1 by omega, runW]
    generalize runW rows num (t + k) = s at *
    unfold stepW
    cases s.2.getLast? with
    | none => exact this
    | some x =>
      obtain ⟨p, j⟩ := x
      dsimp only
      split
      · exact this
      · split
        · split
          · simp
          · exact this
        · simp
theorem within_ne {rows : List Row} {num : Nat} (ok : RowsOk rows) (hn : num < rows.length) : within rows num ≠ [] := by
  unfold within
  have h : (runW rows num (num + 1)).1 ≠ [] := by
    rcases runW_grow ok hn (num + 1) with h | ⟨p, j, _, hp⟩
    · exact h
    · omega
  have := runW_keep (k := 12 * rows.length + 12 - (num + 1)) h
  rw [show num + 1 + (12 * rows.length + 12 - (num + 1)) = 12 * rows.length + 12 by omega] at this
  exact this
theorem within_inv {rows : List Row} {num : Nat} (ok : RowsOk rows) (hn : num < rows.length) : InvW rows (runW rows num (12 * rows.length + 12)) := runW_inv ok hn _
/-! the sheet -/
def reRow (o : List Nat) : Row → Row
  | .th p => .th p
  | .dd n ps => .dd n (ps.map fun x => o.idxOf x)
def sheetOf (rows : List Row) (o : List Nat) : List Row := o.map fun p => reRow o (rows.getD p (.th []))
end K63

set_option Elab.async false
set_option linter.all false
set_option maxRecDepth 100000
set_option maxHeartbeats 4000000
/-! T63: _law_within, _law_sheet. -/
namespace K63
open PySem PySem.Spec PyProof.Rows L2 G Pm Tm
section
variable {K : PySem.W.Frag} {W : WX} {δ : DEnv} {ρ : MEnv} {S S1 : Sto} {ta tb te ti tx to : TE} {u : TS} {O : OutM → Prop} {x : SD} {j : Nat}
/-- o.pop() -/
theorem m_popD {zs : List SD} (h1 : MX K ρ S to (.rf j) S1) (h3 : S1[j]? = some (.lst (zs ++ [x]))) (q : WM K W ρ (S1.set j (.lst zs)) u O) : WM K W ρ S (tSeq (tDrop (tBM0 K "list" rPop to)) u) O := m_then (fun B H σ E ⟨R, al, e⟩ k =>
  h1 B H R σ al _ e fun v H1 R1 al1 e1 ga r1 hj => by
    have r1' : v = .ref (al1 j) := r1
    subst r1'
    obtain ⟨vs, a1, a2⟩ := e1.lst h3
    obtain ⟨w, hv, rv⟩ := a2.get (i := zs.length) (x := x) (by simp)
    refine ⟨.inl ⟨rfl, vs, SqL.of a1⟩, al1 j, vs, w, rfl, rfl, a1, ?_, ?_⟩
    · rw [a2.len, List.length_append]; exact hv
    · have hb : x.below S1.length := e1.bo j _ h3 x (by show x ∈ zs ++ [x]; simp)
      have e2 := e1.put h3 (fun z => by cases z) (c := .lst zs) (y := .lst vs.dropLast) (by have := a2.last; rw [List.dropLast_concat] at this; exact this) (fun y hy => e1.bo j _ h3 y (by show y ∈ zs ++ [x]; have hy' : y ∈ zs := hy; simp [hy']))
      exact k _ _ ⟨R1, al1, e2⟩) q
def keyI (p : Nat) : L2.Key := .inl (p : Int)
theorem hasK_ints {o : List Nat} {p : Nat} : hasK (o.map keyI) (keyI p) = decide (p ∈ o) := by
  rw [Bool.eq_iff_iff, hasK_iff, decide_eq_true_iff]
  constructor
  · intro h
    obtain ⟨q, hq, e⟩ := List.mem_map.mp h
    have : q = p := by
      injection e with e
      omega
    exact this ▸ hq
  · exact fun h => List.mem_map_of_mem h
/-- the store of the walk -/
structure WI (S : Sto) (ks : List Nat) (o : List Nat) (l : List (Nat × Nat)) : Prop where
  n : 4 ≤ S.length
  e0 : S[0]? = some (.lst ((o.map nD).map SD.dat))
  e1 : S[1]? = some (.dct (o.map keyI) ((List.replicate o.length (D.bl true)).map SD.dat))
  e3 : S[3]? = some (.lst (ks.map SD.rf))
  kl : ks.length = l.length
  ku : ks.Nodup
  kr : ∀ k ∈ ks, k ≠ 0 ∧ k ≠ 1 ∧ k ≠ 3
  a : ∀ (m k p j : Nat), ks[m]? = some k → l[m]? = some (p, j) → S[k]? = some (.lst [.dat (nD p), .dat (nD j)])
theorem WI.below {ks o : List Nat} {l : List (Nat × Nat)} (h : WI S ks o l) : ∀ k ∈ ks, k < S.length := fun k hk => by
  obtain ⟨m, hm, e⟩ := List.getElem_of_mem hk
  have hl : m < l.length := by rw [← h.kl]; exact hm
  exact (List.getElem?_eq_some_iff.mp (h.a m k l[m].1 l[m].2 (by rw [List.getElem?_eq_getElem hm, e]) (List.getElem?_eq_getElem hl))).1
theorem WI.pop {ks o : List Nat} {l : List (Nat × Nat)} {k : Nat} {y : Nat × Nat} (h : WI S (ks ++ [k]) o (l ++ [y])) : WI (S.set 3 (.lst (ks.map SD.rf))) ks o l := by
  have h3 : 3 < S.length := by have := h.n; omega
  refine ⟨by rw [List.length_set]; exact h.n, by rw [List.getElem?_set_ne (by decide)]; exact h.e0, by rw [List.getElem?_set_ne (by decide)]; exact h.e1, List.getElem?_set_self h3, by have := h.kl; simpa using this, (List.nodup_append.mp h.ku).1, fun q hq => h.kr q (List.mem_append_left _ hq), fun m q p j hm hl => ?_⟩
  rw [List.getElem?_set_ne (fun z => (h.kr q (List.mem_append_left _ (List.mem_of_getElem? hm))).2.2 z.symm)]
  exact h.a m q p j (by rw [List.getElem?_append_left (List.getElem?_eq_some_iff.mp hm).1]; exact hm) (by rw [List.getElem?_append_left (List.getElem?_eq_some_iff.mp hl).1]; exact hl)
theorem WI.done {ks o : List Nat} {l : List (Nat × Nat)} {p : Nat} (h : WI S ks o l) (hp : p ∉ o) : WI ((S.set 1 (.dct (putKs (o.map keyI) (keyI p)) ((putDs (o.map keyI) (List.replicate o.length (D.bl true)) (keyI p) (.bl true)).map SD.dat))).set 0 (.lst ((o.map nD).map SD.dat ++ [.dat (nD p)]))) ks (o ++ [p]) l := by
  have hn := h.n
  have hk : hasK (o.map keyI) (keyI p) = false := by rw [hasK_ints, decide_eq_false hp]
  refine ⟨by rw [List.length_set, List.length_set]; exact hn, ?_, ?_, ?_, h.kl, h.ku, h.kr, fun m q p' j hm hl => ?_⟩
  · rw [List.getElem?_set_self (by rw [List.length_set]; omega), List.map_append, List.map_append]
    rfl
  · rw [List.getElem?_set_ne (by decide), List.getElem?_set_self (by omega)]
    unfold putKs putDs
    rw [hk, if_neg (by decide), if_neg (by decide), List.length_append, List.length_singleton, List.replicate_succ', List.map_append (f := keyI)]
    rfl
  · rw [List.getElem?_set_ne (by decide), List.getElem?_set_ne (by decide)]
    exact h.e3
  · have hq := h.kr q (List.mem_of_getElem? hm)
    rw [List.getElem?_set_ne (fun z => hq.1 z.symm), List.getElem?_set_ne (fun z => hq.2.1 z.symm)]
    exact h.a m q p' j hm hl
theorem WI.push {ks o : List Nat} {l : List (Nat × Nat)} {k p j q : Nat} (h : WI S (ks ++ [k]) o (l ++ [(p, j)])) : WI ((S.set k (Ob.lst [.dat (nD p), .dat (nD (j + 1))]) ++ [Ob.lst [.dat (nD q), .dat (nD 0)]]).set 3 (Ob.lst ((ks ++ [k]).map SD.rf ++ [SD.rf S.length]))) (ks ++ [k] ++ [S.length]) o (l ++ [(p, j + 1), (q, 0)]) := by
  have hn := h.n
  have hkl : ks.length = l.length := by have := h.kl; simpa using this
  have hkm : k ∈ ks ++ [k] := by simp
  have hkS := h.below k hkm
  have hkr := h.kr k hkm
  have hku := List.nodup_append.mp h.ku
  have lenS : (S.set k (.lst [.dat (nD p), .dat (nD (j + 1))]) ++ [.lst [.dat (nD q), .dat (nD 0)]] : Sto).length = S.length + 1 := by simp
  have low : ∀ m : Nat, m < S.length → m ≠ k → m ≠ 3 → ((S.set k (Ob.lst [.dat (nD p), .dat (nD (j + 1))]) ++ [Ob.lst [.dat (nD q), .dat (nD 0)]]).set 3 (Ob.lst ((ks ++ [k]).map SD.rf ++ [SD.rf S.length])) : Sto)[m]? = S[m]? := fun m hm h1 h2 => by
    rw [List.getElem?_set_ne (fun z => h2 z.symm), List.getElem?_append_left (by rw [List.length_set]; exact hm), List.getElem?_set_ne (fun z => h1 z.symm)]
  refine ⟨by rw [List.length_set, lenS]; omega, ?_, ?_, ?_, by simp [hkl], ?_, fun m hm => ?_, fun m c p' j' hm hl => ?_⟩
  · rw [low 0 (by omega) (fun z => hkr.1 z.symm) (by decide)]; exact h.e0
  · rw [low 1 (by omega) (fun z => hkr.2.1 z.symm) (by decide)]; exact h.e1
  · rw [List.getElem?_set_self (by rw [lenS]; omega)]
    simp
  · rw [List.nodup_append]
    refine ⟨h.ku, by simp, fun a ha b hb => ?_⟩
    rw [List.mem_singleton.mp hb]
    have := h.below a ha
    omega
  · rcases List.mem_append.mp hm with hm | hm
    · exact h.kr m hm
    · rw [List.mem_singleton.mp hm]; omega
  · rw [show l ++ [(p, j + 1), (q, 0)] = l ++ [(p, j + 1)] ++ [(q, 0)] by simp] at hl
    by_cases h1 : m < ks.length
    · rw [List.getElem?_append_left (by simp; omega), List.getElem?_append_left h1] at hm
      rw [List.getElem?_append_left (by simp; omega), List.getElem?_append_left (by omega)] at hl
      have hc := h.a m c p' j' (by rw [List.getElem?_append_left h1]; exact hm) (by rw [List.getElem?_append_left (by omega)]; exact hl)
      have hcm := List.mem_of_getElem? hm
      rw [low c (h.below c (List.mem_append_left _ hcm)) (fun z => hku.2.2 c hcm k (by simp) z) (h.kr c (List.mem_append_left _ hcm)).2.2]
      exact hc
    · by_cases h2 : m = ks.length
      · subst h2
        rw [List.getElem?_append_left (by simp), List.getElem?_append_right (by omega), Nat.sub_self] at hm
        rw [List.getElem?_append_left (by simp; omega), List.getElem?_append_right (by omega), show ks.length - l.length = 0 by omega] at hl
        cases hm; cases hl
        rw [List.getElem?_set_ne (fun z => hkr.2.2 z.symm), List.getElem?_append_left (by rw [List.length_set]; exact hkS), List.getElem?_set_self hkS]
      · have h3 : m = ks.length + 1 := by
          have := (List.getElem?_eq_some_iff.mp hm).1
          simp at this
          omega
        subst h3
        rw [List.getElem?_append_right (by simp), show ks.length + 1 - (ks ++ [k]).length = 0 by simp] at hm
        rw [List.getElem?_append_right (by simp; omega), show ks.length + 1 - (l ++ [(p, j + 1)]).length = 0 by simp; omega] at hl
        cases hm; cases hl
        rw [List.getElem?_set_ne (by omega), List.getElem?_append_right (by rw [List.length_set]; omega), List.length_set, Nat.sub_self]
        rfl
theorem WI.res {ks o : List Nat} {l : List (Nat × Nat)} (h : WI S ks o l) : res S 4 (.rf 3) = some (.lst (l.map fun y => .lst [nD y.1, nD y.2])) := by
  refine res_lst h.e3 ?_
  have : ∀ (ks : List Nat) (l : List (Nat × Nat)), ks.length = l.length → (∀ (m k p j : Nat), ks[m]? = some k → l[m]? = some (p, j) → S[k]? = some (Ob.lst [.dat (nD p), .dat (nD j)])) → alls (G.res S 3) (ks.map SD.rf) = some (l.map fun y => .lst [nD y.1, nD y.2]) := by
    intro ks
    induction ks with
    | nil =>
      intro l hl _
      cases l with
      | nil => rfl
      | cons _ _ => cases hl
    | cons k ks ih =>
      intro l hl ha
      cases l with
      | nil => cases hl
      | cons y l =>
        rw [List.map_cons, List.map_cons]
        refine alls_cons ?_ (ih l (by simpa using hl) fun m k p j h1 h2 => ha (m + 1) k p j (by simpa using h1) (by simpa using h2))
        have := ha 0 k y.1 y.2 rfl rfl
        exact res_lst (ds := [nD y.1, nD y.2]) this rfl
  exact this ks l h.kl h.a
end
theorem runW_stop {rows : List Row} {num t : Nat} (h : (runW rows num t).2 = []) : ∀ k, runW rows num (t + k) = runW rows num t
  | 0 => rfl
  | k + 1 => by
    rw [show t + (k + 1) = t + k + 1 by omega, runW, runW_stop h k]
    unfold stepW
    rw [h]
    rfl
theorem runW_len (rows : List Row) (num : Nat) : ∀ t, (runW rows num t).2.length ≤ t + 1
  | 0 => by simp [runW]
  | t + 1 => by
    have := runW_len rows num t
    rw [runW]
    generalize runW rows num t = s at *
    unfold stepW
    cases h : s.2.getLast? with
    | none => dsimp only; omega
    | some x =>
      obtain ⟨p, j⟩ := x
      dsimp only
      have hd : s.2.dropLast.length = s.2.length - 1 := List.length_dropLast
      have hne : s.2 ≠ [] := fun z => by rw [z] at h; cases h
      have hpos := List.length_pos_iff.mpr hne
      split
      · show s.2.dropLast.length ≤ _; omega
      · split
        · split
          · show s.2.dropLast.length ≤ _; omega
          · show (s.2.dropLast ++ [_, _]).length ≤ _
            rw [List.length_append, hd]
            simp
            omega
        · show s.2.dropLast.length ≤ _; omega
def relWithin (w : World) (ds : List D) (r : Res) : Prop := ∃ rows hs num, ds = [storeD w rows hs, nD num] ∧ RowsOk rows ∧ rows.length ≤ 1000 ∧ num < rows.length ∧ r = .rt (.lst ((within rows num).map nD))
section
variable {K : PySem.W.Frag} {W : WX} {δ : DEnv}
theorem d_rowS {w : World} {rows : List Row} {hs : List Nat} {i : Nat} {r : Row} {te ti : TE} (h : DE K δ te (storeD w rows hs)) (hi : DE K δ ti (nD i)) (hr : rows[i]? = some r) : DE K δ (tOp (rIx' K) (tOp (rIx' K) te (tC (.int 0))) ti) (r.d false) :=
  d_op (d_op h d_int (o_ixl (j := 0) rfl rfl)) hi (o_ixl (j := i) (by rw [List.length_map]; exact ixN_of rfl (List.getElem?_eq_some_iff.mp hr).1) (by rw [List.getElem?_map, hr]; rfl))
theorem within_wm (w : World) (ds : List D) (r : Res) (h : relWithin w ds r) (E : XK) : WM K (WF E) (ds.map SD.dat ++ List.replicate (8 - ds.length) SD.no) [] (t__law_within K) (fun o => FitsDM2 o r) := by
  obtain ⟨rows, hs, num, rfl, ok, hn, hnum, rfl⟩ := h
  show WM K (WF E) [.dat (storeD w rows hs), .dat (nD num), .no, .no, .no, .no, .no, .no] _ _ _
  unfold t__law_within
  apply m_asg (mx_lst ma_nil (by simp))
  apply m_asg mx_dnew
  apply m_asg (mx_lst (ma_cons (mx_lst (ma_cons (mx_de false (d := nD num) (d_var rfl) (fun z => nomatch z)) (ma_cons (mx_de false (d := nD 0) d_int (fun z => nomatch z)) ma_nil)) (by simp)) ma_nil) (by simp))
  show WM K (WF E) [.dat (storeD w rows hs), .dat (nD num), .rf 0, .rf 1, .rf 3, .no, .no, .no] [.lst [], .dct [] [], .lst [.dat (nD num), .dat (nD 0)], .lst [.rf 2]] _ _
  have v0 : ∀ {l : Bool} {S : Sto} {a b c d e f g : SD}, DE K (fm l S [.dat (storeD w rows hs), a, b, c, d, e, f, g]) (tVar 0) (storeD w rows hs) := fun {l} => by cases l <;> exact d_var rfl
  have fin : ∀ {S : Sto} {ks : List Nat} {a b c d e f : SD}, WI S ks (within rows num) (runW rows num (12 * rows.length + 12)).2 → WM K (WF E) [.dat (storeD w rows hs), a, .rf 0, b, c, d, e, f] S (tRet (tVar 2)) (fun o => FitsDM2 o (.rt (.lst ((within rows num).map nD)))) := fun {S ks a b c d e f} hw => by
    apply m_last
    apply m_ret (mx_var (x := .rf 0) rfl (fun z => by cases z))
    show G.res S 4 (.rf 0) = _
    exact res_lst hw.e0 alls_dats
  refine m_forP (it_rng1 (n := 12 * rows.length + 12) (m := ((12 * rows.length + 12 : Nat) : Int)) (d_acons (de_is (d_op (d_op d_int (d_cb (d_acons (d_op v0 d_int (o_ixl (j := 0) rfl rfl)) d_anil) c_leni) (o_muli (.inl ⟨by decide, by decide⟩))) d_int o_addi) (by rw [List.length_map]; show D.int _ = D.int _; congr 1)) d_anil) (by omega) (by omega)) (fun i ρ S => ρ = [.dat (storeD w rows hs), .dat (nD num), .rf 0, .rf 1, .rf 3, .no, .no, .no] ∧ ∃ ks, WI S ks (runW rows num i).1 (runW rows num i).2) _ (wkM.refl _) ⟨rfl, [2], ⟨by simp, rfl, rfl, rfl, rfl, by simp, by simp, fun m k p j h1 h2 => by
    have hm : m = 0 := by
      have := (List.getElem?_eq_some_iff.mp h1).1
      simpa using this
    subst hm
    cases h1; cases h2
    rfl⟩⟩ ?_ ?_
  · rintro i x ρ S hx ⟨rfl, ks, hw⟩
    obtain ⟨hi, rfl⟩ := rngD_val hx
    have hinv := runW_inv ok hnum i
    have estep : runW rows num (i + 1) = stepW rows (runW rows num i) := rfl
    refine ⟨_, g_name', ?_⟩
    -- nothing waits: leave
    by_cases hl : (runW rows num i).2 = []
    · have hstop := runW_stop hl (12 * rows.length + 12 - i)
      rw [show i + (12 * rows.length + 12 - i) = 12 * rows.length + 12 by omega] at hstop
      apply m_ifT (mt_dt true (dt_not (b := false) (dt_is (dt_tru (d_var (d := .lst ((runW rows num i).2.map fun y => .lst [nD y.1, nD y.2])) (by
        show some (G.res S 4 (.rf 3)) = _
        rw [hw.res])) trivial) (by rw [hl]; rfl))))
      apply m_brk
      refine fin (ks := ks) ?_
      unfold within
      rw [hstop]
      exact hw
    · generalize hss : runW rows num i = s at *
      obtain ⟨o, l⟩ := s
      obtain ⟨l', ⟨p, j⟩, rfl⟩ : ∃ l' y, l = l' ++ [y] := ⟨_, _, (List.dropLast_concat_getLast hl).symm⟩
      have hkl := hw.kl
      obtain ⟨ks', k, rfl⟩ : ∃ ks' k, ks = ks' ++ [k] := by
        have hne : ks ≠ [] := fun z => by rw [z] at hkl; simp at hkl
        exact ⟨_, _, (List.dropLast_concat_getLast hne).symm⟩
      have hkl' : ks'.length = l'.length := by simpa using hkl
      have hk : S[k]? = some (.lst [.dat (nD p), .dat (nD j)]) := hw.a ks'.length k p j (by rw [List.getElem?_append_right (by omega), Nat.sub_self]; rfl) (by rw [List.getElem?_append_right (by omega), show ks'.length - l'.length = 0 by omega]; rfl)
      obtain ⟨hpl, hpd⟩ := chain_last hinv.c
      have hol : o.length < 10000000 := by
        have := nodup_le (m := List.range rows.length) hinv.u (fun q hq => List.mem_range.mpr (hinv.lt q hq))
        rw [List.length_range] at this
        have h2 : o.length ≤ rows.length := this
        omega
      have hkn : (ks' ++ [k]).length < 10000000 := by
        have := runW_len rows num i
        rw [hss] at this
        rw [hkl]
        have h2 : (l' ++ [(p, j)]).length ≤ i + 1 := this
        omega
      apply m_ifF (mt_dt true (dt_not (b := true) (dt_is (dt_tru (d_var (d := .lst ((l' ++ [(p, j)]).map fun y => .lst [nD y.1, nD y.2])) (by
        show some (G.res S 4 (.rf 3)) = _
        rw [hw.res])) trivial) (by show (!((l' ++ [(p, j)]).map _).isEmpty) = true; simp))))
      apply m_next
      -- top
      apply m_asg (mx_ix false (j := 3) (m := -1) (k := ks'.length) (x := .rf k) (zs := (ks' ++ [k]).map SD.rf) (mx_var rfl (fun z => by cases z)) (d_neg d_int) hw.e3 (by
        unfold ixN
        rw [if_neg (by decide), if_pos (by simp; omega)]
        simp
        omega) (by rw [List.getElem?_map, List.getElem?_append_right (by omega), Nat.sub_self]; rfl))
      have topD : ∀ {a b c d e f g : SD}, DE K (fm true S [a, b, c, d, e, f, .rf k, g]) (tVar 6) (.lst [nD p, nD j]) := d_var (by
        show some (G.res S 4 (.rf k)) = _
        rw [res_lst (ds := [nD p, nD j]) hk rfl])
      have top0 : ∀ {a b c d e f g : SD}, DE K (fm true S [a, b, c, d, e, f, .rf k, g]) (tOp (rIx' K) (tVar 6) (tC (.int 0))) (nD p) := d_op topD d_int (o_ixl (j := 0) rfl rfl)
      have top1 : ∀ {a b c d e f g : SD}, DE K (fm true S [a, b, c, d, e, f, .rf k, g]) (tOp (rIx' K) (tVar 6) (tC (.int 1))) (nD j) := d_op topD d_int (o_ixl (j := 1) rfl rfl)
      obtain ⟨row, hrow⟩ : ∃ row, rows[p]? = some row := ⟨_, List.getElem?_eq_getElem hpl⟩
      apply m_asg (mx_de true (d := row.d false) (d_rowS v0 top0 hrow) (fun _ => row_sol row))
      apply m_last
      have rowD : ∀ {l : Bool} {S : Sto} {a b c d e f g : SD}, DE K (fm l S [a, b, c, d, e, f, g, .dat (row.d false)]) (tVar 7) (row.d false) := fun {l} => by cases l <;> exact d_var rfl
      have key : ∀ {a b c d e f g : SD}, DE K (fm true S [a, b, c, d, e, f, .rf k, g]) (tOp (rIx' K) (tVar 6) (tC (.int 0))) (kD (keyI p)) := top0
      have w6 : ∀ {a6 a7 a5 : SD}, wkM [.dat (storeD w rows hs), .dat (nD num), .rf 0, .rf 1, .rf 3, a5, a6, a7] [.dat (storeD w rows hs), .dat (nD num), .rf 0, .rf 1, .rf 3, .no, .no, .no] := wkMc (.inr rfl) (wkMc (.inr rfl) (wkMc (.inr rfl) (wkMc (.inr rfl) (wkMc (.inr rfl) (wkMc (.inl rfl) (wkMc (.inl rfl) (wkMc (.inl rfl) wkM0)))))))
      have step0 : stepW rows (o, l' ++ [(p, j)]) = if p ∈ o then (o, l') else match rows[p]? with
          | some (.dd _ ps) => if j = ps.length then (o ++ [p], l') else (o, l' ++ [(p, j + 1), (ps.getD j 0, 0)])
          | _ => (o ++ [p], l') := by
        unfold stepW
        rw [List.getLast?_concat]
        dsimp only
        rw [List.dropLast_concat]
        all_goals rfl
      have inD : DE K (fm true S [.dat (storeD w rows hs), .dat (nD num), .rf 0, .rf 1, .rf 3, .dat (.int (i : Int)), .rf k, .dat (row.d false)]) (tOp (rIn' K) (tOp (rIx' K) (tVar 6) (tC (.int 0))) (tVar 3)) (.bl (decide (p ∈ o))) := de_is (d_op key (d_var (d := .dct (o.map keyI) (List.replicate o.length (D.bl true))) (by
        show some (G.res S 4 (.rf 1)) = _
        show some (match S[1]? with
          | some (.lst xs) => (alls (G.res S 3) xs).map D.lst
          | some (.ins C ns xs) => (alls (G.res S 3) xs).map (D.ins C ns)
          | some (.dct ks xs) => (alls (G.res S 3) xs).map (D.dct ks)
          | some (.ndc w kds xs) => (alls (G.res S 3) xs).map (D.ndc w kds)
          | _ => none) = _
        rw [hw.e1]
        dsimp only
        rw [alls_dats]
        rfl)) o_inK) (by rw [hasK_ints])
      by_cases hp : p ∈ o
      · rw [step0, if_pos hp] at estep
        apply m_ifT (mt_dt true (dt_is (dt_test inD) (decide_eq_true hp)))
        refine m_popD (j := 3) (zs := ks'.map SD.rf) (x := .rf k) (mx_var rfl (fun z => by cases z)) (by rw [hw.e3, List.map_append]; rfl) ?_
        apply m_nx
        refine ⟨_, w6, rfl, ks', ?_⟩
        rw [estep]
        exact hw.pop
      · rw [step0, if_neg hp, hrow] at estep
        apply m_ifF (mt_dt true (dt_is (dt_test inD) (decide_eq_false hp)))
        have bdone : (runW rows num (i + 1) = (o ++ [p], l')) → WM K (WF E) [.dat (storeD w rows hs), .dat (nD num), .rf 0, .rf 1, .rf 3, .dat (.int (i : Int)), .rf k, .dat (row.d false)] S (tSeq (tSeq (tAsg (tC (.bl true)) (gSub (tVar 3) (tOp (rIx' K) (tVar 6) (tC (.int 0))) rSet')) (tSeq (tDrop (tBM K "list" rAppend (tVar 2) (tCons (tOp (rIx' K) (tVar 6) (tC (.int 0))) tNil))) (tDrop (tBM0 K "list" rPop (tVar 4))))) tNext) (TurnsM (fun ρ S => ∃ ρ', wkM ρ ρ' ∧ ρ' = [.dat (storeD w rows hs), .dat (nD num), .rf 0, .rf 1, .rf 3, .no, .no, .no] ∧ ∃ ks, WI S ks (runW rows num (i + 1)).1 (runW rows num (i + 1)).2) (fun ρ S => WM K (WF E) ρ S (tRet (tVar 2)) (fun o => FitsDM2 o (.rt (.lst ((within rows num).map nD))))) (fun o => FitsDM2 o (.rt (.lst ((within rows num).map nD))))) := fun e => by
          obtain hdn := hw.done hp
          have h1 : 1 < S.length := by have := hw.n; omega
          have hks1 := hw.kr k (by simp)
          apply m_assoc
          refine m_dput true (j := 1) (key := keyI p) (x := .bl true) (es := List.replicate o.length (D.bl true)) (ks := o.map keyI) d_bl (fun _ => rfl) (mx_var (x := .rf 1) rfl (fun z => by cases z)) key hw.e1 (by rw [List.length_map]; exact hol) ?_
          apply m_assoc
          refine m_app (j := 0) (x := .dat (nD p)) (zs := (o.map nD).map SD.dat) (mx_var (x := .rf 0) rfl (fun z => by cases z)) ⟨_, by rw [List.getElem?_set_ne (by decide)]; exact hw.e0⟩ (mx_de true (d_op (d_var (d := .lst [nD p, nD j]) (by
            show some (G.res _ 4 (.rf k)) = _
            rw [res_lst (ds := [nD p, nD j]) (zs := [.dat (nD p), .dat (nD j)]) (by rw [List.getElem?_set_ne (fun z => hks1.2.1 z.symm)]; exact hk) rfl])) d_int (o_ixl (j := 0) rfl rfl)) (fun _ => rfl)) (by rw [List.getElem?_set_ne (by decide)]; exact hw.e0) (by rw [List.length_map, List.length_map]; exact hol) ?_
          refine m_popD (j := 3) (zs := ks'.map SD.rf) (x := .rf k) (mx_var rfl (fun z => by cases z)) (by rw [hdn.e3, List.map_append]; rfl) ?_
          apply m_nx
          refine ⟨_, w6, rfl, ks', ?_⟩
          rw [e]
          exact hdn.pop
        cases row with
        | th q =>
          apply m_ifT (mt_dt true (dt_is (b := true || true) (dt_or (dt_is (c := true) (dt_test (d_eqL (l := sThing) (d_lst (c := false) (ds := [sD sThing, sD q]) (j := 0) rowD rfl) rfl)) rfl) (fun z => nomatch z)) rfl))
          exact bdone estep
        | dd n ps =>
          obtain ⟨hjp, _⟩ := hpd n ps hrow
          have hpsl := (ok.d p n ps hrow).1
          have row2 : ∀ {l : Bool} {S : Sto} {a b c d e f g : SD}, DE K (fm l S [a, b, c, d, e, f, g, .dat ((Row.dd n ps).d false)]) (tOp (rIx' K) (tVar 7) (tC (.int 2))) (.tup (ps.map nD)) := d_lst (c := false) (ds := [sD sDeed, sD n, .tup (ps.map nD)]) (j := 2) rowD rfl
          have tst : DT K (fm true S [.dat (storeD w rows hs), .dat (nD num), .rf 0, .rf 1, .rf 3, .dat (.int (i : Int)), .rf k, .dat ((Row.dd n ps).d false)]) (tOr (tTest (tOp (rEq' K) (tOp (rIx' K) (tVar 7) (tC (.int 0))) (tC (.str "thing")))) (tTest (tOp (rEq' K) (tOp (rIx' K) (tVar 6) (tC (.int 1))) (tCB (rLen' K) (tCons (tOp (rIx' K) (tVar 7) (tC (.int 2))) tNil))))) (decide (j = ps.length)) :=
            dt_is (b := false || decide (j = ps.length)) (dt_or (dt_is (c := false) (dt_test (d_eqL (l := sDeed) (d_lst (c := false) (ds := [sD sDeed, sD n, .tup (ps.map nD)]) (j := 0) rowD rfl) rfl)) rfl) (fun _ => dt_is (dt_test (d_op top1 (d_cb (d_acons row2 d_anil) c_lent) o_eqi)) (by rw [List.length_map]; exact decide_eq_decide.mpr (by omega)))) (by simp)
          by_cases hj : j = ps.length
          · dsimp only at estep
            rw [if_pos hj] at estep
            apply m_ifT (mt_dt true (dt_is tst (decide_eq_true hj)))
            exact bdone estep
          · dsimp only at estep
            rw [if_neg hj] at estep
            have hjl : j < ps.length := by omega
            apply m_ifF (mt_dt true (dt_is tst (decide_eq_false hj)))
            apply m_assoc
            refine m_put true (x := .dat (nD (j + 1))) (S2 := S) (zs := [.dat (nD p), .dat (nD j)]) (j := k) (m := 1) (k0 := 1) (mx_de true (de_is (d_op top1 d_int o_addi) rfl) (fun _ => rfl)) (mx_var (x := .rf k) rfl (fun z => by cases z)) d_int hk (ixN_of rfl (by simp)) ?_
            have hkS := (List.getElem?_eq_some_iff.mp hk).1
            have hks1 := hw.kr k (by simp)
            have topD2 : ∀ {a b c d e f g : SD}, DE K (fm true (S.set k (.lst [.dat (nD p), .dat (nD (j + 1))])) [a, b, c, d, e, f, .rf k, g]) (tVar 6) (.lst [nD p, nD (j + 1)]) := d_var (by
              show some (G.res _ 4 (.rf k)) = _
              rw [res_lst (ds := [nD p, nD (j + 1)]) (List.getElem?_set_self hkS) rfl])
            have hq : ps[j]? = some (ps.getD j 0) := by rw [List.getD_eq_getElem?_getD, List.getElem?_eq_getElem hjl]; rfl
            have idx : ∀ {a b c d e f g : SD}, DE K (fm true (S.set k (.lst [.dat (nD p), .dat (nD (j + 1))])) [a, b, c, d, e, f, .rf k, g]) (tOp rSub' (tOp (rIx' K) (tVar 6) (tC (.int 1))) (tC (.int 1))) (nD j) := de_is (d_op (x := nD (j + 1)) (d_op topD2 d_int (o_ixl (j := 1) rfl rfl)) d_int o_subi) (by show D.int _ = D.int _; congr 1; omega)
            have e3' : (S.set k (.lst [.dat (nD p), .dat (nD (j + 1))]))[3]? = some (.lst ((ks' ++ [k]).map SD.rf)) := by rw [List.getElem?_set_ne hks1.2.2]; exact hw.e3
            refine m_app (j := 3) (x := .rf S.length) (zs := (ks' ++ [k]).map SD.rf) (S2 := S.set k (.lst [.dat (nD p), .dat (nD (j + 1))]) ++ [.lst [.dat (nD (ps.getD j 0)), .dat (nD 0)]]) (mx_var (x := .rf 3) rfl (fun z => by cases z)) ⟨_, e3'⟩ (by
              have := mx_lst (K := K) (S := S.set k (.lst [.dat (nD p), .dat (nD (j + 1))])) (ρ := [.dat (storeD w rows hs), .dat (nD num), .rf 0, .rf 1, .rf 3, .dat (.int (i : Int)), .rf k, .dat ((Row.dd n ps).d false)]) (ma_cons (mx_de true (d := nD (ps.getD j 0)) (d_op row2 idx (o_ixt (j := j) (ixN_of rfl (by rw [List.length_map]; exact hjl)) (by rw [List.getElem?_map, hq]; rfl))) (fun _ => rfl)) (ma_cons (mx_de true (d := nD 0) d_int (fun _ => rfl)) ma_nil)) (by simp)
              rw [List.length_set] at this
              exact this) (by rw [List.getElem?_append_left (by rw [List.length_set]; have := hw.n; omega)]; exact e3') (by rw [List.length_map]; exact hkn) ?_
            apply m_nx
            refine ⟨_, w6, rfl, ks' ++ [k] ++ [S.length], ?_⟩
            rw [estep]
            exact hw.push
  · rintro ρ S ⟨rfl, ks, hw⟩
    rw [rngD_len] at hw
    exact fin hw
end
end K63

set_option Elab.async false
set_option linter.all false
set_option maxRecDepth 100000
set_option maxHeartbeats 4000000
/-! U63: _law_sheet, _law_due. -/
namespace K63
open PySem PySem.Spec PyProof.Rows L2 G Pm Tm
theorem wkc {x x' : Sl} {r r' : SEnv} (h : x' = .no ∨ x = x') (t : wk r r') : wk (x :: r) (x' :: r') := ⟨h, t⟩
theorem wk0 : wk [] [] := trivial
theorem keyI_inj {m n : Nat} (h : keyI m = keyI n) : m = n := by
  injection h with h
  omega
theorem atK_ints : ∀ (ns : List Nat) (k : Nat) (n : Nat), n ∈ ns → atK (ns.map keyI) ((List.range' k ns.length).map nD) (keyI n) = some (nD (k + ns.idxOf n))
  | [], k, n, h => by cases h
  | m :: ns, k, n, h => by
    rw [List.length_cons, List.range'_succ, List.map_cons, List.map_cons]
    unfold atK
    rw [List.zip_cons_cons, List.find?_cons, List.idxOf_cons]
    by_cases e : m = n
    · subst e
      simp
    · have hm : n ∈ ns := by
        rcases List.mem_cons.mp h with z | z
        · exact absurd z.symm e
        · exact z
      have hne : ¬ keyI m = keyI n := fun z => e (keyI_inj z)
      have := atK_ints ns (k + 1) n hm
      unfold atK at this
      rw [(beq_eq_false_iff_ne.mpr e : (m == n) = false)]
      simp only [hne, decide_false, cond_false]
      rw [this]
      congr 2
      omega
theorem idxOf_take {o : List Nat} {i x : Nat} (h : x ∈ o.take i) : (o.take i).idxOf x = o.idxOf x := by
  have e : o = o.take i ++ o.drop i := (List.take_append_drop i o).symm
  conv => rhs; rw [e]
  rw [List.idxOf_append, if_pos h]
def relSheet (w : World) (ds : List D) (r : Res) : Prop := ∃ rows hs num, ds = [storeD w rows hs, nD num] ∧ RowsOk rows ∧ rows.length ≤ 1000 ∧ num < rows.length ∧ r = .rt (.tup ((sheetOf rows (within rows num)).map (Row.d false)))
section
variable {K : PySem.W.Frag} {W : WX} {δ : DEnv}
theorem sheet_wp (w : World) (ds : List D) (r : Res) (h : relSheet w ds r) : WP K W (ds.map Sl.va ++ List.replicate (7 - ds.length) Sl.no) (t__law_sheet K (spD K (relWithin w))) (fun o => Fits o r) := by
  obtain ⟨rows, hs, num, rfl, ok, hn, hnum, rfl⟩ := h
  show WP K W [.va (storeD w rows hs), .va (nD num), .no, .no, .no, .no, .no] _ _
  unfold t__law_sheet
  have inv := within_inv ok hnum
  have hw : (runW rows num (12 * rows.length + 12)).1 = within rows num := rfl
  have hu := inv.u
  have hlt := inv.lt
  have hd := inv.d
  rw [hw] at hu hlt hd
  have v0 : ∀ {l : Bool} {a b c d e f : Sl}, DE K (fz l [.va (storeD w rows hs), a, b, c, d, e, f]) (tVar 0) (storeD w rows hs) := d_var rfl
  have hol : (within rows num).length ≤ 1000 := by
    have := nodup_le (m := List.range rows.length) hu (fun q hq => List.mem_range.mpr (hlt q hq))
    rw [List.length_range] at this
    omega
  have hcall : ∀ {l : Bool} {b c d e f : Sl}, DE K (fz l [.va (storeD w rows hs), .va (nD num), b, c, d, e, f]) (tCallR (spD K (relWithin w)) E0 (tCons (tVar 0) (tCons (tVar 1) tNil))) (.lst ((within rows num).map nD)) := d_call (d_acons v0 (d_acons (d_var rfl) d_anil)) (show relWithin w _ _ from ⟨rows, hs, num, rfl, ok, hn, hnum, rfl⟩)
  generalize within rows num = o at *
  apply q_setN false dn_dict0 (fun z => nomatch z)
  apply q_setL false (dl_lst d_anil (by simp)) (fun z => nomatch z)
  refine q_forP (it_lst (ds := o.map nD) hcall) (fun i S => S = [.va (storeD w rows hs), .va (nD num), .ow (.dct ((o.take i).map keyI) ((List.range' 0 (o.take i).length).map nD)), .ow (.lst (((sheetOf rows o).take i).map (Row.d false))), .no, .no, .no]) _ (wk.refl _) rfl ?_ ?_
  · rintro i d S hx rfl
    rw [List.getElem?_map] at hx
    cases hp : o[i]? with
    | none => rw [hp] at hx; cases hx
    | some p =>
      rw [hp] at hx
      cases hx
      have hil := (List.getElem?_eq_some_iff.mp hp).1
      have hpl := hlt p (List.mem_of_getElem? hp)
      obtain ⟨row, hrow⟩ : ∃ row, rows[p]? = some row := ⟨_, List.getElem?_eq_getElem hpl⟩
      have hsh : (sheetOf rows o)[i]? = some (reRow o row) := by
        unfold sheetOf
        rw [List.getElem?_map, hp]
        show some (reRow o (rows.getD p (.th []))) = _
        rw [List.getD_eq_getElem?_getD, hrow]
        rfl
      have htl : (o.take i).length = i := by rw [List.length_take]; omega
      have hsl : ((sheetOf rows o).take i).length = i := by
        unfold sheetOf
        rw [List.length_take, List.length_map]; omega
      have hfresh : p ∉ o.take i := fun z => by
        have e := (List.getElem?_eq_some_iff.mp hp).2
        have e2 : o = o.take i ++ p :: o.drop (i + 1) := by rw [← e, ← List.drop_eq_getElem_cons hil, List.take_append_drop]
        rw [e2] at hu
        exact (List.nodup_append.mp hu).2.2 p z p List.mem_cons_self rfl
      have tko : o.take (i + 1) = o.take i ++ [p] := by rw [List.take_add_one, hp]; rfl
      refine ⟨_, g_name', ?_⟩
      apply q_set false (d := row.d false) (d_rowS v0 (d_var rfl) hrow) (fun z => nomatch z)
      have tail : WP K W [.va (storeD w rows hs), .va (nD num), .ow (.dct ((o.take i).map keyI) ((List.range' 0 (o.take i).length).map nD)), .ow (.lst (((sheetOf rows o).take i).map (Row.d false))), .va (nD p), .va ((reRow o row).d false), .no] (tSeq (tAsg (tCB (rLen' K) (tCons (tVar 3) tNil)) (gSub (tVar 2) (tVar 4) rSet')) (tDrop (tBM K "list" rAppend (tVar 3) (tCons (tVar 5) tNil)))) (Turns (fun ρ => ∃ S', wk ρ S' ∧ S' = [.va (storeD w rows hs), .va (nD num), .ow (.dct ((o.take (i + 1)).map keyI) ((List.range' 0 (o.take (i + 1)).length).map nD)), .ow (.lst (((sheetOf rows o).take (i + 1)).map (Row.d false))), .no, .no, .no]) (fun ρ => WP K W ρ (tRet (tCB (rTuple' K) (tCons (tVar 3) tNil))) (fun o_1 => Fits o_1 (.rt (.tup ((sheetOf rows o).map (Row.d false)))))) (fun o_1 => Fits o_1 (.rt (.tup ((sheetOf rows o).map (Row.d false)))))) := by
        apply q_dput true (k := keyI p) (d := nD i) (i := 2) (ks := (o.take i).map keyI) (ds := (List.range' 0 (o.take i).length).map nD) rfl (de_is (d_cb (d_acons (d_var (d := .lst (((sheetOf rows o).take i).map (Row.d false))) rfl) d_anil) c_leni) (by rw [List.length_map, hsl]; rfl)) (fun _ => rfl) (d_var rfl) (by rw [List.length_map]; omega)
        apply q_last
        apply q_app false (i := 3) (ds := ((sheetOf rows o).take i).map (Row.d false)) (d := (reRow o row).d false) rfl (d_var rfl) (fun z => nomatch z) (by rw [List.length_map]; omega)
        apply q_nx
        refine ⟨_, wkc (.inr rfl) (wkc (.inr rfl) (wkc (.inr rfl) (wkc (.inr rfl) (wkc (.inl rfl) (wkc (.inl rfl) (wkc (.inr rfl) wk0)))))), ?_⟩
        have hk : hasK ((o.take i).map keyI) (keyI p) = false := by rw [hasK_ints, decide_eq_false hfresh]
        have e1 : putKs ((o.take i).map keyI) (keyI p) = (o.take (i + 1)).map keyI := by
          unfold putKs
          rw [hk, if_neg (by decide), tko, List.map_append]
          rfl
        have e2 : putDs ((o.take i).map keyI) ((List.range' 0 (o.take i).length).map nD) (keyI p) (nD i) = (List.range' 0 (o.take (i + 1)).length).map nD := by
          unfold putDs
          rw [hk, if_neg (by decide), tko, List.length_append, List.length_singleton, htl, List.range'_concat, List.map_append]
          simp
        have e3 : ((sheetOf rows o).take (i + 1)).map (Row.d false) = ((sheetOf rows o).take i).map (Row.d false) ++ [(reRow o row).d false] := by
          rw [List.take_add_one, hsh, List.map_append]
          rfl
        rw [← e1, ← e2, e3]
      cases row with
      | th q =>
        apply q_ifF false (dt_w (c := false) (r := .th q) (d_var rfl) rfl rfl)
        apply q_next
        exact tail
      | dd n ps =>
        apply q_ifT false (dt_w (c := false) (r := .dd n ps) (d_var rfl) rfl rfl)
        have hps := hd i p hp n ps hrow
        have hpl := (ok.d p n ps hrow).1
        have v5 : ∀ {a b c d e f : Sl}, DE K (fz true [a, b, c, d, e, .va ((Row.dd n ps).d false), f]) (tVar 5) ((Row.dd n ps).d false) := d_var rfl
        apply q_set true (d := (reRow o (.dd n ps)).d false) (d_tup (ds := [sD sDeed, sD n, .tup ((ps.map fun x => o.idxOf x).map nD)]) (d_acons (d_lit rfl) (d_acons (d_lst (c := false) (ds := [sD sDeed, sD n, .tup (ps.map nD)]) (j := 1) v5 rfl) (d_acons (d_cb (d_acons (DL.de (dl_is (dl_mapLG (l := ps) (g := nD) (f := fun x => nD (o.idxOf x)) (it_tup (d_lst (c := false) (ds := [sD sDeed, sD n, .tup (ps.map nD)]) (j := 2) v5 rfl)) (fun x hx => ?_) (by omega)) (by rw [List.map_map]; rfl))) d_anil) c_tupL) d_anil))) (by simp)) (fun _ => row_sol _)
        · exact tail
        · refine d_op (d_var (d := .dct ((o.take i).map keyI) ((List.range' 0 (o.take i).length).map nD)) rfl) (d_var (d := kD (keyI x)) rfl) (o_ixd ?_)
          rw [atK_ints _ _ _ (hps x hx), Nat.zero_add, idxOf_take (hps x hx)]
  · rintro S rfl
    have hl : (o.map nD).length = o.length := List.length_map ..
    have hl2 : (sheetOf rows o).length = o.length := by unfold sheetOf; rw [List.length_map]
    rw [hl, ← hl2, List.take_length]
    apply q_frz 3 rfl
    apply q_last
    exact q_ret false (d_cb (d_acons (d_var rfl) d_anil) c_tupL) rfl
/-! _law_due -/
def relDue (ds : List D) (r : Res) : Prop := ∃ rs, ds = [.tup (rs.map (Row.d false))] ∧ ROk rs ∧ r = .rt (nD (cnt rs))
theorem putKs_names {l : List (List Nat)} {p : List Nat} : putKs (l.map keyN) (keyN p) = (if p ∈ l then l else l ++ [p]).map keyN := by
  unfold putKs
  rw [hasK_names]
  by_cases h : p ∈ l
  · rw [if_pos (decide_eq_true h), if_pos h]
  · rw [if_neg (by rw [decide_eq_false h]; decide), if_neg h, List.map_append]
    rfl
/-- the keys: prefixes of what came -/
structure DueK (rs : List Row) (ks : List (List Nat)) : Prop where
  u : ks.Nodup
  m : ∀ x, x ∈ ks ↔ x ∈ PP rs
theorem due_wp (ds : List D) (r : Res) (h : relDue ds r) : WP K W (ds.map Sl.va ++ List.replicate (5 - ds.length) Sl.no) (t__law_due K) (fun o => Fits o r) := by
  obtain ⟨rs, rfl, ok, rfl⟩ := h
  show WP K W [.va (.tup (rs.map (Row.d false))), .no, .no, .no, .no] _ _
  unfold t__law_due
  have hrn := ok.n
  apply q_setN false (dn_disp1 (key := keyN []) (d := .bl true) (d_lit rfl) d_bl) (fun z => nomatch z)
  apply q_set false (d := nD 0) d_int (fun z => nomatch z)
  have PPs : ∀ {rs : List Row} {r : Row} {x : List Nat}, x ∈ PP (rs ++ [r]) ↔ x ∈ PP rs ∨ ∃ p, r = .th p ∧ x <+: p := fun {rs r x} => by
    rw [PP_mem, PP_mem]
    constructor
    · rintro (h | ⟨p, hp, hx⟩)
      · exact .inl (.inl h)
      · rcases List.mem_append.mp hp with hp | hp
        · exact .inl (.inr ⟨p, hp, hx⟩)
        · exact .inr ⟨p, (List.mem_singleton.mp hp).symm, hx⟩
    · rintro ((h | ⟨p, hp, hx⟩) | ⟨p, rfl, hx⟩)
      · exact .inl h
      · exact .inr ⟨p, List.mem_append_left _ hp, hx⟩
      · exact .inr ⟨p, by simp, hx⟩
  have okP : ∀ {i : Nat}, (∀ p, Row.th p ∈ rs.take i → p.length ≤ 100) := fun {i} p hp => ok.t p (List.mem_of_mem_take hp)
  have lenP : ∀ {i : Nat} {ks : List (List Nat)}, DueK (rs.take i) ks → ks.length ≤ 2121 := fun {i ks} hk => by
    have h1 := nodup_le hk.u (fun x hx => ordS_mem.mp ((hk.m x).mp hx))
    have h2 := prefs_len (l := [] :: things (rs.take i)) (b := 100) (fun p hp => by
      rcases List.mem_cons.mp hp with rfl | hp
      · simp
      · exact okP p (th_mem.mp hp))
    have h3 := things_len (rs.take i)
    rw [List.length_cons] at h2
    rw [List.length_take] at h3
    omega
  refine q_forP (it_tup (ds := rs.map (Row.d false)) (d_var rfl)) (fun i S => ∃ ks vs, DueK (rs.take i) ks ∧ S = [.va (.tup (rs.map (Row.d false))), .ow (.dct (ks.map keyN) vs), .va (nD (nds (rs.take i))), .no, .no]) _ (wk.refl _) ⟨[[]], [.bl true], ⟨by simp, fun x => by rw [List.take_zero, PP_mem]; simp⟩, rfl⟩ ?_ ?_
  · rintro i d S hx ⟨ks, vs, hk, rfl⟩
    rw [List.getElem?_map] at hx
    cases hr : rs[i]? with
    | none => rw [hr] at hx; cases hx
    | some r =>
      rw [hr] at hx
      cases hx
      have tk : rs.take (i + 1) = rs.take i ++ [r] := by rw [List.take_add_one, hr]; rfl
      have hmem := List.mem_of_getElem? hr
      refine ⟨_, g_name', ?_⟩
      apply q_last
      cases r with
      | th p =>
        apply q_ifT false (dt_w (c := false) (r := .th p) (d_var rfl) rfl rfl)
        have hpl := ok.t p hmem
        have vp : ∀ {l : Bool} {a b c e : Sl}, DE K (fz l [a, b, c, .va ((Row.th p).d false), e]) (tOp (rIx' K) (tVar 3) (tC (.int 1))) (sD p) := fun {l a b c e} => d_lst (c := false) (ds := [sD sThing, sD p]) (j := 1) (d_var rfl) rfl
        refine q_forP (it_rng1 (n := p.length) (m := (p.length : Int)) (d_acons (de_is (d_cb (d_acons vp d_anil) (c_lens (by rw [mkS_len, sizeLine_eq]; omega))) (by rw [mkS_len])) d_anil) (by omega) (by omega)) (fun j S => ∃ ks2 vs2, ks2.Nodup ∧ (∀ x, x ∈ ks2 ↔ x ∈ PP (rs.take i) ∨ ∃ m, 1 ≤ m ∧ m ≤ j ∧ x = p.take m) ∧ S = [.va (.tup (rs.map (Row.d false))), .ow (.dct (ks2.map keyN) vs2), .va (nD (nds (rs.take i))), .va ((Row.th p).d false), .no]) _ (wk.refl _) ⟨ks, vs, hk.u, fun x => by
          rw [hk.m]
          constructor
          · exact .inl
          · rintro (h | ⟨m, h1, h2, _⟩)
            · exact h
            · omega, rfl⟩ ?_ ?_
        · rintro j d S hd ⟨ks2, vs2, hu2, hm2, rfl⟩
          obtain ⟨hj, rfl⟩ := rngD_val hd
          refine ⟨_, g_name', ?_⟩
          apply q_last
          have hkl : ks2.length < 10000000 := by
            have := nodup_le (m := ks ++ (List.range (j + 1)).map fun m => p.take m) hu2 (fun x hx => by
              rcases (hm2 x).mp hx with h | ⟨m, h1, h2, rfl⟩
              · exact List.mem_append_left _ ((hk.m x).mpr h)
              · exact List.mem_append_right _ (List.mem_map.mpr ⟨m, List.mem_range.mpr (by omega), rfl⟩))
            rw [List.length_append, List.length_map, List.length_range] at this
            have := lenP hk
            omega
          apply q_dput false (k := keyN (p.take (j + 1))) (d := .bl true) (i := 1) (ks := ks2.map keyN) (ds := vs2) rfl d_bl (fun z => nomatch z) (de_is (d_cut vp d_noPart (d_part (n := ((j + 1 : Nat) : Int)) (d_op (d_var (d := .int (j : Int)) rfl) d_int o_addi)) (by omega)) (by rw [cutD_to]; rfl)) (by rw [List.length_map]; exact hkl)
          apply q_nx
          refine ⟨_, wkc (.inr rfl) (wkc (.inr rfl) (wkc (.inr rfl) (wkc (.inr rfl) (wkc (.inl rfl) wk0)))), (if p.take (j + 1) ∈ ks2 then ks2 else ks2 ++ [p.take (j + 1)]), _, ?_, fun x => ?_, by rw [← putKs_names]⟩
          · split
            · exact hu2
            · rename_i hn
              rw [List.nodup_append]
              exact ⟨hu2, by simp, fun a ha b hb => by rw [List.mem_singleton.mp hb]; exact fun z => hn (z ▸ ha)⟩
          · have : x ∈ (if p.take (j + 1) ∈ ks2 then ks2 else ks2 ++ [p.take (j + 1)]) ↔ x ∈ ks2 ∨ x = p.take (j + 1) := by
              split
              · rename_i h
                exact ⟨.inl, fun z => z.elim id fun e => e ▸ h⟩
              · simp
            rw [this, hm2]
            constructor
            · rintro ((h | ⟨m, h1, h2, h3⟩) | h)
              · exact .inl h
              · exact .inr ⟨m, h1, by omega, h3⟩
              · exact .inr ⟨j + 1, by omega, by omega, h⟩
            · rintro (h | ⟨m, h1, h2, h3⟩)
              · exact .inl (.inl h)
              · by_cases e : m = j + 1
                · exact .inr (e ▸ h3)
                · exact .inl (.inr ⟨m, h1, by omega, h3⟩)
        · rintro S ⟨ks2, vs2, hu2, hm2, rfl⟩
          rw [rngD_len] at hm2
          apply q_nx
          refine ⟨_, wkc (.inr rfl) (wkc (.inr rfl) (wkc (.inr rfl) (wkc (.inl rfl) (wkc (.inr rfl) wk0)))), ks2, vs2, ⟨hu2, fun x => ?_⟩, by rw [tk, nds_snoc]; rfl⟩
          rw [hm2, tk, PPs]
          constructor
          · rintro (h | ⟨m, h1, h2, rfl⟩)
            · exact .inl h
            · exact .inr ⟨p, rfl, List.take_prefix m p⟩
          · rintro (h | ⟨q, e, hx⟩)
            · exact .inl h
            · cases e
              by_cases e : x = []
              · left
                rw [e]
                exact PP_mem.mpr (.inl rfl)
              · exact .inr ⟨x.length, List.length_pos_iff.mpr e, hx.length_le, (List.prefix_iff_eq_take.mp hx)⟩
      | dd n ps =>
        apply q_ifF false (dt_w (c := false) (r := .dd n ps) (d_var rfl) rfl rfl)
        apply q_set false (d := nD (nds (rs.take i) + 1)) (de_is (d_op (d_var (d := nD (nds (rs.take i))) rfl) d_int o_addi) rfl) (fun z => nomatch z)
        apply q_nx
        refine ⟨_, wkc (.inr rfl) (wkc (.inr rfl) (wkc (.inr rfl) (wkc (.inl rfl) (wkc (.inr rfl) wk0)))), ks, vs, ⟨hk.u, fun x => ?_⟩, by rw [tk, nds_snoc]; rfl⟩
        rw [tk, PPs, hk.m]
        constructor
        · exact .inl
        · rintro (h | ⟨q, e, _⟩)
          · exact h
          · cases e
  · rintro S ⟨ks, vs, hk, rfl⟩
    rw [List.length_map, List.take_length] at *
    have hlen : ks.length = (PP rs).length := Nat.le_antisymm (nodup_le hk.u fun x hx => (hk.m x).mp hx) (nodup_le (PP_nodup rs) fun x hx => (hk.m x).mpr hx)
    apply q_last
    exact q_ret true (d := nD (cnt rs)) (de_is (d_op (d_cb (d_acons (d_var (d := .dct (ks.map keyN) vs) rfl) d_anil) c_lenD) (d_var (d := nD (nds rs)) rfl) o_addi) (by rw [List.length_map, hlen]; show D.int _ = D.int _; rfl)) rfl
end
end K63

set_option Elab.async false
set_option linter.all false
set_option maxRecDepth 100000
set_option maxHeartbeats 4000000
/-! V63: _law_small_answer. -/
namespace K63
open PySem PySem.Spec PyProof.Rows L2 G Pm Tm
def dAt (row : List Int) (i : Nat) : Int := row.getD i 0
def thN : List (List Nat) := [[], [97], [98], [97, 97], [97, 98], [98, 97], [98, 98], [97, 97, 98], [98, 97, 98], [97, 98, 98]]
def eN : List Nat := [101, 102, 104, 109]
abbrev St := List Row × List Nat × List Nat
def putS (s : St) (r : Row) (h : Nat) : St := (putR s.1 r, putH s.1 s.2.1 r h, s.2.2 ++ [(putR s.1 r).idxOf r])
def thS (row : List Int) (s : St) (k : Nat) : St := putS s (.th (thN.getD (dAt row (k % 30) % 10).toNat [])) 0
def mine (row : List Int) (ps : List Nat) (k : Nat) : List Nat :=
  [ps.getD (dAt row ((4 + 2 * k) % 30) / 4 % (ps.length : Int)).toNat 0, ps.getD (dAt row ((5 + 2 * k) % 30) % (ps.length : Int)).toNat 0, ps.getD (dAt row ((5 + 2 * k) % 30) / 7 % (ps.length : Int)).toNat 0].take (dAt row ((4 + 2 * k) % 30) % 4).toNat
def ddS (row : List Int) (s : St) (k : Nat) : St := putS s (.dd [eN.getD (dAt row ((4 + 2 * k) % 30) % 4).toNat 0] (mine row s.2.2 k)) (hiOf s.2.1 (mine row s.2.2 k))
def thRun (row : List Int) : Nat → St
  | 0 => ([], [], [])
  | k + 1 => thS row (thRun row k) k
def ddRun (row : List Int) (t : Nat) : Nat → St
  | 0 => thRun row t
  | k + 1 => ddS row (ddRun row t k) k
def topP (row : List Int) (ps : List Nat) : List Nat := [ps.getD (ps.length - 1) 0, ps.getD (dAt row 20 % (ps.length : Int)).toNat 0]
def endS (row : List Int) (t d : Nat) : List Row := putR (ddRun row t d).1 (.dd [104] (topP row (ddRun row t d).2.2))
def endN (row : List Int) (t d : Nat) : Nat := (endS row t d).idxOf (.dd [104] (topP row (ddRun row t d).2.2))
def small (row : List Int) (t d : Nat) : List Row := sheetOf (endS row t d) (within (endS row t d) (endN row t d))
structure SOk (n : Nat) (s : St) : Prop where
  ok : RowsOk s.1
  h : s.2.1.length = s.1.length
  ln : s.1.length ≤ n
  p : s.2.2.length = n
  b : ∀ x ∈ s.2.2, x < s.1.length
def GoodR (s : St) : Row → Prop
  | .th p => p.length ≤ 100
  | .dd _ ps => ps.length ≤ 20 ∧ ∀ x ∈ ps, x < s.1.length
theorem putR_ok {rows : List Row} {r : Row} (ok : RowsOk rows) (g : match r with | .th p => p.length ≤ 100 | .dd _ ps => ps.length ≤ 20 ∧ ∀ x ∈ ps, x < rows.length) : RowsOk (putR rows r) := by
  unfold putR
  split
  · exact ok
  · rename_i hn
    refine ⟨?_, fun i n ps e => ?_, fun p hp => ?_⟩
    · rw [List.nodup_append]
      exact ⟨ok.u, by simp, fun a ha b hb => by rw [List.mem_singleton.mp hb]; exact fun z => hn (z ▸ ha)⟩
    · by_cases hi : i < rows.length
      · rw [List.getElem?_append_left hi] at e
        exact ok.d i n ps e
      · rw [List.getElem?_append_right (by omega)] at e
        have h0 : i - rows.length = 0 := by
          have := (List.getElem?_eq_some_iff.mp e).1
          simp at this
          omega
        rw [h0] at e
        cases e
        exact ⟨g.1, fun x hx => by have := g.2 x hx; omega⟩
    · rcases List.mem_append.mp hp with hp | hp
      · exact ok.t p hp
      · rw [← List.mem_singleton.mp hp] at g
        exact g
theorem putR_len (rows : List Row) (r : Row) : rows.length ≤ (putR rows r).length ∧ (putR rows r).length ≤ rows.length + 1 := by
  unfold putR
  split
  · omega
  · simp
theorem putS_ok {n h : Nat} {s : St} {r : Row} (g : SOk n s) (hr : GoodR s r) : SOk (n + 1) (putS s r h) := by
  have hl := putR_len s.1 r
  refine ⟨putR_ok g.ok (by cases r <;> exact hr), ?_, by show (putR s.1 r).length ≤ _; have := g.ln; omega, by show (s.2.2 ++ [_]).length = _; rw [List.length_append, g.p]; rfl, fun x hx => ?_⟩
  · show (putH s.1 s.2.1 r h).length = (putR s.1 r).length
    unfold putH putR
    split
    · exact g.h
    · rw [List.length_append, List.length_append, g.h]; rfl
  · show x < (putR s.1 r).length
    rcases List.mem_append.mp hx with hx | hx
    · have := g.b x hx; omega
    · rw [List.mem_singleton.mp hx]
      exact List.idxOf_lt_length_of_mem (putR_mem s.1 r)
theorem thN_len : ∀ i, (thN.getD i []).length ≤ 100 := fun i => by
  rw [List.getD_eq_getElem?_getD]
  cases h : thN[i]? with
  | none => simp
  | some p =>
    have hm := List.mem_of_getElem? h
    have : ∀ p ∈ thN, p.length ≤ 100 := by decide
    exact this p hm
theorem thRun_ok (row : List Int) : ∀ t, SOk t (thRun row t)
  | 0 => ⟨⟨List.nodup_nil, fun i n ps e => by simp [thRun] at e, fun p hp => by cases hp⟩, rfl, Nat.le_refl _, rfl, fun x hx => by cases hx⟩
  | t + 1 => putS_ok (thRun_ok row t) (thN_len _)
theorem getD_lt {ps : List Nat} {b : Nat} (h : ∀ x ∈ ps, x < b) (hb : 0 < b) (i : Nat) : ps.getD i 0 < b := by
  rw [List.getD_eq_getElem?_getD]
  cases e : ps[i]? with
  | none => exact hb
  | some x => exact h x (List.mem_of_getElem? e)
theorem mine_ok {row : List Int} {ps : List Nat} {k b : Nat} (h : ∀ x ∈ ps, x < b) (hb : 0 < b) : (mine row ps k).length ≤ 20 ∧ ∀ x ∈ mine row ps k, x < b := by
  unfold mine
  refine ⟨by rw [List.length_take]; simp only [List.length_cons, List.length_nil]; omega, fun x hx => ?_⟩
  have hx' := List.mem_of_mem_take hx
  simp only [List.mem_cons, List.not_mem_nil, or_false] at hx'
  rcases hx' with rfl | rfl | rfl <;> exact getD_lt h hb _
theorem SOk.pos {n : Nat} {s : St} (h : SOk n s) (hn : 1 ≤ n) : 0 < s.1.length := by
  have hp := h.p
  obtain ⟨x, hx⟩ : ∃ x, x ∈ s.2.2 := by
    cases e : s.2.2 with
    | nil => rw [e] at hp; simp at hp; omega
    | cons x l => exact ⟨x, by simp⟩
  have := h.b x hx
  omega
theorem ddRun_ok (row : List Int) {t : Nat} (ht : 1 ≤ t) : ∀ d, SOk (t + d) (ddRun row t d)
  | 0 => thRun_ok row t
  | d + 1 => by
    have ih := ddRun_ok row ht d
    exact putS_ok ih (mine_ok ih.b (ih.pos (by omega)))
theorem topP_ok {row : List Int} {ps : List Nat} {b : Nat} (h : ∀ x ∈ ps, x < b) (hb : 0 < b) : ∀ x ∈ topP row ps, x < b := fun x hx => by
  unfold topP at hx
  simp only [List.mem_cons, List.not_mem_nil, or_false] at hx
  rcases hx with rfl | rfl <;> exact getD_lt h hb _
theorem end_ok (row : List Int) {t d : Nat} (ht : 1 ≤ t) : RowsOk (endS row t d) ∧ (endS row t d).length ≤ t + d + 1 ∧ endN row t d < (endS row t d).length := by
  have g := ddRun_ok row ht d
  have hp := g.pos (by omega)
  refine ⟨putR_ok g.ok ⟨by simp [topP], topP_ok g.b hp⟩, ?_, List.idxOf_lt_length_of_mem (putR_mem _ _)⟩
  have := putR_len (ddRun row t d).1 (.dd [104] (topP row (ddRun row t d).2.2))
  have := g.ln
  unfold endS
  omega
theorem small_ok (row : List Int) {t d : Nat} (ht : 1 ≤ t) (h : t + d ≤ 15) : ROk (small row t d) := by
  obtain ⟨ok, hl, hn⟩ := end_ok row (d := d) ht
  have inv := within_inv ok hn
  have hne := within_ne ok hn
  have hw : (runW (endS row t d) (endN row t d) (12 * (endS row t d).length + 12)).1 = within (endS row t d) (endN row t d) := rfl
  have hu := inv.u
  have hlt := inv.lt
  have hd := inv.d
  rw [hw] at hu hlt hd
  unfold small
  generalize within (endS row t d) (endN row t d) = o at *
  generalize endS row t d = rows at *
  have hol : o.length ≤ rows.length := by
    have := nodup_le (m := List.range rows.length) hu (fun q hq => List.mem_range.mpr (hlt q hq))
    rw [List.length_range] at this
    exact this
  have hsl : (sheetOf rows o).length = o.length := by unfold sheetOf; rw [List.length_map]
  have hmem : ∀ r ∈ sheetOf rows o, ∃ i p row, o[i]? = some p ∧ rows[p]? = some row ∧ r = reRow o row := fun r hr => by
    obtain ⟨p, hp, rfl⟩ := List.mem_map.mp hr
    obtain ⟨i, hi, e⟩ := List.getElem_of_mem hp
    have := hlt p hp
    exact ⟨i, p, rows[p], by rw [List.getElem?_eq_getElem hi, e], List.getElem?_eq_getElem this, by rw [List.getD_eq_getElem?_getD, List.getElem?_eq_getElem this]; rfl⟩
  refine ⟨by rw [hsl]; exact List.length_pos_iff.mpr hne, by omega, fun p hp => ?_, fun n ps hp => ?_⟩
  · obtain ⟨i, q, r, h1, h2, h3⟩ := hmem _ hp
    cases r with
    | th p' =>
      cases h3
      exact ok.t p (List.mem_of_getElem? h2)
    | dd n ps => cases h3
  · obtain ⟨i, q, r, h1, h2, h3⟩ := hmem _ hp
    cases r with
    | th p' => cases h3
    | dd n' ps' =>
      cases h3
      refine ⟨by rw [List.length_map]; exact (ok.d q _ ps' h2).1, fun x hx => ?_⟩
      obtain ⟨y, hy, rfl⟩ := List.mem_map.mp hx
      rw [hsl]
      exact List.idxOf_lt_length_of_mem (List.mem_of_mem_take (hd i q h1 _ ps' h2 y hy))
end K63

set_option Elab.async false
set_option linter.all false
set_option maxRecDepth 100000
set_option maxHeartbeats 4000000
/-! W63: _law_small_answer over the store. -/
namespace K63
open PySem PySem.Spec PyProof.Rows L2 G Pm Tm
def relSmall (ds : List D) (r : Res) : Prop := ∃ (row : List Int) (t d : Nat), ds = [.lst (row.map D.int), .int (t : Int), .int (d : Int)] ∧ row.length = 30 ∧ 1 ≤ t ∧ t ≤ 4 ∧ d ≤ 5 ∧ r = .rt (.tup ((small row t d).map (Row.d false)))
section
variable {K : PySem.W.Frag} {W : WX} {δ : DEnv} {ta tb te ti tx : TE}
theorem d_rowAt {row : List Int} {i : Nat} (h : DE K δ te (.lst (row.map D.int))) (h1 : DE K δ ti (.int (i : Int))) (hi : i < row.length) : DE K δ (tCB rInt' (tCons (tOp (rIx' K) te ti) tNil)) (.int (dAt row i)) :=
  d_cb (d_acons (d_op h h1 (o_ixl (j := i) (by rw [List.length_map]; exact ixN_of rfl hi) (by rw [List.getElem?_map, List.getElem?_eq_getElem hi]; unfold dAt; rw [List.getD_eq_getElem?_getD, List.getElem?_eq_getElem hi]; rfl))) d_anil) c_inti
theorem md (z : Int) {n : Int} (hn : 0 < n) : ∃ k : Nat, z % n = (k : Int) ∧ (k : Int) < n ∧ (z % n).toNat = k := by
  have h1 := Int.emod_nonneg z (b := n) (by omega)
  have h2 := Int.emod_lt_of_pos z (b := n) hn
  exact ⟨(z % n).toNat, by omega, by omega, rfl⟩
theorem d_pick {ps : List Nat} {z : Int} (h : DE K δ te (.lst (ps.map nD))) (hp : 0 < ps.length) (h1 : DE K δ ti (.int (z % (ps.length : Int)))) : DE K δ (tOp (rIx' K) te ti) (nD (ps.getD (z % (ps.length : Int)).toNat 0)) := by
  obtain ⟨k, e1, e2, e3⟩ := md z (n := (ps.length : Int)) (by omega)
  have hk : k < ps.length := by omega
  rw [e3]
  rw [e1] at h1
  exact d_op h h1 (o_ixl (j := k) (by rw [List.length_map]; exact ixN_of rfl hk) (by rw [List.getElem?_map, List.getD_eq_getElem?_getD, List.getElem?_eq_getElem hk]; rfl))
theorem small_wm (w : World) (ds : List D) (r : Res) (h : relSmall ds r) (E : XK) : WM K (WF E) (ds.map SD.dat ++ List.replicate (10 - ds.length) SD.no) [] (t__law_small_answer K (spM K (relDeed w)) (spD K (relSheet w)) (spM K (relStore w)) (spM K (relThing w))) (fun o => FitsDM o r) := by
  obtain ⟨row, t, d, rfl, hrl, ht1, ht4, hd5, rfl⟩ := h
  show WM K (WF E) [.dat (.lst (row.map D.int)), .dat (.int (t : Int)), .dat (.int (d : Int)), .no, .no, .no, .no, .no, .no, .no] _ _ _
  unfold t__law_small_answer
  apply m_asg (mx_call ma_nil (show relStore w _ _ _ from ⟨rfl, rfl, rfl⟩))
  apply m_asg (mx_lst ma_nil (by simp))
  have v0 : ∀ {l : Bool} {S : Sto} {b c d e f g h i j : SD}, DE K (fm l S [.dat (.lst (row.map D.int)), b, c, d, e, f, g, h, i, j]) (tVar 0) (.lst (row.map D.int)) := fun {l} => by cases l <;> exact d_var rfl
  have pD : ∀ {rows : List Row} {hs ps : List Nat} {T : Sto} {a b c e f g h i j : SD}, DE K (fm true (stS w rows hs ++ .lst ((ps.map nD).map SD.dat) :: T) [a, b, c, e, .rf 4, f, g, h, i, j]) (tVar 4) (.lst (ps.map nD)) := fun {rows hs ps T a b c e f g h i j} => d_var (by
    show some (G.res _ 4 (.rf 4)) = _
    rw [res_lst (i := 4) (ds := ps.map nD) rfl alls_dats])
  show WM K (WF E) [.dat (.lst (row.map D.int)), .dat (.int (t : Int)), .dat (.int (d : Int)), .rf 3, .rf 4, .no, .no, .no, .no, .no] (stS w (thRun row 0).1 (thRun row 0).2.1 ++ [.lst (((thRun row 0).2.2.map nD).map SD.dat)]) _ _
  refine m_forP (it_rng1 (n := t) (d_acons (d_var (d := .int (t : Int)) rfl) d_anil) (by omega) (by omega)) (fun i ρ S => ρ = [.dat (.lst (row.map D.int)), .dat (.int (t : Int)), .dat (.int (d : Int)), .rf 3, .rf 4, .no, .no, .no, .no, .no] ∧ S = stS w (thRun row i).1 (thRun row i).2.1 ++ [.lst (((thRun row i).2.2.map nD).map SD.dat)]) _ (wkM.refl _) ⟨rfl, rfl⟩ ?_ ?_
  · rintro i x ρ S hx ⟨rfl, rfl⟩
    obtain ⟨hi, rfl⟩ := rngD_val hx
    have g := thRun_ok row i
    have hgn := g.ln
    have hgh := g.h
    have hgp := g.p
    have estep : thRun row (i + 1) = thS row (thRun row i) i := rfl
    refine ⟨_, g_name', ?_⟩
    have kD' : ∀ {S : Sto} {a b c d e g h j k : SD}, DE K (fm false S [a, b, c, d, e, .dat (.int (i : Int)), g, h, j, k]) (tOp rMod' (tCB rInt' (tCons (tVar 5) tNil)) (tC (.int 30))) (.int ((i % 30 : Nat) : Int)) := de_is (d_op (d_cb (d_acons (d_var (d := .int (i : Int)) rfl) d_anil) c_inti) d_int (o_modi (m := 30) (by omega))) (by rw [Int.natCast_emod]; rfl)
    apply m_asg (mx_de false (d := .int (dAt row (i % 30))) (d_rowAt v0 kD' (by omega)) (fun z => nomatch z))
    apply m_last
    obtain ⟨k, e1, e2, e3⟩ := md (dAt row (i % 30)) (n := 10) (by omega)
    have hk : k < 10 := by omega
    generalize thRun row i = s at *
    obtain ⟨rows, hs, ps⟩ := s
    dsimp only at *
    rw [estep]
    unfold thS putS
    dsimp only
    rw [e3]
    have name : ∀ {S : Sto} {a b c d e g h j k' : SD}, DE K (fm false S [a, b, c, d, e, g, .dat (.int (dAt row (i % 30))), h, j, k']) (tOp (rIx' K) (tLst (tCons (tC (.str "")) (tCons (tC (.str "a")) (tCons (tC (.str "b")) (tCons (tC (.str "aa")) (tCons (tC (.str "ab")) (tCons (tC (.str "ba")) (tCons (tC (.str "bb")) (tCons (tC (.str "aab")) (tCons (tC (.str "bab")) (tCons (tC (.str "abb")) tNil))))))))))) (tOp rMod' (tCB rInt' (tCons (tVar 6) tNil)) (tC (.int 10)))) (sD (thN.getD k [])) := fun {S a b c d e g h j k'} =>
      d_op (x := .lst (thN.map sD)) (DL.de (dl_lst (d_acons (d_lit rfl) (d_acons (d_lit rfl) (d_acons (d_lit rfl) (d_acons (d_lit rfl) (d_acons (d_lit rfl) (d_acons (d_lit rfl) (d_acons (d_lit rfl) (d_acons (d_lit rfl) (d_acons (d_lit rfl) (d_acons (d_lit rfl) d_anil)))))))))) (by simp [thN]))) (de_is (d_op (d_cb (d_acons (d_var (d := .int (dAt row (i % 30))) rfl) d_anil) c_inti) d_int (o_modi (by omega))) (y := .int (k : Int)) (by rw [e1])) (o_ixl (j := k) (by rw [List.length_map]; exact ixN_of rfl hk) (by rw [List.getElem?_map, List.getD_eq_getElem?_getD, List.getElem?_eq_getElem (show k < thN.length from hk)]; rfl))
    refine m_app (j := 4) (x := .dat (nD ((putR rows (.th (thN.getD k []))).idxOf (.th (thN.getD k []))))) (zs := (ps.map nD).map SD.dat) (S2 := stS w (putR rows (.th (thN.getD k []))) (putH rows hs (.th (thN.getD k [])) 0) ++ [.lst ((ps.map nD).map SD.dat)]) (mx_var (x := .rf 4) rfl (fun z => by cases z)) ⟨_, rfl⟩ (mx_call (ma_cons (mx_var (x := .rf 3) rfl (fun z => by cases z)) (ma_cons (mx_de false (d := sD (thN.getD k [])) name (fun z => nomatch z)) ma_nil)) (show relThing w _ _ _ from ⟨rows, hs, thN.getD k [], _, rfl, rfl, by omega, by omega, rfl⟩)) rfl (by rw [List.length_map, List.length_map]; omega) ?_
    apply m_nx
    refine ⟨[.dat (.lst (row.map D.int)), .dat (.int (t : Int)), .dat (.int (d : Int)), .rf 3, .rf 4, .no, .no, .no, .no, .no], wkMc (.inr rfl) (wkMc (.inr rfl) (wkMc (.inr rfl) (wkMc (.inr rfl) (wkMc (.inr rfl) (wkMc (.inl rfl) (wkMc (.inl rfl) (wkMc (.inr rfl) (wkMc (.inr rfl) (wkMc (.inr rfl) wkM0))))))))), rfl, ?_⟩
    rw [List.map_append, List.map_append]
    rfl
  · rintro ρ S ⟨rfl, rfl⟩
    rw [rngD_len]
    refine m_forP (it_rng1 (n := d) (d_acons (d_var (d := .int (d : Int)) rfl) d_anil) (by omega) (by omega)) (fun i ρ S => ρ = [.dat (.lst (row.map D.int)), .dat (.int (t : Int)), .dat (.int (d : Int)), .rf 3, .rf 4, .no, .no, .no, .no, .no] ∧ S = stS w (ddRun row t i).1 (ddRun row t i).2.1 ++ .lst (((ddRun row t i).2.2.map nD).map SD.dat) :: List.replicate i .gone) _ (wkM.refl _) ⟨rfl, rfl⟩ ?_ ?_
    · rintro i x ρ S hx ⟨rfl, rfl⟩
      obtain ⟨hi, rfl⟩ := rngD_val hx
      have g := ddRun_ok row ht1 i
      have hgn := g.ln
      have hgh := g.h
      have hgp := g.p
      have hgb := g.b
      have hpos := g.pos (by omega)
      have estep : ddRun row t (i + 1) = ddS row (ddRun row t i) i := rfl
      generalize ddRun row t i = s at *
      obtain ⟨rows, hs, ps⟩ := s
      dsimp only at *
      have hmine := mine_ok (row := row) (k := i) hgb hpos
      refine ⟨_, g_name', ?_⟩
      have k1 : ∀ {S : Sto} {a b c d e g h j k : SD}, DE K (fm false S [a, b, c, d, e, .dat (.int (i : Int)), g, h, j, k]) (tOp rMod' (tCB rInt' (tCons (tOp (rAdd' K) (tC (.int 4)) (tOp rMul' (tC (.int 2)) (tVar 5))) tNil)) (tC (.int 30))) (.int (((4 + 2 * i) % 30 : Nat) : Int)) := de_is (d_op (d_cb (d_acons (d_op d_int (d_op d_int (d_var (d := .int (i : Int)) rfl) (o_muli (.inl ⟨by decide, by decide⟩))) o_addi) d_anil) c_inti) d_int (o_modi (m := 30) (by omega))) (by rw [Int.natCast_emod]; rfl)
      have k2 : ∀ {S : Sto} {a b c d e g h j k : SD}, DE K (fm false S [a, b, c, d, e, .dat (.int (i : Int)), g, h, j, k]) (tOp rMod' (tCB rInt' (tCons (tOp (rAdd' K) (tC (.int 5)) (tOp rMul' (tC (.int 2)) (tVar 5))) tNil)) (tC (.int 30))) (.int (((5 + 2 * i) % 30 : Nat) : Int)) := de_is (d_op (d_cb (d_acons (d_op d_int (d_op d_int (d_var (d := .int (i : Int)) rfl) (o_muli (.inl ⟨by decide, by decide⟩))) o_addi) d_anil) c_inti) d_int (o_modi (m := 30) (by omega))) (by rw [Int.natCast_emod]; rfl)
      apply m_asg (mx_de false (d := .int (dAt row ((4 + 2 * i) % 30))) (d_rowAt v0 k1 (by omega)) (fun z => nomatch z))
      apply m_asg (mx_de false (d := .int (dAt row ((5 + 2 * i) % 30))) (d_rowAt v0 k2 (by omega)) (fun z => nomatch z))
      rw [estep]
      have hm3 : mine row ps i = [ps.getD (dAt row ((4 + 2 * i) % 30) / 4 % (ps.length : Int)).toNat 0, ps.getD (dAt row ((5 + 2 * i) % 30) % (ps.length : Int)).toNat 0, ps.getD (dAt row ((5 + 2 * i) % 30) / 7 % (ps.length : Int)).toNat 0].take (dAt row ((4 + 2 * i) % 30) % 4).toNat := rfl
      unfold ddS putS
      dsimp only
      generalize hz1 : dAt row ((4 + 2 * i) % 30) = z1 at *
      generalize hz2 : dAt row ((5 + 2 * i) % 30) = z2 at *
      have hps : 0 < ps.length := by omega
      have lenP : ∀ {T : Sto} {a b c e f g h i j : SD}, DE K (fm true (stS w rows hs ++ .lst ((ps.map nD).map SD.dat) :: T) [a, b, c, e, .rf 4, f, g, h, i, j]) (tCB (rLen' K) (tCons (tVar 4) tNil)) (.int (ps.length : Int)) := de_is (d_cb (d_acons pD d_anil) c_leni) (by rw [List.length_map])
      have q1 : ∀ {T : Sto} {a b c e f h i j : SD}, DE K (fm true (stS w rows hs ++ .lst ((ps.map nD).map SD.dat) :: T) [a, b, c, e, .rf 4, f, .dat (.int z1), h, i, j]) (tVar 6) (.int z1) := d_var rfl
      have q2 : ∀ {T : Sto} {a b c e f g i j : SD}, DE K (fm true (stS w rows hs ++ .lst ((ps.map nD).map SD.dat) :: T) [a, b, c, e, .rf 4, f, g, .dat (.int z2), i, j]) (tVar 7) (.int z2) := d_var rfl
      apply m_asg (mx_dl true (dl_lst (ds := ([ps.getD (z1 / 4 % (ps.length : Int)).toNat 0, ps.getD (z2 % (ps.length : Int)).toNat 0, ps.getD (z2 / 7 % (ps.length : Int)).toNat 0] : List Nat).map nD) (d_acons (d_pick pD hps (d_op (d_cb (d_acons (d_op q1 d_int (o_divi ⟨by decide, by decide⟩)) d_anil) c_inti) lenP (o_modi (by omega)))) (d_acons (d_pick pD hps (d_op (d_cb (d_acons q2 d_anil) c_inti) lenP (o_modi (by omega)))) (d_acons (d_pick pD hps (d_op (d_cb (d_acons (d_op q2 d_int (o_divi ⟨by decide, by decide⟩)) d_anil) c_inti) lenP (o_modi (by omega)))) d_anil))) (by simp)) (fun _ => rfl))
      have hSl : (stS w rows hs ++ .lst ((ps.map nD).map SD.dat) :: List.replicate i .gone : Sto).length = 5 + i := by
        rw [List.length_append, List.length_cons, List.length_replicate]
        show 4 + (i + 1) = _
        omega
      refine m_frz 8 (j := 5 + i) (b := .lst ((([ps.getD (z1 / 4 % (ps.length : Int)).toNat 0, ps.getD (z2 % (ps.length : Int)).toNat 0, ps.getD (z2 / 7 % (ps.length : Int)).toNat 0] : List Nat).map nD).map SD.dat)) (ds := ([ps.getD (z1 / 4 % (ps.length : Int)).toNat 0, ps.getD (z2 % (ps.length : Int)).toNat 0, ps.getD (z2 / 7 % (ps.length : Int)).toNat 0] : List Nat).map nD) (by rw [hSl]; rfl) (by rw [← hSl, List.getElem?_append_right (Nat.le_refl _), Nat.sub_self]; rfl) rfl (by simp) ?_
      have hSt : ((stS w rows hs ++ .lst ((ps.map nD).map SD.dat) :: List.replicate i .gone ++ [.lst ((([ps.getD (z1 / 4 % (ps.length : Int)).toNat 0, ps.getD (z2 % (ps.length : Int)).toNat 0, ps.getD (z2 / 7 % (ps.length : Int)).toNat 0] : List Nat).map nD).map SD.dat)] : Sto).set (5 + i) .gone) = stS w rows hs ++ .lst ((ps.map nD).map SD.dat) :: List.replicate (i + 1) .gone := by
        rw [← hSl, List.set_append_right _ _ (Nat.le_refl _), Nat.sub_self, List.replicate_succ']
        simp
      rw [hSt]
      generalize hm0 : ([ps.getD (z1 / 4 % (ps.length : Int)).toNat 0, ps.getD (z2 % (ps.length : Int)).toNat 0, ps.getD (z2 / 7 % (ps.length : Int)).toNat 0] : List Nat) = m3 at *
      have hm3l : m3.length = 3 := by rw [← hm0]; rfl
      apply m_last
      obtain ⟨k, e1, e2, e3⟩ := md z1 (n := 4) (by omega)
      have hk : k < 4 := by omega
      rw [e3] at hm3 ⊢
      have dk : ∀ {S : Sto} {a b c d e g h j k' : SD}, DE K (fm false S [a, b, c, d, e, g, .dat (.int z1), h, j, k']) (tOp rMod' (tCB rInt' (tCons (tVar 6) tNil)) (tC (.int 4))) (.int (k : Int)) := de_is (d_op (d_cb (d_acons (d_var (d := .int z1) rfl) d_anil) c_inti) d_int (o_modi (by omega))) (by rw [e1])
      have name : ∀ {S : Sto} {a b c d e g h j k' : SD}, DE K (fm false S [a, b, c, d, e, g, .dat (.int z1), h, j, k']) (tOp (rIx' K) (tC (.str "efhm")) (tOp rMod' (tCB rInt' (tCons (tVar 6) tNil)) (tC (.int 4)))) (sD [eN.getD k 0]) := d_op d_str dk (o_ixs (by decide) (by
        unfold L2.atI
        have hl : ("efhm" : Str).cps.toList = eN := rfl
        rw [hl, ixN_of rfl (show k < eN.length from hk)]
        show eN[k]? = _
        rw [List.getD_eq_getElem?_getD, List.getElem?_eq_getElem (show k < eN.length from hk)]
        rfl))
      have part : ∀ {S : Sto} {a b c d e g h k' : SD}, DE K (fm false S [a, b, c, d, e, g, .dat (.int z1), h, .dat (.lst (m3.map nD)), k']) (tSl (rSl' K) (tVar 8) tNoPart (tPart (tOp rMod' (tCB rInt' (tCons (tVar 6) tNil)) (tC (.int 4))))) (.lst ((mine row ps i).map nD)) := DL.de (dl_is (dl_cutL (d_var (d := .lst (m3.map nD)) rfl) d_noPart (d_part dk) (by rw [List.length_map]; omega)) (by rw [cutD_to, hm3, List.map_take]))
      refine m_app (j := 4) (x := .dat (nD ((putR rows (.dd [eN.getD k 0] (mine row ps i))).idxOf (.dd [eN.getD k 0] (mine row ps i))))) (zs := (ps.map nD).map SD.dat) (S2 := stS w (putR rows (.dd [eN.getD k 0] (mine row ps i))) (putH rows hs (.dd [eN.getD k 0] (mine row ps i)) (hiOf hs (mine row ps i))) ++ .lst ((ps.map nD).map SD.dat) :: List.replicate (i + 1) .gone) (mx_var (x := .rf 4) rfl (fun z => by cases z)) ⟨_, rfl⟩ (mx_call (ma_cons (mx_var (x := .rf 3) rfl (fun z => by cases z)) (ma_cons (mx_de false (d := sD [eN.getD k 0]) name (fun z => nomatch z)) (ma_cons (mx_de false (d := .lst ((mine row ps i).map nD)) part (fun z => nomatch z)) ma_nil))) (show relDeed w _ _ _ from ⟨rows, hs, [eN.getD k 0], mine row ps i, _, rfl, rfl, by omega, by omega, by omega, by rw [hgh]; exact hmine.2, rfl⟩)) rfl (by rw [List.length_map, List.length_map]; omega) ?_
      apply m_nx
      refine ⟨[.dat (.lst (row.map D.int)), .dat (.int (t : Int)), .dat (.int (d : Int)), .rf 3, .rf 4, .no, .no, .no, .no, .no], wkMc (.inr rfl) (wkMc (.inr rfl) (wkMc (.inr rfl) (wkMc (.inr rfl) (wkMc (.inr rfl) (wkMc (.inl rfl) (wkMc (.inl rfl) (wkMc (.inl rfl) (wkMc (.inl rfl) (wkMc (.inr rfl) wkM0))))))))), rfl, ?_⟩
      rw [List.map_append, List.map_append]
      rfl
    · rintro ρ S ⟨rfl, rfl⟩
      rw [rngD_len]
      have g := ddRun_ok row ht1 d
      have hgn := g.ln
      have hgh := g.h
      have hgp := g.p
      have hpos := g.pos (by omega)
      have htop := topP_ok (row := row) g.b hpos
      obtain ⟨eok, elen, enum⟩ := end_ok row (d := d) ht1
      unfold small
      have es : endS row t d = putR (ddRun row t d).1 (.dd [104] (topP row (ddRun row t d).2.2)) := rfl
      have en : endN row t d = (putR (ddRun row t d).1 (.dd [104] (topP row (ddRun row t d).2.2))).idxOf (.dd [104] (topP row (ddRun row t d).2.2)) := rfl
      rw [en, es] at enum
      rw [es] at eok elen
      rw [es, en]
      clear es en
      generalize ddRun row t d = s at *
      obtain ⟨rows, hs, ps⟩ := s
      dsimp only at *
      have hps : 0 < ps.length := by omega
      refine m_frz 4 (j := 4) (ds := ps.map nD) (b := .lst ((ps.map nD).map SD.dat)) rfl rfl rfl (by simp) ?_
      have v4 : ∀ {S : Sto} {a b c d f g h i j : SD}, DE K (fm false S [a, b, c, d, .dat (.lst (ps.map nD)), f, g, h, i, j]) (tVar 4) (.lst (ps.map nD)) := d_var rfl
      show WM K (WF E) [.dat (.lst (row.map D.int)), .dat (.int (t : Int)), .dat (.int (d : Int)), .rf 3, .dat (.lst (ps.map nD)), .no, .no, .no, .no, .no] (stS w rows hs ++ (.gone :: List.replicate d .gone)) _ _
      apply m_asg (mx_call (ma_cons (mx_var (x := .rf 3) rfl (fun z => by cases z)) (ma_cons (mx_de false (d := sD [104]) (d_lit rfl) (fun z => nomatch z)) (ma_cons (mx_de false (d := .lst ((topP row ps).map nD)) (DL.de (dl_lst (ds := (topP row ps).map nD) (d_acons (d_op v4 (d_neg d_int) (o_ixl (j := ps.length - 1) (by
        rw [List.length_map]
        unfold ixN
        rw [if_neg (by decide), if_pos (by omega)]
        simp
        omega) (by rw [List.getElem?_map, List.getD_eq_getElem?_getD, List.getElem?_eq_getElem (show ps.length - 1 < ps.length by omega)]; rfl))) (d_acons (d_pick v4 hps (d_op (d_rowAt (i := 20) v0 d_int (by omega)) (de_is (d_cb (d_acons v4 d_anil) c_leni) (by rw [List.length_map])) (o_modi (by omega)))) d_anil)) (by simp [topP]))) (fun z => nomatch z)) ma_nil))) (show relDeed w _ _ _ from ⟨rows, hs, [104], topP row ps, _, rfl, rfl, by omega, by omega, by simp [topP], by rw [hgh]; exact htop, rfl⟩))
      apply m_last
      exact m_ret (mx_de true (d_call (d_acons (d_var (d := storeD w (putR rows (.dd [104] (topP row ps))) (putH rows hs (.dd [104] (topP row ps)) (hiOf hs (topP row ps)))) (by
        show some (G.res _ 4 (.rf 3)) = _
        rw [res_store])) (d_acons (d_var rfl) d_anil)) (show relSheet w _ _ from ⟨_, _, _, rfl, eok, by omega, enum, rfl⟩)) (fun _ => by
          show D.solL _ = true
          have : ∀ l : List Row, D.solL (l.map (Row.d false)) = true := fun l => by
            induction l with
            | nil => rfl
            | cons r l ih => rw [List.map_cons, D.solL, ih, row_sol]; rfl
          exact this _)) rfl
end
end K63

set_option Elab.async false
set_option linter.all false
set_option maxRecDepth 100000
set_option maxHeartbeats 4000000
/-! X63: the law. -/
namespace K63
open PySem PySem.Spec PyProof.Rows L2 G Pm Tm
abbrev WN : WX := fun _ _ _ _ => False
def relLaw (ds : List D) (r : Res) : Prop := ∃ ns : List Int, ds = [.kl (ns.map D.int)] ∧ ns.length ≤ 63 ∧ r = .rt (.bl true)
theorem fold_rep (c n : Nat) : ∀ a : Array Nat, (List.replicate n #[c]).foldl (· ++ ·) a = a ++ (List.replicate n c).toArray := by
  induction n with
  | zero => intro a; simp
  | succ n ih =>
    intro a
    rw [List.replicate_succ, List.foldl_cons, ih, List.replicate_succ]
    apply Array.toList_inj.mp
    simp
theorem mul_rep (c n : Nat) : Txt.mul (mkS [c]) (n : Int) = mkS (List.replicate n c) := by
  unfold Txt.mul
  by_cases h0 : (n : Int) < 1
  · rw [if_pos h0, show n = 0 by omega]
    rfl
  · rw [if_neg h0]
    by_cases h1 : n = 1
    · subst h1
      rfl
    · have : (((n : Int) == 1) || ((mkS [c]).length == 0)) = false := by
        rw [mkS_len]
        simp
        omega
      rw [if_neg (by rw [this]; decide), Int.toNat_natCast]
      unfold mkS
      congr 1
      have := fold_rep c n #[]
      simp only [List.toArray, Array.empty_append] at this ⊢
      rw [← this]
structure XF (K : PySem.W.Frag) : Prop where
  e : ExcC K (He.ga K "BadSheet")
  s : PySem.W.kitOne K (.ref (He.ga K "BadSheet")) (.ref (He.ga K "BadSheet")) = some true
  l : PySem.W.exmOne K (.ref (He.ga K "BadSheet")) (.ref (He.ga K "LoopError")) = some true
section
variable {K : PySem.W.Frag} {δ : DEnv} {ta tb te ti tx : TE}
theorem d_mulS {c n : Nat} (h : DE K δ te (sD [c])) (h1 : DE K δ ti (.int (n : Int))) (hn : n ≤ 1000) : DE K δ (tOp rMul' te ti) (sD (List.replicate n c)) := by
  have : DO K rMul' (.str (mkS [c])) (.int (n : Int)) (.str (Txt.mul (mkS [c]) n)) := do_of fun H R v u Q s rv ru q => by
    cases rv; cases ru
    refine ⟨⟨?_, fun h2 _ h3 => ?_, fun _ _ => ?_⟩, q _ fun _ => .str _⟩
    · rw [Bool.or_eq_false_iff]
      exact ⟨decide_eq_false (by omega), decide_eq_false (by omega)⟩
    · rw [mkS_len] at h3
      have h4 : (2 ^ 63 - 1) / (n : Int) ≥ 1000 := (Int.le_ediv_iff_mul_le (by omega)).mpr (by omega)
      have h5 : (1 : Int) > (2 ^ 63 - 1) / (n : Int) := h3
      omega
    · unfold Builtin.Str.tooLong
      rw [decide_eq_false_iff_not, sizeLine_eq, mkS_len]
      simp
      omega
  rw [mul_rep] at this
  exact d_op h h1 this
theorem rok_wide {f g : List Nat} (hf : f.length ≤ 100) (hg : g.length ≤ 100) : ROk [.th f, .th g, .dd [104] [0, 1, 0], .dd [101] [], .dd [107] [2, 3]] := by
  refine ⟨by simp, by simp, fun p hp => ?_, fun n ps hp => ?_⟩
  · simp at hp
    rcases hp with rfl | rfl
    · exact hf
    · exact hg
  · simp at hp
    rcases hp with ⟨rfl, rfl⟩ | ⟨rfl, rfl⟩ | ⟨rfl, rfl⟩
    · exact ⟨by simp, fun i hi => by simp at hi ⊢; omega⟩
    · exact ⟨by simp, fun i hi => by simp at hi⟩
    · exact ⟨by simp, fun i hi => by simp at hi ⊢; omega⟩
theorem rok_one : ROk [.dd [101] []] ∧ cnt [.dd [101] []] = 2 := by
  refine ⟨⟨by simp, by simp, fun p hp => by simp at hp, fun n ps hp => ?_⟩, ?_⟩
  · simp at hp
    obtain ⟨rfl, rfl⟩ := hp
    exact ⟨by simp, fun i hi => by simp at hi⟩
  · have h1 := nodup_le (m := [[]]) (PP_nodup [.dd [101] []]) (fun x hx => by
      rcases PP_mem.mp hx with rfl | ⟨p, hp, _⟩
      · simp
      · simp at hp)
    have h2 : 0 < (PP [.dd [101] []]).length := List.length_pos_of_mem (PP_mem.mpr (.inl rfl))
    have h3 : nds [.dd [101] []] = 1 := rfl
    unfold cnt
    simp at h1
    omega
theorem law63_wp (X : XF K) (ds : List D) (r : Res) (h : relLaw ds r) : WP K WN (ds.map Sl.va ++ List.replicate (11 - ds.length) Sl.no) (t_law K (spD K relCell) (spD K relDigits) (spD K relDue) (spD K relSmall) (spD K relWhole) (spD K (relCount (He.ga K "BadSheet")))) (fun o => Fits o r) := by
  obtain ⟨ns, rfl, hns, rfl⟩ := h
  show WP K WN [.va (.kl (ns.map D.int)), .no, .no, .no, .no, .no, .no, .no, .no, .no, .no] _ _
  unfold t_law
  have h60 : (List.replicate 30 (D.int 60)) = (List.replicate 30 (60 : Int)).map D.int := by rw [List.map_replicate]
  apply q_setL false (ds := (digitsI (cellI ns 0) (List.replicate 30 60)).map D.int) (dl_call (d_acons (d_call (d_acons (d_var (d := .kl (ns.map D.int)) rfl) (d_acons (d_int (n := ((0 : Nat) : Int))) d_anil)) (show relCell _ _ from ⟨ns, 0, rfl, by decide, rfl⟩)) (d_acons (DL.de (dl_rep (d_acons d_int d_anil) (c := 30) (by decide) (by decide) (fun _ => d_int))) d_anil)) (show relDigits _ _ from ⟨_, List.replicate 30 60, by rw [h60], by decide, fun s hs => by rw [(List.mem_replicate.mp hs).2]; decide, rfl⟩)) (fun z => nomatch z)
  apply q_frz 1 rfl
  have hrl : (digitsI (cellI ns 0) (List.replicate 30 60)).length = 30 := by rw [digits_len, List.length_replicate]
  generalize digitsI (cellI ns 0) (List.replicate 30 60) = row at *
  refine q_weak (ρ' := [.no, .va (.lst (row.map D.int)), .no, .no, .no, .no, .no, .no, .no, .no, .no]) (wkc (.inl rfl) (wkc (.inr rfl) (wkc (.inr rfl) (wkc (.inr rfl) (wkc (.inr rfl) (wkc (.inr rfl) (wkc (.inr rfl) (wkc (.inr rfl) (wkc (.inr rfl) (wkc (.inr rfl) (wkc (.inr rfl) wk0))))))))))) ?_
  have hrow : ∀ {a b c d e f g h i j : Sl} {i0 : Nat}, i0 < 30 → DE K (fz false [a, .va (.lst (row.map D.int)), b, c, d, e, f, g, h, i, j]) (tCB rInt' (tCons (tOp (rIx' K) (tVar 1) (tC (.int (i0 : Int)))) tNil)) (.int (dAt row i0)) := fun hi => d_rowAt (d_var rfl) d_int (by omega)
  obtain ⟨k1, a1, b1, _⟩ := md (dAt row 21) (n := 4) (by omega)
  obtain ⟨k2, a2, b2, _⟩ := md (dAt row 22) (n := 5) (by omega)
  have rok := small_ok row (t := 1 + k1) (d := 1 + k2) (by omega) (by omega)
  apply q_set false (d := .tup ((small row (1 + k1) (1 + k2)).map (Row.d false))) (d_call (d_acons (d_var (d := .lst (row.map D.int)) rfl) (d_acons (de_is (d_op d_int (d_op (hrow (i0 := 21) (by omega)) d_int (o_modi (by omega))) o_addi) (y := .int ((1 + k1 : Nat) : Int)) (by rw [a1]; rfl)) (d_acons (de_is (d_op d_int (d_op (hrow (i0 := 22) (by omega)) d_int (o_modi (by omega))) o_addi) (y := .int ((1 + k2 : Nat) : Int)) (by rw [a2]; rfl)) d_anil))) (show relSmall _ _ from ⟨row, 1 + k1, 1 + k2, rfl, hrl, by omega, by omega, by omega, rfl⟩)) (fun z => nomatch z)
  generalize small row (1 + k1) (1 + k2) = rs at *
  have cntD : ∀ {δ : DEnv} {te : TE} {rs : List Row} {b c : Bool}, ROk rs → DE K δ te (mk b (rs.map (Row.d c))) → DE K δ (tCallS (spD K (relCount (He.ga K "BadSheet"))) (WE (fun _ _ _ _ => False)) (tCons te tNil)) (nD (cnt rs)) := fun {δ te rs b c} ok h => d_callS (d_acons h d_anil) (show relCount _ _ _ from .inl ⟨b, c, rs, rfl, ok, rfl⟩)
  have dueD : ∀ {δ : DEnv} {te : TE} {rs : List Row}, ROk rs → DE K δ te (.tup (rs.map (Row.d false))) → DE K δ (tCallR (spD K relDue) E0 (tCons te tNil)) (nD (cnt rs)) := fun {δ te rs} ok h => d_call (d_acons h d_anil) (show relDue _ _ from ⟨rs, rfl, ok, rfl⟩)
  apply q_set false (d := nD (cnt rs)) (cntD (b := false) (c := false) rok (d_var rfl)) (fun z => nomatch z)
  have v2 : ∀ {a b c d e f g h i j : Sl}, DE K (fz false [a, b, .va (.tup (rs.map (Row.d false))), c, d, e, f, g, h, i, j]) (tVar 2) (.tup (rs.map (Row.d false))) := d_var rfl
  have v3 : ∀ {a b c d e f g h i j : Sl}, DE K (fz false [a, b, c, .va (nD (cnt rs)), d, e, f, g, h, i, j]) (tVar 3) (nD (cnt rs)) := d_var rfl
  apply q_ifF false (dt_is (dt_or (dt_not (b := true) (dt_is (dt_tru (d_call (d_acons v3 d_anil) (show relWhole _ _ from ⟨nD (cnt rs), rfl, rfl, rfl⟩)) trivial) rfl)) (fun _ => dt_test (d_op v3 (dueD rok v2) o_nei))) (by simp))
  apply q_next
  apply q_ifF false (dt_is (dt_test (d_op (cntD (b := true) (c := true) rok (DL.de (dl_mapLG (l := rs) (g := Row.d false) (f := Row.d true) (it_tup v2) (fun r hr => by
    have hv : DE K (setsD (wipeD (fz false [.no, .va (.lst (row.map D.int)), .va (.tup (rs.map (Row.d false))), .va (nD (cnt rs)), .no, .no, .no, .no, .no, .no, .no]) [10]) [(10, r.d false)]) (tVar 10) (r.d false) := d_var rfl
    cases r with
    | th p => exact DL.de (dl_listA (ds := [sD sThing, sD p]) (d_acons hv d_anil) (.inr rfl) (by simp))
    | dd n ps => exact DL.de (dl_listA (ds := [sD sDeed, sD n, .tup (ps.map nD)]) (d_acons hv d_anil) (.inr rfl) (by simp))) (by have := rok.n; omega)))) v3 o_nei)) (by simp))
  apply q_next
  -- the long paths
  obtain ⟨k3, a3, b3, _⟩ := md (dAt row 23) (n := 60) (by omega)
  obtain ⟨k4, a4, b4, _⟩ := md (dAt row 24) (n := 3) (by omega)
  obtain ⟨k5, a5, b5, _⟩ := md (dAt row 25) (n := 60) (by omega)
  apply q_set false (d := sD (List.replicate k3 97 ++ List.replicate k4 98)) (d_cats (d_mulS (c := 97) (n := k3) (d_lit rfl) (de_is (d_op (hrow (i0 := 23) (by omega)) d_int (o_modi (by omega))) (by rw [a3])) (by omega)) (d_mulS (c := 98) (n := k4) (d_lit rfl) (de_is (d_op (hrow (i0 := 24) (by omega)) d_int (o_modi (by omega))) (by rw [a4])) (by omega)) (by rw [List.length_replicate, List.length_replicate]; omega)) (fun z => nomatch z)
  apply q_set false (d := sD (List.replicate k5 97)) (d_mulS (c := 97) (n := k5) (d_lit rfl) (de_is (d_op (hrow (i0 := 25) (by omega)) d_int (o_modi (by omega))) (by rw [a5])) (by omega)) (fun z => nomatch z)
  have rokw := rok_wide (f := List.replicate k3 97 ++ List.replicate k4 98) (g := List.replicate k5 97 ++ [99]) (by simp; omega) (by simp; omega)
  apply q_set false (d := .tup (([.th (List.replicate k3 97 ++ List.replicate k4 98), .th (List.replicate k5 97 ++ [99]), .dd [104] [0, 1, 0], .dd [101] [], .dd [107] [2, 3]] : List Row).map (Row.d false))) (d_tup (d_acons (d_tup (d_acons (d_lit rfl) (d_acons (d_var rfl) d_anil)) (by simp)) (d_acons (d_tup (d_acons (d_lit rfl) (d_acons (d_cats (d_var (d := sD (List.replicate k5 97)) rfl) (d_lit (l := [99]) rfl) (by simp; omega)) d_anil)) (by simp)) (d_acons (d_tup (d_acons (d_lit rfl) (d_acons (d_lit rfl) (d_acons (d_tup (d_acons d_int (d_acons d_int (d_acons d_int d_anil))) (by simp)) d_anil))) (by simp)) (d_acons (d_tup (d_acons (d_lit rfl) (d_acons (d_lit rfl) (d_acons (d_tup d_anil (by simp)) d_anil))) (by simp)) (d_acons (d_tup (d_acons (d_lit rfl) (d_acons (d_lit rfl) (d_acons (d_tup (d_acons d_int (d_acons d_int d_anil)) (by simp)) d_anil))) (by simp)) d_anil))))) (by simp)) (fun z => nomatch z)
  generalize ([.th (List.replicate k3 97 ++ List.replicate k4 98), .th (List.replicate k5 97 ++ [99]), .dd [104] [0, 1, 0], .dd [101] [], .dd [107] [2, 3]] : List Row) = wide at *
  have v6 : ∀ {a b c d e f g h i j : Sl}, DE K (fz false [a, b, c, d, e, f, .va (.tup (wide.map (Row.d false))), g, h, i, j]) (tVar 6) (.tup (wide.map (Row.d false))) := d_var rfl
  apply q_ifF false (dt_is (dt_or (dt_test (d_op (cntD (b := false) (c := false) rokw v6) (dueD rokw v6) o_nei)) (fun _ => dt_test (d_op (cntD (b := false) (c := false) (rs := [.dd [101] []]) rok_one.1 (d_tup (d_acons (d_tup (ds := [sD sDeed, sD [101], .tup []]) (d_acons (d_lit rfl) (d_acons (d_lit rfl) (d_acons (d_tup d_anil (by simp)) d_anil))) (by simp)) d_anil) (by simp))) d_int o_nei))) (by rw [rok_one.2]; simp))
  apply q_next
  -- a thing that is a number
  apply q_set false (d := badD (dAt row 26)) (d_tup (d_acons (d_tup (d_acons (d_lit rfl) (d_acons (hrow (i0 := 26) (by omega)) d_anil)) (by simp)) (d_acons (d_tup (d_acons (d_lit rfl) (d_acons (d_lit rfl) (d_acons (d_tup (d_acons d_int d_anil) (by simp)) d_anil))) (by simp)) d_anil)) (by simp)) (fun z => nomatch z)
  refine q_done (o := .rt (.bl true)) (x_tryE (o := .rt (.bl true)) (ρ' := _) (c' := .ref (He.ga K "BadSheet")) (fun W => x_dropX false (dx_callS (d_acons (d_var (d := badD (dAt row 26)) rfl) d_anil) (show relCount _ _ _ from .inr ⟨_, rfl, rfl⟩)) (fun z => nomatch z)) X.l (fun a => ?_)) rfl rfl
  exact x_ret false (d_cb (d_acons (d_var rfl) (d_acons d_val d_anil)) (c_isE X.e X.s))
end
end K63

set_option Elab.async false
set_option linter.all false
set_option maxRecDepth 100000
set_option maxHeartbeats 4000000
namespace K63
open PySem PySem.Spec PyProof.Rows L2 G
def top (i : Nat) : Stmt := PySem.Challenge.pw_looporpile_k63_nodes_counted.main.body.getD i (.Pass ⟨0, 0, 0, 0⟩)
abbrev s_path_key : Stmt := top 4
theorem sc_path_key : FnScope n_path_key ["path"] (defScope s_path_key) := ⟨rfl, rfl, rfl, by decide +kernel, rfl, by decide +kernel, by decide +kernel⟩
abbrev s_in_order : Stmt := top 5
theorem sc_in_order : FnScope n_in_order ["paths"] (defScope s_in_order) := ⟨rfl, rfl, rfl, by decide +kernel, rfl, by decide +kernel, by decide +kernel⟩
abbrev s_closed : Stmt := top 6
theorem sc_closed : FnScope n_closed ["paths"] (defScope s_closed) := ⟨rfl, rfl, rfl, by decide +kernel, rfl, by decide +kernel, by decide +kernel⟩
abbrev s_Nodes_init : Stmt := inClass (top 8) 0
theorem sc_Nodes_init : FnScope n_Nodes_init ["self", "sheet"] (defScope s_Nodes_init) := ⟨rfl, rfl, rfl, by decide +kernel, rfl, by decide +kernel, by decide +kernel⟩
abbrev s_node_ways : Stmt := top 9
theorem sc_node_ways : FnScope n_node_ways ["nodes"] (defScope s_node_ways) := ⟨rfl, rfl, rfl, by decide +kernel, rfl, by decide +kernel, by decide +kernel⟩
abbrev s_node_count : Stmt := top 10
theorem sc_node_count : FnScope n_node_count ["sheet"] (defScope s_node_count) := ⟨rfl, rfl, rfl, by decide +kernel, rfl, by decide +kernel, by decide +kernel⟩
abbrev s__law_due : Stmt := top 12
theorem sc__law_due : FnScope n__law_due ["sheet"] (defScope s__law_due) := ⟨rfl, rfl, rfl, by decide +kernel, rfl, by decide +kernel, by decide +kernel⟩
abbrev s__law_whole : Stmt := top 13
theorem sc__law_whole : FnScope n__law_whole ["value"] (defScope s__law_whole) := ⟨rfl, rfl, rfl, by decide +kernel, rfl, by decide +kernel, by decide +kernel⟩
abbrev s__law_cell : Stmt := top 14
theorem sc__law_cell : FnScope n__law_cell ["script", "k"] (defScope s__law_cell) := ⟨rfl, rfl, rfl, by decide +kernel, rfl, by decide +kernel, by decide +kernel⟩
abbrev s__law_digits : Stmt := top 15
theorem sc__law_digits : FnScope n__law_digits ["cell", "sizes"] (defScope s__law_digits) := ⟨rfl, rfl, rfl, by decide +kernel, rfl, by decide +kernel, by decide +kernel⟩
abbrev s__law_store : Stmt := top 16
theorem sc__law_store : FnScope n__law_store [] (defScope s__law_store) := ⟨rfl, rfl, rfl, by decide +kernel, rfl, by decide +kernel, by decide +kernel⟩
abbrev s__law_put : Stmt := top 17
theorem sc__law_put : FnScope n__law_put ["store", "row", "height"] (defScope s__law_put) := ⟨rfl, rfl, rfl, by decide +kernel, rfl, by decide +kernel, by decide +kernel⟩
abbrev s__law_thing : Stmt := top 18
theorem sc__law_thing : FnScope n__law_thing ["store", "thing"] (defScope s__law_thing) := ⟨rfl, rfl, rfl, by decide +kernel, rfl, by decide +kernel, by decide +kernel⟩
abbrev s__law_deed : Stmt := top 19
theorem sc__law_deed : FnScope n__law_deed ["store", "name", "parts"] (defScope s__law_deed) := ⟨rfl, rfl, rfl, by decide +kernel, rfl, by decide +kernel, by decide +kernel⟩
abbrev s__law_within : Stmt := top 20
theorem sc__law_within : FnScope n__law_within ["store", "number"] (defScope s__law_within) := ⟨rfl, rfl, rfl, by decide +kernel, rfl, by decide +kernel, by decide +kernel⟩
abbrev s__law_sheet : Stmt := top 21
theorem sc__law_sheet : FnScope n__law_sheet ["store", "number"] (defScope s__law_sheet) := ⟨rfl, rfl, rfl, by decide +kernel, rfl, by decide +kernel, by decide +kernel⟩
abbrev s__law_small_answer : Stmt := top 22
theorem sc__law_small_answer : FnScope n__law_small_answer ["row", "things", "deeds"] (defScope s__law_small_answer) := ⟨rfl, rfl, rfl, by decide +kernel, rfl, by decide +kernel, by decide +kernel⟩
abbrev s_law : Stmt := top 23
theorem sc_law : FnScope n_law ["script"] (defScope s_law) := ⟨rfl, rfl, rfl, by decide +kernel, rfl, by decide +kernel, by decide +kernel⟩
structure ModF (K : PySem.W.Frag) (mg : Str → Option Value) : Prop where
  g_BadSheet : mg "BadSheet" = some (.ref (He.ga K "BadSheet"))
  g_LoopError : mg "LoopError" = some (.ref (He.ga K "LoopError"))
  g_Nodes : mg "Nodes" = some (.ref (He.ga K "Nodes"))
  g__law_cell : mg "_law_cell" = some (.ref (He.ga K "_law_cell"))
  g__law_deed : mg "_law_deed" = some (.ref (He.ga K "_law_deed"))
  g__law_digits : mg "_law_digits" = some (.ref (He.ga K "_law_digits"))
  g__law_due : mg "_law_due" = some (.ref (He.ga K "_law_due"))
  g__law_put : mg "_law_put" = some (.ref (He.ga K "_law_put"))
  g__law_sheet : mg "_law_sheet" = some (.ref (He.ga K "_law_sheet"))
  g__law_small_answer : mg "_law_small_answer" = some (.ref (He.ga K "_law_small_answer"))
  g__law_store : mg "_law_store" = some (.ref (He.ga K "_law_store"))
  g__law_thing : mg "_law_thing" = some (.ref (He.ga K "_law_thing"))
  g__law_whole : mg "_law_whole" = some (.ref (He.ga K "_law_whole"))
  g__law_within : mg "_law_within" = some (.ref (He.ga K "_law_within"))
  g_closed : mg "closed" = some (.ref (He.ga K "closed"))
  g_in_order : mg "in_order" = some (.ref (He.ga K "in_order"))
  g_law : mg "law" = some (.ref (He.ga K "law"))
  g_node_count : mg "node_count" = some (.ref (He.ga K "node_count"))
  g_node_ways : mg "node_ways" = some (.ref (He.ga K "node_ways"))
  g_path_key : mg "path_key" = some (.ref (He.ga K "path_key"))
  k__law_cell : PySem.W.keepIn K (.ref (He.ga K "_law_cell")) = true
  k__law_deed : PySem.W.keepIn K (.ref (He.ga K "_law_deed")) = true
  k__law_digits : PySem.W.keepIn K (.ref (He.ga K "_law_digits")) = true
  k__law_due : PySem.W.keepIn K (.ref (He.ga K "_law_due")) = true
  k__law_put : PySem.W.keepIn K (.ref (He.ga K "_law_put")) = true
  k__law_sheet : PySem.W.keepIn K (.ref (He.ga K "_law_sheet")) = true
  k__law_small_answer : PySem.W.keepIn K (.ref (He.ga K "_law_small_answer")) = true
  k__law_store : PySem.W.keepIn K (.ref (He.ga K "_law_store")) = true
  k__law_thing : PySem.W.keepIn K (.ref (He.ga K "_law_thing")) = true
  k__law_whole : PySem.W.keepIn K (.ref (He.ga K "_law_whole")) = true
  k__law_within : PySem.W.keepIn K (.ref (He.ga K "_law_within")) = true
  k_closed : PySem.W.keepIn K (.ref (He.ga K "closed")) = true
  k_in_order : PySem.W.keepIn K (.ref (He.ga K "in_order")) = true
  k_law : PySem.W.keepIn K (.ref (He.ga K "law")) = true
  k_node_count : PySem.W.keepIn K (.ref (He.ga K "node_count")) = true
  k_node_ways : PySem.W.keepIn K (.ref (He.ga K "node_ways")) = true
  k_path_key : PySem.W.keepIn K (.ref (He.ga K "path_key")) = true
  f_all : mg "all" = none
  f_bool : mg "bool" = none
  f_enumerate : mg "enumerate" = none
  f_int : mg "int" = none
  f_isinstance : mg "isinstance" = none
  f_len : mg "len" = none
  f_list : mg "list" = none
  f_max : mg "max" = none
  f_range : mg "range" = none
  f_sorted : mg "sorted" = none
  f_str : mg "str" = none
  f_tuple : mg "tuple" = none
  mk_Nodes : Mk K (He.ga K "Nodes") (He.ma K (He.ga K "Nodes") "__init__")
  cl_Nodes : Cls K (He.ga K "Nodes")
  na_Nodes_count : NoAttr K (He.ga K "Nodes") "count"
  na_Nodes_deeds : NoAttr K (He.ga K "Nodes") "deeds"
  na_Nodes_goal : NoAttr K (He.ga K "Nodes") "goal"
  na_Nodes_numbers : NoAttr K (He.ga K "Nodes") "numbers"
  na_Nodes_paths : NoAttr K (He.ga K "Nodes") "paths"
  na_Nodes_places : NoAttr K (He.ga K "Nodes") "places"
  na_Nodes_sheet : NoAttr K (He.ga K "Nodes") "sheet"
  na_Nodes_ways : NoAttr K (He.ga K "Nodes") "ways"
  x_BadSheet : PySem.W.excIn K (He.ga K "BadSheet") He.veBase "ValueError.__new__" = true ∧ PySem.W.keepIn K (.ref (He.ga K "BadSheet")) = true ∧ PySem.W.subIn K (.ref (He.ga K "BadSheet")) (.type "BaseException") = some true ∧ PySem.W.typeIn K (.ref (He.ga K "BadSheet")) = some (.type "type")
  m_BadSheet_BadSheet : PySem.W.exmOne K (.ref (He.ga K "BadSheet")) (.ref (He.ga K "BadSheet")) = some true
  i_BadSheet_BadSheet : PySem.W.kitOne K (.ref (He.ga K "BadSheet")) (.ref (He.ga K "BadSheet")) = some true
  m_BadSheet_LoopError : PySem.W.exmOne K (.ref (He.ga K "BadSheet")) (.ref (He.ga K "LoopError")) = some true
  i_BadSheet_LoopError : PySem.W.kitOne K (.ref (He.ga K "BadSheet")) (.ref (He.ga K "LoopError")) = some true
  t_BadSheet_ValueError : PySem.W.kitOne K (.ref (He.ga K "BadSheet")) (.type "ValueError") = some true
  e_BadSheet : ExcC K (He.ga K "BadSheet")
  d_path_key : ∃ fd, FunD K "path_key" "path_key" (defArgs s_path_key) (defBody s_path_key) (defScope s_path_key) [] [] (He.ga K "path_key") fd
  d_in_order : ∃ fd, FunD K "in_order" "in_order" (defArgs s_in_order) (defBody s_in_order) (defScope s_in_order) [] [] (He.ga K "in_order") fd
  d_closed : ∃ fd, FunD K "closed" "closed" (defArgs s_closed) (defBody s_closed) (defScope s_closed) [] [] (He.ga K "closed") fd
  d_Nodes_init : ∃ fd, FunD K "__init__" "Nodes.__init__" (defArgs s_Nodes_init) (defBody s_Nodes_init) (defScope s_Nodes_init) [] [] (He.ma K (He.ga K "Nodes") "__init__") fd
  d_node_ways : ∃ fd, FunD K "node_ways" "node_ways" (defArgs s_node_ways) (defBody s_node_ways) (defScope s_node_ways) [] [] (He.ga K "node_ways") fd
  d_node_count : ∃ fd, FunD K "node_count" "node_count" (defArgs s_node_count) (defBody s_node_count) (defScope s_node_count) [] [] (He.ga K "node_count") fd
  d__law_due : ∃ fd, FunD K "_law_due" "_law_due" (defArgs s__law_due) (defBody s__law_due) (defScope s__law_due) [] [] (He.ga K "_law_due") fd
  d__law_whole : ∃ fd, FunD K "_law_whole" "_law_whole" (defArgs s__law_whole) (defBody s__law_whole) (defScope s__law_whole) [] [] (He.ga K "_law_whole") fd
  d__law_cell : ∃ fd, FunD K "_law_cell" "_law_cell" (defArgs s__law_cell) (defBody s__law_cell) (defScope s__law_cell) [] [] (He.ga K "_law_cell") fd
  d__law_digits : ∃ fd, FunD K "_law_digits" "_law_digits" (defArgs s__law_digits) (defBody s__law_digits) (defScope s__law_digits) [] [] (He.ga K "_law_digits") fd
  d__law_store : ∃ fd, FunD K "_law_store" "_law_store" (defArgs s__law_store) (defBody s__law_store) (defScope s__law_store) [] [] (He.ga K "_law_store") fd
  d__law_put : ∃ fd, FunD K "_law_put" "_law_put" (defArgs s__law_put) (defBody s__law_put) (defScope s__law_put) [] [] (He.ga K "_law_put") fd
  d__law_thing : ∃ fd, FunD K "_law_thing" "_law_thing" (defArgs s__law_thing) (defBody s__law_thing) (defScope s__law_thing) [] [] (He.ga K "_law_thing") fd
  d__law_deed : ∃ fd, FunD K "_law_deed" "_law_deed" (defArgs s__law_deed) (defBody s__law_deed) (defScope s__law_deed) [] [] (He.ga K "_law_deed") fd
  d__law_within : ∃ fd, FunD K "_law_within" "_law_within" (defArgs s__law_within) (defBody s__law_within) (defScope s__law_within) [] [] (He.ga K "_law_within") fd
  d__law_sheet : ∃ fd, FunD K "_law_sheet" "_law_sheet" (defArgs s__law_sheet) (defBody s__law_sheet) (defScope s__law_sheet) [] [] (He.ga K "_law_sheet") fd
  d__law_small_answer : ∃ fd, FunD K "_law_small_answer" "_law_small_answer" (defArgs s__law_small_answer) (defBody s__law_small_answer) (defScope s__law_small_answer) [] [] (He.ga K "_law_small_answer") fd
  d_law : ∃ fd, FunD K "law" "law" (defArgs s_law) (defBody s_law) (defScope s_law) [] [] (He.ga K "law") fd
section
variable {P : Program} {w : World} {K : PySem.W.Frag} {mg : Str → Option Value} {base : Heap}
theorem ok_path_key {k : Nat} {sp : Sp} (Z : ModF K mg) (len : ∀ vs H Q E, sp vs H Q E → vs.length = 1) (pure : ∀ vs H Q E, sp vs H Q E → t_path_key K { nx := fun _ H' => Q .non H', rt := Q } (L2.start n_path_key vs) H) : FnR P w K mg base CX0 (k + 1) (He.ga K "path_key") sp := by
  obtain ⟨fd, F⟩ := Z.d_path_key
  have b : Binds K fd ["path"] [] := F.bindsN fun _ _ _ _ _ _ us hl => match us, hl with | [_], _ => rfl
  refine (FnOk.raw (F.ok (CX := CX0) sc_path_key len fun cdv A outer s H vs Q E hr h => ⟨t_path_key K, PSs.nox ?_, pure vs H Q E h⟩) b .nil).imp fun vs H Q E h => (List.append_nil vs).symm ▸ h
  have hu := hr.units
  have hu2 := units65 hr
  have hr0 := hr.mono (j := k) (by omega)
  exact (pss_one (ps_ret (pe_tup (pa_cons (pe_callB c_len (by rfl) Z.f_len (by decide +kernel) (pa_cons (pv 0) pa_nil)) (pa_cons (pv 0) pa_nil)))))
theorem ok_in_order {k : Nat} {sp sp_path_key : Sp} (Z : ModF K mg) (c_path_key : FnR P w K mg base CX0 k (He.ga K "path_key") sp_path_key) (len : ∀ vs H Q E, sp vs H Q E → vs.length = 1) (pure : ∀ vs H Q E, sp vs H Q E → t_in_order K sp_path_key { nx := fun _ H' => Q .non H', rt := Q } (L2.start n_in_order vs) H) : FnR P w K mg base CX0 (k + 2) (He.ga K "in_order") sp := by
  obtain ⟨fd, F⟩ := Z.d_in_order
  have b : Binds K fd ["paths"] [] := F.bindsN fun _ _ _ _ _ _ us hl => match us, hl with | [_], _ => rfl
  refine (FnOk.raw (F.ok (CX := CX0) sc_in_order len fun cdv A outer s H vs Q E hr h => ⟨t_in_order K sp_path_key, PSs.nox ?_, pure vs H Q E h⟩) b .nil).imp fun vs H Q E h => (List.append_nil vs).symm ▸ h
  have hu := hr.units
  have hu2 := units65 hr
  have hr0 := hr.mono (j := k) (by omega)
  have hr1 := hr.mono (j := k + 1) (by omega)
  exact (pss_cons (ps_setDc (own := [("path", 2)]) (i := 1) rfl sc_in_order.nd rfl rfl (sw_trueD rfl rfl rfl (by decide +kernel)) (pi_any (pv 0)) (blkOk_by (N := n_in_order) (sc := defScope s_in_order) (own := [("path", 2)]) (by decide +kernel)) (fun _ _ _ _ _ => (pg_name (i := 2) sc_in_order.nd rfl (by first | exact .inl rfl | exact .inr rfl))) (fun _ _ _ _ _ => pts_nil) (fun _ _ _ _ _ => (pv 2)) (fun _ _ _ _ _ => pe_bl))
  (pss_one (ps_ret (pe_callTy c_tuple (by rfl) Z.f_tuple (by decide +kernel) (pa_cons (pe_callBK (cr_sortKey c_path_key hr1) (by rfl) Z.f_sorted (by decide +kernel) (pa_cons (pe_callTy (c_listA rfl) (by rfl) Z.f_list (by decide +kernel) (pa_cons (pv 1) pa_nil)) pa_nil) (pk_cons (pe_glob (by rfl) Z.g_path_key rfl) pk_nil)) pa_nil)))))
theorem ok_closed {k : Nat} {sp sp_in_order : Sp} (Z : ModF K mg) (c_in_order : FnR P w K mg base CX0 k (He.ga K "in_order") sp_in_order) (len : ∀ vs H Q E, sp vs H Q E → vs.length = 1) (pure : ∀ vs H Q E, sp vs H Q E → t_closed K sp_in_order { nx := fun _ H' => Q .non H', rt := Q } (L2.start n_closed vs) H) : FnR P w K mg base CX0 (k + 1) (He.ga K "closed") sp := by
  obtain ⟨fd, F⟩ := Z.d_closed
  have b : Binds K fd ["paths"] [] := F.bindsN fun _ _ _ _ _ _ us hl => match us, hl with | [_], _ => rfl
  refine (FnOk.raw (F.ok (CX := CX0) sc_closed len fun cdv A outer s H vs Q E hr h => ⟨t_closed K sp_in_order, PSs.nox ?_, pure vs H Q E h⟩) b .nil).imp fun vs H Q E h => (List.append_nil vs).symm ▸ h
  have hu := hr.units
  have hu2 := units65 hr
  have hr0 := hr.mono (j := k) (by omega)
  exact (pss_cons (ps_set (i := 1) sc_closed.nd rfl (by first | exact .inl rfl | exact .inr rfl) pe_dnewK)
  (pss_cons (ps_for PassesOwn.never rfl (pi_any (pv 0)) (pg_name (i := 2) sc_closed.nd rfl (by first | exact .inl rfl | exact .inr rfl))
  (pss_one (ps_for PassesOwn.never rfl (pi_range3 (by rfl) Z.f_range (pa_cons (pe_callB c_len (by rfl) Z.f_len (by decide +kernel) (pa_cons (pv 2) pa_nil)) (pa_cons (pe_un o_neg pe_int) (pa_cons (pe_un o_neg pe_int) pa_nil)))) (pg_name (i := 3) sc_closed.nd rfl (by first | exact .inl rfl | exact .inr rfl))
  (pss_cons (ps_if (pt_cmpR (o_in hu2) (pe_slice s_any (pv 2) po_none (po_some (pv 3))) (pv 1) (by rfl))
  (pss_one ps_break)
  pss_nil)
  (pss_one (ps_asg pe_bl (pg_sub (pv 1) (pe_slice s_any (pv 2) po_none (po_some (pv 3))) (s_set hu) (fun _ => rfl))))))))
  (pss_one (ps_ret (pe_callR c_in_order hr0 (by rfl) Z.g_in_order Z.k_in_order pass0 (pa_cons (pe_callTy (c_listA rfl) (by rfl) Z.f_list (by decide +kernel) (pa_cons (pv 1) pa_nil)) pa_nil))))))
theorem ok_Nodes_init {k : Nat} {sp sp_closed sp_node_ways : Sp} (Z : ModF K mg) (c_closed : FnR P w K mg base CX0 k (He.ga K "closed") sp_closed) (c_node_ways : FnR P w K mg base CX0 k (He.ga K "node_ways") sp_node_ways) (len : ∀ vs H Q E, sp vs H Q E → vs.length = 2) (pure : ∀ vs H Q E, sp vs H Q E → t_Nodes_init K sp_closed sp_node_ways E { nx := fun _ H' => Q .non H', rt := Q } (L2.start n_Nodes_init vs) H) : FnR P w K mg base (L2.CX P w) (k + 1) (He.ma K (He.ga K "Nodes") "__init__") sp := by
  obtain ⟨fd, F⟩ := Z.d_Nodes_init
  have b : Binds K fd ["self", "sheet"] [] := F.bindsN fun _ _ _ _ _ _ us hl => match us, hl with | [_, _], _ => rfl
  refine (FnOk.raw (F.ok (CX := (L2.CX P w)) sc_Nodes_init len fun cdv A outer s H vs Q E hr h => ⟨t_Nodes_init K sp_closed sp_node_ways E, ?_, pure vs H Q E h⟩) b .nil).imp fun vs H Q E h => (List.append_nil vs).symm ▸ h
  have hu := hr.units
  have hu2 := units65 hr
  have hr0 := hr.mono (j := k) (by omega)
  exact (pss_cons (ps_setLc (own := [("part", 4)]) (i := 2) rfl sc_Nodes_init.nd rfl rfl (sw_true rfl rfl rfl (by decide +kernel)) (pi_any (pv 1)) (blkOk_by (N := n_Nodes_init) (sc := defScope s_Nodes_init) (own := [("part", 4)]) (by decide +kernel)) (fun _ _ _ _ _ => (pg_name (i := 4) sc_Nodes_init.nd rfl (by first | exact .inl rfl | exact .inr rfl))) (fun _ _ _ _ _ => (pts_one (pt_cmpR (o_eq hu) (pe_ix (o_ix hu) (pv 4) pe_int (fun _ _ => rfl)) pe_str (nomark _)))) (fun _ _ _ _ _ => (pe_ix (o_ix hu) (pv 4) pe_int (fun _ _ => rfl))))
  (pss_cons (ps_if (pt_not (pt_truth (pe_callB (cr_all rfl) (by rfl) Z.f_all (by decide +kernel) (pa_cons (pe_lc (own := [("thing", 7)]) rfl sc_Nodes_init.nd (pi_any (pv 2)) (blkOk_by (N := n_Nodes_init) (sc := defScope s_Nodes_init) (own := [("thing", 7)]) (by decide +kernel)) (fun _ _ _ _ _ => (pg_name (i := 7) sc_Nodes_init.nd rfl (by first | exact .inl rfl | exact .inr rfl))) (fun _ _ _ _ _ => pts_nil) (fun _ _ _ _ _ => (pe_callB c_isi (by rfl) Z.f_isinstance (by decide +kernel) (pa_cons (pv 7) (pa_cons (pe_bltn (by rfl) Z.f_str (by decide +kernel) rfl) pa_nil))))) pa_nil)) (by intro _; rfl)))
  (pss_one (ps_raise rfl (takes_of rfl rfl rfl rfl) (pmk_own0 PySem.F.excBase_ValueError Z.x_BadSheet.1 Z.g_BadSheet Z.x_BadSheet.2.1 (raises_own Z.x_BadSheet.2.2.1 Z.x_BadSheet.2.2.2) (by rfl))))
  pss_nil)
  (pss_cons (ps_fld (pv 0) (pv 1) rfl)
  (pss_cons (ps_fld (pv 0) (pe_callR c_closed hr0 (by rfl) Z.g_closed Z.k_closed pass0 (pa_cons (pe_op o_add (pe_lst (pa_cons pe_str pa_nil)) (pv 2)) pa_nil)) rfl)
  (pss_cons (ps_fld (pv 0) (pe_dc (own := [("at", 5), ("path", 6)]) rfl sc_Nodes_init.nd (pi_enumA (by rfl) Z.f_enumerate (pa_cons (pe_fld (pv 0) rfl) pa_nil)) (blkOk_by (N := n_Nodes_init) (sc := defScope s_Nodes_init) (own := [("at", 5), ("path", 6)]) (by decide +kernel)) (fun _ _ _ _ _ => (pg_tup rfl (pgs_cons (pg_name (i := 5) sc_Nodes_init.nd rfl (by first | exact .inl rfl | exact .inr rfl)) (pgs_cons (pg_name (i := 6) sc_Nodes_init.nd rfl (by first | exact .inl rfl | exact .inr rfl)) pgs_nil)))) (fun _ _ _ _ _ => pts_nil) (fun _ _ _ _ _ => (pv 6)) (fun _ _ _ _ _ => (pv 5))) rfl)
  (pss_cons (ps_fld (pv 0) (pe_callB c_len (by rfl) Z.f_len (by decide +kernel) (pa_cons (pe_fld (pv 0) rfl) pa_nil)) rfl)
  (pss_cons (ps_set (i := 3) sc_Nodes_init.nd rfl (by first | exact .inl rfl | exact .inr rfl) (pe_lst pa_nil))
  (pss_cons (ps_for (passes_of rfl) rfl (pi_any (pv 1)) (pg_name (i := 4) sc_Nodes_init.nd rfl (by first | exact .inl rfl | exact .inr rfl))
  (pss_one (ps_if (pt_cmpR (o_eq hu) (pe_ix (o_ix hu) (pv 4) pe_int (fun _ _ => rfl)) pe_str (nomark _))
  (pss_one (ps_expr (pe_bm PySem.F.plainAttrs_list PySem.F.slot_list_append PySem.F.type_list_append mt_append (pv 3) (pa_cons (pe_ix (o_ix hu) (pe_fld (pv 0) rfl) (pe_ix (o_ix hu) (pv 4) pe_int (fun _ _ => rfl)) (fun _ _ => rfl)) pa_nil))))
  (pss_cons (ps_expr (pe_bm PySem.F.plainAttrs_list PySem.F.slot_list_append PySem.F.type_list_append mt_append (pv 3) (pa_cons (pe_fld (pv 0) rfl) pa_nil)))
  (pss_one (ps_fld (pv 0) (pe_op o_add (pe_fld (pv 0) rfl) pe_int) rfl))))))
  (pss_cons (ps_fld (pv 0) (pe_callTy c_tuple (by rfl) Z.f_tuple (by decide +kernel) (pa_cons (pv 3) pa_nil)) rfl)
  (pss_cons (ps_fld (pv 0) (pe_lc (own := [("at", 5), ("part", 4)]) rfl sc_Nodes_init.nd (pi_enumA (by rfl) Z.f_enumerate (pa_cons (pv 1) pa_nil)) (blkOk_by (N := n_Nodes_init) (sc := defScope s_Nodes_init) (own := [("at", 5), ("part", 4)]) (by decide +kernel)) (fun _ _ _ _ _ => (pg_tup rfl (pgs_cons (pg_name (i := 5) sc_Nodes_init.nd rfl (by first | exact .inl rfl | exact .inr rfl)) (pgs_cons (pg_name (i := 4) sc_Nodes_init.nd rfl (by first | exact .inl rfl | exact .inr rfl)) pgs_nil)))) (fun _ _ _ _ _ => (pts_one (pt_cmpR (o_eq hu) (pe_ix (o_ix hu) (pv 4) pe_int (fun _ _ => rfl)) pe_str (nomark _)))) (fun _ _ _ _ _ => (pv 5))) rfl)
  (pss_cons (ps_fld (pv 0) (pe_ix (o_ix hu) (pe_fld (pv 0) rfl) (pe_un o_neg pe_int) (fun _ _ => rfl)) rfl)
  (pss_one (ps_fld (pv 0) (pe_callR c_node_ways hr0 (by rfl) Z.g_node_ways Z.k_node_ways pass0 (pa_cons (pv 0) pa_nil)) rfl)))))))))))))
theorem ok_node_ways {k : Nat} {sp : Sp} (Z : ModF K mg) (len : ∀ vs H Q E, sp vs H Q E → vs.length = 1) (pure : ∀ vs H Q E, sp vs H Q E → t_node_ways K { nx := fun _ H' => Q .non H', rt := Q } (L2.start n_node_ways vs) H) : FnR P w K mg base CX0 (k + 1) (He.ga K "node_ways") sp := by
  obtain ⟨fd, F⟩ := Z.d_node_ways
  have b : Binds K fd ["nodes"] [] := F.bindsN fun _ _ _ _ _ _ us hl => match us, hl with | [_], _ => rfl
  refine (FnOk.raw (F.ok (CX := CX0) sc_node_ways len fun cdv A outer s H vs Q E hr h => ⟨t_node_ways K, PSs.nox ?_, pure vs H Q E h⟩) b .nil).imp fun vs H Q E h => (List.append_nil vs).symm ▸ h
  have hu := hr.units
  have hu2 := units65 hr
  have hr0 := hr.mono (j := k) (by omega)
  exact (pss_cons (ps_setLc (own := [("number", 2)]) (i := 1) rfl sc_node_ways.nd rfl rfl (sw_true rfl rfl rfl (by decide +kernel)) (pi_range1 (by rfl) Z.f_range (pa_cons (pe_fld (pv 0) rfl) pa_nil)) (blkOk_by (N := n_node_ways) (sc := defScope s_node_ways) (own := [("number", 2)]) (by decide +kernel)) (fun _ _ _ _ _ => (pg_name (i := 2) sc_node_ways.nd rfl (by first | exact .inl rfl | exact .inr rfl))) (fun _ _ _ _ _ => pts_nil) (fun _ _ _ _ _ => (pe_lst pa_nil)))
  (pss_cons (ps_for PassesOwn.never rfl (pi_enumA (by rfl) Z.f_enumerate (pa_cons (pe_fld (pv 0) rfl) pa_nil)) (pg_tup rfl (pgs_cons (pg_name (i := 2) sc_node_ways.nd rfl (by first | exact .inl rfl | exact .inr rfl)) (pgs_cons (pg_name (i := 3) sc_node_ways.nd rfl (by first | exact .inl rfl | exact .inr rfl)) pgs_nil)))
  (pss_one (ps_if (pt_cmpR (o_ne hu) (pv 3) pe_str (nomark _))
  (pss_cons (ps_set (i := 4) sc_node_ways.nd rfl (by first | exact .inl rfl | exact .inr rfl) (pe_ix (o_ix hu) (pe_fld (pv 0) rfl) (pe_slice s_any (pv 3) po_none (po_some (pe_un o_neg pe_int))) (fun _ _ => rfl)))
  (pss_cons (ps_expr (pe_bm PySem.F.plainAttrs_list PySem.F.slot_list_append PySem.F.type_list_append mt_append (pe_ix (o_ix hu) (pv 1) (pv 2) (fun _ _ => rfl)) (pa_cons (pe_tup (pa_cons (pe_tup (pa_cons pe_str (pa_cons (pe_ix (o_ix hu) (pv 3) (pe_un o_neg pe_int) (fun _ _ => rfl)) pa_nil))) (pa_cons (pe_tup (pa_cons (pv 4) pa_nil)) pa_nil))) pa_nil)))
  (pss_one (ps_expr (pe_bm PySem.F.plainAttrs_list PySem.F.slot_list_append PySem.F.type_list_append mt_append (pe_ix (o_ix hu) (pv 1) (pv 4) (fun _ _ => rfl)) (pa_cons (pe_tup (pa_cons (pe_tup (pa_cons pe_str (pa_cons (pe_ix (o_ix hu) (pv 3) (pe_un o_neg pe_int) (fun _ _ => rfl)) pa_nil))) (pa_cons (pe_tup (pa_cons (pv 2) pa_nil)) pa_nil))) pa_nil))))))
  pss_nil)))
  (pss_cons (ps_for PassesOwn.never rfl (pi_any (pe_fld (pv 0) rfl)) (pg_name (i := 5) sc_node_ways.nd rfl (by first | exact .inl rfl | exact .inr rfl))
  (pss_cons (ps_set (i := 6) sc_node_ways.nd rfl (by first | exact .inl rfl | exact .inr rfl) (pe_ix (o_ix hu) (pe_fld (pv 0) rfl) (pv 5) (fun _ _ => rfl)))
  (pss_one (ps_expr (pe_bm PySem.F.plainAttrs_list PySem.F.slot_list_append PySem.F.type_list_append mt_append (pe_ix (o_ix hu) (pv 1) (pe_ix (o_ix hu) (pe_fld (pv 0) rfl) (pv 5) (fun _ _ => rfl)) (fun _ _ => rfl)) (pa_cons (pe_tup (pa_cons (pe_tup (pa_cons pe_str (pa_cons (pe_ix (o_ix hu) (pv 6) pe_int (fun _ _ => rfl)) pa_nil))) (pa_cons (pe_callTy c_tuple (by rfl) Z.f_tuple (by decide +kernel) (pa_cons (pe_lc (own := [("inner", 7)]) rfl sc_node_ways.nd (pi_any (pe_ix (o_ix hu) (pv 6) pe_int (fun _ _ => rfl))) (blkOk_by (N := n_node_ways) (sc := defScope s_node_ways) (own := [("inner", 7)]) (by decide +kernel)) (fun _ _ _ _ _ => (pg_name (i := 7) sc_node_ways.nd rfl (by first | exact .inl rfl | exact .inr rfl))) (fun _ _ _ _ _ => pts_nil) (fun _ _ _ _ _ => (pe_ix (o_ix hu) (pe_fld (pv 0) rfl) (pv 7) (fun _ _ => rfl)))) pa_nil)) pa_nil))) pa_nil))))))
  (pss_one (ps_ret (pv 1))))))
theorem ok_node_count {k : Nat} {sp sp_Nodes_init : Sp} (Z : ModF K mg) (c_Nodes_init : FnR P w K mg base (L2.CX P w) k (He.ma K (He.ga K "Nodes") "__init__") sp_Nodes_init) (len : ∀ vs H Q E, sp vs H Q E → vs.length = 1) (pure : ∀ vs H Q E, sp vs H Q E → t_node_count K sp_Nodes_init E { nx := fun _ H' => Q .non H', rt := Q } (L2.start n_node_count vs) H) : FnR P w K mg base (L2.CX P w) (k + 2) (He.ga K "node_count") sp := by
  obtain ⟨fd, F⟩ := Z.d_node_count
  have b : Binds K fd ["sheet"] [] := F.bindsN fun _ _ _ _ _ _ us hl => match us, hl with | [_], _ => rfl
  refine (FnOk.raw (F.ok (CX := (L2.CX P w)) sc_node_count len fun cdv A outer s H vs Q E hr h => ⟨t_node_count K sp_Nodes_init E, ?_, pure vs H Q E h⟩) b .nil).imp fun vs H Q E h => (List.append_nil vs).symm ▸ h
  have hu := hr.units
  have hu2 := units65 hr
  have hr0 := hr.mono (j := k) (by omega)
  have hr1 := hr.mono (j := k + 1) (by omega)
  exact (pss_one (ps_ret (pe_fld (pe_makeSR Z.mk_Nodes c_Nodes_init hr1 (by rfl) Z.g_Nodes (fun σ => passAt (takes_of rfl rfl rfl rfl) σ) (pa_cons (pv 0) pa_nil)) rfl)))
theorem ok__law_due {k : Nat} {sp : Sp} (Z : ModF K mg) (len : ∀ vs H Q E, sp vs H Q E → vs.length = 1) (pure : ∀ vs H Q E, sp vs H Q E → t__law_due K { nx := fun _ H' => Q .non H', rt := Q } (L2.start n__law_due vs) H) : FnR P w K mg base CX0 (k + 1) (He.ga K "_law_due") sp := by
  obtain ⟨fd, F⟩ := Z.d__law_due
  have b : Binds K fd ["sheet"] [] := F.bindsN fun _ _ _ _ _ _ us hl => match us, hl with | [_], _ => rfl
  refine (FnOk.raw (F.ok (CX := CX0) sc__law_due len fun cdv A outer s H vs Q E hr h => ⟨t__law_due K, PSs.nox ?_, pure vs H Q E h⟩) b .nil).imp fun vs H Q E h => (List.append_nil vs).symm ▸ h
  have hu := hr.units
  have hu2 := units65 hr
  have hr0 := hr.mono (j := k) (by omega)
  exact (pss_cons (ps_set (i := 1) sc__law_due.nd rfl (by first | exact .inl rfl | exact .inr rfl) (pe_disp (pps_cons pe_str pe_bl pps_nil) rfl rfl (by decide) (by decide)))
  (pss_cons (ps_set (i := 2) sc__law_due.nd rfl (by first | exact .inl rfl | exact .inr rfl) pe_int)
  (pss_cons (ps_for PassesOwn.never rfl (pi_any (pv 0)) (pg_name (i := 3) sc__law_due.nd rfl (by first | exact .inl rfl | exact .inr rfl))
  (pss_one (ps_if (pt_cmpR (o_eq hu) (pe_ix (o_ix hu) (pv 3) pe_int (fun _ _ => rfl)) pe_str (nomark _))
  (pss_one (ps_for PassesOwn.never rfl (pi_range1 (by rfl) Z.f_range (pa_cons (pe_callB c_len (by rfl) Z.f_len (by decide +kernel) (pa_cons (pe_ix (o_ix hu) (pv 3) pe_int (fun _ _ => rfl)) pa_nil)) pa_nil)) (pg_name (i := 4) sc__law_due.nd rfl (by first | exact .inl rfl | exact .inr rfl))
  (pss_one (ps_asg pe_bl (pg_sub (pv 1) (pe_slice s_any (pe_ix (o_ix hu) (pv 3) pe_int (fun _ _ => rfl)) po_none (po_some (pe_op o_add (pv 4) pe_int))) (s_set hu) (fun _ => rfl))))))
  (pss_one (ps_set (i := 2) sc__law_due.nd rfl (by first | exact .inl rfl | exact .inr rfl) (pe_op o_add (pv 2) pe_int))))))
  (pss_one (ps_ret (pe_op o_add (pe_callB call_lenD (by rfl) Z.f_len (by decide +kernel) (pa_cons (pv 1) pa_nil)) (pv 2)))))))
theorem ok__law_whole {k : Nat} {sp : Sp} (Z : ModF K mg) (len : ∀ vs H Q E, sp vs H Q E → vs.length = 1) (pure : ∀ vs H Q E, sp vs H Q E → t__law_whole K { nx := fun _ H' => Q .non H', rt := Q } (L2.start n__law_whole vs) H) : FnR P w K mg base CX0 (k + 1) (He.ga K "_law_whole") sp := by
  obtain ⟨fd, F⟩ := Z.d__law_whole
  have b : Binds K fd ["value"] [] := F.bindsN fun _ _ _ _ _ _ us hl => match us, hl with | [_], _ => rfl
  refine (FnOk.raw (F.ok (CX := CX0) sc__law_whole len fun cdv A outer s H vs Q E hr h => ⟨t__law_whole K, PSs.nox ?_, pure vs H Q E h⟩) b .nil).imp fun vs H Q E h => (List.append_nil vs).symm ▸ h
  have hu := hr.units
  have hu2 := units65 hr
  have hr0 := hr.mono (j := k) (by omega)
  exact (pss_one (ps_ret (pe_andT (pe_callB c_isi (by rfl) Z.f_isinstance (by decide +kernel) (pa_cons (pv 0) (pa_cons (pe_bltn (by rfl) Z.f_int (by decide +kernel) rfl) pa_nil))) (pe_one (pe_notT (pe_callB c_isi (by rfl) Z.f_isinstance (by decide +kernel) (pa_cons (pv 0) (pa_cons (pe_bltn (by rfl) Z.f_bool (by decide +kernel) rfl) pa_nil))))))))
theorem ok__law_cell {k : Nat} {sp : Sp} (Z : ModF K mg) (len : ∀ vs H Q E, sp vs H Q E → vs.length = 2) (pure : ∀ vs H Q E, sp vs H Q E → t__law_cell K { nx := fun _ H' => Q .non H', rt := Q } (L2.start n__law_cell vs) H) : FnR P w K mg base CX0 (k + 1) (He.ga K "_law_cell") sp := by
  obtain ⟨fd, F⟩ := Z.d__law_cell
  have b : Binds K fd ["script", "k"] [] := F.bindsN fun _ _ _ _ _ _ us hl => match us, hl with | [_, _], _ => rfl
  refine (FnOk.raw (F.ok (CX := CX0) sc__law_cell len fun cdv A outer s H vs Q E hr h => ⟨t__law_cell K, PSs.nox ?_, pure vs H Q E h⟩) b .nil).imp fun vs H Q E h => (List.append_nil vs).symm ▸ h
  have hu := hr.units
  have hu2 := units65 hr
  have hr0 := hr.mono (j := k) (by omega)
  exact (pss_cons (ps_if (pt_cmpR o_lt (pv 1) (pe_callB c_len (by rfl) Z.f_len (by decide +kernel) (pa_cons (pv 0) pa_nil)) (nomark _))
  (pss_one (ps_ret (pe_ix (o_ix hu) (pv 0) (pv 1) (fun _ _ => rfl))))
  pss_nil)
  (pss_cons (ps_set (i := 2) sc__law_cell.nd rfl (by first | exact .inl rfl | exact .inr rfl) pe_int)
  (pss_cons (ps_for PassesOwn.never rfl (pi_any (pv 0)) (pg_name (i := 3) sc__law_cell.nd rfl (by first | exact .inl rfl | exact .inr rfl))
  (pss_one (ps_set (i := 2) sc__law_cell.nd rfl (by first | exact .inl rfl | exact .inr rfl) (pe_op o_mod (pe_callTy c_int (by rfl) Z.f_int (by decide +kernel) (pa_cons (pe_op o_add (pe_op o_mul (pv 2) pe_int) (pe_op o_mod (pe_callTy c_int (by rfl) Z.f_int (by decide +kernel) (pa_cons (pv 3) pa_nil)) pe_int)) pa_nil)) pe_int))))
  (pss_one (ps_ret (pe_op o_mod (pe_callTy c_int (by rfl) Z.f_int (by decide +kernel) (pa_cons (pe_op o_mul (pe_op o_mul (pe_op o_add (pv 2) pe_int) (pe_op o_add (pv 1) pe_int)) pe_int) pa_nil)) pe_int))))))
theorem ok__law_digits {k : Nat} {sp : Sp} (Z : ModF K mg) (len : ∀ vs H Q E, sp vs H Q E → vs.length = 2) (pure : ∀ vs H Q E, sp vs H Q E → t__law_digits K { nx := fun _ H' => Q .non H', rt := Q } (L2.start n__law_digits vs) H) : FnR P w K mg base CX0 (k + 1) (He.ga K "_law_digits") sp := by
  obtain ⟨fd, F⟩ := Z.d__law_digits
  have b : Binds K fd ["cell", "sizes"] [] := F.bindsN fun _ _ _ _ _ _ us hl => match us, hl with | [_, _], _ => rfl
  refine (FnOk.raw (F.ok (CX := CX0) sc__law_digits len fun cdv A outer s H vs Q E hr h => ⟨t__law_digits K, PSs.nox ?_, pure vs H Q E h⟩) b .nil).imp fun vs H Q E h => (List.append_nil vs).symm ▸ h
  have hu := hr.units
  have hu2 := units65 hr
  have hr0 := hr.mono (j := k) (by omega)
  exact (pss_cons (ps_set (i := 2) sc__law_digits.nd rfl (by first | exact .inl rfl | exact .inr rfl) (pe_lst pa_nil))
  (pss_cons (ps_set (i := 3) sc__law_digits.nd rfl (by first | exact .inl rfl | exact .inr rfl) (pe_callTy c_int (by rfl) Z.f_int (by decide +kernel) (pa_cons (pv 0) pa_nil)))
  (pss_cons (ps_if (pt_cmpR o_ge (pv 3) (pe_op o_pow pe_int pe_int) (nomark _))
  (pss_cons (ps_set (i := 3) sc__law_digits.nd rfl (by first | exact .inl rfl | exact .inr rfl) (pe_op o_sub (pv 3) (pe_op o_pow pe_int pe_int)))
  (pss_cons (ps_for PassesOwn.never rfl (pi_any (pv 1)) (pg_name (i := 4) sc__law_digits.nd rfl (by first | exact .inl rfl | exact .inr rfl))
  (pss_cons (ps_expr (pe_bm PySem.F.plainAttrs_list PySem.F.slot_list_append PySem.F.type_list_append mt_append (pv 2) (pa_cons (pe_op o_mod (pe_callTy c_int (by rfl) Z.f_int (by decide +kernel) (pa_cons (pv 3) pa_nil)) (pv 4)) pa_nil)))
  (pss_one (ps_set (i := 3) sc__law_digits.nd rfl (by first | exact .inl rfl | exact .inr rfl) (pe_op o_div (pe_callTy c_int (by rfl) Z.f_int (by decide +kernel) (pa_cons (pv 3) pa_nil)) (pv 4))))))
  (pss_one (ps_ret (pv 2)))))
  pss_nil)
  (pss_cons (ps_set (i := 5) sc__law_digits.nd rfl (by first | exact .inl rfl | exact .inr rfl) (pe_op o_mod (pe_callTy c_int (by rfl) Z.f_int (by decide +kernel) (pa_cons (pv 3) pa_nil)) pe_int))
  (pss_cons (ps_for PassesOwn.never rfl (pi_range1 (by rfl) Z.f_range (pa_cons (pe_callB c_len (by rfl) Z.f_len (by decide +kernel) (pa_cons (pv 1) pa_nil)) pa_nil)) (pg_name (i := 6) sc__law_digits.nd rfl (by first | exact .inl rfl | exact .inr rfl))
  (pss_cons (ps_set (i := 5) sc__law_digits.nd rfl (by first | exact .inl rfl | exact .inr rfl) (pe_op o_mod (pe_callTy c_int (by rfl) Z.f_int (by decide +kernel) (pa_cons (pe_op o_add (pe_op o_add (pe_op o_mul (pv 5) pe_int) (pe_op o_mul pe_int (pv 6))) pe_int) pa_nil)) pe_int))
  (pss_cons (ps_set (i := 7) sc__law_digits.nd rfl (by first | exact .inl rfl | exact .inr rfl) (pe_op o_mod (pe_callTy c_int (by rfl) Z.f_int (by decide +kernel) (pa_cons (pe_op o_mul (pv 5) (pe_op o_add (pe_op o_div (pv 5) pe_int) pe_int)) pa_nil)) pe_int))
  (pss_one (ps_expr (pe_bm PySem.F.plainAttrs_list PySem.F.slot_list_append PySem.F.type_list_append mt_append (pv 2) (pa_cons (pe_op o_mod (pe_op o_div (pv 7) pe_int) (pe_ix (o_ix hu) (pv 1) (pv 6) (fun _ _ => rfl))) pa_nil)))))))
  (pss_one (ps_ret (pv 2))))))))
theorem ok__law_store {k : Nat} {sp : Sp} (Z : ModF K mg) (len : ∀ vs H Q E, sp vs H Q E → vs.length = 0) (pure : ∀ vs H Q E, sp vs H Q E → t__law_store K w { nx := fun _ H' => Q .non H', rt := Q } (L2.start n__law_store vs) H) : FnR P w K mg base CX0 (k + 1) (He.ga K "_law_store") sp := by
  obtain ⟨fd, F⟩ := Z.d__law_store
  have b : Binds K fd [] [] := F.bindsN fun _ _ _ _ _ _ us hl => match us, hl with | [], _ => rfl
  refine (FnOk.raw (F.ok (CX := CX0) sc__law_store len fun cdv A outer s H vs Q E hr h => ⟨t__law_store K w, PSs.nox ?_, pure vs H Q E h⟩) b .nil).imp fun vs H Q E h => (List.append_nil vs).symm ▸ h
  have hu := hr.units
  have hu2 := units65 hr
  have hr0 := hr.mono (j := k) (by omega)
  exact (pss_one (ps_ret (pe_lst (pa_cons (pe_lst pa_nil) (pa_cons pe_dnewN (pa_cons (pe_lst pa_nil) pa_nil))))))
theorem ok__law_put {k : Nat} {sp : Sp} (Z : ModF K mg) (len : ∀ vs H Q E, sp vs H Q E → vs.length = 3) (pure : ∀ vs H Q E, sp vs H Q E → t__law_put K w { nx := fun _ H' => Q .non H', rt := Q } (L2.start n__law_put vs) H) : FnR P w K mg base CX0 (k + 1) (He.ga K "_law_put") sp := by
  obtain ⟨fd, F⟩ := Z.d__law_put
  have b : Binds K fd ["store", "row", "height"] [] := F.bindsN fun _ _ _ _ _ _ us hl => match us, hl with | [_, _, _], _ => rfl
  refine (FnOk.raw (F.ok (CX := CX0) sc__law_put len fun cdv A outer s H vs Q E hr h => ⟨t__law_put K w, PSs.nox ?_, pure vs H Q E h⟩) b .nil).imp fun vs H Q E h => (List.append_nil vs).symm ▸ h
  have hu := hr.units
  have hu2 := units65 hr
  have hr0 := hr.mono (j := k) (by omega)
  exact (pss_cons (ps_if (pt_cmpR (op_notInN hu2) (pv 1) (pe_ix (o_ix hu) (pv 0) pe_int (fun _ _ => rfl)) (by rfl))
  (pss_cons (ps_set (i := 3) sc__law_put.nd rfl (by first | exact .inl rfl | exact .inr rfl) (pe_ix (o_ix hu) (pv 0) pe_int (fun _ _ => rfl)))
  (pss_cons (ps_asg (pe_callB c_len (by rfl) Z.f_len (by decide +kernel) (pa_cons (pe_ix (o_ix hu) (pv 0) pe_int (fun _ _ => rfl)) pa_nil)) (pg_sub (pv 3) (pv 1) (set_nd hu) (fun _ => rfl)))
  (pss_cons (ps_expr (pe_bm PySem.F.plainAttrs_list PySem.F.slot_list_append PySem.F.type_list_append mt_append (pe_ix (o_ix hu) (pv 0) pe_int (fun _ _ => rfl)) (pa_cons (pv 1) pa_nil)))
  (pss_one (ps_expr (pe_bm PySem.F.plainAttrs_list PySem.F.slot_list_append PySem.F.type_list_append mt_append (pe_ix (o_ix hu) (pv 0) pe_int (fun _ _ => rfl)) (pa_cons (pv 2) pa_nil)))))))
  pss_nil)
  (pss_one (ps_ret (pe_ix (ix_nd hu2) (pe_ix (o_ix hu) (pv 0) pe_int (fun _ _ => rfl)) (pv 1) (fun _ _ => rfl)))))
theorem ok__law_thing {k : Nat} {sp sp__law_put : Sp} (Z : ModF K mg) (c__law_put : FnR P w K mg base CX0 k (He.ga K "_law_put") sp__law_put) (len : ∀ vs H Q E, sp vs H Q E → vs.length = 2) (pure : ∀ vs H Q E, sp vs H Q E → t__law_thing K sp__law_put { nx := fun _ H' => Q .non H', rt := Q } (L2.start n__law_thing vs) H) : FnR P w K mg base CX0 (k + 1) (He.ga K "_law_thing") sp := by
  obtain ⟨fd, F⟩ := Z.d__law_thing
  have b : Binds K fd ["store", "thing"] [] := F.bindsN fun _ _ _ _ _ _ us hl => match us, hl with | [_, _], _ => rfl
  refine (FnOk.raw (F.ok (CX := CX0) sc__law_thing len fun cdv A outer s H vs Q E hr h => ⟨t__law_thing K sp__law_put, PSs.nox ?_, pure vs H Q E h⟩) b .nil).imp fun vs H Q E h => (List.append_nil vs).symm ▸ h
  have hu := hr.units
  have hu2 := units65 hr
  have hr0 := hr.mono (j := k) (by omega)
  exact (pss_one (ps_ret (pe_callR c__law_put hr0 (by rfl) Z.g__law_put Z.k__law_put pass0 (pa_cons (pv 0) (pa_cons (pe_tup (pa_cons pe_str (pa_cons (pv 1) pa_nil))) (pa_cons pe_int pa_nil))))))
theorem ok__law_deed {k : Nat} {sp sp__law_put : Sp} (Z : ModF K mg) (c__law_put : FnR P w K mg base CX0 k (He.ga K "_law_put") sp__law_put) (len : ∀ vs H Q E, sp vs H Q E → vs.length = 3) (pure : ∀ vs H Q E, sp vs H Q E → t__law_deed K sp__law_put { nx := fun _ H' => Q .non H', rt := Q } (L2.start n__law_deed vs) H) : FnR P w K mg base CX0 (k + 1) (He.ga K "_law_deed") sp := by
  obtain ⟨fd, F⟩ := Z.d__law_deed
  have b : Binds K fd ["store", "name", "parts"] [] := F.bindsN fun _ _ _ _ _ _ us hl => match us, hl with | [_, _, _], _ => rfl
  refine (FnOk.raw (F.ok (CX := CX0) sc__law_deed len fun cdv A outer s H vs Q E hr h => ⟨t__law_deed K sp__law_put, PSs.nox ?_, pure vs H Q E h⟩) b .nil).imp fun vs H Q E h => (List.append_nil vs).symm ▸ h
  have hu := hr.units
  have hu2 := units65 hr
  have hr0 := hr.mono (j := k) (by omega)
  exact (pss_cons (ps_set (i := 3) sc__law_deed.nd rfl (by first | exact .inl rfl | exact .inr rfl) pe_int)
  (pss_cons (ps_for PassesOwn.never rfl (pi_any (pv 2)) (pg_name (i := 4) sc__law_deed.nd rfl (by first | exact .inl rfl | exact .inr rfl))
  (pss_one (ps_set (i := 3) sc__law_deed.nd rfl (by first | exact .inl rfl | exact .inr rfl) (pe_callB (c_max rfl) (by rfl) Z.f_max (by decide +kernel) (pa_cons (pv 3) (pa_cons (pe_op o_add (pe_ix (o_ix hu) (pe_ix (o_ix hu) (pv 0) pe_int (fun _ _ => rfl)) (pv 4) (fun _ _ => rfl)) pe_int) pa_nil))))))
  (pss_one (ps_ret (pe_callR c__law_put hr0 (by rfl) Z.g__law_put Z.k__law_put pass0 (pa_cons (pv 0) (pa_cons (pe_tup (pa_cons pe_str (pa_cons (pv 1) (pa_cons (pe_callTy c_tuple (by rfl) Z.f_tuple (by decide +kernel) (pa_cons (pv 2) pa_nil)) pa_nil)))) (pa_cons (pv 3) pa_nil))))))))
theorem ok__law_within {k : Nat} {sp : Sp} (Z : ModF K mg) (len : ∀ vs H Q E, sp vs H Q E → vs.length = 2) (pure : ∀ vs H Q E, sp vs H Q E → t__law_within K { nx := fun _ H' => Q .non H', rt := Q } (L2.start n__law_within vs) H) : FnR P w K mg base CX0 (k + 1) (He.ga K "_law_within") sp := by
  obtain ⟨fd, F⟩ := Z.d__law_within
  have b : Binds K fd ["store", "number"] [] := F.bindsN fun _ _ _ _ _ _ us hl => match us, hl with | [_, _], _ => rfl
  refine (FnOk.raw (F.ok (CX := CX0) sc__law_within len fun cdv A outer s H vs Q E hr h => ⟨t__law_within K, PSs.nox ?_, pure vs H Q E h⟩) b .nil).imp fun vs H Q E h => (List.append_nil vs).symm ▸ h
  have hu := hr.units
  have hu2 := units65 hr
  have hr0 := hr.mono (j := k) (by omega)
  exact (pss_cons (ps_set (i := 2) sc__law_within.nd rfl (by first | exact .inl rfl | exact .inr rfl) (pe_lst pa_nil))
  (pss_cons (ps_set (i := 3) sc__law_within.nd rfl (by first | exact .inl rfl | exact .inr rfl) pe_dnewK)
  (pss_cons (ps_set (i := 4) sc__law_within.nd rfl (by first | exact .inl rfl | exact .inr rfl) (pe_lst (pa_cons (pe_lst (pa_cons (pv 1) (pa_cons pe_int pa_nil))) pa_nil)))
  (pss_cons (ps_for PassesOwn.never rfl (pi_range1 (by rfl) Z.f_range (pa_cons (pe_op o_add (pe_op o_mul pe_int (pe_callB c_len (by rfl) Z.f_len (by decide +kernel) (pa_cons (pe_ix (o_ix hu) (pv 0) pe_int (fun _ _ => rfl)) pa_nil))) pe_int) pa_nil)) (pg_name (i := 5) sc__law_within.nd rfl (by first | exact .inl rfl | exact .inr rfl))
  (pss_cons (ps_if (pt_not (pt_truth (pv 4) (by intro _; rfl)))
  (pss_one ps_break)
  pss_nil)
  (pss_cons (ps_set (i := 6) sc__law_within.nd rfl (by first | exact .inl rfl | exact .inr rfl) (pe_ix (o_ix hu) (pv 4) (pe_un o_neg pe_int) (fun _ _ => rfl)))
  (pss_cons (ps_set (i := 7) sc__law_within.nd rfl (by first | exact .inl rfl | exact .inr rfl) (pe_ix (o_ix hu) (pe_ix (o_ix hu) (pv 0) pe_int (fun _ _ => rfl)) (pe_ix (o_ix hu) (pv 6) pe_int (fun _ _ => rfl)) (fun _ _ => rfl)))
  (pss_one (ps_if (pt_cmpR (o_in hu2) (pe_ix (o_ix hu) (pv 6) pe_int (fun _ _ => rfl)) (pv 3) (by rfl))
  (pss_one (ps_expr (pe_bm0 PySem.F.plainAttrs_list PySem.F.slot_list_pop PySem.F.type_list_pop mt_pop (pv 4))))
  (pss_one (ps_if (PW.pt (pw_or (pt_cmpR (o_eq hu) (pe_ix (o_ix hu) (pv 7) pe_int (fun _ _ => rfl)) pe_str (nomark _)) (pw_or1 (pt_cmpR (o_eq hu) (pe_ix (o_ix hu) (pv 6) pe_int (fun _ _ => rfl)) (pe_callB c_len (by rfl) Z.f_len (by decide +kernel) (pa_cons (pe_ix (o_ix hu) (pv 7) pe_int (fun _ _ => rfl)) pa_nil)) (nomark _)))))
  (pss_cons (ps_asg pe_bl (pg_sub (pv 3) (pe_ix (o_ix hu) (pv 6) pe_int (fun _ _ => rfl)) (s_set hu) (fun _ => rfl)))
  (pss_cons (ps_expr (pe_bm PySem.F.plainAttrs_list PySem.F.slot_list_append PySem.F.type_list_append mt_append (pv 2) (pa_cons (pe_ix (o_ix hu) (pv 6) pe_int (fun _ _ => rfl)) pa_nil)))
  (pss_one (ps_expr (pe_bm0 PySem.F.plainAttrs_list PySem.F.slot_list_pop PySem.F.type_list_pop mt_pop (pv 4))))))
  (pss_cons (ps_asg (pe_op o_add (pe_ix (o_ix hu) (pv 6) pe_int (fun _ _ => rfl)) pe_int) (pg_sub (pv 6) pe_int (s_set hu) (fun _ => rfl)))
  (pss_one (ps_expr (pe_bm PySem.F.plainAttrs_list PySem.F.slot_list_append PySem.F.type_list_append mt_append (pv 4) (pa_cons (pe_lst (pa_cons (pe_ix (o_ix hu) (pe_ix (o_ix hu) (pv 7) pe_int (fun _ _ => rfl)) (pe_op o_sub (pe_ix (o_ix hu) (pv 6) pe_int (fun _ _ => rfl)) pe_int) (fun _ _ => rfl)) (pa_cons pe_int pa_nil))) pa_nil)))))))))))))
  (pss_one (ps_ret (pv 2)))))))
theorem ok__law_sheet {k : Nat} {sp sp__law_within : Sp} (Z : ModF K mg) (c__law_within : FnR P w K mg base CX0 k (He.ga K "_law_within") sp__law_within) (len : ∀ vs H Q E, sp vs H Q E → vs.length = 2) (pure : ∀ vs H Q E, sp vs H Q E → t__law_sheet K sp__law_within { nx := fun _ H' => Q .non H', rt := Q } (L2.start n__law_sheet vs) H) : FnR P w K mg base CX0 (k + 1) (He.ga K "_law_sheet") sp := by
  obtain ⟨fd, F⟩ := Z.d__law_sheet
  have b : Binds K fd ["store", "number"] [] := F.bindsN fun _ _ _ _ _ _ us hl => match us, hl with | [_, _], _ => rfl
  refine (FnOk.raw (F.ok (CX := CX0) sc__law_sheet len fun cdv A outer s H vs Q E hr h => ⟨t__law_sheet K sp__law_within, PSs.nox ?_, pure vs H Q E h⟩) b .nil).imp fun vs H Q E h => (List.append_nil vs).symm ▸ h
  have hu := hr.units
  have hu2 := units65 hr
  have hr0 := hr.mono (j := k) (by omega)
  exact (pss_cons (ps_set (i := 2) sc__law_sheet.nd rfl (by first | exact .inl rfl | exact .inr rfl) pe_dnewK)
  (pss_cons (ps_set (i := 3) sc__law_sheet.nd rfl (by first | exact .inl rfl | exact .inr rfl) (pe_lst pa_nil))
  (pss_cons (ps_for PassesOwn.never rfl (pi_any (pe_callR c__law_within hr0 (by rfl) Z.g__law_within Z.k__law_within pass0 (pa_cons (pv 0) (pa_cons (pv 1) pa_nil)))) (pg_name (i := 4) sc__law_sheet.nd rfl (by first | exact .inl rfl | exact .inr rfl))
  (pss_cons (ps_set (i := 5) sc__law_sheet.nd rfl (by first | exact .inl rfl | exact .inr rfl) (pe_ix (o_ix hu) (pe_ix (o_ix hu) (pv 0) pe_int (fun _ _ => rfl)) (pv 4) (fun _ _ => rfl)))
  (pss_cons (ps_if (pt_cmpR (o_eq hu) (pe_ix (o_ix hu) (pv 5) pe_int (fun _ _ => rfl)) pe_str (nomark _))
  (pss_one (ps_set (i := 5) sc__law_sheet.nd rfl (by first | exact .inl rfl | exact .inr rfl) (pe_tup (pa_cons pe_str (pa_cons (pe_ix (o_ix hu) (pv 5) pe_int (fun _ _ => rfl)) (pa_cons (pe_callTy c_tuple (by rfl) Z.f_tuple (by decide +kernel) (pa_cons (pe_lc (own := [("inner", 6)]) rfl sc__law_sheet.nd (pi_any (pe_ix (o_ix hu) (pv 5) pe_int (fun _ _ => rfl))) (blkOk_by (N := n__law_sheet) (sc := defScope s__law_sheet) (own := [("inner", 6)]) (by decide +kernel)) (fun _ _ _ _ _ => (pg_name (i := 6) sc__law_sheet.nd rfl (by first | exact .inl rfl | exact .inr rfl))) (fun _ _ _ _ _ => pts_nil) (fun _ _ _ _ _ => (pe_ix (o_ix hu) (pv 2) (pv 6) (fun _ _ => rfl)))) pa_nil)) pa_nil))))))
  pss_nil)
  (pss_cons (ps_asg (pe_callB c_len (by rfl) Z.f_len (by decide +kernel) (pa_cons (pv 3) pa_nil)) (pg_sub (pv 2) (pv 4) (s_set hu) (fun _ => rfl)))
  (pss_one (ps_expr (pe_bm PySem.F.plainAttrs_list PySem.F.slot_list_append PySem.F.type_list_append mt_append (pv 3) (pa_cons (pv 5) pa_nil))))))))
  (pss_one (ps_ret (pe_callTy c_tuple (by rfl) Z.f_tuple (by decide +kernel) (pa_cons (pv 3) pa_nil)))))))
theorem ok__law_small_answer {k : Nat} {sp sp__law_deed sp__law_sheet sp__law_store sp__law_thing : Sp} (Z : ModF K mg) (c__law_deed : FnR P w K mg base CX0 k (He.ga K "_law_deed") sp__law_deed) (c__law_sheet : FnR P w K mg base CX0 k (He.ga K "_law_sheet") sp__law_sheet) (c__law_store : FnR P w K mg base CX0 k (He.ga K "_law_store") sp__law_store) (c__law_thing : FnR P w K mg base CX0 k (He.ga K "_law_thing") sp__law_thing) (len : ∀ vs H Q E, sp vs H Q E → vs.length = 3) (pure : ∀ vs H Q E, sp vs H Q E → t__law_small_answer K sp__law_deed sp__law_sheet sp__law_store sp__law_thing { nx := fun _ H' => Q .non H', rt := Q } (L2.start n__law_small_answer vs) H) : FnR P w K mg base CX0 (k + 1) (He.ga K "_law_small_answer") sp := by
  obtain ⟨fd, F⟩ := Z.d__law_small_answer
  have b : Binds K fd ["row", "things", "deeds"] [] := F.bindsN fun _ _ _ _ _ _ us hl => match us, hl with | [_, _, _], _ => rfl
  refine (FnOk.raw (F.ok (CX := CX0) sc__law_small_answer len fun cdv A outer s H vs Q E hr h => ⟨t__law_small_answer K sp__law_deed sp__law_sheet sp__law_store sp__law_thing, PSs.nox ?_, pure vs H Q E h⟩) b .nil).imp fun vs H Q E h => (List.append_nil vs).symm ▸ h
  have hu := hr.units
  have hu2 := units65 hr
  have hr0 := hr.mono (j := k) (by omega)
  exact (pss_cons (ps_set (i := 3) sc__law_small_answer.nd rfl (by first | exact .inl rfl | exact .inr rfl) (pe_callR0 c__law_store hr0 (by rfl) Z.g__law_store Z.k__law_store (fun _ => passS0)))
  (pss_cons (ps_set (i := 4) sc__law_small_answer.nd rfl (by first | exact .inl rfl | exact .inr rfl) (pe_lst pa_nil))
  (pss_cons (ps_for PassesOwn.never rfl (pi_range1 (by rfl) Z.f_range (pa_cons (pv 1) pa_nil)) (pg_name (i := 5) sc__law_small_answer.nd rfl (by first | exact .inl rfl | exact .inr rfl))
  (pss_cons (ps_set (i := 6) sc__law_small_answer.nd rfl (by first | exact .inl rfl | exact .inr rfl) (pe_callTy c_int (by rfl) Z.f_int (by decide +kernel) (pa_cons (pe_ix (o_ix hu) (pv 0) (pe_op o_mod (pe_callTy c_int (by rfl) Z.f_int (by decide +kernel) (pa_cons (pv 5) pa_nil)) pe_int) (fun _ _ => rfl)) pa_nil)))
  (pss_one (ps_expr (pe_bm PySem.F.plainAttrs_list PySem.F.slot_list_append PySem.F.type_list_append mt_append (pv 4) (pa_cons (pe_callR c__law_thing hr0 (by rfl) Z.g__law_thing Z.k__law_thing pass0 (pa_cons (pv 3) (pa_cons (pe_ix (o_ix hu) (pe_lst (pa_cons pe_str (pa_cons pe_str (pa_cons pe_str (pa_cons pe_str (pa_cons pe_str (pa_cons pe_str (pa_cons pe_str (pa_cons pe_str (pa_cons pe_str (pa_cons pe_str pa_nil))))))))))) (pe_op o_mod (pe_callTy c_int (by rfl) Z.f_int (by decide +kernel) (pa_cons (pv 6) pa_nil)) pe_int) (fun _ _ => rfl)) pa_nil))) pa_nil))))))
  (pss_cons (ps_for PassesOwn.never rfl (pi_range1 (by rfl) Z.f_range (pa_cons (pv 2) pa_nil)) (pg_name (i := 5) sc__law_small_answer.nd rfl (by first | exact .inl rfl | exact .inr rfl))
  (pss_cons (ps_set (i := 6) sc__law_small_answer.nd rfl (by first | exact .inl rfl | exact .inr rfl) (pe_callTy c_int (by rfl) Z.f_int (by decide +kernel) (pa_cons (pe_ix (o_ix hu) (pv 0) (pe_op o_mod (pe_callTy c_int (by rfl) Z.f_int (by decide +kernel) (pa_cons (pe_op o_add pe_int (pe_op o_mul pe_int (pv 5))) pa_nil)) pe_int) (fun _ _ => rfl)) pa_nil)))
  (pss_cons (ps_set (i := 7) sc__law_small_answer.nd rfl (by first | exact .inl rfl | exact .inr rfl) (pe_callTy c_int (by rfl) Z.f_int (by decide +kernel) (pa_cons (pe_ix (o_ix hu) (pv 0) (pe_op o_mod (pe_callTy c_int (by rfl) Z.f_int (by decide +kernel) (pa_cons (pe_op o_add pe_int (pe_op o_mul pe_int (pv 5))) pa_nil)) pe_int) (fun _ _ => rfl)) pa_nil)))
  (pss_cons (ps_set (i := 8) sc__law_small_answer.nd rfl (by first | exact .inl rfl | exact .inr rfl) (pe_lst (pa_cons (pe_ix (o_ix hu) (pv 4) (pe_op o_mod (pe_callTy c_int (by rfl) Z.f_int (by decide +kernel) (pa_cons (pe_op o_div (pv 6) pe_int) pa_nil)) (pe_callB c_len (by rfl) Z.f_len (by decide +kernel) (pa_cons (pv 4) pa_nil))) (fun _ _ => rfl)) (pa_cons (pe_ix (o_ix hu) (pv 4) (pe_op o_mod (pe_callTy c_int (by rfl) Z.f_int (by decide +kernel) (pa_cons (pv 7) pa_nil)) (pe_callB c_len (by rfl) Z.f_len (by decide +kernel) (pa_cons (pv 4) pa_nil))) (fun _ _ => rfl)) (pa_cons (pe_ix (o_ix hu) (pv 4) (pe_op o_mod (pe_callTy c_int (by rfl) Z.f_int (by decide +kernel) (pa_cons (pe_op o_div (pv 7) pe_int) pa_nil)) (pe_callB c_len (by rfl) Z.f_len (by decide +kernel) (pa_cons (pv 4) pa_nil))) (fun _ _ => rfl)) pa_nil)))))
  (pss_one (ps_expr (pe_bm PySem.F.plainAttrs_list PySem.F.slot_list_append PySem.F.type_list_append mt_append (pv 4) (pa_cons (pe_callR c__law_deed hr0 (by rfl) Z.g__law_deed Z.k__law_deed pass0 (pa_cons (pv 3) (pa_cons (pe_ix (o_ix hu) pe_str (pe_op o_mod (pe_callTy c_int (by rfl) Z.f_int (by decide +kernel) (pa_cons (pv 6) pa_nil)) pe_int) (fun _ _ => rfl)) (pa_cons (pe_slice s_any (pv 8) po_none (po_some (pe_op o_mod (pe_callTy c_int (by rfl) Z.f_int (by decide +kernel) (pa_cons (pv 6) pa_nil)) pe_int))) pa_nil)))) pa_nil))))))))
  (pss_cons (ps_set (i := 9) sc__law_small_answer.nd rfl (by first | exact .inl rfl | exact .inr rfl) (pe_callR c__law_deed hr0 (by rfl) Z.g__law_deed Z.k__law_deed pass0 (pa_cons (pv 3) (pa_cons pe_str (pa_cons (pe_lst (pa_cons (pe_ix (o_ix hu) (pv 4) (pe_un o_neg pe_int) (fun _ _ => rfl)) (pa_cons (pe_ix (o_ix hu) (pv 4) (pe_op o_mod (pe_callTy c_int (by rfl) Z.f_int (by decide +kernel) (pa_cons (pe_ix (o_ix hu) (pv 0) pe_int (fun _ _ => rfl)) pa_nil)) (pe_callB c_len (by rfl) Z.f_len (by decide +kernel) (pa_cons (pv 4) pa_nil))) (fun _ _ => rfl)) pa_nil))) pa_nil)))))
  (pss_one (ps_ret (pe_callR c__law_sheet hr0 (by rfl) Z.g__law_sheet Z.k__law_sheet pass0 (pa_cons (pv 3) (pa_cons (pv 9) pa_nil))))))))))
theorem ok_law {k : Nat} {sp sp__law_cell sp__law_digits sp__law_due sp__law_small_answer sp__law_whole sp_node_count : Sp} {fd : FuncData} (F : FunD K "law" "law" (defArgs s_law) (defBody s_law) (defScope s_law) [] [] (He.ga K "law") fd) (Z : ModF K mg) (c__law_cell : FnR P w K mg base CX0 k (He.ga K "_law_cell") sp__law_cell) (c__law_digits : FnR P w K mg base CX0 k (He.ga K "_law_digits") sp__law_digits) (c__law_due : FnR P w K mg base CX0 k (He.ga K "_law_due") sp__law_due) (c__law_small_answer : FnR P w K mg base CX0 k (He.ga K "_law_small_answer") sp__law_small_answer) (c__law_whole : FnR P w K mg base CX0 k (He.ga K "_law_whole") sp__law_whole) (c_node_count : FnR P w K mg base (L2.CX P w) k (He.ga K "node_count") sp_node_count) (len : ∀ vs H Q E, sp vs H Q E → vs.length = 1) (pure : ∀ vs H Q E, sp vs H Q E → t_law K sp__law_cell sp__law_digits sp__law_due sp__law_small_answer sp__law_whole sp_node_count { nx := fun _ H' => Q .non H', rt := Q } (L2.start n_law vs) H) : FnOk P w K mg base CX0 (k + 1) (He.ga K "law") fd ["script"] sp := by
  refine F.ok (CX := CX0) sc_law len fun cdv A outer s H vs Q E hr h => ⟨t_law K sp__law_cell sp__law_digits sp__law_due sp__law_small_answer sp__law_whole sp_node_count, PSs.nox ?_, pure vs H Q E h⟩
  have hu := hr.units
  have hu2 := units65 hr
  have hr0 := hr.mono (j := k) (by omega)
  exact (pss_cons (ps_set (i := 1) sc_law.nd rfl (by first | exact .inl rfl | exact .inr rfl) (pe_callR c__law_digits hr0 (by rfl) Z.g__law_digits Z.k__law_digits pass0 (pa_cons (pe_callR c__law_cell hr0 (by rfl) Z.g__law_cell Z.k__law_cell pass0 (pa_cons (pv 0) (pa_cons pe_int pa_nil))) (pa_cons (pe_lc (own := [("k", 9)]) rfl sc_law.nd (pi_range1 (by rfl) Z.f_range (pa_cons pe_int pa_nil)) (blkOk_by (N := n_law) (sc := defScope s_law) (own := [("k", 9)]) (by decide +kernel)) (fun _ _ _ _ _ => (pg_name (i := 9) sc_law.nd rfl (by first | exact .inl rfl | exact .inr rfl))) (fun _ _ _ _ _ => pts_nil) (fun _ _ _ _ _ => pe_int)) pa_nil))))
  (pss_cons (ps_set (i := 2) sc_law.nd rfl (by first | exact .inl rfl | exact .inr rfl) (pe_callR c__law_small_answer hr0 (by rfl) Z.g__law_small_answer Z.k__law_small_answer pass0 (pa_cons (pv 1) (pa_cons (pe_op o_add pe_int (pe_op o_mod (pe_callTy c_int (by rfl) Z.f_int (by decide +kernel) (pa_cons (pe_ix (o_ix hu) (pv 1) pe_int (fun _ _ => rfl)) pa_nil)) pe_int)) (pa_cons (pe_op o_add pe_int (pe_op o_mod (pe_callTy c_int (by rfl) Z.f_int (by decide +kernel) (pa_cons (pe_ix (o_ix hu) (pv 1) pe_int (fun _ _ => rfl)) pa_nil)) pe_int)) pa_nil)))))
  (pss_cons (ps_set (i := 3) sc_law.nd rfl (by first | exact .inl rfl | exact .inr rfl) (pe_callSR c_node_count hr0 (by rfl) Z.g_node_count Z.k_node_count (fun σ => passAt takes0 σ) (pa_cons (pv 2) pa_nil)))
  (pss_cons (ps_if (PW.pt (pw_or (pt_not (pt_truth (pe_callR c__law_whole hr0 (by rfl) Z.g__law_whole Z.k__law_whole pass0 (pa_cons (pv 3) pa_nil)) (by intro _; rfl))) (pw_or1 (pt_cmpR (o_ne hu) (pv 3) (pe_callR c__law_due hr0 (by rfl) Z.g__law_due Z.k__law_due pass0 (pa_cons (pv 2) pa_nil)) (nomark _)))))
  (pss_one (ps_ret pe_bl))
  pss_nil)
  (pss_cons (ps_if (pt_cmpR (o_ne hu) (pe_callSR c_node_count hr0 (by rfl) Z.g_node_count Z.k_node_count (fun σ => passAt takes0 σ) (pa_cons (pe_lc (own := [("part", 10)]) rfl sc_law.nd (pi_any (pv 2)) (blkOk_by (N := n_law) (sc := defScope s_law) (own := [("part", 10)]) (by decide +kernel)) (fun _ _ _ _ _ => (pg_name (i := 10) sc_law.nd rfl (by first | exact .inl rfl | exact .inr rfl))) (fun _ _ _ _ _ => pts_nil) (fun _ _ _ _ _ => (pe_callTy (c_listA rfl) (by rfl) Z.f_list (by decide +kernel) (pa_cons (pv 10) pa_nil)))) pa_nil)) (pv 3) (nomark _))
  (pss_one (ps_ret pe_bl))
  pss_nil)
  (pss_cons (ps_set (i := 4) sc_law.nd rfl (by first | exact .inl rfl | exact .inr rfl) (pe_op o_add (pe_op o_mul pe_str (pe_op o_mod (pe_callTy c_int (by rfl) Z.f_int (by decide +kernel) (pa_cons (pe_ix (o_ix hu) (pv 1) pe_int (fun _ _ => rfl)) pa_nil)) pe_int)) (pe_op o_mul pe_str (pe_op o_mod (pe_callTy c_int (by rfl) Z.f_int (by decide +kernel) (pa_cons (pe_ix (o_ix hu) (pv 1) pe_int (fun _ _ => rfl)) pa_nil)) pe_int))))
  (pss_cons (ps_set (i := 5) sc_law.nd rfl (by first | exact .inl rfl | exact .inr rfl) (pe_op o_mul pe_str (pe_op o_mod (pe_callTy c_int (by rfl) Z.f_int (by decide +kernel) (pa_cons (pe_ix (o_ix hu) (pv 1) pe_int (fun _ _ => rfl)) pa_nil)) pe_int)))
  (pss_cons (ps_set (i := 6) sc_law.nd rfl (by first | exact .inl rfl | exact .inr rfl) (pe_tup (pa_cons (pe_tup (pa_cons pe_str (pa_cons (pv 4) pa_nil))) (pa_cons (pe_tup (pa_cons pe_str (pa_cons (pe_op o_add (pv 5) pe_str) pa_nil))) (pa_cons (pe_tup (pa_cons pe_str (pa_cons pe_str (pa_cons (pe_tup (pa_cons pe_int (pa_cons pe_int (pa_cons pe_int pa_nil)))) pa_nil)))) (pa_cons (pe_tup (pa_cons pe_str (pa_cons pe_str (pa_cons (pe_tup pa_nil) pa_nil)))) (pa_cons (pe_tup (pa_cons pe_str (pa_cons pe_str (pa_cons (pe_tup (pa_cons pe_int (pa_cons pe_int pa_nil))) pa_nil)))) pa_nil)))))))
  (pss_cons (ps_if (PW.pt (pw_or (pt_cmpR (o_ne hu) (pe_callSR c_node_count hr0 (by rfl) Z.g_node_count Z.k_node_count (fun σ => passAt takes0 σ) (pa_cons (pv 6) pa_nil)) (pe_callR c__law_due hr0 (by rfl) Z.g__law_due Z.k__law_due pass0 (pa_cons (pv 6) pa_nil)) (nomark _)) (pw_or1 (pt_cmpR (o_ne hu) (pe_callSR c_node_count hr0 (by rfl) Z.g_node_count Z.k_node_count (fun σ => passAt takes0 σ) (pa_cons (pe_tup (pa_cons (pe_tup (pa_cons pe_str (pa_cons pe_str (pa_cons (pe_tup pa_nil) pa_nil)))) pa_nil)) pa_nil)) pe_int (nomark _)))))
  (pss_one (ps_ret pe_bl))
  pss_nil)
  (pss_cons (ps_set (i := 7) sc_law.nd rfl (by first | exact .inl rfl | exact .inr rfl) (pe_tup (pa_cons (pe_tup (pa_cons pe_str (pa_cons (pe_callTy c_int (by rfl) Z.f_int (by decide +kernel) (pa_cons (pe_ix (o_ix hu) (pv 1) pe_int (fun _ _ => rfl)) pa_nil)) pa_nil))) (pa_cons (pe_tup (pa_cons pe_str (pa_cons pe_str (pa_cons (pe_tup (pa_cons pe_int pa_nil)) pa_nil)))) pa_nil))))
  (pss_cons (ps_try_as (i := 8) (tb := (fun W => (tDrop (tCallS sp_node_count (WE W) (tCons (tVar 7) tNil))))) (ts := (fun a cls d => (tRet (tCB (rIsEX K a cls d) (tCons (tVar 8) (tCons (tC (.ref (He.ga K "BadSheet"))) tNil)))))) (Wout := (fun _ _ _ _ => False)) rfl rfl sc_law.nd rfl rfl ⟨rfl, by decide, .inl Z.g_LoopError⟩ takes0 (fun W pn xe tk po => (pss_one (ps_expr (pe_callSR c_node_count hr0 (by rfl) Z.g_node_count Z.k_node_count (fun σ => passAt tk σ) (pa_cons (pv 7) pa_nil))))) (fun a oe cls d pn hz hf => (pss_one (ps_ret (pe_callB (call_isEX hz hf) (by rfl) Z.f_isinstance (by decide +kernel) (pa_cons (pv 8) (pa_cons (pe_glob (by rfl) Z.g_BadSheet rfl) pa_nil)))))))
  (pss_one (ps_ret pe_bl)))))))))))))
end

end K63

set_option Elab.async false
set_option linter.all false
set_option maxRecDepth 100000
set_option maxHeartbeats 8000000
namespace K63
open PySem PySem.Spec PyProof.Rows L2 G Pm Tm
section
variable {P : Program} {w : World} {K : PySem.W.Frag} {mg : Str → Option Value} {base : Heap}
theorem F_path_key (Z : ModF K mg) : FnR P w K mg base CX0 1 (He.ga K "path_key") (spD K relKey) :=
  ok_path_key (k := 0) Z 
  (spD_len (fun ds r h => by obtain ⟨_, rfl, _⟩ := h; rfl)) (fun vs H Q E q => fits_of (E := E) (n := 1) (fun ds r h => path_key_wp ds r h) rfl vs H Q q)
theorem F_in_order (Z : ModF K mg) : FnR P w K mg base CX0 3 (He.ga K "in_order") (spD K relInOrder) :=
  ok_in_order (k := 1) Z ((F_path_key (base := base) Z).mono (by decide))
  (spD_len (fun ds r h => by obtain ⟨_, _, rfl, _⟩ := h; rfl)) (fun vs H Q E q => fits_of (E := E) (n := 3) (fun ds r h => in_order_wp ds r h) rfl vs H Q q)
theorem F_closed (Z : ModF K mg) : FnR P w K mg base CX0 4 (He.ga K "closed") (spD K relClosed) :=
  ok_closed (k := 3) Z ((F_in_order (base := base) Z).mono (by decide))
  (spD_len (fun ds r h => by obtain ⟨_, _, rfl, _⟩ := h; rfl)) (fun vs H Q E q => fits_of (E := E) (n := 4) (fun ds r h => closed_wp ds r h) rfl vs H Q q)
theorem F_node_ways (Z : ModF K mg) : FnR P w K mg base CX0 1 (He.ga K "node_ways") (spD K (relNW (He.ga K "Nodes"))) :=
  ok_node_ways (k := 0) Z 
  (spD_len (fun ds r h => by obtain ⟨_, _, _, rfl, _⟩ := h; rfl)) (fun vs H Q E q => spD_ofM2 (E := E) (n := 8) (fun ds r h => ways_wm ⟨Z.cl_Nodes, Z.na_Nodes_sheet, Z.na_Nodes_paths, Z.na_Nodes_numbers, Z.na_Nodes_count, Z.na_Nodes_places, Z.na_Nodes_deeds, Z.na_Nodes_goal, Z.na_Nodes_ways⟩ ds r h E) rfl vs H Q q)
theorem F_Nodes_init (Z : ModF K mg) : FnR P w K mg base (L2.CX P w) 5 (He.ma K (He.ga K "Nodes") "__init__") (spI K (He.ga K "Nodes") (relNI (He.ga K "Nodes") (He.ga K "BadSheet"))) :=
  ok_Nodes_init (k := 4) Z ((F_closed (base := base) Z).mono (by decide)) ((F_node_ways (base := base) Z).mono (by decide))
  (spI_len (fun ds r h => by rcases h with ⟨_, _, _, rfl, _⟩ | ⟨_, rfl, _⟩ <;> rfl)) (fun vs H Q E q => spI_ofM (E := E) (n := 8) (fun ds r h => init_wm ⟨Z.cl_Nodes, Z.na_Nodes_sheet, Z.na_Nodes_paths, Z.na_Nodes_numbers, Z.na_Nodes_count, Z.na_Nodes_places, Z.na_Nodes_deeds, Z.na_Nodes_goal, Z.na_Nodes_ways⟩ ds r h E) rfl vs H Q q)
theorem F_node_count (Z : ModF K mg) : FnR P w K mg base (L2.CX P w) 7 (He.ga K "node_count") (spD K (relCount (He.ga K "BadSheet"))) :=
  ok_node_count (k := 5) Z ((F_Nodes_init (base := base) Z).mono (by decide))
  (spD_len (fun ds r h => by rcases h with ⟨_, _, _, rfl, _⟩ | ⟨_, rfl, _⟩ <;> rfl)) (fun vs H Q E q => fits_of (E := E) (n := 1) (fun ds r h => count_wp rfl ⟨Z.cl_Nodes, Z.na_Nodes_sheet, Z.na_Nodes_paths, Z.na_Nodes_numbers, Z.na_Nodes_count, Z.na_Nodes_places, Z.na_Nodes_deeds, Z.na_Nodes_goal, Z.na_Nodes_ways⟩ ds r h E) rfl vs H Q q)
theorem F__law_due (Z : ModF K mg) : FnR P w K mg base CX0 1 (He.ga K "_law_due") (spD K relDue) :=
  ok__law_due (k := 0) Z 
  (spD_len (fun ds r h => by obtain ⟨_, rfl, _⟩ := h; rfl)) (fun vs H Q E q => fits_of (E := E) (n := 5) (fun ds r h => due_wp ds r h) rfl vs H Q q)
theorem F__law_whole (Z : ModF K mg) : FnR P w K mg base CX0 1 (He.ga K "_law_whole") (spD K relWhole) :=
  ok__law_whole (k := 0) Z 
  (spD_len (fun ds r h => by obtain ⟨_, rfl, _⟩ := h; rfl)) (fun vs H Q E q => fits_of (E := E) (n := 1) (fun ds r h => whole_wp ds r h) rfl vs H Q q)
theorem F__law_cell (Z : ModF K mg) : FnR P w K mg base CX0 1 (He.ga K "_law_cell") (spD K relCell) :=
  ok__law_cell (k := 0) Z 
  (spD_len (fun ds r h => by obtain ⟨_, _, rfl, _⟩ := h; rfl)) (fun vs H Q E q => fits_of (E := E) (n := 4) (fun ds r h => cell_ds ds r h) rfl vs H Q q)
theorem F__law_digits (Z : ModF K mg) : FnR P w K mg base CX0 1 (He.ga K "_law_digits") (spD K relDigits) :=
  ok__law_digits (k := 0) Z 
  (spD_len (fun ds r h => by obtain ⟨_, _, rfl, _⟩ := h; rfl)) (fun vs H Q E q => fits_of (E := E) (n := 8) (fun ds r h => digits_ds ds r h) rfl vs H Q q)
theorem F__law_store (Z : ModF K mg) : FnR P w K mg base CX0 1 (He.ga K "_law_store") (spM K (relStore w)) :=
  ok__law_store (k := 0) Z 
  (fun vs H Q E h => by obtain ⟨_, _, zs, _, _, _, rr, _, _, hr, _⟩ := h; rw [rr.len]; obtain ⟨rfl, _⟩ := hr; rfl) (fun vs H Q E q => spM_of (E := E) (n := 0) (fun zs S r h => store_wm w zs S r h) rfl vs H Q q)
theorem F__law_put (Z : ModF K mg) : FnR P w K mg base CX0 1 (He.ga K "_law_put") (spM K (relPut w)) :=
  ok__law_put (k := 0) Z 
  (fun vs H Q E h => by obtain ⟨_, _, zs, _, _, _, rr, _, _, hr, _⟩ := h; rw [rr.len]; obtain ⟨_, _, _, _, _, rfl, _⟩ := hr; rfl) (fun vs H Q E q => spM_of (E := E) (n := 4) (fun zs S r h => put_wm w zs S r h) rfl vs H Q q)
theorem F__law_thing (Z : ModF K mg) : FnR P w K mg base CX0 2 (He.ga K "_law_thing") (spM K (relThing w)) :=
  ok__law_thing (k := 1) Z ((F__law_put (base := base) Z).mono (by decide))
  (fun vs H Q E h => by obtain ⟨_, _, zs, _, _, _, rr, _, _, hr, _⟩ := h; rw [rr.len]; obtain ⟨_, _, _, _, rfl, _⟩ := hr; rfl) (fun vs H Q E q => spM_of (E := E) (n := 2) (fun zs S r h => thing_wm w zs S r h) rfl vs H Q q)
theorem F__law_deed (Z : ModF K mg) : FnR P w K mg base CX0 2 (He.ga K "_law_deed") (spM K (relDeed w)) :=
  ok__law_deed (k := 1) Z ((F__law_put (base := base) Z).mono (by decide))
  (fun vs H Q E h => by obtain ⟨_, _, zs, _, _, _, rr, _, _, hr, _⟩ := h; rw [rr.len]; obtain ⟨_, _, _, _, _, rfl, _⟩ := hr; rfl) (fun vs H Q E q => spM_of (E := E) (n := 5) (fun zs S r h => deed_wm w zs S r h) rfl vs H Q q)
theorem F__law_within (Z : ModF K mg) : FnR P w K mg base CX0 1 (He.ga K "_law_within") (spD K (relWithin w)) :=
  ok__law_within (k := 0) Z 
  (spD_len (fun ds r h => by obtain ⟨_, _, _, rfl, _⟩ := h; rfl)) (fun vs H Q E q => spD_ofM2 (E := E) (n := 8) (fun ds r h => within_wm w ds r h E) rfl vs H Q q)
theorem F__law_sheet (Z : ModF K mg) : FnR P w K mg base CX0 2 (He.ga K "_law_sheet") (spD K (relSheet w)) :=
  ok__law_sheet (k := 1) Z ((F__law_within (base := base) Z).mono (by decide))
  (spD_len (fun ds r h => by obtain ⟨_, _, _, rfl, _⟩ := h; rfl)) (fun vs H Q E q => fits_of (E := E) (n := 7) (fun ds r h => sheet_wp w ds r h) rfl vs H Q q)
theorem F__law_small_answer (Z : ModF K mg) : FnR P w K mg base CX0 3 (He.ga K "_law_small_answer") (spD K relSmall) :=
  ok__law_small_answer (k := 2) Z ((F__law_deed (base := base) Z).mono (by decide)) ((F__law_sheet (base := base) Z).mono (by decide)) ((F__law_store (base := base) Z).mono (by decide)) ((F__law_thing (base := base) Z).mono (by decide))
  (spD_len (fun ds r h => by obtain ⟨_, _, _, rfl, _⟩ := h; rfl)) (fun vs H Q E q => spD_ofM (E := E) (n := 10) (fun ds r h => small_wm w ds r h E) rfl vs H Q q)
theorem F_law {fd : FuncData} (F : FunD K "law" "law" (defArgs s_law) (defBody s_law) (defScope s_law) [] [] (He.ga K "law") fd) (Z : ModF K mg) : FnOk P w K mg base CX0 8 (He.ga K "law") fd ["script"] (spD K relLaw) :=
  ok_law (k := 7) F Z ((F__law_cell (base := base) Z).mono (by decide)) ((F__law_digits (base := base) Z).mono (by decide)) ((F__law_due (base := base) Z).mono (by decide)) ((F__law_small_answer (base := base) Z).mono (by decide)) ((F__law_whole (base := base) Z).mono (by decide)) ((F_node_count (base := base) Z).mono (by decide))
  (spD_len (fun ds r h => by obtain ⟨_, rfl, _⟩ := h; rfl)) (fun vs H Q E q => fits_of (E := E) (n := 11) (fun ds r h => wp_W (law63_wp ⟨Z.e_BadSheet, Z.i_BadSheet_BadSheet, Z.m_BadSheet_LoopError⟩ ds r h) (fun o ho => by obtain ⟨_, _, _, rfl⟩ := h; exact fits_noEx ho)) rfl vs H Q q)
end
def d0 : He.DefD := ⟨("path_key", none), "path_key", "path_key", defArgs s_path_key, defBody s_path_key, defScope s_path_key, [], []⟩
def d1 : He.DefD := ⟨("in_order", none), "in_order", "in_order", defArgs s_in_order, defBody s_in_order, defScope s_in_order, [], []⟩
def d2 : He.DefD := ⟨("closed", none), "closed", "closed", defArgs s_closed, defBody s_closed, defScope s_closed, [], []⟩
def d3 : He.DefD := ⟨("Nodes", some "__init__"), "__init__", "Nodes.__init__", defArgs s_Nodes_init, defBody s_Nodes_init, defScope s_Nodes_init, [], []⟩
def d4 : He.DefD := ⟨("node_ways", none), "node_ways", "node_ways", defArgs s_node_ways, defBody s_node_ways, defScope s_node_ways, [], []⟩
def d5 : He.DefD := ⟨("node_count", none), "node_count", "node_count", defArgs s_node_count, defBody s_node_count, defScope s_node_count, [], []⟩
def d6 : He.DefD := ⟨("_law_due", none), "_law_due", "_law_due", defArgs s__law_due, defBody s__law_due, defScope s__law_due, [], []⟩
def d7 : He.DefD := ⟨("_law_whole", none), "_law_whole", "_law_whole", defArgs s__law_whole, defBody s__law_whole, defScope s__law_whole, [], []⟩
def d8 : He.DefD := ⟨("_law_cell", none), "_law_cell", "_law_cell", defArgs s__law_cell, defBody s__law_cell, defScope s__law_cell, [], []⟩
def d9 : He.DefD := ⟨("_law_digits", none), "_law_digits", "_law_digits", defArgs s__law_digits, defBody s__law_digits, defScope s__law_digits, [], []⟩
def d10 : He.DefD := ⟨("_law_store", none), "_law_store", "_law_store", defArgs s__law_store, defBody s__law_store, defScope s__law_store, [], []⟩
def d11 : He.DefD := ⟨("_law_put", none), "_law_put", "_law_put", defArgs s__law_put, defBody s__law_put, defScope s__law_put, [], []⟩
def d12 : He.DefD := ⟨("_law_thing", none), "_law_thing", "_law_thing", defArgs s__law_thing, defBody s__law_thing, defScope s__law_thing, [], []⟩
def d13 : He.DefD := ⟨("_law_deed", none), "_law_deed", "_law_deed", defArgs s__law_deed, defBody s__law_deed, defScope s__law_deed, [], []⟩
def d14 : He.DefD := ⟨("_law_within", none), "_law_within", "_law_within", defArgs s__law_within, defBody s__law_within, defScope s__law_within, [], []⟩
def d15 : He.DefD := ⟨("_law_sheet", none), "_law_sheet", "_law_sheet", defArgs s__law_sheet, defBody s__law_sheet, defScope s__law_sheet, [], []⟩
def d16 : He.DefD := ⟨("_law_small_answer", none), "_law_small_answer", "_law_small_answer", defArgs s__law_small_answer, defBody s__law_small_answer, defScope s__law_small_answer, [], []⟩
def d17 : He.DefD := ⟨("law", none), "law", "law", defArgs s_law, defBody s_law, defScope s_law, [], []⟩
def fn : List He.DefD := [d0, d1, d2, d3, d4, d5, d6, d7, d8, d9, d10, d11, d12, d13, d14, d15, d16, d17]
def fa : List He.Fa := [.glo "BadSheet", .glo "LoopError", .glo "Nodes", .glo "_law_cell", .glo "_law_deed", .glo "_law_digits", .glo "_law_due", .glo "_law_put", .glo "_law_sheet", .glo "_law_small_answer", .glo "_law_store", .glo "_law_thing", .glo "_law_whole", .glo "_law_within", .glo "closed", .glo "in_order", .glo "law", .glo "node_count", .glo "node_ways", .glo "path_key", .keep "_law_cell", .keep "_law_deed", .keep "_law_digits", .keep "_law_due", .keep "_law_put", .keep "_law_sheet", .keep "_law_small_answer", .keep "_law_store", .keep "_law_thing", .keep "_law_whole", .keep "_law_within", .keep "closed", .keep "in_order", .keep "law", .keep "node_count", .keep "node_ways", .keep "path_key", .free "all", .free "bool", .free "enumerate", .free "int", .free "isinstance", .free "len", .free "list", .free "max", .free "range", .free "sorted", .free "str", .free "tuple", .mkr "Nodes", .cls "Nodes", .noat "Nodes" "count", .noat "Nodes" "deeds", .noat "Nodes" "goal", .noat "Nodes" "numbers", .noat "Nodes" "paths", .noat "Nodes" "places", .noat "Nodes" "sheet", .noat "Nodes" "ways", .exc "BadSheet", .exm "BadSheet" "BadSheet" true, .exm "BadSheet" "LoopError" true]
def fx : List (PySem.W.Frag → Bool) := [fKit "BadSheet" "BadSheet" true, fKit "BadSheet" "LoopError" true, fKitT "BadSheet" "ValueError" true, fExcC "BadSheet"]
theorem modF {K : PySem.W.Frag} {h : Heap} {mg : Str → Option Value} (X : K.In h) (G : h.Ns mainGlobals mg) (c : SaysX fa fn fx K) : ModF K mg where
  g_BadSheet := He.glo_ok X G (c.1.fact 0 (f := .glo "BadSheet") rfl)
  g_LoopError := He.glo_ok X G (c.1.fact 1 (f := .glo "LoopError") rfl)
  g_Nodes := He.glo_ok X G (c.1.fact 2 (f := .glo "Nodes") rfl)
  g__law_cell := He.glo_ok X G (c.1.fact 3 (f := .glo "_law_cell") rfl)
  g__law_deed := He.glo_ok X G (c.1.fact 4 (f := .glo "_law_deed") rfl)
  g__law_digits := He.glo_ok X G (c.1.fact 5 (f := .glo "_law_digits") rfl)
  g__law_due := He.glo_ok X G (c.1.fact 6 (f := .glo "_law_due") rfl)
  g__law_put := He.glo_ok X G (c.1.fact 7 (f := .glo "_law_put") rfl)
  g__law_sheet := He.glo_ok X G (c.1.fact 8 (f := .glo "_law_sheet") rfl)
  g__law_small_answer := He.glo_ok X G (c.1.fact 9 (f := .glo "_law_small_answer") rfl)
  g__law_store := He.glo_ok X G (c.1.fact 10 (f := .glo "_law_store") rfl)
  g__law_thing := He.glo_ok X G (c.1.fact 11 (f := .glo "_law_thing") rfl)
  g__law_whole := He.glo_ok X G (c.1.fact 12 (f := .glo "_law_whole") rfl)
  g__law_within := He.glo_ok X G (c.1.fact 13 (f := .glo "_law_within") rfl)
  g_closed := He.glo_ok X G (c.1.fact 14 (f := .glo "closed") rfl)
  g_in_order := He.glo_ok X G (c.1.fact 15 (f := .glo "in_order") rfl)
  g_law := He.glo_ok X G (c.1.fact 16 (f := .glo "law") rfl)
  g_node_count := He.glo_ok X G (c.1.fact 17 (f := .glo "node_count") rfl)
  g_node_ways := He.glo_ok X G (c.1.fact 18 (f := .glo "node_ways") rfl)
  g_path_key := He.glo_ok X G (c.1.fact 19 (f := .glo "path_key") rfl)
  k__law_cell := He.keep_ok (c.1.fact 20 (f := .keep "_law_cell") rfl)
  k__law_deed := He.keep_ok (c.1.fact 21 (f := .keep "_law_deed") rfl)
  k__law_digits := He.keep_ok (c.1.fact 22 (f := .keep "_law_digits") rfl)
  k__law_due := He.keep_ok (c.1.fact 23 (f := .keep "_law_due") rfl)
  k__law_put := He.keep_ok (c.1.fact 24 (f := .keep "_law_put") rfl)
  k__law_sheet := He.keep_ok (c.1.fact 25 (f := .keep "_law_sheet") rfl)
  k__law_small_answer := He.keep_ok (c.1.fact 26 (f := .keep "_law_small_answer") rfl)
  k__law_store := He.keep_ok (c.1.fact 27 (f := .keep "_law_store") rfl)
  k__law_thing := He.keep_ok (c.1.fact 28 (f := .keep "_law_thing") rfl)
  k__law_whole := He.keep_ok (c.1.fact 29 (f := .keep "_law_whole") rfl)
  k__law_within := He.keep_ok (c.1.fact 30 (f := .keep "_law_within") rfl)
  k_closed := He.keep_ok (c.1.fact 31 (f := .keep "closed") rfl)
  k_in_order := He.keep_ok (c.1.fact 32 (f := .keep "in_order") rfl)
  k_law := He.keep_ok (c.1.fact 33 (f := .keep "law") rfl)
  k_node_count := He.keep_ok (c.1.fact 34 (f := .keep "node_count") rfl)
  k_node_ways := He.keep_ok (c.1.fact 35 (f := .keep "node_ways") rfl)
  k_path_key := He.keep_ok (c.1.fact 36 (f := .keep "path_key") rfl)
  f_all := He.free_ok X G (c.1.fact 37 (f := .free "all") rfl)
  f_bool := He.free_ok X G (c.1.fact 38 (f := .free "bool") rfl)
  f_enumerate := He.free_ok X G (c.1.fact 39 (f := .free "enumerate") rfl)
  f_int := He.free_ok X G (c.1.fact 40 (f := .free "int") rfl)
  f_isinstance := He.free_ok X G (c.1.fact 41 (f := .free "isinstance") rfl)
  f_len := He.free_ok X G (c.1.fact 42 (f := .free "len") rfl)
  f_list := He.free_ok X G (c.1.fact 43 (f := .free "list") rfl)
  f_max := He.free_ok X G (c.1.fact 44 (f := .free "max") rfl)
  f_range := He.free_ok X G (c.1.fact 45 (f := .free "range") rfl)
  f_sorted := He.free_ok X G (c.1.fact 46 (f := .free "sorted") rfl)
  f_str := He.free_ok X G (c.1.fact 47 (f := .free "str") rfl)
  f_tuple := He.free_ok X G (c.1.fact 48 (f := .free "tuple") rfl)
  mk_Nodes := He.mkr_ok (c.1.fact 49 (f := .mkr "Nodes") rfl)
  cl_Nodes := He.cls_ok (c.1.fact 50 (f := .cls "Nodes") rfl)
  na_Nodes_count := He.noat_ok (c.1.fact 51 (f := .noat "Nodes" "count") rfl)
  na_Nodes_deeds := He.noat_ok (c.1.fact 52 (f := .noat "Nodes" "deeds") rfl)
  na_Nodes_goal := He.noat_ok (c.1.fact 53 (f := .noat "Nodes" "goal") rfl)
  na_Nodes_numbers := He.noat_ok (c.1.fact 54 (f := .noat "Nodes" "numbers") rfl)
  na_Nodes_paths := He.noat_ok (c.1.fact 55 (f := .noat "Nodes" "paths") rfl)
  na_Nodes_places := He.noat_ok (c.1.fact 56 (f := .noat "Nodes" "places") rfl)
  na_Nodes_sheet := He.noat_ok (c.1.fact 57 (f := .noat "Nodes" "sheet") rfl)
  na_Nodes_ways := He.noat_ok (c.1.fact 58 (f := .noat "Nodes" "ways") rfl)
  x_BadSheet := He.exc_ok (c.1.fact 59 (f := .exc "BadSheet") rfl)
  m_BadSheet_BadSheet := He.exm_ok (c.1.fact 60 (f := .exm "BadSheet" "BadSheet" true) rfl)
  m_BadSheet_LoopError := He.exm_ok (c.1.fact 61 (f := .exm "BadSheet" "LoopError" true) rfl)
  i_BadSheet_BadSheet := fKit_ok (c.extra 0 (f := fKit "BadSheet" "BadSheet" true) rfl)
  i_BadSheet_LoopError := fKit_ok (c.extra 1 (f := fKit "BadSheet" "LoopError" true) rfl)
  t_BadSheet_ValueError := fKitT_ok (c.extra 2 (f := fKitT "BadSheet" "ValueError" true) rfl)
  e_BadSheet := fExcC_ok (c.extra 3 (f := fExcC "BadSheet") rfl)
  d_path_key := c.1.def_ 0 (d := d0) rfl
  d_in_order := c.1.def_ 1 (d := d1) rfl
  d_closed := c.1.def_ 2 (d := d2) rfl
  d_Nodes_init := c.1.def_ 3 (d := d3) rfl
  d_node_ways := c.1.def_ 4 (d := d4) rfl
  d_node_count := c.1.def_ 5 (d := d5) rfl
  d__law_due := c.1.def_ 6 (d := d6) rfl
  d__law_whole := c.1.def_ 7 (d := d7) rfl
  d__law_cell := c.1.def_ 8 (d := d8) rfl
  d__law_digits := c.1.def_ 9 (d := d9) rfl
  d__law_store := c.1.def_ 10 (d := d10) rfl
  d__law_put := c.1.def_ 11 (d := d11) rfl
  d__law_thing := c.1.def_ 12 (d := d12) rfl
  d__law_deed := c.1.def_ 13 (d := d13) rfl
  d__law_within := c.1.def_ 14 (d := d14) rfl
  d__law_sheet := c.1.def_ 15 (d := d15) rfl
  d__law_small_answer := c.1.def_ 16 (d := d16) rfl
  d_law := c.1.def_ 17 (d := d17) rfl
abbrev RR : PySem.W.OpenRow := PySem.W.OpenLaw.row PySem.Challenge.rw_looporpile_k63_nodes_counted
abbrev hk : PySem.W.Hook := hookX 4 fa fn fx
def ob (s : PySem.W.SharedT) : AlX := obsXG 4 fa fn fx (HandSHeadRun.getT s)
theorem ob_eq (s : PySem.W.SharedT) : ob s = hk.obs s.abs := obsXG_eq (HandSHeadRun.getT_eq s)
theorem run (w : World) : HandSHeadRun.RunEq RR (PySem.W.view RR.prog [23]) hk ob 4000 ["LoopError", "BadSheet", "path_key", "in_order", "closed", "Nodes", "node_ways", "node_count", "_law_due", "_law_whole", "_law_cell", "_law_digits", "_law_store", "_law_put", "_law_thing", "_law_deed", "_law_within", "_law_sheet", "_law_small_answer"] w := by
  intro os
  kernel_rfl
theorem facts {P : Program} {w : World} {K : PySem.W.Frag} {h : Heap} {mg : Str → Option Value} {f : Addr} (X : K.In h) (G : h.Ns mainGlobals mg) (hfa : mg ("law" : Str) = some (.ref f)) (c : SaysX fa fn fx K) :
    ∃ fd : FuncData, (∀ (s : Shared) (v : Value), BindsTo s fd ⟨[v], []⟩ [("script", v)]) ∧ ∀ base : Heap, K.In base → base.Ns mainGlobals mg → FnOk P w K mg base CX0 8 f fd ["script"] (spD K relLaw) := by
  have Z := modF X G c
  obtain ⟨fd, F⟩ := Z.d_law
  have e := hfa.symm.trans Z.g_law
  cases e
  have b := FunD.bindsA (ps := ["script"]) F fun _ _ _ _ _ _ us hl => match us, hl with | [_], _ => rfl
  exact ⟨fd, fun s v => b s [v] rfl, fun base _ _ => F_law F Z⟩
end K63
open PySem PySem.W PySem.Calls PyProof.Rows
theorem PySem.Challenge.cw_looporpile_k63_nodes_counted_holds : PySem.Challenge.rw_looporpile_k63_nodes_counted.Holds := by
  w_on; o_law
  refine HandSHeadRun.head_any (r := OpenLaw.row PySem.Challenge.rw_looporpile_k63_nodes_counted) (q := view (OpenLaw.row PySem.Challenge.rw_looporpile_k63_nodes_counted).prog [23]) (H := K63.hk) (ob := K63.ob) (M := 4000) (loose := ["LoopError", "BadSheet", "path_key", "in_order", "closed", "Nodes", "node_ways", "node_count", "_law_due", "_law_whole", "_law_cell", "_law_digits", "_law_store", "_law_put", "_law_thing", "_law_deed", "_law_within", "_law_sheet", "_law_small_answer"]) (d := HandSHeadRun.topDef (OpenLaw.row PySem.Challenge.rw_looporpile_k63_nodes_counted).prog 23) (kwd := []) K63.ob_eq
    (by kernel_rfl) (fun s => by kernel_rfl) K63.run (by kernel_rfl) (by kernel_rfl) (by kernel_rfl) (by rfl) (by first | assumption | decide +kernel) (by decide +kernel) ⟨rfl, rfl, rfl, rfl, rfl, by decide +kernel⟩ ?hw ?hc
  case hw => w_witness2
  case hc =>
    refine L2.walk_ofE (l := PySem.Challenge.rw_looporpile_k63_nodes_counted) (n := 63) (k := 8) (x := "script") (CX := L2.CX0) rfl (by decide) (by kernel_rfl) ⟨rfl, by decide, by decide⟩ ?F (fun _ _ _ _ z => z)
    intro w mg fa h Y G0 hmg0
    obtain ⟨K, KX, c⟩ := Y
    have hmg : mg ("law" : PySem.Str) = some (.ref fa) := by
      have e : (HandSHeadRun.topDef (OpenLaw.row PySem.Challenge.rw_looporpile_k63_nodes_counted).prog 23).name = ("law" : PySem.Str) := by kernel_rfl
      rw [← e]
      exact hmg0
    obtain ⟨fd, hb, hF⟩ := K63.facts (P := (PySem.Challenge.rw_looporpile_k63_nodes_counted).prog) (w := w) KX G0 hmg c
    exact ⟨K, fd, G.spD K K63.relLaw, KX, hb, fun H a ns hl _ hS => G.law_end hS ⟨ns, rfl, hl, rfl⟩, hF⟩
#print axioms PySem.Challenge.cw_looporpile_k63_nodes_counted_holds

