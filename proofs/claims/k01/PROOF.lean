import PyProof.Rows.All
import Wide.All
import OpenK.AllK
import Wide.FinOn
import HandS.ForMost
import HandS.IsInst
import HandS.Wide
import HandS.Flow
import HandS.Defaults
import HandS.TupAny
import HandS.Codes
import HandS.TupLe
import HandS.More
import HandS.Head0
import HandS.Head1
import HandS.Head2
import HandS.HeadEnd
import HandS.HeadHook1
import HandS.HeadHook2
import PySem.Challenge.RW_storedesk_k01_compare_rows
set_option Elab.async false
set_option linter.all false
set_option maxRecDepth 100000
set_option maxHeartbeats 4000000
/-! Own layer over HandS: readings that compute, calls by one fact a def. -/
namespace G
open PySem PySem.Spec PyProof.Rows L2
/-! ### weakening -/
section
variable {X : Cx}
theorem PE_imp {e : Expr} {t t' : TE} (h : PE X e t) (k : ∀ σ H Q, t' σ H Q → t σ H Q) : PE X e t' := ⟨fun pins s σ H Q I q => h.run pins s σ H Q I (k _ _ _ q)⟩
theorem PT_imp {e : Expr} {t t' : TT} (h : PT X e t) (k : ∀ σ H Q, t' σ H Q → t σ H Q) : PT X e t' := ⟨fun pins s σ H Q I q => h.run pins s σ H Q I (k _ _ _ q)⟩
theorem OpR_imp {f : Value → Value → Sem Value} {r r' : R2} (h : OpR X f r) (k : ∀ x y H Q, r' x y H Q → r x y H Q) : OpR X f r' := fun pins s σ H x y v u Q I rx ry q => h pins s σ H x y v u Q I rx ry (k _ _ _ _ q)
theorem CallR_imp {f : Value} {r r' : List V → Hp → VK → Prop} (h : CallR X f r) (k : ∀ xs H Q, r' xs H Q → r xs H Q) : CallR X f r' := fun pins s σ H xs us Q I r q => h pins s σ H xs us Q I r (k _ _ _ q)
theorem IxR_imp {r r' : R2} (h : IxR X r) (k : ∀ x y H Q, r' x y H Q → r x y H Q) : IxR X r' := fun value slice pins s σ H x y v u Q I rx ry q hs => h value slice pins s σ H x y v u Q I rx ry (k _ _ _ _ q) hs
end
/-! ### names -/
def fVar (i : Nat) : TE := fun σ H Q => match σ[i]? with | some (some v) => Q v H | _ => False
section
variable {X : Cx}
theorem fv (i : Nat) {x : Str} {pos : Pos} (hN : X.N[i]? = some x := by rfl) (hv : Vis X.env.scope x := by first | exact Or.inl rfl | exact Or.inr (Or.inl rfl) | exact Or.inr (Or.inr rfl)) (hd : (x == ("__debug__" : Str)) = false := by decide)
    (hcd : (x == ("__classdict__" : Str)) = false := by decide) : PE X (.Name x pos) (fVar i) := PE_imp (pe_var hN hv hd hcd) fun σ H Q h => by
  unfold fVar at h
  split at h
  · rename_i v e
    exact ⟨v, e, h⟩
  · exact h.elim
end
/-! ### operators -/
def fAdd (K : PySem.W.Frag) : R2 := fun x y H Q => match x, y with
  | .int i, .int j => Q (.int (i + j)) H
  | .str a, .str b => a.length + b.length ≤ sizeLine ∧ Q (.str (a ++ b)) H
  | .ref a, .ref b => (∃ xs zs, H a = some (.lst xs) ∧ H b = some (.lst zs) ∧ xs.length + zs.length ≤ sizeLine ∧ ∀ p, H p = none → Q (.ref p) (upd H p (.lst (xs ++ zs)))) ∨
      (∃ xs ys, SqT K H a xs ∧ SqT K H b ys ∧ xs.length + ys.length ≤ sizeLine ∧ ∀ p H', SqT K H' p (xs ++ ys) → Same H H' → Q (.ref p) H')
  | _, _ => False
def fSub : R2 := fun x y H Q => match x, y with
  | .int i, .int j => Q (.int (i - j)) H
  | _, _ => False
def fMul : R2 := fun x y H Q => match x, y with
  | .int i, .int j => CMul i j ∧ Q (.int (i * j)) H
  | _, _ => False
def fMod : R2 := fun x y H Q => match x, y with
  | .int i, .int j => 0 < j ∧ Q (.int (i % j)) H
  | _, _ => False
def fDiv : R2 := fun x y H Q => match x, y with
  | .int i, .int j => CDivW i j ∧ Q (.int (i / j)) H
  | _, _ => False
def fPow : R2 := fun x y H Q => match x, y with
  | .int i, .int j => CPow i j ∧ Q (.int (i ^ j.toNat)) H
  | _, _ => False
def fNeg : V → Hp → VK → Prop := fun x H Q => match x with
  | .int i => Q (.int (-i)) H
  | _ => False
theorem same_upd {H : Hp} {p : Addr} {o : HO} (h : H p = none) : Same H (upd H p o) := fun b x e => by
  rw [upd_ne (ne_of_none e h)]
  exact e
theorem Same.tup {K : PySem.W.Frag} {H H' : Hp} {a : Addr} {xs : List V} (e : Same H H') (h : SqT K H a xs) : SqT K H' a xs := by
  rcases h with (h | ⟨o, h⟩) | h
  · exact .inl (.inl (e _ _ h))
  · exact .inl (.inr ⟨o, e _ _ h⟩)
  · exact .inr h
section
variable {X : Cx}
theorem o_add (K : PySem.W.Frag) (hK : X.K = K := by rfl) : OpR X (binaryOp .Add) (fAdd K) := by
  subst hK
  intro pins s σ H x y v u Q I rx ry h
  cases x <;> cases y <;> try exact h.elim
  · exact op_add pins s σ H _ _ v u Q I rx ry ⟨_, _, rfl, rfl, h⟩
  · exact op_add_str pins s σ H _ _ v u Q I rx ry ⟨_, _, rfl, rfl, h.1, h.2⟩
  · rcases h with ⟨xs, zs, h1, h2, h3, q⟩ | ⟨xs, ys, h1, h2, h3, q⟩
    · exact op_cat pins s σ H _ _ v u Q I rx ry ⟨_, _, xs, zs, rfl, rfl, h1, h2, h3, q⟩
    · refine op_catA pins s σ H _ _ v u Q I rx ry ⟨_, _, xs, ys, rfl, rfl, h1, h2, h3, fun e => ?_, fun _ e => ?_, fun _ _ p hp => ?_⟩
      · subst e
        exact q _ _ h2 (Same.refl _)
      · subst e
        exact q _ _ (by rw [List.append_nil]; exact h1) (Same.refl _)
      · exact q _ _ (SqT.of upd_same) (same_upd hp)
theorem o_sub : OpR X (binaryOp .Sub) fSub := OpR_imp op_sub fun x y H Q h => by
  cases x <;> cases y <;> first | exact h.elim | exact ⟨_, _, rfl, rfl, h⟩
theorem o_mul : OpR X (binaryOp .Mult) fMul := OpR_imp op_mul fun x y H Q h => by
  cases x <;> cases y <;> first | exact h.elim | exact ⟨_, _, rfl, rfl, h.1, h.2⟩
theorem o_mod : OpR X (binaryOp .Mod) fMod := OpR_imp op_mod fun x y H Q h => by
  cases x <;> cases y <;> first | exact h.elim | exact ⟨_, _, rfl, rfl, h.1, h.2⟩
theorem o_div : OpR X (binaryOp .FloorDiv) fDiv := OpR_imp op_fdivW fun x y H Q h => by
  cases x <;> cases y <;> first | exact h.elim | exact ⟨_, _, rfl, rfl, h.1, h.2⟩
theorem o_pow : OpR X (binaryOp .Pow) fPow := OpR_imp op_pow fun x y H Q h => by
  cases x <;> cases y <;> first | exact h.elim | exact ⟨_, _, rfl, rfl, h.1, h.2⟩
theorem o_neg : UnR X (unaryOp .USub) fNeg := fun pins s σ H x v Q I rx h => by
  cases x <;> first | exact h.elim | exact un_neg pins s σ H _ v Q I rx ⟨_, rfl, h⟩
end
/-! ### comparisons -/
def fEq : R2 := fun x y H Q => scal x y = true ∧ Q (.bl (decide (x = y))) H
def fCmp (p : Int → Int → Bool) (ps : List Nat → List Nat → Bool) : R2 := fun x y H Q => match x, y with
  | .int i, .int j => Q (.bl (p i j)) H
  | .str a, .str b => Q (.bl (ps a.cps.toList b.cps.toList)) H
  | _, _ => False
def fLt : R2 := fCmp (fun i j => decide (i < j)) (fun a b => decide (a < b))
def fLe : R2 := fCmp (fun i j => decide (i ≤ j)) (fun a b => !decide (b < a))
def fGt : R2 := fCmp (fun i j => decide (j < i)) (fun a b => decide (b < a))
def fGe : R2 := fCmp (fun i j => decide (j ≤ i)) (fun a b => !decide (a < b))
def fIsN : R2 := fun x y H Q => y = .non ∧ Q (.bl (decide (x = .non))) H
def fNotN : R2 := fun x y H Q => y = .non ∧ Q (.bl (!decide (x = .non))) H
section
variable {X : Cx}
theorem o_lt : OpR X (compareOp .Lt) fLt := fun pins s σ H x y v u Q I rx ry h => by
  cases x <;> cases y <;> first | exact h.elim | exact op_lt pins s σ H _ _ v u Q I rx ry ⟨_, _, rfl, rfl, h⟩ | exact op_lt_str pins s σ H _ _ v u Q I rx ry ⟨_, _, rfl, rfl, h⟩
theorem o_le : OpR X (compareOp .LtE) fLe := fun pins s σ H x y v u Q I rx ry h => by
  cases x <;> cases y <;> first | exact h.elim | exact op_le pins s σ H _ _ v u Q I rx ry ⟨_, _, rfl, rfl, h⟩ | exact op_le_str pins s σ H _ _ v u Q I rx ry ⟨_, _, rfl, rfl, h⟩
theorem o_gt : OpR X (compareOp .Gt) fGt := fun pins s σ H x y v u Q I rx ry h => by
  cases x <;> cases y <;> first | exact h.elim | exact op_gt pins s σ H _ _ v u Q I rx ry ⟨_, _, rfl, rfl, h⟩ | exact op_gt_str pins s σ H _ _ v u Q I rx ry ⟨_, _, rfl, rfl, h⟩
theorem o_ge : OpR X (compareOp .GtE) fGe := fun pins s σ H x y v u Q I rx ry h => by
  cases x <;> cases y <;> first | exact h.elim | exact op_ge pins s σ H _ _ v u Q I rx ry ⟨_, _, rfl, rfl, h⟩ | exact op_ge_str pins s σ H _ _ v u Q I rx ry ⟨_, _, rfl, rfl, h⟩
end
/-! ### a def of the text, as its callers see it -/
abbrev FnP (K : PySem.W.Frag) (x : Str) (st : Stmt) (f : Addr) (fd : FuncData) : Prop := FunD K x x (defArgs st) (defBody st) (defScope st) [] [] f fd
structure Fn (P : Program) (w : World) (K : PySem.W.Frag) (mg : Str → Option Value) (base : Heap) (x : Str) (ps : List Str) (k : Nat) (sp : Sp) : Prop where
  ex : ∃ f fd, FnOk P w K mg base CX0 k f fd ps sp ∧ mg x = some (.ref f) ∧ PySem.W.keepIn K (.ref f) = true ∧ Binds K fd ps []
section
variable {X : Cx}
theorem pcall {x : Str} {ps : List Str} {k j : Nat} {sp : Sp} {p pos : Pos} {e : Expr} {es : List Expr} {t : TA} (F : Fn X.prog X.w X.K X.mg X.base x ps k sp) (hr : Room j X.A) (ha : PA X (e :: es) t) (hg : Gl X x := by rfl) (hj : k ≤ j := by first | decide | omega)
    (hdb : (x == ("__debug__" : Str)) = false := by decide) (he : starEach (e :: es) X.env = (false, eval e X.env) :: starEach es X.env := by rfl) (hpl : (backTo pos (starEach es X.env)).any (·.1) = false := by rfl) :
    PE X (.Call (.Name x p) (e :: es) [] pos) (tCall sp [] E0 t) := by
  obtain ⟨f, fd, F, hm, hk, hb⟩ := F.ex
  exact pe_call F (hr.mono hj) hg hm hk hb .nil pass0 ha hdb he hpl
end

/-! ### more comparisons, truth, tests -/
def fNe : R2 := fun x y H Q => scal x y = true ∧ Q (.bl (!decide (x = y))) H
def fTest (t : TE) : TT := fun σ H Q => t σ H fun x H' => match x with | .bl k => Q k H' | _ => False
def truK (K : PySem.W.Frag) (x : V) (H : Hp) (Q : Bool → Hp → Prop) : Prop := match x with
  | .bl b => Q b H
  | .non => Q false H
  | .int i => Q (i != 0) H
  | .str y => y.length ≤ sizeLine ∧ Q ((y.length : Int) != 0) H
  | .ref p => ∃ xs, (SqL K H p xs ∨ SqT K H p xs) ∧ Q (!xs.isEmpty) H
  | _ => False
def fTru (K : PySem.W.Frag) (t : TE) : TT := fun σ H Q => t σ H fun x H' => truK K x H' Q
def fAndV (ta tb : TE) : TE := fun σ H Q => ta σ H fun x H1 => match x with | .bl c => (if c = true then tb σ H1 Q else Q (.bl false) H1) | _ => False
def fOrV (ta tb : TE) : TE := fun σ H Q => ta σ H fun x H1 => match x with | .bl c => (if c = true then Q (.bl true) H1 else tb σ H1 Q) | _ => False
def fNotV (ta : TE) : TE := fun σ H Q => ta σ H fun x H1 => match x with | .bl c => Q (.bl (!c)) H1 | _ => False
section
variable {X : Cx} {a b : Expr} {ta tb : TE} {pos : Pos} {rest : List Expr}
theorem run_imp {e : Expr} {t : TE} (h : PE X e t) {pins : List (Addr × Obj)} {s : Shared} {σ : L2.St} {H : Hp} {Q : VK} (I : Inv X pins σ H s) (q : t σ H Q) : wpAny (model X.prog X.w) X.A (eval e X.env) (EP X pins σ Q) X.xe s := h.run pins s σ H Q I q
theorem q_cmp {op : CmpOp} {r : R2} (ho : OpR X (compareOp op) r) (ha : PE X a ta) (hb : PE X b tb) (hm : behindInMarks op b = false := by first | exact nomark _ | rfl) : PT X (.Compare a [op] [b] pos) (fTest (tOp r ta tb)) := by
  refine ⟨fun pins s σ H Q I h => ?_⟩
  refine wpAny_isTrue_Compare1 (thn (ha.run pins s σ H _ I h) fun v s1 ⟨x, H1, I1, r1, q1⟩ => thn (hb.run pins s1 σ H1 _ I1 q1) fun u s2 ⟨y, H2, I2, r2, q2⟩ =>
    thn (ho pins s2 σ H2 x y v u _ I2 r1 r2 q2) fun c s3 ⟨z, H3, I3, r3, q3⟩ => ?_) hm
  cases z <;> first
    | exact q3.elim
    | (cases r3; exact wpAny_truthy_bool ⟨H3, I3, q3⟩)
theorem q_chain {op op' : CmpOp} {r r' : R2} {c : Expr} {tc : TE} (ho : OpR X (compareOp op) r) (ho' : OpR X (compareOp op') r') (ha : PE X a ta) (hb : PE X b tb) (hc : PE X c tc)
    (hm : lastMarks [op, op'] [b, c] = false := by with_unfolding_all rfl) : PT X (.Compare a [op, op'] [b, c] pos) (tTest (tChain r r' ta tb tc)) := pt_chain ho ho' ha hb hc hm
/-- any other expression as a test -/
theorem q_tru (K : PySem.W.Frag) (ha : PE X a ta) (hK : X.K = K := by rfl) (he : ∀ whole, isTrue a X.env whole = (do let v ← whole; standAt a.pos; holding [v] (truthy v)) := by intro _; rfl) : PT X a (fTru K ta) := by
  subst hK
  refine ⟨fun pins s σ H Q I h => ?_⟩
  refine isTrue_plain (thn (ha.run pins s σ H _ I h) fun v s1 ⟨x, H1, I1, r1, q1⟩ => ?_) (he _)
  refine tru_ok pins s1 σ H1 x v Q I1 r1 ?_
  cases x <;> first
    | exact q1.elim
    | exact ⟨_, rfl, q1⟩
    | exact ⟨_, ⟨q1.1, rfl⟩, q1.2⟩
    | (obtain ⟨xs, hx, q⟩ := q1
       rcases hx with hx | hx
       · exact ⟨_, .inl ⟨xs, hx, rfl⟩, q⟩
       · exact ⟨_, .inr (.inl ⟨xs, hx, rfl⟩), q⟩)
theorem f_and (ha : PE X a ta) (hb : PE X (.BoolOp .And (b :: rest) pos) tb) : PE X (.BoolOp .And (a :: b :: rest) pos) (fAndV ta tb) := by
  refine ⟨fun pins s σ H Q I h => ?_⟩
  refine BoolOp_and (thn (ha.run pins s σ H _ I h) fun v s1 ⟨x, H1, I1, r1, q1⟩ => ?_)
  cases x <;> try exact q1.elim
  rename_i c
  cases r1
  refine wpAny_truthy_bool ?_
  cases c with
  | true => exact hb.run pins s1 σ H1 Q I1 q1
  | false => exact ⟨.bl false, H1, I1, rfl, q1⟩
theorem f_or (ha : PE X a ta) (hb : PE X (.BoolOp .Or (b :: rest) pos) tb) : PE X (.BoolOp .Or (a :: b :: rest) pos) (fOrV ta tb) := by
  refine ⟨fun pins s σ H Q I h => ?_⟩
  refine BoolOp_or (thn (ha.run pins s σ H _ I h) fun v s1 ⟨x, H1, I1, r1, q1⟩ => ?_)
  cases x <;> try exact q1.elim
  rename_i c
  cases r1
  refine wpAny_truthy_bool ?_
  cases c with
  | false => exact hb.run pins s1 σ H1 Q I1 q1
  | true => exact ⟨.bl true, H1, I1, rfl, q1⟩
theorem f_not (ha : PE X a ta) : PE X (.UnaryOp .Not a pos) (fNotV ta) := by
  refine ⟨fun pins s σ H Q I h => ?_⟩
  refine UnaryOp_ (thn (ha.run pins s σ H _ I h) fun v s1 ⟨x, H1, I1, r1, q1⟩ => ?_)
  cases x <;> try exact q1.elim
  rename_i c
  cases r1
  exact not_of (wpAny_truthy_bool ⟨.bl (!c), H1, I1, rfl, q1⟩)
end
/-! ### built-ins -/
def fLen (K : PySem.W.Frag) : List V → Hp → VK → Prop := fun xs H Q => match xs with
  | [.str z] => z.length ≤ sizeLine ∧ Q (.int z.length) H
  | [.ref p] => ∃ ys, (SqL K H p ys ∨ SqT K H p ys) ∧ Q (.int ys.length) H
  | _ => False
def fInt : List V → Hp → VK → Prop := fun xs H Q => match xs with
  | [.int i] => Q (.int i) H
  | [.bl k] => Q (.int (if k then 1 else 0)) H
  | [.str a] => ∃ n, PySem.intText? a = some n ∧ a.length ≤ 640 ∧ Q (.int n) H
  | _ => False
def fStr : List V → Hp → VK → Prop := fun xs H Q => match xs with
  | [.int i] => i.natAbs.log2 < 1920 ∧ Q (.str (toString i)) H
  | _ => False
def fMin : List V → Hp → VK → Prop := fun xs H Q => match xs with
  | [.int i, .int j] => Q (.int (if j < i then j else i)) H
  | _ => False
def fMax : List V → Hp → VK → Prop := fun xs H Q => match xs with
  | [.int i, .int j] => Q (.int (if j > i then j else i)) H
  | _ => False
def fTuple (K : PySem.W.Frag) : List V → Hp → VK → Prop := fun xs H Q => match xs with
  | [.ref p] => ∃ ys, (SqL K H p ys ∨ SqT K H p ys) ∧ ∀ q H', SqT K H' q ys → Same H H' → Q (.ref q) H'
  | _ => False
def fList (K : PySem.W.Frag) : List V → Hp → VK → Prop := fun xs H Q => match xs with
  | [.ref p] => ∃ ys, (SqL K H p ys ∨ SqT K H p ys) ∧ ∀ l, H l = none → Q (.ref l) (upd H l (.lst ys))
  | _ => False
section
variable {X : Cx}
theorem c_len (K : PySem.W.Frag) (hK : X.K = K := by rfl) : CallR X (.builtin "len") (fLen K) := fun pins s σ H xs us Q I r h => by
  subst hK
  unfold fLen at h
  split at h
  · exact call_len_str pins s σ H _ us Q I r ⟨_, rfl, h.1, h.2⟩
  · obtain ⟨ys, hy, q⟩ := h
    exact call_len_seq pins s σ H _ us Q I r ⟨_, ys, rfl, hy, q⟩
  · exact h.elim
/-- .. telling that it is no more than the line -/
def fLenB (K : PySem.W.Frag) : List V → Hp → VK → Prop := fun xs H Q => match xs with
  | [.str z] => z.length ≤ sizeLine ∧ Q (.int z.length) H
  | [.ref p] => ∃ ys, (SqL K H p ys ∨ SqT K H p ys) ∧ (ys.length ≤ sizeLine → Q (.int ys.length) H)
  | _ => False
theorem c_lenB (K : PySem.W.Frag) (hK : X.K = K := by rfl) : CallR X (.builtin "len") (fLenB K) := fun pins s σ H xs us Q I r h => by
  subst hK
  unfold fLenB at h
  split at h
  · exact call_len_str pins s σ H _ us Q I r ⟨_, rfl, h.1, h.2⟩
  · obtain ⟨ys, hy, q⟩ := h
    refine call_len_seq pins s σ H _ us Q I r ⟨_, ys, rfl, hy, q ?_⟩
    rcases hy with hy | hy
    · exact (I.list hy).choose_spec.2.2
    · exact (I.tuple hy).choose_spec.2.2
  · exact h.elim
theorem c_int : CallR X (.type "int") fInt := fun pins s σ H xs us Q I r h => by
  unfold fInt at h
  split at h
  · exact call_int1 pins s σ H _ us Q I r (.inl ⟨_, rfl, h⟩)
  · exact call_int1 pins s σ H _ us Q I r (.inr ⟨_, rfl, h⟩)
  · obtain ⟨n, h1, h2, q⟩ := h
    exact call_int_str pins s σ H _ us Q I r ⟨_, n, rfl, h1, h2, q⟩
  · exact h.elim
theorem c_str : CallR X (.type "str") fStr := fun pins s σ H xs us Q I r h => by
  unfold fStr at h
  split at h
  · exact call_str_int pins s σ H _ us Q I r ⟨_, rfl, h.1, h.2⟩
  · exact h.elim
theorem c_min (hc : X.calm = true := by rfl) : CallR X (.builtin "min") fMin := fun pins s σ H xs us Q I r h => by
  unfold fMin at h
  split at h
  · exact call_min2 hc pins s σ H _ us Q I r ⟨_, _, rfl, h⟩
  · exact h.elim
theorem c_max (hc : X.calm = true := by rfl) : CallR X (.builtin "max") fMax := fun pins s σ H xs us Q I r h => by
  unfold fMax at h
  split at h
  · exact call_max2 hc pins s σ H _ us Q I r ⟨_, _, rfl, h⟩
  · exact h.elim
theorem c_tuple (K : PySem.W.Frag) (hK : X.K = K := by rfl) : CallR X (.type "tuple") (fTuple K) := fun pins s σ H xs us Q I r h => by
  subst hK
  unfold fTuple at h
  split at h
  · obtain ⟨ys, hy, q⟩ := h
    refine call_tuple_of pins s σ H _ us Q I r ⟨_, ys, rfl, ?_⟩
    rcases hy with hy | hy
    · exact .inl ⟨hy, fun l hl => q _ _ (SqT.of upd_same) (same_upd hl)⟩
    · exact .inr ⟨hy, q _ _ hy (Same.refl _)⟩
  · exact h.elim
theorem c_list (K : PySem.W.Frag) (hK : X.K = K := by rfl) : CallR X (.type "list") (fList K) := fun pins s σ H xs us Q I r h => by
  subst hK
  unfold fList at h
  split at h
  · obtain ⟨ys, hy, q⟩ := h
    exact call_list_of pins s σ H _ us Q I r ⟨_, ys, rfl, hy, q⟩
  · exact h.elim
end
/-! ### isinstance -/
/-- what it says of None, a bool, an int, a text, a list, a tuple, a dict -/
structure Isi where
  nm : String
  non : Bool
  bl : Bool
  int : Bool
  str : Bool
  lst : Bool
  tup : Bool
  dct : Bool
def Isi.ok (k : Isi) : Bool := kitB "NoneType" k.nm == some k.non && kitB "bool" k.nm == some k.bl && kitB "int" k.nm == some k.int && kitB "str" k.nm == some k.str && kitB "list" k.nm == some k.lst && kitB "tuple" k.nm == some k.tup && kitB "dict" k.nm == some k.dct
def kBool : Isi := ⟨"bool", false, true, false, false, false, false, false⟩
def kInt : Isi := ⟨"int", false, true, true, false, false, false, false⟩
def kStr : Isi := ⟨"str", false, false, false, true, false, false, false⟩
def kLst : Isi := ⟨"list", false, false, false, false, true, false, false⟩
def kTup : Isi := ⟨"tuple", false, false, false, false, false, true, false⟩
def kDct : Isi := ⟨"dict", false, false, false, false, false, false, true⟩
theorem kBool_ok : kBool.ok = true := by decide +kernel
theorem kInt_ok : kInt.ok = true := by decide +kernel
theorem kStr_ok : kStr.ok = true := by decide +kernel
theorem kLst_ok : kLst.ok = true := by decide +kernel
theorem kTup_ok : kTup.ok = true := by decide +kernel
theorem kDct_ok : kDct.ok = true := by decide +kernel
def isiK (K : PySem.W.Frag) (k : Isi) (x : V) (H : Hp) (q : Bool → Prop) : Prop := match x with
  | .non => q k.non
  | .bl _ => q k.bl
  | .int _ => q k.int
  | .str _ => q k.str
  | .ref a => (∃ xs, SqL K H a xs ∧ q k.lst) ∨ (∃ xs, SqT K H a xs ∧ q k.tup) ∨ (((∃ kvs, H a = some (.dK kvs)) ∨ ∃ kvs, H a = some (.dT kvs)) ∧ q k.dct)
  | _ => False
theorem tyx_lst {K : PySem.W.Frag} {H : Hp} {a : Addr} {xs : List V} (h : SqL K H a xs) : TyX K H (.ref a) (.type "list") := by
  rcases h with (h | ⟨o, h⟩) | ⟨o, its, n, h1, h2, _⟩
  · exact .base (.lst h)
  · exact .base (.frz h)
  · exact .kList h1 h2
theorem tyx_tup {K : PySem.W.Frag} {H : Hp} {a : Addr} {xs : List V} (h : SqT K H a xs) : TyX K H (.ref a) (.type "tuple") := by
  rcases h with (h | ⟨o, h⟩) | ⟨o, its, n, h1, h2, _⟩
  · exact .base (.tup h)
  · exact .fTuple h
  · exact .kTuple h1 h2
/-- its type's name and the answer -/
theorem isiK_ty {K : PySem.W.Frag} {k : Isi} (ok : k.ok = true) {x : V} {H : Hp} {q : Bool → Prop} (h : isiK K k x H q) : ∃ t b, TyX K H x (.type t) ∧ kitB t k.nm = some b ∧ q b := by
  unfold Isi.ok at ok
  simp only [Bool.and_eq_true, beq_iff_eq] at ok
  obtain ⟨⟨⟨⟨⟨⟨h1, h2⟩, h3⟩, h4⟩, h5⟩, h6⟩, h7⟩ := ok
  cases x with
  | non => exact ⟨_, _, .base .non, h1, h⟩
  | bl b => exact ⟨_, _, .base (.bl b), h2, h⟩
  | int i => exact ⟨_, _, .base (.int i), h3, h⟩
  | str y => exact ⟨_, _, .base (.str y), h4, h⟩
  | ref a =>
    rcases h with ⟨xs, hx, q⟩ | ⟨xs, hx, q⟩ | ⟨⟨kvs, hx⟩ | ⟨kvs, hx⟩, q⟩
    · exact ⟨_, _, tyx_lst hx, h5, q⟩
    · exact ⟨_, _, tyx_tup hx, h6, q⟩
    · exact ⟨_, _, .base (.dK hx), h7, q⟩
    · exact ⟨_, _, .base (.dT hx), h7, q⟩
  | _ => exact h.elim
def fIsi (K : PySem.W.Frag) (k : Isi) (t : TE) : TE := fun σ H Q => t σ H fun x H1 => isiK K k x H1 fun b => Q (.bl b) H1
section
variable {X : Cx}
theorem p_isi {e : Expr} {te : TE} {p p2 pos : Pos} {c : Str} (K : PySem.W.Frag) (k : Isi) (ok : k.ok = true) (hm : X.mg "isinstance" = none) (hmc : X.mg c = none) (hv : bootBuiltins c = some (.type k.nm)) (he : PE X e te) (hK : X.K = K := by rfl) (hg : Gl X "isinstance" := by rfl) (hgc : Gl X c := by rfl)
    (hn : c ≠ "__name__" := by decide) (hd : (c == ("__debug__" : Str)) = false := by decide) (hs : starEach (e :: [.Name c p2]) X.env = (false, eval e X.env) :: starEach [.Name c p2] X.env := by rfl) (hpl : (backTo pos (starEach [Expr.Name c p2] X.env)).any (·.1) = false := by rfl)
    (hs2 : starEach [Expr.Name c p2] X.env = (false, eval (.Name c p2) X.env) :: starEach [] X.env := by rfl) :
    PE X (.Call (.Name "isinstance" p) [e, .Name c p2] [] pos) (fIsi K k te) := by
  subst hK
  refine ⟨fun pins s σ H Q I h => ?_⟩
  refine wpAny_Call_Name_kw (ld_blt I hg hm boot_isinstance ?_)
  refine PyProof.Rows.callWith_builtin1 (Q := EP X pins σ Q) ?_ hs hpl
  rw [hs]
  show wpAny _ _ (spliced ((false, eval e X.env) :: backTo pos (starEach [Expr.Name c p2] X.env))) _ _ s
  refine Calls.spliced_cons (thn (he.run pins s σ H _ I h) fun u s1 ⟨x, H1, I1, r1, q1⟩ => ?_)
  refine thn ((pa_cons (pe_bltn (v := .ty k.nm) hgc hmc hv rfl hn hd) pa_nil hs2).run pos pins s1 σ H1 (fun vs H2 => vs = [.ty k.nm] ∧ H2 = H1) I1 ⟨rfl, rfl⟩) fun us s2 ⟨vs, H2, I2, r2, e1, e2⟩ => ?_
  subst e1 e2
  obtain ⟨t, b, ty, kt, q⟩ := isiK_ty ok q1
  exact call_isi pins s2 σ H2 [x, .ty k.nm] (u :: us) Q I2 (.cons r1 r2) ⟨x, .ty k.nm, .type t, .type k.nm, b, rfl, .ty _, ty, kit_ty kt, q⟩
end

/-- isinstance(x, (tuple, list)) -/
def kTL : Isi := ⟨"", false, false, false, false, true, true, false⟩
def fIsiTL (K : PySem.W.Frag) (te : TE) : TE := fun σ H Q => te σ H fun x H1 => ∀ T, H1 T = none → isiK K kTL x H1 fun b => Q (.bl b) (upd H1 T (.tup [.ty "tuple", .ty "list"]))
theorem tyx_upd {K : PySem.W.Frag} {H : Hp} {T : Addr} {o : HO} {x : V} {t : Value} (hT : H T = none) (h : TyX K H x t) : TyX K (upd H T o) x t := by
  have k : ∀ {a : Addr} {u : HO}, H a = some u → upd H T o a = some u := fun e => by rw [upd_ne (ne_of_none e hT)]; exact e
  cases h with
  | base b =>
    refine .base ?_
    cases b with
    | non => exact .non
    | bl y => exact .bl y
    | int i => exact .int i
    | str y => exact .str y
    | flt y => exact .flt y
    | lst e => exact .lst (k e)
    | frz e => exact .frz (k e)
    | tup e => exact .tup (k e)
    | dK e => exact .dK (k e)
    | dT e => exact .dT (k e)
    | ins e cl ha hn htk hm => exact .ins (k e) cl ha hn htk hm
  | byt y => exact .byt y
  | set e => exact .set (k e)
  | kList e c => exact .kList e c
  | kTuple e c => exact .kTuple e c
  | kDict e c => exact .kDict e c
  | fTuple e => exact .fTuple (k e)
  | fDict e => exact .fDict (k e)
theorem isiTL_ty {K : PySem.W.Frag} {x : V} {H : Hp} {q : Bool → Prop} (h : isiK K kTL x H q) : ∃ t b, TyX K H x (.type t) ∧ PySem.W.kitAny K (.type t) [.type "tuple", .type "list"] = some b ∧ q b := by
  have g : ∀ {t : String} {b1 b2 r : Bool}, kitB t "tuple" = some b1 → kitB t "list" = some b2 → r = (b1 || b2) → PySem.W.kitAny K (.type t) [.type "tuple", .type "list"] = some r := fun {t b1 b2 r} h1 h2 e => by
    subst e
    refine kitAny_cons (kit_ty h1) (fun e1 => ?_) (fun e1 => by rw [e1]; rfl)
    refine kitAny_cons (kit_ty h2) (fun e2 => by rw [e1, e2]; exact kitAny_nil) (fun e2 => by rw [e2]; simp)
  cases x with
  | non => exact ⟨_, _, .base .non, g (b1 := false) (b2 := false) (by decide +kernel) (by decide +kernel) rfl, h⟩
  | bl b => exact ⟨_, _, .base (.bl b), g (b1 := false) (b2 := false) (by decide +kernel) (by decide +kernel) rfl, h⟩
  | int i => exact ⟨_, _, .base (.int i), g (b1 := false) (b2 := false) (by decide +kernel) (by decide +kernel) rfl, h⟩
  | str y => exact ⟨_, _, .base (.str y), g (b1 := false) (b2 := false) (by decide +kernel) (by decide +kernel) rfl, h⟩
  | ref a =>
    rcases h with ⟨xs, hx, q⟩ | ⟨xs, hx, q⟩ | ⟨⟨kvs, hx⟩ | ⟨kvs, hx⟩, q⟩
    · exact ⟨_, _, tyx_lst hx, g (b1 := false) (b2 := true) (by decide +kernel) (by decide +kernel) rfl, q⟩
    · exact ⟨_, _, tyx_tup hx, g (b1 := true) (b2 := false) (by decide +kernel) (by decide +kernel) rfl, q⟩
    · exact ⟨_, _, .base (.dK hx), g (b1 := false) (b2 := false) (by decide +kernel) (by decide +kernel) rfl, q⟩
    · exact ⟨_, _, .base (.dT hx), g (b1 := false) (b2 := false) (by decide +kernel) (by decide +kernel) rfl, q⟩
  | _ => exact h.elim
section
variable {X : Cx}
theorem p_isiTL {e : Expr} {te : TE} {p p1 p2 tpos pos : Pos} {k : Nat} (K : PySem.W.Frag) (hm : X.mg "isinstance" = none) (hmt : X.mg "tuple" = none) (hml : X.mg "list" = none) (he : PE X e te) (hK : X.K = K := by rfl) (hg : Gl X "isinstance" := by rfl) (hgt : Gl X "tuple" := by rfl) (hgl : Gl X "list" := by rfl)
    (hs : starEach [e, .Tuple [.Name "tuple" p1, .Name "list" p2] k tpos] X.env = (false, eval e X.env) :: starEach [.Tuple [.Name "tuple" p1, .Name "list" p2] k tpos] X.env := by rfl)
    (hpl : (backTo pos (starEach [Expr.Tuple [.Name "tuple" p1, .Name "list" p2] k tpos] X.env)).any (·.1) = false := by rfl) :
    PE X (.Call (.Name "isinstance" p) [e, .Tuple [.Name "tuple" p1, .Name "list" p2] k tpos] [] pos) (fIsiTL K te) := by
  subst hK
  refine ⟨fun pins s σ H Q I h => ?_⟩
  refine wpAny_Call_Name_kw (ld_blt I hg hm boot_isinstance ?_)
  refine PyProof.Rows.callWith_builtin1 (Q := EP X pins σ Q) ?_ hs hpl
  rw [hs]
  show wpAny _ _ (spliced ((false, eval e X.env) :: backTo pos (starEach [Expr.Tuple [.Name "tuple" p1, .Name "list" p2] k tpos] X.env))) _ _ s
  refine Calls.spliced_cons (thn (he.run pins s σ H _ I h) fun u s1 ⟨x, H1, I1, r1, q1⟩ => ?_)
  have pt : PA X [.Tuple [.Name "tuple" p1, .Name "list" p2] k tpos] (tCons (tTup (tCons (tC (.ty "tuple")) (tCons (tC (.ty "list")) tNil))) tNil) :=
    pa_cons (pe_tup (pa_cons (pe_bltn (v := .ty "tuple") hgt hmt boot_tuple rfl) (pa_cons (pe_bltn (v := .ty "list") hgl hml boot_list rfl) pa_nil))) pa_nil
  refine thn (pt.run pos pins s1 σ H1 (fun vs H2 => ∃ T, H1 T = none ∧ vs = [.ref T] ∧ H2 = upd H1 T (.tup [.ty "tuple", .ty "list"])) I1 ⟨by show 2 ≤ sizeLine; decide, fun T hT => ⟨T, hT, rfl, rfl⟩⟩) fun us s2 ⟨vs, H2, I2, r2, T, hT, e1, e2⟩ => ?_
  subst e1 e2
  obtain ⟨t, b, ty, kt, q⟩ := isiTL_ty (q1 T hT)
  exact call_isiT pins s2 σ _ [x, .ref T] (u :: us) Q I2 (.cons r1 r2) ⟨x, T, [.ty "tuple", .ty "list"], .type t, [.type "tuple", .type "list"], b, rfl, upd_same, .cons (.ty _) (.cons (.ty _) .nil), tyx_upd hT ty, kt, q⟩
end
/-! ### subscripts and slices -/
def fIx (K : PySem.W.Frag) : R2 := fun x y H Q => match x, y with
  | .str z, .int i => z.length ≤ sizeLine ∧ ∃ c, atI z.cps.toList i = some c ∧ Q (.str ⟨#[c]⟩) H
  | .ref p, .int i => ∃ xs v, (SqL K H p xs ∨ SqT K H p xs) ∧ atI xs i = some v ∧ Q v H
  | _, _ => False
def fSl (K : PySem.W.Frag) : V → Option Int → Option Int → Hp → VK → Prop := fun x lo hi H Q => match x with
  | .str z => z.length ≤ sizeLine ∧ Q (.str (cutS z lo hi)) H
  | .ref a => (∃ xs, SqL K H a xs ∧ ∀ p, H p = none → Q (.ref p) (upd H p (.lst (cutV xs lo hi)))) ∨ (∃ xs, SqT K H a xs ∧ ∀ p H', SqT K H' p (cutV xs lo hi) → Same H H' → Q (.ref p) H')
  | _ => False
def fPart (t : TE) : TO := fun σ H Q => t σ H fun x H1 => match x with | .int i => Q (some i) H1 | _ => False
theorem cut_whole {xs : List V} {lo hi : Option Int} (h : HT.sIx xs.length 0 lo = 0 ∧ HT.sIx xs.length xs.length hi = xs.length) : cutV xs lo hi = xs := by
  unfold cutV
  rw [h.1, h.2, List.drop_zero, Nat.sub_zero]
  exact List.take_length
section
variable {X : Cx}
theorem x_ix (K : PySem.W.Frag) (hK : X.K = K := by rfl) : IxR X (fIx K) := fun value slice pins s σ H x y v u Q I rx ry h hs => by
  subst hK
  unfold fIx at h
  split at h
  · obtain ⟨h1, c, h2, q⟩ := h
    exact ix_str value slice pins s σ H _ _ v u Q I rx ry ⟨_, _, c, rfl, rfl, h1, h2, q⟩ hs
  · obtain ⟨xs, w, hx, h2, q⟩ := h
    rcases hx with hx | hx
    · exact ix_list value slice pins s σ H _ _ v u Q I rx ry ⟨_, xs, _, w, rfl, rfl, hx, h2, q⟩ hs
    · exact ix_tup value slice pins s σ H _ _ v u Q I rx ry ⟨_, xs, _, w, rfl, rfl, hx, h2, q⟩ hs
  · exact h.elim
theorem x_sl (K : PySem.W.Frag) (hK : X.K = K := by rfl) : SlR X (fSl K) := fun pins s σ H x v vl vu lo hi sl Q I rx hs pl pu h => by
  subst hK
  cases x <;> try exact h.elim
  · exact sl_str pins s σ H _ v vl vu lo hi sl Q I rx hs pl pu ⟨_, rfl, h.1, h.2⟩
  · rcases h with ⟨xs, hx, q⟩ | ⟨xs, hx, q⟩
    · exact sl_list pins s σ H _ v vl vu lo hi sl Q I rx hs pl pu ⟨_, xs, rfl, hx, q⟩
    · refine sl_tupA pins s σ H _ v vl vu lo hi sl Q I rx hs pl pu ⟨_, xs, rfl, hx, fun w => ?_, fun w p hp => ?_⟩
      · exact q _ _ (by rw [cut_whole w]; exact hx) (Same.refl _)
      · exact q _ _ (SqT.of upd_same) (same_upd hp)
end
/-! ### calls with keywords -/
def KB (fd : FuncData) (ps : List Str) (n : Nat) : Prop := ∀ (s : Shared) (us ws : List Value), us.length = n → ws.length = (ps.drop n).length → BindsTo s fd ⟨us, (ps.drop n).zip ws⟩ (ps.zip (us ++ ws))
structure FnK (P : Program) (w : World) (K : PySem.W.Frag) (mg : Str → Option Value) (base : Heap) (x : Str) (ps : List Str) (n k : Nat) (sp : Sp) : Prop where
  ex : ∃ f fd, FnOk P w K mg base CX0 k f fd ps sp ∧ mg x = some (.ref f) ∧ PySem.W.keepIn K (.ref f) = true ∧ KB fd ps n
  le : n ≤ ps.length
section
variable {X : Cx}
theorem run_kw {x : Str} {ps : List Str} {n k : Nat} {sp : Sp} {f : Addr} {fd : FuncData} {pins : List (Addr × Obj)} {σ : L2.St} {H : Hp} {s : Shared} {Q : VK} {us ws : List Value} {vs zs : List V} (F : FnOk X.prog X.w X.K X.mg X.base CX0 k f fd ps sp) (hr : Room k X.A) (hb : KB fd ps n)
    (I : Inv X pins σ H s) (r : Vals vs us) (rz : Vals zs ws) (hl : us.length = n) (hz : ws.length = (ps.drop n).length) (h : sp (vs ++ zs) H Q E0) : wpAny (model X.prog X.w) X.A (call (.ref f) us ((ps.drop n).zip ws)) (EP X pins σ Q) X.xe s := by
  refine wpAny_call (codeAny_mono (F.run X.A X.stack s H ⟨us, (ps.drop n).zip ws⟩ (us ++ ws) (vs ++ zs) Q E0 hr I.env0 (hb s us ws hl hz) (r.append rz) h) fun r s' hq => ?_)
  cases r with
  | error e => exact hq.elim
  | ok fl =>
    cases fl with
    | ret u => exact I.after hq
    | next => exact False.elim hq
    | brk => exact False.elim hq
    | cont => exact False.elim hq
def fCallK (m : Nat) (sp : Sp) (tk : TA) : TE := fun σ H Q => tk σ H fun zs H1 => zs.length = m ∧ sp zs H1 Q E0
/-- f(k = v, ..), every parameter by its name, in their order -/
theorem pcallK {x : Str} {ps : List Str} {k j : Nat} {sp : Sp} {p pos : Pos} {kws : List Keyword} {tk : TA} (F : FnK X.prog X.w X.K X.mg X.base x ps 0 k sp) (hr : Room j X.A) (hkw : PK X kws tk) (hg : Gl X x := by rfl) (hj : k ≤ j := by first | decide | omega)
    (hall : (backToKw pos (keywordEach kws X.env)).all (·.1.isSome) = true := by rfl) (hks : (backToKw pos (keywordEach kws X.env)).filterMap (·.1) = ps := by rfl) (hdb : (x == ("__debug__" : Str)) = false := by decide)
    (hpl : ((backTo pos (starEach [] X.env)).any (·.1) || (backToKw pos (keywordEach kws X.env)).any (·.1.isNone)) = false := by rfl) :
    PE X (.Call (.Name x p) [] kws pos) (fCallK ps.length sp tk) := by
  obtain ⟨f, fd, F, hm, hk, hb⟩ := F.ex
  refine ⟨fun pins s σ H Q I h => ?_⟩
  refine wpAny_Call_Name_kw (ld_glob I hg hm ?_ hdb)
  refine PySem.W.callWith_KW0 (h₀ := X.base) I.ok.mod.kin hk hall ?_ hpl
  refine thn (hkw.run pos pins s σ H _ I h) fun ws s2 ⟨zs, H2, I2, rz, l1, q2⟩ => ⟨I2.kIn, ?_⟩
  rw [hks]
  exact run_kw (x := x) (us := []) (vs := []) F (hr.mono hj) hb I2 .nil rz rfl (by rw [← rz.length, l1]; rfl) q2
end
theorem fun_kb {K : PySem.W.Frag} {x : Str} {st : Stmt} {f : Addr} {fd : FuncData} {ps : List Str} {n : Nat} (F : FnP K x st f fd)
    (h : ∀ (kV doc pm : Value) (an : Option Addr) (cdv ct : Value) (us ws : List Value), us.length = n → ws.length = (ps.drop n).length → bindArgs (PySem.W.fnOf x x (defArgs st) (defBody st) (defScope st) .none kV doc pm an cdv ct) ⟨us, (ps.drop n).zip ws⟩ = pure (ps.zip (us ++ ws))) : KB fd ps n := by
  obtain ⟨oc, od, dV, kV, doc, pm, an, cdv, ct, osl, rfl, lk, hcd, hD, hK⟩ := F.ex
  rcases hD with ⟨_, rfl⟩ | ⟨e, _⟩
  · exact fun s us ws h1 h2 => .of_eq (h kV doc pm an cdv ct us ws h1 h2)
  · exact absurd rfl e
/-! ### the built-in names that the text leaves alone -/
structure Bf (mg : Str → Option Value) : Prop where
  len : mg "len" = none
  int : mg "int" = none
  str : mg "str" = none
  bool : mg "bool" = none
  tuple : mg "tuple" = none
  list : mg "list" = none
  dict : mg "dict" = none
  range : mg "range" = none
  isinstance : mg "isinstance" = none
  min : mg "min" = none
  max : mg "max" = none
  sorted : mg "sorted" = none
  zip : mg "zip" = none
  enumerate : mg "enumerate" = none
  sum : mg "sum" = none
  any : mg "any" = none
  all : mg "all" = none
  ord : mg "ord" = none
/-! ### ifs -/
theorem iteD {c A B : Prop} [Decidable c] (h1 : c → A) (h2 : ¬ c → B) : if decide c = true then A else B := by
  by_cases h : c
  · rw [if_pos (decide_eq_true h)]
    exact h1 h
  · rw [if_neg (fun z => h (of_decide_eq_true z))]
    exact h2 h

/-! ### a sequence by what holds between -/
theorem nxt {f : L2.St → Hp → Prop} {R : VK} {B C : L2.St → Hp → Prop} {σ : L2.St} {H : Hp} (h : f σ H) : tNext { nx := f, rt := R, bk := B, ct := C } σ H := h
theorem seqP {t u : TS} {D : Ends} {σ : L2.St} {H : Hp} (P : L2.St → Hp → Prop) (rest : ∀ σ1 H1, P σ1 H1 → u D σ1 H1) (h : (∀ σ1 H1, P σ1 H1 → u D σ1 H1) → t { D with nx := u D } σ H) : tSeq t u D σ H := h rest
/-- a sequence that is cut: it is not seen through -/
@[irreducible] def cutSeq (t u : TS) : TS := tSeq t u
theorem pss_cut {X : Cx} {st : Stmt} {rest : List Stmt} {t u : TS} (h1 : PS X st t) (h2 : PSs X rest u) : PSs X (st :: rest) (cutSeq t u) := by
  unfold cutSeq
  exact pss_cons h1 h2
theorem cutP {t u : TS} {D : Ends} {σ : L2.St} {H : Hp} (P : L2.St → Hp → Prop) (rest : ∀ σ1 H1, P σ1 H1 → u D σ1 H1) (h : (∀ σ1 H1, P σ1 H1 → u D σ1 H1) → t { D with nx := u D } σ H) : cutSeq t u D σ H := by
  unfold cutSeq
  exact h rest
/-! ### a list or a tuple that is walked -/
def fSeq (K : PySem.W.Frag) (tl : TE) : TI := fun σ H R => tl σ H fun x H1 => match x with
  | .ref a => ((∃ xs, SqL K H1 a xs) ∧ R (Itl K a) H1) ∨ ((∃ xs, SqT K H1 a xs) ∧ R (Itt K a) H1)
  | _ => False
section
variable {X : Cx} {tg : Expr}
theorem p_seq {l : Expr} {tl : TE} (K : PySem.W.Frag) (hl : PE X l tl) (hK : X.K = K := by rfl) : PI X tg l (fSeq K tl) := by
  subst hK
  refine ⟨fun pins s σ H R I h => ?_⟩
  refine thn (hl.run pins s σ H _ I h) fun u s1 ⟨x, H1, I1, r1, q⟩ => ?_
  cases x <;> try exact q.elim
  cases r1
  rcases q with ⟨⟨xs, hx⟩, q⟩ | ⟨⟨xs, hx⟩, q⟩
  · obtain ⟨its, rv, p, hz⟩ := I1.list hx
    refine wpAny_pyIter_list p.isList ?_
    refine ⟨s1.heap.objs.size, [s1.heap.objs.size], _, _, H1, rfl, I1.kept (t' := s1.toks) fun b o e => Heap.get?_push_of_some _ e, turn_list _ _, ⟨_, Heap.get?_push_size _ rfl, rfl, rfl⟩, fun b hb => ?_, q⟩
    have e : b = s1.heap.objs.size := by simpa using hb
    subst e
    exact I1.fpOk (Nat.le_refl _) (I1.hok.fresh (Nat.le_refl _))
  · obtain ⟨its, rv, p, hz⟩ := I1.tuple hx
    refine wpAny_pyIter_tuple (show s1.heap.IsTuple _ its.toArray from p) ?_
    refine ⟨s1.heap.objs.size, [s1.heap.objs.size], _, _, H1, rfl, I1.kept (t' := s1.toks) fun b o e => Heap.get?_push_of_some _ e, turn_tuple _ _, ⟨_, Heap.get?_push_size _ rfl, rfl, rfl⟩, fun b hb => ?_, q⟩
    have e : b = s1.heap.objs.size := by simpa using hb
    subst e
    exact I1.fpOk (Nat.le_refl _) (I1.hok.fresh (Nat.le_refl _))
end
/-! ### the store of draws -/
def Sto (H : Hp) (st cl : Addr) : Prop := st ≠ cl ∧ ∃ (cs : List Int) (p r t sd : Int), H st = some (.lst [.ref cl, .int p, .int r, .int t, .int sd]) ∧ H cl = some (.lst (cs.map V.int)) ∧ 0 ≤ p ∧ 0 ≤ r
/-- all but the store at st is as it was; the store is a good one -/
def Go (st cl : Addr) (H H' : Hp) : Prop := (∀ b o, b ≠ st → H b = some o → H' b = some o) ∧ Sto H' st cl
section
variable {st cl : Addr} {H H1 H2 : Hp} {l : Addr} {o : HO}
theorem Sto.stIs (s : Sto H st cl) : ∃ xs, H st = some (.lst xs) := let ⟨_, _, _, _, _, _, h, _⟩ := s; ⟨_, h⟩
theorem Sto.clIs (s : Sto H st cl) : ∃ xs, H cl = some (.lst xs) := let ⟨_, _, _, _, _, _, _, h, _⟩ := s; ⟨_, h⟩
theorem Go.refl (s : Sto H st cl) : Go st cl H H := ⟨fun _ _ _ h => h, s⟩
theorem Go.sto (g : Go st cl H H1) : Sto H1 st cl := g.2
theorem Go.trans (g : Go st cl H H1) (g2 : Go st cl H1 H2) : Go st cl H H2 := ⟨fun b o n h => g2.1 b o n (g.1 b o n h), g2.2⟩
theorem Go.lst (g : Go st cl H H1) {a : Addr} {xs : List V} (n : a ≠ st) (h : H a = some (.lst xs)) : H1 a = some (.lst xs) := g.1 a _ n h
theorem Sto.ne_tup (s : Sto H st cl) {a : Addr} {xs : List V} (h : H a = some (.tup xs)) : a ≠ st := fun e => by
  obtain ⟨ys, hy⟩ := s.stIs
  rw [e, hy] at h
  cases h
theorem Sto.ne_none (s : Sto H st cl) (h : H l = none) : l ≠ st := fun e => by
  obtain ⟨ys, hy⟩ := s.stIs
  rw [e, hy] at h
  cases h
theorem Sto.ne_noneC (s : Sto H st cl) (h : H l = none) : l ≠ cl := fun e => by
  obtain ⟨ys, hy⟩ := s.clIs
  rw [e, hy] at h
  cases h
theorem Go.tup (g : Go st cl H H1) (s : Sto H st cl) {K : PySem.W.Frag} {a : Addr} {xs : List V} (h : SqT K H a xs) : SqT K H1 a xs := by
  have nf : ∀ {u : HO}, H a = some u → (∀ ys, u ≠ .lst ys) → a ≠ st := fun e k z => by
    obtain ⟨ys, hy⟩ := s.stIs
    rw [z, hy] at e
    exact k ys (Option.some.inj e).symm
  rcases h with (h | ⟨o, h⟩) | h
  · exact .inl (.inl (g.1 _ _ (nf h fun _ z => by cases z) h))
  · exact .inl (.inr ⟨o, g.1 _ _ (nf h fun _ z => by cases z) h⟩)
  · exact .inr h
theorem Go.seq (g : Go st cl H H1) (s : Sto H st cl) {K : PySem.W.Frag} {a : Addr} {xs : List V} (n : a ≠ st) (h : SqL K H a xs) : SqL K H1 a xs := by
  rcases h with (h | ⟨o, h⟩) | h
  · exact .inl (.inl (g.1 _ _ n h))
  · exact .inl (.inr ⟨o, g.1 _ _ n h⟩)
  · exact .inr h
theorem Go.free (g : Go st cl H H1) (s : Sto H st cl) (h : H1 l = none) : H l = none := by
  cases q : H l with
  | none => rfl
  | some o =>
    by_cases n : l = st
    · obtain ⟨ys, hy⟩ := g.2.stIs
      rw [n, hy] at h
      cases h
    · rw [g.1 l o n q] at h
      cases h
theorem Sto.lay (s : Sto H st cl) (h1 : l ≠ st) (h2 : l ≠ cl) : Sto (upd H l o) st cl := by
  obtain ⟨n, cs, p, r, t, sd, a, b, c⟩ := s
  exact ⟨n, cs, p, r, t, sd, by rw [upd_ne h1.symm]; exact a, by rw [upd_ne h2.symm]; exact b, c⟩
/-- a thing that did not stand in H is laid or changed -/
theorem Go.lay (g : Go st cl H H1) (s : Sto H st cl) (hn : H l = none) : Go st cl H (upd H1 l o) := by
  refine ⟨fun b u n h => ?_, g.2.lay (s.ne_none hn) (s.ne_noneC hn)⟩
  rw [upd_ne (ne_of_none h hn)]
  exact g.1 b u n h
theorem Go.same (g : Go st cl H H1) (e : Same H1 H2) : Go st cl H H2 := by
  refine ⟨fun b u n h => e _ _ (g.1 b u n h), ?_⟩
  obtain ⟨n, cs, p, r, t, sd, a, b, c⟩ := g.2
  exact ⟨n, cs, p, r, t, sd, e _ _ a, e _ _ b, c⟩
theorem Go.put (g : Go st cl H H1) {cs : List Int} {p r t sd : Int} (h2 : H1 cl = some (.lst (cs.map V.int))) (hp : 0 ≤ p) (hr : 0 ≤ r) : Go st cl H (upd H1 st (.lst [.ref cl, .int p, .int r, .int t, .int sd])) := by
  have n := g.2.1
  refine ⟨fun b u nb h => ?_, n, cs, p, r, t, sd, upd_same, ?_, hp, hr⟩
  · rw [upd_ne nb]
    exact g.1 b u nb h
  · rw [upd_ne n.symm]
    exact h2
theorem at_of {α : Type} {xs : List α} {i : Int} (h0 : 0 ≤ i) (h1 : i < xs.length) : ∃ v, atI xs i = some v ∧ v ∈ xs := by
  have hj : i.toNat < xs.length := by omega
  refine ⟨xs[i.toNat], ?_, List.getElem_mem _⟩
  have e : ((i.toNat : Nat) : Int) = i := by omega
  have := atI_nat (List.getElem?_eq_getElem hj)
  rw [e] at this
  exact this
theorem at_map {α β : Type} {f : α → β} {xs : List α} {i : Int} (h0 : 0 ≤ i) (h1 : i < xs.length) : ∃ v, atI (xs.map f) i = some (f v) ∧ v ∈ xs := by
  obtain ⟨u, hu, hm⟩ := at_of (xs := xs.map f) h0 (by rw [List.length_map]; exact h1)
  obtain ⟨v, hv, e⟩ := List.mem_map.mp hm
  exact ⟨v, by rw [e]; exact hu, hv⟩
end
/-! ### values: None, truths, numbers of at most 30 digits, texts of at most 40 signs -/
def signB (c : Nat) : Bool := decide (32 ≤ c) && decide (c ≤ 126) && decide (c ≠ 37)
def txtB (n : Nat) (z : Str) : Bool := decide (z.length ≤ n) && z.cps.toList.all signB
def numB (i : Int) : Bool := decide (-1000000000000000000000000000000 < i) && decide (i < 1000000000000000000000000000000)
def flatB : V → Bool
  | .non => true
  | .bl _ => true
  | .int i => numB i
  | .str z => txtB 40 z
  | _ => false
abbrev FlatV (v : V) : Prop := flatB v = true
theorem numB_iff {i : Int} : numB i = true ↔ -1000000000000000000000000000000 < i ∧ i < 1000000000000000000000000000000 := by
  unfold numB
  rw [Bool.and_eq_true, decide_eq_true_eq, decide_eq_true_eq]
theorem txtB_iff {n : Nat} {z : Str} : txtB n z = true ↔ z.length ≤ n ∧ ∀ c ∈ z.cps.toList, signB c = true := by
  unfold txtB
  rw [Bool.and_eq_true, decide_eq_true_eq, List.all_eq_true]
theorem num_log {i : Int} (h : numB i = true) : i.natAbs.log2 < 1920 := by
  have h' := numB_iff.mp h
  have h2 : i.natAbs < 2 ^ 100 := by omega
  have h3 : i.natAbs.log2 < 100 := PySem.Flt.log2_lt_of (by decide) h2
  omega
theorem txt_line {n : Nat} {z : Str} (h : txtB n z = true) (hn : n ≤ 1000) : z.length ≤ sizeLine := Nat.le_of_lt (small1000 (Nat.le_trans (txtB_iff.mp h).1 hn))
theorem len_cps (z : Str) : z.length = z.cps.toList.length := by
  rw [Array.length_toList]
  rfl
theorem txt_of {n : Nat} {l : List Nat} (h1 : l.length ≤ n) (h2 : ∀ c ∈ l, signB c = true) : txtB n ⟨l.toArray⟩ = true := txtB_iff.mpr ⟨by rw [len_cps]; exact h1, h2⟩
theorem txt_cut {n : Nat} {z : Str} {lo hi : Option Int} (h : txtB n z = true) : txtB n (cutS z lo hi) = true := by
  have h' := txtB_iff.mp h
  refine txtB_iff.mpr ⟨Nat.le_trans (cutS_length z lo hi) h'.1, fun c hc => h'.2 c ?_⟩
  exact List.mem_of_mem_drop (List.mem_of_mem_take hc)
/-- z[:m] -/
theorem cut_to {z : Str} {m : Nat} : (cutS z none (some (m : Int))).length ≤ m := by
  rw [len_cps]
  show ((z.cps.toList.drop (HT.sIx z.length 0 none)).take (HT.sIx z.length z.length (some (m : Int)) - HT.sIx z.length 0 none)).length ≤ m
  rw [HT.sIx_nat, HT.sIx_none, List.length_take]
  omega
theorem txt_to {n : Nat} {z : Str} {m : Int} (h0 : 0 ≤ m) (h : txtB n z = true) : txtB m.toNat (cutS z none (some m)) = true := by
  have h' := txtB_iff.mp (txt_cut (lo := none) (hi := some m) h)
  refine txtB_iff.mpr ⟨?_, h'.2⟩
  have e : ((m.toNat : Nat) : Int) = m := by omega
  have := cut_to (z := z) (m := m.toNat)
  rw [e] at this
  exact this
theorem txt_mono {n k : Nat} {z : Str} (hk : n ≤ k) (h : txtB n z = true) : txtB k z = true := by
  have h' := txtB_iff.mp h
  exact txtB_iff.mpr ⟨Nat.le_trans h'.1 hk, h'.2⟩
theorem all_mem {p : V → Bool} {xs : List V} (h : xs.all p = true) {v : V} (hv : v ∈ xs) : p v = true := List.all_eq_true.mp h v hv
/-- ''.join of single signs -/
theorem join_signs (cs : List Nat) : Txt.join (Str.ofString "") (cs.map fun c => (⟨#[c]⟩ : Str)) = ⟨cs.toArray⟩ := by
  have e : ∀ l : List Nat, TL.joinL [] (l.map fun c => [c]) = l := by
    intro l
    induction l with
    | nil => rfl
    | cons c r ih =>
      cases r with
      | nil => rfl
      | cons d r =>
        show [c] ++ ([] ++ TL.joinL [] ((d :: r).map fun c => [c])) = _
        rw [ih]
        rfl
  have h := SX.join_S [] (cs.map fun c => [c])
  rw [List.map_map] at h
  have h2 : SX.S [] = Str.ofString "" := by decide +kernel
  rw [e, h2] at h
  exact h
end G

/-! The order of data as Python has it: the first items that differ decide; what stands behind them need not be comparable. -/
namespace G
open PySem PySem.Spec PyProof.Rows L2
/-! ### the order, as far as it goes; up: the other way round -/
mutual
def ltD (up : Bool) : PyData → PyData → Option Bool
  | .int i, .int j => some (if up then decide (j < i) else decide (i < j))
  | .str x, .str y => some (if up then decide (y.cps.toList < x.cps.toList) else decide (x.cps.toList < y.cps.toList))
  | .tuple xs, .tuple ys => ltAll up xs ys
  | _, _ => none
def ltAll (up : Bool) : List PyData → List PyData → Option Bool
  | [], [] => some false
  | [], _ :: _ => some (!up)
  | _ :: _, [] => some up
  | x :: xs, y :: ys => if PyData.eqv x y = true then ltAll up xs ys else ltD up x y
end
theorem depth_mem {x : PyData} : ∀ {xs : List PyData}, x ∈ xs → x.depth ≤ PyData.depthAll xs
  | y :: ys, h => by
    rw [PyData.depthAll]
    rcases List.mem_cons.mp h with e | h
    · rw [e]
      exact Nat.le_max_left _ _
    · exact Nat.le_trans (depth_mem h) (Nat.le_max_right _ _)
/-- what is asked of the items, one by one, from the left -/
def FirstBy (A : Around) (s : Shared) (op : CmpOp) (sz : Bool) (k : Bool) : List Value → List Value → Prop
  | v :: vs, u :: us => ∃ q, SeqAt.EqAt A s v u q ∧ (q = true → FirstBy A s op sz k vs us) ∧ (q = false → Ob.RcOp op A s v u k)
  | _, _ => sz = k
open PySem.AutoSeq1 (wpAny_loadPart') in
open PySem.MeetsSeq PySem.MeetsSeq2 PySem.MeetsSeq3 in
theorem tup_first_lt (l b : Addr) (its jts : Array Value) (n m : Nat) (dl db : Option Addr) (sl sb : Array (Option Value)) (k : Bool) :
    Meets (Builtin.«tuple.__lt__» ⟨[.ref l, .ref b], []⟩) (fun A R s => s.heap.get? l = some { cls := .type "tuple", dict := dl, data := .seq its n, slots := sl } ∧
      s.heap.get? b = some { cls := .type "tuple", dict := db, data := .seq jts m, slots := sb } ∧ FirstBy A.in1 s .Lt (decide (its.size < jts.size)) k its.toList jts.toList ∧ R (.ok (.ret (.bool k))) s) :=
  .of_wp fun prog w A R s hyp => by
    obtain ⟨hp, gn, dr, tk, os⟩ := s
    obtain ⟨hl, hb, hF, hR⟩ := hyp
    have f2 := AutoSeq1.sub_tuple_tuple
    wp_walk using wpAny_loadPart' hl, wpAny_loadPart' hb, wpAny_forIn_list _ (fun rest r s' => r.1 = none ∧ s' = ⟨hp, gn, dr, tk, os⟩ ∧ ∃ vs us, rest = vs.zip us ∧ FirstBy A.in1 ⟨hp, gn, dr, tk, os⟩ .Lt (decide (its.size < jts.size)) k vs us) _
    case turn =>
      rintro ⟨y, x⟩ rest r s' ⟨hr, rfl, vs, us, hz, hF⟩
      cases vs with
      | nil => cases hz
      | cons v vs =>
        cases us with
        | nil => cases hz
        | cons u us =>
          rw [List.zip_cons_cons] at hz
          injection hz with h1 h2
          injection h1 with e1 e2
          subst e1 e2 h2
          obtain ⟨q, hq, h1, h2⟩ := hF
          refine wpAny_bind (hq prog w _ _ ?_)
          cases q with
          | true =>
            wp_walk
            exact ⟨rfl, rfl, vs, us, rfl, h1 rfl⟩
          | false =>
            have step := h2 rfl prog w
            wp_walk using step
            exact ⟨_, rfl, by simpa using hR⟩
    case fin =>
      rintro ⟨r1, r2⟩ s' ⟨hr, rfl, vs, us, hz, hF⟩
      simp only at hr
      subst hr
      have hk : decide (its.size < jts.size) = k := by
        cases vs with
        | nil => exact hF
        | cons v vs =>
          cases us with
          | nil => exact hF
          | cons u us => cases hz
      wp_walk
      refine ⟨_, rfl, ?_⟩
      rw [← hk] at hR
      simpa [Builtin.Tuple.tupleCompareSizes] using hR
    case h => exact ⟨rfl, rfl, its.toList, jts.toList, rfl, hF⟩
open PySem.AutoSeq1 (wpAny_loadPart') in
open PySem.MeetsSeq PySem.MeetsSeq2 PySem.MeetsSeq3 in
theorem tup_first_gt (l b : Addr) (its jts : Array Value) (n m : Nat) (dl db : Option Addr) (sl sb : Array (Option Value)) (k : Bool) :
    Meets (Builtin.«tuple.__gt__» ⟨[.ref l, .ref b], []⟩) (fun A R s => s.heap.get? l = some { cls := .type "tuple", dict := dl, data := .seq its n, slots := sl } ∧
      s.heap.get? b = some { cls := .type "tuple", dict := db, data := .seq jts m, slots := sb } ∧ FirstBy A.in1 s .Gt (decide (its.size > jts.size)) k its.toList jts.toList ∧ R (.ok (.ret (.bool k))) s) :=
  .of_wp fun prog w A R s hyp => by
    obtain ⟨hp, gn, dr, tk, os⟩ := s
    obtain ⟨hl, hb, hF, hR⟩ := hyp
    have f2 := AutoSeq1.sub_tuple_tuple
    wp_walk using wpAny_loadPart' hl, wpAny_loadPart' hb, wpAny_forIn_list _ (fun rest r s' => r.1 = none ∧ s' = ⟨hp, gn, dr, tk, os⟩ ∧ ∃ vs us, rest = vs.zip us ∧ FirstBy A.in1 ⟨hp, gn, dr, tk, os⟩ .Gt (decide (its.size > jts.size)) k vs us) _
    case turn =>
      rintro ⟨y, x⟩ rest r s' ⟨hr, rfl, vs, us, hz, hF⟩
      cases vs with
      | nil => cases hz
      | cons v vs =>
        cases us with
        | nil => cases hz
        | cons u us =>
          rw [List.zip_cons_cons] at hz
          injection hz with h1 h2
          injection h1 with e1 e2
          subst e1 e2 h2
          obtain ⟨q, hq, h1, h2⟩ := hF
          refine wpAny_bind (hq prog w _ _ ?_)
          cases q with
          | true =>
            wp_walk
            exact ⟨rfl, rfl, vs, us, rfl, h1 rfl⟩
          | false =>
            have step := h2 rfl prog w
            wp_walk using step
            exact ⟨_, rfl, by simpa using hR⟩
    case fin =>
      rintro ⟨r1, r2⟩ s' ⟨hr, rfl, vs, us, hz, hF⟩
      simp only at hr
      subst hr
      have hk : decide (its.size > jts.size) = k := by
        cases vs with
        | nil => exact hF
        | cons v vs =>
          cases us with
          | nil => exact hF
          | cons u us => cases hz
      wp_walk
      refine ⟨_, rfl, ?_⟩
      rw [← hk] at hR
      simpa [Builtin.Tuple.tupleCompareSizes] using hR
    case h => exact ⟨rfl, rfl, its.toList, jts.toList, rfl, hF⟩

abbrev opU (up : Bool) : CmpOp := if up then .Gt else .Lt
def szU (up : Bool) (m n : Nat) : Bool := if up then decide (m > n) else decide (m < n)
theorem first_data {up : Bool} {A : Around} {s : Shared} {N : Nat} {k : Bool} (hu : A.units + N < cLine)
    (ih : ∀ (d e : PyData) (a b : Value) (as bs : List Addr) (k : Bool), d.depth ≤ N → Reads s.heap a d as → Reads s.heap b e bs → d.canLay0 = true → e.canLay0 = true → ltD up d e = some k → Ob.RcOp (opU up) A s a b k) :
    ∀ (xs ys : List PyData) (vs us : List Value) (as bs : List Addr), ReadsAll s.heap vs xs as → ReadsAll s.heap us ys bs → PyData.canLayAll0 xs = true → PyData.canLayAll0 ys = true → PyData.depthAll xs ≤ N →
      ltAll up xs ys = some k → FirstBy A s (opU up) (szU up vs.length us.length) k vs us
  | [], [], vs, us, as, bs, rx, ry, _, _, _, h => by
    cases rx
    cases ry
    have e := Option.some.inj h
    subst e
    unfold szU
    cases up <;> rfl
  | [], y :: ys, vs, us, as, bs, rx, ry, _, _, _, h => by
    cases rx
    cases ry
    have e := Option.some.inj h
    subst e
    unfold szU
    cases up <;> simp [FirstBy]
  | x :: xs, [], vs, us, as, bs, rx, ry, _, _, _, h => by
    cases rx
    cases ry
    have e := Option.some.inj h
    subst e
    unfold szU
    cases up <;> simp [FirstBy]
  | x :: xs, y :: ys, vs, us, as, bs, rx, ry, cx, cy, hd, h => by
    cases rx with
    | cons r rs =>
      cases ry with
      | cons r' rs' =>
        rw [PyData.canLayAll0, Bool.and_eq_true] at cx cy
        rw [PyData.depthAll] at hd
        have h1 : x.depth ≤ N := Nat.le_trans (Nat.le_max_left _ _) hd
        have h2 : PyData.depthAll xs ≤ N := Nat.le_trans (Nat.le_max_right _ _) hd
        refine ⟨PyData.eqv x y, SeqAt.eqAt_reads x y A s _ _ _ _ r r' cx.1 cy.1 (by have := Nat.min_le_left x.depth y.depth; omega), fun e => ?_, fun e => ?_⟩
        · rw [ltAll, if_pos e] at h
          have := first_data hu ih xs ys _ _ _ _ rs rs' cx.2 cy.2 h2 h
          rw [List.length_cons, List.length_cons]
          unfold szU at this ⊢
          simpa using this
        · rw [ltAll, if_neg (by rw [e]; exact Bool.false_ne_true)] at h
          exact ih x y _ _ _ _ k h1 r r' cx.1 cy.1 h
theorem rc_data (up : Bool) : ∀ (N : Nat) (A : Around) (s : Shared), A.units + N < cLine → ∀ (d e : PyData) (a b : Value) (as bs : List Addr) (k : Bool), d.depth ≤ N → Reads s.heap a d as → Reads s.heap b e bs → d.canLay0 = true → e.canLay0 = true →
    ltD up d e = some k → Ob.RcOp (opU up) A s a b k := by
  intro N
  induction N with
  | zero =>
    intro A s hu d e a b as bs k hd ra rb ca cb h
    cases d with
    | int i =>
      cases e with
      | int j =>
        cases ra
        cases rb
        have e := Option.some.inj h
        subst e
        intro prog w E Q q
        cases up
        · exact lt_int q
        · exact gt_int q
      | _ => cases h
    | str i =>
      cases e with
      | str j =>
        cases ra
        cases rb
        have e := Option.some.inj h
        subst e
        intro prog w E Q q
        cases up
        · exact PySem.P.lt_str q
        · exact PySem.P.gt_str q
      | _ => cases h
    | tuple xs =>
      rw [PyData.depth] at hd
      omega
    | _ => cases e <;> cases h
  | succ N ih =>
    intro A s hu d e a b as bs k hd ra rb ca cb h
    cases d with
    | int i =>
      cases e with
      | int j =>
        cases ra
        cases rb
        have e := Option.some.inj h
        subst e
        intro prog w E Q q
        cases up
        · exact lt_int q
        · exact gt_int q
      | _ => cases h
    | str i =>
      cases e with
      | str j =>
        cases ra
        cases rb
        have e := Option.some.inj h
        subst e
        intro prog w E Q q
        cases up
        · exact PySem.P.lt_str q
        · exact PySem.P.gt_str q
      | _ => cases h
    | tuple xs =>
      cases e with
      | tuple ys =>
        cases ra with
        | @tuple l o vs n _ as h1 h2 h3 h4 =>
          cases rb with
          | @tuple b o' us m _ bs k1 k2 k3 k4 =>
            rw [PyData.depth] at hd
            rw [PyData.canLay0] at ca cb
            have hF := first_data (A := A.in1) (s := s) (N := N) (k := k) (up := up) (by show A.units + 1 + N < cLine; omega) (ih A.in1 s (by show A.units + 1 + N < cLine; omega)) xs ys vs.toList us.toList as bs h4 k4 ca cb (by omega) h
            obtain ⟨cls, dd, data, sl⟩ := o
            obtain ⟨cls', dd', data', sl'⟩ := o'
            simp only at h2 h3 k2 k3
            subst h2 h3 k2 k3
            intro prog w E Q q
            unfold szU at hF
            rw [Array.length_toList, Array.length_toList] at hF
            have hne : Value.bool k ≠ Value.notImplemented ∧ Q (.bool k) s := ⟨(fun x => nomatch x), q⟩
            cases up
            · exact PySem.richCompare_meets_room (op := .Lt) ⟨_, h1, rfl⟩ ⟨_, k1, rfl⟩ F.slot_tuple_lt F.entry_tuple_lt (F.args_tuple_lt_2 _ _) (tup_first_lt l b vs us n m dd dd' sl sl' k) ⟨h1, k1, hF, hne⟩ (by omega)
            · exact PySem.richCompare_meets_room (op := .Gt) ⟨_, h1, rfl⟩ ⟨_, k1, rfl⟩ F.slot_tuple_gt F.entry_tuple_gt (F.args_tuple_gt_2 _ _) (tup_first_gt l b vs us n m dd dd' sl sl' k) ⟨h1, k1, hF, hne⟩ (by omega)
      | _ => cases h
    | _ => cases e <;> cases h
/-- x < y, x > y of data -/
def fCmpD (up : Bool) (K : PySem.W.Frag) : R2 := fun x y H Q => ∃ d e b, Dp K H x d ∧ Dp K H y e ∧ SeqAt.shaped d = true ∧ SeqAt.shaped e = true ∧ ltD up d e = some b ∧ Q (.bl b) H
theorem shaped_iff {d : PyData} : SeqAt.shaped d = true ↔ d.canLay0 = true ∧ d.depth ≤ 64 := by
  unfold SeqAt.shaped
  rw [Bool.and_eq_true, decide_eq_true_eq]
section
variable {X : Cx}
theorem o_ltD (K : PySem.W.Frag) {k : Nat} (hr : Room k X.A) (hK : X.K = K := by rfl) : OpR X (compareOp .Lt) (fCmpD false K) := fun pins s σ H x y v u Q I rx ry h => by
  subst hK
  obtain ⟨d, e, b, hd, he, sd, se, hl, q⟩ := h
  obtain ⟨as, r1⟩ := Dp.reads I d x v hd rx
  obtain ⟨bs, r2⟩ := Dp.reads I e y u he ry
  exact rc_data false 64 X.A s hr.units d e v u as bs b (shaped_iff.mp sd).2 r1 r2 (shaped_iff.mp sd).1 (shaped_iff.mp se).1 hl _ _ _ _ ⟨.bl b, H, I, rfl, q⟩
theorem o_gtD (K : PySem.W.Frag) {k : Nat} (hr : Room k X.A) (hK : X.K = K := by rfl) : OpR X (compareOp .Gt) (fCmpD true K) := fun pins s σ H x y v u Q I rx ry h => by
  subst hK
  obtain ⟨d, e, b, hd, he, sd, se, hl, q⟩ := h
  obtain ⟨as, r1⟩ := Dp.reads I d x v hd rx
  obtain ⟨bs, r2⟩ := Dp.reads I e y u he ry
  exact rc_data true 64 X.A s hr.units d e v u as bs b (shaped_iff.mp sd).2 r1 r2 (shaped_iff.mp sd).1 (shaped_iff.mp se).1 hl _ _ _ _ ⟨.bl b, H, I, rfl, q⟩
theorem o_eqD (K : PySem.W.Frag) {k : Nat} (hr : Room k X.A) (hK : X.K = K := by rfl) : OpR X (compareOp .Eq) (rEqD K) := by
  subst hK
  exact op_eqD hr.units
theorem o_neD (K : PySem.W.Frag) {k : Nat} (hr : Room k X.A) (hK : X.K = K := by rfl) : OpR X (compareOp .NotEq) (rNeD K) := by
  subst hK
  exact op_neD hr.units
end
end G

/-! Data in the heap: what stays, what flat values and their keys are worth. -/
namespace G
open PySem PySem.Spec PyProof.Rows L2
/-! ### what is fixed once it is laid -/
def fixd : HO → Bool
  | .tup _ => true
  | .frz _ _ => true
  | _ => false
/-- tuples stay -/
def Tk (H H' : Hp) : Prop := ∀ b o, fixd o = true → H b = some o → H' b = some o
section
variable {H H1 H2 : Hp} {st cl l : Addr} {o : HO} {K : PySem.W.Frag}
theorem Tk.refl (H : Hp) : Tk H H := fun _ _ _ h => h
theorem Tk.trans (a : Tk H H1) (b : Tk H1 H2) : Tk H H2 := fun c u f h => b c u f (a c u f h)
theorem Tk.same (e : Same H H1) : Tk H H1 := fun b u _ h => e b u h
theorem Tk.go (g : Go st cl H H1) (s : Sto H st cl) : Tk H H1 := fun b u f h => by
  refine g.1 b u (fun e => ?_) h
  obtain ⟨xs, hx⟩ := s.stIs
  rw [e, hx] at h
  cases h
  cases f
theorem Tk.lay (h : H l = none) : Tk H (upd H l o) := Tk.same (same_upd h)
theorem Tk.put {xs : List V} (h : H l = some (.lst xs)) : Tk H (upd H l o) := fun b u f e => by
  rw [upd_ne fun z => ?_]
  · exact e
  · rw [z, h] at e
    cases e
    cases f
theorem Tk.tup (t : Tk H H1) {a : Addr} {xs : List V} (h : SqT K H a xs) : SqT K H1 a xs := by
  rcases h with (h | ⟨o, h⟩) | h
  · exact .inl (.inl (t _ _ rfl h))
  · exact .inl (.inr ⟨o, t _ _ rfl h⟩)
  · exact .inr h
end
/-! ### data of tuples alone -/
mutual
def tupD : PyData → Bool
  | .tuple xs => tupAll xs
  | .list _ => false
  | .dict _ => false
  | _ => true
def tupAll : List PyData → Bool
  | [] => true
  | x :: xs => tupD x && tupAll xs
end
mutual
theorem Dp.tk {K : PySem.W.Frag} {H H1 : Hp} (t : Tk H H1) : ∀ (d : PyData) (v : V), tupD d = true → Dp K H v d → Dp K H1 v d
  | .none, _, _, h => by cases h; exact .non
  | .bool b, _, _, h => by cases h; exact .bl b
  | .int i, _, _, h => by cases h; exact .int i
  | .str x, _, _, h => by cases h; exact .str x
  | .list _, _, c, _ => by cases c
  | .dict _, _, c, _ => by cases c
  | .tuple xs, _, c, h => by
    rw [tupD] at c
    cases h with
    | tup h1 h2 => exact .tup (t.tup h1) (Dp.tkAll t xs _ c h2)
theorem Dp.tkAll {K : PySem.W.Frag} {H H1 : Hp} (t : Tk H H1) : ∀ (ds : List PyData) (vs : List V), tupAll ds = true → DpAll K H vs ds → DpAll K H1 vs ds
  | [], _, _, h => by cases h; exact .nil
  | d :: ds, _, c, h => by
    rw [tupAll, Bool.and_eq_true] at c
    cases h with
    | cons h1 h2 => exact .cons (Dp.tk t d _ c.1 h1) (Dp.tkAll t ds _ c.2 h2)
end
mutual
theorem Dp.same {K : PySem.W.Frag} {H H1 : Hp} (t : Same H H1) : ∀ (d : PyData) (v : V), Dp K H v d → Dp K H1 v d
  | .none, _, h => by cases h; exact .non
  | .bool b, _, h => by cases h; exact .bl b
  | .int i, _, h => by cases h; exact .int i
  | .str x, _, h => by cases h; exact .str x
  | .list xs, _, h => by
    cases h with
    | lst h1 h2 => exact .lst (t.seq h1) (Dp.sameAll t xs _ h2)
  | .dict _, _, h => by cases h
  | .tuple xs, _, h => by
    cases h with
    | tup h1 h2 => exact .tup (Same.tup t h1) (Dp.sameAll t xs _ h2)
theorem Dp.sameAll {K : PySem.W.Frag} {H H1 : Hp} (t : Same H H1) : ∀ (ds : List PyData) (vs : List V), DpAll K H vs ds → DpAll K H1 vs ds
  | [], _, h => by cases h; exact .nil
  | d :: ds, _, h => by
    cases h with
    | cons h1 h2 => exact .cons (Dp.same t d _ h1) (Dp.sameAll t ds _ h2)
end
section
variable {K : PySem.W.Frag} {H : Hp}
theorem DpAll.length {vs : List V} {ds : List PyData} (h : DpAll K H vs ds) : vs.length = ds.length := by
  induction vs generalizing ds with
  | nil => cases h; rfl
  | cons v vs ih =>
    cases h with
    | cons h1 h2 => rw [List.length_cons, List.length_cons, ih h2]
theorem DpAll.get {vs : List V} {ds : List PyData} (h : DpAll K H vs ds) {i : Nat} {d : PyData} (hd : ds[i]? = some d) : ∃ v, vs[i]? = some v ∧ Dp K H v d := by
  induction vs generalizing ds i with
  | nil => cases h; cases hd
  | cons v vs ih =>
    cases h with
    | cons h1 h2 =>
      cases i with
      | zero =>
        cases hd
        exact ⟨v, rfl, h1⟩
      | succ i => exact ih h2 hd
theorem DpAll.app {vs us : List V} {ds es : List PyData} (h : DpAll K H vs ds) (k : DpAll K H us es) : DpAll K H (vs ++ us) (ds ++ es) := by
  induction vs generalizing ds with
  | nil => cases h; exact k
  | cons v vs ih =>
    cases h with
    | cons h1 h2 => exact .cons h1 (ih h2)
theorem DpAll.one {v : V} {d : PyData} (h : Dp K H v d) : DpAll K H [v] [d] := .cons h .nil
end
/-! ### flat values, their keys -/
def dV : V → PyData
  | .bl b => .bool b
  | .int i => .int i
  | .str z => .str z
  | _ => .none
def kRank : V → Int
  | .bl _ => 1
  | .int _ => 2
  | .str _ => 3
  | _ => 0
def kCont : V → PyData
  | .bl b => .int (if b then 1 else 0)
  | .int i => .int i
  | .str z => .str z
  | _ => .int 0
def keyD (v : V) : PyData := .tuple [.int (kRank v), kCont v]
def ltV : V → V → Bool
  | .bl a, .bl b => decide ((if a then 1 else 0 : Int) < (if b then 1 else 0))
  | .int i, .int j => decide (i < j)
  | .str x, .str y => decide (x.cps.toList < y.cps.toList)
  | x, y => decide (kRank x < kRank y)
theorem dp_flat {K : PySem.W.Frag} {H : Hp} {v : V} (h : FlatV v) : Dp K H v (dV v) := by
  cases v <;> first
    | exact .non
    | exact .bl _
    | exact .int _
    | exact .str _
    | cases h
theorem dp_flats {K : PySem.W.Frag} {H : Hp} : ∀ {vs : List V}, (∀ v ∈ vs, FlatV v) → DpAll K H vs (vs.map dV)
  | [], _ => .nil
  | v :: vs, h => .cons (dp_flat (h v (List.mem_cons_self ..))) (dp_flats fun u hu => h u (List.mem_cons_of_mem _ hu))
theorem dp_cont {K : PySem.W.Frag} {H : Hp} {v : V} (h : FlatV v) : ∃ c, Dp K H c (kCont v) := by
  cases v <;> first
    | exact ⟨_, .int _⟩
    | exact ⟨_, .str _⟩
    | cases h
theorem eqv_int (i j : Int) : PyData.eqv (.int i) (.int j) = decide (i = j) := by
  rw [PyData.eqv, Bool.beq_eq_decide_eq]
theorem eqv_str (x y : Str) : PyData.eqv (.str x) (.str y) = decide (x = y) := by
  rw [PyData.eqv, Bool.beq_eq_decide_eq]
theorem eqv_pair (a b c d : PyData) : PyData.eqv (.tuple [a, b]) (.tuple [c, d]) = (PyData.eqv a c && PyData.eqv b d) := by
  rw [PyData.eqv, PyData.eqvAll, PyData.eqvAll, PyData.eqvAll, Bool.and_true]
theorem eqv_key {x y : V} (hx : FlatV x) (hy : FlatV y) : PyData.eqv (keyD x) (keyD y) = decide (x = y) := by
  unfold keyD
  rw [eqv_pair, eqv_int]
  cases x <;> first
    | cases hx; done
    | (cases y <;> first
        | cases hy; done
        | (rename_i a b; cases a <;> cases b <;> first | rfl | decide)
        | (simp [kRank, kCont, eqv_int, eqv_str]))
theorem ltD_key {up : Bool} {x y : V} (hx : FlatV x) (hy : FlatV y) (ne : x ≠ y) : ltD up (keyD x) (keyD y) = some (if up then ltV y x else ltV x y) := by
  unfold keyD
  rw [ltD, ltAll, eqv_int]
  by_cases hr : kRank x = kRank y
  · rw [if_pos (decide_eq_true hr), ltAll]
    have hc : PyData.eqv (kCont x) (kCont y) = false := by
      have h := eqv_key hx hy
      unfold keyD at h
      rw [eqv_pair, eqv_int, decide_eq_true hr, Bool.true_and, decide_eq_false ne] at h
      exact h
    rw [if_neg (by rw [hc]; exact Bool.false_ne_true)]
    cases x <;> first
      | cases hx; done
      | (cases y <;> first
          | cases hy; done
          | (exfalso; revert hr; simp [kRank]; done)
          | (cases up <;> rfl)
          | (exact absurd rfl ne))
  · rw [if_neg (by rw [decide_eq_false hr]; exact Bool.false_ne_true), ltD]
    cases x <;> first
      | cases hx; done
      | (cases y <;> first
          | cases hy; done
          | (exact absurd rfl hr)
          | (cases up <;> rfl))
/-! ### rows by their keys -/
def rowLt : List V → List V → Bool
  | [], [] => false
  | [], _ :: _ => true
  | _ :: _, [] => false
  | x :: xs, y :: ys => if x = y then rowLt xs ys else ltV x y
theorem ltAll_keys {up : Bool} : ∀ {xs ys : List V}, (∀ x ∈ xs, FlatV x) → (∀ y ∈ ys, FlatV y) → ltAll up (xs.map keyD) (ys.map keyD) = some (if up then rowLt ys xs else rowLt xs ys)
  | [], [], _, _ => by cases up <;> rfl
  | [], _ :: _, _, _ => by cases up <;> rfl
  | _ :: _, [], _, _ => by cases up <;> rfl
  | x :: xs, y :: ys, hx, hy => by
    have fx := hx x (List.mem_cons_self ..)
    have fy := hy y (List.mem_cons_self ..)
    rw [List.map_cons, List.map_cons, ltAll, eqv_key fx fy]
    by_cases e : x = y
    · subst e
      rw [if_pos (decide_eq_true rfl), ltAll_keys (fun u hu => hx u (List.mem_cons_of_mem _ hu)) (fun u hu => hy u (List.mem_cons_of_mem _ hu))]
      cases up
      · show some (rowLt xs ys) = some (if x = x then rowLt xs ys else ltV x x)
        rw [if_pos rfl]
      · show some (rowLt ys xs) = some (if x = x then rowLt ys xs else ltV x x)
        rw [if_pos rfl]
    · rw [if_neg (by rw [decide_eq_false e]; exact Bool.false_ne_true), ltD_key fx fy e]
      cases up
      · show some (ltV x y) = some (if x = y then rowLt xs ys else ltV x y)
        rw [if_neg e]
      · show some (ltV y x) = some (if y = x then rowLt ys xs else ltV y x)
        rw [if_neg (fun z => e z.symm)]
theorem ltV_asymm {x y : V} (hx : FlatV x) (hy : FlatV y) (h : ltV x y = true) : ltV y x = false := by
  cases x <;> first
    | (cases hx; done)
    | (cases y <;> first
        | (cases hy; done)
        | (rename_i a b; revert h; cases a <;> cases b <;> simp [ltV]; done)
        | (rename_i a b; have h' : decide (a.cps.toList < b.cps.toList) = true := h; exact decide_eq_false (List.lt_asymm (of_decide_eq_true h')))
        | (simp [ltV, kRank] at h ⊢; done)
        | (simp [ltV, kRank] at h ⊢; omega))
theorem rowLt_asymm : ∀ {xs ys : List V}, (∀ x ∈ xs, FlatV x) → (∀ y ∈ ys, FlatV y) → rowLt xs ys = true → rowLt ys xs = false
  | [], [], _, _, h => by cases h
  | [], _ :: _, _, _, _ => rfl
  | _ :: _, [], _, _, h => by cases h
  | x :: xs, y :: ys, hx, hy, h => by
    rw [rowLt] at h ⊢
    by_cases e : x = y
    · subst e
      rw [if_pos rfl] at h ⊢
      exact rowLt_asymm (fun u hu => hx u (List.mem_cons_of_mem _ hu)) (fun u hu => hy u (List.mem_cons_of_mem _ hu)) h
    · rw [if_neg e] at h
      rw [if_neg fun z => e z.symm]
      exact ltV_asymm (hx x (List.mem_cons_self ..)) (hy y (List.mem_cons_self ..)) h
/-- -1, 0 or 1 -/
def rowOrd (xs ys : List V) : Int := if rowLt xs ys = true then -1 else if rowLt ys xs = true then 1 else 0
def b1 (b : Bool) : Int := if b then 1 else 0
theorem ord_diff {xs ys : List V} (hx : ∀ x ∈ xs, FlatV x) (hy : ∀ y ∈ ys, FlatV y) : b1 (rowLt ys xs) - b1 (rowLt xs ys) = rowOrd xs ys := by
  unfold rowOrd b1
  cases h : rowLt xs ys
  · cases h2 : rowLt ys xs <;> simp
  · rw [rowLt_asymm hx hy h]
    simp
/-! ### shapes -/
theorem canLay_key {v : V} (h : FlatV v) : (keyD v).canLay0 = true := by
  have hs : ∀ z, txtB 40 z = true → PyData.canLay0 (.str z) = true := fun z hz => by
    rw [PyData.canLay0]
    unfold PyData.strOk
    rw [← Array.all_toList, List.all_eq_true]
    intro c hc
    have := (txtB_iff.mp hz).2 c hc
    unfold signB at this
    simp only [Bool.and_eq_true, decide_eq_true_eq] at this
    exact decide_eq_true (by omega)
  unfold keyD
  rw [PyData.canLay0, PyData.canLayAll0, PyData.canLayAll0, PyData.canLayAll0, PyData.canLay0, Bool.true_and, Bool.and_true]
  cases v <;> first
    | rfl
    | exact hs _ h
    | cases h
theorem depth_key (v : V) (h : FlatV v) : (keyD v).depth = 1 := by
  unfold keyD
  rw [PyData.depth, PyData.depthAll, PyData.depthAll, PyData.depthAll, PyData.depth]
  cases v <;> first
    | rfl
    | cases h
theorem shaped_key {v : V} (h : FlatV v) : SeqAt.shaped (keyD v) = true := shaped_iff.mpr ⟨canLay_key h, by rw [depth_key v h]; decide⟩
theorem tupD_key {v : V} (h : FlatV v) : tupD (keyD v) = true := by
  cases v <;> first
    | (simp [keyD, kRank, kCont, tupD, tupAll]; done)
    | cases h
theorem tupAll_keys : ∀ {xs : List V}, (∀ x ∈ xs, FlatV x) → tupAll (xs.map keyD) = true
  | [], _ => rfl
  | x :: xs, h => by
    rw [List.map_cons, tupAll, tupD_key (h x (List.mem_cons_self ..)), tupAll_keys fun u hu => h u (List.mem_cons_of_mem _ hu)]
    rfl
theorem shaped_keys {xs : List V} (h : ∀ x ∈ xs, FlatV x) : SeqAt.shaped (.tuple (xs.map keyD)) = true := by
  have h1 : ∀ {ys : List V}, (∀ x ∈ ys, FlatV x) → PyData.canLayAll0 (ys.map keyD) = true ∧ PyData.depthAll (ys.map keyD) ≤ 1 := by
    intro ys
    induction ys with
    | nil => exact fun _ => ⟨rfl, by decide⟩
    | cons y ys ih =>
      intro hy
      obtain ⟨a, b⟩ := ih fun u hu => hy u (List.mem_cons_of_mem _ hu)
      have fy := hy y (List.mem_cons_self ..)
      rw [List.map_cons, PyData.canLayAll0, PyData.depthAll, canLay_key fy, a, depth_key y fy]
      exact ⟨rfl, by omega⟩
  obtain ⟨a, b⟩ := h1 h
  refine shaped_iff.mpr ⟨by rw [PyData.canLay0]; exact a, ?_⟩
  rw [PyData.depth]
  omega

/-! ### a number as a text -/
theorem digit_sign {c : Char} (h : c.isDigit = true) : 48 ≤ c.toNat ∧ c.toNat ≤ 57 := by
  unfold Char.isDigit at h
  rw [Bool.and_eq_true, decide_eq_true_eq, decide_eq_true_eq] at h
  have h1 := UInt32.le_iff_toNat_le.mp h.1
  have h2 := UInt32.le_iff_toNat_le.mp h.2
  exact ⟨h1, h2⟩
theorem int_signs (i : Int) : ∀ c ∈ (toString i).toList, c.toNat = 45 ∨ (48 ≤ c.toNat ∧ c.toNat ≤ 57) := by
  have nat : ∀ (n : Nat), ∀ c ∈ (Nat.repr n).toList, 48 ≤ c.toNat ∧ c.toNat ≤ 57 := fun n c hc => by
    rw [Nat.toList_repr] at hc
    exact digit_sign (Nat.isDigit_of_mem_toDigits (by decide) (by decide) hc)
  intro c hc
  rw [Int.toString_eq_repr, Int.repr_eq_if] at hc
  split at hc
  · exact .inr (nat _ c hc)
  · rw [String.toList_append, List.mem_append] at hc
    rcases hc with hc | hc
    · have e : c = '-' := by simpa using hc
      subst e
      exact .inl (by decide)
    · exact .inr (nat _ c hc)
theorem txt_int {i : Int} (h : numB i = true) : txtB 31 (Str.ofString (toString i)) = true := by
  have h' := numB_iff.mp h
  refine txtB_iff.mpr ⟨?_, fun c hc => ?_⟩
  · rw [PySem.ofString_length]
    exact PySem.int_text_length_le10 (by decide) (by omega)
  · have e : (Str.ofString (toString i)).cps.toList = (toString i).toList.map Char.toNat := by
      rw [Str.ofString_eq_toList]
    rw [e] at hc
    obtain ⟨d, hd, rfl⟩ := List.mem_map.mp hc
    unfold signB
    simp only [Bool.and_eq_true, decide_eq_true_eq]
    rcases int_signs i d hd with h | h <;> omega
end G

namespace Sd
open PySem PySem.Spec PyProof.Rows L2 G
def topS (i : Nat) : Stmt := PySem.Challenge.pw_storedesk_k01_compare_rows.main.body.getD i (.Pass ⟨0, 0, 0, 0⟩)
abbrev s_kind_ofP : Stmt := topS 1
theorem sc_kind_ofP : FnScope ["value"] ["value"] (defScope s_kind_ofP) := ⟨rfl, rfl, rfl, by decide +kernel, rfl, by decide +kernel, by decide +kernel⟩
abbrev s_sort_keyP : Stmt := topS 2
theorem sc_sort_keyP : FnScope ["value", "kind"] ["value"] (defScope s_sort_keyP) := ⟨rfl, rfl, rfl, by decide +kernel, rfl, by decide +kernel, by decide +kernel⟩
abbrev s_own_compared_keysP : Stmt := topS 3
theorem sc_own_compared_keysP : FnScope ["left", "right"] ["left", "right"] (defScope s_own_compared_keysP) := ⟨rfl, rfl, rfl, by decide +kernel, rfl, by decide +kernel, by decide +kernel⟩
abbrev s_row_keyP : Stmt := topS 4
theorem sc_row_keyP : FnScope ["row", "value"] ["row"] (defScope s_row_keyP) := ⟨rfl, rfl, rfl, by decide +kernel, rfl, by decide +kernel, by decide +kernel⟩
abbrev s_compare_rowsP : Stmt := topS 5
theorem sc_compare_rowsP : FnScope ["left", "right"] ["left", "right"] (defScope s_compare_rowsP) := ⟨rfl, rfl, rfl, by decide +kernel, rfl, by decide +kernel, by decide +kernel⟩
abbrev s_mix : Stmt := topS 7
theorem sc_mix : FnScope ["_law_number_here", "_law_turn", "_law_low", "_law_high", "_law_once", "_law_twice"] ["_law_number_here", "_law_turn"] (defScope s_mix) := ⟨rfl, rfl, rfl, by decide +kernel, rfl, by decide +kernel, by decide +kernel⟩
abbrev s_store : Stmt := topS 8
theorem sc_store : FnScope ["_law_script", "_law_cells", "_law_cell", "_law_seed"] ["_law_script"] (defScope s_store) := ⟨rfl, rfl, rfl, by decide +kernel, rfl, by decide +kernel, by decide +kernel⟩
abbrev s_take : Stmt := topS 9
theorem sc_take : FnScope ["_law_store_here", "_law_many", "_law_cell", "_law_rest"] ["_law_store_here", "_law_many"] (defScope s_take) := ⟨rfl, rfl, rfl, by decide +kernel, rfl, by decide +kernel, by decide +kernel⟩
abbrev s_count : Stmt := topS 10
theorem sc_count : FnScope ["_law_store_here", "_law_least", "_law_usual", "_law_most", "_law_edge"] ["_law_store_here", "_law_least", "_law_usual", "_law_most"] (defScope s_count) := ⟨rfl, rfl, rfl, by decide +kernel, rfl, by decide +kernel, by decide +kernel⟩
abbrev s_one : Stmt := topS 11
theorem sc_one : FnScope ["_law_store_here", "_law_row_here"] ["_law_store_here", "_law_row_here"] (defScope s_one) := ⟨rfl, rfl, rfl, by decide +kernel, rfl, by decide +kernel, by decide +kernel⟩
abbrev s_number : Stmt := topS 12
theorem sc_number : FnScope ["_law_store_here", "_law_kind", "_law_large", "_law_k"] ["_law_store_here"] (defScope s_number) := ⟨rfl, rfl, rfl, by decide +kernel, rfl, by decide +kernel, by decide +kernel⟩
abbrev s_text : Stmt := topS 13
theorem sc_text : FnScope ["_law_store_here", "_law_most", "_law_signs", "_law_kind", "_law_word", "_law_long", "_law_k"] ["_law_store_here", "_law_most"] (defScope s_text) := ⟨rfl, rfl, rfl, by decide +kernel, rfl, by decide +kernel, by decide +kernel⟩
abbrev s_value : Stmt := topS 14
theorem sc_value : FnScope ["_law_store_here", "_law_kind"] ["_law_store_here"] (defScope s_value) := ⟨rfl, rfl, rfl, by decide +kernel, rfl, by decide +kernel, by decide +kernel⟩
abbrev s_row : Stmt := topS 15
theorem sc_row : FnScope ["_law_store_here", "_law_k"] ["_law_store_here"] (defScope s_row) := ⟨rfl, rfl, rfl, by decide +kernel, rfl, by decide +kernel, by decide +kernel⟩
abbrev s_near : Stmt := topS 16
theorem sc_near : FnScope ["_law_store_here", "_law_row_here", "_law_kind", "_law_at", "_law_value_here"] ["_law_store_here", "_law_row_here"] (defScope s_near) := ⟨rfl, rfl, rfl, by decide +kernel, rfl, by decide +kernel, by decide +kernel⟩
abbrev s_rows : Stmt := topS 17
theorem sc_rows : FnScope ["_law_store_here", "_law_usual", "_law_most", "_law_rows_here", "_law_k", "_law_kind"] ["_law_store_here", "_law_usual", "_law_most"] (defScope s_rows) := ⟨rfl, rfl, rfl, by decide +kernel, rfl, by decide +kernel, by decide +kernel⟩
abbrev s_same : Stmt := topS 18
theorem sc_same : FnScope ["_law_left", "_law_right", "_law_k", "_law_name"] ["_law_left", "_law_right"] (defScope s_same) := ⟨rfl, rfl, rfl, by decide +kernel, rfl, by decide +kernel, by decide +kernel⟩
abbrev s_sort_key : Stmt := topS 19
theorem sc_sort_key : FnScope ["_law_value_here"] ["_law_value_here"] (defScope s_sort_key) := ⟨rfl, rfl, rfl, by decide +kernel, rfl, by decide +kernel, by decide +kernel⟩
abbrev s_mark : Stmt := topS 20
theorem sc_mark : FnScope ["_law_row_here", "_law_value_here"] ["_law_row_here"] (defScope s_mark) := ⟨rfl, rfl, rfl, by decide +kernel, rfl, by decide +kernel, by decide +kernel⟩
abbrev s_row_order : Stmt := topS 21
theorem sc_row_order : FnScope ["_law_one_here", "_law_two", "_law_k", "_law_low", "_law_high"] ["_law_one_here", "_law_two"] (defScope s_row_order) := ⟨rfl, rfl, rfl, by decide +kernel, rfl, by decide +kernel, by decide +kernel⟩
abbrev s_law : Stmt := topS 22
theorem sc_law : FnScope ["_law_script", "_law_store_here", "_law_rows_here", "_law_row_here", "_law_keys", "_law_key", "_law_value_here", "_law_due", "_law_k", "_law_n"] ["_law_script"] (defScope s_law) := ⟨rfl, rfl, rfl, by decide +kernel, rfl, by decide +kernel, by decide +kernel⟩
section
variable {P : Program} {w : World} {K : PySem.W.Frag} {mg : Str → Option Value} {base : Heap}
/-! _law_mix -/
def sp_mix : Sp := fun vs H Q _ => ∃ n t : Int, vs = [.int n, .int t] ∧ ∀ r : Int, 0 ≤ r → r ≤ 69273665 → Q (.int r) H
theorem ok_mix {f : Addr} {fd : FuncData} (F : FnP K "_law_mix" s_mix f fd) (B : Bf mg) : FnOk P w K mg base CX0 1 f fd ["_law_number_here", "_law_turn"] sp_mix := by
  refine F.ok sc_mix (fun vs H Q E h => ?_) (fun cdv A outer s H vs Q E hr h => ⟨_, PSs.nox ((pss_cons (ps_set (i := 2) sc_mix.nd rfl (by first | exact Or.inl rfl | exact Or.inr rfl) (pe_op o_mod (pe_callTy c_int (by rfl) B.int PyProof.Rows.boot_int (pa_cons (fv 0) pa_nil)) pe_int)) (pss_cons (ps_set (i := 3) sc_mix.nd rfl (by first | exact Or.inl rfl | exact Or.inr rfl) (pe_op o_mod (pe_callTy c_int (by rfl) B.int PyProof.Rows.boot_int (pa_cons (pe_op o_div (pe_callTy c_int (by rfl) B.int PyProof.Rows.boot_int (pa_cons (fv 0) pa_nil)) pe_int) pa_nil)) pe_int)) (pss_cons (ps_set (i := 4) sc_mix.nd rfl (by first | exact Or.inl rfl | exact Or.inr rfl) (pe_op o_mod (pe_callTy c_int (by rfl) B.int PyProof.Rows.boot_int (pa_cons (pe_op (o_add K) (pe_op (o_add K) (pe_op (o_add K) (pe_op o_mul (fv 2) pe_int) (pe_op o_mul (fv 3) pe_int)) (pe_op o_mul (fv 1) pe_int)) pe_int) pa_nil)) pe_int)) (pss_cons (ps_set (i := 5) sc_mix.nd rfl (by first | exact Or.inl rfl | exact Or.inr rfl) (pe_op o_mod (pe_callTy c_int (by rfl) B.int PyProof.Rows.boot_int (pa_cons (pe_op (o_add K) (pe_op (o_add K) (pe_op o_mul (pe_op o_div (fv 4) pe_int) (fv 4)) (pe_op o_mul (fv 1) pe_int)) (fv 2)) pa_nil)) pe_int)) (pss_one (ps_ret (pe_op o_div (fv 5) pe_int)))))))), ?_⟩)
  · obtain ⟨n, t, rfl, _⟩ := h
    rfl
  · obtain ⟨n, t, rfl, q⟩ := h
    have w1 : ∀ i : Int, CDivW i 2147483647 := fun i => ⟨by decide, by decide +kernel⟩
    have w2 : ∀ i : Int, CDivW i 127 := fun i => ⟨by decide, by decide +kernel⟩
    have w3 : ∀ i : Int, CDivW i 31 := fun i => ⟨by decide, by decide +kernel⟩
    refine ⟨by decide, w1 _, by decide, .inr ⟨by decide, by decide⟩, .inr ⟨by decide, by decide⟩, .inr ⟨by decide, by decide⟩, by decide, w2 _, .inl ?_, .inr ⟨by decide, by decide⟩, by decide, w3 _, ?_⟩
    · omega
    · exact q _ (by omega) (by omega)

/-! _law_take -/
def sp_take : Sp := fun vs H Q _ => ∃ (st cl : Addr) (m : Int), vs = [.ref st, .int m] ∧ Sto H st cl ∧ m ≤ 1000000 ∧ ∀ (r : Int) H', 0 ≤ r → (r < m ∨ r = 0 ∧ m < 2) → Go st cl H H' → Q (.int r) H'
theorem ok_take {f : Addr} {fd : FuncData} (F : FnP K "_law_take" s_take f fd) (B : Bf mg) (F_mix : Fn P w K mg base "_law_mix" ["_law_number_here", "_law_turn"] 1 sp_mix) : FnOk P w K mg base CX0 2 f fd ["_law_store_here", "_law_many"] sp_take := by
  refine F.ok sc_take (fun vs H Q E h => ?_) (fun cdv A outer s H vs Q E hr h => ⟨_, PSs.nox ((pss_cons (ps_if (q_cmp o_lt (fv 1) pe_int) (pss_one (ps_ret pe_int)) pss_nil) (pss_cons (ps_if (PW.pt (pw_and (q_cmp op_eq (pe_ix (x_ix K) (fv 0) pe_int (fun _ _ => rfl)) pe_int) (pw_and1 (q_cmp o_lt (pe_ix (x_ix K) (fv 0) pe_int (fun _ _ => rfl)) (pe_callB (c_len K) (by rfl) B.len PySem.boot_len (pa_cons (pe_ix (x_ix K) (fv 0) pe_int (fun _ _ => rfl)) pa_nil)))))) (pss_cons (ps_set (i := 2) sc_take.nd rfl (by first | exact Or.inl rfl | exact Or.inr rfl) (pe_ix (x_ix K) (pe_ix (x_ix K) (fv 0) pe_int (fun _ _ => rfl)) (pe_ix (x_ix K) (fv 0) pe_int (fun _ _ => rfl)) (fun _ _ => rfl))) (pss_cons (ps_asg (pe_op (o_add K) (pe_ix (x_ix K) (fv 0) pe_int (fun _ _ => rfl)) pe_int) (pg_sub (fv 0) pe_int set_list)) (pss_cons (ps_if (q_cmp o_lt (fv 2) (pe_op o_pow pe_int pe_int)) (pss_cons (ps_asg (pe_op (o_add K) (pe_ix (x_ix K) (fv 0) pe_int (fun _ _ => rfl)) pe_int) (pg_sub (fv 0) pe_int set_list)) (pss_one (ps_ret (pe_op o_mod (pe_callTy c_int (by rfl) B.int PyProof.Rows.boot_int (pa_cons (pcall F_mix hr (pa_cons (fv 2) (pa_cons (pe_ix (x_ix K) (fv 0) pe_int (fun _ _ => rfl)) pa_nil))) pa_nil)) (fv 1))))) pss_nil) (pss_one (ps_asg (fv 2) (pg_sub (fv 0) pe_int set_list)))))) pss_nil) (pss_cons (ps_if (q_cmp o_gt (pe_ix (x_ix K) (fv 0) pe_int (fun _ _ => rfl)) pe_int) (pss_cons (ps_set (i := 3) sc_take.nd rfl (by first | exact Or.inl rfl | exact Or.inr rfl) (pe_ix (x_ix K) (fv 0) pe_int (fun _ _ => rfl))) (pss_cons (ps_asg (pe_op o_div (fv 3) (fv 1)) (pg_sub (fv 0) pe_int set_list)) (pss_one (ps_ret (pe_op o_mod (pe_callTy c_int (by rfl) B.int PyProof.Rows.boot_int (pa_cons (fv 3) pa_nil)) (fv 1)))))) pss_nil) (pss_cons (ps_asg (pe_op (o_add K) (pe_ix (x_ix K) (fv 0) pe_int (fun _ _ => rfl)) pe_int) (pg_sub (fv 0) pe_int set_list)) (pss_one (ps_ret (pe_op o_mod (pe_callTy c_int (by rfl) B.int PyProof.Rows.boot_int (pa_cons (pcall F_mix hr (pa_cons (pe_ix (x_ix K) (fv 0) pe_int (fun _ _ => rfl)) (pa_cons (pe_ix (x_ix K) (fv 0) pe_int (fun _ _ => rfl)) pa_nil))) pa_nil)) (fv 1))))))))), ?_⟩)
  · obtain ⟨st, cl, m, rfl, _⟩ := h
    rfl
  · obtain ⟨st, cl, m, rfl, hS, hm, q⟩ := h
    have hm0 : ¬ m < 2 → 0 < m := fun e => by omega
    have wm : ¬ m < 2 → ∀ i : Int, CDivW i m := fun e i => wide_div (b := 20) (by omega) (by omega) (by decide) (by decide)
    have fin : ¬ m < 2 → ∀ x : Int, 0 ≤ x % m ∧ (x % m < m ∨ x % m = 0 ∧ m < 2) := fun e x => ⟨Int.emod_nonneg x (by omega), .inl (Int.emod_lt_of_pos x (by omega))⟩
    -- if many < 2
    refine iteD (fun e => q _ _ (by decide) (.inr ⟨rfl, e⟩) (.refl hS)) (fun e => ?_)
    refine nxt (seqP (fun σ1 H1 => ∃ c, σ1 = [some (.ref st), some (.int m), c, none] ∧ Go st cl H H1) ?_ ?_)
    · rintro σ1 H1 ⟨c, rfl, g⟩
      obtain ⟨n, cs, p, r, t, sd, h1, h2, h3, h4⟩ := g.2
      refine ⟨_, _, .inl (SqL.of h1), rfl, iteD (fun e2 => ?_) (fun e2 => ?_)⟩
      · refine ⟨_, _, .inl (SqL.of h1), rfl, wm e _, st, _, 2, 2, rfl, rfl, h1, rfl, hm0 e, ?_⟩
        exact q _ _ (fin e r).1 (fin e r).2 (g.put h2 h3 (Int.ediv_nonneg h4 (by omega)))
      · refine nxt ⟨_, _, .inl (SqL.of h1), rfl, st, _, 3, 3, rfl, rfl, h1, rfl, _, _, .inl (SqL.of upd_same), rfl, _, _, .inl (SqL.of upd_same), rfl, _, _, rfl, fun x _ _ => ⟨hm0 e, ?_⟩⟩
        exact q _ _ (fin e x).1 (fin e x).2 (g.put h2 h3 h4)
    · intro rest
      obtain ⟨n, cs, p, r, t, sd, h1, h2, h3, h4⟩ := id hS
      refine ⟨_, _, .inl (SqL.of h1), rfl, rfl, iteD (fun e3 => ?_) (fun e3 => iteF (nxt (rest _ _ ⟨_, rfl, .refl hS⟩)))⟩
      refine ⟨_, _, .inl (SqL.of h1), rfl, _, _, .inl (SqL.of h1), rfl, _, .inl (SqL.of h2), iteD (fun e4 => ?_) (fun e4 => nxt (rest _ _ ⟨_, rfl, .refl hS⟩))⟩
      rw [List.length_map] at e4
      obtain ⟨c, hc, _⟩ := at_map (f := V.int) h3 e4
      refine ⟨_, _, .inl (SqL.of h1), rfl, _, _, .inl (SqL.of h1), rfl, _, _, .inl (SqL.of h2), hc, ?_⟩
      refine ⟨_, _, .inl (SqL.of h1), rfl, st, _, 1, 1, rfl, rfl, h1, rfl, ?_⟩
      have g1 : Go st cl H (upd H st (.lst [.ref cl, .int (p + 1), .int r, .int t, .int sd])) := (Go.refl hS).put h2 (by omega) h4
      have h2' : upd H st (.lst [.ref cl, .int (p + 1), .int r, .int t, .int sd]) cl = some (.lst (cs.map V.int)) := by
        rw [upd_ne n.symm]
        exact h2
      refine ⟨⟨by decide, by decide, by decide⟩, iteD (fun e5 => ?_) (fun e5 => ?_)⟩
      · refine ⟨_, _, .inl (SqL.of upd_same), rfl, st, _, 3, 3, rfl, rfl, upd_same, rfl, _, _, .inl (SqL.of upd_same), rfl, _, _, rfl, fun x _ _ => ⟨hm0 e, ?_⟩⟩
        exact q _ _ (fin e x).1 (fin e x).2 (g1.put h2' (by omega) h4)
      · refine nxt ⟨st, _, 2, 2, rfl, rfl, upd_same, rfl, rest _ _ ⟨_, rfl, g1.put h2' (by omega) ?_⟩⟩
        have e6 : ¬ c < 10 ^ 18 := e5
        omega

/-! _law_store -/
def sp_store (K : PySem.W.Frag) : Sp := fun vs H Q _ => ∃ (a : Addr) (ns : List Int), vs = [.ref a] ∧ SqL K H a (ns.map V.int) ∧ ns.length ≤ 1000 ∧ ∀ st cl H', H st = none → Same H H' → Sto H' st cl → Q (.ref st) H'
theorem ok_store {f : Addr} {fd : FuncData} (F : FnP K "_law_store" s_store f fd) (B : Bf mg) (F_mix : Fn P w K mg base "_law_mix" ["_law_number_here", "_law_turn"] 1 sp_mix) : FnOk P w K mg base CX0 2 f fd ["_law_script"] (sp_store K) := by
  refine F.ok sc_store (fun vs H Q E h => ?_) (fun cdv A outer s H vs Q E hr h => ⟨_, PSs.nox ((pss_cons (ps_setLc (i := 1) (own := [("_law_cell", 2)]) (g := gName 2) rfl sc_store.nd rfl rfl (sw_true rfl rfl rfl (by decide +kernel)) (p_seq K (fv 0)) (blkOk_by (own := [("_law_cell", 2)]) (N := ["_law_script", "_law_cells", "_law_cell", "_law_seed"]) (sc := defScope s_store) (by decide +kernel)) (fun _ _ _ _ _ => pg_name (i := 2) sc_store.nd rfl (Or.inl rfl)) (fun _ _ _ _ _ => pts_nil) (fun _ _ _ _ _ => (pe_callTy c_int (by rfl) B.int PyProof.Rows.boot_int (pa_cons (fv 2) pa_nil)))) (pss_cons (ps_set (i := 3) sc_store.nd rfl (by first | exact Or.inl rfl | exact Or.inr rfl) (pe_callB (c_len K) (by rfl) B.len PySem.boot_len (pa_cons (fv 1) pa_nil))) (pss_cons (ps_for PassesOwn.never rfl (p_seq K (fv 1)) (pg_name (i := 2) sc_store.nd rfl (by first | exact Or.inl rfl | exact Or.inr rfl)) (pss_one (ps_set (i := 3) sc_store.nd rfl (by first | exact Or.inl rfl | exact Or.inr rfl) (pcall F_mix hr (pa_cons (fv 2) (pa_cons (fv 3) pa_nil)))))) (pss_one (ps_ret (pe_lst (pa_cons (fv 1) (pa_cons pe_int (pa_cons pe_int (pa_cons pe_int (pa_cons (fv 3) pa_nil)))))))))))), ?_⟩)
  · obtain ⟨a, ns, rfl, _⟩ := h
    rfl
  · obtain ⟨a, ns, rfl, hS, hn, q⟩ := h
    refine .inl ⟨⟨_, hS⟩, fun D hD => lc_list (xs := ns.map V.int) (fun i H' => H' = upd H D (.lst ((ns.take i).map V.int))) rfl (fun i H' _ e => ?_) (fun i x H' hx e => ?_) (fun H' e => ?_)⟩
    · subst e
      exact (same_upd hD).seq hS
    · subst e
      rw [List.getElem?_map] at hx
      obtain ⟨k, hk, rfl⟩ := Option.map_eq_some_iff.mp hx
      refine ⟨rfl, _, upd_same, ?_, ?_⟩
      · rw [List.length_map, List.length_take]
        exact small1000 (by omega)
      · rw [upd_upd, List.take_add_one, hk, List.map_append]
        rfl
    · rw [List.length_map, List.take_length] at e
      subst e
      refine ⟨_, .inl (SqL.of upd_same), .inl ⟨⟨_, SqL.of upd_same⟩, for_list (xs := ns.map V.int) (fun i σ H' => H' = upd H D (.lst (ns.map V.int)) ∧ ∃ y sd, σ = [some (.ref a), some (.ref D), y, some (.int sd)]) ⟨rfl, _, _, rfl⟩ (fun i σ H' _ e => ?_) (fun i x σ H' hx e => ?_) (fun σ H' e => ?_)⟩⟩
      · obtain ⟨rfl, _⟩ := e
        exact SqL.of upd_same
      · obtain ⟨rfl, y, sd, rfl⟩ := e
        rw [List.getElem?_map] at hx
        obtain ⟨k, hk, rfl⟩ := Option.map_eq_some_iff.mp hx
        exact ⟨_, _, rfl, fun r _ _ => ⟨rfl, _, _, rfl⟩⟩
      · obtain ⟨rfl, y, sd, rfl⟩ := e
        refine ⟨by show 5 ≤ sizeLine; decide, fun st hst => q st D _ ?_ ?_ ?_⟩
        · exact (same_upd hD).free hst
        · exact (same_upd hD).trans (same_upd hst)
        · have n : st ≠ D := fun e => by
            rw [e, upd_same] at hst
            cases hst
          refine ⟨n, ns, 0, 0, 0, sd, upd_same, ?_, by decide, by decide⟩
          rw [upd_ne n.symm, upd_same]
/-! _law_count, _law_one -/
def sp_count : Sp := fun vs H Q _ => ∃ (st cl : Addr) (a b c : Int), vs = [.ref st, .int a, .int b, .int c] ∧ Sto H st cl ∧ a ≤ b ∧ b ≤ c ∧ c - a < 1000000 ∧ ∀ (r : Int) H', a ≤ r → r ≤ c → Go st cl H H' → Q (.int r) H'
theorem ok_count {f : Addr} {fd : FuncData} (F : FnP K "_law_count" s_count f fd) (B : Bf mg) (F_take : Fn P w K mg base "_law_take" ["_law_store_here", "_law_many"] 2 sp_take) : FnOk P w K mg base CX0 3 f fd ["_law_store_here", "_law_least", "_law_usual", "_law_most"] sp_count := by
  refine F.ok sc_count (fun vs H Q E h => ?_) (fun cdv A outer s H vs Q E hr h => ⟨_, PSs.nox ((pss_cons (ps_set (i := 4) sc_count.nd rfl (by first | exact Or.inl rfl | exact Or.inr rfl) (pcall F_take hr (pa_cons (fv 0) (pa_cons pe_int pa_nil)))) (pss_cons (ps_if (q_cmp op_eq (fv 4) pe_int) (pss_one (ps_ret (fv 3))) pss_nil) (pss_cons (ps_if (q_cmp op_eq (fv 4) pe_int) (pss_one (ps_ret (pe_op (o_add K) (fv 1) (pcall F_take hr (pa_cons (fv 0) (pa_cons (pe_op (o_add K) (pe_op o_sub (fv 3) (fv 1)) pe_int) pa_nil)))))) pss_nil) (pss_cons (ps_if (q_cmp o_gt (fv 4) pe_int) (pss_one (ps_ret (fv 1))) pss_nil) (pss_one (ps_ret (pe_op (o_add K) (fv 1) (pcall F_take hr (pa_cons (fv 0) (pa_cons (pe_op (o_add K) (pe_op o_sub (fv 2) (fv 1)) pe_int) pa_nil))))))))))), ?_⟩)
  · obtain ⟨st, cl, a, b, c, rfl, _⟩ := h
    rfl
  · obtain ⟨st, cl, a, b, c, rfl, hS, h1, h2, h3, q⟩ := h
    refine ⟨st, cl, _, rfl, hS, by decide, fun r H1 r0 r1 g => ?_⟩
    refine ⟨rfl, iteD (fun e => q _ _ (by omega) (by omega) g) (fun e => nxt ⟨rfl, iteD (fun e => ?_) (fun e => nxt (iteD (fun e => q _ _ (by omega) (by omega) g) (fun e => nxt ?_)))⟩)⟩
    · exact ⟨st, cl, _, rfl, g.2, by omega, fun r H2 r0 r1 g2 => q _ _ (by omega) (by omega) (g.trans g2)⟩
    · exact ⟨st, cl, _, rfl, g.2, by omega, fun r H2 r0 r1 g2 => q _ _ (by omega) (by omega) (g.trans g2)⟩
/-- of a list or a tuple that is not empty -/
def sp_one (K : PySem.W.Frag) : Sp := fun vs H Q _ => ∃ (st cl a : Addr) (xs : List V), vs = [.ref st, .ref a] ∧ Sto H st cl ∧ a ≠ st ∧ (SqL K H a xs ∨ SqT K H a xs) ∧ xs ≠ [] ∧ xs.length ≤ 1000000 ∧ ∀ v ∈ xs, ∀ H', Go st cl H H' → Q v H'
theorem ok_one {f : Addr} {fd : FuncData} (F : FnP K "_law_one" s_one f fd) (B : Bf mg) (F_take : Fn P w K mg base "_law_take" ["_law_store_here", "_law_many"] 2 sp_take) : FnOk P w K mg base CX0 3 f fd ["_law_store_here", "_law_row_here"] (sp_one K) := by
  refine F.ok sc_one (fun vs H Q E h => ?_) (fun cdv A outer s H vs Q E hr h => ⟨_, PSs.nox ((pss_cons (ps_if (q_cmp op_eq (pe_callB (c_len K) (by rfl) B.len PySem.boot_len (pa_cons (fv 1) pa_nil)) pe_int) (pss_one (ps_ret pe_non)) pss_nil) (pss_one (ps_ret (pe_ix (x_ix K) (fv 1) (pcall F_take hr (pa_cons (fv 0) (pa_cons (pe_callB (c_len K) (by rfl) B.len PySem.boot_len (pa_cons (fv 1) pa_nil)) pa_nil))) (fun _ _ => rfl)))))), ?_⟩)
  · obtain ⟨st, cl, a, xs, rfl, _⟩ := h
    rfl
  · obtain ⟨st, cl, a, xs, rfl, hS, hn, hx, h0, hl, q⟩ := h
    have hp : 0 < xs.length := List.length_pos_iff.mpr h0
    refine ⟨_, hx, rfl, iteD (fun e => absurd (V.int.inj e) (by omega)) (fun e => nxt ?_)⟩
    refine ⟨_, hx, st, cl, _, rfl, hS, by omega, fun r H1 r0 r1 g => ?_⟩
    obtain ⟨v, hv, hm⟩ := at_of (xs := xs) r0 (by omega)
    exact ⟨_, v, hx.imp (g.seq hS hn) (g.tup hS), hv, q v hm H1 g⟩

/-! _law_number -/
def sp_number : Sp := fun vs H Q _ => ∃ (st cl : Addr), vs = [.ref st] ∧ Sto H st cl ∧ ∀ (r : Int) H', numB r = true → Go st cl H H' → Q (.int r) H'
theorem ok_number {f : Addr} {fd : FuncData} (F : FnP K "_law_number" s_number f fd) (B : Bf mg) (F_take : Fn P w K mg base "_law_take" ["_law_store_here", "_law_many"] 2 sp_take) : FnOk P w K mg base CX0 3 f fd ["_law_store_here"] sp_number := by
  refine F.ok sc_number (fun vs H Q E h => ?_) (fun cdv A outer s H vs Q E hr h => ⟨_, PSs.nox ((pss_cons (ps_set (i := 1) sc_number.nd rfl (by first | exact Or.inl rfl | exact Or.inr rfl) (pcall F_take hr (pa_cons (fv 0) (pa_cons pe_int pa_nil)))) (pss_cons (ps_if (q_cmp o_lt (fv 1) pe_int) (pss_one (ps_ret (pe_op o_sub (pcall F_take hr (pa_cons (fv 0) (pa_cons pe_int pa_nil))) pe_int))) pss_nil) (pss_cons (ps_if (q_cmp op_eq (fv 1) pe_int) (pss_one (ps_ret (pe_op o_sub (pcall F_take hr (pa_cons (fv 0) (pa_cons pe_int pa_nil))) pe_int))) pss_nil) (pss_cons (ps_if (q_cmp op_eq (fv 1) pe_int) (pss_one (ps_ret (pe_ix (x_ix K) (pe_lst (pa_cons pe_int (pa_cons pe_int (pa_cons (pe_un o_neg pe_int) (pa_cons pe_int (pa_cons pe_int (pa_cons (pe_op o_sub pe_int (pe_op o_pow pe_int pe_int)) (pa_cons (pe_op o_sub (pe_op o_pow pe_int pe_int) pe_int) (pa_cons (pe_op o_pow pe_int pe_int) (pa_cons (pe_un o_neg pe_int) (pa_cons pe_int pa_nil))))))))))) (pcall F_take hr (pa_cons (fv 0) (pa_cons pe_int pa_nil))) (fun _ _ => rfl)))) pss_nil) (pss_cons (ps_set (i := 2) sc_number.nd rfl (by first | exact Or.inl rfl | exact Or.inr rfl) pe_int) (pss_cons (ps_for PassesOwn.never rfl (pi_range1 (by rfl) B.range (pa_cons (pe_op (o_add K) pe_int (pcall F_take hr (pa_cons (fv 0) (pa_cons pe_int pa_nil)))) pa_nil)) (pg_name (i := 3) sc_number.nd rfl (by first | exact Or.inl rfl | exact Or.inr rfl)) (pss_one (ps_set (i := 2) sc_number.nd rfl (by first | exact Or.inl rfl | exact Or.inr rfl) (pe_op (o_add K) (pe_op o_mul (fv 2) pe_int) (pcall F_take hr (pa_cons (fv 0) (pa_cons pe_int pa_nil))))))) (pss_cons (ps_if (q_cmp op_eq (fv 1) pe_int) (pss_one (ps_ret (fv 2))) pss_nil) (pss_one (ps_ret (pe_un o_neg (fv 2)))))))))))), ?_⟩)
  · obtain ⟨st, cl, rfl, _⟩ := h
    rfl
  · obtain ⟨st, cl, rfl, hS, q⟩ := h
    refine ⟨st, cl, _, rfl, hS, by decide, fun k H1 k0 k1 g => ?_⟩
    refine iteD (fun e => ⟨st, cl, _, rfl, g.2, by decide, fun r H2 r0 r1 g2 => q _ _ (numB_iff.mpr (by omega)) (g.trans g2)⟩) (fun e => nxt ⟨rfl, iteD (fun e => ⟨st, cl, _, rfl, g.2, by decide, fun r H2 r0 r1 g2 => q _ _ (numB_iff.mpr (by omega)) (g.trans g2)⟩) (fun e => nxt ⟨rfl, iteD (fun e => ?_) (fun e => nxt ?_)⟩)⟩)
    · refine ⟨⟨by decide, by decide, by decide⟩, ⟨by decide, by decide, by decide⟩, ⟨by decide, by decide, by decide⟩, by show 10 ≤ sizeLine; decide, fun p hp => ?_⟩
      have hp0 : H p = none := g.free hS hp
      refine ⟨st, cl, _, rfl, (g.lay hS hp0).2, by decide, fun r H2 r0 r1 g2 => ?_⟩
      have hx := g2.lst (hS.ne_none hp0) upd_same
      obtain ⟨v, hv, hm⟩ := at_of (xs := [V.int 0, .int 9, .int (-10), .int 10, .int 255, .int (1 - 10 ^ 30), .int (10 ^ 30 - 1), .int (10 ^ 18), .int (-1), .int 99]) (i := r) r0 (by show r < 10; omega)
      refine ⟨_, v, .inl (SqL.of hx), hv, ?_⟩
      have hf := all_mem (p := fun v => match v with | .int i => numB i | _ => false) (by decide +kernel) hm
      cases v with
      | int i => exact q _ _ hf ((g.lay hS hp0).trans g2)
      | _ => cases hf
    · refine ⟨st, cl, _, rfl, g.2, by decide, fun r H2 r0 r1 g2 => ⟨_, rfl, by omega, by omega, for_range (n := (1 + r).toNat) (fun i σ H' => ∃ y L, σ = [some (.ref st), some (.int k), some (.int L), y] ∧ Go st cl H H' ∧ 0 ≤ L ∧ L < 1000000 ^ i) ⟨_, _, rfl, g.trans g2, by decide, by decide⟩ (fun i σ H' hi h => ?_) (fun σ H' h => ?_)⟩⟩
      · obtain ⟨y, L, rfl, g3, l0, l1⟩ := h
        refine ⟨.inr ⟨by decide, by decide⟩, st, cl, _, rfl, g3.2, by decide, fun r2 H3 r20 r21 g4 => ⟨_, _, rfl, g3.trans g4, by omega, ?_⟩⟩
        rw [Int.pow_succ]
        omega
      · obtain ⟨y, L, rfl, g3, l0, l1⟩ := h
        have hL : L < 1000000000000000000000000000000 := by
          have hn : (1 + r).toNat = 1 ∨ (1 + r).toNat = 2 ∨ (1 + r).toNat = 3 ∨ (1 + r).toNat = 4 ∨ (1 + r).toNat = 5 := by omega
          rcases hn with e | e | e | e | e <;> (rw [e] at l1; omega)
        refine ⟨rfl, iteD (fun e => q _ _ (numB_iff.mpr (by omega)) g3) (fun e => nxt (q _ _ (numB_iff.mpr (by omega)) g3))⟩
/-! _law_text -/
def sp_text : Sp := fun vs H Q _ => ∃ (st cl : Addr) (m : Int), vs = [.ref st, .int m] ∧ Sto H st cl ∧ 0 ≤ m ∧ m ≤ 40 ∧ ∀ (z : Str) H', txtB m.toNat z = true → Go st cl H H' → Q (.str z) H'
theorem ok_text {f : Addr} {fd : FuncData} (F : FnP K "_law_text" s_text f fd) (B : Bf mg) (F_take : Fn P w K mg base "_law_take" ["_law_store_here", "_law_many"] 2 sp_take) (F_count : Fn P w K mg base "_law_count" ["_law_store_here", "_law_least", "_law_usual", "_law_most"] 3 sp_count) : FnOk P w K mg base CX0 4 f fd ["_law_store_here", "_law_most"] sp_text := by
  refine F.ok sc_text (fun vs H Q E h => ?_) (fun cdv A outer s H vs Q E hr h => ⟨_, PSs.nox ((pss_cons (ps_set (i := 2) sc_text.nd rfl (by first | exact Or.inl rfl | exact Or.inr rfl) pe_str) (pss_cons (ps_set (i := 3) sc_text.nd rfl (by first | exact Or.inl rfl | exact Or.inr rfl) (pcall F_take hr (pa_cons (fv 0) (pa_cons pe_int pa_nil)))) (pss_cons (ps_if (q_cmp o_lt (fv 3) pe_int) (pss_one (ps_ret (pe_slice (x_sl K) (pe_ix (x_ix K) (pe_lst (pa_cons pe_str (pa_cons pe_str (pa_cons pe_str (pa_cons pe_str (pa_cons pe_str (pa_cons pe_str pa_nil))))))) (pcall F_take hr (pa_cons (fv 0) (pa_cons pe_int pa_nil))) (fun _ _ => rfl)) po_none (po_some (fv 1))))) pss_nil) (pss_cons (ps_if (q_cmp op_eq (fv 3) pe_int) (pss_cons (ps_set (i := 4) sc_text.nd rfl (by first | exact Or.inl rfl | exact Or.inr rfl) (pe_ix (x_ix K) (pe_lst (pa_cons pe_str (pa_cons pe_str (pa_cons pe_str (pa_cons pe_str (pa_cons pe_str (pa_cons pe_str (pa_cons pe_str (pa_cons pe_str (pa_cons pe_str (pa_cons pe_str (pa_cons pe_str (pa_cons pe_str pa_nil))))))))))))) (pcall F_take hr (pa_cons (fv 0) (pa_cons pe_int pa_nil))) (fun _ _ => rfl))) (pss_one (ps_ret (pe_slice (x_sl K) (fv 4) po_none (po_some (fv 1)))))) pss_nil) (pss_cons (ps_set (i := 5) sc_text.nd rfl (by first | exact Or.inl rfl | exact Or.inr rfl) (pcall F_count hr (pa_cons (fv 0) (pa_cons pe_int (pa_cons (pe_callB c_min (by rfl) B.min PyProof.Rows.boot_min (pa_cons pe_int (pa_cons (fv 1) pa_nil))) (pa_cons (fv 1) pa_nil)))))) (pss_one (ps_ret (pe_join pe_str (pe_lc (own := [("_law_k", 6)]) (g := gName 6) rfl sc_text.nd (pi_range1 (by rfl) B.range (pa_cons (fv 5) pa_nil)) (blkOk_by (own := [("_law_k", 6)]) (N := ["_law_store_here", "_law_most", "_law_signs", "_law_kind", "_law_word", "_law_long", "_law_k"]) (sc := defScope s_text) (by decide +kernel)) (fun _ _ _ _ _ => pg_name (i := 6) sc_text.nd rfl (Or.inl rfl)) (fun _ _ _ _ _ => pts_nil) (fun _ _ _ _ _ => (pe_ix (x_ix K) (fv 2) (pcall F_take hr (pa_cons (fv 0) (pa_cons pe_int pa_nil))) (fun _ _ => rfl))))))))))))), ?_⟩)
  · obtain ⟨st, cl, m, rfl, _⟩ := h
    rfl
  · obtain ⟨st, cl, m, rfl, hS, m0, m1, q⟩ := h
    refine ⟨st, cl, _, rfl, hS, by decide, fun k H1 k0 k1 g => ?_⟩
    refine iteD (fun e => ?_) (fun e => nxt ⟨rfl, iteD (fun e => ?_) (fun e => nxt ?_)⟩)
    · refine ⟨by show 6 ≤ sizeLine; decide, fun p hp => ?_⟩
      have hp0 : H p = none := g.free hS hp
      refine ⟨st, cl, _, rfl, (g.lay hS hp0).2, by decide, fun r H2 r0 r1 g2 => ?_⟩
      have hx := g2.lst (hS.ne_none hp0) upd_same
      obtain ⟨v, hv, hm⟩ := at_of (xs := [V.str "a", .str "b", .str "", .str "ab", .str "A", .str "z"]) (i := r) r0 (by show r < 6; omega)
      refine ⟨_, v, .inl (SqL.of hx), hv, ?_⟩
      have hf := all_mem (p := fun v => match v with | .str z => txtB 40 z | _ => false) (by decide +kernel) hm
      cases v with
      | str z => exact ⟨_, rfl, txt_line hf (by decide), q _ _ (txt_to m0 hf) ((g.lay hS hp0).trans g2)⟩
      | _ => cases hf
    · refine ⟨by show 12 ≤ sizeLine; decide, fun p hp => ?_⟩
      have hp0 : H p = none := g.free hS hp
      refine ⟨st, cl, _, rfl, (g.lay hS hp0).2, by decide, fun r H2 r0 r1 g2 => ?_⟩
      have hx := g2.lst (hS.ne_none hp0) upd_same
      obtain ⟨v, hv, hm⟩ := at_of (xs := [V.str "\"", .str "none", .str "\\", .str "1", .str "\\\"", .str "true", .str " ", .str "a b", .str "-0", .str "~", .str "from", .str "a.b"]) (i := r) r0 (by show r < 12; omega)
      refine ⟨_, v, .inl (SqL.of hx), hv, ?_⟩
      have hf := all_mem (p := fun v => match v with | .str z => txtB 40 z | _ => false) (by decide +kernel) hm
      cases v with
      | str z => exact ⟨_, rfl, txt_line hf (by decide), q _ _ (txt_to m0 hf) ((g.lay hS hp0).trans g2)⟩
      | _ => cases hf
    · refine ⟨st, cl, _, _, _, rfl, g.2, by split <;> omega, by split <;> omega, by omega, fun n H2 n0 n1 g2 => ?_⟩
      refine ⟨⟨_, rfl⟩, _, rfl, by omega, by omega, fun D hD => ?_⟩
      have gg := g.trans g2
      have hD0 : H D = none := gg.free hS hD
      refine lc_range (n := n.toNat) (fun i H' => ∃ cs : List Nat, cs.length = i ∧ (∀ c ∈ cs, signB c = true) ∧ H' D = some (.lst (cs.map fun c => V.str ⟨#[c]⟩)) ∧ Go st cl H H') ⟨[], rfl, fun _ h => (nomatch h), upd_same, gg.lay hS hD0⟩ (fun i H' hi h => ?_) (fun H' h => ?_)
      · obtain ⟨cs, hl, hc, hd, g3⟩ := h
        refine ⟨rfl, st, cl, _, rfl, g3.2, by decide, fun r H3 r0 r1 g4 => ?_⟩
        obtain ⟨c, ha, hm⟩ := at_of (xs := (Str.ofString " !\"#$&'()*+,-./0123456789:;<=>?@ABCDEFGHIJKLMNOPQRSTUVWXYZ[\\]^_`abcdefghijklmnopqrstuvwxyz{|}~").cps.toList) (i := r) r0 (by
          have e : (Str.ofString " !\"#$&'()*+,-./0123456789:;<=>?@ABCDEFGHIJKLMNOPQRSTUVWXYZ[\\]^_`abcdefghijklmnopqrstuvwxyz{|}~").cps.toList.length = 94 := by decide +kernel
          rw [e]
          omega)
        have hs : signB c = true := List.all_eq_true.mp (show (Str.ofString " !\"#$&'()*+,-./0123456789:;<=>?@ABCDEFGHIJKLMNOPQRSTUVWXYZ[\\]^_`abcdefghijklmnopqrstuvwxyz{|}~").cps.toList.all signB = true by decide +kernel) c hm
        refine ⟨by decide +kernel, c, ha, _, g4.lst (hS.ne_none hD0) hd, ?_, cs ++ [c], ?_, ?_, ?_, (g3.trans g4).lay hS hD0⟩
        · rw [List.length_map]
          exact small1000 (by omega)
        · rw [List.length_append, hl]
          rfl
        · intro d hd
          rcases List.mem_append.mp hd with h | h
          · exact hc d h
          · rw [List.mem_singleton.mp h]
            exact hs
        · rw [upd_same, List.map_append]
          rfl
      · obtain ⟨cs, hl, hc, hd, g3⟩ := h
        refine ⟨_, D, cs.map fun c => ⟨#[c]⟩, rfl, rfl, .inl (SqL.of ?_), ?_, ?_⟩
        · rw [List.map_map]
          exact hd
        · have e : ∀ l : List Nat, ((l.map fun c => (⟨#[c]⟩ : Str)).map (·.length)).sum = l.length := by
            intro l
            induction l with
            | nil => rfl
            | cons c r ih =>
              rw [List.map_cons, List.map_cons, List.sum_cons, ih, List.length_cons]
              show 1 + r.length = r.length + 1
              omega
          have e0 : (Str.ofString "").length = 0 := by decide +kernel
          rw [e, e0]
          omega
        · rw [join_signs]
          exact q _ _ (txt_of (by omega) hc) g3
/-! _law_value -/
def sp_value : Sp := fun vs H Q _ => ∃ (st cl : Addr), vs = [.ref st] ∧ Sto H st cl ∧ ∀ (v : V) H', FlatV v → Go st cl H H' → Q v H'
theorem ok_value {f : Addr} {fd : FuncData} (F : FnP K "_law_value" s_value f fd) (B : Bf mg) (F_take : Fn P w K mg base "_law_take" ["_law_store_here", "_law_many"] 2 sp_take) (F_number : Fn P w K mg base "_law_number" ["_law_store_here"] 3 sp_number) (F_text : Fn P w K mg base "_law_text" ["_law_store_here", "_law_most"] 4 sp_text) : FnOk P w K mg base CX0 5 f fd ["_law_store_here"] sp_value := by
  refine F.ok sc_value (fun vs H Q E h => ?_) (fun cdv A outer s H vs Q E hr h => ⟨_, PSs.nox ((pss_cons (ps_set (i := 1) sc_value.nd rfl (by first | exact Or.inl rfl | exact Or.inr rfl) (pcall F_take hr (pa_cons (fv 0) (pa_cons pe_int pa_nil)))) (pss_cons (ps_if (q_cmp o_lt (fv 1) pe_int) (pss_one (ps_ret (pcall F_take hr (pa_cons (fv 0) (pa_cons pe_int pa_nil))))) pss_nil) (pss_cons (ps_if (q_cmp op_eq (fv 1) pe_int) (pss_one (ps_ret (pe_ix (x_ix K) (pe_lst (pa_cons pe_non (pa_cons pe_bl (pa_cons pe_bl pa_nil)))) (pcall F_take hr (pa_cons (fv 0) (pa_cons pe_int pa_nil))) (fun _ _ => rfl)))) pss_nil) (pss_cons (ps_if (q_cmp op_eq (fv 1) pe_int) (pss_one (ps_ret (pe_ix (x_ix K) (pe_lst (pa_cons pe_int (pa_cons pe_bl (pa_cons pe_str (pa_cons pe_non (pa_cons pe_int (pa_cons pe_bl (pa_cons pe_str (pa_cons (pe_un o_neg pe_int) (pa_cons pe_str (pa_cons pe_str pa_nil))))))))))) (pcall F_take hr (pa_cons (fv 0) (pa_cons pe_int pa_nil))) (fun _ _ => rfl)))) pss_nil) (pss_cons (ps_if (q_cmp o_lt (fv 1) pe_int) (pss_one (ps_ret (pcall F_number hr (pa_cons (fv 0) pa_nil)))) pss_nil) (pss_one (ps_ret (pcall F_text hr (pa_cons (fv 0) (pa_cons pe_int pa_nil))))))))))), ?_⟩)
  · obtain ⟨st, cl, rfl, _⟩ := h
    rfl
  · obtain ⟨st, cl, rfl, hS, q⟩ := h
    refine ⟨st, cl, _, rfl, hS, by decide, fun k H1 k0 k1 g => ?_⟩
    refine iteD (fun e => ⟨st, cl, _, rfl, g.2, by decide, fun r H2 r0 r1 g2 => q _ _ (numB_iff.mpr (by omega)) (g.trans g2)⟩) (fun e => nxt ⟨rfl, iteD (fun e => ?_) (fun e => nxt ⟨rfl, iteD (fun e => ?_) (fun e => nxt (iteD (fun e => ?_) (fun e => nxt ?_)))⟩)⟩)
    · refine ⟨by show 3 ≤ sizeLine; decide, fun p hp => ?_⟩
      have hp0 : H p = none := g.free hS hp
      refine ⟨st, cl, _, rfl, (g.lay hS hp0).2, by decide, fun r H2 r0 r1 g2 => ?_⟩
      have hx := g2.lst (hS.ne_none hp0) upd_same
      obtain ⟨v, hv, hm⟩ := at_of (xs := [V.non, .bl true, .bl false]) (i := r) r0 (by show r < 3; omega)
      exact ⟨_, v, .inl (SqL.of hx), hv, q _ _ (all_mem (by decide +kernel) hm) ((g.lay hS hp0).trans g2)⟩
    · refine ⟨by show 10 ≤ sizeLine; decide, fun p hp => ?_⟩
      have hp0 : H p = none := g.free hS hp
      refine ⟨st, cl, _, rfl, (g.lay hS hp0).2, by decide, fun r H2 r0 r1 g2 => ?_⟩
      have hx := g2.lst (hS.ne_none hp0) upd_same
      obtain ⟨v, hv, hm⟩ := at_of (xs := [V.int 0, .bl false, .str "", .non, .int 1, .bl true, .str "1", .int (-1), .str "none", .str "0"]) (i := r) r0 (by show r < 10; omega)
      exact ⟨_, v, .inl (SqL.of hx), hv, q _ _ (all_mem (by decide +kernel) hm) ((g.lay hS hp0).trans g2)⟩
    · exact ⟨st, cl, rfl, g.2, fun r H2 hr g2 => q _ _ hr (g.trans g2)⟩
    · exact ⟨st, cl, _, rfl, g.2, by decide, by decide, fun z H2 hz g2 => q _ _ hz (g.trans g2)⟩

/-! ### the program -/
def kindS : V → Str
  | .bl _ => "truth"
  | .int _ => "number"
  | .str _ => "text"
  | _ => "none"
def sp_kind_ofP : Sp := fun vs H Q _ => ∃ v, vs = [v] ∧ FlatV v ∧ Q (.str (kindS v)) H
theorem ok_kind_ofP {f : Addr} {fd : FuncData} (F : FnP K "kind_of" s_kind_ofP f fd) (B : Bf mg) : FnOk P w K mg base CX0 1 f fd ["value"] sp_kind_ofP := by
  refine F.ok sc_kind_ofP (fun vs H Q E h => ?_) (fun cdv A outer s H vs Q E hr h => ⟨_, PSs.nox ((pss_cons (ps_if (q_cmp op_isN (fv 0) pe_non) (pss_one (ps_ret pe_str)) pss_nil) (pss_cons (ps_if (q_tru K (p_isi K kBool kBool_ok B.isinstance B.bool PyProof.Rows.boot_bool (fv 0))) (pss_one (ps_ret pe_str)) pss_nil) (pss_cons (ps_if (q_tru K (p_isi K kInt kInt_ok B.isinstance B.int PyProof.Rows.boot_int (fv 0))) (pss_one (ps_ret pe_str)) pss_nil) (pss_one (ps_ret pe_str)))))), ?_⟩)
  · obtain ⟨v, rfl, _⟩ := h
    rfl
  · obtain ⟨v, rfl, hv, q⟩ := h
    cases v with
    | non => exact ⟨rfl, iteD (fun _ => q) (fun e => absurd rfl e)⟩
    | bl b => exact ⟨rfl, iteD (fun e => nomatch e) (fun _ => q)⟩
    | int i => exact ⟨rfl, iteD (fun e => nomatch e) (fun _ => q)⟩
    | str z => exact ⟨rfl, iteD (fun e => nomatch e) (fun _ => q)⟩
    | _ => cases hv
def sp_key (K : PySem.W.Frag) : Sp := fun vs H Q _ => ∃ v, vs = [v] ∧ FlatV v ∧ ∀ p H', Dp K H' p (keyD v) → Same H H' → Q p H'
theorem ok_sort_keyP {f : Addr} {fd : FuncData} (F : FnP K "sort_key" s_sort_keyP f fd) (B : Bf mg) (F_kind_ofP : Fn P w K mg base "kind_of" ["value"] 1 sp_kind_ofP) : FnOk P w K mg base CX0 2 f fd ["value"] (sp_key K) := by
  refine F.ok sc_sort_keyP (fun vs H Q E h => ?_) (fun cdv A outer s H vs Q E hr h => ⟨_, PSs.nox ((pss_cons (ps_set (i := 1) sc_sort_keyP.nd rfl (by first | exact Or.inl rfl | exact Or.inr rfl) (pcall F_kind_ofP hr (pa_cons (fv 0) pa_nil))) (pss_cons (ps_if (q_cmp op_eq (fv 1) pe_str) (pss_one (ps_ret (pe_tup (pa_cons pe_int (pa_cons pe_int pa_nil))))) pss_nil) (pss_cons (ps_if (q_cmp op_eq (fv 1) pe_str) (pss_one (ps_ret (pe_tup (pa_cons pe_int (pa_cons (pe_ifExp (q_tru K (fv 0)) pe_int pe_int) pa_nil))))) pss_nil) (pss_cons (ps_if (q_cmp op_eq (fv 1) pe_str) (pss_one (ps_ret (pe_tup (pa_cons pe_int (pa_cons (fv 0) pa_nil))))) pss_nil) (pss_one (ps_ret (pe_tup (pa_cons pe_int (pa_cons (fv 0) pa_nil)))))))))), ?_⟩)
  · obtain ⟨v, rfl, _⟩ := h
    rfl
  · obtain ⟨v, rfl, hv, q⟩ := h
    refine ⟨v, rfl, hv, ?_⟩
    have two : 2 ≤ sizeLine := by decide
    have n1 : ¬ V.str "truth" = V.str "none" := by decide +kernel
    have n2 : ¬ V.str "number" = V.str "none" := by decide +kernel
    have n3 : ¬ V.str "number" = V.str "truth" := by decide +kernel
    have n4 : ¬ V.str "text" = V.str "none" := by decide +kernel
    have n5 : ¬ V.str "text" = V.str "truth" := by decide +kernel
    have n6 : ¬ V.str "text" = V.str "number" := by decide +kernel
    cases v with
    | non => exact ⟨rfl, iteD (fun _ => ⟨two, fun p hp => q _ _ (.tup (SqT.of upd_same) (.cons (.int 0) (.cons (.int 0) .nil))) (same_upd hp)⟩) (fun e => absurd rfl e)⟩
    | bl b =>
      refine ⟨rfl, iteD (fun e => absurd e n1) (fun _ => nxt ⟨rfl, iteD (fun _ => ?_) (fun e => absurd rfl e)⟩)⟩
      cases b
      · exact ⟨two, fun p hp => q _ _ (.tup (SqT.of upd_same) (.cons (.int 1) (.cons (.int 0) .nil))) (same_upd hp)⟩
      · exact ⟨two, fun p hp => q _ _ (.tup (SqT.of upd_same) (.cons (.int 1) (.cons (.int 1) .nil))) (same_upd hp)⟩
    | int i => exact ⟨rfl, iteD (fun e => absurd e n2) (fun _ => nxt ⟨rfl, iteD (fun e => absurd e n3) (fun _ => nxt ⟨rfl, iteD (fun _ => ⟨two, fun p hp => q _ _ (.tup (SqT.of upd_same) (.cons (.int 2) (.cons (.int i) .nil))) (same_upd hp)⟩) (fun e => absurd rfl e)⟩)⟩)⟩
    | str z => exact ⟨rfl, iteD (fun e => absurd e n4) (fun _ => nxt ⟨rfl, iteD (fun e => absurd e n5) (fun _ => nxt ⟨rfl, iteD (fun e => absurd e n6) (fun _ => nxt ⟨two, fun p hp => q _ _ (.tup (SqT.of upd_same) (.cons (.int 3) (.cons (.str z) .nil))) (same_upd hp)⟩)⟩)⟩)⟩
    | _ => cases hv
def sp_cmpkeys (K : PySem.W.Frag) : Sp := fun vs H Q _ => ∃ x y d e lt gt, vs = [x, y] ∧ Dp K H x d ∧ Dp K H y e ∧ SeqAt.shaped d = true ∧ SeqAt.shaped e = true ∧ ltD false d e = some lt ∧ ltD false e d = some gt ∧ Q (.int (if lt = true then -1 else if gt = true then 1 else 0)) H
theorem ok_own_compared_keysP {f : Addr} {fd : FuncData} (F : FnP K "own_compared_keys" s_own_compared_keysP f fd) (B : Bf mg) : FnOk P w K mg base CX0 1 f fd ["left", "right"] (sp_cmpkeys K) := by
  refine F.ok sc_own_compared_keysP (fun vs H Q E h => ?_) (fun cdv A outer s H vs Q E hr h => ⟨_, PSs.nox ((pss_cons (ps_if (q_cmp (o_ltD K hr) (fv 0) (fv 1)) (pss_one (ps_ret (pe_un o_neg pe_int))) pss_nil) (pss_cons (ps_if (q_cmp (o_ltD K hr) (fv 1) (fv 0)) (pss_one (ps_ret pe_int)) pss_nil) (pss_one (ps_ret pe_int))))), ?_⟩)
  · obtain ⟨x, y, d, e, lt, gt, rfl, _⟩ := h
    rfl
  · obtain ⟨x, y, d, e, lt, gt, rfl, hd, he, sd, se, hl, hg, q⟩ := h
    refine ⟨d, e, lt, hd, he, sd, se, hl, ?_⟩
    cases lt with
    | true => exact q
    | false =>
      refine nxt ⟨e, d, gt, he, hd, se, sd, hg, ?_⟩
      cases gt with
      | true => exact q
      | false => exact q
/-- a row at a -/
def Row (K : PySem.W.Frag) (H : Hp) (a : Addr) (xs : List V) : Prop := SqT K H a xs ∧ (∀ x ∈ xs, FlatV x) ∧ xs.length ≤ 12
theorem Row.tk {K : PySem.W.Frag} {H H' : Hp} {a : Addr} {xs : List V} (r : Row K H a xs) (t : Tk H H') : Row K H' a xs := ⟨t.tup r.1, r.2⟩
def sp_rowkey (K : PySem.W.Frag) : Sp := fun vs H Q _ => ∃ a xs, vs = [.ref a] ∧ Row K H a xs ∧ ∀ p H', Dp K H' p (.tuple (xs.map keyD)) → Same H H' → Q p H'
theorem ok_row_keyP {f : Addr} {fd : FuncData} (F : FnP K "row_key" s_row_keyP f fd) (B : Bf mg) (F_sort_keyP : Fn P w K mg base "sort_key" ["value"] 2 (sp_key K)) : FnOk P w K mg base CX0 3 f fd ["row"] (sp_rowkey K) := by
  refine F.ok sc_row_keyP (fun vs H Q E h => ?_) (fun cdv A outer s H vs Q E hr h => ⟨_, PSs.nox ((pss_one (ps_ret (pe_callTy (c_tuple K) (by rfl) B.tuple PyProof.Rows.boot_tuple (pa_cons (pe_lc (own := [("value", 1)]) (g := gName 1) rfl sc_row_keyP.nd (p_seq K (fv 0)) (blkOk_by (own := [("value", 1)]) (N := ["row", "value"]) (sc := defScope s_row_keyP) (by decide +kernel)) (fun _ _ _ _ _ => pg_name (i := 1) sc_row_keyP.nd rfl (Or.inl rfl)) (fun _ _ _ _ _ => pts_nil) (fun _ _ _ _ _ => (pcall F_sort_keyP hr (pa_cons (fv 1) pa_nil)))) pa_nil))))), ?_⟩)
  · obtain ⟨a, xs, rfl, _⟩ := h
    rfl
  · obtain ⟨a, xs, rfl, ⟨hx, hf, hl⟩, q⟩ := h
    refine .inr ⟨⟨_, hx⟩, fun D hD => lc_tup (xs := xs) (fun i H' => Same H H' ∧ ∃ ys, H' D = some (.lst ys) ∧ ys.length = i ∧ DpAll K H' ys ((xs.take i).map keyD)) ⟨same_upd hD, [], upd_same, rfl, .nil⟩ (fun i H' _ h => Same.tup h.1 hx) (fun i x H' hi h => ?_) (fun H' h => ?_)⟩
    · obtain ⟨sm, ys, hy, hn, hd⟩ := h
      have hm : x ∈ xs := List.mem_of_getElem? hi
      have hlt : i < xs.length := (List.getElem?_eq_some_iff.mp hi).1
      refine ⟨rfl, x, rfl, hf x hm, fun p H2 dp s2 => ⟨ys, s2 _ _ hy, small1000 (by omega), fun b u hb => ?_, ys ++ [p], upd_same, by rw [List.length_append, hn]; rfl, ?_⟩⟩
      · rw [upd_ne (ne_of_none hb hD)]
        exact s2 _ _ (sm _ _ hb)
      · have tp : Tk H2 (upd H2 D (.lst (ys ++ [p]))) := Tk.put (s2 _ _ hy)
        rw [List.take_add_one, hi, List.map_append]
        exact DpAll.app (Dp.tkAll ((Tk.same s2).trans tp) _ _ (tupAll_keys fun u hu => hf u (List.mem_of_mem_take hu)) hd) (.cons (Dp.tk tp _ _ (tupD_key (hf x hm)) dp) .nil)
    · obtain ⟨sm, ys, hy, hn, hd⟩ := h
      rw [List.take_length] at hd
      exact ⟨ys, .inl (SqL.of hy), fun p H2 hp s2 => q _ _ (.tup hp (Dp.sameAll s2 _ _ hd)) (sm.trans s2)⟩
def sp_cmprows (K : PySem.W.Frag) : Sp := fun vs H Q _ => ∃ a b xs ys, vs = [.ref a, .ref b] ∧ Row K H a xs ∧ Row K H b ys ∧ ∀ H', Same H H' → Q (.int (rowOrd xs ys)) H'
theorem ok_compare_rowsP {f : Addr} {fd : FuncData} (F : FnP K "compare_rows" s_compare_rowsP f fd) (B : Bf mg) (F_row_keyP : Fn P w K mg base "row_key" ["row"] 3 (sp_rowkey K)) (F_own_compared_keysP : Fn P w K mg base "own_compared_keys" ["left", "right"] 1 (sp_cmpkeys K)) :
    FnOk P w K mg base CX0 4 f fd ["left", "right"] (sp_cmprows K) := by
  refine F.ok sc_compare_rowsP (fun vs H Q E h => ?_) (fun cdv A outer s H vs Q E hr h => ⟨_, PSs.nox ((pss_one (ps_ret (pcall F_own_compared_keysP hr (pa_cons (pcall F_row_keyP hr (pa_cons (fv 0) pa_nil)) (pa_cons (pcall F_row_keyP hr (pa_cons (fv 1) pa_nil)) pa_nil)))))), ?_⟩)
  · obtain ⟨a, b, xs, ys, rfl, _⟩ := h
    rfl
  · obtain ⟨a, b, xs, ys, rfl, hx, hy, q⟩ := h
    refine ⟨a, xs, rfl, hx, fun p H1 dp s1 => ⟨b, ys, rfl, hy.tk (Tk.same s1), fun r H2 dr s2 => ?_⟩⟩
    refine ⟨p, r, _, _, rowLt xs ys, rowLt ys xs, rfl, Dp.same s2 _ _ dp, dr, shaped_keys hx.2.1, shaped_keys hy.2.1, ?_, ?_, q H2 (s1.trans s2)⟩
    · rw [ltD]
      exact ltAll_keys hx.2.1 hy.2.1
    · rw [ltD]
      exact ltAll_keys hy.2.1 hx.2.1

/-! ### rows drawn -/
def sp_row (K : PySem.W.Frag) : Sp := fun vs H Q _ => ∃ (st cl : Addr), vs = [.ref st] ∧ Sto H st cl ∧ ∀ a xs H', Row K H' a xs → Go st cl H H' → Q (.ref a) H'
theorem ok_row {f : Addr} {fd : FuncData} (F : FnP K "_law_row" s_row f fd) (B : Bf mg) (F_count : Fn P w K mg base "_law_count" ["_law_store_here", "_law_least", "_law_usual", "_law_most"] 3 sp_count) (F_value : Fn P w K mg base "_law_value" ["_law_store_here"] 5 sp_value) : FnOk P w K mg base CX0 6 f fd ["_law_store_here"] (sp_row K) := by
  refine F.ok sc_row (fun vs H Q E h => ?_) (fun cdv A outer s H vs Q E hr h => ⟨_, PSs.nox ((pss_one (ps_ret (pe_callTy (c_tuple K) (by rfl) B.tuple PyProof.Rows.boot_tuple (pa_cons (pe_lc (own := [("_law_k", 1)]) (g := gName 1) rfl sc_row.nd (pi_range1 (by rfl) B.range (pa_cons (pcall F_count hr (pa_cons (fv 0) (pa_cons pe_int (pa_cons pe_int (pa_cons pe_int pa_nil))))) pa_nil)) (blkOk_by (own := [("_law_k", 1)]) (N := ["_law_store_here", "_law_k"]) (sc := defScope s_row) (by decide +kernel)) (fun _ _ _ _ _ => pg_name (i := 1) sc_row.nd rfl (Or.inl rfl)) (fun _ _ _ _ _ => pts_nil) (fun _ _ _ _ _ => (pcall F_value hr (pa_cons (fv 0) pa_nil)))) pa_nil))))), ?_⟩)
  · obtain ⟨st, cl, rfl, _⟩ := h
    rfl
  · obtain ⟨st, cl, rfl, hS, q⟩ := h
    refine ⟨st, cl, _, _, _, rfl, hS, by decide, by decide, by decide, fun n H1 n0 n1 g => ⟨_, rfl, by omega, by omega, fun D hD => ?_⟩⟩
    have hD0 : H D = none := g.free hS hD
    refine lc_range (n := n.toNat) (fun i H' => Go st cl H H' ∧ ∃ ys, H' D = some (.lst ys) ∧ ys.length = i ∧ ∀ y ∈ ys, FlatV y) ⟨g.lay hS hD0, [], upd_same, rfl, fun _ h => (nomatch h)⟩ (fun i H' hi h => ?_) (fun H' h => ?_)
    · obtain ⟨g2, ys, hy, hn, hf⟩ := h
      refine ⟨rfl, st, cl, rfl, g2.2, fun v H2 hv g3 => ⟨ys, g3.lst (hS.ne_none hD0) hy, small1000 (by omega), (g2.trans g3).lay hS hD0, ys ++ [v], upd_same, by rw [List.length_append, hn]; rfl, fun y hm => ?_⟩⟩
      rcases List.mem_append.mp hm with h | h
      · exact hf y h
      · rw [List.mem_singleton.mp h]
        exact hv
    · obtain ⟨g2, ys, hy, hn, hf⟩ := h
      exact ⟨ys, .inl (SqL.of hy), fun p H2 hp s2 => q p ys H2 ⟨hp, hf, by omega⟩ (g2.same s2)⟩
def sp_near (K : PySem.W.Frag) : Sp := fun vs H Q _ => ∃ (st cl a : Addr) (xs : List V), vs = [.ref st, .ref a] ∧ Sto H st cl ∧ Row K H a xs ∧ ∀ b ys H', Row K H' b ys → Go st cl H H' → Q (.ref b) H'
theorem ok_near {f : Addr} {fd : FuncData} (F : FnP K "_law_near" s_near f fd) (B : Bf mg) (F_take : Fn P w K mg base "_law_take" ["_law_store_here", "_law_many"] 2 sp_take) (F_value : Fn P w K mg base "_law_value" ["_law_store_here"] 5 sp_value) : FnOk P w K mg base CX0 6 f fd ["_law_store_here", "_law_row_here"] (sp_near K) := by
  refine F.ok sc_near (fun vs H Q E h => ?_) (fun cdv A outer s H vs Q E hr h => ⟨_, PSs.nox ((pss_cons (ps_set (i := 2) sc_near.nd rfl (by first | exact Or.inl rfl | exact Or.inr rfl) (pcall F_take hr (pa_cons (fv 0) (pa_cons pe_int pa_nil)))) (pss_cut (ps_if (PW.pt (pw_and (q_cmp op_eq (fv 2) pe_int) (pw_and1 (q_cmp o_lt (pe_callB (c_len K) (by rfl) B.len PySem.boot_len (pa_cons (fv 1) pa_nil)) pe_int)))) (pss_one (ps_ret (pe_op (o_add K) (pe_callTy (c_tuple K) (by rfl) B.tuple PyProof.Rows.boot_tuple (pa_cons (fv 1) pa_nil)) (pe_tup (pa_cons (pcall F_value hr (pa_cons (fv 0) pa_nil)) pa_nil))))) pss_nil) (pss_cons (ps_if (q_cmp op_eq (pe_callB (c_len K) (by rfl) B.len PySem.boot_len (pa_cons (fv 1) pa_nil)) pe_int) (pss_one (ps_ret (pe_tup (pa_cons pe_non pa_nil)))) pss_nil) (pss_cons (ps_if (q_cmp op_eq (fv 2) pe_int) (pss_one (ps_ret (pe_callTy (c_tuple K) (by rfl) B.tuple PyProof.Rows.boot_tuple (pa_cons (pe_slice (x_sl K) (fv 1) po_none (po_some (pe_un o_neg pe_int))) pa_nil)))) pss_nil) (pss_cons (ps_set (i := 3) sc_near.nd rfl (by first | exact Or.inl rfl | exact Or.inr rfl) (pcall F_take hr (pa_cons (fv 0) (pa_cons (pe_callB (c_len K) (by rfl) B.len PySem.boot_len (pa_cons (fv 1) pa_nil)) pa_nil)))) (pss_cons (ps_set (i := 4) sc_near.nd rfl (by first | exact Or.inl rfl | exact Or.inr rfl) (pe_ix (x_ix K) (fv 1) (fv 3) (fun _ _ => rfl))) (pss_cut (ps_if (q_tru K (p_isi K kBool kBool_ok B.isinstance B.bool PyProof.Rows.boot_bool (fv 4))) (pss_one (ps_set (i := 4) sc_near.nd rfl (by first | exact Or.inl rfl | exact Or.inr rfl) (pe_callTy c_int (by rfl) B.int PyProof.Rows.boot_int (pa_cons (fv 4) pa_nil)))) (pss_one (ps_if (q_tru K (p_isi K kInt kInt_ok B.isinstance B.int PyProof.Rows.boot_int (fv 4))) (pss_one (ps_set (i := 4) sc_near.nd rfl (by first | exact Or.inl rfl | exact Or.inr rfl) (pe_ix (x_ix K) (pe_lst (pa_cons (pe_slice (x_sl K) (pe_callTy c_str (by rfl) B.str PyProof.Rows.boot_str (pa_cons (fv 4) pa_nil)) po_none (po_some pe_int)) (pa_cons (pe_cmpR op_eq (fv 4) pe_int (nomark _)) (pa_cons (pe_op o_sub (pe_op (o_add K) (fv 4) pe_int) (pe_op o_mul pe_int (pe_callTy c_int (by rfl) B.int PyProof.Rows.boot_int (pa_cons (pe_cmpR o_gt (fv 4) pe_int (nomark _)) pa_nil)))) pa_nil)))) (pcall F_take hr (pa_cons (fv 0) (pa_cons pe_int pa_nil))) (fun _ _ => rfl)))) (pss_one (ps_set (i := 4) sc_near.nd rfl (by first | exact Or.inl rfl | exact Or.inr rfl) (pcall F_value hr (pa_cons (fv 0) pa_nil))))))) (pss_one (ps_ret (pe_op (o_add K) (pe_op (o_add K) (pe_callTy (c_tuple K) (by rfl) B.tuple PyProof.Rows.boot_tuple (pa_cons (pe_slice (x_sl K) (fv 1) po_none (po_some (fv 3))) pa_nil)) (pe_tup (pa_cons (fv 4) pa_nil))) (pe_callTy (c_tuple K) (by rfl) B.tuple PyProof.Rows.boot_tuple (pa_cons (pe_slice (x_sl K) (fv 1) (po_some (pe_op (o_add K) (fv 3) pe_int)) po_none) pa_nil))))))))))))), ?_⟩)
  · obtain ⟨st, cl, a, xs, rfl, _⟩ := h
    rfl
  · obtain ⟨st, cl, a, xs, rfl, hS, hR, q⟩ := h
    have line : ∀ n : Nat, n ≤ 1000 → n ≤ sizeLine := fun n h => Nat.le_of_lt (small1000 h)
    refine ⟨st, cl, _, rfl, hS, by decide, fun k H1 k0 k1 g => ?_⟩
    have t1 := Tk.go g hS
    have hR1 := hR.tk t1
    -- what follows the first if
    refine cutP (fun σ1 H2 => ∃ c d, σ1 = [some (.ref st), some (.ref a), some (.int k), c, d] ∧ H2 = H1) ?_ ?_
    · rintro σ1 H2 ⟨c, d, rfl, rfl⟩
      refine ⟨_, .inr hR1.1, rfl, iteD (fun e => ?_) (fun e => nxt ⟨rfl, iteD (fun e2 => ?_) (fun e2 => nxt ?_)⟩)⟩
      · exact ⟨line 1 (by decide), fun p hp => q p [.non] _ ⟨SqT.of upd_same, fun x hx => by rw [List.mem_singleton.mp hx]; rfl, by show 1 ≤ 12; decide⟩ (g.same (same_upd hp))⟩
      · refine ⟨_, rfl, Or.inr ⟨_, hR1.1, fun p H3 hp s3 => ⟨_, .inr hp, fun p2 H4 hp2 s4 => q p2 _ H4 ⟨hp2, fun x hx => hR.2.1 x (List.mem_of_mem_drop (List.mem_of_mem_take hx)), Nat.le_trans (cutV_length _ _ _) hR.2.2⟩ ((g.same s3).same s4)⟩⟩⟩
      · have h0 : 0 < xs.length := by
          rcases Nat.eq_zero_or_pos xs.length with h | h
          · rw [h] at e
            exact absurd rfl e
          · exact h
        have hlen := hR.2.2
        refine ⟨_, .inr hR1.1, st, cl, _, rfl, g.2, by omega, fun at_ H3 a0 a1 g2 => ?_⟩
        have gg := g.trans g2
        have hR3 := hR.tk (Tk.go gg hS)
        obtain ⟨v, hv, hm⟩ := at_of (xs := xs) a0 (by omega)
        refine ⟨_, v, .inr hR3.1, hv, ?_⟩
        have fv := hR.2.1 v hm
        -- the end: the row with another value
        refine cutP (fun σ1 H4 => ∃ u, σ1 = [some (.ref st), some (.ref a), some (.int k), some (.int at_), some u] ∧ FlatV u ∧ Go st cl H H4) ?_ ?_
        · rintro σ1 H4 ⟨u, rfl, fu, g4⟩
          have hR4 := hR.tk (Tk.go g4 hS)
          refine ⟨_, rfl, Or.inr ⟨_, hR4.1, fun p H5 hp s5 => ⟨_, .inr hp, fun p1 H6 hp1 s6 => ⟨line 1 (by decide), fun t ht => ?_⟩⟩⟩⟩
          have s7 : Same H6 (upd H6 t (.tup [u])) := same_upd ht
          have e1 : (cutV xs none (some at_)).length = at_.toNat := by
            unfold cutV
            have e : ((at_.toNat : Nat) : Int) = at_ := by omega
            rw [← e, HT.sIx_nat, HT.sIx_none, List.length_take, List.length_drop]
            omega
          have e2 : (cutV xs (some (at_ + 1)) none).length = xs.length - (at_.toNat + 1) := by
            unfold cutV
            have e : ((at_.toNat + 1 : Nat) : Int) = at_ + 1 := by omega
            rw [← e, HT.sIx_nat, HT.sIx_none, List.length_take, List.length_drop]
            omega
          refine Or.inr ⟨_, _, Same.tup s7 hp1, SqT.of upd_same, line _ (by rw [e1]; show _ + 1 ≤ _; omega), fun p2 H8 hp2 s8 => ?_⟩
          have sA : Same H4 H8 := ((s5.trans s6).trans s7).trans s8
          refine ⟨_, rfl, Or.inr ⟨_, Same.tup sA hR4.1, fun p3 H9 hp3 s9 => ⟨_, .inr hp3, fun p4 H10 hp4 s10 => ?_⟩⟩⟩
          refine Or.inr ⟨_, _, Same.tup (s9.trans s10) hp2, hp4, line _ (by rw [List.length_append, e1, e2]; show _ + 1 + _ ≤ _; omega), fun p5 H11 hp5 s11 => ?_⟩
          refine q p5 _ H11 ⟨hp5, fun x hx => ?_, ?_⟩ (((g4.same sA).same (s9.trans s10)).same s11)
          · rcases List.mem_append.mp hx with h | h
            · rcases List.mem_append.mp h with h | h
              · exact hR.2.1 x (List.mem_of_mem_drop (List.mem_of_mem_take h))
              · rw [List.mem_singleton.mp h]
                exact fu
            · exact hR.2.1 x (List.mem_of_mem_drop (List.mem_of_mem_take h))
          · rw [List.length_append, List.length_append, e1, e2]
            show _ + 1 + _ ≤ _
            omega
        · intro rest
          cases v with
          | bl b =>
            cases b
            · exact rest _ _ ⟨_, rfl, by decide +kernel, gg⟩
            · exact rest _ _ ⟨_, rfl, by decide +kernel, gg⟩
          | int i =>
            have hi := numB_iff.mp fv
            refine ⟨num_log fv, 30, rfl, txt_line (txt_int fv) (by decide), rfl, Or.inl ⟨by decide, by decide⟩, line 3 (by decide), fun p hp => ?_⟩
            have hp0 : H p = none := gg.free hS hp
            refine ⟨st, cl, _, rfl, (gg.lay hS hp0).2, by decide, fun r H4 r0 r1 g4 => ?_⟩
            have hx := g4.lst (hS.ne_none hp0) upd_same
            obtain ⟨u, hu, hmu⟩ := at_of (xs := [V.str (cutS (Str.ofString (toString i)) none (some 30)), V.bl (decide (V.int i = V.int 1)), V.int (i + 1 - 2 * (if decide (0 < i) = true then 1 else 0))]) (i := r) r0 (by show r < 3; omega)
            refine ⟨_, u, .inl (SqL.of hx), hu, rest _ _ ⟨u, rfl, ?_, (gg.lay hS hp0).trans g4⟩⟩
            rcases List.mem_cons.mp hmu with e | hmu
            · rw [e]
              exact txt_mono (n := 31) (by decide) (txt_cut (txt_int fv))
            · rcases List.mem_cons.mp hmu with e | hmu
              · rw [e]
                rfl
              · rw [List.mem_singleton.mp hmu]
                refine numB_iff.mpr ?_
                by_cases hi0 : 0 < i
                · rw [if_pos (decide_eq_true hi0)]
                  omega
                · rw [if_neg (by rw [decide_eq_false hi0]; exact Bool.false_ne_true)]
                  omega
          | non => exact ⟨st, cl, rfl, gg.2, fun v2 H4 hv2 g4 => rest _ _ ⟨_, rfl, hv2, gg.trans g4⟩⟩
          | str z => exact ⟨st, cl, rfl, gg.2, fun v2 H4 hv2 g4 => rest _ _ ⟨_, rfl, hv2, gg.trans g4⟩⟩
          | _ => cases fv
    · intro rest
      refine ⟨rfl, iteD (fun e => ?_) (fun e => iteF (nxt (rest _ _ ⟨_, _, rfl, rfl⟩)))⟩
      refine ⟨_, .inr hR1.1, iteD (fun e2 => ?_) (fun e2 => nxt (rest _ _ ⟨_, _, rfl, rfl⟩))⟩
      refine ⟨_, .inr hR1.1, fun p H2 hp s2 => ⟨st, cl, rfl, (g.same s2).2, fun v H3 hv g3 => ⟨line 1 (by decide), fun t ht => ?_⟩⟩⟩
      have hp3 : SqT K H3 p xs := g3.tup (g.same s2).2 hp
      have s4 : Same H3 (upd H3 t (.tup [v])) := same_upd ht
      have hl : xs.length ≤ 12 := hR.2.2
      refine Or.inr ⟨_, _, Same.tup s4 hp3, SqT.of upd_same, line _ (by show _ + 1 ≤ _; omega), fun p2 H5 hp2 s5 => q p2 _ H5 ⟨hp2, fun x hx => ?_, ?_⟩ ((((g.same s2).trans g3).same s4).same s5)⟩
      · rcases List.mem_append.mp hx with h | h
        · exact hR.2.1 x h
        · rw [List.mem_singleton.mp h]
          exact hv
      · rw [List.length_append]
        show _ + 1 ≤ _
        omega
def sp_rows (K : PySem.W.Frag) : Sp := fun vs H Q _ => ∃ (st cl : Addr) (u m : Int), vs = [.ref st, .int u, .int m] ∧ Sto H st cl ∧ 0 ≤ u ∧ u ≤ m ∧ m ≤ 100 ∧ ∀ (L : Addr) (as : List Addr) H', H L = none → H' L = some (.lst (as.map V.ref)) → (∀ a ∈ as, ∃ xs, Row K H' a xs) → (as.length : Int) ≤ m → Go st cl H H' → Q (.ref L) H'
theorem ok_rows {f : Addr} {fd : FuncData} (F : FnP K "_law_rows" s_rows f fd) (B : Bf mg) (F_take : Fn P w K mg base "_law_take" ["_law_store_here", "_law_many"] 2 sp_take) (F_count : Fn P w K mg base "_law_count" ["_law_store_here", "_law_least", "_law_usual", "_law_most"] 3 sp_count) (F_one : Fn P w K mg base "_law_one" ["_law_store_here", "_law_row_here"] 3 (sp_one K))
    (F_row : Fn P w K mg base "_law_row" ["_law_store_here"] 6 (sp_row K)) (F_near : Fn P w K mg base "_law_near" ["_law_store_here", "_law_row_here"] 6 (sp_near K)) : FnOk P w K mg base CX0 7 f fd ["_law_store_here", "_law_usual", "_law_most"] (sp_rows K) := by
  refine F.ok sc_rows (fun vs H Q E h => ?_) (fun cdv A outer s H vs Q E hr h => ⟨_, PSs.nox ((pss_cons (ps_set (i := 3) sc_rows.nd rfl (by first | exact Or.inl rfl | exact Or.inr rfl) (pe_lst pa_nil)) (pss_cons (ps_for PassesOwn.never rfl (pi_range1 (by rfl) B.range (pa_cons (pcall F_count hr (pa_cons (fv 0) (pa_cons pe_int (pa_cons (fv 1) (pa_cons (fv 2) pa_nil))))) pa_nil)) (pg_name (i := 4) sc_rows.nd rfl (by first | exact Or.inl rfl | exact Or.inr rfl)) (pss_cons (ps_set (i := 5) sc_rows.nd rfl (by first | exact Or.inl rfl | exact Or.inr rfl) (pcall F_take hr (pa_cons (fv 0) (pa_cons pe_int pa_nil)))) (pss_one (ps_if (PW.pt (pw_and (q_cmp op_eq (fv 5) pe_int) (pw_and1 (q_cmp o_gt (pe_callB (c_len K) (by rfl) B.len PySem.boot_len (pa_cons (fv 3) pa_nil)) pe_int)))) (pss_one (ps_expr (pe_bm PySem.F.plainAttrs_list PySem.F.slot_list_append PySem.F.type_list_append mt_append (fv 3) (pa_cons (pcall F_one hr (pa_cons (fv 0) (pa_cons (fv 3) pa_nil))) pa_nil)))) (pss_one (ps_if (PW.pt (pw_and (q_cmp op_eq (fv 5) pe_int) (pw_and1 (q_cmp o_gt (pe_callB (c_len K) (by rfl) B.len PySem.boot_len (pa_cons (fv 3) pa_nil)) pe_int)))) (pss_one (ps_expr (pe_bm PySem.F.plainAttrs_list PySem.F.slot_list_append PySem.F.type_list_append mt_append (fv 3) (pa_cons (pcall F_near hr (pa_cons (fv 0) (pa_cons (pcall F_one hr (pa_cons (fv 0) (pa_cons (fv 3) pa_nil))) pa_nil))) pa_nil)))) (pss_one (ps_expr (pe_bm PySem.F.plainAttrs_list PySem.F.slot_list_append PySem.F.type_list_append mt_append (fv 3) (pa_cons (pcall F_row hr (pa_cons (fv 0) pa_nil)) pa_nil)))))))))) (pss_one (ps_ret (fv 3)))))), ?_⟩)
  · obtain ⟨st, cl, u, m, rfl, _⟩ := h
    rfl
  · obtain ⟨st, cl, u, m, rfl, hS, u0, u1, m1, q⟩ := h
    refine ⟨Nat.zero_le _, fun L hL => ?_⟩
    have g0 : Go st cl H (upd H L (.lst [])) := (Go.refl hS).lay hS hL
    have nL : L ≠ st := hS.ne_none hL
    refine ⟨st, cl, _, _, _, rfl, g0.2, by omega, by omega, by omega, fun n H1 n0 n1 g1 => ⟨_, rfl, by omega, by omega, for_range (n := n.toNat) (fun i σ H' => ∃ (y z : Option V) (as : List Addr), σ = [some (.ref st), some (.int u), some (.int m), some (.ref L), y, z] ∧ Go st cl H H' ∧ H' L = some (.lst (as.map V.ref)) ∧ as.length = i ∧ ∀ a ∈ as, ∃ xs, Row K H' a xs) ⟨_, _, [], rfl, g0.trans g1, g1.lst nL upd_same, rfl, fun _ h => (nomatch h)⟩ (fun i σ H' hi h => ?_) (fun σ H' h => ?_)⟩⟩
    · obtain ⟨y, z, as, rfl, g, hl, hn, hr⟩ := h
      -- one more row, wherever it comes from
      have put : ∀ (y z : Option V) (H2 : Hp) (a : Addr) (xs : List V), Go st cl H H2 → Tk H' H2 → H2 L = some (.lst (as.map V.ref)) → Row K H2 a xs →
          ∃ (y' z' : Option V) (as' : List Addr), [some (.ref st), some (.int u), some (.int m), some (.ref L), y, z] = [some (.ref st), some (.int u), some (.int m), some (V.ref L), y', z'] ∧ Go st cl H (upd H2 L (.lst (as.map V.ref ++ [.ref a]))) ∧ (upd H2 L (.lst (as.map V.ref ++ [.ref a]))) L = some (.lst (as'.map V.ref)) ∧ as'.length = i + 1 ∧ ∀ b ∈ as', ∃ xs, Row K (upd H2 L (.lst (as.map V.ref ++ [.ref a]))) b xs := by
        intro y z H2 a xs g2 tk hl2 ra
        have tp : Tk H2 (upd H2 L (.lst (as.map V.ref ++ [.ref a]))) := Tk.put hl2
        refine ⟨y, z, as ++ [a], rfl, g2.lay hS hL, by rw [upd_same, List.map_append]; rfl, by rw [List.length_append, hn]; rfl, fun b hb => ?_⟩
        rcases List.mem_append.mp hb with h | h
        · obtain ⟨ys, ry⟩ := hr b h
          exact ⟨ys, ry.tk (tk.trans tp)⟩
        · rw [List.mem_singleton.mp h]
          exact ⟨xs, ra.tk tp⟩
      have line : (as.map V.ref).length < sizeLine := by
        rw [List.length_map]
        exact small1000 (by omega)
      have many : (as.map V.ref).length ≤ 1000000 := by
        rw [List.length_map]
        omega
      have ne : (0 : Int) < ((as.map V.ref).length : Int) → as.map V.ref ≠ [] := fun e z => by
        rw [z] at e
        exact absurd e (by decide)
      refine ⟨st, cl, _, rfl, g.2, by decide, fun k H2 k0 k1 g2 => ?_⟩
      have gg := g.trans g2
      have hl2 := g2.lst nL hl
      have tk2 : Tk H' H2 := Tk.go g2 g.2
      refine ⟨rfl, iteD (fun e => ?_) (fun e => ?_)⟩
      · refine ⟨_, .inl (SqL.of hl2), iteD (fun e2 => ?_) (fun e2 => ?_)⟩
        · refine ⟨Or.inl ⟨rfl, _, SqL.of hl2⟩, st, cl, L, _, rfl, gg.2, nL, .inl (SqL.of hl2), ne e2, many, fun v hv H3 g3 => ?_⟩
          obtain ⟨a, ha, rfl⟩ := List.mem_map.mp hv
          obtain ⟨xs, rx⟩ := hr a ha
          exact ⟨L, _, _, rfl, rfl, g3.lst nL hl2, line, put _ _ H3 a xs (gg.trans g3) (tk2.trans (Tk.go g3 gg.2)) (g3.lst nL hl2) (rx.tk (tk2.trans (Tk.go g3 gg.2)))⟩
        · refine ⟨rfl, iteD (fun e3 => ?_) (fun e3 => ?_)⟩
          · exact absurd (V.int.inj (e.symm.trans e3)) (by decide)
          · exact ⟨Or.inl ⟨rfl, _, SqL.of hl2⟩, st, cl, rfl, gg.2, fun a xs H3 ra g3 => ⟨L, _, _, rfl, rfl, g3.lst nL hl2, line, put _ _ H3 a xs (gg.trans g3) (tk2.trans (Tk.go g3 gg.2)) (g3.lst nL hl2) ra⟩⟩
      · refine ⟨rfl, iteD (fun e3 => ?_) (fun e3 => ?_)⟩
        · refine ⟨_, .inl (SqL.of hl2), iteD (fun e2 => ?_) (fun e2 => ?_)⟩
          · refine ⟨Or.inl ⟨rfl, _, SqL.of hl2⟩, st, cl, L, _, rfl, gg.2, nL, .inl (SqL.of hl2), ne e2, many, fun v hv H3 g3 => ?_⟩
            obtain ⟨a, ha, rfl⟩ := List.mem_map.mp hv
            obtain ⟨xs, rx⟩ := hr a ha
            refine ⟨st, cl, a, xs, rfl, g3.2, rx.tk (tk2.trans (Tk.go g3 gg.2)), fun b ys H4 rb g4 => ?_⟩
            have hl4 := g4.lst nL (g3.lst nL hl2)
            exact ⟨L, _, _, rfl, rfl, hl4, line, put _ _ H4 b ys ((gg.trans g3).trans g4) ((tk2.trans (Tk.go g3 gg.2)).trans (Tk.go g4 g3.2)) hl4 rb⟩
          · exact ⟨Or.inl ⟨rfl, _, SqL.of hl2⟩, st, cl, rfl, gg.2, fun a xs H3 ra g3 => ⟨L, _, _, rfl, rfl, g3.lst nL hl2, line, put _ _ H3 a xs (gg.trans g3) (tk2.trans (Tk.go g3 gg.2)) (g3.lst nL hl2) ra⟩⟩
        · exact ⟨Or.inl ⟨rfl, _, SqL.of hl2⟩, st, cl, rfl, gg.2, fun a xs H3 ra g3 => ⟨L, _, _, rfl, rfl, g3.lst nL hl2, line, put _ _ H3 a xs (gg.trans g3) (tk2.trans (Tk.go g3 gg.2)) (g3.lst nL hl2) ra⟩⟩
    · obtain ⟨y, z, as, rfl, g, hl, hn, hr⟩ := h
      exact q L as H' hL hl hr (by omega) g

/-! ### _law_same: whether two data are the same, lists and tuples within -/
def sp_same (K : PySem.W.Frag) : Nat → Sp
  | 0 => fun _ _ _ _ => False
  | n + 1 => fun vs H Q _ => ∃ x y d e, vs = [x, y] ∧ Dp K H x d ∧ Dp K H y e ∧ d.depth ≤ n ∧ ∀ b H', (b = true ↔ d = e) → Same H H' → Q (.bl b) H'
theorem not_same {p : Prop} (h : ¬ p) : false = true ↔ p := ⟨(fun z => nomatch z), fun z => absurd z h⟩
theorem seq_same {H H' : Hp} {a : Addr} {xs : List V} (e : Same H H') (h : SqL K H a xs ∨ SqT K H a xs) : SqL K H' a xs ∨ SqT K H' a xs := h.imp e.seq (Same.tup e)
theorem same_loop {n : Nat} {a b : Addr} {xs ys : List V} {ds es : List PyData} {D : Ends} {H0 : Hp} (hx : SqL K H0 a xs ∨ SqT K H0 a xs) (hy : SqL K H0 b ys ∨ SqT K H0 b ys) (hd : DpAll K H0 xs ds) (he : DpAll K H0 ys es) (hn : PyData.depthAll ds ≤ n) (hl : ds.length = es.length)
    (q : ∀ b H', (b = true ↔ ds = es) → Same H0 H' → D.rt (.bl b) H') :
    tSeq (tFor (iRng1 (tCons (tCB (fLenB K) (tCons (fVar 0) tNil)) tNil)) (gName 2) (tIfS (tNot (fTru K (tCall (sp_same K (n + 1)) [] E0 (tCons (tOp (fIx K) (fVar 0) (fVar 2)) (tCons (tOp (fIx K) (fVar 1) (fVar 2)) tNil))))) (tRet (tC (V.bl false))) tNext))
      (tRet (tC (V.bl true))) D [some (.ref a), some (.ref b), none, none] H0 := by
  have lx := DpAll.length hd
  have ly := DpAll.length he
  refine ⟨xs, hx, fun hb => ⟨_, rfl, by omega, by rw [sizeLine_eq] at hb; omega, for_range (n := xs.length) (fun i σ H' => Same H0 H' ∧ (∃ c, σ = [some (.ref a), some (.ref b), c, none]) ∧ ds.take i = es.take i) ⟨Same.refl _, ⟨_, rfl⟩, rfl⟩ (fun i σ H' hi h => ?_) (fun σ H' h => ?_)⟩⟩
  · obtain ⟨sm, ⟨c, rfl⟩, ht⟩ := h
    obtain ⟨v, hv, dv⟩ := DpAll.get hd (i := i) (d := ds[i]) (List.getElem?_eq_getElem (by omega))
    obtain ⟨u, hu, du⟩ := DpAll.get he (i := i) (d := es[i]) (List.getElem?_eq_getElem (by omega))
    have z : (0 : Int) + (i : Int) = (i : Int) := by omega
    have av : atI xs (0 + (i : Int)) = some v := by
      rw [z]
      exact atI_nat hv
    have au : atI ys (0 + (i : Int)) = some u := by
      rw [z]
      exact atI_nat hu
    refine ⟨_, v, seq_same sm hx, av, _, u, seq_same sm hy, au, v, u, ds[i], es[i], rfl, Dp.same sm _ _ dv, Dp.same sm _ _ du, Nat.le_trans (depth_mem (List.getElem_mem _)) hn, fun b H2 hb s2 => ?_⟩
    cases b with
    | true =>
      refine ⟨sm.trans s2, ⟨_, rfl⟩, ?_⟩
      rw [List.take_add_one, List.take_add_one, ht, List.getElem?_eq_getElem (by omega), List.getElem?_eq_getElem (by omega), hb.mp rfl]
    | false =>
      refine q false H2 (not_same fun e => ?_) (sm.trans s2)
      subst e
      exact absurd (hb.mpr rfl) Bool.false_ne_true
  · obtain ⟨sm, ⟨c, rfl⟩, ht⟩ := h
    rw [lx, List.take_length] at ht
    rw [hl, List.take_length] at ht
    exact q true H' ⟨fun _ => ht, fun _ => rfl⟩ sm
theorem ok_same {f : Addr} {fd : FuncData} (F : FnP K "_law_same" s_same f fd) (B : Bf mg) (hm : mg "_law_same" = some (.ref f)) (hk : PySem.W.keepIn K (.ref f) = true) (hb : Binds K fd ["_law_left", "_law_right"] []) :
    ∀ n, FnOk P w K mg base CX0 n f fd ["_law_left", "_law_right"] (sp_same K n) := by
  intro n
  induction n with
  | zero => exact ⟨fun _ _ _ _ h => h.elim, fun _ _ _ _ _ _ _ _ _ _ _ _ _ h => h.elim⟩
  | succ n ih =>
    have F_same : Fn P w K mg base "_law_same" ["_law_left", "_law_right"] n (sp_same K n) := ⟨f, fd, ih, hm, hk, hb⟩
    refine F.ok sc_same (fun vs H Q E h => ?_) (fun cdv A outer s H vs Q E hr h => ⟨_, PSs.nox ((pss_cons (ps_if (q_tru K (p_isiTL K B.isinstance B.tuple B.list (fv 0))) (pss_cons (ps_if (PW.pt (pw_and (pt_not (q_tru K (p_isi K kTup kTup_ok B.isinstance B.tuple PyProof.Rows.boot_tuple (fv 1)))) (pw_and1 (pt_not (q_tru K (p_isi K kLst kLst_ok B.isinstance B.list PyProof.Rows.boot_list (fv 1))))))) (pss_one (ps_ret pe_bl)) pss_nil) (pss_cons (ps_if (PW.pt (pw_or (q_cmp op_ne (p_isi K kTup kTup_ok B.isinstance B.tuple PyProof.Rows.boot_tuple (fv 0)) (p_isi K kTup kTup_ok B.isinstance B.tuple PyProof.Rows.boot_tuple (fv 1))) (pw_or1 (q_cmp op_ne (pe_callB (c_lenB K) (by rfl) B.len PySem.boot_len (pa_cons (fv 0) pa_nil)) (pe_callB (c_lenB K) (by rfl) B.len PySem.boot_len (pa_cons (fv 1) pa_nil)))))) (pss_one (ps_ret pe_bl)) pss_nil) (pss_cons (ps_for PassesOwn.never rfl (pi_range1 (by rfl) B.range (pa_cons (pe_callB (c_lenB K) (by rfl) B.len PySem.boot_len (pa_cons (fv 0) pa_nil)) pa_nil)) (pg_name (i := 2) sc_same.nd rfl (by first | exact Or.inl rfl | exact Or.inr rfl)) (pss_one (ps_if (pt_not (q_tru K (pcall F_same hr (pa_cons (pe_ix (x_ix K) (fv 0) (fv 2) (fun _ _ => rfl)) (pa_cons (pe_ix (x_ix K) (fv 1) (fv 2) (fun _ _ => rfl)) pa_nil))))) (pss_one (ps_ret pe_bl)) pss_nil))) (pss_one (ps_ret pe_bl))))) pss_nil) (pss_cons (ps_if (q_tru K (p_isi K kDct kDct_ok B.isinstance B.dict (by decide +kernel) (fv 0))) pss_never pss_nil) (pss_cons (ps_if (PW.pt (pw_or (q_cmp op_isN (fv 0) pe_non) (pw_or1 (q_cmp op_isN (fv 1) pe_non)))) (pss_one (ps_ret (f_and (pe_cmpR op_isN (fv 0) pe_non (nomark _)) (pe_one (pe_cmpR op_isN (fv 1) pe_non (nomark _)))))) pss_nil) (pss_cons (ps_if (PW.pt (pw_or (q_tru K (p_isi K kBool kBool_ok B.isinstance B.bool PyProof.Rows.boot_bool (fv 0))) (pw_or1 (q_tru K (p_isi K kBool kBool_ok B.isinstance B.bool PyProof.Rows.boot_bool (fv 1)))))) (pss_one (ps_ret (f_and (p_isi K kBool kBool_ok B.isinstance B.bool PyProof.Rows.boot_bool (fv 0)) (f_and (p_isi K kBool kBool_ok B.isinstance B.bool PyProof.Rows.boot_bool (fv 1)) (pe_one (pe_cmpR op_eq (fv 0) (fv 1) (nomark _))))))) pss_nil) (pss_cons (ps_if (q_tru K (p_isi K kInt kInt_ok B.isinstance B.int PyProof.Rows.boot_int (fv 0))) (pss_one (ps_ret (f_and (p_isi K kInt kInt_ok B.isinstance B.int PyProof.Rows.boot_int (fv 1)) (pe_one (pe_cmpR op_eq (fv 0) (fv 1) (nomark _)))))) pss_nil) (pss_one (ps_ret (f_and (p_isi K kStr kStr_ok B.isinstance B.str PyProof.Rows.boot_str (fv 0)) (f_and (p_isi K kStr kStr_ok B.isinstance B.str PyProof.Rows.boot_str (fv 1)) (pe_one (pe_cmpR op_eq (fv 0) (fv 1) (nomark _))))))))))))), ?_⟩)
    · obtain ⟨x, y, d, e, rfl, _⟩ := h
      rfl
    · obtain ⟨x, y, d, e, rfl, hd, he, hn, q⟩ := h
      refine fun T hT => ?_
      have s0 : Same H (upd H T (.tup [.ty "tuple", .ty "list"])) := same_upd hT
      -- two sequences of one kind
      have go : ∀ (a b : Addr) (xs ys : List V) (ds es : List PyData), (SqL K H a xs ∨ SqT K H a xs) → (SqL K H b ys ∨ SqT K H b ys) → DpAll K H xs ds → DpAll K H ys es → PyData.depthAll ds + 1 ≤ n → ds.length = es.length → (∀ b H', (b = true ↔ ds = es) → Same H H' → Q (.bl b) H') →
          ∀ (nx : L2.St → Hp → Prop), tSeq (tFor (iRng1 (tCons (tCB (fLenB K) (tCons (fVar 0) tNil)) tNil)) (gName 2) (tIfS (tNot (fTru K (tCall (sp_same K n) [] E0 (tCons (tOp (fIx K) (fVar 0) (fVar 2)) (tCons (tOp (fIx K) (fVar 1) (fVar 2)) tNil))))) (tRet (tC (V.bl false))) tNext))
            (tRet (tC (V.bl true))) { nx := nx, rt := Q } [some (.ref a), some (.ref b), none, none] (upd H T (.tup [.ty "tuple", .ty "list"])) := by
        intro a b xs ys ds es hx hy hd he hn hl q nx
        obtain ⟨m, rfl⟩ : ∃ m, n = m + 1 := ⟨n - 1, by omega⟩
        exact same_loop (seq_same s0 hx) (seq_same s0 hy) (Dp.sameAll s0 _ _ hd) (Dp.sameAll s0 _ _ he) (by omega) hl fun b H' hb s1 => q b H' hb (s0.trans s1)
      cases hd with
      | non =>
        refine ⟨rfl, iteD (fun _ => ⟨rfl, rfl, q _ _ ?_ s0⟩) (fun z => absurd rfl z)⟩
        cases he <;> simp
      | bl b =>
        cases he with
        | non => exact ⟨rfl, iteD (fun z => nomatch z) (fun _ => ⟨rfl, iteD (fun _ => ⟨rfl, q _ _ (not_same nofun) s0⟩) (fun z => absurd rfl z)⟩)⟩
        | bl c => exact ⟨rfl, iteD (fun z => nomatch z) (fun _ => ⟨rfl, iteD (fun z => nomatch z) (fun _ => ⟨rfl, q _ _ (by simp) s0⟩)⟩)⟩
        | int j => exact ⟨rfl, iteD (fun z => nomatch z) (fun _ => ⟨rfl, iteD (fun z => nomatch z) (fun _ => q _ _ (not_same nofun) s0)⟩)⟩
        | str z => exact ⟨rfl, iteD (fun z => nomatch z) (fun _ => ⟨rfl, iteD (fun z => nomatch z) (fun _ => q _ _ (not_same nofun) s0)⟩)⟩
        | lst k1 k2 => exact ⟨rfl, iteD (fun z => nomatch z) (fun _ => ⟨rfl, iteD (fun z => nomatch z) (fun _ => Or.inl ⟨_, s0.seq k1, q _ _ (not_same nofun) s0⟩)⟩)⟩
        | tup k1 k2 => exact ⟨rfl, iteD (fun z => nomatch z) (fun _ => ⟨rfl, iteD (fun z => nomatch z) (fun _ => Or.inr (Or.inl ⟨_, Same.tup s0 k1, q _ _ (not_same nofun) s0⟩))⟩)⟩
      | int i =>
        cases he with
        | non => exact ⟨rfl, iteD (fun z => nomatch z) (fun _ => ⟨rfl, iteD (fun _ => ⟨rfl, q _ _ (not_same nofun) s0⟩) (fun z => absurd rfl z)⟩)⟩
        | bl c => exact ⟨rfl, iteD (fun z => nomatch z) (fun _ => ⟨rfl, iteD (fun z => nomatch z) (fun _ => q _ _ (not_same nofun) s0)⟩)⟩
        | int j => exact ⟨rfl, iteD (fun z => nomatch z) (fun _ => ⟨rfl, iteD (fun z => nomatch z) (fun _ => ⟨rfl, q _ _ (by simp) s0⟩)⟩)⟩
        | str z => exact ⟨rfl, iteD (fun z => nomatch z) (fun _ => ⟨rfl, iteD (fun z => nomatch z) (fun _ => q _ _ (not_same nofun) s0)⟩)⟩
        | lst k1 k2 => exact ⟨rfl, iteD (fun z => nomatch z) (fun _ => ⟨rfl, iteD (fun z => nomatch z) (fun _ => Or.inl ⟨_, s0.seq k1, Or.inl ⟨_, s0.seq k1, q _ _ (not_same nofun) s0⟩⟩)⟩)⟩
        | tup k1 k2 => exact ⟨rfl, iteD (fun z => nomatch z) (fun _ => ⟨rfl, iteD (fun z => nomatch z) (fun _ => Or.inr (Or.inl ⟨_, Same.tup s0 k1, Or.inr (Or.inl ⟨_, Same.tup s0 k1, q _ _ (not_same nofun) s0⟩)⟩))⟩)⟩
      | str x =>
        cases he with
        | non => exact ⟨rfl, iteD (fun z => nomatch z) (fun _ => ⟨rfl, iteD (fun _ => ⟨rfl, q _ _ (not_same nofun) s0⟩) (fun z => absurd rfl z)⟩)⟩
        | bl c => exact ⟨rfl, iteD (fun z => nomatch z) (fun _ => ⟨rfl, iteD (fun z => nomatch z) (fun _ => q _ _ (not_same nofun) s0)⟩)⟩
        | int j => exact ⟨rfl, iteD (fun z => nomatch z) (fun _ => ⟨rfl, iteD (fun z => nomatch z) (fun _ => q _ _ (not_same nofun) s0)⟩)⟩
        | str z => exact ⟨rfl, iteD (fun z => nomatch z) (fun _ => ⟨rfl, iteD (fun z => nomatch z) (fun _ => ⟨rfl, q _ _ (by simp) s0⟩)⟩)⟩
        | lst k1 k2 => exact ⟨rfl, iteD (fun z => nomatch z) (fun _ => ⟨rfl, iteD (fun z => nomatch z) (fun _ => Or.inl ⟨_, s0.seq k1, Or.inl ⟨_, s0.seq k1, q _ _ (not_same nofun) s0⟩⟩)⟩)⟩
        | tup k1 k2 => exact ⟨rfl, iteD (fun z => nomatch z) (fun _ => ⟨rfl, iteD (fun z => nomatch z) (fun _ => Or.inr (Or.inl ⟨_, Same.tup s0 k1, Or.inr (Or.inl ⟨_, Same.tup s0 k1, q _ _ (not_same nofun) s0⟩)⟩))⟩)⟩
      | @lst a xs ds h1 h2 =>
        refine Or.inl ⟨_, h1, ?_⟩
        have k0 := s0.seq h1
        rw [PyData.depth] at hn
        cases he with
        | non => exact q _ _ (not_same nofun) s0
        | bl c => exact q _ _ (not_same nofun) s0
        | int j => exact q _ _ (not_same nofun) s0
        | str z => exact q _ _ (not_same nofun) s0
        | @lst b ys es k1 k2 =>
          have k3 := s0.seq k1
          refine Or.inl ⟨_, k3, Or.inl ⟨_, k3, nxt (Or.inl ⟨_, k0, Or.inl ⟨_, k3, rfl, _, .inl k0, fun _ => ⟨_, .inl k3, fun _ => ⟨rfl, ?_⟩⟩⟩⟩)⟩⟩
          have l1 := DpAll.length h2
          have l2 := DpAll.length k2
          by_cases e : xs.length = ys.length
          · rw [e, decide_eq_true rfl]
            exact go a b xs ys ds es (.inl h1) (.inl k1) h2 k2 hn (by omega) (fun b H' hb => q b H' ⟨fun z => congrArg PyData.list (hb.mp z), fun z => hb.mpr (PyData.list.inj z)⟩) _
          · rw [decide_eq_false fun z => e (by have := V.int.inj z; omega)]
            refine q _ _ (not_same fun z => e ?_) s0
            have := PyData.list.inj z
            rw [l1, l2, this]
        | tup k1 k2 =>
          have k3 := Same.tup s0 k1
          exact Or.inr (Or.inl ⟨_, k3, nxt (Or.inl ⟨_, k0, Or.inr (Or.inl ⟨_, k3, rfl, q _ _ (not_same nofun) s0⟩)⟩)⟩)
      | @tup a xs ds h1 h2 =>
        refine Or.inr (Or.inl ⟨_, h1, ?_⟩)
        have k0 := Same.tup s0 h1
        rw [PyData.depth] at hn
        cases he with
        | non => exact q _ _ (not_same nofun) s0
        | bl c => exact q _ _ (not_same nofun) s0
        | int j => exact q _ _ (not_same nofun) s0
        | str z => exact q _ _ (not_same nofun) s0
        | lst k1 k2 =>
          have k3 := s0.seq k1
          exact Or.inl ⟨_, k3, Or.inl ⟨_, k3, nxt (Or.inr (Or.inl ⟨_, k0, Or.inl ⟨_, k3, rfl, q _ _ (not_same nofun) s0⟩⟩))⟩⟩
        | @tup b ys es k1 k2 =>
          have k3 := Same.tup s0 k1
          refine Or.inr (Or.inl ⟨_, k3, nxt (Or.inr (Or.inl ⟨_, k0, Or.inr (Or.inl ⟨_, k3, rfl, _, .inr k0, fun _ => ⟨_, .inr k3, fun _ => ⟨rfl, ?_⟩⟩⟩)⟩))⟩)
          have l1 := DpAll.length h2
          have l2 := DpAll.length k2
          by_cases e : xs.length = ys.length
          · rw [e, decide_eq_true rfl]
            exact go a b xs ys ds es (.inr h1) (.inr k1) h2 k2 hn (by omega) (fun b H' hb => q b H' ⟨fun z => congrArg PyData.tuple (hb.mp z), fun z => hb.mpr (PyData.tuple.inj z)⟩) _
          · rw [decide_eq_false fun z => e (by have := V.int.inj z; omega)]
            refine q _ _ (not_same fun z => e ?_) s0
            have := PyData.tuple.inj z
            rw [l1, l2, this]

/-! ### the law's own keys and order -/
theorem ok_sort_key {f : Addr} {fd : FuncData} (F : FnP K "_law_sort_key" s_sort_key f fd) (B : Bf mg) : FnOk P w K mg base CX0 1 f fd ["_law_value_here"] (sp_key K) := by
  refine F.ok sc_sort_key (fun vs H Q E h => ?_) (fun cdv A outer s H vs Q E hr h => ⟨_, PSs.nox ((pss_cons (ps_if (q_cmp op_isN (fv 0) pe_non) (pss_one (ps_ret (pe_tup (pa_cons pe_int (pa_cons pe_int pa_nil))))) pss_nil) (pss_cons (ps_if (q_tru K (p_isi K kBool kBool_ok B.isinstance B.bool PyProof.Rows.boot_bool (fv 0))) (pss_one (ps_ret (pe_tup (pa_cons pe_int (pa_cons (pe_callTy c_int (by rfl) B.int PyProof.Rows.boot_int (pa_cons (fv 0) pa_nil)) pa_nil))))) pss_nil) (pss_cons (ps_if (q_tru K (p_isi K kInt kInt_ok B.isinstance B.int PyProof.Rows.boot_int (fv 0))) (pss_one (ps_ret (pe_tup (pa_cons pe_int (pa_cons (fv 0) pa_nil))))) pss_nil) (pss_one (ps_ret (pe_tup (pa_cons pe_int (pa_cons (fv 0) pa_nil))))))))), ?_⟩)
  · obtain ⟨v, rfl, _⟩ := h
    rfl
  · obtain ⟨v, rfl, hv, q⟩ := h
    have two : 2 ≤ sizeLine := by decide
    cases v with
    | non => exact ⟨rfl, iteD (fun _ => ⟨two, fun p hp => q _ _ (.tup (SqT.of upd_same) (.cons (.int 0) (.cons (.int 0) .nil))) (same_upd hp)⟩) (fun e => absurd rfl e)⟩
    | bl b =>
      refine ⟨rfl, iteD (fun e => nomatch e) (fun _ => ⟨two, fun p hp => q _ _ (.tup (SqT.of upd_same) (.cons (.int 1) (.cons ?_ .nil))) (same_upd hp)⟩)⟩
      cases b
      · exact .int 0
      · exact .int 1
    | int i => exact ⟨rfl, iteD (fun e => nomatch e) (fun _ => ⟨two, fun p hp => q _ _ (.tup (SqT.of upd_same) (.cons (.int 2) (.cons (.int i) .nil))) (same_upd hp)⟩)⟩
    | str z => exact ⟨rfl, iteD (fun e => nomatch e) (fun _ => ⟨two, fun p hp => q _ _ (.tup (SqT.of upd_same) (.cons (.int 3) (.cons (.str z) .nil))) (same_upd hp)⟩)⟩
    | _ => cases hv
theorem ok_mark {f : Addr} {fd : FuncData} (F : FnP K "_law_mark" s_mark f fd) (B : Bf mg) (F_sort_key : Fn P w K mg base "_law_sort_key" ["_law_value_here"] 1 (sp_key K)) : FnOk P w K mg base CX0 2 f fd ["_law_row_here"] (sp_rowkey K) := by
  refine F.ok sc_mark (fun vs H Q E h => ?_) (fun cdv A outer s H vs Q E hr h => ⟨_, PSs.nox ((pss_one (ps_ret (pe_callTy (c_tuple K) (by rfl) B.tuple PyProof.Rows.boot_tuple (pa_cons (pe_lc (own := [("_law_value_here", 1)]) (g := gName 1) rfl sc_mark.nd (p_seq K (fv 0)) (blkOk_by (own := [("_law_value_here", 1)]) (N := ["_law_row_here", "_law_value_here"]) (sc := defScope s_mark) (by decide +kernel)) (fun _ _ _ _ _ => pg_name (i := 1) sc_mark.nd rfl (Or.inl rfl)) (fun _ _ _ _ _ => pts_nil) (fun _ _ _ _ _ => (pcall F_sort_key hr (pa_cons (fv 1) pa_nil)))) pa_nil))))), ?_⟩)
  · obtain ⟨a, xs, rfl, _⟩ := h
    rfl
  · obtain ⟨a, xs, rfl, ⟨hx, hf, hl⟩, q⟩ := h
    refine .inr ⟨⟨_, hx⟩, fun D hD => lc_tup (xs := xs) (fun i H' => Same H H' ∧ ∃ ys, H' D = some (.lst ys) ∧ ys.length = i ∧ DpAll K H' ys ((xs.take i).map keyD)) ⟨same_upd hD, [], upd_same, rfl, .nil⟩ (fun i H' _ h => Same.tup h.1 hx) (fun i x H' hi h => ?_) (fun H' h => ?_)⟩
    · obtain ⟨sm, ys, hy, hn, hd⟩ := h
      have hm : x ∈ xs := List.mem_of_getElem? hi
      have hlt : i < xs.length := (List.getElem?_eq_some_iff.mp hi).1
      refine ⟨rfl, x, rfl, hf x hm, fun p H2 dp s2 => ⟨ys, s2 _ _ hy, small1000 (by omega), fun b u hb => ?_, ys ++ [p], upd_same, by rw [List.length_append, hn]; rfl, ?_⟩⟩
      · rw [upd_ne (ne_of_none hb hD)]
        exact s2 _ _ (sm _ _ hb)
      · have tp : Tk H2 (upd H2 D (.lst (ys ++ [p]))) := Tk.put (s2 _ _ hy)
        rw [List.take_add_one, hi, List.map_append]
        exact DpAll.app (Dp.tkAll ((Tk.same s2).trans tp) _ _ (tupAll_keys fun u hu => hf u (List.mem_of_mem_take hu)) hd) (.cons (Dp.tk tp _ _ (tupD_key (hf x hm)) dp) .nil)
    · obtain ⟨sm, ys, hy, hn, hd⟩ := h
      rw [List.take_length] at hd
      exact ⟨ys, .inl (SqL.of hy), fun p H2 hp s2 => q _ _ (.tup hp (Dp.sameAll s2 _ _ hd)) (sm.trans s2)⟩
theorem rowLt_drop : ∀ {i : Nat} {xs ys : List V}, xs.take i = ys.take i → i ≤ xs.length → i ≤ ys.length → rowLt xs ys = rowLt (xs.drop i) (ys.drop i)
  | 0, _, _, _, _, _ => rfl
  | i + 1, [], _, _, h, _ => absurd h (by simp)
  | i + 1, _ :: _, [], _, _, h => absurd h (by simp)
  | i + 1, x :: xs, y :: ys, h, h1, h2 => by
    rw [List.take_succ_cons, List.take_succ_cons] at h
    injection h with e h
    subst e
    rw [rowLt, if_pos rfl, List.drop_succ_cons, List.drop_succ_cons]
    exact rowLt_drop h (by simpa using h1) (by simpa using h2)
theorem rowLt_at {i : Nat} {xs ys : List V} {x y : V} (h : xs.take i = ys.take i) (hx : xs[i]? = some x) (hy : ys[i]? = some y) (ne : x ≠ y) : rowLt xs ys = ltV x y := by
  have lx := (List.getElem?_eq_some_iff.mp hx).1
  have ly := (List.getElem?_eq_some_iff.mp hy).1
  rw [rowLt_drop h (by omega) (by omega), List.drop_eq_getElem_cons lx, List.drop_eq_getElem_cons ly, (List.getElem?_eq_some_iff.mp hx).2, (List.getElem?_eq_some_iff.mp hy).2, rowLt, if_neg ne]
theorem rowLt_len {xs ys : List V} (h : xs.take (min xs.length ys.length) = ys.take (min xs.length ys.length)) : rowLt xs ys = decide (xs.length < ys.length) := by
  rw [rowLt_drop h (Nat.min_le_left _ _) (Nat.min_le_right _ _)]
  by_cases e : xs.length < ys.length
  · rw [Nat.min_eq_left (Nat.le_of_lt e), List.drop_length, decide_eq_true e, List.drop_eq_getElem_cons e]
    rfl
  · rw [Nat.min_eq_right (by omega), List.drop_length, decide_eq_false e]
    cases xs.drop ys.length <;> rfl
theorem b1_if (c : Prop) [Decidable c] : (if decide c = true then 1 else 0 : Int) = b1 (decide c) := by
  unfold b1
  cases decide c <;> rfl
theorem ok_row_order {f : Addr} {fd : FuncData} (F : FnP K "_law_row_order" s_row_order f fd) (B : Bf mg) (F_sort_key : Fn P w K mg base "_law_sort_key" ["_law_value_here"] 1 (sp_key K)) : FnOk P w K mg base CX0 2 f fd ["_law_one_here", "_law_two"] (sp_cmprows K) := by
  refine F.ok sc_row_order (fun vs H Q E h => ?_) (fun cdv A outer s H vs Q E hr h => ⟨_, PSs.nox ((pss_cons (ps_for PassesOwn.never rfl (pi_range1 (by rfl) B.range (pa_cons (pe_callB c_min (by rfl) B.min PyProof.Rows.boot_min (pa_cons (pe_callB (c_len K) (by rfl) B.len PySem.boot_len (pa_cons (fv 0) pa_nil)) (pa_cons (pe_callB (c_len K) (by rfl) B.len PySem.boot_len (pa_cons (fv 1) pa_nil)) pa_nil))) pa_nil)) (pg_name (i := 2) sc_row_order.nd rfl (by first | exact Or.inl rfl | exact Or.inr rfl)) (pss_cons (ps_par (i := 3) (j := 4) (by rfl) sc_row_order.nd rfl rfl (by decide) rfl rfl (pa_cons (pcall F_sort_key hr (pa_cons (pe_ix (x_ix K) (fv 0) (fv 2) (fun _ _ => rfl)) pa_nil)) (pa_cons (pcall F_sort_key hr (pa_cons (pe_ix (x_ix K) (fv 1) (fv 2) (fun _ _ => rfl)) pa_nil)) pa_nil)) (by rfl)) (pss_one (ps_if (q_cmp (o_neD K hr) (fv 3) (fv 4)) (pss_one (ps_ret (pe_op o_sub (pe_callTy c_int (by rfl) B.int PyProof.Rows.boot_int (pa_cons (pe_cmpR (o_gtD K hr) (fv 3) (fv 4) (nomark _)) pa_nil)) (pe_callTy c_int (by rfl) B.int PyProof.Rows.boot_int (pa_cons (pe_cmpR (o_ltD K hr) (fv 3) (fv 4) (nomark _)) pa_nil))))) pss_nil)))) (pss_one (ps_ret (pe_op o_sub (pe_callTy c_int (by rfl) B.int PyProof.Rows.boot_int (pa_cons (pe_cmpR o_gt (pe_callB (c_len K) (by rfl) B.len PySem.boot_len (pa_cons (fv 0) pa_nil)) (pe_callB (c_len K) (by rfl) B.len PySem.boot_len (pa_cons (fv 1) pa_nil)) (nomark _)) pa_nil)) (pe_callTy c_int (by rfl) B.int PyProof.Rows.boot_int (pa_cons (pe_cmpR o_lt (pe_callB (c_len K) (by rfl) B.len PySem.boot_len (pa_cons (fv 0) pa_nil)) (pe_callB (c_len K) (by rfl) B.len PySem.boot_len (pa_cons (fv 1) pa_nil)) (nomark _)) pa_nil))))))), ?_⟩)
  · obtain ⟨a, b, xs, ys, rfl, _⟩ := h
    rfl
  · obtain ⟨a, b, xs, ys, rfl, hx, hy, q⟩ := h
    have lx := hx.2.2
    have ly := hy.2.2
    have fx := hx.2.1
    have fy := hy.2.1
    have hmin : (if ((ys.length : Nat) : Int) < ((xs.length : Nat) : Int) then ((ys.length : Nat) : Int) else ((xs.length : Nat) : Int)).toNat = min xs.length ys.length := by split <;> omega
    refine ⟨_, .inr hx.1, _, .inr hy.1, _, rfl, by split <;> omega, by split <;> omega, for_range (n := (if ((ys.length : Nat) : Int) < ((xs.length : Nat) : Int) then ((ys.length : Nat) : Int) else ((xs.length : Nat) : Int)).toNat) (fun i σ H' => Same H H' ∧ (∃ c d e, σ = [some (.ref a), some (.ref b), c, d, e]) ∧ xs.take i = ys.take i) ⟨Same.refl _, ⟨_, _, _, rfl⟩, rfl⟩ (fun i σ H' hi h => ?_) (fun σ H' h => ?_)⟩
    · obtain ⟨sm, ⟨c, d, e, rfl⟩, ht⟩ := h
      rw [hmin] at hi
      have gx : xs[i]? = some xs[i] := List.getElem?_eq_getElem (by omega)
      have gy : ys[i]? = some ys[i] := List.getElem?_eq_getElem (by omega)
      have z : (0 : Int) + (i : Int) = (i : Int) := by omega
      have ax : atI xs (0 + (i : Int)) = some xs[i] := by
        rw [z]
        exact atI_nat gx
      have ay : atI ys (0 + (i : Int)) = some ys[i] := by
        rw [z]
        exact atI_nat gy
      have ux := fx xs[i] (List.getElem_mem _)
      have uy := fy ys[i] (List.getElem_mem _)
      refine ⟨_, xs[i], .inr (Same.tup sm hx.1), ax, xs[i], rfl, ux, fun p H1 dp s1 => ⟨_, ys[i], .inr (Same.tup (sm.trans s1) hy.1), ay, ys[i], rfl, uy, fun r H2 dr s2 => ?_⟩⟩
      have dp2 := Dp.same s2 _ _ dp
      refine ⟨_, _, rfl, keyD xs[i], keyD ys[i], dp2, dr, shaped_key ux, shaped_key uy, ?_⟩
      rw [eqv_key ux uy]
      by_cases e : xs[i] = ys[i]
      · rw [decide_eq_true e]
        refine ⟨(sm.trans s1).trans s2, ⟨_, _, _, rfl⟩, ?_⟩
        rw [List.take_add_one, List.take_add_one, ht, gx, gy, e]
      · rw [decide_eq_false e]
        refine ⟨keyD xs[i], keyD ys[i], _, dp2, dr, shaped_key ux, shaped_key uy, ltD_key ux uy e, keyD xs[i], keyD ys[i], _, dp2, dr, shaped_key ux, shaped_key uy, ltD_key ux uy e, ?_⟩
        have h1 := rowLt_at ht gx gy e
        have h2 := rowLt_at ht.symm gy gx fun z => e z.symm
        have := ord_diff fx fy
        rw [h1, h2] at this
        have q2 := q H2 ((sm.trans s1).trans s2)
        rw [← this] at q2
        exact q2
    · obtain ⟨sm, ⟨c, d, e, rfl⟩, ht⟩ := h
      rw [hmin] at ht
      refine ⟨_, .inr (Same.tup sm hx.1), _, .inr (Same.tup sm hy.1), _, .inr (Same.tup sm hx.1), _, .inr (Same.tup sm hy.1), ?_⟩
      have h1 := rowLt_len ht
      have h2 := rowLt_len (xs := ys) (ys := xs) (by rw [Nat.min_comm]; exact ht.symm)
      have := ord_diff fx fy
      have q2 := q H' sm
      rw [← this, h1, h2] at q2
      have c1 : decide (((ys.length : Nat) : Int) < ((xs.length : Nat) : Int)) = decide (ys.length < xs.length) := by simp
      have c2 : decide (((xs.length : Nat) : Int) < ((ys.length : Nat) : Int)) = decide (xs.length < ys.length) := by simp
      show Q (.int ((if decide (((ys.length : Nat) : Int) < ((xs.length : Nat) : Int)) = true then 1 else 0) - (if decide (((xs.length : Nat) : Int) < ((ys.length : Nat) : Int)) = true then 1 else 0))) H'
      rw [c1, c2]
      exact q2

/-! ### the law -/
theorem use_same {n : Nat} {x y : V} {d e : PyData} {H : Hp} {Q : VK} {E : XK} (hx : Dp K H x d) (hy : Dp K H y e) (hd : d.depth ≤ n) (eq : d = e) (q : ∀ H', Same H H' → Q (.bl true) H') : sp_same K (n + 1) [x, y] H Q E :=
  ⟨x, y, d, e, rfl, hx, hy, hd, fun b H' hb s => by rw [hb.mpr eq]; exact q H' s⟩
/-- the rows at rs are xss -/
def Rows (K : PySem.W.Frag) (H : Hp) (rs : List Addr) (xss : List (List V)) : Prop := rs.length = xss.length ∧ ∀ (i : Nat) r xs, rs[i]? = some r → xss[i]? = some xs → Row K H r xs
theorem Rows.tk {H H' : Hp} {rs : List Addr} {xss : List (List V)} (h : Rows K H rs xss) (t : Tk H H') : Rows K H' rs xss := ⟨h.1, fun i r xs a b => (h.2 i r xs a b).tk t⟩
theorem Rows.of {H : Hp} : ∀ {rs : List Addr}, (∀ r ∈ rs, ∃ xs, Row K H r xs) → ∃ xss, Rows K H rs xss
  | [], _ => ⟨[], rfl, fun _ _ _ h => (nomatch h)⟩
  | r :: rs, h => by
    obtain ⟨xs, hx⟩ := h r (List.mem_cons_self ..)
    obtain ⟨xss, hl, hr⟩ := Rows.of fun u hu => h u (List.mem_cons_of_mem _ hu)
    refine ⟨xs :: xss, by rw [List.length_cons, List.length_cons, hl], fun i u us a b => ?_⟩
    cases i with
    | zero =>
      cases a
      cases b
      exact hx
    | succ i => exact hr i u us a b
theorem Rows.at {H : Hp} {rs : List Addr} {xss : List (List V)} (h : Rows K H rs xss) {i : Nat} (hi : i < rs.length) : ∃ r xs, rs[i]? = some r ∧ xss[i]? = some xs ∧ Row K H r xs :=
  have hx : i < xss.length := h.1 ▸ hi
  ⟨rs[i], xss[i], List.getElem?_eq_getElem hi, List.getElem?_eq_getElem hx, h.2 i _ _ (List.getElem?_eq_getElem hi) (List.getElem?_eq_getElem hx)⟩
def keyRow (xs : List V) : PyData := .tuple (xs.map keyD)
theorem depth_keyRow {xs : List V} (h : ∀ x ∈ xs, FlatV x) : (keyRow xs).depth ≤ 3 := by
  have h1 : ∀ {ys : List V}, (∀ x ∈ ys, FlatV x) → PyData.depthAll (ys.map keyD) ≤ 1 := by
    intro ys
    induction ys with
    | nil => exact fun _ => by decide
    | cons y ys ih =>
      intro hy
      have := ih fun u hu => hy u (List.mem_cons_of_mem _ hu)
      rw [List.map_cons, PyData.depthAll, depth_key y (hy y (List.mem_cons_self ..))]
      omega
  unfold keyRow
  rw [PyData.depth]
  have := h1 h
  omega
theorem tupD_keyRow {xs : List V} (h : ∀ x ∈ xs, FlatV x) : tupD (keyRow xs) = true := by
  unfold keyRow
  rw [tupD]
  exact tupAll_keys h
theorem tupAll_map {xss : List (List V)} (h : ∀ xs ∈ xss, ∀ x ∈ xs, FlatV x) : tupAll (xss.map keyRow) = true := by
  induction xss with
  | nil => rfl
  | cons xs xss ih =>
    rw [List.map_cons, tupAll, tupD_keyRow (h xs (List.mem_cons_self ..)), ih fun u hu => h u (List.mem_cons_of_mem _ hu)]
    rfl
theorem Rows.flat {H : Hp} {rs : List Addr} {xss : List (List V)} (h : Rows K H rs xss) : ∀ xs ∈ xss, ∀ x ∈ xs, FlatV x := fun xs hx => by
  obtain ⟨i, hi, e⟩ := List.mem_iff_getElem.mp hx
  obtain ⟨r, xs', a, b, c⟩ := h.at (i := i) (h.1 ▸ hi)
  rw [List.getElem?_eq_getElem hi, e] at b
  cases b
  exact c.2.1
theorem at_ref {rs : List Addr} {i : Nat} {r : Addr} (h : rs[i]? = some r) : atI (rs.map V.ref) (0 + (i : Int)) = some (.ref r) := by
  rw [show (0 : Int) + (i : Int) = (i : Int) by omega]
  exact atI_nat (by rw [List.getElem?_map, h]; rfl)
def sp_law (K : PySem.W.Frag) : Sp := fun vs H Q _ => ∃ (a : Addr) (ns : List Int), vs = [.ref a] ∧ SqL K H a (ns.map V.int) ∧ ns.length ≤ 63 ∧ ∀ H', Q (.bl true) H'
theorem ok_law {f : Addr} {fd : FuncData} (F : FnP K "law" s_law f fd) (B : Bf mg) (F_store : Fn P w K mg base "_law_store" ["_law_script"] 2 (sp_store K)) (F_rows : Fn P w K mg base "_law_rows" ["_law_store_here", "_law_usual", "_law_most"] 7 (sp_rows K)) (F_near : Fn P w K mg base "_law_near" ["_law_store_here", "_law_row_here"] 6 (sp_near K))
    (F_same : Fn P w K mg base "_law_same" ["_law_left", "_law_right"] 4 (sp_same K 4)) (F_mark : Fn P w K mg base "_law_mark" ["_law_row_here"] 2 (sp_rowkey K)) (F_row_keyP : Fn P w K mg base "row_key" ["row"] 3 (sp_rowkey K)) (K_row_keyP : FnK P w K mg base "row_key" ["row"] 0 3 (sp_rowkey K))
    (F_sort_key : Fn P w K mg base "_law_sort_key" ["_law_value_here"] 1 (sp_key K)) (F_sort_keyP : Fn P w K mg base "sort_key" ["value"] 2 (sp_key K)) (K_sort_keyP : FnK P w K mg base "sort_key" ["value"] 0 2 (sp_key K))
    (F_row_order : Fn P w K mg base "_law_row_order" ["_law_one_here", "_law_two"] 2 (sp_cmprows K)) (F_compare_rowsP : Fn P w K mg base "compare_rows" ["left", "right"] 4 (sp_cmprows K)) (K_compare_rowsP : FnK P w K mg base "compare_rows" ["left", "right"] 0 4 (sp_cmprows K)) :
    FnOk P w K mg base CX0 8 f fd ["_law_script"] (sp_law K) := by
  refine F.ok sc_law (fun vs H Q E h => ?_) (fun cdv A outer s H vs Q E hr h => ⟨_, PSs.nox ((pss_cons (ps_set (i := 1) sc_law.nd rfl (by first | exact Or.inl rfl | exact Or.inr rfl) (pcall F_store hr (pa_cons (fv 0) pa_nil))) (pss_cons (ps_set (i := 2) sc_law.nd rfl (by first | exact Or.inl rfl | exact Or.inr rfl) (pcall F_rows hr (pa_cons (fv 1) (pa_cons pe_int (pa_cons pe_int pa_nil))))) (pss_cons (ps_set (i := 2) sc_law.nd rfl (by first | exact Or.inl rfl | exact Or.inr rfl) (pe_op (o_add K) (pe_op (o_add K) (fv 2) (pe_lc (own := [("_law_row_here", 3)]) (g := gName 3) rfl sc_law.nd (p_seq K (fv 2)) (blkOk_by (own := [("_law_row_here", 3)]) (N := ["_law_script", "_law_store_here", "_law_rows_here", "_law_row_here", "_law_keys", "_law_key", "_law_value_here", "_law_due", "_law_k", "_law_n"]) (sc := defScope s_law) (by decide +kernel)) (fun _ _ _ _ _ => pg_name (i := 3) sc_law.nd rfl (Or.inl rfl)) (fun _ _ _ _ _ => pts_nil) (fun _ _ _ _ _ => (pcall F_near hr (pa_cons (fv 1) (pa_cons (fv 3) pa_nil)))))) (pe_lst (pa_cons (pe_tup pa_nil) pa_nil)))) (pss_cut (ps_set (i := 4) sc_law.nd rfl (by first | exact Or.inl rfl | exact Or.inr rfl) (pe_lst pa_nil)) (pss_cut (ps_for PassesOwn.never rfl (p_seq K (fv 2)) (pg_name (i := 3) sc_law.nd rfl (by first | exact Or.inl rfl | exact Or.inr rfl)) (pss_cons (ps_set (i := 5) sc_law.nd rfl (by first | exact Or.inl rfl | exact Or.inr rfl) (pcall F_row_keyP hr (pa_cons (fv 3) pa_nil))) (pss_cons (ps_if (PW.pt (pw_or (pt_not (q_tru K (pcall F_same hr (pa_cons (pcall F_mark hr (pa_cons (fv 3) pa_nil)) (pa_cons (fv 5) pa_nil))))) (pw_or1 (pt_not (q_tru K (pcall F_same hr (pa_cons (pcall F_mark hr (pa_cons (fv 3) pa_nil)) (pa_cons (pcallK K_row_keyP hr (pk_cons (fv 3) pk_nil)) pa_nil)))))))) (pss_one (ps_ret pe_bl)) pss_nil) (pss_cons (ps_expr (pe_bm PySem.F.plainAttrs_list PySem.F.slot_list_append PySem.F.type_list_append mt_append (fv 4) (pa_cons (fv 5) pa_nil))) (pss_one (ps_for PassesOwn.never rfl (p_seq K (fv 3)) (pg_name (i := 6) sc_law.nd rfl (by first | exact Or.inl rfl | exact Or.inr rfl)) (pss_cons (ps_set (i := 7) sc_law.nd rfl (by first | exact Or.inl rfl | exact Or.inr rfl) (pcall F_sort_key hr (pa_cons (fv 6) pa_nil))) (pss_one (ps_if (PW.pt (pw_or (pt_not (q_tru K (pcall F_same hr (pa_cons (fv 7) (pa_cons (pcall F_sort_keyP hr (pa_cons (fv 6) pa_nil)) pa_nil))))) (pw_or1 (pt_not (q_tru K (pcall F_same hr (pa_cons (fv 7) (pa_cons (pcallK K_sort_keyP hr (pk_cons (fv 6) pk_nil)) pa_nil)))))))) (pss_one (ps_ret pe_bl)) pss_nil))))))))) (pss_cons (ps_for PassesOwn.never rfl (pi_range1 (by rfl) B.range (pa_cons (pe_callB (c_len K) (by rfl) B.len PySem.boot_len (pa_cons (fv 2) pa_nil)) pa_nil)) (pg_name (i := 8) sc_law.nd rfl (by first | exact Or.inl rfl | exact Or.inr rfl)) (pss_one (ps_for PassesOwn.never rfl (pi_range1 (by rfl) B.range (pa_cons (pe_callB (c_len K) (by rfl) B.len PySem.boot_len (pa_cons (fv 2) pa_nil)) pa_nil)) (pg_name (i := 9) sc_law.nd rfl (by first | exact Or.inl rfl | exact Or.inr rfl)) (pss_cons (ps_set (i := 7) sc_law.nd rfl (by first | exact Or.inl rfl | exact Or.inr rfl) (pcall F_row_order hr (pa_cons (pe_ix (x_ix K) (fv 2) (fv 8) (fun _ _ => rfl)) (pa_cons (pe_ix (x_ix K) (fv 2) (fv 9) (fun _ _ => rfl)) pa_nil)))) (pss_cons (ps_if (pt_not (q_tru K (pcall F_same hr (pa_cons (fv 7) (pa_cons (pcall F_compare_rowsP hr (pa_cons (pe_ix (x_ix K) (fv 2) (fv 8) (fun _ _ => rfl)) (pa_cons (pe_ix (x_ix K) (fv 2) (fv 9) (fun _ _ => rfl)) pa_nil))) pa_nil))))) (pss_one (ps_ret pe_bl)) pss_nil) (pss_cons (ps_if (pt_not (q_tru K (pcall F_same hr (pa_cons (fv 7) (pa_cons (pcallK K_compare_rowsP hr (pk_cons (pe_ix (x_ix K) (fv 2) (fv 8) (fun _ _ => rfl)) (pk_cons (pe_ix (x_ix K) (fv 2) (fv 9) (fun _ _ => rfl)) pk_nil))) pa_nil))))) (pss_one (ps_ret pe_bl)) pss_nil) (pss_one (ps_if (q_cmp op_ne (fv 7) (pe_op o_sub (pe_callTy c_int (by rfl) B.int PyProof.Rows.boot_int (pa_cons (pe_cmpR (o_gtD K hr) (pe_ix (x_ix K) (fv 4) (fv 8) (fun _ _ => rfl)) (pe_ix (x_ix K) (fv 4) (fv 9) (fun _ _ => rfl)) (nomark _)) pa_nil)) (pe_callTy c_int (by rfl) B.int PyProof.Rows.boot_int (pa_cons (pe_cmpR (o_ltD K hr) (pe_ix (x_ix K) (fv 4) (fv 8) (fun _ _ => rfl)) (pe_ix (x_ix K) (fv 4) (fv 9) (fun _ _ => rfl)) (nomark _)) pa_nil)))) (pss_one (ps_ret pe_bl)) pss_nil)))))))) (pss_one (ps_ret pe_bl))))))))), ?_⟩)
  · obtain ⟨a, ns, rfl, _⟩ := h
    rfl
  · obtain ⟨a, ns, rfl, hS, hn, q⟩ := h
    have line : ∀ n : Nat, n ≤ 1000 → n ≤ sizeLine := fun n h => Nat.le_of_lt (small1000 h)
    refine ⟨a, ns, rfl, hS, by omega, fun st cl H1 hst s1 hSt => ?_⟩
    refine ⟨st, cl, _, _, rfl, hSt, by decide, by decide, by decide, fun L as H2 hL hl hr hn2 g2 => ?_⟩
    have nL : L ≠ st := hSt.ne_none hL
    have hl7 : as.length ≤ 7 := by omega
    -- the rows beside them
    refine Or.inl ⟨⟨_, SqL.of hl⟩, fun D hD => lc_list (xs := as.map V.ref) (fun i H' => Go st cl H2 H' ∧ H' L = some (.lst (as.map V.ref)) ∧ ∃ bs : List Addr, H' D = some (.lst (bs.map V.ref)) ∧ bs.length = i ∧ ∀ b ∈ bs, ∃ xs, Row K H' b xs) ⟨(Go.refl g2.2).lay g2.2 hD, by rw [upd_ne (ne_of_none hl hD)]; exact hl, [], upd_same, rfl, fun _ h => (nomatch h)⟩ (fun i H' _ h => SqL.of h.2.1) (fun i x H' hx h => ?_) (fun H3 h => ?_)⟩
    · obtain ⟨g, hl', bs, hb, hn3, hr3⟩ := h
      rw [List.getElem?_map] at hx
      obtain ⟨r, hr1, rfl⟩ := Option.map_eq_some_iff.mp hx
      have hi : i < as.length := (List.getElem?_eq_some_iff.mp hr1).1
      obtain ⟨xs, rx⟩ := hr r (List.mem_of_getElem? hr1)
      refine ⟨rfl, st, cl, r, xs, rfl, g.2, rx.tk (Tk.go g g2.2), fun b ys H4 rb g4 => ⟨_, g4.lst (g2.2.ne_none hD) hb, ?_, (g.trans g4).lay g2.2 hD, ?_, bs ++ [b], ?_, by rw [List.length_append, hn3]; rfl, fun u hu => ?_⟩⟩
      · rw [List.length_map]
        exact small1000 (by omega)
      · rw [upd_ne (ne_of_none hl hD)]
        exact g4.lst nL hl'
      · rw [upd_same, List.map_append]
        rfl
      · have tp : Tk H4 (upd H4 D (.lst (bs.map V.ref ++ [.ref b]))) := Tk.put (g4.lst (g2.2.ne_none hD) hb)
        rcases List.mem_append.mp hu with h | h
        · obtain ⟨zs, rz⟩ := hr3 u h
          exact ⟨zs, rz.tk ((Tk.go g4 g.2).trans tp)⟩
        · rw [List.mem_singleton.mp h]
          exact ⟨ys, rb.tk tp⟩
    · obtain ⟨g, hl', bs, hb, hn3, hr3⟩ := h
      rw [List.length_map] at hn3
      have t23 := Tk.go g g2.2
      refine Or.inl ⟨_, _, hl', hb, line _ (by rw [List.length_map, List.length_map]; omega), fun p1 hp1 => ⟨Nat.zero_le _, fun t ht => ⟨line 1 (by decide), fun p2 hp2 => ?_⟩⟩⟩
      have sA : Same H3 (upd H3 p1 (.lst (as.map V.ref ++ bs.map V.ref))) := same_upd hp1
      have sB := same_upd (o := .tup []) ht
      have sC := same_upd (o := .lst [.ref t]) hp2
      refine Or.inl ⟨as.map V.ref ++ bs.map V.ref, [.ref t], sC _ _ (sB _ _ upd_same), upd_same, line _ (by rw [List.length_append, List.length_map, List.length_map]; show _ + 1 ≤ _; omega), fun R hR => ?_⟩
      have sD := same_upd (o := .lst (as.map V.ref ++ bs.map V.ref ++ [.ref t])) hR
      have s37 := ((sA.trans sB).trans sC).trans sD
      obtain ⟨xss, hX⟩ := Rows.of (K := K) (rs := as ++ bs ++ [t]) (H := upd (upd (upd (upd H3 p1 (.lst (as.map V.ref ++ bs.map V.ref))) t (.tup [])) p2 (.lst [.ref t])) R (.lst (as.map V.ref ++ bs.map V.ref ++ [.ref t]))) (fun r hr0 => by
        rcases List.mem_append.mp hr0 with h | h
        · rcases List.mem_append.mp h with h | h
          · obtain ⟨xs, rx⟩ := hr r h
            exact ⟨xs, rx.tk (t23.trans (Tk.same s37))⟩
          · obtain ⟨xs, rx⟩ := hr3 r h
            exact ⟨xs, rx.tk (Tk.same s37)⟩
        · rw [List.mem_singleton.mp h]
          exact ⟨[], SqT.of (sD _ _ (sC _ _ upd_same)), fun _ h => (nomatch h), by decide⟩)
      have hlen : (as ++ bs ++ [t]).length ≤ 15 := by
        rw [List.length_append, List.length_append]
        show _ + 1 ≤ 15
        omega
      have hR7 : (upd (upd (upd (upd H3 p1 (.lst (as.map V.ref ++ bs.map V.ref))) t (.tup [])) p2 (.lst [.ref t])) R (.lst (as.map V.ref ++ bs.map V.ref ++ [.ref t]))) R = some (.lst ((as ++ bs ++ [t]).map V.ref)) := by
        rw [upd_same, List.map_append, List.map_append]
        rfl
      generalize as ++ bs ++ [t] = rs at hX hlen hR7
      have hrs : xss.length = rs.length := hX.1.symm
      -- keys = []
      refine cutP (fun σ1 H' => ∃ Kl c3 c5 c6 c7 c8 c9, σ1 = [some (.ref a), some (.ref st), some (.ref R), c3, some (.ref Kl), c5, c6, c7, c8, c9] ∧ R ≠ Kl ∧ Rows K H' rs xss ∧ H' R = some (.lst (rs.map V.ref)) ∧ H' Kl = some (.lst [])) ?_ (fun rest => ⟨Nat.zero_le _, fun Kl hKl => rest _ _ ⟨Kl, _, _, _, _, _, _, rfl, ne_of_none hR7 hKl, hX.tk (Tk.lay hKl), same_upd hKl _ _ hR7, upd_same⟩⟩)
      rintro σ1 H' ⟨Kl, c3, c5, c6, c7, c8, c9, rfl, nK, hX', hR', hK'⟩
      have fl := hX.flat
      -- the first loop
      refine cutP (fun σ1 H' => ∃ c3 c5 c6 c7 c8 c9, σ1 = [some (.ref a), some (.ref st), some (.ref R), c3, some (.ref Kl), c5, c6, c7, c8, c9] ∧ Rows K H' rs xss ∧ H' R = some (.lst (rs.map V.ref)) ∧ ∃ ks, H' Kl = some (.lst ks) ∧ DpAll K H' ks (xss.map keyRow)) ?_ (fun rest => ?_)
      · rintro σ1 H8 ⟨c3, c5, c6, c7, c8, c9, rfl, hX8, hR8, ks, hK8, hd8⟩
        have ln : (rs.map V.ref).length = rs.length := List.length_map ..
        refine ⟨_, .inl (SqL.of hR8), _, rfl, by omega, by omega, for_range (fun i σ H' => (∃ c3 c5 c6 c7 c8 c9, σ = [some (.ref a), some (.ref st), some (.ref R), c3, some (.ref Kl), c5, c6, c7, c8, c9]) ∧ Same H8 H') ⟨⟨_, _, _, _, _, _, rfl⟩, Same.refl _⟩ (fun i σ H9 hi h => ?_) (fun σ H9 h => ?_)⟩
        · obtain ⟨⟨c3, c5, c6, c7, c8, c9, rfl⟩, s9⟩ := h
          refine ⟨_, .inl (SqL.of (s9 _ _ hR8)), _, rfl, by omega, by omega, for_range (fun j σ H' => (∃ c3 c5 c6 c7 c9, σ = [some (.ref a), some (.ref st), some (.ref R), c3, some (.ref Kl), c5, c6, c7, some (.int (0 + (i : Int))), c9]) ∧ Same H8 H') ⟨⟨_, _, _, _, _, rfl⟩, s9⟩ (fun j σ H10 hj h => ?_) (fun σ H10 h => ?_)⟩
          · obtain ⟨⟨c3, c5, c6, c7, c9, rfl⟩, s10⟩ := h
            obtain ⟨ra, xs, ea, ex, rowa⟩ := hX8.at (i := i) (by omega)
            obtain ⟨rb, ys, eb, ey, rowb⟩ := hX8.at (i := j) (by omega)
            have fx := rowa.2.1
            have fy := rowb.2.1
            have pa := at_ref ea
            have pb := at_ref eb
            have ra10 := rowa.tk (Tk.same s10)
            have rb10 := rowb.tk (Tk.same s10)
            refine ⟨_, _, .inl (SqL.of (s10 _ _ hR8)), pa, _, _, .inl (SqL.of (s10 _ _ hR8)), pb, ra, rb, xs, ys, rfl, ra10, rb10, fun H11 s11 => ?_⟩
            have k11 := s10.trans s11
            refine ⟨_, _, .inl (SqL.of (k11 _ _ hR8)), pa, _, _, .inl (SqL.of (k11 _ _ hR8)), pb, ra, rb, xs, ys, rfl, rowa.tk (Tk.same k11), rowb.tk (Tk.same k11), fun H12 s12 => ⟨_, _, _, _, rfl, .int _, .int _, by show 0 ≤ 3; decide, fun b H13 hb s13 => ?_⟩⟩
            obtain rfl := hb.mpr rfl
            have k13 := (k11.trans s12).trans s13
            refine nxt ⟨_, _, .inl (SqL.of (k13 _ _ hR8)), pa, _, _, .inl (SqL.of (k13 _ _ hR8)), pb, rfl, ra, rb, xs, ys, rfl, rowa.tk (Tk.same k13), rowb.tk (Tk.same k13), fun H14 s14 => ⟨_, _, _, _, rfl, .int _, .int _, by show 0 ≤ 3; decide, fun b H15 hb s15 => ?_⟩⟩
            obtain rfl := hb.mpr rfl
            have k15 := (k13.trans s14).trans s15
            obtain ⟨ka, ga, da⟩ := DpAll.get hd8 (i := i) (d := keyRow xs) (by rw [List.getElem?_map, ex]; rfl)
            obtain ⟨kb, gb, db⟩ := DpAll.get hd8 (i := j) (d := keyRow ys) (by rw [List.getElem?_map, ey]; rfl)
            have z1 : atI ks (0 + (i : Int)) = some ka := by
              rw [show (0 : Int) + (i : Int) = (i : Int) by omega]
              exact atI_nat ga
            have z2 : atI ks (0 + (j : Int)) = some kb := by
              rw [show (0 : Int) + (j : Int) = (j : Int) by omega]
              exact atI_nat gb
            have hk := SqL.of (K := K) (k15 _ _ hK8)
            have da' := Dp.same k15 _ _ da
            have db' := Dp.same k15 _ _ db
            have l1 : ltD true (keyRow xs) (keyRow ys) = some (rowLt ys xs) := by
              unfold keyRow
              rw [ltD]
              exact ltAll_keys fx fy
            have l2 : ltD false (keyRow xs) (keyRow ys) = some (rowLt xs ys) := by
              unfold keyRow
              rw [ltD]
              exact ltAll_keys fx fy
            refine nxt ⟨_, _, .inl hk, z1, _, _, .inl hk, z2, keyRow xs, keyRow ys, _, da', db', shaped_keys fx, shaped_keys fy, l1, _, _, .inl hk, z1, _, _, .inl hk, z2, keyRow xs, keyRow ys, _, da', db', shaped_keys fx, shaped_keys fy, l2, rfl, ?_⟩
            have od := ord_diff fx fy
            unfold b1 at od
            rw [od, decide_eq_true rfl]
            exact ⟨⟨_, _, _, _, _, rfl⟩, k15⟩
          · obtain ⟨⟨c3, c5, c6, c7, c9, rfl⟩, s10⟩ := h
            exact ⟨⟨_, _, _, _, _, _, rfl⟩, s10⟩
        · obtain ⟨⟨c3, c5, c6, c7, c8, c9, rfl⟩, s9⟩ := h
          exact q H9
      · refine Or.inl ⟨⟨_, SqL.of hR'⟩, for_list (xs := rs.map V.ref) (fun i σ H8 => (∃ c3 c5 c6 c7 c8 c9, σ = [some (.ref a), some (.ref st), some (.ref R), c3, some (.ref Kl), c5, c6, c7, c8, c9]) ∧ Rows K H8 rs xss ∧ H8 R = some (.lst (rs.map V.ref)) ∧ ∃ ks, H8 Kl = some (.lst ks) ∧ DpAll K H8 ks ((xss.take i).map keyRow)) ⟨⟨_, _, _, _, _, _, rfl⟩, hX', hR', [], hK', .nil⟩ (fun i σ H8 _ h => SqL.of h.2.2.1) (fun i x σ H8 hx h => ?_) (fun σ H8 h => ?_)⟩
        · obtain ⟨⟨c3, c5, c6, c7, c8, c9, rfl⟩, hX8, hR8, ks, hK8, hd8⟩ := h
          rw [List.getElem?_map] at hx
          obtain ⟨r, hr1, rfl⟩ := Option.map_eq_some_iff.mp hx
          have hi : i < rs.length := (List.getElem?_eq_some_iff.mp hr1).1
          obtain ⟨r', xs, e1, e2, row⟩ := hX8.at hi
          rw [hr1] at e1
          cases e1
          have fx := row.2.1
          -- key, mark, mark again
          refine ⟨r, xs, rfl, row, fun p H9 dp s9 => ⟨r, xs, rfl, row.tk (Tk.same s9), fun p2 H10 dp2 s10 => ⟨_, _, _, _, rfl, dp2, Dp.same s10 _ _ dp, depth_keyRow fx, fun b H11 hb s11 => ?_⟩⟩⟩
          obtain rfl := hb.mpr rfl
          have sE := (s9.trans s10).trans s11
          refine ⟨r, xs, rfl, row.tk (Tk.same sE), fun p3 H12 dp3 s12 => ⟨rfl, r, xs, rfl, row.tk (Tk.same (sE.trans s12)), fun p4 H13 dp4 s13 => ⟨_, _, _, _, rfl, Dp.same s13 _ _ dp3, dp4, depth_keyRow fx, fun b H14 hb s14 => ?_⟩⟩⟩
          obtain rfl := hb.mpr rfl
          have sF := ((sE.trans s12).trans s13).trans s14
          have kF := sF _ _ hK8
          have lk : ks.length < sizeLine := by
            have := DpAll.length hd8
            rw [List.length_map, List.length_take] at this
            exact small1000 (by omega)
          -- keys.append(key)
          refine nxt ⟨Or.inl ⟨rfl, _, SqL.of kF⟩, Kl, ks, p, rfl, rfl, kF, lk, ?_⟩
          have tp : Tk H14 (upd H14 Kl (.lst (ks ++ [p]))) := Tk.put kF
          have tF := (Tk.same sF).trans tp
          have dF : DpAll K (upd H14 Kl (.lst (ks ++ [p]))) (ks ++ [p]) ((xss.take (i + 1)).map keyRow) := by
            rw [List.take_add_one, e2, List.map_append]
            exact DpAll.app (Dp.tkAll tF _ _ (tupAll_map fun us hu => fl us (List.mem_of_mem_take hu)) hd8) (.cons (Dp.tk (((Tk.same (s10.trans s11)).trans (Tk.same ((s12.trans s13).trans s14))).trans tp) _ _ (tupD_keyRow fx) dp) .nil)
          have rF : (upd H14 Kl (.lst (ks ++ [p]))) R = some (.lst (rs.map V.ref)) := by
            rw [upd_ne nK]
            exact sF _ _ hR8
          have xF := hX8.tk tF
          have wF := row.tk tF
          have kG : (upd H14 Kl (.lst (ks ++ [p]))) Kl = some (.lst (ks ++ [p])) := upd_same
          generalize upd H14 Kl (.lst (ks ++ [p])) = HF at dF rF xF wF kG
          -- the values of the row
          refine Or.inr ⟨⟨_, wF.1⟩, for_tup (xs := xs) (fun j σ H' => (∃ c6 c7, σ = [some (.ref a), some (.ref st), some (.ref R), some (.ref r), some (.ref Kl), some p, c6, c7, c8, c9]) ∧ Same HF H') ⟨⟨_, _, rfl⟩, Same.refl _⟩ (fun j σ H' _ h => Same.tup h.2 wF.1) (fun j v σ H' hv h => ?_) (fun σ H' h => ?_)⟩
          · obtain ⟨⟨c6, c7, rfl⟩, sm⟩ := h
            have fv := fx v (List.mem_of_getElem? hv)
            have dk : (keyD v).depth ≤ 3 := by
              rw [depth_key v fv]
              decide
            refine ⟨v, rfl, fv, fun p5 H15 dp5 s15 => ⟨v, rfl, fv, fun p6 H16 dp6 s16 => ⟨_, _, _, _, rfl, Dp.same s16 _ _ dp5, dp6, dk, fun b H17 hb s17 => ?_⟩⟩⟩
            obtain rfl := hb.mpr rfl
            refine ⟨rfl, v, rfl, fv, fun p7 H18 dp7 s18 => ⟨_, _, _, _, rfl, Dp.same ((s16.trans s17).trans s18) _ _ dp5, dp7, dk, fun b H19 hb s19 => ?_⟩⟩
            obtain rfl := hb.mpr rfl
            exact ⟨⟨_, _, rfl⟩, sm.trans ((((s15.trans s16).trans s17).trans s18).trans s19)⟩
          · obtain ⟨⟨c6, c7, rfl⟩, sm⟩ := h
            exact ⟨⟨_, _, _, _, _, _, rfl⟩, xF.tk (Tk.same sm), sm _ _ rF, ks ++ [p], sm _ _ kG, Dp.sameAll sm _ _ dF⟩
        · obtain ⟨⟨c3, c5, c6, c7, c8, c9, rfl⟩, hX8, hR8, ks, hK8, hd8⟩ := h
          rw [List.length_map, ← hrs, List.take_length] at hd8
          exact rest _ _ ⟨_, _, _, _, _, _, rfl, hX8, hR8, ks, hK8, hd8⟩

end
def d_kind_ofP : He.DefD := ⟨("kind_of", none), "kind_of", "kind_of", defArgs s_kind_ofP, defBody s_kind_ofP, defScope s_kind_ofP, [], []⟩
def d_sort_keyP : He.DefD := ⟨("sort_key", none), "sort_key", "sort_key", defArgs s_sort_keyP, defBody s_sort_keyP, defScope s_sort_keyP, [], []⟩
def d_own_compared_keysP : He.DefD := ⟨("own_compared_keys", none), "own_compared_keys", "own_compared_keys", defArgs s_own_compared_keysP, defBody s_own_compared_keysP, defScope s_own_compared_keysP, [], []⟩
def d_row_keyP : He.DefD := ⟨("row_key", none), "row_key", "row_key", defArgs s_row_keyP, defBody s_row_keyP, defScope s_row_keyP, [], []⟩
def d_compare_rowsP : He.DefD := ⟨("compare_rows", none), "compare_rows", "compare_rows", defArgs s_compare_rowsP, defBody s_compare_rowsP, defScope s_compare_rowsP, [], []⟩
def d_mix : He.DefD := ⟨("_law_mix", none), "_law_mix", "_law_mix", defArgs s_mix, defBody s_mix, defScope s_mix, [], []⟩
def d_store : He.DefD := ⟨("_law_store", none), "_law_store", "_law_store", defArgs s_store, defBody s_store, defScope s_store, [], []⟩
def d_take : He.DefD := ⟨("_law_take", none), "_law_take", "_law_take", defArgs s_take, defBody s_take, defScope s_take, [], []⟩
def d_count : He.DefD := ⟨("_law_count", none), "_law_count", "_law_count", defArgs s_count, defBody s_count, defScope s_count, [], []⟩
def d_one : He.DefD := ⟨("_law_one", none), "_law_one", "_law_one", defArgs s_one, defBody s_one, defScope s_one, [], []⟩
def d_number : He.DefD := ⟨("_law_number", none), "_law_number", "_law_number", defArgs s_number, defBody s_number, defScope s_number, [], []⟩
def d_text : He.DefD := ⟨("_law_text", none), "_law_text", "_law_text", defArgs s_text, defBody s_text, defScope s_text, [], []⟩
def d_value : He.DefD := ⟨("_law_value", none), "_law_value", "_law_value", defArgs s_value, defBody s_value, defScope s_value, [], []⟩
def d_row : He.DefD := ⟨("_law_row", none), "_law_row", "_law_row", defArgs s_row, defBody s_row, defScope s_row, [], []⟩
def d_near : He.DefD := ⟨("_law_near", none), "_law_near", "_law_near", defArgs s_near, defBody s_near, defScope s_near, [], []⟩
def d_rows : He.DefD := ⟨("_law_rows", none), "_law_rows", "_law_rows", defArgs s_rows, defBody s_rows, defScope s_rows, [], []⟩
def d_same : He.DefD := ⟨("_law_same", none), "_law_same", "_law_same", defArgs s_same, defBody s_same, defScope s_same, [], []⟩
def d_sort_key : He.DefD := ⟨("_law_sort_key", none), "_law_sort_key", "_law_sort_key", defArgs s_sort_key, defBody s_sort_key, defScope s_sort_key, [], []⟩
def d_mark : He.DefD := ⟨("_law_mark", none), "_law_mark", "_law_mark", defArgs s_mark, defBody s_mark, defScope s_mark, [], []⟩
def d_row_order : He.DefD := ⟨("_law_row_order", none), "_law_row_order", "_law_row_order", defArgs s_row_order, defBody s_row_order, defScope s_row_order, [], []⟩
def d_law : He.DefD := ⟨("law", none), "law", "law", defArgs s_law, defBody s_law, defScope s_law, [], []⟩
def fn : List He.DefD := [d_kind_ofP, d_sort_keyP, d_own_compared_keysP, d_row_keyP, d_compare_rowsP, d_mix, d_store, d_take, d_count, d_one, d_number, d_text, d_value, d_row, d_near, d_rows, d_same, d_sort_key, d_mark, d_row_order, d_law]
def fa : List He.Fa := [.glo "kind_of", .glo "sort_key", .glo "own_compared_keys", .glo "row_key", .glo "compare_rows", .glo "_law_mix", .glo "_law_store", .glo "_law_take", .glo "_law_count", .glo "_law_one", .glo "_law_number", .glo "_law_text", .glo "_law_value", .glo "_law_row", .glo "_law_near", .glo "_law_rows", .glo "_law_same", .glo "_law_sort_key", .glo "_law_mark", .glo "_law_row_order", .glo "law", .free "len", .free "int", .free "str", .free "bool", .free "tuple", .free "list", .free "dict", .free "range", .free "isinstance", .free "min", .free "max", .free "sorted", .free "zip", .free "enumerate", .free "sum", .free "any", .free "all", .free "ord"]
abbrev R : PySem.W.OpenRow := PySem.W.OpenLaw.row PySem.Challenge.rw_storedesk_k01_compare_rows
abbrev hk : PySem.W.Hook := He.hookD 4 fa fn
def ob (s : PySem.W.SharedT) : He.AlD := He.obsDG 4 fa fn (HandSHeadRun.getT s)
theorem ob_eq (s : PySem.W.SharedT) : ob s = hk.obs s.abs := He.obsDG_eq (HandSHeadRun.getT_eq s)
theorem run (w : World) : HandSHeadRun.RunEq R (PySem.W.view R.prog [22]) hk ob 1660 ["kind_of", "sort_key", "own_compared_keys", "row_key", "compare_rows", "_law_mix", "_law_store", "_law_take", "_law_count", "_law_one", "_law_number", "_law_text", "_law_value", "_law_row", "_law_near", "_law_rows", "_law_same", "_law_sort_key", "_law_mark", "_law_row_order"] w := by
  intro os
  kernel_rfl
theorem facts {P : Program} {w : World} {K : PySem.W.Frag} {h : Heap} {mg : Str → Option Value} {f : Addr} (X : K.In h) (G : h.Ns mainGlobals mg) (hfa : mg ("law" : Str) = some (.ref f)) (c : He.SaysD fa fn K) :
    ∃ fd : FuncData, (∀ (s : Shared) (v : Value), BindsTo s fd ⟨[v], []⟩ [("_law_script", v)]) ∧ ∀ base : Heap, K.In base → base.Ns mainGlobals mg → FnOk P w K mg base CX0 8 f fd ["_law_script"] (sp_law K) := by
  obtain ⟨fd0, X0⟩ := c.def_ 0 (d := d_kind_ofP) rfl
  obtain ⟨fd1, X1⟩ := c.def_ 1 (d := d_sort_keyP) rfl
  obtain ⟨fd2, X2⟩ := c.def_ 2 (d := d_own_compared_keysP) rfl
  obtain ⟨fd3, X3⟩ := c.def_ 3 (d := d_row_keyP) rfl
  obtain ⟨fd4, X4⟩ := c.def_ 4 (d := d_compare_rowsP) rfl
  obtain ⟨fd5, X5⟩ := c.def_ 5 (d := d_mix) rfl
  obtain ⟨fd6, X6⟩ := c.def_ 6 (d := d_store) rfl
  obtain ⟨fd7, X7⟩ := c.def_ 7 (d := d_take) rfl
  obtain ⟨fd8, X8⟩ := c.def_ 8 (d := d_count) rfl
  obtain ⟨fd9, X9⟩ := c.def_ 9 (d := d_one) rfl
  obtain ⟨fd10, X10⟩ := c.def_ 10 (d := d_number) rfl
  obtain ⟨fd11, X11⟩ := c.def_ 11 (d := d_text) rfl
  obtain ⟨fd12, X12⟩ := c.def_ 12 (d := d_value) rfl
  obtain ⟨fd13, X13⟩ := c.def_ 13 (d := d_row) rfl
  obtain ⟨fd14, X14⟩ := c.def_ 14 (d := d_near) rfl
  obtain ⟨fd15, X15⟩ := c.def_ 15 (d := d_rows) rfl
  obtain ⟨fd16, X16⟩ := c.def_ 16 (d := d_same) rfl
  obtain ⟨fd17, X17⟩ := c.def_ 17 (d := d_sort_key) rfl
  obtain ⟨fd18, X18⟩ := c.def_ 18 (d := d_mark) rfl
  obtain ⟨fd19, X19⟩ := c.def_ 19 (d := d_row_order) rfl
  obtain ⟨fd20, X20⟩ := c.def_ 20 (d := d_law) rfl
  have e := hfa.symm.trans (He.glo_ok X G (c.fact 20 (f := .glo "law") rfl))
  cases e
  have b := FunD.bindsA (ps := ["_law_script"]) X20 fun _ _ _ _ _ _ us hl => match us, hl with | [_], _ => rfl
  have B : Bf mg := ⟨He.free_ok X G (c.fact 21 (f := .free "len") rfl), He.free_ok X G (c.fact 22 (f := .free "int") rfl), He.free_ok X G (c.fact 23 (f := .free "str") rfl), He.free_ok X G (c.fact 24 (f := .free "bool") rfl), He.free_ok X G (c.fact 25 (f := .free "tuple") rfl), He.free_ok X G (c.fact 26 (f := .free "list") rfl), He.free_ok X G (c.fact 27 (f := .free "dict") rfl), He.free_ok X G (c.fact 28 (f := .free "range") rfl), He.free_ok X G (c.fact 29 (f := .free "isinstance") rfl), He.free_ok X G (c.fact 30 (f := .free "min") rfl), He.free_ok X G (c.fact 31 (f := .free "max") rfl), He.free_ok X G (c.fact 32 (f := .free "sorted") rfl), He.free_ok X G (c.fact 33 (f := .free "zip") rfl), He.free_ok X G (c.fact 34 (f := .free "enumerate") rfl), He.free_ok X G (c.fact 35 (f := .free "sum") rfl), He.free_ok X G (c.fact 36 (f := .free "any") rfl), He.free_ok X G (c.fact 37 (f := .free "all") rfl), He.free_ok X G (c.fact 38 (f := .free "ord") rfl)⟩
  refine ⟨fd20, fun s v => b s [v] rfl, fun base _ _ => ?_⟩
  have G5 := He.glo_ok X G (c.fact 5 (f := .glo "_law_mix") rfl)
  have B5 : Binds K fd5 ["_law_number_here", "_law_turn"] [] := X5.bindsN fun _ _ _ _ _ _ us hl => match us, hl with | [_, _], _ => rfl
  have O5 : FnOk P w K mg base CX0 1 _ fd5 ["_law_number_here", "_law_turn"] (sp_mix) := ok_mix X5 B 
  have F_mix : Fn P w K mg base "_law_mix" ["_law_number_here", "_law_turn"] 1 (sp_mix) := ⟨_, fd5, O5, G5, X5.kp, B5⟩
  have G6 := He.glo_ok X G (c.fact 6 (f := .glo "_law_store") rfl)
  have B6 : Binds K fd6 ["_law_script"] [] := X6.bindsN fun _ _ _ _ _ _ us hl => match us, hl with | [_], _ => rfl
  have O6 : FnOk P w K mg base CX0 2 _ fd6 ["_law_script"] (sp_store K) := ok_store X6 B F_mix
  have F_store : Fn P w K mg base "_law_store" ["_law_script"] 2 (sp_store K) := ⟨_, fd6, O6, G6, X6.kp, B6⟩
  have G7 := He.glo_ok X G (c.fact 7 (f := .glo "_law_take") rfl)
  have B7 : Binds K fd7 ["_law_store_here", "_law_many"] [] := X7.bindsN fun _ _ _ _ _ _ us hl => match us, hl with | [_, _], _ => rfl
  have O7 : FnOk P w K mg base CX0 2 _ fd7 ["_law_store_here", "_law_many"] (sp_take) := ok_take X7 B F_mix
  have F_take : Fn P w K mg base "_law_take" ["_law_store_here", "_law_many"] 2 (sp_take) := ⟨_, fd7, O7, G7, X7.kp, B7⟩
  have G8 := He.glo_ok X G (c.fact 8 (f := .glo "_law_count") rfl)
  have B8 : Binds K fd8 ["_law_store_here", "_law_least", "_law_usual", "_law_most"] [] := X8.bindsN fun _ _ _ _ _ _ us hl => match us, hl with | [_, _, _, _], _ => rfl
  have O8 : FnOk P w K mg base CX0 3 _ fd8 ["_law_store_here", "_law_least", "_law_usual", "_law_most"] (sp_count) := ok_count X8 B F_take
  have F_count : Fn P w K mg base "_law_count" ["_law_store_here", "_law_least", "_law_usual", "_law_most"] 3 (sp_count) := ⟨_, fd8, O8, G8, X8.kp, B8⟩
  have G9 := He.glo_ok X G (c.fact 9 (f := .glo "_law_one") rfl)
  have B9 : Binds K fd9 ["_law_store_here", "_law_row_here"] [] := X9.bindsN fun _ _ _ _ _ _ us hl => match us, hl with | [_, _], _ => rfl
  have O9 : FnOk P w K mg base CX0 3 _ fd9 ["_law_store_here", "_law_row_here"] (sp_one K) := ok_one X9 B F_take
  have F_one : Fn P w K mg base "_law_one" ["_law_store_here", "_law_row_here"] 3 (sp_one K) := ⟨_, fd9, O9, G9, X9.kp, B9⟩
  have G10 := He.glo_ok X G (c.fact 10 (f := .glo "_law_number") rfl)
  have B10 : Binds K fd10 ["_law_store_here"] [] := X10.bindsN fun _ _ _ _ _ _ us hl => match us, hl with | [_], _ => rfl
  have O10 : FnOk P w K mg base CX0 3 _ fd10 ["_law_store_here"] (sp_number) := ok_number X10 B F_take
  have F_number : Fn P w K mg base "_law_number" ["_law_store_here"] 3 (sp_number) := ⟨_, fd10, O10, G10, X10.kp, B10⟩
  have G11 := He.glo_ok X G (c.fact 11 (f := .glo "_law_text") rfl)
  have B11 : Binds K fd11 ["_law_store_here", "_law_most"] [] := X11.bindsN fun _ _ _ _ _ _ us hl => match us, hl with | [_, _], _ => rfl
  have O11 : FnOk P w K mg base CX0 4 _ fd11 ["_law_store_here", "_law_most"] (sp_text) := ok_text X11 B F_take F_count
  have F_text : Fn P w K mg base "_law_text" ["_law_store_here", "_law_most"] 4 (sp_text) := ⟨_, fd11, O11, G11, X11.kp, B11⟩
  have G12 := He.glo_ok X G (c.fact 12 (f := .glo "_law_value") rfl)
  have B12 : Binds K fd12 ["_law_store_here"] [] := X12.bindsN fun _ _ _ _ _ _ us hl => match us, hl with | [_], _ => rfl
  have O12 : FnOk P w K mg base CX0 5 _ fd12 ["_law_store_here"] (sp_value) := ok_value X12 B F_take F_number F_text
  have F_value : Fn P w K mg base "_law_value" ["_law_store_here"] 5 (sp_value) := ⟨_, fd12, O12, G12, X12.kp, B12⟩
  have G0 := He.glo_ok X G (c.fact 0 (f := .glo "kind_of") rfl)
  have B0 : Binds K fd0 ["value"] [] := X0.bindsN fun _ _ _ _ _ _ us hl => match us, hl with | [_], _ => rfl
  have O0 : FnOk P w K mg base CX0 1 _ fd0 ["value"] (sp_kind_ofP) := ok_kind_ofP X0 B 
  have F_kind_ofP : Fn P w K mg base "kind_of" ["value"] 1 (sp_kind_ofP) := ⟨_, fd0, O0, G0, X0.kp, B0⟩
  have G1 := He.glo_ok X G (c.fact 1 (f := .glo "sort_key") rfl)
  have B1 : Binds K fd1 ["value"] [] := X1.bindsN fun _ _ _ _ _ _ us hl => match us, hl with | [_], _ => rfl
  have O1 : FnOk P w K mg base CX0 2 _ fd1 ["value"] (sp_key K) := ok_sort_keyP X1 B F_kind_ofP
  have F_sort_keyP : Fn P w K mg base "sort_key" ["value"] 2 (sp_key K) := ⟨_, fd1, O1, G1, X1.kp, B1⟩
  have K_sort_keyP : FnK P w K mg base "sort_key" ["value"] 0 2 (sp_key K) := ⟨⟨_, fd1, O1, G1, X1.kp, fun_kb (x := "sort_key") (st := s_sort_keyP) (n := 0) X1 fun _ _ _ _ _ _ us ws h1 h2 => match us, ws, h1, h2 with | [], [_], _, _ => rfl⟩, Nat.zero_le _⟩
  have G2 := He.glo_ok X G (c.fact 2 (f := .glo "own_compared_keys") rfl)
  have B2 : Binds K fd2 ["left", "right"] [] := X2.bindsN fun _ _ _ _ _ _ us hl => match us, hl with | [_, _], _ => rfl
  have O2 : FnOk P w K mg base CX0 1 _ fd2 ["left", "right"] (sp_cmpkeys K) := ok_own_compared_keysP X2 B 
  have F_own_compared_keysP : Fn P w K mg base "own_compared_keys" ["left", "right"] 1 (sp_cmpkeys K) := ⟨_, fd2, O2, G2, X2.kp, B2⟩
  have G3 := He.glo_ok X G (c.fact 3 (f := .glo "row_key") rfl)
  have B3 : Binds K fd3 ["row"] [] := X3.bindsN fun _ _ _ _ _ _ us hl => match us, hl with | [_], _ => rfl
  have O3 : FnOk P w K mg base CX0 3 _ fd3 ["row"] (sp_rowkey K) := ok_row_keyP X3 B F_sort_keyP
  have F_row_keyP : Fn P w K mg base "row_key" ["row"] 3 (sp_rowkey K) := ⟨_, fd3, O3, G3, X3.kp, B3⟩
  have K_row_keyP : FnK P w K mg base "row_key" ["row"] 0 3 (sp_rowkey K) := ⟨⟨_, fd3, O3, G3, X3.kp, fun_kb (x := "row_key") (st := s_row_keyP) (n := 0) X3 fun _ _ _ _ _ _ us ws h1 h2 => match us, ws, h1, h2 with | [], [_], _, _ => rfl⟩, Nat.zero_le _⟩
  have G4 := He.glo_ok X G (c.fact 4 (f := .glo "compare_rows") rfl)
  have B4 : Binds K fd4 ["left", "right"] [] := X4.bindsN fun _ _ _ _ _ _ us hl => match us, hl with | [_, _], _ => rfl
  have O4 : FnOk P w K mg base CX0 4 _ fd4 ["left", "right"] (sp_cmprows K) := ok_compare_rowsP X4 B F_row_keyP F_own_compared_keysP
  have F_compare_rowsP : Fn P w K mg base "compare_rows" ["left", "right"] 4 (sp_cmprows K) := ⟨_, fd4, O4, G4, X4.kp, B4⟩
  have K_compare_rowsP : FnK P w K mg base "compare_rows" ["left", "right"] 0 4 (sp_cmprows K) := ⟨⟨_, fd4, O4, G4, X4.kp, fun_kb (x := "compare_rows") (st := s_compare_rowsP) (n := 0) X4 fun _ _ _ _ _ _ us ws h1 h2 => match us, ws, h1, h2 with | [], [_, _], _, _ => rfl⟩, Nat.zero_le _⟩
  have G13 := He.glo_ok X G (c.fact 13 (f := .glo "_law_row") rfl)
  have B13 : Binds K fd13 ["_law_store_here"] [] := X13.bindsN fun _ _ _ _ _ _ us hl => match us, hl with | [_], _ => rfl
  have O13 : FnOk P w K mg base CX0 6 _ fd13 ["_law_store_here"] (sp_row K) := ok_row X13 B F_count F_value
  have F_row : Fn P w K mg base "_law_row" ["_law_store_here"] 6 (sp_row K) := ⟨_, fd13, O13, G13, X13.kp, B13⟩
  have G14 := He.glo_ok X G (c.fact 14 (f := .glo "_law_near") rfl)
  have B14 : Binds K fd14 ["_law_store_here", "_law_row_here"] [] := X14.bindsN fun _ _ _ _ _ _ us hl => match us, hl with | [_, _], _ => rfl
  have O14 : FnOk P w K mg base CX0 6 _ fd14 ["_law_store_here", "_law_row_here"] (sp_near K) := ok_near X14 B F_take F_value
  have F_near : Fn P w K mg base "_law_near" ["_law_store_here", "_law_row_here"] 6 (sp_near K) := ⟨_, fd14, O14, G14, X14.kp, B14⟩
  have G15 := He.glo_ok X G (c.fact 15 (f := .glo "_law_rows") rfl)
  have B15 : Binds K fd15 ["_law_store_here", "_law_usual", "_law_most"] [] := X15.bindsN fun _ _ _ _ _ _ us hl => match us, hl with | [_, _, _], _ => rfl
  have O15 : FnOk P w K mg base CX0 7 _ fd15 ["_law_store_here", "_law_usual", "_law_most"] (sp_rows K) := ok_rows X15 B F_take F_count F_one F_row F_near
  have F_rows : Fn P w K mg base "_law_rows" ["_law_store_here", "_law_usual", "_law_most"] 7 (sp_rows K) := ⟨_, fd15, O15, G15, X15.kp, B15⟩
  have G16 := He.glo_ok X G (c.fact 16 (f := .glo "_law_same") rfl)
  have B16 : Binds K fd16 ["_law_left", "_law_right"] [] := X16.bindsN fun _ _ _ _ _ _ us hl => match us, hl with | [_, _], _ => rfl
  have O16 : FnOk P w K mg base CX0 4 _ fd16 ["_law_left", "_law_right"] (sp_same K 4) := ok_same X16 B G16 X16.kp B16 4
  have F_same : Fn P w K mg base "_law_same" ["_law_left", "_law_right"] 4 (sp_same K 4) := ⟨_, fd16, O16, G16, X16.kp, B16⟩
  have G17 := He.glo_ok X G (c.fact 17 (f := .glo "_law_sort_key") rfl)
  have B17 : Binds K fd17 ["_law_value_here"] [] := X17.bindsN fun _ _ _ _ _ _ us hl => match us, hl with | [_], _ => rfl
  have O17 : FnOk P w K mg base CX0 1 _ fd17 ["_law_value_here"] (sp_key K) := ok_sort_key X17 B 
  have F_sort_key : Fn P w K mg base "_law_sort_key" ["_law_value_here"] 1 (sp_key K) := ⟨_, fd17, O17, G17, X17.kp, B17⟩
  have G18 := He.glo_ok X G (c.fact 18 (f := .glo "_law_mark") rfl)
  have B18 : Binds K fd18 ["_law_row_here"] [] := X18.bindsN fun _ _ _ _ _ _ us hl => match us, hl with | [_], _ => rfl
  have O18 : FnOk P w K mg base CX0 2 _ fd18 ["_law_row_here"] (sp_rowkey K) := ok_mark X18 B F_sort_key
  have F_mark : Fn P w K mg base "_law_mark" ["_law_row_here"] 2 (sp_rowkey K) := ⟨_, fd18, O18, G18, X18.kp, B18⟩
  have G19 := He.glo_ok X G (c.fact 19 (f := .glo "_law_row_order") rfl)
  have B19 : Binds K fd19 ["_law_one_here", "_law_two"] [] := X19.bindsN fun _ _ _ _ _ _ us hl => match us, hl with | [_, _], _ => rfl
  have O19 : FnOk P w K mg base CX0 2 _ fd19 ["_law_one_here", "_law_two"] (sp_cmprows K) := ok_row_order X19 B F_sort_key
  have F_row_order : Fn P w K mg base "_law_row_order" ["_law_one_here", "_law_two"] 2 (sp_cmprows K) := ⟨_, fd19, O19, G19, X19.kp, B19⟩
  exact ok_law X20 B F_store F_rows F_near F_same F_mark F_row_keyP K_row_keyP F_sort_key F_sort_keyP K_sort_keyP F_row_order F_compare_rowsP K_compare_rowsP
end Sd
open PySem PySem.W PySem.Calls PyProof.Rows
set_option maxHeartbeats 0 in
theorem PySem.Challenge.cw_storedesk_k01_compare_rows_holds : PySem.Challenge.rw_storedesk_k01_compare_rows.Holds := by
  w_on; o_law
  refine HandSHeadRun.head_any (r := OpenLaw.row PySem.Challenge.rw_storedesk_k01_compare_rows) (q := view (OpenLaw.row PySem.Challenge.rw_storedesk_k01_compare_rows).prog [22]) (H := Sd.hk) (ob := Sd.ob) (M := 1660) (loose := ["kind_of", "sort_key", "own_compared_keys", "row_key", "compare_rows", "_law_mix", "_law_store", "_law_take", "_law_count", "_law_one", "_law_number", "_law_text", "_law_value", "_law_row", "_law_near", "_law_rows", "_law_same", "_law_sort_key", "_law_mark", "_law_row_order"]) (d := HandSHeadRun.topDef (OpenLaw.row PySem.Challenge.rw_storedesk_k01_compare_rows).prog 22) (kwd := []) Sd.ob_eq
    (by kernel_rfl) (fun s => by kernel_rfl) Sd.run (by kernel_rfl) (by kernel_rfl) (by kernel_rfl) (by rfl) (by first | assumption | decide +kernel) (by decide +kernel) ⟨rfl, rfl, rfl, rfl, rfl, by decide +kernel⟩ ?hw ?hc
  case hw => w_witness2
  case hc =>
    refine L2.walk_ofE (l := PySem.Challenge.rw_storedesk_k01_compare_rows) (n := 63) (k := 8) (x := "_law_script") (CX := L2.CX0) rfl (by decide) (by kernel_rfl) ⟨rfl, by decide, by decide⟩ ?F (fun _ _ _ _ z => z)
    intro w mg fa h Y G hmg0
    obtain ⟨K, KX, c⟩ := Y
    have hmg : mg ("law" : PySem.Str) = some (.ref fa) := by
      have e : (HandSHeadRun.topDef (OpenLaw.row PySem.Challenge.rw_storedesk_k01_compare_rows).prog 22).name = ("law" : PySem.Str) := by kernel_rfl
      rw [← e]
      exact hmg0
    obtain ⟨fd, hb, hF⟩ := Sd.facts (P := (PySem.Challenge.rw_storedesk_k01_compare_rows).prog) (w := w) KX G hmg c
    exact ⟨K, fd, Sd.sp_law K, KX, hb, fun H a ns hl _ hS => ⟨a, ns, rfl, hS, hl, fun _ => rfl⟩, hF⟩

