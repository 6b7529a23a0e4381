import PyProof.Rows.All
import Wide.All
import OpenK.AllK
import Wide.FinOn
import HandS.ForMost
import HandS.IsInst
import HandS.Wide
import HandS.Flow
import HandS.Defaults
import HandS.TupAny
import HandS.Codes
import HandS.Zip0
import KE.KDictZip
import KE.KItemsList
import HandS.ListItems
import HandS.TupLe
import HandS.TryOnly
import HandS.More
import HandS.Head0
import HandS.Head1
import HandS.Head2
import HandS.HeadEnd
import HandS.HeadHook1
import HandS.HeadHook2
import PySem.Challenge.RW_storedesk_k00_compare_values
set_option Elab.async false
set_option linter.all false
set_option maxRecDepth 100000
set_option maxHeartbeats 4000000
/-! Own layer over HandS: readings that compute, calls by one fact a def. -/
namespace G
open PySem PySem.Spec PyProof.Rows L2
/-! ### weakening -/
section
variable {X : Cx}
theorem PE_imp {e : Expr} {t t' : TE} (h : PE X e t) (k : ∀ σ H Q, t' σ H Q → t σ H Q) : PE X e t' := ⟨fun pins s σ H Q I q => h.run pins s σ H Q I (k _ _ _ q)⟩
theorem PT_imp {e : Expr} {t t' : TT} (h : PT X e t) (k : ∀ σ H Q, t' σ H Q → t σ H Q) : PT X e t' := ⟨fun pins s σ H Q I q => h.run pins s σ H Q I (k _ _ _ q)⟩
theorem OpR_imp {f : Value → Value → Sem Value} {r r' : R2} (h : OpR X f r) (k : ∀ x y H Q, r' x y H Q → r x y H Q) : OpR X f r' := fun pins s σ H x y v u Q I rx ry q => h pins s σ H x y v u Q I rx ry (k _ _ _ _ q)
theorem CallR_imp {f : Value} {r r' : List V → Hp → VK → Prop} (h : CallR X f r) (k : ∀ xs H Q, r' xs H Q → r xs H Q) : CallR X f r' := fun pins s σ H xs us Q I r q => h pins s σ H xs us Q I r (k _ _ _ q)
theorem IxR_imp {r r' : R2} (h : IxR X r) (k : ∀ x y H Q, r' x y H Q → r x y H Q) : IxR X r' := fun value slice pins s σ H x y v u Q I rx ry q hs => h value slice pins s σ H x y v u Q I rx ry (k _ _ _ _ q) hs
end
/-! ### names -/
def fVar (i : Nat) : TE := fun σ H Q => match σ[i]? with | some (some v) => Q v H | _ => False
section
variable {X : Cx}
theorem fv (i : Nat) {x : Str} {pos : Pos} (hN : X.N[i]? = some x := by rfl) (hv : Vis X.env.scope x := by first | exact Or.inl rfl | exact Or.inr (Or.inl rfl) | exact Or.inr (Or.inr rfl)) (hd : (x == ("__debug__" : Str)) = false := by decide)
    (hcd : (x == ("__classdict__" : Str)) = false := by decide) : PE X (.Name x pos) (fVar i) := PE_imp (pe_var hN hv hd hcd) fun σ H Q h => by
  unfold fVar at h
  split at h
  · rename_i v e
    exact ⟨v, e, h⟩
  · exact h.elim
end
/-! ### operators -/
def fAdd (K : PySem.W.Frag) : R2 := fun x y H Q => match x, y with
  | .int i, .int j => Q (.int (i + j)) H
  | .str a, .str b => a.length + b.length ≤ sizeLine ∧ Q (.str (a ++ b)) H
  | .ref a, .ref b => (∃ xs zs, H a = some (.lst xs) ∧ H b = some (.lst zs) ∧ xs.length + zs.length ≤ sizeLine ∧ ∀ p, H p = none → Q (.ref p) (upd H p (.lst (xs ++ zs)))) ∨
      (∃ xs ys, SqT K H a xs ∧ SqT K H b ys ∧ xs.length + ys.length ≤ sizeLine ∧ ∀ p H', SqT K H' p (xs ++ ys) → Same H H' → Q (.ref p) H')
  | _, _ => False
def fSub : R2 := fun x y H Q => match x, y with
  | .int i, .int j => Q (.int (i - j)) H
  | _, _ => False
def fMul : R2 := fun x y H Q => match x, y with
  | .int i, .int j => CMul i j ∧ Q (.int (i * j)) H
  | _, _ => False
def fMod : R2 := fun x y H Q => match x, y with
  | .int i, .int j => 0 < j ∧ Q (.int (i % j)) H
  | _, _ => False
def fDiv : R2 := fun x y H Q => match x, y with
  | .int i, .int j => CDivW i j ∧ Q (.int (i / j)) H
  | _, _ => False
def fPow : R2 := fun x y H Q => match x, y with
  | .int i, .int j => CPow i j ∧ Q (.int (i ^ j.toNat)) H
  | _, _ => False
def fNeg : V → Hp → VK → Prop := fun x H Q => match x with
  | .int i => Q (.int (-i)) H
  | _ => False
theorem same_upd {H : Hp} {p : Addr} {o : HO} (h : H p = none) : Same H (upd H p o) := fun b x e => by
  rw [upd_ne (ne_of_none e h)]
  exact e
theorem Same.tup {K : PySem.W.Frag} {H H' : Hp} {a : Addr} {xs : List V} (e : Same H H') (h : SqT K H a xs) : SqT K H' a xs := by
  rcases h with (h | ⟨o, h⟩) | h
  · exact .inl (.inl (e _ _ h))
  · exact .inl (.inr ⟨o, e _ _ h⟩)
  · exact .inr h
section
variable {X : Cx}
theorem o_add (K : PySem.W.Frag) (hK : X.K = K := by rfl) : OpR X (binaryOp .Add) (fAdd K) := by
  subst hK
  intro pins s σ H x y v u Q I rx ry h
  cases x <;> cases y <;> try exact h.elim
  · exact op_add pins s σ H _ _ v u Q I rx ry ⟨_, _, rfl, rfl, h⟩
  · exact op_add_str pins s σ H _ _ v u Q I rx ry ⟨_, _, rfl, rfl, h.1, h.2⟩
  · rcases h with ⟨xs, zs, h1, h2, h3, q⟩ | ⟨xs, ys, h1, h2, h3, q⟩
    · exact op_cat pins s σ H _ _ v u Q I rx ry ⟨_, _, xs, zs, rfl, rfl, h1, h2, h3, q⟩
    · refine op_catA pins s σ H _ _ v u Q I rx ry ⟨_, _, xs, ys, rfl, rfl, h1, h2, h3, fun e => ?_, fun _ e => ?_, fun _ _ p hp => ?_⟩
      · subst e
        exact q _ _ h2 (Same.refl _)
      · subst e
        exact q _ _ (by rw [List.append_nil]; exact h1) (Same.refl _)
      · exact q _ _ (SqT.of upd_same) (same_upd hp)
theorem o_sub : OpR X (binaryOp .Sub) fSub := OpR_imp op_sub fun x y H Q h => by
  cases x <;> cases y <;> first | exact h.elim | exact ⟨_, _, rfl, rfl, h⟩
theorem o_mul : OpR X (binaryOp .Mult) fMul := OpR_imp op_mul fun x y H Q h => by
  cases x <;> cases y <;> first | exact h.elim | exact ⟨_, _, rfl, rfl, h.1, h.2⟩
theorem o_mod : OpR X (binaryOp .Mod) fMod := OpR_imp op_mod fun x y H Q h => by
  cases x <;> cases y <;> first | exact h.elim | exact ⟨_, _, rfl, rfl, h.1, h.2⟩
theorem o_div : OpR X (binaryOp .FloorDiv) fDiv := OpR_imp op_fdivW fun x y H Q h => by
  cases x <;> cases y <;> first | exact h.elim | exact ⟨_, _, rfl, rfl, h.1, h.2⟩
theorem o_pow : OpR X (binaryOp .Pow) fPow := OpR_imp op_pow fun x y H Q h => by
  cases x <;> cases y <;> first | exact h.elim | exact ⟨_, _, rfl, rfl, h.1, h.2⟩
theorem o_neg : UnR X (unaryOp .USub) fNeg := fun pins s σ H x v Q I rx h => by
  cases x <;> first | exact h.elim | exact un_neg pins s σ H _ v Q I rx ⟨_, rfl, h⟩
end
/-! ### comparisons -/
def fEq : R2 := fun x y H Q => scal x y = true ∧ Q (.bl (decide (x = y))) H
def fCmp (p : Int → Int → Bool) (ps : List Nat → List Nat → Bool) : R2 := fun x y H Q => match x, y with
  | .int i, .int j => Q (.bl (p i j)) H
  | .str a, .str b => Q (.bl (ps a.cps.toList b.cps.toList)) H
  | _, _ => False
def fLt : R2 := fCmp (fun i j => decide (i < j)) (fun a b => decide (a < b))
def fLe : R2 := fCmp (fun i j => decide (i ≤ j)) (fun a b => !decide (b < a))
def fGt : R2 := fCmp (fun i j => decide (j < i)) (fun a b => decide (b < a))
def fGe : R2 := fCmp (fun i j => decide (j ≤ i)) (fun a b => !decide (a < b))
def fIsN : R2 := fun x y H Q => y = .non ∧ Q (.bl (decide (x = .non))) H
def fNotN : R2 := fun x y H Q => y = .non ∧ Q (.bl (!decide (x = .non))) H
section
variable {X : Cx}
theorem o_lt : OpR X (compareOp .Lt) fLt := fun pins s σ H x y v u Q I rx ry h => by
  cases x <;> cases y <;> first | exact h.elim | exact op_lt pins s σ H _ _ v u Q I rx ry ⟨_, _, rfl, rfl, h⟩ | exact op_lt_str pins s σ H _ _ v u Q I rx ry ⟨_, _, rfl, rfl, h⟩
theorem o_le : OpR X (compareOp .LtE) fLe := fun pins s σ H x y v u Q I rx ry h => by
  cases x <;> cases y <;> first | exact h.elim | exact op_le pins s σ H _ _ v u Q I rx ry ⟨_, _, rfl, rfl, h⟩ | exact op_le_str pins s σ H _ _ v u Q I rx ry ⟨_, _, rfl, rfl, h⟩
theorem o_gt : OpR X (compareOp .Gt) fGt := fun pins s σ H x y v u Q I rx ry h => by
  cases x <;> cases y <;> first | exact h.elim | exact op_gt pins s σ H _ _ v u Q I rx ry ⟨_, _, rfl, rfl, h⟩ | exact op_gt_str pins s σ H _ _ v u Q I rx ry ⟨_, _, rfl, rfl, h⟩
theorem o_ge : OpR X (compareOp .GtE) fGe := fun pins s σ H x y v u Q I rx ry h => by
  cases x <;> cases y <;> first | exact h.elim | exact op_ge pins s σ H _ _ v u Q I rx ry ⟨_, _, rfl, rfl, h⟩ | exact op_ge_str pins s σ H _ _ v u Q I rx ry ⟨_, _, rfl, rfl, h⟩
end
/-! ### a def of the text, as its callers see it -/
abbrev FnP (K : PySem.W.Frag) (x : Str) (st : Stmt) (f : Addr) (fd : FuncData) : Prop := FunD K x x (defArgs st) (defBody st) (defScope st) [] [] f fd
structure Fn (P : Program) (w : World) (K : PySem.W.Frag) (mg : Str → Option Value) (base : Heap) (x : Str) (ps : List Str) (k : Nat) (sp : Sp) : Prop where
  ex : ∃ f fd, FnOk P w K mg base CX0 k f fd ps sp ∧ mg x = some (.ref f) ∧ PySem.W.keepIn K (.ref f) = true ∧ Binds K fd ps []
section
variable {X : Cx}
theorem pcall {x : Str} {ps : List Str} {k j : Nat} {sp : Sp} {p pos : Pos} {e : Expr} {es : List Expr} {t : TA} (F : Fn X.prog X.w X.K X.mg X.base x ps k sp) (hr : Room j X.A) (ha : PA X (e :: es) t) (hg : Gl X x := by rfl) (hj : k ≤ j := by first | decide | omega)
    (hdb : (x == ("__debug__" : Str)) = false := by decide) (he : starEach (e :: es) X.env = (false, eval e X.env) :: starEach es X.env := by rfl) (hpl : (backTo pos (starEach es X.env)).any (·.1) = false := by rfl) :
    PE X (.Call (.Name x p) (e :: es) [] pos) (tCall sp [] E0 t) := by
  obtain ⟨f, fd, F, hm, hk, hb⟩ := F.ex
  exact pe_call F (hr.mono hj) hg hm hk hb .nil pass0 ha hdb he hpl
end

/-! ### more comparisons, truth, tests -/
def fNe : R2 := fun x y H Q => scal x y = true ∧ Q (.bl (!decide (x = y))) H
def fTest (t : TE) : TT := fun σ H Q => t σ H fun x H' => match x with | .bl k => Q k H' | _ => False
def truK (K : PySem.W.Frag) (x : V) (H : Hp) (Q : Bool → Hp → Prop) : Prop := match x with
  | .bl b => Q b H
  | .non => Q false H
  | .int i => Q (i != 0) H
  | .str y => y.length ≤ sizeLine ∧ Q ((y.length : Int) != 0) H
  | .ref p => ∃ xs, (SqL K H p xs ∨ SqT K H p xs) ∧ Q (!xs.isEmpty) H
  | _ => False
def fTru (K : PySem.W.Frag) (t : TE) : TT := fun σ H Q => t σ H fun x H' => truK K x H' Q
def fAndV (ta tb : TE) : TE := fun σ H Q => ta σ H fun x H1 => match x with | .bl c => (if c = true then tb σ H1 Q else Q (.bl false) H1) | _ => False
def fOrV (ta tb : TE) : TE := fun σ H Q => ta σ H fun x H1 => match x with | .bl c => (if c = true then Q (.bl true) H1 else tb σ H1 Q) | _ => False
def fNotV (ta : TE) : TE := fun σ H Q => ta σ H fun x H1 => match x with | .bl c => Q (.bl (!c)) H1 | _ => False
section
variable {X : Cx} {a b : Expr} {ta tb : TE} {pos : Pos} {rest : List Expr}
theorem run_imp {e : Expr} {t : TE} (h : PE X e t) {pins : List (Addr × Obj)} {s : Shared} {σ : L2.St} {H : Hp} {Q : VK} (I : Inv X pins σ H s) (q : t σ H Q) : wpAny (model X.prog X.w) X.A (eval e X.env) (EP X pins σ Q) X.xe s := h.run pins s σ H Q I q
theorem q_cmp {op : CmpOp} {r : R2} (ho : OpR X (compareOp op) r) (ha : PE X a ta) (hb : PE X b tb) (hm : behindInMarks op b = false := by first | exact nomark _ | rfl) : PT X (.Compare a [op] [b] pos) (fTest (tOp r ta tb)) := by
  refine ⟨fun pins s σ H Q I h => ?_⟩
  refine wpAny_isTrue_Compare1 (thn (ha.run pins s σ H _ I h) fun v s1 ⟨x, H1, I1, r1, q1⟩ => thn (hb.run pins s1 σ H1 _ I1 q1) fun u s2 ⟨y, H2, I2, r2, q2⟩ =>
    thn (ho pins s2 σ H2 x y v u _ I2 r1 r2 q2) fun c s3 ⟨z, H3, I3, r3, q3⟩ => ?_) hm
  cases z <;> first
    | exact q3.elim
    | (cases r3; exact wpAny_truthy_bool ⟨H3, I3, q3⟩)
theorem q_chain {op op' : CmpOp} {r r' : R2} {c : Expr} {tc : TE} (ho : OpR X (compareOp op) r) (ho' : OpR X (compareOp op') r') (ha : PE X a ta) (hb : PE X b tb) (hc : PE X c tc)
    (hm : lastMarks [op, op'] [b, c] = false := by with_unfolding_all rfl) : PT X (.Compare a [op, op'] [b, c] pos) (tTest (tChain r r' ta tb tc)) := pt_chain ho ho' ha hb hc hm
/-- any other expression as a test -/
theorem q_tru (K : PySem.W.Frag) (ha : PE X a ta) (hK : X.K = K := by rfl) (he : ∀ whole, isTrue a X.env whole = (do let v ← whole; standAt a.pos; holding [v] (truthy v)) := by intro _; rfl) : PT X a (fTru K ta) := by
  subst hK
  refine ⟨fun pins s σ H Q I h => ?_⟩
  refine isTrue_plain (thn (ha.run pins s σ H _ I h) fun v s1 ⟨x, H1, I1, r1, q1⟩ => ?_) (he _)
  refine tru_ok pins s1 σ H1 x v Q I1 r1 ?_
  cases x <;> first
    | exact q1.elim
    | exact ⟨_, rfl, q1⟩
    | exact ⟨_, ⟨q1.1, rfl⟩, q1.2⟩
    | (obtain ⟨xs, hx, q⟩ := q1
       rcases hx with hx | hx
       · exact ⟨_, .inl ⟨xs, hx, rfl⟩, q⟩
       · exact ⟨_, .inr (.inl ⟨xs, hx, rfl⟩), q⟩)
theorem f_and (ha : PE X a ta) (hb : PE X (.BoolOp .And (b :: rest) pos) tb) : PE X (.BoolOp .And (a :: b :: rest) pos) (fAndV ta tb) := by
  refine ⟨fun pins s σ H Q I h => ?_⟩
  refine BoolOp_and (thn (ha.run pins s σ H _ I h) fun v s1 ⟨x, H1, I1, r1, q1⟩ => ?_)
  cases x <;> try exact q1.elim
  rename_i c
  cases r1
  refine wpAny_truthy_bool ?_
  cases c with
  | true => exact hb.run pins s1 σ H1 Q I1 q1
  | false => exact ⟨.bl false, H1, I1, rfl, q1⟩
theorem f_or (ha : PE X a ta) (hb : PE X (.BoolOp .Or (b :: rest) pos) tb) : PE X (.BoolOp .Or (a :: b :: rest) pos) (fOrV ta tb) := by
  refine ⟨fun pins s σ H Q I h => ?_⟩
  refine BoolOp_or (thn (ha.run pins s σ H _ I h) fun v s1 ⟨x, H1, I1, r1, q1⟩ => ?_)
  cases x <;> try exact q1.elim
  rename_i c
  cases r1
  refine wpAny_truthy_bool ?_
  cases c with
  | false => exact hb.run pins s1 σ H1 Q I1 q1
  | true => exact ⟨.bl true, H1, I1, rfl, q1⟩
theorem f_not (ha : PE X a ta) : PE X (.UnaryOp .Not a pos) (fNotV ta) := by
  refine ⟨fun pins s σ H Q I h => ?_⟩
  refine UnaryOp_ (thn (ha.run pins s σ H _ I h) fun v s1 ⟨x, H1, I1, r1, q1⟩ => ?_)
  cases x <;> try exact q1.elim
  rename_i c
  cases r1
  exact not_of (wpAny_truthy_bool ⟨.bl (!c), H1, I1, rfl, q1⟩)
end
/-! ### built-ins -/
def fLen (K : PySem.W.Frag) : List V → Hp → VK → Prop := fun xs H Q => match xs with
  | [.str z] => z.length ≤ sizeLine ∧ Q (.int z.length) H
  | [.ref p] => ∃ ys, (SqL K H p ys ∨ SqT K H p ys) ∧ Q (.int ys.length) H
  | _ => False
def fInt : List V → Hp → VK → Prop := fun xs H Q => match xs with
  | [.int i] => Q (.int i) H
  | [.bl k] => Q (.int (if k then 1 else 0)) H
  | [.str a] => ∃ n, PySem.intText? a = some n ∧ a.length ≤ 640 ∧ Q (.int n) H
  | _ => False
def fStr : List V → Hp → VK → Prop := fun xs H Q => match xs with
  | [.int i] => i.natAbs.log2 < 1920 ∧ Q (.str (toString i)) H
  | _ => False
def fMin : List V → Hp → VK → Prop := fun xs H Q => match xs with
  | [.int i, .int j] => Q (.int (if j < i then j else i)) H
  | _ => False
def fMax : List V → Hp → VK → Prop := fun xs H Q => match xs with
  | [.int i, .int j] => Q (.int (if j > i then j else i)) H
  | _ => False
def fTuple (K : PySem.W.Frag) : List V → Hp → VK → Prop := fun xs H Q => match xs with
  | [.ref p] => ∃ ys, (SqL K H p ys ∨ SqT K H p ys) ∧ ∀ q H', SqT K H' q ys → Same H H' → Q (.ref q) H'
  | _ => False
def fList (K : PySem.W.Frag) : List V → Hp → VK → Prop := fun xs H Q => match xs with
  | [.ref p] => ∃ ys, (SqL K H p ys ∨ SqT K H p ys) ∧ ∀ l, H l = none → Q (.ref l) (upd H l (.lst ys))
  | _ => False
section
variable {X : Cx}
theorem c_len (K : PySem.W.Frag) (hK : X.K = K := by rfl) : CallR X (.builtin "len") (fLen K) := fun pins s σ H xs us Q I r h => by
  subst hK
  unfold fLen at h
  split at h
  · exact call_len_str pins s σ H _ us Q I r ⟨_, rfl, h.1, h.2⟩
  · obtain ⟨ys, hy, q⟩ := h
    exact call_len_seq pins s σ H _ us Q I r ⟨_, ys, rfl, hy, q⟩
  · exact h.elim
/-- .. telling that it is no more than the line -/
def fLenB (K : PySem.W.Frag) : List V → Hp → VK → Prop := fun xs H Q => match xs with
  | [.str z] => z.length ≤ sizeLine ∧ Q (.int z.length) H
  | [.ref p] => ∃ ys, (SqL K H p ys ∨ SqT K H p ys) ∧ (ys.length ≤ sizeLine → Q (.int ys.length) H)
  | _ => False
theorem c_lenB (K : PySem.W.Frag) (hK : X.K = K := by rfl) : CallR X (.builtin "len") (fLenB K) := fun pins s σ H xs us Q I r h => by
  subst hK
  unfold fLenB at h
  split at h
  · exact call_len_str pins s σ H _ us Q I r ⟨_, rfl, h.1, h.2⟩
  · obtain ⟨ys, hy, q⟩ := h
    refine call_len_seq pins s σ H _ us Q I r ⟨_, ys, rfl, hy, q ?_⟩
    rcases hy with hy | hy
    · exact (I.list hy).choose_spec.2.2
    · exact (I.tuple hy).choose_spec.2.2
  · exact h.elim
theorem c_int : CallR X (.type "int") fInt := fun pins s σ H xs us Q I r h => by
  unfold fInt at h
  split at h
  · exact call_int1 pins s σ H _ us Q I r (.inl ⟨_, rfl, h⟩)
  · exact call_int1 pins s σ H _ us Q I r (.inr ⟨_, rfl, h⟩)
  · obtain ⟨n, h1, h2, q⟩ := h
    exact call_int_str pins s σ H _ us Q I r ⟨_, n, rfl, h1, h2, q⟩
  · exact h.elim
theorem c_str : CallR X (.type "str") fStr := fun pins s σ H xs us Q I r h => by
  unfold fStr at h
  split at h
  · exact call_str_int pins s σ H _ us Q I r ⟨_, rfl, h.1, h.2⟩
  · exact h.elim
theorem c_min (hc : X.calm = true := by rfl) : CallR X (.builtin "min") fMin := fun pins s σ H xs us Q I r h => by
  unfold fMin at h
  split at h
  · exact call_min2 hc pins s σ H _ us Q I r ⟨_, _, rfl, h⟩
  · exact h.elim
theorem c_max (hc : X.calm = true := by rfl) : CallR X (.builtin "max") fMax := fun pins s σ H xs us Q I r h => by
  unfold fMax at h
  split at h
  · exact call_max2 hc pins s σ H _ us Q I r ⟨_, _, rfl, h⟩
  · exact h.elim
theorem c_tuple (K : PySem.W.Frag) (hK : X.K = K := by rfl) : CallR X (.type "tuple") (fTuple K) := fun pins s σ H xs us Q I r h => by
  subst hK
  unfold fTuple at h
  split at h
  · obtain ⟨ys, hy, q⟩ := h
    refine call_tuple_of pins s σ H _ us Q I r ⟨_, ys, rfl, ?_⟩
    rcases hy with hy | hy
    · exact .inl ⟨hy, fun l hl => q _ _ (SqT.of upd_same) (same_upd hl)⟩
    · exact .inr ⟨hy, q _ _ hy (Same.refl _)⟩
  · exact h.elim
theorem c_list (K : PySem.W.Frag) (hK : X.K = K := by rfl) : CallR X (.type "list") (fList K) := fun pins s σ H xs us Q I r h => by
  subst hK
  unfold fList at h
  split at h
  · obtain ⟨ys, hy, q⟩ := h
    exact call_list_of pins s σ H _ us Q I r ⟨_, ys, rfl, hy, q⟩
  · exact h.elim
end
/-! ### isinstance -/
/-- what it says of None, a bool, an int, a text, a list, a tuple, a dict -/
structure Isi where
  nm : String
  non : Bool
  bl : Bool
  int : Bool
  str : Bool
  lst : Bool
  tup : Bool
  dct : Bool
def Isi.ok (k : Isi) : Bool := kitB "NoneType" k.nm == some k.non && kitB "bool" k.nm == some k.bl && kitB "int" k.nm == some k.int && kitB "str" k.nm == some k.str && kitB "list" k.nm == some k.lst && kitB "tuple" k.nm == some k.tup && kitB "dict" k.nm == some k.dct
def kBool : Isi := ⟨"bool", false, true, false, false, false, false, false⟩
def kInt : Isi := ⟨"int", false, true, true, false, false, false, false⟩
def kStr : Isi := ⟨"str", false, false, false, true, false, false, false⟩
def kLst : Isi := ⟨"list", false, false, false, false, true, false, false⟩
def kTup : Isi := ⟨"tuple", false, false, false, false, false, true, false⟩
def kDct : Isi := ⟨"dict", false, false, false, false, false, false, true⟩
theorem kBool_ok : kBool.ok = true := by decide +kernel
theorem kInt_ok : kInt.ok = true := by decide +kernel
theorem kStr_ok : kStr.ok = true := by decide +kernel
theorem kLst_ok : kLst.ok = true := by decide +kernel
theorem kTup_ok : kTup.ok = true := by decide +kernel
theorem kDct_ok : kDct.ok = true := by decide +kernel
def isiK (K : PySem.W.Frag) (k : Isi) (x : V) (H : Hp) (q : Bool → Prop) : Prop := match x with
  | .non => q k.non
  | .bl _ => q k.bl
  | .int _ => q k.int
  | .str _ => q k.str
  | .ref a => (∃ xs, SqL K H a xs ∧ q k.lst) ∨ (∃ xs, SqT K H a xs ∧ q k.tup) ∨ (((∃ kvs, H a = some (.dK kvs)) ∨ ∃ kvs, H a = some (.dT kvs)) ∧ q k.dct)
  | _ => False
theorem tyx_lst {K : PySem.W.Frag} {H : Hp} {a : Addr} {xs : List V} (h : SqL K H a xs) : TyX K H (.ref a) (.type "list") := by
  rcases h with (h | ⟨o, h⟩) | ⟨o, its, n, h1, h2, _⟩
  · exact .base (.lst h)
  · exact .base (.frz h)
  · exact .kList h1 h2
theorem tyx_tup {K : PySem.W.Frag} {H : Hp} {a : Addr} {xs : List V} (h : SqT K H a xs) : TyX K H (.ref a) (.type "tuple") := by
  rcases h with (h | ⟨o, h⟩) | ⟨o, its, n, h1, h2, _⟩
  · exact .base (.tup h)
  · exact .fTuple h
  · exact .kTuple h1 h2
/-- its type's name and the answer -/
theorem isiK_ty {K : PySem.W.Frag} {k : Isi} (ok : k.ok = true) {x : V} {H : Hp} {q : Bool → Prop} (h : isiK K k x H q) : ∃ t b, TyX K H x (.type t) ∧ kitB t k.nm = some b ∧ q b := by
  unfold Isi.ok at ok
  simp only [Bool.and_eq_true, beq_iff_eq] at ok
  obtain ⟨⟨⟨⟨⟨⟨h1, h2⟩, h3⟩, h4⟩, h5⟩, h6⟩, h7⟩ := ok
  cases x with
  | non => exact ⟨_, _, .base .non, h1, h⟩
  | bl b => exact ⟨_, _, .base (.bl b), h2, h⟩
  | int i => exact ⟨_, _, .base (.int i), h3, h⟩
  | str y => exact ⟨_, _, .base (.str y), h4, h⟩
  | ref a =>
    rcases h with ⟨xs, hx, q⟩ | ⟨xs, hx, q⟩ | ⟨⟨kvs, hx⟩ | ⟨kvs, hx⟩, q⟩
    · exact ⟨_, _, tyx_lst hx, h5, q⟩
    · exact ⟨_, _, tyx_tup hx, h6, q⟩
    · exact ⟨_, _, .base (.dK hx), h7, q⟩
    · exact ⟨_, _, .base (.dT hx), h7, q⟩
  | _ => exact h.elim
def fIsi (K : PySem.W.Frag) (k : Isi) (t : TE) : TE := fun σ H Q => t σ H fun x H1 => isiK K k x H1 fun b => Q (.bl b) H1
section
variable {X : Cx}
theorem p_isi {e : Expr} {te : TE} {p p2 pos : Pos} {c : Str} (K : PySem.W.Frag) (k : Isi) (ok : k.ok = true) (hm : X.mg "isinstance" = none) (hmc : X.mg c = none) (hv : bootBuiltins c = some (.type k.nm)) (he : PE X e te) (hK : X.K = K := by rfl) (hg : Gl X "isinstance" := by rfl) (hgc : Gl X c := by rfl)
    (hn : c ≠ "__name__" := by decide) (hd : (c == ("__debug__" : Str)) = false := by decide) (hs : starEach (e :: [.Name c p2]) X.env = (false, eval e X.env) :: starEach [.Name c p2] X.env := by rfl) (hpl : (backTo pos (starEach [Expr.Name c p2] X.env)).any (·.1) = false := by rfl)
    (hs2 : starEach [Expr.Name c p2] X.env = (false, eval (.Name c p2) X.env) :: starEach [] X.env := by rfl) :
    PE X (.Call (.Name "isinstance" p) [e, .Name c p2] [] pos) (fIsi K k te) := by
  subst hK
  refine ⟨fun pins s σ H Q I h => ?_⟩
  refine wpAny_Call_Name_kw (ld_blt I hg hm boot_isinstance ?_)
  refine PyProof.Rows.callWith_builtin1 (Q := EP X pins σ Q) ?_ hs hpl
  rw [hs]
  show wpAny _ _ (spliced ((false, eval e X.env) :: backTo pos (starEach [Expr.Name c p2] X.env))) _ _ s
  refine Calls.spliced_cons (thn (he.run pins s σ H _ I h) fun u s1 ⟨x, H1, I1, r1, q1⟩ => ?_)
  refine thn ((pa_cons (pe_bltn (v := .ty k.nm) hgc hmc hv rfl hn hd) pa_nil hs2).run pos pins s1 σ H1 (fun vs H2 => vs = [.ty k.nm] ∧ H2 = H1) I1 ⟨rfl, rfl⟩) fun us s2 ⟨vs, H2, I2, r2, e1, e2⟩ => ?_
  subst e1 e2
  obtain ⟨t, b, ty, kt, q⟩ := isiK_ty ok q1
  exact call_isi pins s2 σ H2 [x, .ty k.nm] (u :: us) Q I2 (.cons r1 r2) ⟨x, .ty k.nm, .type t, .type k.nm, b, rfl, .ty _, ty, kit_ty kt, q⟩
end

/-- isinstance(x, (tuple, list)) -/
def kTL : Isi := ⟨"", false, false, false, false, true, true, false⟩
def fIsiTL (K : PySem.W.Frag) (te : TE) : TE := fun σ H Q => te σ H fun x H1 => ∀ T, H1 T = none → isiK K kTL x H1 fun b => Q (.bl b) (upd H1 T (.tup [.ty "tuple", .ty "list"]))
theorem tyx_upd {K : PySem.W.Frag} {H : Hp} {T : Addr} {o : HO} {x : V} {t : Value} (hT : H T = none) (h : TyX K H x t) : TyX K (upd H T o) x t := by
  have k : ∀ {a : Addr} {u : HO}, H a = some u → upd H T o a = some u := fun e => by rw [upd_ne (ne_of_none e hT)]; exact e
  cases h with
  | base b =>
    refine .base ?_
    cases b with
    | non => exact .non
    | bl y => exact .bl y
    | int i => exact .int i
    | str y => exact .str y
    | flt y => exact .flt y
    | lst e => exact .lst (k e)
    | frz e => exact .frz (k e)
    | tup e => exact .tup (k e)
    | dK e => exact .dK (k e)
    | dT e => exact .dT (k e)
    | ins e cl ha hn htk hm => exact .ins (k e) cl ha hn htk hm
  | byt y => exact .byt y
  | set e => exact .set (k e)
  | kList e c => exact .kList e c
  | kTuple e c => exact .kTuple e c
  | kDict e c => exact .kDict e c
  | fTuple e => exact .fTuple (k e)
  | fDict e => exact .fDict (k e)
theorem isiTL_ty {K : PySem.W.Frag} {x : V} {H : Hp} {q : Bool → Prop} (h : isiK K kTL x H q) : ∃ t b, TyX K H x (.type t) ∧ PySem.W.kitAny K (.type t) [.type "tuple", .type "list"] = some b ∧ q b := by
  have g : ∀ {t : String} {b1 b2 r : Bool}, kitB t "tuple" = some b1 → kitB t "list" = some b2 → r = (b1 || b2) → PySem.W.kitAny K (.type t) [.type "tuple", .type "list"] = some r := fun {t b1 b2 r} h1 h2 e => by
    subst e
    refine kitAny_cons (kit_ty h1) (fun e1 => ?_) (fun e1 => by rw [e1]; rfl)
    refine kitAny_cons (kit_ty h2) (fun e2 => by rw [e1, e2]; exact kitAny_nil) (fun e2 => by rw [e2]; simp)
  cases x with
  | non => exact ⟨_, _, .base .non, g (b1 := false) (b2 := false) (by decide +kernel) (by decide +kernel) rfl, h⟩
  | bl b => exact ⟨_, _, .base (.bl b), g (b1 := false) (b2 := false) (by decide +kernel) (by decide +kernel) rfl, h⟩
  | int i => exact ⟨_, _, .base (.int i), g (b1 := false) (b2 := false) (by decide +kernel) (by decide +kernel) rfl, h⟩
  | str y => exact ⟨_, _, .base (.str y), g (b1 := false) (b2 := false) (by decide +kernel) (by decide +kernel) rfl, h⟩
  | ref a =>
    rcases h with ⟨xs, hx, q⟩ | ⟨xs, hx, q⟩ | ⟨⟨kvs, hx⟩ | ⟨kvs, hx⟩, q⟩
    · exact ⟨_, _, tyx_lst hx, g (b1 := false) (b2 := true) (by decide +kernel) (by decide +kernel) rfl, q⟩
    · exact ⟨_, _, tyx_tup hx, g (b1 := true) (b2 := false) (by decide +kernel) (by decide +kernel) rfl, q⟩
    · exact ⟨_, _, .base (.dK hx), g (b1 := false) (b2 := false) (by decide +kernel) (by decide +kernel) rfl, q⟩
    · exact ⟨_, _, .base (.dT hx), g (b1 := false) (b2 := false) (by decide +kernel) (by decide +kernel) rfl, q⟩
  | _ => exact h.elim
section
variable {X : Cx}
theorem p_isiTL {e : Expr} {te : TE} {p p1 p2 tpos pos : Pos} {k : Nat} (K : PySem.W.Frag) (hm : X.mg "isinstance" = none) (hmt : X.mg "tuple" = none) (hml : X.mg "list" = none) (he : PE X e te) (hK : X.K = K := by rfl) (hg : Gl X "isinstance" := by rfl) (hgt : Gl X "tuple" := by rfl) (hgl : Gl X "list" := by rfl)
    (hs : starEach [e, .Tuple [.Name "tuple" p1, .Name "list" p2] k tpos] X.env = (false, eval e X.env) :: starEach [.Tuple [.Name "tuple" p1, .Name "list" p2] k tpos] X.env := by rfl)
    (hpl : (backTo pos (starEach [Expr.Tuple [.Name "tuple" p1, .Name "list" p2] k tpos] X.env)).any (·.1) = false := by rfl) :
    PE X (.Call (.Name "isinstance" p) [e, .Tuple [.Name "tuple" p1, .Name "list" p2] k tpos] [] pos) (fIsiTL K te) := by
  subst hK
  refine ⟨fun pins s σ H Q I h => ?_⟩
  refine wpAny_Call_Name_kw (ld_blt I hg hm boot_isinstance ?_)
  refine PyProof.Rows.callWith_builtin1 (Q := EP X pins σ Q) ?_ hs hpl
  rw [hs]
  show wpAny _ _ (spliced ((false, eval e X.env) :: backTo pos (starEach [Expr.Tuple [.Name "tuple" p1, .Name "list" p2] k tpos] X.env))) _ _ s
  refine Calls.spliced_cons (thn (he.run pins s σ H _ I h) fun u s1 ⟨x, H1, I1, r1, q1⟩ => ?_)
  have pt : PA X [.Tuple [.Name "tuple" p1, .Name "list" p2] k tpos] (tCons (tTup (tCons (tC (.ty "tuple")) (tCons (tC (.ty "list")) tNil))) tNil) :=
    pa_cons (pe_tup (pa_cons (pe_bltn (v := .ty "tuple") hgt hmt boot_tuple rfl) (pa_cons (pe_bltn (v := .ty "list") hgl hml boot_list rfl) pa_nil))) pa_nil
  refine thn (pt.run pos pins s1 σ H1 (fun vs H2 => ∃ T, H1 T = none ∧ vs = [.ref T] ∧ H2 = upd H1 T (.tup [.ty "tuple", .ty "list"])) I1 ⟨by show 2 ≤ sizeLine; decide, fun T hT => ⟨T, hT, rfl, rfl⟩⟩) fun us s2 ⟨vs, H2, I2, r2, T, hT, e1, e2⟩ => ?_
  subst e1 e2
  obtain ⟨t, b, ty, kt, q⟩ := isiTL_ty (q1 T hT)
  exact call_isiT pins s2 σ _ [x, .ref T] (u :: us) Q I2 (.cons r1 r2) ⟨x, T, [.ty "tuple", .ty "list"], .type t, [.type "tuple", .type "list"], b, rfl, upd_same, .cons (.ty _) (.cons (.ty _) .nil), tyx_upd hT ty, kt, q⟩
end
/-! ### subscripts and slices -/
def fIx (K : PySem.W.Frag) : R2 := fun x y H Q => match x, y with
  | .str z, .int i => z.length ≤ sizeLine ∧ ∃ c, atI z.cps.toList i = some c ∧ Q (.str ⟨#[c]⟩) H
  | .ref p, .int i => ∃ xs v, (SqL K H p xs ∨ SqT K H p xs) ∧ atI xs i = some v ∧ Q v H
  | _, _ => False
def fSl (K : PySem.W.Frag) : V → Option Int → Option Int → Hp → VK → Prop := fun x lo hi H Q => match x with
  | .str z => z.length ≤ sizeLine ∧ Q (.str (cutS z lo hi)) H
  | .ref a => (∃ xs, SqL K H a xs ∧ ∀ p, H p = none → Q (.ref p) (upd H p (.lst (cutV xs lo hi)))) ∨ (∃ xs, SqT K H a xs ∧ ∀ p H', SqT K H' p (cutV xs lo hi) → Same H H' → Q (.ref p) H')
  | _ => False
def fPart (t : TE) : TO := fun σ H Q => t σ H fun x H1 => match x with | .int i => Q (some i) H1 | _ => False
theorem cut_whole {xs : List V} {lo hi : Option Int} (h : HT.sIx xs.length 0 lo = 0 ∧ HT.sIx xs.length xs.length hi = xs.length) : cutV xs lo hi = xs := by
  unfold cutV
  rw [h.1, h.2, List.drop_zero, Nat.sub_zero]
  exact List.take_length
section
variable {X : Cx}
theorem x_ix (K : PySem.W.Frag) (hK : X.K = K := by rfl) : IxR X (fIx K) := fun value slice pins s σ H x y v u Q I rx ry h hs => by
  subst hK
  unfold fIx at h
  split at h
  · obtain ⟨h1, c, h2, q⟩ := h
    exact ix_str value slice pins s σ H _ _ v u Q I rx ry ⟨_, _, c, rfl, rfl, h1, h2, q⟩ hs
  · obtain ⟨xs, w, hx, h2, q⟩ := h
    rcases hx with hx | hx
    · exact ix_list value slice pins s σ H _ _ v u Q I rx ry ⟨_, xs, _, w, rfl, rfl, hx, h2, q⟩ hs
    · exact ix_tup value slice pins s σ H _ _ v u Q I rx ry ⟨_, xs, _, w, rfl, rfl, hx, h2, q⟩ hs
  · exact h.elim
theorem x_sl (K : PySem.W.Frag) (hK : X.K = K := by rfl) : SlR X (fSl K) := fun pins s σ H x v vl vu lo hi sl Q I rx hs pl pu h => by
  subst hK
  cases x <;> try exact h.elim
  · exact sl_str pins s σ H _ v vl vu lo hi sl Q I rx hs pl pu ⟨_, rfl, h.1, h.2⟩
  · rcases h with ⟨xs, hx, q⟩ | ⟨xs, hx, q⟩
    · exact sl_list pins s σ H _ v vl vu lo hi sl Q I rx hs pl pu ⟨_, xs, rfl, hx, q⟩
    · refine sl_tupA pins s σ H _ v vl vu lo hi sl Q I rx hs pl pu ⟨_, xs, rfl, hx, fun w => ?_, fun w p hp => ?_⟩
      · exact q _ _ (by rw [cut_whole w]; exact hx) (Same.refl _)
      · exact q _ _ (SqT.of upd_same) (same_upd hp)
end
/-! ### calls with keywords -/
def KB (fd : FuncData) (ps : List Str) (n : Nat) : Prop := ∀ (s : Shared) (us ws : List Value), us.length = n → ws.length = (ps.drop n).length → BindsTo s fd ⟨us, (ps.drop n).zip ws⟩ (ps.zip (us ++ ws))
structure FnK (P : Program) (w : World) (K : PySem.W.Frag) (mg : Str → Option Value) (base : Heap) (x : Str) (ps : List Str) (n k : Nat) (sp : Sp) : Prop where
  ex : ∃ f fd, FnOk P w K mg base CX0 k f fd ps sp ∧ mg x = some (.ref f) ∧ PySem.W.keepIn K (.ref f) = true ∧ KB fd ps n
  le : n ≤ ps.length
section
variable {X : Cx}
theorem run_kw {x : Str} {ps : List Str} {n k : Nat} {sp : Sp} {f : Addr} {fd : FuncData} {pins : List (Addr × Obj)} {σ : L2.St} {H : Hp} {s : Shared} {Q : VK} {us ws : List Value} {vs zs : List V} (F : FnOk X.prog X.w X.K X.mg X.base CX0 k f fd ps sp) (hr : Room k X.A) (hb : KB fd ps n)
    (I : Inv X pins σ H s) (r : Vals vs us) (rz : Vals zs ws) (hl : us.length = n) (hz : ws.length = (ps.drop n).length) (h : sp (vs ++ zs) H Q E0) : wpAny (model X.prog X.w) X.A (call (.ref f) us ((ps.drop n).zip ws)) (EP X pins σ Q) X.xe s := by
  refine wpAny_call (codeAny_mono (F.run X.A X.stack s H ⟨us, (ps.drop n).zip ws⟩ (us ++ ws) (vs ++ zs) Q E0 hr I.env0 (hb s us ws hl hz) (r.append rz) h) fun r s' hq => ?_)
  cases r with
  | error e => exact hq.elim
  | ok fl =>
    cases fl with
    | ret u => exact I.after hq
    | next => exact False.elim hq
    | brk => exact False.elim hq
    | cont => exact False.elim hq
def fCallK (m : Nat) (sp : Sp) (tk : TA) : TE := fun σ H Q => tk σ H fun zs H1 => zs.length = m ∧ sp zs H1 Q E0
/-- f(k = v, ..), every parameter by its name, in their order -/
theorem pcallK {x : Str} {ps : List Str} {k j : Nat} {sp : Sp} {p pos : Pos} {kws : List Keyword} {tk : TA} (F : FnK X.prog X.w X.K X.mg X.base x ps 0 k sp) (hr : Room j X.A) (hkw : PK X kws tk) (hg : Gl X x := by rfl) (hj : k ≤ j := by first | decide | omega)
    (hall : (backToKw pos (keywordEach kws X.env)).all (·.1.isSome) = true := by rfl) (hks : (backToKw pos (keywordEach kws X.env)).filterMap (·.1) = ps := by rfl) (hdb : (x == ("__debug__" : Str)) = false := by decide)
    (hpl : ((backTo pos (starEach [] X.env)).any (·.1) || (backToKw pos (keywordEach kws X.env)).any (·.1.isNone)) = false := by rfl) :
    PE X (.Call (.Name x p) [] kws pos) (fCallK ps.length sp tk) := by
  obtain ⟨f, fd, F, hm, hk, hb⟩ := F.ex
  refine ⟨fun pins s σ H Q I h => ?_⟩
  refine wpAny_Call_Name_kw (ld_glob I hg hm ?_ hdb)
  refine PySem.W.callWith_KW0 (h₀ := X.base) I.ok.mod.kin hk hall ?_ hpl
  refine thn (hkw.run pos pins s σ H _ I h) fun ws s2 ⟨zs, H2, I2, rz, l1, q2⟩ => ⟨I2.kIn, ?_⟩
  rw [hks]
  exact run_kw (x := x) (us := []) (vs := []) F (hr.mono hj) hb I2 .nil rz rfl (by rw [← rz.length, l1]; rfl) q2
end
theorem fun_kb {K : PySem.W.Frag} {x : Str} {st : Stmt} {f : Addr} {fd : FuncData} {ps : List Str} {n : Nat} (F : FnP K x st f fd)
    (h : ∀ (kV doc pm : Value) (an : Option Addr) (cdv ct : Value) (us ws : List Value), us.length = n → ws.length = (ps.drop n).length → bindArgs (PySem.W.fnOf x x (defArgs st) (defBody st) (defScope st) .none kV doc pm an cdv ct) ⟨us, (ps.drop n).zip ws⟩ = pure (ps.zip (us ++ ws))) : KB fd ps n := by
  obtain ⟨oc, od, dV, kV, doc, pm, an, cdv, ct, osl, rfl, lk, hcd, hD, hK⟩ := F.ex
  rcases hD with ⟨_, rfl⟩ | ⟨e, _⟩
  · exact fun s us ws h1 h2 => .of_eq (h kV doc pm an cdv ct us ws h1 h2)
  · exact absurd rfl e
/-! ### the built-in names that the text leaves alone -/
structure Bf (mg : Str → Option Value) : Prop where
  len : mg "len" = none
  int : mg "int" = none
  str : mg "str" = none
  bool : mg "bool" = none
  tuple : mg "tuple" = none
  list : mg "list" = none
  dict : mg "dict" = none
  range : mg "range" = none
  isinstance : mg "isinstance" = none
  min : mg "min" = none
  max : mg "max" = none
  sorted : mg "sorted" = none
  zip : mg "zip" = none
  enumerate : mg "enumerate" = none
  sum : mg "sum" = none
  any : mg "any" = none
  all : mg "all" = none
  ord : mg "ord" = none
/-! ### ifs -/
theorem iteD {c A B : Prop} [Decidable c] (h1 : c → A) (h2 : ¬ c → B) : if decide c = true then A else B := by
  by_cases h : c
  · rw [if_pos (decide_eq_true h)]
    exact h1 h
  · rw [if_neg (fun z => h (of_decide_eq_true z))]
    exact h2 h

/-! ### a sequence by what holds between -/
theorem nxt {f : L2.St → Hp → Prop} {R : VK} {B C : L2.St → Hp → Prop} {σ : L2.St} {H : Hp} (h : f σ H) : tNext { nx := f, rt := R, bk := B, ct := C } σ H := h
theorem seqP {t u : TS} {D : Ends} {σ : L2.St} {H : Hp} (P : L2.St → Hp → Prop) (rest : ∀ σ1 H1, P σ1 H1 → u D σ1 H1) (h : (∀ σ1 H1, P σ1 H1 → u D σ1 H1) → t { D with nx := u D } σ H) : tSeq t u D σ H := h rest
/-- a sequence that is cut: it is not seen through -/
@[irreducible] def cutSeq (t u : TS) : TS := tSeq t u
theorem pss_cut {X : Cx} {st : Stmt} {rest : List Stmt} {t u : TS} (h1 : PS X st t) (h2 : PSs X rest u) : PSs X (st :: rest) (cutSeq t u) := by
  unfold cutSeq
  exact pss_cons h1 h2
theorem cutP {t u : TS} {D : Ends} {σ : L2.St} {H : Hp} (P : L2.St → Hp → Prop) (rest : ∀ σ1 H1, P σ1 H1 → u D σ1 H1) (h : (∀ σ1 H1, P σ1 H1 → u D σ1 H1) → t { D with nx := u D } σ H) : cutSeq t u D σ H := by
  unfold cutSeq
  exact h rest
/-! ### a list or a tuple that is walked -/
def fSeq (K : PySem.W.Frag) (tl : TE) : TI := fun σ H R => tl σ H fun x H1 => match x with
  | .ref a => ((∃ xs, SqL K H1 a xs) ∧ R (Itl K a) H1) ∨ ((∃ xs, SqT K H1 a xs) ∧ R (Itt K a) H1)
  | _ => False
section
variable {X : Cx} {tg : Expr}
theorem p_seq {l : Expr} {tl : TE} (K : PySem.W.Frag) (hl : PE X l tl) (hK : X.K = K := by rfl) : PI X tg l (fSeq K tl) := by
  subst hK
  refine ⟨fun pins s σ H R I h => ?_⟩
  refine thn (hl.run pins s σ H _ I h) fun u s1 ⟨x, H1, I1, r1, q⟩ => ?_
  cases x <;> try exact q.elim
  cases r1
  rcases q with ⟨⟨xs, hx⟩, q⟩ | ⟨⟨xs, hx⟩, q⟩
  · obtain ⟨its, rv, p, hz⟩ := I1.list hx
    refine wpAny_pyIter_list p.isList ?_
    refine ⟨s1.heap.objs.size, [s1.heap.objs.size], _, _, H1, rfl, I1.kept (t' := s1.toks) fun b o e => Heap.get?_push_of_some _ e, turn_list _ _, ⟨_, Heap.get?_push_size _ rfl, rfl, rfl⟩, fun b hb => ?_, q⟩
    have e : b = s1.heap.objs.size := by simpa using hb
    subst e
    exact I1.fpOk (Nat.le_refl _) (I1.hok.fresh (Nat.le_refl _))
  · obtain ⟨its, rv, p, hz⟩ := I1.tuple hx
    refine wpAny_pyIter_tuple (show s1.heap.IsTuple _ its.toArray from p) ?_
    refine ⟨s1.heap.objs.size, [s1.heap.objs.size], _, _, H1, rfl, I1.kept (t' := s1.toks) fun b o e => Heap.get?_push_of_some _ e, turn_tuple _ _, ⟨_, Heap.get?_push_size _ rfl, rfl, rfl⟩, fun b hb => ?_, q⟩
    have e : b = s1.heap.objs.size := by simpa using hb
    subst e
    exact I1.fpOk (Nat.le_refl _) (I1.hok.fresh (Nat.le_refl _))
end
/-! ### the store of draws -/
def Sto (H : Hp) (st cl : Addr) : Prop := st ≠ cl ∧ ∃ (cs : List Int) (p r t sd : Int), H st = some (.lst [.ref cl, .int p, .int r, .int t, .int sd]) ∧ H cl = some (.lst (cs.map V.int)) ∧ 0 ≤ p ∧ 0 ≤ r
/-- all but the store at st is as it was; the store is a good one -/
def Go (st cl : Addr) (H H' : Hp) : Prop := (∀ b o, b ≠ st → H b = some o → H' b = some o) ∧ Sto H' st cl
section
variable {st cl : Addr} {H H1 H2 : Hp} {l : Addr} {o : HO}
theorem Sto.stIs (s : Sto H st cl) : ∃ xs, H st = some (.lst xs) := let ⟨_, _, _, _, _, _, h, _⟩ := s; ⟨_, h⟩
theorem Sto.clIs (s : Sto H st cl) : ∃ xs, H cl = some (.lst xs) := let ⟨_, _, _, _, _, _, _, h, _⟩ := s; ⟨_, h⟩
theorem Go.refl (s : Sto H st cl) : Go st cl H H := ⟨fun _ _ _ h => h, s⟩
theorem Go.sto (g : Go st cl H H1) : Sto H1 st cl := g.2
theorem Go.trans (g : Go st cl H H1) (g2 : Go st cl H1 H2) : Go st cl H H2 := ⟨fun b o n h => g2.1 b o n (g.1 b o n h), g2.2⟩
theorem Go.lst (g : Go st cl H H1) {a : Addr} {xs : List V} (n : a ≠ st) (h : H a = some (.lst xs)) : H1 a = some (.lst xs) := g.1 a _ n h
theorem Sto.ne_tup (s : Sto H st cl) {a : Addr} {xs : List V} (h : H a = some (.tup xs)) : a ≠ st := fun e => by
  obtain ⟨ys, hy⟩ := s.stIs
  rw [e, hy] at h
  cases h
theorem Sto.ne_none (s : Sto H st cl) (h : H l = none) : l ≠ st := fun e => by
  obtain ⟨ys, hy⟩ := s.stIs
  rw [e, hy] at h
  cases h
theorem Sto.ne_noneC (s : Sto H st cl) (h : H l = none) : l ≠ cl := fun e => by
  obtain ⟨ys, hy⟩ := s.clIs
  rw [e, hy] at h
  cases h
theorem Go.tup (g : Go st cl H H1) (s : Sto H st cl) {K : PySem.W.Frag} {a : Addr} {xs : List V} (h : SqT K H a xs) : SqT K H1 a xs := by
  have nf : ∀ {u : HO}, H a = some u → (∀ ys, u ≠ .lst ys) → a ≠ st := fun e k z => by
    obtain ⟨ys, hy⟩ := s.stIs
    rw [z, hy] at e
    exact k ys (Option.some.inj e).symm
  rcases h with (h | ⟨o, h⟩) | h
  · exact .inl (.inl (g.1 _ _ (nf h fun _ z => by cases z) h))
  · exact .inl (.inr ⟨o, g.1 _ _ (nf h fun _ z => by cases z) h⟩)
  · exact .inr h
theorem Go.seq (g : Go st cl H H1) (s : Sto H st cl) {K : PySem.W.Frag} {a : Addr} {xs : List V} (n : a ≠ st) (h : SqL K H a xs) : SqL K H1 a xs := by
  rcases h with (h | ⟨o, h⟩) | h
  · exact .inl (.inl (g.1 _ _ n h))
  · exact .inl (.inr ⟨o, g.1 _ _ n h⟩)
  · exact .inr h
theorem Go.free (g : Go st cl H H1) (s : Sto H st cl) (h : H1 l = none) : H l = none := by
  cases q : H l with
  | none => rfl
  | some o =>
    by_cases n : l = st
    · obtain ⟨ys, hy⟩ := g.2.stIs
      rw [n, hy] at h
      cases h
    · rw [g.1 l o n q] at h
      cases h
theorem Sto.lay (s : Sto H st cl) (h1 : l ≠ st) (h2 : l ≠ cl) : Sto (upd H l o) st cl := by
  obtain ⟨n, cs, p, r, t, sd, a, b, c⟩ := s
  exact ⟨n, cs, p, r, t, sd, by rw [upd_ne h1.symm]; exact a, by rw [upd_ne h2.symm]; exact b, c⟩
/-- a thing that did not stand in H is laid or changed -/
theorem Go.lay (g : Go st cl H H1) (s : Sto H st cl) (hn : H l = none) : Go st cl H (upd H1 l o) := by
  refine ⟨fun b u n h => ?_, g.2.lay (s.ne_none hn) (s.ne_noneC hn)⟩
  rw [upd_ne (ne_of_none h hn)]
  exact g.1 b u n h
theorem Go.same (g : Go st cl H H1) (e : Same H1 H2) : Go st cl H H2 := by
  refine ⟨fun b u n h => e _ _ (g.1 b u n h), ?_⟩
  obtain ⟨n, cs, p, r, t, sd, a, b, c⟩ := g.2
  exact ⟨n, cs, p, r, t, sd, e _ _ a, e _ _ b, c⟩
theorem Go.put (g : Go st cl H H1) {cs : List Int} {p r t sd : Int} (h2 : H1 cl = some (.lst (cs.map V.int))) (hp : 0 ≤ p) (hr : 0 ≤ r) : Go st cl H (upd H1 st (.lst [.ref cl, .int p, .int r, .int t, .int sd])) := by
  have n := g.2.1
  refine ⟨fun b u nb h => ?_, n, cs, p, r, t, sd, upd_same, ?_, hp, hr⟩
  · rw [upd_ne nb]
    exact g.1 b u nb h
  · rw [upd_ne n.symm]
    exact h2
theorem at_of {α : Type} {xs : List α} {i : Int} (h0 : 0 ≤ i) (h1 : i < xs.length) : ∃ v, atI xs i = some v ∧ v ∈ xs := by
  have hj : i.toNat < xs.length := by omega
  refine ⟨xs[i.toNat], ?_, List.getElem_mem _⟩
  have e : ((i.toNat : Nat) : Int) = i := by omega
  have := atI_nat (List.getElem?_eq_getElem hj)
  rw [e] at this
  exact this
theorem at_map {α β : Type} {f : α → β} {xs : List α} {i : Int} (h0 : 0 ≤ i) (h1 : i < xs.length) : ∃ v, atI (xs.map f) i = some (f v) ∧ v ∈ xs := by
  obtain ⟨u, hu, hm⟩ := at_of (xs := xs.map f) h0 (by rw [List.length_map]; exact h1)
  obtain ⟨v, hv, e⟩ := List.mem_map.mp hm
  exact ⟨v, by rw [e]; exact hu, hv⟩
end
/-! ### values: None, truths, numbers of at most 30 digits, texts of at most 40 signs -/
def signB (c : Nat) : Bool := decide (32 ≤ c) && decide (c ≤ 126) && decide (c ≠ 37)
def txtB (n : Nat) (z : Str) : Bool := decide (z.length ≤ n) && z.cps.toList.all signB
def numB (i : Int) : Bool := decide (-1000000000000000000000000000000 < i) && decide (i < 1000000000000000000000000000000)
def flatB : V → Bool
  | .non => true
  | .bl _ => true
  | .int i => numB i
  | .str z => txtB 40 z
  | _ => false
abbrev FlatV (v : V) : Prop := flatB v = true
theorem numB_iff {i : Int} : numB i = true ↔ -1000000000000000000000000000000 < i ∧ i < 1000000000000000000000000000000 := by
  unfold numB
  rw [Bool.and_eq_true, decide_eq_true_eq, decide_eq_true_eq]
theorem txtB_iff {n : Nat} {z : Str} : txtB n z = true ↔ z.length ≤ n ∧ ∀ c ∈ z.cps.toList, signB c = true := by
  unfold txtB
  rw [Bool.and_eq_true, decide_eq_true_eq, List.all_eq_true]
theorem num_log {i : Int} (h : numB i = true) : i.natAbs.log2 < 1920 := by
  have h' := numB_iff.mp h
  have h2 : i.natAbs < 2 ^ 100 := by omega
  have h3 : i.natAbs.log2 < 100 := PySem.Flt.log2_lt_of (by decide) h2
  omega
theorem txt_line {n : Nat} {z : Str} (h : txtB n z = true) (hn : n ≤ 1000) : z.length ≤ sizeLine := Nat.le_of_lt (small1000 (Nat.le_trans (txtB_iff.mp h).1 hn))
theorem len_cps (z : Str) : z.length = z.cps.toList.length := by
  rw [Array.length_toList]
  rfl
theorem txt_of {n : Nat} {l : List Nat} (h1 : l.length ≤ n) (h2 : ∀ c ∈ l, signB c = true) : txtB n ⟨l.toArray⟩ = true := txtB_iff.mpr ⟨by rw [len_cps]; exact h1, h2⟩
theorem txt_cut {n : Nat} {z : Str} {lo hi : Option Int} (h : txtB n z = true) : txtB n (cutS z lo hi) = true := by
  have h' := txtB_iff.mp h
  refine txtB_iff.mpr ⟨Nat.le_trans (cutS_length z lo hi) h'.1, fun c hc => h'.2 c ?_⟩
  exact List.mem_of_mem_drop (List.mem_of_mem_take hc)
/-- z[:m] -/
theorem cut_to {z : Str} {m : Nat} : (cutS z none (some (m : Int))).length ≤ m := by
  rw [len_cps]
  show ((z.cps.toList.drop (HT.sIx z.length 0 none)).take (HT.sIx z.length z.length (some (m : Int)) - HT.sIx z.length 0 none)).length ≤ m
  rw [HT.sIx_nat, HT.sIx_none, List.length_take]
  omega
theorem txt_to {n : Nat} {z : Str} {m : Int} (h0 : 0 ≤ m) (h : txtB n z = true) : txtB m.toNat (cutS z none (some m)) = true := by
  have h' := txtB_iff.mp (txt_cut (lo := none) (hi := some m) h)
  refine txtB_iff.mpr ⟨?_, h'.2⟩
  have e : ((m.toNat : Nat) : Int) = m := by omega
  have := cut_to (z := z) (m := m.toNat)
  rw [e] at this
  exact this
theorem txt_mono {n k : Nat} {z : Str} (hk : n ≤ k) (h : txtB n z = true) : txtB k z = true := by
  have h' := txtB_iff.mp h
  exact txtB_iff.mpr ⟨Nat.le_trans h'.1 hk, h'.2⟩
theorem all_mem {p : V → Bool} {xs : List V} (h : xs.all p = true) {v : V} (hv : v ∈ xs) : p v = true := List.all_eq_true.mp h v hv
/-- ''.join of single signs -/
theorem join_signs (cs : List Nat) : Txt.join (Str.ofString "") (cs.map fun c => (⟨#[c]⟩ : Str)) = ⟨cs.toArray⟩ := by
  have e : ∀ l : List Nat, TL.joinL [] (l.map fun c => [c]) = l := by
    intro l
    induction l with
    | nil => rfl
    | cons c r ih =>
      cases r with
      | nil => rfl
      | cons d r =>
        show [c] ++ ([] ++ TL.joinL [] ((d :: r).map fun c => [c])) = _
        rw [ih]
        rfl
  have h := SX.join_S [] (cs.map fun c => [c])
  rw [List.map_map] at h
  have h2 : SX.S [] = Str.ofString "" := by decide +kernel
  rw [e, h2] at h
  exact h
end G

/-! list(zip(a, b)) of two tuples. -/
namespace G
open PySem PySem.Calls PySem.Spec PyProof.Rows L2
section
variable {prog : Program} {w : World} {A : Around} {E : Value → Shared → Prop} {s : Shared}
theorem zh_item {z TI TO T i1 i2 l1 l2 : Addr} {f : Bool} {oT : Obj} {k1 k2 : Nat} {xs ys : Array Value} {x y : Value} {Q : Value → Shared → Prop} (D : ZipApart z TI TO i1 i2 l1 l2)
    (hz : IsZipHeld s.heap z TI TO T f) (hT : s.heap.get? T = some oT) (hTI : IsPair s.heap TI (.ref i1) (.ref i2))
    (h1 : s.heap.IsTupleIter i1 l1 k1) (h2 : s.heap.IsTupleIter i2 l2 k2) (hl1 : s.heap.IsTuple l1 xs) (hl2 : s.heap.IsTuple l2 ys) (hx : xs[k1]? = some x) (hy : ys[k2]? = some y)
    (hQ : ∀ h', IsZipHeld h' z TI TO T true → h'.IsTupleIter i1 l1 (k1 + 1) → h'.IsTupleIter i2 l2 (k2 + 1) → IsPair h' s.heap.objs.size x y → h'.objs.size = s.heap.objs.size + 1 →
      (∀ c o, c ≠ z → c ≠ i1 → c ≠ i2 → s.heap.get? c = some o → h'.get? c = some o) → Q (.ref s.heap.objs.size) { s with heap := h' }) :
    wpAny (model prog w) A (Builtin.«zip.__next__» ⟨[.ref z], []⟩) (fun fin s' => ∃ v, fin = .done (.ret v) ∧ Q v s') E s := by
  show wpAny _ _ (field (.ref z) 2 >>= _) _ _ _
  refine wpAny_bind (wpAny_field hz rfl (x := .bool false) rfl ?_)
  show wpAny _ _ (field (.ref z) 3 >>= _) _ _ _
  refine wpAny_bind (wpAny_field hz rfl (x := .ref TI) rfl ?_)
  refine wpAny_bind (wpAny_seqItems hTI rfl ?_)
  show wpAny _ _ (Builtin.SmallTypes.ownedTupleIsFree (.ref z) >>= _) _ _ _
  refine wpAny_bind (wpAny_tupleHeld_zip hz hT fun h₁ hz₁ hs₁ => ?_)
  simp only [Bool.false_eq_true, if_false]
  refine wpAny_bind ?_
  rw [← Array.forIn_toList]
  simp only [List.forIn_cons, List.forIn_nil]
  refine wpAny_bind (wpAny_bind (wpAny_holding ?_))
  show wpAny _ _ (Builtin.SmallTypes.nextOf (.ref i1) >>= _) _ _ _
  refine wpAny_bind (RZ.nextOf_tuple_item (s := { s with heap := h₁ }) (h1.extBut hs₁.extBut D.i1z) (hl1.extBut hs₁.extBut D.l1z) hx fun h₂ h1₂ hs₂ => wpAny_pure ?_)
  refine wpAny_pure ?_
  refine wpAny_bind (wpAny_bind (wpAny_holding ?_))
  show wpAny _ _ (Builtin.SmallTypes.nextOf (.ref i2) >>= _) _ _ _
  refine wpAny_bind (RZ.nextOf_tuple_item (s := { s with heap := h₂ }) ((h2.extBut hs₁.extBut D.i2z).extBut hs₂.extBut D.i12.symm) ((hl2.extBut hs₁.extBut D.l2z).extBut hs₂.extBut D.l2i1) hy fun h₃ h2₃ hs₃ => wpAny_pure ?_)
  refine wpAny_pure (wpAny_pure ?_)
  show wpAny _ _ (newTuple [x, y] >>= _) _ _ _
  refine wpAny_bind (wpAny_newTuple ?_)
  have hsz : h₃.objs.size = s.heap.objs.size := by rw [hs₃.1, hs₂.1, hs₁.1]
  have hz₃ : IsZipHeld h₃ z TI TO T true := hs₃.extBut _ _ D.i2z.symm (hs₂.extBut _ _ D.i1z.symm hz₁)
  have hk : ∀ c o, c ≠ z → c ≠ i1 → c ≠ i2 → s.heap.get? c = some o → h₃.get? c = some o := fun c o c1 c2 c3 e => hs₃.extBut _ _ c3 (hs₂.extBut _ _ c2 (hs₁.extBut _ _ c1 e))
  have h1₃ : h₃.IsTupleIter i1 l1 (k1 + 1) := h1₂.extBut hs₃.extBut D.i12
  refine wpAny_pure ⟨_, rfl, ?_⟩
  show Q (.ref h₃.objs.size) _
  have hp : IsPair (h₃.push { cls := .type "tuple", data := .seq #[x, y] }) h₃.objs.size x y := Heap.get?_push_size _ rfl
  have hz4 : (h₃.push { cls := .type "tuple", data := .seq #[x, y] }).objs.size = h₃.objs.size + 1 := Heap.size_push ..
  rw [hsz] at hp hz4 ⊢
  exact hQ _ (Heap.get?_push_of_some _ hz₃) (h1₃.at fun o e => Heap.get?_push_of_some _ e) (h2₃.at fun o e => Heap.get?_push_of_some _ e) hp hz4 fun c o c1 c2 c3 e => Heap.get?_push_of_some _ (hk c o c1 c2 c3 e)

theorem zh_end {z TI TO T i1 i2 l1 l2 : Addr} {f : Bool} {oT : Obj} {k1 : Nat} {xs : Array Value} {Q : Fin → Shared → Prop} (hh : A.handled = none) (D : ZipApart z TI TO i1 i2 l1 l2)
    (hz : IsZipHeld s.heap z TI TO T f) (hT : s.heap.get? T = some oT) (hTI : IsPair s.heap TI (.ref i1) (.ref i2))
    (h1 : s.heap.IsTupleIter i1 l1 k1) (hl1 : s.heap.IsTuple l1 xs) (hx : xs[k1]? = none)
    (hE : ∀ h' e, (∀ c o, c ≠ z → c ≠ i1 → s.heap.get? c = some o → h'.get? c = some o) → (∃ o, h'.get? e = some o ∧ o.cls = .type "StopIteration") → E (.ref e) { s with heap := h' }) :
    wpAny (model prog w) A (Builtin.«zip.__next__» ⟨[.ref z], []⟩) Q E s := by
  show wpAny _ _ (field (.ref z) 2 >>= _) _ _ _
  refine wpAny_bind (wpAny_field hz rfl (x := .bool false) rfl ?_)
  show wpAny _ _ (field (.ref z) 3 >>= _) _ _ _
  refine wpAny_bind (wpAny_field hz rfl (x := .ref TI) rfl ?_)
  refine wpAny_bind (wpAny_seqItems hTI rfl ?_)
  show wpAny _ _ (Builtin.SmallTypes.ownedTupleIsFree (.ref z) >>= _) _ _ _
  refine wpAny_bind (wpAny_tupleHeld_zip hz hT fun h₁ hz₁ hs₁ => ?_)
  simp only [Bool.false_eq_true, if_false]
  refine wpAny_bind ?_
  rw [← Array.forIn_toList]
  simp only [List.forIn_cons, List.forIn_nil]
  refine wpAny_bind (wpAny_bind (wpAny_holding ?_))
  show wpAny _ _ (Builtin.SmallTypes.nextOf (.ref i1) >>= _) _ _ _
  refine wpAny_bind (RZ.nextOf_tuple_end (s := { s with heap := h₁ }) hh (h1.extBut hs₁.extBut D.i1z) (hl1.extBut hs₁.extBut D.l1z) hx fun h₂ e hs₂ he => ?_)
  exact hE h₂ e (fun c o c1 c2 x => hs₂ _ _ c2 (hs₁.extBut _ _ c1 x)) he
end

/-- what a walk over the pairs has of its zip: n is where the zip began -/
def ZSt (h : Heap) (n l1 l2 : Addr) (xs ys : Array Value) (k : Nat) : Prop :=
  IsPair h (n + 2) (.ref n) (.ref (n + 1)) ∧ h.IsTupleIter n l1 k ∧ h.IsTupleIter (n + 1) l2 k ∧ h.IsTuple l1 xs ∧ h.IsTuple l2 ys ∧
    ((IsZip h (n + 4) (n + 2) (n + 3) .none ∧ ∃ a b, IsPair h (n + 3) a b) ∨ ∃ T f oT, IsZipHeld h (n + 4) (n + 2) (n + 3) T f ∧ h.get? T = some oT ∧ n + 5 < T)
theorem ZSt.keep {h h' : Heap} {n l1 l2 : Addr} {xs ys : Array Value} {k : Nat} (a1 : l1 < n) (a2 : l2 < n) (x : ZSt h n l1 l2 xs ys k) (hk : ∀ b o, b ≠ n + 5 → h.get? b = some o → h'.get? b = some o) : ZSt h' n l1 l2 xs ys k := by
  have ne : ∀ c : Addr, c ≤ n + 4 → c ≠ n + 5 := fun c h => Nat.ne_of_lt (Nat.lt_succ_of_le h)
  obtain ⟨h0, h1, h2, h3, h4, h5⟩ := x
  refine ⟨hk _ _ (ne _ (Nat.le_add_right (n+2) 2)) h0, h1.at fun o e => hk _ o (ne _ (Nat.le_add_right n 4)) e, h2.at fun o e => hk _ o (ne _ (Nat.le_add_right (n+1) 3)) e,
    h3.at fun o e => hk _ o (ne _ (Nat.le_of_lt (Nat.lt_of_lt_of_le a1 (Nat.le_add_right n 4)))) e, h4.at fun o e => hk _ o (ne _ (Nat.le_of_lt (Nat.lt_of_lt_of_le a2 (Nat.le_add_right n 4)))) e, ?_⟩
  rcases h5 with ⟨hz, a, b, hp⟩ | ⟨T, f, oT, hz, hT, hl⟩
  · exact .inl ⟨hk _ _ (ne _ (Nat.le_refl _)) hz, a, b, hk _ _ (ne _ (Nat.le_add_right (n+3) 1)) hp⟩
  · exact .inr ⟨T, f, oT, hk _ _ (ne _ (Nat.le_refl _)) hz, hk _ _ (Nat.ne_of_gt hl) hT, hl⟩
def ZOut (n c : Addr) : Prop := c < n ∨ n + 5 ≤ c
theorem ZOut.ne {n c : Addr} (h : ZOut n c) : c ≠ n ∧ c ≠ n + 1 ∧ c ≠ n + 2 ∧ c ≠ n + 3 ∧ c ≠ n + 4 := by
  have e : n = n + 0 := rfl
  unfold ZOut Addr at *
  omega
section
variable {prog : Program} {w : World} {A : Around} {E : Value → Shared → Prop} {s : Shared}
theorem zs_item {n l1 l2 : Addr} {xs ys : Array Value} {k : Nat} {x y : Value} {Q : Option Value → Shared → Prop} (a1 : l1 < n) (a2 : l2 < n) (st : ZSt s.heap n l1 l2 xs ys k) (hn : n + 5 < s.heap.objs.size) (hx : xs[k]? = some x) (hy : ys[k]? = some y)
    (hQ : ∀ h', ZSt h' n l1 l2 xs ys (k + 1) → IsPair h' s.heap.objs.size x y → h'.objs.size = s.heap.objs.size + 1 → (∀ c o, ZOut n c → s.heap.get? c = some o → h'.get? c = some o) → Q (some (.ref s.heap.objs.size)) { s with heap := h' }) :
    wpAny (model prog w) A (pyNext (.ref (n + 4))) Q E s := by
  have D := zipApart_new a1 a2
  obtain ⟨hTI, h1, h2, hl1, hl2, hz⟩ := st
  rcases hz with ⟨hz, a, b, hTO⟩ | ⟨T, f, oT, hz, hT, hlT⟩
  · refine RZ.pyNext_zipT_item D hz hTI hTO h1 h2 hl1 hl2 hx hy fun h' b1 b2 b3 b4 b5 b6 b7 => hQ h' ⟨b7 _ _ D.TIz D.TITO D.TIi1 D.TIi2 hTI, b3, b4, hl1.at fun o e => b7 _ o D.l1z D.l1TO D.l1i1 D.l1i2 e, hl2.at fun o e => b7 _ o D.l2z D.l2TO D.l2i1 D.l2i2 e, .inr ⟨_, false, _, b1, b5, hn⟩⟩ b5 b6 fun c o hc e => ?_
    obtain ⟨c0, c1, c2, c3, c4⟩ := hc.ne
    exact b7 c o c4 c3 c0 c1 e
  · have hTy : s.TypeIs (.ref (n + 4)) "zip" := ⟨_, hz, rfl⟩
    unfold pyNext
    refine wpAny_bind (wpAny_attempt (wpAny_callSpecial?_slot (name := Str.ofString "__next__") hTy F.slot_zip_next
      (wpAny_call_entry F.slot_zip_next hTy F.entry_zip_next
        (zh_item D hz hT hTI h1 h2 hl1 hl2 hx hy fun h' b1 b3 b4 b5 b6 b7 => wpAny_pure (hQ h' ⟨b7 _ _ D.TIz D.TIi1 D.TIi2 hTI, b3, b4, hl1.at fun o e => b7 _ o D.l1z D.l1i1 D.l1i2 e, hl2.at fun o e => b7 _ o D.l2z D.l2i1 D.l2i2 e,
          .inr ⟨T, true, oT, b1, ?_, hlT⟩⟩ b5 b6 fun c o hc e => ?_)) (F.args_zip_next_1 _))))
    · have hc : ZOut n T := .inr (Nat.le_of_lt hlT)
      obtain ⟨c0, c1, c2, c3, c4⟩ := hc.ne
      exact b7 _ _ c4 c0 c1 hT
    · obtain ⟨c0, c1, c2, c3, c4⟩ := hc.ne
      exact b7 c o c4 c0 c1 e
theorem zs_end {n l1 l2 : Addr} {xs ys : Array Value} {k : Nat} {Q : Option Value → Shared → Prop} (hh : A.handled = none) (a1 : l1 < n) (a2 : l2 < n) (st : ZSt s.heap n l1 l2 xs ys k) (hx : xs[k]? = none)
    (hQ : ∀ h', (∀ c o, ZOut n c → s.heap.get? c = some o → h'.get? c = some o) → Q none { s with heap := h' }) :
    wpAny (model prog w) A (pyNext (.ref (n + 4))) Q E s := by
  have D := zipApart_new a1 a2
  obtain ⟨hTI, h1, h2, hl1, hl2, hz⟩ := st
  rcases hz with ⟨hz, a, b, hTO⟩ | ⟨T, f, oT, hz, hT, hlT⟩
  · refine RZ.pyNext_zipT_end hh D hz hTI hTO h1 h2 hl1 hl2 (.inl hx) fun h' hk => hQ h' fun c o hc e => ?_
    obtain ⟨c0, c1, c2, c3, c4⟩ := hc.ne
    exact hk c o c4 c3 c0 c1 e
  · have hTy : s.TypeIs (.ref (n + 4)) "zip" := ⟨_, hz, rfl⟩
    unfold pyNext
    refine wpAny_bind (wpAny_attempt (wpAny_callSpecial?_slot (name := Str.ofString "__next__") hTy F.slot_zip_next
      (wpAny_call_entry F.slot_zip_next hTy F.entry_zip_next (zh_end hh D hz hT hTI h1 hl1 hx fun h' e hk he => ?_) (F.args_zip_next_1 _))))
    obtain ⟨o, ho, hc⟩ := he
    refine wpAny_bind (wpAny_isInstance (T := "StopIteration") (b := true) ⟨o, ho, hc⟩ isSubtype_stop ?_)
    refine wpAny_pure (hQ _ fun c o hc e => ?_)
    obtain ⟨c0, c1, c2, c3, c4⟩ := hc.ne
    exact hk c o c4 c0 e
end
structure ZG (xs ys : Array Value) (lo : Addr) (h : Heap) (as : List Addr) : Prop where
  rise : as.Pairwise (· < ·)
  above : ∀ a ∈ as, lo < a
  pairs : ∀ (j : Nat) (a : Addr), as[j]? = some a → ∃ x y, xs[j]? = some x ∧ ys[j]? = some y ∧ IsPair h a x y
theorem ZG.there {xs ys : Array Value} {lo : Addr} {h : Heap} {as : List Addr} (g : ZG xs ys lo h as) {a : Addr} (ha : a ∈ as) : a < h.objs.size := by
  obtain ⟨j, hj⟩ := List.mem_iff_getElem?.mp ha
  obtain ⟨_, _, _, _, e⟩ := g.pairs j a hj
  exact Heap.lt_size e
section
variable {prog : Program} {w : World} {A : Around} {s : Shared} {R : Result → Shared → Prop} {xs ys : Array Value} {n l1 l2 : Addr}
theorem z_loop (hh : A.handled = none) (a1 : l1 < n) (a2 : l2 < n) (hl : ys.size = xs.size) (hn : xs.size ≤ sizeLine) (res : Value) {h₁ : Heap}
    (hR : ∀ h' tk acc c as, (∀ b o, b < n → h₁.get? b = some o → h'.get? b = some o) → h'.get? (n + 5) = some { cls := .type "list", dict := none, data := .seq acc c, slots := #[] } → as.length = xs.size → ZG xs ys (n + 5) h' as →
      acc.toList = as.map Value.ref → R (.ok (.ret res)) { s with heap := h', toks := tk }) :
    ∀ (k i : Nat) (h : Heap) (tk c : Nat) (acc : Array Value) (as : List Addr), xs.size - i = k → i ≤ xs.size → ZSt h n l1 l2 xs ys i → (∀ b o, b < n → h₁.get? b = some o → h.get? b = some o) →
      h.get? (n + 5) = some { cls := .type "list", dict := none, data := .seq acc c, slots := #[] } → acc.toList = as.map Value.ref → as.length = i → ZG xs ys (n + 5) h as →
      codeAny (model prog w) A (.builtin "list.extend.loop" ⟨[.ref (n + 5), .ref (n + 4), res], []⟩) R { s with heap := h, toks := tk } := by
  intro k
  induction k with
  | zero =>
    intro i h tk c acc as hk hi hst hkeep hS hacc hal hG
    refine codeAny_builtin PySem.F.entry_extend_loop ?_
    rw [Around.under_plainId PySem.F.plain_extend_loop _]
    show wpAny _ A.in1 (pyNext (.ref (n + 4)) >>= _) _ _ _
    refine wpAny_bind (zs_end (s := { s with heap := h, toks := tk }) (A := A.in1) hh a1 a2 hst (Array.getElem?_eq_none (by omega)) fun h' he => ?_)
    refine wpAny_pure (hR h' tk acc c as (fun b o h1 e => he b o (.inl h1) (hkeep b o h1 e)) (he _ _ (.inr (Nat.le_refl _)) hS) (by omega) ⟨hG.rise, hG.above, fun j a hj => ?_⟩ hacc)
    obtain ⟨x, y, e1, e2, e3⟩ := hG.pairs j a hj
    exact ⟨x, y, e1, e2, he a _ (.inr (Nat.le_of_lt (hG.above a (List.mem_of_getElem? hj)))) e3⟩
  | succ k ih =>
    intro i h tk c acc as hk hi hst hkeep hS hacc hal hG
    have hlt : i < xs.size := by omega
    have hlt2 : i < ys.size := by omega
    have hsz : acc.size = i := by rw [← Array.length_toList, hacc, List.length_map, hal]
    have hSl : n + 5 < h.objs.size := Heap.lt_size hS
    refine codeAny_builtin PySem.F.entry_extend_loop ?_
    rw [Around.under_plainId PySem.F.plain_extend_loop _]
    show wpAny _ A.in1 (pyNext (.ref (n + 4)) >>= _) _ _ _
    refine wpAny_bind (zs_item (s := { s with heap := h, toks := tk }) a1 a2 hst hSl (Array.getElem?_eq_getElem hlt) (Array.getElem?_eq_getElem hlt2) fun h' hst' ht hz hkp => ?_)
    dsimp only at ht hz hkp ⊢
    have hS' := hkp (n + 5) _ (.inr (Nat.le_refl _)) hS
    have up : ∀ b o, b ≠ n + 5 → h'.get? b = some o → (h'.update (n + 5) (Obj.mapSeq (·.push (Value.ref h.objs.size)))).get? b = some o := fun b o hb e => (Heap.get?_update_other _ _ (Ne.symm hb)).trans e
    show wpAny _ A.in1 (updateSeq (n + 5) (·.push (Value.ref h.objs.size)) >>= _) _ _ _
    refine wpAny_bind ?_
    refine wpAny_updateSeq hS' rfl (wpAny_pure ⟨plainId_quiet PySem.F.plain_extend_loop _, ih (i + 1) _ tk _ (acc.push (Value.ref h.objs.size)) (as ++ [h.objs.size]) (by omega) hlt (hst'.keep a1 a2 up)
      (fun b o h1 e => up b o (Nat.ne_of_lt (Nat.lt_of_lt_of_le h1 (Nat.le_add_right n 5))) (hkp b o (.inl h1) (hkeep b o h1 e))) (Heap.get?_update_self _ hS' rfl) (by rw [Array.toList_push, hacc, List.map_append]; rfl) (by rw [List.length_append, hal]; rfl) ⟨?_, ?_, ?_⟩⟩) (by rw [hsz]; omega) (by show (acc.push (Value.ref h.objs.size)).size ≤ sizeLine + 1; rw [Array.size_push, hsz]; omega)
    · refine List.pairwise_append.mpr ⟨hG.rise, List.pairwise_singleton _ _, fun a ha b hb => ?_⟩
      rw [List.mem_singleton.mp hb]
      exact hG.there ha
    · intro a ha
      rcases List.mem_append.mp ha with ha | ha
      · exact hG.above a ha
      · rw [List.mem_singleton.mp ha]; exact hSl
    · intro j b hj
      rcases Nat.lt_trichotomy j as.length with h1 | h1 | h1
      · rw [List.getElem?_append_left h1] at hj
        obtain ⟨x', y', e1, e2, e3⟩ := hG.pairs j b hj
        have hb := hG.above b (List.mem_of_getElem? hj)
        exact ⟨x', y', e1, e2, up b _ (Nat.ne_of_gt hb) (hkp b _ (.inr (Nat.le_of_lt hb)) e3)⟩
      · subst h1
        have hb : h.objs.size = b := by simpa using hj
        subst hb
        exact ⟨_, _, by rw [hal]; exact Array.getElem?_eq_getElem hlt, by rw [hal]; exact Array.getElem?_eq_getElem hlt2, up _ _ (Nat.ne_of_gt hSl) ht⟩
      · have hnone : (as ++ [h.objs.size])[j]? = none := List.getElem?_eq_none (by rw [List.length_append, List.length_singleton]; omega)
        rw [hnone] at hj; cases hj
end
theorem zip_no_len : typeLookup (.type "zip") "__len__" = pure none := am_miss_of_fast (by decide +kernel)
theorem zip_no_hint : typeLookup (.type "zip") "__length_hint__" = pure none := am_miss_of_fast (by decide +kernel)
section
variable {prog : Program} {w : World} {A : Around} {E : Value → Shared → Prop} {s : Shared} {xs ys : Array Value} {n l1 l2 : Addr}
theorem z_hint {r : Addr} (hT : s.TypeIs (.ref r) "zip") {Q : Bool → Shared → Prop} (h : Q true s) : wpAny (model prog w) A (Builtin.List.listLengthHint (.ref r)) Q E s := by
  unfold Builtin.List.listLengthHint
  refine wpAny_bind (wpAny_specialOf hT zip_no_len ?_)
  refine wpAny_bind (wpAny_specialOf hT zip_no_hint ?_)
  exact wpAny_pure h
theorem z_extend {R : Result → Shared → Prop} (hh : A.handled = none) (a1 : l1 < n) (a2 : l2 < n) (hl : ys.size = xs.size) (hn : xs.size ≤ sizeLine) (st : ZSt s.heap n l1 l2 xs ys 0) (hz : IsZip s.heap (n + 4) (n + 2) (n + 3) .none) (res : Value) (c₀ : Nat) (hS : s.heap.get? (n + 5) = some { cls := .type "list", data := .seq #[] c₀ })
    (hR : ∀ h' tk acc c as, (∀ b o, b < n → s.heap.get? b = some o → h'.get? b = some o) → h'.get? (n + 5) = some { cls := .type "list", dict := none, data := .seq acc c, slots := #[] } → as.length = xs.size → ZG xs ys (n + 5) h' as →
      acc.toList = as.map Value.ref → R (.ok (.ret res)) { s with heap := h', toks := tk }) :
    wpAny (model prog w) A.in1 (Builtin.List.listExtendWith (.ref (n + 5)) (.ref (n + 4)) res)
      (fun fin s' => match fin with | .done f => R (.ok f) s' | .again c' => c'.quiet = true ∧ codeAny (model prog w) A c' R s') (fun e s' => R (.error e) s') s := by
  have ne : n + 5 ≠ n + 4 := Nat.ne_of_gt (Nat.lt_succ_self _)
  have hT : s.TypeIs (.ref (n + 4)) "zip" := ⟨_, hz, rfl⟩
  have key : ∀ (h : Heap) (c₁ tk : Nat), (∀ b o, b ≠ n + 5 → s.heap.get? b = some o → h.get? b = some o) →
      h.get? (n + 5) = some { cls := .type "list", data := .seq #[] c₁ } → codeAny (model prog w) A (.builtin "list.extend.loop" ⟨[.ref (n + 5), .ref (n + 4), res], []⟩) R { s with heap := h, toks := tk } := by
    intro h c₁ tk hk hS₁
    exact z_loop (s := s) (h₁ := s.heap) hh a1 a2 hl hn res hR xs.size 0 h tk c₁ #[] [] (Nat.sub_zero _) (Nat.zero_le _) (st.keep a1 a2 hk) (fun b o hb e => hk b o (Nat.ne_of_lt (Nat.lt_of_lt_of_le hb (Nat.le_add_right n 5))) e) hS₁ rfl rfl
      ⟨List.Pairwise.nil, (fun _ ha => nomatch ha), (fun j a hj => by simp at hj)⟩
  unfold Builtin.List.listExtendWith
  refine wpAny_bind (wpAny_typeOf (T := "zip") hT ?_)
  have h1 : Builtin.List.listSameRef (.ref (n + 5)) (.ref (n + 4)) = false := by simp [Builtin.List.listSameRef, ne]
  have h2 : (Value.type "zip" == Value.type "list") = false := by decide
  have h3 : (Value.type "zip" == Value.type "tuple") = false := by decide
  simp only [h1, h2, h3, Bool.or_false, Bool.false_eq_true, if_false]
  refine wpAny_bind (wpAny_pyIter_zip hz ?_)
  refine wpAny_bind (wpAny_holding (z_hint hT ?_))
  refine wpAny_ite_split (fun _ => ?_) (fun hab => absurd rfl hab)
  refine wpAny_bind (wpAny_rule ?_)
  refine wpAny_bind ?_
  show wpAny _ _ (updateSeq (n + 5) (·.push .none) >>= fun _ => updateSeq (n + 5) (·.pop)) _ _ _
  refine wpAny_bind (wpAny_updateSeq hS rfl ?_)
  have hS₂ := Heap.get?_update_self (Obj.mapSeq (·.push Value.none)) hS rfl
  refine wpAny_updateSeq (hz := by seq_fits) hS₂ rfl ?_
  have hS₃ := Heap.get?_update_self (Obj.mapSeq (·.pop)) hS₂ rfl
  refine wpAny_pure ⟨plainId_quiet PySem.F.plain_extend_loop _, key _ _ _ (fun b o hb e => ?_) hS₃⟩
  exact (Heap.get?_update_other _ _ (Ne.symm hb)).trans ((Heap.get?_update_other _ _ (Ne.symm hb)).trans e)
theorem z_list {Q : Value → Shared → Prop} (hh : A.handled = none) (a1 : l1 < n) (a2 : l2 < n) (hl : ys.size = xs.size) (hn : xs.size ≤ sizeLine) (st : ZSt s.heap n l1 l2 xs ys 0) (hz : IsZip s.heap (n + 4) (n + 2) (n + 3) .none) (hs : s.heap.objs.size = n + 5)
    (hQ : ∀ h' tk acc c as, (∀ b o, b < n → s.heap.get? b = some o → h'.get? b = some o) → h'.get? (n + 5) = some { cls := .type "list", dict := none, data := .seq acc c, slots := #[] } → as.length = xs.size → ZG xs ys (n + 5) h' as →
      acc.toList = as.map Value.ref → Q (.ref (n + 5)) { s with heap := h', toks := tk }) :
    wpAny (model prog w) A (call (.type "list") [.ref (n + 4)]) Q E s := by
  refine callType_codes (Q₁ := fun obj s₁ => obj = .ref (n + 5) ∧ s₁ = { s with heap := s.heap.push { cls := .type "list", data := .seq #[] } }) PySem.F.called_list (PySem.F.typeCall_list_1 _) PySem.F.entry_list_init
    (code_list_new _ ⟨by rw [hs], rfl⟩) fun obj s₁ h₁ => ?_
  obtain ⟨rfl, rfl⟩ := h₁
  have hS : (s.heap.push { cls := .type "list", data := .seq #[] }).get? (n + 5) = some { cls := .type "list", data := .seq #[] } := by rw [← hs]; exact Heap.get?_push_size _ rfl
  refine ⟨⟨_, hS, rfl⟩, PySem.F.args_list_init_2 _ _, ?_⟩
  show wpAny _ _ (do let old ← Builtin.List.listItems (.ref (n + 5)); Builtin.List.listUpdate (.ref (n + 5)) (fun _ => #[]); letGo old.toList.reverse; Builtin.List.listExtendWith (.ref (n + 5)) (.ref (n + 4)) .none) _ _ _
  refine wpAny_bind ?_
  unfold Builtin.List.listItems
  refine wpAny_bind (wpAny_seqItems hS rfl (wpAny_pure ?_))
  show wpAny _ _ (updateSeq (n + 5) (fun _ => #[]) >>= fun _ => letGo (#[] : Array Value).toList.reverse >>= fun _ => Builtin.List.listExtendWith (.ref (n + 5)) (.ref (n + 4)) .none) _ _ _
  refine wpAny_bind (wpAny_updateSeq hS rfl ?_)
  have hS₂ := Heap.get?_update_self (Obj.mapSeq (fun _ => (#[] : Array Value))) hS rfl
  have oth : ∀ b o, b ≠ n + 5 → s.heap.get? b = some o → ((s.heap.push { cls := .type "list", data := .seq #[] }).update (n + 5) (Obj.mapSeq (fun _ => (#[] : Array Value)))).get? b = some o :=
    fun b o hb e => (Heap.get?_update_other _ _ (Ne.symm hb)).trans (Heap.get?_push_of_some _ e)
  refine wpAny_bind (wpAny_letGo ?_)
  refine z_extend (A := A.in1) hh a1 a2 hl hn (st.keep a1 a2 oth) (oth _ _ (Nat.ne_of_lt (Nat.lt_succ_self _)) hz) .none _ hS₂ fun h' tk acc c as hk hS' hl' hG hacc => ?_
  exact ⟨rfl, hQ h' tk acc c as (fun b o hb e => hk b o hb (oth b o (Nat.ne_of_lt (Nat.lt_of_lt_of_le hb (Nat.le_add_right n 5))) e)) hS' hl' hG hacc⟩
theorem z_call {Q : Value → Shared → Prop} (hh : A.handled = none) (hl1 : s.heap.IsTuple l1 xs) (hl2 : s.heap.IsTuple l2 ys) (hl : ys.size = xs.size) (hn : xs.size ≤ sizeLine)
    (hQ : ∀ h' tk acc c as, (∀ b o, s.heap.get? b = some o → h'.get? b = some o) → h'.get? (s.heap.objs.size + 5) = some { cls := .type "list", dict := none, data := .seq acc c, slots := #[] } → as.length = xs.size → ZG xs ys (s.heap.objs.size + 5) h' as →
      acc.toList = as.map Value.ref → Q (.ref (s.heap.objs.size + 5)) { s with heap := h', toks := tk }) :
    wpAny (model prog w) A (call (.type "zip") [.ref l1, .ref l2]) (fun z s' => wpAny (model prog w) A (call (.type "list") [z]) Q E s') E s := by
  have a1 : l1 < s.heap.objs.size := by obtain ⟨_, e, _⟩ := hl1; exact Heap.lt_size e
  have a2 : l2 < s.heap.objs.size := by obtain ⟨_, e, _⟩ := hl2; exact Heap.lt_size e
  refine RZ.call_zipT hl1 hl2 fun h' hz hTI hTO hi1 hi2 hsz hk => ?_
  refine z_list (s := { s with heap := h' }) hh a1 a2 hl hn ⟨hTI, hi1, hi2, hl1.at fun o e => hk _ o e, hl2.at fun o e => hk _ o e, .inl ⟨hz, _, _, hTO⟩⟩ hz hsz fun h2 tk acc c as hk2 hS hl' hG hacc => ?_
  exact hQ h2 tk acc c as (fun b o e => hk2 b o (Heap.lt_size e) (hk b o e)) hS hl' hG hacc
end
end G

namespace G
open PySem PySem.Calls PySem.Spec PyProof.Rows L2
/-- new pairs at new places -/
def putZ : Hp → List Addr → List (V × V) → Hp
  | H, a :: as, p :: ps => putZ (upd H a (.tup [p.1, p.2])) as ps
  | H, _, _ => H
theorem putZ_off {b : Addr} : ∀ (as : List Addr) (ps : List (V × V)) (H : Hp), b ∉ as → putZ H as ps b = H b
  | [], _, _, _ => rfl
  | _ :: _, [], _, _ => rfl
  | a :: as, p :: ps, H, h => by
    show putZ (upd H a (.tup [p.1, p.2])) as ps b = H b
    rw [putZ_off as ps _ (fun z => h (List.mem_cons_of_mem _ z)), upd_ne (fun z => h (by rw [z]; exact List.mem_cons_self))]
theorem putZ_at : ∀ (as : List Addr) (ps : List (V × V)) (H : Hp), as.Nodup → ∀ (j : Nat) (a : Addr) (p : V × V), as[j]? = some a → ps[j]? = some p → putZ H as ps a = some (.tup [p.1, p.2])
  | [], _, _, _, _, _, _, h, _ => by cases h
  | _ :: _, [], _, _, _, _, _, _, h => by cases h
  | a :: as, p :: ps, H, hn, 0, b, q, h1, h2 => by
    obtain rfl : a = b := Option.some.inj h1
    obtain rfl : p = q := Option.some.inj h2
    show putZ (upd H a (.tup [p.1, p.2])) as ps a = _
    rw [putZ_off as ps _ (List.nodup_cons.mp hn).1, upd_same]
  | a :: as, p :: ps, H, hn, j + 1, b, q, h1, h2 => putZ_at as ps (upd H a (.tup [p.1, p.2])) (List.nodup_cons.mp hn).2 j b q h1 h2
def rZipL (K : PySem.W.Frag) : List V → Hp → VK → Prop := fun vs H Q => ∃ a b xs ys, vs = [.ref a, .ref b] ∧ SqT K H a xs ∧ SqT K H b ys ∧ ys.length = xs.length ∧
  ∀ (H' : Hp) (p : Addr) (ts : List Addr), (∀ b o, H b = some o → H' b = some o) → H p = none → (∀ t ∈ ts, H t = none) → p ∉ ts → ts.length = xs.length → H' p = some (.lst (ts.map V.ref)) →
    (∀ (j : Nat) t x y, ts[j]? = some t → xs[j]? = some x → ys[j]? = some y → H' t = some (.tup [x, y])) → Q (.ref p) H'
def tZipL (K : PySem.W.Frag) (ta : TA) : TE := fun σ H Q => ta σ H fun vs H1 => rZipL K vs H1 Q
section
variable {X : Cx}
theorem zip_laid {pins : List (Addr × Obj)} {σ : L2.St} {H : Hp} {s : Shared} {h' : Heap} {tk : Nat} {xs ys : List V} {us vs : List Value} {acc : Array Value} {c : Nat} {as : List Addr} {p : Addr} (I : Inv X pins σ H s) (hz : xs.length ≤ sizeLine) (rx : Vals xs us) (ry : Vals ys vs) (hxy : ys.length = xs.length) (hp : s.heap.objs.size ≤ p)
    (hk : ∀ b o, s.heap.get? b = some o → h'.get? b = some o) (hS : h'.get? p = some { cls := .type "list", dict := none, data := .seq acc c, slots := #[] }) (hl : as.length = us.length) (hG : ZG us.toArray vs.toArray p h' as) (hacc : acc.toList = as.map Value.ref) :
    ∃ H' : Hp, (∀ b o, H b = some o → H' b = some o) ∧ H p = none ∧ (∀ t ∈ as, H t = none) ∧ p ∉ as ∧ H' p = some (.lst (as.map V.ref)) ∧ (∀ (j : Nat) t x y, as[j]? = some t → xs[j]? = some x → ys[j]? = some y → H' t = some (.tup [x, y])) ∧ Inv X pins σ H' { s with heap := h', toks := tk } := by
  have lx : xs.length = us.length := Paired.length rx
  have ly : ys.length = vs.length := Paired.length ry
  have hSn : p ∉ as := fun z => Nat.lt_irrefl _ (hG.above _ z)
  have nd : as.Nodup := List.Pairwise.imp (fun {a b} (h : a < b) => Nat.ne_of_lt h) hG.rise
  have newS : H p = none := I.hok.fresh hp
  have new : ∀ t ∈ as, H t = none := fun t ht => I.hok.fresh (Nat.le_trans hp (Nat.le_of_lt (hG.above t ht)))
  have atP := putZ_at as (xs.zip ys) (upd H p (.lst (as.map V.ref))) nd
  have off : ∀ b, b ∉ as → b ≠ p → putZ (upd H p (.lst (as.map V.ref))) as (xs.zip ys) b = H b := fun b h1 h2 => by rw [putZ_off as _ _ h1, upd_ne h2]
  have low : ∀ b o, s.heap.get? b = some o → b ∉ as ∧ b ≠ p := fun b o e => ⟨fun z => absurd (Heap.lt_size e) (Nat.not_lt.mpr (Nat.le_trans hp (Nat.le_of_lt (hG.above b z)))), Nat.ne_of_lt (Nat.lt_of_lt_of_le (Heap.lt_size e) hp)⟩
  have kp : ∀ b u, H b = some u → (putZ (upd H p (.lst (as.map V.ref))) as (xs.zip ys)) b = some u := fun b u e => by
    rw [off b (fun z => by rw [new b z] at e; cases e) (fun z => by rw [z, newS] at e; cases e)]
    exact e
  have eS : putZ (upd H p (.lst (as.map V.ref))) as (xs.zip ys) p = some (.lst (as.map V.ref)) := by rw [putZ_off as _ _ hSn, upd_same]
  have zipG : ∀ (j : Nat) x y, xs[j]? = some x → ys[j]? = some y → (xs.zip ys)[j]? = some (x, y) := fun j x y e1 e2 => List.getElem?_zip_eq_some.mpr ⟨e1, e2⟩
  refine ⟨putZ (upd H p (.lst (as.map V.ref))) as (xs.zip ys), kp, newS, new, hSn, eS, fun j t x y e1 e2 e3 => atP j t (x, y) e1 (zipG j x y e2 e3), ?_⟩
  refine I.call' (ch := []) rfl ⟨fun b o q _ _ _ => hk b o q, fun b o q _ _ _ => ⟨o.slots, hk b o q⟩, fun b o q n _ => ?_, fun b o q _ => ⟨o, hk b o q⟩, fun b xs q => kp b _ q, fun b o u q => kp b _ q, fun b ps q => ⟨#[], by rw [kp b _ q]; simp⟩⟩ (fun b u q => ?_) I.bare fun b z => by simp at z
  · obtain ⟨z1, z2⟩ := low b o q
    rw [off b z1 z2]
    exact n
  · by_cases hb : b ∈ as
    · obtain ⟨j, e1⟩ := List.mem_iff_getElem?.mp hb
      obtain ⟨x, y, f1, f2, f3⟩ := hG.pairs j b e1
      have f1' : us[j]? = some x := by simpa using f1
      have f2' : vs[j]? = some y := by simpa using f2
      have hj : j < us.length := (List.getElem?_eq_some_iff.mp f1').1
      have hjx : j < xs.length := by omega
      have hjy : j < ys.length := by omega
      have g1 : xs[j]? = some xs[j] := List.getElem?_eq_getElem hjx
      have g2 : ys[j]? = some ys[j] := List.getElem?_eq_getElem hjy
      rw [atP j b _ e1 (zipG j _ _ g1 g2)] at q
      cases q
      obtain ⟨u1, w1, r1⟩ := LiI.paired_get rx g1
      obtain ⟨u2, w2, r2⟩ := LiI.paired_get ry g2
      rw [f1'] at w1
      rw [f2'] at w2
      cases w1
      cases w2
      exact ⟨by show 2 ≤ sizeLine; decide, [x, y], .cons r1 (.cons r2 .nil), ⟨_, f3, rfl, _, rfl⟩⟩
    · by_cases hb2 : b = p
      · rw [hb2] at q ⊢
        rw [eS] at q
        cases q
        refine ⟨by rw [List.length_map]; omega, acc.toList, c, by rw [hacc]; exact LiI.vals_refs as, ?_⟩
        rw [Array.toArray_toList]
        exact hS
      · rw [off b hb hb2] at q
        exact (I.hok b u q).stay (fun d v _ y => hk d v y) (fun d y => kp d _ y) fun d xs y => kp d _ y
/-- list(zip(e, e2)) of two tuples of one length -/
theorem pe_listZip {e e2 : Expr} {ta : TA} {p p2 zpos pos : Pos} (hg : Gl X "list") (hm : X.mg "list" = none) (hg2 : Gl X "zip") (hm2 : X.mg "zip" = none) (ha : PA X [e, e2] ta) (hc : X.calm = true := by rfl)
    (hs : starEach [.Call (.Name "zip" p2) [e, e2] [] zpos] X.env = (false, eval (.Call (.Name "zip" p2) [e, e2] [] zpos) X.env) :: starEach [] X.env := by rfl)
    (hs2 : starEach [e, e2] X.env = (false, eval e X.env) :: starEach [e2] X.env := by rfl) (hpl : (backTo zpos (starEach [e2] X.env)).any (·.1) = false := by rfl) :
    PE X (.Call (.Name "list" p) [.Call (.Name "zip" p2) [e, e2] [] zpos] [] pos) (tZipL X.K ta) := by
  refine ⟨fun pins s σ H Q I hq => ?_⟩
  refine wpAny_Call_Name_kw (ld_blt I hg hm PyProof.Rows.boot_list ?_)
  refine PyProof.Rows.callWith_type1 ?_ hs rfl
  rw [hs]
  show wpAny _ _ (spliced ((false, eval (.Call (.Name "zip" p2) [e, e2] [] zpos) X.env) :: backTo pos (starEach [] X.env))) _ _ s
  refine Calls.spliced_cons ?_
  refine Call_ (ld_blt I hg2 hm2 PyProof.Rows.boot_zip (PyProof.Rows.callWith_type1 (thn (ha.run zpos pins s σ H _ I hq) fun us s1 ⟨vs, H1, I1, r1, q1⟩ => ?_) hs2 hpl))
  obtain ⟨a, b, xs, ys, ex, hqx, hqy, hl, q⟩ := q1
  subst ex
  cases r1 with
  | cons r rr =>
    cases rr with
    | cons r' rr =>
      cases rr
      cases r
      cases r'
      obtain ⟨its, rv, p1, hz1⟩ := I1.tuple hqx
      obtain ⟨its2, rv2, p2, hz2⟩ := I1.tuple hqy
      have l1 : xs.length = its.length := Paired.length rv
      have l2 : ys.length = its2.length := Paired.length rv2
      refine wpAny_mono (z_call (s := s1) (A := X.A) (I1.ok.hd hc) (show s1.heap.IsTuple a its.toArray from p1) (show s1.heap.IsTuple b its2.toArray from p2) (by simp; omega) ?_ fun h' tk acc c as hk hS hl' hG hacc => ?_) (fun z s2 x => Calls.spliced_nil x) fun _ _ e => e
      · simpa [← l1] using hz1
      · obtain ⟨H', k1, k2, k3, k4, k5, k6, J⟩ := zip_laid (tk := tk) I1 hz1 rv rv2 hl (Nat.le_add_right _ 5) hk hS (by simpa using hl') hG hacc
        exact ⟨.ref _, H', J, rfl, q H' _ as k1 k2 k3 k4 (by rw [hl', l1]; simp) k5 k6⟩
end
end G

/-! The order of data as Python has it: the first items that differ decide; what stands behind them need not be comparable. -/
namespace G
open PySem PySem.Spec PyProof.Rows L2
/-! ### the order, as far as it goes; up: the other way round -/
mutual
def ltD (up : Bool) : PyData → PyData → Option Bool
  | .int i, .int j => some (if up then decide (j < i) else decide (i < j))
  | .str x, .str y => some (if up then decide (y.cps.toList < x.cps.toList) else decide (x.cps.toList < y.cps.toList))
  | .tuple xs, .tuple ys => ltAll up xs ys
  | _, _ => none
def ltAll (up : Bool) : List PyData → List PyData → Option Bool
  | [], [] => some false
  | [], _ :: _ => some (!up)
  | _ :: _, [] => some up
  | x :: xs, y :: ys => if PyData.eqv x y = true then ltAll up xs ys else ltD up x y
end
theorem depth_mem {x : PyData} : ∀ {xs : List PyData}, x ∈ xs → x.depth ≤ PyData.depthAll xs
  | y :: ys, h => by
    rw [PyData.depthAll]
    rcases List.mem_cons.mp h with e | h
    · rw [e]
      exact Nat.le_max_left _ _
    · exact Nat.le_trans (depth_mem h) (Nat.le_max_right _ _)
/-- what is asked of the items, one by one, from the left -/
def FirstBy (A : Around) (s : Shared) (op : CmpOp) (sz : Bool) (k : Bool) : List Value → List Value → Prop
  | v :: vs, u :: us => ∃ q, SeqAt.EqAt A s v u q ∧ (q = true → FirstBy A s op sz k vs us) ∧ (q = false → Ob.RcOp op A s v u k)
  | _, _ => sz = k
open PySem.AutoSeq1 (wpAny_loadPart') in
open PySem.MeetsSeq PySem.MeetsSeq2 PySem.MeetsSeq3 in
theorem tup_first_lt (l b : Addr) (its jts : Array Value) (n m : Nat) (dl db : Option Addr) (sl sb : Array (Option Value)) (k : Bool) :
    Meets (Builtin.«tuple.__lt__» ⟨[.ref l, .ref b], []⟩) (fun A R s => s.heap.get? l = some { cls := .type "tuple", dict := dl, data := .seq its n, slots := sl } ∧
      s.heap.get? b = some { cls := .type "tuple", dict := db, data := .seq jts m, slots := sb } ∧ FirstBy A.in1 s .Lt (decide (its.size < jts.size)) k its.toList jts.toList ∧ R (.ok (.ret (.bool k))) s) :=
  .of_wp fun prog w A R s hyp => by
    obtain ⟨hp, gn, dr, tk, os⟩ := s
    obtain ⟨hl, hb, hF, hR⟩ := hyp
    have f2 := AutoSeq1.sub_tuple_tuple
    wp_walk using wpAny_loadPart' hl, wpAny_loadPart' hb, wpAny_forIn_list _ (fun rest r s' => r.1 = none ∧ s' = ⟨hp, gn, dr, tk, os⟩ ∧ ∃ vs us, rest = vs.zip us ∧ FirstBy A.in1 ⟨hp, gn, dr, tk, os⟩ .Lt (decide (its.size < jts.size)) k vs us) _
    case turn =>
      rintro ⟨y, x⟩ rest r s' ⟨hr, rfl, vs, us, hz, hF⟩
      cases vs with
      | nil => cases hz
      | cons v vs =>
        cases us with
        | nil => cases hz
        | cons u us =>
          rw [List.zip_cons_cons] at hz
          injection hz with h1 h2
          injection h1 with e1 e2
          subst e1 e2 h2
          obtain ⟨q, hq, h1, h2⟩ := hF
          refine wpAny_bind (hq prog w _ _ ?_)
          cases q with
          | true =>
            wp_walk
            exact ⟨rfl, rfl, vs, us, rfl, h1 rfl⟩
          | false =>
            have step := h2 rfl prog w
            wp_walk using step
            exact ⟨_, rfl, by simpa using hR⟩
    case fin =>
      rintro ⟨r1, r2⟩ s' ⟨hr, rfl, vs, us, hz, hF⟩
      simp only at hr
      subst hr
      have hk : decide (its.size < jts.size) = k := by
        cases vs with
        | nil => exact hF
        | cons v vs =>
          cases us with
          | nil => exact hF
          | cons u us => cases hz
      wp_walk
      refine ⟨_, rfl, ?_⟩
      rw [← hk] at hR
      simpa [Builtin.Tuple.tupleCompareSizes] using hR
    case h => exact ⟨rfl, rfl, its.toList, jts.toList, rfl, hF⟩
open PySem.AutoSeq1 (wpAny_loadPart') in
open PySem.MeetsSeq PySem.MeetsSeq2 PySem.MeetsSeq3 in
theorem tup_first_gt (l b : Addr) (its jts : Array Value) (n m : Nat) (dl db : Option Addr) (sl sb : Array (Option Value)) (k : Bool) :
    Meets (Builtin.«tuple.__gt__» ⟨[.ref l, .ref b], []⟩) (fun A R s => s.heap.get? l = some { cls := .type "tuple", dict := dl, data := .seq its n, slots := sl } ∧
      s.heap.get? b = some { cls := .type "tuple", dict := db, data := .seq jts m, slots := sb } ∧ FirstBy A.in1 s .Gt (decide (its.size > jts.size)) k its.toList jts.toList ∧ R (.ok (.ret (.bool k))) s) :=
  .of_wp fun prog w A R s hyp => by
    obtain ⟨hp, gn, dr, tk, os⟩ := s
    obtain ⟨hl, hb, hF, hR⟩ := hyp
    have f2 := AutoSeq1.sub_tuple_tuple
    wp_walk using wpAny_loadPart' hl, wpAny_loadPart' hb, wpAny_forIn_list _ (fun rest r s' => r.1 = none ∧ s' = ⟨hp, gn, dr, tk, os⟩ ∧ ∃ vs us, rest = vs.zip us ∧ FirstBy A.in1 ⟨hp, gn, dr, tk, os⟩ .Gt (decide (its.size > jts.size)) k vs us) _
    case turn =>
      rintro ⟨y, x⟩ rest r s' ⟨hr, rfl, vs, us, hz, hF⟩
      cases vs with
      | nil => cases hz
      | cons v vs =>
        cases us with
        | nil => cases hz
        | cons u us =>
          rw [List.zip_cons_cons] at hz
          injection hz with h1 h2
          injection h1 with e1 e2
          subst e1 e2 h2
          obtain ⟨q, hq, h1, h2⟩ := hF
          refine wpAny_bind (hq prog w _ _ ?_)
          cases q with
          | true =>
            wp_walk
            exact ⟨rfl, rfl, vs, us, rfl, h1 rfl⟩
          | false =>
            have step := h2 rfl prog w
            wp_walk using step
            exact ⟨_, rfl, by simpa using hR⟩
    case fin =>
      rintro ⟨r1, r2⟩ s' ⟨hr, rfl, vs, us, hz, hF⟩
      simp only at hr
      subst hr
      have hk : decide (its.size > jts.size) = k := by
        cases vs with
        | nil => exact hF
        | cons v vs =>
          cases us with
          | nil => exact hF
          | cons u us => cases hz
      wp_walk
      refine ⟨_, rfl, ?_⟩
      rw [← hk] at hR
      simpa [Builtin.Tuple.tupleCompareSizes] using hR
    case h => exact ⟨rfl, rfl, its.toList, jts.toList, rfl, hF⟩

abbrev opU (up : Bool) : CmpOp := if up then .Gt else .Lt
def szU (up : Bool) (m n : Nat) : Bool := if up then decide (m > n) else decide (m < n)
theorem first_data {up : Bool} {A : Around} {s : Shared} {N : Nat} {k : Bool} (hu : A.units + N < cLine)
    (ih : ∀ (d e : PyData) (a b : Value) (as bs : List Addr) (k : Bool), d.depth ≤ N → Reads s.heap a d as → Reads s.heap b e bs → d.canLay0 = true → e.canLay0 = true → ltD up d e = some k → Ob.RcOp (opU up) A s a b k) :
    ∀ (xs ys : List PyData) (vs us : List Value) (as bs : List Addr), ReadsAll s.heap vs xs as → ReadsAll s.heap us ys bs → PyData.canLayAll0 xs = true → PyData.canLayAll0 ys = true → PyData.depthAll xs ≤ N →
      ltAll up xs ys = some k → FirstBy A s (opU up) (szU up vs.length us.length) k vs us
  | [], [], vs, us, as, bs, rx, ry, _, _, _, h => by
    cases rx
    cases ry
    have e := Option.some.inj h
    subst e
    unfold szU
    cases up <;> rfl
  | [], y :: ys, vs, us, as, bs, rx, ry, _, _, _, h => by
    cases rx
    cases ry
    have e := Option.some.inj h
    subst e
    unfold szU
    cases up <;> simp [FirstBy]
  | x :: xs, [], vs, us, as, bs, rx, ry, _, _, _, h => by
    cases rx
    cases ry
    have e := Option.some.inj h
    subst e
    unfold szU
    cases up <;> simp [FirstBy]
  | x :: xs, y :: ys, vs, us, as, bs, rx, ry, cx, cy, hd, h => by
    cases rx with
    | cons r rs =>
      cases ry with
      | cons r' rs' =>
        rw [PyData.canLayAll0, Bool.and_eq_true] at cx cy
        rw [PyData.depthAll] at hd
        have h1 : x.depth ≤ N := Nat.le_trans (Nat.le_max_left _ _) hd
        have h2 : PyData.depthAll xs ≤ N := Nat.le_trans (Nat.le_max_right _ _) hd
        refine ⟨PyData.eqv x y, SeqAt.eqAt_reads x y A s _ _ _ _ r r' cx.1 cy.1 (by have := Nat.min_le_left x.depth y.depth; omega), fun e => ?_, fun e => ?_⟩
        · rw [ltAll, if_pos e] at h
          have := first_data hu ih xs ys _ _ _ _ rs rs' cx.2 cy.2 h2 h
          rw [List.length_cons, List.length_cons]
          unfold szU at this ⊢
          simpa using this
        · rw [ltAll, if_neg (by rw [e]; exact Bool.false_ne_true)] at h
          exact ih x y _ _ _ _ k h1 r r' cx.1 cy.1 h
theorem rc_data (up : Bool) : ∀ (N : Nat) (A : Around) (s : Shared), A.units + N < cLine → ∀ (d e : PyData) (a b : Value) (as bs : List Addr) (k : Bool), d.depth ≤ N → Reads s.heap a d as → Reads s.heap b e bs → d.canLay0 = true → e.canLay0 = true →
    ltD up d e = some k → Ob.RcOp (opU up) A s a b k := by
  intro N
  induction N with
  | zero =>
    intro A s hu d e a b as bs k hd ra rb ca cb h
    cases d with
    | int i =>
      cases e with
      | int j =>
        cases ra
        cases rb
        have e := Option.some.inj h
        subst e
        intro prog w E Q q
        cases up
        · exact lt_int q
        · exact gt_int q
      | _ => cases h
    | str i =>
      cases e with
      | str j =>
        cases ra
        cases rb
        have e := Option.some.inj h
        subst e
        intro prog w E Q q
        cases up
        · exact PySem.P.lt_str q
        · exact PySem.P.gt_str q
      | _ => cases h
    | tuple xs =>
      rw [PyData.depth] at hd
      omega
    | _ => cases e <;> cases h
  | succ N ih =>
    intro A s hu d e a b as bs k hd ra rb ca cb h
    cases d with
    | int i =>
      cases e with
      | int j =>
        cases ra
        cases rb
        have e := Option.some.inj h
        subst e
        intro prog w E Q q
        cases up
        · exact lt_int q
        · exact gt_int q
      | _ => cases h
    | str i =>
      cases e with
      | str j =>
        cases ra
        cases rb
        have e := Option.some.inj h
        subst e
        intro prog w E Q q
        cases up
        · exact PySem.P.lt_str q
        · exact PySem.P.gt_str q
      | _ => cases h
    | tuple xs =>
      cases e with
      | tuple ys =>
        cases ra with
        | @tuple l o vs n _ as h1 h2 h3 h4 =>
          cases rb with
          | @tuple b o' us m _ bs k1 k2 k3 k4 =>
            rw [PyData.depth] at hd
            rw [PyData.canLay0] at ca cb
            have hF := first_data (A := A.in1) (s := s) (N := N) (k := k) (up := up) (by show A.units + 1 + N < cLine; omega) (ih A.in1 s (by show A.units + 1 + N < cLine; omega)) xs ys vs.toList us.toList as bs h4 k4 ca cb (by omega) h
            obtain ⟨cls, dd, data, sl⟩ := o
            obtain ⟨cls', dd', data', sl'⟩ := o'
            simp only at h2 h3 k2 k3
            subst h2 h3 k2 k3
            intro prog w E Q q
            unfold szU at hF
            rw [Array.length_toList, Array.length_toList] at hF
            have hne : Value.bool k ≠ Value.notImplemented ∧ Q (.bool k) s := ⟨(fun x => nomatch x), q⟩
            cases up
            · exact PySem.richCompare_meets_room (op := .Lt) ⟨_, h1, rfl⟩ ⟨_, k1, rfl⟩ F.slot_tuple_lt F.entry_tuple_lt (F.args_tuple_lt_2 _ _) (tup_first_lt l b vs us n m dd dd' sl sl' k) ⟨h1, k1, hF, hne⟩ (by omega)
            · exact PySem.richCompare_meets_room (op := .Gt) ⟨_, h1, rfl⟩ ⟨_, k1, rfl⟩ F.slot_tuple_gt F.entry_tuple_gt (F.args_tuple_gt_2 _ _) (tup_first_gt l b vs us n m dd dd' sl sl' k) ⟨h1, k1, hF, hne⟩ (by omega)
      | _ => cases h
    | _ => cases e <;> cases h
/-- x < y, x > y of data -/
def fCmpD (up : Bool) (K : PySem.W.Frag) : R2 := fun x y H Q => ∃ d e b, Dp K H x d ∧ Dp K H y e ∧ SeqAt.shaped d = true ∧ SeqAt.shaped e = true ∧ ltD up d e = some b ∧ Q (.bl b) H
theorem shaped_iff {d : PyData} : SeqAt.shaped d = true ↔ d.canLay0 = true ∧ d.depth ≤ 64 := by
  unfold SeqAt.shaped
  rw [Bool.and_eq_true, decide_eq_true_eq]
section
variable {X : Cx}
theorem o_ltD (K : PySem.W.Frag) {k : Nat} (hr : Room k X.A) (hK : X.K = K := by rfl) : OpR X (compareOp .Lt) (fCmpD false K) := fun pins s σ H x y v u Q I rx ry h => by
  subst hK
  obtain ⟨d, e, b, hd, he, sd, se, hl, q⟩ := h
  obtain ⟨as, r1⟩ := Dp.reads I d x v hd rx
  obtain ⟨bs, r2⟩ := Dp.reads I e y u he ry
  exact rc_data false 64 X.A s hr.units d e v u as bs b (shaped_iff.mp sd).2 r1 r2 (shaped_iff.mp sd).1 (shaped_iff.mp se).1 hl _ _ _ _ ⟨.bl b, H, I, rfl, q⟩
theorem o_gtD (K : PySem.W.Frag) {k : Nat} (hr : Room k X.A) (hK : X.K = K := by rfl) : OpR X (compareOp .Gt) (fCmpD true K) := fun pins s σ H x y v u Q I rx ry h => by
  subst hK
  obtain ⟨d, e, b, hd, he, sd, se, hl, q⟩ := h
  obtain ⟨as, r1⟩ := Dp.reads I d x v hd rx
  obtain ⟨bs, r2⟩ := Dp.reads I e y u he ry
  exact rc_data true 64 X.A s hr.units d e v u as bs b (shaped_iff.mp sd).2 r1 r2 (shaped_iff.mp sd).1 (shaped_iff.mp se).1 hl _ _ _ _ ⟨.bl b, H, I, rfl, q⟩
theorem o_eqD (K : PySem.W.Frag) {k : Nat} (hr : Room k X.A) (hK : X.K = K := by rfl) : OpR X (compareOp .Eq) (rEqD K) := by
  subst hK
  exact op_eqD hr.units
theorem o_neD (K : PySem.W.Frag) {k : Nat} (hr : Room k X.A) (hK : X.K = K := by rfl) : OpR X (compareOp .NotEq) (rNeD K) := by
  subst hK
  exact op_neD hr.units
end
end G

/-! Data in the heap: what stays, what flat values and their keys are worth. -/
namespace G
open PySem PySem.Spec PyProof.Rows L2
/-! ### what is fixed once it is laid -/
def fixd : HO → Bool
  | .tup _ => true
  | .frz _ _ => true
  | _ => false
/-- tuples stay -/
def Tk (H H' : Hp) : Prop := ∀ b o, fixd o = true → H b = some o → H' b = some o
section
variable {H H1 H2 : Hp} {st cl l : Addr} {o : HO} {K : PySem.W.Frag}
theorem Tk.refl (H : Hp) : Tk H H := fun _ _ _ h => h
theorem Tk.trans (a : Tk H H1) (b : Tk H1 H2) : Tk H H2 := fun c u f h => b c u f (a c u f h)
theorem Tk.same (e : Same H H1) : Tk H H1 := fun b u _ h => e b u h
theorem Tk.go (g : Go st cl H H1) (s : Sto H st cl) : Tk H H1 := fun b u f h => by
  refine g.1 b u (fun e => ?_) h
  obtain ⟨xs, hx⟩ := s.stIs
  rw [e, hx] at h
  cases h
  cases f
theorem Tk.lay (h : H l = none) : Tk H (upd H l o) := Tk.same (same_upd h)
theorem Tk.put {xs : List V} (h : H l = some (.lst xs)) : Tk H (upd H l o) := fun b u f e => by
  rw [upd_ne fun z => ?_]
  · exact e
  · rw [z, h] at e
    cases e
    cases f
theorem Tk.tup (t : Tk H H1) {a : Addr} {xs : List V} (h : SqT K H a xs) : SqT K H1 a xs := by
  rcases h with (h | ⟨o, h⟩) | h
  · exact .inl (.inl (t _ _ rfl h))
  · exact .inl (.inr ⟨o, t _ _ rfl h⟩)
  · exact .inr h
end
/-! ### data of tuples alone -/
mutual
def tupD : PyData → Bool
  | .tuple xs => tupAll xs
  | .list _ => false
  | .dict _ => false
  | _ => true
def tupAll : List PyData → Bool
  | [] => true
  | x :: xs => tupD x && tupAll xs
end
mutual
theorem Dp.tk {K : PySem.W.Frag} {H H1 : Hp} (t : Tk H H1) : ∀ (d : PyData) (v : V), tupD d = true → Dp K H v d → Dp K H1 v d
  | .none, _, _, h => by cases h; exact .non
  | .bool b, _, _, h => by cases h; exact .bl b
  | .int i, _, _, h => by cases h; exact .int i
  | .str x, _, _, h => by cases h; exact .str x
  | .list _, _, c, _ => by cases c
  | .dict _, _, c, _ => by cases c
  | .tuple xs, _, c, h => by
    rw [tupD] at c
    cases h with
    | tup h1 h2 => exact .tup (t.tup h1) (Dp.tkAll t xs _ c h2)
theorem Dp.tkAll {K : PySem.W.Frag} {H H1 : Hp} (t : Tk H H1) : ∀ (ds : List PyData) (vs : List V), tupAll ds = true → DpAll K H vs ds → DpAll K H1 vs ds
  | [], _, _, h => by cases h; exact .nil
  | d :: ds, _, c, h => by
    rw [tupAll, Bool.and_eq_true] at c
    cases h with
    | cons h1 h2 => exact .cons (Dp.tk t d _ c.1 h1) (Dp.tkAll t ds _ c.2 h2)
end
mutual
theorem Dp.same {K : PySem.W.Frag} {H H1 : Hp} (t : Same H H1) : ∀ (d : PyData) (v : V), Dp K H v d → Dp K H1 v d
  | .none, _, h => by cases h; exact .non
  | .bool b, _, h => by cases h; exact .bl b
  | .int i, _, h => by cases h; exact .int i
  | .str x, _, h => by cases h; exact .str x
  | .list xs, _, h => by
    cases h with
    | lst h1 h2 => exact .lst (t.seq h1) (Dp.sameAll t xs _ h2)
  | .dict _, _, h => by cases h
  | .tuple xs, _, h => by
    cases h with
    | tup h1 h2 => exact .tup (Same.tup t h1) (Dp.sameAll t xs _ h2)
theorem Dp.sameAll {K : PySem.W.Frag} {H H1 : Hp} (t : Same H H1) : ∀ (ds : List PyData) (vs : List V), DpAll K H vs ds → DpAll K H1 vs ds
  | [], _, h => by cases h; exact .nil
  | d :: ds, _, h => by
    cases h with
    | cons h1 h2 => exact .cons (Dp.same t d _ h1) (Dp.sameAll t ds _ h2)
end
section
variable {K : PySem.W.Frag} {H : Hp}
theorem DpAll.length {vs : List V} {ds : List PyData} (h : DpAll K H vs ds) : vs.length = ds.length := by
  induction vs generalizing ds with
  | nil => cases h; rfl
  | cons v vs ih =>
    cases h with
    | cons h1 h2 => rw [List.length_cons, List.length_cons, ih h2]
theorem DpAll.get {vs : List V} {ds : List PyData} (h : DpAll K H vs ds) {i : Nat} {d : PyData} (hd : ds[i]? = some d) : ∃ v, vs[i]? = some v ∧ Dp K H v d := by
  induction vs generalizing ds i with
  | nil => cases h; cases hd
  | cons v vs ih =>
    cases h with
    | cons h1 h2 =>
      cases i with
      | zero =>
        cases hd
        exact ⟨v, rfl, h1⟩
      | succ i => exact ih h2 hd
theorem DpAll.app {vs us : List V} {ds es : List PyData} (h : DpAll K H vs ds) (k : DpAll K H us es) : DpAll K H (vs ++ us) (ds ++ es) := by
  induction vs generalizing ds with
  | nil => cases h; exact k
  | cons v vs ih =>
    cases h with
    | cons h1 h2 => exact .cons h1 (ih h2)
theorem DpAll.one {v : V} {d : PyData} (h : Dp K H v d) : DpAll K H [v] [d] := .cons h .nil
end
/-! ### flat values, their keys -/
def dV : V → PyData
  | .bl b => .bool b
  | .int i => .int i
  | .str z => .str z
  | _ => .none
def kRank : V → Int
  | .bl _ => 1
  | .int _ => 2
  | .str _ => 3
  | _ => 0
def kCont : V → PyData
  | .bl b => .int (if b then 1 else 0)
  | .int i => .int i
  | .str z => .str z
  | _ => .int 0
def keyD (v : V) : PyData := .tuple [.int (kRank v), kCont v]
def ltV : V → V → Bool
  | .bl a, .bl b => decide ((if a then 1 else 0 : Int) < (if b then 1 else 0))
  | .int i, .int j => decide (i < j)
  | .str x, .str y => decide (x.cps.toList < y.cps.toList)
  | x, y => decide (kRank x < kRank y)
theorem dp_flat {K : PySem.W.Frag} {H : Hp} {v : V} (h : FlatV v) : Dp K H v (dV v) := by
  cases v <;> first
    | exact .non
    | exact .bl _
    | exact .int _
    | exact .str _
    | cases h
theorem dp_flats {K : PySem.W.Frag} {H : Hp} : ∀ {vs : List V}, (∀ v ∈ vs, FlatV v) → DpAll K H vs (vs.map dV)
  | [], _ => .nil
  | v :: vs, h => .cons (dp_flat (h v (List.mem_cons_self ..))) (dp_flats fun u hu => h u (List.mem_cons_of_mem _ hu))
theorem dp_cont {K : PySem.W.Frag} {H : Hp} {v : V} (h : FlatV v) : ∃ c, Dp K H c (kCont v) := by
  cases v <;> first
    | exact ⟨_, .int _⟩
    | exact ⟨_, .str _⟩
    | cases h
theorem eqv_int (i j : Int) : PyData.eqv (.int i) (.int j) = decide (i = j) := by
  rw [PyData.eqv, Bool.beq_eq_decide_eq]
theorem eqv_str (x y : Str) : PyData.eqv (.str x) (.str y) = decide (x = y) := by
  rw [PyData.eqv, Bool.beq_eq_decide_eq]
theorem eqv_pair (a b c d : PyData) : PyData.eqv (.tuple [a, b]) (.tuple [c, d]) = (PyData.eqv a c && PyData.eqv b d) := by
  rw [PyData.eqv, PyData.eqvAll, PyData.eqvAll, PyData.eqvAll, Bool.and_true]
theorem eqv_key {x y : V} (hx : FlatV x) (hy : FlatV y) : PyData.eqv (keyD x) (keyD y) = decide (x = y) := by
  unfold keyD
  rw [eqv_pair, eqv_int]
  cases x <;> first
    | cases hx; done
    | (cases y <;> first
        | cases hy; done
        | (rename_i a b; cases a <;> cases b <;> first | rfl | decide)
        | (simp [kRank, kCont, eqv_int, eqv_str]))
theorem ltD_key {up : Bool} {x y : V} (hx : FlatV x) (hy : FlatV y) (ne : x ≠ y) : ltD up (keyD x) (keyD y) = some (if up then ltV y x else ltV x y) := by
  unfold keyD
  rw [ltD, ltAll, eqv_int]
  by_cases hr : kRank x = kRank y
  · rw [if_pos (decide_eq_true hr), ltAll]
    have hc : PyData.eqv (kCont x) (kCont y) = false := by
      have h := eqv_key hx hy
      unfold keyD at h
      rw [eqv_pair, eqv_int, decide_eq_true hr, Bool.true_and, decide_eq_false ne] at h
      exact h
    rw [if_neg (by rw [hc]; exact Bool.false_ne_true)]
    cases x <;> first
      | cases hx; done
      | (cases y <;> first
          | cases hy; done
          | (exfalso; revert hr; simp [kRank]; done)
          | (cases up <;> rfl)
          | (exact absurd rfl ne))
  · rw [if_neg (by rw [decide_eq_false hr]; exact Bool.false_ne_true), ltD]
    cases x <;> first
      | cases hx; done
      | (cases y <;> first
          | cases hy; done
          | (exact absurd rfl hr)
          | (cases up <;> rfl))
/-! ### rows by their keys -/
def rowLt : List V → List V → Bool
  | [], [] => false
  | [], _ :: _ => true
  | _ :: _, [] => false
  | x :: xs, y :: ys => if x = y then rowLt xs ys else ltV x y
theorem ltAll_keys {up : Bool} : ∀ {xs ys : List V}, (∀ x ∈ xs, FlatV x) → (∀ y ∈ ys, FlatV y) → ltAll up (xs.map keyD) (ys.map keyD) = some (if up then rowLt ys xs else rowLt xs ys)
  | [], [], _, _ => by cases up <;> rfl
  | [], _ :: _, _, _ => by cases up <;> rfl
  | _ :: _, [], _, _ => by cases up <;> rfl
  | x :: xs, y :: ys, hx, hy => by
    have fx := hx x (List.mem_cons_self ..)
    have fy := hy y (List.mem_cons_self ..)
    rw [List.map_cons, List.map_cons, ltAll, eqv_key fx fy]
    by_cases e : x = y
    · subst e
      rw [if_pos (decide_eq_true rfl), ltAll_keys (fun u hu => hx u (List.mem_cons_of_mem _ hu)) (fun u hu => hy u (List.mem_cons_of_mem _ hu))]
      cases up
      · show some (rowLt xs ys) = some (if x = x then rowLt xs ys else ltV x x)
        rw [if_pos rfl]
      · show some (rowLt ys xs) = some (if x = x then rowLt ys xs else ltV x x)
        rw [if_pos rfl]
    · rw [if_neg (by rw [decide_eq_false e]; exact Bool.false_ne_true), ltD_key fx fy e]
      cases up
      · show some (ltV x y) = some (if x = y then rowLt xs ys else ltV x y)
        rw [if_neg e]
      · show some (ltV y x) = some (if y = x then rowLt ys xs else ltV y x)
        rw [if_neg (fun z => e z.symm)]
theorem ltV_asymm {x y : V} (hx : FlatV x) (hy : FlatV y) (h : ltV x y = true) : ltV y x = false := by
  cases x <;> first
    | (cases hx; done)
    | (cases y <;> first
        | (cases hy; done)
        | (rename_i a b; revert h; cases a <;> cases b <;> simp [ltV]; done)
        | (rename_i a b; have h' : decide (a.cps.toList < b.cps.toList) = true := h; exact decide_eq_false (List.lt_asymm (of_decide_eq_true h')))
        | (simp [ltV, kRank] at h ⊢; done)
        | (simp [ltV, kRank] at h ⊢; omega))
theorem rowLt_asymm : ∀ {xs ys : List V}, (∀ x ∈ xs, FlatV x) → (∀ y ∈ ys, FlatV y) → rowLt xs ys = true → rowLt ys xs = false
  | [], [], _, _, h => by cases h
  | [], _ :: _, _, _, _ => rfl
  | _ :: _, [], _, _, h => by cases h
  | x :: xs, y :: ys, hx, hy, h => by
    rw [rowLt] at h ⊢
    by_cases e : x = y
    · subst e
      rw [if_pos rfl] at h ⊢
      exact rowLt_asymm (fun u hu => hx u (List.mem_cons_of_mem _ hu)) (fun u hu => hy u (List.mem_cons_of_mem _ hu)) h
    · rw [if_neg e] at h
      rw [if_neg fun z => e z.symm]
      exact ltV_asymm (hx x (List.mem_cons_self ..)) (hy y (List.mem_cons_self ..)) h
/-- -1, 0 or 1 -/
def rowOrd (xs ys : List V) : Int := if rowLt xs ys = true then -1 else if rowLt ys xs = true then 1 else 0
def b1 (b : Bool) : Int := if b then 1 else 0
theorem ord_diff {xs ys : List V} (hx : ∀ x ∈ xs, FlatV x) (hy : ∀ y ∈ ys, FlatV y) : b1 (rowLt ys xs) - b1 (rowLt xs ys) = rowOrd xs ys := by
  unfold rowOrd b1
  cases h : rowLt xs ys
  · cases h2 : rowLt ys xs <;> simp
  · rw [rowLt_asymm hx hy h]
    simp
/-! ### shapes -/
theorem canLay_key {v : V} (h : FlatV v) : (keyD v).canLay0 = true := by
  have hs : ∀ z, txtB 40 z = true → PyData.canLay0 (.str z) = true := fun z hz => by
    rw [PyData.canLay0]
    unfold PyData.strOk
    rw [← Array.all_toList, List.all_eq_true]
    intro c hc
    have := (txtB_iff.mp hz).2 c hc
    unfold signB at this
    simp only [Bool.and_eq_true, decide_eq_true_eq] at this
    exact decide_eq_true (by omega)
  unfold keyD
  rw [PyData.canLay0, PyData.canLayAll0, PyData.canLayAll0, PyData.canLayAll0, PyData.canLay0, Bool.true_and, Bool.and_true]
  cases v <;> first
    | rfl
    | exact hs _ h
    | cases h
theorem depth_key (v : V) (h : FlatV v) : (keyD v).depth = 1 := by
  unfold keyD
  rw [PyData.depth, PyData.depthAll, PyData.depthAll, PyData.depthAll, PyData.depth]
  cases v <;> first
    | rfl
    | cases h
theorem shaped_key {v : V} (h : FlatV v) : SeqAt.shaped (keyD v) = true := shaped_iff.mpr ⟨canLay_key h, by rw [depth_key v h]; decide⟩
theorem tupD_key {v : V} (h : FlatV v) : tupD (keyD v) = true := by
  cases v <;> first
    | (simp [keyD, kRank, kCont, tupD, tupAll]; done)
    | cases h
theorem tupAll_keys : ∀ {xs : List V}, (∀ x ∈ xs, FlatV x) → tupAll (xs.map keyD) = true
  | [], _ => rfl
  | x :: xs, h => by
    rw [List.map_cons, tupAll, tupD_key (h x (List.mem_cons_self ..)), tupAll_keys fun u hu => h u (List.mem_cons_of_mem _ hu)]
    rfl
theorem shaped_keys {xs : List V} (h : ∀ x ∈ xs, FlatV x) : SeqAt.shaped (.tuple (xs.map keyD)) = true := by
  have h1 : ∀ {ys : List V}, (∀ x ∈ ys, FlatV x) → PyData.canLayAll0 (ys.map keyD) = true ∧ PyData.depthAll (ys.map keyD) ≤ 1 := by
    intro ys
    induction ys with
    | nil => exact fun _ => ⟨rfl, by decide⟩
    | cons y ys ih =>
      intro hy
      obtain ⟨a, b⟩ := ih fun u hu => hy u (List.mem_cons_of_mem _ hu)
      have fy := hy y (List.mem_cons_self ..)
      rw [List.map_cons, PyData.canLayAll0, PyData.depthAll, canLay_key fy, a, depth_key y fy]
      exact ⟨rfl, by omega⟩
  obtain ⟨a, b⟩ := h1 h
  refine shaped_iff.mpr ⟨by rw [PyData.canLay0]; exact a, ?_⟩
  rw [PyData.depth]
  omega

/-! ### a number as a text -/
theorem digit_sign {c : Char} (h : c.isDigit = true) : 48 ≤ c.toNat ∧ c.toNat ≤ 57 := by
  unfold Char.isDigit at h
  rw [Bool.and_eq_true, decide_eq_true_eq, decide_eq_true_eq] at h
  have h1 := UInt32.le_iff_toNat_le.mp h.1
  have h2 := UInt32.le_iff_toNat_le.mp h.2
  exact ⟨h1, h2⟩
theorem int_signs (i : Int) : ∀ c ∈ (toString i).toList, c.toNat = 45 ∨ (48 ≤ c.toNat ∧ c.toNat ≤ 57) := by
  have nat : ∀ (n : Nat), ∀ c ∈ (Nat.repr n).toList, 48 ≤ c.toNat ∧ c.toNat ≤ 57 := fun n c hc => by
    rw [Nat.toList_repr] at hc
    exact digit_sign (Nat.isDigit_of_mem_toDigits (by decide) (by decide) hc)
  intro c hc
  rw [Int.toString_eq_repr, Int.repr_eq_if] at hc
  split at hc
  · exact .inr (nat _ c hc)
  · rw [String.toList_append, List.mem_append] at hc
    rcases hc with hc | hc
    · have e : c = '-' := by simpa using hc
      subst e
      exact .inl (by decide)
    · exact .inr (nat _ c hc)
theorem txt_int {i : Int} (h : numB i = true) : txtB 31 (Str.ofString (toString i)) = true := by
  have h' := numB_iff.mp h
  refine txtB_iff.mpr ⟨?_, fun c hc => ?_⟩
  · rw [PySem.ofString_length]
    exact PySem.int_text_length_le10 (by decide) (by omega)
  · have e : (Str.ofString (toString i)).cps.toList = (toString i).toList.map Char.toNat := by
      rw [Str.ofString_eq_toList]
    rw [e] at hc
    obtain ⟨d, hd, rfl⟩ := List.mem_map.mp hc
    unfold signB
    simp only [Bool.and_eq_true, decide_eq_true_eq]
    rcases int_signs i d hd with h | h <;> omega
end G

/-! Nested data: tuples of flat values. One value's order. -/
namespace G
open PySem PySem.Spec PyProof.Rows L2
mutual
def sizeD : PyData → Nat
  | .tuple ds => sizeAll ds + 1
  | _ => 1
def sizeAll : List PyData → Nat
  | [] => 0
  | d :: ds => sizeD d + sizeAll ds
end
mutual
def nestD : PyData → Bool
  | .none => true
  | .bool _ => true
  | .int i => numB i
  | .str z => txtB 40 z
  | .tuple ds => nestAll ds
  | _ => false
def nestAll : List PyData → Bool
  | [] => true
  | d :: ds => nestD d && nestAll ds
end
theorem sizeD_pos (d : PyData) : 1 ≤ sizeD d := by
  cases d <;> first | exact Nat.le_refl 1 | (rw [sizeD]; omega)
theorem sizeAll_len : ∀ ds : List PyData, ds.length ≤ sizeAll ds
  | [] => Nat.le_refl _
  | d :: ds => by
    have := sizeAll_len ds
    have := sizeD_pos d
    rw [sizeAll, List.length_cons]
    omega
theorem sizeAll_app : ∀ ds es : List PyData, sizeAll (ds ++ es) = sizeAll ds + sizeAll es
  | [], es => by rw [List.nil_append, sizeAll, Nat.zero_add]
  | d :: ds, es => by rw [List.cons_append, sizeAll, sizeAll, sizeAll_app ds es, Nat.add_assoc]
theorem nestAll_mem : ∀ {ds : List PyData}, nestAll ds = true ↔ ∀ d ∈ ds, nestD d = true
  | [] => by simp [nestAll]
  | d :: ds => by simp [nestAll, nestAll_mem (ds := ds)]
mutual
theorem nest_tup : ∀ d : PyData, nestD d = true → tupD d = true
  | .tuple ds, h => by
    rw [nestD] at h
    rw [tupD]
    exact nest_tups ds h
  | .none, _ => rfl
  | .bool _, _ => rfl
  | .int _, _ => rfl
  | .str _, _ => rfl
  | .list _, h => by cases h
  | .dict _, h => by cases h
theorem nest_tups : ∀ ds : List PyData, nestAll ds = true → tupAll ds = true
  | [], _ => rfl
  | d :: ds, h => by
    rw [nestAll, Bool.and_eq_true] at h
    rw [tupAll, nest_tup d h.1, nest_tups ds h.2]
    rfl
end
theorem flat_nest {v : V} (h : FlatV v) : nestD (dV v) = true := by
  cases v <;> first | rfl | exact h | cases h
theorem flat_size (v : V) : sizeD (dV v) = 1 := by
  cases v <;> rfl
theorem flat_inj {v u : V} (hv : FlatV v) (hu : FlatV u) : dV v = dV u ↔ v = u := by
  refine ⟨fun e => ?_, fun e => congrArg dV e⟩
  cases v <;> first
    | cases hv; done
    | (cases u <;> first
        | cases hu; done
        | rfl
        | (injection e with e; rw [e])
        | (cases e; done))
/-! one value's order -/
theorem ltV_total {x y : V} (hx : FlatV x) (hy : FlatV y) (ne : x ≠ y) (h : ltV x y = false) : ltV y x = true := by
  cases x <;> first
    | (cases hx; done)
    | (cases y <;> first
        | (cases hy; done)
        | (exact absurd rfl ne)
        | (rename_i a b; revert h ne; cases a <;> cases b <;> simp [ltV]; done)
        | (rename_i a b
           have h' : decide (a.cps.toList < b.cps.toList) = false := h
           refine decide_eq_true ?_
           have h2 : ¬ a.cps.toList < b.cps.toList := of_decide_eq_false h'
           rcases List.le_iff_lt_or_eq.mp (List.not_lt.mp h2) with z | z
           · exact z
           · refine absurd ?_ ne
             obtain ⟨a⟩ := a
             obtain ⟨b⟩ := b
             have z' : b = a := Array.toList_inj.mp z
             rw [z'])
        | (simp [ltV, kRank] at h ⊢; done)
        | (rename_i a b
           have h' : decide (a < b) = false := h
           refine decide_eq_true ?_
           have := of_decide_eq_false h'
           have : a ≠ b := fun z => ne (by rw [z])
           omega))
theorem lt_one {x y : V} : rowLt [x] [y] = (if x = y then false else ltV x y) := by
  rw [rowLt]
  rfl
theorem ltD_k {up : Bool} {x y : V} (hx : FlatV x) (hy : FlatV y) : ltD up (keyD x) (keyD y) = some (if up then rowLt [y] [x] else rowLt [x] [y]) := by
  by_cases e : x = y
  · subst e
    rw [lt_one, if_pos rfl]
    have h2 : PyData.eqv (.int (kRank x)) (.int (kRank x)) = true := by rw [eqv_int]; exact decide_eq_true rfl
    have h3 := eqv_key hx hx
    unfold keyD at h3
    rw [eqv_pair, h2, Bool.true_and, decide_eq_true rfl] at h3
    unfold keyD
    rw [ltD, ltAll, if_pos h2, ltAll, if_pos h3]
    cases up <;> rfl
  · have h1 : rowLt [x] [y] = ltV x y := by rw [lt_one, if_neg e]
    have h2 : rowLt [y] [x] = ltV y x := by rw [lt_one, if_neg fun z => e z.symm]
    rw [ltD_key hx hy e, h1, h2]
theorem fl1 {x : V} (hx : FlatV x) : ∀ u ∈ [x], FlatV u := fun u hu => by rw [List.mem_singleton.mp hu]; exact hx
theorem ord_zero {x y : V} (hx : FlatV x) (hy : FlatV y) : rowOrd [x] [y] = 0 ↔ x = y := by
  unfold rowOrd
  by_cases e : x = y
  · subst e
    rw [lt_one, if_pos rfl]
    exact ⟨fun _ => rfl, fun _ => rfl⟩
  · have h1 : rowLt [x] [y] = ltV x y := by rw [lt_one, if_neg e]
    have h2 : rowLt [y] [x] = ltV y x := by rw [lt_one, if_neg fun z => e z.symm]
    rw [h1, h2]
    cases h : ltV x y
    · rw [ltV_total hx hy e h]
      exact ⟨fun z => absurd z (by decide), fun z => absurd z e⟩
    · rw [if_pos rfl]
      exact ⟨fun z => absurd z (by decide), fun z => absurd z e⟩
/-! pairs of data, each a tuple of two, held by a list -/
def Pd (K : PySem.W.Frag) (H : Hp) (ts : List V) (ps : List (PyData × PyData)) : Prop :=
  ts.length = ps.length ∧ ∀ (i : Nat) t p, ts[i]? = some t → ps[i]? = some p → ∃ a x y, t = .ref a ∧ SqT K H a [x, y] ∧ Dp K H x p.1 ∧ Dp K H y p.2 ∧ nestD p.1 = true ∧ nestD p.2 = true
theorem Pd.tk {K : PySem.W.Frag} {H H' : Hp} {ts : List V} {ps : List (PyData × PyData)} (h : Pd K H ts ps) (t : Tk H H') : Pd K H' ts ps := ⟨h.1, fun i u p e1 e2 => by
  obtain ⟨a, x, y, e, h1, h2, h3, h4, h5⟩ := h.2 i u p e1 e2
  exact ⟨a, x, y, e, t.tup h1, Dp.tk t _ _ (nest_tup _ h4) h2, Dp.tk t _ _ (nest_tup _ h5) h3, h4, h5⟩⟩
theorem Pd.app {K : PySem.W.Frag} {H : Hp} {ts us : List V} {ps qs : List (PyData × PyData)} (h : Pd K H ts ps) (k : Pd K H us qs) : Pd K H (ts ++ us) (ps ++ qs) := by
  refine ⟨by rw [List.length_append, List.length_append, h.1, k.1], fun i t p e1 e2 => ?_⟩
  rcases Nat.lt_or_ge i ts.length with hi | hi
  · rw [List.getElem?_append_left hi] at e1
    rw [List.getElem?_append_left (by rw [← h.1]; exact hi)] at e2
    exact h.2 i t p e1 e2
  · rw [List.getElem?_append_right hi] at e1
    rw [List.getElem?_append_right (by rw [← h.1]; exact hi), ← h.1] at e2
    exact k.2 _ t p e1 e2
theorem Pd.split {K : PySem.W.Frag} {H : Hp} {ts : List V} {t : V} {qs : List (PyData × PyData)} (h : Pd K H (ts ++ [t]) qs) : ∃ ps p, qs = ps ++ [p] ∧ Pd K H ts ps ∧ ∃ a x y, t = .ref a ∧ SqT K H a [x, y] ∧ Dp K H x p.1 ∧ Dp K H y p.2 ∧ nestD p.1 = true ∧ nestD p.2 = true := by
  have hl := h.1
  rw [List.length_append] at hl
  have hne : qs ≠ [] := fun z => by
    rw [z] at hl
    simp at hl
  obtain ⟨ps, p, rfl⟩ : ∃ ps p, qs = ps ++ [p] := ⟨_, _, (List.dropLast_concat_getLast hne).symm⟩
  have hl2 : ps.length = ts.length := by
    rw [List.length_append] at hl
    simp at hl
    omega
  refine ⟨ps, p, rfl, ⟨hl2.symm, fun i u p' e1 e2 => ?_⟩, ?_⟩
  · have hi := (List.getElem?_eq_some_iff.mp e1).1
    refine h.2 i u p' ?_ ?_
    · rw [List.getElem?_append_left hi]
      exact e1
    · rw [List.getElem?_append_left (by rw [hl2]; exact hi)]
      exact e2
  · refine h.2 ts.length t _ ?_ ?_
    · rw [List.getElem?_append_right (Nat.le_refl _), Nat.sub_self]
      rfl
    · rw [← hl2, List.getElem?_append_right (Nat.le_refl _), Nat.sub_self]
      rfl
def sumP : List (PyData × PyData) → Nat
  | [] => 0
  | p :: ps => sizeD p.1 + sumP ps
theorem sumP_app : ∀ ps qs : List (PyData × PyData), sumP (ps ++ qs) = sumP ps + sumP qs
  | [], qs => by rw [List.nil_append, sumP, Nat.zero_add]
  | d :: ds, es => by rw [List.cons_append, sumP, sumP, sumP_app ds es, Nat.add_assoc]
theorem sumP_zip : ∀ ds es : List PyData, es.length = ds.length → sumP (ds.zip es) = sizeAll ds
  | [], _, _ => rfl
  | _ :: _, [], h => by cases h
  | d :: ds, e :: es, h => by rw [List.zip_cons_cons, sumP, sizeAll, sumP_zip ds es (Nat.succ.inj h)]
theorem sumP_len : ∀ ps : List (PyData × PyData), ps.length ≤ sumP ps
  | [] => Nat.le_refl _
  | p :: ps => by
    have := sumP_len ps
    have := sizeD_pos p.1
    rw [sumP, List.length_cons]
    omega
theorem zip_all : ∀ {ds es : List PyData}, es.length = ds.length → ((∀ p ∈ ds.zip es, p.1 = p.2) ↔ ds = es)
  | [], [], _ => by simp
  | _ :: _, [], h => by cases h
  | [], _ :: _, h => by cases h
  | d :: ds, e :: es, h => by
    have ih := zip_all (Nat.succ.inj h)
    rw [List.zip_cons_cons]
    constructor
    · intro h
      have h1 : d = e := h (d, e) (List.mem_cons_self ..)
      have h2 := ih.mp fun p hp => h p (List.mem_cons_of_mem _ hp)
      rw [h1, h2]
    · intro h p hp
      injection h with h1 h2
      rcases List.mem_cons.mp hp with rfl | hp
      · exact h1
      · exact ih.mpr h2 p hp
/-- what a zip makes -/
theorem Pd.zip {K : PySem.W.Frag} {H H' : Hp} {xs ys : List V} {ds es : List PyData} {ts : List Addr} (hd : DpAll K H xs ds) (he : DpAll K H ys es) (nd : nestAll ds = true) (ne : nestAll es = true) (hl : ys.length = xs.length) (tk : Tk H H') (ht : ts.length = xs.length)
    (h : ∀ (j : Nat) t x y, ts[j]? = some t → xs[j]? = some x → ys[j]? = some y → H' t = some (.tup [x, y])) : Pd K H' (ts.map V.ref) (ds.zip es) := by
  have l1 := DpAll.length hd
  have l2 := DpAll.length he
  refine ⟨by rw [List.length_map, List.length_zip]; omega, fun i t p e1 e2 => ?_⟩
  rw [List.getElem?_map] at e1
  obtain ⟨a, ha, rfl⟩ := Option.map_eq_some_iff.mp e1
  obtain ⟨f1, f2⟩ := List.getElem?_zip_eq_some.mp e2
  obtain ⟨x, gx, dx⟩ := DpAll.get hd f1
  obtain ⟨y, gy, dy⟩ := DpAll.get he f2
  have n1 := nestAll_mem.mp nd _ (List.mem_of_getElem? f1)
  have n2 := nestAll_mem.mp ne _ (List.mem_of_getElem? f2)
  exact ⟨a, x, y, rfl, SqT.of (h i a x y ha gx gy), Dp.tk tk _ _ (nest_tup _ n1) dx, Dp.tk tk _ _ (nest_tup _ n2) dy, n1, n2⟩
end G

namespace Sd
open PySem PySem.Spec PyProof.Rows L2 G
def topS (i : Nat) : Stmt := PySem.Challenge.pw_storedesk_k00_compare_values.main.body.getD i (.Pass ⟨0, 0, 0, 0⟩)
abbrev s_kind_ofP : Stmt := topS 1
theorem sc_kind_ofP : FnScope ["value"] ["value"] (defScope s_kind_ofP) := ⟨rfl, rfl, rfl, by decide +kernel, rfl, by decide +kernel, by decide +kernel⟩
abbrev s_sort_keyP : Stmt := topS 2
theorem sc_sort_keyP : FnScope ["value", "kind"] ["value"] (defScope s_sort_keyP) := ⟨rfl, rfl, rfl, by decide +kernel, rfl, by decide +kernel, by decide +kernel⟩
abbrev s_own_compared_keysP : Stmt := topS 3
theorem sc_own_compared_keysP : FnScope ["left", "right"] ["left", "right"] (defScope s_own_compared_keysP) := ⟨rfl, rfl, rfl, by decide +kernel, rfl, by decide +kernel, by decide +kernel⟩
abbrev s_compareP : Stmt := topS 4
theorem sc_compareP : FnScope ["left", "right"] ["left", "right"] (defScope s_compareP) := ⟨rfl, rfl, rfl, by decide +kernel, rfl, by decide +kernel, by decide +kernel⟩
abbrev s_sameP : Stmt := topS 5
theorem sc_sameP : FnScope ["left", "right", "pending", "one", "other"] ["left", "right"] (defScope s_sameP) := ⟨rfl, rfl, rfl, by decide +kernel, rfl, by decide +kernel, by decide +kernel⟩
abbrev s_mix : Stmt := topS 7
theorem sc_mix : FnScope ["_law_number_here", "_law_turn", "_law_low", "_law_high", "_law_once", "_law_twice"] ["_law_number_here", "_law_turn"] (defScope s_mix) := ⟨rfl, rfl, rfl, by decide +kernel, rfl, by decide +kernel, by decide +kernel⟩
abbrev s_store : Stmt := topS 8
theorem sc_store : FnScope ["_law_script", "_law_cells", "_law_cell", "_law_seed"] ["_law_script"] (defScope s_store) := ⟨rfl, rfl, rfl, by decide +kernel, rfl, by decide +kernel, by decide +kernel⟩
abbrev s_take : Stmt := topS 9
theorem sc_take : FnScope ["_law_store_here", "_law_many", "_law_cell", "_law_rest"] ["_law_store_here", "_law_many"] (defScope s_take) := ⟨rfl, rfl, rfl, by decide +kernel, rfl, by decide +kernel, by decide +kernel⟩
abbrev s_odds : Stmt := topS 10
theorem sc_odds : FnScope ["_law_store_here", "_law_many"] ["_law_store_here", "_law_many"] (defScope s_odds) := ⟨rfl, rfl, rfl, by decide +kernel, rfl, by decide +kernel, by decide +kernel⟩
abbrev s_count : Stmt := topS 11
theorem sc_count : FnScope ["_law_store_here", "_law_least", "_law_usual", "_law_most", "_law_edge"] ["_law_store_here", "_law_least", "_law_usual", "_law_most"] (defScope s_count) := ⟨rfl, rfl, rfl, by decide +kernel, rfl, by decide +kernel, by decide +kernel⟩
abbrev s_one : Stmt := topS 12
theorem sc_one : FnScope ["_law_store_here", "_law_row"] ["_law_store_here", "_law_row"] (defScope s_one) := ⟨rfl, rfl, rfl, by decide +kernel, rfl, by decide +kernel, by decide +kernel⟩
abbrev s_number : Stmt := topS 13
theorem sc_number : FnScope ["_law_store_here", "_law_kind", "_law_large", "_law_k"] ["_law_store_here"] (defScope s_number) := ⟨rfl, rfl, rfl, by decide +kernel, rfl, by decide +kernel, by decide +kernel⟩
abbrev s_text : Stmt := topS 14
theorem sc_text : FnScope ["_law_store_here", "_law_most", "_law_signs", "_law_kind", "_law_word", "_law_long", "_law_k"] ["_law_store_here", "_law_most"] (defScope s_text) := ⟨rfl, rfl, rfl, by decide +kernel, rfl, by decide +kernel, by decide +kernel⟩
abbrev s_value : Stmt := topS 15
theorem sc_value : FnScope ["_law_store_here", "_law_kind"] ["_law_store_here"] (defScope s_value) := ⟨rfl, rfl, rfl, by decide +kernel, rfl, by decide +kernel, by decide +kernel⟩
abbrev s_same : Stmt := topS 16
theorem sc_same : FnScope ["_law_left", "_law_right", "_law_k", "_law_name"] ["_law_left", "_law_right"] (defScope s_same) := ⟨rfl, rfl, rfl, by decide +kernel, rfl, by decide +kernel, by decide +kernel⟩
abbrev s_sort_key : Stmt := topS 17
theorem sc_sort_key : FnScope ["_law_value_here"] ["_law_value_here"] (defScope s_sort_key) := ⟨rfl, rfl, rfl, by decide +kernel, rfl, by decide +kernel, by decide +kernel⟩
abbrev s_like : Stmt := topS 18
theorem sc_like : FnScope ["_law_store_here", "_law_value_here", "_law_kind", "_law_at", "_law_sign"] ["_law_store_here", "_law_value_here"] (defScope s_like) := ⟨rfl, rfl, rfl, by decide +kernel, rfl, by decide +kernel, by decide +kernel⟩
abbrev s_nested : Stmt := topS 19
theorem sc_nested : FnScope ["_law_store_here", "_law_values", "_law_one_here", "_law_two", "_law_laps", "_law_at", "_law_fault", "_law_lap", "_law_side", "_law_other", "_law_shape"] ["_law_store_here", "_law_values"] (defScope s_nested) := ⟨rfl, rfl, rfl, by decide +kernel, rfl, by decide +kernel, by decide +kernel⟩
abbrev s_law : Stmt := topS 20
theorem sc_law : FnScope ["_law_script", "_law_store_here", "_law_values", "_law_k", "_law_value_here", "_law_due", "_law_one_here", "_law_two", "_law_low", "_law_high"] ["_law_script"] (defScope s_law) := ⟨rfl, rfl, rfl, by decide +kernel, rfl, by decide +kernel, by decide +kernel⟩
section
variable {P : Program} {w : World} {K : PySem.W.Frag} {mg : Str → Option Value} {base : Heap}
/-! _law_mix -/
def sp_mix : Sp := fun vs H Q _ => ∃ n t : Int, vs = [.int n, .int t] ∧ ∀ r : Int, 0 ≤ r → r ≤ 69273665 → Q (.int r) H
theorem ok_mix {f : Addr} {fd : FuncData} (F : FnP K "_law_mix" s_mix f fd) (B : Bf mg) : FnOk P w K mg base CX0 1 f fd ["_law_number_here", "_law_turn"] sp_mix := by
  refine F.ok sc_mix (fun vs H Q E h => ?_) (fun cdv A outer s H vs Q E hr h => ⟨_, PSs.nox ((pss_cons (ps_set (i := 2) sc_mix.nd rfl (by first | exact Or.inl rfl | exact Or.inr rfl) (pe_op o_mod (pe_callTy c_int (by rfl) B.int PyProof.Rows.boot_int (pa_cons (fv 0) pa_nil)) pe_int)) (pss_cons (ps_set (i := 3) sc_mix.nd rfl (by first | exact Or.inl rfl | exact Or.inr rfl) (pe_op o_mod (pe_callTy c_int (by rfl) B.int PyProof.Rows.boot_int (pa_cons (pe_op o_div (pe_callTy c_int (by rfl) B.int PyProof.Rows.boot_int (pa_cons (fv 0) pa_nil)) pe_int) pa_nil)) pe_int)) (pss_cons (ps_set (i := 4) sc_mix.nd rfl (by first | exact Or.inl rfl | exact Or.inr rfl) (pe_op o_mod (pe_callTy c_int (by rfl) B.int PyProof.Rows.boot_int (pa_cons (pe_op (o_add K) (pe_op (o_add K) (pe_op (o_add K) (pe_op o_mul (fv 2) pe_int) (pe_op o_mul (fv 3) pe_int)) (pe_op o_mul (fv 1) pe_int)) pe_int) pa_nil)) pe_int)) (pss_cons (ps_set (i := 5) sc_mix.nd rfl (by first | exact Or.inl rfl | exact Or.inr rfl) (pe_op o_mod (pe_callTy c_int (by rfl) B.int PyProof.Rows.boot_int (pa_cons (pe_op (o_add K) (pe_op (o_add K) (pe_op o_mul (pe_op o_div (fv 4) pe_int) (fv 4)) (pe_op o_mul (fv 1) pe_int)) (fv 2)) pa_nil)) pe_int)) (pss_one (ps_ret (pe_op o_div (fv 5) pe_int)))))))), ?_⟩)
  · obtain ⟨n, t, rfl, _⟩ := h
    rfl
  · obtain ⟨n, t, rfl, q⟩ := h
    have w1 : ∀ i : Int, CDivW i 2147483647 := fun i => ⟨by decide, by decide +kernel⟩
    have w2 : ∀ i : Int, CDivW i 127 := fun i => ⟨by decide, by decide +kernel⟩
    have w3 : ∀ i : Int, CDivW i 31 := fun i => ⟨by decide, by decide +kernel⟩
    refine ⟨by decide, w1 _, by decide, .inr ⟨by decide, by decide⟩, .inr ⟨by decide, by decide⟩, .inr ⟨by decide, by decide⟩, by decide, w2 _, .inl ?_, .inr ⟨by decide, by decide⟩, by decide, w3 _, ?_⟩
    · omega
    · exact q _ (by omega) (by omega)

/-! _law_take -/
def sp_take : Sp := fun vs H Q _ => ∃ (st cl : Addr) (m : Int), vs = [.ref st, .int m] ∧ Sto H st cl ∧ m ≤ 1000000 ∧ ∀ (r : Int) H', 0 ≤ r → (r < m ∨ r = 0 ∧ m < 2) → Go st cl H H' → Q (.int r) H'
theorem ok_take {f : Addr} {fd : FuncData} (F : FnP K "_law_take" s_take f fd) (B : Bf mg) (F_mix : Fn P w K mg base "_law_mix" ["_law_number_here", "_law_turn"] 1 sp_mix) : FnOk P w K mg base CX0 2 f fd ["_law_store_here", "_law_many"] sp_take := by
  refine F.ok sc_take (fun vs H Q E h => ?_) (fun cdv A outer s H vs Q E hr h => ⟨_, PSs.nox ((pss_cons (ps_if (q_cmp o_lt (fv 1) pe_int) (pss_one (ps_ret pe_int)) pss_nil) (pss_cons (ps_if (PW.pt (pw_and (q_cmp op_eq (pe_ix (x_ix K) (fv 0) pe_int (fun _ _ => rfl)) pe_int) (pw_and1 (q_cmp o_lt (pe_ix (x_ix K) (fv 0) pe_int (fun _ _ => rfl)) (pe_callB (c_len K) (by rfl) B.len PySem.boot_len (pa_cons (pe_ix (x_ix K) (fv 0) pe_int (fun _ _ => rfl)) pa_nil)))))) (pss_cons (ps_set (i := 2) sc_take.nd rfl (by first | exact Or.inl rfl | exact Or.inr rfl) (pe_ix (x_ix K) (pe_ix (x_ix K) (fv 0) pe_int (fun _ _ => rfl)) (pe_ix (x_ix K) (fv 0) pe_int (fun _ _ => rfl)) (fun _ _ => rfl))) (pss_cons (ps_asg (pe_op (o_add K) (pe_ix (x_ix K) (fv 0) pe_int (fun _ _ => rfl)) pe_int) (pg_sub (fv 0) pe_int set_list)) (pss_cons (ps_if (q_cmp o_lt (fv 2) (pe_op o_pow pe_int pe_int)) (pss_cons (ps_asg (pe_op (o_add K) (pe_ix (x_ix K) (fv 0) pe_int (fun _ _ => rfl)) pe_int) (pg_sub (fv 0) pe_int set_list)) (pss_one (ps_ret (pe_op o_mod (pe_callTy c_int (by rfl) B.int PyProof.Rows.boot_int (pa_cons (pcall F_mix hr (pa_cons (fv 2) (pa_cons (pe_ix (x_ix K) (fv 0) pe_int (fun _ _ => rfl)) pa_nil))) pa_nil)) (fv 1))))) pss_nil) (pss_one (ps_asg (fv 2) (pg_sub (fv 0) pe_int set_list)))))) pss_nil) (pss_cons (ps_if (q_cmp o_gt (pe_ix (x_ix K) (fv 0) pe_int (fun _ _ => rfl)) pe_int) (pss_cons (ps_set (i := 3) sc_take.nd rfl (by first | exact Or.inl rfl | exact Or.inr rfl) (pe_ix (x_ix K) (fv 0) pe_int (fun _ _ => rfl))) (pss_cons (ps_asg (pe_op o_div (fv 3) (fv 1)) (pg_sub (fv 0) pe_int set_list)) (pss_one (ps_ret (pe_op o_mod (pe_callTy c_int (by rfl) B.int PyProof.Rows.boot_int (pa_cons (fv 3) pa_nil)) (fv 1)))))) pss_nil) (pss_cons (ps_asg (pe_op (o_add K) (pe_ix (x_ix K) (fv 0) pe_int (fun _ _ => rfl)) pe_int) (pg_sub (fv 0) pe_int set_list)) (pss_one (ps_ret (pe_op o_mod (pe_callTy c_int (by rfl) B.int PyProof.Rows.boot_int (pa_cons (pcall F_mix hr (pa_cons (pe_ix (x_ix K) (fv 0) pe_int (fun _ _ => rfl)) (pa_cons (pe_ix (x_ix K) (fv 0) pe_int (fun _ _ => rfl)) pa_nil))) pa_nil)) (fv 1))))))))), ?_⟩)
  · obtain ⟨st, cl, m, rfl, _⟩ := h
    rfl
  · obtain ⟨st, cl, m, rfl, hS, hm, q⟩ := h
    have hm0 : ¬ m < 2 → 0 < m := fun e => by omega
    have wm : ¬ m < 2 → ∀ i : Int, CDivW i m := fun e i => wide_div (b := 20) (by omega) (by omega) (by decide) (by decide)
    have fin : ¬ m < 2 → ∀ x : Int, 0 ≤ x % m ∧ (x % m < m ∨ x % m = 0 ∧ m < 2) := fun e x => ⟨Int.emod_nonneg x (by omega), .inl (Int.emod_lt_of_pos x (by omega))⟩
    -- if many < 2
    refine iteD (fun e => q _ _ (by decide) (.inr ⟨rfl, e⟩) (.refl hS)) (fun e => ?_)
    refine nxt (seqP (fun σ1 H1 => ∃ c, σ1 = [some (.ref st), some (.int m), c, none] ∧ Go st cl H H1) ?_ ?_)
    · rintro σ1 H1 ⟨c, rfl, g⟩
      obtain ⟨n, cs, p, r, t, sd, h1, h2, h3, h4⟩ := g.2
      refine ⟨_, _, .inl (SqL.of h1), rfl, iteD (fun e2 => ?_) (fun e2 => ?_)⟩
      · refine ⟨_, _, .inl (SqL.of h1), rfl, wm e _, st, _, 2, 2, rfl, rfl, h1, rfl, hm0 e, ?_⟩
        exact q _ _ (fin e r).1 (fin e r).2 (g.put h2 h3 (Int.ediv_nonneg h4 (by omega)))
      · refine nxt ⟨_, _, .inl (SqL.of h1), rfl, st, _, 3, 3, rfl, rfl, h1, rfl, _, _, .inl (SqL.of upd_same), rfl, _, _, .inl (SqL.of upd_same), rfl, _, _, rfl, fun x _ _ => ⟨hm0 e, ?_⟩⟩
        exact q _ _ (fin e x).1 (fin e x).2 (g.put h2 h3 h4)
    · intro rest
      obtain ⟨n, cs, p, r, t, sd, h1, h2, h3, h4⟩ := id hS
      refine ⟨_, _, .inl (SqL.of h1), rfl, rfl, iteD (fun e3 => ?_) (fun e3 => iteF (nxt (rest _ _ ⟨_, rfl, .refl hS⟩)))⟩
      refine ⟨_, _, .inl (SqL.of h1), rfl, _, _, .inl (SqL.of h1), rfl, _, .inl (SqL.of h2), iteD (fun e4 => ?_) (fun e4 => nxt (rest _ _ ⟨_, rfl, .refl hS⟩))⟩
      rw [List.length_map] at e4
      obtain ⟨c, hc, _⟩ := at_map (f := V.int) h3 e4
      refine ⟨_, _, .inl (SqL.of h1), rfl, _, _, .inl (SqL.of h1), rfl, _, _, .inl (SqL.of h2), hc, ?_⟩
      refine ⟨_, _, .inl (SqL.of h1), rfl, st, _, 1, 1, rfl, rfl, h1, rfl, ?_⟩
      have g1 : Go st cl H (upd H st (.lst [.ref cl, .int (p + 1), .int r, .int t, .int sd])) := (Go.refl hS).put h2 (by omega) h4
      have h2' : upd H st (.lst [.ref cl, .int (p + 1), .int r, .int t, .int sd]) cl = some (.lst (cs.map V.int)) := by
        rw [upd_ne n.symm]
        exact h2
      refine ⟨⟨by decide, by decide, by decide⟩, iteD (fun e5 => ?_) (fun e5 => ?_)⟩
      · refine ⟨_, _, .inl (SqL.of upd_same), rfl, st, _, 3, 3, rfl, rfl, upd_same, rfl, _, _, .inl (SqL.of upd_same), rfl, _, _, rfl, fun x _ _ => ⟨hm0 e, ?_⟩⟩
        exact q _ _ (fin e x).1 (fin e x).2 (g1.put h2' (by omega) h4)
      · refine nxt ⟨st, _, 2, 2, rfl, rfl, upd_same, rfl, rest _ _ ⟨_, rfl, g1.put h2' (by omega) ?_⟩⟩
        have e6 : ¬ c < 10 ^ 18 := e5
        omega

/-! _law_store -/
def sp_store (K : PySem.W.Frag) : Sp := fun vs H Q _ => ∃ (a : Addr) (ns : List Int), vs = [.ref a] ∧ SqL K H a (ns.map V.int) ∧ ns.length ≤ 1000 ∧ ∀ st cl H', H st = none → Same H H' → Sto H' st cl → Q (.ref st) H'
theorem ok_store {f : Addr} {fd : FuncData} (F : FnP K "_law_store" s_store f fd) (B : Bf mg) (F_mix : Fn P w K mg base "_law_mix" ["_law_number_here", "_law_turn"] 1 sp_mix) : FnOk P w K mg base CX0 2 f fd ["_law_script"] (sp_store K) := by
  refine F.ok sc_store (fun vs H Q E h => ?_) (fun cdv A outer s H vs Q E hr h => ⟨_, PSs.nox ((pss_cons (ps_setLc (i := 1) (own := [("_law_cell", 2)]) (g := gName 2) rfl sc_store.nd rfl rfl (sw_true rfl rfl rfl (by decide +kernel)) (p_seq K (fv 0)) (blkOk_by (own := [("_law_cell", 2)]) (N := ["_law_script", "_law_cells", "_law_cell", "_law_seed"]) (sc := defScope s_store) (by decide +kernel)) (fun _ _ _ _ _ => pg_name (i := 2) sc_store.nd rfl (Or.inl rfl)) (fun _ _ _ _ _ => pts_nil) (fun _ _ _ _ _ => (pe_callTy c_int (by rfl) B.int PyProof.Rows.boot_int (pa_cons (fv 2) pa_nil)))) (pss_cons (ps_set (i := 3) sc_store.nd rfl (by first | exact Or.inl rfl | exact Or.inr rfl) (pe_callB (c_len K) (by rfl) B.len PySem.boot_len (pa_cons (fv 1) pa_nil))) (pss_cons (ps_for PassesOwn.never rfl (p_seq K (fv 1)) (pg_name (i := 2) sc_store.nd rfl (by first | exact Or.inl rfl | exact Or.inr rfl)) (pss_one (ps_set (i := 3) sc_store.nd rfl (by first | exact Or.inl rfl | exact Or.inr rfl) (pcall F_mix hr (pa_cons (fv 2) (pa_cons (fv 3) pa_nil)))))) (pss_one (ps_ret (pe_lst (pa_cons (fv 1) (pa_cons pe_int (pa_cons pe_int (pa_cons pe_int (pa_cons (fv 3) pa_nil)))))))))))), ?_⟩)
  · obtain ⟨a, ns, rfl, _⟩ := h
    rfl
  · obtain ⟨a, ns, rfl, hS, hn, q⟩ := h
    refine .inl ⟨⟨_, hS⟩, fun D hD => lc_list (xs := ns.map V.int) (fun i H' => H' = upd H D (.lst ((ns.take i).map V.int))) rfl (fun i H' _ e => ?_) (fun i x H' hx e => ?_) (fun H' e => ?_)⟩
    · subst e
      exact (same_upd hD).seq hS
    · subst e
      rw [List.getElem?_map] at hx
      obtain ⟨k, hk, rfl⟩ := Option.map_eq_some_iff.mp hx
      refine ⟨rfl, _, upd_same, ?_, ?_⟩
      · rw [List.length_map, List.length_take]
        exact small1000 (by omega)
      · rw [upd_upd, List.take_add_one, hk, List.map_append]
        rfl
    · rw [List.length_map, List.take_length] at e
      subst e
      refine ⟨_, .inl (SqL.of upd_same), .inl ⟨⟨_, SqL.of upd_same⟩, for_list (xs := ns.map V.int) (fun i σ H' => H' = upd H D (.lst (ns.map V.int)) ∧ ∃ y sd, σ = [some (.ref a), some (.ref D), y, some (.int sd)]) ⟨rfl, _, _, rfl⟩ (fun i σ H' _ e => ?_) (fun i x σ H' hx e => ?_) (fun σ H' e => ?_)⟩⟩
      · obtain ⟨rfl, _⟩ := e
        exact SqL.of upd_same
      · obtain ⟨rfl, y, sd, rfl⟩ := e
        rw [List.getElem?_map] at hx
        obtain ⟨k, hk, rfl⟩ := Option.map_eq_some_iff.mp hx
        exact ⟨_, _, rfl, fun r _ _ => ⟨rfl, _, _, rfl⟩⟩
      · obtain ⟨rfl, y, sd, rfl⟩ := e
        refine ⟨by show 5 ≤ sizeLine; decide, fun st hst => q st D _ ?_ ?_ ?_⟩
        · exact (same_upd hD).free hst
        · exact (same_upd hD).trans (same_upd hst)
        · have n : st ≠ D := fun e => by
            rw [e, upd_same] at hst
            cases hst
          refine ⟨n, ns, 0, 0, 0, sd, upd_same, ?_, by decide, by decide⟩
          rw [upd_ne n.symm, upd_same]
/-! _law_count, _law_one -/
def sp_count : Sp := fun vs H Q _ => ∃ (st cl : Addr) (a b c : Int), vs = [.ref st, .int a, .int b, .int c] ∧ Sto H st cl ∧ a ≤ b ∧ b ≤ c ∧ c - a < 1000000 ∧ ∀ (r : Int) H', a ≤ r → r ≤ c → Go st cl H H' → Q (.int r) H'
theorem ok_count {f : Addr} {fd : FuncData} (F : FnP K "_law_count" s_count f fd) (B : Bf mg) (F_take : Fn P w K mg base "_law_take" ["_law_store_here", "_law_many"] 2 sp_take) : FnOk P w K mg base CX0 3 f fd ["_law_store_here", "_law_least", "_law_usual", "_law_most"] sp_count := by
  refine F.ok sc_count (fun vs H Q E h => ?_) (fun cdv A outer s H vs Q E hr h => ⟨_, PSs.nox ((pss_cons (ps_set (i := 4) sc_count.nd rfl (by first | exact Or.inl rfl | exact Or.inr rfl) (pcall F_take hr (pa_cons (fv 0) (pa_cons pe_int pa_nil)))) (pss_cons (ps_if (q_cmp op_eq (fv 4) pe_int) (pss_one (ps_ret (fv 3))) pss_nil) (pss_cons (ps_if (q_cmp op_eq (fv 4) pe_int) (pss_one (ps_ret (pe_op (o_add K) (fv 1) (pcall F_take hr (pa_cons (fv 0) (pa_cons (pe_op (o_add K) (pe_op o_sub (fv 3) (fv 1)) pe_int) pa_nil)))))) pss_nil) (pss_cons (ps_if (q_cmp o_gt (fv 4) pe_int) (pss_one (ps_ret (fv 1))) pss_nil) (pss_one (ps_ret (pe_op (o_add K) (fv 1) (pcall F_take hr (pa_cons (fv 0) (pa_cons (pe_op (o_add K) (pe_op o_sub (fv 2) (fv 1)) pe_int) pa_nil))))))))))), ?_⟩)
  · obtain ⟨st, cl, a, b, c, rfl, _⟩ := h
    rfl
  · obtain ⟨st, cl, a, b, c, rfl, hS, h1, h2, h3, q⟩ := h
    refine ⟨st, cl, _, rfl, hS, by decide, fun r H1 r0 r1 g => ?_⟩
    refine ⟨rfl, iteD (fun e => q _ _ (by omega) (by omega) g) (fun e => nxt ⟨rfl, iteD (fun e => ?_) (fun e => nxt (iteD (fun e => q _ _ (by omega) (by omega) g) (fun e => nxt ?_)))⟩)⟩
    · exact ⟨st, cl, _, rfl, g.2, by omega, fun r H2 r0 r1 g2 => q _ _ (by omega) (by omega) (g.trans g2)⟩
    · exact ⟨st, cl, _, rfl, g.2, by omega, fun r H2 r0 r1 g2 => q _ _ (by omega) (by omega) (g.trans g2)⟩
/-- of a list or a tuple that is not empty -/
def sp_one (K : PySem.W.Frag) : Sp := fun vs H Q _ => ∃ (st cl a : Addr) (xs : List V), vs = [.ref st, .ref a] ∧ Sto H st cl ∧ a ≠ st ∧ (SqL K H a xs ∨ SqT K H a xs) ∧ xs ≠ [] ∧ xs.length ≤ 1000000 ∧ ∀ v ∈ xs, ∀ H', Go st cl H H' → Q v H'
theorem ok_one {f : Addr} {fd : FuncData} (F : FnP K "_law_one" s_one f fd) (B : Bf mg) (F_take : Fn P w K mg base "_law_take" ["_law_store_here", "_law_many"] 2 sp_take) : FnOk P w K mg base CX0 3 f fd ["_law_store_here", "_law_row"] (sp_one K) := by
  refine F.ok sc_one (fun vs H Q E h => ?_) (fun cdv A outer s H vs Q E hr h => ⟨_, PSs.nox ((pss_cons (ps_if (q_cmp op_eq (pe_callB (c_len K) (by rfl) B.len PySem.boot_len (pa_cons (fv 1) pa_nil)) pe_int) (pss_one (ps_ret pe_non)) pss_nil) (pss_one (ps_ret (pe_ix (x_ix K) (fv 1) (pcall F_take hr (pa_cons (fv 0) (pa_cons (pe_callB (c_len K) (by rfl) B.len PySem.boot_len (pa_cons (fv 1) pa_nil)) pa_nil))) (fun _ _ => rfl)))))), ?_⟩)
  · obtain ⟨st, cl, a, xs, rfl, _⟩ := h
    rfl
  · obtain ⟨st, cl, a, xs, rfl, hS, hn, hx, h0, hl, q⟩ := h
    have hp : 0 < xs.length := List.length_pos_iff.mpr h0
    refine ⟨_, hx, rfl, iteD (fun e => absurd (V.int.inj e) (by omega)) (fun e => nxt ?_)⟩
    refine ⟨_, hx, st, cl, _, rfl, hS, by omega, fun r H1 r0 r1 g => ?_⟩
    obtain ⟨v, hv, hm⟩ := at_of (xs := xs) r0 (by omega)
    exact ⟨_, v, hx.imp (g.seq hS hn) (g.tup hS), hv, q v hm H1 g⟩

/-! _law_number -/
def sp_number : Sp := fun vs H Q _ => ∃ (st cl : Addr), vs = [.ref st] ∧ Sto H st cl ∧ ∀ (r : Int) H', numB r = true → Go st cl H H' → Q (.int r) H'
theorem ok_number {f : Addr} {fd : FuncData} (F : FnP K "_law_number" s_number f fd) (B : Bf mg) (F_take : Fn P w K mg base "_law_take" ["_law_store_here", "_law_many"] 2 sp_take) : FnOk P w K mg base CX0 3 f fd ["_law_store_here"] sp_number := by
  refine F.ok sc_number (fun vs H Q E h => ?_) (fun cdv A outer s H vs Q E hr h => ⟨_, PSs.nox ((pss_cons (ps_set (i := 1) sc_number.nd rfl (by first | exact Or.inl rfl | exact Or.inr rfl) (pcall F_take hr (pa_cons (fv 0) (pa_cons pe_int pa_nil)))) (pss_cons (ps_if (q_cmp o_lt (fv 1) pe_int) (pss_one (ps_ret (pe_op o_sub (pcall F_take hr (pa_cons (fv 0) (pa_cons pe_int pa_nil))) pe_int))) pss_nil) (pss_cons (ps_if (q_cmp op_eq (fv 1) pe_int) (pss_one (ps_ret (pe_op o_sub (pcall F_take hr (pa_cons (fv 0) (pa_cons pe_int pa_nil))) pe_int))) pss_nil) (pss_cons (ps_if (q_cmp op_eq (fv 1) pe_int) (pss_one (ps_ret (pe_ix (x_ix K) (pe_lst (pa_cons pe_int (pa_cons pe_int (pa_cons (pe_un o_neg pe_int) (pa_cons pe_int (pa_cons pe_int (pa_cons (pe_op o_sub pe_int (pe_op o_pow pe_int pe_int)) (pa_cons (pe_op o_sub (pe_op o_pow pe_int pe_int) pe_int) (pa_cons (pe_op o_pow pe_int pe_int) (pa_cons (pe_un o_neg pe_int) (pa_cons pe_int pa_nil))))))))))) (pcall F_take hr (pa_cons (fv 0) (pa_cons pe_int pa_nil))) (fun _ _ => rfl)))) pss_nil) (pss_cons (ps_set (i := 2) sc_number.nd rfl (by first | exact Or.inl rfl | exact Or.inr rfl) pe_int) (pss_cons (ps_for PassesOwn.never rfl (pi_range1 (by rfl) B.range (pa_cons (pe_op (o_add K) pe_int (pcall F_take hr (pa_cons (fv 0) (pa_cons pe_int pa_nil)))) pa_nil)) (pg_name (i := 3) sc_number.nd rfl (by first | exact Or.inl rfl | exact Or.inr rfl)) (pss_one (ps_set (i := 2) sc_number.nd rfl (by first | exact Or.inl rfl | exact Or.inr rfl) (pe_op (o_add K) (pe_op o_mul (fv 2) pe_int) (pcall F_take hr (pa_cons (fv 0) (pa_cons pe_int pa_nil))))))) (pss_cons (ps_if (q_cmp op_eq (fv 1) pe_int) (pss_one (ps_ret (fv 2))) pss_nil) (pss_one (ps_ret (pe_un o_neg (fv 2)))))))))))), ?_⟩)
  · obtain ⟨st, cl, rfl, _⟩ := h
    rfl
  · obtain ⟨st, cl, rfl, hS, q⟩ := h
    refine ⟨st, cl, _, rfl, hS, by decide, fun k H1 k0 k1 g => ?_⟩
    refine iteD (fun e => ⟨st, cl, _, rfl, g.2, by decide, fun r H2 r0 r1 g2 => q _ _ (numB_iff.mpr (by omega)) (g.trans g2)⟩) (fun e => nxt ⟨rfl, iteD (fun e => ⟨st, cl, _, rfl, g.2, by decide, fun r H2 r0 r1 g2 => q _ _ (numB_iff.mpr (by omega)) (g.trans g2)⟩) (fun e => nxt ⟨rfl, iteD (fun e => ?_) (fun e => nxt ?_)⟩)⟩)
    · refine ⟨⟨by decide, by decide, by decide⟩, ⟨by decide, by decide, by decide⟩, ⟨by decide, by decide, by decide⟩, by show 10 ≤ sizeLine; decide, fun p hp => ?_⟩
      have hp0 : H p = none := g.free hS hp
      refine ⟨st, cl, _, rfl, (g.lay hS hp0).2, by decide, fun r H2 r0 r1 g2 => ?_⟩
      have hx := g2.lst (hS.ne_none hp0) upd_same
      obtain ⟨v, hv, hm⟩ := at_of (xs := [V.int 0, .int 9, .int (-10), .int 10, .int 255, .int (1 - 10 ^ 30), .int (10 ^ 30 - 1), .int (10 ^ 18), .int (-1), .int 99]) (i := r) r0 (by show r < 10; omega)
      refine ⟨_, v, .inl (SqL.of hx), hv, ?_⟩
      have hf := all_mem (p := fun v => match v with | .int i => numB i | _ => false) (by decide +kernel) hm
      cases v with
      | int i => exact q _ _ hf ((g.lay hS hp0).trans g2)
      | _ => cases hf
    · refine ⟨st, cl, _, rfl, g.2, by decide, fun r H2 r0 r1 g2 => ⟨_, rfl, by omega, by omega, for_range (n := (1 + r).toNat) (fun i σ H' => ∃ y L, σ = [some (.ref st), some (.int k), some (.int L), y] ∧ Go st cl H H' ∧ 0 ≤ L ∧ L < 1000000 ^ i) ⟨_, _, rfl, g.trans g2, by decide, by decide⟩ (fun i σ H' hi h => ?_) (fun σ H' h => ?_)⟩⟩
      · obtain ⟨y, L, rfl, g3, l0, l1⟩ := h
        refine ⟨.inr ⟨by decide, by decide⟩, st, cl, _, rfl, g3.2, by decide, fun r2 H3 r20 r21 g4 => ⟨_, _, rfl, g3.trans g4, by omega, ?_⟩⟩
        rw [Int.pow_succ]
        omega
      · obtain ⟨y, L, rfl, g3, l0, l1⟩ := h
        have hL : L < 1000000000000000000000000000000 := by
          have hn : (1 + r).toNat = 1 ∨ (1 + r).toNat = 2 ∨ (1 + r).toNat = 3 ∨ (1 + r).toNat = 4 ∨ (1 + r).toNat = 5 := by omega
          rcases hn with e | e | e | e | e <;> (rw [e] at l1; omega)
        refine ⟨rfl, iteD (fun e => q _ _ (numB_iff.mpr (by omega)) g3) (fun e => nxt (q _ _ (numB_iff.mpr (by omega)) g3))⟩
/-! _law_text -/
def sp_text : Sp := fun vs H Q _ => ∃ (st cl : Addr) (m : Int), vs = [.ref st, .int m] ∧ Sto H st cl ∧ 0 ≤ m ∧ m ≤ 40 ∧ ∀ (z : Str) H', txtB m.toNat z = true → Go st cl H H' → Q (.str z) H'
theorem ok_text {f : Addr} {fd : FuncData} (F : FnP K "_law_text" s_text f fd) (B : Bf mg) (F_take : Fn P w K mg base "_law_take" ["_law_store_here", "_law_many"] 2 sp_take) (F_count : Fn P w K mg base "_law_count" ["_law_store_here", "_law_least", "_law_usual", "_law_most"] 3 sp_count) : FnOk P w K mg base CX0 4 f fd ["_law_store_here", "_law_most"] sp_text := by
  refine F.ok sc_text (fun vs H Q E h => ?_) (fun cdv A outer s H vs Q E hr h => ⟨_, PSs.nox ((pss_cons (ps_set (i := 2) sc_text.nd rfl (by first | exact Or.inl rfl | exact Or.inr rfl) pe_str) (pss_cons (ps_set (i := 3) sc_text.nd rfl (by first | exact Or.inl rfl | exact Or.inr rfl) (pcall F_take hr (pa_cons (fv 0) (pa_cons pe_int pa_nil)))) (pss_cons (ps_if (q_cmp o_lt (fv 3) pe_int) (pss_one (ps_ret (pe_slice (x_sl K) (pe_ix (x_ix K) (pe_lst (pa_cons pe_str (pa_cons pe_str (pa_cons pe_str (pa_cons pe_str (pa_cons pe_str (pa_cons pe_str pa_nil))))))) (pcall F_take hr (pa_cons (fv 0) (pa_cons pe_int pa_nil))) (fun _ _ => rfl)) po_none (po_some (fv 1))))) pss_nil) (pss_cons (ps_if (q_cmp op_eq (fv 3) pe_int) (pss_cons (ps_set (i := 4) sc_text.nd rfl (by first | exact Or.inl rfl | exact Or.inr rfl) (pe_ix (x_ix K) (pe_lst (pa_cons pe_str (pa_cons pe_str (pa_cons pe_str (pa_cons pe_str (pa_cons pe_str (pa_cons pe_str (pa_cons pe_str (pa_cons pe_str (pa_cons pe_str (pa_cons pe_str (pa_cons pe_str (pa_cons pe_str pa_nil))))))))))))) (pcall F_take hr (pa_cons (fv 0) (pa_cons pe_int pa_nil))) (fun _ _ => rfl))) (pss_one (ps_ret (pe_slice (x_sl K) (fv 4) po_none (po_some (fv 1)))))) pss_nil) (pss_cons (ps_set (i := 5) sc_text.nd rfl (by first | exact Or.inl rfl | exact Or.inr rfl) (pcall F_count hr (pa_cons (fv 0) (pa_cons pe_int (pa_cons (pe_callB c_min (by rfl) B.min PyProof.Rows.boot_min (pa_cons pe_int (pa_cons (fv 1) pa_nil))) (pa_cons (fv 1) pa_nil)))))) (pss_one (ps_ret (pe_join pe_str (pe_lc (own := [("_law_k", 6)]) (g := gName 6) rfl sc_text.nd (pi_range1 (by rfl) B.range (pa_cons (fv 5) pa_nil)) (blkOk_by (own := [("_law_k", 6)]) (N := ["_law_store_here", "_law_most", "_law_signs", "_law_kind", "_law_word", "_law_long", "_law_k"]) (sc := defScope s_text) (by decide +kernel)) (fun _ _ _ _ _ => pg_name (i := 6) sc_text.nd rfl (Or.inl rfl)) (fun _ _ _ _ _ => pts_nil) (fun _ _ _ _ _ => (pe_ix (x_ix K) (fv 2) (pcall F_take hr (pa_cons (fv 0) (pa_cons pe_int pa_nil))) (fun _ _ => rfl))))))))))))), ?_⟩)
  · obtain ⟨st, cl, m, rfl, _⟩ := h
    rfl
  · obtain ⟨st, cl, m, rfl, hS, m0, m1, q⟩ := h
    refine ⟨st, cl, _, rfl, hS, by decide, fun k H1 k0 k1 g => ?_⟩
    refine iteD (fun e => ?_) (fun e => nxt ⟨rfl, iteD (fun e => ?_) (fun e => nxt ?_)⟩)
    · refine ⟨by show 6 ≤ sizeLine; decide, fun p hp => ?_⟩
      have hp0 : H p = none := g.free hS hp
      refine ⟨st, cl, _, rfl, (g.lay hS hp0).2, by decide, fun r H2 r0 r1 g2 => ?_⟩
      have hx := g2.lst (hS.ne_none hp0) upd_same
      obtain ⟨v, hv, hm⟩ := at_of (xs := [V.str "a", .str "b", .str "", .str "ab", .str "A", .str "z"]) (i := r) r0 (by show r < 6; omega)
      refine ⟨_, v, .inl (SqL.of hx), hv, ?_⟩
      have hf := all_mem (p := fun v => match v with | .str z => txtB 40 z | _ => false) (by decide +kernel) hm
      cases v with
      | str z => exact ⟨_, rfl, txt_line hf (by decide), q _ _ (txt_to m0 hf) ((g.lay hS hp0).trans g2)⟩
      | _ => cases hf
    · refine ⟨by show 12 ≤ sizeLine; decide, fun p hp => ?_⟩
      have hp0 : H p = none := g.free hS hp
      refine ⟨st, cl, _, rfl, (g.lay hS hp0).2, by decide, fun r H2 r0 r1 g2 => ?_⟩
      have hx := g2.lst (hS.ne_none hp0) upd_same
      obtain ⟨v, hv, hm⟩ := at_of (xs := [V.str "\"", .str "none", .str "\\", .str "1", .str "\\\"", .str "true", .str " ", .str "a b", .str "-0", .str "~", .str "from", .str "a.b"]) (i := r) r0 (by show r < 12; omega)
      refine ⟨_, v, .inl (SqL.of hx), hv, ?_⟩
      have hf := all_mem (p := fun v => match v with | .str z => txtB 40 z | _ => false) (by decide +kernel) hm
      cases v with
      | str z => exact ⟨_, rfl, txt_line hf (by decide), q _ _ (txt_to m0 hf) ((g.lay hS hp0).trans g2)⟩
      | _ => cases hf
    · refine ⟨st, cl, _, _, _, rfl, g.2, by split <;> omega, by split <;> omega, by omega, fun n H2 n0 n1 g2 => ?_⟩
      refine ⟨⟨_, rfl⟩, _, rfl, by omega, by omega, fun D hD => ?_⟩
      have gg := g.trans g2
      have hD0 : H D = none := gg.free hS hD
      refine lc_range (n := n.toNat) (fun i H' => ∃ cs : List Nat, cs.length = i ∧ (∀ c ∈ cs, signB c = true) ∧ H' D = some (.lst (cs.map fun c => V.str ⟨#[c]⟩)) ∧ Go st cl H H') ⟨[], rfl, fun _ h => (nomatch h), upd_same, gg.lay hS hD0⟩ (fun i H' hi h => ?_) (fun H' h => ?_)
      · obtain ⟨cs, hl, hc, hd, g3⟩ := h
        refine ⟨rfl, st, cl, _, rfl, g3.2, by decide, fun r H3 r0 r1 g4 => ?_⟩
        obtain ⟨c, ha, hm⟩ := at_of (xs := (Str.ofString " !\"#$&'()*+,-./0123456789:;<=>?@ABCDEFGHIJKLMNOPQRSTUVWXYZ[\\]^_`abcdefghijklmnopqrstuvwxyz{|}~").cps.toList) (i := r) r0 (by
          have e : (Str.ofString " !\"#$&'()*+,-./0123456789:;<=>?@ABCDEFGHIJKLMNOPQRSTUVWXYZ[\\]^_`abcdefghijklmnopqrstuvwxyz{|}~").cps.toList.length = 94 := by decide +kernel
          rw [e]
          omega)
        have hs : signB c = true := List.all_eq_true.mp (show (Str.ofString " !\"#$&'()*+,-./0123456789:;<=>?@ABCDEFGHIJKLMNOPQRSTUVWXYZ[\\]^_`abcdefghijklmnopqrstuvwxyz{|}~").cps.toList.all signB = true by decide +kernel) c hm
        refine ⟨by decide +kernel, c, ha, _, g4.lst (hS.ne_none hD0) hd, ?_, cs ++ [c], ?_, ?_, ?_, (g3.trans g4).lay hS hD0⟩
        · rw [List.length_map]
          exact small1000 (by omega)
        · rw [List.length_append, hl]
          rfl
        · intro d hd
          rcases List.mem_append.mp hd with h | h
          · exact hc d h
          · rw [List.mem_singleton.mp h]
            exact hs
        · rw [upd_same, List.map_append]
          rfl
      · obtain ⟨cs, hl, hc, hd, g3⟩ := h
        refine ⟨_, D, cs.map fun c => ⟨#[c]⟩, rfl, rfl, .inl (SqL.of ?_), ?_, ?_⟩
        · rw [List.map_map]
          exact hd
        · have e : ∀ l : List Nat, ((l.map fun c => (⟨#[c]⟩ : Str)).map (·.length)).sum = l.length := by
            intro l
            induction l with
            | nil => rfl
            | cons c r ih =>
              rw [List.map_cons, List.map_cons, List.sum_cons, ih, List.length_cons]
              show 1 + r.length = r.length + 1
              omega
          have e0 : (Str.ofString "").length = 0 := by decide +kernel
          rw [e, e0]
          omega
        · rw [join_signs]
          exact q _ _ (txt_of (by omega) hc) g3
/-! _law_value -/
def sp_value : Sp := fun vs H Q _ => ∃ (st cl : Addr), vs = [.ref st] ∧ Sto H st cl ∧ ∀ (v : V) H', FlatV v → Go st cl H H' → Q v H'
theorem ok_value {f : Addr} {fd : FuncData} (F : FnP K "_law_value" s_value f fd) (B : Bf mg) (F_take : Fn P w K mg base "_law_take" ["_law_store_here", "_law_many"] 2 sp_take) (F_number : Fn P w K mg base "_law_number" ["_law_store_here"] 3 sp_number) (F_text : Fn P w K mg base "_law_text" ["_law_store_here", "_law_most"] 4 sp_text) : FnOk P w K mg base CX0 5 f fd ["_law_store_here"] sp_value := by
  refine F.ok sc_value (fun vs H Q E h => ?_) (fun cdv A outer s H vs Q E hr h => ⟨_, PSs.nox ((pss_cons (ps_set (i := 1) sc_value.nd rfl (by first | exact Or.inl rfl | exact Or.inr rfl) (pcall F_take hr (pa_cons (fv 0) (pa_cons pe_int pa_nil)))) (pss_cons (ps_if (q_cmp o_lt (fv 1) pe_int) (pss_one (ps_ret (pcall F_take hr (pa_cons (fv 0) (pa_cons pe_int pa_nil))))) pss_nil) (pss_cons (ps_if (q_cmp op_eq (fv 1) pe_int) (pss_one (ps_ret (pe_ix (x_ix K) (pe_lst (pa_cons pe_non (pa_cons pe_bl (pa_cons pe_bl pa_nil)))) (pcall F_take hr (pa_cons (fv 0) (pa_cons pe_int pa_nil))) (fun _ _ => rfl)))) pss_nil) (pss_cons (ps_if (q_cmp op_eq (fv 1) pe_int) (pss_one (ps_ret (pe_ix (x_ix K) (pe_lst (pa_cons pe_int (pa_cons pe_bl (pa_cons pe_str (pa_cons pe_non (pa_cons pe_int (pa_cons pe_bl (pa_cons pe_str (pa_cons (pe_un o_neg pe_int) (pa_cons pe_str (pa_cons pe_str pa_nil))))))))))) (pcall F_take hr (pa_cons (fv 0) (pa_cons pe_int pa_nil))) (fun _ _ => rfl)))) pss_nil) (pss_cons (ps_if (q_cmp o_lt (fv 1) pe_int) (pss_one (ps_ret (pcall F_number hr (pa_cons (fv 0) pa_nil)))) pss_nil) (pss_one (ps_ret (pcall F_text hr (pa_cons (fv 0) (pa_cons pe_int pa_nil))))))))))), ?_⟩)
  · obtain ⟨st, cl, rfl, _⟩ := h
    rfl
  · obtain ⟨st, cl, rfl, hS, q⟩ := h
    refine ⟨st, cl, _, rfl, hS, by decide, fun k H1 k0 k1 g => ?_⟩
    refine iteD (fun e => ⟨st, cl, _, rfl, g.2, by decide, fun r H2 r0 r1 g2 => q _ _ (numB_iff.mpr (by omega)) (g.trans g2)⟩) (fun e => nxt ⟨rfl, iteD (fun e => ?_) (fun e => nxt ⟨rfl, iteD (fun e => ?_) (fun e => nxt (iteD (fun e => ?_) (fun e => nxt ?_)))⟩)⟩)
    · refine ⟨by show 3 ≤ sizeLine; decide, fun p hp => ?_⟩
      have hp0 : H p = none := g.free hS hp
      refine ⟨st, cl, _, rfl, (g.lay hS hp0).2, by decide, fun r H2 r0 r1 g2 => ?_⟩
      have hx := g2.lst (hS.ne_none hp0) upd_same
      obtain ⟨v, hv, hm⟩ := at_of (xs := [V.non, .bl true, .bl false]) (i := r) r0 (by show r < 3; omega)
      exact ⟨_, v, .inl (SqL.of hx), hv, q _ _ (all_mem (by decide +kernel) hm) ((g.lay hS hp0).trans g2)⟩
    · refine ⟨by show 10 ≤ sizeLine; decide, fun p hp => ?_⟩
      have hp0 : H p = none := g.free hS hp
      refine ⟨st, cl, _, rfl, (g.lay hS hp0).2, by decide, fun r H2 r0 r1 g2 => ?_⟩
      have hx := g2.lst (hS.ne_none hp0) upd_same
      obtain ⟨v, hv, hm⟩ := at_of (xs := [V.int 0, .bl false, .str "", .non, .int 1, .bl true, .str "1", .int (-1), .str "none", .str "0"]) (i := r) r0 (by show r < 10; omega)
      exact ⟨_, v, .inl (SqL.of hx), hv, q _ _ (all_mem (by decide +kernel) hm) ((g.lay hS hp0).trans g2)⟩
    · exact ⟨st, cl, rfl, g.2, fun r H2 hr g2 => q _ _ hr (g.trans g2)⟩
    · exact ⟨st, cl, _, rfl, g.2, by decide, by decide, fun z H2 hz g2 => q _ _ hz (g.trans g2)⟩

/-! ### the program -/
def kindS : V → Str
  | .bl _ => "truth"
  | .int _ => "number"
  | .str _ => "text"
  | _ => "none"
def sp_kind_ofP : Sp := fun vs H Q _ => ∃ v, vs = [v] ∧ FlatV v ∧ Q (.str (kindS v)) H
theorem ok_kind_ofP {f : Addr} {fd : FuncData} (F : FnP K "kind_of" s_kind_ofP f fd) (B : Bf mg) : FnOk P w K mg base CX0 1 f fd ["value"] sp_kind_ofP := by
  refine F.ok sc_kind_ofP (fun vs H Q E h => ?_) (fun cdv A outer s H vs Q E hr h => ⟨_, PSs.nox ((pss_cons (ps_if (q_cmp op_isN (fv 0) pe_non) (pss_one (ps_ret pe_str)) pss_nil) (pss_cons (ps_if (q_tru K (p_isi K kBool kBool_ok B.isinstance B.bool PyProof.Rows.boot_bool (fv 0))) (pss_one (ps_ret pe_str)) pss_nil) (pss_cons (ps_if (q_tru K (p_isi K kInt kInt_ok B.isinstance B.int PyProof.Rows.boot_int (fv 0))) (pss_one (ps_ret pe_str)) pss_nil) (pss_one (ps_ret pe_str)))))), ?_⟩)
  · obtain ⟨v, rfl, _⟩ := h
    rfl
  · obtain ⟨v, rfl, hv, q⟩ := h
    cases v with
    | non => exact ⟨rfl, iteD (fun _ => q) (fun e => absurd rfl e)⟩
    | bl b => exact ⟨rfl, iteD (fun e => nomatch e) (fun _ => q)⟩
    | int i => exact ⟨rfl, iteD (fun e => nomatch e) (fun _ => q)⟩
    | str z => exact ⟨rfl, iteD (fun e => nomatch e) (fun _ => q)⟩
    | _ => cases hv
def sp_key (K : PySem.W.Frag) : Sp := fun vs H Q _ => ∃ v, vs = [v] ∧ FlatV v ∧ ∀ p H', Dp K H' p (keyD v) → Same H H' → Q p H'
theorem ok_sort_keyP {f : Addr} {fd : FuncData} (F : FnP K "sort_key" s_sort_keyP f fd) (B : Bf mg) (F_kind_ofP : Fn P w K mg base "kind_of" ["value"] 1 sp_kind_ofP) : FnOk P w K mg base CX0 2 f fd ["value"] (sp_key K) := by
  refine F.ok sc_sort_keyP (fun vs H Q E h => ?_) (fun cdv A outer s H vs Q E hr h => ⟨_, PSs.nox ((pss_cons (ps_set (i := 1) sc_sort_keyP.nd rfl (by first | exact Or.inl rfl | exact Or.inr rfl) (pcall F_kind_ofP hr (pa_cons (fv 0) pa_nil))) (pss_cons (ps_if (q_cmp op_eq (fv 1) pe_str) (pss_one (ps_ret (pe_tup (pa_cons pe_int (pa_cons pe_int pa_nil))))) pss_nil) (pss_cons (ps_if (q_cmp op_eq (fv 1) pe_str) (pss_one (ps_ret (pe_tup (pa_cons pe_int (pa_cons (pe_ifExp (q_tru K (fv 0)) pe_int pe_int) pa_nil))))) pss_nil) (pss_cons (ps_if (q_cmp op_eq (fv 1) pe_str) (pss_one (ps_ret (pe_tup (pa_cons pe_int (pa_cons (fv 0) pa_nil))))) pss_nil) (pss_one (ps_ret (pe_tup (pa_cons pe_int (pa_cons (fv 0) pa_nil)))))))))), ?_⟩)
  · obtain ⟨v, rfl, _⟩ := h
    rfl
  · obtain ⟨v, rfl, hv, q⟩ := h
    refine ⟨v, rfl, hv, ?_⟩
    have two : 2 ≤ sizeLine := by decide
    have n1 : ¬ V.str "truth" = V.str "none" := by decide +kernel
    have n2 : ¬ V.str "number" = V.str "none" := by decide +kernel
    have n3 : ¬ V.str "number" = V.str "truth" := by decide +kernel
    have n4 : ¬ V.str "text" = V.str "none" := by decide +kernel
    have n5 : ¬ V.str "text" = V.str "truth" := by decide +kernel
    have n6 : ¬ V.str "text" = V.str "number" := by decide +kernel
    cases v with
    | non => exact ⟨rfl, iteD (fun _ => ⟨two, fun p hp => q _ _ (.tup (SqT.of upd_same) (.cons (.int 0) (.cons (.int 0) .nil))) (same_upd hp)⟩) (fun e => absurd rfl e)⟩
    | bl b =>
      refine ⟨rfl, iteD (fun e => absurd e n1) (fun _ => nxt ⟨rfl, iteD (fun _ => ?_) (fun e => absurd rfl e)⟩)⟩
      cases b
      · exact ⟨two, fun p hp => q _ _ (.tup (SqT.of upd_same) (.cons (.int 1) (.cons (.int 0) .nil))) (same_upd hp)⟩
      · exact ⟨two, fun p hp => q _ _ (.tup (SqT.of upd_same) (.cons (.int 1) (.cons (.int 1) .nil))) (same_upd hp)⟩
    | int i => exact ⟨rfl, iteD (fun e => absurd e n2) (fun _ => nxt ⟨rfl, iteD (fun e => absurd e n3) (fun _ => nxt ⟨rfl, iteD (fun _ => ⟨two, fun p hp => q _ _ (.tup (SqT.of upd_same) (.cons (.int 2) (.cons (.int i) .nil))) (same_upd hp)⟩) (fun e => absurd rfl e)⟩)⟩)⟩
    | str z => exact ⟨rfl, iteD (fun e => absurd e n4) (fun _ => nxt ⟨rfl, iteD (fun e => absurd e n5) (fun _ => nxt ⟨rfl, iteD (fun e => absurd e n6) (fun _ => nxt ⟨two, fun p hp => q _ _ (.tup (SqT.of upd_same) (.cons (.int 3) (.cons (.str z) .nil))) (same_upd hp)⟩)⟩)⟩)⟩
    | _ => cases hv
def sp_cmpkeys (K : PySem.W.Frag) : Sp := fun vs H Q _ => ∃ x y d e lt gt, vs = [x, y] ∧ Dp K H x d ∧ Dp K H y e ∧ SeqAt.shaped d = true ∧ SeqAt.shaped e = true ∧ ltD false d e = some lt ∧ ltD false e d = some gt ∧ Q (.int (if lt = true then -1 else if gt = true then 1 else 0)) H
theorem ok_own_compared_keysP {f : Addr} {fd : FuncData} (F : FnP K "own_compared_keys" s_own_compared_keysP f fd) (B : Bf mg) : FnOk P w K mg base CX0 1 f fd ["left", "right"] (sp_cmpkeys K) := by
  refine F.ok sc_own_compared_keysP (fun vs H Q E h => ?_) (fun cdv A outer s H vs Q E hr h => ⟨_, PSs.nox ((pss_cons (ps_if (q_cmp (o_ltD K hr) (fv 0) (fv 1)) (pss_one (ps_ret (pe_un o_neg pe_int))) pss_nil) (pss_cons (ps_if (q_cmp (o_ltD K hr) (fv 1) (fv 0)) (pss_one (ps_ret pe_int)) pss_nil) (pss_one (ps_ret pe_int))))), ?_⟩)
  · obtain ⟨x, y, d, e, lt, gt, rfl, _⟩ := h
    rfl
  · obtain ⟨x, y, d, e, lt, gt, rfl, hd, he, sd, se, hl, hg, q⟩ := h
    refine ⟨d, e, lt, hd, he, sd, se, hl, ?_⟩
    cases lt with
    | true => exact q
    | false =>
      refine nxt ⟨e, d, gt, he, hd, se, sd, hg, ?_⟩
      cases gt with
      | true => exact q
      | false => exact q

/-! ### the law's own keys and order -/
theorem ok_sort_key {f : Addr} {fd : FuncData} (F : FnP K "_law_sort_key" s_sort_key f fd) (B : Bf mg) : FnOk P w K mg base CX0 1 f fd ["_law_value_here"] (sp_key K) := by
  refine F.ok sc_sort_key (fun vs H Q E h => ?_) (fun cdv A outer s H vs Q E hr h => ⟨_, PSs.nox ((pss_cons (ps_if (q_cmp op_isN (fv 0) pe_non) (pss_one (ps_ret (pe_tup (pa_cons pe_int (pa_cons pe_int pa_nil))))) pss_nil) (pss_cons (ps_if (q_tru K (p_isi K kBool kBool_ok B.isinstance B.bool PyProof.Rows.boot_bool (fv 0))) (pss_one (ps_ret (pe_tup (pa_cons pe_int (pa_cons (pe_callTy c_int (by rfl) B.int PyProof.Rows.boot_int (pa_cons (fv 0) pa_nil)) pa_nil))))) pss_nil) (pss_cons (ps_if (q_tru K (p_isi K kInt kInt_ok B.isinstance B.int PyProof.Rows.boot_int (fv 0))) (pss_one (ps_ret (pe_tup (pa_cons pe_int (pa_cons (fv 0) pa_nil))))) pss_nil) (pss_one (ps_ret (pe_tup (pa_cons pe_int (pa_cons (fv 0) pa_nil))))))))), ?_⟩)
  · obtain ⟨v, rfl, _⟩ := h
    rfl
  · obtain ⟨v, rfl, hv, q⟩ := h
    have two : 2 ≤ sizeLine := by decide
    cases v with
    | non => exact ⟨rfl, iteD (fun _ => ⟨two, fun p hp => q _ _ (.tup (SqT.of upd_same) (.cons (.int 0) (.cons (.int 0) .nil))) (same_upd hp)⟩) (fun e => absurd rfl e)⟩
    | bl b =>
      refine ⟨rfl, iteD (fun e => nomatch e) (fun _ => ⟨two, fun p hp => q _ _ (.tup (SqT.of upd_same) (.cons (.int 1) (.cons ?_ .nil))) (same_upd hp)⟩)⟩
      cases b
      · exact .int 0
      · exact .int 1
    | int i => exact ⟨rfl, iteD (fun e => nomatch e) (fun _ => ⟨two, fun p hp => q _ _ (.tup (SqT.of upd_same) (.cons (.int 2) (.cons (.int i) .nil))) (same_upd hp)⟩)⟩
    | str z => exact ⟨rfl, iteD (fun e => nomatch e) (fun _ => ⟨two, fun p hp => q _ _ (.tup (SqT.of upd_same) (.cons (.int 3) (.cons (.str z) .nil))) (same_upd hp)⟩)⟩
    | _ => cases hv

/-! ### compare and same -/
def sp_cmpvals (K : PySem.W.Frag) : Sp := fun vs H Q _ => ∃ x y, vs = [x, y] ∧ FlatV x ∧ FlatV y ∧ ∀ H', Same H H' → Q (.int (rowOrd [x] [y])) H'
theorem ok_compareP {f : Addr} {fd : FuncData} (F : FnP K "compare" s_compareP f fd) (B : Bf mg) (F_sort_keyP : Fn P w K mg base "sort_key" ["value"] 2 (sp_key K)) (F_own_compared_keysP : Fn P w K mg base "own_compared_keys" ["left", "right"] 1 (sp_cmpkeys K)) :
    FnOk P w K mg base CX0 3 f fd ["left", "right"] (sp_cmpvals K) := by
  refine F.ok sc_compareP (fun vs H Q E h => ?_) (fun cdv A outer s H vs Q E hr h => ⟨_, PSs.nox ((pss_one (ps_ret (pcall F_own_compared_keysP hr (pa_cons (pcall F_sort_keyP hr (pa_cons (fv 0) pa_nil)) (pa_cons (pcall F_sort_keyP hr (pa_cons (fv 1) pa_nil)) pa_nil)))))), ?_⟩)
  · obtain ⟨x, y, rfl, _⟩ := h
    rfl
  · obtain ⟨x, y, rfl, hx, hy, q⟩ := h
    refine ⟨x, rfl, hx, fun p H1 dp s1 => ⟨y, rfl, hy, fun r H2 dr s2 => ?_⟩⟩
    exact ⟨p, r, _, _, rowLt [x] [y], rowLt [y] [x], rfl, Dp.same s2 _ _ dp, dr, shaped_key hx, shaped_key hy, ltD_k hx hy, ltD_k hy hx, q H2 (s1.trans s2)⟩
def sp_sameP (K : PySem.W.Frag) : Sp := fun vs H Q _ => ∃ x y d e, vs = [x, y] ∧ Dp K H x d ∧ Dp K H y e ∧ nestD d = true ∧ nestD e = true ∧ sizeD d ≤ 100000 ∧ ∀ b H', (b = true ↔ d = e) → Same H H' → Q (.bl b) H'
theorem ok_sameP {f : Addr} {fd : FuncData} (F : FnP K "same" s_sameP f fd) (B : Bf mg) (F_sort_keyP : Fn P w K mg base "sort_key" ["value"] 2 (sp_key K)) :
    FnOk P w K mg base CX0 3 f fd ["left", "right"] (sp_sameP K) := by
  refine F.ok sc_sameP (fun vs H Q E h => ?_) (fun cdv A outer s H vs Q E hr h => ⟨_, PSs.nox ((pss_cons (ps_set (i := 2) sc_sameP.nd rfl (by first | exact Or.inl rfl | exact Or.inr rfl) (pe_lst (pa_cons (pe_tup (pa_cons (fv 0) (pa_cons (fv 1) pa_nil))) pa_nil))) (pss_cons (ps_while PassesOwn.never (q_tru K (fv 2)) (pss_cons (ps_asg (pe_bm0 PySem.F.plainAttrs_list PySem.F.slot_list_pop PySem.F.type_list_pop mt_pop (fv 2)) (pg_tup rfl (pgs_cons (pg_name (i := 3) sc_sameP.nd rfl (by first | exact Or.inl rfl | exact Or.inr rfl)) (pgs_cons (pg_name (i := 4) sc_sameP.nd rfl (by first | exact Or.inl rfl | exact Or.inr rfl)) pgs_nil)))) (pss_one (ps_if (PW.pt (pw_and (q_tru K (p_isi K kTup kTup_ok B.isinstance B.tuple PyProof.Rows.boot_tuple (fv 3))) (pw_and1 (q_tru K (p_isi K kTup kTup_ok B.isinstance B.tuple PyProof.Rows.boot_tuple (fv 4)))))) (pss_cons (ps_if (q_cmp op_ne (pe_callB (c_len K) (by rfl) B.len PySem.boot_len (pa_cons (fv 3) pa_nil)) (pe_callB (c_len K) (by rfl) B.len PySem.boot_len (pa_cons (fv 4) pa_nil))) (pss_one (ps_ret pe_bl)) pss_nil) (pss_one (ps_expr (pe_bm PySem.F.plainAttrs_list PySem.F.slot_list_extend PySem.F.type_list_extend mt_extend (fv 2) (pa_cons (pe_listZip (by rfl) B.list (by rfl) B.zip (pa_cons (fv 3) (pa_cons (fv 4) pa_nil))) pa_nil))))) (pss_one (ps_if (PW.pt (pw_or (q_tru K (p_isi K kTup kTup_ok B.isinstance B.tuple PyProof.Rows.boot_tuple (fv 3))) (pw_or1 (q_tru K (p_isi K kTup kTup_ok B.isinstance B.tuple PyProof.Rows.boot_tuple (fv 4)))))) (pss_one (ps_ret pe_bl)) (pss_one (ps_if (q_cmp (o_neD K hr) (pcall F_sort_keyP hr (pa_cons (fv 3) pa_nil)) (pcall F_sort_keyP hr (pa_cons (fv 4) pa_nil))) (pss_one (ps_ret pe_bl)) pss_nil)))))))) (pss_one (ps_ret pe_bl))))), ?_⟩)
  · obtain ⟨x, y, d, e, rfl, _⟩ := h
    rfl
  · obtain ⟨x, y, d, e, rfl, hd, he, nd, ne, hz, q⟩ := h
    have two : 2 ≤ sizeLine := by decide
    have one : 1 ≤ sizeLine := by decide
    refine ⟨two, fun T hT => ⟨one, fun L hL => ?_⟩⟩
    have hLx : H L = none := by
      cases h : H L with
      | none => rfl
      | some o => rw [same_upd hT _ _ h] at hL; cases hL
    have s0 := (same_upd (o := .tup [x, y]) hT).trans (same_upd (o := .lst [.ref T]) hL)
    refine ⟨fun m σ H' => ∃ ts ps c1 c2, σ = [some x, some y, some (.ref L), c1, c2] ∧ Same H H' ∧ H' L = some (.lst ts) ∧ Pd K H' ts ps ∧ m = sumP ps ∧ m ≤ 100000 ∧ ((∀ p ∈ ps, p.1 = p.2) ↔ d = e), ?_, ?_⟩
    · refine ⟨sumP [(d, e)], [.ref T], [(d, e)], _, _, rfl, s0, upd_same, ⟨rfl, fun i t p e1 e2 => ?_⟩, rfl, hz, by simp⟩
      cases i with
      | zero =>
        obtain rfl := Option.some.inj e1
        obtain rfl := Option.some.inj e2
        exact ⟨T, x, y, rfl, SqT.of (same_upd hL _ _ upd_same), Dp.same s0 _ _ hd, Dp.same s0 _ _ he, nd, ne⟩
      | succ i => cases e1
    · rintro m σ H1 ⟨ts, ps, c1, c2, rfl, s1, hl, hp, rfl, hm, hq⟩
      refine ⟨ts, .inl (SqL.of hl), ?_⟩
      rcases List.eq_nil_or_concat ts with rfl | ⟨us, t, rfl⟩
      · have e0 : ps = [] := by
          have := hp.1
          cases ps with
          | nil => rfl
          | cons => cases this
        subst e0
        exact q true H1 ⟨fun _ => hq.mp fun _ h => (nomatch h), fun _ => rfl⟩ s1
      · rw [List.concat_eq_append] at hl hp ⊢
        rw [if_pos (by simp)]
        obtain ⟨ps, p, rfl, hp1, a, x1, y1, rfl, ha, h1, h2, n1, n2⟩ := hp.split
        refine ⟨fun σ' H' => ∃ m', m' < sumP (ps ++ [p]) ∧ ∃ ts qs c1 c2, σ' = [some x, some y, some (.ref L), c1, c2] ∧ Same H H' ∧ H' L = some (.lst ts) ∧ Pd K H' ts qs ∧ m' = sumP qs ∧ m' ≤ 100000 ∧ ((∀ p ∈ qs, p.1 = p.2) ↔ d = e), fun σ' H' h => h, ?_⟩
        refine ⟨Or.inl ⟨rfl, _, SqL.of hl⟩, L, _, .ref a, rfl, rfl, hl, by simp, ?_⟩
        rw [List.dropLast_concat]
        have tp : Tk H1 (upd H1 L (.lst us)) := Tk.put hl
        have hL2 : (upd H1 L (.lst us)) L = some (.lst us) := upd_same
        have s2 : Same H (upd H1 L (.lst us)) := fun b u hb => by
          rw [upd_ne (ne_of_none hb hLx)]
          exact s1 _ _ hb
        have hp2 := hp1.tk tp
        have ha2 := tp.tup ha
        have h12 := Dp.tk tp _ _ (nest_tup _ n1) h1
        have h22 := Dp.tk tp _ _ (nest_tup _ n2) h2
        generalize upd H1 L (.lst us) = H2 at hL2 s2 hp2 ha2 h12 h22
        refine ⟨a, [x1, y1], rfl, ha2, rfl, ?_⟩
        have hsum : sumP (ps ++ [p]) = sumP ps + sizeD p.1 := by rw [sumP_app]; rfl
        have all : (∀ r ∈ ps ++ [p], r.1 = r.2) ↔ (∀ r ∈ ps, r.1 = r.2) ∧ p.1 = p.2 := by
          simp [or_imp, forall_and]
        rw [all] at hq
        obtain ⟨d1, e1⟩ := p
        have back : ∀ (c1 c2 : Option V) (ts : List V) (qs : List (PyData × PyData)) (H' : Hp), Same H H' → H' L = some (.lst ts) → Pd K H' ts qs → sumP qs < sumP (ps ++ [(d1, e1)]) → ((∀ r ∈ qs, r.1 = r.2) ↔ d = e) →
            ∃ m', m' < sumP (ps ++ [(d1, e1)]) ∧ ∃ ts qs c1' c2', [some x, some y, some (.ref L), c1, c2] = [some x, some y, some (V.ref L), c1', c2'] ∧ Same H H' ∧ H' L = some (.lst ts) ∧ Pd K H' ts qs ∧ m' = sumP qs ∧ m' ≤ 100000 ∧ ((∀ p ∈ qs, p.1 = p.2) ↔ d = e) :=
          fun c1 c2 ts qs H' k1 k2 k3 k4 k5 => ⟨sumP qs, k4, ts, qs, c1, c2, rfl, k1, k2, k3, rfl, by omega, k5⟩
        have less : sumP ps < sumP (ps ++ [(d1, e1)]) := by
          have := sizeD_pos d1
          rw [hsum]
          show _ < _ + sizeD d1
          omega
        -- two flat values
        have leaf : ∀ (H3 : Hp) (b : Bool), FlatV x1 → FlatV y1 → d1 = dV x1 → e1 = dV y1 → Same H2 H3 → b = decide (x1 = y1) → (if (!b) = true then Q (.bl false) H3 else ∃ m', m' < sumP (ps ++ [(d1, e1)]) ∧ ∃ ts qs c1' c2', [some x, some y, some (.ref L), some x1, some y1] = [some x, some y, some (V.ref L), c1', c2'] ∧ Same H H3 ∧ H3 L = some (.lst ts) ∧ Pd K H3 ts qs ∧ m' = sumP qs ∧ m' ≤ 100000 ∧ ((∀ p ∈ qs, p.1 = p.2) ↔ d = e)) := by
          intro H3 b f1 f2 g1 g2 k1 hb
          have hi : d1 = e1 ↔ x1 = y1 := by
            rw [g1, g2]
            exact flat_inj f1 f2
          by_cases ee : x1 = y1
          · rw [hb, decide_eq_true ee]
            refine back _ _ us ps H3 (s2.trans k1) (k1 _ _ hL2) (hp2.tk (Tk.same k1)) less ?_
            rw [← hq]
            exact ⟨fun z => ⟨z, hi.mpr ee⟩, fun z => z.1⟩
          · rw [hb, decide_eq_false ee]
            exact q false H3 ⟨(fun z => nomatch z), fun z => absurd (hi.mp (hq.mpr z).2) ee⟩ (s2.trans k1)
        refine ⟨_, _, rfl, _, _, rfl, rfl, ?_⟩
        have no : d1 ≠ e1 → Q (.bl false) H2 := fun z => q false H2 ⟨(fun z => nomatch z), fun y => absurd (hq.mpr y).2 z⟩ s2
        cases h12 with
        | non =>
          cases h22 with
          | non => exact ⟨_, rfl, n1, fun p H3 dp s3 => ⟨_, rfl, n2, fun r H4 dr s4 => ⟨_, _, Dp.same s4 _ _ dp, dr, shaped_key n1, shaped_key n2, leaf H4 _ n1 n2 rfl rfl (s3.trans s4) (eqv_key n1 n2)⟩⟩⟩
          | bl => exact ⟨_, rfl, n1, fun p H3 dp s3 => ⟨_, rfl, n2, fun r H4 dr s4 => ⟨_, _, Dp.same s4 _ _ dp, dr, shaped_key n1, shaped_key n2, leaf H4 _ n1 n2 rfl rfl (s3.trans s4) (eqv_key n1 n2)⟩⟩⟩
          | int => exact ⟨_, rfl, n1, fun p H3 dp s3 => ⟨_, rfl, n2, fun r H4 dr s4 => ⟨_, _, Dp.same s4 _ _ dp, dr, shaped_key n1, shaped_key n2, leaf H4 _ n1 n2 rfl rfl (s3.trans s4) (eqv_key n1 n2)⟩⟩⟩
          | str => exact ⟨_, rfl, n1, fun p H3 dp s3 => ⟨_, rfl, n2, fun r H4 dr s4 => ⟨_, _, Dp.same s4 _ _ dp, dr, shaped_key n1, shaped_key n2, leaf H4 _ n1 n2 rfl rfl (s3.trans s4) (eqv_key n1 n2)⟩⟩⟩
          | lst => cases n2
          | tup k1 k2 => exact Or.inr (Or.inl ⟨_, k1, no nofun⟩)
        | bl =>
          cases h22 with
          | non => exact ⟨_, rfl, n1, fun p H3 dp s3 => ⟨_, rfl, n2, fun r H4 dr s4 => ⟨_, _, Dp.same s4 _ _ dp, dr, shaped_key n1, shaped_key n2, leaf H4 _ n1 n2 rfl rfl (s3.trans s4) (eqv_key n1 n2)⟩⟩⟩
          | bl => exact ⟨_, rfl, n1, fun p H3 dp s3 => ⟨_, rfl, n2, fun r H4 dr s4 => ⟨_, _, Dp.same s4 _ _ dp, dr, shaped_key n1, shaped_key n2, leaf H4 _ n1 n2 rfl rfl (s3.trans s4) (eqv_key n1 n2)⟩⟩⟩
          | int => exact ⟨_, rfl, n1, fun p H3 dp s3 => ⟨_, rfl, n2, fun r H4 dr s4 => ⟨_, _, Dp.same s4 _ _ dp, dr, shaped_key n1, shaped_key n2, leaf H4 _ n1 n2 rfl rfl (s3.trans s4) (eqv_key n1 n2)⟩⟩⟩
          | str => exact ⟨_, rfl, n1, fun p H3 dp s3 => ⟨_, rfl, n2, fun r H4 dr s4 => ⟨_, _, Dp.same s4 _ _ dp, dr, shaped_key n1, shaped_key n2, leaf H4 _ n1 n2 rfl rfl (s3.trans s4) (eqv_key n1 n2)⟩⟩⟩
          | lst => cases n2
          | tup k1 k2 => exact Or.inr (Or.inl ⟨_, k1, no nofun⟩)
        | int =>
          cases h22 with
          | non => exact ⟨_, rfl, n1, fun p H3 dp s3 => ⟨_, rfl, n2, fun r H4 dr s4 => ⟨_, _, Dp.same s4 _ _ dp, dr, shaped_key n1, shaped_key n2, leaf H4 _ n1 n2 rfl rfl (s3.trans s4) (eqv_key n1 n2)⟩⟩⟩
          | bl => exact ⟨_, rfl, n1, fun p H3 dp s3 => ⟨_, rfl, n2, fun r H4 dr s4 => ⟨_, _, Dp.same s4 _ _ dp, dr, shaped_key n1, shaped_key n2, leaf H4 _ n1 n2 rfl rfl (s3.trans s4) (eqv_key n1 n2)⟩⟩⟩
          | int => exact ⟨_, rfl, n1, fun p H3 dp s3 => ⟨_, rfl, n2, fun r H4 dr s4 => ⟨_, _, Dp.same s4 _ _ dp, dr, shaped_key n1, shaped_key n2, leaf H4 _ n1 n2 rfl rfl (s3.trans s4) (eqv_key n1 n2)⟩⟩⟩
          | str => exact ⟨_, rfl, n1, fun p H3 dp s3 => ⟨_, rfl, n2, fun r H4 dr s4 => ⟨_, _, Dp.same s4 _ _ dp, dr, shaped_key n1, shaped_key n2, leaf H4 _ n1 n2 rfl rfl (s3.trans s4) (eqv_key n1 n2)⟩⟩⟩
          | lst => cases n2
          | tup k1 k2 => exact Or.inr (Or.inl ⟨_, k1, no nofun⟩)
        | str =>
          cases h22 with
          | non => exact ⟨_, rfl, n1, fun p H3 dp s3 => ⟨_, rfl, n2, fun r H4 dr s4 => ⟨_, _, Dp.same s4 _ _ dp, dr, shaped_key n1, shaped_key n2, leaf H4 _ n1 n2 rfl rfl (s3.trans s4) (eqv_key n1 n2)⟩⟩⟩
          | bl => exact ⟨_, rfl, n1, fun p H3 dp s3 => ⟨_, rfl, n2, fun r H4 dr s4 => ⟨_, _, Dp.same s4 _ _ dp, dr, shaped_key n1, shaped_key n2, leaf H4 _ n1 n2 rfl rfl (s3.trans s4) (eqv_key n1 n2)⟩⟩⟩
          | int => exact ⟨_, rfl, n1, fun p H3 dp s3 => ⟨_, rfl, n2, fun r H4 dr s4 => ⟨_, _, Dp.same s4 _ _ dp, dr, shaped_key n1, shaped_key n2, leaf H4 _ n1 n2 rfl rfl (s3.trans s4) (eqv_key n1 n2)⟩⟩⟩
          | str => exact ⟨_, rfl, n1, fun p H3 dp s3 => ⟨_, rfl, n2, fun r H4 dr s4 => ⟨_, _, Dp.same s4 _ _ dp, dr, shaped_key n1, shaped_key n2, leaf H4 _ n1 n2 rfl rfl (s3.trans s4) (eqv_key n1 n2)⟩⟩⟩
          | lst => cases n2
          | tup k1 k2 => exact Or.inr (Or.inl ⟨_, k1, no nofun⟩)
        | lst => cases n1
        | @tup a1 xs ds k1 k2 =>
          refine Or.inr (Or.inl ⟨_, k1, ?_⟩)
          cases h22 with
          | lst => cases n2
          | non => exact Or.inr (Or.inl ⟨_, k1, no nofun⟩)
          | bl => exact Or.inr (Or.inl ⟨_, k1, no nofun⟩)
          | int => exact Or.inr (Or.inl ⟨_, k1, no nofun⟩)
          | str => exact Or.inr (Or.inl ⟨_, k1, no nofun⟩)
          | @tup a2 ys es k3 k4 =>
            refine Or.inr (Or.inl ⟨_, k3, ?_⟩)
            have l1 := DpAll.length k2
            have l2 := DpAll.length k4
            refine ⟨_, .inr k1, _, .inr k3, rfl, ?_⟩
            by_cases ee : xs.length = ys.length
            · rw [ee, decide_eq_true rfl]
              refine nxt ⟨Or.inl ⟨rfl, _, SqL.of hL2⟩, a1, a2, xs, ys, rfl, k1, k3, ee.symm, fun H3 p ts s3 hp0 hts hnp hlen hpl hat => ?_⟩
              have sz : sumP (ps ++ ds.zip es) = sumP ps + sizeAll ds := by rw [sumP_app, sumP_zip ds es (by omega)]
              have sz2 : sumP (ps ++ [(PyData.tuple ds, PyData.tuple es)]) = sumP ps + (sizeAll ds + 1) := hsum
              have l3 := sumP_len ps
              have l4 := sizeAll_len ds
              have l5 := hp2.1
              have hm' : sumP ps + (sizeAll ds + 1) ≤ 100000 := by rw [← sz2]; exact hm
              have hL3 := s3 _ _ hL2
              refine ⟨L, p, us, _, rfl, rfl, hL3, hpl, ?_, ?_⟩
              · rw [List.length_map, hlen, sizeLine_eq]
                omega
              · have tp3 : Tk H3 (upd H3 L (.lst (us ++ ts.map V.ref))) := Tk.put hL3
                refine back _ _ (us ++ ts.map V.ref) (ps ++ ds.zip es) _ (fun b u hb => ?_) upd_same (Pd.tk (Pd.app (hp2.tk (Tk.same s3)) (Pd.zip k2 k4 n1 n2 ee.symm (Tk.same s3) hlen hat)) tp3) (by rw [sz, sz2]; omega) ?_
                · rw [upd_ne (ne_of_none hb hLx)]
                  exact s3 _ _ (s2 _ _ hb)
                · rw [← hq]
                  have za := zip_all (ds := ds) (es := es) (by omega)
                  constructor
                  · intro h
                    exact ⟨fun r hr => h r (List.mem_append_left _ hr), congrArg PyData.tuple (za.mp fun r hr => h r (List.mem_append_right _ hr))⟩
                  · intro h r hr
                    rcases List.mem_append.mp hr with hr | hr
                    · exact h.1 r hr
                    · exact za.mpr (PyData.tuple.inj h.2) r hr
            · rw [decide_eq_false fun z => ee (by have := V.int.inj z; omega)]
              refine no fun z => ee ?_
              have := PyData.tuple.inj z
              rw [l1, l2, this]

/-! ### _law_same: whether two data are the same, lists and tuples within -/
def sp_same (K : PySem.W.Frag) : Nat → Sp
  | 0 => fun _ _ _ _ => False
  | n + 1 => fun vs H Q _ => ∃ x y d e, vs = [x, y] ∧ Dp K H x d ∧ Dp K H y e ∧ d.depth ≤ n ∧ ∀ b H', (b = true ↔ d = e) → Same H H' → Q (.bl b) H'
theorem not_same {p : Prop} (h : ¬ p) : false = true ↔ p := ⟨(fun z => nomatch z), fun z => absurd z h⟩
theorem seq_same {H H' : Hp} {a : Addr} {xs : List V} (e : Same H H') (h : SqL K H a xs ∨ SqT K H a xs) : SqL K H' a xs ∨ SqT K H' a xs := h.imp e.seq (Same.tup e)
theorem same_loop {n : Nat} {a b : Addr} {xs ys : List V} {ds es : List PyData} {D : Ends} {H0 : Hp} (hx : SqL K H0 a xs ∨ SqT K H0 a xs) (hy : SqL K H0 b ys ∨ SqT K H0 b ys) (hd : DpAll K H0 xs ds) (he : DpAll K H0 ys es) (hn : PyData.depthAll ds ≤ n) (hl : ds.length = es.length)
    (q : ∀ b H', (b = true ↔ ds = es) → Same H0 H' → D.rt (.bl b) H') :
    tSeq (tFor (iRng1 (tCons (tCB (fLenB K) (tCons (fVar 0) tNil)) tNil)) (gName 2) (tIfS (tNot (fTru K (tCall (sp_same K (n + 1)) [] E0 (tCons (tOp (fIx K) (fVar 0) (fVar 2)) (tCons (tOp (fIx K) (fVar 1) (fVar 2)) tNil))))) (tRet (tC (V.bl false))) tNext))
      (tRet (tC (V.bl true))) D [some (.ref a), some (.ref b), none, none] H0 := by
  have lx := DpAll.length hd
  have ly := DpAll.length he
  refine ⟨xs, hx, fun hb => ⟨_, rfl, by omega, by rw [sizeLine_eq] at hb; omega, for_range (n := xs.length) (fun i σ H' => Same H0 H' ∧ (∃ c, σ = [some (.ref a), some (.ref b), c, none]) ∧ ds.take i = es.take i) ⟨Same.refl _, ⟨_, rfl⟩, rfl⟩ (fun i σ H' hi h => ?_) (fun σ H' h => ?_)⟩⟩
  · obtain ⟨sm, ⟨c, rfl⟩, ht⟩ := h
    obtain ⟨v, hv, dv⟩ := DpAll.get hd (i := i) (d := ds[i]) (List.getElem?_eq_getElem (by omega))
    obtain ⟨u, hu, du⟩ := DpAll.get he (i := i) (d := es[i]) (List.getElem?_eq_getElem (by omega))
    have z : (0 : Int) + (i : Int) = (i : Int) := by omega
    have av : atI xs (0 + (i : Int)) = some v := by
      rw [z]
      exact atI_nat hv
    have au : atI ys (0 + (i : Int)) = some u := by
      rw [z]
      exact atI_nat hu
    refine ⟨_, v, seq_same sm hx, av, _, u, seq_same sm hy, au, v, u, ds[i], es[i], rfl, Dp.same sm _ _ dv, Dp.same sm _ _ du, Nat.le_trans (depth_mem (List.getElem_mem _)) hn, fun b H2 hb s2 => ?_⟩
    cases b with
    | true =>
      refine ⟨sm.trans s2, ⟨_, rfl⟩, ?_⟩
      rw [List.take_add_one, List.take_add_one, ht, List.getElem?_eq_getElem (by omega), List.getElem?_eq_getElem (by omega), hb.mp rfl]
    | false =>
      refine q false H2 (not_same fun e => ?_) (sm.trans s2)
      subst e
      exact absurd (hb.mpr rfl) Bool.false_ne_true
  · obtain ⟨sm, ⟨c, rfl⟩, ht⟩ := h
    rw [lx, List.take_length] at ht
    rw [hl, List.take_length] at ht
    exact q true H' ⟨fun _ => ht, fun _ => rfl⟩ sm
theorem ok_same {f : Addr} {fd : FuncData} (F : FnP K "_law_same" s_same f fd) (B : Bf mg) (hm : mg "_law_same" = some (.ref f)) (hk : PySem.W.keepIn K (.ref f) = true) (hb : Binds K fd ["_law_left", "_law_right"] []) :
    ∀ n, FnOk P w K mg base CX0 n f fd ["_law_left", "_law_right"] (sp_same K n) := by
  intro n
  induction n with
  | zero => exact ⟨fun _ _ _ _ h => h.elim, fun _ _ _ _ _ _ _ _ _ _ _ _ _ h => h.elim⟩
  | succ n ih =>
    have F_same : Fn P w K mg base "_law_same" ["_law_left", "_law_right"] n (sp_same K n) := ⟨f, fd, ih, hm, hk, hb⟩
    refine F.ok sc_same (fun vs H Q E h => ?_) (fun cdv A outer s H vs Q E hr h => ⟨_, PSs.nox ((pss_cons (ps_if (q_tru K (p_isiTL K B.isinstance B.tuple B.list (fv 0))) (pss_cons (ps_if (PW.pt (pw_and (pt_not (q_tru K (p_isi K kTup kTup_ok B.isinstance B.tuple PyProof.Rows.boot_tuple (fv 1)))) (pw_and1 (pt_not (q_tru K (p_isi K kLst kLst_ok B.isinstance B.list PyProof.Rows.boot_list (fv 1))))))) (pss_one (ps_ret pe_bl)) pss_nil) (pss_cons (ps_if (PW.pt (pw_or (q_cmp op_ne (p_isi K kTup kTup_ok B.isinstance B.tuple PyProof.Rows.boot_tuple (fv 0)) (p_isi K kTup kTup_ok B.isinstance B.tuple PyProof.Rows.boot_tuple (fv 1))) (pw_or1 (q_cmp op_ne (pe_callB (c_lenB K) (by rfl) B.len PySem.boot_len (pa_cons (fv 0) pa_nil)) (pe_callB (c_lenB K) (by rfl) B.len PySem.boot_len (pa_cons (fv 1) pa_nil)))))) (pss_one (ps_ret pe_bl)) pss_nil) (pss_cons (ps_for PassesOwn.never rfl (pi_range1 (by rfl) B.range (pa_cons (pe_callB (c_lenB K) (by rfl) B.len PySem.boot_len (pa_cons (fv 0) pa_nil)) pa_nil)) (pg_name (i := 2) sc_same.nd rfl (by first | exact Or.inl rfl | exact Or.inr rfl)) (pss_one (ps_if (pt_not (q_tru K (pcall F_same hr (pa_cons (pe_ix (x_ix K) (fv 0) (fv 2) (fun _ _ => rfl)) (pa_cons (pe_ix (x_ix K) (fv 1) (fv 2) (fun _ _ => rfl)) pa_nil))))) (pss_one (ps_ret pe_bl)) pss_nil))) (pss_one (ps_ret pe_bl))))) pss_nil) (pss_cons (ps_if (q_tru K (p_isi K kDct kDct_ok B.isinstance B.dict (by decide +kernel) (fv 0))) pss_never pss_nil) (pss_cons (ps_if (PW.pt (pw_or (q_cmp op_isN (fv 0) pe_non) (pw_or1 (q_cmp op_isN (fv 1) pe_non)))) (pss_one (ps_ret (f_and (pe_cmpR op_isN (fv 0) pe_non (nomark _)) (pe_one (pe_cmpR op_isN (fv 1) pe_non (nomark _)))))) pss_nil) (pss_cons (ps_if (PW.pt (pw_or (q_tru K (p_isi K kBool kBool_ok B.isinstance B.bool PyProof.Rows.boot_bool (fv 0))) (pw_or1 (q_tru K (p_isi K kBool kBool_ok B.isinstance B.bool PyProof.Rows.boot_bool (fv 1)))))) (pss_one (ps_ret (f_and (p_isi K kBool kBool_ok B.isinstance B.bool PyProof.Rows.boot_bool (fv 0)) (f_and (p_isi K kBool kBool_ok B.isinstance B.bool PyProof.Rows.boot_bool (fv 1)) (pe_one (pe_cmpR op_eq (fv 0) (fv 1) (nomark _))))))) pss_nil) (pss_cons (ps_if (q_tru K (p_isi K kInt kInt_ok B.isinstance B.int PyProof.Rows.boot_int (fv 0))) (pss_one (ps_ret (f_and (p_isi K kInt kInt_ok B.isinstance B.int PyProof.Rows.boot_int (fv 1)) (pe_one (pe_cmpR op_eq (fv 0) (fv 1) (nomark _)))))) pss_nil) (pss_one (ps_ret (f_and (p_isi K kStr kStr_ok B.isinstance B.str PyProof.Rows.boot_str (fv 0)) (f_and (p_isi K kStr kStr_ok B.isinstance B.str PyProof.Rows.boot_str (fv 1)) (pe_one (pe_cmpR op_eq (fv 0) (fv 1) (nomark _))))))))))))), ?_⟩)
    · obtain ⟨x, y, d, e, rfl, _⟩ := h
      rfl
    · obtain ⟨x, y, d, e, rfl, hd, he, hn, q⟩ := h
      refine fun T hT => ?_
      have s0 : Same H (upd H T (.tup [.ty "tuple", .ty "list"])) := same_upd hT
      -- two sequences of one kind
      have go : ∀ (a b : Addr) (xs ys : List V) (ds es : List PyData), (SqL K H a xs ∨ SqT K H a xs) → (SqL K H b ys ∨ SqT K H b ys) → DpAll K H xs ds → DpAll K H ys es → PyData.depthAll ds + 1 ≤ n → ds.length = es.length → (∀ b H', (b = true ↔ ds = es) → Same H H' → Q (.bl b) H') →
          ∀ (nx : L2.St → Hp → Prop), tSeq (tFor (iRng1 (tCons (tCB (fLenB K) (tCons (fVar 0) tNil)) tNil)) (gName 2) (tIfS (tNot (fTru K (tCall (sp_same K n) [] E0 (tCons (tOp (fIx K) (fVar 0) (fVar 2)) (tCons (tOp (fIx K) (fVar 1) (fVar 2)) tNil))))) (tRet (tC (V.bl false))) tNext))
            (tRet (tC (V.bl true))) { nx := nx, rt := Q } [some (.ref a), some (.ref b), none, none] (upd H T (.tup [.ty "tuple", .ty "list"])) := by
        intro a b xs ys ds es hx hy hd he hn hl q nx
        obtain ⟨m, rfl⟩ : ∃ m, n = m + 1 := ⟨n - 1, by omega⟩
        exact same_loop (seq_same s0 hx) (seq_same s0 hy) (Dp.sameAll s0 _ _ hd) (Dp.sameAll s0 _ _ he) (by omega) hl fun b H' hb s1 => q b H' hb (s0.trans s1)
      cases hd with
      | non =>
        refine ⟨rfl, iteD (fun _ => ⟨rfl, rfl, q _ _ ?_ s0⟩) (fun z => absurd rfl z)⟩
        cases he <;> simp
      | bl b =>
        cases he with
        | non => exact ⟨rfl, iteD (fun z => nomatch z) (fun _ => ⟨rfl, iteD (fun _ => ⟨rfl, q _ _ (not_same nofun) s0⟩) (fun z => absurd rfl z)⟩)⟩
        | bl c => exact ⟨rfl, iteD (fun z => nomatch z) (fun _ => ⟨rfl, iteD (fun z => nomatch z) (fun _ => ⟨rfl, q _ _ (by simp) s0⟩)⟩)⟩
        | int j => exact ⟨rfl, iteD (fun z => nomatch z) (fun _ => ⟨rfl, iteD (fun z => nomatch z) (fun _ => q _ _ (not_same nofun) s0)⟩)⟩
        | str z => exact ⟨rfl, iteD (fun z => nomatch z) (fun _ => ⟨rfl, iteD (fun z => nomatch z) (fun _ => q _ _ (not_same nofun) s0)⟩)⟩
        | lst k1 k2 => exact ⟨rfl, iteD (fun z => nomatch z) (fun _ => ⟨rfl, iteD (fun z => nomatch z) (fun _ => Or.inl ⟨_, s0.seq k1, q _ _ (not_same nofun) s0⟩)⟩)⟩
        | tup k1 k2 => exact ⟨rfl, iteD (fun z => nomatch z) (fun _ => ⟨rfl, iteD (fun z => nomatch z) (fun _ => Or.inr (Or.inl ⟨_, Same.tup s0 k1, q _ _ (not_same nofun) s0⟩))⟩)⟩
      | int i =>
        cases he with
        | non => exact ⟨rfl, iteD (fun z => nomatch z) (fun _ => ⟨rfl, iteD (fun _ => ⟨rfl, q _ _ (not_same nofun) s0⟩) (fun z => absurd rfl z)⟩)⟩
        | bl c => exact ⟨rfl, iteD (fun z => nomatch z) (fun _ => ⟨rfl, iteD (fun z => nomatch z) (fun _ => q _ _ (not_same nofun) s0)⟩)⟩
        | int j => exact ⟨rfl, iteD (fun z => nomatch z) (fun _ => ⟨rfl, iteD (fun z => nomatch z) (fun _ => ⟨rfl, q _ _ (by simp) s0⟩)⟩)⟩
        | str z => exact ⟨rfl, iteD (fun z => nomatch z) (fun _ => ⟨rfl, iteD (fun z => nomatch z) (fun _ => q _ _ (not_same nofun) s0)⟩)⟩
        | lst k1 k2 => exact ⟨rfl, iteD (fun z => nomatch z) (fun _ => ⟨rfl, iteD (fun z => nomatch z) (fun _ => Or.inl ⟨_, s0.seq k1, Or.inl ⟨_, s0.seq k1, q _ _ (not_same nofun) s0⟩⟩)⟩)⟩
        | tup k1 k2 => exact ⟨rfl, iteD (fun z => nomatch z) (fun _ => ⟨rfl, iteD (fun z => nomatch z) (fun _ => Or.inr (Or.inl ⟨_, Same.tup s0 k1, Or.inr (Or.inl ⟨_, Same.tup s0 k1, q _ _ (not_same nofun) s0⟩)⟩))⟩)⟩
      | str x =>
        cases he with
        | non => exact ⟨rfl, iteD (fun z => nomatch z) (fun _ => ⟨rfl, iteD (fun _ => ⟨rfl, q _ _ (not_same nofun) s0⟩) (fun z => absurd rfl z)⟩)⟩
        | bl c => exact ⟨rfl, iteD (fun z => nomatch z) (fun _ => ⟨rfl, iteD (fun z => nomatch z) (fun _ => q _ _ (not_same nofun) s0)⟩)⟩
        | int j => exact ⟨rfl, iteD (fun z => nomatch z) (fun _ => ⟨rfl, iteD (fun z => nomatch z) (fun _ => q _ _ (not_same nofun) s0)⟩)⟩
        | str z => exact ⟨rfl, iteD (fun z => nomatch z) (fun _ => ⟨rfl, iteD (fun z => nomatch z) (fun _ => ⟨rfl, q _ _ (by simp) s0⟩)⟩)⟩
        | lst k1 k2 => exact ⟨rfl, iteD (fun z => nomatch z) (fun _ => ⟨rfl, iteD (fun z => nomatch z) (fun _ => Or.inl ⟨_, s0.seq k1, Or.inl ⟨_, s0.seq k1, q _ _ (not_same nofun) s0⟩⟩)⟩)⟩
        | tup k1 k2 => exact ⟨rfl, iteD (fun z => nomatch z) (fun _ => ⟨rfl, iteD (fun z => nomatch z) (fun _ => Or.inr (Or.inl ⟨_, Same.tup s0 k1, Or.inr (Or.inl ⟨_, Same.tup s0 k1, q _ _ (not_same nofun) s0⟩)⟩))⟩)⟩
      | @lst a xs ds h1 h2 =>
        refine Or.inl ⟨_, h1, ?_⟩
        have k0 := s0.seq h1
        rw [PyData.depth] at hn
        cases he with
        | non => exact q _ _ (not_same nofun) s0
        | bl c => exact q _ _ (not_same nofun) s0
        | int j => exact q _ _ (not_same nofun) s0
        | str z => exact q _ _ (not_same nofun) s0
        | @lst b ys es k1 k2 =>
          have k3 := s0.seq k1
          refine Or.inl ⟨_, k3, Or.inl ⟨_, k3, nxt (Or.inl ⟨_, k0, Or.inl ⟨_, k3, rfl, _, .inl k0, fun _ => ⟨_, .inl k3, fun _ => ⟨rfl, ?_⟩⟩⟩⟩)⟩⟩
          have l1 := DpAll.length h2
          have l2 := DpAll.length k2
          by_cases e : xs.length = ys.length
          · rw [e, decide_eq_true rfl]
            exact go a b xs ys ds es (.inl h1) (.inl k1) h2 k2 hn (by omega) (fun b H' hb => q b H' ⟨fun z => congrArg PyData.list (hb.mp z), fun z => hb.mpr (PyData.list.inj z)⟩) _
          · rw [decide_eq_false fun z => e (by have := V.int.inj z; omega)]
            refine q _ _ (not_same fun z => e ?_) s0
            have := PyData.list.inj z
            rw [l1, l2, this]
        | tup k1 k2 =>
          have k3 := Same.tup s0 k1
          exact Or.inr (Or.inl ⟨_, k3, nxt (Or.inl ⟨_, k0, Or.inr (Or.inl ⟨_, k3, rfl, q _ _ (not_same nofun) s0⟩)⟩)⟩)
      | @tup a xs ds h1 h2 =>
        refine Or.inr (Or.inl ⟨_, h1, ?_⟩)
        have k0 := Same.tup s0 h1
        rw [PyData.depth] at hn
        cases he with
        | non => exact q _ _ (not_same nofun) s0
        | bl c => exact q _ _ (not_same nofun) s0
        | int j => exact q _ _ (not_same nofun) s0
        | str z => exact q _ _ (not_same nofun) s0
        | lst k1 k2 =>
          have k3 := s0.seq k1
          exact Or.inl ⟨_, k3, Or.inl ⟨_, k3, nxt (Or.inr (Or.inl ⟨_, k0, Or.inl ⟨_, k3, rfl, q _ _ (not_same nofun) s0⟩⟩))⟩⟩
        | @tup b ys es k1 k2 =>
          have k3 := Same.tup s0 k1
          refine Or.inr (Or.inl ⟨_, k3, nxt (Or.inr (Or.inl ⟨_, k0, Or.inr (Or.inl ⟨_, k3, rfl, _, .inr k0, fun _ => ⟨_, .inr k3, fun _ => ⟨rfl, ?_⟩⟩⟩)⟩))⟩)
          have l1 := DpAll.length h2
          have l2 := DpAll.length k2
          by_cases e : xs.length = ys.length
          · rw [e, decide_eq_true rfl]
            exact go a b xs ys ds es (.inr h1) (.inr k1) h2 k2 hn (by omega) (fun b H' hb => q b H' ⟨fun z => congrArg PyData.tuple (hb.mp z), fun z => hb.mpr (PyData.tuple.inj z)⟩) _
          · rw [decide_eq_false fun z => e (by have := V.int.inj z; omega)]
            refine q _ _ (not_same fun z => e ?_) s0
            have := PyData.tuple.inj z
            rw [l1, l2, this]

/-! ### values that are easily taken for each other -/
def sp_odds : Sp := fun vs H Q _ => ∃ (st cl : Addr) (m : Int), vs = [.ref st, .int m] ∧ Sto H st cl ∧ m ≤ 1000000 ∧ ∀ (b : Bool) H', Go st cl H H' → Q (.bl b) H'
theorem ok_odds {f : Addr} {fd : FuncData} (F : FnP K "_law_odds" s_odds f fd) (B : Bf mg) (F_take : Fn P w K mg base "_law_take" ["_law_store_here", "_law_many"] 2 sp_take) : FnOk P w K mg base CX0 3 f fd ["_law_store_here", "_law_many"] sp_odds := by
  refine F.ok sc_odds (fun vs H Q E h => ?_) (fun cdv A outer s H vs Q E hr h => ⟨_, PSs.nox ((pss_one (ps_ret (pe_cmpR op_eq (pcall F_take hr (pa_cons (fv 0) (pa_cons (fv 1) pa_nil))) pe_int (nomark _))))), ?_⟩)
  · obtain ⟨st, cl, m, rfl, _⟩ := h
    rfl
  · obtain ⟨st, cl, m, rfl, hS, hm, q⟩ := h
    exact ⟨st, cl, m, rfl, hS, hm, fun r H1 _ _ g => ⟨rfl, q _ H1 g⟩⟩
theorem txt_app {n m : Nat} {a b : Str} (ha : txtB n a = true) (hb : txtB m b = true) : txtB (n + m) (a ++ b) = true := by
  have h1 := txtB_iff.mp ha
  have h2 := txtB_iff.mp hb
  have e : (a ++ b).cps.toList = a.cps.toList ++ b.cps.toList := Array.toList_append
  refine txtB_iff.mpr ⟨?_, fun c hc => ?_⟩
  · rw [len_cps, e, List.length_append, ← len_cps, ← len_cps]
    exact Nat.add_le_add h1.1 h2.1
  · rw [e] at hc
    rcases List.mem_append.mp hc with h | h
    · exact h1.2 c h
    · exact h2.2 c h
def sp_like : Sp := fun vs H Q _ => ∃ (st cl : Addr) (v : V), vs = [.ref st, v] ∧ Sto H st cl ∧ FlatV v ∧ ∀ u H', FlatV u → Go st cl H H' → Q u H'
theorem ok_like {f : Addr} {fd : FuncData} (F : FnP K "_law_like" s_like f fd) (B : Bf mg) (F_take : Fn P w K mg base "_law_take" ["_law_store_here", "_law_many"] 2 sp_take) : FnOk P w K mg base CX0 3 f fd ["_law_store_here", "_law_value_here"] sp_like := by
  refine F.ok sc_like (fun vs H Q E h => ?_) (fun cdv A outer s H vs Q E hr h => ⟨_, PSs.nox ((pss_cons (ps_set (i := 2) sc_like.nd rfl (by first | exact Or.inl rfl | exact Or.inr rfl) (pcall F_take hr (pa_cons (fv 0) (pa_cons pe_int pa_nil)))) (pss_cons (ps_if (q_cmp op_eq (fv 2) pe_int) (pss_one (ps_ret (fv 1))) pss_nil) (pss_cons (ps_if (q_cmp op_isN (fv 1) pe_non) (pss_one (ps_ret (pe_ix (x_ix K) (pe_lst (pa_cons pe_str (pa_cons pe_bl (pa_cons pe_str pa_nil)))) (pe_op o_sub (fv 2) pe_int) (fun _ _ => rfl)))) pss_nil) (pss_cons (ps_if (q_tru K (p_isi K kBool kBool_ok B.isinstance B.bool PyProof.Rows.boot_bool (fv 1))) (pss_one (ps_ret (pe_ix (x_ix K) (pe_lst (pa_cons (pe_callTy c_int (by rfl) B.int PyProof.Rows.boot_int (pa_cons (fv 1) pa_nil)) (pa_cons (f_not (fv 1)) (pa_cons pe_non pa_nil)))) (pe_op o_sub (fv 2) pe_int) (fun _ _ => rfl)))) pss_nil) (pss_cons (ps_if (q_tru K (p_isi K kInt kInt_ok B.isinstance B.int PyProof.Rows.boot_int (fv 1))) (pss_one (ps_ret (pe_ix (x_ix K) (pe_lst (pa_cons (pe_callTy c_str (by rfl) B.str PyProof.Rows.boot_str (pa_cons (fv 1) pa_nil)) (pa_cons (pe_op o_sub (pe_op (o_add K) (fv 1) pe_int) (pe_op o_mul pe_int (pe_callTy c_int (by rfl) B.int PyProof.Rows.boot_int (pa_cons (pe_cmpR o_gt (fv 1) pe_int (nomark _)) pa_nil)))) (pa_cons (pe_cmpR op_eq (fv 1) pe_int (nomark _)) pa_nil)))) (pe_op o_sub (fv 2) pe_int) (fun _ _ => rfl)))) pss_nil) (pss_cons (ps_set (i := 3) sc_like.nd rfl (by first | exact Or.inl rfl | exact Or.inr rfl) (pcall F_take hr (pa_cons (fv 0) (pa_cons (pe_op (o_add K) (pe_callB (c_len K) (by rfl) B.len PySem.boot_len (pa_cons (fv 1) pa_nil)) pe_int) pa_nil)))) (pss_cons (ps_set (i := 4) sc_like.nd rfl (by first | exact Or.inl rfl | exact Or.inr rfl) (pe_ix (x_ix K) pe_str (pcall F_take hr (pa_cons (fv 0) (pa_cons pe_int pa_nil))) (fun _ _ => rfl))) (pss_one (ps_ret (pe_slice (x_sl K) (pe_ix (x_ix K) (pe_lst (pa_cons (pe_op (o_add K) (pe_op (o_add K) (pe_slice (x_sl K) (fv 1) po_none (po_some (fv 3))) (fv 4)) (pe_slice (x_sl K) (fv 1) (po_some (pe_op (o_add K) (fv 3) pe_int)) po_none)) (pa_cons (pe_slice (x_sl K) (fv 1) po_none (po_some (pe_un o_neg pe_int))) (pa_cons (pe_op (o_add K) (fv 1) (fv 4)) pa_nil)))) (pe_op o_sub (fv 2) pe_int) (fun _ _ => rfl)) po_none (po_some pe_int)))))))))))), ?_⟩)
  · obtain ⟨st, cl, v, rfl, _⟩ := h
    rfl
  · obtain ⟨st, cl, v, rfl, hS, fv, q⟩ := h
    have three : 3 ≤ sizeLine := by decide
    refine ⟨st, cl, _, rfl, hS, by decide, fun k H1 k0 k1 g => ⟨rfl, iteD (fun e => q _ _ fv g) (fun e => nxt ?_)⟩⟩
    have kp : 0 ≤ k - 1 ∧ k - 1 < 3 := by
      have : k ≠ 0 := fun z => e (by rw [z])
      omega
    -- one of three flat values
    have pick : ∀ (xs : List V) (H2 : Hp), xs.length = 3 → (∀ u ∈ xs, FlatV u) → Go st cl H H2 → ∀ p, H2 p = none → ∃ ys v, (SqL K (upd H2 p (.lst xs)) p ys ∨ SqT K (upd H2 p (.lst xs)) p ys) ∧ atI ys (k - 1) = some v ∧ Q v (upd H2 p (.lst xs)) := by
      intro xs H2 hl hf g2 p hp
      obtain ⟨u, hu, hm⟩ := at_of (xs := xs) (i := k - 1) kp.1 (by rw [hl]; exact kp.2)
      exact ⟨xs, u, .inl (SqL.of upd_same), hu, q u _ (hf u hm) (g2.lay hS (g2.free hS hp))⟩
    cases v with
    | non =>
      refine ⟨rfl, iteD (fun _ => ⟨three, fun p hp => pick _ H1 rfl ?_ g p hp⟩) (fun z => absurd rfl z)⟩
      exact fun u hu => all_mem (p := G.flatB) (by decide +kernel) hu
    | bl b =>
      refine ⟨rfl, iteD (fun z => nomatch z) (fun _ => ⟨three, fun p hp => pick _ H1 rfl ?_ g p hp⟩)⟩
      cases b
      · exact fun u hu => all_mem (p := G.flatB) (by decide +kernel) hu
      · exact fun u hu => all_mem (p := G.flatB) (by decide +kernel) hu
    | int i =>
      have hi := numB_iff.mp fv
      refine ⟨rfl, iteD (fun z => nomatch z) (fun _ => ⟨num_log fv, Or.inl ⟨by decide, by decide⟩, rfl, three, fun p hp => pick _ H1 rfl (fun u hu => ?_) g p hp⟩)⟩
      rcases List.mem_cons.mp hu with e | hu
      · rw [e]
        exact txt_mono (n := 31) (by decide) (txt_int fv)
      · rcases List.mem_cons.mp hu with e | hu
        · rw [e]
          have go : ∀ b : Bool, b = decide (0 < i) → numB (i + 1 - 2 * (if b = true then 1 else 0)) = true := by
            intro b hb
            refine numB_iff.mpr ?_
            by_cases hi0 : 0 < i
            · rw [hb, if_pos (decide_eq_true hi0)]
              omega
            · rw [hb, if_neg (by rw [decide_eq_false hi0]; exact Bool.false_ne_true)]
              omega
          exact go _ rfl
        · rw [List.mem_singleton.mp hu]
          rfl
    | str z =>
      have hz := (txtB_iff.mp fv).1
      have lz := txt_line fv (by decide)
      refine ⟨rfl, iteD (fun z => nomatch z) (fun _ => ⟨lz, st, cl, _, rfl, g.2, by omega, fun at_ H2 a0 a1 g2 => ⟨st, cl, _, rfl, g2.2, by decide, fun r H3 r0 r1 g3 => ?_⟩⟩)⟩
      obtain ⟨c, ha, hm⟩ := at_of (xs := (Str.ofString " !0Aaz~").cps.toList) (i := r) r0 (by
        have e : (Str.ofString " !0Aaz~").cps.toList.length = 7 := by decide +kernel
        rw [e]
        omega)
      have hs : signB c = true := List.all_eq_true.mp (show (Str.ofString " !0Aaz~").cps.toList.all signB = true by decide +kernel) c hm
      have t1 : txtB 1 ⟨#[c]⟩ = true := txtB_iff.mpr ⟨Nat.le_refl 1, fun d hd => by
        rw [List.mem_singleton.mp (show d ∈ [c] from hd)]
        exact hs⟩
      have gg := (g.trans g2).trans g3
      refine ⟨by decide +kernel, c, ha, ?_⟩
      have x1 : txtB 40 (cutS z none (some at_)) = true := txt_cut fv
      have x2 : txtB 40 (cutS z (some (at_ + 1)) none) = true := txt_cut fv
      have x3 : txtB 40 (cutS z none (some (-1))) = true := txt_cut fv
      have y1 := txt_app x1 t1
      have y2 := txt_app y1 x2
      have y3 := txt_app fv t1
      have len : ∀ {n : Nat} {w : Str}, txtB n w = true → w.length ≤ n := fun h => (txtB_iff.mp h).1
      have small : ∀ n : Nat, n ≤ 1000 → n ≤ sizeLine := fun n h => Nat.le_of_lt (small1000 h)
      have l1 := len x1
      have l2 := len x2
      have l3 := len y1
      have l4 := len t1
      refine ⟨_, rfl, lz, small _ (by omega), _, rfl, lz, small _ (by omega), _, rfl, lz, small _ (by omega), three, fun p hp => ?_⟩
      obtain ⟨u, hu, hmu⟩ := at_of (xs := [V.str (cutS z none (some at_) ++ ⟨#[c]⟩ ++ cutS z (some (at_ + 1)) none), .str (cutS z none (some (-1))), .str (z ++ ⟨#[c]⟩)]) (i := k - 1) kp.1 (by exact kp.2)
      refine ⟨_, u, .inl (SqL.of upd_same), hu, ?_⟩
      have gz := gg.lay (o := .lst [V.str (cutS z none (some at_) ++ ⟨#[c]⟩ ++ cutS z (some (at_ + 1)) none), .str (cutS z none (some (-1))), .str (z ++ ⟨#[c]⟩)]) hS (gg.free hS hp)
      have fin : ∀ w : Str, txtB 81 w = true → w.length ≤ sizeLine ∧ FlatV (.str (cutS w none (some 40))) := fun w hw => ⟨txt_line hw (by decide), txt_to (m := 40) (by decide) hw⟩
      rcases List.mem_cons.mp hmu with e | hmu
      · rw [e]
        exact ⟨_, rfl, (fin _ y2).1, q _ _ (fin _ y2).2 gz⟩
      · rcases List.mem_cons.mp hmu with e | hmu
        · rw [e]
          exact ⟨_, rfl, (fin _ (txt_mono (by decide) x3)).1, q _ _ (fin _ (txt_mono (by decide) x3)).2 gz⟩
        · rw [List.mem_singleton.mp hmu]
          exact ⟨_, rfl, (fin _ (txt_mono (by decide) y3)).1, q _ _ (fin _ (txt_mono (by decide) y3)).2 gz⟩
    | _ => cases fv

/-! ### nested things -/
/-- d, at o, is a nest of flat values, of a size and a depth -/
def Nst (K : PySem.W.Frag) (H : Hp) (o : V) (d : PyData) (S D : Nat) : Prop := Dp K H o d ∧ nestD d = true ∧ sizeD d ≤ S ∧ d.depth ≤ D
theorem Nst.tk {H H' : Hp} {o : V} {d : PyData} {S D : Nat} (h : Nst K H o d S D) (t : Tk H H') : Nst K H' o d S D := ⟨Dp.tk t _ _ (nest_tup _ h.2.1) h.1, h.2⟩
theorem Nst.mono {H : Hp} {o : V} {d : PyData} {S D S' D' : Nat} (h : Nst K H o d S D) (h1 : S ≤ S') (h2 : D ≤ D') : Nst K H o d S' D' := ⟨h.1, h.2.1, Nat.le_trans h.2.2.1 h1, Nat.le_trans h.2.2.2 h2⟩
theorem flat_depth {v : V} (h : FlatV v) : (dV v).depth = 0 := by
  cases v <;> first
    | (simp [dV, PyData.depth]; done)
    | cases h
theorem Nst.flat {H : Hp} {v : V} (h : FlatV v) : Nst K H v (dV v) 1 0 := ⟨dp_flat h, flat_nest h, by rw [flat_size]; omega, by rw [flat_depth h]; omega⟩
/-- items of a tuple to be -/
structure Its (K : PySem.W.Frag) (H : Hp) (vs : List V) (ds : List PyData) (S D : Nat) : Prop where
  dp : DpAll K H vs ds
  ne : nestAll ds = true
  sz : sizeAll ds ≤ S
  de : PyData.depthAll ds ≤ D
theorem Its.nil {H : Hp} : Its K H [] [] 0 0 := ⟨.nil, rfl, Nat.le_refl _, by rw [PyData.depthAll]; exact Nat.le_refl _⟩
theorem Its.cons {H : Hp} {v : V} {d : PyData} {vs : List V} {ds : List PyData} {S D S' D' : Nat} (h : Nst K H v d S D) (t : Its K H vs ds S' D') : Its K H (v :: vs) (d :: ds) (S + S') (max D D') := by
  refine ⟨.cons h.1 t.dp, by rw [nestAll, h.2.1, t.ne]; rfl, ?_, ?_⟩
  · rw [sizeAll]
    exact Nat.add_le_add h.2.2.1 t.sz
  · rw [PyData.depthAll]
    have h1 := h.2.2.2
    have h2 := t.de
    omega
theorem Its.tk {H H' : Hp} {vs : List V} {ds : List PyData} {S D : Nat} (h : Its K H vs ds S D) (t : Tk H H') : Its K H' vs ds S D := ⟨Dp.tkAll t _ _ (nest_tups _ h.ne) h.dp, h.ne, h.sz, h.de⟩
theorem Its.tup {H : Hp} {p : Addr} {vs : List V} {ds : List PyData} {S D : Nat} (h : Its K H vs ds S D) (hp : SqT K H p vs) : Nst K H (.ref p) (.tuple ds) (S + 1) (D + 1) :=
  ⟨.tup hp h.dp, h.ne, Nat.succ_le_succ h.sz, by rw [PyData.depth]; exact Nat.succ_le_succ h.de⟩
theorem Its.mono {H : Hp} {vs : List V} {ds : List PyData} {S D S' D' : Nat} (h : Its K H vs ds S D) (h1 : S ≤ S') (h2 : D ≤ D') : Its K H vs ds S' D' := ⟨h.dp, h.ne, Nat.le_trans h.sz h1, Nat.le_trans h.de h2⟩
theorem Its.app {H : Hp} {vs us : List V} {ds es : List PyData} {S D S' D' : Nat} (h : Its K H vs ds S D) (k : Its K H us es S' D') : Its K H (vs ++ us) (ds ++ es) (S + S') (max D D') := by
  refine ⟨DpAll.app h.dp k.dp, nestAll_mem.mpr fun d hd => ?_, by rw [sizeAll_app]; exact Nat.add_le_add h.sz k.sz, ?_⟩
  · rcases List.mem_append.mp hd with z | z
    · exact nestAll_mem.mp h.ne d z
    · exact nestAll_mem.mp k.ne d z
  · have e : ∀ l : List PyData, PyData.depthAll (l ++ es) = max (PyData.depthAll l) (PyData.depthAll es) := by
      intro l
      induction l with
      | nil => rw [List.nil_append, PyData.depthAll]; omega
      | cons d l ih => rw [List.cons_append, PyData.depthAll, PyData.depthAll, ih]; omega
    rw [e]
    have h1 := h.de
    have h2 := k.de
    omega
/-- whether lap at has been -/
def bI (at_ : Int) (i : Nat) : Nat := if at_ < (i : Int) then 1 else 0
theorem bI_le (at_ : Int) (i : Nat) : bI at_ i ≤ 1 := by
  unfold bI
  split <;> omega
theorem bI_mono (at_ : Int) (i : Nat) : bI at_ i ≤ bI at_ (i + 1) := by
  unfold bI
  split <;> split <;> omega
theorem bI_at (i : Nat) : bI (i : Int) i = 0 ∧ bI (i : Int) (i + 1) = 1 := by
  unfold bI
  constructor
  · rw [if_neg (by omega)]
  · rw [if_pos (by omega)]
def sp_nested (K : PySem.W.Frag) : Sp := fun vs H Q _ => ∃ (st cl a : Addr) (xs : List V), vs = [.ref st, .ref a] ∧ Sto H st cl ∧ a ≠ st ∧ H a = some (.lst xs) ∧ xs ≠ [] ∧ xs.length ≤ 1000 ∧ (∀ v ∈ xs, FlatV v) ∧
  ∀ p o t d e H', H' p = some (.lst [o, t]) → Nst K H' o d 2000 130 → Nst K H' t e 2000 130 → Go st cl H H' → Q (.ref p) H'
theorem ok_nested {f : Addr} {fd : FuncData} (F : FnP K "_law_nested" s_nested f fd) (B : Bf mg) (F_take : Fn P w K mg base "_law_take" ["_law_store_here", "_law_many"] 2 sp_take) (F_count : Fn P w K mg base "_law_count" ["_law_store_here", "_law_least", "_law_usual", "_law_most"] 3 sp_count) (F_one : Fn P w K mg base "_law_one" ["_law_store_here", "_law_row"] 3 (sp_one K))
    (F_odds : Fn P w K mg base "_law_odds" ["_law_store_here", "_law_many"] 3 sp_odds) (F_like : Fn P w K mg base "_law_like" ["_law_store_here", "_law_value_here"] 3 sp_like) : FnOk P w K mg base CX0 4 f fd ["_law_store_here", "_law_values"] (sp_nested K) := by
  refine F.ok sc_nested (fun vs H Q E h => ?_) (fun cdv A outer s H vs Q E hr h => ⟨_, PSs.nox ((pss_cons (ps_set (i := 2) sc_nested.nd rfl (by first | exact Or.inl rfl | exact Or.inr rfl) (pcall F_one hr (pa_cons (fv 0) (pa_cons (fv 1) pa_nil)))) (pss_cons (ps_set (i := 3) sc_nested.nd rfl (by first | exact Or.inl rfl | exact Or.inr rfl) (fv 2)) (pss_cut (ps_if (q_tru K (pcall F_odds hr (pa_cons (fv 0) (pa_cons pe_int pa_nil)))) (pss_one (ps_set (i := 3) sc_nested.nd rfl (by first | exact Or.inl rfl | exact Or.inr rfl) (pcall F_like hr (pa_cons (fv 0) (pa_cons (fv 2) pa_nil))))) pss_nil) (pss_cons (ps_set (i := 4) sc_nested.nd rfl (by first | exact Or.inl rfl | exact Or.inr rfl) (pcall F_count hr (pa_cons (fv 0) (pa_cons pe_int (pa_cons pe_int (pa_cons pe_int pa_nil)))))) (pss_cons (ps_set (i := 5) sc_nested.nd rfl (by first | exact Or.inl rfl | exact Or.inr rfl) (pcall F_take hr (pa_cons (fv 0) (pa_cons (pe_op (o_add K) (fv 4) pe_int) pa_nil)))) (pss_cons (ps_set (i := 6) sc_nested.nd rfl (by first | exact Or.inl rfl | exact Or.inr rfl) (pcall F_take hr (pa_cons (fv 0) (pa_cons pe_int pa_nil)))) (pss_cons (ps_for PassesOwn.never rfl (pi_range1 (by rfl) B.range (pa_cons (fv 4) pa_nil)) (pg_name (i := 7) sc_nested.nd rfl (by first | exact Or.inl rfl | exact Or.inr rfl)) (pss_cons (ps_set (i := 8) sc_nested.nd rfl (by first | exact Or.inl rfl | exact Or.inr rfl) (pcall F_one hr (pa_cons (fv 0) (pa_cons (fv 1) pa_nil)))) (pss_cons (ps_set (i := 9) sc_nested.nd rfl (by first | exact Or.inl rfl | exact Or.inr rfl) (fv 8)) (pss_cut (ps_if (PW.pt (pw_and (q_cmp op_eq (fv 7) (fv 5)) (pw_and1 (q_cmp op_eq (fv 6) pe_int)))) (pss_one (ps_set (i := 9) sc_nested.nd rfl (by first | exact Or.inl rfl | exact Or.inr rfl) (pcall F_like hr (pa_cons (fv 0) (pa_cons (fv 8) pa_nil))))) pss_nil) (pss_cons (ps_set (i := 10) sc_nested.nd rfl (by first | exact Or.inl rfl | exact Or.inr rfl) (pcall F_take hr (pa_cons (fv 0) (pa_cons pe_int pa_nil)))) (pss_cut (ps_if (q_cmp op_eq (fv 10) pe_int) (pss_one (ps_par (i := 2) (j := 3) (by rfl) sc_nested.nd rfl rfl (by decide) rfl rfl (pa_cons (pe_tup (pa_cons (fv 2) pa_nil)) (pa_cons (pe_tup (pa_cons (fv 3) pa_nil)) pa_nil)) (by rfl))) (pss_one (ps_if (q_cmp op_eq (fv 10) pe_int) (pss_one (ps_par (i := 2) (j := 3) (by rfl) sc_nested.nd rfl rfl (by decide) rfl rfl (pa_cons (pe_tup (pa_cons (fv 2) (pa_cons (fv 8) pa_nil))) (pa_cons (pe_tup (pa_cons (fv 3) (pa_cons (fv 9) pa_nil))) pa_nil)) (by rfl))) (pss_one (ps_if (q_cmp op_eq (fv 10) pe_int) (pss_one (ps_par (i := 2) (j := 3) (by rfl) sc_nested.nd rfl rfl (by decide) rfl rfl (pa_cons (pe_tup (pa_cons (fv 8) (pa_cons (fv 2) pa_nil))) (pa_cons (pe_tup (pa_cons (fv 9) (pa_cons (fv 3) pa_nil))) pa_nil)) (by rfl))) (pss_one (ps_if (q_cmp op_eq (fv 10) pe_int) (pss_one (ps_par (i := 2) (j := 3) (by rfl) sc_nested.nd rfl rfl (by decide) rfl rfl (pa_cons (pe_tup (pa_cons (fv 8) (pa_cons (pe_tup pa_nil) (pa_cons (fv 2) pa_nil)))) (pa_cons (pe_tup (pa_cons (fv 9) (pa_cons (pe_tup pa_nil) (pa_cons (fv 3) pa_nil)))) pa_nil)) (by rfl))) (pss_one (ps_par (i := 2) (j := 3) (by rfl) sc_nested.nd rfl rfl (by decide) rfl rfl (pa_cons (pe_tup (pa_cons (pe_tup (pa_cons (fv 8) pa_nil)) (pa_cons (fv 2) pa_nil))) (pa_cons (pe_tup (pa_cons (pe_tup (pa_cons (fv 9) pa_nil)) (pa_cons (fv 3) pa_nil))) pa_nil)) (by rfl)))))))))) (pss_cut (ps_if (PW.pt (pw_and (q_cmp op_eq (fv 7) (fv 5)) (pw_and1 (q_cmp op_eq (fv 6) pe_int)))) (pss_one (ps_set (i := 3) sc_nested.nd rfl (by first | exact Or.inl rfl | exact Or.inr rfl) (pe_op (o_add K) (fv 3) (pe_tup (pa_cons (fv 8) pa_nil))))) pss_nil) (pss_one (ps_if (PW.pt (pw_and (q_cmp op_eq (fv 7) (fv 5)) (pw_and1 (q_cmp op_eq (fv 6) pe_int)))) (pss_one (ps_set (i := 3) sc_nested.nd rfl (by first | exact Or.inl rfl | exact Or.inr rfl) (pe_tup (pa_cons (fv 3) pa_nil)))) pss_nil))))))))) (pss_one (ps_ret (pe_lst (pa_cons (fv 2) (pa_cons (fv 3) pa_nil))))))))))))), ?_⟩)
  · obtain ⟨st, cl, a, xs, rfl, _⟩ := h
    rfl
  · obtain ⟨st, cl, a, xs, rfl, hS, ha, hx, hne, hn, hf, q⟩ := h
    refine ⟨st, cl, a, xs, rfl, hS, ha, .inl (SqL.of hx), hne, by omega, fun v hv H1 g1 => ?_⟩
    have fv := hf v hv
    refine cutP (fun σ1 H2 => ∃ u, σ1 = [some (.ref st), some (.ref a), some v, some u, none, none, none, none, none, none, none] ∧ FlatV u ∧ Go st cl H H2) ?_ ?_
    · rintro σ1 H2 ⟨u, rfl, fu, g2⟩
      refine ⟨st, cl, _, _, _, rfl, g2.2, by decide, by decide, by decide, fun laps H3 p0 p1 g3 => ⟨st, cl, _, rfl, g3.2, by omega, fun at_ H4 a0 a1 g4 => ⟨st, cl, _, rfl, g4.2, by decide, fun flt H5 f0 f1 g5 => ⟨_, rfl, by omega, by omega, ?_⟩⟩⟩⟩
      have g5' := ((g2.trans g3).trans g4).trans g5
      refine for_range (n := laps.toNat) (fun i σ H' => ∃ o t d e c7 c8 c9 c10, σ = [some (.ref st), some (.ref a), some o, some t, some (.int laps), some (.int at_), some (.int flt), c7, c8, c9, c10] ∧ Nst K H' o d (8 * i + 1) (i + 1 + bI at_ i) ∧ Nst K H' t e (8 * i + 1) (i + 1 + bI at_ i) ∧ Go st cl H H') ⟨v, u, _, _, _, _, _, _, rfl, (Nst.flat fv).mono (by omega) (by omega), (Nst.flat fu).mono (by omega) (by omega), g5'⟩ (fun i σ H6 hi h => ?_) (fun σ H6 h => ?_)
      · obtain ⟨o, t, d, e, c7, c8, c9, c10, rfl, ho, ht, g6⟩ := h
        refine ⟨st, cl, a, xs, rfl, g6.2, ha, .inl (SqL.of (g6.lst ha hx)), hne, by omega, fun w hw H7 g7 => ?_⟩
        have fw := hf w hw
        have G7 := g6.trans g7
        have ho7 := ho.tk (Tk.go g7 g6.2)
        have ht7 := ht.tk (Tk.go g7 g6.2)
        refine cutP (fun σ1 H2 => ∃ u, σ1 = [some (.ref st), some (.ref a), some o, some t, some (.int laps), some (.int at_), some (.int flt), some (.int (0 + (i : Int))), some w, some u, c10] ∧ FlatV u ∧ Go st cl H H2 ∧ Tk H7 H2) ?_ ?_
        · rintro σ1 H8 ⟨u2, rfl, fu2, G8, t8⟩
          refine ⟨st, cl, _, rfl, G8.2, by decide, fun sh H9 sh0 sh1 g9 => ?_⟩
          have G9 := G8.trans g9
          have t9 := Tk.go g9 G8.2
          have ho9 := (ho7.tk t8).tk t9
          have ht9 := (ht7.tk t8).tk t9
          refine cutP (fun σ1 H2 => ∃ o' d' p' ys es, σ1 = [some (.ref st), some (.ref a), some o', some (.ref p'), some (.int laps), some (.int at_), some (.int flt), some (.int (0 + (i : Int))), some w, some u2, some (.int sh)] ∧ Nst K H2 o' d' (8 * i + 5) (i + 2 + bI at_ i) ∧ SqT K H2 p' ys ∧ Its K H2 ys es (8 * i + 4) (i + 1 + bI at_ i) ∧ ys.length ≤ 3 ∧ Go st cl H H2) ?_ ?_
          · rintro σ1 H10 ⟨o', d', p', ys, es, rfl, ho', hp', hes, hlen, G10⟩
            have z1 : 1 ≤ sizeLine := by decide
            refine cutP (fun σ1 H2 => ∃ t' e', σ1 = [some (.ref st), some (.ref a), some o', some t', some (.int laps), some (.int at_), some (.int flt), some (.int (0 + (i : Int))), some w, some u2, some (.int sh)] ∧ Nst K H2 o' d' (8 * i + 5) (i + 2 + bI at_ i) ∧ Nst K H2 t' e' (8 * i + 6) (i + 2 + bI at_ i) ∧ Go st cl H H2) ?_ ?_
            · rintro σ1 H11 ⟨t', e', rfl, ho11, ht11, G11⟩
              have bm := bI_mono at_ i
              have done : ∃ o t d e c7 c8 c9 c10, [some (.ref st), some (.ref a), some o', some t', some (.int laps), some (.int at_), some (.int flt), some (.int (0 + (i : Int))), some w, some u2, some (.int sh)] = [some (V.ref st), some (.ref a), some o, some t, some (.int laps), some (.int at_), some (.int flt), c7, c8, c9, c10] ∧ Nst K H11 o d (8 * (i + 1) + 1) (i + 2 + bI at_ (i + 1)) ∧ Nst K H11 t e (8 * (i + 1) + 1) (i + 2 + bI at_ (i + 1)) ∧ Go st cl H H11 :=
                ⟨o', t', d', e', _, _, _, _, rfl, ho11.mono (by omega) (by omega), ht11.mono (by omega) (by omega), G11⟩
              refine ⟨rfl, iteD (fun e1 => ⟨rfl, iteD (fun e2 => ⟨z1, fun p hp => ?_⟩) (fun e2 => done)⟩) (fun e1 => iteF done)⟩
              have ea : at_ = (i : Int) := by
                have := V.int.inj e1
                omega
              have b0 := (bI_at i).1
              have b1 := (bI_at i).2
              rw [← ea] at b0 b1
              have tp : Tk H11 (upd H11 p (.tup [t'])) := Tk.lay hp
              exact ⟨o', .ref p, d', .tuple [e'], _, _, _, _, rfl, (ho11.tk tp).mono (by omega) (by omega), ((Its.cons (ht11.tk tp) .nil).tup (SqT.of upd_same)).mono (by omega) (by omega), G11.lay hS (G11.free hS hp)⟩
            · intro rest
              have keep := rest _ _ ⟨.ref p', .tuple es, rfl, ho', (hes.tup hp').mono (by omega) (by omega), G10⟩
              refine ⟨rfl, iteD (fun e1 => ⟨rfl, iteD (fun e2 => ⟨z1, fun p hp => ?_⟩) (fun e2 => nxt keep)⟩) (fun e1 => iteF (nxt keep))⟩
              have tp : Tk H10 (upd H10 p (.tup [w])) := Tk.lay hp
              refine Or.inr ⟨_, _, tp.tup hp', SqT.of upd_same, Nat.le_of_lt (small1000 (by show _ + 1 ≤ 1000; omega)), fun p2 H11 hp2 s11 => ?_⟩
              have t11 := tp.trans (Tk.same s11)
              exact rest _ _ ⟨.ref p2, .tuple (es ++ [dV w]), rfl, ho'.tk t11, ((Its.app (hes.tk t11) (Its.cons (Nst.flat fw) .nil)).tup hp2).mono (by omega) (by omega), (G10.lay hS (G10.free hS hp)).same s11⟩
          · intro rest
            have line : ∀ n : Nat, n ≤ 1000 → n ≤ sizeLine := fun n h => Nat.le_of_lt (small1000 h)
            -- two tuples more
            have two : ∀ (vs us : List V) (ds es : List PyData) (S D : Nat) (HA HC : Hp) (p p2 : Addr), Its K HC vs ds S D → Its K HC us es S D → S ≤ 8 * i + 4 → D ≤ i + 1 + bI at_ i → us.length ≤ 3 → SqT K HC p vs → Go st cl H HC → HC p2 = none →
                ∃ o' d' p' ys es, [some (.ref st), some (.ref a), some (.ref p), some (.ref p2), some (.int laps), some (.int at_), some (.int flt), some (.int (0 + (i : Int))), some w, some u2, some (.int sh)] = [some (V.ref st), some (.ref a), some o', some (.ref p'), some (.int laps), some (.int at_), some (.int flt), some (.int (0 + (i : Int))), some w, some u2, some (.int sh)] ∧ Nst K (upd HC p2 (.tup us)) o' d' (8 * i + 5) (i + 2 + bI at_ i) ∧ SqT K (upd HC p2 (.tup us)) p' ys ∧ Its K (upd HC p2 (.tup us)) ys es (8 * i + 4) (i + 1 + bI at_ i) ∧ ys.length ≤ 3 ∧ Go st cl H (upd HC p2 (.tup us)) := by
              intro vs us ds es S D HA HC p p2 h1 h2 hS' hD' hl hp GC hp2
              have tB : Tk HC (upd HC p2 (.tup us)) := Tk.lay hp2
              exact ⟨.ref p, .tuple ds, p2, us, es, rfl, (((h1.tk tB).mono hS' hD').tup (tB.tup hp)).mono (by omega) (by omega), SqT.of upd_same, (h2.tk tB).mono hS' hD', hl, GC.lay hS (GC.free hS hp2)⟩
            have nw : Nst K H9 w (dV w) 1 0 := Nst.flat fw
            have nu : Nst K H9 u2 (dV u2) 1 0 := Nst.flat fu2
            refine ⟨rfl, iteD (fun e => ⟨line 1 (by decide), fun p hp => ⟨line 1 (by decide), fun p2 hp2 => ?_⟩⟩) (fun e => ⟨rfl, iteD (fun e => ⟨line 2 (by decide), fun p hp => ⟨line 2 (by decide), fun p2 hp2 => ?_⟩⟩) (fun e => ⟨rfl, iteD (fun e => ⟨line 2 (by decide), fun p hp => ⟨line 2 (by decide), fun p2 hp2 => ?_⟩⟩) (fun e => ⟨rfl, iteD (fun e => ?_) (fun e => ?_)⟩)⟩)⟩)⟩
            · have tA : Tk H9 (upd H9 p (.tup [o])) := Tk.lay hp
              exact ⟨_, _, rfl, rest _ _ (two [o] [t] _ _ _ _ H9 _ p p2 (Its.tk (Its.cons ho9 .nil) tA) (Its.tk (Its.cons ht9 .nil) tA) (by omega) (by omega) (by simp) (SqT.of upd_same) (G9.lay hS (G9.free hS hp)) hp2)⟩
            · have tA : Tk H9 (upd H9 p (.tup [o, w])) := Tk.lay hp
              exact ⟨_, _, rfl, rest _ _ (two [o, w] [t, u2] _ _ _ _ H9 _ p p2 (Its.tk (Its.cons ho9 (Its.cons nw .nil)) tA) (Its.tk (Its.cons ht9 (Its.cons nu .nil)) tA) (by omega) (by omega) (by simp) (SqT.of upd_same) (G9.lay hS (G9.free hS hp)) hp2)⟩
            · have tA : Tk H9 (upd H9 p (.tup [w, o])) := Tk.lay hp
              exact ⟨_, _, rfl, rest _ _ (two [w, o] [u2, t] _ _ _ _ H9 _ p p2 (Its.tk (Its.cons nw (Its.cons ho9 .nil)) tA) (Its.tk (Its.cons nu (Its.cons ht9 .nil)) tA) (by omega) (by omega) (by simp) (SqT.of upd_same) (G9.lay hS (G9.free hS hp)) hp2)⟩
            · refine ⟨line 0 (by decide), fun a1 h1 => ⟨line 3 (by decide), fun p hp => ⟨line 0 (by decide), fun a2 h2 => ⟨line 3 (by decide), fun p2 hp2 => ?_⟩⟩⟩⟩
              have tA : Tk H9 (upd H9 a1 (.tup [])) := Tk.lay h1
              have gA := G9.lay (o := .tup []) hS (G9.free hS h1)
              have nA : Nst K (upd H9 a1 (.tup [])) (.ref a1) _ _ _ := Its.tup (Its.tk ((Its.nil : Its K H9 [] [] 0 0)) tA) (SqT.of upd_same)
              have o1 := ho9.tk tA
              have t1 := ht9.tk tA
              generalize upd H9 a1 (.tup []) = HA at hp h2 hp2 gA nA o1 t1 ⊢
              have tB : Tk HA (upd HA p (.tup [w, .ref a1, o])) := Tk.lay hp
              have gB := gA.lay (o := .tup [w, .ref a1, o]) hS (gA.free hS hp)
              have qB : SqT K (upd HA p (.tup [w, .ref a1, o])) p [w, .ref a1, o] := SqT.of upd_same
              have o2 := o1.tk tB
              have t2 := t1.tk tB
              have nA2 := nA.tk tB
              generalize upd HA p (.tup [w, .ref a1, o]) = HB at h2 hp2 gB qB o2 t2 nA2 ⊢
              have tC : Tk HB (upd HB a2 (.tup [])) := Tk.lay h2
              have gC := gB.lay (o := .tup []) hS (gB.free hS h2)
              have nC : Nst K (upd HB a2 (.tup [])) (.ref a2) _ _ _ := Its.tup (Its.nil) (SqT.of upd_same)
              exact ⟨_, _, rfl, rest _ _ (two [w, .ref a1, o] [u2, .ref a2, t] _ _ _ _ HB _ p p2 (Its.cons (Nst.flat fw) (Its.cons (nA2.tk tC) (Its.cons (o2.tk tC) .nil))) (Its.cons (Nst.flat fu2) (Its.cons nC (Its.cons (t2.tk tC) .nil))) (by omega) (by omega) (by simp) (tC.tup qB) gC hp2)⟩
            · refine ⟨line 1 (by decide), fun a1 h1 => ⟨line 2 (by decide), fun p hp => ⟨line 1 (by decide), fun a2 h2 => ⟨line 2 (by decide), fun p2 hp2 => ?_⟩⟩⟩⟩
              have tA : Tk H9 (upd H9 a1 (.tup [w])) := Tk.lay h1
              have gA := G9.lay (o := .tup [w]) hS (G9.free hS h1)
              have nA : Nst K (upd H9 a1 (.tup [w])) (.ref a1) _ _ _ := Its.tup (Its.tk (Its.cons (Nst.flat fw) .nil) tA) (SqT.of upd_same)
              have o1 := ho9.tk tA
              have t1 := ht9.tk tA
              generalize upd H9 a1 (.tup [w]) = HA at hp h2 hp2 gA nA o1 t1 ⊢
              have tB : Tk HA (upd HA p (.tup [.ref a1, o])) := Tk.lay hp
              have gB := gA.lay (o := .tup [.ref a1, o]) hS (gA.free hS hp)
              have qB : SqT K (upd HA p (.tup [.ref a1, o])) p [.ref a1, o] := SqT.of upd_same
              have o2 := o1.tk tB
              have t2 := t1.tk tB
              have nA2 := nA.tk tB
              generalize upd HA p (.tup [.ref a1, o]) = HB at h2 hp2 gB qB o2 t2 nA2 ⊢
              have tC : Tk HB (upd HB a2 (.tup [u2])) := Tk.lay h2
              have gC := gB.lay (o := .tup [u2]) hS (gB.free hS h2)
              have nC : Nst K (upd HB a2 (.tup [u2])) (.ref a2) _ _ _ := Its.tup (Its.cons (Nst.flat fu2) .nil) (SqT.of upd_same)
              exact ⟨_, _, rfl, rest _ _ (two [.ref a1, o] [.ref a2, t] _ _ _ _ HB _ p p2 (Its.cons (nA2.tk tC) (Its.cons (o2.tk tC) .nil)) (Its.cons nC (Its.cons (t2.tk tC) .nil)) (by omega) (by omega) (by simp) (tC.tup qB) gC hp2)⟩
        · intro rest
          refine ⟨rfl, iteD (fun e1 => ?_) (fun e1 => iteF (nxt (rest _ _ ⟨w, rfl, fw, G7, Tk.refl _⟩)))⟩
          refine ⟨rfl, iteD (fun e2 => ?_) (fun e2 => nxt (rest _ _ ⟨w, rfl, fw, G7, Tk.refl _⟩))⟩
          exact ⟨st, cl, w, rfl, G7.2, fw, fun u2 H8 fu2 g8 => rest _ _ ⟨u2, rfl, fu2, G7.trans g8, Tk.go g8 G7.2⟩⟩
      · obtain ⟨o, t, d, e, c7, c8, c9, c10, rfl, ho, ht, g6⟩ := h
        have hi2 : laps.toNat ≤ 127 := by omega
        have hb2 := bI_le at_ laps.toNat
        exact ⟨(by decide : 2 ≤ sizeLine), fun p hp => q p o t d e _ upd_same ((ho.mono (by omega) (by omega)).tk (Tk.lay hp)) ((ht.mono (by omega) (by omega)).tk (Tk.lay hp)) (g6.lay hS (g6.free hS hp))⟩
    · intro rest
      refine ⟨st, cl, _, rfl, g1.2, by decide, fun b H2 g2 => ?_⟩
      cases b with
      | false => exact nxt (rest _ _ ⟨v, rfl, fv, g1.trans g2⟩)
      | true => exact ⟨st, cl, v, rfl, g2.2, fv, fun u H3 fu g3 => rest _ _ ⟨u, rfl, fu, (g1.trans g2).trans g3⟩⟩

/-! ### the law -/
def sp_law (K : PySem.W.Frag) : Sp := fun vs H Q _ => ∃ (a : Addr) (ns : List Int), vs = [.ref a] ∧ SqL K H a (ns.map V.int) ∧ ns.length ≤ 63 ∧ ∀ H', Q (.bl true) H'
theorem key_at {H : Hp} {p v : V} (h : Dp K H p (keyD v)) : ∃ a x y, p = .ref a ∧ SqT K H a [x, y] ∧ x = .int (kRank v) := by
  unfold keyD at h
  cases h with
  | tup h1 h2 =>
    cases h2 with
    | cons k1 k2 =>
      cases k2 with
      | cons k3 k4 =>
        cases k4
        cases k1
        exact ⟨_, _, _, rfl, h1, rfl⟩
theorem kind_at {v : V} (h : FlatV v) : atI [V.str "none", V.str "truth", V.str "number", V.str "text"] (kRank v) = some (.str (kindS v)) := by
  cases v <;> first | rfl | cases h
theorem ok_law {f : Addr} {fd : FuncData} (F : FnP K "law" s_law f fd) (B : Bf mg) (F_store : Fn P w K mg base "_law_store" ["_law_script"] 2 (sp_store K)) (F_count : Fn P w K mg base "_law_count" ["_law_store_here", "_law_least", "_law_usual", "_law_most"] 3 sp_count) (F_value : Fn P w K mg base "_law_value" ["_law_store_here"] 5 sp_value)
    (F_like : Fn P w K mg base "_law_like" ["_law_store_here", "_law_value_here"] 3 sp_like) (F_same : Fn P w K mg base "_law_same" ["_law_left", "_law_right"] 131 (sp_same K 131)) (F_sort_key : Fn P w K mg base "_law_sort_key" ["_law_value_here"] 1 (sp_key K)) (F_kind_ofP : Fn P w K mg base "kind_of" ["value"] 1 sp_kind_ofP) (K_kind_ofP : FnK P w K mg base "kind_of" ["value"] 0 1 sp_kind_ofP)
    (F_compareP : Fn P w K mg base "compare" ["left", "right"] 3 (sp_cmpvals K)) (K_compareP : FnK P w K mg base "compare" ["left", "right"] 0 3 (sp_cmpvals K)) (F_sameP : Fn P w K mg base "same" ["left", "right"] 3 (sp_sameP K)) (K_sameP : FnK P w K mg base "same" ["left", "right"] 0 3 (sp_sameP K)) (F_nested : Fn P w K mg base "_law_nested" ["_law_store_here", "_law_values"] 4 (sp_nested K)) :
    FnOk P w K mg base CX0 132 f fd ["_law_script"] (sp_law K) := by
  refine F.ok sc_law (fun vs H Q E h => ?_) (fun cdv A outer s H vs Q E hr h => ⟨_, PSs.nox ((pss_cons (ps_set (i := 1) sc_law.nd rfl (by first | exact Or.inl rfl | exact Or.inr rfl) (pcall F_store hr (pa_cons (fv 0) pa_nil))) (pss_cons (ps_setLc (i := 2) (own := [("_law_k", 3)]) (g := gName 3) rfl sc_law.nd rfl rfl (sw_true rfl rfl rfl (by decide +kernel)) (pi_range1 (by rfl) B.range (pa_cons (pcall F_count hr (pa_cons (fv 1) (pa_cons pe_int (pa_cons pe_int (pa_cons pe_int pa_nil))))) pa_nil)) (blkOk_by (own := [("_law_k", 3)]) (N := ["_law_script", "_law_store_here", "_law_values", "_law_k", "_law_value_here", "_law_due", "_law_one_here", "_law_two", "_law_low", "_law_high"]) (sc := defScope s_law) (by decide +kernel)) (fun _ _ _ _ _ => pg_name (i := 3) sc_law.nd rfl (Or.inl rfl)) (fun _ _ _ _ _ => pts_nil) (fun _ _ _ _ _ => (pcall F_value hr (pa_cons (fv 1) pa_nil)))) (pss_cut (ps_set (i := 2) sc_law.nd rfl (by first | exact Or.inl rfl | exact Or.inr rfl) (pe_op (o_add K) (fv 2) (pe_lc (own := [("_law_value_here", 4)]) (g := gName 4) rfl sc_law.nd (p_seq K (fv 2)) (blkOk_by (own := [("_law_value_here", 4)]) (N := ["_law_script", "_law_store_here", "_law_values", "_law_k", "_law_value_here", "_law_due", "_law_one_here", "_law_two", "_law_low", "_law_high"]) (sc := defScope s_law) (by decide +kernel)) (fun _ _ _ _ _ => pg_name (i := 4) sc_law.nd rfl (Or.inl rfl)) (fun _ _ _ _ _ => pts_nil) (fun _ _ _ _ _ => (pcall F_like hr (pa_cons (fv 1) (pa_cons (fv 4) pa_nil))))))) (pss_cut (ps_for PassesOwn.never rfl (p_seq K (fv 2)) (pg_name (i := 4) sc_law.nd rfl (by first | exact Or.inl rfl | exact Or.inr rfl)) (pss_cons (ps_set (i := 5) sc_law.nd rfl (by first | exact Or.inl rfl | exact Or.inr rfl) (pe_ix (x_ix K) (pe_lst (pa_cons pe_str (pa_cons pe_str (pa_cons pe_str (pa_cons pe_str pa_nil))))) (pe_ix (x_ix K) (pcall F_sort_key hr (pa_cons (fv 4) pa_nil)) pe_int (fun _ _ => rfl)) (fun _ _ => rfl))) (pss_one (ps_if (PW.pt (pw_or (pt_not (q_tru K (pcall F_same hr (pa_cons (fv 5) (pa_cons (pcall F_kind_ofP hr (pa_cons (fv 4) pa_nil)) pa_nil))))) (pw_or1 (pt_not (q_tru K (pcall F_same hr (pa_cons (fv 5) (pa_cons (pcallK K_kind_ofP hr (pk_cons (fv 4) pk_nil)) pa_nil)))))))) (pss_one (ps_ret pe_bl)) pss_nil)))) (pss_cut (ps_for PassesOwn.never rfl (p_seq K (fv 2)) (pg_name (i := 6) sc_law.nd rfl (by first | exact Or.inl rfl | exact Or.inr rfl)) (pss_one (ps_for PassesOwn.never rfl (p_seq K (fv 2)) (pg_name (i := 7) sc_law.nd rfl (by first | exact Or.inl rfl | exact Or.inr rfl)) (pss_cons (ps_par (i := 8) (j := 9) (by rfl) sc_law.nd rfl rfl (by decide) rfl rfl (pa_cons (pcall F_sort_key hr (pa_cons (fv 6) pa_nil)) (pa_cons (pcall F_sort_key hr (pa_cons (fv 7) pa_nil)) pa_nil)) (by rfl)) (pss_cons (ps_set (i := 5) sc_law.nd rfl (by first | exact Or.inl rfl | exact Or.inr rfl) (pe_op o_sub (pe_callTy c_int (by rfl) B.int PyProof.Rows.boot_int (pa_cons (pe_cmpR (o_gtD K hr) (fv 8) (fv 9) (nomark _)) pa_nil)) (pe_callTy c_int (by rfl) B.int PyProof.Rows.boot_int (pa_cons (pe_cmpR (o_ltD K hr) (fv 8) (fv 9) (nomark _)) pa_nil)))) (pss_cons (ps_if (PW.pt (pw_or (pt_not (q_tru K (pcall F_same hr (pa_cons (fv 5) (pa_cons (pcall F_compareP hr (pa_cons (fv 6) (pa_cons (fv 7) pa_nil))) pa_nil))))) (pw_or1 (pt_not (q_tru K (pcall F_same hr (pa_cons (fv 5) (pa_cons (pcallK K_compareP hr (pk_cons (fv 6) (pk_cons (fv 7) pk_nil))) pa_nil)))))))) (pss_one (ps_ret pe_bl)) pss_nil) (pss_one (ps_if (pt_not (q_tru K (pcall F_same hr (pa_cons (pe_cmpR op_eq (fv 5) pe_int (nomark _)) (pa_cons (pcall F_sameP hr (pa_cons (fv 6) (pa_cons (fv 7) pa_nil))) pa_nil))))) (pss_one (ps_ret pe_bl)) pss_nil)))))))) (pss_cut (ps_for PassesOwn.never rfl (pi_range1 (by rfl) B.range (pa_cons pe_int pa_nil)) (pg_name (i := 3) sc_law.nd rfl (by first | exact Or.inl rfl | exact Or.inr rfl)) (pss_cons (ps_asg (pcall F_nested hr (pa_cons (fv 1) (pa_cons (fv 2) pa_nil))) (pg_lst rfl (pgs_cons (pg_name (i := 6) sc_law.nd rfl (by first | exact Or.inl rfl | exact Or.inr rfl)) (pgs_cons (pg_name (i := 7) sc_law.nd rfl (by first | exact Or.inl rfl | exact Or.inr rfl)) pgs_nil)))) (pss_cons (ps_set (i := 5) sc_law.nd rfl (by first | exact Or.inl rfl | exact Or.inr rfl) (pcall F_same hr (pa_cons (fv 6) (pa_cons (fv 7) pa_nil)))) (pss_cons (ps_if (PW.pt (pw_or (pt_not (q_tru K (pcall F_same hr (pa_cons (fv 5) (pa_cons (pcall F_sameP hr (pa_cons (fv 6) (pa_cons (fv 7) pa_nil))) pa_nil))))) (pw_or1 (pt_not (q_tru K (pcall F_same hr (pa_cons (fv 5) (pa_cons (pcall F_sameP hr (pa_cons (fv 7) (pa_cons (fv 6) pa_nil))) pa_nil)))))))) (pss_one (ps_ret pe_bl)) pss_nil) (pss_one (ps_if (PW.pt (pw_or (pt_not (q_tru K (pcall F_same hr (pa_cons pe_bl (pa_cons (pcall F_sameP hr (pa_cons (pe_tup (pa_cons (fv 6) pa_nil)) (pa_cons (fv 6) pa_nil))) pa_nil))))) (pw_or1 (pt_not (q_tru K (pcall F_same hr (pa_cons pe_bl (pa_cons (pcall F_sameP hr (pa_cons (pe_tup (pa_cons (fv 6) pa_nil)) (pa_cons (pe_tup (pa_cons (fv 6) pa_nil)) pa_nil))) pa_nil)))))))) (pss_one (ps_ret pe_bl)) pss_nil)))))) (pss_one (ps_ret (pcall F_same hr (pa_cons pe_bl (pa_cons (pcallK K_sameP hr (pk_cons (pe_ix (x_ix K) (fv 2) pe_int (fun _ _ => rfl)) (pk_cons (pe_tup (pa_cons (pe_ix (x_ix K) (fv 2) pe_int (fun _ _ => rfl)) pa_nil)) pk_nil))) pa_nil)))))))))))), ?_⟩)
  · obtain ⟨a, ns, rfl, _⟩ := h
    rfl
  · obtain ⟨a, ns, rfl, hS, hn, q⟩ := h
    have line : ∀ n : Nat, n ≤ 1000 → n ≤ sizeLine := fun n h => Nat.le_of_lt (small1000 h)
    refine ⟨a, ns, rfl, hS, by omega, fun st cl H1 hst s1 hSt => ?_⟩
    refine ⟨st, cl, _, _, _, rfl, hSt, by decide, by decide, by decide, fun n H2 n0 n1 g2 => ⟨_, rfl, by omega, by omega, fun D hD => ?_⟩⟩
    have hD1 : H1 D = none := g2.free hSt hD
    refine lc_range (n := n.toNat) (fun i H' => Go st cl H1 H' ∧ ∃ ys, H' D = some (.lst ys) ∧ ys.length = i ∧ ∀ y ∈ ys, FlatV y) ⟨g2.lay hSt hD1, [], upd_same, rfl, fun _ h => (nomatch h)⟩ (fun i H' hi h => ?_) (fun H3 h => ?_)
    · obtain ⟨g3, ys, hy, hl, hf⟩ := h
      refine ⟨rfl, st, cl, rfl, g3.2, fun v H4 hv g4 => ⟨ys, g4.lst (hSt.ne_none hD1) hy, small1000 (by omega), (g3.trans g4).lay hSt hD1, ys ++ [v], upd_same, by rw [List.length_append, hl]; rfl, fun y hm => ?_⟩⟩
      rcases List.mem_append.mp hm with h | h
      · exact hf y h
      · rw [List.mem_singleton.mp h]
        exact hv
    obtain ⟨g3, ys, hy, hl, hf⟩ := h
    have nD : D ≠ st := hSt.ne_none hD1
    refine cutP (fun σ1 H' => ∃ L vs c3 c4 c5 c6 c7 c8 c9, σ1 = [some (.ref a), some (.ref st), some (.ref L), c3, c4, c5, c6, c7, c8, c9] ∧ L ≠ st ∧ H' L = some (.lst vs) ∧ vs ≠ [] ∧ vs.length ≤ 12 ∧ (∀ v ∈ vs, FlatV v) ∧ Sto H' st cl) ?_ (fun rest => ?_)
    · rintro σ1 H4 ⟨L, vs, c3, c4, c5, c6, c7, c8, c9, rfl, nL, hL, ne, hlen, hv, hS4⟩
      -- the kinds
      refine cutP (fun σ1 H' => ∃ c3 c4 c5 c6 c7 c8 c9, σ1 = [some (.ref a), some (.ref st), some (.ref L), c3, c4, c5, c6, c7, c8, c9] ∧ Same H4 H') ?_ (fun rest => ?_)
      · rintro σ1 H5 ⟨c3, c4, c5, c6, c7, c8, c9, rfl, s5⟩
        -- the order
        refine cutP (fun σ1 H' => ∃ c3 c4 c5 c6 c7 c8 c9, σ1 = [some (.ref a), some (.ref st), some (.ref L), c3, c4, c5, c6, c7, c8, c9] ∧ Same H4 H') ?_ (fun rest => ?_)
        · rintro σ1 H6 ⟨c3, c4, c5, c6, c7, c8, c9, rfl, s6⟩
          -- nested things
          refine cutP (fun σ1 H' => ∃ c3 c4 c5 c6 c7 c8 c9, σ1 = [some (.ref a), some (.ref st), some (.ref L), c3, c4, c5, c6, c7, c8, c9] ∧ H' L = some (.lst vs)) ?_ (fun rest => ?_)
          · rintro σ1 H7 ⟨c3, c4, c5, c6, c7, c8, c9, rfl, hL7⟩
            obtain ⟨v0, r, rfl⟩ : ∃ v0 r, vs = v0 :: r := by
              cases vs with
              | nil => exact absurd rfl ne
              | cons v0 r => exact ⟨v0, r, rfl⟩
            have f0 := hv v0 (List.mem_cons_self ..)
            have at0 : atI (v0 :: r) 0 = some v0 := atI_nat (xs := v0 :: r) (j := 0) rfl
            refine ⟨_, v0, .inl (SqL.of hL7), at0, _, v0, .inl (SqL.of hL7), at0, line 1 (by decide), fun p hp => ?_⟩
            refine ⟨rfl, v0, .ref p, dV v0, .tuple [dV v0], rfl, dp_flat f0, .tup (SqT.of upd_same) (.cons (dp_flat f0) .nil), flat_nest f0, nestAll_mem.mpr (fun d hd => ?_), by rw [flat_size]; decide, fun b H8 hb s8 => ?_⟩
            · rw [List.mem_singleton.mp hd]
              exact flat_nest f0
            · have hbf : b = false := by
                cases b with
                | false => rfl
                | true =>
                  have z := hb.mp rfl
                  cases v0 <;> first | cases z; done | cases f0
              refine ⟨_, _, _, _, rfl, .bl _, .bl _, by show 0 ≤ 130; decide, fun b2 H9 hb2 s9 => ?_⟩
              obtain rfl := hb2.mpr (congrArg PyData.bool hbf.symm)
              exact q _
          · refine ⟨_, rfl, by decide, by decide, for_range (n := 3) (fun i σ H' => (∃ c3 c4 c5 c6 c7 c8 c9, σ = [some (.ref a), some (.ref st), some (.ref L), c3, c4, c5, c6, c7, c8, c9]) ∧ H' L = some (.lst vs) ∧ Sto H' st cl) ⟨⟨_, _, _, _, _, _, _, rfl⟩, s6 _ _ hL, ?_⟩ (fun i σ H' hi h => ?_) (fun σ H' h => ?_)⟩
            · exact ((Go.refl hS4).same s6).2
            · obtain ⟨⟨c3, c4, c5, c6, c7, c8, c9, rfl⟩, hL7, hS7⟩ := h
              refine ⟨st, cl, L, vs, rfl, hS7, nL, hL7, ne, by omega, hv, fun p o t d e H8 hp no nt g8 => ⟨p, [o, t], rfl, SqL.of hp, rfl, _, _, rfl, _, _, rfl, rfl, ?_⟩⟩
              refine ⟨o, t, d, e, rfl, no.1, nt.1, Nat.le_trans no.2.2.2 (by decide), fun b H9 hb s9 => ?_⟩
              have two : ∀ {b b2 : Bool}, (b = true ↔ d = e) → (b2 = true ↔ d = e) → PyData.bool b = PyData.bool b2 := fun {b b2} h1 h2 => by
                rw [Bool.eq_iff_iff.mpr (h1.trans h2.symm)]
              have szd : sizeD d ≤ 100000 := Nat.le_trans no.2.2.1 (by decide)
              have sze : sizeD e ≤ 100000 := Nat.le_trans nt.2.2.1 (by decide)
              refine ⟨o, t, d, e, rfl, Dp.same s9 _ _ no.1, Dp.same s9 _ _ nt.1, no.2.1, nt.2.1, szd, fun b2 H10 hb2 s10 => ⟨_, _, _, _, rfl, .bl _, .bl _, by show 0 ≤ 130; decide, fun b3 H11 hb3 s11 => ?_⟩⟩
              obtain rfl := hb3.mpr (two hb hb2)
              have k11 := (s9.trans s10).trans s11
              refine ⟨t, o, e, d, rfl, Dp.same k11 _ _ nt.1, Dp.same k11 _ _ no.1, nt.2.1, no.2.1, sze, fun b4 H12 hb4 s12 => ⟨_, _, _, _, rfl, .bl _, .bl _, by show 0 ≤ 130; decide, fun b5 H13 hb5 s13 => ?_⟩⟩
              obtain rfl := hb5.mpr (two hb (hb4.trans eq_comm))
              have k13 := (k11.trans s12).trans s13
              have d13 := Dp.same k13 _ _ no.1
              have n1 : nestD (.tuple [d]) = true := nestAll_mem.mpr fun x hx => by rw [List.mem_singleton.mp hx]; exact no.2.1
              have sz1 : sizeD (.tuple [d]) = sizeD d + 1 := by rw [sizeD, sizeAll, sizeAll]
              have szb : sizeD (.tuple [d]) ≤ 100000 := by
                have := no.2.2.1
                rw [sz1]
                omega
              refine nxt ⟨line 1 (by decide), fun p1 hp1 => ⟨.ref p1, o, .tuple [d], d, rfl, .tup (SqT.of upd_same) (.cons (Dp.same (same_upd hp1) _ _ d13) .nil), Dp.same (same_upd hp1) _ _ d13, n1, no.2.1, szb, fun b6 H14 hb6 s14 => ?_⟩⟩
              have hb6f : b6 = false := by
                cases b6 with
                | false => rfl
                | true =>
                  have z := congrArg sizeD (hb6.mp rfl)
                  rw [sz1] at z
                  omega
              refine ⟨_, _, _, _, rfl, .bl _, .bl _, by show 0 ≤ 130; decide, fun b7 H15 hb7 s15 => ?_⟩
              obtain rfl := hb7.mpr (congrArg PyData.bool hb6f.symm)
              have k15 := ((k13.trans (same_upd hp1)).trans s14).trans s15
              have d15 := Dp.same k15 _ _ no.1
              refine ⟨line 1 (by decide), fun p2 hp2 => ⟨line 1 (by decide), fun p3 hp3 => ?_⟩⟩
              have sX := same_upd (o := .tup [o]) hp2
              have sY := same_upd (o := .tup [o]) hp3
              have d16 := Dp.same (sX.trans sY) _ _ d15
              refine ⟨.ref p2, .ref p3, .tuple [d], .tuple [d], rfl, .tup (SqT.of (sY _ _ upd_same)) (.cons d16 .nil), .tup (SqT.of upd_same) (.cons d16 .nil), n1, n1, szb, fun b8 H16 hb8 s16 => ?_⟩
              obtain rfl := hb8.mpr rfl
              refine ⟨_, _, _, _, rfl, .bl _, .bl _, by show 0 ≤ 130; decide, fun b9 H17 hb9 s17 => ?_⟩
              obtain rfl := hb9.mpr rfl
              have kZ := (((k15.trans sX).trans sY).trans s16).trans s17
              have gZ := g8.same kZ
              exact ⟨⟨_, _, _, _, _, _, _, rfl⟩, gZ.lst nL hL7, gZ.2⟩
            · obtain ⟨⟨c3, c4, c5, c6, c7, c8, c9, rfl⟩, hL7, hS7⟩ := h
              exact rest _ _ ⟨_, _, _, _, _, _, _, rfl, hL7⟩
        · refine Or.inl ⟨⟨_, SqL.of (s5 _ _ hL)⟩, for_list (xs := vs) (fun i σ H' => (∃ c3 c4 c5 c6 c7 c8 c9, σ = [some (.ref a), some (.ref st), some (.ref L), c3, c4, c5, c6, c7, c8, c9]) ∧ Same H4 H') ⟨⟨_, _, _, _, _, _, _, rfl⟩, s5⟩ (fun i σ H' _ h => SqL.of (h.2 _ _ hL)) (fun i x σ H' hx h => ?_) (fun σ H' h => ?_)⟩
          · obtain ⟨⟨c3, c4, c5, c6, c7, c8, c9, rfl⟩, sm⟩ := h
            have fx := hv x (List.mem_of_getElem? hx)
            refine Or.inl ⟨⟨_, SqL.of (sm _ _ hL)⟩, for_list (xs := vs) (fun i σ H' => (∃ c3 c4 c5 c7 c8 c9, σ = [some (.ref a), some (.ref st), some (.ref L), c3, c4, c5, some x, c7, c8, c9]) ∧ Same H4 H') ⟨⟨_, _, _, _, _, _, rfl⟩, sm⟩ (fun i σ H' _ h => SqL.of (h.2 _ _ hL)) (fun i y σ H' hy h => ?_) (fun σ H' h => ?_)⟩
            · obtain ⟨⟨c3, c4, c5, c7, c8, c9, rfl⟩, sm⟩ := h
              have fy := hv y (List.mem_of_getElem? hy)
              refine ⟨x, rfl, fx, fun k1 H7 d1 s7 => ⟨y, rfl, fy, fun k2 H8 d2 s8 => ⟨_, _, rfl, ?_⟩⟩⟩
              have d1' := Dp.same s8 _ _ d1
              refine ⟨_, _, _, d1', d2, shaped_key fx, shaped_key fy, ltD_k fx fy, _, _, _, d1', d2, shaped_key fx, shaped_key fy, ltD_k fx fy, ?_⟩
              have od := ord_diff (fl1 fx) (fl1 fy)
              have s78 := (sm.trans s7).trans s8
              refine ⟨x, y, rfl, fx, fy, fun H9 s9 => ⟨_, _, _, _, rfl, .int _, .int _, by show 0 ≤ 130; decide, fun b H10 hb s10 => ?_⟩⟩
              obtain rfl := hb.mpr (congrArg PyData.int od)
              refine ⟨rfl, x, y, rfl, fx, fy, fun H11 s11 => ⟨_, _, _, _, rfl, .int _, .int _, by show 0 ≤ 130; decide, fun b H12 hb s12 => ?_⟩⟩
              obtain rfl := hb.mpr (congrArg PyData.int od)
              have sA := (((s78.trans s9).trans s10).trans s11).trans s12
              refine nxt ⟨rfl, x, y, dV x, dV y, rfl, dp_flat fx, dp_flat fy, flat_nest fx, flat_nest fy, by rw [flat_size]; decide, fun b H13 hb s13 => ⟨_, _, _, _, rfl, .bl _, .bl _, by show 0 ≤ 130; decide, fun b2 H14 hb2 s14 => ?_⟩⟩
              have hbz : ∀ i : Int, i = rowOrd [x] [y] → decide (V.int i = V.int 0) = b := by
                intro i hi
                rw [hi]
                by_cases e : x = y
                · rw [hb.mpr ((flat_inj fx fy).mpr e)]
                  exact decide_eq_true (congrArg V.int ((ord_zero fx fy).mpr e))
                · have : b = false := by
                    cases b with
                    | false => rfl
                    | true => exact absurd ((flat_inj fx fy).mp (hb.mp rfl)) e
                  rw [this]
                  exact decide_eq_false fun z => e ((ord_zero fx fy).mp (V.int.inj z))
              obtain rfl := hb2.mpr (congrArg PyData.bool (hbz _ od))
              exact ⟨⟨_, _, _, _, _, _, rfl⟩, (sA.trans s13).trans s14⟩
            · obtain ⟨⟨c3, c4, c5, c7, c8, c9, rfl⟩, sm⟩ := h
              exact ⟨⟨_, _, _, _, _, _, _, rfl⟩, sm⟩
          · obtain ⟨⟨c3, c4, c5, c6, c7, c8, c9, rfl⟩, sm⟩ := h
            exact rest _ _ ⟨_, _, _, _, _, _, _, rfl, sm⟩
      · refine Or.inl ⟨⟨_, SqL.of hL⟩, for_list (xs := vs) (fun i σ H' => (∃ c3 c4 c5 c6 c7 c8 c9, σ = [some (.ref a), some (.ref st), some (.ref L), c3, c4, c5, c6, c7, c8, c9]) ∧ Same H4 H') ⟨⟨_, _, _, _, _, _, _, rfl⟩, Same.refl _⟩ (fun i σ H' _ h => SqL.of (h.2 _ _ hL)) (fun i v σ H' hx h => ?_) (fun σ H' h => ?_)⟩
        · obtain ⟨⟨c3, c4, c5, c6, c7, c8, c9, rfl⟩, sm⟩ := h
          have fv := hv v (List.mem_of_getElem? hx)
          refine ⟨line 4 (by decide), fun p hp => ⟨v, rfl, fv, fun k Hk dk sk => ?_⟩⟩
          obtain ⟨ka, x, y, rfl, hk, rfl⟩ := key_at dk
          have sp := same_upd (o := .lst [V.str "none", V.str "truth", V.str "number", V.str "text"]) hp
          refine ⟨_, _, .inr hk, rfl, _, _, .inl (SqL.of (sk _ _ upd_same)), kind_at fv, ?_⟩
          refine ⟨v, rfl, fv, _, _, _, _, rfl, .str _, .str _, by show 0 ≤ 130; decide, fun b H7 hb s7 => ?_⟩
          obtain rfl := hb.mpr rfl
          refine ⟨rfl, v, rfl, fv, _, _, _, _, rfl, .str _, .str _, by show 0 ≤ 130; decide, fun b H8 hb s8 => ?_⟩
          obtain rfl := hb.mpr rfl
          exact ⟨⟨_, _, _, _, _, _, _, rfl⟩, (((sm.trans sp).trans sk).trans s7).trans s8⟩
        · obtain ⟨⟨c3, c4, c5, c6, c7, c8, c9, rfl⟩, sm⟩ := h
          exact rest _ _ ⟨_, _, _, _, _, _, _, rfl, sm⟩
    · have hyn : ys.length ≤ 6 := by omega
      refine Or.inl ⟨⟨_, SqL.of hy⟩, fun D2 hD2 => lc_list (xs := ys) (fun i H' => Go st cl H1 H' ∧ H' D = some (.lst ys) ∧ ∃ zs, H' D2 = some (.lst zs) ∧ zs.length = i ∧ ∀ z ∈ zs, FlatV z) ⟨g3.lay hSt (g3.free hSt hD2), by rw [upd_ne (ne_of_none hy hD2)]; exact hy, [], upd_same, rfl, fun _ h => (nomatch h)⟩ (fun i H' _ h => SqL.of h.2.1) (fun i x H' hx h => ?_) (fun H4 h => ?_)⟩
      · obtain ⟨g4, hy4, zs, hz4, hl4, hf4⟩ := h
        have hi : i < ys.length := (List.getElem?_eq_some_iff.mp hx).1
        have n2 : D2 ≠ st := hSt.ne_none (g3.free hSt hD2)
        refine ⟨rfl, st, cl, x, rfl, g4.2, hf x (List.mem_of_getElem? hx), fun u H5 fu g5 => ⟨zs, g5.lst n2 hz4, small1000 (by omega), (g4.trans g5).lay hSt (g3.free hSt hD2), ?_, zs ++ [u], upd_same, by rw [List.length_append, hl4]; rfl, fun y hm => ?_⟩⟩
        · rw [upd_ne (ne_of_none hy hD2)]
          exact g5.lst nD hy4
        · rcases List.mem_append.mp hm with h | h
          · exact hf4 y h
          · rw [List.mem_singleton.mp h]
            exact fu
      · obtain ⟨g4, hy4, zs, hz4, hl4, hf4⟩ := h
        refine Or.inl ⟨_, _, hy4, hz4, line _ (by omega), fun p hp => rest _ _ ⟨p, ys ++ zs, _, _, _, _, _, _, _, rfl, hSt.ne_none (g4.free hSt hp), upd_same, ?_, by rw [List.length_append]; omega, fun v hv => ?_, (g4.lay hSt (g4.free hSt hp)).2⟩⟩
        · intro z
          have := congrArg List.length z
          rw [List.length_append, List.length_nil] at this
          omega
        · rcases List.mem_append.mp hv with h | h
          · exact hf v h
          · exact hf4 v h

end
def d_kind_ofP : He.DefD := ⟨("kind_of", none), "kind_of", "kind_of", defArgs s_kind_ofP, defBody s_kind_ofP, defScope s_kind_ofP, [], []⟩
def d_sort_keyP : He.DefD := ⟨("sort_key", none), "sort_key", "sort_key", defArgs s_sort_keyP, defBody s_sort_keyP, defScope s_sort_keyP, [], []⟩
def d_own_compared_keysP : He.DefD := ⟨("own_compared_keys", none), "own_compared_keys", "own_compared_keys", defArgs s_own_compared_keysP, defBody s_own_compared_keysP, defScope s_own_compared_keysP, [], []⟩
def d_compareP : He.DefD := ⟨("compare", none), "compare", "compare", defArgs s_compareP, defBody s_compareP, defScope s_compareP, [], []⟩
def d_sameP : He.DefD := ⟨("same", none), "same", "same", defArgs s_sameP, defBody s_sameP, defScope s_sameP, [], []⟩
def d_mix : He.DefD := ⟨("_law_mix", none), "_law_mix", "_law_mix", defArgs s_mix, defBody s_mix, defScope s_mix, [], []⟩
def d_store : He.DefD := ⟨("_law_store", none), "_law_store", "_law_store", defArgs s_store, defBody s_store, defScope s_store, [], []⟩
def d_take : He.DefD := ⟨("_law_take", none), "_law_take", "_law_take", defArgs s_take, defBody s_take, defScope s_take, [], []⟩
def d_odds : He.DefD := ⟨("_law_odds", none), "_law_odds", "_law_odds", defArgs s_odds, defBody s_odds, defScope s_odds, [], []⟩
def d_count : He.DefD := ⟨("_law_count", none), "_law_count", "_law_count", defArgs s_count, defBody s_count, defScope s_count, [], []⟩
def d_one : He.DefD := ⟨("_law_one", none), "_law_one", "_law_one", defArgs s_one, defBody s_one, defScope s_one, [], []⟩
def d_number : He.DefD := ⟨("_law_number", none), "_law_number", "_law_number", defArgs s_number, defBody s_number, defScope s_number, [], []⟩
def d_text : He.DefD := ⟨("_law_text", none), "_law_text", "_law_text", defArgs s_text, defBody s_text, defScope s_text, [], []⟩
def d_value : He.DefD := ⟨("_law_value", none), "_law_value", "_law_value", defArgs s_value, defBody s_value, defScope s_value, [], []⟩
def d_same : He.DefD := ⟨("_law_same", none), "_law_same", "_law_same", defArgs s_same, defBody s_same, defScope s_same, [], []⟩
def d_sort_key : He.DefD := ⟨("_law_sort_key", none), "_law_sort_key", "_law_sort_key", defArgs s_sort_key, defBody s_sort_key, defScope s_sort_key, [], []⟩
def d_like : He.DefD := ⟨("_law_like", none), "_law_like", "_law_like", defArgs s_like, defBody s_like, defScope s_like, [], []⟩
def d_nested : He.DefD := ⟨("_law_nested", none), "_law_nested", "_law_nested", defArgs s_nested, defBody s_nested, defScope s_nested, [], []⟩
def d_law : He.DefD := ⟨("law", none), "law", "law", defArgs s_law, defBody s_law, defScope s_law, [], []⟩
def fn : List He.DefD := [d_kind_ofP, d_sort_keyP, d_own_compared_keysP, d_compareP, d_sameP, d_mix, d_store, d_take, d_odds, d_count, d_one, d_number, d_text, d_value, d_same, d_sort_key, d_like, d_nested, d_law]
def fa : List He.Fa := [.glo "kind_of", .glo "sort_key", .glo "own_compared_keys", .glo "compare", .glo "same", .glo "_law_mix", .glo "_law_store", .glo "_law_take", .glo "_law_odds", .glo "_law_count", .glo "_law_one", .glo "_law_number", .glo "_law_text", .glo "_law_value", .glo "_law_same", .glo "_law_sort_key", .glo "_law_like", .glo "_law_nested", .glo "law", .free "len", .free "int", .free "str", .free "bool", .free "tuple", .free "list", .free "dict", .free "range", .free "isinstance", .free "min", .free "max", .free "sorted", .free "zip", .free "enumerate", .free "sum", .free "any", .free "all", .free "ord"]
abbrev R : PySem.W.OpenRow := PySem.W.OpenLaw.row PySem.Challenge.rw_storedesk_k00_compare_values
abbrev hk : PySem.W.Hook := He.hookD 4 fa fn
def ob (s : PySem.W.SharedT) : He.AlD := He.obsDG 4 fa fn (HandSHeadRun.getT s)
theorem ob_eq (s : PySem.W.SharedT) : ob s = hk.obs s.abs := He.obsDG_eq (HandSHeadRun.getT_eq s)
theorem run (w : World) : HandSHeadRun.RunEq R (PySem.W.view R.prog [20]) hk ob 1540 ["kind_of", "sort_key", "own_compared_keys", "compare", "same", "_law_mix", "_law_store", "_law_take", "_law_odds", "_law_count", "_law_one", "_law_number", "_law_text", "_law_value", "_law_same", "_law_sort_key", "_law_like", "_law_nested"] w := by
  intro os
  kernel_rfl
theorem facts {P : Program} {w : World} {K : PySem.W.Frag} {h : Heap} {mg : Str → Option Value} {f : Addr} (X : K.In h) (G : h.Ns mainGlobals mg) (hfa : mg ("law" : Str) = some (.ref f)) (c : He.SaysD fa fn K) :
    ∃ fd : FuncData, (∀ (s : Shared) (v : Value), BindsTo s fd ⟨[v], []⟩ [("_law_script", v)]) ∧ ∀ base : Heap, K.In base → base.Ns mainGlobals mg → FnOk P w K mg base CX0 132 f fd ["_law_script"] (sp_law K) := by
  obtain ⟨fd0, X0⟩ := c.def_ 0 (d := d_kind_ofP) rfl
  obtain ⟨fd1, X1⟩ := c.def_ 1 (d := d_sort_keyP) rfl
  obtain ⟨fd2, X2⟩ := c.def_ 2 (d := d_own_compared_keysP) rfl
  obtain ⟨fd3, X3⟩ := c.def_ 3 (d := d_compareP) rfl
  obtain ⟨fd4, X4⟩ := c.def_ 4 (d := d_sameP) rfl
  obtain ⟨fd5, X5⟩ := c.def_ 5 (d := d_mix) rfl
  obtain ⟨fd6, X6⟩ := c.def_ 6 (d := d_store) rfl
  obtain ⟨fd7, X7⟩ := c.def_ 7 (d := d_take) rfl
  obtain ⟨fd8, X8⟩ := c.def_ 8 (d := d_odds) rfl
  obtain ⟨fd9, X9⟩ := c.def_ 9 (d := d_count) rfl
  obtain ⟨fd10, X10⟩ := c.def_ 10 (d := d_one) rfl
  obtain ⟨fd11, X11⟩ := c.def_ 11 (d := d_number) rfl
  obtain ⟨fd12, X12⟩ := c.def_ 12 (d := d_text) rfl
  obtain ⟨fd13, X13⟩ := c.def_ 13 (d := d_value) rfl
  obtain ⟨fd14, X14⟩ := c.def_ 14 (d := d_same) rfl
  obtain ⟨fd15, X15⟩ := c.def_ 15 (d := d_sort_key) rfl
  obtain ⟨fd16, X16⟩ := c.def_ 16 (d := d_like) rfl
  obtain ⟨fd17, X17⟩ := c.def_ 17 (d := d_nested) rfl
  obtain ⟨fd18, X18⟩ := c.def_ 18 (d := d_law) rfl
  have e := hfa.symm.trans (He.glo_ok X G (c.fact 18 (f := .glo "law") rfl))
  cases e
  have b := FunD.bindsA (ps := ["_law_script"]) X18 fun _ _ _ _ _ _ us hl => match us, hl with | [_], _ => rfl
  have B : Bf mg := ⟨He.free_ok X G (c.fact 19 (f := .free "len") rfl), He.free_ok X G (c.fact 20 (f := .free "int") rfl), He.free_ok X G (c.fact 21 (f := .free "str") rfl), He.free_ok X G (c.fact 22 (f := .free "bool") rfl), He.free_ok X G (c.fact 23 (f := .free "tuple") rfl), He.free_ok X G (c.fact 24 (f := .free "list") rfl), He.free_ok X G (c.fact 25 (f := .free "dict") rfl), He.free_ok X G (c.fact 26 (f := .free "range") rfl), He.free_ok X G (c.fact 27 (f := .free "isinstance") rfl), He.free_ok X G (c.fact 28 (f := .free "min") rfl), He.free_ok X G (c.fact 29 (f := .free "max") rfl), He.free_ok X G (c.fact 30 (f := .free "sorted") rfl), He.free_ok X G (c.fact 31 (f := .free "zip") rfl), He.free_ok X G (c.fact 32 (f := .free "enumerate") rfl), He.free_ok X G (c.fact 33 (f := .free "sum") rfl), He.free_ok X G (c.fact 34 (f := .free "any") rfl), He.free_ok X G (c.fact 35 (f := .free "all") rfl), He.free_ok X G (c.fact 36 (f := .free "ord") rfl)⟩
  refine ⟨fd18, fun s v => b s [v] rfl, fun base _ _ => ?_⟩
  have G5 := He.glo_ok X G (c.fact 5 (f := .glo "_law_mix") rfl)
  have B5 : Binds K fd5 ["_law_number_here", "_law_turn"] [] := X5.bindsN fun _ _ _ _ _ _ us hl => match us, hl with | [_, _], _ => rfl
  have O5 : FnOk P w K mg base CX0 1 _ fd5 ["_law_number_here", "_law_turn"] (sp_mix) := ok_mix X5 B 
  have F_mix : Fn P w K mg base "_law_mix" ["_law_number_here", "_law_turn"] 1 (sp_mix) := ⟨_, fd5, O5, G5, X5.kp, B5⟩
  have G6 := He.glo_ok X G (c.fact 6 (f := .glo "_law_store") rfl)
  have B6 : Binds K fd6 ["_law_script"] [] := X6.bindsN fun _ _ _ _ _ _ us hl => match us, hl with | [_], _ => rfl
  have O6 : FnOk P w K mg base CX0 2 _ fd6 ["_law_script"] (sp_store K) := ok_store X6 B F_mix
  have F_store : Fn P w K mg base "_law_store" ["_law_script"] 2 (sp_store K) := ⟨_, fd6, O6, G6, X6.kp, B6⟩
  have G7 := He.glo_ok X G (c.fact 7 (f := .glo "_law_take") rfl)
  have B7 : Binds K fd7 ["_law_store_here", "_law_many"] [] := X7.bindsN fun _ _ _ _ _ _ us hl => match us, hl with | [_, _], _ => rfl
  have O7 : FnOk P w K mg base CX0 2 _ fd7 ["_law_store_here", "_law_many"] (sp_take) := ok_take X7 B F_mix
  have F_take : Fn P w K mg base "_law_take" ["_law_store_here", "_law_many"] 2 (sp_take) := ⟨_, fd7, O7, G7, X7.kp, B7⟩
  have G9 := He.glo_ok X G (c.fact 9 (f := .glo "_law_count") rfl)
  have B9 : Binds K fd9 ["_law_store_here", "_law_least", "_law_usual", "_law_most"] [] := X9.bindsN fun _ _ _ _ _ _ us hl => match us, hl with | [_, _, _, _], _ => rfl
  have O9 : FnOk P w K mg base CX0 3 _ fd9 ["_law_store_here", "_law_least", "_law_usual", "_law_most"] (sp_count) := ok_count X9 B F_take
  have F_count : Fn P w K mg base "_law_count" ["_law_store_here", "_law_least", "_law_usual", "_law_most"] 3 (sp_count) := ⟨_, fd9, O9, G9, X9.kp, B9⟩
  have G10 := He.glo_ok X G (c.fact 10 (f := .glo "_law_one") rfl)
  have B10 : Binds K fd10 ["_law_store_here", "_law_row"] [] := X10.bindsN fun _ _ _ _ _ _ us hl => match us, hl with | [_, _], _ => rfl
  have O10 : FnOk P w K mg base CX0 3 _ fd10 ["_law_store_here", "_law_row"] (sp_one K) := ok_one X10 B F_take
  have F_one : Fn P w K mg base "_law_one" ["_law_store_here", "_law_row"] 3 (sp_one K) := ⟨_, fd10, O10, G10, X10.kp, B10⟩
  have G11 := He.glo_ok X G (c.fact 11 (f := .glo "_law_number") rfl)
  have B11 : Binds K fd11 ["_law_store_here"] [] := X11.bindsN fun _ _ _ _ _ _ us hl => match us, hl with | [_], _ => rfl
  have O11 : FnOk P w K mg base CX0 3 _ fd11 ["_law_store_here"] (sp_number) := ok_number X11 B F_take
  have F_number : Fn P w K mg base "_law_number" ["_law_store_here"] 3 (sp_number) := ⟨_, fd11, O11, G11, X11.kp, B11⟩
  have G12 := He.glo_ok X G (c.fact 12 (f := .glo "_law_text") rfl)
  have B12 : Binds K fd12 ["_law_store_here", "_law_most"] [] := X12.bindsN fun _ _ _ _ _ _ us hl => match us, hl with | [_, _], _ => rfl
  have O12 : FnOk P w K mg base CX0 4 _ fd12 ["_law_store_here", "_law_most"] (sp_text) := ok_text X12 B F_take F_count
  have F_text : Fn P w K mg base "_law_text" ["_law_store_here", "_law_most"] 4 (sp_text) := ⟨_, fd12, O12, G12, X12.kp, B12⟩
  have G13 := He.glo_ok X G (c.fact 13 (f := .glo "_law_value") rfl)
  have B13 : Binds K fd13 ["_law_store_here"] [] := X13.bindsN fun _ _ _ _ _ _ us hl => match us, hl with | [_], _ => rfl
  have O13 : FnOk P w K mg base CX0 5 _ fd13 ["_law_store_here"] (sp_value) := ok_value X13 B F_take F_number F_text
  have F_value : Fn P w K mg base "_law_value" ["_law_store_here"] 5 (sp_value) := ⟨_, fd13, O13, G13, X13.kp, B13⟩
  have G0 := He.glo_ok X G (c.fact 0 (f := .glo "kind_of") rfl)
  have B0 : Binds K fd0 ["value"] [] := X0.bindsN fun _ _ _ _ _ _ us hl => match us, hl with | [_], _ => rfl
  have O0 : FnOk P w K mg base CX0 1 _ fd0 ["value"] (sp_kind_ofP) := ok_kind_ofP X0 B 
  have F_kind_ofP : Fn P w K mg base "kind_of" ["value"] 1 (sp_kind_ofP) := ⟨_, fd0, O0, G0, X0.kp, B0⟩
  have K_kind_ofP : FnK P w K mg base "kind_of" ["value"] 0 1 (sp_kind_ofP) := ⟨⟨_, fd0, O0, G0, X0.kp, fun_kb (x := "kind_of") (st := s_kind_ofP) (n := 0) X0 fun _ _ _ _ _ _ us ws h1 h2 => match us, ws, h1, h2 with | [], [_], _, _ => rfl⟩, Nat.zero_le _⟩
  have G1 := He.glo_ok X G (c.fact 1 (f := .glo "sort_key") rfl)
  have B1 : Binds K fd1 ["value"] [] := X1.bindsN fun _ _ _ _ _ _ us hl => match us, hl with | [_], _ => rfl
  have O1 : FnOk P w K mg base CX0 2 _ fd1 ["value"] (sp_key K) := ok_sort_keyP X1 B F_kind_ofP
  have F_sort_keyP : Fn P w K mg base "sort_key" ["value"] 2 (sp_key K) := ⟨_, fd1, O1, G1, X1.kp, B1⟩
  have G2 := He.glo_ok X G (c.fact 2 (f := .glo "own_compared_keys") rfl)
  have B2 : Binds K fd2 ["left", "right"] [] := X2.bindsN fun _ _ _ _ _ _ us hl => match us, hl with | [_, _], _ => rfl
  have O2 : FnOk P w K mg base CX0 1 _ fd2 ["left", "right"] (sp_cmpkeys K) := ok_own_compared_keysP X2 B 
  have F_own_compared_keysP : Fn P w K mg base "own_compared_keys" ["left", "right"] 1 (sp_cmpkeys K) := ⟨_, fd2, O2, G2, X2.kp, B2⟩
  have G3 := He.glo_ok X G (c.fact 3 (f := .glo "compare") rfl)
  have B3 : Binds K fd3 ["left", "right"] [] := X3.bindsN fun _ _ _ _ _ _ us hl => match us, hl with | [_, _], _ => rfl
  have O3 : FnOk P w K mg base CX0 3 _ fd3 ["left", "right"] (sp_cmpvals K) := ok_compareP X3 B F_sort_keyP F_own_compared_keysP
  have F_compareP : Fn P w K mg base "compare" ["left", "right"] 3 (sp_cmpvals K) := ⟨_, fd3, O3, G3, X3.kp, B3⟩
  have K_compareP : FnK P w K mg base "compare" ["left", "right"] 0 3 (sp_cmpvals K) := ⟨⟨_, fd3, O3, G3, X3.kp, fun_kb (x := "compare") (st := s_compareP) (n := 0) X3 fun _ _ _ _ _ _ us ws h1 h2 => match us, ws, h1, h2 with | [], [_, _], _, _ => rfl⟩, Nat.zero_le _⟩
  have G4 := He.glo_ok X G (c.fact 4 (f := .glo "same") rfl)
  have B4 : Binds K fd4 ["left", "right"] [] := X4.bindsN fun _ _ _ _ _ _ us hl => match us, hl with | [_, _], _ => rfl
  have O4 : FnOk P w K mg base CX0 3 _ fd4 ["left", "right"] (sp_sameP K) := ok_sameP X4 B F_sort_keyP
  have F_sameP : Fn P w K mg base "same" ["left", "right"] 3 (sp_sameP K) := ⟨_, fd4, O4, G4, X4.kp, B4⟩
  have K_sameP : FnK P w K mg base "same" ["left", "right"] 0 3 (sp_sameP K) := ⟨⟨_, fd4, O4, G4, X4.kp, fun_kb (x := "same") (st := s_sameP) (n := 0) X4 fun _ _ _ _ _ _ us ws h1 h2 => match us, ws, h1, h2 with | [], [_, _], _, _ => rfl⟩, Nat.zero_le _⟩
  have G8 := He.glo_ok X G (c.fact 8 (f := .glo "_law_odds") rfl)
  have B8 : Binds K fd8 ["_law_store_here", "_law_many"] [] := X8.bindsN fun _ _ _ _ _ _ us hl => match us, hl with | [_, _], _ => rfl
  have O8 : FnOk P w K mg base CX0 3 _ fd8 ["_law_store_here", "_law_many"] (sp_odds) := ok_odds X8 B F_take
  have F_odds : Fn P w K mg base "_law_odds" ["_law_store_here", "_law_many"] 3 (sp_odds) := ⟨_, fd8, O8, G8, X8.kp, B8⟩
  have G16 := He.glo_ok X G (c.fact 16 (f := .glo "_law_like") rfl)
  have B16 : Binds K fd16 ["_law_store_here", "_law_value_here"] [] := X16.bindsN fun _ _ _ _ _ _ us hl => match us, hl with | [_, _], _ => rfl
  have O16 : FnOk P w K mg base CX0 3 _ fd16 ["_law_store_here", "_law_value_here"] (sp_like) := ok_like X16 B F_take
  have F_like : Fn P w K mg base "_law_like" ["_law_store_here", "_law_value_here"] 3 (sp_like) := ⟨_, fd16, O16, G16, X16.kp, B16⟩
  have G17 := He.glo_ok X G (c.fact 17 (f := .glo "_law_nested") rfl)
  have B17 : Binds K fd17 ["_law_store_here", "_law_values"] [] := X17.bindsN fun _ _ _ _ _ _ us hl => match us, hl with | [_, _], _ => rfl
  have O17 : FnOk P w K mg base CX0 4 _ fd17 ["_law_store_here", "_law_values"] (sp_nested K) := ok_nested X17 B F_take F_count F_one F_odds F_like
  have F_nested : Fn P w K mg base "_law_nested" ["_law_store_here", "_law_values"] 4 (sp_nested K) := ⟨_, fd17, O17, G17, X17.kp, B17⟩
  have G14 := He.glo_ok X G (c.fact 14 (f := .glo "_law_same") rfl)
  have B14 : Binds K fd14 ["_law_left", "_law_right"] [] := X14.bindsN fun _ _ _ _ _ _ us hl => match us, hl with | [_, _], _ => rfl
  have O14 : FnOk P w K mg base CX0 131 _ fd14 ["_law_left", "_law_right"] (sp_same K 131) := ok_same X14 B G14 X14.kp B14 131
  have F_same : Fn P w K mg base "_law_same" ["_law_left", "_law_right"] 131 (sp_same K 131) := ⟨_, fd14, O14, G14, X14.kp, B14⟩
  have G15 := He.glo_ok X G (c.fact 15 (f := .glo "_law_sort_key") rfl)
  have B15 : Binds K fd15 ["_law_value_here"] [] := X15.bindsN fun _ _ _ _ _ _ us hl => match us, hl with | [_], _ => rfl
  have O15 : FnOk P w K mg base CX0 1 _ fd15 ["_law_value_here"] (sp_key K) := ok_sort_key X15 B 
  have F_sort_key : Fn P w K mg base "_law_sort_key" ["_law_value_here"] 1 (sp_key K) := ⟨_, fd15, O15, G15, X15.kp, B15⟩
  exact ok_law X18 B F_store F_count F_value F_like F_same F_sort_key F_kind_ofP K_kind_ofP F_compareP K_compareP F_sameP K_sameP F_nested
end Sd
open PySem PySem.W PySem.Calls PyProof.Rows
set_option maxHeartbeats 0 in
theorem PySem.Challenge.cw_storedesk_k00_compare_values_holds : PySem.Challenge.rw_storedesk_k00_compare_values.Holds := by
  w_on; o_law
  refine HandSHeadRun.head_any (r := OpenLaw.row PySem.Challenge.rw_storedesk_k00_compare_values) (q := view (OpenLaw.row PySem.Challenge.rw_storedesk_k00_compare_values).prog [20]) (H := Sd.hk) (ob := Sd.ob) (M := 1540) (loose := ["kind_of", "sort_key", "own_compared_keys", "compare", "same", "_law_mix", "_law_store", "_law_take", "_law_odds", "_law_count", "_law_one", "_law_number", "_law_text", "_law_value", "_law_same", "_law_sort_key", "_law_like", "_law_nested"]) (d := HandSHeadRun.topDef (OpenLaw.row PySem.Challenge.rw_storedesk_k00_compare_values).prog 20) (kwd := []) Sd.ob_eq
    (by kernel_rfl) (fun s => by kernel_rfl) Sd.run (by kernel_rfl) (by kernel_rfl) (by kernel_rfl) (by rfl) (by first | assumption | decide +kernel) (by decide +kernel) ⟨rfl, rfl, rfl, rfl, rfl, by decide +kernel⟩ ?hw ?hc
  case hw => w_witness2
  case hc =>
    refine L2.walk_ofE (l := PySem.Challenge.rw_storedesk_k00_compare_values) (n := 63) (k := 132) (x := "_law_script") (CX := L2.CX0) rfl (by decide) (by kernel_rfl) ⟨rfl, by decide, by decide⟩ ?F (fun _ _ _ _ z => z)
    intro w mg fa h Y G hmg0
    obtain ⟨K, KX, c⟩ := Y
    have hmg : mg ("law" : PySem.Str) = some (.ref fa) := by
      have e : (HandSHeadRun.topDef (OpenLaw.row PySem.Challenge.rw_storedesk_k00_compare_values).prog 20).name = ("law" : PySem.Str) := by kernel_rfl
      rw [← e]
      exact hmg0
    obtain ⟨fd, hb, hF⟩ := Sd.facts (P := (PySem.Challenge.rw_storedesk_k00_compare_values).prog) (w := w) KX G hmg c
    exact ⟨K, fd, Sd.sp_law K, KX, hb, fun H a ns hl _ hS => ⟨a, ns, rfl, hS, hl, fun _ => rfl⟩, hF⟩

