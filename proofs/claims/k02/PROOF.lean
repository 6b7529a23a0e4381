import PyProof.Rows.All
import Wide.All
import OpenK.AllK
import Wide.FinOn
import HandS.ForMost
import HandS.IsInst
import HandS.Wide
import HandS.Flow
import HandS.Defaults
import HandS.TupAny
import HandS.Codes
import HandS.TupLe
import HandS.Zip0
import KE.KDictZip
import KE.KItemsList
import HandS.ListItems
import HandS.TryOnly
import HandS.SortOrd
import KE.LtData
import KE.SortKeyHeap
import HandS.SortKw
import KE.KDictKeyed
import KE.KeyNested
import HandS.DictEq
import PyProof.DictFindH
import HandS.More
import HandS.Head0
import HandS.Head1
import HandS.Head2
import HandS.HeadEnd
import HandS.HeadHook1
import HandS.HeadHook2
import PySem.Challenge.RW_storedesk_k02_sorted_rows
set_option Elab.async false
set_option linter.all false
set_option maxRecDepth 100000
set_option maxHeartbeats 4000000
/-! Own layer over HandS: readings that compute, calls by one fact a def. -/
namespace G
open PySem PySem.Spec PyProof.Rows L2
/-! ### weakening -/
section
variable {X : Cx}
theorem PE_imp {e : Expr} {t t' : TE} (h : PE X e t) (k : ∀ σ H Q, t' σ H Q → t σ H Q) : PE X e t' := ⟨fun pins s σ H Q I q => h.run pins s σ H Q I (k _ _ _ q)⟩
theorem PT_imp {e : Expr} {t t' : TT} (h : PT X e t) (k : ∀ σ H Q, t' σ H Q → t σ H Q) : PT X e t' := ⟨fun pins s σ H Q I q => h.run pins s σ H Q I (k _ _ _ q)⟩
theorem OpR_imp {f : Value → Value → Sem Value} {r r' : R2} (h : OpR X f r) (k : ∀ x y H Q, r' x y H Q → r x y H Q) : OpR X f r' := fun pins s σ H x y v u Q I rx ry q => h pins s σ H x y v u Q I rx ry (k _ _ _ _ q)
theorem CallR_imp {f : Value} {r r' : List V → Hp → VK → Prop} (h : CallR X f r) (k : ∀ xs H Q, r' xs H Q → r xs H Q) : CallR X f r' := fun pins s σ H xs us Q I r q => h pins s σ H xs us Q I r (k _ _ _ q)
theorem IxR_imp {r r' : R2} (h : IxR X r) (k : ∀ x y H Q, r' x y H Q → r x y H Q) : IxR X r' := fun value slice pins s σ H x y v u Q I rx ry q hs => h value slice pins s σ H x y v u Q I rx ry (k _ _ _ _ q) hs
end
/-! ### names -/
def fVar (i : Nat) : TE := fun σ H Q => match σ[i]? with | some (some v) => Q v H | _ => False
section
variable {X : Cx}
theorem fv (i : Nat) {x : Str} {pos : Pos} (hN : X.N[i]? = some x := by rfl) (hv : Vis X.env.scope x := by first | exact Or.inl rfl | exact Or.inr (Or.inl rfl) | exact Or.inr (Or.inr rfl)) (hd : (x == ("__debug__" : Str)) = false := by decide)
    (hcd : (x == ("__classdict__" : Str)) = false := by decide) : PE X (.Name x pos) (fVar i) := PE_imp (pe_var hN hv hd hcd) fun σ H Q h => by
  unfold fVar at h
  split at h
  · rename_i v e
    exact ⟨v, e, h⟩
  · exact h.elim
end
/-! ### operators -/
def fAdd (K : PySem.W.Frag) : R2 := fun x y H Q => match x, y with
  | .int i, .int j => Q (.int (i + j)) H
  | .str a, .str b => a.length + b.length ≤ sizeLine ∧ Q (.str (a ++ b)) H
  | .ref a, .ref b => (∃ xs zs, H a = some (.lst xs) ∧ H b = some (.lst zs) ∧ xs.length + zs.length ≤ sizeLine ∧ ∀ p, H p = none → Q (.ref p) (upd H p (.lst (xs ++ zs)))) ∨
      (∃ xs ys, SqT K H a xs ∧ SqT K H b ys ∧ xs.length + ys.length ≤ sizeLine ∧ ∀ p H', SqT K H' p (xs ++ ys) → Same H H' → Q (.ref p) H')
  | _, _ => False
def fSub : R2 := fun x y H Q => match x, y with
  | .int i, .int j => Q (.int (i - j)) H
  | _, _ => False
def fMul : R2 := fun x y H Q => match x, y with
  | .int i, .int j => CMul i j ∧ Q (.int (i * j)) H
  | _, _ => False
def fMod : R2 := fun x y H Q => match x, y with
  | .int i, .int j => 0 < j ∧ Q (.int (i % j)) H
  | _, _ => False
def fDiv : R2 := fun x y H Q => match x, y with
  | .int i, .int j => CDivW i j ∧ Q (.int (i / j)) H
  | _, _ => False
def fPow : R2 := fun x y H Q => match x, y with
  | .int i, .int j => CPow i j ∧ Q (.int (i ^ j.toNat)) H
  | _, _ => False
def fNeg : V → Hp → VK → Prop := fun x H Q => match x with
  | .int i => Q (.int (-i)) H
  | _ => False
theorem same_upd {H : Hp} {p : Addr} {o : HO} (h : H p = none) : Same H (upd H p o) := fun b x e => by
  rw [upd_ne (ne_of_none e h)]
  exact e
theorem Same.tup {K : PySem.W.Frag} {H H' : Hp} {a : Addr} {xs : List V} (e : Same H H') (h : SqT K H a xs) : SqT K H' a xs := by
  rcases h with (h | ⟨o, h⟩) | h
  · exact .inl (.inl (e _ _ h))
  · exact .inl (.inr ⟨o, e _ _ h⟩)
  · exact .inr h
section
variable {X : Cx}
theorem o_add (K : PySem.W.Frag) (hK : X.K = K := by rfl) : OpR X (binaryOp .Add) (fAdd K) := by
  subst hK
  intro pins s σ H x y v u Q I rx ry h
  cases x <;> cases y <;> try exact h.elim
  · exact op_add pins s σ H _ _ v u Q I rx ry ⟨_, _, rfl, rfl, h⟩
  · exact op_add_str pins s σ H _ _ v u Q I rx ry ⟨_, _, rfl, rfl, h.1, h.2⟩
  · rcases h with ⟨xs, zs, h1, h2, h3, q⟩ | ⟨xs, ys, h1, h2, h3, q⟩
    · exact op_cat pins s σ H _ _ v u Q I rx ry ⟨_, _, xs, zs, rfl, rfl, h1, h2, h3, q⟩
    · refine op_catA pins s σ H _ _ v u Q I rx ry ⟨_, _, xs, ys, rfl, rfl, h1, h2, h3, fun e => ?_, fun _ e => ?_, fun _ _ p hp => ?_⟩
      · subst e
        exact q _ _ h2 (Same.refl _)
      · subst e
        exact q _ _ (by rw [List.append_nil]; exact h1) (Same.refl _)
      · exact q _ _ (SqT.of upd_same) (same_upd hp)
theorem o_sub : OpR X (binaryOp .Sub) fSub := OpR_imp op_sub fun x y H Q h => by
  cases x <;> cases y <;> first | exact h.elim | exact ⟨_, _, rfl, rfl, h⟩
theorem o_mul : OpR X (binaryOp .Mult) fMul := OpR_imp op_mul fun x y H Q h => by
  cases x <;> cases y <;> first | exact h.elim | exact ⟨_, _, rfl, rfl, h.1, h.2⟩
theorem o_mod : OpR X (binaryOp .Mod) fMod := OpR_imp op_mod fun x y H Q h => by
  cases x <;> cases y <;> first | exact h.elim | exact ⟨_, _, rfl, rfl, h.1, h.2⟩
theorem o_div : OpR X (binaryOp .FloorDiv) fDiv := OpR_imp op_fdivW fun x y H Q h => by
  cases x <;> cases y <;> first | exact h.elim | exact ⟨_, _, rfl, rfl, h.1, h.2⟩
theorem o_pow : OpR X (binaryOp .Pow) fPow := OpR_imp op_pow fun x y H Q h => by
  cases x <;> cases y <;> first | exact h.elim | exact ⟨_, _, rfl, rfl, h.1, h.2⟩
theorem o_neg : UnR X (unaryOp .USub) fNeg := fun pins s σ H x v Q I rx h => by
  cases x <;> first | exact h.elim | exact un_neg pins s σ H _ v Q I rx ⟨_, rfl, h⟩
end
/-! ### comparisons -/
def fEq : R2 := fun x y H Q => scal x y = true ∧ Q (.bl (decide (x = y))) H
def fCmp (p : Int → Int → Bool) (ps : List Nat → List Nat → Bool) : R2 := fun x y H Q => match x, y with
  | .int i, .int j => Q (.bl (p i j)) H
  | .str a, .str b => Q (.bl (ps a.cps.toList b.cps.toList)) H
  | _, _ => False
def fLt : R2 := fCmp (fun i j => decide (i < j)) (fun a b => decide (a < b))
def fLe : R2 := fCmp (fun i j => decide (i ≤ j)) (fun a b => !decide (b < a))
def fGt : R2 := fCmp (fun i j => decide (j < i)) (fun a b => decide (b < a))
def fGe : R2 := fCmp (fun i j => decide (j ≤ i)) (fun a b => !decide (a < b))
def fIsN : R2 := fun x y H Q => y = .non ∧ Q (.bl (decide (x = .non))) H
def fNotN : R2 := fun x y H Q => y = .non ∧ Q (.bl (!decide (x = .non))) H
section
variable {X : Cx}
theorem o_lt : OpR X (compareOp .Lt) fLt := fun pins s σ H x y v u Q I rx ry h => by
  cases x <;> cases y <;> first | exact h.elim | exact op_lt pins s σ H _ _ v u Q I rx ry ⟨_, _, rfl, rfl, h⟩ | exact op_lt_str pins s σ H _ _ v u Q I rx ry ⟨_, _, rfl, rfl, h⟩
theorem o_le : OpR X (compareOp .LtE) fLe := fun pins s σ H x y v u Q I rx ry h => by
  cases x <;> cases y <;> first | exact h.elim | exact op_le pins s σ H _ _ v u Q I rx ry ⟨_, _, rfl, rfl, h⟩ | exact op_le_str pins s σ H _ _ v u Q I rx ry ⟨_, _, rfl, rfl, h⟩
theorem o_gt : OpR X (compareOp .Gt) fGt := fun pins s σ H x y v u Q I rx ry h => by
  cases x <;> cases y <;> first | exact h.elim | exact op_gt pins s σ H _ _ v u Q I rx ry ⟨_, _, rfl, rfl, h⟩ | exact op_gt_str pins s σ H _ _ v u Q I rx ry ⟨_, _, rfl, rfl, h⟩
theorem o_ge : OpR X (compareOp .GtE) fGe := fun pins s σ H x y v u Q I rx ry h => by
  cases x <;> cases y <;> first | exact h.elim | exact op_ge pins s σ H _ _ v u Q I rx ry ⟨_, _, rfl, rfl, h⟩ | exact op_ge_str pins s σ H _ _ v u Q I rx ry ⟨_, _, rfl, rfl, h⟩
end
/-! ### a def of the text, as its callers see it -/
abbrev FnP (K : PySem.W.Frag) (x : Str) (st : Stmt) (f : Addr) (fd : FuncData) : Prop := FunD K x x (defArgs st) (defBody st) (defScope st) [] [] f fd
structure Fn (P : Program) (w : World) (K : PySem.W.Frag) (mg : Str → Option Value) (base : Heap) (x : Str) (ps : List Str) (k : Nat) (sp : Sp) : Prop where
  ex : ∃ f fd, FnOk P w K mg base CX0 k f fd ps sp ∧ mg x = some (.ref f) ∧ PySem.W.keepIn K (.ref f) = true ∧ Binds K fd ps []
section
variable {X : Cx}
theorem pcall {x : Str} {ps : List Str} {k j : Nat} {sp : Sp} {p pos : Pos} {e : Expr} {es : List Expr} {t : TA} (F : Fn X.prog X.w X.K X.mg X.base x ps k sp) (hr : Room j X.A) (ha : PA X (e :: es) t) (hg : Gl X x := by rfl) (hj : k ≤ j := by first | decide | omega)
    (hdb : (x == ("__debug__" : Str)) = false := by decide) (he : starEach (e :: es) X.env = (false, eval e X.env) :: starEach es X.env := by rfl) (hpl : (backTo pos (starEach es X.env)).any (·.1) = false := by rfl) :
    PE X (.Call (.Name x p) (e :: es) [] pos) (tCall sp [] E0 t) := by
  obtain ⟨f, fd, F, hm, hk, hb⟩ := F.ex
  exact pe_call F (hr.mono hj) hg hm hk hb .nil pass0 ha hdb he hpl
end

/-! ### more comparisons, truth, tests -/
def fNe : R2 := fun x y H Q => scal x y = true ∧ Q (.bl (!decide (x = y))) H
def fTest (t : TE) : TT := fun σ H Q => t σ H fun x H' => match x with | .bl k => Q k H' | _ => False
def truK (K : PySem.W.Frag) (x : V) (H : Hp) (Q : Bool → Hp → Prop) : Prop := match x with
  | .bl b => Q b H
  | .non => Q false H
  | .int i => Q (i != 0) H
  | .str y => y.length ≤ sizeLine ∧ Q ((y.length : Int) != 0) H
  | .ref p => ∃ xs, (SqL K H p xs ∨ SqT K H p xs) ∧ Q (!xs.isEmpty) H
  | _ => False
def fTru (K : PySem.W.Frag) (t : TE) : TT := fun σ H Q => t σ H fun x H' => truK K x H' Q
def fAndV (ta tb : TE) : TE := fun σ H Q => ta σ H fun x H1 => match x with | .bl c => (if c = true then tb σ H1 Q else Q (.bl false) H1) | _ => False
def fOrV (ta tb : TE) : TE := fun σ H Q => ta σ H fun x H1 => match x with | .bl c => (if c = true then Q (.bl true) H1 else tb σ H1 Q) | _ => False
def fNotV (ta : TE) : TE := fun σ H Q => ta σ H fun x H1 => match x with | .bl c => Q (.bl (!c)) H1 | _ => False
section
variable {X : Cx} {a b : Expr} {ta tb : TE} {pos : Pos} {rest : List Expr}
theorem run_imp {e : Expr} {t : TE} (h : PE X e t) {pins : List (Addr × Obj)} {s : Shared} {σ : L2.St} {H : Hp} {Q : VK} (I : Inv X pins σ H s) (q : t σ H Q) : wpAny (model X.prog X.w) X.A (eval e X.env) (EP X pins σ Q) X.xe s := h.run pins s σ H Q I q
theorem q_cmp {op : CmpOp} {r : R2} (ho : OpR X (compareOp op) r) (ha : PE X a ta) (hb : PE X b tb) (hm : behindInMarks op b = false := by first | exact nomark _ | rfl) : PT X (.Compare a [op] [b] pos) (fTest (tOp r ta tb)) := by
  refine ⟨fun pins s σ H Q I h => ?_⟩
  refine wpAny_isTrue_Compare1 (thn (ha.run pins s σ H _ I h) fun v s1 ⟨x, H1, I1, r1, q1⟩ => thn (hb.run pins s1 σ H1 _ I1 q1) fun u s2 ⟨y, H2, I2, r2, q2⟩ =>
    thn (ho pins s2 σ H2 x y v u _ I2 r1 r2 q2) fun c s3 ⟨z, H3, I3, r3, q3⟩ => ?_) hm
  cases z <;> first
    | exact q3.elim
    | (cases r3; exact wpAny_truthy_bool ⟨H3, I3, q3⟩)
theorem q_chain {op op' : CmpOp} {r r' : R2} {c : Expr} {tc : TE} (ho : OpR X (compareOp op) r) (ho' : OpR X (compareOp op') r') (ha : PE X a ta) (hb : PE X b tb) (hc : PE X c tc)
    (hm : lastMarks [op, op'] [b, c] = false := by with_unfolding_all rfl) : PT X (.Compare a [op, op'] [b, c] pos) (tTest (tChain r r' ta tb tc)) := pt_chain ho ho' ha hb hc hm
/-- any other expression as a test -/
theorem q_tru (K : PySem.W.Frag) (ha : PE X a ta) (hK : X.K = K := by rfl) (he : ∀ whole, isTrue a X.env whole = (do let v ← whole; standAt a.pos; holding [v] (truthy v)) := by intro _; rfl) : PT X a (fTru K ta) := by
  subst hK
  refine ⟨fun pins s σ H Q I h => ?_⟩
  refine isTrue_plain (thn (ha.run pins s σ H _ I h) fun v s1 ⟨x, H1, I1, r1, q1⟩ => ?_) (he _)
  refine tru_ok pins s1 σ H1 x v Q I1 r1 ?_
  cases x <;> first
    | exact q1.elim
    | exact ⟨_, rfl, q1⟩
    | exact ⟨_, ⟨q1.1, rfl⟩, q1.2⟩
    | (obtain ⟨xs, hx, q⟩ := q1
       rcases hx with hx | hx
       · exact ⟨_, .inl ⟨xs, hx, rfl⟩, q⟩
       · exact ⟨_, .inr (.inl ⟨xs, hx, rfl⟩), q⟩)
theorem f_and (ha : PE X a ta) (hb : PE X (.BoolOp .And (b :: rest) pos) tb) : PE X (.BoolOp .And (a :: b :: rest) pos) (fAndV ta tb) := by
  refine ⟨fun pins s σ H Q I h => ?_⟩
  refine BoolOp_and (thn (ha.run pins s σ H _ I h) fun v s1 ⟨x, H1, I1, r1, q1⟩ => ?_)
  cases x <;> try exact q1.elim
  rename_i c
  cases r1
  refine wpAny_truthy_bool ?_
  cases c with
  | true => exact hb.run pins s1 σ H1 Q I1 q1
  | false => exact ⟨.bl false, H1, I1, rfl, q1⟩
theorem f_or (ha : PE X a ta) (hb : PE X (.BoolOp .Or (b :: rest) pos) tb) : PE X (.BoolOp .Or (a :: b :: rest) pos) (fOrV ta tb) := by
  refine ⟨fun pins s σ H Q I h => ?_⟩
  refine BoolOp_or (thn (ha.run pins s σ H _ I h) fun v s1 ⟨x, H1, I1, r1, q1⟩ => ?_)
  cases x <;> try exact q1.elim
  rename_i c
  cases r1
  refine wpAny_truthy_bool ?_
  cases c with
  | false => exact hb.run pins s1 σ H1 Q I1 q1
  | true => exact ⟨.bl true, H1, I1, rfl, q1⟩
theorem f_not (ha : PE X a ta) : PE X (.UnaryOp .Not a pos) (fNotV ta) := by
  refine ⟨fun pins s σ H Q I h => ?_⟩
  refine UnaryOp_ (thn (ha.run pins s σ H _ I h) fun v s1 ⟨x, H1, I1, r1, q1⟩ => ?_)
  cases x <;> try exact q1.elim
  rename_i c
  cases r1
  exact not_of (wpAny_truthy_bool ⟨.bl (!c), H1, I1, rfl, q1⟩)
end
/-! ### built-ins -/
def fLen (K : PySem.W.Frag) : List V → Hp → VK → Prop := fun xs H Q => match xs with
  | [.str z] => z.length ≤ sizeLine ∧ Q (.int z.length) H
  | [.ref p] => ∃ ys, (SqL K H p ys ∨ SqT K H p ys) ∧ Q (.int ys.length) H
  | _ => False
def fInt : List V → Hp → VK → Prop := fun xs H Q => match xs with
  | [.int i] => Q (.int i) H
  | [.bl k] => Q (.int (if k then 1 else 0)) H
  | [.str a] => ∃ n, PySem.intText? a = some n ∧ a.length ≤ 640 ∧ Q (.int n) H
  | _ => False
def fStr : List V → Hp → VK → Prop := fun xs H Q => match xs with
  | [.int i] => i.natAbs.log2 < 1920 ∧ Q (.str (toString i)) H
  | _ => False
def fMin : List V → Hp → VK → Prop := fun xs H Q => match xs with
  | [.int i, .int j] => Q (.int (if j < i then j else i)) H
  | _ => False
def fMax : List V → Hp → VK → Prop := fun xs H Q => match xs with
  | [.int i, .int j] => Q (.int (if j > i then j else i)) H
  | _ => False
def fTuple (K : PySem.W.Frag) : List V → Hp → VK → Prop := fun xs H Q => match xs with
  | [.ref p] => ∃ ys, (SqL K H p ys ∨ SqT K H p ys) ∧ ∀ q H', SqT K H' q ys → Same H H' → Q (.ref q) H'
  | _ => False
def fList (K : PySem.W.Frag) : List V → Hp → VK → Prop := fun xs H Q => match xs with
  | [.ref p] => ∃ ys, (SqL K H p ys ∨ SqT K H p ys) ∧ ∀ l, H l = none → Q (.ref l) (upd H l (.lst ys))
  | _ => False
section
variable {X : Cx}
theorem c_len (K : PySem.W.Frag) (hK : X.K = K := by rfl) : CallR X (.builtin "len") (fLen K) := fun pins s σ H xs us Q I r h => by
  subst hK
  unfold fLen at h
  split at h
  · exact call_len_str pins s σ H _ us Q I r ⟨_, rfl, h.1, h.2⟩
  · obtain ⟨ys, hy, q⟩ := h
    exact call_len_seq pins s σ H _ us Q I r ⟨_, ys, rfl, hy, q⟩
  · exact h.elim
/-- .. telling that it is no more than the line -/
def fLenB (K : PySem.W.Frag) : List V → Hp → VK → Prop := fun xs H Q => match xs with
  | [.str z] => z.length ≤ sizeLine ∧ Q (.int z.length) H
  | [.ref p] => ∃ ys, (SqL K H p ys ∨ SqT K H p ys) ∧ (ys.length ≤ sizeLine → Q (.int ys.length) H)
  | _ => False
theorem c_lenB (K : PySem.W.Frag) (hK : X.K = K := by rfl) : CallR X (.builtin "len") (fLenB K) := fun pins s σ H xs us Q I r h => by
  subst hK
  unfold fLenB at h
  split at h
  · exact call_len_str pins s σ H _ us Q I r ⟨_, rfl, h.1, h.2⟩
  · obtain ⟨ys, hy, q⟩ := h
    refine call_len_seq pins s σ H _ us Q I r ⟨_, ys, rfl, hy, q ?_⟩
    rcases hy with hy | hy
    · exact (I.list hy).choose_spec.2.2
    · exact (I.tuple hy).choose_spec.2.2
  · exact h.elim
theorem c_int : CallR X (.type "int") fInt := fun pins s σ H xs us Q I r h => by
  unfold fInt at h
  split at h
  · exact call_int1 pins s σ H _ us Q I r (.inl ⟨_, rfl, h⟩)
  · exact call_int1 pins s σ H _ us Q I r (.inr ⟨_, rfl, h⟩)
  · obtain ⟨n, h1, h2, q⟩ := h
    exact call_int_str pins s σ H _ us Q I r ⟨_, n, rfl, h1, h2, q⟩
  · exact h.elim
theorem c_str : CallR X (.type "str") fStr := fun pins s σ H xs us Q I r h => by
  unfold fStr at h
  split at h
  · exact call_str_int pins s σ H _ us Q I r ⟨_, rfl, h.1, h.2⟩
  · exact h.elim
theorem c_min (hc : X.calm = true := by rfl) : CallR X (.builtin "min") fMin := fun pins s σ H xs us Q I r h => by
  unfold fMin at h
  split at h
  · exact call_min2 hc pins s σ H _ us Q I r ⟨_, _, rfl, h⟩
  · exact h.elim
theorem c_max (hc : X.calm = true := by rfl) : CallR X (.builtin "max") fMax := fun pins s σ H xs us Q I r h => by
  unfold fMax at h
  split at h
  · exact call_max2 hc pins s σ H _ us Q I r ⟨_, _, rfl, h⟩
  · exact h.elim
theorem c_tuple (K : PySem.W.Frag) (hK : X.K = K := by rfl) : CallR X (.type "tuple") (fTuple K) := fun pins s σ H xs us Q I r h => by
  subst hK
  unfold fTuple at h
  split at h
  · obtain ⟨ys, hy, q⟩ := h
    refine call_tuple_of pins s σ H _ us Q I r ⟨_, ys, rfl, ?_⟩
    rcases hy with hy | hy
    · exact .inl ⟨hy, fun l hl => q _ _ (SqT.of upd_same) (same_upd hl)⟩
    · exact .inr ⟨hy, q _ _ hy (Same.refl _)⟩
  · exact h.elim
theorem c_list (K : PySem.W.Frag) (hK : X.K = K := by rfl) : CallR X (.type "list") (fList K) := fun pins s σ H xs us Q I r h => by
  subst hK
  unfold fList at h
  split at h
  · obtain ⟨ys, hy, q⟩ := h
    exact call_list_of pins s σ H _ us Q I r ⟨_, ys, rfl, hy, q⟩
  · exact h.elim
end
/-! ### isinstance -/
/-- what it says of None, a bool, an int, a text, a list, a tuple, a dict -/
structure Isi where
  nm : String
  non : Bool
  bl : Bool
  int : Bool
  str : Bool
  lst : Bool
  tup : Bool
  dct : Bool
def Isi.ok (k : Isi) : Bool := kitB "NoneType" k.nm == some k.non && kitB "bool" k.nm == some k.bl && kitB "int" k.nm == some k.int && kitB "str" k.nm == some k.str && kitB "list" k.nm == some k.lst && kitB "tuple" k.nm == some k.tup && kitB "dict" k.nm == some k.dct
def kBool : Isi := ⟨"bool", false, true, false, false, false, false, false⟩
def kInt : Isi := ⟨"int", false, true, true, false, false, false, false⟩
def kStr : Isi := ⟨"str", false, false, false, true, false, false, false⟩
def kLst : Isi := ⟨"list", false, false, false, false, true, false, false⟩
def kTup : Isi := ⟨"tuple", false, false, false, false, false, true, false⟩
def kDct : Isi := ⟨"dict", false, false, false, false, false, false, true⟩
theorem kBool_ok : kBool.ok = true := by decide +kernel
theorem kInt_ok : kInt.ok = true := by decide +kernel
theorem kStr_ok : kStr.ok = true := by decide +kernel
theorem kLst_ok : kLst.ok = true := by decide +kernel
theorem kTup_ok : kTup.ok = true := by decide +kernel
theorem kDct_ok : kDct.ok = true := by decide +kernel
def isiK (K : PySem.W.Frag) (k : Isi) (x : V) (H : Hp) (q : Bool → Prop) : Prop := match x with
  | .non => q k.non
  | .bl _ => q k.bl
  | .int _ => q k.int
  | .str _ => q k.str
  | .ref a => (∃ xs, SqL K H a xs ∧ q k.lst) ∨ (∃ xs, SqT K H a xs ∧ q k.tup) ∨ (((∃ kvs, H a = some (.dK kvs)) ∨ ∃ kvs, H a = some (.dT kvs)) ∧ q k.dct)
  | _ => False
theorem tyx_lst {K : PySem.W.Frag} {H : Hp} {a : Addr} {xs : List V} (h : SqL K H a xs) : TyX K H (.ref a) (.type "list") := by
  rcases h with (h | ⟨o, h⟩) | ⟨o, its, n, h1, h2, _⟩
  · exact .base (.lst h)
  · exact .base (.frz h)
  · exact .kList h1 h2
theorem tyx_tup {K : PySem.W.Frag} {H : Hp} {a : Addr} {xs : List V} (h : SqT K H a xs) : TyX K H (.ref a) (.type "tuple") := by
  rcases h with (h | ⟨o, h⟩) | ⟨o, its, n, h1, h2, _⟩
  · exact .base (.tup h)
  · exact .fTuple h
  · exact .kTuple h1 h2
/-- its type's name and the answer -/
theorem isiK_ty {K : PySem.W.Frag} {k : Isi} (ok : k.ok = true) {x : V} {H : Hp} {q : Bool → Prop} (h : isiK K k x H q) : ∃ t b, TyX K H x (.type t) ∧ kitB t k.nm = some b ∧ q b := by
  unfold Isi.ok at ok
  simp only [Bool.and_eq_true, beq_iff_eq] at ok
  obtain ⟨⟨⟨⟨⟨⟨h1, h2⟩, h3⟩, h4⟩, h5⟩, h6⟩, h7⟩ := ok
  cases x with
  | non => exact ⟨_, _, .base .non, h1, h⟩
  | bl b => exact ⟨_, _, .base (.bl b), h2, h⟩
  | int i => exact ⟨_, _, .base (.int i), h3, h⟩
  | str y => exact ⟨_, _, .base (.str y), h4, h⟩
  | ref a =>
    rcases h with ⟨xs, hx, q⟩ | ⟨xs, hx, q⟩ | ⟨⟨kvs, hx⟩ | ⟨kvs, hx⟩, q⟩
    · exact ⟨_, _, tyx_lst hx, h5, q⟩
    · exact ⟨_, _, tyx_tup hx, h6, q⟩
    · exact ⟨_, _, .base (.dK hx), h7, q⟩
    · exact ⟨_, _, .base (.dT hx), h7, q⟩
  | _ => exact h.elim
def fIsi (K : PySem.W.Frag) (k : Isi) (t : TE) : TE := fun σ H Q => t σ H fun x H1 => isiK K k x H1 fun b => Q (.bl b) H1
section
variable {X : Cx}
theorem p_isi {e : Expr} {te : TE} {p p2 pos : Pos} {c : Str} (K : PySem.W.Frag) (k : Isi) (ok : k.ok = true) (hm : X.mg "isinstance" = none) (hmc : X.mg c = none) (hv : bootBuiltins c = some (.type k.nm)) (he : PE X e te) (hK : X.K = K := by rfl) (hg : Gl X "isinstance" := by rfl) (hgc : Gl X c := by rfl)
    (hn : c ≠ "__name__" := by decide) (hd : (c == ("__debug__" : Str)) = false := by decide) (hs : starEach (e :: [.Name c p2]) X.env = (false, eval e X.env) :: starEach [.Name c p2] X.env := by rfl) (hpl : (backTo pos (starEach [Expr.Name c p2] X.env)).any (·.1) = false := by rfl)
    (hs2 : starEach [Expr.Name c p2] X.env = (false, eval (.Name c p2) X.env) :: starEach [] X.env := by rfl) :
    PE X (.Call (.Name "isinstance" p) [e, .Name c p2] [] pos) (fIsi K k te) := by
  subst hK
  refine ⟨fun pins s σ H Q I h => ?_⟩
  refine wpAny_Call_Name_kw (ld_blt I hg hm boot_isinstance ?_)
  refine PyProof.Rows.callWith_builtin1 (Q := EP X pins σ Q) ?_ hs hpl
  rw [hs]
  show wpAny _ _ (spliced ((false, eval e X.env) :: backTo pos (starEach [Expr.Name c p2] X.env))) _ _ s
  refine Calls.spliced_cons (thn (he.run pins s σ H _ I h) fun u s1 ⟨x, H1, I1, r1, q1⟩ => ?_)
  refine thn ((pa_cons (pe_bltn (v := .ty k.nm) hgc hmc hv rfl hn hd) pa_nil hs2).run pos pins s1 σ H1 (fun vs H2 => vs = [.ty k.nm] ∧ H2 = H1) I1 ⟨rfl, rfl⟩) fun us s2 ⟨vs, H2, I2, r2, e1, e2⟩ => ?_
  subst e1 e2
  obtain ⟨t, b, ty, kt, q⟩ := isiK_ty ok q1
  exact call_isi pins s2 σ H2 [x, .ty k.nm] (u :: us) Q I2 (.cons r1 r2) ⟨x, .ty k.nm, .type t, .type k.nm, b, rfl, .ty _, ty, kit_ty kt, q⟩
end

/-- isinstance(x, (tuple, list)) -/
def kTL : Isi := ⟨"", false, false, false, false, true, true, false⟩
def fIsiTL (K : PySem.W.Frag) (te : TE) : TE := fun σ H Q => te σ H fun x H1 => ∀ T, H1 T = none → isiK K kTL x H1 fun b => Q (.bl b) (upd H1 T (.tup [.ty "tuple", .ty "list"]))
theorem tyx_upd {K : PySem.W.Frag} {H : Hp} {T : Addr} {o : HO} {x : V} {t : Value} (hT : H T = none) (h : TyX K H x t) : TyX K (upd H T o) x t := by
  have k : ∀ {a : Addr} {u : HO}, H a = some u → upd H T o a = some u := fun e => by rw [upd_ne (ne_of_none e hT)]; exact e
  cases h with
  | base b =>
    refine .base ?_
    cases b with
    | non => exact .non
    | bl y => exact .bl y
    | int i => exact .int i
    | str y => exact .str y
    | flt y => exact .flt y
    | lst e => exact .lst (k e)
    | frz e => exact .frz (k e)
    | tup e => exact .tup (k e)
    | dK e => exact .dK (k e)
    | dT e => exact .dT (k e)
    | ins e cl ha hn htk hm => exact .ins (k e) cl ha hn htk hm
  | byt y => exact .byt y
  | set e => exact .set (k e)
  | kList e c => exact .kList e c
  | kTuple e c => exact .kTuple e c
  | kDict e c => exact .kDict e c
  | fTuple e => exact .fTuple (k e)
  | fDict e => exact .fDict (k e)
theorem isiTL_ty {K : PySem.W.Frag} {x : V} {H : Hp} {q : Bool → Prop} (h : isiK K kTL x H q) : ∃ t b, TyX K H x (.type t) ∧ PySem.W.kitAny K (.type t) [.type "tuple", .type "list"] = some b ∧ q b := by
  have g : ∀ {t : String} {b1 b2 r : Bool}, kitB t "tuple" = some b1 → kitB t "list" = some b2 → r = (b1 || b2) → PySem.W.kitAny K (.type t) [.type "tuple", .type "list"] = some r := fun {t b1 b2 r} h1 h2 e => by
    subst e
    refine kitAny_cons (kit_ty h1) (fun e1 => ?_) (fun e1 => by rw [e1]; rfl)
    refine kitAny_cons (kit_ty h2) (fun e2 => by rw [e1, e2]; exact kitAny_nil) (fun e2 => by rw [e2]; simp)
  cases x with
  | non => exact ⟨_, _, .base .non, g (b1 := false) (b2 := false) (by decide +kernel) (by decide +kernel) rfl, h⟩
  | bl b => exact ⟨_, _, .base (.bl b), g (b1 := false) (b2 := false) (by decide +kernel) (by decide +kernel) rfl, h⟩
  | int i => exact ⟨_, _, .base (.int i), g (b1 := false) (b2 := false) (by decide +kernel) (by decide +kernel) rfl, h⟩
  | str y => exact ⟨_, _, .base (.str y), g (b1 := false) (b2 := false) (by decide +kernel) (by decide +kernel) rfl, h⟩
  | ref a =>
    rcases h with ⟨xs, hx, q⟩ | ⟨xs, hx, q⟩ | ⟨⟨kvs, hx⟩ | ⟨kvs, hx⟩, q⟩
    · exact ⟨_, _, tyx_lst hx, g (b1 := false) (b2 := true) (by decide +kernel) (by decide +kernel) rfl, q⟩
    · exact ⟨_, _, tyx_tup hx, g (b1 := true) (b2 := false) (by decide +kernel) (by decide +kernel) rfl, q⟩
    · exact ⟨_, _, .base (.dK hx), g (b1 := false) (b2 := false) (by decide +kernel) (by decide +kernel) rfl, q⟩
    · exact ⟨_, _, .base (.dT hx), g (b1 := false) (b2 := false) (by decide +kernel) (by decide +kernel) rfl, q⟩
  | _ => exact h.elim
section
variable {X : Cx}
theorem p_isiTL {e : Expr} {te : TE} {p p1 p2 tpos pos : Pos} {k : Nat} (K : PySem.W.Frag) (hm : X.mg "isinstance" = none) (hmt : X.mg "tuple" = none) (hml : X.mg "list" = none) (he : PE X e te) (hK : X.K = K := by rfl) (hg : Gl X "isinstance" := by rfl) (hgt : Gl X "tuple" := by rfl) (hgl : Gl X "list" := by rfl)
    (hs : starEach [e, .Tuple [.Name "tuple" p1, .Name "list" p2] k tpos] X.env = (false, eval e X.env) :: starEach [.Tuple [.Name "tuple" p1, .Name "list" p2] k tpos] X.env := by rfl)
    (hpl : (backTo pos (starEach [Expr.Tuple [.Name "tuple" p1, .Name "list" p2] k tpos] X.env)).any (·.1) = false := by rfl) :
    PE X (.Call (.Name "isinstance" p) [e, .Tuple [.Name "tuple" p1, .Name "list" p2] k tpos] [] pos) (fIsiTL K te) := by
  subst hK
  refine ⟨fun pins s σ H Q I h => ?_⟩
  refine wpAny_Call_Name_kw (ld_blt I hg hm boot_isinstance ?_)
  refine PyProof.Rows.callWith_builtin1 (Q := EP X pins σ Q) ?_ hs hpl
  rw [hs]
  show wpAny _ _ (spliced ((false, eval e X.env) :: backTo pos (starEach [Expr.Tuple [.Name "tuple" p1, .Name "list" p2] k tpos] X.env))) _ _ s
  refine Calls.spliced_cons (thn (he.run pins s σ H _ I h) fun u s1 ⟨x, H1, I1, r1, q1⟩ => ?_)
  have pt : PA X [.Tuple [.Name "tuple" p1, .Name "list" p2] k tpos] (tCons (tTup (tCons (tC (.ty "tuple")) (tCons (tC (.ty "list")) tNil))) tNil) :=
    pa_cons (pe_tup (pa_cons (pe_bltn (v := .ty "tuple") hgt hmt boot_tuple rfl) (pa_cons (pe_bltn (v := .ty "list") hgl hml boot_list rfl) pa_nil))) pa_nil
  refine thn (pt.run pos pins s1 σ H1 (fun vs H2 => ∃ T, H1 T = none ∧ vs = [.ref T] ∧ H2 = upd H1 T (.tup [.ty "tuple", .ty "list"])) I1 ⟨by show 2 ≤ sizeLine; decide, fun T hT => ⟨T, hT, rfl, rfl⟩⟩) fun us s2 ⟨vs, H2, I2, r2, T, hT, e1, e2⟩ => ?_
  subst e1 e2
  obtain ⟨t, b, ty, kt, q⟩ := isiTL_ty (q1 T hT)
  exact call_isiT pins s2 σ _ [x, .ref T] (u :: us) Q I2 (.cons r1 r2) ⟨x, T, [.ty "tuple", .ty "list"], .type t, [.type "tuple", .type "list"], b, rfl, upd_same, .cons (.ty _) (.cons (.ty _) .nil), tyx_upd hT ty, kt, q⟩
end
/-! ### subscripts and slices -/
def fIx (K : PySem.W.Frag) : R2 := fun x y H Q => match x, y with
  | .str z, .int i => z.length ≤ sizeLine ∧ ∃ c, atI z.cps.toList i = some c ∧ Q (.str ⟨#[c]⟩) H
  | .ref p, .int i => ∃ xs v, (SqL K H p xs ∨ SqT K H p xs) ∧ atI xs i = some v ∧ Q v H
  | _, _ => False
def fSl (K : PySem.W.Frag) : V → Option Int → Option Int → Hp → VK → Prop := fun x lo hi H Q => match x with
  | .str z => z.length ≤ sizeLine ∧ Q (.str (cutS z lo hi)) H
  | .ref a => (∃ xs, SqL K H a xs ∧ ∀ p, H p = none → Q (.ref p) (upd H p (.lst (cutV xs lo hi)))) ∨ (∃ xs, SqT K H a xs ∧ ∀ p H', SqT K H' p (cutV xs lo hi) → Same H H' → Q (.ref p) H')
  | _ => False
def fPart (t : TE) : TO := fun σ H Q => t σ H fun x H1 => match x with | .int i => Q (some i) H1 | _ => False
theorem cut_whole {xs : List V} {lo hi : Option Int} (h : HT.sIx xs.length 0 lo = 0 ∧ HT.sIx xs.length xs.length hi = xs.length) : cutV xs lo hi = xs := by
  unfold cutV
  rw [h.1, h.2, List.drop_zero, Nat.sub_zero]
  exact List.take_length
section
variable {X : Cx}
theorem x_ix (K : PySem.W.Frag) (hK : X.K = K := by rfl) : IxR X (fIx K) := fun value slice pins s σ H x y v u Q I rx ry h hs => by
  subst hK
  unfold fIx at h
  split at h
  · obtain ⟨h1, c, h2, q⟩ := h
    exact ix_str value slice pins s σ H _ _ v u Q I rx ry ⟨_, _, c, rfl, rfl, h1, h2, q⟩ hs
  · obtain ⟨xs, w, hx, h2, q⟩ := h
    rcases hx with hx | hx
    · exact ix_list value slice pins s σ H _ _ v u Q I rx ry ⟨_, xs, _, w, rfl, rfl, hx, h2, q⟩ hs
    · exact ix_tup value slice pins s σ H _ _ v u Q I rx ry ⟨_, xs, _, w, rfl, rfl, hx, h2, q⟩ hs
  · exact h.elim
theorem x_sl (K : PySem.W.Frag) (hK : X.K = K := by rfl) : SlR X (fSl K) := fun pins s σ H x v vl vu lo hi sl Q I rx hs pl pu h => by
  subst hK
  cases x <;> try exact h.elim
  · exact sl_str pins s σ H _ v vl vu lo hi sl Q I rx hs pl pu ⟨_, rfl, h.1, h.2⟩
  · rcases h with ⟨xs, hx, q⟩ | ⟨xs, hx, q⟩
    · exact sl_list pins s σ H _ v vl vu lo hi sl Q I rx hs pl pu ⟨_, xs, rfl, hx, q⟩
    · refine sl_tupA pins s σ H _ v vl vu lo hi sl Q I rx hs pl pu ⟨_, xs, rfl, hx, fun w => ?_, fun w p hp => ?_⟩
      · exact q _ _ (by rw [cut_whole w]; exact hx) (Same.refl _)
      · exact q _ _ (SqT.of upd_same) (same_upd hp)
end
/-! ### calls with keywords -/
def KB (fd : FuncData) (ps : List Str) (n : Nat) : Prop := ∀ (s : Shared) (us ws : List Value), us.length = n → ws.length = (ps.drop n).length → BindsTo s fd ⟨us, (ps.drop n).zip ws⟩ (ps.zip (us ++ ws))
structure FnK (P : Program) (w : World) (K : PySem.W.Frag) (mg : Str → Option Value) (base : Heap) (x : Str) (ps : List Str) (n k : Nat) (sp : Sp) : Prop where
  ex : ∃ f fd, FnOk P w K mg base CX0 k f fd ps sp ∧ mg x = some (.ref f) ∧ PySem.W.keepIn K (.ref f) = true ∧ KB fd ps n
  le : n ≤ ps.length
section
variable {X : Cx}
theorem run_kw {x : Str} {ps : List Str} {n k : Nat} {sp : Sp} {f : Addr} {fd : FuncData} {pins : List (Addr × Obj)} {σ : L2.St} {H : Hp} {s : Shared} {Q : VK} {us ws : List Value} {vs zs : List V} (F : FnOk X.prog X.w X.K X.mg X.base CX0 k f fd ps sp) (hr : Room k X.A) (hb : KB fd ps n)
    (I : Inv X pins σ H s) (r : Vals vs us) (rz : Vals zs ws) (hl : us.length = n) (hz : ws.length = (ps.drop n).length) (h : sp (vs ++ zs) H Q E0) : wpAny (model X.prog X.w) X.A (call (.ref f) us ((ps.drop n).zip ws)) (EP X pins σ Q) X.xe s := by
  refine wpAny_call (codeAny_mono (F.run X.A X.stack s H ⟨us, (ps.drop n).zip ws⟩ (us ++ ws) (vs ++ zs) Q E0 hr I.env0 (hb s us ws hl hz) (r.append rz) h) fun r s' hq => ?_)
  cases r with
  | error e => exact hq.elim
  | ok fl =>
    cases fl with
    | ret u => exact I.after hq
    | next => exact False.elim hq
    | brk => exact False.elim hq
    | cont => exact False.elim hq
def fCallK (m : Nat) (sp : Sp) (tk : TA) : TE := fun σ H Q => tk σ H fun zs H1 => zs.length = m ∧ sp zs H1 Q E0
/-- f(k = v, ..), every parameter by its name, in their order -/
theorem pcallK {x : Str} {ps : List Str} {k j : Nat} {sp : Sp} {p pos : Pos} {kws : List Keyword} {tk : TA} (F : FnK X.prog X.w X.K X.mg X.base x ps 0 k sp) (hr : Room j X.A) (hkw : PK X kws tk) (hg : Gl X x := by rfl) (hj : k ≤ j := by first | decide | omega)
    (hall : (backToKw pos (keywordEach kws X.env)).all (·.1.isSome) = true := by rfl) (hks : (backToKw pos (keywordEach kws X.env)).filterMap (·.1) = ps := by rfl) (hdb : (x == ("__debug__" : Str)) = false := by decide)
    (hpl : ((backTo pos (starEach [] X.env)).any (·.1) || (backToKw pos (keywordEach kws X.env)).any (·.1.isNone)) = false := by rfl) :
    PE X (.Call (.Name x p) [] kws pos) (fCallK ps.length sp tk) := by
  obtain ⟨f, fd, F, hm, hk, hb⟩ := F.ex
  refine ⟨fun pins s σ H Q I h => ?_⟩
  refine wpAny_Call_Name_kw (ld_glob I hg hm ?_ hdb)
  refine PySem.W.callWith_KW0 (h₀ := X.base) I.ok.mod.kin hk hall ?_ hpl
  refine thn (hkw.run pos pins s σ H _ I h) fun ws s2 ⟨zs, H2, I2, rz, l1, q2⟩ => ⟨I2.kIn, ?_⟩
  rw [hks]
  exact run_kw (x := x) (us := []) (vs := []) F (hr.mono hj) hb I2 .nil rz rfl (by rw [← rz.length, l1]; rfl) q2
end
theorem fun_kb {K : PySem.W.Frag} {x : Str} {st : Stmt} {f : Addr} {fd : FuncData} {ps : List Str} {n : Nat} (F : FnP K x st f fd)
    (h : ∀ (kV doc pm : Value) (an : Option Addr) (cdv ct : Value) (us ws : List Value), us.length = n → ws.length = (ps.drop n).length → bindArgs (PySem.W.fnOf x x (defArgs st) (defBody st) (defScope st) .none kV doc pm an cdv ct) ⟨us, (ps.drop n).zip ws⟩ = pure (ps.zip (us ++ ws))) : KB fd ps n := by
  obtain ⟨oc, od, dV, kV, doc, pm, an, cdv, ct, osl, rfl, lk, hcd, hD, hK⟩ := F.ex
  rcases hD with ⟨_, rfl⟩ | ⟨e, _⟩
  · exact fun s us ws h1 h2 => .of_eq (h kV doc pm an cdv ct us ws h1 h2)
  · exact absurd rfl e
/-! ### the built-in names that the text leaves alone -/
structure Bf (mg : Str → Option Value) : Prop where
  len : mg "len" = none
  int : mg "int" = none
  str : mg "str" = none
  bool : mg "bool" = none
  tuple : mg "tuple" = none
  list : mg "list" = none
  dict : mg "dict" = none
  range : mg "range" = none
  isinstance : mg "isinstance" = none
  min : mg "min" = none
  max : mg "max" = none
  sorted : mg "sorted" = none
  zip : mg "zip" = none
  enumerate : mg "enumerate" = none
  sum : mg "sum" = none
  any : mg "any" = none
  all : mg "all" = none
  ord : mg "ord" = none
/-! ### ifs -/
theorem iteD {c A B : Prop} [Decidable c] (h1 : c → A) (h2 : ¬ c → B) : if decide c = true then A else B := by
  by_cases h : c
  · rw [if_pos (decide_eq_true h)]
    exact h1 h
  · rw [if_neg (fun z => h (of_decide_eq_true z))]
    exact h2 h

/-! ### a sequence by what holds between -/
theorem nxt {f : L2.St → Hp → Prop} {R : VK} {B C : L2.St → Hp → Prop} {σ : L2.St} {H : Hp} (h : f σ H) : tNext { nx := f, rt := R, bk := B, ct := C } σ H := h
theorem seqP {t u : TS} {D : Ends} {σ : L2.St} {H : Hp} (P : L2.St → Hp → Prop) (rest : ∀ σ1 H1, P σ1 H1 → u D σ1 H1) (h : (∀ σ1 H1, P σ1 H1 → u D σ1 H1) → t { D with nx := u D } σ H) : tSeq t u D σ H := h rest
/-- a sequence that is cut: it is not seen through -/
@[irreducible] def cutSeq (t u : TS) : TS := tSeq t u
theorem pss_cut {X : Cx} {st : Stmt} {rest : List Stmt} {t u : TS} (h1 : PS X st t) (h2 : PSs X rest u) : PSs X (st :: rest) (cutSeq t u) := by
  unfold cutSeq
  exact pss_cons h1 h2
theorem cutP {t u : TS} {D : Ends} {σ : L2.St} {H : Hp} (P : L2.St → Hp → Prop) (rest : ∀ σ1 H1, P σ1 H1 → u D σ1 H1) (h : (∀ σ1 H1, P σ1 H1 → u D σ1 H1) → t { D with nx := u D } σ H) : cutSeq t u D σ H := by
  unfold cutSeq
  exact h rest
/-! ### a list or a tuple that is walked -/
def fSeq (K : PySem.W.Frag) (tl : TE) : TI := fun σ H R => tl σ H fun x H1 => match x with
  | .ref a => ((∃ xs, SqL K H1 a xs) ∧ R (Itl K a) H1) ∨ ((∃ xs, SqT K H1 a xs) ∧ R (Itt K a) H1)
  | _ => False
section
variable {X : Cx} {tg : Expr}
theorem p_seq {l : Expr} {tl : TE} (K : PySem.W.Frag) (hl : PE X l tl) (hK : X.K = K := by rfl) : PI X tg l (fSeq K tl) := by
  subst hK
  refine ⟨fun pins s σ H R I h => ?_⟩
  refine thn (hl.run pins s σ H _ I h) fun u s1 ⟨x, H1, I1, r1, q⟩ => ?_
  cases x <;> try exact q.elim
  cases r1
  rcases q with ⟨⟨xs, hx⟩, q⟩ | ⟨⟨xs, hx⟩, q⟩
  · obtain ⟨its, rv, p, hz⟩ := I1.list hx
    refine wpAny_pyIter_list p.isList ?_
    refine ⟨s1.heap.objs.size, [s1.heap.objs.size], _, _, H1, rfl, I1.kept (t' := s1.toks) fun b o e => Heap.get?_push_of_some _ e, turn_list _ _, ⟨_, Heap.get?_push_size _ rfl, rfl, rfl⟩, fun b hb => ?_, q⟩
    have e : b = s1.heap.objs.size := by simpa using hb
    subst e
    exact I1.fpOk (Nat.le_refl _) (I1.hok.fresh (Nat.le_refl _))
  · obtain ⟨its, rv, p, hz⟩ := I1.tuple hx
    refine wpAny_pyIter_tuple (show s1.heap.IsTuple _ its.toArray from p) ?_
    refine ⟨s1.heap.objs.size, [s1.heap.objs.size], _, _, H1, rfl, I1.kept (t' := s1.toks) fun b o e => Heap.get?_push_of_some _ e, turn_tuple _ _, ⟨_, Heap.get?_push_size _ rfl, rfl, rfl⟩, fun b hb => ?_, q⟩
    have e : b = s1.heap.objs.size := by simpa using hb
    subst e
    exact I1.fpOk (Nat.le_refl _) (I1.hok.fresh (Nat.le_refl _))
end
/-! ### the store of draws -/
def Sto (H : Hp) (st cl : Addr) : Prop := st ≠ cl ∧ ∃ (cs : List Int) (p r t sd : Int), H st = some (.lst [.ref cl, .int p, .int r, .int t, .int sd]) ∧ H cl = some (.lst (cs.map V.int)) ∧ 0 ≤ p ∧ 0 ≤ r
/-- all but the store at st is as it was; the store is a good one -/
def Go (st cl : Addr) (H H' : Hp) : Prop := (∀ b o, b ≠ st → H b = some o → H' b = some o) ∧ Sto H' st cl
section
variable {st cl : Addr} {H H1 H2 : Hp} {l : Addr} {o : HO}
theorem Sto.stIs (s : Sto H st cl) : ∃ xs, H st = some (.lst xs) := let ⟨_, _, _, _, _, _, h, _⟩ := s; ⟨_, h⟩
theorem Sto.clIs (s : Sto H st cl) : ∃ xs, H cl = some (.lst xs) := let ⟨_, _, _, _, _, _, _, h, _⟩ := s; ⟨_, h⟩
theorem Go.refl (s : Sto H st cl) : Go st cl H H := ⟨fun _ _ _ h => h, s⟩
theorem Go.sto (g : Go st cl H H1) : Sto H1 st cl := g.2
theorem Go.trans (g : Go st cl H H1) (g2 : Go st cl H1 H2) : Go st cl H H2 := ⟨fun b o n h => g2.1 b o n (g.1 b o n h), g2.2⟩
theorem Go.lst (g : Go st cl H H1) {a : Addr} {xs : List V} (n : a ≠ st) (h : H a = some (.lst xs)) : H1 a = some (.lst xs) := g.1 a _ n h
theorem Sto.ne_tup (s : Sto H st cl) {a : Addr} {xs : List V} (h : H a = some (.tup xs)) : a ≠ st := fun e => by
  obtain ⟨ys, hy⟩ := s.stIs
  rw [e, hy] at h
  cases h
theorem Sto.ne_none (s : Sto H st cl) (h : H l = none) : l ≠ st := fun e => by
  obtain ⟨ys, hy⟩ := s.stIs
  rw [e, hy] at h
  cases h
theorem Sto.ne_noneC (s : Sto H st cl) (h : H l = none) : l ≠ cl := fun e => by
  obtain ⟨ys, hy⟩ := s.clIs
  rw [e, hy] at h
  cases h
theorem Go.tup (g : Go st cl H H1) (s : Sto H st cl) {K : PySem.W.Frag} {a : Addr} {xs : List V} (h : SqT K H a xs) : SqT K H1 a xs := by
  have nf : ∀ {u : HO}, H a = some u → (∀ ys, u ≠ .lst ys) → a ≠ st := fun e k z => by
    obtain ⟨ys, hy⟩ := s.stIs
    rw [z, hy] at e
    exact k ys (Option.some.inj e).symm
  rcases h with (h | ⟨o, h⟩) | h
  · exact .inl (.inl (g.1 _ _ (nf h fun _ z => by cases z) h))
  · exact .inl (.inr ⟨o, g.1 _ _ (nf h fun _ z => by cases z) h⟩)
  · exact .inr h
theorem Go.seq (g : Go st cl H H1) (s : Sto H st cl) {K : PySem.W.Frag} {a : Addr} {xs : List V} (n : a ≠ st) (h : SqL K H a xs) : SqL K H1 a xs := by
  rcases h with (h | ⟨o, h⟩) | h
  · exact .inl (.inl (g.1 _ _ n h))
  · exact .inl (.inr ⟨o, g.1 _ _ n h⟩)
  · exact .inr h
theorem Go.free (g : Go st cl H H1) (s : Sto H st cl) (h : H1 l = none) : H l = none := by
  cases q : H l with
  | none => rfl
  | some o =>
    by_cases n : l = st
    · obtain ⟨ys, hy⟩ := g.2.stIs
      rw [n, hy] at h
      cases h
    · rw [g.1 l o n q] at h
      cases h
theorem Sto.lay (s : Sto H st cl) (h1 : l ≠ st) (h2 : l ≠ cl) : Sto (upd H l o) st cl := by
  obtain ⟨n, cs, p, r, t, sd, a, b, c⟩ := s
  exact ⟨n, cs, p, r, t, sd, by rw [upd_ne h1.symm]; exact a, by rw [upd_ne h2.symm]; exact b, c⟩
/-- a thing that did not stand in H is laid or changed -/
theorem Go.lay (g : Go st cl H H1) (s : Sto H st cl) (hn : H l = none) : Go st cl H (upd H1 l o) := by
  refine ⟨fun b u n h => ?_, g.2.lay (s.ne_none hn) (s.ne_noneC hn)⟩
  rw [upd_ne (ne_of_none h hn)]
  exact g.1 b u n h
theorem Go.same (g : Go st cl H H1) (e : Same H1 H2) : Go st cl H H2 := by
  refine ⟨fun b u n h => e _ _ (g.1 b u n h), ?_⟩
  obtain ⟨n, cs, p, r, t, sd, a, b, c⟩ := g.2
  exact ⟨n, cs, p, r, t, sd, e _ _ a, e _ _ b, c⟩
theorem Go.put (g : Go st cl H H1) {cs : List Int} {p r t sd : Int} (h2 : H1 cl = some (.lst (cs.map V.int))) (hp : 0 ≤ p) (hr : 0 ≤ r) : Go st cl H (upd H1 st (.lst [.ref cl, .int p, .int r, .int t, .int sd])) := by
  have n := g.2.1
  refine ⟨fun b u nb h => ?_, n, cs, p, r, t, sd, upd_same, ?_, hp, hr⟩
  · rw [upd_ne nb]
    exact g.1 b u nb h
  · rw [upd_ne n.symm]
    exact h2
theorem at_of {α : Type} {xs : List α} {i : Int} (h0 : 0 ≤ i) (h1 : i < xs.length) : ∃ v, atI xs i = some v ∧ v ∈ xs := by
  have hj : i.toNat < xs.length := by omega
  refine ⟨xs[i.toNat], ?_, List.getElem_mem _⟩
  have e : ((i.toNat : Nat) : Int) = i := by omega
  have := atI_nat (List.getElem?_eq_getElem hj)
  rw [e] at this
  exact this
theorem at_map {α β : Type} {f : α → β} {xs : List α} {i : Int} (h0 : 0 ≤ i) (h1 : i < xs.length) : ∃ v, atI (xs.map f) i = some (f v) ∧ v ∈ xs := by
  obtain ⟨u, hu, hm⟩ := at_of (xs := xs.map f) h0 (by rw [List.length_map]; exact h1)
  obtain ⟨v, hv, e⟩ := List.mem_map.mp hm
  exact ⟨v, by rw [e]; exact hu, hv⟩
end
/-! ### values: None, truths, numbers of at most 30 digits, texts of at most 40 signs -/
def signB (c : Nat) : Bool := decide (32 ≤ c) && decide (c ≤ 126) && decide (c ≠ 37)
def txtB (n : Nat) (z : Str) : Bool := decide (z.length ≤ n) && z.cps.toList.all signB
def numB (i : Int) : Bool := decide (-1000000000000000000000000000000 < i) && decide (i < 1000000000000000000000000000000)
def flatB : V → Bool
  | .non => true
  | .bl _ => true
  | .int i => numB i
  | .str z => txtB 40 z
  | _ => false
abbrev FlatV (v : V) : Prop := flatB v = true
theorem numB_iff {i : Int} : numB i = true ↔ -1000000000000000000000000000000 < i ∧ i < 1000000000000000000000000000000 := by
  unfold numB
  rw [Bool.and_eq_true, decide_eq_true_eq, decide_eq_true_eq]
theorem txtB_iff {n : Nat} {z : Str} : txtB n z = true ↔ z.length ≤ n ∧ ∀ c ∈ z.cps.toList, signB c = true := by
  unfold txtB
  rw [Bool.and_eq_true, decide_eq_true_eq, List.all_eq_true]
theorem num_log {i : Int} (h : numB i = true) : i.natAbs.log2 < 1920 := by
  have h' := numB_iff.mp h
  have h2 : i.natAbs < 2 ^ 100 := by omega
  have h3 : i.natAbs.log2 < 100 := PySem.Flt.log2_lt_of (by decide) h2
  omega
theorem txt_line {n : Nat} {z : Str} (h : txtB n z = true) (hn : n ≤ 1000) : z.length ≤ sizeLine := Nat.le_of_lt (small1000 (Nat.le_trans (txtB_iff.mp h).1 hn))
theorem len_cps (z : Str) : z.length = z.cps.toList.length := by
  rw [Array.length_toList]
  rfl
theorem txt_of {n : Nat} {l : List Nat} (h1 : l.length ≤ n) (h2 : ∀ c ∈ l, signB c = true) : txtB n ⟨l.toArray⟩ = true := txtB_iff.mpr ⟨by rw [len_cps]; exact h1, h2⟩
theorem txt_cut {n : Nat} {z : Str} {lo hi : Option Int} (h : txtB n z = true) : txtB n (cutS z lo hi) = true := by
  have h' := txtB_iff.mp h
  refine txtB_iff.mpr ⟨Nat.le_trans (cutS_length z lo hi) h'.1, fun c hc => h'.2 c ?_⟩
  exact List.mem_of_mem_drop (List.mem_of_mem_take hc)
/-- z[:m] -/
theorem cut_to {z : Str} {m : Nat} : (cutS z none (some (m : Int))).length ≤ m := by
  rw [len_cps]
  show ((z.cps.toList.drop (HT.sIx z.length 0 none)).take (HT.sIx z.length z.length (some (m : Int)) - HT.sIx z.length 0 none)).length ≤ m
  rw [HT.sIx_nat, HT.sIx_none, List.length_take]
  omega
theorem txt_to {n : Nat} {z : Str} {m : Int} (h0 : 0 ≤ m) (h : txtB n z = true) : txtB m.toNat (cutS z none (some m)) = true := by
  have h' := txtB_iff.mp (txt_cut (lo := none) (hi := some m) h)
  refine txtB_iff.mpr ⟨?_, h'.2⟩
  have e : ((m.toNat : Nat) : Int) = m := by omega
  have := cut_to (z := z) (m := m.toNat)
  rw [e] at this
  exact this
theorem txt_mono {n k : Nat} {z : Str} (hk : n ≤ k) (h : txtB n z = true) : txtB k z = true := by
  have h' := txtB_iff.mp h
  exact txtB_iff.mpr ⟨Nat.le_trans h'.1 hk, h'.2⟩
theorem all_mem {p : V → Bool} {xs : List V} (h : xs.all p = true) {v : V} (hv : v ∈ xs) : p v = true := List.all_eq_true.mp h v hv
/-- ''.join of single signs -/
theorem join_signs (cs : List Nat) : Txt.join (Str.ofString "") (cs.map fun c => (⟨#[c]⟩ : Str)) = ⟨cs.toArray⟩ := by
  have e : ∀ l : List Nat, TL.joinL [] (l.map fun c => [c]) = l := by
    intro l
    induction l with
    | nil => rfl
    | cons c r ih =>
      cases r with
      | nil => rfl
      | cons d r =>
        show [c] ++ ([] ++ TL.joinL [] ((d :: r).map fun c => [c])) = _
        rw [ih]
        rfl
  have h := SX.join_S [] (cs.map fun c => [c])
  rw [List.map_map] at h
  have h2 : SX.S [] = Str.ofString "" := by decide +kernel
  rw [e, h2] at h
  exact h
end G

/-! The order of data as Python has it: the first items that differ decide; what stands behind them need not be comparable. -/
namespace G
open PySem PySem.Spec PyProof.Rows L2
/-! ### the order, as far as it goes; up: the other way round -/
mutual
def ltD (up : Bool) : PyData → PyData → Option Bool
  | .int i, .int j => some (if up then decide (j < i) else decide (i < j))
  | .str x, .str y => some (if up then decide (y.cps.toList < x.cps.toList) else decide (x.cps.toList < y.cps.toList))
  | .tuple xs, .tuple ys => ltAll up xs ys
  | _, _ => none
def ltAll (up : Bool) : List PyData → List PyData → Option Bool
  | [], [] => some false
  | [], _ :: _ => some (!up)
  | _ :: _, [] => some up
  | x :: xs, y :: ys => if PyData.eqv x y = true then ltAll up xs ys else ltD up x y
end
theorem depth_mem {x : PyData} : ∀ {xs : List PyData}, x ∈ xs → x.depth ≤ PyData.depthAll xs
  | y :: ys, h => by
    rw [PyData.depthAll]
    rcases List.mem_cons.mp h with e | h
    · rw [e]
      exact Nat.le_max_left _ _
    · exact Nat.le_trans (depth_mem h) (Nat.le_max_right _ _)
/-- what is asked of the items, one by one, from the left -/
def FirstBy (A : Around) (s : Shared) (op : CmpOp) (sz : Bool) (k : Bool) : List Value → List Value → Prop
  | v :: vs, u :: us => ∃ q, SeqAt.EqAt A s v u q ∧ (q = true → FirstBy A s op sz k vs us) ∧ (q = false → Ob.RcOp op A s v u k)
  | _, _ => sz = k
open PySem.AutoSeq1 (wpAny_loadPart') in
open PySem.MeetsSeq PySem.MeetsSeq2 PySem.MeetsSeq3 in
theorem tup_first_lt (l b : Addr) (its jts : Array Value) (n m : Nat) (dl db : Option Addr) (sl sb : Array (Option Value)) (k : Bool) :
    Meets (Builtin.«tuple.__lt__» ⟨[.ref l, .ref b], []⟩) (fun A R s => s.heap.get? l = some { cls := .type "tuple", dict := dl, data := .seq its n, slots := sl } ∧
      s.heap.get? b = some { cls := .type "tuple", dict := db, data := .seq jts m, slots := sb } ∧ FirstBy A.in1 s .Lt (decide (its.size < jts.size)) k its.toList jts.toList ∧ R (.ok (.ret (.bool k))) s) :=
  .of_wp fun prog w A R s hyp => by
    obtain ⟨hp, gn, dr, tk, os⟩ := s
    obtain ⟨hl, hb, hF, hR⟩ := hyp
    have f2 := AutoSeq1.sub_tuple_tuple
    wp_walk using wpAny_loadPart' hl, wpAny_loadPart' hb, wpAny_forIn_list _ (fun rest r s' => r.1 = none ∧ s' = ⟨hp, gn, dr, tk, os⟩ ∧ ∃ vs us, rest = vs.zip us ∧ FirstBy A.in1 ⟨hp, gn, dr, tk, os⟩ .Lt (decide (its.size < jts.size)) k vs us) _
    case turn =>
      rintro ⟨y, x⟩ rest r s' ⟨hr, rfl, vs, us, hz, hF⟩
      cases vs with
      | nil => cases hz
      | cons v vs =>
        cases us with
        | nil => cases hz
        | cons u us =>
          rw [List.zip_cons_cons] at hz
          injection hz with h1 h2
          injection h1 with e1 e2
          subst e1 e2 h2
          obtain ⟨q, hq, h1, h2⟩ := hF
          refine wpAny_bind (hq prog w _ _ ?_)
          cases q with
          | true =>
            wp_walk
            exact ⟨rfl, rfl, vs, us, rfl, h1 rfl⟩
          | false =>
            have step := h2 rfl prog w
            wp_walk using step
            exact ⟨_, rfl, by simpa using hR⟩
    case fin =>
      rintro ⟨r1, r2⟩ s' ⟨hr, rfl, vs, us, hz, hF⟩
      simp only at hr
      subst hr
      have hk : decide (its.size < jts.size) = k := by
        cases vs with
        | nil => exact hF
        | cons v vs =>
          cases us with
          | nil => exact hF
          | cons u us => cases hz
      wp_walk
      refine ⟨_, rfl, ?_⟩
      rw [← hk] at hR
      simpa [Builtin.Tuple.tupleCompareSizes] using hR
    case h => exact ⟨rfl, rfl, its.toList, jts.toList, rfl, hF⟩
open PySem.AutoSeq1 (wpAny_loadPart') in
open PySem.MeetsSeq PySem.MeetsSeq2 PySem.MeetsSeq3 in
theorem tup_first_gt (l b : Addr) (its jts : Array Value) (n m : Nat) (dl db : Option Addr) (sl sb : Array (Option Value)) (k : Bool) :
    Meets (Builtin.«tuple.__gt__» ⟨[.ref l, .ref b], []⟩) (fun A R s => s.heap.get? l = some { cls := .type "tuple", dict := dl, data := .seq its n, slots := sl } ∧
      s.heap.get? b = some { cls := .type "tuple", dict := db, data := .seq jts m, slots := sb } ∧ FirstBy A.in1 s .Gt (decide (its.size > jts.size)) k its.toList jts.toList ∧ R (.ok (.ret (.bool k))) s) :=
  .of_wp fun prog w A R s hyp => by
    obtain ⟨hp, gn, dr, tk, os⟩ := s
    obtain ⟨hl, hb, hF, hR⟩ := hyp
    have f2 := AutoSeq1.sub_tuple_tuple
    wp_walk using wpAny_loadPart' hl, wpAny_loadPart' hb, wpAny_forIn_list _ (fun rest r s' => r.1 = none ∧ s' = ⟨hp, gn, dr, tk, os⟩ ∧ ∃ vs us, rest = vs.zip us ∧ FirstBy A.in1 ⟨hp, gn, dr, tk, os⟩ .Gt (decide (its.size > jts.size)) k vs us) _
    case turn =>
      rintro ⟨y, x⟩ rest r s' ⟨hr, rfl, vs, us, hz, hF⟩
      cases vs with
      | nil => cases hz
      | cons v vs =>
        cases us with
        | nil => cases hz
        | cons u us =>
          rw [List.zip_cons_cons] at hz
          injection hz with h1 h2
          injection h1 with e1 e2
          subst e1 e2 h2
          obtain ⟨q, hq, h1, h2⟩ := hF
          refine wpAny_bind (hq prog w _ _ ?_)
          cases q with
          | true =>
            wp_walk
            exact ⟨rfl, rfl, vs, us, rfl, h1 rfl⟩
          | false =>
            have step := h2 rfl prog w
            wp_walk using step
            exact ⟨_, rfl, by simpa using hR⟩
    case fin =>
      rintro ⟨r1, r2⟩ s' ⟨hr, rfl, vs, us, hz, hF⟩
      simp only at hr
      subst hr
      have hk : decide (its.size > jts.size) = k := by
        cases vs with
        | nil => exact hF
        | cons v vs =>
          cases us with
          | nil => exact hF
          | cons u us => cases hz
      wp_walk
      refine ⟨_, rfl, ?_⟩
      rw [← hk] at hR
      simpa [Builtin.Tuple.tupleCompareSizes] using hR
    case h => exact ⟨rfl, rfl, its.toList, jts.toList, rfl, hF⟩

abbrev opU (up : Bool) : CmpOp := if up then .Gt else .Lt
def szU (up : Bool) (m n : Nat) : Bool := if up then decide (m > n) else decide (m < n)
theorem first_data {up : Bool} {A : Around} {s : Shared} {N : Nat} {k : Bool} (hu : A.units + N < cLine)
    (ih : ∀ (d e : PyData) (a b : Value) (as bs : List Addr) (k : Bool), d.depth ≤ N → Reads s.heap a d as → Reads s.heap b e bs → d.canLay0 = true → e.canLay0 = true → ltD up d e = some k → Ob.RcOp (opU up) A s a b k) :
    ∀ (xs ys : List PyData) (vs us : List Value) (as bs : List Addr), ReadsAll s.heap vs xs as → ReadsAll s.heap us ys bs → PyData.canLayAll0 xs = true → PyData.canLayAll0 ys = true → PyData.depthAll xs ≤ N →
      ltAll up xs ys = some k → FirstBy A s (opU up) (szU up vs.length us.length) k vs us
  | [], [], vs, us, as, bs, rx, ry, _, _, _, h => by
    cases rx
    cases ry
    have e := Option.some.inj h
    subst e
    unfold szU
    cases up <;> rfl
  | [], y :: ys, vs, us, as, bs, rx, ry, _, _, _, h => by
    cases rx
    cases ry
    have e := Option.some.inj h
    subst e
    unfold szU
    cases up <;> simp [FirstBy]
  | x :: xs, [], vs, us, as, bs, rx, ry, _, _, _, h => by
    cases rx
    cases ry
    have e := Option.some.inj h
    subst e
    unfold szU
    cases up <;> simp [FirstBy]
  | x :: xs, y :: ys, vs, us, as, bs, rx, ry, cx, cy, hd, h => by
    cases rx with
    | cons r rs =>
      cases ry with
      | cons r' rs' =>
        rw [PyData.canLayAll0, Bool.and_eq_true] at cx cy
        rw [PyData.depthAll] at hd
        have h1 : x.depth ≤ N := Nat.le_trans (Nat.le_max_left _ _) hd
        have h2 : PyData.depthAll xs ≤ N := Nat.le_trans (Nat.le_max_right _ _) hd
        refine ⟨PyData.eqv x y, SeqAt.eqAt_reads x y A s _ _ _ _ r r' cx.1 cy.1 (by have := Nat.min_le_left x.depth y.depth; omega), fun e => ?_, fun e => ?_⟩
        · rw [ltAll, if_pos e] at h
          have := first_data hu ih xs ys _ _ _ _ rs rs' cx.2 cy.2 h2 h
          rw [List.length_cons, List.length_cons]
          unfold szU at this ⊢
          simpa using this
        · rw [ltAll, if_neg (by rw [e]; exact Bool.false_ne_true)] at h
          exact ih x y _ _ _ _ k h1 r r' cx.1 cy.1 h
theorem rc_data (up : Bool) : ∀ (N : Nat) (A : Around) (s : Shared), A.units + N < cLine → ∀ (d e : PyData) (a b : Value) (as bs : List Addr) (k : Bool), d.depth ≤ N → Reads s.heap a d as → Reads s.heap b e bs → d.canLay0 = true → e.canLay0 = true →
    ltD up d e = some k → Ob.RcOp (opU up) A s a b k := by
  intro N
  induction N with
  | zero =>
    intro A s hu d e a b as bs k hd ra rb ca cb h
    cases d with
    | int i =>
      cases e with
      | int j =>
        cases ra
        cases rb
        have e := Option.some.inj h
        subst e
        intro prog w E Q q
        cases up
        · exact lt_int q
        · exact gt_int q
      | _ => cases h
    | str i =>
      cases e with
      | str j =>
        cases ra
        cases rb
        have e := Option.some.inj h
        subst e
        intro prog w E Q q
        cases up
        · exact PySem.P.lt_str q
        · exact PySem.P.gt_str q
      | _ => cases h
    | tuple xs =>
      rw [PyData.depth] at hd
      omega
    | _ => cases e <;> cases h
  | succ N ih =>
    intro A s hu d e a b as bs k hd ra rb ca cb h
    cases d with
    | int i =>
      cases e with
      | int j =>
        cases ra
        cases rb
        have e := Option.some.inj h
        subst e
        intro prog w E Q q
        cases up
        · exact lt_int q
        · exact gt_int q
      | _ => cases h
    | str i =>
      cases e with
      | str j =>
        cases ra
        cases rb
        have e := Option.some.inj h
        subst e
        intro prog w E Q q
        cases up
        · exact PySem.P.lt_str q
        · exact PySem.P.gt_str q
      | _ => cases h
    | tuple xs =>
      cases e with
      | tuple ys =>
        cases ra with
        | @tuple l o vs n _ as h1 h2 h3 h4 =>
          cases rb with
          | @tuple b o' us m _ bs k1 k2 k3 k4 =>
            rw [PyData.depth] at hd
            rw [PyData.canLay0] at ca cb
            have hF := first_data (A := A.in1) (s := s) (N := N) (k := k) (up := up) (by show A.units + 1 + N < cLine; omega) (ih A.in1 s (by show A.units + 1 + N < cLine; omega)) xs ys vs.toList us.toList as bs h4 k4 ca cb (by omega) h
            obtain ⟨cls, dd, data, sl⟩ := o
            obtain ⟨cls', dd', data', sl'⟩ := o'
            simp only at h2 h3 k2 k3
            subst h2 h3 k2 k3
            intro prog w E Q q
            unfold szU at hF
            rw [Array.length_toList, Array.length_toList] at hF
            have hne : Value.bool k ≠ Value.notImplemented ∧ Q (.bool k) s := ⟨(fun x => nomatch x), q⟩
            cases up
            · exact PySem.richCompare_meets_room (op := .Lt) ⟨_, h1, rfl⟩ ⟨_, k1, rfl⟩ F.slot_tuple_lt F.entry_tuple_lt (F.args_tuple_lt_2 _ _) (tup_first_lt l b vs us n m dd dd' sl sl' k) ⟨h1, k1, hF, hne⟩ (by omega)
            · exact PySem.richCompare_meets_room (op := .Gt) ⟨_, h1, rfl⟩ ⟨_, k1, rfl⟩ F.slot_tuple_gt F.entry_tuple_gt (F.args_tuple_gt_2 _ _) (tup_first_gt l b vs us n m dd dd' sl sl' k) ⟨h1, k1, hF, hne⟩ (by omega)
      | _ => cases h
    | _ => cases e <;> cases h
/-- x < y, x > y of data -/
def fCmpD (up : Bool) (K : PySem.W.Frag) : R2 := fun x y H Q => ∃ d e b, Dp K H x d ∧ Dp K H y e ∧ SeqAt.shaped d = true ∧ SeqAt.shaped e = true ∧ ltD up d e = some b ∧ Q (.bl b) H
theorem shaped_iff {d : PyData} : SeqAt.shaped d = true ↔ d.canLay0 = true ∧ d.depth ≤ 64 := by
  unfold SeqAt.shaped
  rw [Bool.and_eq_true, decide_eq_true_eq]
section
variable {X : Cx}
theorem o_ltD (K : PySem.W.Frag) {k : Nat} (hr : Room k X.A) (hK : X.K = K := by rfl) : OpR X (compareOp .Lt) (fCmpD false K) := fun pins s σ H x y v u Q I rx ry h => by
  subst hK
  obtain ⟨d, e, b, hd, he, sd, se, hl, q⟩ := h
  obtain ⟨as, r1⟩ := Dp.reads I d x v hd rx
  obtain ⟨bs, r2⟩ := Dp.reads I e y u he ry
  exact rc_data false 64 X.A s hr.units d e v u as bs b (shaped_iff.mp sd).2 r1 r2 (shaped_iff.mp sd).1 (shaped_iff.mp se).1 hl _ _ _ _ ⟨.bl b, H, I, rfl, q⟩
theorem o_gtD (K : PySem.W.Frag) {k : Nat} (hr : Room k X.A) (hK : X.K = K := by rfl) : OpR X (compareOp .Gt) (fCmpD true K) := fun pins s σ H x y v u Q I rx ry h => by
  subst hK
  obtain ⟨d, e, b, hd, he, sd, se, hl, q⟩ := h
  obtain ⟨as, r1⟩ := Dp.reads I d x v hd rx
  obtain ⟨bs, r2⟩ := Dp.reads I e y u he ry
  exact rc_data true 64 X.A s hr.units d e v u as bs b (shaped_iff.mp sd).2 r1 r2 (shaped_iff.mp sd).1 (shaped_iff.mp se).1 hl _ _ _ _ ⟨.bl b, H, I, rfl, q⟩
theorem o_eqD (K : PySem.W.Frag) {k : Nat} (hr : Room k X.A) (hK : X.K = K := by rfl) : OpR X (compareOp .Eq) (rEqD K) := by
  subst hK
  exact op_eqD hr.units
theorem o_neD (K : PySem.W.Frag) {k : Nat} (hr : Room k X.A) (hK : X.K = K := by rfl) : OpR X (compareOp .NotEq) (rNeD K) := by
  subst hK
  exact op_neD hr.units
end
end G

/-! Data in the heap: what stays, what flat values and their keys are worth. -/
namespace G
open PySem PySem.Spec PyProof.Rows L2
/-! ### what is fixed once it is laid -/
def fixd : HO → Bool
  | .tup _ => true
  | .frz _ _ => true
  | _ => false
/-- tuples stay -/
def Tk (H H' : Hp) : Prop := ∀ b o, fixd o = true → H b = some o → H' b = some o
section
variable {H H1 H2 : Hp} {st cl l : Addr} {o : HO} {K : PySem.W.Frag}
theorem Tk.refl (H : Hp) : Tk H H := fun _ _ _ h => h
theorem Tk.trans (a : Tk H H1) (b : Tk H1 H2) : Tk H H2 := fun c u f h => b c u f (a c u f h)
theorem Tk.same (e : Same H H1) : Tk H H1 := fun b u _ h => e b u h
theorem Tk.go (g : Go st cl H H1) (s : Sto H st cl) : Tk H H1 := fun b u f h => by
  refine g.1 b u (fun e => ?_) h
  obtain ⟨xs, hx⟩ := s.stIs
  rw [e, hx] at h
  cases h
  cases f
theorem Tk.lay (h : H l = none) : Tk H (upd H l o) := Tk.same (same_upd h)
theorem Tk.put {xs : List V} (h : H l = some (.lst xs)) : Tk H (upd H l o) := fun b u f e => by
  rw [upd_ne fun z => ?_]
  · exact e
  · rw [z, h] at e
    cases e
    cases f
theorem Tk.tup (t : Tk H H1) {a : Addr} {xs : List V} (h : SqT K H a xs) : SqT K H1 a xs := by
  rcases h with (h | ⟨o, h⟩) | h
  · exact .inl (.inl (t _ _ rfl h))
  · exact .inl (.inr ⟨o, t _ _ rfl h⟩)
  · exact .inr h
end
/-! ### data of tuples alone -/
mutual
def tupD : PyData → Bool
  | .tuple xs => tupAll xs
  | .list _ => false
  | .dict _ => false
  | _ => true
def tupAll : List PyData → Bool
  | [] => true
  | x :: xs => tupD x && tupAll xs
end
mutual
theorem Dp.tk {K : PySem.W.Frag} {H H1 : Hp} (t : Tk H H1) : ∀ (d : PyData) (v : V), tupD d = true → Dp K H v d → Dp K H1 v d
  | .none, _, _, h => by cases h; exact .non
  | .bool b, _, _, h => by cases h; exact .bl b
  | .int i, _, _, h => by cases h; exact .int i
  | .str x, _, _, h => by cases h; exact .str x
  | .list _, _, c, _ => by cases c
  | .dict _, _, c, _ => by cases c
  | .tuple xs, _, c, h => by
    rw [tupD] at c
    cases h with
    | tup h1 h2 => exact .tup (t.tup h1) (Dp.tkAll t xs _ c h2)
theorem Dp.tkAll {K : PySem.W.Frag} {H H1 : Hp} (t : Tk H H1) : ∀ (ds : List PyData) (vs : List V), tupAll ds = true → DpAll K H vs ds → DpAll K H1 vs ds
  | [], _, _, h => by cases h; exact .nil
  | d :: ds, _, c, h => by
    rw [tupAll, Bool.and_eq_true] at c
    cases h with
    | cons h1 h2 => exact .cons (Dp.tk t d _ c.1 h1) (Dp.tkAll t ds _ c.2 h2)
end
mutual
theorem Dp.same {K : PySem.W.Frag} {H H1 : Hp} (t : Same H H1) : ∀ (d : PyData) (v : V), Dp K H v d → Dp K H1 v d
  | .none, _, h => by cases h; exact .non
  | .bool b, _, h => by cases h; exact .bl b
  | .int i, _, h => by cases h; exact .int i
  | .str x, _, h => by cases h; exact .str x
  | .list xs, _, h => by
    cases h with
    | lst h1 h2 => exact .lst (t.seq h1) (Dp.sameAll t xs _ h2)
  | .dict _, _, h => by cases h
  | .tuple xs, _, h => by
    cases h with
    | tup h1 h2 => exact .tup (Same.tup t h1) (Dp.sameAll t xs _ h2)
theorem Dp.sameAll {K : PySem.W.Frag} {H H1 : Hp} (t : Same H H1) : ∀ (ds : List PyData) (vs : List V), DpAll K H vs ds → DpAll K H1 vs ds
  | [], _, h => by cases h; exact .nil
  | d :: ds, _, h => by
    cases h with
    | cons h1 h2 => exact .cons (Dp.same t d _ h1) (Dp.sameAll t ds _ h2)
end
section
variable {K : PySem.W.Frag} {H : Hp}
theorem DpAll.length {vs : List V} {ds : List PyData} (h : DpAll K H vs ds) : vs.length = ds.length := by
  induction vs generalizing ds with
  | nil => cases h; rfl
  | cons v vs ih =>
    cases h with
    | cons h1 h2 => rw [List.length_cons, List.length_cons, ih h2]
theorem DpAll.get {vs : List V} {ds : List PyData} (h : DpAll K H vs ds) {i : Nat} {d : PyData} (hd : ds[i]? = some d) : ∃ v, vs[i]? = some v ∧ Dp K H v d := by
  induction vs generalizing ds i with
  | nil => cases h; cases hd
  | cons v vs ih =>
    cases h with
    | cons h1 h2 =>
      cases i with
      | zero =>
        cases hd
        exact ⟨v, rfl, h1⟩
      | succ i => exact ih h2 hd
theorem DpAll.app {vs us : List V} {ds es : List PyData} (h : DpAll K H vs ds) (k : DpAll K H us es) : DpAll K H (vs ++ us) (ds ++ es) := by
  induction vs generalizing ds with
  | nil => cases h; exact k
  | cons v vs ih =>
    cases h with
    | cons h1 h2 => exact .cons h1 (ih h2)
theorem DpAll.one {v : V} {d : PyData} (h : Dp K H v d) : DpAll K H [v] [d] := .cons h .nil
end
/-! ### flat values, their keys -/
def dV : V → PyData
  | .bl b => .bool b
  | .int i => .int i
  | .str z => .str z
  | _ => .none
def kRank : V → Int
  | .bl _ => 1
  | .int _ => 2
  | .str _ => 3
  | _ => 0
def kCont : V → PyData
  | .bl b => .int (if b then 1 else 0)
  | .int i => .int i
  | .str z => .str z
  | _ => .int 0
def keyD (v : V) : PyData := .tuple [.int (kRank v), kCont v]
def ltV : V → V → Bool
  | .bl a, .bl b => decide ((if a then 1 else 0 : Int) < (if b then 1 else 0))
  | .int i, .int j => decide (i < j)
  | .str x, .str y => decide (x.cps.toList < y.cps.toList)
  | x, y => decide (kRank x < kRank y)
theorem dp_flat {K : PySem.W.Frag} {H : Hp} {v : V} (h : FlatV v) : Dp K H v (dV v) := by
  cases v <;> first
    | exact .non
    | exact .bl _
    | exact .int _
    | exact .str _
    | cases h
theorem dp_flats {K : PySem.W.Frag} {H : Hp} : ∀ {vs : List V}, (∀ v ∈ vs, FlatV v) → DpAll K H vs (vs.map dV)
  | [], _ => .nil
  | v :: vs, h => .cons (dp_flat (h v (List.mem_cons_self ..))) (dp_flats fun u hu => h u (List.mem_cons_of_mem _ hu))
theorem dp_cont {K : PySem.W.Frag} {H : Hp} {v : V} (h : FlatV v) : ∃ c, Dp K H c (kCont v) := by
  cases v <;> first
    | exact ⟨_, .int _⟩
    | exact ⟨_, .str _⟩
    | cases h
theorem eqv_int (i j : Int) : PyData.eqv (.int i) (.int j) = decide (i = j) := by
  rw [PyData.eqv, Bool.beq_eq_decide_eq]
theorem eqv_str (x y : Str) : PyData.eqv (.str x) (.str y) = decide (x = y) := by
  rw [PyData.eqv, Bool.beq_eq_decide_eq]
theorem eqv_pair (a b c d : PyData) : PyData.eqv (.tuple [a, b]) (.tuple [c, d]) = (PyData.eqv a c && PyData.eqv b d) := by
  rw [PyData.eqv, PyData.eqvAll, PyData.eqvAll, PyData.eqvAll, Bool.and_true]
theorem eqv_key {x y : V} (hx : FlatV x) (hy : FlatV y) : PyData.eqv (keyD x) (keyD y) = decide (x = y) := by
  unfold keyD
  rw [eqv_pair, eqv_int]
  cases x <;> first
    | cases hx; done
    | (cases y <;> first
        | cases hy; done
        | (rename_i a b; cases a <;> cases b <;> first | rfl | decide)
        | (simp [kRank, kCont, eqv_int, eqv_str]))
theorem ltD_key {up : Bool} {x y : V} (hx : FlatV x) (hy : FlatV y) (ne : x ≠ y) : ltD up (keyD x) (keyD y) = some (if up then ltV y x else ltV x y) := by
  unfold keyD
  rw [ltD, ltAll, eqv_int]
  by_cases hr : kRank x = kRank y
  · rw [if_pos (decide_eq_true hr), ltAll]
    have hc : PyData.eqv (kCont x) (kCont y) = false := by
      have h := eqv_key hx hy
      unfold keyD at h
      rw [eqv_pair, eqv_int, decide_eq_true hr, Bool.true_and, decide_eq_false ne] at h
      exact h
    rw [if_neg (by rw [hc]; exact Bool.false_ne_true)]
    cases x <;> first
      | cases hx; done
      | (cases y <;> first
          | cases hy; done
          | (exfalso; revert hr; simp [kRank]; done)
          | (cases up <;> rfl)
          | (exact absurd rfl ne))
  · rw [if_neg (by rw [decide_eq_false hr]; exact Bool.false_ne_true), ltD]
    cases x <;> first
      | cases hx; done
      | (cases y <;> first
          | cases hy; done
          | (exact absurd rfl hr)
          | (cases up <;> rfl))
/-! ### rows by their keys -/
def rowLt : List V → List V → Bool
  | [], [] => false
  | [], _ :: _ => true
  | _ :: _, [] => false
  | x :: xs, y :: ys => if x = y then rowLt xs ys else ltV x y
theorem ltAll_keys {up : Bool} : ∀ {xs ys : List V}, (∀ x ∈ xs, FlatV x) → (∀ y ∈ ys, FlatV y) → ltAll up (xs.map keyD) (ys.map keyD) = some (if up then rowLt ys xs else rowLt xs ys)
  | [], [], _, _ => by cases up <;> rfl
  | [], _ :: _, _, _ => by cases up <;> rfl
  | _ :: _, [], _, _ => by cases up <;> rfl
  | x :: xs, y :: ys, hx, hy => by
    have fx := hx x (List.mem_cons_self ..)
    have fy := hy y (List.mem_cons_self ..)
    rw [List.map_cons, List.map_cons, ltAll, eqv_key fx fy]
    by_cases e : x = y
    · subst e
      rw [if_pos (decide_eq_true rfl), ltAll_keys (fun u hu => hx u (List.mem_cons_of_mem _ hu)) (fun u hu => hy u (List.mem_cons_of_mem _ hu))]
      cases up
      · show some (rowLt xs ys) = some (if x = x then rowLt xs ys else ltV x x)
        rw [if_pos rfl]
      · show some (rowLt ys xs) = some (if x = x then rowLt ys xs else ltV x x)
        rw [if_pos rfl]
    · rw [if_neg (by rw [decide_eq_false e]; exact Bool.false_ne_true), ltD_key fx fy e]
      cases up
      · show some (ltV x y) = some (if x = y then rowLt xs ys else ltV x y)
        rw [if_neg e]
      · show some (ltV y x) = some (if y = x then rowLt ys xs else ltV y x)
        rw [if_neg (fun z => e z.symm)]
theorem ltV_asymm {x y : V} (hx : FlatV x) (hy : FlatV y) (h : ltV x y = true) : ltV y x = false := by
  cases x <;> first
    | (cases hx; done)
    | (cases y <;> first
        | (cases hy; done)
        | (rename_i a b; revert h; cases a <;> cases b <;> simp [ltV]; done)
        | (rename_i a b; have h' : decide (a.cps.toList < b.cps.toList) = true := h; exact decide_eq_false (List.lt_asymm (of_decide_eq_true h')))
        | (simp [ltV, kRank] at h ⊢; done)
        | (simp [ltV, kRank] at h ⊢; omega))
theorem rowLt_asymm : ∀ {xs ys : List V}, (∀ x ∈ xs, FlatV x) → (∀ y ∈ ys, FlatV y) → rowLt xs ys = true → rowLt ys xs = false
  | [], [], _, _, h => by cases h
  | [], _ :: _, _, _, _ => rfl
  | _ :: _, [], _, _, h => by cases h
  | x :: xs, y :: ys, hx, hy, h => by
    rw [rowLt] at h ⊢
    by_cases e : x = y
    · subst e
      rw [if_pos rfl] at h ⊢
      exact rowLt_asymm (fun u hu => hx u (List.mem_cons_of_mem _ hu)) (fun u hu => hy u (List.mem_cons_of_mem _ hu)) h
    · rw [if_neg e] at h
      rw [if_neg fun z => e z.symm]
      exact ltV_asymm (hx x (List.mem_cons_self ..)) (hy y (List.mem_cons_self ..)) h
/-- -1, 0 or 1 -/
def rowOrd (xs ys : List V) : Int := if rowLt xs ys = true then -1 else if rowLt ys xs = true then 1 else 0
def b1 (b : Bool) : Int := if b then 1 else 0
theorem ord_diff {xs ys : List V} (hx : ∀ x ∈ xs, FlatV x) (hy : ∀ y ∈ ys, FlatV y) : b1 (rowLt ys xs) - b1 (rowLt xs ys) = rowOrd xs ys := by
  unfold rowOrd b1
  cases h : rowLt xs ys
  · cases h2 : rowLt ys xs <;> simp
  · rw [rowLt_asymm hx hy h]
    simp
/-! ### shapes -/
theorem canLay_key {v : V} (h : FlatV v) : (keyD v).canLay0 = true := by
  have hs : ∀ z, txtB 40 z = true → PyData.canLay0 (.str z) = true := fun z hz => by
    rw [PyData.canLay0]
    unfold PyData.strOk
    rw [← Array.all_toList, List.all_eq_true]
    intro c hc
    have := (txtB_iff.mp hz).2 c hc
    unfold signB at this
    simp only [Bool.and_eq_true, decide_eq_true_eq] at this
    exact decide_eq_true (by omega)
  unfold keyD
  rw [PyData.canLay0, PyData.canLayAll0, PyData.canLayAll0, PyData.canLayAll0, PyData.canLay0, Bool.true_and, Bool.and_true]
  cases v <;> first
    | rfl
    | exact hs _ h
    | cases h
theorem depth_key (v : V) (h : FlatV v) : (keyD v).depth = 1 := by
  unfold keyD
  rw [PyData.depth, PyData.depthAll, PyData.depthAll, PyData.depthAll, PyData.depth]
  cases v <;> first
    | rfl
    | cases h
theorem shaped_key {v : V} (h : FlatV v) : SeqAt.shaped (keyD v) = true := shaped_iff.mpr ⟨canLay_key h, by rw [depth_key v h]; decide⟩
theorem tupD_key {v : V} (h : FlatV v) : tupD (keyD v) = true := by
  cases v <;> first
    | (simp [keyD, kRank, kCont, tupD, tupAll]; done)
    | cases h
theorem tupAll_keys : ∀ {xs : List V}, (∀ x ∈ xs, FlatV x) → tupAll (xs.map keyD) = true
  | [], _ => rfl
  | x :: xs, h => by
    rw [List.map_cons, tupAll, tupD_key (h x (List.mem_cons_self ..)), tupAll_keys fun u hu => h u (List.mem_cons_of_mem _ hu)]
    rfl
theorem shaped_keys {xs : List V} (h : ∀ x ∈ xs, FlatV x) : SeqAt.shaped (.tuple (xs.map keyD)) = true := by
  have h1 : ∀ {ys : List V}, (∀ x ∈ ys, FlatV x) → PyData.canLayAll0 (ys.map keyD) = true ∧ PyData.depthAll (ys.map keyD) ≤ 1 := by
    intro ys
    induction ys with
    | nil => exact fun _ => ⟨rfl, by decide⟩
    | cons y ys ih =>
      intro hy
      obtain ⟨a, b⟩ := ih fun u hu => hy u (List.mem_cons_of_mem _ hu)
      have fy := hy y (List.mem_cons_self ..)
      rw [List.map_cons, PyData.canLayAll0, PyData.depthAll, canLay_key fy, a, depth_key y fy]
      exact ⟨rfl, by omega⟩
  obtain ⟨a, b⟩ := h1 h
  refine shaped_iff.mpr ⟨by rw [PyData.canLay0]; exact a, ?_⟩
  rw [PyData.depth]
  omega

/-! ### a number as a text -/
theorem digit_sign {c : Char} (h : c.isDigit = true) : 48 ≤ c.toNat ∧ c.toNat ≤ 57 := by
  unfold Char.isDigit at h
  rw [Bool.and_eq_true, decide_eq_true_eq, decide_eq_true_eq] at h
  have h1 := UInt32.le_iff_toNat_le.mp h.1
  have h2 := UInt32.le_iff_toNat_le.mp h.2
  exact ⟨h1, h2⟩
theorem int_signs (i : Int) : ∀ c ∈ (toString i).toList, c.toNat = 45 ∨ (48 ≤ c.toNat ∧ c.toNat ≤ 57) := by
  have nat : ∀ (n : Nat), ∀ c ∈ (Nat.repr n).toList, 48 ≤ c.toNat ∧ c.toNat ≤ 57 := fun n c hc => by
    rw [Nat.toList_repr] at hc
    exact digit_sign (Nat.isDigit_of_mem_toDigits (by decide) (by decide) hc)
  intro c hc
  rw [Int.toString_eq_repr, Int.repr_eq_if] at hc
  split at hc
  · exact .inr (nat _ c hc)
  · rw [String.toList_append, List.mem_append] at hc
    rcases hc with hc | hc
    · have e : c = '-' := by simpa using hc
      subst e
      exact .inl (by decide)
    · exact .inr (nat _ c hc)
theorem txt_int {i : Int} (h : numB i = true) : txtB 31 (Str.ofString (toString i)) = true := by
  have h' := numB_iff.mp h
  refine txtB_iff.mpr ⟨?_, fun c hc => ?_⟩
  · rw [PySem.ofString_length]
    exact PySem.int_text_length_le10 (by decide) (by omega)
  · have e : (Str.ofString (toString i)).cps.toList = (toString i).toList.map Char.toNat := by
      rw [Str.ofString_eq_toList]
    rw [e] at hc
    obtain ⟨d, hd, rfl⟩ := List.mem_map.mp hc
    unfold signB
    simp only [Bool.and_eq_true, decide_eq_true_eq]
    rcases int_signs i d hd with h | h <;> omega
end G

/-! list(zip(a, b)) of two tuples. -/
namespace G
open PySem PySem.Calls PySem.Spec PyProof.Rows L2
section
variable {prog : Program} {w : World} {A : Around} {E : Value → Shared → Prop} {s : Shared}
theorem zh_item {z TI TO T i1 i2 l1 l2 : Addr} {f : Bool} {oT : Obj} {k1 k2 : Nat} {xs ys : Array Value} {x y : Value} {Q : Value → Shared → Prop} (D : ZipApart z TI TO i1 i2 l1 l2)
    (hz : IsZipHeld s.heap z TI TO T f) (hT : s.heap.get? T = some oT) (hTI : IsPair s.heap TI (.ref i1) (.ref i2))
    (h1 : s.heap.IsTupleIter i1 l1 k1) (h2 : s.heap.IsTupleIter i2 l2 k2) (hl1 : s.heap.IsTuple l1 xs) (hl2 : s.heap.IsTuple l2 ys) (hx : xs[k1]? = some x) (hy : ys[k2]? = some y)
    (hQ : ∀ h', IsZipHeld h' z TI TO T true → h'.IsTupleIter i1 l1 (k1 + 1) → h'.IsTupleIter i2 l2 (k2 + 1) → IsPair h' s.heap.objs.size x y → h'.objs.size = s.heap.objs.size + 1 →
      (∀ c o, c ≠ z → c ≠ i1 → c ≠ i2 → s.heap.get? c = some o → h'.get? c = some o) → Q (.ref s.heap.objs.size) { s with heap := h' }) :
    wpAny (model prog w) A (Builtin.«zip.__next__» ⟨[.ref z], []⟩) (fun fin s' => ∃ v, fin = .done (.ret v) ∧ Q v s') E s := by
  show wpAny _ _ (field (.ref z) 2 >>= _) _ _ _
  refine wpAny_bind (wpAny_field hz rfl (x := .bool false) rfl ?_)
  show wpAny _ _ (field (.ref z) 3 >>= _) _ _ _
  refine wpAny_bind (wpAny_field hz rfl (x := .ref TI) rfl ?_)
  refine wpAny_bind (wpAny_seqItems hTI rfl ?_)
  show wpAny _ _ (Builtin.SmallTypes.ownedTupleIsFree (.ref z) >>= _) _ _ _
  refine wpAny_bind (wpAny_tupleHeld_zip hz hT fun h₁ hz₁ hs₁ => ?_)
  simp only [Bool.false_eq_true, if_false]
  refine wpAny_bind ?_
  rw [← Array.forIn_toList]
  simp only [List.forIn_cons, List.forIn_nil]
  refine wpAny_bind (wpAny_bind (wpAny_holding ?_))
  show wpAny _ _ (Builtin.SmallTypes.nextOf (.ref i1) >>= _) _ _ _
  refine wpAny_bind (RZ.nextOf_tuple_item (s := { s with heap := h₁ }) (h1.extBut hs₁.extBut D.i1z) (hl1.extBut hs₁.extBut D.l1z) hx fun h₂ h1₂ hs₂ => wpAny_pure ?_)
  refine wpAny_pure ?_
  refine wpAny_bind (wpAny_bind (wpAny_holding ?_))
  show wpAny _ _ (Builtin.SmallTypes.nextOf (.ref i2) >>= _) _ _ _
  refine wpAny_bind (RZ.nextOf_tuple_item (s := { s with heap := h₂ }) ((h2.extBut hs₁.extBut D.i2z).extBut hs₂.extBut D.i12.symm) ((hl2.extBut hs₁.extBut D.l2z).extBut hs₂.extBut D.l2i1) hy fun h₃ h2₃ hs₃ => wpAny_pure ?_)
  refine wpAny_pure (wpAny_pure ?_)
  show wpAny _ _ (newTuple [x, y] >>= _) _ _ _
  refine wpAny_bind (wpAny_newTuple ?_)
  have hsz : h₃.objs.size = s.heap.objs.size := by rw [hs₃.1, hs₂.1, hs₁.1]
  have hz₃ : IsZipHeld h₃ z TI TO T true := hs₃.extBut _ _ D.i2z.symm (hs₂.extBut _ _ D.i1z.symm hz₁)
  have hk : ∀ c o, c ≠ z → c ≠ i1 → c ≠ i2 → s.heap.get? c = some o → h₃.get? c = some o := fun c o c1 c2 c3 e => hs₃.extBut _ _ c3 (hs₂.extBut _ _ c2 (hs₁.extBut _ _ c1 e))
  have h1₃ : h₃.IsTupleIter i1 l1 (k1 + 1) := h1₂.extBut hs₃.extBut D.i12
  refine wpAny_pure ⟨_, rfl, ?_⟩
  show Q (.ref h₃.objs.size) _
  have hp : IsPair (h₃.push { cls := .type "tuple", data := .seq #[x, y] }) h₃.objs.size x y := Heap.get?_push_size _ rfl
  have hz4 : (h₃.push { cls := .type "tuple", data := .seq #[x, y] }).objs.size = h₃.objs.size + 1 := Heap.size_push ..
  rw [hsz] at hp hz4 ⊢
  exact hQ _ (Heap.get?_push_of_some _ hz₃) (h1₃.at fun o e => Heap.get?_push_of_some _ e) (h2₃.at fun o e => Heap.get?_push_of_some _ e) hp hz4 fun c o c1 c2 c3 e => Heap.get?_push_of_some _ (hk c o c1 c2 c3 e)

theorem zh_end {z TI TO T i1 i2 l1 l2 : Addr} {f : Bool} {oT : Obj} {k1 : Nat} {xs : Array Value} {Q : Fin → Shared → Prop} (hh : A.handled = none) (D : ZipApart z TI TO i1 i2 l1 l2)
    (hz : IsZipHeld s.heap z TI TO T f) (hT : s.heap.get? T = some oT) (hTI : IsPair s.heap TI (.ref i1) (.ref i2))
    (h1 : s.heap.IsTupleIter i1 l1 k1) (hl1 : s.heap.IsTuple l1 xs) (hx : xs[k1]? = none)
    (hE : ∀ h' e, (∀ c o, c ≠ z → c ≠ i1 → s.heap.get? c = some o → h'.get? c = some o) → (∃ o, h'.get? e = some o ∧ o.cls = .type "StopIteration") → E (.ref e) { s with heap := h' }) :
    wpAny (model prog w) A (Builtin.«zip.__next__» ⟨[.ref z], []⟩) Q E s := by
  show wpAny _ _ (field (.ref z) 2 >>= _) _ _ _
  refine wpAny_bind (wpAny_field hz rfl (x := .bool false) rfl ?_)
  show wpAny _ _ (field (.ref z) 3 >>= _) _ _ _
  refine wpAny_bind (wpAny_field hz rfl (x := .ref TI) rfl ?_)
  refine wpAny_bind (wpAny_seqItems hTI rfl ?_)
  show wpAny _ _ (Builtin.SmallTypes.ownedTupleIsFree (.ref z) >>= _) _ _ _
  refine wpAny_bind (wpAny_tupleHeld_zip hz hT fun h₁ hz₁ hs₁ => ?_)
  simp only [Bool.false_eq_true, if_false]
  refine wpAny_bind ?_
  rw [← Array.forIn_toList]
  simp only [List.forIn_cons, List.forIn_nil]
  refine wpAny_bind (wpAny_bind (wpAny_holding ?_))
  show wpAny _ _ (Builtin.SmallTypes.nextOf (.ref i1) >>= _) _ _ _
  refine wpAny_bind (RZ.nextOf_tuple_end (s := { s with heap := h₁ }) hh (h1.extBut hs₁.extBut D.i1z) (hl1.extBut hs₁.extBut D.l1z) hx fun h₂ e hs₂ he => ?_)
  exact hE h₂ e (fun c o c1 c2 x => hs₂ _ _ c2 (hs₁.extBut _ _ c1 x)) he
end

/-- what a walk over the pairs has of its zip: n is where the zip began -/
def ZSt (h : Heap) (n l1 l2 : Addr) (xs ys : Array Value) (k : Nat) : Prop :=
  IsPair h (n + 2) (.ref n) (.ref (n + 1)) ∧ h.IsTupleIter n l1 k ∧ h.IsTupleIter (n + 1) l2 k ∧ h.IsTuple l1 xs ∧ h.IsTuple l2 ys ∧
    ((IsZip h (n + 4) (n + 2) (n + 3) .none ∧ ∃ a b, IsPair h (n + 3) a b) ∨ ∃ T f oT, IsZipHeld h (n + 4) (n + 2) (n + 3) T f ∧ h.get? T = some oT ∧ n + 5 < T)
theorem ZSt.keep {h h' : Heap} {n l1 l2 : Addr} {xs ys : Array Value} {k : Nat} (a1 : l1 < n) (a2 : l2 < n) (x : ZSt h n l1 l2 xs ys k) (hk : ∀ b o, b ≠ n + 5 → h.get? b = some o → h'.get? b = some o) : ZSt h' n l1 l2 xs ys k := by
  have ne : ∀ c : Addr, c ≤ n + 4 → c ≠ n + 5 := fun c h => Nat.ne_of_lt (Nat.lt_succ_of_le h)
  obtain ⟨h0, h1, h2, h3, h4, h5⟩ := x
  refine ⟨hk _ _ (ne _ (Nat.le_add_right (n+2) 2)) h0, h1.at fun o e => hk _ o (ne _ (Nat.le_add_right n 4)) e, h2.at fun o e => hk _ o (ne _ (Nat.le_add_right (n+1) 3)) e,
    h3.at fun o e => hk _ o (ne _ (Nat.le_of_lt (Nat.lt_of_lt_of_le a1 (Nat.le_add_right n 4)))) e, h4.at fun o e => hk _ o (ne _ (Nat.le_of_lt (Nat.lt_of_lt_of_le a2 (Nat.le_add_right n 4)))) e, ?_⟩
  rcases h5 with ⟨hz, a, b, hp⟩ | ⟨T, f, oT, hz, hT, hl⟩
  · exact .inl ⟨hk _ _ (ne _ (Nat.le_refl _)) hz, a, b, hk _ _ (ne _ (Nat.le_add_right (n+3) 1)) hp⟩
  · exact .inr ⟨T, f, oT, hk _ _ (ne _ (Nat.le_refl _)) hz, hk _ _ (Nat.ne_of_gt hl) hT, hl⟩
def ZOut (n c : Addr) : Prop := c < n ∨ n + 5 ≤ c
theorem ZOut.ne {n c : Addr} (h : ZOut n c) : c ≠ n ∧ c ≠ n + 1 ∧ c ≠ n + 2 ∧ c ≠ n + 3 ∧ c ≠ n + 4 := by
  have e : n = n + 0 := rfl
  unfold ZOut Addr at *
  omega
section
variable {prog : Program} {w : World} {A : Around} {E : Value → Shared → Prop} {s : Shared}
theorem zs_item {n l1 l2 : Addr} {xs ys : Array Value} {k : Nat} {x y : Value} {Q : Option Value → Shared → Prop} (a1 : l1 < n) (a2 : l2 < n) (st : ZSt s.heap n l1 l2 xs ys k) (hn : n + 5 < s.heap.objs.size) (hx : xs[k]? = some x) (hy : ys[k]? = some y)
    (hQ : ∀ h', ZSt h' n l1 l2 xs ys (k + 1) → IsPair h' s.heap.objs.size x y → h'.objs.size = s.heap.objs.size + 1 → (∀ c o, ZOut n c → s.heap.get? c = some o → h'.get? c = some o) → Q (some (.ref s.heap.objs.size)) { s with heap := h' }) :
    wpAny (model prog w) A (pyNext (.ref (n + 4))) Q E s := by
  have D := zipApart_new a1 a2
  obtain ⟨hTI, h1, h2, hl1, hl2, hz⟩ := st
  rcases hz with ⟨hz, a, b, hTO⟩ | ⟨T, f, oT, hz, hT, hlT⟩
  · refine RZ.pyNext_zipT_item D hz hTI hTO h1 h2 hl1 hl2 hx hy fun h' b1 b2 b3 b4 b5 b6 b7 => hQ h' ⟨b7 _ _ D.TIz D.TITO D.TIi1 D.TIi2 hTI, b3, b4, hl1.at fun o e => b7 _ o D.l1z D.l1TO D.l1i1 D.l1i2 e, hl2.at fun o e => b7 _ o D.l2z D.l2TO D.l2i1 D.l2i2 e, .inr ⟨_, false, _, b1, b5, hn⟩⟩ b5 b6 fun c o hc e => ?_
    obtain ⟨c0, c1, c2, c3, c4⟩ := hc.ne
    exact b7 c o c4 c3 c0 c1 e
  · have hTy : s.TypeIs (.ref (n + 4)) "zip" := ⟨_, hz, rfl⟩
    unfold pyNext
    refine wpAny_bind (wpAny_attempt (wpAny_callSpecial?_slot (name := Str.ofString "__next__") hTy F.slot_zip_next
      (wpAny_call_entry F.slot_zip_next hTy F.entry_zip_next
        (zh_item D hz hT hTI h1 h2 hl1 hl2 hx hy fun h' b1 b3 b4 b5 b6 b7 => wpAny_pure (hQ h' ⟨b7 _ _ D.TIz D.TIi1 D.TIi2 hTI, b3, b4, hl1.at fun o e => b7 _ o D.l1z D.l1i1 D.l1i2 e, hl2.at fun o e => b7 _ o D.l2z D.l2i1 D.l2i2 e,
          .inr ⟨T, true, oT, b1, ?_, hlT⟩⟩ b5 b6 fun c o hc e => ?_)) (F.args_zip_next_1 _))))
    · have hc : ZOut n T := .inr (Nat.le_of_lt hlT)
      obtain ⟨c0, c1, c2, c3, c4⟩ := hc.ne
      exact b7 _ _ c4 c0 c1 hT
    · obtain ⟨c0, c1, c2, c3, c4⟩ := hc.ne
      exact b7 c o c4 c0 c1 e
theorem zs_end {n l1 l2 : Addr} {xs ys : Array Value} {k : Nat} {Q : Option Value → Shared → Prop} (hh : A.handled = none) (a1 : l1 < n) (a2 : l2 < n) (st : ZSt s.heap n l1 l2 xs ys k) (hx : xs[k]? = none)
    (hQ : ∀ h', (∀ c o, ZOut n c → s.heap.get? c = some o → h'.get? c = some o) → Q none { s with heap := h' }) :
    wpAny (model prog w) A (pyNext (.ref (n + 4))) Q E s := by
  have D := zipApart_new a1 a2
  obtain ⟨hTI, h1, h2, hl1, hl2, hz⟩ := st
  rcases hz with ⟨hz, a, b, hTO⟩ | ⟨T, f, oT, hz, hT, hlT⟩
  · refine RZ.pyNext_zipT_end hh D hz hTI hTO h1 h2 hl1 hl2 (.inl hx) fun h' hk => hQ h' fun c o hc e => ?_
    obtain ⟨c0, c1, c2, c3, c4⟩ := hc.ne
    exact hk c o c4 c3 c0 c1 e
  · have hTy : s.TypeIs (.ref (n + 4)) "zip" := ⟨_, hz, rfl⟩
    unfold pyNext
    refine wpAny_bind (wpAny_attempt (wpAny_callSpecial?_slot (name := Str.ofString "__next__") hTy F.slot_zip_next
      (wpAny_call_entry F.slot_zip_next hTy F.entry_zip_next (zh_end hh D hz hT hTI h1 hl1 hx fun h' e hk he => ?_) (F.args_zip_next_1 _))))
    obtain ⟨o, ho, hc⟩ := he
    refine wpAny_bind (wpAny_isInstance (T := "StopIteration") (b := true) ⟨o, ho, hc⟩ isSubtype_stop ?_)
    refine wpAny_pure (hQ _ fun c o hc e => ?_)
    obtain ⟨c0, c1, c2, c3, c4⟩ := hc.ne
    exact hk c o c4 c0 e
end
structure ZG (xs ys : Array Value) (lo : Addr) (h : Heap) (as : List Addr) : Prop where
  rise : as.Pairwise (· < ·)
  above : ∀ a ∈ as, lo < a
  pairs : ∀ (j : Nat) (a : Addr), as[j]? = some a → ∃ x y, xs[j]? = some x ∧ ys[j]? = some y ∧ IsPair h a x y
theorem ZG.there {xs ys : Array Value} {lo : Addr} {h : Heap} {as : List Addr} (g : ZG xs ys lo h as) {a : Addr} (ha : a ∈ as) : a < h.objs.size := by
  obtain ⟨j, hj⟩ := List.mem_iff_getElem?.mp ha
  obtain ⟨_, _, _, _, e⟩ := g.pairs j a hj
  exact Heap.lt_size e
section
variable {prog : Program} {w : World} {A : Around} {s : Shared} {R : Result → Shared → Prop} {xs ys : Array Value} {n l1 l2 : Addr}
theorem z_loop (hh : A.handled = none) (a1 : l1 < n) (a2 : l2 < n) (hl : ys.size = xs.size) (hn : xs.size ≤ sizeLine) (res : Value) {h₁ : Heap}
    (hR : ∀ h' tk acc c as, (∀ b o, b < n → h₁.get? b = some o → h'.get? b = some o) → h'.get? (n + 5) = some { cls := .type "list", dict := none, data := .seq acc c, slots := #[] } → as.length = xs.size → ZG xs ys (n + 5) h' as →
      acc.toList = as.map Value.ref → R (.ok (.ret res)) { s with heap := h', toks := tk }) :
    ∀ (k i : Nat) (h : Heap) (tk c : Nat) (acc : Array Value) (as : List Addr), xs.size - i = k → i ≤ xs.size → ZSt h n l1 l2 xs ys i → (∀ b o, b < n → h₁.get? b = some o → h.get? b = some o) →
      h.get? (n + 5) = some { cls := .type "list", dict := none, data := .seq acc c, slots := #[] } → acc.toList = as.map Value.ref → as.length = i → ZG xs ys (n + 5) h as →
      codeAny (model prog w) A (.builtin "list.extend.loop" ⟨[.ref (n + 5), .ref (n + 4), res], []⟩) R { s with heap := h, toks := tk } := by
  intro k
  induction k with
  | zero =>
    intro i h tk c acc as hk hi hst hkeep hS hacc hal hG
    refine codeAny_builtin PySem.F.entry_extend_loop ?_
    rw [Around.under_plainId PySem.F.plain_extend_loop _]
    show wpAny _ A.in1 (pyNext (.ref (n + 4)) >>= _) _ _ _
    refine wpAny_bind (zs_end (s := { s with heap := h, toks := tk }) (A := A.in1) hh a1 a2 hst (Array.getElem?_eq_none (by omega)) fun h' he => ?_)
    refine wpAny_pure (hR h' tk acc c as (fun b o h1 e => he b o (.inl h1) (hkeep b o h1 e)) (he _ _ (.inr (Nat.le_refl _)) hS) (by omega) ⟨hG.rise, hG.above, fun j a hj => ?_⟩ hacc)
    obtain ⟨x, y, e1, e2, e3⟩ := hG.pairs j a hj
    exact ⟨x, y, e1, e2, he a _ (.inr (Nat.le_of_lt (hG.above a (List.mem_of_getElem? hj)))) e3⟩
  | succ k ih =>
    intro i h tk c acc as hk hi hst hkeep hS hacc hal hG
    have hlt : i < xs.size := by omega
    have hlt2 : i < ys.size := by omega
    have hsz : acc.size = i := by rw [← Array.length_toList, hacc, List.length_map, hal]
    have hSl : n + 5 < h.objs.size := Heap.lt_size hS
    refine codeAny_builtin PySem.F.entry_extend_loop ?_
    rw [Around.under_plainId PySem.F.plain_extend_loop _]
    show wpAny _ A.in1 (pyNext (.ref (n + 4)) >>= _) _ _ _
    refine wpAny_bind (zs_item (s := { s with heap := h, toks := tk }) a1 a2 hst hSl (Array.getElem?_eq_getElem hlt) (Array.getElem?_eq_getElem hlt2) fun h' hst' ht hz hkp => ?_)
    dsimp only at ht hz hkp ⊢
    have hS' := hkp (n + 5) _ (.inr (Nat.le_refl _)) hS
    have up : ∀ b o, b ≠ n + 5 → h'.get? b = some o → (h'.update (n + 5) (Obj.mapSeq (·.push (Value.ref h.objs.size)))).get? b = some o := fun b o hb e => (Heap.get?_update_other _ _ (Ne.symm hb)).trans e
    show wpAny _ A.in1 (updateSeq (n + 5) (·.push (Value.ref h.objs.size)) >>= _) _ _ _
    refine wpAny_bind ?_
    refine wpAny_updateSeq hS' rfl (wpAny_pure ⟨plainId_quiet PySem.F.plain_extend_loop _, ih (i + 1) _ tk _ (acc.push (Value.ref h.objs.size)) (as ++ [h.objs.size]) (by omega) hlt (hst'.keep a1 a2 up)
      (fun b o h1 e => up b o (Nat.ne_of_lt (Nat.lt_of_lt_of_le h1 (Nat.le_add_right n 5))) (hkp b o (.inl h1) (hkeep b o h1 e))) (Heap.get?_update_self _ hS' rfl) (by rw [Array.toList_push, hacc, List.map_append]; rfl) (by rw [List.length_append, hal]; rfl) ⟨?_, ?_, ?_⟩⟩) (by rw [hsz]; omega) (by show (acc.push (Value.ref h.objs.size)).size ≤ sizeLine + 1; rw [Array.size_push, hsz]; omega)
    · refine List.pairwise_append.mpr ⟨hG.rise, List.pairwise_singleton _ _, fun a ha b hb => ?_⟩
      rw [List.mem_singleton.mp hb]
      exact hG.there ha
    · intro a ha
      rcases List.mem_append.mp ha with ha | ha
      · exact hG.above a ha
      · rw [List.mem_singleton.mp ha]; exact hSl
    · intro j b hj
      rcases Nat.lt_trichotomy j as.length with h1 | h1 | h1
      · rw [List.getElem?_append_left h1] at hj
        obtain ⟨x', y', e1, e2, e3⟩ := hG.pairs j b hj
        have hb := hG.above b (List.mem_of_getElem? hj)
        exact ⟨x', y', e1, e2, up b _ (Nat.ne_of_gt hb) (hkp b _ (.inr (Nat.le_of_lt hb)) e3)⟩
      · subst h1
        have hb : h.objs.size = b := by simpa using hj
        subst hb
        exact ⟨_, _, by rw [hal]; exact Array.getElem?_eq_getElem hlt, by rw [hal]; exact Array.getElem?_eq_getElem hlt2, up _ _ (Nat.ne_of_gt hSl) ht⟩
      · have hnone : (as ++ [h.objs.size])[j]? = none := List.getElem?_eq_none (by rw [List.length_append, List.length_singleton]; omega)
        rw [hnone] at hj; cases hj
end
theorem zip_no_len : typeLookup (.type "zip") "__len__" = pure none := am_miss_of_fast (by decide +kernel)
theorem zip_no_hint : typeLookup (.type "zip") "__length_hint__" = pure none := am_miss_of_fast (by decide +kernel)
section
variable {prog : Program} {w : World} {A : Around} {E : Value → Shared → Prop} {s : Shared} {xs ys : Array Value} {n l1 l2 : Addr}
theorem z_hint {r : Addr} (hT : s.TypeIs (.ref r) "zip") {Q : Bool → Shared → Prop} (h : Q true s) : wpAny (model prog w) A (Builtin.List.listLengthHint (.ref r)) Q E s := by
  unfold Builtin.List.listLengthHint
  refine wpAny_bind (wpAny_specialOf hT zip_no_len ?_)
  refine wpAny_bind (wpAny_specialOf hT zip_no_hint ?_)
  exact wpAny_pure h
theorem z_extend {R : Result → Shared → Prop} (hh : A.handled = none) (a1 : l1 < n) (a2 : l2 < n) (hl : ys.size = xs.size) (hn : xs.size ≤ sizeLine) (st : ZSt s.heap n l1 l2 xs ys 0) (hz : IsZip s.heap (n + 4) (n + 2) (n + 3) .none) (res : Value) (c₀ : Nat) (hS : s.heap.get? (n + 5) = some { cls := .type "list", data := .seq #[] c₀ })
    (hR : ∀ h' tk acc c as, (∀ b o, b < n → s.heap.get? b = some o → h'.get? b = some o) → h'.get? (n + 5) = some { cls := .type "list", dict := none, data := .seq acc c, slots := #[] } → as.length = xs.size → ZG xs ys (n + 5) h' as →
      acc.toList = as.map Value.ref → R (.ok (.ret res)) { s with heap := h', toks := tk }) :
    wpAny (model prog w) A.in1 (Builtin.List.listExtendWith (.ref (n + 5)) (.ref (n + 4)) res)
      (fun fin s' => match fin with | .done f => R (.ok f) s' | .again c' => c'.quiet = true ∧ codeAny (model prog w) A c' R s') (fun e s' => R (.error e) s') s := by
  have ne : n + 5 ≠ n + 4 := Nat.ne_of_gt (Nat.lt_succ_self _)
  have hT : s.TypeIs (.ref (n + 4)) "zip" := ⟨_, hz, rfl⟩
  have key : ∀ (h : Heap) (c₁ tk : Nat), (∀ b o, b ≠ n + 5 → s.heap.get? b = some o → h.get? b = some o) →
      h.get? (n + 5) = some { cls := .type "list", data := .seq #[] c₁ } → codeAny (model prog w) A (.builtin "list.extend.loop" ⟨[.ref (n + 5), .ref (n + 4), res], []⟩) R { s with heap := h, toks := tk } := by
    intro h c₁ tk hk hS₁
    exact z_loop (s := s) (h₁ := s.heap) hh a1 a2 hl hn res hR xs.size 0 h tk c₁ #[] [] (Nat.sub_zero _) (Nat.zero_le _) (st.keep a1 a2 hk) (fun b o hb e => hk b o (Nat.ne_of_lt (Nat.lt_of_lt_of_le hb (Nat.le_add_right n 5))) e) hS₁ rfl rfl
      ⟨List.Pairwise.nil, (fun _ ha => nomatch ha), (fun j a hj => by simp at hj)⟩
  unfold Builtin.List.listExtendWith
  refine wpAny_bind (wpAny_typeOf (T := "zip") hT ?_)
  have h1 : Builtin.List.listSameRef (.ref (n + 5)) (.ref (n + 4)) = false := by simp [Builtin.List.listSameRef, ne]
  have h2 : (Value.type "zip" == Value.type "list") = false := by decide
  have h3 : (Value.type "zip" == Value.type "tuple") = false := by decide
  simp only [h1, h2, h3, Bool.or_false, Bool.false_eq_true, if_false]
  refine wpAny_bind (wpAny_pyIter_zip hz ?_)
  refine wpAny_bind (wpAny_holding (z_hint hT ?_))
  refine wpAny_ite_split (fun _ => ?_) (fun hab => absurd rfl hab)
  refine wpAny_bind (wpAny_rule ?_)
  refine wpAny_bind ?_
  show wpAny _ _ (updateSeq (n + 5) (·.push .none) >>= fun _ => updateSeq (n + 5) (·.pop)) _ _ _
  refine wpAny_bind (wpAny_updateSeq hS rfl ?_)
  have hS₂ := Heap.get?_update_self (Obj.mapSeq (·.push Value.none)) hS rfl
  refine wpAny_updateSeq (hz := by seq_fits) hS₂ rfl ?_
  have hS₃ := Heap.get?_update_self (Obj.mapSeq (·.pop)) hS₂ rfl
  refine wpAny_pure ⟨plainId_quiet PySem.F.plain_extend_loop _, key _ _ _ (fun b o hb e => ?_) hS₃⟩
  exact (Heap.get?_update_other _ _ (Ne.symm hb)).trans ((Heap.get?_update_other _ _ (Ne.symm hb)).trans e)
theorem z_list {Q : Value → Shared → Prop} (hh : A.handled = none) (a1 : l1 < n) (a2 : l2 < n) (hl : ys.size = xs.size) (hn : xs.size ≤ sizeLine) (st : ZSt s.heap n l1 l2 xs ys 0) (hz : IsZip s.heap (n + 4) (n + 2) (n + 3) .none) (hs : s.heap.objs.size = n + 5)
    (hQ : ∀ h' tk acc c as, (∀ b o, b < n → s.heap.get? b = some o → h'.get? b = some o) → h'.get? (n + 5) = some { cls := .type "list", dict := none, data := .seq acc c, slots := #[] } → as.length = xs.size → ZG xs ys (n + 5) h' as →
      acc.toList = as.map Value.ref → Q (.ref (n + 5)) { s with heap := h', toks := tk }) :
    wpAny (model prog w) A (call (.type "list") [.ref (n + 4)]) Q E s := by
  refine callType_codes (Q₁ := fun obj s₁ => obj = .ref (n + 5) ∧ s₁ = { s with heap := s.heap.push { cls := .type "list", data := .seq #[] } }) PySem.F.called_list (PySem.F.typeCall_list_1 _) PySem.F.entry_list_init
    (code_list_new _ ⟨by rw [hs], rfl⟩) fun obj s₁ h₁ => ?_
  obtain ⟨rfl, rfl⟩ := h₁
  have hS : (s.heap.push { cls := .type "list", data := .seq #[] }).get? (n + 5) = some { cls := .type "list", data := .seq #[] } := by rw [← hs]; exact Heap.get?_push_size _ rfl
  refine ⟨⟨_, hS, rfl⟩, PySem.F.args_list_init_2 _ _, ?_⟩
  show wpAny _ _ (do let old ← Builtin.List.listItems (.ref (n + 5)); Builtin.List.listUpdate (.ref (n + 5)) (fun _ => #[]); letGo old.toList.reverse; Builtin.List.listExtendWith (.ref (n + 5)) (.ref (n + 4)) .none) _ _ _
  refine wpAny_bind ?_
  unfold Builtin.List.listItems
  refine wpAny_bind (wpAny_seqItems hS rfl (wpAny_pure ?_))
  show wpAny _ _ (updateSeq (n + 5) (fun _ => #[]) >>= fun _ => letGo (#[] : Array Value).toList.reverse >>= fun _ => Builtin.List.listExtendWith (.ref (n + 5)) (.ref (n + 4)) .none) _ _ _
  refine wpAny_bind (wpAny_updateSeq hS rfl ?_)
  have hS₂ := Heap.get?_update_self (Obj.mapSeq (fun _ => (#[] : Array Value))) hS rfl
  have oth : ∀ b o, b ≠ n + 5 → s.heap.get? b = some o → ((s.heap.push { cls := .type "list", data := .seq #[] }).update (n + 5) (Obj.mapSeq (fun _ => (#[] : Array Value)))).get? b = some o :=
    fun b o hb e => (Heap.get?_update_other _ _ (Ne.symm hb)).trans (Heap.get?_push_of_some _ e)
  refine wpAny_bind (wpAny_letGo ?_)
  refine z_extend (A := A.in1) hh a1 a2 hl hn (st.keep a1 a2 oth) (oth _ _ (Nat.ne_of_lt (Nat.lt_succ_self _)) hz) .none _ hS₂ fun h' tk acc c as hk hS' hl' hG hacc => ?_
  exact ⟨rfl, hQ h' tk acc c as (fun b o hb e => hk b o hb (oth b o (Nat.ne_of_lt (Nat.lt_of_lt_of_le hb (Nat.le_add_right n 5))) e)) hS' hl' hG hacc⟩
theorem z_call {Q : Value → Shared → Prop} (hh : A.handled = none) (hl1 : s.heap.IsTuple l1 xs) (hl2 : s.heap.IsTuple l2 ys) (hl : ys.size = xs.size) (hn : xs.size ≤ sizeLine)
    (hQ : ∀ h' tk acc c as, (∀ b o, s.heap.get? b = some o → h'.get? b = some o) → h'.get? (s.heap.objs.size + 5) = some { cls := .type "list", dict := none, data := .seq acc c, slots := #[] } → as.length = xs.size → ZG xs ys (s.heap.objs.size + 5) h' as →
      acc.toList = as.map Value.ref → Q (.ref (s.heap.objs.size + 5)) { s with heap := h', toks := tk }) :
    wpAny (model prog w) A (call (.type "zip") [.ref l1, .ref l2]) (fun z s' => wpAny (model prog w) A (call (.type "list") [z]) Q E s') E s := by
  have a1 : l1 < s.heap.objs.size := by obtain ⟨_, e, _⟩ := hl1; exact Heap.lt_size e
  have a2 : l2 < s.heap.objs.size := by obtain ⟨_, e, _⟩ := hl2; exact Heap.lt_size e
  refine RZ.call_zipT hl1 hl2 fun h' hz hTI hTO hi1 hi2 hsz hk => ?_
  refine z_list (s := { s with heap := h' }) hh a1 a2 hl hn ⟨hTI, hi1, hi2, hl1.at fun o e => hk _ o e, hl2.at fun o e => hk _ o e, .inl ⟨hz, _, _, hTO⟩⟩ hz hsz fun h2 tk acc c as hk2 hS hl' hG hacc => ?_
  exact hQ h2 tk acc c as (fun b o e => hk2 b o (Heap.lt_size e) (hk b o e)) hS hl' hG hacc
end
end G

namespace G
open PySem PySem.Calls PySem.Spec PyProof.Rows L2
/-- new pairs at new places -/
def putZ : Hp → List Addr → List (V × V) → Hp
  | H, a :: as, p :: ps => putZ (upd H a (.tup [p.1, p.2])) as ps
  | H, _, _ => H
theorem putZ_off {b : Addr} : ∀ (as : List Addr) (ps : List (V × V)) (H : Hp), b ∉ as → putZ H as ps b = H b
  | [], _, _, _ => rfl
  | _ :: _, [], _, _ => rfl
  | a :: as, p :: ps, H, h => by
    show putZ (upd H a (.tup [p.1, p.2])) as ps b = H b
    rw [putZ_off as ps _ (fun z => h (List.mem_cons_of_mem _ z)), upd_ne (fun z => h (by rw [z]; exact List.mem_cons_self))]
theorem putZ_at : ∀ (as : List Addr) (ps : List (V × V)) (H : Hp), as.Nodup → ∀ (j : Nat) (a : Addr) (p : V × V), as[j]? = some a → ps[j]? = some p → putZ H as ps a = some (.tup [p.1, p.2])
  | [], _, _, _, _, _, _, h, _ => by cases h
  | _ :: _, [], _, _, _, _, _, _, h => by cases h
  | a :: as, p :: ps, H, hn, 0, b, q, h1, h2 => by
    obtain rfl : a = b := Option.some.inj h1
    obtain rfl : p = q := Option.some.inj h2
    show putZ (upd H a (.tup [p.1, p.2])) as ps a = _
    rw [putZ_off as ps _ (List.nodup_cons.mp hn).1, upd_same]
  | a :: as, p :: ps, H, hn, j + 1, b, q, h1, h2 => putZ_at as ps (upd H a (.tup [p.1, p.2])) (List.nodup_cons.mp hn).2 j b q h1 h2
def rZipL (K : PySem.W.Frag) : List V → Hp → VK → Prop := fun vs H Q => ∃ a b xs ys, vs = [.ref a, .ref b] ∧ SqT K H a xs ∧ SqT K H b ys ∧ ys.length = xs.length ∧
  ∀ (H' : Hp) (p : Addr) (ts : List Addr), (∀ b o, H b = some o → H' b = some o) → H p = none → (∀ t ∈ ts, H t = none) → p ∉ ts → ts.length = xs.length → H' p = some (.lst (ts.map V.ref)) →
    (∀ (j : Nat) t x y, ts[j]? = some t → xs[j]? = some x → ys[j]? = some y → H' t = some (.tup [x, y])) → Q (.ref p) H'
def tZipL (K : PySem.W.Frag) (ta : TA) : TE := fun σ H Q => ta σ H fun vs H1 => rZipL K vs H1 Q
section
variable {X : Cx}
theorem zip_laid {pins : List (Addr × Obj)} {σ : L2.St} {H : Hp} {s : Shared} {h' : Heap} {tk : Nat} {xs ys : List V} {us vs : List Value} {acc : Array Value} {c : Nat} {as : List Addr} {p : Addr} (I : Inv X pins σ H s) (hz : xs.length ≤ sizeLine) (rx : Vals xs us) (ry : Vals ys vs) (hxy : ys.length = xs.length) (hp : s.heap.objs.size ≤ p)
    (hk : ∀ b o, s.heap.get? b = some o → h'.get? b = some o) (hS : h'.get? p = some { cls := .type "list", dict := none, data := .seq acc c, slots := #[] }) (hl : as.length = us.length) (hG : ZG us.toArray vs.toArray p h' as) (hacc : acc.toList = as.map Value.ref) :
    ∃ H' : Hp, (∀ b o, H b = some o → H' b = some o) ∧ H p = none ∧ (∀ t ∈ as, H t = none) ∧ p ∉ as ∧ H' p = some (.lst (as.map V.ref)) ∧ (∀ (j : Nat) t x y, as[j]? = some t → xs[j]? = some x → ys[j]? = some y → H' t = some (.tup [x, y])) ∧ Inv X pins σ H' { s with heap := h', toks := tk } := by
  have lx : xs.length = us.length := Paired.length rx
  have ly : ys.length = vs.length := Paired.length ry
  have hSn : p ∉ as := fun z => Nat.lt_irrefl _ (hG.above _ z)
  have nd : as.Nodup := List.Pairwise.imp (fun {a b} (h : a < b) => Nat.ne_of_lt h) hG.rise
  have newS : H p = none := I.hok.fresh hp
  have new : ∀ t ∈ as, H t = none := fun t ht => I.hok.fresh (Nat.le_trans hp (Nat.le_of_lt (hG.above t ht)))
  have atP := putZ_at as (xs.zip ys) (upd H p (.lst (as.map V.ref))) nd
  have off : ∀ b, b ∉ as → b ≠ p → putZ (upd H p (.lst (as.map V.ref))) as (xs.zip ys) b = H b := fun b h1 h2 => by rw [putZ_off as _ _ h1, upd_ne h2]
  have low : ∀ b o, s.heap.get? b = some o → b ∉ as ∧ b ≠ p := fun b o e => ⟨fun z => absurd (Heap.lt_size e) (Nat.not_lt.mpr (Nat.le_trans hp (Nat.le_of_lt (hG.above b z)))), Nat.ne_of_lt (Nat.lt_of_lt_of_le (Heap.lt_size e) hp)⟩
  have kp : ∀ b u, H b = some u → (putZ (upd H p (.lst (as.map V.ref))) as (xs.zip ys)) b = some u := fun b u e => by
    rw [off b (fun z => by rw [new b z] at e; cases e) (fun z => by rw [z, newS] at e; cases e)]
    exact e
  have eS : putZ (upd H p (.lst (as.map V.ref))) as (xs.zip ys) p = some (.lst (as.map V.ref)) := by rw [putZ_off as _ _ hSn, upd_same]
  have zipG : ∀ (j : Nat) x y, xs[j]? = some x → ys[j]? = some y → (xs.zip ys)[j]? = some (x, y) := fun j x y e1 e2 => List.getElem?_zip_eq_some.mpr ⟨e1, e2⟩
  refine ⟨putZ (upd H p (.lst (as.map V.ref))) as (xs.zip ys), kp, newS, new, hSn, eS, fun j t x y e1 e2 e3 => atP j t (x, y) e1 (zipG j x y e2 e3), ?_⟩
  refine I.call' (ch := []) rfl ⟨fun b o q _ _ _ => hk b o q, fun b o q _ _ _ => ⟨o.slots, hk b o q⟩, fun b o q n _ => ?_, fun b o q _ => ⟨o, hk b o q⟩, fun b xs q => kp b _ q, fun b o u q => kp b _ q, fun b ps q => ⟨#[], by rw [kp b _ q]; simp⟩⟩ (fun b u q => ?_) I.bare fun b z => by simp at z
  · obtain ⟨z1, z2⟩ := low b o q
    rw [off b z1 z2]
    exact n
  · by_cases hb : b ∈ as
    · obtain ⟨j, e1⟩ := List.mem_iff_getElem?.mp hb
      obtain ⟨x, y, f1, f2, f3⟩ := hG.pairs j b e1
      have f1' : us[j]? = some x := by simpa using f1
      have f2' : vs[j]? = some y := by simpa using f2
      have hj : j < us.length := (List.getElem?_eq_some_iff.mp f1').1
      have hjx : j < xs.length := by omega
      have hjy : j < ys.length := by omega
      have g1 : xs[j]? = some xs[j] := List.getElem?_eq_getElem hjx
      have g2 : ys[j]? = some ys[j] := List.getElem?_eq_getElem hjy
      rw [atP j b _ e1 (zipG j _ _ g1 g2)] at q
      cases q
      obtain ⟨u1, w1, r1⟩ := LiI.paired_get rx g1
      obtain ⟨u2, w2, r2⟩ := LiI.paired_get ry g2
      rw [f1'] at w1
      rw [f2'] at w2
      cases w1
      cases w2
      exact ⟨by show 2 ≤ sizeLine; decide, [x, y], .cons r1 (.cons r2 .nil), ⟨_, f3, rfl, _, rfl⟩⟩
    · by_cases hb2 : b = p
      · rw [hb2] at q ⊢
        rw [eS] at q
        cases q
        refine ⟨by rw [List.length_map]; omega, acc.toList, c, by rw [hacc]; exact LiI.vals_refs as, ?_⟩
        rw [Array.toArray_toList]
        exact hS
      · rw [off b hb hb2] at q
        exact (I.hok b u q).stay (fun d v _ y => hk d v y) (fun d y => kp d _ y) fun d xs y => kp d _ y
/-- list(zip(e, e2)) of two tuples of one length -/
theorem pe_listZip {e e2 : Expr} {ta : TA} {p p2 zpos pos : Pos} (hg : Gl X "list") (hm : X.mg "list" = none) (hg2 : Gl X "zip") (hm2 : X.mg "zip" = none) (ha : PA X [e, e2] ta) (hc : X.calm = true := by rfl)
    (hs : starEach [.Call (.Name "zip" p2) [e, e2] [] zpos] X.env = (false, eval (.Call (.Name "zip" p2) [e, e2] [] zpos) X.env) :: starEach [] X.env := by rfl)
    (hs2 : starEach [e, e2] X.env = (false, eval e X.env) :: starEach [e2] X.env := by rfl) (hpl : (backTo zpos (starEach [e2] X.env)).any (·.1) = false := by rfl) :
    PE X (.Call (.Name "list" p) [.Call (.Name "zip" p2) [e, e2] [] zpos] [] pos) (tZipL X.K ta) := by
  refine ⟨fun pins s σ H Q I hq => ?_⟩
  refine wpAny_Call_Name_kw (ld_blt I hg hm PyProof.Rows.boot_list ?_)
  refine PyProof.Rows.callWith_type1 ?_ hs rfl
  rw [hs]
  show wpAny _ _ (spliced ((false, eval (.Call (.Name "zip" p2) [e, e2] [] zpos) X.env) :: backTo pos (starEach [] X.env))) _ _ s
  refine Calls.spliced_cons ?_
  refine Call_ (ld_blt I hg2 hm2 PyProof.Rows.boot_zip (PyProof.Rows.callWith_type1 (thn (ha.run zpos pins s σ H _ I hq) fun us s1 ⟨vs, H1, I1, r1, q1⟩ => ?_) hs2 hpl))
  obtain ⟨a, b, xs, ys, ex, hqx, hqy, hl, q⟩ := q1
  subst ex
  cases r1 with
  | cons r rr =>
    cases rr with
    | cons r' rr =>
      cases rr
      cases r
      cases r'
      obtain ⟨its, rv, p1, hz1⟩ := I1.tuple hqx
      obtain ⟨its2, rv2, p2, hz2⟩ := I1.tuple hqy
      have l1 : xs.length = its.length := Paired.length rv
      have l2 : ys.length = its2.length := Paired.length rv2
      refine wpAny_mono (z_call (s := s1) (A := X.A) (I1.ok.hd hc) (show s1.heap.IsTuple a its.toArray from p1) (show s1.heap.IsTuple b its2.toArray from p2) (by simp; omega) ?_ fun h' tk acc c as hk hS hl' hG hacc => ?_) (fun z s2 x => Calls.spliced_nil x) fun _ _ e => e
      · simpa [← l1] using hz1
      · obtain ⟨H', k1, k2, k3, k4, k5, k6, J⟩ := zip_laid (tk := tk) I1 hz1 rv rv2 hl (Nat.le_add_right _ 5) hk hS (by simpa using hl') hG hacc
        exact ⟨.ref _, H', J, rfl, q H' _ as k1 k2 k3 k4 (by rw [hl', l1]; simp) k5 k6⟩
end
end G

/-! Nested data: tuples of flat values. One value's order. -/
namespace G
open PySem PySem.Spec PyProof.Rows L2
mutual
def sizeD : PyData → Nat
  | .tuple ds => sizeAll ds + 1
  | _ => 1
def sizeAll : List PyData → Nat
  | [] => 0
  | d :: ds => sizeD d + sizeAll ds
end
mutual
def nestD : PyData → Bool
  | .none => true
  | .bool _ => true
  | .int i => numB i
  | .str z => txtB 40 z
  | .tuple ds => nestAll ds
  | _ => false
def nestAll : List PyData → Bool
  | [] => true
  | d :: ds => nestD d && nestAll ds
end
theorem sizeD_pos (d : PyData) : 1 ≤ sizeD d := by
  cases d <;> first | exact Nat.le_refl 1 | (rw [sizeD]; omega)
theorem sizeAll_len : ∀ ds : List PyData, ds.length ≤ sizeAll ds
  | [] => Nat.le_refl _
  | d :: ds => by
    have := sizeAll_len ds
    have := sizeD_pos d
    rw [sizeAll, List.length_cons]
    omega
theorem sizeAll_app : ∀ ds es : List PyData, sizeAll (ds ++ es) = sizeAll ds + sizeAll es
  | [], es => by rw [List.nil_append, sizeAll, Nat.zero_add]
  | d :: ds, es => by rw [List.cons_append, sizeAll, sizeAll, sizeAll_app ds es, Nat.add_assoc]
theorem nestAll_mem : ∀ {ds : List PyData}, nestAll ds = true ↔ ∀ d ∈ ds, nestD d = true
  | [] => by simp [nestAll]
  | d :: ds => by simp [nestAll, nestAll_mem (ds := ds)]
mutual
theorem nest_tup : ∀ d : PyData, nestD d = true → tupD d = true
  | .tuple ds, h => by
    rw [nestD] at h
    rw [tupD]
    exact nest_tups ds h
  | .none, _ => rfl
  | .bool _, _ => rfl
  | .int _, _ => rfl
  | .str _, _ => rfl
  | .list _, h => by cases h
  | .dict _, h => by cases h
theorem nest_tups : ∀ ds : List PyData, nestAll ds = true → tupAll ds = true
  | [], _ => rfl
  | d :: ds, h => by
    rw [nestAll, Bool.and_eq_true] at h
    rw [tupAll, nest_tup d h.1, nest_tups ds h.2]
    rfl
end
theorem flat_nest {v : V} (h : FlatV v) : nestD (dV v) = true := by
  cases v <;> first | rfl | exact h | cases h
theorem flat_size (v : V) : sizeD (dV v) = 1 := by
  cases v <;> rfl
theorem flat_inj {v u : V} (hv : FlatV v) (hu : FlatV u) : dV v = dV u ↔ v = u := by
  refine ⟨fun e => ?_, fun e => congrArg dV e⟩
  cases v <;> first
    | cases hv; done
    | (cases u <;> first
        | cases hu; done
        | rfl
        | (injection e with e; rw [e])
        | (cases e; done))
/-! one value's order -/
theorem ltV_total {x y : V} (hx : FlatV x) (hy : FlatV y) (ne : x ≠ y) (h : ltV x y = false) : ltV y x = true := by
  cases x <;> first
    | (cases hx; done)
    | (cases y <;> first
        | (cases hy; done)
        | (exact absurd rfl ne)
        | (rename_i a b; revert h ne; cases a <;> cases b <;> simp [ltV]; done)
        | (rename_i a b
           have h' : decide (a.cps.toList < b.cps.toList) = false := h
           refine decide_eq_true ?_
           have h2 : ¬ a.cps.toList < b.cps.toList := of_decide_eq_false h'
           rcases List.le_iff_lt_or_eq.mp (List.not_lt.mp h2) with z | z
           · exact z
           · refine absurd ?_ ne
             obtain ⟨a⟩ := a
             obtain ⟨b⟩ := b
             have z' : b = a := Array.toList_inj.mp z
             rw [z'])
        | (simp [ltV, kRank] at h ⊢; done)
        | (rename_i a b
           have h' : decide (a < b) = false := h
           refine decide_eq_true ?_
           have := of_decide_eq_false h'
           have : a ≠ b := fun z => ne (by rw [z])
           omega))
theorem lt_one {x y : V} : rowLt [x] [y] = (if x = y then false else ltV x y) := by
  rw [rowLt]
  rfl
theorem ltD_k {up : Bool} {x y : V} (hx : FlatV x) (hy : FlatV y) : ltD up (keyD x) (keyD y) = some (if up then rowLt [y] [x] else rowLt [x] [y]) := by
  by_cases e : x = y
  · subst e
    rw [lt_one, if_pos rfl]
    have h2 : PyData.eqv (.int (kRank x)) (.int (kRank x)) = true := by rw [eqv_int]; exact decide_eq_true rfl
    have h3 := eqv_key hx hx
    unfold keyD at h3
    rw [eqv_pair, h2, Bool.true_and, decide_eq_true rfl] at h3
    unfold keyD
    rw [ltD, ltAll, if_pos h2, ltAll, if_pos h3]
    cases up <;> rfl
  · have h1 : rowLt [x] [y] = ltV x y := by rw [lt_one, if_neg e]
    have h2 : rowLt [y] [x] = ltV y x := by rw [lt_one, if_neg fun z => e z.symm]
    rw [ltD_key hx hy e, h1, h2]
theorem fl1 {x : V} (hx : FlatV x) : ∀ u ∈ [x], FlatV u := fun u hu => by rw [List.mem_singleton.mp hu]; exact hx
theorem ord_zero {x y : V} (hx : FlatV x) (hy : FlatV y) : rowOrd [x] [y] = 0 ↔ x = y := by
  unfold rowOrd
  by_cases e : x = y
  · subst e
    rw [lt_one, if_pos rfl]
    exact ⟨fun _ => rfl, fun _ => rfl⟩
  · have h1 : rowLt [x] [y] = ltV x y := by rw [lt_one, if_neg e]
    have h2 : rowLt [y] [x] = ltV y x := by rw [lt_one, if_neg fun z => e z.symm]
    rw [h1, h2]
    cases h : ltV x y
    · rw [ltV_total hx hy e h]
      exact ⟨fun z => absurd z (by decide), fun z => absurd z e⟩
    · rw [if_pos rfl]
      exact ⟨fun z => absurd z (by decide), fun z => absurd z e⟩
/-! pairs of data, each a tuple of two, held by a list -/
def Pd (K : PySem.W.Frag) (H : Hp) (ts : List V) (ps : List (PyData × PyData)) : Prop :=
  ts.length = ps.length ∧ ∀ (i : Nat) t p, ts[i]? = some t → ps[i]? = some p → ∃ a x y, t = .ref a ∧ SqT K H a [x, y] ∧ Dp K H x p.1 ∧ Dp K H y p.2 ∧ nestD p.1 = true ∧ nestD p.2 = true
theorem Pd.tk {K : PySem.W.Frag} {H H' : Hp} {ts : List V} {ps : List (PyData × PyData)} (h : Pd K H ts ps) (t : Tk H H') : Pd K H' ts ps := ⟨h.1, fun i u p e1 e2 => by
  obtain ⟨a, x, y, e, h1, h2, h3, h4, h5⟩ := h.2 i u p e1 e2
  exact ⟨a, x, y, e, t.tup h1, Dp.tk t _ _ (nest_tup _ h4) h2, Dp.tk t _ _ (nest_tup _ h5) h3, h4, h5⟩⟩
theorem Pd.app {K : PySem.W.Frag} {H : Hp} {ts us : List V} {ps qs : List (PyData × PyData)} (h : Pd K H ts ps) (k : Pd K H us qs) : Pd K H (ts ++ us) (ps ++ qs) := by
  refine ⟨by rw [List.length_append, List.length_append, h.1, k.1], fun i t p e1 e2 => ?_⟩
  rcases Nat.lt_or_ge i ts.length with hi | hi
  · rw [List.getElem?_append_left hi] at e1
    rw [List.getElem?_append_left (by rw [← h.1]; exact hi)] at e2
    exact h.2 i t p e1 e2
  · rw [List.getElem?_append_right hi] at e1
    rw [List.getElem?_append_right (by rw [← h.1]; exact hi), ← h.1] at e2
    exact k.2 _ t p e1 e2
theorem Pd.split {K : PySem.W.Frag} {H : Hp} {ts : List V} {t : V} {qs : List (PyData × PyData)} (h : Pd K H (ts ++ [t]) qs) : ∃ ps p, qs = ps ++ [p] ∧ Pd K H ts ps ∧ ∃ a x y, t = .ref a ∧ SqT K H a [x, y] ∧ Dp K H x p.1 ∧ Dp K H y p.2 ∧ nestD p.1 = true ∧ nestD p.2 = true := by
  have hl := h.1
  rw [List.length_append] at hl
  have hne : qs ≠ [] := fun z => by
    rw [z] at hl
    simp at hl
  obtain ⟨ps, p, rfl⟩ : ∃ ps p, qs = ps ++ [p] := ⟨_, _, (List.dropLast_concat_getLast hne).symm⟩
  have hl2 : ps.length = ts.length := by
    rw [List.length_append] at hl
    simp at hl
    omega
  refine ⟨ps, p, rfl, ⟨hl2.symm, fun i u p' e1 e2 => ?_⟩, ?_⟩
  · have hi := (List.getElem?_eq_some_iff.mp e1).1
    refine h.2 i u p' ?_ ?_
    · rw [List.getElem?_append_left hi]
      exact e1
    · rw [List.getElem?_append_left (by rw [hl2]; exact hi)]
      exact e2
  · refine h.2 ts.length t _ ?_ ?_
    · rw [List.getElem?_append_right (Nat.le_refl _), Nat.sub_self]
      rfl
    · rw [← hl2, List.getElem?_append_right (Nat.le_refl _), Nat.sub_self]
      rfl
def sumP : List (PyData × PyData) → Nat
  | [] => 0
  | p :: ps => sizeD p.1 + sumP ps
theorem sumP_app : ∀ ps qs : List (PyData × PyData), sumP (ps ++ qs) = sumP ps + sumP qs
  | [], qs => by rw [List.nil_append, sumP, Nat.zero_add]
  | d :: ds, es => by rw [List.cons_append, sumP, sumP, sumP_app ds es, Nat.add_assoc]
theorem sumP_zip : ∀ ds es : List PyData, es.length = ds.length → sumP (ds.zip es) = sizeAll ds
  | [], _, _ => rfl
  | _ :: _, [], h => by cases h
  | d :: ds, e :: es, h => by rw [List.zip_cons_cons, sumP, sizeAll, sumP_zip ds es (Nat.succ.inj h)]
theorem sumP_len : ∀ ps : List (PyData × PyData), ps.length ≤ sumP ps
  | [] => Nat.le_refl _
  | p :: ps => by
    have := sumP_len ps
    have := sizeD_pos p.1
    rw [sumP, List.length_cons]
    omega
theorem zip_all : ∀ {ds es : List PyData}, es.length = ds.length → ((∀ p ∈ ds.zip es, p.1 = p.2) ↔ ds = es)
  | [], [], _ => by simp
  | _ :: _, [], h => by cases h
  | [], _ :: _, h => by cases h
  | d :: ds, e :: es, h => by
    have ih := zip_all (Nat.succ.inj h)
    rw [List.zip_cons_cons]
    constructor
    · intro h
      have h1 : d = e := h (d, e) (List.mem_cons_self ..)
      have h2 := ih.mp fun p hp => h p (List.mem_cons_of_mem _ hp)
      rw [h1, h2]
    · intro h p hp
      injection h with h1 h2
      rcases List.mem_cons.mp hp with rfl | hp
      · exact h1
      · exact ih.mpr h2 p hp
/-- what a zip makes -/
theorem Pd.zip {K : PySem.W.Frag} {H H' : Hp} {xs ys : List V} {ds es : List PyData} {ts : List Addr} (hd : DpAll K H xs ds) (he : DpAll K H ys es) (nd : nestAll ds = true) (ne : nestAll es = true) (hl : ys.length = xs.length) (tk : Tk H H') (ht : ts.length = xs.length)
    (h : ∀ (j : Nat) t x y, ts[j]? = some t → xs[j]? = some x → ys[j]? = some y → H' t = some (.tup [x, y])) : Pd K H' (ts.map V.ref) (ds.zip es) := by
  have l1 := DpAll.length hd
  have l2 := DpAll.length he
  refine ⟨by rw [List.length_map, List.length_zip]; omega, fun i t p e1 e2 => ?_⟩
  rw [List.getElem?_map] at e1
  obtain ⟨a, ha, rfl⟩ := Option.map_eq_some_iff.mp e1
  obtain ⟨f1, f2⟩ := List.getElem?_zip_eq_some.mp e2
  obtain ⟨x, gx, dx⟩ := DpAll.get hd f1
  obtain ⟨y, gy, dy⟩ := DpAll.get he f2
  have n1 := nestAll_mem.mp nd _ (List.mem_of_getElem? f1)
  have n2 := nestAll_mem.mp ne _ (List.mem_of_getElem? f2)
  exact ⟨a, x, y, rfl, SqT.of (h i a x y ha gx gy), Dp.tk tk _ _ (nest_tup _ n1) dx, Dp.tk tk _ _ (nest_tup _ n2) dy, n1, n2⟩
end G

/-! Sorting by data keys whose order is that of their first difference: what a sort asks of two keys. -/
namespace G
open PySem PySem.W PySem.Calls PySem.Spec PyProof.Rows L2
section
variable {prog : Program} {w : World} {A : Around} {E : Value → Shared → Prop} {s : Shared}
theorem oneLt_data {f : Bool} {d e : PyData} {a b : Value} {as bs : List Addr} {k : Bool} {Q : Bool → Shared → Prop} (hu : A.units + 64 < cLine) (hd : d.depth ≤ 64) (ra : Reads s.heap a d as) (rb : Reads s.heap b e bs) (ca : d.canLay0 = true) (cb : e.canLay0 = true)
    (hl : ltD false d e = some k) (hq : Q k s) : wpAny (model prog w) A (oneLt' f a b) Q E s := by
  cases f with
  | false =>
    rw [oneLt'_eq]
    simp only [Bool.false_eq_true, if_false]
    exact wpAny_bind (rc_data false 64 A s hu d e a b as bs k hd ra rb ca cb hl prog w E _ (wpAny_truthy_bool hq))
  | true =>
    cases d with
    | int i =>
      cases e with
      | int j =>
        cases ra
        cases rb
        have e := Option.some.inj hl
        subst e
        exact oneLt_int hq
      | _ => cases hl
    | str x =>
      cases e with
      | str y =>
        cases ra
        cases rb
        have e := Option.some.inj hl
        subst e
        exact oneLt_str hq
      | _ => cases hl
    | tuple xs =>
      cases e with
      | tuple ys =>
        cases ra with
        | @tuple l o vs n _ as h1 h2 h3 h4 =>
          cases rb with
          | @tuple b o' us m _ bs k1 k2 k3 k4 =>
            rw [PyData.depth] at hd
            rw [PyData.canLay0] at ca cb
            have hF := first_data (A := A.in1) (s := s) (N := 63) (k := k) (up := false) (by show A.units + 1 + 63 < cLine; omega) (rc_data false 63 A.in1 s (by show A.units + 1 + 63 < cLine; omega)) xs ys vs.toList us.toList as bs h4 k4 ca cb (by omega) hl
            obtain ⟨cls, dd, data, sl⟩ := o
            obtain ⟨cls', dd', data', sl'⟩ := o'
            simp only at h2 h3 k2 k3
            subst h2 h3 k2 k3
            unfold szU at hF
            rw [Array.length_toList, Array.length_toList] at hF
            rw [oneLt'_eq]
            simp only [if_true]
            refine wpAny_bind (wpAny_cRoomFor (by omega) ?_)
            refine wpAny_bind (wpAny_callSpecialIfBound?_slot (T := "tuple") ⟨_, h1, rfl⟩ F.slot_tuple_lt (call_meets F.slot_tuple_lt ⟨_, h1, rfl⟩ F.entry_tuple_lt (F.args_tuple_lt_2 _ _) (tup_first_lt l b vs us n m dd dd' sl sl' k) ⟨h1, k1, hF, ?_⟩))
            exact wpAny_truthy_bool hq
      | _ => cases hl
    | _ => cases e <;> cases hl
theorem katLex_data {b fin k : Bool} {Q : Bool → Shared → Prop} (hu : A.units + 64 < cLine) : ∀ (xs ys : List PyData) (i : Nat) (vs us : List Value) (as bs : List Addr), ReadsAll s.heap vs xs as → ReadsAll s.heap us ys bs → PyData.canLayAll0 xs = true → PyData.canLayAll0 ys = true → PyData.depthAll xs ≤ 64 →
    ltAll false xs ys = some k → fin = decide (vs.length < us.length) → Q k s → KatLex prog w A b fin Q (vs.zip us) i s
  | [], [], i, vs, us, as, bs, rx, ry, _, _, _, h, hf, hq => by
    cases rx
    cases ry
    have e := Option.some.inj h
    subst e
    rw [show fin = false from hf]
    exact kat_nil hq
  | [], y :: ys, i, vs, us, as, bs, rx, ry, _, _, _, h, hf, hq => by
    cases rx
    cases ry
    have e := Option.some.inj h
    subst e
    rw [show fin = true from by rw [hf]; simp]
    exact kat_nil hq
  | x :: xs, [], i, vs, us, as, bs, rx, ry, _, _, _, h, hf, hq => by
    cases rx
    cases ry
    have e := Option.some.inj h
    subst e
    rw [show fin = false from by rw [hf]; simp]
    exact kat_nil hq
  | x :: xs, y :: ys, i, vs, us, as, bs, rx, ry, cx, cy, hd, h, hf, hq => by
    cases rx with
    | cons r rs =>
      cases ry with
      | cons r' rs' =>
        rw [PyData.canLayAll0, Bool.and_eq_true] at cx cy
        rw [PyData.depthAll] at hd
        have h1 : x.depth ≤ 64 := Nat.le_trans (Nat.le_max_left _ _) hd
        have h2 : PyData.depthAll xs ≤ 64 := Nat.le_trans (Nat.le_max_right _ _) hd
        refine kat_cons (SeqAt.eqAt_reads x y A s _ _ _ _ r r' cx.1 cy.1 (by have := Nat.min_le_left x.depth y.depth; omega) prog w _ _ ?_)
        refine kat_go (fun e => ?_) (fun e => ?_)
        · rw [ltAll, if_pos e] at h
          exact kat_yes (katLex_data hu xs ys (i + 1) _ _ _ _ rs rs' cx.2 cy.2 h2 h (by rw [hf, List.length_cons, List.length_cons]; simp) hq)
        · rw [ltAll, if_neg (by rw [e]; exact Bool.false_ne_true)] at h
          exact kat_no (oneLt_data hu h1 r r' cx.1 cy.1 h hq)
end
end G

namespace G
open PySem PySem.W PySem.Calls PySem.Spec PyProof.Rows L2
def KOk (κ : SortKind) : Prop := (∃ b, κ = tuples' b) ∨ κ = general' ∨ κ = oneType'
section
variable {prog : Program} {w : World} {A : Around} {s : Shared}
theorem reads_type {M : Model} {h : Heap} {v : Value} {d : PyData} {as : List Addr} (r : Reads h v d as) : ∃ T, Looks M h (typeOf v) T := by
  cases r with
  | tuple h1 h2 h3 h4 => exact ⟨_, (Looks.ld h1).andThen .now⟩
  | list h1 h2 h3 h4 => exact ⟨_, (Looks.ld h1).andThen .now⟩
  | dict h1 h2 h3 h4 h5 => exact ⟨_, (Looks.ld h1).andThen .now⟩
  | _ => exact ⟨_, Looks.of_pure rfl⟩
theorem mapM_looks {M : Model} {E : Value → Shared → Prop} : ∀ (l : List Value), (∀ v ∈ l, ∃ T, Looks M s.heap (typeOf v) T) → ∃ Ts : List Value, ∀ (Q : List Value → Shared → Prop), Q Ts s → wpAny M A (l.mapM typeOf) Q E s
  | [], _ => ⟨[], fun Q h => by rw [List.mapM_nil]; exact wpAny_pure h⟩
  | v :: l, h => by
    obtain ⟨T, hT⟩ := h v (List.mem_cons_self ..)
    obtain ⟨Ts, hTs⟩ := mapM_looks l fun u hu => h u (List.mem_cons_of_mem _ hu)
    refine ⟨T :: Ts, fun Q q => ?_⟩
    rw [List.mapM_cons]
    exact wpAny_bind (hT.here (wpAny_bind (hTs _ (wpAny_pure q))))
/-- v is a tuple, o its first item -/
def TupO (h : Heap) (v : Value) (o : Option Value) : Prop := ∃ a ob xs n, v = .ref a ∧ h.get? a = some ob ∧ ob.cls = .type "tuple" ∧ ob.data = .seq xs n ∧ xs[0]? = o
theorem firsts_any {M : Model} {E : Value → Shared → Prop} : ∀ (vs : List Value), (∀ v ∈ vs, ∃ o, TupO s.heap v o) → ∃ os : List (Option Value), (∀ o ∈ os, ∃ v ∈ vs, TupO s.heap v o) ∧ ∀ (Q : List (Option Value) → Shared → Prop), Q os s → wpAny M A (vs.mapM firstOfTuple') Q E s
  | [], _ => ⟨[], fun _ h => (nomatch h), fun Q h => by rw [List.mapM_nil]; exact wpAny_pure h⟩
  | v :: vs, h => by
    obtain ⟨o, hv⟩ := h v (List.mem_cons_self ..)
    obtain ⟨os, h1, h2⟩ := firsts_any (M := M) (E := E) vs fun u hu => h u (List.mem_cons_of_mem _ hu)
    refine ⟨o :: os, fun p hp => ?_, fun Q q => ?_⟩
    · rcases List.mem_cons.mp hp with rfl | hp
      · exact ⟨v, List.mem_cons_self .., hv⟩
      · obtain ⟨u, hu, k⟩ := h1 p hp
        exact ⟨u, List.mem_cons_of_mem _ hu, k⟩
    · obtain ⟨a, ob, xs, n, rfl, ho, hc, hd, hf⟩ := hv
      rw [List.mapM_cons]
      refine wpAny_bind ?_
      rw [kas_first_eq]
      refine wpAny_bind (Looks.here (show Looks M s.heap (typeOf (.ref a)) ob.cls from (Looks.ld ho).andThen .now) ?_)
      rw [hc, if_neg (by first | decide | simp)]
      refine wpAny_bind (listItems_at ho hd (wpAny_pure ?_))
      rw [hf]
      exact wpAny_bind (h2 _ (wpAny_pure q))
theorem one_type {M : Model} {E : Value → Shared → Prop} (vs : List Value) (h : ∀ v ∈ vs, ∃ T, Looks M s.heap (typeOf v) T) : ∃ r : Option Value, ∀ (Q : Option Value → Shared → Prop), Q r s → wpAny M A (oneTypeOnly' vs.toArray) Q E s := by
  obtain ⟨Ts, hTs⟩ := mapM_looks (A := A) (M := M) (E := E) vs h
  cases e : Ts.toArray[0]? with
  | none =>
    refine ⟨none, fun Q q => ?_⟩
    rw [oneTypeOnly'_eq, List.mapM_toArray, map_eq_pure_bind]
    refine wpAny_bind (wpAny_bind (hTs _ (wpAny_pure ?_)))
    rw [e]
    exact wpAny_pure q
  | some t =>
    refine ⟨if Ts.toArray.all (· == t) then some t else none, fun Q q => ?_⟩
    rw [oneTypeOnly'_eq, List.mapM_toArray, map_eq_pure_bind]
    refine wpAny_bind (wpAny_bind (hTs _ (wpAny_pure ?_)))
    rw [e]
    exact wpAny_pure q
theorem kind_tuples {M : Model} {E : Value → Shared → Prop} (vs : List Value) (h : ∀ v ∈ vs, ∃ o, TupO s.heap v o ∧ ∀ f, o = some f → ∃ T, Looks M s.heap (typeOf f) T) : ∃ κ, KOk κ ∧ ∀ (Q : SortKind → Shared → Prop), Q κ s → wpAny M A (keyKind' vs.toArray) Q E s := by
  obtain ⟨os, h1, h2⟩ := firsts_any (A := A) (M := M) (E := E) (s := s) vs fun v hv => let ⟨o, k, _⟩ := h v hv; ⟨o, k⟩
  have hos : ∀ f, some f ∈ os → ∃ T, Looks M s.heap (typeOf f) T := fun f hf => by
    obtain ⟨v, hv, a, ob, xs, n, rfl, ho, hc, hd, hx⟩ := h1 _ hf
    obtain ⟨o, ⟨a', ob', xs', n', e, ho', hc', hd', hx'⟩, k⟩ := h _ hv
    cases e
    rw [ho] at ho'
    cases ho'
    rw [hd] at hd'
    cases hd'
    rw [hx] at hx'
    exact k f hx'.symm
  have hvs : ∀ v ∈ vs, ∃ T, Looks M s.heap (typeOf v) T := fun v hv => by
    obtain ⟨o, ⟨a, ob, xs, n, rfl, ho, _⟩, _⟩ := h v hv
    exact ⟨_, (Looks.ld ho).andThen .now⟩
  by_cases hall : (os.toArray.all fun x => x.isSome) = true
  · obtain ⟨r, hr⟩ := one_type (A := A) (M := M) (E := E) (s := s) (os.filterMap id) fun f hf => by
      obtain ⟨o, ho, e⟩ := List.mem_filterMap.mp hf
      rw [show o = some f from e] at ho
      exact hos f ho
    refine ⟨tuples' (r.any (· != .type "tuple")), .inl ⟨_, rfl⟩, fun Q q => ?_⟩
    rw [kat_kind_eq, List.mapM_toArray, map_eq_pure_bind]
    refine wpAny_bind (wpAny_bind (h2 _ (wpAny_pure ?_)))
    rw [if_pos hall]
    refine wpAny_bind (wpAny_rule ?_)
    have hfm : os.toArray.filterMap id = (os.filterMap id).toArray := by simp
    rw [hfm]
    exact wpAny_bind (hr _ (wpAny_pure q))
  · by_cases hg : ((os.toArray[0]?.bind id).isSome) = true
    · refine ⟨general', .inr (.inl rfl), fun Q q => ?_⟩
      rw [kat_kind_eq, List.mapM_toArray, map_eq_pure_bind]
      refine wpAny_bind (wpAny_bind (h2 _ (wpAny_pure ?_)))
      rw [if_neg hall, if_pos hg]
      exact wpAny_pure q
    · obtain ⟨r, hr⟩ := one_type (A := A) (M := M) (E := E) (s := s) vs hvs
      refine ⟨if r.isSome then oneType' else general', ?_, fun Q q => ?_⟩
      · split
        · exact .inr (.inr rfl)
        · exact .inr (.inl rfl)
      · rw [kat_kind_eq, List.mapM_toArray, map_eq_pure_bind]
        refine wpAny_bind (wpAny_bind (h2 _ (wpAny_pure ?_)))
        rw [if_neg hall, if_neg hg]
        exact wpAny_bind (hr _ (wpAny_pure q))
theorem keyLt_data {κ : SortKind} {xs ys : List PyData} {a b : Value} {as bs : List Addr} {k : Bool} {E : Value → Shared → Prop} {Q : Bool → Shared → Prop} (hκ : KOk κ) (hu : A.units + 64 < cLine) (hd : (PyData.tuple xs).depth ≤ 64) (ra : Reads s.heap a (.tuple xs) as) (rb : Reads s.heap b (.tuple ys) bs) (ca : (PyData.tuple xs).canLay0 = true) (cb : (PyData.tuple ys).canLay0 = true)
    (hl : ltD false (.tuple xs) (.tuple ys) = some k) (hq : Q k s) : wpAny (model prog w) A (keyLt' κ a b) Q E s := by
  rcases hκ with ⟨f, rfl⟩ | rfl | rfl
  · cases ra with
    | @tuple l o vs n _ as h1 h2 h3 h4 =>
      cases rb with
      | @tuple b o' us m _ bs k1 k2 k3 k4 =>
        rw [PyData.depth] at hd
        rw [PyData.canLay0] at ca cb
        exact kat_lt h1 h3 k1 k3 (katLex_data hu xs ys 0 vs.toList us.toList as bs h4 k4 ca cb (by omega) hl (by simp) hq)
  · exact oneLt_data (f := false) hu hd ra rb ca cb hl hq
  · exact oneLt_data (f := true) hu hd ra rb ca cb hl hq
end
end G

namespace G
open PySem PySem.W PySem.Calls PySem.Spec PyProof.Rows L2 SrtO
section
variable {prog : Program} {w : World} {A : Around} {E : Value → Shared → Prop} {s : Shared} {a kS : Addr} {e e1 : Nat} {P : PySem.Fin → Shared → Prop}
/-- behind the sort: the keys' list is emptied, the list gets its items -/
theorem sk_tail {b : Bool} {st : SortSt} {keys : Array Value} {out : List Value} (nk : s.heap.get? kS = some (seqObj "list" keys e)) (na : s.heap.get? a = some (seqObj "list" #[] e1)) (hka : kS ≠ a) (hsz : keys.size ≤ sizeLine) (hz : out.length ≤ sizeLine) (hfl : failedOf st = none)
    (ho : (if b = true then ((arrOf st).map (·.2)).reverse else (arrOf st).map (·.2)) = out.toArray)
    (h : P (.done (.ret .none)) { s with heap := (s.heap.update kS (Obj.mapSeq fun _ => #[])).update a (Obj.mapSeq fun _ => out.toArray) }) :
    wpAny (model prog w) A (ksk_tail a b e1 (.ref kS) st) P E s := by
  have s1 := Heap.SameBut.update s.heap kS (Obj.mapSeq fun _ => (#[] : Array Value))
  obtain ⟨c1, hc1⟩ : ∃ c1, (s.heap.update kS (Obj.mapSeq fun _ => (#[] : Array Value))).get? kS = some (seqObj "list" #[] c1) := ⟨_, get?_update_seq nk fun _ => #[]⟩
  have na1 : (s.heap.update kS (Obj.mapSeq fun _ => (#[] : Array Value))).get? a = some (seqObj "list" #[] e1) := (s1.2 a hka.symm).trans na
  have s2 := Heap.SameBut.update (s.heap.update kS (Obj.mapSeq fun _ => (#[] : Array Value))) a (Obj.mapSeq fun _ => out.toArray)
  obtain ⟨c2, hc2⟩ : ∃ c2, ((s.heap.update kS (Obj.mapSeq fun _ => (#[] : Array Value))).update a (Obj.mapSeq fun _ => out.toArray)).get? a = some (seqObj "list" out.toArray c2) :=
    ⟨_, get?_update_seq na1 fun _ => out.toArray⟩
  have hz2 : out.toArray.size ≤ sizeLine + 1 := by
    rw [List.size_toArray]
    exact Nat.le_succ_of_le hz
  unfold ksk_tail
  try dsimp only
  rw [ho]
  refine wpAny_bind (listUpdate_at nk rfl ?_ hsz (Nat.zero_le _))
  refine wpAny_bind (wpAny_letGo ?_)
  refine wpAny_bind (seqEpoch_at na1 rfl ?_)
  refine wpAny_bind (listUpdate_at na1 rfl ?_ (Nat.zero_le _) hz2)
  rw [hfl]
  simp only [bne_self_eq_false, Bool.false_eq_true, if_false]
  exact wpAny_pure h
abbrev turnB {α : Type} (b : Bool) (l : List α) : List α := if b = true then l.reverse else l
theorem sk_end {b : Bool} {lt : Keyed → Keyed → Bool} (O : Swo lt) {keys items : List Value} (hl : keys.length = items.length) (hz : items.length ≤ sizeLine)
    (hk : 2 ≤ keys.length → ∃ κ, (∀ (Q : SortKind → Shared → Prop), Q κ s → wpAny (model prog w) A (keyKind' keys.toArray) Q E s) ∧ ∀ p ∈ keys.zip items, ∀ q ∈ keys.zip items, wpAny (model prog w) A (keyLt' κ p.1 q.1) (fun r s' => s' = s ∧ r = lt p q) (fun _ _ => False) s)
    (nk : s.heap.get? kS = some (seqObj "list" keys.toArray e)) (na : s.heap.get? a = some (seqObj "list" #[] e1)) (hka : kS ≠ a)
    (h : ∀ ps : List Keyed, Srtd lt ps → Stb lt ps (turnB b (keys.zip items)) → P (.done (.ret .none)) { s with heap := (s.heap.update kS (Obj.mapSeq fun _ => #[])).update a (Obj.mapSeq fun _ => (turnB b (ps.map (·.2))).toArray) }) :
    wpAny (model prog w) A (ksk_end a b items.toArray e1 (.ref kS) keys.toArray) P E s := by
  have ez : (keys.toArray.zip items.toArray).toList = keys.zip items := by simp
  have est : (if b = true then (keys.toArray.zip items.toArray).reverse else keys.toArray.zip items.toArray).toList = turnB b (keys.zip items) := by
    cases b with
    | true => show (keys.toArray.zip items.toArray).reverse.toList = _; rw [Array.toList_reverse, ez]; rfl
    | false => exact ez
  have lz : (turnB b (keys.zip items)).length = items.length := by
    cases b with
    | true => show (keys.zip items).reverse.length = _; rw [List.length_reverse, List.length_zip]; omega
    | false => show (keys.zip items).length = _; rw [List.length_zip]; omega
  have eout : ∀ xs : Array Keyed, (if b = true then (xs.map (·.2)).reverse else xs.map (·.2)) = (turnB b (xs.toList.map (·.2))).toArray := by
    intro xs
    apply Array.toList_inj.mp
    cases b with
    | true => show ((xs.map (·.2)).reverse).toList = (xs.toList.map (·.2)).reverse; rw [Array.toList_reverse, Array.toList_map]
    | false => show (xs.map (·.2)).toList = xs.toList.map (·.2); rw [Array.toList_map]
  have lturn : ∀ l : List Value, (turnB b l).length = l.length := by
    intro l
    cases b with
    | true => exact List.length_reverse
    | false => rfl
  have fin : ∀ st' : SortSt, Srtd lt (arrOf st').toList → Stb lt (arrOf st').toList (turnB b (keys.zip items)) → failedOf st' = none → wpAny (model prog w) A (ksk_tail a b e1 (.ref kS) st') P E s := by
    intro st' h1 h2 h3
    refine sk_tail nk na hka (by rw [List.size_toArray, hl]; exact hz) (out := turnB b ((arrOf st').toList.map (·.2))) ?_ h3 (eout _) (h _ h1 h2)
    rw [lturn, List.length_map, h2.len, lz]
    exact hz
  have step : ∀ t : Sem PySem.Fin, wpAny (model prog w) A t P E s → wpAny (model prog w) A (if b = true then (do let _ ← rule "list.sort.reverse"; t) else t) P E s := by
    intro t ht
    split
    · exact wpAny_bind (wpAny_rule ht)
    · exact ht
  unfold ksk_end
  try dsimp only
  refine step _ ?_
  by_cases hl2 : items.toArray.size < 2
  · rw [if_pos hl2, if_pos hl2]
    refine wpAny_bind (wpAny_pure ?_)
    rw [StateT.run_pure]
    refine wpAny_bind (wpAny_pure ?_)
    try dsimp only
    refine fin (SortSt.mk' general' (if b = true then (keys.toArray.zip items.toArray).reverse else keys.toArray.zip items.toArray) #[] 7 none) ?_ ?_ rfl
    · show Srtd _ (if b = true then (keys.toArray.zip items.toArray).reverse else keys.toArray.zip items.toArray).toList
      rw [est]
      rw [List.size_toArray] at hl2
      generalize turnB b (keys.zip items) = q at lz
      match q, lz with
      | [], _ => exact List.Pairwise.nil
      | [v], _ => exact List.pairwise_singleton _ _
      | _ :: _ :: l, lz => exact absurd hl2 (by rw [← lz, List.length_cons, List.length_cons]; omega)
    · show Stb _ (if b = true then (keys.toArray.zip items.toArray).reverse else keys.toArray.zip items.toArray).toList _
      rw [est]
      exact Stb.refl _
  · rw [if_neg hl2, if_neg hl2]
    rw [List.size_toArray] at hl2
    obtain ⟨κ, hkind, hT⟩ := hk (by omega)
    refine wpAny_bind (hkind _ ?_)
    have hall : AllL (fun p : Keyed => p ∈ keys.zip items) (if b = true then (keys.toArray.zip items.toArray).reverse else keys.toArray.zip items.toArray).toList := fun p hm => by
      rw [est] at hm
      have hm' : p ∈ keys.zip items := by
        cases b with
        | true => exact List.mem_reverse.mp hm
        | false => exact hm
      exact hm'
    refine wpAny_bind (wpAny_mono (wpS_sortO (st0 := SortSt.mk' κ (if b = true then (keys.toArray.zip items.toArray).reverse else keys.toArray.zip items.toArray) #[] 7 none)
      (Q := fun _ st' => Srtd lt (arrOf st').toList ∧ Stb lt (arrOf st').toList (turnB b (keys.zip items)) ∧ failedOf st' = none) O (fun p q hp hq => hT p hp q hq) rfl hall rfl rfl fun st' a1 a2 a3 => ⟨a1, by rw [← est]; exact a2, a3⟩) ?_ fun _ _ e => e)
    rintro ⟨⟨⟩, st'⟩ s' ⟨rfl, hp1, hp2, hf⟩
    try dsimp only
    exact fin st' hp1 hp2 hf
end
end G

/-! sorted(xs, key=f) of a list or a tuple of objects, f a def that gives tuples. -/
namespace G
open PySem PySem.W PySem.Calls PySem.Spec PyProof.Rows L2 SrtO
section
variable {prog : Program} {w : World} {A : Around} {E : Value → Shared → Prop} {s : Shared}
theorem collect_tup {l : Addr} {vs : List Value} {Q : List Value → Shared → Prop} (hl : s.heap.IsTuple l vs.toArray)
    (h : Q vs { s with heap := (s.heap.push (seqObj "list" #[] 0)).update s.heap.objs.size (Obj.mapSeq (· ++ vs.toArray)) }) (hsz : vs.length ≤ sizeLine) :
    wpAny (model prog w) A (collect (.ref l)) Q E s := by
  obtain ⟨o, ho, hc, n, hd⟩ := id hl
  unfold collect
  refine wpAny_bind (wpAny_runValue (codeAny_builtin entry_proto_collect' ?_))
  show wpAny _ _ (do again (.builtin "list.__iadd__" ⟨[← newList [], .ref l], []⟩)) _ _ s
  refine wpAny_bind (wpAny_newList (wpAny_pure ⟨Code.quiet_builtin _ (by decide +kernel), codeAny_builtin entry_list_iadd' ?_⟩))
  show wpAny _ _ (Builtin.List.listExtendWith (.ref s.heap.objs.size) (.ref l) (.ref s.heap.objs.size)) _ _ { s with heap := s.heap.push (seqObj "list" #[] 0) }
  unfold Builtin.List.listExtendWith
  have ho' : (s.heap.push (seqObj "list" #[] 0)).get? l = some o := Heap.get?_push_of_some _ ho
  refine wpAny_bind (wpAny_typeOf (T := "tuple") ⟨o, ho', hc⟩ ?_)
  have ht : (Value.type "tuple" == Value.type "tuple") = true := by rfl
  rw [if_pos (by rw [ht]; simp)]
  refine wpAny_bind (listItems_at ho' hd ?_)
  refine wpAny_bind (listItems_at (xs := #[]) (n := 0) (Heap.get?_push_size _ rfl) rfl ?_)
  rw [if_neg (by simp)]
  refine wpAny_bind (listUpdate_at (xs := #[]) (n := 0) (Heap.get?_push_size _ rfl) rfl ?_ (Nat.zero_le _) (by show (#[] ++ vs.toArray).size ≤ sizeLine + 1; simp only [Array.size_append, List.size_toArray, List.length_nil]; omega))
  refine wpAny_pure ?_
  show wpAny (model prog w) A (do
      let o ← load s.heap.objs.size
      match o.data with
      | .seq xs _ => pure xs.toList
      | _ => unsupported "internal:collect") Q E { s with heap := (s.heap.push (seqObj "list" #[] 0)).update s.heap.objs.size (Obj.mapSeq (· ++ vs.toArray)) }
  refine wpAny_bind (wpAny_load (get?_update_seq (Heap.get?_push_size _ rfl) _) ?_)
  show wpAny _ _ (pure ((#[] : Array Value) ++ vs.toArray).toList) Q E _
  rw [show ((#[] : Array Value) ++ vs.toArray).toList = vs by simp]
  exact wpAny_pure h
theorem sorted_of {l : Addr} {vs : List Value} {kw : List (Str × Value)} {Q : Value → Shared → Prop} (hl : s.heap.IsList l vs.toArray ∨ s.heap.IsTuple l vs.toArray) (hL : vs.length ≤ sizeLine) (ha1 : argsOk "sorted" ⟨[.ref l], kw⟩) (ha2 : ∀ x, argsOk "list.sort" ⟨[.ref x], kw⟩)
    (body : ∀ E' : Value → Shared → Prop, wpAny (model prog w) A.in1.in1 (Builtin.«list.sort» ⟨[.ref (s.heap.objs.size + 1)], kw⟩) (fun f s' => f = .done (.ret .none) ∧ Q (.ref (s.heap.objs.size + 1)) s') E' { s with heap := copyHeap s.heap vs }) :
    wpAny (model prog w) A (call (.builtin "sorted") [.ref l] kw) Q E s := by
  rcases hl with hl | hl
  · exact sorted_of_sort hl hL ha1 ha2 body
  · refine call_function_entry_kw kind_sorted plain_sorted entry_sorted ha1 ?_
    unfold Builtin.«sorted»
    refine wpAny_bind (m := checkCount "sorted" 1 1 _) (wpAny_pure ?_)
    refine wpAny_bind (collect_tup hl ?_ hL)
    refine wpAny_bind (wpAny_newList ?_ hL)
    have hsz : ((s.heap.push (seqObj "list" #[] 0)).update s.heap.objs.size (Obj.mapSeq (· ++ vs.toArray))).objs.size = s.heap.objs.size + 1 := by
      rw [Heap.size_update, size_push']
    show wpAny _ _ _ _ _ { s with heap := copyHeap s.heap vs }
    rw [hsz]
    refine wpAny_bind (wpAny_holding (wpAny_call_entry_kw slot_list_sort ⟨_, copyHeap_at s.heap vs, rfl⟩ entry_list_sort ?body (ha2 _)))
    case body =>
      show wpAny (model prog w) A.in1.in1 (Builtin.«list.sort» ⟨[.ref (s.heap.objs.size + 1)], kw⟩) _ _ _
      refine wpAny_mono (body _) (fun f s' hf => ?_) fun _ _ e => e
      obtain ⟨rfl, hq⟩ := hf
      exact ⟨_, rfl, wpAny_pure ⟨_, rfl, hq⟩⟩
end
/-- an object as it stands -/
def EO (a : Addr) (o : Obj) : HO := .ext fun h => h.get? a = some o
/-- what is asked of the items, of f, of the order; what comes -/
def rSortK (K : PySem.W.Frag) (sp : Sp) (b : Bool) : V → Hp → VK → Prop := fun x H Q => ∃ (a : Addr) (xs : List V) (kd : V → List PyData) (β : Type) (ltb : β → β → Bool) (cd : V → β), x = .ref a ∧ (SqL K H a xs ∨ SqT K H a xs) ∧ (∀ v ∈ xs, ∃ p, v = .ref p) ∧ Swo ltb ∧
  (∀ v ∈ xs, SeqAt.shaped (.tuple (kd v)) = true ∧ tupD (.tuple (kd v)) = true) ∧ (∀ u ∈ xs, ∀ v ∈ xs, ltD false (.tuple (kd u)) (.tuple (kd v)) = some (ltb (cd u) (cd v))) ∧
  (∀ v ∈ xs, ∀ H', Same H H' → ∀ Q' : VK, (∀ p H'', Dp K H'' p (.tuple (kd v)) → Same H' H'' → Q' p H'') → sp [v] H' Q' E0) ∧
  ∀ ys H' p, Srtd (fun u v => ltb (cd u) (cd v)) ys → Stb (fun u v => ltb (cd u) (cd v)) ys (turnB b xs) → H p = none → Same H H' → H' p = some (.lst (turnB b ys)) → Q (.ref p) H'
section
variable {X : Cx} {k : Nat} {f : Addr} {fd : FuncData} {ps : List Str} {sp : Sp}
theorem run_key {A : Around} {pins : List (Addr × Obj)} {σ : L2.St} {H : Hp} {s : Shared} {Q : VK} {E : Value → Shared → Prop} {u : Value} {v : V} (F : FnOk X.prog X.w X.K X.mg X.base CX0 k f fd ps sp) (hA : A.depth = X.A.depth) (hu : A.units ≤ X.A.units + 16) (hh : A.handled = X.A.handled) (e0 : Env0 X.prog X.w X.K X.mg X.base A X.stack s H) (hr : Room (k + 1) X.A) (hb : Binds X.K fd ps [])
    (I : Inv X pins σ H s) (r : RelV v u) (h : sp [v] H Q E0) : wpAny (model X.prog X.w) A (call (.ref f) [u]) (EP X pins σ Q) E s := by
  have hl : ([u] ++ ([] : List Value)).length = ps.length := by
    have := F.len _ _ _ _ h
    simpa using this
  have hrA : Room k A := ⟨by rw [hh]; exact hr.hd, by have := hr.dp; rw [hA]; omega, by have := hr.un; omega⟩
  refine wpAny_call (codeAny_mono (F.run A X.stack s H ⟨[u], []⟩ ([u] ++ []) [v] Q E0 hrA e0 (hb s [u] I.kIn hl) (.cons r .nil) h) fun r s' hq => ?_)
  cases r with
  | error e => exact False.elim hq
  | ok fl =>
    cases fl with
    | ret u => exact I.after hq
    | next => exact False.elim hq
    | brk => exact False.elim hq
    | cont => exact False.elim hq
theorem sortK_run {b : Bool} {kw : List (Str × Value)} {pins : List (Addr × Obj)} {s : Shared} {σ : L2.St} {H : Hp} {x : V} {u : Value} {Q : VK} (F : FnOk X.prog X.w X.K X.mg X.base CX0 k f fd ps sp) (hr : Room (k + 1) X.A) (hb : Binds X.K fd ps [])
    (ha1 : ∀ l, argsOk "sorted" ⟨[.ref l], kw⟩) (ha2 : ∀ x, argsOk "list.sort" ⟨[.ref x], kw⟩) (ht : ∀ x, Builtin.«list.sort» ⟨[.ref x], kw⟩ = ksk_tree x (.ref f) b)
    (I : Inv X pins σ H s) (rx : RelV x u) (h : rSortK X.K sp b x H Q) : wpAny (model X.prog X.w) X.A (call (.builtin "sorted") [u] kw) (EP X pins σ Q) X.xe s := by
  obtain ⟨a, xs, kd, β, ltb, cd, rfl, hsq, hrf, O, hsh, hlt, hturn, q⟩ := h
  obtain rfl : u = Value.ref a := rx
  obtain ⟨us, rv, hl, hz⟩ : ∃ us : List Value, Vals xs us ∧ (s.heap.IsList a us.toArray ∨ s.heap.IsTuple a us.toArray) ∧ xs.length ≤ sizeLine := by
    rcases hsq with h | h
    · obtain ⟨us, rv, p, z⟩ := I.list h
      exact ⟨us, rv, .inl p.isList, z⟩
    · obtain ⟨us, rv, p, z⟩ := I.tuple h
      exact ⟨us, rv, .inr p, z⟩
  have lu : xs.length = us.length := Paired.length rv
  obtain ⟨ex, eu⟩ := refs_back rv hrf
  have hZ : us.length ≤ sizeLine := by omega
  refine sorted_of hl hZ (ha1 _) ha2 fun E' => ?_
  rw [ht]
  unfold ksk_tree
  have ho := copyHeap_at s.heap us
  obtain ⟨e1, ho1⟩ : ∃ e1, ((copyHeap s.heap us).update (s.heap.objs.size + 1) (Obj.mapSeq fun _ => (#[] : Array Value))).get? (s.heap.objs.size + 1) = some (seqObj "list" #[] e1) := ⟨_, get?_update_seq ho fun _ => #[]⟩
  refine wpAny_bind (listItems_at ho rfl ?_)
  refine wpAny_bind (listUpdate_at ho rfl ?_ (by rw [List.size_toArray]; exact hZ) (Nat.zero_le _))
  refine wpAny_bind (seqEpoch_at ho1 rfl ?_)
  refine wpAny_bind (wpAny_newTuple ?_ (by show us.length ≤ _; exact hZ))
  refine wpAny_bind (wpAny_newList ?_ (Nat.zero_le _))
  refine wpAny_holding ?_
  -- the list as it stands, the keys' list
  have hL : H (s.heap.objs.size + 1) = none := I.hok.fresh (Nat.le_succ _)
  have keep1 : ∀ c o, s.heap.get? c = some o → (((copyHeap s.heap us).update (s.heap.objs.size + 1) (Obj.mapSeq fun _ => (#[] : Array Value))).push (seqObj "tuple" us.toArray 0)).get? c = some o := fun c o e => by
    refine Heap.get?_push_of_some _ ?_
    rw [Heap.get?_update_ne _ _ _ _ (Nat.ne_of_lt (Nat.lt_succ_of_lt (Heap.lt_size e)))]
    exact copyHeap_old e
  have ho2 := Heap.get?_push_of_some (seqObj "tuple" us.toArray 0) ho1
  have I1 : Inv X pins σ (upd H (s.heap.objs.size + 1) (EO (s.heap.objs.size + 1) (seqObj "list" #[] e1))) { s with heap := ((copyHeap s.heap us).update (s.heap.objs.size + 1) (Obj.mapSeq fun _ => (#[] : Array Value))).push (seqObj "tuple" us.toArray 0) } :=
    I.laid (t' := s.toks) keep1 (Nat.le_succ _) ⟨ho2, ⟨_, ho2⟩, fun h1 h2 p k => k _ p⟩
  generalize hL0 : s.heap.objs.size + 1 = L at *
  generalize ((copyHeap s.heap us).update L (Obj.mapSeq fun _ => (#[] : Array Value))).push (seqObj "tuple" us.toArray 0) = g₁ at I1 ho2 keep1 ⊢
  have hk1 : upd H L (EO L (seqObj "list" #[] e1)) g₁.objs.size = none := I1.hok.fresh (Nat.le_refl _)
  have nkL : g₁.objs.size ≠ L := fun z => by
    rw [z, upd_same] at hk1
    cases hk1
  have hk0 : H g₁.objs.size = none := by
    rw [upd_ne nkL] at hk1
    exact hk1
  have I2 : Inv X pins σ (upd (upd H L (EO L (seqObj "list" #[] e1))) g₁.objs.size (.lst [])) { s with heap := g₁.push (seqObj "list" #[] 0) } :=
    I1.laid (t' := s.toks) (fun _ _ e => Heap.get?_push_of_some _ e) (Nat.le_refl _) ⟨Nat.zero_le _, [], 0, .nil, Heap.get?_push_size _ rfl⟩
  generalize g₁.objs.size = kS at hk1 nkL hk0 I2 ⊢
  unfold ksk_rest
  refine wpAny_bind (wpAny_rule ?_)
  first
    | rw [List.forIn_toArray]
    | (rw [← Array.forIn_toList]; simp only [List.toList_toArray])
    | rw [← Array.forIn_toList]
  refine wpAny_bind (ksk_fold (fun i s' => ∃ H' ks, Inv X pins σ H' s' ∧ Same H H' ∧ H' L = some (EO L (seqObj "list" #[] e1)) ∧ H' kS = some (.lst ks) ∧ DpAll X.K H' ks ((xs.take i).map fun v => .tuple (kd v))) us 0 _
    ⟨_, [], I2, fun c o e => ?_, ?_, upd_same, .nil⟩ ?step ?done)
  · rw [upd_ne (ne_of_none e hk0), upd_ne (ne_of_none e hL)]
    exact e
  · rw [upd_ne nkL.symm, upd_same]
  case step =>
    rintro j x s' hx ⟨H', ks, I', sm, hL', hk', hd⟩
    simp only [Nat.zero_add] at hd ⊢
    have hj : j < us.length := (List.getElem?_eq_some_iff.mp hx).1
    have hv : xs[j]? = some (backV x) := by rw [ex, List.getElem?_map, hx]; rfl
    have hm : backV x ∈ xs := List.mem_of_getElem? hv
    obtain ⟨p0, rfl⟩ := eu x (List.mem_of_getElem? hx)
    have e0 : Env0 X.prog X.w X.K X.mg X.base X.A.in1.in1 X.stack s' H' := I'.env0.in1.in1
    refine wpAny_bind (wpAny_attempt (wpAny_mono (run_key (A := X.A.in1.in1) (E := fun _ _ => False) F rfl (by show X.A.units + 1 + 1 ≤ _; omega) rfl e0 hr hb I' (show RelV (.ref p0) (.ref p0) from rfl) (hturn (.ref p0) hm H' sm (fun p H'' => Dp X.K H'' p (.tuple (kd (.ref p0))) ∧ Same H' H'') fun p H'' d s2 => ⟨d, s2⟩)) (fun u s'' he => ?_) fun _ _ hF => hF.elim))
    obtain ⟨p, H2, I2', rp, dp, s2⟩ := he
    try dsimp only
    obtain ⟨z, its, n, rks, hlk, eo⟩ := I2'.lstM (s2 _ _ hk')
    have hks : ks.length = j := by
      have := DpAll.length hd
      rw [List.length_map, List.length_take] at this
      omega
    have hits : ks.length = its.length := Paired.length rks
    refine wpAny_bind (listUpdate_at eo rfl ?_ (by rw [List.size_toArray]; omega) (by rw [Array.size_push, List.size_toArray]; omega))
    have I3 := I2'.lset (t' := s''.toks) (f := fun q => q.push u) (its' := its ++ [u]) (ys := ks ++ [p]) (s2 _ _ hk') eo (by simp) (rks.append (.cons rp .nil)) (by rw [List.length_append]; show _ + 1 ≤ _; omega)
    have tp : Tk H2 (upd H2 kS (.lst (ks ++ [p]))) := Tk.put (s2 _ _ hk')
    refine wpAny_pure ⟨rfl, _, ks ++ [p], I3, fun c o e => ?_, ?_, upd_same, ?_⟩
    · rw [upd_ne (ne_of_none e hk0)]
      exact s2 _ _ (sm _ _ e)
    · rw [upd_ne nkL.symm]
      exact s2 _ _ hL'
    · have hv' : xs[j]? = some (V.ref p0) := hv
      rw [List.take_add_one, hv', List.map_append]
      have tA : tupAll ((xs.take j).map fun v => PyData.tuple (kd v)) = true := by
        have : ∀ l : List V, (∀ v ∈ l, v ∈ xs) → tupAll (l.map fun v => PyData.tuple (kd v)) = true := by
          intro l
          induction l with
          | nil => exact fun _ => rfl
          | cons v l ih =>
            intro h
            rw [List.map_cons, tupAll, (hsh v (h v (List.mem_cons_self ..))).2, ih fun u hu => h u (List.mem_cons_of_mem _ hu)]
            rfl
        exact this _ fun v h => List.mem_of_mem_take h
      exact DpAll.app (Dp.tkAll ((Tk.same s2).trans tp) _ _ tA hd) (.cons (Dp.tk tp _ _ (hsh _ hm).2 dp) .nil)
  case done =>
    rintro s' ⟨H', ks, I', sm, hL', hk', hd⟩
    have et : xs.take (0 + us.length) = xs := List.take_of_length_le (by omega)
    rw [et] at hd
    obtain ⟨z, its, n, rks, hlk, eo⟩ := I'.lstM hk'
    have na : s'.heap.get? L = some (seqObj "list" #[] e1) := (I'.hok L _ hL').1
    have lk : ks.length = xs.length := by
      rw [DpAll.length hd, List.length_map]
    have li : ks.length = its.length := Paired.length rks
    -- each key reads as its data
    have rd : ∀ (i : Nat) (u : Value), its[i]? = some u → ∃ v as, xs[i]? = some v ∧ v ∈ xs ∧ Reads s'.heap u (.tuple (kd v)) as := by
      intro i u hu
      have hi : i < its.length := (List.getElem?_eq_some_iff.mp hu).1
      have hxi : i < xs.length := by omega
      have hki : i < ks.length := by omega
      obtain ⟨kv, e3, d3⟩ := DpAll.get hd (i := i) (d := .tuple (kd xs[i])) (by rw [List.getElem?_map, List.getElem?_eq_getElem hxi]; rfl)
      obtain ⟨u', e4, r4⟩ := LiI.paired_get rks e3
      rw [hu] at e4
      cases e4
      obtain ⟨as, r⟩ := Dp.reads I' _ kv u d3 r4
      exact ⟨xs[i], as, List.getElem?_eq_getElem hxi, List.getElem_mem _, r⟩
    refine wpAny_bind (listItems_at eo rfl ?_)
    have hun : X.A.in1.in1.units + 64 < cLine := by
      have := hr.un
      show X.A.units + 1 + 1 + 64 < cLine
      omega
    refine sk_end (lt := fun p q => ltb (cd (backV p.2)) (cd (backV q.2))) ⟨fun x y => O.asym _ _, fun x y z => O.tr _ _ _⟩ (keys := its) (items := us) (by omega) hZ (fun _ => ?_) eo na nkL fun ps' h1 h2 => ⟨rfl, ?_⟩
    · obtain ⟨κ, hκ, hkind⟩ := kind_tuples (A := X.A.in1.in1) (M := model X.prog X.w) (E := E') (s := s') its fun u hu => by
        obtain ⟨i, hi⟩ := List.mem_iff_getElem?.mp hu
        obtain ⟨v, as, _, _, r⟩ := rd i u hi
        cases r with
        | @tuple l o vs n _ as h1 h2 h3 h4 =>
          refine ⟨vs[0]?, ⟨l, o, vs, n, rfl, h1, h2, h3, rfl⟩, fun f hf => ?_⟩
          have hf' : vs.toList[0]? = some f := by simpa using hf
          generalize vs.toList = vl at h4 hf'
          generalize kd v = dl at h4
          cases h4 with
          | nil => cases hf'
          | cons r rs =>
            cases hf'
            exact reads_type r
      refine ⟨κ, hkind, fun p hp q hq => ?_⟩
      obtain ⟨i, hi⟩ := List.mem_iff_getElem?.mp hp
      obtain ⟨j, hj⟩ := List.mem_iff_getElem?.mp hq
      obtain ⟨i1, i2⟩ := List.getElem?_zip_eq_some.mp hi
      obtain ⟨j1, j2⟩ := List.getElem?_zip_eq_some.mp hj
      obtain ⟨v, as, ev, mv, r1⟩ := rd i p.1 i1
      obtain ⟨v', bs, ev', mv', r2⟩ := rd j q.1 j1
      have b1 : v = backV p.2 := by
        rw [ex, List.getElem?_map, i2] at ev
        exact (Option.some.inj ev).symm
      have b2 : v' = backV q.2 := by
        rw [ex, List.getElem?_map, j2] at ev'
        exact (Option.some.inj ev').symm
      have c1 := shaped_iff.mp (hsh v mv).1
      have c2 := shaped_iff.mp (hsh v' mv').1
      refine keyLt_data hκ hun c1.2 r1 r2 c1.1 c2.1 (hlt v mv v' mv') ⟨rfl, ?_⟩
      rw [b1, b2]
    · have hmem : ∀ u ∈ ps'.map (·.2), u ∈ us := fun u hu => by
        obtain ⟨p, hp, rfl⟩ := List.mem_map.mp hu
        have hp2 := h2.perm.mem_iff.mp hp
        have hp3 : p ∈ its.zip us := by
          cases b with
          | true => exact List.mem_reverse.mp hp2
          | false => exact hp2
        exact (List.of_mem_zip (a := p.1) (b := p.2) hp3).2
      have hmap : (its.zip us).map (fun p : Keyed => backV p.2) = xs := by
        rw [ex]
        have : (its.zip us).map Prod.snd = us := List.map_snd_zip (by omega)
        have e2 : (its.zip us).map (fun p : Keyed => backV p.2) = ((its.zip us).map Prod.snd).map backV := by rw [List.map_map]; rfl
        rw [e2, this]
      have hS2 : Swo (fun u v : V => ltb (cd u) (cd v)) := ⟨fun x y => O.asym _ _, fun x y z => O.tr _ _ _⟩
      have k1 : Srtd (fun u v : V => ltb (cd u) (cd v)) (ps'.map fun p : Keyed => backV p.2) := srtd_map h1
      have k2 : Stb (fun u v : V => ltb (cd u) (cd v)) (ps'.map fun p : Keyed => backV p.2) (turnB b xs) := by
        have := Stb.map hS2 (fun p : Keyed => backV p.2) h2
        have e : (turnB b (its.zip us)).map (fun p : Keyed => backV p.2) = turnB b xs := by
          cases b with
          | true => show (its.zip us).reverse.map _ = xs.reverse; rw [List.map_reverse, hmap]
          | false => exact hmap
        rw [e] at this
        exact this
      have tb : turnB b (ps'.map fun p : Keyed => backV p.2) = (turnB b (ps'.map (·.2))).map backV := by
        cases b with
        | true => show (ps'.map _).reverse = (ps'.map _).reverse.map backV; rw [List.map_reverse, List.map_map]; rfl
        | false => show ps'.map _ = (ps'.map _).map backV; rw [List.map_map]; rfl
      have hmem2 : ∀ u ∈ turnB b (ps'.map (·.2)), ∃ a, u = Value.ref a := fun u hu => by
        refine eu u (hmem u ?_)
        cases b with
        | true => exact List.mem_reverse.mp hu
        | false => exact hu
      have hlen : (turnB b (ps'.map fun p : Keyed => backV p.2)).length ≤ sizeLine := by
        have := k2.len
        have e1 : ∀ l : List V, (turnB b l).length = l.length := fun l => by
          cases b with
          | true => exact List.length_reverse
          | false => rfl
        rw [e1] at this ⊢
        rw [this]
        exact hz
      have I4 := I'.lset (t' := s'.toks) (f := fun _ => #[]) (its' := []) (ys := []) hk' eo rfl .nil (Nat.zero_le _)
      have na4 : (s'.heap.update kS (Obj.mapSeq fun _ => (#[] : Array Value))).get? L = some (seqObj "list" #[] e1) := by
        rw [Heap.get?_update_ne _ _ _ _ nkL.symm]
        exact na
      obtain ⟨c5, hc5⟩ : ∃ c5, ((s'.heap.update kS (Obj.mapSeq fun _ => (#[] : Array Value))).update L (Obj.mapSeq fun _ => (turnB b (ps'.map (·.2))).toArray)).get? L = some (seqObj "list" (turnB b (ps'.map (·.2))).toArray c5) := ⟨_, get?_update_seq na4 fun _ => _⟩
      have hL4 : upd H' kS (.lst []) L = some (EO L (seqObj "list" #[] e1)) := by
        rw [upd_ne nkL.symm]
        exact hL'
      have I5 : Inv X pins σ (upd (upd H' kS (.lst [])) L (.lst (turnB b (ps'.map fun p : Keyed => backV p.2)))) { s' with heap := (s'.heap.update kS (Obj.mapSeq fun _ => (#[] : Array Value))).update L (Obj.mapSeq fun _ => (turnB b (ps'.map (·.2))).toArray) } :=
        I4.write (x := L) (e := L) (t' := s'.toks) (by rw [hL4]; exact trivial) (.inl rfl) (fun c o hc e => by
          show ((s'.heap.update kS (Obj.mapSeq fun _ => (#[] : Array Value))).update L _).get? c = some o
          rw [Heap.get?_update_ne _ _ _ _ hc]
          exact e) ⟨_, hc5⟩ ⟨hlen, _, c5, by rw [tb]; exact vals_back hmem2, hc5⟩
      refine ⟨.ref L, _, I5, rfl, q _ _ L k1 k2 hL (fun c o e => ?_) upd_same⟩
      rw [upd_ne (ne_of_none e hL), upd_ne (ne_of_none e hk0)]
      exact sm _ _ e
end
end G

namespace G
open PySem PySem.W PySem.Calls PySem.Spec PyProof.Rows L2 SrtO
def fSortK (K : PySem.W.Frag) (sp : Sp) (te : TE) : TE := fun σ H Q => te σ H fun x H1 => rSortK K sp false x H1 Q
section
variable {X : Cx}
/-- sorted(e, key=f) -/
theorem pe_sortK {x : Str} {ps : List Str} {k j : Nat} {sp : Sp} {p p2 kp pos : Pos} {e : Expr} {te : TE} (K : PySem.W.Frag) (F : Fn X.prog X.w X.K X.mg X.base x ps k sp) (hr : Room j X.A) (hms : X.mg "sorted" = none) (he : PE X e te) (hK : X.K = K := by rfl) (hgs : Gl X "sorted" := by rfl) (hg : Gl X x := by rfl) (hj : k + 1 ≤ j := by first | decide | omega)
    (hdb : (x == ("__debug__" : Str)) = false := by decide) (hs : starEach [e] X.env = (false, eval e X.env) :: starEach [] X.env := by rfl)
    (hb1 : backTo pos (starEach [e] X.env) = (false, eval e X.env) :: backTo pos (starEach [] X.env) := by rfl) (hpl : (backTo pos (starEach [e] X.env)).any (·.1) = false := by rfl)
    (hall : (backToKw pos (keywordEach [⟨some "key", .Name x p2, kp⟩] X.env)).all (·.1.isSome) = true := by rfl) (hnone : (backToKw pos (keywordEach [⟨some "key", .Name x p2, kp⟩] X.env)).any (·.1.isNone) = false := by rfl) (hks : (backToKw pos (keywordEach [⟨some "key", .Name x p2, kp⟩] X.env)).filterMap (·.1) = [Str.ofString "key"] := by rfl) :
    PE X (.Call (.Name "sorted" p) [e] [⟨some "key", .Name x p2, kp⟩] pos) (fSortK K sp te) := by
  subst hK
  obtain ⟨f, fd, Fo, hm, hk, hb⟩ := F.ex
  refine ⟨fun pins s σ H Q I h => ?_⟩
  refine wpAny_Call_Name_kw (ld_blt I hgs hms PyProof.Rows.boot_sorted ?_)
  refine PyProof.Rows.callWith_kw (thn ((pa_cons he pa_nil hs).run pos pins s σ H (fun vs H1 => match vs with | [y] => rSortK X.K sp false y H1 Q | _ => False) I h) fun us s1 ⟨vs, H1, I1, r1, q1⟩ =>
    thn ((pk_cons (pe_glob (v := .ref f) hg hm rfl hdb) pk_nil).run pos pins s1 σ H1 (fun zs H2 => zs = [.ref f] ∧ H2 = H1) I1 ⟨rfl, rfl⟩) fun ws s2 ⟨zs, H2, I2, r2, e1, e2⟩ => ?_) hb1 hpl hall hnone
  rw [hks]
  subst e1 e2
  obtain ⟨w1, rfl, e1⟩ := vals1 r2
  obtain rfl : w1 = Value.ref f := e1
  cases r1 with
  | nil => exact q1.elim
  | cons ru rr =>
    cases rr with
    | cons r3 r4 => exact q1.elim
    | nil =>
      have key := sortK_run (b := false) (kw := [(Str.ofString "key", Value.ref f)]) Fo (hr.mono hj) hb (fun _ => PyProof.Rows.ksk_s1 _ _) (fun _ => PyProof.Rows.ksk_l1 _ _) (fun a => PyProof.Rows.ksk_t1 f a) I2 ru q1
      exact key
end
end G

/-! A total order of codes, and rows by it. -/
namespace G
open PySem PySem.Spec PyProof.Rows L2
structure Tot {α : Type} (lt : α → α → Bool) : Prop where
  asym : ∀ x y, lt x y = true → lt y x = false
  tot : ∀ x y, x ≠ y → lt x y = false → lt y x = true
  tr : ∀ x y z, lt x y = true → lt y z = true → lt x z = true
theorem Tot.irr {α : Type} {lt : α → α → Bool} (t : Tot lt) (x : α) : lt x x = false := by
  cases h : lt x x with
  | false => rfl
  | true =>
    have := t.asym x x h
    rw [h] at this
    cases this
theorem Tot.swo {α : Type} [DecidableEq α] {lt : α → α → Bool} (t : Tot lt) : SrtO.Swo lt := by
  refine ⟨t.asym, fun x y z h1 h2 => ?_⟩
  cases h : lt z x with
  | false => rfl
  | true =>
    by_cases e : x = y
    · subst e
      rw [h] at h2
      cases h2
    · have h3 := t.tot y x (fun z => e z.symm) h1
      have h4 := t.tr z x y h h3
      rw [h4] at h2
      cases h2
def lexB {α : Type} [DecidableEq α] (lt : α → α → Bool) : List α → List α → Bool
  | [], [] => false
  | [], _ :: _ => true
  | _ :: _, [] => false
  | x :: xs, y :: ys => if x = y then lexB lt xs ys else lt x y
theorem lex_asym {α : Type} [DecidableEq α] {lt : α → α → Bool} (t : Tot lt) : ∀ xs ys : List α, lexB lt xs ys = true → lexB lt ys xs = false
  | [], [], h => by cases h
  | [], _ :: _, _ => rfl
  | _ :: _, [], h => by cases h
  | x :: xs, y :: ys, h => by
    rw [lexB] at h ⊢
    by_cases e : x = y
    · rw [if_pos e] at h
      rw [if_pos e.symm]
      exact lex_asym t xs ys h
    · rw [if_neg e] at h
      rw [if_neg fun z => e z.symm]
      exact t.asym x y h
theorem lex_tot {α : Type} [DecidableEq α] {lt : α → α → Bool} (t : Tot lt) : ∀ xs ys : List α, xs ≠ ys → lexB lt xs ys = false → lexB lt ys xs = true
  | [], [], h, _ => absurd rfl h
  | [], _ :: _, _, h => by cases h
  | _ :: _, [], _, _ => rfl
  | x :: xs, y :: ys, hn, h => by
    rw [lexB] at h ⊢
    by_cases e : x = y
    · subst e
      rw [if_pos rfl] at h ⊢
      exact lex_tot t xs ys (fun z => hn (by rw [z])) h
    · rw [if_neg e] at h
      rw [if_neg fun z => e z.symm]
      exact t.tot x y e h
theorem lex_tr {α : Type} [DecidableEq α] {lt : α → α → Bool} (t : Tot lt) : ∀ xs ys zs : List α, lexB lt xs ys = true → lexB lt ys zs = true → lexB lt xs zs = true
  | [], [], _, h, _ => by cases h
  | _ :: _, [], _, h, _ => by cases h
  | _, _ :: _, [], _, h => by cases h
  | [], _ :: _, _ :: _, _, _ => rfl
  | x :: xs, y :: ys, z :: zs, h1, h2 => by
    rw [lexB] at h1 h2 ⊢
    by_cases e : x = y
    · subst e
      rw [if_pos rfl] at h1
      by_cases f : x = z
      · subst f
        rw [if_pos rfl] at h2 ⊢
        exact lex_tr t xs ys zs h1 h2
      · rw [if_neg f] at h2 ⊢
        exact h2
    · rw [if_neg e] at h1
      by_cases f : y = z
      · subst f
        rw [if_neg e]
        exact h1
      · rw [if_neg f] at h2
        have h3 := t.tr x y z h1 h2
        by_cases g : x = z
        · subst g
          rw [t.irr] at h3
          cases h3
        · rw [if_neg g]
          exact h3
theorem Tot.lex {α : Type} [DecidableEq α] {lt : α → α → Bool} (t : Tot lt) : Tot (lexB lt) := ⟨lex_asym t, lex_tot t, lex_tr t⟩
theorem tot_int : Tot (fun i j : Int => decide (i < j)) := by
  refine ⟨fun x y h => ?_, fun x y n h => ?_, fun x y z h1 h2 => ?_⟩
  · have := of_decide_eq_true h
    exact decide_eq_false (by omega)
  · have := of_decide_eq_false h
    exact decide_eq_true (by omega)
  · have := of_decide_eq_true h1
    have := of_decide_eq_true h2
    exact decide_eq_true (by omega)
/-- a value's code -/
def codeV : V → List Int
  | .bl b => [1, if b then 1 else 0]
  | .int i => [2, i]
  | .str z => 3 :: z.cps.toList.map Int.ofNat
  | _ => [0]
abbrev ltC : List Int → List Int → Bool := lexB fun i j => decide (i < j)
abbrev ltR : List (List Int) → List (List Int) → Bool := lexB ltC
theorem swoR : SrtO.Swo ltR := tot_int.lex.lex.swo
theorem ofNat_lt : ∀ l m : List Nat, decide (l < m) = ltC (l.map Int.ofNat) (m.map Int.ofNat)
  | [], [] => by simp [ltC, lexB]
  | [], _ :: _ => by simp [ltC, lexB]
  | _ :: _, [] => by simp [ltC, lexB]
  | x :: l, y :: m => by
    have ih := ofNat_lt l m
    rw [List.map_cons, List.map_cons]
    show _ = if Int.ofNat x = Int.ofNat y then _ else _
    by_cases e : x = y
    · subst e
      rw [if_pos rfl]
      refine Eq.trans ?_ ih
      simp [List.cons_lt_cons_iff]
    · rw [if_neg fun z => e (Int.ofNat.inj z)]
      have h1 : (x :: l < y :: m) ↔ x < y := by
        rw [List.cons_lt_cons_iff]
        exact ⟨fun h => h.elim id fun h => absurd h.1 e, Or.inl⟩
      have h2 : (Int.ofNat x < Int.ofNat y) ↔ x < y := Int.ofNat_lt
      simp only [h1, h2]
theorem code_inj {x y : V} (hx : FlatV x) (hy : FlatV y) (e : codeV x = codeV y) : x = y := by
  cases x <;> first
    | (cases hx; done)
    | (cases y <;> first
        | (cases hy; done)
        | rfl
        | (simp [codeV] at e; done)
        | (rename_i a b; revert e; cases a <;> cases b <;> simp [codeV]; done)
        | (rename_i a b; simp [codeV] at e; rw [e]; done)
        | (rename_i a b
           have h : a.cps.toList.map Int.ofNat = b.cps.toList.map Int.ofNat := by
             injection e
           have h2 : a.cps.toList = b.cps.toList := (List.map_inj_right fun x y z => Int.ofNat.inj z).mp h
           obtain ⟨a⟩ := a
           obtain ⟨b⟩ := b
           have h3 : a = b := Array.toList_inj.mp h2
           rw [h3]))
theorem code_lt {x y : V} (hx : FlatV x) (hy : FlatV y) (ne : x ≠ y) : ltV x y = ltC (codeV x) (codeV y) := by
  cases x <;> first
    | (cases hx; done)
    | (cases y <;> first
        | (cases hy; done)
        | (exact absurd rfl ne)
        | (rename_i a b; revert ne; cases a <;> cases b <;> simp [ltV, codeV, ltC, lexB]; done)
        | (rename_i a b; exact ofNat_lt _ _)
        | (simp [ltV, codeV, ltC, lexB, kRank]; done)
        | (rename_i a b
           have ne' : a ≠ b := fun z => ne (by rw [z])
           simp [ltV, codeV, ltC, lexB, ne']))
theorem rowLt_code : ∀ {xs ys : List V}, (∀ x ∈ xs, FlatV x) → (∀ y ∈ ys, FlatV y) → rowLt xs ys = ltR (xs.map codeV) (ys.map codeV)
  | [], [], _, _ => rfl
  | [], _ :: _, _, _ => rfl
  | _ :: _, [], _, _ => rfl
  | x :: xs, y :: ys, hx, hy => by
    have fx := hx x (List.mem_cons_self ..)
    have fy := hy y (List.mem_cons_self ..)
    rw [List.map_cons, List.map_cons, rowLt]
    show _ = if codeV x = codeV y then _ else _
    by_cases e : x = y
    · subst e
      rw [if_pos rfl, if_pos rfl]
      exact rowLt_code (fun u hu => hx u (List.mem_cons_of_mem _ hu)) fun u hu => hy u (List.mem_cons_of_mem _ hu)
    · rw [if_neg e, if_neg fun z => e (code_inj fx fy z)]
      exact code_lt fx fy e
end G

/-! A dict whose keys are tuples of tuples, as an object of the layer. -/
namespace G
open PySem PySem.W PySem.Calls PySem.Spec PyProof.Rows L2
mutual
def nkD : NestedKey → PyData
  | .none => .none
  | .num i => .int i
  | .text x => .str x
  | .tup ks => .tuple (nkAll ks)
def nkAll : List NestedKey → List PyData
  | [] => []
  | k :: ks => nkD k :: nkAll ks
end
mutual
theorem reads_nested {h : Heap} : ∀ (k : NestedKey) (v : Value) (as : List Addr), Reads h v (nkD k) as → NestedIs h k v
  | .none, v, as, r => by
    rw [nkD] at r
    cases r
    exact .none
  | .num i, v, as, r => by
    rw [nkD] at r
    cases r
    exact .int _ _
  | .text x, v, as, r => by
    rw [nkD] at r
    cases r
    exact .text _ _
  | .tup ks, v, as, r => by
    rw [nkD] at r
    cases r with
    | tuple h1 h2 h3 h4 => exact .tup h1 h2 h3 (reads_nestedAll ks _ _ h4)
theorem reads_nestedAll {h : Heap} : ∀ (ks : List NestedKey) (vs : List Value) (as : List Addr), ReadsAll h vs (nkAll ks) as → NestedAll h ks vs
  | [], vs, as, r => by
    rw [nkAll] at r
    cases r
    exact .nil
  | k :: ks, vs, as, r => by
    rw [nkAll] at r
    cases r with
    | cons r rs => exact .cons (reads_nested k _ _ r) (reads_nestedAll ks _ _ rs)
end
mutual
theorem nk_tup : ∀ k : NestedKey, tupD (nkD k) = true
  | .none => by rw [nkD]; rfl
  | .num _ => by rw [nkD]; rfl
  | .text _ => by rw [nkD]; rfl
  | .tup ks => by
    rw [nkD, tupD]
    exact nk_tups ks
theorem nk_tups : ∀ ks : List NestedKey, tupAll (nkAll ks) = true
  | [] => by rw [nkAll]; rfl
  | k :: ks => by
    rw [nkAll, tupAll, nk_tup k, nk_tups ks]
    rfl
end
/-- what the entries of the dict are -/
def EN (P : Program) (w : World) (K : PySem.W.Frag) (H : Hp) (o : Obj) (kvs : List (NestedKey × V)) (xs : List (NestedKey × Addr × Value)) : Prop :=
  ∃ es ep, o.ExactDict ∧ o.data = .dict es ep ∧ es.toList = xs.map (entryOfKey (nestedKind P w)) ∧ (xs.map (·.1)).Nodup ∧ Paired (fun (p : NestedKey × V) (q : NestedKey × Addr × Value) => p.1 = q.1 ∧ RelV p.2 q.2.2) kvs xs ∧ ∀ x ∈ xs, Dp K H (.ref x.2.1) (nkD x.1) ∧ x.1.depth ≤ 8
/-- the dict at d -/
def DN (P : Program) (w : World) (K : PySem.W.Frag) (H : Hp) (d : Addr) (kvs : List (NestedKey × V)) : Prop := ∃ o xs, H d = some (EO d o) ∧ (d == sysModules) = false ∧ EN P w K H o kvs xs
theorem EN.tk {P : Program} {w : World} {K : PySem.W.Frag} {H H' : Hp} {o : Obj} {kvs : List (NestedKey × V)} {xs : List (NestedKey × Addr × Value)} (h : EN P w K H o kvs xs) (t : Tk H H') : EN P w K H' o kvs xs := by
  obtain ⟨es, ep, h1, h2, h3, h4, h5, h6⟩ := h
  exact ⟨es, ep, h1, h2, h3, h4, h5, fun x hx => ⟨Dp.tk t _ _ (nk_tup _) (h6 x hx).1, (h6 x hx).2⟩⟩
theorem DN.tk {P : Program} {w : World} {K : PySem.W.Frag} {H H' : Hp} {d : Addr} {kvs : List (NestedKey × V)} (h : DN P w K H d kvs) (t : Tk H H') (e : H' d = H d) : DN P w K H' d kvs := by
  obtain ⟨o, xs, h1, h2, h3⟩ := h
  exact ⟨o, xs, e.trans h1, h2, h3.tk t⟩
theorem DN.same {P : Program} {w : World} {K : PySem.W.Frag} {H H' : Hp} {d : Addr} {kvs : List (NestedKey × V)} (h : DN P w K H d kvs) (t : Same H H') : DN P w K H' d kvs := by
  obtain ⟨o, xs, h1, h2, h3⟩ := h
  exact ⟨o, xs, t _ _ h1, h2, h3.tk (Tk.same t)⟩
section
variable {X : Cx} {pins : List (Addr × Obj)} {σ : L2.St} {H : Hp} {s : Shared}
theorem key_is (I : Inv X pins σ H s) {b : Addr} {k : NestedKey} (h : Dp X.K H (.ref b) (nkD k)) (hd : k.depth ≤ 8) : (nestedKind X.prog X.w).is s.heap k b := by
  obtain ⟨as, r⟩ := Dp.reads I _ _ (Value.ref b) h rfl
  exact ⟨reads_nested k _ as r, hd⟩
theorem EN.dict (I : Inv X pins σ H s) {d : Addr} {o : Obj} {kvs : List (NestedKey × V)} {xs : List (NestedKey × Addr × Value)} (ho : s.heap.get? d = some o) (h : EN X.prog X.w X.K H o kvs xs) : s.heap.DictOfH (nestedKind X.prog X.w) d xs := by
  obtain ⟨es, ep, h1, h2, h3, h4, h5, h6⟩ := h
  exact ⟨o, es, ep, ho, h1, h2, h3, fun x hx => key_is I (h6 x hx).1 (h6 x hx).2, h4⟩
theorem DN.heap (I : Inv X pins σ H s) {d : Addr} {kvs : List (NestedKey × V)} (h : DN X.prog X.w X.K H d kvs) : ∃ o xs, H d = some (EO d o) ∧ s.heap.get? d = some o ∧ (d == sysModules) = false ∧ EN X.prog X.w X.K H o kvs xs ∧ s.heap.DictOfH (nestedKind X.prog X.w) d xs := by
  obtain ⟨o, xs, h1, h2, h3⟩ := h
  have ho : s.heap.get? d = some o := (I.hok d _ h1).1
  exact ⟨o, xs, h1, ho, h2, h3, h3.dict I ho⟩
def tDNewN (P : Program) (w : World) (K : PySem.W.Frag) : TE := fun _ H Q => ∀ p H', H p = none → (∀ b, b ≠ p → H' b = H b) → DN P w K H' p [] → Q (.ref p) H'
/-- {} -/
theorem pe_dnewN {pos : Pos} : PE X (.Dict [] [] pos) (tDNewN X.prog X.w X.K) := ⟨fun pins s σ H Q I h => by
  have hp : H s.heap.objs.size = none := I.hok.fresh (Nat.le_refl _)
  have ho : (s.heap.push { cls := .type "dict", data := .dict #[] }).get? s.heap.objs.size = some { cls := .type "dict", data := .dict #[] } := Heap.get?_push_size _ rfl
  refine wpAny_Dict_empty ⟨.ref s.heap.objs.size, upd H s.heap.objs.size (EO s.heap.objs.size { cls := .type "dict", data := .dict #[] }), I.laid (a := s.heap.objs.size) (t' := s.toks) (fun _ _ q => Heap.get?_push_of_some _ q) (Nat.le_refl _) ⟨ho, ⟨_, ho⟩, fun h1 h2 p k => k _ p⟩, rfl, h _ _ hp (fun b hb => upd_ne hb) ⟨_, [], upd_same, ?_, ?_⟩⟩
  · have := I.big
    exact beq_eq_false_iff_ne.mpr (Nat.ne_of_gt this)
  · exact ⟨#[], 0, ⟨rfl, rfl, rfl⟩, rfl, rfl, List.nodup_nil, .nil, fun x hx => by simp at hx⟩⟩
end
end G

namespace G
open PySem PySem.W PySem.Calls PySem.Spec PyProof.Rows L2
def lookN : List (NestedKey × V) → NestedKey → Option V
  | [], _ => none
  | p :: r, k => if p.1 = k then some p.2 else lookN r k
theorem look_rel {k : NestedKey} : ∀ {kvs : List (NestedKey × V)} {xs : List (NestedKey × Addr × Value)}, Paired (fun (p : NestedKey × V) (q : NestedKey × Addr × Value) => p.1 = q.1 ∧ RelV p.2 q.2.2) kvs xs → ∀ {z : V} {zv : Value}, RelV z zv →
    RelV ((lookN kvs k).getD z) (((atKey xs k).map (·.2)).getD zv)
  | [], [], .nil, z, zv, r => r
  | p :: kvs, q :: xs, .cons h t, z, zv, r => by
    have ih := look_rel (k := k) t r
    rw [lookN]
    by_cases e : p.1 = k
    · rw [if_pos e]
      have e2 : q.1 = k := h.1.symm.trans e
      have : (atKey (q :: xs) k) = some q.2 := by simp [atKey, e2]
      rw [this]
      exact h.2
    · rw [if_neg e]
      have e2 : ¬ q.1 = k := fun z => e (h.1.trans z)
      have : (atKey (q :: xs) k) = atKey xs k := by simp [atKey, e2]
      rw [this]
      exact ih
def tDGetN (P : Program) (w : World) (K : PySem.W.Frag) (td ty tx : TE) : TE := fun σ H Q => td σ H fun x H1 => ∃ a, x = .ref a ∧ (∃ kvs, DN P w K H1 a kvs) ∧ ty σ H1 fun y H2 => tx σ H2 fun z H3 => ∃ b k kvs, y = .ref b ∧ DN P w K H3 a kvs ∧ Dp K H3 (.ref b) (nkD k) ∧ k.depth ≤ 8 ∧ Q ((lookN kvs k).getD z) H3
section
variable {X : Cx} {o e f : Expr} {apos cpos : Pos} {td ty tx : TE}
theorem pe_dgetN (hu : X.A.units + 20 < cLine) (ho : PE X o td) (he : PE X e ty) (hf : PE X f tx) (m : M2 X o "get" apos e f cpos) : PE X (.Call (.Attribute o "get" apos) [e, f] [] cpos) (tDGetN X.prog X.w X.K td ty tx) := by
  refine ⟨fun pins s σ H Q I h => ?_⟩
  refine wpAny_Call_method m.base m.few m.line PySem.F.plainAttrs_dict PySem.F.slot_dict_get PySem.F.type_dict_get (thn (ho.run pins s σ H _ I h) fun u s1 ⟨x, H1, I1, rx, a, ex, d, q1⟩ => ?_)
  subst ex
  obtain rfl : u = Value.ref a := rx
  obtain ⟨kvs0, d⟩ := d
  obtain ⟨ob, xs0, _, hob, _, ⟨es, ep, hex, _⟩, hdo⟩ := d.heap I1
  refine ⟨hdo.typeIs, fun a' e => ⟨ob, by cases e; exact hob, hex.2.1⟩, ?_⟩
  rw [m.trees]
  refine Calls.callWith_builtin rfl (Calls.evalArgs_plain (Calls.spliced_cons (thn (he.run pins s1 σ H1 _ I1 q1) fun iv s2 ⟨y, H2, I2, ry, q2⟩ =>
    Calls.spliced_cons (thn (hf.run pins s2 σ H2 _ I2 q2) fun fv s3 ⟨z, H3, I3, rz, b, k, kvs, ey, d3, dk, hd, q3⟩ => Calls.spliced_nil ?_))))
  subst ey
  obtain rfl : iv = Value.ref b := ry
  obtain ⟨ob3, xs, _, _, hsm, hen, hdo3⟩ := d3.heap I3
  obtain ⟨_, _, _, _, _, _, hp, _⟩ := hen
  refine getOr_keyed (knd := nestedKind X.prog X.w) (k := k) (kvs := pairsH xs) (by show X.A.units + 1 + 8 < cLine; omega) (key_is I3 dk hd) hsm ⟨xs, hdo3, rfl⟩ ?_
  rw [valueAt_pairsH]
  exact ⟨_, H3, I3.tok _, look_rel hp rz, q3⟩
end
end G

namespace G
open PySem PySem.W PySem.Calls PySem.Spec PyProof.Rows L2
def putN (kvs : List (NestedKey × V)) (k : NestedKey) (v : V) : List (NestedKey × V) := if (lookN kvs k).isSome then kvs.map (fun p => if p.1 = k then (p.1, v) else p) else kvs ++ [(k, v)]
theorem look_some {k : NestedKey} : ∀ {kvs : List (NestedKey × V)} {xs : List (NestedKey × Addr × Value)}, Paired (fun (p : NestedKey × V) (q : NestedKey × Addr × Value) => p.1 = q.1 ∧ RelV p.2 q.2.2) kvs xs → (lookN kvs k).isSome = (atKey xs k).isSome
  | [], [], .nil => rfl
  | p :: kvs, q :: xs, .cons h t => by
    have ih := look_some (k := k) t
    rw [lookN]
    by_cases e : p.1 = k
    · rw [if_pos e]
      have e2 : q.1 = k := h.1.symm.trans e
      have : (atKey (q :: xs) k) = some q.2 := by simp [atKey, e2]
      rw [this]
      rfl
    · rw [if_neg e]
      have e2 : ¬ q.1 = k := fun z => e (h.1.trans z)
      have : (atKey (q :: xs) k) = atKey xs k := by simp [atKey, e2]
      rw [this]
      exact ih
theorem paired_app {α β : Type} {F : α → β → Prop} : ∀ {l₁ : List α} {l₂ : List β} {m₁ : List α} {m₂ : List β}, Paired F l₁ l₂ → Paired F m₁ m₂ → Paired F (l₁ ++ m₁) (l₂ ++ m₂)
  | _, _, _, _, .nil, h => h
  | _, _, _, _, .cons r t, h => .cons r (paired_app t h)
theorem map_rel {k : NestedKey} {v : V} {u : Value} (r : RelV v u) : ∀ {kvs : List (NestedKey × V)} {xs : List (NestedKey × Addr × Value)}, Paired (fun (p : NestedKey × V) (q : NestedKey × Addr × Value) => p.1 = q.1 ∧ RelV p.2 q.2.2) kvs xs →
    Paired (fun (p : NestedKey × V) (q : NestedKey × Addr × Value) => p.1 = q.1 ∧ RelV p.2 q.2.2) (kvs.map fun p => if p.1 = k then (p.1, v) else p) (xs.map (putAt k u))
  | _, _, .nil => .nil
  | _, _, @Paired.cons _ _ _ p q _ _ e t => by
    refine .cons ?_ (map_rel r t)
    unfold putAt
    dsimp only
    by_cases e1 : p.1 = k
    · rw [if_pos e1, if_pos (e.1.symm.trans e1)]
      exact ⟨e.1, r⟩
    · rw [if_neg e1, if_neg fun z => e1 (e.1.trans z)]
      exact e
theorem put_rel {k : NestedKey} {v : V} {u : Value} {b : Addr} (r : RelV v u) {kvs : List (NestedKey × V)} {xs : List (NestedKey × Addr × Value)} (h : Paired (fun (p : NestedKey × V) (q : NestedKey × Addr × Value) => p.1 = q.1 ∧ RelV p.2 q.2.2) kvs xs) :
    Paired (fun (p : NestedKey × V) (q : NestedKey × Addr × Value) => p.1 = q.1 ∧ RelV p.2 q.2.2) (putN kvs k v) (storedH xs k b u) := by
  unfold putN storedH
  rw [look_some h]
  split
  · exact map_rel r h
  · exact paired_app h (.cons ⟨rfl, r⟩ .nil)
theorem put_len (kvs : List (NestedKey × V)) (k : NestedKey) (v : V) : (putN kvs k v).length ≤ kvs.length + 1 := by
  unfold putN
  split
  · rw [List.length_map]; omega
  · rw [List.length_append]; exact Nat.le_refl _
theorem stored_keys {K : Type} [DecidableEq K] {xs : List (K × Addr × Value)} {k : K} {b : Addr} {u : Value} : ∀ x ∈ storedH xs k b u, (∃ y ∈ xs, y.1 = x.1 ∧ y.2.1 = x.2.1) ∨ (x.1 = k ∧ x.2.1 = b) := by
  intro x hx
  unfold storedH at hx
  split at hx
  · obtain ⟨y, hy, rfl⟩ := List.mem_map.mp hx
    refine .inl ⟨y, hy, ?_⟩
    unfold putAt
    split <;> exact ⟨rfl, rfl⟩
  · rcases List.mem_append.mp hx with h | h
    · exact .inl ⟨x, h, rfl, rfl⟩
    · rw [List.mem_singleton.mp h]
      exact .inr ⟨rfl, rfl⟩
def rSetN (P : Program) (w : World) (K : PySem.W.Frag) : V → V → V → Hp → (Hp → Prop) → Prop := fun o i v H Q => ∃ a b k kvs, o = .ref a ∧ i = .ref b ∧ DN P w K H a kvs ∧ Dp K H (.ref b) (nkD k) ∧ k.depth ≤ 8 ∧ kvs.length < sizeLine ∧
  ∀ H', (∀ c, c ≠ a → H' c = H c) → DN P w K H' a (putN kvs k v) → Q H'
section
variable {X : Cx}
theorem set_dictN (hu : X.A.units + 20 < cLine) : PSet X (rSetN X.prog X.w X.K) := by
  intro pins s σ H o i v ov iv u Q I ro ri rv h
  obtain ⟨a, b, k, kvs, rfl, rfl, d, dk, hd, hz, q⟩ := h
  cases ro
  cases ri
  obtain ⟨ob, xs, hH, hob, hsm, hen, hdo⟩ := d.heap I
  obtain ⟨es, ep, h1, h2, h3, h4, h5, h6⟩ := hen
  have lx : kvs.length = xs.length := Paired.length h5
  refine wpAny_setItem_heap (knd := nestedKind X.prog X.w) (hsz := by omega) (by show X.A.units + 1 + 8 < cLine; omega) (key_is I dk hd) hdo fun h' hm' hs => ?_
  obtain ⟨o', es', ep', ho', hex', hd', he', his', hn'⟩ := hm'
  have tk : Tk H (upd H a (EO a o')) := fun c w f e => by
    have hc : c ≠ a := fun z => by
      subst z
      rw [hH] at e
      cases e
      cases f
    rw [upd_ne hc]
    exact e
  refine ⟨upd H a (EO a o'), I.write (x := a) (e := a) (by rw [hH]; exact trivial) (.inl rfl) (fun c w hc e => (hs.2 c hc).trans e) ⟨_, ho'⟩ ⟨ho', ⟨_, ho'⟩, fun h1 h2 p k => k _ p⟩, q _ (fun c hc => upd_ne hc) ⟨o', storedH xs k b u, upd_same, hsm, es', ep', hex', hd', he', hn', put_rel rv h5, fun x hx => ?_⟩⟩
  rcases stored_keys x hx with ⟨y, hy, e1, e2⟩ | ⟨e1, e2⟩
  · rw [← e1, ← e2]
    exact ⟨Dp.tk tk _ _ (nk_tup _) (h6 y hy).1, (h6 y hy).2⟩
  · rw [e1, e2]
    exact ⟨Dp.tk tk _ _ (nk_tup _) dk, hd⟩
end
end G

/-! == of two dicts with nested tuple keys. -/
namespace G
open PySem PySem.W PySem.Calls PySem.Spec PyProof.Rows L2
section
variable {prog : Program} {w : World} {A : Around} {E : Value → Shared → Prop} {s : Shared} {K : Type} [DecidableEq K] {knd : HeapKind prog w K}
def hitN (q : Value → Value → Bool) (xb : List (K × Addr × Value)) (x : K × Addr × Value) : Bool := match atKey xb x.1 with
  | some p => q x.2.2 p.2
  | none => false
theorem samePairsN {nm : String} {a b : Addr} {xa xb : List (K × Addr × Value)} {q : Value → Value → Bool} {Q : Bool → Shared → Prop} (hu : knd.room A) (ha : (a == sysModules) = false) (hb : (b == sysModules) = false)
    (da : s.heap.DictOfH knd a xa) (db : s.heap.DictOfH knd b xb) (hq : ∀ x ∈ xa, ∀ y ∈ xb, SeqAt.EqAt A s x.2.2 y.2.2 (q x.2.2 y.2.2)) (h : Q (xa.length == xb.length && xa.all (hitN q xb)) s) :
    wpAny (model prog w) A (Builtin.Dict.samePairs nm a b) Q E s := by
  obtain ⟨oa, es, ep, hoa, _, hda, hka, hia, hna⟩ := da
  obtain ⟨ob, es', ep', hob, _, hdb, hkb, hib, hnb⟩ := db
  have hla : xa.length = es.size := (size_of_entries hka).symm
  have hlb : xb.length = es'.size := (size_of_entries hkb).symm
  rw [hla, hlb] at h
  unfold Builtin.Dict.samePairs Builtin.Dict.showsAll
  rw [if_neg (show ¬ (a == sysModules) = true by rw [ha]; exact Bool.false_ne_true), if_neg (show ¬ (b == sysModules) = true by rw [hb]; exact Bool.false_ne_true)]
  refine wpAny_bind (wpAny_pure (wpAny_bind (wpAny_pure ?_)))
  refine wpAny_bind (wpAny_dictEntries hoa hda ?_)
  dsimp only
  refine wpAny_bind (wpAny_dictEntries hob hdb ?_)
  by_cases hsz : es.size = es'.size
  case neg =>
    rw [if_pos (by simpa using hsz)]
    have hbf : (es.size == es'.size) = false := by simpa using hsz
    rw [hbf, Bool.false_and] at h
    exact wpAny_bind (wpAny_rule (wpAny_pure h))
  case pos =>
    have h' : Q (xa.all (hitN q xb)) s := by simpa [hsz] using h
    rw [if_neg (by rw [hsz]; simp)]
    refine wpAny_bind (wpAny_dictEpoch hoa hda ?_)
    refine wpAny_bind ?_
    rw [Std.Legacy.Range.forIn_eq_forIn_range']
    simp only [Std.Legacy.Range.size, Nat.sub_zero, Nat.add_sub_cancel, Nat.div_one]
    refine wpAny_forIn_list _
      (fun rest z s' => s' = s ∧ z = (none, ()) ∧ ∃ i, rest = List.range' i (es.size - i) ∧ i ≤ es.size ∧ (xa.drop i).all (hitN q xb) = xa.all (hitN q xb))
      _ ?_ ?_ _ _ ⟨rfl, rfl, 0, by simp, Nat.zero_le _, rfl⟩
    · rintro x rest z s' ⟨rfl, rfl, i, hr, hi, hpre⟩
      have hlt : i < es.size := by
        rcases Nat.lt_or_ge i es.size with h | h
        · exact h
        · rw [Nat.sub_eq_zero_of_le h] at hr; simp at hr
      obtain ⟨rfl, hrest⟩ : x = i ∧ rest = List.range' (i + 1) (es.size - (i + 1)) := by
        have e : es.size - i = (es.size - (i + 1)) + 1 := by omega
        rw [e, List.range'_succ] at hr
        injection hr with h1 h2
        exact ⟨h1, h2⟩
      refine wpAny_bind (wpAny_dictEntries hoa hda ?_)
      rw [Array.getElem?_eq_getElem hlt]
      have hlt' : x < xa.length := by rw [hla]; exact hlt
      have hdrop : xa.drop x = xa[x] :: xa.drop (x + 1) := List.drop_eq_getElem_cons hlt'
      have hex : es[x] = entryOfKey knd xa[x] := by
        have := entry_at hka x
        rw [Array.getElem?_eq_getElem hlt, List.getElem?_eq_getElem hlt'] at this
        exact Option.some.inj this
      have hmx : xa[x] ∈ xa := List.getElem_mem _
      rw [hdrop, List.all_cons] at hpre
      show wpAny _ _ (holding [es[x].key, es[x].val] _ >>= _) _ _ _
      rw [hex]
      refine wpAny_bind (wpAny_holding (wpAny_bind (wpAny_dictFind_heap (a := xa[x].2.1) (k := xa[x].1) hu (hia _ hmx) hob hdb hkb hib hnb (fun hn => ?_) (fun j p hj => ?_))))
      · have hn' : atKey xb xa[x].1 = none := by
          unfold atKey
          rw [List.find?_eq_none.mpr fun y hy => ?_]
          · rfl
          · intro e
            obtain ⟨j, hj⟩ := List.mem_iff_getElem?.mp hy
            refine hn j y.2 ?_
            rw [hj, ← of_decide_eq_true e]
        have hf : hitN q xb xa[x] = false := by unfold hitN; rw [hn']
        rw [hf, Bool.false_and] at hpre
        rw [← hpre] at h'
        refine wpAny_pure ?_
        show wpAny _ _ (if (!false) = true then _ else _) _ _ _
        rw [if_pos (by decide)]
        exact wpAny_pure (wpAny_pure h')
      · have hjl : j < xb.length := (List.getElem?_eq_some_iff.mp hj).1
        have hjlt : j < es'.size := by rw [← hlb]; exact hjl
        have hmy : (xa[x].1, p) ∈ xb := List.mem_of_getElem? hj
        have hk' : atKey xb xa[x].1 = some p := by
          unfold atKey
          cases hf : xb.find? (fun y => decide (y.1 = xa[x].1)) with
          | none => exact absurd (decide_eq_true rfl) (List.find?_eq_none.mp hf (xa[x].1, p) hmy)
          | some y =>
            have h1 := List.find?_some hf
            obtain ⟨j', hj'⟩ := List.mem_iff_getElem?.mp (List.mem_of_find?_eq_some hf)
            have e1 : y.1 = xa[x].1 := of_decide_eq_true h1
            have hj2 : xb[j']? = some (xa[x].1, y.2) := by rw [hj', ← e1]
            have ej := idxH_unique hnb hj hj2
            subst ej
            rw [hj] at hj2
            have := (Prod.mk.inj (Option.some.inj hj2)).2
            rw [this]
            rfl
        have hey : es'[j] = entryOfKey knd (xa[x].1, p) := by
          have := entry_at hkb j
          rw [Array.getElem?_eq_getElem hjlt, hj] at this
          exact Option.some.inj this
        have hf : hitN q xb xa[x] = q xa[x].2.2 p.2 := by unfold hitN; rw [hk']
        rw [hf] at hpre
        refine wpAny_bind (wpAny_dictEntries hob hdb ?_)
        rw [Array.getElem?_eq_getElem hjlt]
        have he := hq _ hmx _ hmy
        refine wpAny_holding ?_
        show wpAny _ _ (eqBool (entryOfKey knd xa[x]).val es'[j].val) _ _ _
        rw [hey]
        refine he prog w _ _ ?_
        cases e : q xa[x].2.2 p.2 with
        | false =>
          rw [e, Bool.false_and] at hpre
          rw [← hpre] at h'
          show wpAny _ _ (if (!false) = true then _ else _) _ _ _
          rw [if_pos (by decide)]
          exact wpAny_pure (wpAny_pure h')
        | true =>
          rw [e, Bool.true_and] at hpre
          show wpAny _ _ (if (!true) = true then _ else _) _ _ _
          rw [if_neg (by decide)]
          refine wpAny_bind (wpAny_dictEpoch hoa hda ?_)
          rw [if_neg (by simp)]
          exact wpAny_pure ⟨rfl, rfl, x + 1, hrest, hlt, hpre⟩
    · rintro z s' ⟨rfl, rfl, i, hr, hi, hpre⟩
      have hin : i = es.size := by
        rcases Nat.lt_or_ge i es.size with h | h
        · have e : es.size - i = (es.size - (i + 1)) + 1 := by omega
          rw [e, List.range'_succ] at hr; exact nomatch hr
        · exact Nat.le_antisymm hi h
      refine wpAny_pure ?_
      rw [hin, ← hla, List.drop_length] at hpre
      rw [← hpre] at h'
      exact h'
theorem rcN_dicts {a b : Addr} {xa xb : List (K × Addr × Value)} {q : Value → Value → Bool} (hu0 : A.units < cLine) (hu : knd.room A.in1) (ha : (a == sysModules) = false) (hb : (b == sysModules) = false)
    (da : s.heap.DictOfH knd a xa) (db : s.heap.DictOfH knd b xb) (hq : ∀ x ∈ xa, ∀ y ∈ xb, SeqAt.EqAt A.in1 s x.2.2 y.2.2 (q x.2.2 y.2.2)) (Q : Value → Shared → Prop) (h : Q (.bool (xa.length == xb.length && xa.all (hitN q xb))) s) : wpAny (model prog w) A (richCompare .Eq (.ref a) (.ref b)) Q E s := by
  refine wpAny_richCompare_same_room (op := .Eq) da.typeIs db.typeIs PySem.F.slot_dict_eq (wpAny_call_entry PySem.F.slot_dict_eq da.typeIs PySem.F.entry_dict_eq ?_ (PySem.F.args_dict_eq_2 _ _)) hu0
  show wpAny _ _ (Builtin.Dict.dictSlotArgs "__eq__" ⟨[.ref a, .ref b], []⟩ >>= _) _ _ s
  refine wpAny_bind ?_
  unfold Builtin.Dict.dictSlotArgs
  refine wpAny_bind (wpAny_notOrdered_dict da.typeIs ?_)
  show wpAny _ _ (pure (Value.ref a, Value.ref b)) _ _ s
  refine wpAny_pure ?_
  refine wpAny_bind (wpAny_isInstance (T := "dict") db.typeIs PySem.F.sub_dict_dict ?_)
  simp only [Bool.not_true, Bool.false_eq_true, if_false]
  refine wpAny_bind (wpAny_pure (wpAny_bind (wpAny_pure ?_)))
  refine wpAny_bind (samePairsN hu ha hb da db hq ?_)
  refine wpAny_pure ⟨_, rfl, ?_, ?_⟩
  · exact fun x => nomatch x
  · simpa using h
end
end G

namespace G
open PySem PySem.W PySem.Calls PySem.Spec PyProof.Rows L2
def qI : Value → Value → Bool
  | .int i _, .int j _ => i == j
  | _, _ => false
def hitV (kb : List (NestedKey × V)) (p : NestedKey × V) : Bool := match lookN kb p.1 with
  | some v => decide (p.2 = v)
  | none => false
/-- == of two dicts with whole numbers under nested keys -/
def rEqN (P : Program) (w : World) (K : PySem.W.Frag) : R2 := fun x y H Q => ∃ a b ka kb, x = .ref a ∧ y = .ref b ∧ DN P w K H a ka ∧ DN P w K H b kb ∧ (∀ p ∈ ka, ∃ i, p.2 = .int i) ∧ (∀ p ∈ kb, ∃ i, p.2 = .int i) ∧ Q (.bl (ka.length == kb.length && ka.all (hitV kb))) H
abbrev RelN : NestedKey × V → NestedKey × Addr × Value → Prop := fun p q => p.1 = q.1 ∧ RelV p.2 q.2.2
theorem look_at {k : NestedKey} : ∀ {kb : List (NestedKey × V)} {xb : List (NestedKey × Addr × Value)}, Paired RelN kb xb → (lookN kb k = none ∧ atKey xb k = none) ∨ ∃ v p, lookN kb k = some v ∧ atKey xb k = some p ∧ RelV v p.2 ∧ (k, v) ∈ kb
  | [], [], .nil => .inl ⟨rfl, rfl⟩
  | p :: kb, q :: xb, .cons h t => by
    by_cases e : p.1 = k
    · have e2 : q.1 = k := h.1.symm.trans e
      have h1 : (atKey (q :: xb) k) = some q.2 := by simp [atKey, e2]
      refine .inr ⟨p.2, q.2, by rw [lookN, if_pos e], h1, h.2, ?_⟩
      rw [← e]
      exact List.mem_cons_self ..
    · have e2 : ¬ q.1 = k := fun z => e (h.1.trans z)
      have h1 : (atKey (q :: xb) k) = atKey xb k := by simp [atKey, e2]
      rw [h1, lookN, if_neg e]
      rcases look_at (k := k) t with h | ⟨v, r, a1, a2, a3, a4⟩
      · exact .inl h
      · exact .inr ⟨v, r, a1, a2, a3, List.mem_cons_of_mem _ a4⟩
theorem hit_rel {kb : List (NestedKey × V)} {xb : List (NestedKey × Addr × Value)} (hb : Paired RelN kb xb) (hib : ∀ p ∈ kb, ∃ i, p.2 = .int i) : ∀ {ka : List (NestedKey × V)} {xa : List (NestedKey × Addr × Value)}, Paired RelN ka xa → (∀ p ∈ ka, ∃ i, p.2 = .int i) → xa.all (hitN qI xb) = ka.all (hitV kb)
  | [], [], .nil, _ => rfl
  | p :: ka, x :: xa, .cons h t, hi => by
    rw [List.all_cons, List.all_cons, hit_rel hb hib t fun u hu => hi u (List.mem_cons_of_mem _ hu)]
    have e : hitN qI xb x = hitV kb p := by
      unfold hitN hitV
      rw [← h.1]
      obtain ⟨i, hpi⟩ := hi p (List.mem_cons_self ..)
      rcases look_at (k := p.1) hb with ⟨h1, h2⟩ | ⟨v, r, h1, h2, h3, h4⟩
      · rw [h1, h2]
      · rw [h1, h2]
        obtain ⟨j, hj⟩ := hib _ h4
        have hj' : v = .int j := hj
        have hr := h.2
        rw [hpi] at hr
        rw [hj'] at h3
        obtain ⟨t1, e1⟩ := hr
        obtain ⟨t2, e2⟩ := h3
        show qI x.2.2 r.2 = decide (p.2 = v)
        rw [e1, e2, hpi, hj']
        show (i == j) = _
        by_cases z : i = j
        · rw [z, decide_eq_true rfl]
          simp
        · rw [decide_eq_false fun y => z (V.int.inj y)]
          simpa using z
    rw [e]
section
variable {X : Cx}
theorem o_eqN (hu : X.A.units + 20 < cLine) : OpR X (compareOp .Eq) (rEqN X.prog X.w X.K) := by
  intro pins s σ H x y v u Q I rx ry h
  obtain ⟨a, b, ka, kb, rfl, rfl, da, db, hia, hib, q⟩ := h
  cases rx
  cases ry
  obtain ⟨oa, xa, _, _, sa, ena, dha⟩ := da.heap I
  obtain ⟨ob, xb, _, _, sb, enb, dhb⟩ := db.heap I
  obtain ⟨_, _, _, _, _, _, pa, _⟩ := ena
  obtain ⟨_, _, _, _, _, _, pb, _⟩ := enb
  have isI : ∀ {ks : List (NestedKey × V)} {xs : List (NestedKey × Addr × Value)}, Paired RelN ks xs → (∀ p ∈ ks, ∃ i, p.2 = .int i) → ∀ x ∈ xs, ∃ i t, x.2.2 = .int i t := by
    intro ks xs hp hi x hx
    obtain ⟨j, hj⟩ := List.mem_iff_getElem?.mp hx
    have hl : ks.length = xs.length := Paired.length hp
    have hjl : j < ks.length := by have := (List.getElem?_eq_some_iff.mp hj).1; omega
    obtain ⟨y, e, r⟩ := LiI.paired_get hp (List.getElem?_eq_getElem hjl)
    rw [hj] at e
    cases e
    obtain ⟨i, hi⟩ := hi _ (List.getElem_mem hjl)
    have hr := r.2
    rw [hi] at hr
    obtain ⟨t, e⟩ := hr
    exact ⟨i, t, e⟩
  refine rcN_dicts (q := qI) (by omega) (by show X.A.units + 1 + 8 < cLine; omega) sa sb dha dhb (fun x hx y hy => ?_) _ ?_
  · obtain ⟨i, t, e1⟩ := isI pa hia x hx
    obtain ⟨j, t', e2⟩ := isI pb hib y hy
    rw [e1, e2]
    exact SeqAt.EqAt.int_int i t j t'
  · have l1 : ka.length = xa.length := Paired.length pa
    have l2 : kb.length = xb.length := Paired.length pb
    rw [hit_rel pb hib pa hia, ← l1, ← l2]
    exact ⟨.bl _, H, I, rfl, q⟩
end
theorem _root_.L2.Room.units20 {k : Nat} {A : Around} (r : Room k A) : A.units + 20 < cLine := by
  have := r.un
  omega
end G

/-! A row's key as a key of a dict; the tally of rows. -/
namespace G
open PySem PySem.Spec PyProof.Rows L2
def nkC : V → NestedKey
  | .bl b => .num (if b then 1 else 0)
  | .int i => .num i
  | .str z => .text z
  | _ => .num 0
def nkV (v : V) : NestedKey := .tup [.num (kRank v), nkC v]
def nkRow (xs : List V) : NestedKey := .tup (xs.map nkV)
theorem nkD_v (v : V) : nkD (nkV v) = keyD v := by
  unfold nkV keyD
  rw [nkD, nkAll, nkAll, nkAll, nkD]
  have : nkD (nkC v) = kCont v := by
    cases v <;> simp [nkC, kCont, nkD]
  rw [this]
theorem nkD_row (xs : List V) : nkD (nkRow xs) = .tuple (xs.map keyD) := by
  unfold nkRow
  rw [nkD]
  have : nkAll (xs.map nkV) = xs.map keyD := by
    induction xs with
    | nil => rw [List.map_nil, nkAll]; rfl
    | cons x xs ih => rw [List.map_cons, nkAll, nkD_v, ih]; rfl
  rw [this]
theorem nk_depth (xs : List V) : (nkRow xs).depth ≤ 8 := by
  have hv : ∀ v, (nkV v).depth ≤ 1 := fun v => by
    cases v <;> simp [nkV, nkC, NestedKey.depth, NestedKey.depthAll]
  have : ∀ l : List V, NestedKey.depthAll (l.map nkV) ≤ 1 := by
    intro l
    induction l with
    | nil => simp [NestedKey.depthAll]
    | cons x l ih =>
      rw [List.map_cons, NestedKey.depthAll]
      have := hv x
      omega
  unfold nkRow
  rw [NestedKey.depth]
  have := this xs
  omega
/-- one row more -/
def tally1 (kvs : List (NestedKey × V)) (xs : List V) : List (NestedKey × V) := putN kvs (nkRow xs) (match (lookN kvs (nkRow xs)).getD (.int 0) with | .int i => .int (i + 1) | v => v)
def tallyL (xss : List (List V)) : List (NestedKey × V) := xss.foldl tally1 []
/-- whole numbers stand there -/
def IntsN (kvs : List (NestedKey × V)) : Prop := ∀ p ∈ kvs, ∃ i, p.2 = .int i
theorem look_mem {k : NestedKey} {v : V} : ∀ {kvs : List (NestedKey × V)}, lookN kvs k = some v → (k, v) ∈ kvs
  | [], h => by cases h
  | p :: r, h => by
    rw [lookN] at h
    by_cases e : p.1 = k
    · rw [if_pos e] at h
      have e2 := Option.some.inj h
      rw [← e, ← e2]
      exact List.mem_cons_self ..
    · rw [if_neg e] at h
      exact List.mem_cons_of_mem _ (look_mem h)
theorem look_int {kvs : List (NestedKey × V)} (h : IntsN kvs) (k : NestedKey) : ∃ i, (lookN kvs k).getD (.int 0) = .int i := by
  cases e : lookN kvs k with
  | none => exact ⟨0, rfl⟩
  | some v =>
    obtain ⟨i, hi⟩ := h _ (look_mem e)
    exact ⟨i, hi⟩
theorem put_ints {kvs : List (NestedKey × V)} (h : IntsN kvs) (k : NestedKey) (i : Int) : IntsN (putN kvs k (.int i)) := by
  intro p hp
  unfold putN at hp
  split at hp
  · obtain ⟨y, hy, rfl⟩ := List.mem_map.mp hp
    split
    · exact ⟨i, rfl⟩
    · exact h y hy
  · rcases List.mem_append.mp hp with z | z
    · exact h p z
    · rw [List.mem_singleton.mp z]
      exact ⟨i, rfl⟩
theorem tally1_int {kvs : List (NestedKey × V)} (h : IntsN kvs) (xs : List V) : ∃ i, (lookN kvs (nkRow xs)).getD (.int 0) = .int i ∧ tally1 kvs xs = putN kvs (nkRow xs) (.int (i + 1)) := by
  obtain ⟨i, hi⟩ := look_int h (nkRow xs)
  refine ⟨i, hi, ?_⟩
  unfold tally1
  rw [hi]
theorem tallyL_snoc (xss : List (List V)) (xs : List V) : tallyL (xss ++ [xs]) = tally1 (tallyL xss) xs := by
  unfold tallyL
  rw [List.foldl_append]
  rfl
theorem tally_ok : ∀ (xss : List (List V)) (kvs : List (NestedKey × V)), IntsN kvs → IntsN (xss.foldl tally1 kvs) ∧ (xss.foldl tally1 kvs).length ≤ kvs.length + xss.length
  | [], kvs, h => ⟨h, Nat.le_refl _⟩
  | xs :: xss, kvs, h => by
    obtain ⟨i, _, e⟩ := tally1_int h xs
    have ih := tally_ok xss (tally1 kvs xs) (by rw [e]; exact put_ints h _ _)
    have := put_len kvs (nkRow xs) (.int (i + 1))
    rw [← e] at this
    refine ⟨ih.1, ?_⟩
    have := ih.2
    rw [List.foldl_cons, List.length_cons]
    omega
theorem tallyL_ok (xss : List (List V)) : IntsN (tallyL xss) ∧ (tallyL xss).length ≤ xss.length := by
  have := tally_ok xss [] fun p hp => (nomatch hp)
  refine ⟨this.1, ?_⟩
  have := this.2
  simpa [tallyL] using this
end G

/-! Tallies of lists that are permutations of each other are equal. -/
namespace G
open PySem PySem.Spec PyProof.Rows L2
theorem look_app {k : NestedKey} {v : V} {k' : NestedKey} : ∀ {kvs : List (NestedKey × V)}, lookN (kvs ++ [(k', v)]) k = match lookN kvs k with | some u => some u | none => if k' = k then some v else none
  | [] => by
    show (if k' = k then some v else none) = _
    rfl
  | p :: r => by
    rw [List.cons_append, lookN, lookN]
    by_cases e : p.1 = k
    · rw [if_pos e, if_pos e]
    · rw [if_neg e, if_neg e]
      exact look_app
theorem look_map {k k' : NestedKey} {v : V} : ∀ {kvs : List (NestedKey × V)}, lookN (kvs.map fun p => if p.1 = k' then (p.1, v) else p) k = if k' = k then (lookN kvs k).map fun _ => v else lookN kvs k
  | [] => by
    rw [List.map_nil]
    split <;> rfl
  | p :: r => by
    have ih := look_map (k := k) (k' := k') (v := v) (kvs := r)
    rw [List.map_cons, lookN, ih, lookN]
    by_cases e : p.1 = k'
    · rw [if_pos e]
      by_cases f : k' = k
      · rw [if_pos f, if_pos f, if_pos (e.trans f), if_pos (show p.1 = k from e.trans f)]
        rfl
      · rw [if_neg f, if_neg f, if_neg (fun z : p.1 = k => f (e.symm.trans z)), if_neg (fun z : p.1 = k => f (e.symm.trans z))]
    · rw [if_neg e]
      by_cases g : p.1 = k
      · rw [if_pos g, if_pos g, if_neg fun z => e (g.trans z.symm)]
      · rw [if_neg g, if_neg g]
theorem look_put (kvs : List (NestedKey × V)) (k k' : NestedKey) (v : V) : lookN (putN kvs k' v) k = if k' = k then some v else lookN kvs k := by
  unfold putN
  split
  · rename_i h
    rw [look_map]
    by_cases e : k' = k
    · subst e
      rw [if_pos rfl, if_pos rfl]
      obtain ⟨u, hu⟩ := Option.isSome_iff_exists.mp h
      rw [hu]
      rfl
    · rw [if_neg e, if_neg e]
  · rename_i h
    rw [look_app]
    by_cases e : k' = k
    · subst e
      rw [if_pos rfl, if_pos rfl]
      cases z : lookN kvs k' with
      | none => rfl
      | some u => rw [z] at h; exact absurd rfl h
    · rw [if_neg e, if_neg e]
      cases lookN kvs k <;> rfl
theorem look_none {k : NestedKey} : ∀ {kvs : List (NestedKey × V)}, lookN kvs k = none ↔ k ∉ kvs.map (·.1)
  | [] => by simp [lookN]
  | p :: r => by
    rw [lookN, List.map_cons, List.mem_cons]
    by_cases e : p.1 = k
    · rw [if_pos e]
      simp [e]
    · rw [if_neg e, look_none (kvs := r)]
      constructor
      · intro h z
        rcases z with z | z
        · exact e z.symm
        · exact h z
      · exact fun h z => h (.inr z)
theorem keys_put (kvs : List (NestedKey × V)) (k : NestedKey) (v : V) : (putN kvs k v).map (·.1) = if k ∈ kvs.map (·.1) then kvs.map (·.1) else kvs.map (·.1) ++ [k] := by
  unfold putN
  by_cases h : k ∈ kvs.map (·.1)
  · rw [if_pos h, if_pos, List.map_map]
    · refine List.map_congr_left fun p _ => ?_
      show (if p.1 = k then (p.1, v) else p).1 = p.1
      split <;> rfl
    · cases z : lookN kvs k with
      | none => exact absurd h (look_none.mp z)
      | some u => rfl
  · rw [if_neg h, look_none.mpr h, if_neg (by simp), List.map_append]
    rfl
theorem nodup_put {kvs : List (NestedKey × V)} (h : (kvs.map (·.1)).Nodup) (k : NestedKey) (v : V) : ((putN kvs k v).map (·.1)).Nodup := by
  rw [keys_put]
  split
  · exact h
  · rename_i n
    rw [List.nodup_append]
    refine ⟨h, by simp, fun a ha b hb e => ?_⟩
    rw [List.mem_singleton.mp hb] at e
    exact n (e ▸ ha)
theorem look_of_mem {p : NestedKey × V} : ∀ {kvs : List (NestedKey × V)}, (kvs.map (·.1)).Nodup → p ∈ kvs → lookN kvs p.1 = some p.2
  | [], _, h => nomatch h
  | q :: r, nd, h => by
    rw [List.map_cons, List.nodup_cons] at nd
    rw [lookN]
    rcases List.mem_cons.mp h with e | e
    · rw [e, if_pos rfl]
    · rw [if_neg (fun z : q.1 = p.1 => nd.1 (by rw [z]; exact List.mem_map_of_mem e))]
      exact look_of_mem nd.2 e
/-- the tally so far -/
structure Tal (kvs : List (NestedKey × V)) (ks : List NestedKey) : Prop where
  nd : (kvs.map (·.1)).Nodup
  lk : ∀ k, lookN kvs k = if ks.count k = 0 then none else some (.int (ks.count k))
theorem Tal.snoc {kvs : List (NestedKey × V)} {ks : List NestedKey} (t : Tal kvs ks) (xs : List V) : Tal (tally1 kvs xs) (ks ++ [nkRow xs]) := by
  have e : tally1 kvs xs = putN kvs (nkRow xs) (V.int ((ks.count (nkRow xs) : Int) + 1)) := by
    unfold tally1
    have l := t.lk (nkRow xs)
    by_cases h : ks.count (nkRow xs) = 0
    · rw [if_pos h] at l
      rw [l, h]
      rfl
    · rw [if_neg h] at l
      rw [l]
      rfl
  rw [e]
  refine ⟨nodup_put t.nd _ _, fun k => ?_⟩
  rw [look_put, t.lk, List.count_append]
  by_cases f : nkRow xs = k
  · subst f
    rw [if_pos rfl, if_neg (by simp)]
    simp
  · rw [if_neg f]
    have : List.count k [nkRow xs] = 0 := List.count_eq_zero.mpr fun z => f (List.mem_singleton.mp z).symm
    rw [this]
    rfl
theorem tal_of : ∀ (xss : List (List V)) (kvs : List (NestedKey × V)) (ks : List NestedKey), Tal kvs ks → Tal (xss.foldl tally1 kvs) (ks ++ xss.map nkRow)
  | [], kvs, ks, t => by simpa using t
  | xs :: xss, kvs, ks, t => by
    have := tal_of xss _ _ (t.snoc xs)
    rw [List.foldl_cons, List.map_cons]
    simpa using this
theorem tal_L (xss : List (List V)) : Tal (tallyL xss) (xss.map nkRow) := by
  exact tal_of xss [] [] ⟨List.nodup_nil, fun k => rfl⟩
theorem tal_keys {kvs : List (NestedKey × V)} {ks : List NestedKey} (t : Tal kvs ks) (k : NestedKey) : k ∈ kvs.map (·.1) ↔ k ∈ ks := by
  have := t.lk k
  have n := look_none (k := k) (kvs := kvs)
  rw [this] at n
  have c := List.count_pos_iff (a := k) (l := ks)
  constructor
  · intro h
    refine c.mp (Nat.pos_of_ne_zero fun z => ?_)
    rw [if_pos z] at n
    exact n.mp rfl h
  · intro h
    refine Classical.byContradiction fun z => ?_
    have := n.mpr z
    rw [if_neg (Nat.ne_of_gt (c.mpr h))] at this
    cases this
theorem tal_eq {ka kb : List (NestedKey × V)} {ks ls : List NestedKey} (a : Tal ka ks) (b : Tal kb ls) (h : ks.Perm ls) : (ka.length == kb.length && ka.all (hitV kb)) = true := by
  have hp : (ka.map (·.1)).Perm (kb.map (·.1)) := (List.perm_ext_iff_of_nodup a.nd b.nd).mpr fun k => by
    rw [tal_keys a, tal_keys b]
    exact h.mem_iff
  have hl := hp.length_eq
  rw [List.length_map, List.length_map] at hl
  rw [Bool.and_eq_true]
  refine ⟨beq_iff_eq.mpr hl, List.all_eq_true.mpr fun p hp => ?_⟩
  have e1 := look_of_mem a.nd hp
  have e2 : lookN kb p.1 = lookN ka p.1 := by
    rw [a.lk, b.lk, h.count_eq]
  unfold hitV
  rw [e2, e1]
  rw [a.lk] at e1
  split at e1
  · cases e1
  · exact decide_eq_true rfl
theorem tally_perm {xss yss : List (List V)} (h : xss.Perm yss) : ((tallyL xss).length == (tallyL yss).length && (tallyL xss).all (hitV (tallyL yss))) = true := tal_eq (tal_L xss) (tal_L yss) (h.map nkRow)
end G

namespace Sd
open PySem PySem.Spec PyProof.Rows L2 G
def topS (i : Nat) : Stmt := PySem.Challenge.pw_storedesk_k02_sorted_rows.main.body.getD i (.Pass ⟨0, 0, 0, 0⟩)
abbrev s_kind_ofP : Stmt := topS 1
theorem sc_kind_ofP : FnScope ["value"] ["value"] (defScope s_kind_ofP) := ⟨rfl, rfl, rfl, by decide +kernel, rfl, by decide +kernel, by decide +kernel⟩
abbrev s_sort_keyP : Stmt := topS 2
theorem sc_sort_keyP : FnScope ["value", "kind"] ["value"] (defScope s_sort_keyP) := ⟨rfl, rfl, rfl, by decide +kernel, rfl, by decide +kernel, by decide +kernel⟩
abbrev s_row_keyP : Stmt := topS 3
theorem sc_row_keyP : FnScope ["row", "value"] ["row"] (defScope s_row_keyP) := ⟨rfl, rfl, rfl, by decide +kernel, rfl, by decide +kernel, by decide +kernel⟩
abbrev s_sorted_rowsP : Stmt := topS 4
theorem sc_sorted_rowsP : FnScope ["rows"] ["rows"] (defScope s_sorted_rowsP) := ⟨rfl, rfl, rfl, by decide +kernel, rfl, by decide +kernel, by decide +kernel⟩
abbrev s_mix : Stmt := topS 6
theorem sc_mix : FnScope ["_law_number_here", "_law_turn", "_law_low", "_law_high", "_law_once", "_law_twice"] ["_law_number_here", "_law_turn"] (defScope s_mix) := ⟨rfl, rfl, rfl, by decide +kernel, rfl, by decide +kernel, by decide +kernel⟩
abbrev s_store : Stmt := topS 7
theorem sc_store : FnScope ["_law_script", "_law_cells", "_law_cell", "_law_seed"] ["_law_script"] (defScope s_store) := ⟨rfl, rfl, rfl, by decide +kernel, rfl, by decide +kernel, by decide +kernel⟩
abbrev s_take : Stmt := topS 8
theorem sc_take : FnScope ["_law_store_here", "_law_many", "_law_cell", "_law_rest"] ["_law_store_here", "_law_many"] (defScope s_take) := ⟨rfl, rfl, rfl, by decide +kernel, rfl, by decide +kernel, by decide +kernel⟩
abbrev s_odds : Stmt := topS 9
theorem sc_odds : FnScope ["_law_store_here", "_law_many"] ["_law_store_here", "_law_many"] (defScope s_odds) := ⟨rfl, rfl, rfl, by decide +kernel, rfl, by decide +kernel, by decide +kernel⟩
abbrev s_count : Stmt := topS 10
theorem sc_count : FnScope ["_law_store_here", "_law_least", "_law_usual", "_law_most", "_law_edge"] ["_law_store_here", "_law_least", "_law_usual", "_law_most"] (defScope s_count) := ⟨rfl, rfl, rfl, by decide +kernel, rfl, by decide +kernel, by decide +kernel⟩
abbrev s_one : Stmt := topS 11
theorem sc_one : FnScope ["_law_store_here", "_law_row_here"] ["_law_store_here", "_law_row_here"] (defScope s_one) := ⟨rfl, rfl, rfl, by decide +kernel, rfl, by decide +kernel, by decide +kernel⟩
abbrev s_number : Stmt := topS 12
theorem sc_number : FnScope ["_law_store_here", "_law_kind", "_law_large", "_law_k"] ["_law_store_here"] (defScope s_number) := ⟨rfl, rfl, rfl, by decide +kernel, rfl, by decide +kernel, by decide +kernel⟩
abbrev s_text : Stmt := topS 13
theorem sc_text : FnScope ["_law_store_here", "_law_most", "_law_signs", "_law_kind", "_law_word", "_law_long", "_law_k"] ["_law_store_here", "_law_most"] (defScope s_text) := ⟨rfl, rfl, rfl, by decide +kernel, rfl, by decide +kernel, by decide +kernel⟩
abbrev s_value : Stmt := topS 14
theorem sc_value : FnScope ["_law_store_here", "_law_kind"] ["_law_store_here"] (defScope s_value) := ⟨rfl, rfl, rfl, by decide +kernel, rfl, by decide +kernel, by decide +kernel⟩
abbrev s_row : Stmt := topS 15
theorem sc_row : FnScope ["_law_store_here", "_law_k"] ["_law_store_here"] (defScope s_row) := ⟨rfl, rfl, rfl, by decide +kernel, rfl, by decide +kernel, by decide +kernel⟩
abbrev s_near : Stmt := topS 16
theorem sc_near : FnScope ["_law_store_here", "_law_row_here", "_law_kind", "_law_at", "_law_value_here"] ["_law_store_here", "_law_row_here"] (defScope s_near) := ⟨rfl, rfl, rfl, by decide +kernel, rfl, by decide +kernel, by decide +kernel⟩
abbrev s_rows : Stmt := topS 17
theorem sc_rows : FnScope ["_law_store_here", "_law_usual", "_law_most", "_law_rows_here", "_law_k", "_law_kind"] ["_law_store_here", "_law_usual", "_law_most"] (defScope s_rows) := ⟨rfl, rfl, rfl, by decide +kernel, rfl, by decide +kernel, by decide +kernel⟩
abbrev s_same : Stmt := topS 18
theorem sc_same : FnScope ["_law_left", "_law_right", "_law_k", "_law_name"] ["_law_left", "_law_right"] (defScope s_same) := ⟨rfl, rfl, rfl, by decide +kernel, rfl, by decide +kernel, by decide +kernel⟩
abbrev s_sort_key : Stmt := topS 19
theorem sc_sort_key : FnScope ["_law_value_here"] ["_law_value_here"] (defScope s_sort_key) := ⟨rfl, rfl, rfl, by decide +kernel, rfl, by decide +kernel, by decide +kernel⟩
abbrev s_mark : Stmt := topS 20
theorem sc_mark : FnScope ["_law_row_here", "_law_value_here"] ["_law_row_here"] (defScope s_mark) := ⟨rfl, rfl, rfl, by decide +kernel, rfl, by decide +kernel, by decide +kernel⟩
abbrev s_tally : Stmt := topS 21
theorem sc_tally : FnScope ["_law_rows_here", "_law_tally_here", "_law_row_here", "_law_mark_here"] ["_law_rows_here"] (defScope s_tally) := ⟨rfl, rfl, rfl, by decide +kernel, rfl, by decide +kernel, by decide +kernel⟩
abbrev s_in_order : Stmt := topS 22
theorem sc_in_order : FnScope ["_law_rows_here", "_law_told", "_law_row_here", "_law_marks", "_law_k"] ["_law_rows_here", "_law_told"] (defScope s_in_order) := ⟨rfl, rfl, rfl, by decide +kernel, rfl, by decide +kernel, by decide +kernel⟩
abbrev s_law : Stmt := topS 23
theorem sc_law : FnScope ["_law_script", "_law_store_here", "_law_rows_here", "_law_small", "_law_handed", "_law_told", "_law_first", "_law_second"] ["_law_script"] (defScope s_law) := ⟨rfl, rfl, rfl, by decide +kernel, rfl, by decide +kernel, by decide +kernel⟩
section
variable {P : Program} {w : World} {K : PySem.W.Frag} {mg : Str → Option Value} {base : Heap}
/-! _law_mix -/
def sp_mix : Sp := fun vs H Q _ => ∃ n t : Int, vs = [.int n, .int t] ∧ ∀ r : Int, 0 ≤ r → r ≤ 69273665 → Q (.int r) H
theorem ok_mix {f : Addr} {fd : FuncData} (F : FnP K "_law_mix" s_mix f fd) (B : Bf mg) : FnOk P w K mg base CX0 1 f fd ["_law_number_here", "_law_turn"] sp_mix := by
  refine F.ok sc_mix (fun vs H Q E h => ?_) (fun cdv A outer s H vs Q E hr h => ⟨_, PSs.nox ((pss_cons (ps_set (i := 2) sc_mix.nd rfl (by first | exact Or.inl rfl | exact Or.inr rfl) (pe_op o_mod (pe_callTy c_int (by rfl) B.int PyProof.Rows.boot_int (pa_cons (fv 0) pa_nil)) pe_int)) (pss_cons (ps_set (i := 3) sc_mix.nd rfl (by first | exact Or.inl rfl | exact Or.inr rfl) (pe_op o_mod (pe_callTy c_int (by rfl) B.int PyProof.Rows.boot_int (pa_cons (pe_op o_div (pe_callTy c_int (by rfl) B.int PyProof.Rows.boot_int (pa_cons (fv 0) pa_nil)) pe_int) pa_nil)) pe_int)) (pss_cons (ps_set (i := 4) sc_mix.nd rfl (by first | exact Or.inl rfl | exact Or.inr rfl) (pe_op o_mod (pe_callTy c_int (by rfl) B.int PyProof.Rows.boot_int (pa_cons (pe_op (o_add K) (pe_op (o_add K) (pe_op (o_add K) (pe_op o_mul (fv 2) pe_int) (pe_op o_mul (fv 3) pe_int)) (pe_op o_mul (fv 1) pe_int)) pe_int) pa_nil)) pe_int)) (pss_cons (ps_set (i := 5) sc_mix.nd rfl (by first | exact Or.inl rfl | exact Or.inr rfl) (pe_op o_mod (pe_callTy c_int (by rfl) B.int PyProof.Rows.boot_int (pa_cons (pe_op (o_add K) (pe_op (o_add K) (pe_op o_mul (pe_op o_div (fv 4) pe_int) (fv 4)) (pe_op o_mul (fv 1) pe_int)) (fv 2)) pa_nil)) pe_int)) (pss_one (ps_ret (pe_op o_div (fv 5) pe_int)))))))), ?_⟩)
  · obtain ⟨n, t, rfl, _⟩ := h
    rfl
  · obtain ⟨n, t, rfl, q⟩ := h
    have w1 : ∀ i : Int, CDivW i 2147483647 := fun i => ⟨by decide, by decide +kernel⟩
    have w2 : ∀ i : Int, CDivW i 127 := fun i => ⟨by decide, by decide +kernel⟩
    have w3 : ∀ i : Int, CDivW i 31 := fun i => ⟨by decide, by decide +kernel⟩
    refine ⟨by decide, w1 _, by decide, .inr ⟨by decide, by decide⟩, .inr ⟨by decide, by decide⟩, .inr ⟨by decide, by decide⟩, by decide, w2 _, .inl ?_, .inr ⟨by decide, by decide⟩, by decide, w3 _, ?_⟩
    · omega
    · exact q _ (by omega) (by omega)

/-! _law_take -/
def sp_take : Sp := fun vs H Q _ => ∃ (st cl : Addr) (m : Int), vs = [.ref st, .int m] ∧ Sto H st cl ∧ m ≤ 1000000 ∧ ∀ (r : Int) H', 0 ≤ r → (r < m ∨ r = 0 ∧ m < 2) → Go st cl H H' → Q (.int r) H'
theorem ok_take {f : Addr} {fd : FuncData} (F : FnP K "_law_take" s_take f fd) (B : Bf mg) (F_mix : Fn P w K mg base "_law_mix" ["_law_number_here", "_law_turn"] 1 sp_mix) : FnOk P w K mg base CX0 2 f fd ["_law_store_here", "_law_many"] sp_take := by
  refine F.ok sc_take (fun vs H Q E h => ?_) (fun cdv A outer s H vs Q E hr h => ⟨_, PSs.nox ((pss_cons (ps_if (q_cmp o_lt (fv 1) pe_int) (pss_one (ps_ret pe_int)) pss_nil) (pss_cons (ps_if (PW.pt (pw_and (q_cmp op_eq (pe_ix (x_ix K) (fv 0) pe_int (fun _ _ => rfl)) pe_int) (pw_and1 (q_cmp o_lt (pe_ix (x_ix K) (fv 0) pe_int (fun _ _ => rfl)) (pe_callB (c_len K) (by rfl) B.len PySem.boot_len (pa_cons (pe_ix (x_ix K) (fv 0) pe_int (fun _ _ => rfl)) pa_nil)))))) (pss_cons (ps_set (i := 2) sc_take.nd rfl (by first | exact Or.inl rfl | exact Or.inr rfl) (pe_ix (x_ix K) (pe_ix (x_ix K) (fv 0) pe_int (fun _ _ => rfl)) (pe_ix (x_ix K) (fv 0) pe_int (fun _ _ => rfl)) (fun _ _ => rfl))) (pss_cons (ps_asg (pe_op (o_add K) (pe_ix (x_ix K) (fv 0) pe_int (fun _ _ => rfl)) pe_int) (pg_sub (fv 0) pe_int set_list)) (pss_cons (ps_if (q_cmp o_lt (fv 2) (pe_op o_pow pe_int pe_int)) (pss_cons (ps_asg (pe_op (o_add K) (pe_ix (x_ix K) (fv 0) pe_int (fun _ _ => rfl)) pe_int) (pg_sub (fv 0) pe_int set_list)) (pss_one (ps_ret (pe_op o_mod (pe_callTy c_int (by rfl) B.int PyProof.Rows.boot_int (pa_cons (pcall F_mix hr (pa_cons (fv 2) (pa_cons (pe_ix (x_ix K) (fv 0) pe_int (fun _ _ => rfl)) pa_nil))) pa_nil)) (fv 1))))) pss_nil) (pss_one (ps_asg (fv 2) (pg_sub (fv 0) pe_int set_list)))))) pss_nil) (pss_cons (ps_if (q_cmp o_gt (pe_ix (x_ix K) (fv 0) pe_int (fun _ _ => rfl)) pe_int) (pss_cons (ps_set (i := 3) sc_take.nd rfl (by first | exact Or.inl rfl | exact Or.inr rfl) (pe_ix (x_ix K) (fv 0) pe_int (fun _ _ => rfl))) (pss_cons (ps_asg (pe_op o_div (fv 3) (fv 1)) (pg_sub (fv 0) pe_int set_list)) (pss_one (ps_ret (pe_op o_mod (pe_callTy c_int (by rfl) B.int PyProof.Rows.boot_int (pa_cons (fv 3) pa_nil)) (fv 1)))))) pss_nil) (pss_cons (ps_asg (pe_op (o_add K) (pe_ix (x_ix K) (fv 0) pe_int (fun _ _ => rfl)) pe_int) (pg_sub (fv 0) pe_int set_list)) (pss_one (ps_ret (pe_op o_mod (pe_callTy c_int (by rfl) B.int PyProof.Rows.boot_int (pa_cons (pcall F_mix hr (pa_cons (pe_ix (x_ix K) (fv 0) pe_int (fun _ _ => rfl)) (pa_cons (pe_ix (x_ix K) (fv 0) pe_int (fun _ _ => rfl)) pa_nil))) pa_nil)) (fv 1))))))))), ?_⟩)
  · obtain ⟨st, cl, m, rfl, _⟩ := h
    rfl
  · obtain ⟨st, cl, m, rfl, hS, hm, q⟩ := h
    have hm0 : ¬ m < 2 → 0 < m := fun e => by omega
    have wm : ¬ m < 2 → ∀ i : Int, CDivW i m := fun e i => wide_div (b := 20) (by omega) (by omega) (by decide) (by decide)
    have fin : ¬ m < 2 → ∀ x : Int, 0 ≤ x % m ∧ (x % m < m ∨ x % m = 0 ∧ m < 2) := fun e x => ⟨Int.emod_nonneg x (by omega), .inl (Int.emod_lt_of_pos x (by omega))⟩
    -- if many < 2
    refine iteD (fun e => q _ _ (by decide) (.inr ⟨rfl, e⟩) (.refl hS)) (fun e => ?_)
    refine nxt (seqP (fun σ1 H1 => ∃ c, σ1 = [some (.ref st), some (.int m), c, none] ∧ Go st cl H H1) ?_ ?_)
    · rintro σ1 H1 ⟨c, rfl, g⟩
      obtain ⟨n, cs, p, r, t, sd, h1, h2, h3, h4⟩ := g.2
      refine ⟨_, _, .inl (SqL.of h1), rfl, iteD (fun e2 => ?_) (fun e2 => ?_)⟩
      · refine ⟨_, _, .inl (SqL.of h1), rfl, wm e _, st, _, 2, 2, rfl, rfl, h1, rfl, hm0 e, ?_⟩
        exact q _ _ (fin e r).1 (fin e r).2 (g.put h2 h3 (Int.ediv_nonneg h4 (by omega)))
      · refine nxt ⟨_, _, .inl (SqL.of h1), rfl, st, _, 3, 3, rfl, rfl, h1, rfl, _, _, .inl (SqL.of upd_same), rfl, _, _, .inl (SqL.of upd_same), rfl, _, _, rfl, fun x _ _ => ⟨hm0 e, ?_⟩⟩
        exact q _ _ (fin e x).1 (fin e x).2 (g.put h2 h3 h4)
    · intro rest
      obtain ⟨n, cs, p, r, t, sd, h1, h2, h3, h4⟩ := id hS
      refine ⟨_, _, .inl (SqL.of h1), rfl, rfl, iteD (fun e3 => ?_) (fun e3 => iteF (nxt (rest _ _ ⟨_, rfl, .refl hS⟩)))⟩
      refine ⟨_, _, .inl (SqL.of h1), rfl, _, _, .inl (SqL.of h1), rfl, _, .inl (SqL.of h2), iteD (fun e4 => ?_) (fun e4 => nxt (rest _ _ ⟨_, rfl, .refl hS⟩))⟩
      rw [List.length_map] at e4
      obtain ⟨c, hc, _⟩ := at_map (f := V.int) h3 e4
      refine ⟨_, _, .inl (SqL.of h1), rfl, _, _, .inl (SqL.of h1), rfl, _, _, .inl (SqL.of h2), hc, ?_⟩
      refine ⟨_, _, .inl (SqL.of h1), rfl, st, _, 1, 1, rfl, rfl, h1, rfl, ?_⟩
      have g1 : Go st cl H (upd H st (.lst [.ref cl, .int (p + 1), .int r, .int t, .int sd])) := (Go.refl hS).put h2 (by omega) h4
      have h2' : upd H st (.lst [.ref cl, .int (p + 1), .int r, .int t, .int sd]) cl = some (.lst (cs.map V.int)) := by
        rw [upd_ne n.symm]
        exact h2
      refine ⟨⟨by decide, by decide, by decide⟩, iteD (fun e5 => ?_) (fun e5 => ?_)⟩
      · refine ⟨_, _, .inl (SqL.of upd_same), rfl, st, _, 3, 3, rfl, rfl, upd_same, rfl, _, _, .inl (SqL.of upd_same), rfl, _, _, rfl, fun x _ _ => ⟨hm0 e, ?_⟩⟩
        exact q _ _ (fin e x).1 (fin e x).2 (g1.put h2' (by omega) h4)
      · refine nxt ⟨st, _, 2, 2, rfl, rfl, upd_same, rfl, rest _ _ ⟨_, rfl, g1.put h2' (by omega) ?_⟩⟩
        have e6 : ¬ c < 10 ^ 18 := e5
        omega

/-! _law_store -/
def sp_store (K : PySem.W.Frag) : Sp := fun vs H Q _ => ∃ (a : Addr) (ns : List Int), vs = [.ref a] ∧ SqL K H a (ns.map V.int) ∧ ns.length ≤ 1000 ∧ ∀ st cl H', H st = none → Same H H' → Sto H' st cl → Q (.ref st) H'
theorem ok_store {f : Addr} {fd : FuncData} (F : FnP K "_law_store" s_store f fd) (B : Bf mg) (F_mix : Fn P w K mg base "_law_mix" ["_law_number_here", "_law_turn"] 1 sp_mix) : FnOk P w K mg base CX0 2 f fd ["_law_script"] (sp_store K) := by
  refine F.ok sc_store (fun vs H Q E h => ?_) (fun cdv A outer s H vs Q E hr h => ⟨_, PSs.nox ((pss_cons (ps_setLc (i := 1) (own := [("_law_cell", 2)]) (g := gName 2) rfl sc_store.nd rfl rfl (sw_true rfl rfl rfl (by decide +kernel)) (p_seq K (fv 0)) (blkOk_by (own := [("_law_cell", 2)]) (N := ["_law_script", "_law_cells", "_law_cell", "_law_seed"]) (sc := defScope s_store) (by decide +kernel)) (fun _ _ _ _ _ => pg_name (i := 2) sc_store.nd rfl (Or.inl rfl)) (fun _ _ _ _ _ => pts_nil) (fun _ _ _ _ _ => (pe_callTy c_int (by rfl) B.int PyProof.Rows.boot_int (pa_cons (fv 2) pa_nil)))) (pss_cons (ps_set (i := 3) sc_store.nd rfl (by first | exact Or.inl rfl | exact Or.inr rfl) (pe_callB (c_len K) (by rfl) B.len PySem.boot_len (pa_cons (fv 1) pa_nil))) (pss_cons (ps_for PassesOwn.never rfl (p_seq K (fv 1)) (pg_name (i := 2) sc_store.nd rfl (by first | exact Or.inl rfl | exact Or.inr rfl)) (pss_one (ps_set (i := 3) sc_store.nd rfl (by first | exact Or.inl rfl | exact Or.inr rfl) (pcall F_mix hr (pa_cons (fv 2) (pa_cons (fv 3) pa_nil)))))) (pss_one (ps_ret (pe_lst (pa_cons (fv 1) (pa_cons pe_int (pa_cons pe_int (pa_cons pe_int (pa_cons (fv 3) pa_nil)))))))))))), ?_⟩)
  · obtain ⟨a, ns, rfl, _⟩ := h
    rfl
  · obtain ⟨a, ns, rfl, hS, hn, q⟩ := h
    refine .inl ⟨⟨_, hS⟩, fun D hD => lc_list (xs := ns.map V.int) (fun i H' => H' = upd H D (.lst ((ns.take i).map V.int))) rfl (fun i H' _ e => ?_) (fun i x H' hx e => ?_) (fun H' e => ?_)⟩
    · subst e
      exact (same_upd hD).seq hS
    · subst e
      rw [List.getElem?_map] at hx
      obtain ⟨k, hk, rfl⟩ := Option.map_eq_some_iff.mp hx
      refine ⟨rfl, _, upd_same, ?_, ?_⟩
      · rw [List.length_map, List.length_take]
        exact small1000 (by omega)
      · rw [upd_upd, List.take_add_one, hk, List.map_append]
        rfl
    · rw [List.length_map, List.take_length] at e
      subst e
      refine ⟨_, .inl (SqL.of upd_same), .inl ⟨⟨_, SqL.of upd_same⟩, for_list (xs := ns.map V.int) (fun i σ H' => H' = upd H D (.lst (ns.map V.int)) ∧ ∃ y sd, σ = [some (.ref a), some (.ref D), y, some (.int sd)]) ⟨rfl, _, _, rfl⟩ (fun i σ H' _ e => ?_) (fun i x σ H' hx e => ?_) (fun σ H' e => ?_)⟩⟩
      · obtain ⟨rfl, _⟩ := e
        exact SqL.of upd_same
      · obtain ⟨rfl, y, sd, rfl⟩ := e
        rw [List.getElem?_map] at hx
        obtain ⟨k, hk, rfl⟩ := Option.map_eq_some_iff.mp hx
        exact ⟨_, _, rfl, fun r _ _ => ⟨rfl, _, _, rfl⟩⟩
      · obtain ⟨rfl, y, sd, rfl⟩ := e
        refine ⟨by show 5 ≤ sizeLine; decide, fun st hst => q st D _ ?_ ?_ ?_⟩
        · exact (same_upd hD).free hst
        · exact (same_upd hD).trans (same_upd hst)
        · have n : st ≠ D := fun e => by
            rw [e, upd_same] at hst
            cases hst
          refine ⟨n, ns, 0, 0, 0, sd, upd_same, ?_, by decide, by decide⟩
          rw [upd_ne n.symm, upd_same]
/-! _law_count, _law_one -/
def sp_count : Sp := fun vs H Q _ => ∃ (st cl : Addr) (a b c : Int), vs = [.ref st, .int a, .int b, .int c] ∧ Sto H st cl ∧ a ≤ b ∧ b ≤ c ∧ c - a < 1000000 ∧ ∀ (r : Int) H', a ≤ r → r ≤ c → Go st cl H H' → Q (.int r) H'
theorem ok_count {f : Addr} {fd : FuncData} (F : FnP K "_law_count" s_count f fd) (B : Bf mg) (F_take : Fn P w K mg base "_law_take" ["_law_store_here", "_law_many"] 2 sp_take) : FnOk P w K mg base CX0 3 f fd ["_law_store_here", "_law_least", "_law_usual", "_law_most"] sp_count := by
  refine F.ok sc_count (fun vs H Q E h => ?_) (fun cdv A outer s H vs Q E hr h => ⟨_, PSs.nox ((pss_cons (ps_set (i := 4) sc_count.nd rfl (by first | exact Or.inl rfl | exact Or.inr rfl) (pcall F_take hr (pa_cons (fv 0) (pa_cons pe_int pa_nil)))) (pss_cons (ps_if (q_cmp op_eq (fv 4) pe_int) (pss_one (ps_ret (fv 3))) pss_nil) (pss_cons (ps_if (q_cmp op_eq (fv 4) pe_int) (pss_one (ps_ret (pe_op (o_add K) (fv 1) (pcall F_take hr (pa_cons (fv 0) (pa_cons (pe_op (o_add K) (pe_op o_sub (fv 3) (fv 1)) pe_int) pa_nil)))))) pss_nil) (pss_cons (ps_if (q_cmp o_gt (fv 4) pe_int) (pss_one (ps_ret (fv 1))) pss_nil) (pss_one (ps_ret (pe_op (o_add K) (fv 1) (pcall F_take hr (pa_cons (fv 0) (pa_cons (pe_op (o_add K) (pe_op o_sub (fv 2) (fv 1)) pe_int) pa_nil))))))))))), ?_⟩)
  · obtain ⟨st, cl, a, b, c, rfl, _⟩ := h
    rfl
  · obtain ⟨st, cl, a, b, c, rfl, hS, h1, h2, h3, q⟩ := h
    refine ⟨st, cl, _, rfl, hS, by decide, fun r H1 r0 r1 g => ?_⟩
    refine ⟨rfl, iteD (fun e => q _ _ (by omega) (by omega) g) (fun e => nxt ⟨rfl, iteD (fun e => ?_) (fun e => nxt (iteD (fun e => q _ _ (by omega) (by omega) g) (fun e => nxt ?_)))⟩)⟩
    · exact ⟨st, cl, _, rfl, g.2, by omega, fun r H2 r0 r1 g2 => q _ _ (by omega) (by omega) (g.trans g2)⟩
    · exact ⟨st, cl, _, rfl, g.2, by omega, fun r H2 r0 r1 g2 => q _ _ (by omega) (by omega) (g.trans g2)⟩
/-- of a list or a tuple that is not empty -/
def sp_one (K : PySem.W.Frag) : Sp := fun vs H Q _ => ∃ (st cl a : Addr) (xs : List V), vs = [.ref st, .ref a] ∧ Sto H st cl ∧ a ≠ st ∧ (SqL K H a xs ∨ SqT K H a xs) ∧ xs ≠ [] ∧ xs.length ≤ 1000000 ∧ ∀ v ∈ xs, ∀ H', Go st cl H H' → Q v H'
theorem ok_one {f : Addr} {fd : FuncData} (F : FnP K "_law_one" s_one f fd) (B : Bf mg) (F_take : Fn P w K mg base "_law_take" ["_law_store_here", "_law_many"] 2 sp_take) : FnOk P w K mg base CX0 3 f fd ["_law_store_here", "_law_row_here"] (sp_one K) := by
  refine F.ok sc_one (fun vs H Q E h => ?_) (fun cdv A outer s H vs Q E hr h => ⟨_, PSs.nox ((pss_cons (ps_if (q_cmp op_eq (pe_callB (c_len K) (by rfl) B.len PySem.boot_len (pa_cons (fv 1) pa_nil)) pe_int) (pss_one (ps_ret pe_non)) pss_nil) (pss_one (ps_ret (pe_ix (x_ix K) (fv 1) (pcall F_take hr (pa_cons (fv 0) (pa_cons (pe_callB (c_len K) (by rfl) B.len PySem.boot_len (pa_cons (fv 1) pa_nil)) pa_nil))) (fun _ _ => rfl)))))), ?_⟩)
  · obtain ⟨st, cl, a, xs, rfl, _⟩ := h
    rfl
  · obtain ⟨st, cl, a, xs, rfl, hS, hn, hx, h0, hl, q⟩ := h
    have hp : 0 < xs.length := List.length_pos_iff.mpr h0
    refine ⟨_, hx, rfl, iteD (fun e => absurd (V.int.inj e) (by omega)) (fun e => nxt ?_)⟩
    refine ⟨_, hx, st, cl, _, rfl, hS, by omega, fun r H1 r0 r1 g => ?_⟩
    obtain ⟨v, hv, hm⟩ := at_of (xs := xs) r0 (by omega)
    exact ⟨_, v, hx.imp (g.seq hS hn) (g.tup hS), hv, q v hm H1 g⟩

/-! _law_number -/
def sp_number : Sp := fun vs H Q _ => ∃ (st cl : Addr), vs = [.ref st] ∧ Sto H st cl ∧ ∀ (r : Int) H', numB r = true → Go st cl H H' → Q (.int r) H'
theorem ok_number {f : Addr} {fd : FuncData} (F : FnP K "_law_number" s_number f fd) (B : Bf mg) (F_take : Fn P w K mg base "_law_take" ["_law_store_here", "_law_many"] 2 sp_take) : FnOk P w K mg base CX0 3 f fd ["_law_store_here"] sp_number := by
  refine F.ok sc_number (fun vs H Q E h => ?_) (fun cdv A outer s H vs Q E hr h => ⟨_, PSs.nox ((pss_cons (ps_set (i := 1) sc_number.nd rfl (by first | exact Or.inl rfl | exact Or.inr rfl) (pcall F_take hr (pa_cons (fv 0) (pa_cons pe_int pa_nil)))) (pss_cons (ps_if (q_cmp o_lt (fv 1) pe_int) (pss_one (ps_ret (pe_op o_sub (pcall F_take hr (pa_cons (fv 0) (pa_cons pe_int pa_nil))) pe_int))) pss_nil) (pss_cons (ps_if (q_cmp op_eq (fv 1) pe_int) (pss_one (ps_ret (pe_op o_sub (pcall F_take hr (pa_cons (fv 0) (pa_cons pe_int pa_nil))) pe_int))) pss_nil) (pss_cons (ps_if (q_cmp op_eq (fv 1) pe_int) (pss_one (ps_ret (pe_ix (x_ix K) (pe_lst (pa_cons pe_int (pa_cons pe_int (pa_cons (pe_un o_neg pe_int) (pa_cons pe_int (pa_cons pe_int (pa_cons (pe_op o_sub pe_int (pe_op o_pow pe_int pe_int)) (pa_cons (pe_op o_sub (pe_op o_pow pe_int pe_int) pe_int) (pa_cons (pe_op o_pow pe_int pe_int) (pa_cons (pe_un o_neg pe_int) (pa_cons pe_int pa_nil))))))))))) (pcall F_take hr (pa_cons (fv 0) (pa_cons pe_int pa_nil))) (fun _ _ => rfl)))) pss_nil) (pss_cons (ps_set (i := 2) sc_number.nd rfl (by first | exact Or.inl rfl | exact Or.inr rfl) pe_int) (pss_cons (ps_for PassesOwn.never rfl (pi_range1 (by rfl) B.range (pa_cons (pe_op (o_add K) pe_int (pcall F_take hr (pa_cons (fv 0) (pa_cons pe_int pa_nil)))) pa_nil)) (pg_name (i := 3) sc_number.nd rfl (by first | exact Or.inl rfl | exact Or.inr rfl)) (pss_one (ps_set (i := 2) sc_number.nd rfl (by first | exact Or.inl rfl | exact Or.inr rfl) (pe_op (o_add K) (pe_op o_mul (fv 2) pe_int) (pcall F_take hr (pa_cons (fv 0) (pa_cons pe_int pa_nil))))))) (pss_cons (ps_if (q_cmp op_eq (fv 1) pe_int) (pss_one (ps_ret (fv 2))) pss_nil) (pss_one (ps_ret (pe_un o_neg (fv 2)))))))))))), ?_⟩)
  · obtain ⟨st, cl, rfl, _⟩ := h
    rfl
  · obtain ⟨st, cl, rfl, hS, q⟩ := h
    refine ⟨st, cl, _, rfl, hS, by decide, fun k H1 k0 k1 g => ?_⟩
    refine iteD (fun e => ⟨st, cl, _, rfl, g.2, by decide, fun r H2 r0 r1 g2 => q _ _ (numB_iff.mpr (by omega)) (g.trans g2)⟩) (fun e => nxt ⟨rfl, iteD (fun e => ⟨st, cl, _, rfl, g.2, by decide, fun r H2 r0 r1 g2 => q _ _ (numB_iff.mpr (by omega)) (g.trans g2)⟩) (fun e => nxt ⟨rfl, iteD (fun e => ?_) (fun e => nxt ?_)⟩)⟩)
    · refine ⟨⟨by decide, by decide, by decide⟩, ⟨by decide, by decide, by decide⟩, ⟨by decide, by decide, by decide⟩, by show 10 ≤ sizeLine; decide, fun p hp => ?_⟩
      have hp0 : H p = none := g.free hS hp
      refine ⟨st, cl, _, rfl, (g.lay hS hp0).2, by decide, fun r H2 r0 r1 g2 => ?_⟩
      have hx := g2.lst (hS.ne_none hp0) upd_same
      obtain ⟨v, hv, hm⟩ := at_of (xs := [V.int 0, .int 9, .int (-10), .int 10, .int 255, .int (1 - 10 ^ 30), .int (10 ^ 30 - 1), .int (10 ^ 18), .int (-1), .int 99]) (i := r) r0 (by show r < 10; omega)
      refine ⟨_, v, .inl (SqL.of hx), hv, ?_⟩
      have hf := all_mem (p := fun v => match v with | .int i => numB i | _ => false) (by decide +kernel) hm
      cases v with
      | int i => exact q _ _ hf ((g.lay hS hp0).trans g2)
      | _ => cases hf
    · refine ⟨st, cl, _, rfl, g.2, by decide, fun r H2 r0 r1 g2 => ⟨_, rfl, by omega, by omega, for_range (n := (1 + r).toNat) (fun i σ H' => ∃ y L, σ = [some (.ref st), some (.int k), some (.int L), y] ∧ Go st cl H H' ∧ 0 ≤ L ∧ L < 1000000 ^ i) ⟨_, _, rfl, g.trans g2, by decide, by decide⟩ (fun i σ H' hi h => ?_) (fun σ H' h => ?_)⟩⟩
      · obtain ⟨y, L, rfl, g3, l0, l1⟩ := h
        refine ⟨.inr ⟨by decide, by decide⟩, st, cl, _, rfl, g3.2, by decide, fun r2 H3 r20 r21 g4 => ⟨_, _, rfl, g3.trans g4, by omega, ?_⟩⟩
        rw [Int.pow_succ]
        omega
      · obtain ⟨y, L, rfl, g3, l0, l1⟩ := h
        have hL : L < 1000000000000000000000000000000 := by
          have hn : (1 + r).toNat = 1 ∨ (1 + r).toNat = 2 ∨ (1 + r).toNat = 3 ∨ (1 + r).toNat = 4 ∨ (1 + r).toNat = 5 := by omega
          rcases hn with e | e | e | e | e <;> (rw [e] at l1; omega)
        refine ⟨rfl, iteD (fun e => q _ _ (numB_iff.mpr (by omega)) g3) (fun e => nxt (q _ _ (numB_iff.mpr (by omega)) g3))⟩
/-! _law_text -/
def sp_text : Sp := fun vs H Q _ => ∃ (st cl : Addr) (m : Int), vs = [.ref st, .int m] ∧ Sto H st cl ∧ 0 ≤ m ∧ m ≤ 40 ∧ ∀ (z : Str) H', txtB m.toNat z = true → Go st cl H H' → Q (.str z) H'
theorem ok_text {f : Addr} {fd : FuncData} (F : FnP K "_law_text" s_text f fd) (B : Bf mg) (F_take : Fn P w K mg base "_law_take" ["_law_store_here", "_law_many"] 2 sp_take) (F_count : Fn P w K mg base "_law_count" ["_law_store_here", "_law_least", "_law_usual", "_law_most"] 3 sp_count) : FnOk P w K mg base CX0 4 f fd ["_law_store_here", "_law_most"] sp_text := by
  refine F.ok sc_text (fun vs H Q E h => ?_) (fun cdv A outer s H vs Q E hr h => ⟨_, PSs.nox ((pss_cons (ps_set (i := 2) sc_text.nd rfl (by first | exact Or.inl rfl | exact Or.inr rfl) pe_str) (pss_cons (ps_set (i := 3) sc_text.nd rfl (by first | exact Or.inl rfl | exact Or.inr rfl) (pcall F_take hr (pa_cons (fv 0) (pa_cons pe_int pa_nil)))) (pss_cons (ps_if (q_cmp o_lt (fv 3) pe_int) (pss_one (ps_ret (pe_slice (x_sl K) (pe_ix (x_ix K) (pe_lst (pa_cons pe_str (pa_cons pe_str (pa_cons pe_str (pa_cons pe_str (pa_cons pe_str (pa_cons pe_str pa_nil))))))) (pcall F_take hr (pa_cons (fv 0) (pa_cons pe_int pa_nil))) (fun _ _ => rfl)) po_none (po_some (fv 1))))) pss_nil) (pss_cons (ps_if (q_cmp op_eq (fv 3) pe_int) (pss_cons (ps_set (i := 4) sc_text.nd rfl (by first | exact Or.inl rfl | exact Or.inr rfl) (pe_ix (x_ix K) (pe_lst (pa_cons pe_str (pa_cons pe_str (pa_cons pe_str (pa_cons pe_str (pa_cons pe_str (pa_cons pe_str (pa_cons pe_str (pa_cons pe_str (pa_cons pe_str (pa_cons pe_str (pa_cons pe_str (pa_cons pe_str pa_nil))))))))))))) (pcall F_take hr (pa_cons (fv 0) (pa_cons pe_int pa_nil))) (fun _ _ => rfl))) (pss_one (ps_ret (pe_slice (x_sl K) (fv 4) po_none (po_some (fv 1)))))) pss_nil) (pss_cons (ps_set (i := 5) sc_text.nd rfl (by first | exact Or.inl rfl | exact Or.inr rfl) (pcall F_count hr (pa_cons (fv 0) (pa_cons pe_int (pa_cons (pe_callB c_min (by rfl) B.min PyProof.Rows.boot_min (pa_cons pe_int (pa_cons (fv 1) pa_nil))) (pa_cons (fv 1) pa_nil)))))) (pss_one (ps_ret (pe_join pe_str (pe_lc (own := [("_law_k", 6)]) (g := gName 6) rfl sc_text.nd (pi_range1 (by rfl) B.range (pa_cons (fv 5) pa_nil)) (blkOk_by (own := [("_law_k", 6)]) (N := ["_law_store_here", "_law_most", "_law_signs", "_law_kind", "_law_word", "_law_long", "_law_k"]) (sc := defScope s_text) (by decide +kernel)) (fun _ _ _ _ _ => pg_name (i := 6) sc_text.nd rfl (Or.inl rfl)) (fun _ _ _ _ _ => pts_nil) (fun _ _ _ _ _ => (pe_ix (x_ix K) (fv 2) (pcall F_take hr (pa_cons (fv 0) (pa_cons pe_int pa_nil))) (fun _ _ => rfl))))))))))))), ?_⟩)
  · obtain ⟨st, cl, m, rfl, _⟩ := h
    rfl
  · obtain ⟨st, cl, m, rfl, hS, m0, m1, q⟩ := h
    refine ⟨st, cl, _, rfl, hS, by decide, fun k H1 k0 k1 g => ?_⟩
    refine iteD (fun e => ?_) (fun e => nxt ⟨rfl, iteD (fun e => ?_) (fun e => nxt ?_)⟩)
    · refine ⟨by show 6 ≤ sizeLine; decide, fun p hp => ?_⟩
      have hp0 : H p = none := g.free hS hp
      refine ⟨st, cl, _, rfl, (g.lay hS hp0).2, by decide, fun r H2 r0 r1 g2 => ?_⟩
      have hx := g2.lst (hS.ne_none hp0) upd_same
      obtain ⟨v, hv, hm⟩ := at_of (xs := [V.str "a", .str "b", .str "", .str "ab", .str "A", .str "z"]) (i := r) r0 (by show r < 6; omega)
      refine ⟨_, v, .inl (SqL.of hx), hv, ?_⟩
      have hf := all_mem (p := fun v => match v with | .str z => txtB 40 z | _ => false) (by decide +kernel) hm
      cases v with
      | str z => exact ⟨_, rfl, txt_line hf (by decide), q _ _ (txt_to m0 hf) ((g.lay hS hp0).trans g2)⟩
      | _ => cases hf
    · refine ⟨by show 12 ≤ sizeLine; decide, fun p hp => ?_⟩
      have hp0 : H p = none := g.free hS hp
      refine ⟨st, cl, _, rfl, (g.lay hS hp0).2, by decide, fun r H2 r0 r1 g2 => ?_⟩
      have hx := g2.lst (hS.ne_none hp0) upd_same
      obtain ⟨v, hv, hm⟩ := at_of (xs := [V.str "\"", .str "none", .str "\\", .str "1", .str "\\\"", .str "true", .str " ", .str "a b", .str "-0", .str "~", .str "from", .str "a.b"]) (i := r) r0 (by show r < 12; omega)
      refine ⟨_, v, .inl (SqL.of hx), hv, ?_⟩
      have hf := all_mem (p := fun v => match v with | .str z => txtB 40 z | _ => false) (by decide +kernel) hm
      cases v with
      | str z => exact ⟨_, rfl, txt_line hf (by decide), q _ _ (txt_to m0 hf) ((g.lay hS hp0).trans g2)⟩
      | _ => cases hf
    · refine ⟨st, cl, _, _, _, rfl, g.2, by split <;> omega, by split <;> omega, by omega, fun n H2 n0 n1 g2 => ?_⟩
      refine ⟨⟨_, rfl⟩, _, rfl, by omega, by omega, fun D hD => ?_⟩
      have gg := g.trans g2
      have hD0 : H D = none := gg.free hS hD
      refine lc_range (n := n.toNat) (fun i H' => ∃ cs : List Nat, cs.length = i ∧ (∀ c ∈ cs, signB c = true) ∧ H' D = some (.lst (cs.map fun c => V.str ⟨#[c]⟩)) ∧ Go st cl H H') ⟨[], rfl, fun _ h => (nomatch h), upd_same, gg.lay hS hD0⟩ (fun i H' hi h => ?_) (fun H' h => ?_)
      · obtain ⟨cs, hl, hc, hd, g3⟩ := h
        refine ⟨rfl, st, cl, _, rfl, g3.2, by decide, fun r H3 r0 r1 g4 => ?_⟩
        obtain ⟨c, ha, hm⟩ := at_of (xs := (Str.ofString " !\"#$&'()*+,-./0123456789:;<=>?@ABCDEFGHIJKLMNOPQRSTUVWXYZ[\\]^_`abcdefghijklmnopqrstuvwxyz{|}~").cps.toList) (i := r) r0 (by
          have e : (Str.ofString " !\"#$&'()*+,-./0123456789:;<=>?@ABCDEFGHIJKLMNOPQRSTUVWXYZ[\\]^_`abcdefghijklmnopqrstuvwxyz{|}~").cps.toList.length = 94 := by decide +kernel
          rw [e]
          omega)
        have hs : signB c = true := List.all_eq_true.mp (show (Str.ofString " !\"#$&'()*+,-./0123456789:;<=>?@ABCDEFGHIJKLMNOPQRSTUVWXYZ[\\]^_`abcdefghijklmnopqrstuvwxyz{|}~").cps.toList.all signB = true by decide +kernel) c hm
        refine ⟨by decide +kernel, c, ha, _, g4.lst (hS.ne_none hD0) hd, ?_, cs ++ [c], ?_, ?_, ?_, (g3.trans g4).lay hS hD0⟩
        · rw [List.length_map]
          exact small1000 (by omega)
        · rw [List.length_append, hl]
          rfl
        · intro d hd
          rcases List.mem_append.mp hd with h | h
          · exact hc d h
          · rw [List.mem_singleton.mp h]
            exact hs
        · rw [upd_same, List.map_append]
          rfl
      · obtain ⟨cs, hl, hc, hd, g3⟩ := h
        refine ⟨_, D, cs.map fun c => ⟨#[c]⟩, rfl, rfl, .inl (SqL.of ?_), ?_, ?_⟩
        · rw [List.map_map]
          exact hd
        · have e : ∀ l : List Nat, ((l.map fun c => (⟨#[c]⟩ : Str)).map (·.length)).sum = l.length := by
            intro l
            induction l with
            | nil => rfl
            | cons c r ih =>
              rw [List.map_cons, List.map_cons, List.sum_cons, ih, List.length_cons]
              show 1 + r.length = r.length + 1
              omega
          have e0 : (Str.ofString "").length = 0 := by decide +kernel
          rw [e, e0]
          omega
        · rw [join_signs]
          exact q _ _ (txt_of (by omega) hc) g3
/-! _law_value -/
def sp_value : Sp := fun vs H Q _ => ∃ (st cl : Addr), vs = [.ref st] ∧ Sto H st cl ∧ ∀ (v : V) H', FlatV v → Go st cl H H' → Q v H'
theorem ok_value {f : Addr} {fd : FuncData} (F : FnP K "_law_value" s_value f fd) (B : Bf mg) (F_take : Fn P w K mg base "_law_take" ["_law_store_here", "_law_many"] 2 sp_take) (F_number : Fn P w K mg base "_law_number" ["_law_store_here"] 3 sp_number) (F_text : Fn P w K mg base "_law_text" ["_law_store_here", "_law_most"] 4 sp_text) : FnOk P w K mg base CX0 5 f fd ["_law_store_here"] sp_value := by
  refine F.ok sc_value (fun vs H Q E h => ?_) (fun cdv A outer s H vs Q E hr h => ⟨_, PSs.nox ((pss_cons (ps_set (i := 1) sc_value.nd rfl (by first | exact Or.inl rfl | exact Or.inr rfl) (pcall F_take hr (pa_cons (fv 0) (pa_cons pe_int pa_nil)))) (pss_cons (ps_if (q_cmp o_lt (fv 1) pe_int) (pss_one (ps_ret (pcall F_take hr (pa_cons (fv 0) (pa_cons pe_int pa_nil))))) pss_nil) (pss_cons (ps_if (q_cmp op_eq (fv 1) pe_int) (pss_one (ps_ret (pe_ix (x_ix K) (pe_lst (pa_cons pe_non (pa_cons pe_bl (pa_cons pe_bl pa_nil)))) (pcall F_take hr (pa_cons (fv 0) (pa_cons pe_int pa_nil))) (fun _ _ => rfl)))) pss_nil) (pss_cons (ps_if (q_cmp op_eq (fv 1) pe_int) (pss_one (ps_ret (pe_ix (x_ix K) (pe_lst (pa_cons pe_int (pa_cons pe_bl (pa_cons pe_str (pa_cons pe_non (pa_cons pe_int (pa_cons pe_bl (pa_cons pe_str (pa_cons (pe_un o_neg pe_int) (pa_cons pe_str (pa_cons pe_str pa_nil))))))))))) (pcall F_take hr (pa_cons (fv 0) (pa_cons pe_int pa_nil))) (fun _ _ => rfl)))) pss_nil) (pss_cons (ps_if (q_cmp o_lt (fv 1) pe_int) (pss_one (ps_ret (pcall F_number hr (pa_cons (fv 0) pa_nil)))) pss_nil) (pss_one (ps_ret (pcall F_text hr (pa_cons (fv 0) (pa_cons pe_int pa_nil))))))))))), ?_⟩)
  · obtain ⟨st, cl, rfl, _⟩ := h
    rfl
  · obtain ⟨st, cl, rfl, hS, q⟩ := h
    refine ⟨st, cl, _, rfl, hS, by decide, fun k H1 k0 k1 g => ?_⟩
    refine iteD (fun e => ⟨st, cl, _, rfl, g.2, by decide, fun r H2 r0 r1 g2 => q _ _ (numB_iff.mpr (by omega)) (g.trans g2)⟩) (fun e => nxt ⟨rfl, iteD (fun e => ?_) (fun e => nxt ⟨rfl, iteD (fun e => ?_) (fun e => nxt (iteD (fun e => ?_) (fun e => nxt ?_)))⟩)⟩)
    · refine ⟨by show 3 ≤ sizeLine; decide, fun p hp => ?_⟩
      have hp0 : H p = none := g.free hS hp
      refine ⟨st, cl, _, rfl, (g.lay hS hp0).2, by decide, fun r H2 r0 r1 g2 => ?_⟩
      have hx := g2.lst (hS.ne_none hp0) upd_same
      obtain ⟨v, hv, hm⟩ := at_of (xs := [V.non, .bl true, .bl false]) (i := r) r0 (by show r < 3; omega)
      exact ⟨_, v, .inl (SqL.of hx), hv, q _ _ (all_mem (by decide +kernel) hm) ((g.lay hS hp0).trans g2)⟩
    · refine ⟨by show 10 ≤ sizeLine; decide, fun p hp => ?_⟩
      have hp0 : H p = none := g.free hS hp
      refine ⟨st, cl, _, rfl, (g.lay hS hp0).2, by decide, fun r H2 r0 r1 g2 => ?_⟩
      have hx := g2.lst (hS.ne_none hp0) upd_same
      obtain ⟨v, hv, hm⟩ := at_of (xs := [V.int 0, .bl false, .str "", .non, .int 1, .bl true, .str "1", .int (-1), .str "none", .str "0"]) (i := r) r0 (by show r < 10; omega)
      exact ⟨_, v, .inl (SqL.of hx), hv, q _ _ (all_mem (by decide +kernel) hm) ((g.lay hS hp0).trans g2)⟩
    · exact ⟨st, cl, rfl, g.2, fun r H2 hr g2 => q _ _ hr (g.trans g2)⟩
    · exact ⟨st, cl, _, rfl, g.2, by decide, by decide, fun z H2 hz g2 => q _ _ hz (g.trans g2)⟩

def sp_odds : Sp := fun vs H Q _ => ∃ (st cl : Addr) (m : Int), vs = [.ref st, .int m] ∧ Sto H st cl ∧ m ≤ 1000000 ∧ ∀ (b : Bool) H', Go st cl H H' → Q (.bl b) H'
theorem ok_odds {f : Addr} {fd : FuncData} (F : FnP K "_law_odds" s_odds f fd) (B : Bf mg) (F_take : Fn P w K mg base "_law_take" ["_law_store_here", "_law_many"] 2 sp_take) : FnOk P w K mg base CX0 3 f fd ["_law_store_here", "_law_many"] sp_odds := by
  refine F.ok sc_odds (fun vs H Q E h => ?_) (fun cdv A outer s H vs Q E hr h => ⟨_, PSs.nox ((pss_one (ps_ret (pe_cmpR op_eq (pcall F_take hr (pa_cons (fv 0) (pa_cons (fv 1) pa_nil))) pe_int (nomark _))))), ?_⟩)
  · obtain ⟨st, cl, m, rfl, _⟩ := h
    rfl
  · obtain ⟨st, cl, m, rfl, hS, hm, q⟩ := h
    exact ⟨st, cl, m, rfl, hS, hm, fun r H1 _ _ g => ⟨rfl, q _ H1 g⟩⟩

/-! ### the program -/
def kindS : V → Str
  | .bl _ => "truth"
  | .int _ => "number"
  | .str _ => "text"
  | _ => "none"
def sp_kind_ofP : Sp := fun vs H Q _ => ∃ v, vs = [v] ∧ FlatV v ∧ Q (.str (kindS v)) H
theorem ok_kind_ofP {f : Addr} {fd : FuncData} (F : FnP K "kind_of" s_kind_ofP f fd) (B : Bf mg) : FnOk P w K mg base CX0 1 f fd ["value"] sp_kind_ofP := by
  refine F.ok sc_kind_ofP (fun vs H Q E h => ?_) (fun cdv A outer s H vs Q E hr h => ⟨_, PSs.nox ((pss_cons (ps_if (q_cmp op_isN (fv 0) pe_non) (pss_one (ps_ret pe_str)) pss_nil) (pss_cons (ps_if (q_tru K (p_isi K kBool kBool_ok B.isinstance B.bool PyProof.Rows.boot_bool (fv 0))) (pss_one (ps_ret pe_str)) pss_nil) (pss_cons (ps_if (q_tru K (p_isi K kInt kInt_ok B.isinstance B.int PyProof.Rows.boot_int (fv 0))) (pss_one (ps_ret pe_str)) pss_nil) (pss_one (ps_ret pe_str)))))), ?_⟩)
  · obtain ⟨v, rfl, _⟩ := h
    rfl
  · obtain ⟨v, rfl, hv, q⟩ := h
    cases v with
    | non => exact ⟨rfl, iteD (fun _ => q) (fun e => absurd rfl e)⟩
    | bl b => exact ⟨rfl, iteD (fun e => nomatch e) (fun _ => q)⟩
    | int i => exact ⟨rfl, iteD (fun e => nomatch e) (fun _ => q)⟩
    | str z => exact ⟨rfl, iteD (fun e => nomatch e) (fun _ => q)⟩
    | _ => cases hv
def sp_key (K : PySem.W.Frag) : Sp := fun vs H Q _ => ∃ v, vs = [v] ∧ FlatV v ∧ ∀ p H', Dp K H' p (keyD v) → Same H H' → Q p H'
theorem ok_sort_keyP {f : Addr} {fd : FuncData} (F : FnP K "sort_key" s_sort_keyP f fd) (B : Bf mg) (F_kind_ofP : Fn P w K mg base "kind_of" ["value"] 1 sp_kind_ofP) : FnOk P w K mg base CX0 2 f fd ["value"] (sp_key K) := by
  refine F.ok sc_sort_keyP (fun vs H Q E h => ?_) (fun cdv A outer s H vs Q E hr h => ⟨_, PSs.nox ((pss_cons (ps_set (i := 1) sc_sort_keyP.nd rfl (by first | exact Or.inl rfl | exact Or.inr rfl) (pcall F_kind_ofP hr (pa_cons (fv 0) pa_nil))) (pss_cons (ps_if (q_cmp op_eq (fv 1) pe_str) (pss_one (ps_ret (pe_tup (pa_cons pe_int (pa_cons pe_int pa_nil))))) pss_nil) (pss_cons (ps_if (q_cmp op_eq (fv 1) pe_str) (pss_one (ps_ret (pe_tup (pa_cons pe_int (pa_cons (pe_ifExp (q_tru K (fv 0)) pe_int pe_int) pa_nil))))) pss_nil) (pss_cons (ps_if (q_cmp op_eq (fv 1) pe_str) (pss_one (ps_ret (pe_tup (pa_cons pe_int (pa_cons (fv 0) pa_nil))))) pss_nil) (pss_one (ps_ret (pe_tup (pa_cons pe_int (pa_cons (fv 0) pa_nil)))))))))), ?_⟩)
  · obtain ⟨v, rfl, _⟩ := h
    rfl
  · obtain ⟨v, rfl, hv, q⟩ := h
    refine ⟨v, rfl, hv, ?_⟩
    have two : 2 ≤ sizeLine := by decide
    have n1 : ¬ V.str "truth" = V.str "none" := by decide +kernel
    have n2 : ¬ V.str "number" = V.str "none" := by decide +kernel
    have n3 : ¬ V.str "number" = V.str "truth" := by decide +kernel
    have n4 : ¬ V.str "text" = V.str "none" := by decide +kernel
    have n5 : ¬ V.str "text" = V.str "truth" := by decide +kernel
    have n6 : ¬ V.str "text" = V.str "number" := by decide +kernel
    cases v with
    | non => exact ⟨rfl, iteD (fun _ => ⟨two, fun p hp => q _ _ (.tup (SqT.of upd_same) (.cons (.int 0) (.cons (.int 0) .nil))) (same_upd hp)⟩) (fun e => absurd rfl e)⟩
    | bl b =>
      refine ⟨rfl, iteD (fun e => absurd e n1) (fun _ => nxt ⟨rfl, iteD (fun _ => ?_) (fun e => absurd rfl e)⟩)⟩
      cases b
      · exact ⟨two, fun p hp => q _ _ (.tup (SqT.of upd_same) (.cons (.int 1) (.cons (.int 0) .nil))) (same_upd hp)⟩
      · exact ⟨two, fun p hp => q _ _ (.tup (SqT.of upd_same) (.cons (.int 1) (.cons (.int 1) .nil))) (same_upd hp)⟩
    | int i => exact ⟨rfl, iteD (fun e => absurd e n2) (fun _ => nxt ⟨rfl, iteD (fun e => absurd e n3) (fun _ => nxt ⟨rfl, iteD (fun _ => ⟨two, fun p hp => q _ _ (.tup (SqT.of upd_same) (.cons (.int 2) (.cons (.int i) .nil))) (same_upd hp)⟩) (fun e => absurd rfl e)⟩)⟩)⟩
    | str z => exact ⟨rfl, iteD (fun e => absurd e n4) (fun _ => nxt ⟨rfl, iteD (fun e => absurd e n5) (fun _ => nxt ⟨rfl, iteD (fun e => absurd e n6) (fun _ => nxt ⟨two, fun p hp => q _ _ (.tup (SqT.of upd_same) (.cons (.int 3) (.cons (.str z) .nil))) (same_upd hp)⟩)⟩)⟩)⟩
    | _ => cases hv

/-- a row at a -/
def Row (K : PySem.W.Frag) (H : Hp) (a : Addr) (xs : List V) : Prop := SqT K H a xs ∧ (∀ x ∈ xs, FlatV x) ∧ xs.length ≤ 12
theorem Row.tk {K : PySem.W.Frag} {H H' : Hp} {a : Addr} {xs : List V} (r : Row K H a xs) (t : Tk H H') : Row K H' a xs := ⟨t.tup r.1, r.2⟩
def sp_rowkey (K : PySem.W.Frag) : Sp := fun vs H Q _ => ∃ a xs, vs = [.ref a] ∧ Row K H a xs ∧ ∀ p H', Dp K H' p (.tuple (xs.map keyD)) → Same H H' → Q p H'
theorem ok_row_keyP {f : Addr} {fd : FuncData} (F : FnP K "row_key" s_row_keyP f fd) (B : Bf mg) (F_sort_keyP : Fn P w K mg base "sort_key" ["value"] 2 (sp_key K)) : FnOk P w K mg base CX0 3 f fd ["row"] (sp_rowkey K) := by
  refine F.ok sc_row_keyP (fun vs H Q E h => ?_) (fun cdv A outer s H vs Q E hr h => ⟨_, PSs.nox ((pss_one (ps_ret (pe_callTy (c_tuple K) (by rfl) B.tuple PyProof.Rows.boot_tuple (pa_cons (pe_lc (own := [("value", 1)]) (g := gName 1) rfl sc_row_keyP.nd (p_seq K (fv 0)) (blkOk_by (own := [("value", 1)]) (N := ["row", "value"]) (sc := defScope s_row_keyP) (by decide +kernel)) (fun _ _ _ _ _ => pg_name (i := 1) sc_row_keyP.nd rfl (Or.inl rfl)) (fun _ _ _ _ _ => pts_nil) (fun _ _ _ _ _ => (pcall F_sort_keyP hr (pa_cons (fv 1) pa_nil)))) pa_nil))))), ?_⟩)
  · obtain ⟨a, xs, rfl, _⟩ := h
    rfl
  · obtain ⟨a, xs, rfl, ⟨hx, hf, hl⟩, q⟩ := h
    refine .inr ⟨⟨_, hx⟩, fun D hD => lc_tup (xs := xs) (fun i H' => Same H H' ∧ ∃ ys, H' D = some (.lst ys) ∧ ys.length = i ∧ DpAll K H' ys ((xs.take i).map keyD)) ⟨same_upd hD, [], upd_same, rfl, .nil⟩ (fun i H' _ h => Same.tup h.1 hx) (fun i x H' hi h => ?_) (fun H' h => ?_)⟩
    · obtain ⟨sm, ys, hy, hn, hd⟩ := h
      have hm : x ∈ xs := List.mem_of_getElem? hi
      have hlt : i < xs.length := (List.getElem?_eq_some_iff.mp hi).1
      refine ⟨rfl, x, rfl, hf x hm, fun p H2 dp s2 => ⟨ys, s2 _ _ hy, small1000 (by omega), fun b u hb => ?_, ys ++ [p], upd_same, by rw [List.length_append, hn]; rfl, ?_⟩⟩
      · rw [upd_ne (ne_of_none hb hD)]
        exact s2 _ _ (sm _ _ hb)
      · have tp : Tk H2 (upd H2 D (.lst (ys ++ [p]))) := Tk.put (s2 _ _ hy)
        rw [List.take_add_one, hi, List.map_append]
        exact DpAll.app (Dp.tkAll ((Tk.same s2).trans tp) _ _ (tupAll_keys fun u hu => hf u (List.mem_of_mem_take hu)) hd) (.cons (Dp.tk tp _ _ (tupD_key (hf x hm)) dp) .nil)
    · obtain ⟨sm, ys, hy, hn, hd⟩ := h
      rw [List.take_length] at hd
      exact ⟨ys, .inl (SqL.of hy), fun p H2 hp s2 => q _ _ (.tup hp (Dp.sameAll s2 _ _ hd)) (sm.trans s2)⟩

/-! ### the law's own keys and order -/
theorem ok_sort_key {f : Addr} {fd : FuncData} (F : FnP K "_law_sort_key" s_sort_key f fd) (B : Bf mg) : FnOk P w K mg base CX0 1 f fd ["_law_value_here"] (sp_key K) := by
  refine F.ok sc_sort_key (fun vs H Q E h => ?_) (fun cdv A outer s H vs Q E hr h => ⟨_, PSs.nox ((pss_cons (ps_if (q_cmp op_isN (fv 0) pe_non) (pss_one (ps_ret (pe_tup (pa_cons pe_int (pa_cons pe_int pa_nil))))) pss_nil) (pss_cons (ps_if (q_tru K (p_isi K kBool kBool_ok B.isinstance B.bool PyProof.Rows.boot_bool (fv 0))) (pss_one (ps_ret (pe_tup (pa_cons pe_int (pa_cons (pe_callTy c_int (by rfl) B.int PyProof.Rows.boot_int (pa_cons (fv 0) pa_nil)) pa_nil))))) pss_nil) (pss_cons (ps_if (q_tru K (p_isi K kInt kInt_ok B.isinstance B.int PyProof.Rows.boot_int (fv 0))) (pss_one (ps_ret (pe_tup (pa_cons pe_int (pa_cons (fv 0) pa_nil))))) pss_nil) (pss_one (ps_ret (pe_tup (pa_cons pe_int (pa_cons (fv 0) pa_nil))))))))), ?_⟩)
  · obtain ⟨v, rfl, _⟩ := h
    rfl
  · obtain ⟨v, rfl, hv, q⟩ := h
    have two : 2 ≤ sizeLine := by decide
    cases v with
    | non => exact ⟨rfl, iteD (fun _ => ⟨two, fun p hp => q _ _ (.tup (SqT.of upd_same) (.cons (.int 0) (.cons (.int 0) .nil))) (same_upd hp)⟩) (fun e => absurd rfl e)⟩
    | bl b =>
      refine ⟨rfl, iteD (fun e => nomatch e) (fun _ => ⟨two, fun p hp => q _ _ (.tup (SqT.of upd_same) (.cons (.int 1) (.cons ?_ .nil))) (same_upd hp)⟩)⟩
      cases b
      · exact .int 0
      · exact .int 1
    | int i => exact ⟨rfl, iteD (fun e => nomatch e) (fun _ => ⟨two, fun p hp => q _ _ (.tup (SqT.of upd_same) (.cons (.int 2) (.cons (.int i) .nil))) (same_upd hp)⟩)⟩
    | str z => exact ⟨rfl, iteD (fun e => nomatch e) (fun _ => ⟨two, fun p hp => q _ _ (.tup (SqT.of upd_same) (.cons (.int 3) (.cons (.str z) .nil))) (same_upd hp)⟩)⟩
    | _ => cases hv

theorem ok_mark {f : Addr} {fd : FuncData} (F : FnP K "_law_mark" s_mark f fd) (B : Bf mg) (F_sort_key : Fn P w K mg base "_law_sort_key" ["_law_value_here"] 1 (sp_key K)) : FnOk P w K mg base CX0 2 f fd ["_law_row_here"] (sp_rowkey K) := by
  refine F.ok sc_mark (fun vs H Q E h => ?_) (fun cdv A outer s H vs Q E hr h => ⟨_, PSs.nox ((pss_one (ps_ret (pe_callTy (c_tuple K) (by rfl) B.tuple PyProof.Rows.boot_tuple (pa_cons (pe_lc (own := [("_law_value_here", 1)]) (g := gName 1) rfl sc_mark.nd (p_seq K (fv 0)) (blkOk_by (own := [("_law_value_here", 1)]) (N := ["_law_row_here", "_law_value_here"]) (sc := defScope s_mark) (by decide +kernel)) (fun _ _ _ _ _ => pg_name (i := 1) sc_mark.nd rfl (Or.inl rfl)) (fun _ _ _ _ _ => pts_nil) (fun _ _ _ _ _ => (pcall F_sort_key hr (pa_cons (fv 1) pa_nil)))) pa_nil))))), ?_⟩)
  · obtain ⟨a, xs, rfl, _⟩ := h
    rfl
  · obtain ⟨a, xs, rfl, ⟨hx, hf, hl⟩, q⟩ := h
    refine .inr ⟨⟨_, hx⟩, fun D hD => lc_tup (xs := xs) (fun i H' => Same H H' ∧ ∃ ys, H' D = some (.lst ys) ∧ ys.length = i ∧ DpAll K H' ys ((xs.take i).map keyD)) ⟨same_upd hD, [], upd_same, rfl, .nil⟩ (fun i H' _ h => Same.tup h.1 hx) (fun i x H' hi h => ?_) (fun H' h => ?_)⟩
    · obtain ⟨sm, ys, hy, hn, hd⟩ := h
      have hm : x ∈ xs := List.mem_of_getElem? hi
      have hlt : i < xs.length := (List.getElem?_eq_some_iff.mp hi).1
      refine ⟨rfl, x, rfl, hf x hm, fun p H2 dp s2 => ⟨ys, s2 _ _ hy, small1000 (by omega), fun b u hb => ?_, ys ++ [p], upd_same, by rw [List.length_append, hn]; rfl, ?_⟩⟩
      · rw [upd_ne (ne_of_none hb hD)]
        exact s2 _ _ (sm _ _ hb)
      · have tp : Tk H2 (upd H2 D (.lst (ys ++ [p]))) := Tk.put (s2 _ _ hy)
        rw [List.take_add_one, hi, List.map_append]
        exact DpAll.app (Dp.tkAll ((Tk.same s2).trans tp) _ _ (tupAll_keys fun u hu => hf u (List.mem_of_mem_take hu)) hd) (.cons (Dp.tk tp _ _ (tupD_key (hf x hm)) dp) .nil)
    · obtain ⟨sm, ys, hy, hn, hd⟩ := h
      rw [List.take_length] at hd
      exact ⟨ys, .inl (SqL.of hy), fun p H2 hp s2 => q _ _ (.tup hp (Dp.sameAll s2 _ _ hd)) (sm.trans s2)⟩

/-! ### sorted_rows -/
def rowAt (ro : Addr → List V) : V → List V
  | .ref p => ro p
  | _ => []
def adV : V → Addr
  | .ref p => p
  | _ => 0
def sp_sorted (K : PySem.W.Frag) : Sp := fun vs H Q _ => ∃ (a : Addr) (rs : List Addr) (ro : Addr → List V), vs = [.ref a] ∧ (SqL K H a (rs.map V.ref) ∨ SqT K H a (rs.map V.ref)) ∧ (∀ r ∈ rs, Row K H r (ro r)) ∧
  ∀ (L : Addr) (ss : List Addr) (H' : Hp), H L = none → Same H H' → H' L = some (.lst (ss.map V.ref)) → ss.Perm rs → ss.Pairwise (fun r t => rowLt (ro t) (ro r) = false) → Q (.ref L) H'
theorem ok_sorted_rowsP {f : Addr} {fd : FuncData} (F : FnP K "sorted_rows" s_sorted_rowsP f fd) (B : Bf mg) (F_row_keyP : Fn P w K mg base "row_key" ["row"] 3 (sp_rowkey K)) : FnOk P w K mg base CX0 5 f fd ["rows"] (sp_sorted K) := by
  refine F.ok sc_sorted_rowsP (fun vs H Q E h => ?_) (fun cdv A outer s H vs Q E hr h => ⟨_, PSs.nox ((pss_one (ps_ret (pe_sortK K F_row_keyP hr B.sorted (fv 0))))), ?_⟩)
  · obtain ⟨a, rs, ro, rfl, _⟩ := h
    rfl
  · obtain ⟨a, rs, ro, rfl, hs, hR, q⟩ := h
    have at_ : ∀ v ∈ rs.map V.ref, ∃ r, r ∈ rs ∧ v = .ref r := fun v hv => by
      obtain ⟨r, hr, e⟩ := List.mem_map.mp hv
      exact ⟨r, hr, e.symm⟩
    refine ⟨a, rs.map V.ref, fun v => (rowAt ro v).map keyD, List (List Int), ltR, fun v => (rowAt ro v).map codeV, rfl, hs, fun v hv => ?_, swoR, fun v hv => ?_, fun u hu v hv => ?_, fun v hv H' sm Q' h => ?_, fun ys H' p h1 h2 hp sm hy => ?_⟩
    · obtain ⟨r, _, e⟩ := at_ v hv
      exact ⟨r, e⟩
    · obtain ⟨r, hr, rfl⟩ := at_ v hv
      refine ⟨shaped_keys (hR r hr).2.1, ?_⟩
      rw [tupD]
      exact tupAll_keys (hR r hr).2.1
    · obtain ⟨r, hr, rfl⟩ := at_ u hu
      obtain ⟨t, ht, rfl⟩ := at_ v hv
      show ltD false (.tuple ((ro r).map keyD)) (.tuple ((ro t).map keyD)) = some (ltR ((ro r).map codeV) ((ro t).map codeV))
      rw [ltD, ltAll_keys (hR r hr).2.1 (hR t ht).2.1, ← rowLt_code (hR r hr).2.1 (hR t ht).2.1]
      rfl
    · obtain ⟨r, hr, rfl⟩ := at_ v hv
      exact ⟨r, ro r, rfl, (hR r hr).tk (Tk.same sm), fun k H'' dk s2 => h k H'' dk s2⟩
    · have hp2 : ys.Perm (rs.map V.ref) := h2.perm
      have ey : ys = (ys.map adV).map V.ref := by
        rw [List.map_map]
        have : ∀ v ∈ ys, (V.ref ∘ adV) v = v := fun v hv => by
          obtain ⟨r, _, rfl⟩ := at_ v (hp2.mem_iff.mp hv)
          rfl
        exact (List.map_id ys).symm.trans (List.map_congr_left fun v hv => (this v hv).symm)
      have hpm : (ys.map adV).Perm rs := by
        have := hp2.map adV
        rw [List.map_map] at this
        have e : rs.map (adV ∘ V.ref) = rs := (List.map_congr_left fun _ _ => rfl).trans (List.map_id rs)
        rw [e] at this
        exact this
      refine q p (ys.map adV) H' hp sm (by rw [← ey]; exact hy) hpm ?_
      refine List.pairwise_map.mpr (h1.imp_of_mem fun {u v} hu hv huv => ?_)
      obtain ⟨r, hr, rfl⟩ := at_ u (hp2.mem_iff.mp hu)
      obtain ⟨t, ht, rfl⟩ := at_ v (hp2.mem_iff.mp hv)
      show rowLt (ro t) (ro r) = false
      rw [rowLt_code (hR t ht).2.1 (hR r hr).2.1]
      exact huv

/-! ### rows drawn -/
def sp_row (K : PySem.W.Frag) : Sp := fun vs H Q _ => ∃ (st cl : Addr), vs = [.ref st] ∧ Sto H st cl ∧ ∀ a xs H', Row K H' a xs → Go st cl H H' → Q (.ref a) H'
theorem ok_row {f : Addr} {fd : FuncData} (F : FnP K "_law_row" s_row f fd) (B : Bf mg) (F_count : Fn P w K mg base "_law_count" ["_law_store_here", "_law_least", "_law_usual", "_law_most"] 3 sp_count) (F_value : Fn P w K mg base "_law_value" ["_law_store_here"] 5 sp_value) : FnOk P w K mg base CX0 6 f fd ["_law_store_here"] (sp_row K) := by
  refine F.ok sc_row (fun vs H Q E h => ?_) (fun cdv A outer s H vs Q E hr h => ⟨_, PSs.nox ((pss_one (ps_ret (pe_callTy (c_tuple K) (by rfl) B.tuple PyProof.Rows.boot_tuple (pa_cons (pe_lc (own := [("_law_k", 1)]) (g := gName 1) rfl sc_row.nd (pi_range1 (by rfl) B.range (pa_cons (pcall F_count hr (pa_cons (fv 0) (pa_cons pe_int (pa_cons pe_int (pa_cons pe_int pa_nil))))) pa_nil)) (blkOk_by (own := [("_law_k", 1)]) (N := ["_law_store_here", "_law_k"]) (sc := defScope s_row) (by decide +kernel)) (fun _ _ _ _ _ => pg_name (i := 1) sc_row.nd rfl (Or.inl rfl)) (fun _ _ _ _ _ => pts_nil) (fun _ _ _ _ _ => (pcall F_value hr (pa_cons (fv 0) pa_nil)))) pa_nil))))), ?_⟩)
  · obtain ⟨st, cl, rfl, _⟩ := h
    rfl
  · obtain ⟨st, cl, rfl, hS, q⟩ := h
    refine ⟨st, cl, _, _, _, rfl, hS, by decide, by decide, by decide, fun n H1 n0 n1 g => ⟨_, rfl, by omega, by omega, fun D hD => ?_⟩⟩
    have hD0 : H D = none := g.free hS hD
    refine lc_range (n := n.toNat) (fun i H' => Go st cl H H' ∧ ∃ ys, H' D = some (.lst ys) ∧ ys.length = i ∧ ∀ y ∈ ys, FlatV y) ⟨g.lay hS hD0, [], upd_same, rfl, fun _ h => (nomatch h)⟩ (fun i H' hi h => ?_) (fun H' h => ?_)
    · obtain ⟨g2, ys, hy, hn, hf⟩ := h
      refine ⟨rfl, st, cl, rfl, g2.2, fun v H2 hv g3 => ⟨ys, g3.lst (hS.ne_none hD0) hy, small1000 (by omega), (g2.trans g3).lay hS hD0, ys ++ [v], upd_same, by rw [List.length_append, hn]; rfl, fun y hm => ?_⟩⟩
      rcases List.mem_append.mp hm with h | h
      · exact hf y h
      · rw [List.mem_singleton.mp h]
        exact hv
    · obtain ⟨g2, ys, hy, hn, hf⟩ := h
      exact ⟨ys, .inl (SqL.of hy), fun p H2 hp s2 => q p ys H2 ⟨hp, hf, by omega⟩ (g2.same s2)⟩
def sp_near (K : PySem.W.Frag) : Sp := fun vs H Q _ => ∃ (st cl a : Addr) (xs : List V), vs = [.ref st, .ref a] ∧ Sto H st cl ∧ Row K H a xs ∧ ∀ b ys H', Row K H' b ys → Go st cl H H' → Q (.ref b) H'
theorem ok_near {f : Addr} {fd : FuncData} (F : FnP K "_law_near" s_near f fd) (B : Bf mg) (F_take : Fn P w K mg base "_law_take" ["_law_store_here", "_law_many"] 2 sp_take) (F_value : Fn P w K mg base "_law_value" ["_law_store_here"] 5 sp_value) : FnOk P w K mg base CX0 6 f fd ["_law_store_here", "_law_row_here"] (sp_near K) := by
  refine F.ok sc_near (fun vs H Q E h => ?_) (fun cdv A outer s H vs Q E hr h => ⟨_, PSs.nox ((pss_cons (ps_set (i := 2) sc_near.nd rfl (by first | exact Or.inl rfl | exact Or.inr rfl) (pcall F_take hr (pa_cons (fv 0) (pa_cons pe_int pa_nil)))) (pss_cut (ps_if (PW.pt (pw_and (q_cmp op_eq (fv 2) pe_int) (pw_and1 (q_cmp o_lt (pe_callB (c_len K) (by rfl) B.len PySem.boot_len (pa_cons (fv 1) pa_nil)) pe_int)))) (pss_one (ps_ret (pe_op (o_add K) (pe_callTy (c_tuple K) (by rfl) B.tuple PyProof.Rows.boot_tuple (pa_cons (fv 1) pa_nil)) (pe_tup (pa_cons (pcall F_value hr (pa_cons (fv 0) pa_nil)) pa_nil))))) pss_nil) (pss_cons (ps_if (q_cmp op_eq (pe_callB (c_len K) (by rfl) B.len PySem.boot_len (pa_cons (fv 1) pa_nil)) pe_int) (pss_one (ps_ret (pe_tup (pa_cons pe_non pa_nil)))) pss_nil) (pss_cons (ps_if (q_cmp op_eq (fv 2) pe_int) (pss_one (ps_ret (pe_callTy (c_tuple K) (by rfl) B.tuple PyProof.Rows.boot_tuple (pa_cons (pe_slice (x_sl K) (fv 1) po_none (po_some (pe_un o_neg pe_int))) pa_nil)))) pss_nil) (pss_cons (ps_set (i := 3) sc_near.nd rfl (by first | exact Or.inl rfl | exact Or.inr rfl) (pcall F_take hr (pa_cons (fv 0) (pa_cons (pe_callB (c_len K) (by rfl) B.len PySem.boot_len (pa_cons (fv 1) pa_nil)) pa_nil)))) (pss_cons (ps_set (i := 4) sc_near.nd rfl (by first | exact Or.inl rfl | exact Or.inr rfl) (pe_ix (x_ix K) (fv 1) (fv 3) (fun _ _ => rfl))) (pss_cut (ps_if (q_tru K (p_isi K kBool kBool_ok B.isinstance B.bool PyProof.Rows.boot_bool (fv 4))) (pss_one (ps_set (i := 4) sc_near.nd rfl (by first | exact Or.inl rfl | exact Or.inr rfl) (pe_callTy c_int (by rfl) B.int PyProof.Rows.boot_int (pa_cons (fv 4) pa_nil)))) (pss_one (ps_if (q_tru K (p_isi K kInt kInt_ok B.isinstance B.int PyProof.Rows.boot_int (fv 4))) (pss_one (ps_set (i := 4) sc_near.nd rfl (by first | exact Or.inl rfl | exact Or.inr rfl) (pe_ix (x_ix K) (pe_lst (pa_cons (pe_slice (x_sl K) (pe_callTy c_str (by rfl) B.str PyProof.Rows.boot_str (pa_cons (fv 4) pa_nil)) po_none (po_some pe_int)) (pa_cons (pe_cmpR op_eq (fv 4) pe_int (nomark _)) (pa_cons (pe_op o_sub (pe_op (o_add K) (fv 4) pe_int) (pe_op o_mul pe_int (pe_callTy c_int (by rfl) B.int PyProof.Rows.boot_int (pa_cons (pe_cmpR o_gt (fv 4) pe_int (nomark _)) pa_nil)))) pa_nil)))) (pcall F_take hr (pa_cons (fv 0) (pa_cons pe_int pa_nil))) (fun _ _ => rfl)))) (pss_one (ps_set (i := 4) sc_near.nd rfl (by first | exact Or.inl rfl | exact Or.inr rfl) (pcall F_value hr (pa_cons (fv 0) pa_nil))))))) (pss_one (ps_ret (pe_op (o_add K) (pe_op (o_add K) (pe_callTy (c_tuple K) (by rfl) B.tuple PyProof.Rows.boot_tuple (pa_cons (pe_slice (x_sl K) (fv 1) po_none (po_some (fv 3))) pa_nil)) (pe_tup (pa_cons (fv 4) pa_nil))) (pe_callTy (c_tuple K) (by rfl) B.tuple PyProof.Rows.boot_tuple (pa_cons (pe_slice (x_sl K) (fv 1) (po_some (pe_op (o_add K) (fv 3) pe_int)) po_none) pa_nil))))))))))))), ?_⟩)
  · obtain ⟨st, cl, a, xs, rfl, _⟩ := h
    rfl
  · obtain ⟨st, cl, a, xs, rfl, hS, hR, q⟩ := h
    have line : ∀ n : Nat, n ≤ 1000 → n ≤ sizeLine := fun n h => Nat.le_of_lt (small1000 h)
    refine ⟨st, cl, _, rfl, hS, by decide, fun k H1 k0 k1 g => ?_⟩
    have t1 := Tk.go g hS
    have hR1 := hR.tk t1
    -- what follows the first if
    refine cutP (fun σ1 H2 => ∃ c d, σ1 = [some (.ref st), some (.ref a), some (.int k), c, d] ∧ H2 = H1) ?_ ?_
    · rintro σ1 H2 ⟨c, d, rfl, rfl⟩
      refine ⟨_, .inr hR1.1, rfl, iteD (fun e => ?_) (fun e => nxt ⟨rfl, iteD (fun e2 => ?_) (fun e2 => nxt ?_)⟩)⟩
      · exact ⟨line 1 (by decide), fun p hp => q p [.non] _ ⟨SqT.of upd_same, fun x hx => by rw [List.mem_singleton.mp hx]; rfl, by show 1 ≤ 12; decide⟩ (g.same (same_upd hp))⟩
      · refine ⟨_, rfl, Or.inr ⟨_, hR1.1, fun p H3 hp s3 => ⟨_, .inr hp, fun p2 H4 hp2 s4 => q p2 _ H4 ⟨hp2, fun x hx => hR.2.1 x (List.mem_of_mem_drop (List.mem_of_mem_take hx)), Nat.le_trans (cutV_length _ _ _) hR.2.2⟩ ((g.same s3).same s4)⟩⟩⟩
      · have h0 : 0 < xs.length := by
          rcases Nat.eq_zero_or_pos xs.length with h | h
          · rw [h] at e
            exact absurd rfl e
          · exact h
        have hlen := hR.2.2
        refine ⟨_, .inr hR1.1, st, cl, _, rfl, g.2, by omega, fun at_ H3 a0 a1 g2 => ?_⟩
        have gg := g.trans g2
        have hR3 := hR.tk (Tk.go gg hS)
        obtain ⟨v, hv, hm⟩ := at_of (xs := xs) a0 (by omega)
        refine ⟨_, v, .inr hR3.1, hv, ?_⟩
        have fv := hR.2.1 v hm
        -- the end: the row with another value
        refine cutP (fun σ1 H4 => ∃ u, σ1 = [some (.ref st), some (.ref a), some (.int k), some (.int at_), some u] ∧ FlatV u ∧ Go st cl H H4) ?_ ?_
        · rintro σ1 H4 ⟨u, rfl, fu, g4⟩
          have hR4 := hR.tk (Tk.go g4 hS)
          refine ⟨_, rfl, Or.inr ⟨_, hR4.1, fun p H5 hp s5 => ⟨_, .inr hp, fun p1 H6 hp1 s6 => ⟨line 1 (by decide), fun t ht => ?_⟩⟩⟩⟩
          have s7 : Same H6 (upd H6 t (.tup [u])) := same_upd ht
          have e1 : (cutV xs none (some at_)).length = at_.toNat := by
            unfold cutV
            have e : ((at_.toNat : Nat) : Int) = at_ := by omega
            rw [← e, HT.sIx_nat, HT.sIx_none, List.length_take, List.length_drop]
            omega
          have e2 : (cutV xs (some (at_ + 1)) none).length = xs.length - (at_.toNat + 1) := by
            unfold cutV
            have e : ((at_.toNat + 1 : Nat) : Int) = at_ + 1 := by omega
            rw [← e, HT.sIx_nat, HT.sIx_none, List.length_take, List.length_drop]
            omega
          refine Or.inr ⟨_, _, Same.tup s7 hp1, SqT.of upd_same, line _ (by rw [e1]; show _ + 1 ≤ _; omega), fun p2 H8 hp2 s8 => ?_⟩
          have sA : Same H4 H8 := ((s5.trans s6).trans s7).trans s8
          refine ⟨_, rfl, Or.inr ⟨_, Same.tup sA hR4.1, fun p3 H9 hp3 s9 => ⟨_, .inr hp3, fun p4 H10 hp4 s10 => ?_⟩⟩⟩
          refine Or.inr ⟨_, _, Same.tup (s9.trans s10) hp2, hp4, line _ (by rw [List.length_append, e1, e2]; show _ + 1 + _ ≤ _; omega), fun p5 H11 hp5 s11 => ?_⟩
          refine q p5 _ H11 ⟨hp5, fun x hx => ?_, ?_⟩ (((g4.same sA).same (s9.trans s10)).same s11)
          · rcases List.mem_append.mp hx with h | h
            · rcases List.mem_append.mp h with h | h
              · exact hR.2.1 x (List.mem_of_mem_drop (List.mem_of_mem_take h))
              · rw [List.mem_singleton.mp h]
                exact fu
            · exact hR.2.1 x (List.mem_of_mem_drop (List.mem_of_mem_take h))
          · rw [List.length_append, List.length_append, e1, e2]
            show _ + 1 + _ ≤ _
            omega
        · intro rest
          cases v with
          | bl b =>
            cases b
            · exact rest _ _ ⟨_, rfl, by decide +kernel, gg⟩
            · exact rest _ _ ⟨_, rfl, by decide +kernel, gg⟩
          | int i =>
            have hi := numB_iff.mp fv
            refine ⟨num_log fv, 30, rfl, txt_line (txt_int fv) (by decide), rfl, Or.inl ⟨by decide, by decide⟩, line 3 (by decide), fun p hp => ?_⟩
            have hp0 : H p = none := gg.free hS hp
            refine ⟨st, cl, _, rfl, (gg.lay hS hp0).2, by decide, fun r H4 r0 r1 g4 => ?_⟩
            have hx := g4.lst (hS.ne_none hp0) upd_same
            obtain ⟨u, hu, hmu⟩ := at_of (xs := [V.str (cutS (Str.ofString (toString i)) none (some 30)), V.bl (decide (V.int i = V.int 1)), V.int (i + 1 - 2 * (if decide (0 < i) = true then 1 else 0))]) (i := r) r0 (by show r < 3; omega)
            refine ⟨_, u, .inl (SqL.of hx), hu, rest _ _ ⟨u, rfl, ?_, (gg.lay hS hp0).trans g4⟩⟩
            rcases List.mem_cons.mp hmu with e | hmu
            · rw [e]
              exact txt_mono (n := 31) (by decide) (txt_cut (txt_int fv))
            · rcases List.mem_cons.mp hmu with e | hmu
              · rw [e]
                rfl
              · rw [List.mem_singleton.mp hmu]
                refine numB_iff.mpr ?_
                by_cases hi0 : 0 < i
                · rw [if_pos (decide_eq_true hi0)]
                  omega
                · rw [if_neg (by rw [decide_eq_false hi0]; exact Bool.false_ne_true)]
                  omega
          | non => exact ⟨st, cl, rfl, gg.2, fun v2 H4 hv2 g4 => rest _ _ ⟨_, rfl, hv2, gg.trans g4⟩⟩
          | str z => exact ⟨st, cl, rfl, gg.2, fun v2 H4 hv2 g4 => rest _ _ ⟨_, rfl, hv2, gg.trans g4⟩⟩
          | _ => cases fv
    · intro rest
      refine ⟨rfl, iteD (fun e => ?_) (fun e => iteF (nxt (rest _ _ ⟨_, _, rfl, rfl⟩)))⟩
      refine ⟨_, .inr hR1.1, iteD (fun e2 => ?_) (fun e2 => nxt (rest _ _ ⟨_, _, rfl, rfl⟩))⟩
      refine ⟨_, .inr hR1.1, fun p H2 hp s2 => ⟨st, cl, rfl, (g.same s2).2, fun v H3 hv g3 => ⟨line 1 (by decide), fun t ht => ?_⟩⟩⟩
      have hp3 : SqT K H3 p xs := g3.tup (g.same s2).2 hp
      have s4 : Same H3 (upd H3 t (.tup [v])) := same_upd ht
      have hl : xs.length ≤ 12 := hR.2.2
      refine Or.inr ⟨_, _, Same.tup s4 hp3, SqT.of upd_same, line _ (by show _ + 1 ≤ _; omega), fun p2 H5 hp2 s5 => q p2 _ H5 ⟨hp2, fun x hx => ?_, ?_⟩ ((((g.same s2).trans g3).same s4).same s5)⟩
      · rcases List.mem_append.mp hx with h | h
        · exact hR.2.1 x h
        · rw [List.mem_singleton.mp h]
          exact hv
      · rw [List.length_append]
        show _ + 1 ≤ _
        omega
def sp_rows (K : PySem.W.Frag) : Sp := fun vs H Q _ => ∃ (st cl : Addr) (u m : Int), vs = [.ref st, .int u, .int m] ∧ Sto H st cl ∧ 0 ≤ u ∧ u ≤ m ∧ m ≤ 100 ∧ ∀ (L : Addr) (as : List Addr) H', H L = none → H' L = some (.lst (as.map V.ref)) → (∀ a ∈ as, ∃ xs, Row K H' a xs) → (as.length : Int) ≤ m → Go st cl H H' → Q (.ref L) H'
theorem ok_rows {f : Addr} {fd : FuncData} (F : FnP K "_law_rows" s_rows f fd) (B : Bf mg) (F_take : Fn P w K mg base "_law_take" ["_law_store_here", "_law_many"] 2 sp_take) (F_count : Fn P w K mg base "_law_count" ["_law_store_here", "_law_least", "_law_usual", "_law_most"] 3 sp_count) (F_one : Fn P w K mg base "_law_one" ["_law_store_here", "_law_row_here"] 3 (sp_one K))
    (F_row : Fn P w K mg base "_law_row" ["_law_store_here"] 6 (sp_row K)) (F_near : Fn P w K mg base "_law_near" ["_law_store_here", "_law_row_here"] 6 (sp_near K)) : FnOk P w K mg base CX0 7 f fd ["_law_store_here", "_law_usual", "_law_most"] (sp_rows K) := by
  refine F.ok sc_rows (fun vs H Q E h => ?_) (fun cdv A outer s H vs Q E hr h => ⟨_, PSs.nox ((pss_cons (ps_set (i := 3) sc_rows.nd rfl (by first | exact Or.inl rfl | exact Or.inr rfl) (pe_lst pa_nil)) (pss_cons (ps_for PassesOwn.never rfl (pi_range1 (by rfl) B.range (pa_cons (pcall F_count hr (pa_cons (fv 0) (pa_cons pe_int (pa_cons (fv 1) (pa_cons (fv 2) pa_nil))))) pa_nil)) (pg_name (i := 4) sc_rows.nd rfl (by first | exact Or.inl rfl | exact Or.inr rfl)) (pss_cons (ps_set (i := 5) sc_rows.nd rfl (by first | exact Or.inl rfl | exact Or.inr rfl) (pcall F_take hr (pa_cons (fv 0) (pa_cons pe_int pa_nil)))) (pss_one (ps_if (PW.pt (pw_and (q_cmp op_eq (fv 5) pe_int) (pw_and1 (q_cmp o_gt (pe_callB (c_len K) (by rfl) B.len PySem.boot_len (pa_cons (fv 3) pa_nil)) pe_int)))) (pss_one (ps_expr (pe_bm PySem.F.plainAttrs_list PySem.F.slot_list_append PySem.F.type_list_append mt_append (fv 3) (pa_cons (pcall F_one hr (pa_cons (fv 0) (pa_cons (fv 3) pa_nil))) pa_nil)))) (pss_one (ps_if (PW.pt (pw_and (q_cmp op_eq (fv 5) pe_int) (pw_and1 (q_cmp o_gt (pe_callB (c_len K) (by rfl) B.len PySem.boot_len (pa_cons (fv 3) pa_nil)) pe_int)))) (pss_one (ps_expr (pe_bm PySem.F.plainAttrs_list PySem.F.slot_list_append PySem.F.type_list_append mt_append (fv 3) (pa_cons (pcall F_near hr (pa_cons (fv 0) (pa_cons (pcall F_one hr (pa_cons (fv 0) (pa_cons (fv 3) pa_nil))) pa_nil))) pa_nil)))) (pss_one (ps_expr (pe_bm PySem.F.plainAttrs_list PySem.F.slot_list_append PySem.F.type_list_append mt_append (fv 3) (pa_cons (pcall F_row hr (pa_cons (fv 0) pa_nil)) pa_nil)))))))))) (pss_one (ps_ret (fv 3)))))), ?_⟩)
  · obtain ⟨st, cl, u, m, rfl, _⟩ := h
    rfl
  · obtain ⟨st, cl, u, m, rfl, hS, u0, u1, m1, q⟩ := h
    refine ⟨Nat.zero_le _, fun L hL => ?_⟩
    have g0 : Go st cl H (upd H L (.lst [])) := (Go.refl hS).lay hS hL
    have nL : L ≠ st := hS.ne_none hL
    refine ⟨st, cl, _, _, _, rfl, g0.2, by omega, by omega, by omega, fun n H1 n0 n1 g1 => ⟨_, rfl, by omega, by omega, for_range (n := n.toNat) (fun i σ H' => ∃ (y z : Option V) (as : List Addr), σ = [some (.ref st), some (.int u), some (.int m), some (.ref L), y, z] ∧ Go st cl H H' ∧ H' L = some (.lst (as.map V.ref)) ∧ as.length = i ∧ ∀ a ∈ as, ∃ xs, Row K H' a xs) ⟨_, _, [], rfl, g0.trans g1, g1.lst nL upd_same, rfl, fun _ h => (nomatch h)⟩ (fun i σ H' hi h => ?_) (fun σ H' h => ?_)⟩⟩
    · obtain ⟨y, z, as, rfl, g, hl, hn, hr⟩ := h
      -- one more row, wherever it comes from
      have put : ∀ (y z : Option V) (H2 : Hp) (a : Addr) (xs : List V), Go st cl H H2 → Tk H' H2 → H2 L = some (.lst (as.map V.ref)) → Row K H2 a xs →
          ∃ (y' z' : Option V) (as' : List Addr), [some (.ref st), some (.int u), some (.int m), some (.ref L), y, z] = [some (.ref st), some (.int u), some (.int m), some (V.ref L), y', z'] ∧ Go st cl H (upd H2 L (.lst (as.map V.ref ++ [.ref a]))) ∧ (upd H2 L (.lst (as.map V.ref ++ [.ref a]))) L = some (.lst (as'.map V.ref)) ∧ as'.length = i + 1 ∧ ∀ b ∈ as', ∃ xs, Row K (upd H2 L (.lst (as.map V.ref ++ [.ref a]))) b xs := by
        intro y z H2 a xs g2 tk hl2 ra
        have tp : Tk H2 (upd H2 L (.lst (as.map V.ref ++ [.ref a]))) := Tk.put hl2
        refine ⟨y, z, as ++ [a], rfl, g2.lay hS hL, by rw [upd_same, List.map_append]; rfl, by rw [List.length_append, hn]; rfl, fun b hb => ?_⟩
        rcases List.mem_append.mp hb with h | h
        · obtain ⟨ys, ry⟩ := hr b h
          exact ⟨ys, ry.tk (tk.trans tp)⟩
        · rw [List.mem_singleton.mp h]
          exact ⟨xs, ra.tk tp⟩
      have line : (as.map V.ref).length < sizeLine := by
        rw [List.length_map]
        exact small1000 (by omega)
      have many : (as.map V.ref).length ≤ 1000000 := by
        rw [List.length_map]
        omega
      have ne : (0 : Int) < ((as.map V.ref).length : Int) → as.map V.ref ≠ [] := fun e z => by
        rw [z] at e
        exact absurd e (by decide)
      refine ⟨st, cl, _, rfl, g.2, by decide, fun k H2 k0 k1 g2 => ?_⟩
      have gg := g.trans g2
      have hl2 := g2.lst nL hl
      have tk2 : Tk H' H2 := Tk.go g2 g.2
      refine ⟨rfl, iteD (fun e => ?_) (fun e => ?_)⟩
      · refine ⟨_, .inl (SqL.of hl2), iteD (fun e2 => ?_) (fun e2 => ?_)⟩
        · refine ⟨Or.inl ⟨rfl, _, SqL.of hl2⟩, st, cl, L, _, rfl, gg.2, nL, .inl (SqL.of hl2), ne e2, many, fun v hv H3 g3 => ?_⟩
          obtain ⟨a, ha, rfl⟩ := List.mem_map.mp hv
          obtain ⟨xs, rx⟩ := hr a ha
          exact ⟨L, _, _, rfl, rfl, g3.lst nL hl2, line, put _ _ H3 a xs (gg.trans g3) (tk2.trans (Tk.go g3 gg.2)) (g3.lst nL hl2) (rx.tk (tk2.trans (Tk.go g3 gg.2)))⟩
        · refine ⟨rfl, iteD (fun e3 => ?_) (fun e3 => ?_)⟩
          · exact absurd (V.int.inj (e.symm.trans e3)) (by decide)
          · exact ⟨Or.inl ⟨rfl, _, SqL.of hl2⟩, st, cl, rfl, gg.2, fun a xs H3 ra g3 => ⟨L, _, _, rfl, rfl, g3.lst nL hl2, line, put _ _ H3 a xs (gg.trans g3) (tk2.trans (Tk.go g3 gg.2)) (g3.lst nL hl2) ra⟩⟩
      · refine ⟨rfl, iteD (fun e3 => ?_) (fun e3 => ?_)⟩
        · refine ⟨_, .inl (SqL.of hl2), iteD (fun e2 => ?_) (fun e2 => ?_)⟩
          · refine ⟨Or.inl ⟨rfl, _, SqL.of hl2⟩, st, cl, L, _, rfl, gg.2, nL, .inl (SqL.of hl2), ne e2, many, fun v hv H3 g3 => ?_⟩
            obtain ⟨a, ha, rfl⟩ := List.mem_map.mp hv
            obtain ⟨xs, rx⟩ := hr a ha
            refine ⟨st, cl, a, xs, rfl, g3.2, rx.tk (tk2.trans (Tk.go g3 gg.2)), fun b ys H4 rb g4 => ?_⟩
            have hl4 := g4.lst nL (g3.lst nL hl2)
            exact ⟨L, _, _, rfl, rfl, hl4, line, put _ _ H4 b ys ((gg.trans g3).trans g4) ((tk2.trans (Tk.go g3 gg.2)).trans (Tk.go g4 g3.2)) hl4 rb⟩
          · exact ⟨Or.inl ⟨rfl, _, SqL.of hl2⟩, st, cl, rfl, gg.2, fun a xs H3 ra g3 => ⟨L, _, _, rfl, rfl, g3.lst nL hl2, line, put _ _ H3 a xs (gg.trans g3) (tk2.trans (Tk.go g3 gg.2)) (g3.lst nL hl2) ra⟩⟩
        · exact ⟨Or.inl ⟨rfl, _, SqL.of hl2⟩, st, cl, rfl, gg.2, fun a xs H3 ra g3 => ⟨L, _, _, rfl, rfl, g3.lst nL hl2, line, put _ _ H3 a xs (gg.trans g3) (tk2.trans (Tk.go g3 gg.2)) (g3.lst nL hl2) ra⟩⟩
    · obtain ⟨y, z, as, rfl, g, hl, hn, hr⟩ := h
      exact q L as H' hL hl hr (by omega) g

/-! ### _law_same: whether two data are the same, lists and tuples within -/
def sp_same (K : PySem.W.Frag) : Nat → Sp
  | 0 => fun _ _ _ _ => False
  | n + 1 => fun vs H Q _ => ∃ x y d e, vs = [x, y] ∧ Dp K H x d ∧ Dp K H y e ∧ d.depth ≤ n ∧ ∀ b H', (b = true ↔ d = e) → Same H H' → Q (.bl b) H'
theorem not_same {p : Prop} (h : ¬ p) : false = true ↔ p := ⟨(fun z => nomatch z), fun z => absurd z h⟩
theorem seq_same {H H' : Hp} {a : Addr} {xs : List V} (e : Same H H') (h : SqL K H a xs ∨ SqT K H a xs) : SqL K H' a xs ∨ SqT K H' a xs := h.imp e.seq (Same.tup e)
theorem same_loop {n : Nat} {a b : Addr} {xs ys : List V} {ds es : List PyData} {D : Ends} {H0 : Hp} (hx : SqL K H0 a xs ∨ SqT K H0 a xs) (hy : SqL K H0 b ys ∨ SqT K H0 b ys) (hd : DpAll K H0 xs ds) (he : DpAll K H0 ys es) (hn : PyData.depthAll ds ≤ n) (hl : ds.length = es.length)
    (q : ∀ b H', (b = true ↔ ds = es) → Same H0 H' → D.rt (.bl b) H') :
    tSeq (tFor (iRng1 (tCons (tCB (fLenB K) (tCons (fVar 0) tNil)) tNil)) (gName 2) (tIfS (tNot (fTru K (tCall (sp_same K (n + 1)) [] E0 (tCons (tOp (fIx K) (fVar 0) (fVar 2)) (tCons (tOp (fIx K) (fVar 1) (fVar 2)) tNil))))) (tRet (tC (V.bl false))) tNext))
      (tRet (tC (V.bl true))) D [some (.ref a), some (.ref b), none, none] H0 := by
  have lx := DpAll.length hd
  have ly := DpAll.length he
  refine ⟨xs, hx, fun hb => ⟨_, rfl, by omega, by rw [sizeLine_eq] at hb; omega, for_range (n := xs.length) (fun i σ H' => Same H0 H' ∧ (∃ c, σ = [some (.ref a), some (.ref b), c, none]) ∧ ds.take i = es.take i) ⟨Same.refl _, ⟨_, rfl⟩, rfl⟩ (fun i σ H' hi h => ?_) (fun σ H' h => ?_)⟩⟩
  · obtain ⟨sm, ⟨c, rfl⟩, ht⟩ := h
    obtain ⟨v, hv, dv⟩ := DpAll.get hd (i := i) (d := ds[i]) (List.getElem?_eq_getElem (by omega))
    obtain ⟨u, hu, du⟩ := DpAll.get he (i := i) (d := es[i]) (List.getElem?_eq_getElem (by omega))
    have z : (0 : Int) + (i : Int) = (i : Int) := by omega
    have av : atI xs (0 + (i : Int)) = some v := by
      rw [z]
      exact atI_nat hv
    have au : atI ys (0 + (i : Int)) = some u := by
      rw [z]
      exact atI_nat hu
    refine ⟨_, v, seq_same sm hx, av, _, u, seq_same sm hy, au, v, u, ds[i], es[i], rfl, Dp.same sm _ _ dv, Dp.same sm _ _ du, Nat.le_trans (depth_mem (List.getElem_mem _)) hn, fun b H2 hb s2 => ?_⟩
    cases b with
    | true =>
      refine ⟨sm.trans s2, ⟨_, rfl⟩, ?_⟩
      rw [List.take_add_one, List.take_add_one, ht, List.getElem?_eq_getElem (by omega), List.getElem?_eq_getElem (by omega), hb.mp rfl]
    | false =>
      refine q false H2 (not_same fun e => ?_) (sm.trans s2)
      subst e
      exact absurd (hb.mpr rfl) Bool.false_ne_true
  · obtain ⟨sm, ⟨c, rfl⟩, ht⟩ := h
    rw [lx, List.take_length] at ht
    rw [hl, List.take_length] at ht
    exact q true H' ⟨fun _ => ht, fun _ => rfl⟩ sm
theorem ok_same {f : Addr} {fd : FuncData} (F : FnP K "_law_same" s_same f fd) (B : Bf mg) (hm : mg "_law_same" = some (.ref f)) (hk : PySem.W.keepIn K (.ref f) = true) (hb : Binds K fd ["_law_left", "_law_right"] []) :
    ∀ n, FnOk P w K mg base CX0 n f fd ["_law_left", "_law_right"] (sp_same K n) := by
  intro n
  induction n with
  | zero => exact ⟨fun _ _ _ _ h => h.elim, fun _ _ _ _ _ _ _ _ _ _ _ _ _ h => h.elim⟩
  | succ n ih =>
    have F_same : Fn P w K mg base "_law_same" ["_law_left", "_law_right"] n (sp_same K n) := ⟨f, fd, ih, hm, hk, hb⟩
    refine F.ok sc_same (fun vs H Q E h => ?_) (fun cdv A outer s H vs Q E hr h => ⟨_, PSs.nox ((pss_cons (ps_if (q_tru K (p_isiTL K B.isinstance B.tuple B.list (fv 0))) (pss_cons (ps_if (PW.pt (pw_and (pt_not (q_tru K (p_isi K kTup kTup_ok B.isinstance B.tuple PyProof.Rows.boot_tuple (fv 1)))) (pw_and1 (pt_not (q_tru K (p_isi K kLst kLst_ok B.isinstance B.list PyProof.Rows.boot_list (fv 1))))))) (pss_one (ps_ret pe_bl)) pss_nil) (pss_cons (ps_if (PW.pt (pw_or (q_cmp op_ne (p_isi K kTup kTup_ok B.isinstance B.tuple PyProof.Rows.boot_tuple (fv 0)) (p_isi K kTup kTup_ok B.isinstance B.tuple PyProof.Rows.boot_tuple (fv 1))) (pw_or1 (q_cmp op_ne (pe_callB (c_lenB K) (by rfl) B.len PySem.boot_len (pa_cons (fv 0) pa_nil)) (pe_callB (c_lenB K) (by rfl) B.len PySem.boot_len (pa_cons (fv 1) pa_nil)))))) (pss_one (ps_ret pe_bl)) pss_nil) (pss_cons (ps_for PassesOwn.never rfl (pi_range1 (by rfl) B.range (pa_cons (pe_callB (c_lenB K) (by rfl) B.len PySem.boot_len (pa_cons (fv 0) pa_nil)) pa_nil)) (pg_name (i := 2) sc_same.nd rfl (by first | exact Or.inl rfl | exact Or.inr rfl)) (pss_one (ps_if (pt_not (q_tru K (pcall F_same hr (pa_cons (pe_ix (x_ix K) (fv 0) (fv 2) (fun _ _ => rfl)) (pa_cons (pe_ix (x_ix K) (fv 1) (fv 2) (fun _ _ => rfl)) pa_nil))))) (pss_one (ps_ret pe_bl)) pss_nil))) (pss_one (ps_ret pe_bl))))) pss_nil) (pss_cons (ps_if (q_tru K (p_isi K kDct kDct_ok B.isinstance B.dict (by decide +kernel) (fv 0))) pss_never pss_nil) (pss_cons (ps_if (PW.pt (pw_or (q_cmp op_isN (fv 0) pe_non) (pw_or1 (q_cmp op_isN (fv 1) pe_non)))) (pss_one (ps_ret (f_and (pe_cmpR op_isN (fv 0) pe_non (nomark _)) (pe_one (pe_cmpR op_isN (fv 1) pe_non (nomark _)))))) pss_nil) (pss_cons (ps_if (PW.pt (pw_or (q_tru K (p_isi K kBool kBool_ok B.isinstance B.bool PyProof.Rows.boot_bool (fv 0))) (pw_or1 (q_tru K (p_isi K kBool kBool_ok B.isinstance B.bool PyProof.Rows.boot_bool (fv 1)))))) (pss_one (ps_ret (f_and (p_isi K kBool kBool_ok B.isinstance B.bool PyProof.Rows.boot_bool (fv 0)) (f_and (p_isi K kBool kBool_ok B.isinstance B.bool PyProof.Rows.boot_bool (fv 1)) (pe_one (pe_cmpR op_eq (fv 0) (fv 1) (nomark _))))))) pss_nil) (pss_cons (ps_if (q_tru K (p_isi K kInt kInt_ok B.isinstance B.int PyProof.Rows.boot_int (fv 0))) (pss_one (ps_ret (f_and (p_isi K kInt kInt_ok B.isinstance B.int PyProof.Rows.boot_int (fv 1)) (pe_one (pe_cmpR op_eq (fv 0) (fv 1) (nomark _)))))) pss_nil) (pss_one (ps_ret (f_and (p_isi K kStr kStr_ok B.isinstance B.str PyProof.Rows.boot_str (fv 0)) (f_and (p_isi K kStr kStr_ok B.isinstance B.str PyProof.Rows.boot_str (fv 1)) (pe_one (pe_cmpR op_eq (fv 0) (fv 1) (nomark _))))))))))))), ?_⟩)
    · obtain ⟨x, y, d, e, rfl, _⟩ := h
      rfl
    · obtain ⟨x, y, d, e, rfl, hd, he, hn, q⟩ := h
      refine fun T hT => ?_
      have s0 : Same H (upd H T (.tup [.ty "tuple", .ty "list"])) := same_upd hT
      -- two sequences of one kind
      have go : ∀ (a b : Addr) (xs ys : List V) (ds es : List PyData), (SqL K H a xs ∨ SqT K H a xs) → (SqL K H b ys ∨ SqT K H b ys) → DpAll K H xs ds → DpAll K H ys es → PyData.depthAll ds + 1 ≤ n → ds.length = es.length → (∀ b H', (b = true ↔ ds = es) → Same H H' → Q (.bl b) H') →
          ∀ (nx : L2.St → Hp → Prop), tSeq (tFor (iRng1 (tCons (tCB (fLenB K) (tCons (fVar 0) tNil)) tNil)) (gName 2) (tIfS (tNot (fTru K (tCall (sp_same K n) [] E0 (tCons (tOp (fIx K) (fVar 0) (fVar 2)) (tCons (tOp (fIx K) (fVar 1) (fVar 2)) tNil))))) (tRet (tC (V.bl false))) tNext))
            (tRet (tC (V.bl true))) { nx := nx, rt := Q } [some (.ref a), some (.ref b), none, none] (upd H T (.tup [.ty "tuple", .ty "list"])) := by
        intro a b xs ys ds es hx hy hd he hn hl q nx
        obtain ⟨m, rfl⟩ : ∃ m, n = m + 1 := ⟨n - 1, by omega⟩
        exact same_loop (seq_same s0 hx) (seq_same s0 hy) (Dp.sameAll s0 _ _ hd) (Dp.sameAll s0 _ _ he) (by omega) hl fun b H' hb s1 => q b H' hb (s0.trans s1)
      cases hd with
      | non =>
        refine ⟨rfl, iteD (fun _ => ⟨rfl, rfl, q _ _ ?_ s0⟩) (fun z => absurd rfl z)⟩
        cases he <;> simp
      | bl b =>
        cases he with
        | non => exact ⟨rfl, iteD (fun z => nomatch z) (fun _ => ⟨rfl, iteD (fun _ => ⟨rfl, q _ _ (not_same nofun) s0⟩) (fun z => absurd rfl z)⟩)⟩
        | bl c => exact ⟨rfl, iteD (fun z => nomatch z) (fun _ => ⟨rfl, iteD (fun z => nomatch z) (fun _ => ⟨rfl, q _ _ (by simp) s0⟩)⟩)⟩
        | int j => exact ⟨rfl, iteD (fun z => nomatch z) (fun _ => ⟨rfl, iteD (fun z => nomatch z) (fun _ => q _ _ (not_same nofun) s0)⟩)⟩
        | str z => exact ⟨rfl, iteD (fun z => nomatch z) (fun _ => ⟨rfl, iteD (fun z => nomatch z) (fun _ => q _ _ (not_same nofun) s0)⟩)⟩
        | lst k1 k2 => exact ⟨rfl, iteD (fun z => nomatch z) (fun _ => ⟨rfl, iteD (fun z => nomatch z) (fun _ => Or.inl ⟨_, s0.seq k1, q _ _ (not_same nofun) s0⟩)⟩)⟩
        | tup k1 k2 => exact ⟨rfl, iteD (fun z => nomatch z) (fun _ => ⟨rfl, iteD (fun z => nomatch z) (fun _ => Or.inr (Or.inl ⟨_, Same.tup s0 k1, q _ _ (not_same nofun) s0⟩))⟩)⟩
      | int i =>
        cases he with
        | non => exact ⟨rfl, iteD (fun z => nomatch z) (fun _ => ⟨rfl, iteD (fun _ => ⟨rfl, q _ _ (not_same nofun) s0⟩) (fun z => absurd rfl z)⟩)⟩
        | bl c => exact ⟨rfl, iteD (fun z => nomatch z) (fun _ => ⟨rfl, iteD (fun z => nomatch z) (fun _ => q _ _ (not_same nofun) s0)⟩)⟩
        | int j => exact ⟨rfl, iteD (fun z => nomatch z) (fun _ => ⟨rfl, iteD (fun z => nomatch z) (fun _ => ⟨rfl, q _ _ (by simp) s0⟩)⟩)⟩
        | str z => exact ⟨rfl, iteD (fun z => nomatch z) (fun _ => ⟨rfl, iteD (fun z => nomatch z) (fun _ => q _ _ (not_same nofun) s0)⟩)⟩
        | lst k1 k2 => exact ⟨rfl, iteD (fun z => nomatch z) (fun _ => ⟨rfl, iteD (fun z => nomatch z) (fun _ => Or.inl ⟨_, s0.seq k1, Or.inl ⟨_, s0.seq k1, q _ _ (not_same nofun) s0⟩⟩)⟩)⟩
        | tup k1 k2 => exact ⟨rfl, iteD (fun z => nomatch z) (fun _ => ⟨rfl, iteD (fun z => nomatch z) (fun _ => Or.inr (Or.inl ⟨_, Same.tup s0 k1, Or.inr (Or.inl ⟨_, Same.tup s0 k1, q _ _ (not_same nofun) s0⟩)⟩))⟩)⟩
      | str x =>
        cases he with
        | non => exact ⟨rfl, iteD (fun z => nomatch z) (fun _ => ⟨rfl, iteD (fun _ => ⟨rfl, q _ _ (not_same nofun) s0⟩) (fun z => absurd rfl z)⟩)⟩
        | bl c => exact ⟨rfl, iteD (fun z => nomatch z) (fun _ => ⟨rfl, iteD (fun z => nomatch z) (fun _ => q _ _ (not_same nofun) s0)⟩)⟩
        | int j => exact ⟨rfl, iteD (fun z => nomatch z) (fun _ => ⟨rfl, iteD (fun z => nomatch z) (fun _ => q _ _ (not_same nofun) s0)⟩)⟩
        | str z => exact ⟨rfl, iteD (fun z => nomatch z) (fun _ => ⟨rfl, iteD (fun z => nomatch z) (fun _ => ⟨rfl, q _ _ (by simp) s0⟩)⟩)⟩
        | lst k1 k2 => exact ⟨rfl, iteD (fun z => nomatch z) (fun _ => ⟨rfl, iteD (fun z => nomatch z) (fun _ => Or.inl ⟨_, s0.seq k1, Or.inl ⟨_, s0.seq k1, q _ _ (not_same nofun) s0⟩⟩)⟩)⟩
        | tup k1 k2 => exact ⟨rfl, iteD (fun z => nomatch z) (fun _ => ⟨rfl, iteD (fun z => nomatch z) (fun _ => Or.inr (Or.inl ⟨_, Same.tup s0 k1, Or.inr (Or.inl ⟨_, Same.tup s0 k1, q _ _ (not_same nofun) s0⟩)⟩))⟩)⟩
      | @lst a xs ds h1 h2 =>
        refine Or.inl ⟨_, h1, ?_⟩
        have k0 := s0.seq h1
        rw [PyData.depth] at hn
        cases he with
        | non => exact q _ _ (not_same nofun) s0
        | bl c => exact q _ _ (not_same nofun) s0
        | int j => exact q _ _ (not_same nofun) s0
        | str z => exact q _ _ (not_same nofun) s0
        | @lst b ys es k1 k2 =>
          have k3 := s0.seq k1
          refine Or.inl ⟨_, k3, Or.inl ⟨_, k3, nxt (Or.inl ⟨_, k0, Or.inl ⟨_, k3, rfl, _, .inl k0, fun _ => ⟨_, .inl k3, fun _ => ⟨rfl, ?_⟩⟩⟩⟩)⟩⟩
          have l1 := DpAll.length h2
          have l2 := DpAll.length k2
          by_cases e : xs.length = ys.length
          · rw [e, decide_eq_true rfl]
            exact go a b xs ys ds es (.inl h1) (.inl k1) h2 k2 hn (by omega) (fun b H' hb => q b H' ⟨fun z => congrArg PyData.list (hb.mp z), fun z => hb.mpr (PyData.list.inj z)⟩) _
          · rw [decide_eq_false fun z => e (by have := V.int.inj z; omega)]
            refine q _ _ (not_same fun z => e ?_) s0
            have := PyData.list.inj z
            rw [l1, l2, this]
        | tup k1 k2 =>
          have k3 := Same.tup s0 k1
          exact Or.inr (Or.inl ⟨_, k3, nxt (Or.inl ⟨_, k0, Or.inr (Or.inl ⟨_, k3, rfl, q _ _ (not_same nofun) s0⟩)⟩)⟩)
      | @tup a xs ds h1 h2 =>
        refine Or.inr (Or.inl ⟨_, h1, ?_⟩)
        have k0 := Same.tup s0 h1
        rw [PyData.depth] at hn
        cases he with
        | non => exact q _ _ (not_same nofun) s0
        | bl c => exact q _ _ (not_same nofun) s0
        | int j => exact q _ _ (not_same nofun) s0
        | str z => exact q _ _ (not_same nofun) s0
        | lst k1 k2 =>
          have k3 := s0.seq k1
          exact Or.inl ⟨_, k3, Or.inl ⟨_, k3, nxt (Or.inr (Or.inl ⟨_, k0, Or.inl ⟨_, k3, rfl, q _ _ (not_same nofun) s0⟩⟩))⟩⟩
        | @tup b ys es k1 k2 =>
          have k3 := Same.tup s0 k1
          refine Or.inr (Or.inl ⟨_, k3, nxt (Or.inr (Or.inl ⟨_, k0, Or.inr (Or.inl ⟨_, k3, rfl, _, .inr k0, fun _ => ⟨_, .inr k3, fun _ => ⟨rfl, ?_⟩⟩⟩)⟩))⟩)
          have l1 := DpAll.length h2
          have l2 := DpAll.length k2
          by_cases e : xs.length = ys.length
          · rw [e, decide_eq_true rfl]
            exact go a b xs ys ds es (.inr h1) (.inr k1) h2 k2 hn (by omega) (fun b H' hb => q b H' ⟨fun z => congrArg PyData.tuple (hb.mp z), fun z => hb.mpr (PyData.tuple.inj z)⟩) _
          · rw [decide_eq_false fun z => e (by have := V.int.inj z; omega)]
            refine q _ _ (not_same fun z => e ?_) s0
            have := PyData.tuple.inj z
            rw [l1, l2, this]

/-! ### the tally -/
def sp_tally (P : Program) (w : World) (K : PySem.W.Frag) : Sp := fun vs H Q _ => ∃ (a : Addr) (rs : List Addr) (ro : Addr → List V), vs = [.ref a] ∧ SqL K H a (rs.map V.ref) ∧ rs.length ≤ 4000 ∧ (∀ r ∈ rs, Row K H r (ro r)) ∧
  ∀ (p : Addr) (H' : Hp), H p = none → Same H H' → DN P w K H' p (tallyL (rs.map ro)) → Q (.ref p) H'
theorem ok_tally {f : Addr} {fd : FuncData} (F : FnP K "_law_tally" s_tally f fd) (B : Bf mg) (F_mark : Fn P w K mg base "_law_mark" ["_law_row_here"] 2 (sp_rowkey K)) : FnOk P w K mg base CX0 3 f fd ["_law_rows_here"] (sp_tally P w K) := by
  refine F.ok sc_tally (fun vs H Q E h => ?_) (fun cdv A outer s H vs Q E hr h => ⟨_, PSs.nox ((pss_cons (ps_set (i := 1) sc_tally.nd rfl (by first | exact Or.inl rfl | exact Or.inr rfl) pe_dnewN) (pss_cons (ps_for PassesOwn.never rfl (p_seq K (fv 0)) (pg_name (i := 2) sc_tally.nd rfl (by first | exact Or.inl rfl | exact Or.inr rfl)) (pss_cons (ps_set (i := 3) sc_tally.nd rfl (by first | exact Or.inl rfl | exact Or.inr rfl) (pcall F_mark hr (pa_cons (fv 2) pa_nil))) (pss_one (ps_asg (pe_op (o_add K) (pe_dgetN hr.units20 (fv 1) (fv 3) pe_int ⟨rfl, rfl, rfl, rfl⟩) pe_int) (pg_sub (fv 1) (fv 3) (set_dictN hr.units20)))))) (pss_one (ps_ret (fv 1)))))), ?_⟩)
  · obtain ⟨a, rs, ro, rfl, _⟩ := h
    rfl
  · obtain ⟨a, rs, ro, rfl, hS, hn, hR, q⟩ := h
    refine fun p H1 hp h1 d1 => ?_
    have s1 : Same H H1 := fun b o e => by
      rw [h1 b (ne_of_none e hp)]
      exact e
    refine Or.inl ⟨⟨_, s1.seq hS⟩, for_list (xs := rs.map V.ref) (fun i σ H' => (∃ c2 c3, σ = [some (.ref a), some (.ref p), c2, c3]) ∧ Same H H' ∧ DN P w K H' p (tallyL ((rs.take i).map ro))) ⟨⟨_, _, rfl⟩, s1, d1⟩ (fun i σ H' _ h => h.2.1.seq hS) (fun i x σ H' hx h => ?_) (fun σ H' h => ?_)⟩
    · obtain ⟨⟨c2, c3, rfl⟩, sm, dn⟩ := h
      rw [List.getElem?_map] at hx
      obtain ⟨r, hr1, rfl⟩ := Option.map_eq_some_iff.mp hx
      have row := hR r (List.mem_of_getElem? hr1)
      refine ⟨r, ro r, rfl, row.tk (Tk.same sm), fun k H2 dk s2 => ?_⟩
      have hi : i < rs.length := (List.getElem?_eq_some_iff.mp hr1).1
      have s12 := sm.trans s2
      have dn2 := dn.same s2
      have hok := tallyL_ok ((rs.take i).map ro)
      obtain ⟨n, e1, e2⟩ := tally1_int hok.1 (ro r)
      have dk0 := dk
      rw [← nkD_row] at dk0
      cases dk with
      | @tup kb ys ds k1 k2 =>
        refine ⟨p, rfl, ⟨_, dn2⟩, kb, nkRow (ro r), _, rfl, dn2, dk0, nk_depth _, ?_⟩
        rw [e1]
        refine ⟨p, kb, nkRow (ro r), _, rfl, rfl, dn2, dk0, nk_depth _, ?_, fun H3 h3 dn3 => ⟨⟨_, _, rfl⟩, fun b o e => ?_, ?_⟩⟩
        · have := hok.2
          rw [List.length_map, List.length_take] at this
          rw [sizeLine_eq]
          omega
        · rw [h3 b (ne_of_none e hp)]
          exact s12 _ _ e
        · rw [List.take_add_one, hr1, List.map_append]
          show DN P w K H3 p (tallyL ((rs.take i).map ro ++ [ro r]))
          rw [tallyL_snoc, e2]
          exact dn3
    · obtain ⟨⟨c2, c3, rfl⟩, sm, dn⟩ := h
      rw [List.length_map, List.take_length] at dn
      exact q p H' hp sm dn

/-! ### in order -/
def keyRow (xs : List V) : PyData := .tuple (xs.map keyD)
theorem tupD_keyRow {xs : List V} (h : ∀ x ∈ xs, FlatV x) : tupD (keyRow xs) = true := by
  unfold keyRow
  rw [tupD]
  exact tupAll_keys h
theorem tupAll_rows {ro : Addr → List V} : ∀ {ss : List Addr}, (∀ r ∈ ss, ∀ x ∈ ro r, FlatV x) → tupAll (ss.map fun r => keyRow (ro r)) = true
  | [], _ => rfl
  | r :: ss, h => by
    rw [List.map_cons, tupAll, tupD_keyRow (h r (List.mem_cons_self ..)), tupAll_rows fun u hu => h u (List.mem_cons_of_mem _ hu)]
    rfl
def sp_inord (K : PySem.W.Frag) : Sp := fun vs H Q _ => ∃ (a b : Addr) (rs ss : List Addr) (ro : Addr → List V), vs = [.ref a, .ref b] ∧ SqL K H a (rs.map V.ref) ∧ SqL K H b (ss.map V.ref) ∧ rs.length ≤ 4000 ∧ (∀ r ∈ rs, Row K H r (ro r)) ∧
  ss.Perm rs ∧ ss.Pairwise (fun r t => rowLt (ro t) (ro r) = false) ∧ ∀ (H' : Hp), Same H H' → Q (.bl true) H'
theorem ok_in_order {f : Addr} {fd : FuncData} (F : FnP K "_law_in_order" s_in_order f fd) (B : Bf mg) (F_mark : Fn P w K mg base "_law_mark" ["_law_row_here"] 2 (sp_rowkey K)) (F_tally : Fn P w K mg base "_law_tally" ["_law_rows_here"] 3 (sp_tally P w K)) : FnOk P w K mg base CX0 4 f fd ["_law_rows_here", "_law_told"] (sp_inord K) := by
  refine F.ok sc_in_order (fun vs H Q E h => ?_) (fun cdv A outer s H vs Q E hr h => ⟨_, PSs.nox ((pss_cons (ps_if (PW.pt (pw_or (pt_not (q_tru K (p_isi K kLst kLst_ok B.isinstance B.list PyProof.Rows.boot_list (fv 1)))) (pw_or1 (q_cmp op_ne (pe_callB (c_len K) (by rfl) B.len PySem.boot_len (pa_cons (fv 1) pa_nil)) (pe_callB (c_len K) (by rfl) B.len PySem.boot_len (pa_cons (fv 0) pa_nil)))))) (pss_one (ps_ret pe_bl)) pss_nil) (pss_cons (ps_for PassesOwn.never rfl (p_seq K (fv 1)) (pg_name (i := 2) sc_in_order.nd rfl (by first | exact Or.inl rfl | exact Or.inr rfl)) (pss_one (ps_if (pt_not (q_tru K (p_isi K kTup kTup_ok B.isinstance B.tuple PyProof.Rows.boot_tuple (fv 2)))) (pss_one (ps_ret pe_bl)) pss_nil))) (pss_cons (ps_setLc (i := 3) (own := [("_law_row_here", 2)]) (g := gName 2) rfl sc_in_order.nd rfl rfl (sw_true rfl rfl rfl (by decide +kernel)) (p_seq K (fv 1)) (blkOk_by (own := [("_law_row_here", 2)]) (N := ["_law_rows_here", "_law_told", "_law_row_here", "_law_marks", "_law_k"]) (sc := defScope s_in_order) (by decide +kernel)) (fun _ _ _ _ _ => pg_name (i := 2) sc_in_order.nd rfl (Or.inl rfl)) (fun _ _ _ _ _ => pts_nil) (fun _ _ _ _ _ => (pcall F_mark hr (pa_cons (fv 2) pa_nil)))) (pss_cons (ps_for PassesOwn.never rfl (pi_range1 (by rfl) B.range (pa_cons (pe_op o_sub (pe_callB (c_len K) (by rfl) B.len PySem.boot_len (pa_cons (fv 3) pa_nil)) pe_int) pa_nil)) (pg_name (i := 4) sc_in_order.nd rfl (by first | exact Or.inl rfl | exact Or.inr rfl)) (pss_one (ps_if (q_cmp (o_gtD K hr) (pe_ix (x_ix K) (fv 3) (fv 4) (fun _ _ => rfl)) (pe_ix (x_ix K) (fv 3) (pe_op (o_add K) (fv 4) pe_int) (fun _ _ => rfl))) (pss_one (ps_ret pe_bl)) pss_nil))) (pss_one (ps_ret (pe_cmpR (o_eqN hr.units20) (pcall F_tally hr (pa_cons (fv 0) pa_nil)) (pcall F_tally hr (pa_cons (fv 1) pa_nil)) (nomark _))))))))), ?_⟩)
  · obtain ⟨a, b, rs, ss, ro, rfl, _⟩ := h
    rfl
  · obtain ⟨a, b, rs, ss, ro, rfl, hA, hB, hn, hR, hp, hw, q⟩ := h
    have hlen := hp.length_eq
    refine Or.inl ⟨_, hB, _, .inl hB, _, .inl hA, rfl, ?_⟩
    rw [List.length_map, List.length_map, hlen, decide_eq_true rfl]
    refine nxt ?_
    refine Or.inl ⟨⟨_, hB⟩, for_list (xs := ss.map V.ref) (fun i σ H' => (∃ c2, σ = [some (.ref a), some (.ref b), c2, none, none]) ∧ H' = H) ⟨⟨_, rfl⟩, rfl⟩ (fun i σ H' _ h => h.2 ▸ hB) (fun i x σ H' hx h => ?_) (fun σ H' h => ?_)⟩
    · obtain ⟨⟨c2, rfl⟩, rfl⟩ := h
      rw [List.getElem?_map] at hx
      obtain ⟨r, hr1, rfl⟩ := Option.map_eq_some_iff.mp hx
      have row := hR r (hp.mem_iff.mp (List.mem_of_getElem? hr1))
      exact Or.inr (Or.inl ⟨_, row.1, ⟨⟨_, rfl⟩, rfl⟩⟩)
    · obtain ⟨⟨c2, rfl⟩, rfl⟩ := h
      have mem : ∀ r ∈ ss, r ∈ rs := fun r h => hp.mem_iff.mp h
      refine Or.inl ⟨⟨_, hB⟩, fun D hD => lc_list (xs := ss.map V.ref) (fun i H1 => Same H' H1 ∧ ∃ ys, H1 D = some (.lst ys) ∧ ys.length = i ∧ DpAll K H1 ys ((ss.take i).map fun r => keyRow (ro r))) ⟨same_upd hD, [], upd_same, rfl, .nil⟩ (fun i H1 _ h => h.1.seq hB) (fun i x H1 hx h => ?_) (fun H1 h => ?_)⟩
      · obtain ⟨sm, ys, hy, hl, hd⟩ := h
        rw [List.getElem?_map] at hx
        obtain ⟨r, hr1, rfl⟩ := Option.map_eq_some_iff.mp hx
        have row := hR r (mem r (List.mem_of_getElem? hr1))
        have hi : i < ss.length := (List.getElem?_eq_some_iff.mp hr1).1
        refine ⟨rfl, r, ro r, rfl, row.tk (Tk.same sm), fun p H2 dp s2 => ⟨ys, s2 _ _ hy, by rw [sizeLine_eq]; omega, fun b u hb => ?_, ys ++ [p], upd_same, by rw [List.length_append, hl]; rfl, ?_⟩⟩
        · rw [upd_ne (ne_of_none hb hD)]
          exact s2 _ _ (sm _ _ hb)
        · have tp : Tk H2 (upd H2 D (.lst (ys ++ [p]))) := Tk.put (s2 _ _ hy)
          rw [List.take_add_one, hr1, List.map_append]
          exact DpAll.app (Dp.tkAll ((Tk.same s2).trans tp) _ _ (tupAll_rows fun u hu => (hR u (mem u (List.mem_of_mem_take hu))).2.1) hd) (.cons (Dp.tk tp _ _ (tupD_keyRow row.2.1) dp) .nil)
      · obtain ⟨sm, ys, hy, hl, hd⟩ := h
        rw [List.length_map] at hl
        rw [List.length_map, List.take_length] at hd
        refine ⟨_, .inl (SqL.of hy), _, rfl, by omega, by omega, for_range (fun i σ H2 => (∃ c2 c4, σ = [some (.ref a), some (.ref b), c2, some (.ref D), c4]) ∧ H2 = H1) ⟨⟨_, _, rfl⟩, rfl⟩ (fun i σ H2 hi h => ?_) (fun σ H2 h => ?_)⟩
        · obtain ⟨⟨c2, c4, rfl⟩, rfl⟩ := h
          have i1 : i + 1 < ss.length := by omega
          have i0 : i < ss.length := by omega
          obtain ⟨ka, ga, da⟩ := DpAll.get hd (i := i) (d := keyRow (ro ss[i])) (by rw [List.getElem?_map, List.getElem?_eq_getElem i0]; rfl)
          obtain ⟨kb, gb, db⟩ := DpAll.get hd (i := i + 1) (d := keyRow (ro ss[i + 1])) (by rw [List.getElem?_map, List.getElem?_eq_getElem i1]; rfl)
          have z1 : atI ys (0 + (i : Int)) = some ka := by
            rw [show (0 : Int) + (i : Int) = (i : Int) by omega]
            exact atI_nat ga
          have z2 : atI ys (0 + (i : Int) + 1) = some kb := by
            rw [show (0 : Int) + (i : Int) + 1 = ((i + 1 : Nat) : Int) by omega]
            exact atI_nat gb
          have fx := (hR _ (mem _ (List.getElem_mem i0))).2.1
          have fy := (hR _ (mem _ (List.getElem_mem i1))).2.1
          have l1 : ltD true (keyRow (ro ss[i])) (keyRow (ro ss[i + 1])) = some (rowLt (ro ss[i + 1]) (ro ss[i])) := by
            unfold keyRow
            rw [ltD]
            exact ltAll_keys fx fy
          have hS := SqL.of (K := K) hy
          refine ⟨_, _, .inl hS, z1, _, _, .inl hS, z2, _, _, _, da, db, shaped_keys fx, shaped_keys fy, l1, ?_⟩
          rw [(List.pairwise_iff_getElem.mp hw) i (i + 1) i0 i1 (by omega)]
          exact ⟨⟨_, _, rfl⟩, rfl⟩
        · obtain ⟨⟨c2, c4, rfl⟩, rfl⟩ := h
          refine ⟨a, rs, ro, rfl, sm.seq hA, hn, fun r hr => (hR r hr).tk (Tk.same sm), fun p H3 hp3 s3 d3 => ?_⟩
          refine ⟨b, ss, ro, rfl, (sm.trans s3).seq hB, by omega, fun r hr => (hR r (mem r hr)).tk (Tk.same (sm.trans s3)), fun p4 H4 hp4 s4 d4 => ?_⟩
          refine ⟨p, p4, _, _, rfl, rfl, d3.same s4, d4, (tallyL_ok _).1, (tallyL_ok _).1, ?_⟩
          rw [tally_perm (hp.symm.map ro)]
          exact q H4 ((sm.trans s3).trans s4)

/-! ### the law -/
def sp_law (K : PySem.W.Frag) : Sp := fun vs H Q _ => ∃ (a : Addr) (ns : List Int), vs = [.ref a] ∧ SqL K H a (ns.map V.int) ∧ ns.length ≤ 63 ∧ ∀ H', Q (.bl true) H'
theorem rows_choose {H : Hp} {as : List Addr} (h : ∀ a ∈ as, ∃ xs, Row K H a xs) : ∃ ro : Addr → List V, ∀ a ∈ as, Row K H a (ro a) := by
  classical
  refine ⟨fun a => if z : ∃ xs, Row K H a xs then z.choose else [], fun a ha => ?_⟩
  have z := h a ha
  show Row K H a (if z : ∃ xs, Row K H a xs then z.choose else [])
  rw [dif_pos z]
  exact z.choose_spec
def rowD (xs : List V) : PyData := .tuple (xs.map dV)
theorem dp_rowD {H : Hp} {r : Addr} {xs : List V} (h : Row K H r xs) : Dp K H (.ref r) (rowD xs) := .tup h.1 (dp_flats h.2.1)
theorem dp_rowsD {H : Hp} {ro : Addr → List V} : ∀ {rs : List Addr}, (∀ r ∈ rs, Row K H r (ro r)) → DpAll K H (rs.map V.ref) (rs.map fun r => rowD (ro r))
  | [], _ => .nil
  | r :: rs, h => .cons (dp_rowD (h r (List.mem_cons_self ..))) (dp_rowsD fun u hu => h u (List.mem_cons_of_mem _ hu))
theorem depth_flats : ∀ (xs : List V), PyData.depthAll (xs.map dV) = 0
  | [] => rfl
  | x :: xs => by
    rw [List.map_cons, PyData.depthAll, depth_flats xs]
    cases x <;> rfl
theorem depth_rowD (xs : List V) : (rowD xs).depth ≤ 1 := by
  unfold rowD
  rw [PyData.depth, depth_flats]
  decide
theorem depth_rowsD {ro : Addr → List V} : ∀ (rs : List Addr), PyData.depthAll (rs.map fun r => rowD (ro r)) ≤ 1
  | [] => Nat.zero_le _
  | r :: rs => by
    rw [List.map_cons, PyData.depthAll]
    have := depth_rowD (ro r)
    have := depth_rowsD (ro := ro) rs
    omega
theorem rep_take (as : List Addr) (m : Nat) (hm : 0 < m) : ((List.replicate m (as.map V.ref)).flatten.take as.length) = as.map V.ref := by
  obtain ⟨k, rfl⟩ : ∃ k, m = k + 1 := ⟨m - 1, by omega⟩
  rw [List.replicate_succ, List.flatten_cons, List.take_append_of_le_length (by rw [List.length_map]; exact Nat.le_refl _), List.take_of_length_le (by rw [List.length_map]; exact Nat.le_refl _)]
theorem cut_to_n {xs : List V} {n : Nat} : cutV xs none (some (n : Int)) = xs.take n := by
  unfold cutV
  rw [HT.sIx_nat, HT.sIx_none, List.drop_zero, Nat.sub_zero]
  rcases Nat.le_total n xs.length with h | h
  · rw [Nat.min_eq_left h]
  · rw [Nat.min_eq_right h, List.take_of_length_le (Nat.le_refl _), List.take_of_length_le h]
theorem refs_of {vs : List V} {as : List Addr} (h : ∀ v ∈ vs, v ∈ as.map V.ref) : ∃ rs : List Addr, vs = rs.map V.ref ∧ ∀ r ∈ rs, r ∈ as := by
  induction vs with
  | nil => exact ⟨[], rfl, fun _ h => (nomatch h)⟩
  | cons v vs ih =>
    obtain ⟨rs, e, m⟩ := ih fun u hu => h u (List.mem_cons_of_mem _ hu)
    obtain ⟨r, hr, rfl⟩ := List.mem_map.mp (h v (List.mem_cons_self ..))
    refine ⟨r :: rs, by rw [e]; rfl, fun u hu => ?_⟩
    rcases List.mem_cons.mp hu with z | z
    · rw [z]; exact hr
    · exact m u z
theorem erase_map {α β : Type} {f : α → β} : ∀ {l : List α} {k : Nat}, (l.map f).eraseIdx k = (l.eraseIdx k).map f
  | [], _ => rfl
  | _ :: _, 0 => rfl
  | x :: l, k + 1 => by
    show f x :: (l.map f).eraseIdx k = f x :: (l.eraseIdx k).map f
    rw [erase_map]
theorem seqIx_of {i : Int} {n : Nat} (h0 : 0 ≤ i) (h1 : i < n) : seqIndex? i n = some i.toNat := by
  unfold seqIndex?
  have e : ¬ i < 0 := by omega
  simp [e, h0, h1]
theorem map_ref_inj {as bs : List Addr} (h : as.map V.ref = bs.map V.ref) : as = bs := (List.map_inj_right fun _ _ z => V.ref.inj z).mp h
theorem ok_law {f : Addr} {fd : FuncData} (F : FnP K "law" s_law f fd) (B : Bf mg) (F_store : Fn P w K mg base "_law_store" ["_law_script"] 2 (sp_store K)) (F_take : Fn P w K mg base "_law_take" ["_law_store_here", "_law_many"] 2 sp_take) (F_odds : Fn P w K mg base "_law_odds" ["_law_store_here", "_law_many"] 3 sp_odds)
    (F_rows : Fn P w K mg base "_law_rows" ["_law_store_here", "_law_usual", "_law_most"] 7 (sp_rows K)) (F_row : Fn P w K mg base "_law_row" ["_law_store_here"] 6 (sp_row K))
    (F_same : Fn P w K mg base "_law_same" ["_law_left", "_law_right"] 4 (sp_same K 4)) (F_in_order : Fn P w K mg base "_law_in_order" ["_law_rows_here", "_law_told"] 4 (sp_inord K)) (F_sorted_rowsP : Fn P w K mg base "sorted_rows" ["rows"] 5 (sp_sorted K)) (K_sorted_rowsP : FnK P w K mg base "sorted_rows" ["rows"] 0 5 (sp_sorted K)) :
    FnOk P w K mg base CX0 8 f fd ["_law_script"] (sp_law K) := by
  refine F.ok sc_law (fun vs H Q E h => ?_) (fun cdv A outer s H vs Q E hr h => ⟨_, PSs.nox ((pss_cons (ps_set (i := 1) sc_law.nd rfl (by first | exact Or.inl rfl | exact Or.inr rfl) (pcall F_store hr (pa_cons (fv 0) pa_nil))) (pss_cons (ps_set (i := 2) sc_law.nd rfl (by first | exact Or.inl rfl | exact Or.inr rfl) (pcall F_rows hr (pa_cons (fv 1) (pa_cons pe_int (pa_cons pe_int pa_nil))))) (pss_cons (ps_set (i := 3) sc_law.nd rfl (by first | exact Or.inl rfl | exact Or.inr rfl) (pe_callTy (c_list K) (by rfl) B.list PyProof.Rows.boot_list (pa_cons (fv 2) pa_nil))) (pss_cut (ps_if (q_tru K (pcall F_odds hr (pa_cons (fv 1) (pa_cons pe_int pa_nil)))) (pss_one (ps_set (i := 2) sc_law.nd rfl (by first | exact Or.inl rfl | exact Or.inr rfl) (pe_slice (x_sl K) (pe_op op_rep (fv 2) (pe_op (o_add K) pe_int (pcall F_take hr (pa_cons (fv 1) (pa_cons pe_int pa_nil))))) po_none (po_some pe_int)))) pss_nil) (pss_cons (ps_set (i := 4) sc_law.nd rfl (by first | exact Or.inl rfl | exact Or.inr rfl) (pe_callTy (c_list K) (by rfl) B.list PyProof.Rows.boot_list (pa_cons (fv 2) pa_nil))) (pss_cut (ps_if (q_tru K (pcall F_odds hr (pa_cons (fv 1) (pa_cons pe_int pa_nil)))) (pss_one (ps_set (i := 4) sc_law.nd rfl (by first | exact Or.inl rfl | exact Or.inr rfl) (pe_callTy (c_tuple K) (by rfl) B.tuple PyProof.Rows.boot_tuple (pa_cons (fv 2) pa_nil)))) pss_nil) (pss_cons (ps_set (i := 5) sc_law.nd rfl (by first | exact Or.inl rfl | exact Or.inr rfl) (pcall F_sorted_rowsP hr (pa_cons (fv 4) pa_nil))) (pss_cut (ps_if (PW.pt (pw_or (pt_not (q_tru K (pcall F_in_order hr (pa_cons (fv 2) (pa_cons (fv 5) pa_nil))))) (pw_or1 (pt_not (q_tru K (pcall F_same hr (pa_cons (fv 2) (pa_cons (pe_callTy (c_list K) (by rfl) B.list PyProof.Rows.boot_list (pa_cons (fv 4) pa_nil)) pa_nil)))))))) (pss_one (ps_ret pe_bl)) pss_nil) (pss_cons (ps_expr (pe_bm PySem.F.plainAttrs_list PySem.F.slot_list_append PySem.F.type_list_append mt_append (fv 5) (pa_cons (pcall F_row hr (pa_cons (fv 1) pa_nil)) pa_nil))) (pss_cons (ps_expr (pe_bm0 PySem.F.plainAttrs_list PySem.F.slot_list_reverse PySem.F.type_list_reverse mt_reverse (fv 5))) (pss_cut (ps_if (pt_not (q_tru K (pcall F_in_order hr (pa_cons (fv 2) (pa_cons (pcall F_sorted_rowsP hr (pa_cons (fv 4) pa_nil)) pa_nil))))) (pss_one (ps_ret pe_bl)) pss_nil) (pss_cons (ps_set (i := 6) sc_law.nd rfl (by first | exact Or.inl rfl | exact Or.inr rfl) (pcall F_sorted_rowsP hr (pa_cons (fv 3) pa_nil))) (pss_cut (ps_if (q_cmp o_gt (pe_callB (c_len K) (by rfl) B.len PySem.boot_len (pa_cons (fv 3) pa_nil)) pe_int) (pss_one (ps_expr (pe_bm PySem.F.plainAttrs_list PySem.F.slot_list_pop PySem.F.type_list_pop mt_popAt (fv 3) (pa_cons (pcall F_take hr (pa_cons (fv 1) (pa_cons (pe_callB (c_len K) (by rfl) B.len PySem.boot_len (pa_cons (fv 3) pa_nil)) pa_nil))) pa_nil)))) pss_nil) (pss_cons (ps_expr (pe_bm PySem.F.plainAttrs_list PySem.F.slot_list_append PySem.F.type_list_append mt_append (fv 3) (pa_cons (pcall F_row hr (pa_cons (fv 1) pa_nil)) pa_nil))) (pss_cons (ps_set (i := 7) sc_law.nd rfl (by first | exact Or.inl rfl | exact Or.inr rfl) (pcallK K_sorted_rowsP hr (pk_cons (fv 3) pk_nil))) (pss_one (ps_ret (f_and (pcall F_in_order hr (pa_cons (pe_slice (x_sl K) (fv 2) po_none (po_some (pe_callB (c_len K) (by rfl) B.len PySem.boot_len (pa_cons (fv 6) pa_nil)))) (pa_cons (fv 6) pa_nil))) (pe_one (pcall F_in_order hr (pa_cons (pe_callTy (c_list K) (by rfl) B.list PyProof.Rows.boot_list (pa_cons (fv 3) pa_nil)) (pa_cons (fv 7) pa_nil))))))))))))))))))))))), ?_⟩)
  · obtain ⟨a, ns, rfl, _⟩ := h
    rfl
  · obtain ⟨a, ns, rfl, hS, hn, q⟩ := h
    have line : ∀ n : Nat, n ≤ 100000 → n ≤ sizeLine := fun n h => by rw [sizeLine_eq]; omega
    refine ⟨a, ns, rfl, hS, by omega, fun st cl H1 hst s1 hSt => ?_⟩
    refine ⟨st, cl, _, _, rfl, hSt, by decide, by decide, by decide, fun L as H2 hL hl hr hn2 g2 => ?_⟩
    have nL : L ≠ st := hSt.ne_none hL
    have hn40 : as.length ≤ 40 := by omega
    obtain ⟨ro, hro⟩ := rows_choose hr
    refine ⟨_, .inl (SqL.of hl), fun S hSn => ?_⟩
    have nS : S ≠ st := g2.2.ne_none hSn
    have nLS : L ≠ S := ne_of_none hl hSn
    -- the first if
    refine cutP (fun σ H3 => ∃ (R : Addr) (rs : List Addr), σ = [some (.ref a), some (.ref st), some (.ref R), some (.ref S), none, none, none, none] ∧ Sto H3 st cl ∧ H3 S = some (.lst (as.map V.ref)) ∧ H3 R = some (.lst (rs.map V.ref)) ∧ R ≠ st ∧ R ≠ S ∧ rs.length ≤ 3000 ∧ (∀ r ∈ rs, r ∈ as) ∧ rs.take as.length = as ∧ ∀ r ∈ as, Row K H3 r (ro r)) ?_ (fun rest => ?_)
    · rintro σ H3 ⟨R, rs, rfl, hSt3, hS3, hR3, nR, nRS, hlen, hmem, htk, hrow3⟩
      refine ⟨_, .inl (SqL.of hR3), fun Hd hHd => ?_⟩
      have sm3 := same_upd (o := .lst (rs.map V.ref)) hHd
      have nHd : Hd ≠ st := hSt3.ne_none hHd
      have hrowR : ∀ {H' : Hp}, (∀ r ∈ as, Row K H' r (ro r)) → ∀ r ∈ rs, Row K H' r (ro r) := fun h r hr => h r (hmem r hr)
      -- the second if
      refine cutP (fun σ H4 => ∃ (Hd : Addr), σ = [some (.ref a), some (.ref st), some (.ref R), some (.ref S), some (.ref Hd), none, none, none] ∧ Sto H4 st cl ∧ H4 S = some (.lst (as.map V.ref)) ∧ H4 R = some (.lst (rs.map V.ref)) ∧ ((H4 Hd = some (.lst (rs.map V.ref)) ∧ Hd ≠ st) ∨ SqT K H4 Hd (rs.map V.ref)) ∧ ∀ r ∈ as, Row K H4 r (ro r)) ?_ (fun rest => ?_)
      · rintro σ H4 ⟨Hd, rfl, hSt4, hS4, hR4, hHd4, hrow4⟩
        have hq4 : SqL K H4 Hd (rs.map V.ref) ∨ SqT K H4 Hd (rs.map V.ref) := hHd4.imp (fun z => SqL.of z.1) id
        refine ⟨Hd, rs, ro, rfl, hq4, hrowR hrow4, fun T1 ss1 H5 hT1 s5 hT5 p1 w1 => ?_⟩
        have nT1 : T1 ≠ st := hSt4.ne_none hT1
        have nT1c : T1 ≠ cl := hSt4.ne_noneC hT1
        have hl1 := p1.length_eq
        have hSt5 : Sto H5 st cl := ((Go.refl hSt4).same s5).2
        -- what is asked of the first
        refine cutP (fun σ H6 => σ = [some (.ref a), some (.ref st), some (.ref R), some (.ref S), some (.ref Hd), some (.ref T1), none, none] ∧ Same H5 H6) ?_ (fun rest => ?_)
        · rintro σ H6 ⟨rfl, s6⟩
          have s46 := s5.trans s6
          have hSt6 : Sto H6 st cl := ((Go.refl hSt5).same s6).2
          have hT6 := s6 _ _ hT5
          refine ⟨Or.inl ⟨rfl, _, SqL.of hT6⟩, st, cl, rfl, hSt6, fun a7 xs7 H7 row7 g7 => ?_⟩
          have hT7 := g7.lst nT1 hT6
          refine ⟨T1, _, _, rfl, rfl, hT7, by rw [List.length_map, sizeLine_eq]; omega, ?_⟩
          have hSt8 : Sto (upd H7 T1 (.lst (ss1.map V.ref ++ [.ref a7]))) st cl := g7.2.lay nT1 nT1c
          refine ⟨Or.inl ⟨rfl, _, SqL.of upd_same⟩, T1, _, rfl, rfl, upd_same, ?_⟩
          have hSt9 : Sto (upd (upd H7 T1 (.lst (ss1.map V.ref ++ [.ref a7]))) T1 (.lst (ss1.map V.ref ++ [V.ref a7]).reverse)) st cl := hSt8.lay nT1 nT1c
          have t9 : Tk H4 (upd (upd H7 T1 (.lst (ss1.map V.ref ++ [.ref a7]))) T1 (.lst (ss1.map V.ref ++ [V.ref a7]).reverse)) := (((Tk.same s46).trans (Tk.go g7 hSt6)).trans (Tk.put hT7)).trans (Tk.put upd_same)
          have k9 : ∀ b xs, b ≠ st → H4 b = some (.lst xs) → (upd (upd H7 T1 (.lst (ss1.map V.ref ++ [.ref a7]))) T1 (.lst (ss1.map V.ref ++ [V.ref a7]).reverse)) b = some (.lst xs) := fun b xs nb hb => by
            have n := ne_of_none hb hT1
            rw [upd_ne n, upd_ne n]
            exact g7.lst nb (s46 _ _ hb)
          generalize (upd (upd H7 T1 (.lst (ss1.map V.ref ++ [.ref a7]))) T1 (.lst (ss1.map V.ref ++ [V.ref a7]).reverse)) = H9 at hSt9 t9 k9
          have hS9 := k9 _ _ nS hS4
          have hR9 := k9 _ _ nR hR4
          have hq9 : SqL K H9 Hd (rs.map V.ref) ∨ SqT K H9 Hd (rs.map V.ref) := hHd4.imp (fun z => SqL.of (k9 _ _ z.2 z.1)) t9.tup
          have hrow9 : ∀ r ∈ as, Row K H9 r (ro r) := fun r hr => (hrow4 r hr).tk t9
          -- once more
          refine cutP (fun σ H6 => σ = [some (.ref a), some (.ref st), some (.ref R), some (.ref S), some (.ref Hd), some (.ref T1), none, none] ∧ Same H9 H6) ?_ (fun rest => ?_)
          · rintro σ H10 ⟨rfl, s10⟩
            have hS10 := s10 _ _ hS9
            have hR10 := s10 _ _ hR9
            have hSt10 : Sto H10 st cl := ((Go.refl hSt9).same s10).2
            have hrow10 : ∀ r ∈ as, Row K H10 r (ro r) := fun r hr => (hrow9 r hr).tk (Tk.same s10)
            refine ⟨S, as, ro, rfl, .inl (SqL.of hS10), hrow10, fun F1 ss3 H11 hF1 s11 hF11 p3 w3 => ?_⟩
            have hl3 := p3.length_eq
            have nF1 : F1 ≠ st := hSt10.ne_none hF1
            have nF1S : F1 ≠ S := (ne_of_none hS10 hF1).symm
            have hSt11 : Sto H11 st cl := ((Go.refl hSt10).same s11).2
            have hS11 := s11 _ _ hS10
            have hR11 := s11 _ _ hR10
            have nSc : S ≠ cl := fun e => by
              obtain ⟨_, cs, p, r, t, sd, x1, x2, _⟩ := g2.2
              rw [e, x2] at hSn
              cases hSn
            refine cutP (fun σ H6 => σ = [some (.ref a), some (.ref st), some (.ref R), some (.ref S), some (.ref Hd), some (.ref T1), some (.ref F1), none] ∧ Sto H6 st cl ∧ Tk H11 H6 ∧ H6 R = some (.lst (rs.map V.ref)) ∧ H6 F1 = some (.lst (ss3.map V.ref)) ∧ ∃ bs : List Addr, H6 S = some (.lst (bs.map V.ref)) ∧ bs.length ≤ 40 ∧ ∀ b ∈ bs, b ∈ as) ?_ (fun rest => ?_)
            · rintro σ H12 ⟨rfl, hSt12, t12, hR12, hF12, bs, hS12, hb40, hbs⟩
              refine ⟨Or.inl ⟨rfl, _, SqL.of hS12⟩, st, cl, rfl, hSt12, fun a13 xs13 H13 row13 g13 => ?_⟩
              have hS13 := g13.lst nS hS12
              refine ⟨S, _, _, rfl, rfl, hS13, by rw [List.length_map, sizeLine_eq]; omega, ?_⟩
              have t14 : Tk H13 (upd H13 S (.lst (bs.map V.ref ++ [.ref a13]))) := Tk.put hS13
              have hS14 : (upd H13 S (.lst (bs.map V.ref ++ [.ref a13]))) S = some (.lst ((bs ++ [a13]).map V.ref)) := by
                rw [upd_same, List.map_append]
                rfl
              have hR14 : (upd H13 S (.lst (bs.map V.ref ++ [.ref a13]))) R = some (.lst (rs.map V.ref)) := by
                rw [upd_ne nRS]
                exact g13.lst nR hR12
              have hF14 : (upd H13 S (.lst (bs.map V.ref ++ [.ref a13]))) F1 = some (.lst (ss3.map V.ref)) := by
                rw [upd_ne nF1S]
                exact g13.lst nF1 hF12
              have row14 := row13.tk t14
              have hrow14 : ∀ r ∈ as, Row K (upd H13 S (.lst (bs.map V.ref ++ [.ref a13]))) r (ro r) := fun r hr => (hrow10 r hr).tk ((((Tk.same s11).trans t12).trans (Tk.go g13 hSt12)).trans t14)
              generalize upd H13 S (.lst (bs.map V.ref ++ [.ref a13])) = H14 at hS14 hR14 hF14 row14 hrow14
              obtain ⟨ro2, hro2⟩ := rows_choose (K := K) (H := H14) (as := bs ++ [a13]) fun b hb => by
                rcases List.mem_append.mp hb with z | z
                · exact ⟨_, hrow14 b (hbs b z)⟩
                · rw [List.mem_singleton.mp z]
                  exact ⟨_, row14⟩
              refine ⟨rfl, S, bs ++ [a13], ro2, rfl, .inl (SqL.of hS14), hro2, fun S2 ss4 H15 hS2 s15 hS15 p4 w4 => ?_⟩
              have hl4 := p4.length_eq
              rw [List.length_append] at hl4
              have hl4' : ss4.length ≤ 41 := by
                rw [hl4]
                show _ + 1 ≤ _
                omega
              refine ⟨_, .inl (SqL.of (s15 _ _ hF14)), _, rfl, Or.inl ⟨_, SqL.of (s15 _ _ hR14), fun p16 hp16 => ?_⟩⟩
              have s16 := same_upd (o := .lst (cutV (rs.map V.ref) none (some ((ss3.map V.ref).length : Int)))) hp16
              have e16 : cutV (rs.map V.ref) none (some ((ss3.map V.ref).length : Int)) = as.map V.ref := by
                rw [cut_to_n, List.length_map, hl3, ← List.map_take, htk]
              refine ⟨p16, F1, as, ss3, ro, rfl, by rw [e16]; exact SqL.of upd_same, SqL.of (s16 _ _ (s15 _ _ hF14)), by omega, fun r hr => (hrow14 r hr).tk (Tk.same (s15.trans s16)), p3, w3, fun H17 s17 => ?_⟩
              have s17' := (s15.trans s16).trans s17
              refine ⟨_, .inl (SqL.of (s17' _ _ hS14)), fun p18 hp18 => ?_⟩
              have s18 := same_upd (o := .lst ((bs ++ [a13]).map V.ref)) hp18
              refine ⟨p18, S2, bs ++ [a13], ss4, ro2, rfl, SqL.of upd_same, SqL.of (((s16.trans s17).trans s18) _ _ hS15), by rw [List.length_append]; show _ + 1 ≤ _; omega, fun r hr => (hro2 r hr).tk (Tk.same (s17'.trans s18)), p4, w4, fun H19 s19 => q H19⟩
            · refine ⟨_, .inl (SqL.of hS11), iteD (fun e => ?_) (fun e => nxt (rest _ _ ⟨rfl, hSt11, Tk.refl _, hR11, hF11, as, hS11, hn40, fun _ h => h⟩))⟩
              have e0 : 0 < as.length := by
                rw [List.length_map] at e
                omega
              refine ⟨Or.inl ⟨rfl, _, SqL.of hS11⟩, _, .inl (SqL.of hS11), st, cl, _, rfl, hSt11, by rw [List.length_map]; omega, fun n H12 n0 n1 g12 => ?_⟩
              rw [List.length_map] at n1
              have hS12 := g12.lst nS hS11
              have hi : n.toNat < as.length := by omega
              refine ⟨S, _, n, n.toNat, .ref as[n.toNat], rfl, rfl, hS12, by omega, by omega, ?_, ?_, ?_⟩
              · rw [List.length_map]
                exact seqIx_of n0 (by omega)
              · rw [List.getElem?_map, List.getElem?_eq_getElem hi]
                rfl
              · refine rest _ _ ⟨rfl, g12.2.lay nS nSc, (Tk.go g12 hSt11).trans (Tk.put hS12), by rw [upd_ne nRS]; exact g12.lst nR hR11, by rw [upd_ne nF1S]; exact g12.lst nF1 hF11, as.eraseIdx n.toNat, by rw [upd_same, erase_map], ?_, fun b hb => List.mem_of_mem_eraseIdx hb⟩
                exact Nat.le_trans (List.length_eraseIdx_le ..) hn40
          · refine ⟨Hd, rs, ro, rfl, hq9, hrowR hrow9, fun T2 ss2 H10 hT2 s10 hT10 p2 w2 => ?_⟩
            exact ⟨R, T2, rs, ss2, ro, rfl, SqL.of (s10 _ _ hR9), SqL.of hT10, by omega, fun r hr => (hrowR hrow9 r hr).tk (Tk.same s10), p2, w2, fun H11 s11 => nxt (rest _ _ ⟨rfl, s10.trans s11⟩)⟩
        · have hrow5 : ∀ r ∈ rs, Row K H5 r (ro r) := fun r hr => (hrowR hrow4 r hr).tk (Tk.same s5)
          refine ⟨R, T1, rs, ss1, ro, rfl, SqL.of (s5 _ _ hR4), SqL.of hT5, by omega, hrow5, p1, w1, fun H6 s6 => ?_⟩
          have s56 := s5.trans s6
          have hq6 := seq_same s56 hq4
          refine ⟨_, hq6, fun N hN => ?_⟩
          have s7 := same_upd (o := .lst (rs.map V.ref)) hN
          have s57 := s56.trans s7
          have dd : ∀ {H' : Hp} {x : Addr}, Same H4 H' → H' x = some (.lst (rs.map V.ref)) → Dp K H' (.ref x) (.list (rs.map fun r => rowD (ro r))) := fun s hx => .lst (SqL.of hx) (dp_rowsD fun r hr => (hrowR hrow4 r hr).tk (Tk.same s))
          refine ⟨.ref R, .ref N, _, _, rfl, dd s57 (s57 _ _ hR4), dd s57 upd_same, ?_, fun b H8 hb s8 => ?_⟩
          · rw [PyData.depth]
            have := depth_rowsD (ro := ro) rs
            show _ + 1 ≤ 3
            omega
          · obtain rfl := hb.mpr rfl
            exact nxt (rest _ _ ⟨rfl, (s6.trans s7).trans s8⟩)
      · have hSt4 : Sto (upd H3 Hd (.lst (rs.map V.ref))) st cl := hSt3.lay nHd (hSt3.ne_noneC hHd)
        refine ⟨st, cl, _, rfl, hSt4, by decide, fun b H5 g5 => ?_⟩
        have t5 : Tk H3 H5 := (Tk.same sm3).trans (Tk.go g5 hSt4)
        have hS5 := g5.lst nS (sm3 _ _ hS3)
        have hR5 := g5.lst nR (sm3 _ _ hR3)
        have hH5 := g5.lst nHd upd_same
        cases b with
        | false => exact nxt (rest _ _ ⟨Hd, rfl, g5.2, hS5, hR5, .inl ⟨hH5, nHd⟩, fun r hr => (hrow3 r hr).tk t5⟩)
        | true => exact ⟨_, .inl (SqL.of hR5), fun p H6 hp s6 => rest _ _ ⟨p, rfl, (g5.same s6).2, s6 _ _ hS5, s6 _ _ hR5, .inr hp, fun r hr => (hrow3 r hr).tk (t5.trans (Tk.same s6))⟩⟩
    · have hSt' : Sto (upd H2 S (.lst (as.map V.ref))) st cl := g2.2.lay nS (g2.2.ne_noneC hSn)
      have sm2 := same_upd (o := .lst (as.map V.ref)) hSn
      refine ⟨st, cl, _, rfl, hSt', by decide, fun b H3 g3 => ?_⟩
      have t3 : Tk H2 H3 := (Tk.same sm2).trans (Tk.go g3 hSt')
      have hS3 := g3.lst nS upd_same
      have hL3 := g3.lst nL (sm2 _ _ hl)
      cases b with
      | false => exact nxt (rest _ _ ⟨L, as, rfl, g3.2, hS3, hL3, nL, nLS, by omega, fun _ h => h, List.take_length, fun r hr => (hro r hr).tk t3⟩)
      | true =>
        refine ⟨st, cl, _, rfl, g3.2, by decide, fun n H4 n0 n1 g4 => ?_⟩
        have hn75 : n < 75 := by omega
        have hL4 := g4.lst nL hL3
        have hm : (1 + n).toNat ≤ 75 := by omega
        refine ⟨L, _, _, rfl, rfl, hL4, by omega, by omega, line _ ?_, fun p hp => ?_⟩
        · rw [List.length_map]
          have := Nat.mul_le_mul hn40 hm
          omega
        · refine ⟨_, rfl, Or.inl ⟨_, SqL.of upd_same, fun p2 hp2 => ?_⟩⟩
          have sm4 := same_upd (o := .lst (List.replicate (1 + n).toNat (as.map V.ref)).flatten) hp
          have e3 : cutV (List.replicate (1 + n).toNat (as.map V.ref)).flatten none (some (3000 : Int)) = (List.replicate (1 + n).toNat (as.map V.ref)).flatten.take 3000 := cut_to_n (n := 3000)
          have hml : ∀ v ∈ (List.replicate (1 + n).toNat (as.map V.ref)).flatten.take 3000, v ∈ as.map V.ref := fun v hv => by
            obtain ⟨l, hl1, hl2⟩ := List.mem_flatten.mp (List.mem_of_mem_take hv)
            rw [(List.mem_replicate.mp hl1).2] at hl2
            exact hl2
          obtain ⟨rs, ers, mrs⟩ := refs_of hml
          have h3 := g4.trans (Go.refl g4.2)
          have s5 := same_upd (o := .lst (cutV (List.replicate (1 + n).toNat (as.map V.ref)).flatten none (some (3000 : Int)))) hp2
          have sA := sm4.trans s5
          have e3' : (upd (upd H4 p (.lst (List.replicate (1 + n).toNat (as.map V.ref)).flatten)) p2 (.lst (cutV (List.replicate (1 + n).toNat (as.map V.ref)).flatten none (some (3000 : Int))))) p2 = some (.lst (rs.map V.ref)) := by rw [upd_same, e3, ers]
          refine rest [some (.ref a), some (.ref st), some (.ref p2), some (.ref S), none, none, none, none] (upd (upd H4 p (.lst (List.replicate (1 + n).toNat (as.map V.ref)).flatten)) p2 (.lst (cutV (List.replicate (1 + n).toNat (as.map V.ref)).flatten none (some (3000 : Int))))) ?_
          refine ⟨p2, rs, rfl, (g4.same sA).2, sA _ _ (g4.lst nS hS3), e3', ?_, ?_, ?_, mrs, ?_, fun r hr => (hro r hr).tk ((t3.trans (Tk.go g4 g3.2)).trans (Tk.same sA))⟩
          · exact (g4.same sm4).2.ne_none hp2
          · exact (ne_of_none (sm4 _ _ (g4.lst nS hS3)) hp2).symm
          · have := congrArg List.length ers
            rw [List.length_take, List.length_map] at this
            omega
          · refine map_ref_inj ?_
            rw [List.map_take, ← ers, List.take_take, Nat.min_eq_left (by omega), rep_take as _ (by omega)]

end
def d_kind_ofP : He.DefD := ⟨("kind_of", none), "kind_of", "kind_of", defArgs s_kind_ofP, defBody s_kind_ofP, defScope s_kind_ofP, [], []⟩
def d_sort_keyP : He.DefD := ⟨("sort_key", none), "sort_key", "sort_key", defArgs s_sort_keyP, defBody s_sort_keyP, defScope s_sort_keyP, [], []⟩
def d_row_keyP : He.DefD := ⟨("row_key", none), "row_key", "row_key", defArgs s_row_keyP, defBody s_row_keyP, defScope s_row_keyP, [], []⟩
def d_sorted_rowsP : He.DefD := ⟨("sorted_rows", none), "sorted_rows", "sorted_rows", defArgs s_sorted_rowsP, defBody s_sorted_rowsP, defScope s_sorted_rowsP, [], []⟩
def d_mix : He.DefD := ⟨("_law_mix", none), "_law_mix", "_law_mix", defArgs s_mix, defBody s_mix, defScope s_mix, [], []⟩
def d_store : He.DefD := ⟨("_law_store", none), "_law_store", "_law_store", defArgs s_store, defBody s_store, defScope s_store, [], []⟩
def d_take : He.DefD := ⟨("_law_take", none), "_law_take", "_law_take", defArgs s_take, defBody s_take, defScope s_take, [], []⟩
def d_odds : He.DefD := ⟨("_law_odds", none), "_law_odds", "_law_odds", defArgs s_odds, defBody s_odds, defScope s_odds, [], []⟩
def d_count : He.DefD := ⟨("_law_count", none), "_law_count", "_law_count", defArgs s_count, defBody s_count, defScope s_count, [], []⟩
def d_one : He.DefD := ⟨("_law_one", none), "_law_one", "_law_one", defArgs s_one, defBody s_one, defScope s_one, [], []⟩
def d_number : He.DefD := ⟨("_law_number", none), "_law_number", "_law_number", defArgs s_number, defBody s_number, defScope s_number, [], []⟩
def d_text : He.DefD := ⟨("_law_text", none), "_law_text", "_law_text", defArgs s_text, defBody s_text, defScope s_text, [], []⟩
def d_value : He.DefD := ⟨("_law_value", none), "_law_value", "_law_value", defArgs s_value, defBody s_value, defScope s_value, [], []⟩
def d_row : He.DefD := ⟨("_law_row", none), "_law_row", "_law_row", defArgs s_row, defBody s_row, defScope s_row, [], []⟩
def d_near : He.DefD := ⟨("_law_near", none), "_law_near", "_law_near", defArgs s_near, defBody s_near, defScope s_near, [], []⟩
def d_rows : He.DefD := ⟨("_law_rows", none), "_law_rows", "_law_rows", defArgs s_rows, defBody s_rows, defScope s_rows, [], []⟩
def d_same : He.DefD := ⟨("_law_same", none), "_law_same", "_law_same", defArgs s_same, defBody s_same, defScope s_same, [], []⟩
def d_sort_key : He.DefD := ⟨("_law_sort_key", none), "_law_sort_key", "_law_sort_key", defArgs s_sort_key, defBody s_sort_key, defScope s_sort_key, [], []⟩
def d_mark : He.DefD := ⟨("_law_mark", none), "_law_mark", "_law_mark", defArgs s_mark, defBody s_mark, defScope s_mark, [], []⟩
def d_tally : He.DefD := ⟨("_law_tally", none), "_law_tally", "_law_tally", defArgs s_tally, defBody s_tally, defScope s_tally, [], []⟩
def d_in_order : He.DefD := ⟨("_law_in_order", none), "_law_in_order", "_law_in_order", defArgs s_in_order, defBody s_in_order, defScope s_in_order, [], []⟩
def d_law : He.DefD := ⟨("law", none), "law", "law", defArgs s_law, defBody s_law, defScope s_law, [], []⟩
def fn : List He.DefD := [d_kind_ofP, d_sort_keyP, d_row_keyP, d_sorted_rowsP, d_mix, d_store, d_take, d_odds, d_count, d_one, d_number, d_text, d_value, d_row, d_near, d_rows, d_same, d_sort_key, d_mark, d_tally, d_in_order, d_law]
def fa : List He.Fa := [.glo "kind_of", .glo "sort_key", .glo "row_key", .glo "sorted_rows", .glo "_law_mix", .glo "_law_store", .glo "_law_take", .glo "_law_odds", .glo "_law_count", .glo "_law_one", .glo "_law_number", .glo "_law_text", .glo "_law_value", .glo "_law_row", .glo "_law_near", .glo "_law_rows", .glo "_law_same", .glo "_law_sort_key", .glo "_law_mark", .glo "_law_tally", .glo "_law_in_order", .glo "law", .free "len", .free "int", .free "str", .free "bool", .free "tuple", .free "list", .free "dict", .free "range", .free "isinstance", .free "min", .free "max", .free "sorted", .free "zip", .free "enumerate", .free "sum", .free "any", .free "all", .free "ord"]
abbrev R : PySem.W.OpenRow := PySem.W.OpenLaw.row PySem.Challenge.rw_storedesk_k02_sorted_rows
abbrev hk : PySem.W.Hook := He.hookD 4 fa fn
def ob (s : PySem.W.SharedT) : He.AlD := He.obsDG 4 fa fn (HandSHeadRun.getT s)
theorem ob_eq (s : PySem.W.SharedT) : ob s = hk.obs s.abs := He.obsDG_eq (HandSHeadRun.getT_eq s)
theorem run (w : World) : HandSHeadRun.RunEq R (PySem.W.view R.prog [23]) hk ob 1720 ["kind_of", "sort_key", "row_key", "sorted_rows", "_law_mix", "_law_store", "_law_take", "_law_odds", "_law_count", "_law_one", "_law_number", "_law_text", "_law_value", "_law_row", "_law_near", "_law_rows", "_law_same", "_law_sort_key", "_law_mark", "_law_tally", "_law_in_order"] w := by
  intro os
  kernel_rfl
theorem facts {P : Program} {w : World} {K : PySem.W.Frag} {h : Heap} {mg : Str → Option Value} {f : Addr} (X : K.In h) (G : h.Ns mainGlobals mg) (hfa : mg ("law" : Str) = some (.ref f)) (c : He.SaysD fa fn K) :
    ∃ fd : FuncData, (∀ (s : Shared) (v : Value), BindsTo s fd ⟨[v], []⟩ [("_law_script", v)]) ∧ ∀ base : Heap, K.In base → base.Ns mainGlobals mg → FnOk P w K mg base CX0 8 f fd ["_law_script"] (sp_law K) := by
  obtain ⟨fd0, X0⟩ := c.def_ 0 (d := d_kind_ofP) rfl
  obtain ⟨fd1, X1⟩ := c.def_ 1 (d := d_sort_keyP) rfl
  obtain ⟨fd2, X2⟩ := c.def_ 2 (d := d_row_keyP) rfl
  obtain ⟨fd3, X3⟩ := c.def_ 3 (d := d_sorted_rowsP) rfl
  obtain ⟨fd4, X4⟩ := c.def_ 4 (d := d_mix) rfl
  obtain ⟨fd5, X5⟩ := c.def_ 5 (d := d_store) rfl
  obtain ⟨fd6, X6⟩ := c.def_ 6 (d := d_take) rfl
  obtain ⟨fd7, X7⟩ := c.def_ 7 (d := d_odds) rfl
  obtain ⟨fd8, X8⟩ := c.def_ 8 (d := d_count) rfl
  obtain ⟨fd9, X9⟩ := c.def_ 9 (d := d_one) rfl
  obtain ⟨fd10, X10⟩ := c.def_ 10 (d := d_number) rfl
  obtain ⟨fd11, X11⟩ := c.def_ 11 (d := d_text) rfl
  obtain ⟨fd12, X12⟩ := c.def_ 12 (d := d_value) rfl
  obtain ⟨fd13, X13⟩ := c.def_ 13 (d := d_row) rfl
  obtain ⟨fd14, X14⟩ := c.def_ 14 (d := d_near) rfl
  obtain ⟨fd15, X15⟩ := c.def_ 15 (d := d_rows) rfl
  obtain ⟨fd16, X16⟩ := c.def_ 16 (d := d_same) rfl
  obtain ⟨fd17, X17⟩ := c.def_ 17 (d := d_sort_key) rfl
  obtain ⟨fd18, X18⟩ := c.def_ 18 (d := d_mark) rfl
  obtain ⟨fd19, X19⟩ := c.def_ 19 (d := d_tally) rfl
  obtain ⟨fd20, X20⟩ := c.def_ 20 (d := d_in_order) rfl
  obtain ⟨fd21, X21⟩ := c.def_ 21 (d := d_law) rfl
  have e := hfa.symm.trans (He.glo_ok X G (c.fact 21 (f := .glo "law") rfl))
  cases e
  have b := FunD.bindsA (ps := ["_law_script"]) X21 fun _ _ _ _ _ _ us hl => match us, hl with | [_], _ => rfl
  have B : Bf mg := ⟨He.free_ok X G (c.fact 22 (f := .free "len") rfl), He.free_ok X G (c.fact 23 (f := .free "int") rfl), He.free_ok X G (c.fact 24 (f := .free "str") rfl), He.free_ok X G (c.fact 25 (f := .free "bool") rfl), He.free_ok X G (c.fact 26 (f := .free "tuple") rfl), He.free_ok X G (c.fact 27 (f := .free "list") rfl), He.free_ok X G (c.fact 28 (f := .free "dict") rfl), He.free_ok X G (c.fact 29 (f := .free "range") rfl), He.free_ok X G (c.fact 30 (f := .free "isinstance") rfl), He.free_ok X G (c.fact 31 (f := .free "min") rfl), He.free_ok X G (c.fact 32 (f := .free "max") rfl), He.free_ok X G (c.fact 33 (f := .free "sorted") rfl), He.free_ok X G (c.fact 34 (f := .free "zip") rfl), He.free_ok X G (c.fact 35 (f := .free "enumerate") rfl), He.free_ok X G (c.fact 36 (f := .free "sum") rfl), He.free_ok X G (c.fact 37 (f := .free "any") rfl), He.free_ok X G (c.fact 38 (f := .free "all") rfl), He.free_ok X G (c.fact 39 (f := .free "ord") rfl)⟩
  refine ⟨fd21, fun s v => b s [v] rfl, fun base _ _ => ?_⟩
  have G4 := He.glo_ok X G (c.fact 4 (f := .glo "_law_mix") rfl)
  have B4 : Binds K fd4 ["_law_number_here", "_law_turn"] [] := X4.bindsN fun _ _ _ _ _ _ us hl => match us, hl with | [_, _], _ => rfl
  have O4 : FnOk P w K mg base CX0 1 _ fd4 ["_law_number_here", "_law_turn"] (sp_mix) := ok_mix X4 B 
  have F_mix : Fn P w K mg base "_law_mix" ["_law_number_here", "_law_turn"] 1 (sp_mix) := ⟨_, fd4, O4, G4, X4.kp, B4⟩
  have G5 := He.glo_ok X G (c.fact 5 (f := .glo "_law_store") rfl)
  have B5 : Binds K fd5 ["_law_script"] [] := X5.bindsN fun _ _ _ _ _ _ us hl => match us, hl with | [_], _ => rfl
  have O5 : FnOk P w K mg base CX0 2 _ fd5 ["_law_script"] (sp_store K) := ok_store X5 B F_mix
  have F_store : Fn P w K mg base "_law_store" ["_law_script"] 2 (sp_store K) := ⟨_, fd5, O5, G5, X5.kp, B5⟩
  have G6 := He.glo_ok X G (c.fact 6 (f := .glo "_law_take") rfl)
  have B6 : Binds K fd6 ["_law_store_here", "_law_many"] [] := X6.bindsN fun _ _ _ _ _ _ us hl => match us, hl with | [_, _], _ => rfl
  have O6 : FnOk P w K mg base CX0 2 _ fd6 ["_law_store_here", "_law_many"] (sp_take) := ok_take X6 B F_mix
  have F_take : Fn P w K mg base "_law_take" ["_law_store_here", "_law_many"] 2 (sp_take) := ⟨_, fd6, O6, G6, X6.kp, B6⟩
  have G7 := He.glo_ok X G (c.fact 7 (f := .glo "_law_odds") rfl)
  have B7 : Binds K fd7 ["_law_store_here", "_law_many"] [] := X7.bindsN fun _ _ _ _ _ _ us hl => match us, hl with | [_, _], _ => rfl
  have O7 : FnOk P w K mg base CX0 3 _ fd7 ["_law_store_here", "_law_many"] (sp_odds) := ok_odds X7 B F_take
  have F_odds : Fn P w K mg base "_law_odds" ["_law_store_here", "_law_many"] 3 (sp_odds) := ⟨_, fd7, O7, G7, X7.kp, B7⟩
  have G8 := He.glo_ok X G (c.fact 8 (f := .glo "_law_count") rfl)
  have B8 : Binds K fd8 ["_law_store_here", "_law_least", "_law_usual", "_law_most"] [] := X8.bindsN fun _ _ _ _ _ _ us hl => match us, hl with | [_, _, _, _], _ => rfl
  have O8 : FnOk P w K mg base CX0 3 _ fd8 ["_law_store_here", "_law_least", "_law_usual", "_law_most"] (sp_count) := ok_count X8 B F_take
  have F_count : Fn P w K mg base "_law_count" ["_law_store_here", "_law_least", "_law_usual", "_law_most"] 3 (sp_count) := ⟨_, fd8, O8, G8, X8.kp, B8⟩
  have G9 := He.glo_ok X G (c.fact 9 (f := .glo "_law_one") rfl)
  have B9 : Binds K fd9 ["_law_store_here", "_law_row_here"] [] := X9.bindsN fun _ _ _ _ _ _ us hl => match us, hl with | [_, _], _ => rfl
  have O9 : FnOk P w K mg base CX0 3 _ fd9 ["_law_store_here", "_law_row_here"] (sp_one K) := ok_one X9 B F_take
  have F_one : Fn P w K mg base "_law_one" ["_law_store_here", "_law_row_here"] 3 (sp_one K) := ⟨_, fd9, O9, G9, X9.kp, B9⟩
  have G10 := He.glo_ok X G (c.fact 10 (f := .glo "_law_number") rfl)
  have B10 : Binds K fd10 ["_law_store_here"] [] := X10.bindsN fun _ _ _ _ _ _ us hl => match us, hl with | [_], _ => rfl
  have O10 : FnOk P w K mg base CX0 3 _ fd10 ["_law_store_here"] (sp_number) := ok_number X10 B F_take
  have F_number : Fn P w K mg base "_law_number" ["_law_store_here"] 3 (sp_number) := ⟨_, fd10, O10, G10, X10.kp, B10⟩
  have G11 := He.glo_ok X G (c.fact 11 (f := .glo "_law_text") rfl)
  have B11 : Binds K fd11 ["_law_store_here", "_law_most"] [] := X11.bindsN fun _ _ _ _ _ _ us hl => match us, hl with | [_, _], _ => rfl
  have O11 : FnOk P w K mg base CX0 4 _ fd11 ["_law_store_here", "_law_most"] (sp_text) := ok_text X11 B F_take F_count
  have F_text : Fn P w K mg base "_law_text" ["_law_store_here", "_law_most"] 4 (sp_text) := ⟨_, fd11, O11, G11, X11.kp, B11⟩
  have G12 := He.glo_ok X G (c.fact 12 (f := .glo "_law_value") rfl)
  have B12 : Binds K fd12 ["_law_store_here"] [] := X12.bindsN fun _ _ _ _ _ _ us hl => match us, hl with | [_], _ => rfl
  have O12 : FnOk P w K mg base CX0 5 _ fd12 ["_law_store_here"] (sp_value) := ok_value X12 B F_take F_number F_text
  have F_value : Fn P w K mg base "_law_value" ["_law_store_here"] 5 (sp_value) := ⟨_, fd12, O12, G12, X12.kp, B12⟩
  have G0 := He.glo_ok X G (c.fact 0 (f := .glo "kind_of") rfl)
  have B0 : Binds K fd0 ["value"] [] := X0.bindsN fun _ _ _ _ _ _ us hl => match us, hl with | [_], _ => rfl
  have O0 : FnOk P w K mg base CX0 1 _ fd0 ["value"] (sp_kind_ofP) := ok_kind_ofP X0 B 
  have F_kind_ofP : Fn P w K mg base "kind_of" ["value"] 1 (sp_kind_ofP) := ⟨_, fd0, O0, G0, X0.kp, B0⟩
  have G1 := He.glo_ok X G (c.fact 1 (f := .glo "sort_key") rfl)
  have B1 : Binds K fd1 ["value"] [] := X1.bindsN fun _ _ _ _ _ _ us hl => match us, hl with | [_], _ => rfl
  have O1 : FnOk P w K mg base CX0 2 _ fd1 ["value"] (sp_key K) := ok_sort_keyP X1 B F_kind_ofP
  have F_sort_keyP : Fn P w K mg base "sort_key" ["value"] 2 (sp_key K) := ⟨_, fd1, O1, G1, X1.kp, B1⟩
  have K_sort_keyP : FnK P w K mg base "sort_key" ["value"] 0 2 (sp_key K) := ⟨⟨_, fd1, O1, G1, X1.kp, fun_kb (x := "sort_key") (st := s_sort_keyP) (n := 0) X1 fun _ _ _ _ _ _ us ws h1 h2 => match us, ws, h1, h2 with | [], [_], _, _ => rfl⟩, Nat.zero_le _⟩
  have G2 := He.glo_ok X G (c.fact 2 (f := .glo "row_key") rfl)
  have B2 : Binds K fd2 ["row"] [] := X2.bindsN fun _ _ _ _ _ _ us hl => match us, hl with | [_], _ => rfl
  have O2 : FnOk P w K mg base CX0 3 _ fd2 ["row"] (sp_rowkey K) := ok_row_keyP X2 B F_sort_keyP
  have F_row_keyP : Fn P w K mg base "row_key" ["row"] 3 (sp_rowkey K) := ⟨_, fd2, O2, G2, X2.kp, B2⟩
  have K_row_keyP : FnK P w K mg base "row_key" ["row"] 0 3 (sp_rowkey K) := ⟨⟨_, fd2, O2, G2, X2.kp, fun_kb (x := "row_key") (st := s_row_keyP) (n := 0) X2 fun _ _ _ _ _ _ us ws h1 h2 => match us, ws, h1, h2 with | [], [_], _, _ => rfl⟩, Nat.zero_le _⟩
  have G3 := He.glo_ok X G (c.fact 3 (f := .glo "sorted_rows") rfl)
  have B3 : Binds K fd3 ["rows"] [] := X3.bindsN fun _ _ _ _ _ _ us hl => match us, hl with | [_], _ => rfl
  have O3 : FnOk P w K mg base CX0 5 _ fd3 ["rows"] (sp_sorted K) := ok_sorted_rowsP X3 B F_row_keyP
  have F_sorted_rowsP : Fn P w K mg base "sorted_rows" ["rows"] 5 (sp_sorted K) := ⟨_, fd3, O3, G3, X3.kp, B3⟩
  have K_sorted_rowsP : FnK P w K mg base "sorted_rows" ["rows"] 0 5 (sp_sorted K) := ⟨⟨_, fd3, O3, G3, X3.kp, fun_kb (x := "sorted_rows") (st := s_sorted_rowsP) (n := 0) X3 fun _ _ _ _ _ _ us ws h1 h2 => match us, ws, h1, h2 with | [], [_], _, _ => rfl⟩, Nat.zero_le _⟩
  have G13 := He.glo_ok X G (c.fact 13 (f := .glo "_law_row") rfl)
  have B13 : Binds K fd13 ["_law_store_here"] [] := X13.bindsN fun _ _ _ _ _ _ us hl => match us, hl with | [_], _ => rfl
  have O13 : FnOk P w K mg base CX0 6 _ fd13 ["_law_store_here"] (sp_row K) := ok_row X13 B F_count F_value
  have F_row : Fn P w K mg base "_law_row" ["_law_store_here"] 6 (sp_row K) := ⟨_, fd13, O13, G13, X13.kp, B13⟩
  have G14 := He.glo_ok X G (c.fact 14 (f := .glo "_law_near") rfl)
  have B14 : Binds K fd14 ["_law_store_here", "_law_row_here"] [] := X14.bindsN fun _ _ _ _ _ _ us hl => match us, hl with | [_, _], _ => rfl
  have O14 : FnOk P w K mg base CX0 6 _ fd14 ["_law_store_here", "_law_row_here"] (sp_near K) := ok_near X14 B F_take F_value
  have F_near : Fn P w K mg base "_law_near" ["_law_store_here", "_law_row_here"] 6 (sp_near K) := ⟨_, fd14, O14, G14, X14.kp, B14⟩
  have G15 := He.glo_ok X G (c.fact 15 (f := .glo "_law_rows") rfl)
  have B15 : Binds K fd15 ["_law_store_here", "_law_usual", "_law_most"] [] := X15.bindsN fun _ _ _ _ _ _ us hl => match us, hl with | [_, _, _], _ => rfl
  have O15 : FnOk P w K mg base CX0 7 _ fd15 ["_law_store_here", "_law_usual", "_law_most"] (sp_rows K) := ok_rows X15 B F_take F_count F_one F_row F_near
  have F_rows : Fn P w K mg base "_law_rows" ["_law_store_here", "_law_usual", "_law_most"] 7 (sp_rows K) := ⟨_, fd15, O15, G15, X15.kp, B15⟩
  have G16 := He.glo_ok X G (c.fact 16 (f := .glo "_law_same") rfl)
  have B16 : Binds K fd16 ["_law_left", "_law_right"] [] := X16.bindsN fun _ _ _ _ _ _ us hl => match us, hl with | [_, _], _ => rfl
  have O16 : FnOk P w K mg base CX0 4 _ fd16 ["_law_left", "_law_right"] (sp_same K 4) := ok_same X16 B G16 X16.kp B16 4
  have F_same : Fn P w K mg base "_law_same" ["_law_left", "_law_right"] 4 (sp_same K 4) := ⟨_, fd16, O16, G16, X16.kp, B16⟩
  have G17 := He.glo_ok X G (c.fact 17 (f := .glo "_law_sort_key") rfl)
  have B17 : Binds K fd17 ["_law_value_here"] [] := X17.bindsN fun _ _ _ _ _ _ us hl => match us, hl with | [_], _ => rfl
  have O17 : FnOk P w K mg base CX0 1 _ fd17 ["_law_value_here"] (sp_key K) := ok_sort_key X17 B 
  have F_sort_key : Fn P w K mg base "_law_sort_key" ["_law_value_here"] 1 (sp_key K) := ⟨_, fd17, O17, G17, X17.kp, B17⟩
  have G18 := He.glo_ok X G (c.fact 18 (f := .glo "_law_mark") rfl)
  have B18 : Binds K fd18 ["_law_row_here"] [] := X18.bindsN fun _ _ _ _ _ _ us hl => match us, hl with | [_], _ => rfl
  have O18 : FnOk P w K mg base CX0 2 _ fd18 ["_law_row_here"] (sp_rowkey K) := ok_mark X18 B F_sort_key
  have F_mark : Fn P w K mg base "_law_mark" ["_law_row_here"] 2 (sp_rowkey K) := ⟨_, fd18, O18, G18, X18.kp, B18⟩
  have G19 := He.glo_ok X G (c.fact 19 (f := .glo "_law_tally") rfl)
  have B19 : Binds K fd19 ["_law_rows_here"] [] := X19.bindsN fun _ _ _ _ _ _ us hl => match us, hl with | [_], _ => rfl
  have O19 : FnOk P w K mg base CX0 3 _ fd19 ["_law_rows_here"] (sp_tally P w K) := ok_tally X19 B F_mark
  have F_tally : Fn P w K mg base "_law_tally" ["_law_rows_here"] 3 (sp_tally P w K) := ⟨_, fd19, O19, G19, X19.kp, B19⟩
  have G20 := He.glo_ok X G (c.fact 20 (f := .glo "_law_in_order") rfl)
  have B20 : Binds K fd20 ["_law_rows_here", "_law_told"] [] := X20.bindsN fun _ _ _ _ _ _ us hl => match us, hl with | [_, _], _ => rfl
  have O20 : FnOk P w K mg base CX0 4 _ fd20 ["_law_rows_here", "_law_told"] (sp_inord K) := ok_in_order X20 B F_mark F_tally
  have F_in_order : Fn P w K mg base "_law_in_order" ["_law_rows_here", "_law_told"] 4 (sp_inord K) := ⟨_, fd20, O20, G20, X20.kp, B20⟩
  exact ok_law X21 B F_store F_take F_odds F_rows F_row F_same F_in_order F_sorted_rowsP K_sorted_rowsP
end Sd
open PySem PySem.W PySem.Calls PyProof.Rows
set_option maxHeartbeats 0 in
theorem PySem.Challenge.cw_storedesk_k02_sorted_rows_holds : PySem.Challenge.rw_storedesk_k02_sorted_rows.Holds := by
  w_on; o_law
  refine HandSHeadRun.head_any (r := OpenLaw.row PySem.Challenge.rw_storedesk_k02_sorted_rows) (q := view (OpenLaw.row PySem.Challenge.rw_storedesk_k02_sorted_rows).prog [23]) (H := Sd.hk) (ob := Sd.ob) (M := 1720) (loose := ["kind_of", "sort_key", "row_key", "sorted_rows", "_law_mix", "_law_store", "_law_take", "_law_odds", "_law_count", "_law_one", "_law_number", "_law_text", "_law_value", "_law_row", "_law_near", "_law_rows", "_law_same", "_law_sort_key", "_law_mark", "_law_tally", "_law_in_order"]) (d := HandSHeadRun.topDef (OpenLaw.row PySem.Challenge.rw_storedesk_k02_sorted_rows).prog 23) (kwd := []) Sd.ob_eq
    (by kernel_rfl) (fun s => by kernel_rfl) Sd.run (by kernel_rfl) (by kernel_rfl) (by kernel_rfl) (by rfl) (by first | assumption | decide +kernel) (by decide +kernel) ⟨rfl, rfl, rfl, rfl, rfl, by decide +kernel⟩ ?hw ?hc
  case hw => w_witness2
  case hc =>
    refine L2.walk_ofE (l := PySem.Challenge.rw_storedesk_k02_sorted_rows) (n := 63) (k := 8) (x := "_law_script") (CX := L2.CX0) rfl (by decide) (by kernel_rfl) ⟨rfl, by decide, by decide⟩ ?F (fun _ _ _ _ z => z)
    intro w mg fa h Y G hmg0
    obtain ⟨K, KX, c⟩ := Y
    have hmg : mg ("law" : PySem.Str) = some (.ref fa) := by
      have e : (HandSHeadRun.topDef (OpenLaw.row PySem.Challenge.rw_storedesk_k02_sorted_rows).prog 23).name = ("law" : PySem.Str) := by kernel_rfl
      rw [← e]
      exact hmg0
    obtain ⟨fd, hb, hF⟩ := Sd.facts (P := (PySem.Challenge.rw_storedesk_k02_sorted_rows).prog) (w := w) KX G hmg c
    exact ⟨K, fd, Sd.sp_law K, KX, hb, fun H a ns hl _ hS => ⟨a, ns, rfl, hS, hl, fun _ => rfl⟩, hF⟩

