import PyProof.Rows.All
import Wide.All
import OpenK.AllK
import Wide.FinOn
import KE.KStateDown
import HandS.ForMost
import HandS.ForExc
import HandS.Defaults
import HandS.Flow
import HandS.Style
import HandS.FStr
import HandS.IsInst
import HandS.CallSlots
import HandS.ExcInit
import HandS.ExcField
import HandS.ExcIs
import HandS.HotCalls
import HandS.Conv
import HandS.StrMore
import HandS.Head0
import HandS.Head1
import HandS.Head2
import HandS.HeadEnd
import HandS.HeadHook1
import HandS.HeadHook2
import HandS.HeadHook3
import HandS.HeadHook4
import HandS.Walk
import HandS.Replace
import PyProof.StrReplace2
import PyProof.FitsReplace
import HandS.Ends
import HandS.Text
import PyProof.StrLawsRepr
import HandS.Base
import HandS.Call
import HandS.More
import HandS.Words
import HandS.WordsExc
import PySem.Challenge.RW_spinemarks_k67_rules_by_rows
set_option Elab.async false
set_option linter.all false
set_option maxRecDepth 100000
set_option maxHeartbeats 4000000
/-! U: universal readings (by the values' own forms), weakening, bundles of defs. -/
namespace U
open PySem PySem.Spec PyProof.Rows L2

/-! ### weakening -/
section
variable {X : Cx}
theorem pe_imp {e : Expr} {t t' : TE} (h : PE X e t) (f : ∀ σ H Q, t' σ H Q → t σ H Q) : PE X e t' := ⟨fun pins s σ H Q I q => h.run pins s σ H Q I (f _ _ _ q)⟩
theorem pt_imp {e : Expr} {t t' : TT} (h : PT X e t) (f : ∀ σ H Q, t' σ H Q → t σ H Q) : PT X e t' := ⟨fun pins s σ H Q I q => h.run pins s σ H Q I (f _ _ _ q)⟩
theorem ps_imp {e : Stmt} {t t' : TS} (h : PS X e t) (f : ∀ D σ H, t' D σ H → t D σ H) : PS X e t' := ⟨fun pins s σ H D I q => h.run pins s σ H D I (f _ _ _ q)⟩
theorem op_imp {f : Value → Value → Sem Value} {r r' : R2} (h : OpR X f r) (i : ∀ x y H Q, r' x y H Q → r x y H Q) : OpR X f r' := fun pins s σ H x y v u Q I rx ry q => h pins s σ H x y v u Q I rx ry (i _ _ _ _ q)
theorem call_imp {f : Value} {r r' : List V → Hp → VK → Prop} (h : CallR X f r) (i : ∀ xs H Q, r' xs H Q → r xs H Q) : CallR X f r' := fun pins s σ H xs us Q I rx q => h pins s σ H xs us Q I rx (i _ _ _ q)
theorem mt_imp {id : String} {r r' : V → List V → Hp → VK → Prop} (h : MtR X id r) (i : ∀ x xs H Q, r' x xs H Q → r x xs H Q) : MtR X id r' := fun pins s σ H x xs v us Q I rx ry q => h pins s σ H x xs v us Q I rx ry (i _ _ _ _ q)

/-! ### names -/
/-- the i-th slot's value -/
def cV (i : Nat) : TE := fun σ H Q => match σ[i]? with
  | some (some v) => Q v H
  | _ => False
theorem uv (i : Nat) {x : Str} {pos : Pos} (hN : X.N[i]? = some x := by rfl) (hv : Vis X.env.scope x := by first | exact Or.inl rfl | exact Or.inr (Or.inl rfl) | exact Or.inr (Or.inr rfl)) (hd : (x == ("__debug__" : Str)) = false := by decide)
    (hcd : (x == ("__classdict__" : Str)) = false := by decide) : PE X (.Name x pos) (cV i) := pe_imp (pv i hN hv hd hcd) fun σ H Q q => by
  unfold cV at q
  split at q
  · exact ⟨_, by assumption, q⟩
  · exact q.elim

/-! ### operators -/
def uAdd : R2 := fun x y H Q => match x, y with
  | .int i, .int j => Q (.int (i + j)) H
  | .str a, .str b => a.length + b.length ≤ sizeLine ∧ Q (.str (a ++ b)) H
  | .ref l, .ref b => ∃ xs zs, H l = some (.lst xs) ∧ H b = some (.lst zs) ∧ xs.length + zs.length ≤ sizeLine ∧ ∀ p, H p = none → Q (.ref p) (upd H p (.lst (xs ++ zs)))
  | _, _ => False
theorem op_uAdd : OpR X (binaryOp .Add) uAdd := by
  intro pins s σ H x y v u Q I rx ry h
  cases x <;> cases y <;> first
    | exact False.elim h
    | exact op_add pins s σ H _ _ v u Q I rx ry ⟨_, _, rfl, rfl, h⟩
    | exact op_add_str pins s σ H _ _ v u Q I rx ry ⟨_, _, rfl, rfl, h.1, h.2⟩
    | exact op_cat pins s σ H _ _ v u Q I rx ry (let ⟨xs, zs, h1, h2, h3, h4⟩ := h; ⟨_, _, xs, zs, rfl, rfl, h1, h2, h3, h4⟩)
def uSub : R2 := fun x y H Q => match x, y with
  | .int i, .int j => Q (.int (i - j)) H
  | _, _ => False
theorem op_uSub : OpR X (binaryOp .Sub) uSub := by
  intro pins s σ H x y v u Q I rx ry h
  cases x <;> cases y <;> first
    | exact False.elim h
    | exact op_sub pins s σ H _ _ v u Q I rx ry ⟨_, _, rfl, rfl, h⟩
def uMul : R2 := fun x y H Q => match x, y with
  | .int i, .int j => CMul i j ∧ Q (.int (i * j)) H
  | .ref l, .int k => ∃ xs, H l = some (.lst xs) ∧ -(2 ^ 63) ≤ k ∧ k < 2 ^ 63 ∧ xs.length * k.toNat ≤ sizeLine ∧ ∀ p, H p = none → Q (.ref p) (upd H p (.lst (List.replicate k.toNat xs).flatten))
  | _, _ => False
theorem op_uMul : OpR X (binaryOp .Mult) uMul := by
  intro pins s σ H x y v u Q I rx ry h
  cases x <;> cases y <;> first
    | exact False.elim h
    | exact op_mul pins s σ H _ _ v u Q I rx ry ⟨_, _, rfl, rfl, h.1, h.2⟩
    | exact op_rep pins s σ H _ _ v u Q I rx ry (let ⟨xs, h1, h2, h3, h4, h5⟩ := h; ⟨_, _, xs, rfl, rfl, h1, h2, h3, h4, h5⟩)
/-- % by a positive divisor -/
def uMod : R2 := fun x y H Q => match x, y with
  | .int i, .int j => 0 < j ∧ Q (.int (i % j)) H
  | _, _ => False
theorem op_uMod : OpR X (binaryOp .Mod) uMod := by
  intro pins s σ H x y v u Q I rx ry h
  cases x <;> cases y <;> first
    | exact False.elim h
    | exact op_mod pins s σ H _ _ v u Q I rx ry ⟨_, _, rfl, rfl, h.1, h.2⟩
def uFdv : R2 := fun x y H Q => match x, y with
  | .int i, .int j => CDiv i j ∧ Q (.int (i / j)) H
  | _, _ => False
theorem op_uFdv : OpR X (binaryOp .FloorDiv) uFdv := by
  intro pins s σ H x y v u Q I rx ry h
  cases x <;> cases y <;> first
    | exact False.elim h
    | exact op_fdiv pins s σ H _ _ v u Q I rx ry ⟨_, _, rfl, rfl, h.1, h.2⟩
def uPow : R2 := fun x y H Q => match x, y with
  | .int i, .int j => CPow i j ∧ Q (.int (i ^ j.toNat)) H
  | _, _ => False
theorem op_uPow : OpR X (binaryOp .Pow) uPow := by
  intro pins s σ H x y v u Q I rx ry h
  cases x <;> cases y <;> first
    | exact False.elim h
    | exact op_pow pins s σ H _ _ v u Q I rx ry ⟨_, _, rfl, rfl, h.1, h.2⟩
def uNeg : V → Hp → VK → Prop := fun x H Q => match x with
  | .int i => Q (.int (-i)) H
  | _ => False
theorem un_uNeg : UnR X (unaryOp .USub) uNeg := by
  intro pins s σ H x v Q I rx h
  cases x <;> first
    | exact False.elim h
    | exact un_neg pins s σ H _ v Q I rx ⟨_, rfl, h⟩

/-! ### comparisons -/
def uLt : R2 := fun x y H Q => match x, y with
  | .int i, .int j => Q (.bl (decide (i < j))) H
  | .str i, .str j => Q (.bl (decide (i.cps.toList < j.cps.toList))) H
  | _, _ => False
theorem op_uLt : OpR X (compareOp .Lt) uLt := by
  intro pins s σ H x y v u Q I rx ry h
  cases x <;> cases y <;> first
    | exact False.elim h
    | exact op_lt pins s σ H _ _ v u Q I rx ry ⟨_, _, rfl, rfl, h⟩
    | exact op_lt_str pins s σ H _ _ v u Q I rx ry ⟨_, _, rfl, rfl, h⟩
def uGt : R2 := fun x y H Q => match x, y with
  | .int i, .int j => Q (.bl (decide (j < i))) H
  | .str i, .str j => Q (.bl (decide (j.cps.toList < i.cps.toList))) H
  | _, _ => False
theorem op_uGt : OpR X (compareOp .Gt) uGt := by
  intro pins s σ H x y v u Q I rx ry h
  cases x <;> cases y <;> first
    | exact False.elim h
    | exact op_gt pins s σ H _ _ v u Q I rx ry ⟨_, _, rfl, rfl, h⟩
    | exact op_gt_str pins s σ H _ _ v u Q I rx ry ⟨_, _, rfl, rfl, h⟩
def uLe : R2 := fun x y H Q => match x, y with
  | .int i, .int j => Q (.bl (decide (i ≤ j))) H
  | .str i, .str j => Q (.bl (!decide (j.cps.toList < i.cps.toList))) H
  | _, _ => False
theorem op_uLe : OpR X (compareOp .LtE) uLe := by
  intro pins s σ H x y v u Q I rx ry h
  cases x <;> cases y <;> first
    | exact False.elim h
    | exact op_le pins s σ H _ _ v u Q I rx ry ⟨_, _, rfl, rfl, h⟩
    | exact op_le_str pins s σ H _ _ v u Q I rx ry ⟨_, _, rfl, rfl, h⟩
def uGe : R2 := fun x y H Q => match x, y with
  | .int i, .int j => Q (.bl (decide (j ≤ i))) H
  | .str i, .str j => Q (.bl (!decide (i.cps.toList < j.cps.toList))) H
  | _, _ => False
theorem op_uGe : OpR X (compareOp .GtE) uGe := by
  intro pins s σ H x y v u Q I rx ry h
  cases x <;> cases y <;> first
    | exact False.elim h
    | exact op_ge pins s σ H _ _ v u Q I rx ry ⟨_, _, rfl, rfl, h⟩
    | exact op_ge_str pins s σ H _ _ v u Q I rx ry ⟨_, _, rfl, rfl, h⟩
/-- == : scalars by their values, else data by what stands in the heap -/
def uEq (K : PySem.W.Frag) : R2 := fun x y H Q => (scal x y = true ∧ Q (.bl (decide (x = y))) H) ∨ rEqD K x y H Q
theorem op_uEq (hu : X.A.units + 64 < cLine) : OpR X (compareOp .Eq) (uEq X.K) := OpR.or op_eq (op_eqD hu)
def uNe (K : PySem.W.Frag) : R2 := fun x y H Q => (scal x y = true ∧ Q (.bl (!decide (x = y))) H) ∨ rNeD K x y H Q
theorem op_uNe (hu : X.A.units + 64 < cLine) : OpR X (compareOp .NotEq) (uNe X.K) := OpR.or op_ne (op_neD hu)
def uIs : R2 := fun x y H Q => y = .non ∧ Q (.bl (decide (x = .non))) H
theorem op_uIs : OpR X (compareOp .Is) uIs := op_isN
def uIsNot : R2 := fun x y H Q => y = .non ∧ Q (.bl (!decide (x = .non))) H
theorem op_uIsNot : OpR X (compareOp .IsNot) uIsNot := op_notN
/-- in: one sign in a text, a flat thing in a list or tuple -/
def uIn (K : PySem.W.Frag) : R2 := fun x y H Q => match y with
  | .str z => ∃ c, x = .str ⟨#[c]⟩ ∧ Q (.bl (decide (c ∈ z.cps.toList))) H
  | .ref p => ∃ xs, (SqL K H p xs ∨ SqT K H p xs) ∧ flatV x = true ∧ xs.all flatV = true ∧ Q (.bl (inV x xs)) H
  | _ => False
theorem op_uIn : OpR X (compareOp .In) (uIn X.K) := by
  intro pins s σ H x y v u Q I rx ry h
  cases y <;> first
    | exact False.elim h
    | exact op_in_sign pins s σ H _ _ v u Q I rx ry (let ⟨c, h1, h2⟩ := h; ⟨c, _, h1, rfl, h2⟩)
    | exact op_in_seq pins s σ H _ _ v u Q I rx ry (let ⟨xs, h1, h2, h3, h4⟩ := h; ⟨_, xs, rfl, h1, h2, h3, h4⟩)
def uNin (K : PySem.W.Frag) : R2 := fun x y H Q => match y with
  | .str z => ∃ c, x = .str ⟨#[c]⟩ ∧ Q (.bl (!decide (c ∈ z.cps.toList))) H
  | .ref p => ∃ xs, (SqL K H p xs ∨ SqT K H p xs) ∧ flatV x = true ∧ xs.all flatV = true ∧ Q (.bl (!inV x xs)) H
  | _ => False
theorem op_uNin : OpR X (compareOp .NotIn) (uNin X.K) := by
  intro pins s σ H x y v u Q I rx ry h
  cases y <;> first
    | exact False.elim h
    | exact op_notIn_sign pins s σ H _ _ v u Q I rx ry (let ⟨c, h1, h2⟩ := h; ⟨c, _, h1, rfl, h2⟩)
    | exact op_notIn_seq pins s σ H _ _ v u Q I rx ry (let ⟨xs, h1, h2, h3, h4⟩ := h; ⟨_, xs, rfl, h1, h2, h3, h4⟩)

/-! ### subscripts, slices -/
def uIx (K : PySem.W.Frag) : R2 := fun x y H Q => match x, y with
  | .str z, .int i => z.length ≤ sizeLine ∧ ∃ c, atI z.cps.toList i = some c ∧ Q (.str ⟨#[c]⟩) H
  | .ref p, .int i => ∃ xs v, (SqL K H p xs ∨ SqT K H p xs) ∧ atI xs i = some v ∧ Q v H
  | _, _ => False
theorem ix_u : IxR X (uIx X.K) := by
  intro a b pins s σ H x y v u Q I rx ry h hs
  cases x <;> cases y <;> first
    | exact False.elim h
    | exact ix_str a b pins s σ H _ _ v u Q I rx ry (let ⟨h1, c, h2, h3⟩ := h; ⟨_, _, c, rfl, rfl, h1, h2, h3⟩) hs
    | (obtain ⟨xs, w, h1, h2, h3⟩ := h
       rcases h1 with h1 | h1
       · exact ix_list a b pins s σ H _ _ v u Q I rx ry ⟨_, xs, _, w, rfl, rfl, h1, h2, h3⟩ hs
       · exact ix_tup a b pins s σ H _ _ v u Q I rx ry ⟨_, xs, _, w, rfl, rfl, h1, h2, h3⟩ hs)
def uSl (K : PySem.W.Frag) : V → Option Int → Option Int → Hp → VK → Prop := fun x lo hi H Q => match x with
  | .str z => z.length ≤ sizeLine ∧ Q (.str (cutS z lo hi)) H
  | .ref a => ∃ xs, SqL K H a xs ∧ ∀ p, H p = none → Q (.ref p) (upd H p (.lst (cutV xs lo hi)))
  | _ => False
theorem sl_u : SlR X (uSl X.K) := by
  intro pins s σ H x
  cases x <;> intro v lo hi sl vl vu Q I rx h1 h2 h3 h
  all_goals first
    | exact False.elim h
    | exact sl_str pins s σ H _ v lo hi sl vl vu Q I rx h1 h2 h3 ⟨_, rfl, h.1, h.2⟩
    | exact sl_list pins s σ H _ v lo hi sl vl vu Q I rx h1 h2 h3 (let ⟨xs, q1, q2⟩ := h; ⟨_, xs, rfl, q1, q2⟩)
end
end U

set_option Elab.async false
set_option linter.all false
set_option maxRecDepth 100000
set_option maxHeartbeats 4000000
/-! U2: what a for walks (by the value), calls of defs by bundles, makers, worlds. -/
namespace U
open PySem PySem.Spec PyProof.Rows L2
section
variable {X : Cx} {tg : Expr}
/-- a list, a tuple, a text -/
def uIt (K : PySem.W.Frag) (tl : TE) : TI := fun σ H R => tl σ H fun x H1 => match x with
  | .str z => R (Its z) H1
  | .ref a => ((∃ xs, SqL K H1 a xs) ∧ R (Itl K a) H1) ∨ ((∃ xs, SqT K H1 a xs) ∧ R (Itt K a) H1)
  | _ => False
theorem pi_u {l : Expr} {tl : TE} (hl : PE X l tl) : PI X tg l (uIt X.K tl) := by
  refine ⟨fun pins s σ H R I h => ?_⟩
  refine thn (hl.run pins s σ H _ I h) fun v s1 ⟨x, H1, I1, r1, q1⟩ => ?_
  cases x with
  | str x =>
    obtain ⟨t, rfl⟩ := r1
    cases ha : x.cps.all (· < 128)
    · exact wpAny_pyIter_wide ha (pi_one (tk := s1.toks) I1 _ (turn_str _ x t "str_iterator" (.inr rfl)) ⟨_, Heap.get?_push_size _ rfl, rfl, rfl⟩ q1)
    · exact wpAny_pyIter_ascii ha (pi_one (tk := s1.toks) I1 _ (turn_str _ x t "str_ascii_iterator" (.inl rfl)) ⟨_, Heap.get?_push_size _ rfl, rfl, rfl⟩ q1)
  | ref a =>
    cases r1
    rcases q1 with ⟨⟨xs, hq⟩, q⟩ | ⟨⟨xs, hq⟩, q⟩
    · obtain ⟨its, rv, p, hz⟩ := I1.list hq
      refine wpAny_pyIter_list p.isList ?_
      refine ⟨s1.heap.objs.size, [s1.heap.objs.size], _, _, H1, rfl, I1.kept (t' := s1.toks) fun b o e => Heap.get?_push_of_some _ e, turn_list a _, ⟨_, Heap.get?_push_size _ rfl, rfl, rfl⟩, fun b hb => ?_, q⟩
      have e : b = s1.heap.objs.size := by simpa using hb
      subst e
      exact I1.fpOk (Nat.le_refl _) (I1.hok.fresh (Nat.le_refl _))
    · obtain ⟨its, rv, p, hz⟩ := I1.tuple hq
      refine wpAny_pyIter_tuple (show s1.heap.IsTuple a its.toArray from p) ?_
      refine ⟨s1.heap.objs.size, [s1.heap.objs.size], _, _, H1, rfl, I1.kept (t' := s1.toks) fun b o e => Heap.get?_push_of_some _ e, turn_tuple a _, ⟨_, Heap.get?_push_size _ rfl, rfl, rfl⟩, fun b hb => ?_, q⟩
      have e : b = s1.heap.objs.size := by simpa using hb
      subst e
      exact I1.fpOk (Nat.le_refl _) (I1.hok.fresh (Nat.le_refl _))
  | _ => exact False.elim q1
end

/-! ### a def of the module, by its name: the promise sp, the defaults dvs, the room k -/
structure Dk (P : Program) (w : World) (K : PySem.W.Frag) (mg : Str → Option Value) (base : Heap) (CX : CXT) (k : Nat) (x : Str) (dvs : List V) (sp : Sp) : Prop where
  ex : ∃ f fd ps ds, FnOk P w K mg base CX k f fd ps sp ∧ mg x = some (.ref f) ∧ PySem.W.keepIn K (.ref f) = true ∧ Binds K fd ps ds ∧ Vals dvs ds
/-- a class of the module, its __init__ -/
structure Mkd (P : Program) (w : World) (K : PySem.W.Frag) (mg : Str → Option Value) (base : Heap) (CX : CXT) (k : Nat) (x : Str) (C : Addr) (dvs : List V) (sp : Sp) : Prop where
  ex : ∃ f fd ps ds, FnOk P w K mg base CX k f fd ps sp ∧ mg x = some (.ref C) ∧ Mk K C f ∧ Binds K fd ps ds ∧ Vals dvs ds
/-- a method of the class at C -/
structure Mtd (P : Program) (w : World) (K : PySem.W.Frag) (mg : Str → Option Value) (base : Heap) (CX : CXT) (k : Nat) (C : Addr) (m : Str) (dvs : List V) (sp : Sp) : Prop where
  ex : ∃ f fd ps ds, FnOk P w K mg base CX k f fd ps sp ∧ Cls K C ∧ Meth K C m f ∧ Binds K fd ps ds ∧ Vals dvs ds
section
variable {X : Cx} {CX : CXT} {k j : Nat} {C : Addr} {sp : Sp} {dvs : List V} {E : XK} {ES : L2.St → XK} {x m : Str} {p pos apos : Pos} {e o : Expr} {es : List Expr} {ta : TE} {t : TA}
theorem pe_d (D : Dk X.prog X.w X.K X.mg X.base CX k x dvs sp) (hr : Room j X.A) (hk : k ≤ j) (hg : Gl X x) (hx : Passes CX X E) (ha : PA X (e :: es) t) (hdb : (x == ("__debug__" : Str)) = false := by decide)
    (he : starEach (e :: es) X.env = (false, eval e X.env) :: starEach es X.env := by rfl) (hpl : (backTo pos (starEach es X.env)).any (·.1) = false := by rfl) : PE X (.Call (.Name x p) (e :: es) [] pos) (tCall sp dvs E t) := by
  obtain ⟨f, fd, ps, ds, F, hm, hkp, hb, hd⟩ := D.ex
  exact pe_call F (hr.mono hk) hg hm hkp hb hd hx ha hdb he hpl
/-- what is raised, told at the caller's slots -/
theorem pe_dS (D : Dk X.prog X.w X.K X.mg X.base CX k x dvs sp) (hr : Room j X.A) (hk : k ≤ j) (hg : Gl X x) (hx : ∀ σ, PassesAt CX X σ (ES σ)) (ha : PA X (e :: es) t) (hdb : (x == ("__debug__" : Str)) = false := by decide)
    (he : starEach (e :: es) X.env = (false, eval e X.env) :: starEach es X.env := by rfl) (hpl : (backTo pos (starEach es X.env)).any (·.1) = false := by rfl) : PE X (.Call (.Name x p) (e :: es) [] pos) (tCallSD sp dvs ES t) := by
  obtain ⟨f, fd, ps, ds, F, hm, hkp, hb, hd⟩ := D.ex
  exact pe_callSD F (hr.mono hk) hg hm hkp hb hd hx ha hdb he hpl
theorem pe_mkd (D : Mkd X.prog X.w X.K X.mg X.base CX k x C dvs sp) (hr : Room j X.A) (hk : k + 1 ≤ j) (hg : Gl X x) (hx : Passes CX X E) (ha : PA X (e :: es) t) (hdb : (x == ("__debug__" : Str)) = false := by decide)
    (he : starEach (e :: es) X.env = (false, eval e X.env) :: starEach es X.env := by rfl) (hpl : (backTo pos (starEach es X.env)).any (·.1) = false := by rfl) : PE X (.Call (.Name x p) (e :: es) [] pos) (tMake C sp dvs E t) := by
  obtain ⟨f, fd, ps, ds, F, hm, M, hb, hd⟩ := D.ex
  exact pe_make M F (hr.mono hk) hg hm hb hd hx ha hdb he hpl
theorem pe_mtd {pl : Sem Bool} (he : PE X o ta) (D : Mtd X.prog X.w X.K X.mg X.base CX k C m dvs sp) (hr : Room j X.A) (hk : k ≤ j) (hx : Passes CX X E) (ha : PA X (e :: es) t)
    (hst : starEach (e :: es) X.env = (false, eval e X.env) :: starEach es X.env := by rfl) (hpl : (backTo pos (starEach es X.env)).any (·.1) = false := by rfl)
    (ht : eval (.Call (.Attribute o m apos) (e :: es) [] pos) X.env = (do
      let ov ← eval o X.env
      standAt apos.atName
      let (f, first) ← holding [ov] (getMethod ov m pl)
      callWith pos f first (backTo pos (starEach (e :: es) X.env)) (backToKw pos (keywordEach [] X.env))) := by rfl) :
    PE X (.Call (.Attribute o m apos) (e :: es) [] pos) (tMeth C m sp dvs E ta t) := by
  obtain ⟨f, fd, ps, ds, F, c, hm, hb, hd⟩ := D.ex
  exact pe_meth he c hm F (hr.mono hk) hb hd hx ha hst hpl ht
theorem pe_mtd0 {pl : Sem Bool} (he : PE X o ta) (D : Mtd X.prog X.w X.K X.mg X.base CX k C m dvs sp) (hr : Room j X.A) (hk : k ≤ j) (hx : Passes CX X E)
    (ht : eval (.Call (.Attribute o m apos) [] [] pos) X.env = (do
      let ov ← eval o X.env
      standAt apos.atName
      let (f, first) ← holding [ov] (getMethod ov m pl)
      callWith pos f first (backTo pos (starEach [] X.env)) (backToKw pos (keywordEach [] X.env))) := by rfl) :
    PE X (.Call (.Attribute o m apos) [] [] pos) (tMeth C m sp dvs E ta tNil) := by
  obtain ⟨f, fd, ps, ds, F, c, hm, hb, hd⟩ := D.ex
  exact pe_meth0 he c hm F (hr.mono hk) hb hd hx ht
end

/-! ### worlds: W what is told of for good (data), H the heap; M what may be changed -/
abbrev NoM : Addr → Prop := fun _ => False
structure Gr (M : Addr → Prop) (W H W' H' : Hp) : Prop where
  hp : ∀ a o, H a = some o → ¬ M a → H' a = some o
  th : ∀ a o, H a = some o → ∃ o', H' a = some o'
  ww : Same W W'
  wh : Same W' H'
  nw : ∀ a o, W' a = some o → W a = none → H a = none
section
variable {M : Addr → Prop} {W H W1 H1 W2 H2 W0 H0 : Hp} {p b : Addr} {o o' : HO}
theorem Gr.refl (s : Same W H) : Gr M W H W H := ⟨fun _ _ h _ => h, fun _ o h => ⟨o, h⟩, Same.refl W, s, fun _ _ h1 h2 => by rw [h2] at h1; cases h1⟩
theorem Gr.free (g : Gr M W H W1 H1) (h : H1 p = none) : H p = none := by
  cases e : H p with
  | none => rfl
  | some o =>
    obtain ⟨o', h'⟩ := g.th p o e
    rw [h] at h'
    cases h'
theorem Gr.trans (g : Gr M W H W1 H1) (g' : Gr M W1 H1 W2 H2) : Gr M W H W2 H2 where
  hp := fun a o h n => g'.hp a o (g.hp a o h n) n
  th := fun a o h => by
    obtain ⟨o1, h1⟩ := g.th a o h
    exact g'.th a o1 h1
  ww := g.ww.trans g'.ww
  wh := g'.wh
  nw := fun a o h2 h0 => by
    cases e : W1 a with
    | some o1 => exact g.nw a o1 e h0
    | none => exact g.free (g'.nw a o h2 e)
theorem Gr.weak {M' : Addr → Prop} (g : Gr M W H W1 H1) (h : ∀ a, M a → M' a) : Gr M' W H W1 H1 := ⟨fun a o e n => g.hp a o e fun m => n (h a m), g.th, g.ww, g.wh, g.nw⟩
theorem Gr.any (g : Gr NoM W H W1 H1) : Gr M W H W1 H1 := g.weak fun _ z => z.elim
/-- what is not told of stays untold, if it was there -/
theorem Gr.out (g : Gr M W H W1 H1) (hw : W b = none) (hb : H b = some o) : W1 b = none := by
  cases e : W1 b with
  | none => rfl
  | some o1 =>
    have z := g.nw b o1 e hw
    rw [hb] at z
    cases z
theorem Same.none (s : Same W H) (h : H p = none) : W p = none := Same.free s h
/-- a new thing, told of from now on -/
theorem Gr.new (s : Same W H) (h : H p = none) : Gr M W H (upd W p o) (upd H p o) where
  hp := fun a u e _ => by rw [upd_ne (ne_of_none e h)]; exact e
  th := fun a u e => ⟨u, by rw [upd_ne (ne_of_none e h)]; exact e⟩
  ww := fun a u e => by rw [upd_ne (ne_of_none e (Same.free s h))]; exact e
  wh := fun a u e => by
    by_cases q : a = p
    · rw [q, upd_same] at e
      rw [q, upd_same]
      exact e
    · rw [upd_ne q] at e
      rw [upd_ne q]
      exact s a u e
  nw := fun a u e n => by
    by_cases q : a = p
    · rw [q]
      exact h
    · rw [upd_ne q, n] at e
      cases e
/-- a new thing, not told of -/
theorem Gr.loc (s : Same W H) (h : H p = none) : Gr M W H W (upd H p o) where
  hp := fun a u e _ => by rw [upd_ne (ne_of_none e h)]; exact e
  th := fun a u e => ⟨u, by rw [upd_ne (ne_of_none e h)]; exact e⟩
  ww := Same.refl W
  wh := fun a u e => by rw [upd_ne (ne_of_none (s a u e) h)]; exact s a u e
  nw := fun a u e n => by rw [n] at e; cases e
/-- a thing that may be changed is changed -/
theorem Gr.chg (s : Same W H) (hw : W p = none) (hm : M p) : Gr M W H W (upd H p o) where
  hp := fun a u e n => by rw [upd_ne (fun q => n (by rw [q]; exact hm))]; exact e
  th := fun a u e => by
    by_cases q : a = p
    · exact ⟨o, by rw [q, upd_same]⟩
    · exact ⟨u, by rw [upd_ne q]; exact e⟩
  ww := Same.refl W
  wh := fun a u e => by rw [upd_ne (ne_of_none e hw)]; exact s a u e
  nw := fun a u e n => by rw [n] at e; cases e
/-- a thing of one's own is changed -/
theorem Gr.mut (g : Gr M W0 H0 W H) (h0 : H0 p = none) (hw : W p = none) : Gr M W0 H0 W (upd H p o) where
  hp := fun a u e n => by rw [upd_ne (ne_of_none e h0)]; exact g.hp a u e n
  th := fun a u e => by
    obtain ⟨u', e'⟩ := g.th a u e
    exact ⟨u', by rw [upd_ne (ne_of_none e h0)]; exact e'⟩
  ww := g.ww
  wh := fun a u e => by rw [upd_ne (ne_of_none e hw)]; exact g.wh a u e
  nw := g.nw
/-- a thing of one's own is told of from now on -/
theorem Gr.tell (g : Gr M W0 H0 W H) (h0 : H0 p = none) (hp : H p = some o) (hw : W p = none) : Gr M W0 H0 (upd W p o) H where
  hp := g.hp
  th := g.th
  ww := fun a u e => by
    have e1 := g.ww a u e
    rw [upd_ne (ne_of_none e1 hw)]
    exact e1
  wh := fun a u e => by
    by_cases q : a = p
    · rw [q, upd_same] at e
      rw [q, ← e]
      exact hp
    · rw [upd_ne q] at e
      exact g.wh a u e
  nw := fun a u e n => by
    by_cases q : a = p
    · rw [q]
      exact h0
    · rw [upd_ne q] at e
      exact g.nw a u e n
theorem Gr.step_new (g : Gr M W0 H0 W H) (h : H p = none) : Gr M W0 H0 (upd W p o) (upd H p o) := g.trans (Gr.new g.wh h)
theorem Gr.step_loc (g : Gr M W0 H0 W H) (h : H p = none) : Gr M W0 H0 W (upd H p o) := g.trans (Gr.loc g.wh h)
end

/-! ### data -/
section
variable {K : PySem.W.Frag} {H H' : Hp}
theorem sqT_mono {a : Addr} {xs : List V} (e : Same H H') (h : SqT K H a xs) : SqT K H' a xs := by
  rcases h with (h | ⟨o, h⟩) | h
  · exact .inl (.inl (e _ _ h))
  · exact .inl (.inr ⟨o, e _ _ h⟩)
  · exact .inr h
mutual
theorem dp_mono (e : Same H H') : ∀ (d : PyData) (v : V), Dp K H v d → Dp K H' v d
  | .none, _, h => by cases h; exact .non
  | .bool b, _, h => by cases h; exact .bl b
  | .int i, _, h => by cases h; exact .int i
  | .str x, _, h => by cases h; exact .str x
  | .list ds, _, h => by
    cases h with
    | lst hs ha => exact .lst (e.seq hs) (dpAll_mono e ds _ ha)
  | .tuple ds, _, h => by
    cases h with
    | tup hs ha => exact .tup (sqT_mono e hs) (dpAll_mono e ds _ ha)
  | .dict _, _, h => by cases h
theorem dpAll_mono (e : Same H H') : ∀ (ds : List PyData) (vs : List V), DpAll K H vs ds → DpAll K H' vs ds
  | [], _, h => by cases h; exact .nil
  | d :: ds, _, h => by
    cases h with
    | cons h1 h2 => exact .cons (dp_mono e d _ h1) (dpAll_mono e ds _ h2)
end
theorem Dp.up {v : V} {d : PyData} (h : Dp K H v d) (e : Same H H') : Dp K H' v d := dp_mono e d v h
theorem DpAll.up {vs : List V} {ds : List PyData} (h : DpAll K H vs ds) (e : Same H H') : DpAll K H' vs ds := dpAll_mono e ds vs h
theorem dpAll_len : ∀ {vs : List V} {ds : List PyData}, DpAll K H vs ds → vs.length = ds.length
  | _, _, .nil => rfl
  | _, _, .cons _ h => by rw [List.length_cons, List.length_cons, dpAll_len h]
theorem dpAll_get : ∀ {vs : List V} {ds : List PyData} {i : Nat} {d : PyData}, DpAll K H vs ds → ds[i]? = some d → ∃ v, vs[i]? = some v ∧ Dp K H v d
  | _, _, _, _, .nil, h => by simp at h
  | _, _, 0, d, .cons h1 _, h => by
    simp at h
    subst h
    exact ⟨_, rfl, h1⟩
  | _, _, i + 1, d, .cons _ h2, h => by
    obtain ⟨v, e, q⟩ := dpAll_get (i := i) h2 (by simpa using h)
    exact ⟨v, by simpa using e, q⟩
theorem dpAll_at : ∀ {vs : List V} {ds : List PyData} {i : Nat} {v : V}, DpAll K H vs ds → vs[i]? = some v → ∃ d, ds[i]? = some d ∧ Dp K H v d
  | _, _, _, _, .nil, h => by simp at h
  | _, _, 0, d, .cons h1 _, h => by
    simp at h
    subst h
    exact ⟨_, rfl, h1⟩
  | _, _, i + 1, d, .cons _ h2, h => by
    obtain ⟨v, e, q⟩ := dpAll_at (i := i) h2 (by simpa using h)
    exact ⟨v, by simpa using e, q⟩
theorem dpAll_app : ∀ {vs ws : List V} {ds es : List PyData}, DpAll K H vs ds → DpAll K H ws es → DpAll K H (vs ++ ws) (ds ++ es)
  | _, _, _, _, .nil, h => h
  | _, _, _, _, .cons h1 h2, h => .cons h1 (dpAll_app h2 h)
theorem dpAll_take : ∀ {vs : List V} {ds : List PyData} (n : Nat), DpAll K H vs ds → DpAll K H (vs.take n) (ds.take n)
  | _, _, 0, _ => .nil
  | _, _, _ + 1, .nil => .nil
  | _, _, n + 1, .cons h1 h2 => .cons h1 (dpAll_take n h2)
theorem dpAll_drop : ∀ {vs : List V} {ds : List PyData} (n : Nat), DpAll K H vs ds → DpAll K H (vs.drop n) (ds.drop n)
  | _, _, 0, h => h
  | _, _, _ + 1, .nil => .nil
  | _, _, n + 1, .cons h1 h2 => dpAll_drop n h2
theorem dpAll_strs : ∀ ys : List Str, DpAll K H (ys.map V.str) (ys.map PyData.str)
  | [] => .nil
  | y :: ys => .cons (.str y) (dpAll_strs ys)
theorem strs_dpAll : ∀ {ys : List Str} {vs : List V}, DpAll K H vs (ys.map PyData.str) → vs = ys.map V.str
  | [], _, h => by cases h; rfl
  | y :: ys, _, h => by
    cases h with
    | cons h1 h2 =>
      cases h1
      rw [strs_dpAll h2]
      rfl
theorem dp_int {v : V} {i : Int} (h : Dp K H v (.int i)) : v = .int i := by cases h; rfl
theorem dp_str {v : V} {x : Str} (h : Dp K H v (.str x)) : v = .str x := by cases h; rfl
theorem dp_non {v : V} (h : Dp K H v .none) : v = .non := by cases h; rfl
theorem dp_bl {v : V} {x : Bool} (h : Dp K H v (.bool x)) : v = .bl x := by cases h; rfl
theorem dp_list {v : V} {ds : List PyData} (h : Dp K H v (.list ds)) : ∃ a xs, v = .ref a ∧ SqL K H a xs ∧ DpAll K H xs ds := by
  cases h with
  | lst h1 h2 => exact ⟨_, _, rfl, h1, h2⟩
theorem dp_tuple {v : V} {ds : List PyData} (h : Dp K H v (.tuple ds)) : ∃ a xs, v = .ref a ∧ SqT K H a xs ∧ DpAll K H xs ds := by
  cases h with
  | tup h1 h2 => exact ⟨_, _, rfl, h1, h2⟩
end

/-! ### a def's answer -/
/-- a datum, nothing else changed but what M tells -/
def RetD (K : PySem.W.Frag) (M : Addr → Prop) (W H : Hp) (d : PyData) (Q : VK) : Prop := ∀ v W' H', Gr M W H W' H' → Dp K W' v d → Q v H'
theorem RetD.at {K : PySem.W.Frag} {M : Addr → Prop} {W H : Hp} {d : PyData} {Q : VK} (k : RetD K M W H d Q) {v : V} {W' H' : Hp} (g : Gr M W H W' H') (h : Dp K W' v d) : Q v H' := k v W' H' g h
theorem iteD {c A B : Prop} [Decidable c] (h1 : c → A) (h2 : ¬ c → B) : if decide c = true then A else B := by
  by_cases h : c
  · rw [decide_eq_true h, if_pos rfl]
    exact h1 h
  · rw [decide_eq_false h, if_neg Bool.false_ne_true]
    exact h2 h
theorem iteB {b : Bool} {A B : Prop} (h1 : b = true → A) (h2 : b = false → B) : if b = true then A else B := by
  cases b with
  | true => rw [if_pos rfl]; exact h1 rfl
  | false => rw [if_neg Bool.false_ne_true]; exact h2 rfl
end U

set_option Elab.async false
set_option linter.all false
set_option maxRecDepth 100000
set_option maxHeartbeats 4000000
/-! U3: own exceptions over an own base over ValueError: made, raised. -/
namespace U
open PySem PySem.Spec PyProof.Rows L2

/-! ### what the head says of an exception's class -/
def oexB (K : PySem.W.Frag) (C : Addr) : Bool := (match K.lookup C with
  | some ⟨.type "type", _, .cls cd, sl⟩ => (match cd.mro, sl.toList with
    | .ref C' :: bm, [_, _, _, _, some (.builtin n), _] => C' == C && n == "ValueError.__new__" && !cd.hasDel && cd.hasDict && PySem.HandSPX.refsVE bm
    | _, _ => false)
  | _ => false) && (decide (PySem.W.findIn K (.ref C) "__setattr__" = some (some (.builtin "object.__setattr__"))) && (decide (PySem.W.subIn K (.ref C) (.type "BaseException") = some true) &&
    (decide (PySem.W.typeIn K (.ref C) = some (.type "type")) && PySem.W.keepIn K (.ref C))))
theorem oexB_ok {K : PySem.W.Frag} {C : Addr} (h : oexB K C = true) : OexC K C := by
  obtain ⟨h1, h⟩ := He.ba h
  obtain ⟨h2, h⟩ := He.ba h
  obtain ⟨h3, h⟩ := He.ba h
  obtain ⟨h4, h5⟩ := He.ba h
  refine ⟨?_, of_decide_eq_true h2, of_decide_eq_true h3, of_decide_eq_true h4, h5⟩
  split at h1
  · rename_i dd cd sl ho
    split at h1
    · rename_i C' bm k0 k1 k2 k3 n k5 hm hs
      simp only [Bool.and_eq_true, beq_iff_eq, Bool.not_eq_true'] at h1
      obtain ⟨⟨⟨⟨rfl, rfl⟩, hdel⟩, hd⟩, ht⟩ := h1
      obtain ⟨nm, bs, mro, ns, qn, hd', sn, sub, ab, col, del⟩ := cd
      dsimp only at hm hdel hd
      subst hm hdel hd
      have hsl : sl = #[k0, k1, k2, k3, some (.builtin "ValueError.__new__"), k5] := by
        obtain ⟨l⟩ := sl
        simp only at hs
        rw [hs]
      subst hsl
      exact ⟨nm, qn, ns, bs, bm, sn, sub, ab, col, dd, k0, k1, k2, k3, k5, ho, ht⟩
    · cases h1
  · cases h1
/-- an own class over ValueError whose __init__ is read off it -/
def baseB (K : PySem.W.Frag) (C : Addr) : Bool := PySem.W.readsIn K C (.type "type") && (decide (PySem.W.specialIn K (.ref C) "__getattribute__" = some (some (.builtin "type.__getattribute__"))) &&
  (match PySem.W.findCls K (.ref C) (.type "type") "__init__" with
  | some (.val (.builtin n)) => decide (n = "ValueError.__init__")
  | _ => false))
structure BaseC (K : PySem.W.Frag) (C : Addr) : Prop where
  rd : PySem.W.readsIn K C (.type "type") = true
  sp : PySem.W.specialIn K (.ref C) "__getattribute__" = some (some (.builtin "type.__getattribute__"))
  fc : PySem.W.findCls K (.ref C) (.type "type") "__init__" = some (.val (.builtin "ValueError.__init__"))
theorem baseB_ok {K : PySem.W.Frag} {C : Addr} (h : baseB K C = true) : BaseC K C := by
  obtain ⟨h1, h⟩ := He.ba h
  obtain ⟨h2, h3⟩ := He.ba h
  refine ⟨h1, of_decide_eq_true h2, ?_⟩
  split at h3
  · rename_i n e
    have en : n = "ValueError.__init__" := of_decide_eq_true h3
    rw [e, en]
  · cases h3

section
variable {X : Cx} {o e : Expr} {es : List Expr} {to te : TE} {ta : TA} {f : Str} {p p' p1 p2 pos : Pos}
/-- Base.__init__(self, ..) -/
theorem pe_oinit {pl : Sem Bool} {B : Str} {CB : Addr} (hg : Gl X B) (hm : X.mg B = some (.ref CB)) (hB : BaseC X.K CB) (ha : PA X (e :: es) ta) (hdb : (B == ("__debug__" : Str)) = false := by decide)
    (hc : eval (.Call (.Attribute (.Name B p1) "__init__" p2) (e :: es) [] pos) X.env = (do
      let ov ← eval (.Name B p1) X.env
      standAt p2.atName
      let (f, first) ← holding [ov] (getMethod ov "__init__" pl)
      callWith pos f first (backTo pos (starEach (e :: es) X.env)) (backToKw pos (keywordEach [] X.env))) := by rfl)
    (he : starEach (e :: es) X.env = (false, eval e X.env) :: starEach es X.env := by rfl) (hpl : (backTo pos (starEach es X.env)).any (·.1) = false := by rfl) :
    PE X (.Call (.Attribute (.Name B p1) "__init__" p2) (e :: es) [] pos) (tVeI X.K ta) := by
  refine ⟨fun pins s σ H Q I h => ?_⟩
  refine PySem.W.methodCall_KW (ld_glob I hg hm ?_ hdb) hc
  refine PySem.W.method_cls I.kIn hB.sp ?_
  refine PySem.W.cls_value I.kIn hB.rd hB.fc (by decide +kernel) ?_
  show wpAny _ _ (callWith pos (Value.builtin "ValueError.__init__") [] (backTo pos (starEach (e :: es) X.env)) []) _ _ _
  refine PyProof.Rows.callWith_method1 (thn (ha.run pos pins _ σ H _ (I.tok _) h) fun us s1 ⟨vs, H1, I1, r1, a, C, ws, ev, hl, T, ea, q⟩ => ?_) he hpl
  subst ev
  cases r1 with
  | @cons _ u0 _ ur ra rw' =>
    obtain rfl : u0 = Value.ref a := ra
    have hlen : ur.length ≤ sizeLine := by
      rw [← Paired.length rw', sizeLine_eq]
      omega
    exact oinit_ok T I1 ea hlen fun s' J => ⟨.non, H1, J, rfl, q⟩
end
/-- the promise of such an __init__(self, y): the field f holds y -/
def spExc (K : PySem.W.Frag) (f : Str) : Sp := fun vs H Q _ => ∃ (a C : Addr) (y : V), vs = [.ref a, y] ∧ H a = some (exo a C none) ∧ OexC K C ∧ PySem.W.findIn K (.ref C) f = some none ∧
  ∀ dx, H dx = none → dx ≠ a → Q .non (upd (upd H dx (exd dx [(f, y)])) a (exo a C (some dx)))
/-- its body's reading -/
def t_exc (K : PySem.W.Frag) (m f : Str) : TS := tSeq (tDrop (tVeI K (tCons (cV 0) (tCons (tC (.str m)) tNil)))) (tOst K f (cV 0) (cV 1))
theorem rd_exc {K : PySem.W.Frag} {m f : Str} {N : List Str} (hN : N.length = 2) {vs : List V} {H : Hp} {Q : VK} {E : XK} (h : spExc K f vs H Q E) : t_exc K m f { nx := fun _ H' => Q .non H', rt := Q } (L2.start N vs) H := by
  obtain ⟨a, C, y, rfl, ha, T, hno, k⟩ := h
  have es : L2.start N [.ref a, y] = [some (.ref a), some y] := by unfold L2.start; rw [hN]; rfl
  rw [es]
  exact ⟨a, C, [.str m], rfl, (by show 1 ≤ 1000; decide), T, ha, a, C, rfl, T, hno, .inl ⟨ha, fun dx h1 h2 => k dx h1 h2⟩⟩

/-- an own exception's class of the module -/
structure Exd (P : Program) (w : World) (K : PySem.W.Frag) (mg : Str → Option Value) (base : Heap) (k : Nat) (x : Str) (C : Addr) (f : Str) : Prop where
  oex : OexC K C
  no : PySem.W.findIn K (.ref C) f = some none
  gC : mg x = some (.ref C)
  ini : ∃ fI fd ps, FnOk P w K mg base CX0 k fI fd ps (spExc K f) ∧ PySem.W.findIn K (.ref C) "__init__" = some (some (.ref fI)) ∧ PySem.W.typeIn K (.ref fI) = some (.type "function") ∧ Binds K fd ps []
/-- raise C(e): what is asked behind e's value y -/
def RaiseA (K : PySem.W.Frag) (C : Addr) (f : Str) (W : WX) (σ : L2.St) (y : V) (H1 : Hp) : Prop := ([y] : List V).length ≤ 1000 ∧ ∀ a, H1 a = none → spExc K f (.ref a :: ([y] ++ [])) (upd H1 a (exo a C none))
  (fun v H2 => v = .non ∧ ∃ (d : Addr) (fs : List (Str × V)), H2 a = some (exo a C (some d)) ∧ H2 d = some (exd d fs) ∧ H1 d = none ∧ (fun cls d H' => W cls d σ H') (.ref C) (some d) (upd (del H2 a) d (.xd fs))) (fun _ _ _ => False)
/-- W is wished of a new exception with the field f -/
theorem raise_of {K : PySem.W.Frag} {C : Addr} {f : Str} {W : WX} {σ : L2.St} {y : V} {H1 : Hp} (oex : OexC K C) (no : PySem.W.findIn K (.ref C) f = some none) (q1 : ∀ d, H1 d = none → W (.ref C) (some d) σ (upd H1 d (.xd [(f, y)]))) : RaiseA K C f W σ y H1 := by
  refine ⟨(by show 1 ≤ 1000; decide), fun a ha => ⟨a, C, y, rfl, upd_same, oex, no, fun dx hdx hne => ⟨rfl, dx, [(f, y)], upd_same, ?_, ?_, ?_⟩⟩⟩
  · rw [upd_ne hne, upd_same]
  · rw [upd_ne hne] at hdx
    exact hdx
  · rw [upd_ne hne] at hdx
    have e : upd (del (upd (upd (upd H1 a (exo a C none)) dx (exd dx [(f, y)])) a (exo a C (some dx))) a) dx (.xd [(f, y)]) = upd H1 dx (.xd [(f, y)]) := by
      funext b
      by_cases hb1 : b = dx
      · rw [hb1, upd_same, upd_same]
      · rw [upd_ne hb1, upd_ne hb1]
        by_cases hb2 : b = a
        · rw [hb2, del_same, ha]
        · rw [del_ne hb2, upd_ne hb2, upd_ne hb1, upd_ne hb2]
    rw [e]
    exact q1 dx hdx
def uRaise (K : PySem.W.Frag) (C : Addr) (f : Str) (te : TE) (W : WX) : TS := fun _ σ H => te σ H fun y H1 => RaiseA K C f W σ y H1
theorem ps_raiseX {X : Cx} {W : WX} {k j : Nat} {x : Str} {C : Addr} {f : Str} {e : Expr} {te : TE} {p pos pos' : Pos} (Z : Exd X.prog X.w X.K X.mg X.base k x C f) (hr : Room j X.A) (hk : k + 1 ≤ j) (hg : Gl X x) (hc : X.calm = true) (tk : Takes X W) (he : PE X e te)
    (hdb : (x == ("__debug__" : Str)) = false := by decide) (hst : starEach [e] X.env = (false, eval e X.env) :: starEach [] X.env := by rfl) (hpl : (backTo pos (starEach [] X.env)).any (·.1) = false := by rfl) :
    PS X (.Raise (some (.Call (.Name x p) [e] [] pos)) none pos') (uRaise X.K C f te W) := by
  obtain ⟨fI, fd, ps, F, h1, h2, hb⟩ := Z.ini
  exact ps_imp (ps_raise hc tk (pmk_oex (k := k) (dvs := []) (ds := []) Z.oex h1 h2 F (hr.mono hk) hb .nil pass0 hg Z.gC (pa_cons he pa_nil hst) hdb hst hpl)) fun D σ H q => q
end U

set_option Elab.async false
set_option linter.all false
set_option maxRecDepth 100000
set_option maxHeartbeats 4000000
/-! U4: built-ins by the values' forms; a written dict's keys; repr. -/
namespace U
open PySem PySem.Spec PyProof.Rows L2
def uTru (K : PySem.W.Frag) (te : TE) : TT := fun σ H Q => te σ H fun x H' => ∃ k, TruV K x H' k ∧ Q k H'
def tJoined (ts : List TE) : TE := fun σ H Q => tJs ts Str.empty σ H fun out H1 => Q (.str out) H1
section
variable {X : Cx}
/-! ### functions -/
def uLen (K : PySem.W.Frag) : List V → Hp → VK → Prop := fun xs H Q => match xs with
  | [.str y] => y.length ≤ sizeLine ∧ Q (.int y.length) H
  | [.ref p] => ∃ ys, (SqL K H p ys ∨ SqT K H p ys) ∧ Q (.int ys.length) H
  | _ => False
theorem call_uLen : CallR X (.builtin "len") (uLen X.K) := by
  intro pins s σ H xs us Q I r h
  unfold uLen at h
  split at h
  · exact call_len pins s σ H _ us Q I r ⟨_, _, rfl, ⟨h.1, rfl⟩, h.2⟩
  · obtain ⟨ys, h1, h2⟩ := h
    exact call_len pins s σ H _ us Q I r ⟨_, ys.length, rfl, (by rcases h1 with h1 | h1; exact .inl ⟨ys, h1, rfl⟩; exact .inr ⟨ys, h1, rfl⟩), h2⟩
  · exact h.elim
def uMax2 : List V → Hp → VK → Prop := fun xs H Q => match xs with
  | [.int i, .int j] => Q (.int (if j > i then j else i)) H
  | _ => False
theorem call_uMax2 (hc : X.calm = true) : CallR X (.builtin "max") uMax2 := by
  intro pins s σ H xs us Q I r h
  unfold uMax2 at h
  split at h
  · exact call_max2 hc pins s σ H _ us Q I r ⟨_, _, rfl, h⟩
  · exact h.elim
def uMin2 : List V → Hp → VK → Prop := fun xs H Q => match xs with
  | [.int i, .int j] => Q (.int (if j < i then j else i)) H
  | _ => False
theorem call_uMin2 (hc : X.calm = true) : CallR X (.builtin "min") uMin2 := by
  intro pins s σ H xs us Q I r h
  unfold uMin2 at h
  split at h
  · exact call_min2 hc pins s σ H _ us Q I r ⟨_, _, rfl, h⟩
  · exact h.elim
def uStr : List V → Hp → VK → Prop := fun xs H Q => match xs with
  | [.int i] => i.natAbs.log2 < 1920 ∧ Q (.str (toString i)) H
  | _ => False
theorem call_uStr : CallR X (.type "str") uStr := by
  intro pins s σ H xs us Q I r h
  unfold uStr at h
  split at h
  · exact call_str_int pins s σ H _ us Q I r ⟨_, rfl, h.1, h.2⟩
  · exact h.elim
def uInt : List V → Hp → VK → Prop := fun xs H Q => match xs with
  | [.int i] => Q (.int i) H
  | [.bl k] => Q (.int (if k then 1 else 0)) H
  | [.str a] => ∃ n, PySem.intText? a = some n ∧ a.length ≤ 640 ∧ Q (.int n) H
  | _ => False
theorem call_uInt : CallR X (.type "int") uInt := by
  intro pins s σ H xs us Q I r h
  unfold uInt at h
  split at h
  · exact call_int1 pins s σ H _ us Q I r (.inl ⟨_, rfl, h⟩)
  · exact call_int1 pins s σ H _ us Q I r (.inr ⟨_, rfl, h⟩)
  · obtain ⟨n, h1, h2, h3⟩ := h
    exact call_int_str pins s σ H _ us Q I r ⟨_, n, rfl, h1, h2, h3⟩
  · exact h.elim
def uList (K : PySem.W.Frag) : List V → Hp → VK → Prop := fun xs H Q => ∃ p ys, xs = [.ref p] ∧ (SqL K H p ys ∨ SqT K H p ys) ∧ ∀ l, H l = none → Q (.ref l) (upd H l (.lst ys))
def uTuple (K : PySem.W.Frag) : List V → Hp → VK → Prop := fun xs H Q => ∃ p ys, xs = [.ref p] ∧ ((SqL K H p ys ∧ ∀ l, H l = none → Q (.ref l) (upd H l (.tup ys))) ∨ (SqT K H p ys ∧ Q (.ref p) H))
def uAll (K : PySem.W.Frag) : List V → Hp → VK → Prop := rAll K

/-! ### methods -/
def uAppend : V → List V → Hp → VK → Prop := fun x vs H Q => match x, vs with
  | .ref l, [y] => ∃ xs, H l = some (.lst xs) ∧ xs.length < sizeLine ∧ Q .non (upd H l (.lst (xs ++ [y])))
  | _, _ => False
theorem mt_uAppend : MtR X "list.append" uAppend := by
  intro pins s σ H x xs v us Q I rx r h
  unfold uAppend at h
  split at h
  · obtain ⟨ys, h1, h2, h3⟩ := h
    exact mt_append pins s σ H _ _ v us Q I rx r ⟨_, ys, _, rfl, rfl, h1, h2, h3⟩
  · exact h.elim
def uPop : V → List V → Hp → VK → Prop := fun x vs H Q => match x, vs with
  | .ref l, [] => ∃ xs y, H l = some (.lst xs) ∧ xs[xs.length - 1]? = some y ∧ Q y (upd H l (.lst xs.dropLast))
  | _, _ => False
theorem mt_uPop : MtR X "list.pop" uPop := by
  intro pins s σ H x xs v us Q I rx r h
  unfold uPop at h
  split at h
  · obtain ⟨ys, y, h1, h2, h3⟩ := h
    exact mt_pop pins s σ H _ _ v us Q I rx r ⟨_, ys, y, rfl, rfl, h1, h2, h3⟩
  · exact h.elim
def uPopAt : V → List V → Hp → VK → Prop := fun x vs H Q => match x, vs with
  | .ref l, [.int i] => ∃ xs k y, H l = some (.lst xs) ∧ -(2 ^ 63) ≤ i ∧ i < 2 ^ 63 ∧ seqIndex? i xs.length = some k ∧ xs[k]? = some y ∧ Q y (upd H l (.lst (xs.eraseIdx k)))
  | _, _ => False
theorem mt_uPopAt : MtR X "list.pop" uPopAt := by
  intro pins s σ H x xs v us Q I rx r h
  unfold uPopAt at h
  split at h
  · obtain ⟨ys, k, y, h1, h2, h3, h4, h5, h6⟩ := h
    exact mt_popAt pins s σ H _ _ v us Q I rx r ⟨_, ys, _, k, y, rfl, rfl, h1, h2, h3, h4, h5, h6⟩
  · exact h.elim
def uInsert : V → List V → Hp → VK → Prop := fun x vs H Q => match x, vs with
  | .ref l, [.int i, y] => ∃ xs, H l = some (.lst xs) ∧ xs.length < sizeLine ∧ 0 ≤ i ∧ i < 2 ^ 63 ∧ Q .non (upd H l (.lst (xs.take i.toNat ++ [y] ++ xs.drop i.toNat)))
  | _, _ => False
theorem mt_uInsert : MtR X "list.insert" uInsert := by
  intro pins s σ H x xs v us Q I rx r h
  unfold uInsert at h
  split at h
  · obtain ⟨ys, h1, h2, h3, h4, h5⟩ := h
    exact mt_insert pins s σ H _ _ v us Q I rx r ⟨_, ys, _, _, rfl, rfl, h1, h2, h3, h4, h5⟩
  · exact h.elim
def uClear : V → List V → Hp → VK → Prop := fun x vs H Q => match x, vs with
  | .ref l, [] => ∃ xs, H l = some (.lst xs) ∧ Q .non (upd H l (.lst []))
  | _, _ => False
theorem mt_uClear : MtR X "list.clear" uClear := by
  intro pins s σ H x xs v us Q I rx r h
  unfold uClear at h
  split at h
  · obtain ⟨ys, h1, h2⟩ := h
    exact mt_clear pins s σ H _ _ v us Q I rx r ⟨_, ys, rfl, rfl, h1, h2⟩
  · exact h.elim
def uExtend : V → List V → Hp → VK → Prop := fun x vs H Q => match x, vs with
  | .ref l, [.ref b] => ∃ xs zs, H l = some (.lst xs) ∧ H b = some (.lst zs) ∧ xs.length + zs.length ≤ sizeLine ∧ Q .non (upd H l (.lst (xs ++ zs)))
  | _, _ => False
theorem mt_uExtend : MtR X "list.extend" uExtend := by
  intro pins s σ H x xs v us Q I rx r h
  unfold uExtend at h
  split at h
  · obtain ⟨ys, zs, h1, h2, h3, h4⟩ := h
    exact mt_extend pins s σ H _ _ v us Q I rx r ⟨_, _, ys, zs, rfl, rfl, h1, h2, h3, h4⟩
  · exact h.elim
def uSplit : V → List V → Hp → VK → Prop := fun x vs H Q => match x, vs with
  | .str a, [.str b] => (b.length == 0) = false ∧ a.length + 2 ≤ sizeLine ∧ ∀ p, H p = none → Q (.ref p) (upd H p (.lst ((Txt.split a b).map V.str)))
  | _, _ => False
theorem mt_uSplit : MtR X "str.split" uSplit := by
  intro pins s σ H x xs v us Q I rx r h
  unfold uSplit at h
  split at h
  · exact mt_split pins s σ H _ _ v us Q I rx r ⟨_, _, rfl, rfl, h.1, h.2.1, h.2.2⟩
  · exact h.elim
def uJoin (K : PySem.W.Frag) : V → List V → Hp → VK → Prop := fun x vs H Q => match x, vs with
  | .str a, [.ref p] => ∃ ys : List Str, (SqL K H p (ys.map V.str) ∨ SqT K H p (ys.map V.str)) ∧ (ys.map (·.length)).sum + ys.length * a.length ≤ 16777216 ∧ Q (.str (Txt.join a ys)) H
  | _, _ => False
theorem mt_uJoin : MtR X "str.join" (uJoin X.K) := by
  intro pins s σ H x xs v us Q I rx r h
  unfold uJoin at h
  split at h
  · obtain ⟨ys, h1, h2, h3⟩ := h
    exact mt_join pins s σ H _ _ v us Q I rx r ⟨_, _, ys, rfl, rfl, h1, h2, h3⟩
  · exact h.elim
def uStarts : V → List V → Hp → VK → Prop := fun x vs H Q => match x, vs with
  | .str a, [.str b] => Q (.bl (Txt.startswith a b)) H
  | _, _ => False
theorem mt_uStarts : MtR X "str.startswith" uStarts := by
  intro pins s σ H x xs v us Q I rx r h
  unfold uStarts at h
  split at h
  · exact mt_startswith pins s σ H _ _ v us Q I rx r ⟨_, _, rfl, rfl, h⟩
  · exact h.elim

/-! ### x += e -/
def ipAdd : TIp := fun x y H Q => match x, y with
  | .int i, .int j => Q (.int (i + j)) H
  | .str i, .str j => i.length + j.length ≤ sizeLine ∧ Q (.str (i ++ j)) H
  | _, _ => False
theorem ip_uAdd : PIp X .Add ipAdd := by
  intro pins s σ H x y v u Q I rx ry h
  unfold ipAdd at h
  split at h
  · exact iop_add pins s σ H _ _ v u Q I rx ry ⟨_, _, rfl, rfl, h⟩
  · exact iop_add_str pins s σ H _ _ v u Q I rx ry ⟨_, _, rfl, rfl, h.1, h.2⟩
  · exact h.elim

/-! ### the keys of a dict of the module, in order -/
def kdB (K : PySem.W.Frag) (d : Addr) (ks : List Str) : Bool := !(d == sysModules) && (match K.lookup d with
  | some ⟨.type c, none, .dict es _, sl⟩ => decide (c = "dict") && (sl.isEmpty && decide (es.toList.map (fun e => absV e.key) = ks.map fun k => some (V.str k)))
  | _ => false)
structure KdC (K : PySem.W.Frag) (d : Addr) (ks : List Str) : Prop where
  low : (d == sysModules) = false
  at_ : ∃ es n, K.lookup d = some ⟨.type "dict", none, .dict es n, #[]⟩ ∧ es.toList.map (fun e => absV e.key) = ks.map fun k => some (V.str k)
theorem kdB_ok {K : PySem.W.Frag} {d : Addr} {ks : List Str} (h : kdB K d ks = true) : KdC K d ks := by
  obtain ⟨h1, h⟩ := He.ba h
  have e1 : (d == sysModules) = false := by
    cases q : d == sysModules with
    | false => rfl
    | true => rw [q] at h1; cases h1
  refine ⟨e1, ?_⟩
  split at h
  · rename_i c es n sl ho
    obtain ⟨h2, h⟩ := He.ba h
    obtain ⟨h3, h4⟩ := He.ba h
    have ec : c = "dict" := of_decide_eq_true h2
    have es' : sl = #[] := Array.isEmpty_iff.mp h3
    subst ec es'
    exact ⟨es, n, ho, of_decide_eq_true h4⟩
  · cases h
theorem relV_str_of {v : Value} {x : Str} (h : absV v = some (V.str x)) : RelV (.str x) v := by
  cases v with
  | str y t =>
    have e : y = x := by simpa [absV] using h
    exact ⟨t, by rw [e]⟩
  | _ => simp [absV] at h
def Itkd (ks : List Str) : It := ⟨fun i _ => i < ks.length, fun i H v H' => H' = H ∧ ∃ k, ks[i]? = some k ∧ v = .str k, fun i _ => ks.length ≤ i⟩
theorem walk_kd {ks : List Str} : Walk (Itkd ks) ks.length (fun _ => True) (fun i H v H' => H' = H ∧ ∃ k, ks[i]? = some k ∧ v = .str k) :=
  ⟨fun _ _ hi _ => hi, fun _ _ => Nat.le_refl _, fun _ _ _ _ _ _ y => y⟩
theorem turn_kd {P : Program} {w : World} {K : PySem.W.Frag} {tg : Expr} {d : Addr} {ks : List Str} {es : Array DictEntry} {ep : Nat} (it : Addr) (ho : K.lookup d = some ⟨.type "dict", none, .dict es ep, #[]⟩)
    (hk : es.toList.map (fun e => absV e.key) = ks.map fun k => some (V.str k)) : Turn P w K tg (Itkd ks) [it] it (fun i h => h.IsKeyIter it d i ks.length ep) where
  mem := by simp
  obj := fun i h st b hb => by
    have e : b = it := by simpa using hb
    subst e
    obtain ⟨oi, e, c, dd⟩ := st
    exact ⟨oi, e, fun v z => by rw [dd] at z; cases z⟩
  keep := fun i h h' st k => st.at fun oi e => k it (by simp) oi e
  item := by
    intro X hP hw hK hc i pins s σ H E I hf st hg
    subst hP hw hK
    obtain ⟨f0, f1, f2, f3, f4, f5⟩ := hf it (by simp)
    have hl : es.size = ks.length := by
      have z := congrArg List.length hk
      simpa using z
    have hi : i < ks.length := hg
    have hi2 : i < es.size := by omega
    have hen : es[i]? = some es[i] := by simp [hi2]
    have hkey : absV es[i].key = some (V.str ks[i]) := by
      have z : (es.toList.map fun e => absV e.key)[i]? = (ks.map fun k => some (V.str k))[i]? := by rw [hk]
      rw [List.getElem?_map, List.getElem?_map] at z
      simp [hi, hi2] at z
      exact z
    refine next_key_item st (I.kIn _ _ ho) rfl hl hen fun h' st' sb => ?_
    have I1 : Inv X pins σ H { s with heap := h' } := I.turned (t' := s.toks) (fun b ob hb e => (sb.2 b hb).trans e) f0 f1 f3 f4 f5
    obtain ⟨oi, e, c, dd⟩ := id st'
    exact ⟨_, rfl, go_of (s := { s with heap := h' }) e c dd (by decide) ⟨.str ks[i], H, I1, relV_str_of hkey, ⟨rfl, _, by simp [hi], rfl⟩, st', fun b hb => (hf b hb).1⟩⟩
  done := by
    intro X hP hw hK hc i pins s σ H E I hf st hg
    subst hP hw hK
    obtain ⟨f0, f1, f2, f3, f4, f5⟩ := hf it (by simp)
    have hl : es.size = ks.length := by
      have z := congrArg List.length hk
      simpa using z
    exact next_key_end (I.ok.hd hc) st (I.kIn _ _ ho) rfl hl hg fun h' eb => ⟨rfl, I.turned (t' := s.toks) (fun b ob hb e => eb b ob hb e) f0 f1 f3 f4 f5⟩
  self := fun A i s Q E st h => wpAny_pyIter_keyiter st h
def iKd (ks : List Str) : TI := fun σ H R => R (Itkd ks) H
theorem pi_kd {tg : Expr} {x : Str} {pos : Pos} {d : Addr} {ks : List Str} (C : KdC X.K d ks) (hg : Gl X x) (hm : X.mg x = some (.ref d)) (hdb : (x == ("__debug__" : Str)) = false := by decide) : PI X tg (.Name x pos) (iKd ks) := by
  refine ⟨fun pins s σ H R I h => ?_⟩
  obtain ⟨es, n, ho, hk⟩ := C.at_
  have hl : es.size = ks.length := by
    have z := congrArg List.length hk
    simpa using z
  refine ld_glob I hg hm ?_ hdb
  refine iter_keys C.low (I.kIn _ _ ho) ⟨rfl, rfl, rfl⟩ rfl (pi_one (tk := s.toks) I _ (turn_kd _ ho hk) ⟨_, Heap.get?_push_size _ rfl, rfl, ?_⟩ h)
  rw [hl] <;> rfl

/-! ### repr of data; dicts of scalars among them -/
mutual
inductive Rp (K : PySem.W.Frag) (H : Hp) : V → PyData → Prop
  | non : Rp K H .non .none
  | bl (b : Bool) : Rp K H (.bl b) (.bool b)
  | int (i : Int) : Rp K H (.int i) (.int i)
  | str (x : Str) : Rp K H (.str x) (.str x)
  | lst {a : Addr} {xs : List V} {ds : List PyData} : SqL K H a xs → RpAll K H xs ds → Rp K H (.ref a) (.list ds)
  | tup {a : Addr} {xs : List V} {ds : List PyData} : SqT K H a xs → RpAll K H xs ds → Rp K H (.ref a) (.tuple ds)
  | dic {a : Addr} {kvs : List (Str × Str)} : H a = some (.dK (kvs.map fun q => (Sum.inr q.1, V.str q.2))) → Rp K H (.ref a) (.dict (kvs.map fun q => (.str q.1, .str q.2)))
inductive RpAll (K : PySem.W.Frag) (H : Hp) : List V → List PyData → Prop
  | nil : RpAll K H [] []
  | cons {v : V} {vs : List V} {d : PyData} {ds : List PyData} : Rp K H v d → RpAll K H vs ds → RpAll K H (v :: vs) (d :: ds)
end
mutual
theorem rp_of {K : PySem.W.Frag} {H : Hp} : ∀ {d : PyData} {v : V}, Dp K H v d → Rp K H v d
  | .none, _, h => by cases h; exact .non
  | .bool b, _, h => by cases h; exact .bl b
  | .int i, _, h => by cases h; exact .int i
  | .str x, _, h => by cases h; exact .str x
  | .list ds, _, h => by
    cases h with
    | lst hs ha => exact .lst hs (rpAll_of ha)
  | .tuple ds, _, h => by
    cases h with
    | tup hs ha => exact .tup hs (rpAll_of ha)
  | .dict _, _, h => by cases h
theorem rpAll_of {K : PySem.W.Frag} {H : Hp} : ∀ {ds : List PyData} {vs : List V}, DpAll K H vs ds → RpAll K H vs ds
  | [], _, h => by cases h; exact .nil
  | d :: ds, _, h => by
    cases h with
    | cons h1 h2 => exact .cons (rp_of h1) (rpAll_of h2)
end
/-- sys.modules stands in the written part, a dict -/
def SysD (K : PySem.W.Frag) : Prop := ∃ o, K.lookup sysModules = some o ∧ o.cls = .type "dict"
def sysB (K : PySem.W.Frag) : Bool := match K.lookup sysModules with
  | some ⟨.type c, _, _, _⟩ => decide (c = "dict")
  | _ => false
theorem sysB_ok {K : PySem.W.Frag} (h : sysB K = true) : SysD K := by
  unfold sysB at h
  split at h
  · rename_i c a b d e
    have ec : c = "dict" := of_decide_eq_true h
    subst ec
    exact ⟨_, e, rfl⟩
  · cases h
section
variable {pins : List (Addr × Obj)} {σ : L2.St} {H : Hp} {s : Shared}
theorem not_sys {a : Addr} {o : Obj} (I : Inv X pins σ H s) (S : SysD X.K) (h : s.heap.get? a = some o) (hc : o.cls = .type "list") : a ≠ sysModules := by
  obtain ⟨o2, h2, c2⟩ := S
  rintro rfl
  have z := I.kIn _ _ h2
  rw [h] at z
  have e := Option.some.inj z
  rw [← e, hc] at c2
  exact absurd c2 (by decide +kernel)
def encK : Key → PyData := fun k => match k with
  | .inl i => .int i
  | .inr x => .str x
theorem reads_mix {P : Program} {w : World} {h : Heap} : ∀ k key, (mixKind P w).is k key = true → Reads h key (encK k) [] := by
  intro k key e
  rcases keyIs_shape e with ⟨i, t, rfl, rfl⟩ | ⟨x, t, rfl, rfl⟩
  · exact Reads.int i t
  · exact Reads.str x t
theorem pairs_strs {h : Heap} : ∀ {kvs : List (Str × Str)} {vs : List (Key × Value)}, KV (kvs.map fun q => ((Sum.inr q.1 : Key), V.str q.2)) vs → PyProof.V.PairsRead h encK vs (kvs.map fun q => (.str q.1, .str q.2)) []
  | [], _, r => by cases r; exact .nil
  | q :: kvs, _, r => by
    cases r with
    | @cons _ v _ vs h1 h2 =>
      obtain ⟨k, u⟩ := v
      obtain ⟨e1, t, e2⟩ := h1
      dsimp only at e1 e2
      subst e1 e2
      exact PyProof.V.PairsRead.cons (enc := encK) (as := []) (bs := []) (Reads.str _ t) (pairs_strs h2)
mutual
theorem Rp.reads (I : Inv X pins σ H s) (S : SysD X.K) : ∀ (d : PyData) (v : V) (u : Value), Rp X.K H v d → RelV v u → ∃ as, Reads s.heap u d as ∧ sysModules ∉ as
  | .none, _, _, h, r => by
    cases h
    cases r
    exact ⟨_, Reads.none, by simp⟩
  | .bool b, _, _, h, r => by
    cases h
    cases r
    exact ⟨_, Reads.bool b, by simp⟩
  | .int i, _, _, h, r => by
    cases h
    obtain ⟨t, rfl⟩ := r
    exact ⟨_, Reads.int i t, by simp⟩
  | .str x, _, _, h, r => by
    cases h
    obtain ⟨t, rfl⟩ := r
    exact ⟨_, Reads.str x t, by simp⟩
  | .list ds, _, _, h, r => by
    cases h with
    | lst hs ha =>
      cases r
      obtain ⟨its, rv, ⟨o, n, ho, hc, _, hd⟩, _⟩ := I.list hs
      obtain ⟨as, hr, hn⟩ := RpAll.reads I S ds _ its ha rv
      exact ⟨_, Reads.list ho hc hd hr, by
        have z := not_sys I S ho hc
        simp only [List.mem_cons, not_or]
        exact ⟨fun q => z q.symm, hn⟩⟩
  | .tuple ds, _, _, h, r => by
    cases h with
    | tup hs ha =>
      cases r
      obtain ⟨its, rv, ⟨o, ho, hc, n, hd⟩, _⟩ := I.tuple hs
      obtain ⟨as, hr, hn⟩ := RpAll.reads I S ds _ its ha rv
      exact ⟨_, Reads.tuple ho hc hd hr, hn⟩
  | .dict ds, _, _, h, r => by
    cases h with
    | @dic a kvs ha =>
      cases r
      obtain ⟨_, hz, vs, rk, hd⟩ := (show ObjOk X.prog X.w H s.heap a (.dK (kvs.map fun q => ((Sum.inr q.1 : Key), V.str q.2))) from I.hok a _ ha)
      refine ⟨_, PyProof.V.reads_dictOf (enc := encK) reads_mix hd (pairs_strs rk), ?_⟩
      have z : a ≠ sysModules := by simpa using hz
      simpa using fun q => z q.symm
theorem RpAll.reads (I : Inv X pins σ H s) (S : SysD X.K) : ∀ (ds : List PyData) (vs : List V) (us : List Value), RpAll X.K H vs ds → Vals vs us → ∃ as, ReadsAll s.heap us ds as ∧ sysModules ∉ as
  | [], _, _, h, r => by
    cases h
    cases r
    exact ⟨_, ReadsAll.nil, by simp⟩
  | d :: ds, _, _, h, r => by
    cases h with
    | cons h1 h2 =>
      cases r with
      | cons r1 r2 =>
        obtain ⟨as, q1, n1⟩ := Rp.reads I S d _ _ h1 r1
        obtain ⟨bs, q2, n2⟩ := RpAll.reads I S ds _ _ h2 r2
        exact ⟨_, ReadsAll.cons q1 q2, by simp only [List.mem_append, not_or]; exact ⟨n1, n2⟩⟩
end
end
def uRepr (K : PySem.W.Frag) : List V → Hp → VK → Prop := fun xs H Q => ∃ p d, xs = [.ref p] ∧ Rp K H (.ref p) d ∧ d.showable = true ∧ d.depth ≤ 60 ∧ d.shown.length ≤ sizeLine ∧ Q (.str d.shown) H
theorem call_uRepr (S : SysD X.K) (hg : X.A.guards = some []) (hu : X.A.units + 64 < cLine) : CallR X (.builtin "repr") (uRepr X.K) := by
  intro pins s σ H xs us Q I r h
  obtain ⟨p, d, rfl, hd, hs, hp, hz, q⟩ := h
  obtain ⟨u, rfl, ru⟩ := vals1 r
  cases ru
  obtain ⟨as, hr, hn⟩ := Rp.reads I S d _ _ hd rfl
  exact PySem.repr_of_reads' hr hs (fun _ => hn) hg (by omega) (fun _ _ e => e) (fun h' u tk k => ⟨.str d.shown, H, I.kept (t' := tk) k, ⟨_, rfl⟩, q⟩) hz
end
end U

set_option Elab.async false
set_option linter.all false
set_option maxRecDepth 100000
set_option maxHeartbeats 4000000
/-! U5: defs that are called in an except suite with the exception; promises of raisers; str * int; a def under no guards. -/
namespace U
open PySem PySem.Spec PyProof.Rows L2

/-! ### reprable data, in greater heaps -/
section
variable {K : PySem.W.Frag} {H H' : Hp}
mutual
theorem rp_mono (e : Same H H') : ∀ (d : PyData) (v : V), Rp K H v d → Rp K H' v d
  | .none, _, h => by cases h; exact .non
  | .bool b, _, h => by cases h; exact .bl b
  | .int i, _, h => by cases h; exact .int i
  | .str x, _, h => by cases h; exact .str x
  | .list ds, _, h => by
    cases h with
    | lst hs ha => exact .lst (e.seq hs) (rpAll_mono e ds _ ha)
  | .tuple ds, _, h => by
    cases h with
    | tup hs ha => exact .tup (sqT_mono e hs) (rpAll_mono e ds _ ha)
  | .dict _, _, h => by
    cases h with
    | dic ha => exact .dic (e _ _ ha)
theorem rpAll_mono (e : Same H H') : ∀ (ds : List PyData) (vs : List V), RpAll K H vs ds → RpAll K H' vs ds
  | [], _, h => by cases h; exact .nil
  | d :: ds, _, h => by
    cases h with
    | cons h1 h2 => exact .cons (rp_mono e d _ h1) (rpAll_mono e ds _ h2)
end
theorem Rp.up {v : V} {d : PyData} (h : Rp K H v d) (e : Same H H') : Rp K H' v d := rp_mono e d v h
theorem RpAll.up {vs : List V} {ds : List PyData} (h : RpAll K H vs ds) (e : Same H H') : RpAll K H' vs ds := rpAll_mono e ds vs h
end
/-- a reprable answer -/
def RetP (K : PySem.W.Frag) (M : Addr → Prop) (W H : Hp) (d : PyData) (Q : VK) : Prop := ∀ v W' H', Gr M W H W' H' → Rp K W' v d → Q v H'
/-- an exception of the class C with the field f that holds d -/
def ErrP (K : PySem.W.Frag) (M : Addr → Prop) (W H : Hp) (C : Addr) (f : Str) (d : PyData) (E : XK) : Prop := ∀ v dd W' H', Gr M W H W' H' → Rp K W' v d → W' dd = none → H' dd = some (.xd [(f, v)]) → E (.ref C) (some dd) H'

/-! ### a def that is called in a suite with the exception -/
abbrev SpS := Value → Option Addr → Addr → List V → Hp → VK → Prop
structure FnS (P : Program) (w : World) (K : PySem.W.Frag) (mg : Str → Option Value) (base : Heap) (k : Nat) (f : Addr) (fd : FuncData) (ps : List Str) (sp : SpS) : Prop where
  len : ∀ cls d a vs H Q, sp cls d a vs H Q → vs.length = ps.length
  run : ∀ (A : Around) (outer : List Env) (s : Shared) (H : Hp) (args : Args) (us : List Value) (vs : List V) (Q : VK) (p : Addr × Obj) (cls : Value) (d : Option Addr), L2H.RoomH k A → Zc cls d p.2 → (∃ fs, p.2.data = .fields fs) → L2H.PinOk outer H s p →
    Env0 P w K mg base A outer s H → BindsTo s fd args (ps.zip us) → Vals vs us → sp cls d p.1 vs H Q → codeAny (model P w) A (.call (.ref f) args) (CR CX0 outer P w H s Q E0) s
theorem fn_ofS {P : Program} {w : World} {K : PySem.W.Frag} {mg : Str → Option Value} {base : Heap} {k : Nat} {f : Addr} {name qual : Str} {params : Arguments} {body : List Stmt} {scope : Scope} {dV kV doc pm cdv ct oc : Value} {an od : Option Addr}
    {osl : Array (Option Value)} {N ps : List Str} {sp : SpS} (lk : K.lookup f = some ⟨oc, od, .func (PySem.W.fnOf name qual params body scope dV kV doc pm an cdv ct), osl⟩) (hcd : PySem.W.codeIn K cdv qual = true) (S : FnScope N ps scope)
    (len : ∀ cls d a vs H Q, sp cls d a vs H Q → vs.length = ps.length)
    (hbody : ∀ (A : Around) (outer : List Env) (s : Shared) (H : Hp) (vs : List V) (Q : VK) (p : Addr × Obj) (cls : Value) (d : Option Addr), Zc cls d p.2 → (∃ fs, p.2.data = .fields fs) → L2H.RoomH k (A.deeper (envOfC qual scope s.heap.objs.size f cdv)) → sp cls d p.1 vs H Q →
      ∃ t, PSs (L2H.cxH CX0 P w K mg base N qual scope f cdv A outer s H E0 p) body t ∧ t { nx := fun _ H' => Q .non H', rt := Q } (L2.start N vs) H) :
    FnS P w K mg base (k + 1) f (PySem.W.fnOf name qual params body scope dV kV doc pm an cdv ct) ps sp := by
  refine ⟨len, fun A outer s H args us vs Q p cls d hr hz hf hpin e0 hb r hsp => ?_⟩
  have hl := len _ _ _ _ _ _ hsp
  have KX : K.In s.heap := e0.mod.kin.keeps fun b o e => (e0.bs b o e).1
  have lim : s.heap.NoLimit := e0.mod.nolimit.keeps fun b o e => (e0.bs b o e).1
  have hkind : ∀ y ∈ ps.zip us, scope.names.lookup y.1 = some .local ∨ (scope.names.lookup y.1 = some .cell ∧ ((cellsFrom (s.heap.objs.size + 1) scope.names []).lookup y.1).isSome = true) := fun ⟨n, v⟩ hy => by
    rcases S.par n (List.of_mem_zip hy).1 with q | q
    · exact .inl q
    · exact .inr ⟨q, PySem.W.cellsFrom_some _ _ _ (.inl q)⟩
  refine codeAny_call_function hr.depth (KX _ _ lk) rfl S.co S.gen rfl (PySem.W.codeRec_of KX hcd) (hb _ _ _ _ ?_)
  refine wpAny_newFunctionEnv_cells S.kind hkind fun env he s1 x => ?_
  subst he
  refine ⟨lim.keeps x.toInCall.keep, codeAny_func ?_⟩
  obtain ⟨t, ht, hq⟩ := hbody A outer s H vs Q p cls d hz hf (hr.deeper _) hsp
  have I : Inv (L2H.cxH CX0 P w K mg base N qual scope f cdv A outer s H E0 p) [] (L2.start N vs) H s1 := L2H.inv_startH S hpin e0 hl r x
  refine wpAny_mono (ht.run [] s1 (L2.start N vs) H _ I hq) (fun fl s' hs => ?_) fun e s' hs => hs
  have fin : ∀ {σ' : L2.St} {H' : Hp} {v : V} {u : Value}, Inv (L2H.cxH CX0 P w K mg base N qual scope f cdv A outer s H E0 p) [] σ' H' s' → RelV v u → Q v H' → CE outer P w H s Q u s' :=
    fun {σ' H' v u} J rv q => ⟨v, H', J.os, J.bare, J.base, J.hok, rv, q⟩
  cases fl with
  | ret u =>
    obtain ⟨v, σ', H', J, rv, q⟩ := hs
    exact fin J rv q
  | next =>
    obtain ⟨σ', H', J, q⟩ := hs
    exact fin (v := V.non) (u := Value.none) J rfl q
  | brk =>
    obtain ⟨_, _, _, q⟩ := hs
    exact False.elim q
  | cont =>
    obtain ⟨_, _, _, q⟩ := hs
    exact False.elim q
/-- by name -/
structure Sk (P : Program) (w : World) (K : PySem.W.Frag) (mg : Str → Option Value) (base : Heap) (k : Nat) (x : Str) (sp : SpS) : Prop where
  ex : ∃ f fd ps, FnS P w K mg base k f fd ps sp ∧ mg x = some (.ref f) ∧ PySem.W.keepIn K (.ref f) = true ∧ Binds K fd ps []
section
variable {X : Cx} {k j : Nat} {x : Str} {sp : SpS} {p pos : Pos} {e : Expr} {ta : TE} {cls : Value} {d : Option Addr} {a : Addr} {oe : Obj} {pn : List (Addr × Obj)}
/-- f(e) of the handled exception -/
def tCallX (sp : SpS) (cls : Value) (d : Option Addr) (a : Addr) (te : TE) : TE := fun σ H Q => te σ H fun v H1 => v = .ref a ∧ sp cls d a [.ref a] H1 Q
theorem pe_callX (D : Sk X.prog X.w X.K X.mg X.base k x sp) (hr : L2H.RoomH j X.A) (hk : k ≤ j) (hg : Gl X x) (hz : Zc cls d oe) (hf : ∃ fs, oe.data = .fields fs) (he : PE (X.suite a ((a, oe) :: pn)) e ta) (hdb : (x == ("__debug__" : Str)) = false := by decide)
    (hst : starEach [e] X.env = (false, eval e X.env) :: starEach [] X.env := by rfl) (hpl : (backTo pos (starEach [] X.env)).any (·.1) = false := by rfl) : PE (X.suite a ((a, oe) :: pn)) (.Call (.Name x p) [e] [] pos) (tCallX sp cls d a ta) := by
  obtain ⟨f, fd, ps, F, hm, hkp, hb⟩ := D.ex
  refine ⟨fun pins s σ H Q I h => ?_⟩
  refine wpAny_Call_Name_kw (ld_glob (X := X.suite a ((a, oe) :: pn)) I hg hm ?_ hdb)
  have ha : PA (X.suite a ((a, oe) :: pn)) [e] (fun σ H Q => ta σ H fun v H1 => Q [v] H1) := by
    have z := pa_cons he pa_nil hst
    exact ⟨fun pos pins s σ H Q I h => z.run pos pins s σ H Q I h⟩
  refine PySem.W.callWith_K (h₀ := X.base) I.ok.mod.kin hkp (thn (ha.run pos pins s σ H (fun vs H1 => ∃ v, vs = [v] ∧ v = .ref a ∧ sp cls d a [.ref a] H1 Q) I (by
    show ta σ H _
    have h' := h
    unfold tCallX at h'
    have e2 : (fun (v : V) (H1 : Hp) => ∃ v', [v] = [v'] ∧ v' = V.ref a ∧ sp cls d a [.ref a] H1 Q) = fun v H1 => v = .ref a ∧ sp cls d a [.ref a] H1 Q := by
      funext v H1
      refine propext ⟨fun ⟨v', e1, e2, q⟩ => ?_, fun ⟨e1, q⟩ => ⟨v, rfl, e1, q⟩⟩
      cases e1
      exact ⟨e2, q⟩
    rw [e2]
    exact h')) fun us s1 ⟨vs, H1, I1, r, v, ev1, ev2, q⟩ => ⟨I1.kIn, ?_⟩) hst hpl
  subst ev1
  subst ev2
  have P1 := I1.pin (a, oe) (List.mem_append_left _ List.mem_cons_self)
  have hpin : L2H.PinOk X.stack H1 s1 (a, oe) := ⟨P1.1, P1.2.1, fun hm => (List.mem_cons.mp (I1.stkSub a hm)).elim P1.2.2.1 P1.2.2.2.1, P1.2.2.2.2⟩
  have hl : us.length = ps.length := by rw [← r.length]; exact F.len _ _ _ _ _ _ q
  have b := hb s1 us I1.kIn (by rw [List.append_nil]; exact hl)
  rw [List.append_nil] at b
  refine wpAny_call (codeAny_mono (F.run _ X.stack s1 H1 ⟨us, []⟩ us [.ref a] Q (a, oe) cls d ((⟨hr.dp, hr.un⟩ : L2H.RoomH j (X.A.mark (some (.ref a)))).mono hk) hz hf hpin I1.env0 b r q) fun r s' hq => ?_)
  cases r with
  | error e => exact hq.elim
  | ok fl =>
    cases fl with
    | ret u => exact I1.after hq
    | next => exact False.elim hq
    | brk => exact False.elim hq
    | cont => exact False.elim hq
end
end U

set_option Elab.async false
set_option linter.all false
set_option maxRecDepth 100000
set_option maxHeartbeats 4000000
/-! U6: isinstance and fields of an exception that is pinned; str * int; a def under no guards. -/
namespace PySem.W
open PySem PySem.Spec PySem.Calls PyProof.Rows
section
variable {prog : Program} {w : World} {A : Around} {E : Value → Shared → Prop} {s : Shared} {K : Frag} {x D : Addr} {ox : Obj} {od : Option Obj}
theorem u_findObj {C : Addr} {name : Str} {a g : Value} (hc : (clsIn K C).isSome = true) (ha : findIn K (.ref C) name = some (some a)) (hg : specialIn K a "__get__" = some (some g)) (ht : takesIn K a = some true) : findObj K C od name = some (.bind g a) := by
  obtain ⟨cd, hc⟩ := Option.isSome_iff_exists.mp hc
  simp [findObj, hc, ha, hg, ht]
theorem u_classE {Q : Option Value → Shared → Prop} (hga : findIn K (.ref D) "__getattribute__" = some (some (.builtin "BaseException.__getattribute__"))) (hgt : findIn K (.ref D) "__getattr__" = some none) (hsub : subIn K (.ref D) (.type "BaseException") = some true)
    (hdct : hasDictIn K D = true) (ha : findIn K (.ref D) "__class__" = some (some (.builtin "object.__class__")))
    (hn : specialIn K (.builtin "object.__class__") "__get__" = some (some (.builtin "getset_descriptor.__get__"))) (htk : takesIn K (.builtin "object.__class__") = some true) (hm : mroIn K D (.type "object") = some true)
    (X : K.In s.heap) (I : InstAt s.heap x ox D od) (h : Q (some (.ref D)) { s with toks := s.toks + 1 }) : wpAny (model prog w) A (getAttr? (.ref x) "__class__") Q E s := by
  have hf : findObj K D od "__class__" = some (.bind (.builtin "getset_descriptor.__get__") (.builtin "object.__class__")) := u_findObj (by obtain ⟨cd, hc, _⟩ := any_some hdct; rw [hc]; rfl) ha hn htk
  obtain ⟨hp, g, d, t, os⟩ := s
  have L0 := I.type (M := model prog w)
  have L1 := looks_findIn (M := model prog w) X hga
  have L2 := looks_findIn (M := model prog w) X hgt
  have L3 := looks_find (M := model prog w) X I hf
  have sub : Looks (model prog w) hp (isInstance (.ref x) (.type "BaseException")) true := L0.andThen (looks_subIn X hsub)
  have hx0 : (false && onTheHeap (Value.builtin "BaseException.__getattribute__")) = false := rfl
  have hx2 : (Value.builtin "BaseException.__getattribute__" == Value.builtin "object.__getattribute__") = false := by decide +kernel
  have hx1 : (onTheHeap (Value.ref D) && Value.builtin "BaseException.__getattribute__" == Value.builtin "object.__getattribute__") = false := by rw [hx2]; rfl
  unfold getAttr? getAttrBy? getAttrBy
  refine wpAny_bind (wpAny_mkText (wpAny_bind (wpAny_attempt (wpAny_holding (wpAny_bind (L0.at (wpAny_bind (L1.at ?_))))))))
  show wpAny _ _ (if (onTheHeap (Value.ref D) && Value.builtin "BaseException.__getattribute__" == Value.builtin "object.__getattribute__") = true then _ else _) _ _ _
  rw [hx1, if_neg Bool.false_ne_true]
  unfold getAttrByItsOwn hookBefore
  refine wpAny_bind ?_
  rw [if_pos (show onTheHeap (Value.ref D) = true from rfl)]
  refine L2.at ?_
  refine wpAny_bind (wpAny_attempt (wpAny_holding ?_))
  unfold callGetattribute
  rw [hx0, if_neg Bool.false_ne_true]
  unfold boundAndCalled
  rw [PySem.F.excAttr_ValueError.ga.bind (.ref x)]
  refine wpAny_bind (wpAny_pure ?_)
  show wpAny _ _ (call (.builtin "BaseException.__getattribute__") [.ref x, .str "__class__" t]) _ _ _
  refine wpAny_call (codeAny_call_builtin PySem.F.excAttr_ValueError.ga.plain PySem.F.entry_bexc_ga ?_)
  refine @check_slot (model prog w) _ _ ⟨hp, g, d, t + 1, os⟩ "BaseException.__getattribute__" "BaseException" "__getattribute__" (.ref x) [.str "__class__" t] [] _ (by decide +kernel) (by decide +kernel) sub (PySem.F.args_bexc_ga (.ref x) (.str "__class__" t)) ?_
  unfold Builtin.«object.__getattribute__»
  refine wpAny_bind (wpAny_of_eq (a := ((Value.ref x : Value), [Value.str "__class__" t])) (by first | rfl | (simp only [slotArgs]; rfl)) ?_)
  refine wpAny_bind (wpAny_pure (wpAny_bind (L0.at (wpAny_bind (L3.at ?_)))))
  show wpAny _ _ (holding [Value.builtin "object.__class__"] (call (.builtin "getset_descriptor.__get__") [.builtin "object.__class__", .ref x, .ref D]) >>= ret) _ _ _
  refine wpAny_bind (wpAny_holding (wpAny_call (class_get (s := ⟨hp, g, d, t + 1, os⟩) (ox := ox) (od := od) X I hm ?_)))
  refine wpAny_pure ?_
  show wpAny _ _ (handedOut (.ref D)) _ _ _
  rw [handedOut_of (v := .ref D) rfl]
  first
    | exact wpAny_pure (wpAny_pure h)
    | exact wpAny_pure h
    | exact wpAny_pure (wpAny_bind (wpAny_pure (wpAny_pure h)))
theorem u_kitx (hga : findIn K (.ref D) "__getattribute__" = some (some (.builtin "BaseException.__getattribute__"))) (hgt : findIn K (.ref D) "__getattr__" = some none) (hsub : subIn K (.ref D) (.type "BaseException") = some true) (hdct : hasDictIn K D = true) (ha : findIn K (.ref D) "__class__" = some (some (.builtin "object.__class__")))
    (hn : specialIn K (.builtin "object.__class__") "__get__" = some (some (.builtin "getset_descriptor.__get__"))) (htk : takesIn K (.builtin "object.__class__") = some true) (hm : mroIn K D (.type "object") = some true) :
    KitX K (.ref x) (.ref D) (fun h => InstAt h x ox D od) where
  ty := fun _ _ _ I => I.type
  it := fun _ _ X _ => by
    obtain ⟨cdD, hcD, _⟩ := any_some hdct
    unfold clsIn at hcD
    split at hcD
    · rename_i c' d' cd' sl' ho
      intro A' Q' E' s' k q
      unfold isType loadHead
      exact wpAny_bind (wpAny_loadPart (k _ _ (X _ _ ho)) (wpAny_pure q))
    · cases hcD
  ne := fun h tp dd its n sl X htp => by
    obtain ⟨cdD, hcD, _⟩ := any_some hdct
    refine Bool.eq_false_iff.mpr fun q => ?_
    have e : D = tp := Value.ref.inj (beq_iff_eq.mp q)
    subst e
    unfold clsIn at hcD
    split at hcD
    · rename_i c' d' cd' sl' ho
      have z := (X _ _ ho).symm.trans htp
      cases z
    · cases hcD
  ca := fun X I k => u_classE hga hgt hsub hdct ha hn htk hm X I k
end
end PySem.W
namespace U
open PySem PySem.Spec PyProof.Rows L2
section
variable {X : Cx} {a D : Addr} {oe : Obj}
/-- isinstance(e, C), e pinned, of the class D -/
def uIsE (K : PySem.W.Frag) (D a : Addr) : List V → Hp → VK → Prop := fun xs H Q => match xs with
  | [.ref a', .ref C] => a' = a ∧ ∃ b, PySem.W.kitOne K (.ref D) (.ref C) = some b ∧ Q (.bl b) H
  | _ => False
theorem call_uIsE {dd : Addr} (hp : (a, oe) ∈ X.pn) (C : ExcC X.K D) (hz : Zc (.ref D) (some dd) oe) (hf : ∃ vs, oe.data = .fields vs) : CallR X (.builtin "isinstance") (fun xs H Q => (∃ fs, H dd = some (.xd fs)) ∧ uIsE X.K D a xs H Q) := by
  intro pins s σ H xs us Q I r h
  obtain ⟨⟨fs, hfs⟩, h⟩ := h
  unfold uIsE at h
  split at h
  · obtain ⟨rfl, b, e, q⟩ := h
    obtain ⟨u1, u2, rfl, r1, r2⟩ : ∃ u1 u2, us = [u1, u2] ∧ RelV _ u1 ∧ RelV _ u2 := by
      cases r with
      | cons rx rr =>
        cases rr with
        | cons rt rr =>
          cases rr
          exact ⟨_, _, rfl, rx, rt⟩
    cases r1
    cases r2
    obtain ⟨hget, _⟩ := I.pin _ (List.mem_append.mpr (.inl hp))
    obtain ⟨vs, hv⟩ := hf
    have hx : ObjOk X.prog X.w H s.heap dd (.xd fs) := I.hok dd _ hfs
    obtain ⟨mA, hns, hr⟩ := hx
    obtain ⟨od, ho, hl⟩ := lookIn_ns hns
    have J : PySem.W.InstAt s.heap _ oe D (some od) := ⟨hget, hz.1, by unfold PySem.W.notCls; rw [hv] <;> rfl, by rw [hz.2]; exact ho⟩
    exact PySem.W.kia_one (PySem.W.u_kitx C.hg C.hk C.hs C.hd C.ha C.hn C.ht C.hm) I.kIn J e (fun z => nomatch z) fun tk => ⟨.bl b, H, I.kept (t' := tk) fun _ _ z => z, rfl, q⟩
  · exact h.elim
/-- e.f, e pinned, of the class D, its dict dd -/
def uXf (a dd : Addr) (f : Str) (te : TE) : TE := fun σ H Q => te σ H fun x H1 => x = .ref a ∧ ∃ (fs : List (Str × V)) (v : V), H1 dd = some (.xd fs) ∧ fs.lookup f = some v ∧ Q v H1
theorem pe_uXf {dd : Addr} {e : Expr} {te : TE} {pos : Pos} {n : Str} (hp : (a, oe) ∈ X.pn) (T : XfC X.K D) (hno : PySem.W.findIn X.K (.ref D) n = some none) (hz : Zc (.ref D) (some dd) oe) (hf : ∃ vs, oe.data = .fields vs) (he : PE X e te)
    (hb : attributeBase e n X.env (eval e X.env) = eval e X.env := by rfl) : PE X (.Attribute e n pos) (uXf a dd n te) := by
  refine ⟨fun pins s σ H Q I h => ?_⟩
  refine attr_of hb (thn (he.run pins s σ H _ I h) fun u s1 ⟨x, H1, I1, rx, ex, fs, v, ea, l, q⟩ => ?_)
  subst ex
  obtain rfl : u = Value.ref a := rx
  obtain ⟨ha, _⟩ := I1.pin _ (List.mem_append_left _ hp)
  obtain ⟨vs, hd⟩ := hf
  have hx : ObjOk X.prog X.w H1 s1.heap dd (.xd fs) := I1.hok dd _ ea
  obtain ⟨mA, hns, hr⟩ := hx
  obtain ⟨od, ho, hl⟩ := lookIn_ns hns
  obtain ⟨u, hu, ru⟩ := RelO.some_of (v := v) (o := mA n) (by rw [← l]; exact hr n)
  have J : PySem.W.InstAt s1.heap a oe D (some od) := ⟨ha, hz.1, by unfold PySem.W.notCls; rw [hd] <;> rfl, by rw [hz.2]; exact ho⟩
  exact HandSPX.exc_get I1.kIn J T.ga T.gg T.exC (PySem.W.findObj_own T.hdC hno rfl (by rw [hl, hu])) (handed_of ru) ⟨v, H1, I1.tok _, ru, q⟩
end

/-! ### a text times an int -/
def repS (x : Str) (n : Nat) : Str := ⟨(List.replicate n x.cps).foldl (· ++ ·) #[]⟩
def uMulS : R2 := fun x y H Q => match x, y with
  | .str z, .int k => 1 < k ∧ k < 2 ^ 31 ∧ 0 < z.length ∧ z.length * k.toNat ≤ 16777216 ∧ (repS z k.toNat).length ≤ sizeLine ∧ Q (.str (repS z k.toNat)) H
  | _, _ => False
theorem op_uMulS {X : Cx} : OpR X (binaryOp .Mult) uMulS := by
  intro pins s σ H x y v u Q I rx ry h
  unfold uMulS at h
  split at h
  · rename_i z k
    obtain ⟨h1, h2, h3, h4, h5, q⟩ := h
    obtain ⟨t, rfl⟩ := rx
    obtain ⟨t2, rfl⟩ := ry
    have hk1 : ¬ k < 1 := by omega
    have hk2 : (k == 1 || z.length == 0) = false := by
      have e1 : (k == 1) = false := beq_eq_false_iff_ne.mpr (by omega)
      have e2 : (z.length == 0) = false := beq_eq_false_iff_ne.mpr (by omega)
      rw [e1, e2]
      rfl
    refine P.mul_str ?_ (fun _ _ => ?_) (fun _ _ => ?_) ?_
    · rw [decide_eq_false (show ¬ k < -(2 ^ 63 : Int) by omega), decide_eq_false (show ¬ k ≥ 2 ^ 63 by omega)]
      rfl
    · have e1 : z.length * 1 ≤ z.length * k.toNat := Nat.mul_le_mul_left _ (by omega)
      have e2 : (2 ^ 32 : Int) ≤ (2 ^ 63 - 1) / k := by
        refine Int.le_ediv_of_mul_le (by omega) ?_
        omega
      omega
    · unfold Builtin.Str.tooLong sizeLine
      exact decide_eq_false (by omega)
    · rw [if_neg hk1, hk2]
      simp only [Bool.false_eq_true, if_false]
      exact ⟨h5, ⟨.str (repS z k.toNat), H, I.tok _, ⟨_, rfl⟩, q⟩⟩
  · exact h.elim

/-! ### replace of one at most -/
theorem occ_le (x y : Str) (n : Nat) : (Builtin.Str.occurrences x y 0 x.length n).length ≤ n := StrLaws.occ_length_le x y 0 x.length n
theorem rep1_len (x y z : Str) (n : Nat) : (Builtin.Str.glued z (Builtin.Str.partsBetween x (Builtin.Str.occurrences x y 0 x.length n) y.length)).length ≤ x.length + n * z.length := by
  have hy : (Builtin.Str.glued y (Builtin.Str.partsBetween x (Builtin.Str.occurrences x y 0 x.length n) y.length)).length = x.length := by rw [StrLaws.glued_between_self]
  have h1 := occ_le x y n
  have h2 := Nat.mul_le_mul_right z.length h1
  rw [size_glued, length_partsBetween, Nat.add_sub_cancel] at hy
  rw [size_glued, length_partsBetween, Nat.add_sub_cancel]
  omega
end U

set_option Elab.async false
set_option linter.all false
set_option maxRecDepth 100000
set_option maxHeartbeats 4000000
/-! U7: a law's def under no guards (repr asks them). -/
namespace U
open PySem PySem.Spec PyProof.Rows L2
structure FnG (P : Program) (w : World) (K : PySem.W.Frag) (mg : Str → Option Value) (base : Heap) (CX : CXT) (k : Nat) (f : Addr) (fd : FuncData) (ps : List Str) (sp : Sp) : Prop where
  len : ∀ vs H Q E, sp vs H Q E → vs.length = ps.length
  run : ∀ (A : Around) (outer : List Env) (s : Shared) (H : Hp) (args : Args) (us : List Value) (vs : List V) (Q : VK) (E : XK), A.guards = some [] → Room k A → Env0 P w K mg base A outer s H → BindsTo s fd args (ps.zip us) → Vals vs us → sp vs H Q E →
    codeAny (model P w) A (.call (.ref f) args) (CR CX outer P w H s Q E) s
theorem fn_ofG {CX : CXT} {P : Program} {w : World} {K : PySem.W.Frag} {mg : Str → Option Value} {base : Heap} {k : Nat} {f : Addr} {name qual : Str} {params : Arguments} {body : List Stmt} {scope : Scope} {dV kV doc pm cdv ct oc : Value} {an od : Option Addr}
    {osl : Array (Option Value)} {N ps : List Str} {sp : Sp} (lk : K.lookup f = some ⟨oc, od, .func (PySem.W.fnOf name qual params body scope dV kV doc pm an cdv ct), osl⟩) (hcd : PySem.W.codeIn K cdv qual = true) (S : FnScope N ps scope)
    (len : ∀ vs H Q E, sp vs H Q E → vs.length = ps.length)
    (hbody : ∀ (A : Around) (outer : List Env) (s : Shared) (H : Hp) (vs : List V) (Q : VK) (E : XK), (A.deeper (envOfC qual scope s.heap.objs.size f cdv)).guards = some [] → Room k (A.deeper (envOfC qual scope s.heap.objs.size f cdv)) → sp vs H Q E →
      ∃ t, PSs (cxOf CX P w K mg base N qual scope f cdv A outer s H E) body t ∧ t { nx := fun _ H' => Q .non H', rt := Q } (L2.start N vs) H) :
    FnG P w K mg base CX (k + 1) f (PySem.W.fnOf name qual params body scope dV kV doc pm an cdv ct) ps sp := by
  refine ⟨len, fun A outer s H args us vs Q E hgu hr e0 hb r hsp => ?_⟩
  have hl := len _ _ _ _ hsp
  have KX : K.In s.heap := e0.mod.kin.keeps fun b o e => (e0.bs b o e).1
  have lim : s.heap.NoLimit := e0.mod.nolimit.keeps fun b o e => (e0.bs b o e).1
  have hkind : ∀ y ∈ ps.zip us, scope.names.lookup y.1 = some .local ∨ (scope.names.lookup y.1 = some .cell ∧ ((cellsFrom (s.heap.objs.size + 1) scope.names []).lookup y.1).isSome = true) := fun ⟨n, v⟩ hy => by
    rcases S.par n (List.of_mem_zip hy).1 with q | q
    · exact .inl q
    · exact .inr ⟨q, PySem.W.cellsFrom_some _ _ _ (.inl q)⟩
  refine codeAny_call_function hr.depth (KX _ _ lk) rfl S.co S.gen rfl (PySem.W.codeRec_of KX hcd) (hb _ _ _ _ ?_)
  refine wpAny_newFunctionEnv_cells S.kind hkind fun env he s1 x => ?_
  subst he
  refine ⟨lim.keeps x.toInCall.keep, codeAny_func ?_⟩
  obtain ⟨t, ht, hq⟩ := hbody A outer s H vs Q E hgu (hr.deeper _) hsp
  have I : Inv (cxOf CX P w K mg base N qual scope f cdv A outer s H E) [] (L2.start N vs) H s1 := inv_start S hr.hd e0 hl r x
  refine wpAny_mono (ht.run [] s1 (L2.start N vs) H _ I hq) (fun fl s' hs => ?_) fun e s' hs => hs
  have fin : ∀ {σ' : L2.St} {H' : Hp} {v : V} {u : Value}, Inv (cxOf CX P w K mg base N qual scope f cdv A outer s H E) [] σ' H' s' → RelV v u → Q v H' → CE outer P w H s Q u s' :=
    fun {σ' H' v u} J rv q => ⟨v, H', J.os, J.bare, J.base, J.hok, rv, q⟩
  cases fl with
  | ret u =>
    obtain ⟨v, σ', H', J, rv, q⟩ := hs
    exact fin J rv q
  | next =>
    obtain ⟨σ', H', J, q⟩ := hs
    exact fin (v := V.non) (u := Value.none) J rfl q
  | brk =>
    obtain ⟨_, _, _, q⟩ := hs
    exact False.elim q
  | cont =>
    obtain ⟨_, _, _, q⟩ := hs
    exact False.elim q
theorem FunDG {P : Program} {w : World} {K : PySem.W.Frag} {mg : Str → Option Value} {base : Heap} {x qual : Str} {params : Arguments} {body : List Stmt} {scope : Scope} {dvs : List V} {kws : List (Str × V)} {f : Addr} {fd : FuncData} {CX : CXT} {N ps : List Str} {k : Nat} {sp : Sp} (F : FunD K x qual params body scope dvs kws f fd) (S : FnScope N ps scope) (len : ∀ vs H Q E, sp vs H Q E → vs.length = ps.length)
    (hbody : ∀ (cdv : Value) (A : Around) (outer : List Env) (s : Shared) (H : Hp) (vs : List V) (Q : VK) (E : XK), (A.deeper (envOfC qual scope s.heap.objs.size f cdv)).guards = some [] → Room k (A.deeper (envOfC qual scope s.heap.objs.size f cdv)) → sp vs H Q E →
      ∃ t, PSs (cxOf CX P w K mg base N qual scope f cdv A outer s H E) body t ∧ t { nx := fun _ H' => Q .non H', rt := Q } (L2.start N vs) H) : FnG P w K mg base CX (k + 1) f fd ps sp := by
  obtain ⟨oc, od, dV, kV, doc, pm, an, cdv, ct, osl, rfl, lk, hcd, _, _⟩ := F.ex
  exact fn_ofG lk hcd S len fun A outer s H vs Q E hg hr hsp => hbody cdv A outer s H vs Q E hg hr hsp
theorem law_callG {P : Program} {w : World} {K : PySem.W.Frag} {mg mb : Str → Option Value} {CX : CXT} {k : Nat} {fa a : Addr} {fd : FuncData} {x : Str} {sp : Sp} {s₁ : Shared} {vs : List Value} {ns : List Int}
    (KX : K.In s₁.heap) (hns : s₁.heap.Ns mainGlobals mg) (hb : s₁.heap.Ns builtinsNs mb) (hbb : ∀ x : Str, x ≠ "__name__" → mb x = bootBuiltins x) (hlim : s₁.heap.NoLimit) (hg : s₁.gens = #[])
    (ha : s₁.heap.get? a = some { cls := .type "list", data := .seq vs.toArray }) (hi : IntsAre vs ns) (hl : ns.length ≤ sizeLine) (hr : Room k callerA)
    (F : ∀ base : Heap, K.In base → base.Ns mainGlobals mg → FnG P w K mg base CX k fa fd [x] sp) (hbind : ∀ (s : Shared) (u : Value), BindsTo s fd ⟨[u], []⟩ [(x, u)])
    (hsp : ∀ H : Hp, Only H → SqL K H a (ns.map V.int) → sp [.ref a] H (fun v _ => v = .bl true) fun _ _ _ => False)
    (hCX : ∀ H e s', CX [] H s₁ (fun _ _ _ => False) e s' → False) :
    codeAny (model P w) callerA (.call (.ref fa) ⟨[.ref a], []⟩) (fun r s' => r = .ok (.ret (.bool true)) ∧ OldK s₁.heap s'.heap ∧ s'.os = s₁.os ∧ AllBare s'.gens) s₁ := by
  have rv := vals_ints hi
  have lenV := hi.length
  -- from an abstract heap in which nothing but the script may be tracked
  have core : ∀ H : Hp, Only H → SqL K H a (ns.map V.int) → HOk P w H s₁.heap → (∀ b, H b ≠ none → b = a) → (H a ≠ none → K.lookup a = none) →
      codeAny (model P w) callerA (.call (.ref fa) ⟨[.ref a], []⟩) (fun r s' => r = .ok (.ret (.bool true)) ∧ OldK s₁.heap s'.heap ∧ s'.os = s₁.os ∧ AllBare s'.gens) s₁ := by
    intro H hO hS hok hA hK
    have base_of : ∀ {b : Addr} {o : Obj}, s₁.heap.get? b = some o → H b = none → (hidT s₁.heap H).get? b = some o := fun e n => hidT_get e n
    have noA : ∀ {b : Addr} {o : Obj} {es : Array DictEntry} {ep : Nat}, s₁.heap.get? b = some o → o.data = .dict es ep → H b = none := fun {b o es ep} e d => by
      cases q : H b with
      | none => rfl
      | some u =>
        have e' : b = a := hA b (by rw [q]; simp)
        subst e'
        rw [ha] at e; cases e
        have d' : Data.seq vs.toArray _ = Data.dict es ep := d
        cases d'
    have nsK : ∀ {b : Addr} {m : Str → Option Value}, s₁.heap.Ns b m → (hidT s₁.heap H).Ns b m := fun {b m} ⟨o, es, ep, e, d, r⟩ => ⟨o, es, ep, base_of e (noA e d), d, r⟩
    have hKb : K.In (hidT s₁.heap H) := fun b o e => base_of (KX b o e) (by
      cases q : H b with
      | none => rfl
      | some u =>
        have e' : b = a := hA b (by rw [q]; simp)
        subst e'
        rw [hK (by rw [q]; simp)] at e; cases e)
    have hM : Mod K mg (hidT s₁.heap H) := ⟨hKb, nsK hns, ⟨mb, nsK hb, hbb⟩, let ⟨mc, h1, h2⟩ := hlim; ⟨mc, nsK h1, h2⟩⟩
    have e0 : Env0 P w K mg (hidT s₁.heap H) callerA [] s₁ H := ⟨rfl, hM, fun b o e => of_hidT e, Nat.le_of_eq (hidT_size _ _), trivial, fun b hb => absurd (show b ∈ ([] : List Addr) from hb) (by simp), hok, .of_eq hg⟩
    refine codeAny_mono ((F _ hKb (nsK hns)).run callerA [] s₁ H ⟨[.ref a], []⟩ [.ref a] [.ref a] _ _ rfl hr e0 (hbind s₁ (.ref a)) (.cons rfl .nil) (hsp H hO hS)) fun r s' h => ?_
    cases r with
    | error e => exact (hCX H e s' h).elim
    | ok fl =>
      cases fl with
      | next => exact False.elim h
      | brk => exact False.elim h
      | cont => exact False.elim h
      | ret u =>
        obtain ⟨v, H', os, bare, un, hok', r', q⟩ := h
        have q' : v = .bl true := q
        subst q'
        obtain rfl : u = Value.bool true := r'
        refine ⟨rfl, OldK.of_keep fun b o e => ?_, os, bare⟩
        cases q : H b with
        | none => exact un.keep b o e q (by intro z; exact absurd (show b ∈ ([] : List Addr) from z) (by simp)) (by simp)
        | some u =>
          rcases hO b with z | ⟨ob, xs, z⟩
          · rw [q] at z; cases z
          · have z2 := un.frzs b ob _ z
            obtain ⟨e1, _⟩ := hok b _ z
            obtain ⟨e2, _⟩ := hok' b _ z2
            rw [e] at e1; cases e1
            exact e2
  cases hk : K.lookup a with
  | some o =>
    -- the script is one of the module's own objects
    have e := KX a o hk
    rw [ha] at e
    cases e
    refine core (fun _ => none) (fun _ => .inl rfl) (.inr ⟨_, vs.toArray, _, hk, rfl, rfl, rfl, by rw [List.size_toArray, lenV]; exact hl, by simpa using rv⟩) (fun b u z => by have z' : (none : Option HO) = some u := z; cases z') (fun b z => absurd rfl z) fun z => absurd rfl z
  | none =>
    refine core (fun b => if b = a then some (.frz { cls := .type "list", data := .seq vs.toArray } (.lst (ns.map V.int))) else none) (fun b => ?_) (.inl (.inr ⟨{ cls := .type "list", data := .seq vs.toArray }, if_pos rfl⟩)) (fun b u z => ?_) (fun b z => ?_) fun _ => hk
    · by_cases hb : b = a
      · exact .inr ⟨_, _, if_pos hb⟩
      · exact .inl (if_neg hb)
    · by_cases hb : b = a
      · have z' := (if_pos hb).symm.trans z
        cases z'
        subst hb
        exact ⟨ha, by rw [List.length_map]; exact hl, vs, _, rv, ha⟩
      · have z' := (if_neg hb).symm.trans z
        cases z'
    · by_cases hb : b = a
      · exact hb
      · exact absurd (if_neg hb) z
theorem walk_ofG {l : PySem.W.OpenLaw} {n k : Nat} {q : Program} {loose : List Str} {XP : (Str → Option Value) → Heap → Prop} {YP : World → Heap → Prop} {d : DefRec} {CX : CXT} {x : Str}
    (hn : l.most = some n) (hn2 : n ≤ sizeLine) (hdf : d.params.defaults = []) (hr : Room k callerA)
    (F : ∀ (w : World) (mg : Str → Option Value) (fa : Addr) (h : Heap), YP w h → h.Ns mainGlobals mg → mg d.name = some (.ref fa) →
      ∃ (K : PySem.W.Frag) (fd : FuncData) (sp : Sp), K.In h ∧ (∀ (s : Shared) (u : Value), BindsTo s fd ⟨[u], []⟩ [(x, u)]) ∧
        (∀ (H : Hp) (a : Addr) (ns : List Int), ns.length ≤ n → Only H → SqL K H a (ns.map V.int) → sp [.ref a] H (fun v _ => v = .bl true) fun _ _ _ => False) ∧
        ∀ base : Heap, K.In base → base.Ns mainGlobals mg → FnG l.prog w K mg base CX k fa fd [x] sp)
    (hCX : ∀ (H : Hp) (s : Shared) (e : Value) (s' : Shared), CX [] H s (fun _ _ _ => False) e s' → False) :
    PySem.W.WalkO q loose XP YP l.row.toRowW d [] (fun f vs => PySem.call f vs) := by
  refine Att.attach_call hn hdf fun w s₀ s₁ mg mb fa o pm cd doc a vs ns G Y ho hd hcd hmg hobj hints hlen hg => ?_
  obtain ⟨K, fd, sp, KX, hb, hsp, hF⟩ := F w mg fa _ Y G.T.g hmg
  exact law_callG KX G.T.g G.T.b G.T.builtins G.T.nolimit hg hobj hints (Nat.le_trans hlen hn2) hr hF hb (fun H hO hS => hsp H a ns hlen hO hS) fun H e s' => hCX H s₁ e s'
end U

set_option Elab.async false
set_option linter.all false
set_option maxRecDepth 100000
set_option maxHeartbeats 4000000
/-! U9: texts whose signs are small: their parts, joins, repr. -/
namespace U
open PySem PySem.Spec PyProof.Rows L2
open Builtin Builtin.Str
/-- at most n signs, each below 256 -/
def Tame (n : Nat) (x : Str) : Prop := x.length ≤ n ∧ ∀ c ∈ x.cps.toList, c < 256
theorem Tame.mono {n m : Nat} {x : Str} (h : Tame n x) (e : n ≤ m) : Tame m x := ⟨Nat.le_trans h.1 e, h.2⟩
theorem len_list (x : Str) : x.length = x.cps.toList.length := by simp [Str.length]
theorem list_app (x y : Str) : (x ++ y).cps.toList = x.cps.toList ++ y.cps.toList := by
  show (x.cps ++ y.cps).toList = _
  simp
theorem len_app (x y : Str) : (x ++ y).length = x.length + y.length := by
  rw [len_list, list_app, List.length_append, ← len_list, ← len_list]
theorem Tame.app {n m : Nat} {x y : Str} (h : Tame n x) (k : Tame m y) : Tame (n + m) (x ++ y) := by
  refine ⟨by rw [len_app]; have := h.1; have := k.1; omega, fun c hc => ?_⟩
  rw [list_app] at hc
  exact (List.mem_append.mp hc).elim (h.2 c) (k.2 c)
theorem Tame.sub {n : Nat} {x y : Str} (h : Tame n x) (hl : y.length ≤ x.length) (hc : ∀ c ∈ y.cps.toList, c ∈ x.cps.toList) : Tame n y := ⟨Nat.le_trans hl h.1, fun c m => h.2 c (hc c m)⟩
theorem Tame.one {x : Str} {c : Nat} {n : Nat} (h : Tame n x) (k : Int) (e : atI x.cps.toList k = some c) : Tame 1 ⟨#[c]⟩ := by
  obtain ⟨j, _, g2, _⟩ := atI_get e
  refine ⟨by show 1 ≤ 1; omega, fun d hd => ?_⟩
  have ed : d = c := by simpa using hd
  rw [ed]
  exact h.2 c (List.mem_of_getElem? g2)
theorem strSub_mem {x : Str} {i j c : Nat} (h : c ∈ (strSub x i j).cps.toList) : c ∈ x.cps.toList := by
  have e : (strSub x i j).cps.toList = (x.cps.toList.drop i).take (j - i) := by simp [strSub]
  rw [e] at h
  exact List.mem_of_mem_drop (List.mem_of_mem_take h)
theorem parts_mem {x p : Str} {cuts : List Nat} {w c : Nat} (h : p ∈ partsBetween x cuts w) (hc : c ∈ p.cps.toList) : c ∈ x.cps.toList := by
  simp only [partsBetween, List.mem_map] at h
  obtain ⟨⟨i, j⟩, _, rfl⟩ := h
  exact strSub_mem hc
theorem split_mem {x y p : Str} {c : Nat} (h : p ∈ Txt.split x y) (hc : c ∈ p.cps.toList) : c ∈ x.cps.toList := by
  unfold Txt.split at h
  split at h
  · rw [List.mem_singleton.mp h] at hc; exact hc
  · split at h
    · rw [List.mem_singleton.mp h] at hc; exact hc
    · exact parts_mem h hc
/-- the parts and the signs between are the text -/
theorem split_sum (x y : Str) (hy : y.length = 1) : ((Txt.split x y).map (·.length)).sum + (Txt.split x y).length = x.length + 1 := by
  unfold Txt.split
  split
  · simp
  · split
    · simp
    · have z : (glued y (partsBetween x (occurrences x y 0 x.length (x.length + 1)) y.length)).length = x.length := by rw [StrLaws.glued_between_self]
      rw [size_glued, length_partsBetween, hy] at z
      rw [length_partsBetween, hy]
      omega
theorem split_ne (x y : Str) (hy : y.length = 1) : Txt.split x y ≠ [] := fun e => by
  have z := split_sum x y hy
  rw [e] at z
  simp at z
theorem sum_le {α : Type} (f : α → Nat) : ∀ {l : List α} {a : α}, a ∈ l → f a ≤ (l.map f).sum
  | b :: l, a, h => by
    rw [List.map_cons, List.sum_cons]
    rcases List.mem_cons.mp h with rfl | h
    · omega
    · have := sum_le f h; omega
theorem split_tame {n : Nat} {x y p : Str} (h : Tame n x) (hy : y.length = 1) (hp : p ∈ Txt.split x y) : Tame n p := by
  refine ⟨?_, fun c hc => h.2 c (split_mem hp hc)⟩
  have z := split_sum x y hy
  have w := sum_le (·.length) hp
  have v : 0 < (Txt.split x y).length := List.length_pos_of_mem hp
  have := h.1
  omega
theorem split_many {n : Nat} {x y : Str} (h : Tame n x) (hy : y.length = 1) : (Txt.split x y).length ≤ n + 1 := by
  have z := split_sum x y hy
  have := h.1
  omega
theorem join_len (y : Str) (l : List Str) : (Txt.join y l).length = (l.map (·.length)).sum + (l.length - 1) * y.length := by
  show (glued y l).length = _
  rw [size_glued]
theorem join_mem {y : Str} {l : List Str} {c : Nat} : c ∈ (Txt.join y l).cps.toList → c ∈ y.cps.toList ∨ ∃ p ∈ l, c ∈ p.cps.toList := by
  have key : ∀ (r : List Str) (acc : Array Nat), c ∈ (r.foldl (fun acc p => acc ++ y.cps ++ p.cps) acc).toList → c ∈ acc.toList ∨ c ∈ y.cps.toList ∨ ∃ p ∈ r, c ∈ p.cps.toList := by
    intro r
    induction r with
    | nil => intro acc h; exact .inl h
    | cons p r ih =>
      intro acc h
      rw [List.foldl_cons] at h
      rcases ih _ h with h | h | ⟨q, hq, h⟩
      · rw [Array.toList_append, Array.toList_append] at h
        rcases List.mem_append.mp h with h | h
        · rcases List.mem_append.mp h with h | h
          · exact .inl h
          · exact .inr (.inl h)
        · exact .inr (.inr ⟨p, List.mem_cons_self .., h⟩)
      · exact .inr (.inl h)
      · exact .inr (.inr ⟨q, List.mem_cons_of_mem _ hq, h⟩)
  cases l with
  | nil =>
    intro h
    have z : (Txt.join y ([] : List Str)).cps.toList = [] := rfl
    rw [z] at h
    cases h
  | cons p r =>
    intro h
    rcases key r p.cps h with h | h | ⟨q, hq, h⟩
    · exact .inr ⟨p, List.mem_cons_self .., h⟩
    · exact .inl h
    · exact .inr ⟨q, List.mem_cons_of_mem _ hq, h⟩
theorem join_tame {n : Nat} {y : Str} {l : List Str} (hl : (l.map (·.length)).sum + (l.length - 1) * y.length ≤ n) (hy : ∀ c ∈ y.cps.toList, c < 256) (h : ∀ p ∈ l, ∀ c ∈ p.cps.toList, c < 256) : Tame n (Txt.join y l) := by
  refine ⟨by rw [join_len]; exact hl, fun c hc => ?_⟩
  rcases join_mem hc with hc | ⟨p, hp, hc⟩
  · exact hy c hc
  · exact h p hp c hc
theorem repr_len {n : Nat} {x : Str} (h : Tame n x) : (reprText x).length ≤ 10 * n + 2 := by
  have z := StrLaws.reprText_len x fun c hc => Nat.lt_of_lt_of_le (h.2 c hc) (by decide)
  have := h.1
  omega
theorem text_len : ∀ (ts : List Str) (k : Nat) (acc : Str), (textFrom k acc ts).length ≤ acc.length + piled ts
  | [], k, acc => by show acc.length ≤ _; rw [piled_nil]; omega
  | t :: r, k, acc => by
    have ih := text_len r (k + 1) (acc ++ (if k > 0 then ", " else "" : String) ++ t)
    have e : (acc ++ (if k > 0 then ", " else "" : String) ++ t).length ≤ acc.length + 2 + t.length := by
      rw [strLen_append, strLen_append]
      split
      · show acc.length + 2 + t.length ≤ _; omega
      · show acc.length + 0 + t.length ≤ _; omega
    rw [piled_cons]
    show (textFrom (k + 1) _ r).length ≤ _
    omega
theorem listText_len (ts : List Str) : (listText ts).length ≤ 2 + piled ts := by
  unfold listText
  rw [strLen_append]
  have z := text_len ts 0 "["
  have e1 : ((("[" : String) : Str)).length = 1 := rfl
  have e2 : ((("]" : String) : Str)).length = 1 := rfl
  omega
theorem tupleText_len (ts : List Str) : (tupleText ts).length ≤ 4 + piled ts := by
  unfold tupleText
  rw [strLen_append, strLen_append]
  have e1 : ((("(" : String) : Str)).length = 1 := rfl
  have z : (Str.join ", " ts).length ≤ piled ts := by
    by_cases h : ts = []
    · subst h; exact Nat.zero_le _
    · have := join_length_add ts h; omega
  split
  · show 1 + (Str.join ", " ts).length + 2 ≤ _; omega
  · show 1 + (Str.join ", " ts).length + 1 ≤ _; omega
theorem piled_le {m : Nat} : ∀ {ts : List Str}, (∀ t ∈ ts, t.length ≤ m) → piled ts ≤ ts.length * (m + 2)
  | [], _ => by rw [piled_nil]; exact Nat.zero_le _
  | t :: ts, h => by
    have ih := piled_le (m := m) fun u hu => h u (List.mem_cons_of_mem _ hu)
    have := h t (List.mem_cons_self ..)
    rw [piled_cons, List.length_cons, Nat.succ_mul]
    omega
theorem shownAll_map : ∀ ds : List PyData, PyData.shownAll ds = ds.map PyData.shown
  | [] => rfl
  | d :: ds => by
    show PyData.shown d :: PyData.shownAll ds = _
    rw [shownAll_map ds]
    rfl
end U

set_option Elab.async false
set_option linter.all false
set_option maxRecDepth 100000
set_option maxHeartbeats 4000000
/-! U8: sign = signs[e]; if take(box, n) == 0: return whole.replace(' ', sign, 1): the tokens carried. -/
namespace U
open PySem PySem.Spec PyProof.Rows L2
open Builtin Builtin.Str
/-- no reader has booked a token -/
abbrev NoBook (K : PySem.W.Frag) : Prop := PySem.W.nsIn K cStatics sharingNotToldKey = some none
def noBookB (K : PySem.W.Frag) : Bool := decide (PySem.W.nsIn K cStatics sharingNotToldKey = some none)
theorem noBookB_ok {K : PySem.W.Frag} (h : noBookB K = true) : NoBook K := of_decide_eq_true h
section
variable {M : Model} {A : Around} {E : Value → Shared → Prop} {s : Shared} {K : PySem.W.Frag}
theorem told_none {t : Tok} {Q : Bool → Shared → Prop} (N : NoBook K) (X : K.In s.heap) (h : Q false s) : wpAny M A (sharingNotTold t) Q E s := by
  unfold sharingNotTold
  refine wpAny_bind ((PySem.W.looks_nsIn X N).at ?_)
  exact wpAny_pure h
theorem same_str {y z : Str} {u v : Tok} {Q : Bool → Shared → Prop} (N : NoBook K) (X : K.In s.heap) (h0 : (u == 0 || v == 0) = false) (huv : (u == v) = false) (hq : ∀ b, (b = true → y = z) → Q b s) : wpAny M A (isSame (.str y u) (.str z v)) Q E s := by
  show wpAny M A (isSame.created (y == z) u v) Q E s
  unfold isSame.created
  rw [h0, huv]
  simp only [Bool.false_eq_true, if_false]
  cases e : (y == z) with
  | false =>
    simp only [Bool.not_false, if_true]
    exact wpAny_pure (hq _ fun z => by cases z)
  | true =>
    have eyz : y = z := eq_of_beq e
    simp only [Bool.not_true, Bool.false_eq_true, if_false]
    refine wpAny_bind (told_none N X ?_)
    simp only [Bool.false_eq_true, if_false]
    refine wpAny_bind (told_none N X ?_)
    simp only [Bool.false_eq_true, if_false]
    exact wpAny_bind (wpAny_rule (wpAny_bind (wpAny_askSetting (wpAny_pure (hq _ fun _ => eyz)))))
end
theorem rep_tree (x y z : Str) (t u v c : Tok) : «str.replace» ⟨[.str x t, .str y u, .str z v, .int 1 c], []⟩ =
    (if ((occurrences x y 0 x.length 1).isEmpty || (y.length == 0 && z.length == 0)) = true then (do rule "str.replace.nothing"; ret (.str x t)) else
      (do let same ← isSame (.str y u) (.str z v)
          if same = true then (do rule "str.replace.old-is-new"; ret (.str x t)) else
          if tooLong (x.length + (occurrences x y 0 x.length 1).length * z.length) = true then unsupported "str.replace:memory" else
          retStr (glued z (partsBetween x (occurrences x y 0 x.length 1) y.length)))) := by
  show (do let limit ← countLimit "str.replace" (some (.int 1 c)) (x.length + 1); _) = _
  rw [countLimit_int "str.replace" 1 c (x.length + 1) (by decide)]
  rfl
theorem call_rep1 {prog : Program} {w : World} {A : Around} {E : Value → Shared → Prop} {s : Shared} {K : PySem.W.Frag} {x y z : Str} {t u v c : Tok} {Q : Value → Shared → Prop} (N : NoBook K) (X : K.In s.heap) (hu : u ≠ 0) (hv : v ≠ 0) (huv : u ≠ v) (hb : x.length + z.length ≤ 16777216)
    (hq : ∀ r t' k, r.length ≤ x.length + z.length → (∀ c ∈ r.cps.toList, c ∈ x.cps.toList ∨ c ∈ z.cps.toList) → Q (.str r t') { s with toks := k }) : wpAny (model prog w) A (call (.builtin "str.replace") [.str x t, .str y u, .str z v, .int 1 c]) Q E s := by
  have h1 : (u == 0 || v == 0) = false := by simp [hu, hv]
  have h2 : (u == v) = false := by simp [huv]
  have hl := rep1_len x y z 1
  rw [Nat.one_mul] at hl
  have hlt : tooLong (x.length + (occurrences x y 0 x.length 1).length * z.length) = false := by
    have q1 := Nat.mul_le_mul_right z.length (occ_le x y 1)
    unfold tooLong sizeLine
    exact decide_eq_false (by omega)
  refine wpAny_call (codeAny_call_builtin F.slot_str_replace.plain F.entry_str_replace (F.slot_str_replace.check _ _ _ _ _ _ _ _ (typeIs_str _ _ _) (F.args_str_replace_4 _ _ _ _) ?_))
  rw [rep_tree]
  split
  · exact wpAny_bind (wpAny_rule (wpAny_pure (hq x t s.toks (Nat.le_add_right _ _) fun _ h => .inl h)))
  · refine wpAny_bind (same_str N X h1 h2 fun b hb' => ?_)
    cases b with
    | true => exact wpAny_bind (wpAny_rule (wpAny_pure (hq x t s.toks (Nat.le_add_right _ _) fun _ h => .inl h)))
    | false =>
      simp only [Bool.false_eq_true, if_false]
      rw [hlt]
      refine wpAny_bind (wpAny_mkStr (wpAny_pure (hq _ _ _ hl fun c h => ?_)) (by rw [sizeLine_eq]; omega))
      rcases join_mem (y := z) (l := partsBetween x (occurrences x y 0 x.length 1) y.length) h with h | ⟨p, hp, h⟩
      · exact .inr h
      · exact .inl (parts_mem hp h)
section
variable {X : Cx} {pins : List (Addr × Obj)} {σ : L2.St} {H : Hp} {s : Shared}
/-- a local name is stored, its value known -/
theorem inv_storeL {i : Nat} {x : Str} {v : V} {u : Value} {m : Str → Option Value} {h' : Heap} (I : Inv X pins σ H s) (hN : X.N.Nodup) (hi : X.N[i]? = some x) (hk : X.env.scope.names.lookup x = some .local) (r : RelV v u) (hn : s.heap.Ns X.env.locals m)
    (hl : ∀ (i : Nat) (x : Str) (v : V), X.N[i]? = some x → σ[i]? = some (some v) → Vis X.env.scope x → ∃ u, RelV v u ∧ Look X.env s.heap m x u) (hn' : h'.Ns X.env.locals (fun y => if y = x then some u else m y)) (hs : Heap.SameBut X.env.locals s.heap h') (tk : Nat) :
    Inv X pins (σ.set i (some v)) H { s with heap := h', toks := tk } := by
  have hiσ : i < σ.length := by rw [I.len]; exact (List.getElem?_eq_some_iff.mp hi).1
  have old : ∀ b o, X.s_0.heap.get? b = some o → b ≠ X.env.locals := fun b o e => Nat.ne_of_lt (Nat.lt_of_lt_of_le (Heap.lt_size e) I.ok.above)
  have fr : ∀ b ob, H b = some ob → b ≠ X.env.locals := fun b ob e z => by rw [z, I.free] at e; cases e
  refine ⟨I.ok, I.os, I.bare, ⟨fun b o e n hb hx => (hs.2 b (old b o e)).trans (I.base.keep b o e n hb hx), fun b o e n hb hx => ?_, I.base.free, fun b o e hx => ?_, I.base.tups, I.base.frzs, I.base.tbls⟩, ⟨_, hn', fun j y v' e1 e2 e3 => ?_⟩, fun y c e => ?_, I.free, I.freeC, fun p hp => ?_, fun b ob e => ?_, by simpa using I.len⟩
  · obtain ⟨sl, e1⟩ := I.base.slot b o e n hb hx
    exact ⟨sl, (hs.2 b (old b o e)).trans e1⟩
  · obtain ⟨o', e1⟩ := I.base.there b o e hx
    exact ⟨o', (hs.2 b (old b o e)).trans e1⟩
  · by_cases hj : j = i
    · subst hj
      rw [hi] at e1
      cases e1
      rw [List.getElem?_set_self hiσ] at e2
      cases e2
      exact ⟨u, r, .inl ⟨hk, by simp⟩⟩
    · rw [List.getElem?_set_ne (Ne.symm hj)] at e2
      obtain ⟨u', r', q⟩ := hl j y v' e1 e2 e3
      rcases q with ⟨k, e⟩ | ⟨k, c, e, z⟩
      · have ne : y ≠ x := fun e => hj (nodup_ix hN e1 (e ▸ hi))
        exact ⟨u', r', .inl ⟨k, by simp [ne, e]⟩⟩
      · exact ⟨u', r', .inr ⟨k, c, e, z.sameBut hs (I.cne y c e)⟩⟩
  · obtain ⟨w', z⟩ := I.cell y c e
    exact ⟨w', z.sameBut hs (I.cne y c e)⟩
  · obtain ⟨e, n, ne, nf, d⟩ := I.pin p hp
    exact ⟨(hs.2 p.1 ne).trans e, n, ne, nf, d⟩
  · refine (I.hok b ob e).stay (fun c w' hc q => (hs.2 c ?_).trans q) (fun _ q => q) fun _ _ q => q
    rcases hc with z | z
    · rw [z]
      exact fr b ob e
    · exact fr c _ z
/-- the reading -/
def tSgn (isg ib iw i : Nat) (sp : Sp) (te : TE) (u : TS) : TS := fun D σ H => ∃ (z : Str) (b : V) (x : Str), σ[isg]? = some (some (.str z)) ∧ z.length ≤ sizeLine ∧ σ[ib]? = some (some b) ∧ σ[iw]? = some (some (.str x)) ∧ x.length + 1 ≤ 16777216 ∧
  te σ H fun y H1 => ∃ (k : Int) (c : Nat), y = .int k ∧ atI z.cps.toList k = some c ∧
    sp [b, .int 8] H1 (fun r H2 => ∃ n : Int, r = .int n ∧ (n = 0 → ∀ y : Str, y.length ≤ x.length + 1 → (∀ d ∈ y.cps.toList, d ∈ x.cps.toList ∨ d = c) → D.rt (.str y) H2) ∧ (n ≠ 0 → u D (σ.set i (some (.str ⟨#[c]⟩))) H2)) E0
theorem pss_sgn {isg ib iw i k j : Nat} {sg bx wh n tk : Str} {sp : Sp} {ie : Expr} {te : TE} {u : TS} {rest : List Stmt} {j0 j1 j2 j3 : Nat} {p1 p2 p3 p4 p5 p6 p7 p8 p9 pa pb pc pd pe pf pg ph pk : Pos}
    (D : Dk X.prog X.w X.K X.mg X.base CX0 k tk [] sp) (hr : Room j X.A) (hk : k ≤ j) (hgl : Gl X tk) (nb : NoBook X.K) (hN : X.N.Nodup)
    (hsg : X.N[isg]? = some sg) (hbx : X.N[ib]? = some bx) (hwh : X.N[iw]? = some wh) (hn : X.N[i]? = some n) (hkn : X.env.scope.names.lookup n = some .local) (vsg : Vis X.env.scope sg) (vbx : Vis X.env.scope bx) (vwh : Vis X.env.scope wh) (nb1 : ib ≠ i) (nw1 : iw ≠ i)
    (he : PE X ie te) (hix : PlainIx ie) (hrest : PSs X rest u)
    (hs : swapsWith (.Subscript (.Name sg p1) ie p2) (some (.Name n p3)) p4.line X.env = pure false := by rfl)
    (hst2 : starEach [.Name bx p5, .Constant (.int 8) j0 p6] X.env = [(false, eval (.Name bx p5) X.env), (false, eval (.Constant (.int 8) j0 p6) X.env)] := by rfl)
    (hst3 : starEach [.Constant (.str " ") j1 p7, .Name n p8, .Constant (.int 1) j2 p9] X.env = [(false, eval (.Constant (.str " ") j1 p7) X.env), (false, eval (.Name n p8) X.env), (false, eval (.Constant (.int 1) j2 p9) X.env)] := by rfl)
    (hbase : attributeBase (.Name wh pa) "replace" X.env (eval (.Name wh pa) X.env) = eval (.Name wh pa) X.env := by rfl) (hline : (pb.endLine == pc.line) = true := by rfl)
    (d1 : (sg == ("__debug__" : Str)) = false := by decide) (c1 : (sg == ("__classdict__" : Str)) = false := by decide) (d2 : (bx == ("__debug__" : Str)) = false := by decide) (c2 : (bx == ("__classdict__" : Str)) = false := by decide)
    (d3 : (wh == ("__debug__" : Str)) = false := by decide) (c3 : (wh == ("__classdict__" : Str)) = false := by decide) (d4 : (n == ("__debug__" : Str)) = false := by decide) (d5 : (tk == ("__debug__" : Str)) = false := by decide)
    (hm : behindInMarks .Eq (.Constant (.int 0) j3 pd) = false := by rfl) :
    PSsT X (.Assign [.Name n p3] (.Subscript (.Name sg p1) ie p2) p4 :: .If (.Compare (.Call (.Name tk pe) [.Name bx p5, .Constant (.int 8) j0 p6] [] pf) [.Eq] [.Constant (.int 0) j3 pd] pg)
      [.Return (some (.Call (.Attribute (.Name wh pa) "replace" pb) [.Constant (.str " ") j1 p7, .Name n p8, .Constant (.int 1) j2 p9] [] pc)) ph] [] pk :: rest) (tSgn isg ib iw i sp te u) := by
  intro pins s σ H Ds h0 I h
  obtain ⟨f, fd, ps, ds, FK, hmf, hkp, hb, hd⟩ := D.ex
  cases hd
  refine wpAny_execs_cons (wpAny_Assign_Name (Subscript_ ?_) hs)
  obtain ⟨z, b, x, ez, hz, eb, ex, hx, h⟩ := h
  refine raw_name hsg vsg I ez (fun uz rz => ?_) d1 c1
  obtain ⟨tz, rfl⟩ := rz
  refine wpAny_mono (PySem.wpAny_toks (he.run pins s σ H _ I h)) (fun uk s1 q1 => ?_) fun _ _ z => z.2
  obtain ⟨ht1, y, H1, I1, ry, q1⟩ := q1
  obtain ⟨kk, c, rfl, hc, q1⟩ := q1
  obtain ⟨tk1, rfl⟩ := ry
  obtain ⟨jx, g1, g2, g3, g4, g5⟩ := atI_get hc
  have hlz : z.cps.toList.length = z.length := by simp [Str.length]
  rw [hlz] at g1 g4 g5
  have hn63 := line63
  refine tail_any (typeIs_str s1 z tz) slot_str_getitem.lookup (getItem_str (c := c) (by
    have e1 : decide (kk < -(2 ^ 63 : Int)) = false := decide_eq_false (by omega)
    have e2 : decide (kk ≥ 2 ^ 63) = false := decide_eq_false (by omega)
    rw [e1, e2, Bool.or_false]) (by rw [g1]; simpa using g2) ?_) (hix _ _)
  have I2 : Inv X pins σ H1 { s1 with toks := s1.toks + 1 } := I1.tok _
  obtain ⟨m1, hn1, hl1⟩ := id I2.loc
  have hcls : (X.env.scope.kind == .class || (X.env.scope.kind == .module && X.env.locals != X.env.globals)) = false := by rw [I.ok.kind]; rfl
  refine wpAny_storeName_local hkn hn1 (fun h2 hn2 hs2 => ?_) hcls
  have I3 : Inv X pins (σ.set i (some (.str ⟨#[c]⟩))) H1 { s1 with heap := h2, toks := s1.toks + 1 + 1 } := inv_storeL I2 hN hn hkn (v := .str ⟨#[c]⟩) (u := .str ⟨#[c]⟩ s1.toks) ⟨s1.toks, rfl⟩ hn1 hl1 hn2 hs2 _
  refine wpAny_execs_cons (wpAny_If (wpAny_isTrue_Compare1 ?_ hm))
  refine wpAny_Call_Name_kw (ld_glob I3 hgl hmf ?_ d5)
  refine PySem.W.callWith_K (h₀ := X.base) I.ok.mod.kin hkp ?_ (by rw [hst2]; rfl) (by rfl)
  rw [hst2]
  refine Calls.spliced_cons (raw_name hbx vbx I3 (by rw [List.getElem?_set_ne (Ne.symm nb1)]; exact eb) (fun ub rb => ?_) d2 c2)
  show wpAny _ _ (spliced ((false, eval (.Constant (.int 8) j0 p6) X.env) :: [])) _ _ _
  refine Calls.spliced_cons (wpAny_Constant_int ?_)
  refine Calls.spliced_nil ?_
  have I4 : Inv X pins (σ.set i (some (.str ⟨#[c]⟩))) H1 { s1 with heap := h2, toks := s1.toks + 1 + 1 + 1 } := I3.tok _
  have r2 : Vals [b, .int 8] [ub, .int 8 (s1.toks + 1 + 1)] := .cons rb (.cons ⟨_, rfl⟩ .nil)
  have hlen : ([ub, .int 8 (s1.toks + 1 + 1)] ++ ([] : List Value)).length = ps.length := by
    have z1 := FK.len _ _ _ _ q1
    rw [← z1]
    rfl
  have bnd := hb { s1 with heap := h2, toks := s1.toks + 1 + 1 + 1 } _ I4.kIn hlen
  rw [List.append_nil] at bnd
  refine ⟨I4.kIn, wpAny_call (codeAny_mono (codeAny_toks_of (Nat.le_refl _) (FK.run X.A X.stack _ H1 _ _ _ _ E0 (hr.mono hk) I4.env0 bnd r2 q1)) fun r s4 hq => ?_)⟩
  obtain ⟨ht4, hq⟩ := hq
  cases r with
  | error e => exact hq.elim
  | ok fl =>
    cases fl with
    | next => exact False.elim hq
    | brk => exact False.elim hq
    | cont => exact False.elim hq
    | ret ur =>
      obtain ⟨vr, H4, os4, bare4, un4, hok4, rr, nn, en, qz, qn⟩ := hq
      subst en
      obtain ⟨tr, rfl⟩ := rr
      have I5 : Inv X pins (σ.set i (some (.str ⟨#[c]⟩))) H4 s4 := I4.call' (ch := []) os4 un4 hok4 bare4 (fun b z => absurd z (by simp))
      refine wpAny_Constant_int (eq_int (wpAny_truthy_bool ?_))
      by_cases hn0 : nn = 0
      · rw [show (nn == 0) = true from beq_iff_eq.mpr hn0]
        have I6 : Inv X pins (σ.set i (some (.str ⟨#[c]⟩))) H4 { s4 with toks := s4.toks + 1 } := I5.tok _
        refine wpAny_execs_cons (wpAny_Return_some (wpAny_Call_method_lateS hbase (by rw [hst3]; rfl) hline ?_))
        refine raw_name hwh vwh I6 (by rw [List.getElem?_set_ne (Ne.symm nw1)]; exact ex) (fun ux rx => ?_) d3 c3
        obtain ⟨tx, rfl⟩ := rx
        refine ⟨"str", _, F.plainAttrs_str, F.slot_str_replace, F.type_str_replace, typeIs_str _ _ _, (fun _ e => nomatch e), Calls.callWith_builtin rfl (Calls.evalArgs_plain ?_)⟩
        try rw [hst3]
        show wpAny _ _ (spliced ((false, eval (.Constant (.str " ") j1 p7) X.env) :: [(false, eval (.Name n p8) X.env), (false, eval (.Constant (.int 1) j2 p9) X.env)])) _ _ _
        refine Calls.spliced_cons (Calls.Constant_str ?_)
        -- the name, its token known
        obtain ⟨oL, esL, epL, hoL, hdL, hkL, hfL⟩ := id hn2
        obtain ⟨sl, hL⟩ := un4.any hoL I3.free (by simp)
        have hn4 : s4.heap.Ns X.env.locals (fun x => if x = n then some (Value.str ⟨#[c]⟩ s1.toks) else m1 x) := ⟨_, esL, epL, hL, hdL, hkL, hfL⟩
        refine Calls.spliced_cons (wpAny_Name (wpAny_loadName_local I.ok.kind hkn hn4 (if_pos rfl) ?_) d4)
        refine Calls.spliced_cons (wpAny_Constant_int (Calls.spliced_nil ?_))
        have t4 : s1.toks + 1 + 1 + 1 ≤ s4.toks := ht4
        exact call_rep1 nb (I6.tok _).kIn (show s4.toks + 1 ≠ 0 by omega) (show s1.toks ≠ 0 by omega) (show s4.toks + 1 ≠ s1.toks by omega) (by show x.length + 1 ≤ 16777216; exact hx)
          fun r t' k' hlr hcr => ⟨.str r, _, H4, I6.tok k', ⟨t', rfl⟩, qz hn0 r hlr fun d hd => (hcr d hd).imp id fun z => by simpa using z⟩
      · rw [show (nn == 0) = false from beq_eq_false_iff_ne.mpr hn0]
        refine wpAny_execs_nil ?_
        exact hrest.run pins _ _ H4 Ds (I5.tok _) (qn hn0)
end
end U

set_option Elab.async false
set_option linter.all false
set_option maxRecDepth 100000
set_option maxHeartbeats 4000000
/-! M67: the plain law of k67. -/
namespace K67
open PySem PySem.Spec PyProof.Rows L2 U
abbrev NL : Str := "\n"
abbrev BL : Str := " "
abbrev Pr := Str × Str
def pairD (t : Pr) : PyData := .tuple [.str t.1, .str t.2]
/-- two words of a row, none empty -/
def word2 (r : Str) : Option Pr := match Txt.split r BL with
  | [a, b] => if (a = "" ∨ b = "") then none else some (a, b)
  | _ => none
def wordO : Option Str → Option Pr
  | none => none
  | some r => word2 r
def tups : Nat → List (Option Str) → Except Nat (List Pr)
  | _, [] => .ok []
  | k, r :: rs => match wordO r with
    | none => .error k
    | some t => match tups (k + 1) rs with
      | .ok l => .ok (t :: l)
      | .error j => .error j
inductive Okk : List (Option Str) → List Pr → Prop
  | nil : Okk [] []
  | snoc {rs : List (Option Str)} {ts : List Pr} {r : Option Str} {t : Pr} : Okk rs ts → wordO r = some t → Okk (rs ++ [r]) (ts ++ [t])
theorem tups_cons (k : Nat) (r : Option Str) (rs : List (Option Str)) : tups k (r :: rs) = match wordO r with
    | none => .error k
    | some t => match tups (k + 1) rs with
      | .ok l => .ok (t :: l)
      | .error j => .error j := rfl
theorem tups_app : ∀ (k : Nat) (as bs : List (Option Str)), tups k (as ++ bs) = match tups k as with
    | .ok l => (match tups (k + as.length) bs with | .ok m => .ok (l ++ m) | .error j => .error j)
    | .error j => .error j
  | k, [], bs => by
    show tups k bs = _
    simp only [tups, List.length_nil, Nat.add_zero, List.nil_append]
    cases tups k bs <;> rfl
  | k, a :: as, bs => by
    show tups k (a :: (as ++ bs)) = _
    rw [tups_cons, tups_cons]
    cases wordO a with
    | none => rfl
    | some t =>
      dsimp only
      rw [tups_app (k + 1) as bs]
      have e : k + 1 + as.length = k + (a :: as).length := by rw [List.length_cons]; omega
      rw [e]
      cases tups (k + 1) as with
      | error j => rfl
      | ok l => cases tups (k + (a :: as).length) bs <;> rfl
theorem okk_tups {rs : List (Option Str)} {ts : List Pr} (h : Okk rs ts) : tups 0 rs = .ok ts := by
  induction h with
  | nil => rfl
  | snoc h e ih =>
    rw [tups_app, ih]
    simp only [tups, e]
theorem okk_len {rs : List (Option Str)} {ts : List Pr} (h : Okk rs ts) : rs.length = ts.length := by
  induction h with
  | nil => rfl
  | snoc h e ih => rw [List.length_append, List.length_append, ih]; rfl
/-- rows of a text; the last one, if it is not empty, is no row -/
def rowsO (x : Str) : List (Option Str) := if (Txt.split x NL).getLastD "" = "" then (Txt.split x NL).dropLast.map some else (Txt.split x NL).dropLast.map some ++ [none]
def PARTSl : List Str := ["letters", "number", "points", "makers", "year", "copy"]
def waysOf (p : Str) : List Str :=
  if p = "letters" then ["words", "short"] else if p = "number" then ["whole", "figures"] else if p = "points" then ["decimal", "whole", "late"] else
  if p = "makers" then ["decimal", "whole", "few"] else if p = "year" then ["rising", "falling", "late", "figures"] else if p = "copy" then ["rising", "falling", "figures"] else []
theorem ways_parts (p : Str) : waysOf p = [] ↔ p ∉ PARTSl := by
  unfold waysOf PARTSl
  constructor
  · intro h
    split at h; · cases h
    split at h; · cases h
    split at h; · cases h
    split at h; · cases h
    split at h; · cases h
    split at h; · cases h
    simp [*]
  · intro h
    simp only [List.mem_cons, List.not_mem_nil, or_false, not_or] at h
    simp [h.1, h.2.1, h.2.2.1, h.2.2.2.1, h.2.2.2.2.1, h.2.2.2.2.2]
/-- a refusal: class, kind, thing -/
structure Ref where
  cl : Str
  kd : Str
  th : PyData
def chk1 (done : List Str) (t : Pr) : Option Ref :=
  if t.1 ∉ PARTSl then some ⟨"NoPart", "part", .str t.1⟩ else if t.2 ∉ waysOf t.1 then some ⟨"NoWay", "way", .str t.2⟩ else if t.1 ∈ done then some ⟨"Twice", "twice", .str t.1⟩ else none
def chk : List Str → List Pr → Option Ref
  | _, [] => none
  | done, t :: r => match chk1 done t with
    | some e => some e
    | none => chk (done ++ [t.1]) r
def mkR (ts : List Pr) : Option Ref := if 1 ≤ ts.length ∧ ts.length ≤ 6 then chk [] ts else some ⟨"NoSteps", "steps", .list (ts.map pairD)⟩
def readR (d : PyData) : Except Ref (List Pr) := match d with
  | .str x => (match tups 0 (rowsO x) with
    | .error k => .error ⟨"NoRow", "row", .int k⟩
    | .ok ts => match mkR ts with
      | some e => .error e
      | none => .ok ts)
  | d => .error ⟨"NoText", "text", d⟩
def refD (e : Ref) : PyData := .list [.str e.kd, e.th]
def toldD (ts : List Pr) : PyData := .list [.str "told", .list (ts.map pairD)]
def dueD (d : PyData) : PyData := match readR d with
  | .error e => refD e
  | .ok ts => toldD ts
/-- good steps pass -/
theorem chk_good : ∀ (done : List Str) (ts : List Pr), (∀ t ∈ ts, t.1 ∈ PARTSl ∧ t.2 ∈ waysOf t.1) → (ts.map Prod.fst).Nodup → (∀ t ∈ ts, t.1 ∉ done) → chk done ts = none
  | _, [], _, _, _ => rfl
  | done, t :: r, h1, h2, h3 => by
    obtain ⟨a, b⟩ := h1 t (List.mem_cons_self ..)
    have c := h3 t (List.mem_cons_self ..)
    rw [List.map_cons, List.nodup_cons] at h2
    unfold chk chk1
    simp only [a, b, c, not_true_eq_false, if_false]
    refine chk_good (done ++ [t.1]) r (fun u hu => h1 u (List.mem_cons_of_mem _ hu)) h2.2 fun u hu hm => ?_
    rcases List.mem_append.mp hm with hm | hm
    · exact h3 u (List.mem_cons_of_mem _ hu) hm
    · have e : u.1 = t.1 := by simpa using hm
      exact h2.1 (e ▸ List.mem_map.mpr ⟨u, hu, rfl⟩)
theorem chk_cons (done : List Str) (t : Pr) (r : List Pr) : chk done (t :: r) = match chk1 done t with
    | some e => some e
    | none => chk (done ++ [t.1]) r := rfl
theorem chk_app : ∀ (done : List Str) (as bs : List Pr), chk done (as ++ bs) = match chk done as with
    | some e => some e
    | none => chk (done ++ as.map Prod.fst) bs
  | done, [], bs => by simp [chk]
  | done, a :: as, bs => by
    show chk done (a :: (as ++ bs)) = _
    rw [chk_cons, chk_cons]
    cases chk1 done a with
    | some e => rfl
    | none =>
      dsimp only
      rw [chk_app (done ++ [a.1]) as bs, List.append_assoc]
      rfl
/-- the text of steps -/
def lineOf (t : Pr) : Str := t.1 ++ BL ++ t.2
def wholeOf (ts : List Pr) : Str := Txt.join "" (ts.map fun t => lineOf t ++ NL)
theorem join2 (a b : Str) : Txt.join BL [a, b] = lineOf (a, b) := by
  rw [TL.join_eq]
  rfl

/-! ### sizes -/
def SmallT (t : Pr) : Prop := Tame 400 t.1 ∧ Tame 400 t.2
theorem pairD_len {n : Nat} {t : Pr} (h1 : Tame n t.1) (h2 : Tame n t.2) : (pairD t).shown.length ≤ 20 * n + 12 := by
  unfold pairD
  simp only [PyData.shown, PyData.shownAll]
  have z := tupleText_len [reprText t.1, reprText t.2]
  have a := repr_len h1
  have b := repr_len h2
  rw [piled_cons, piled_cons, piled_nil] at z
  omega
theorem pairs_len {n : Nat} {ts : List Pr} (h : ∀ t ∈ ts, Tame n t.1 ∧ Tame n t.2) : (PyData.list (ts.map pairD)).shown.length ≤ 2 + ts.length * (20 * n + 14) := by
  simp only [PyData.shown]
  rw [shownAll_map, List.map_map]
  have z := listText_len (ts.map (PyData.shown ∘ pairD))
  have w := piled_le (m := 20 * n + 12) (ts := ts.map (PyData.shown ∘ pairD)) fun u hu => by
    obtain ⟨t, ht, rfl⟩ := List.mem_map.mp hu
    exact pairD_len (h t ht).1 (h t ht).2
  rw [List.length_map] at w
  have e : 20 * n + 12 + 2 = 20 * n + 14 := by omega
  rw [e] at w
  omega
end K67

set_option Elab.async false
set_option linter.all false
set_option maxRecDepth 100000
set_option maxHeartbeats 0
namespace K67
open PySem PySem.Spec PyProof.Rows L2
def top (i : Nat) : Stmt := PySem.Challenge.pw_spinemarks_k67_rules_by_rows.main.body.getD i (.Pass ⟨0, 0, 0, 0⟩)
abbrev s_NoText_init : Stmt := inClass (top 3) 0
abbrev s_Twice_init : Stmt := inClass (top 4) 0
abbrev s_NoSteps_init : Stmt := inClass (top 5) 0
abbrev s_NoStep_init : Stmt := inClass (top 6) 0
abbrev s_NoPart_init : Stmt := inClass (top 7) 0
abbrev s_NoWay_init : Stmt := inClass (top 8) 0
abbrev s_NoRow_init : Stmt := inClass (top 9) 0
abbrev s_whole_in : Stmt := top 12
abbrev s_figures_of : Stmt := top 13
abbrev s_split_rows : Stmt := top 15
abbrev s_whole_text : Stmt := top 16
abbrev s_words_in : Stmt := top 17
abbrev s_letters_words : Stmt := top 21
abbrev s_letters_short : Stmt := top 22
abbrev s_number_whole : Stmt := top 23
abbrev s_number_figures : Stmt := top 24
abbrev s_points_decimal : Stmt := top 25
abbrev s_whole_of : Stmt := top 26
abbrev s_points_whole : Stmt := top 27
abbrev s_points_late : Stmt := top 28
abbrev s_makers_decimal : Stmt := top 29
abbrev s_makers_whole : Stmt := top 30
abbrev s_makers_few : Stmt := top 31
abbrev s_rising : Stmt := top 32
abbrev s_figures : Stmt := top 33
abbrev s_year_rising : Stmt := top 34
abbrev s_year_falling : Stmt := top 35
abbrev s_year_late : Stmt := top 36
abbrev s_year_figures : Stmt := top 37
abbrev s_copy_rising : Stmt := top 38
abbrev s_copy_falling : Stmt := top 39
abbrev s_copy_figures : Stmt := top 40
abbrev s_ways : Stmt := top 42
abbrev s_need_step : Stmt := top 45
abbrev s_Rule_init : Stmt := inClass (top 46) 0
abbrev s_Rule_eq : Stmt := inClass (top 46) 1
abbrev s_Rule_len : Stmt := inClass (top 46) 2
abbrev s_Rule_steps : Stmt := inClass (top 46) 3
abbrev s_tuples_in : Stmt := top 48
abbrev s_rule_text : Stmt := top 49
abbrev s_read_rule : Stmt := top 50
abbrev s_law_cell : Stmt := top 52
abbrev s_law_box : Stmt := top 53
abbrev s_law_take : Stmt := top 54
abbrev s_law_ways : Stmt := top 55
abbrev s_law_steps : Stmt := top 56
abbrev s_law_steps_due : Stmt := top 57
abbrev s_law_words_due : Stmt := top 58
abbrev s_law_spoilt : Stmt := top 59
abbrev s_law_other_word : Stmt := top 60
abbrev s_law_due : Stmt := top 61
abbrev s_law_kind : Stmt := top 62
abbrev s_law_asked : Stmt := top 63
abbrev s_law : Stmt := top 64
def d_NoText_init : He.DefD := ⟨("NoText", some "__init__"), "__init__", "NoText.__init__", defArgs s_NoText_init, defBody s_NoText_init, defScope s_NoText_init, [], []⟩
def d_Twice_init : He.DefD := ⟨("Twice", some "__init__"), "__init__", "Twice.__init__", defArgs s_Twice_init, defBody s_Twice_init, defScope s_Twice_init, [], []⟩
def d_NoSteps_init : He.DefD := ⟨("NoSteps", some "__init__"), "__init__", "NoSteps.__init__", defArgs s_NoSteps_init, defBody s_NoSteps_init, defScope s_NoSteps_init, [], []⟩
def d_NoStep_init : He.DefD := ⟨("NoStep", some "__init__"), "__init__", "NoStep.__init__", defArgs s_NoStep_init, defBody s_NoStep_init, defScope s_NoStep_init, [], []⟩
def d_NoPart_init : He.DefD := ⟨("NoPart", some "__init__"), "__init__", "NoPart.__init__", defArgs s_NoPart_init, defBody s_NoPart_init, defScope s_NoPart_init, [], []⟩
def d_NoWay_init : He.DefD := ⟨("NoWay", some "__init__"), "__init__", "NoWay.__init__", defArgs s_NoWay_init, defBody s_NoWay_init, defScope s_NoWay_init, [], []⟩
def d_NoRow_init : He.DefD := ⟨("NoRow", some "__init__"), "__init__", "NoRow.__init__", defArgs s_NoRow_init, defBody s_NoRow_init, defScope s_NoRow_init, [], []⟩
def d_whole_in : He.DefD := ⟨("whole_in", none), "whole_in", "whole_in", defArgs s_whole_in, defBody s_whole_in, defScope s_whole_in, [], []⟩
def d_figures_of : He.DefD := ⟨("figures_of", none), "figures_of", "figures_of", defArgs s_figures_of, defBody s_figures_of, defScope s_figures_of, [], []⟩
def d_split_rows : He.DefD := ⟨("split_rows", none), "split_rows", "split_rows", defArgs s_split_rows, defBody s_split_rows, defScope s_split_rows, [], []⟩
def d_whole_text : He.DefD := ⟨("whole_text", none), "whole_text", "whole_text", defArgs s_whole_text, defBody s_whole_text, defScope s_whole_text, [], []⟩
def d_words_in : He.DefD := ⟨("words_in", none), "words_in", "words_in", defArgs s_words_in, defBody s_words_in, defScope s_words_in, [], []⟩
def d_letters_words : He.DefD := ⟨("letters_words", none), "letters_words", "letters_words", defArgs s_letters_words, defBody s_letters_words, defScope s_letters_words, [], []⟩
def d_letters_short : He.DefD := ⟨("letters_short", none), "letters_short", "letters_short", defArgs s_letters_short, defBody s_letters_short, defScope s_letters_short, [], []⟩
def d_number_whole : He.DefD := ⟨("number_whole", none), "number_whole", "number_whole", defArgs s_number_whole, defBody s_number_whole, defScope s_number_whole, [], []⟩
def d_number_figures : He.DefD := ⟨("number_figures", none), "number_figures", "number_figures", defArgs s_number_figures, defBody s_number_figures, defScope s_number_figures, [], []⟩
def d_points_decimal : He.DefD := ⟨("points_decimal", none), "points_decimal", "points_decimal", defArgs s_points_decimal, defBody s_points_decimal, defScope s_points_decimal, [], []⟩
def d_whole_of : He.DefD := ⟨("whole_of", none), "whole_of", "whole_of", defArgs s_whole_of, defBody s_whole_of, defScope s_whole_of, [], []⟩
def d_points_whole : He.DefD := ⟨("points_whole", none), "points_whole", "points_whole", defArgs s_points_whole, defBody s_points_whole, defScope s_points_whole, [], []⟩
def d_points_late : He.DefD := ⟨("points_late", none), "points_late", "points_late", defArgs s_points_late, defBody s_points_late, defScope s_points_late, [], []⟩
def d_makers_decimal : He.DefD := ⟨("makers_decimal", none), "makers_decimal", "makers_decimal", defArgs s_makers_decimal, defBody s_makers_decimal, defScope s_makers_decimal, [], []⟩
def d_makers_whole : He.DefD := ⟨("makers_whole", none), "makers_whole", "makers_whole", defArgs s_makers_whole, defBody s_makers_whole, defScope s_makers_whole, [], []⟩
def d_makers_few : He.DefD := ⟨("makers_few", none), "makers_few", "makers_few", defArgs s_makers_few, defBody s_makers_few, defScope s_makers_few, [], []⟩
def d_rising : He.DefD := ⟨("rising", none), "rising", "rising", defArgs s_rising, defBody s_rising, defScope s_rising, [], []⟩
def d_figures : He.DefD := ⟨("figures", none), "figures", "figures", defArgs s_figures, defBody s_figures, defScope s_figures, [], []⟩
def d_year_rising : He.DefD := ⟨("year_rising", none), "year_rising", "year_rising", defArgs s_year_rising, defBody s_year_rising, defScope s_year_rising, [], []⟩
def d_year_falling : He.DefD := ⟨("year_falling", none), "year_falling", "year_falling", defArgs s_year_falling, defBody s_year_falling, defScope s_year_falling, [], []⟩
def d_year_late : He.DefD := ⟨("year_late", none), "year_late", "year_late", defArgs s_year_late, defBody s_year_late, defScope s_year_late, [], []⟩
def d_year_figures : He.DefD := ⟨("year_figures", none), "year_figures", "year_figures", defArgs s_year_figures, defBody s_year_figures, defScope s_year_figures, [], []⟩
def d_copy_rising : He.DefD := ⟨("copy_rising", none), "copy_rising", "copy_rising", defArgs s_copy_rising, defBody s_copy_rising, defScope s_copy_rising, [], []⟩
def d_copy_falling : He.DefD := ⟨("copy_falling", none), "copy_falling", "copy_falling", defArgs s_copy_falling, defBody s_copy_falling, defScope s_copy_falling, [], []⟩
def d_copy_figures : He.DefD := ⟨("copy_figures", none), "copy_figures", "copy_figures", defArgs s_copy_figures, defBody s_copy_figures, defScope s_copy_figures, [], []⟩
def d_ways : He.DefD := ⟨("ways", none), "ways", "ways", defArgs s_ways, defBody s_ways, defScope s_ways, [], []⟩
def d_need_step : He.DefD := ⟨("need_step", none), "need_step", "need_step", defArgs s_need_step, defBody s_need_step, defScope s_need_step, [], []⟩
def d_Rule_init : He.DefD := ⟨("Rule", some "__init__"), "__init__", "Rule.__init__", defArgs s_Rule_init, defBody s_Rule_init, defScope s_Rule_init, [], []⟩
def d_Rule_eq : He.DefD := ⟨("Rule", some "__eq__"), "__eq__", "Rule.__eq__", defArgs s_Rule_eq, defBody s_Rule_eq, defScope s_Rule_eq, [], []⟩
def d_Rule_len : He.DefD := ⟨("Rule", some "__len__"), "__len__", "Rule.__len__", defArgs s_Rule_len, defBody s_Rule_len, defScope s_Rule_len, [], []⟩
def d_Rule_steps : He.DefD := ⟨("Rule", some "steps"), "steps", "Rule.steps", defArgs s_Rule_steps, defBody s_Rule_steps, defScope s_Rule_steps, [], []⟩
def d_tuples_in : He.DefD := ⟨("tuples_in", none), "tuples_in", "tuples_in", defArgs s_tuples_in, defBody s_tuples_in, defScope s_tuples_in, [], []⟩
def d_rule_text : He.DefD := ⟨("rule_text", none), "rule_text", "rule_text", defArgs s_rule_text, defBody s_rule_text, defScope s_rule_text, [], []⟩
def d_read_rule : He.DefD := ⟨("read_rule", none), "read_rule", "read_rule", defArgs s_read_rule, defBody s_read_rule, defScope s_read_rule, [], []⟩
def d_law_cell : He.DefD := ⟨("_law_cell", none), "_law_cell", "_law_cell", defArgs s_law_cell, defBody s_law_cell, defScope s_law_cell, [], []⟩
def d_law_box : He.DefD := ⟨("_law_box", none), "_law_box", "_law_box", defArgs s_law_box, defBody s_law_box, defScope s_law_box, [], []⟩
def d_law_take : He.DefD := ⟨("_law_take", none), "_law_take", "_law_take", defArgs s_law_take, defBody s_law_take, defScope s_law_take, [], []⟩
def d_law_ways : He.DefD := ⟨("_law_ways", none), "_law_ways", "_law_ways", defArgs s_law_ways, defBody s_law_ways, defScope s_law_ways, [], []⟩
def d_law_steps : He.DefD := ⟨("_law_steps", none), "_law_steps", "_law_steps", defArgs s_law_steps, defBody s_law_steps, defScope s_law_steps, [], []⟩
def d_law_steps_due : He.DefD := ⟨("_law_steps_due", none), "_law_steps_due", "_law_steps_due", defArgs s_law_steps_due, defBody s_law_steps_due, defScope s_law_steps_due, [], []⟩
def d_law_words_due : He.DefD := ⟨("_law_words_due", none), "_law_words_due", "_law_words_due", defArgs s_law_words_due, defBody s_law_words_due, defScope s_law_words_due, [], []⟩
def d_law_spoilt : He.DefD := ⟨("_law_spoilt", none), "_law_spoilt", "_law_spoilt", defArgs s_law_spoilt, defBody s_law_spoilt, defScope s_law_spoilt, [], []⟩
def d_law_other_word : He.DefD := ⟨("_law_other_word", none), "_law_other_word", "_law_other_word", defArgs s_law_other_word, defBody s_law_other_word, defScope s_law_other_word, [], []⟩
def d_law_due : He.DefD := ⟨("_law_due", none), "_law_due", "_law_due", defArgs s_law_due, defBody s_law_due, defScope s_law_due, [], []⟩
def d_law_kind : He.DefD := ⟨("_law_kind", none), "_law_kind", "_law_kind", defArgs s_law_kind, defBody s_law_kind, defScope s_law_kind, [], []⟩
def d_law_asked : He.DefD := ⟨("_law_asked", none), "_law_asked", "_law_asked", defArgs s_law_asked, defBody s_law_asked, defScope s_law_asked, [], []⟩
def d_law : He.DefD := ⟨("law", none), "law", "law", defArgs s_law, defBody s_law, defScope s_law, [], []⟩
def fn : List He.DefD := [d_NoText_init, d_Twice_init, d_NoSteps_init, d_NoStep_init, d_NoPart_init, d_NoWay_init, d_NoRow_init, d_whole_in, d_figures_of, d_split_rows, d_whole_text, d_words_in, d_letters_words, d_letters_short, d_number_whole, d_number_figures, d_points_decimal, d_whole_of, d_points_whole, d_points_late, d_makers_decimal, d_makers_whole, d_makers_few, d_rising, d_figures, d_year_rising, d_year_falling, d_year_late, d_year_figures, d_copy_rising, d_copy_falling, d_copy_figures, d_ways, d_need_step, d_Rule_init, d_Rule_eq, d_Rule_len, d_Rule_steps, d_tuples_in, d_rule_text, d_read_rule, d_law_cell, d_law_box, d_law_take, d_law_ways, d_law_steps, d_law_steps_due, d_law_words_due, d_law_spoilt, d_law_other_word, d_law_due, d_law_kind, d_law_asked, d_law]
def names0 : List PySem.Str := ["_wall", "MarkError", "NoText", "Twice", "NoSteps", "NoStep", "NoPart", "NoWay", "NoRow", "PART", "whole_in", "figures_of", "split_rows", "whole_text", "words_in", "PARTS", "LATE", "letters_words", "letters_short", "number_whole", "number_figures", "points_decimal", "whole_of", "points_whole", "points_late", "makers_decimal", "makers_whole", "makers_few", "rising", "figures"]
def names1 : List PySem.Str := ["year_rising", "year_falling", "year_late", "year_figures", "copy_rising", "copy_falling", "copy_figures", "KEYS", "ways", "MOST", "need_step", "Rule", "tuples_in", "rule_text", "read_rule", "_law_cell", "_law_box", "_law_take", "_law_ways", "_law_steps", "_law_steps_due", "_law_words_due", "_law_spoilt", "_law_other_word", "_law_due", "_law_kind", "_law_asked"]
def names : List PySem.Str := names0 ++ names1
abbrev lawI : Nat := 64
end K67

set_option Elab.async false
set_option linter.all false
set_option maxRecDepth 100000
set_option maxHeartbeats 4000000
/-! S67: the promises of k67's defs. -/
namespace U
open PySem PySem.Spec PyProof.Rows L2
theorem Gr.same {M : Addr → Prop} {W H H' : Hp} (s : Same W H) (e : Same H H') : Gr M W H W H' := ⟨fun a o h _ => e a o h, fun a o h => ⟨o, e a o h⟩, Same.refl W, s.trans e, fun a o h n => by rw [n] at h; cases h⟩
theorem Gr.sameH {W H W' H' : Hp} (g : Gr NoM W H W' H') : Same H H' := fun a o h => g.hp a o h fun z => z
/-- all but b is kept -/
def Kp (b : Addr) (H H' : Hp) : Prop := ∀ a o, H a = some o → a ≠ b → H' a = some o
theorem Kp.refl {b : Addr} {H : Hp} : Kp b H H := fun _ _ h _ => h
theorem Kp.trans {b : Addr} {H H1 H2 : Hp} (h : Kp b H H1) (k : Kp b H1 H2) : Kp b H H2 := fun a o e n => k a o (h a o e n) n
theorem Kp.same {b : Addr} {H H' : Hp} (e : Same H H') : Kp b H H' := fun a o h _ => e a o h
theorem Kp.upd {b : Addr} {H : Hp} {o : HO} : Kp b H (upd H b o) := fun a u h n => by rw [upd_ne n]; exact h
theorem Kp.gr {b : Addr} {W H H' : Hp} {o : HO} (k : Kp b H H') (s : Same W H) (hw : W b = none) (hb : H' b = some o) : Gr (fun a => a = b) W H W H' :=
  ⟨fun a u h n => k a u h n, fun a u h => by
    by_cases e : a = b
    · exact ⟨o, by rw [e]; exact hb⟩
    · exact ⟨u, k a u h e⟩, Same.refl W, fun a u h => k a u (s a u h) (ne_of_none h hw), fun a u h n => by rw [n] at h; cases h⟩
/-- an exception of the class C, its field holds v -/
def ErrS (H : Hp) (C : Addr) (f : Str) (v : V) (E : XK) : Prop := ∀ dd H', Same H H' → H dd = none → H' dd = some (.xd [(f, v)]) → E (.ref C) (some dd) H'
end U
namespace K67
open PySem PySem.Spec PyProof.Rows L2 U
def oV : Option Str → V
  | none => .non
  | some x => .str x
abbrev LIM : Nat := 1000
def sp_split_rows (K : PySem.W.Frag) : Sp := fun vs H Q E => ∃ v d, vs = [v] ∧ Rp K H v d ∧ (∀ x, d = .str x → Tame LIM x ∧ ∀ l H', Same H H' → H l = none → H' l = some (.lst ((rowsO x).map oV)) → Q (.ref l) H') ∧ ((∀ x, d ≠ .str x) → ErrS H (He.ga K "NoText") "found" v E)
def sp_whole_text (K : PySem.W.Frag) : Sp := fun vs H Q _ => ∃ a, ∃ ys : List Str, vs = [.ref a] ∧ SqL K H a (ys.map V.str) ∧ ys.length ≤ LIM ∧ (∀ y ∈ ys, y.length ≤ LIM) ∧ ∀ H', Same H H' → Q (.str (Txt.join "" (ys.map (· ++ NL)))) H'
def sp_words_in (K : PySem.W.Frag) : Sp := fun vs H Q _ => ∃ r : Option Str, vs = [oV r, .int 2] ∧ (∀ x, r = some x → Tame LIM x) ∧ (wordO r = none → ∀ H', Same H H' → Q .non H') ∧
  ∀ t, wordO r = some t → ∀ l H', Same H H' → H l = none → H' l = some (.lst [.str t.1, .str t.2]) → Q (.ref l) H'
def sp_ways (K : PySem.W.Frag) : Sp := fun vs H Q E => ∃ p : Str, vs = [.str p] ∧ p.length ≤ LIM ∧ (p ∈ PARTSl → ∀ l H', Same H H' → H l = none → H' l = some (.lst ((waysOf p).map V.str)) → Q (.ref l) H') ∧ (p ∉ PARTSl → ErrS H (He.ga K "NoPart") "found" (.str p) E)
def sp_need_step (K : PySem.W.Frag) : Sp := fun vs H Q E => ∃ st a W t, ∃ (done : List Pr) (xs : List V), vs = [.ref st, .ref a] ∧ Same W H ∧ Dp K W (.ref st) (pairD t) ∧ t.1.length ≤ LIM ∧ SqL K H a xs ∧ DpAll K W xs (done.map pairD) ∧ done.length ≤ LIM ∧
  (chk1 (done.map Prod.fst) t = none → ∀ H', Same H H' → Q .non H') ∧ ∀ e v, chk1 (done.map Prod.fst) t = some e → Rp K W v e.th → ErrS H (He.ga K e.cl) "found" v E
def sp_Rule_init (K : PySem.W.Frag) : Sp := fun vs H Q E => ∃ a s W dx, ∃ ts : List Pr, vs = [.ref a, .ref s] ∧ Same W H ∧ W a = none ∧ H a = some (.ins (He.ga K "Rule") dx []) ∧ Dp K W (.ref s) (.list (ts.map pairD)) ∧ (∀ t ∈ ts, t.1.length ≤ LIM) ∧
  (mkR ts = none → ∀ l W' H', Gr (fun b => b = a) W H W' H' → H' a = some (.ins (He.ga K "Rule") dx [("kept_steps", .ref l)]) → Dp K W' (.ref l) (.list (ts.map pairD)) → Q .non H') ∧
  ∀ e v, mkR ts = some e → Rp K W v e.th → ErrS H (He.ga K e.cl) "found" v E
/-- a rule object -/
def RuleD (K : PySem.W.Frag) (W : Hp) (x : Addr) (ts : List Pr) : Prop := ∃ dx l, W x = some (.ins (He.ga K "Rule") dx [("kept_steps", .ref l)]) ∧ Dp K W (.ref l) (.list (ts.map pairD))
theorem RuleD.up {K : PySem.W.Frag} {W W' : Hp} {x : Addr} {ts : List Pr} (h : RuleD K W x ts) (e : Same W W') : RuleD K W' x ts := by
  obtain ⟨dx, l, h1, h2⟩ := h
  exact ⟨dx, l, e _ _ h1, U.Dp.up h2 e⟩
def sp_Rule_steps (K : PySem.W.Frag) : Sp := fun vs H Q _ => ∃ x W ts, vs = [.ref x] ∧ Same W H ∧ RuleD K W x ts ∧ RetD K NoM W H (.list (ts.map pairD)) Q
def sp_tuples_in (K : PySem.W.Frag) : Sp := fun vs H Q E => ∃ v d W, vs = [v, .int 2] ∧ Same W H ∧ Rp K W v d ∧ (∀ x, d = .str x → Tame LIM x) ∧ (∀ x k, d = .str x → tups 0 (rowsO x) = .error k → ErrS H (He.ga K "NoRow") "found" (.int k) E) ∧
  (∀ x ts, d = .str x → tups 0 (rowsO x) = .ok ts → RetD K NoM W H (.list (ts.map pairD)) Q) ∧ ((∀ x, d ≠ .str x) → ErrS H (He.ga K "NoText") "found" v E)
def sp_rule_text (K : PySem.W.Frag) : Sp := fun vs H Q _ => ∃ x W ts, vs = [.ref x] ∧ Same W H ∧ RuleD K W x ts ∧ ts.length ≤ 10 ∧ (∀ t ∈ ts, Tame 20 t.1 ∧ Tame 20 t.2) ∧ ∀ W' H', Gr NoM W H W' H' → Q (.str (wholeOf ts)) H'
def sp_read_rule (K : PySem.W.Frag) : Sp := fun vs H Q E => ∃ v d W, vs = [v] ∧ Same W H ∧ Rp K W v d ∧ (∀ x, d = .str x → Tame LIM x) ∧ (∀ ts, readR d = .ok ts → ∀ x W' H', Gr NoM W H W' H' → RuleD K W' x ts → Q (.ref x) H') ∧
  ∀ e, readR d = .error e → ErrP K NoM W H (He.ga K e.cl) "found" e.th E
/-- the box: the number left, two seeds, the turn -/
def Bx (b : Addr) (n : Int) (H : Hp) : Prop := ∃ c0 c1 c2 t : Int, H b = some (.lst [.int c0, .int c1, .int c2, .int t]) ∧ 0 ≤ c0 ∧ 0 ≤ c1 ∧ c1 < 2147483648 ∧ 0 ≤ c2 ∧ c2 < 2147483648 ∧ 0 ≤ t ∧ t ≤ n
theorem Bx.mono {b : Addr} {n m : Int} {H : Hp} (h : Bx b n H) (e : n ≤ m) : Bx b m H := by
  obtain ⟨c0, c1, c2, t, h1, h2, h3, h4, h5, h6, h7, h8⟩ := h
  exact ⟨c0, c1, c2, t, h1, h2, h3, h4, h5, h6, h7, by omega⟩
theorem Bx.at {b : Addr} {n : Int} {H H' : Hp} (h : Bx b n H) (e : ∀ o, H b = some o → H' b = some o) : Bx b n H' := by
  obtain ⟨c0, c1, c2, t, h1, h2⟩ := h
  exact ⟨c0, c1, c2, t, e _ h1, h2⟩
def sp_law_cell (K : PySem.W.Frag) : Sp := fun vs H Q _ => ∃ a, ∃ ns : List Int, ∃ k : Int, vs = [.ref a, .int k] ∧ SqL K H a (ns.map V.int) ∧ 0 ≤ k ∧ k < 1000 ∧ ∀ c : Int, Q (.int c) H
def sp_law_box (K : PySem.W.Frag) : Sp := fun vs H Q _ => ∃ c : Int, vs = [.int c] ∧ ∀ l H', Same H H' → H l = none → Bx l 0 H' → Q (.ref l) H'
def sp_law_take (K : PySem.W.Frag) : Sp := fun vs H Q _ => ∃ b, ∃ m n : Int, vs = [.ref b, .int m] ∧ Bx b n H ∧ n < 100000 ∧ 0 < m ∧ m < 1000000 ∧ ∀ r xs, 0 ≤ r → r < m → Bx b (n + 1) (upd H b (.lst xs)) → Q (.int r) (upd H b (.lst xs))
def sp_law_ways (K : PySem.W.Frag) : Sp := fun vs H Q _ => ∃ p : Str, vs = [.str p] ∧ ∀ l H', Same H H' → H l = none → H' l = some (.lst ((waysOf p).map V.str)) → Q (.ref l) H'
/-- good steps -/
def Good (ts : List Pr) : Prop := 1 ≤ ts.length ∧ ts.length ≤ 6 ∧ mkR ts = none ∧ ∀ t ∈ ts, Tame 8 t.1 ∧ Tame 8 t.2
def sp_law_steps (K : PySem.W.Frag) : Sp := fun vs H Q _ => ∃ b W, ∃ n : Int, vs = [.ref b] ∧ Same W H ∧ W b = none ∧ Bx b n H ∧ n < 90000 ∧ ∀ p ts W' H', Gr (fun a => a = b) W H W' H' → Bx b (n + 20) H' → Good ts → Dp K W' (.ref p) (.list (ts.map pairD)) → Q (.ref p) H'
def sp_law_steps_due (K : PySem.W.Frag) : Sp := fun vs H Q _ => ∃ s W, ∃ ts : List Pr, vs = [.ref s] ∧ Same W H ∧ Dp K W (.ref s) (.list (ts.map pairD)) ∧ (mkR ts = none → ∀ H', Same H H' → Q .non H') ∧ ∀ e, mkR ts = some e → RetP K NoM W H (refD e) Q
def sp_law_words_due (K : PySem.W.Frag) : Sp := fun vs H Q _ => ∃ x W, vs = [.str x, .int 2] ∧ Same W H ∧ Tame LIM x ∧ (∀ k, tups 0 (rowsO x) = .error k → ∀ l W' H', Gr NoM W H W' H' → W' l = some (.lst [.str "row", .int k]) → Q (.ref l) H') ∧
  ∀ ts, tups 0 (rowsO x) = .ok ts → ∀ l p W' H', Gr NoM W H W' H' → W' l = some (.lst [.str "told", .ref p]) → Dp K W' (.ref p) (.list (ts.map pairD)) → Q (.ref l) H'
def sp_law_spoilt (K : PySem.W.Frag) : Sp := fun vs H Q _ => ∃ b x, ∃ n : Int, ∃ L : Nat, vs = [.ref b, .str x] ∧ Bx b n H ∧ n < 90000 ∧ Tame L x ∧ L ≤ 420 ∧ ∀ y H', Kp b H H' → Bx b (n + 20) H' → Tame (2 * L + 10) y → Q (.str y) H'
def sp_law_other_word (K : PySem.W.Frag) : Sp := fun vs H Q _ => ∃ b x, ∃ n : Int, ∃ L : Nat, vs = [.ref b, .str x] ∧ Bx b n H ∧ n < 90000 ∧ Tame L x ∧ L ≤ 420 ∧ ∀ y H', Kp b H H' → Bx b (n + 20) H' → Tame (2 * L + 10) y → Q (.str y) H'
def sp_law_due (K : PySem.W.Frag) : Sp := fun vs H Q _ => ∃ v d W, vs = [v] ∧ Same W H ∧ Rp K W v d ∧ (∀ x, d = .str x → Tame LIM x) ∧ RetP K NoM W H (dueD d) Q
def kinds : List Pr := [("NoText", "text"), ("NoRow", "row"), ("NoSteps", "steps"), ("NoPart", "part"), ("NoWay", "way"), ("Twice", "twice")]
def sp_law_kind (K : PySem.W.Frag) : SpS := fun cls d a vs H Q => ∃ e dd v W, vs = [.ref a] ∧ cls = .ref (He.ga K e.cl) ∧ (e.cl, e.kd) ∈ kinds ∧ d = some dd ∧ H dd = some (.xd [("found", v)]) ∧ W dd = none ∧ Same W H ∧ Rp K W v e.th ∧ RetP K NoM W H (refD e) Q
def sp_law_asked (K : PySem.W.Frag) : Sp := fun vs H Q _ => ∃ v d W, vs = [v] ∧ Same W H ∧ Rp K W v d ∧ (∀ x, d = .str x → Tame LIM x) ∧ RetP K NoM W H (dueD d) Q
def sp_law (K : PySem.W.Frag) : Sp := fun vs H Q _ => ∃ a, ∃ ns : List Int, vs = [.ref a] ∧ SqL K H a (ns.map V.int) ∧ ns.length ≤ 63 ∧ ∀ H', Q (.bl true) H'
end K67

set_option Elab.async false
set_option linter.all false
set_option maxRecDepth 100000
set_option maxHeartbeats 4000000
namespace U
open PySem PySem.Spec PyProof.Rows L2
abbrev uIsEd (K : PySem.W.Frag) (D a dd : Addr) : List V → Hp → VK → Prop := fun xs H Q => (∃ fs, H dd = some (.xd fs)) ∧ uIsE K D a xs H Q
theorem passL0 {X : Cx} : Passes (L2.CX X.prog X.w) X E0 := fun _ _ _ _ _ _ _ h => by
  obtain ⟨_, _, _, _, _, _, _, _, _, _, _, _, h⟩ := h
  exact h.elim
theorem pe_gcU {X : Cx} {x : Str} {pos : Pos} {v : V} (hg : Gl X x) (h : ∃ u, X.mg x = some u ∧ RelV v u) (hd : (x == ("__debug__" : Str)) = false := by decide) : PE X (.Name x pos) (tC v) := by
  obtain ⟨u, hm, r⟩ := h
  exact pe_glob hg hm r hd
theorem _root_.L2H.RoomH.units {k : Nat} {A : Around} (r : L2H.RoomH k A) : A.units + 64 < cLine := by
  have := r.un
  omega
end U
namespace K67
open PySem PySem.Spec PyProof.Rows L2 U
def ks_KEYS : List Str := ["letters words", "letters short", "number whole", "number figures", "points decimal", "points whole", "points late", "makers decimal", "makers whole", "makers few", "year rising", "year falling", "year late", "year figures", "copy rising", "copy falling", "copy figures"]
def glos : List Str := ["MarkError", "NoText", "Twice", "NoSteps", "NoStep", "NoPart", "NoWay", "NoRow", "split_rows", "whole_text", "words_in", "PARTS", "KEYS", "ways", "need_step", "Rule", "tuples_in", "rule_text", "read_rule", "_law_cell", "_law_box", "_law_take", "_law_ways", "_law_steps", "_law_steps_due", "_law_words_due", "_law_spoilt", "_law_other_word", "_law_due", "_law_kind", "_law_asked", "law"]
def frees : List Str := ["len", "isinstance", "str", "list", "tuple", "range", "enumerate", "max", "min", "repr"]
def intsL : List (Str × Int) := [("MOST", 6)]
structure Zz (P : Program) (w : World) (K : PySem.W.Frag) (mg : Str → Option Value) (base : Heap) : Prop where
  glo : ∀ x, glos.contains x = true → mg x = some (.ref (He.ga K x))
  fre : ∀ x, frees.contains x = true → mg x = none
  gints : ∀ x i, intsL.contains (x, i) = true → ∃ u, mg x = some u ∧ RelV (.int i) u
  tab_KEYS : KdC K (He.ga K "KEYS") ks_KEYS
  bas : BaseC K (He.ga K "MarkError")
  sys : SysD K
  nb : NoBook K
theorem sc_NoText_init : FnScope ["self", "found"] ["self", "found"] (defScope s_NoText_init) := ⟨rfl, rfl, rfl, by decide +kernel, rfl, by decide +kernel, by decide +kernel⟩
theorem dv_NoText_init {P : Program} {w : World} {K : PySem.W.Frag} {mg : Str → Option Value} {base : Heap} (Z : Zz P w K mg base) {f : Addr} {cdv : Value} {A : Around} {outer : List Env} {s : Shared} {H : Hp} {E : XK} :
    PSs (cxOf CX0 P w K mg base ["self", "found"] "NoText.__init__" (defScope s_NoText_init) f cdv A outer s H E).nox (defBody s_NoText_init) (t_exc K "no text" "found") :=
  pss_cons (ps_expr (pe_oinit rfl (Z.glo "MarkError" (by decide)) Z.bas (pa_cons (uv 0) (pa_cons pe_str pa_nil)))) (pss_one (ps_ost (uv 0) (uv 1)))
theorem sc_Twice_init : FnScope ["self", "found"] ["self", "found"] (defScope s_Twice_init) := ⟨rfl, rfl, rfl, by decide +kernel, rfl, by decide +kernel, by decide +kernel⟩
theorem dv_Twice_init {P : Program} {w : World} {K : PySem.W.Frag} {mg : Str → Option Value} {base : Heap} (Z : Zz P w K mg base) {f : Addr} {cdv : Value} {A : Around} {outer : List Env} {s : Shared} {H : Hp} {E : XK} :
    PSs (cxOf CX0 P w K mg base ["self", "found"] "Twice.__init__" (defScope s_Twice_init) f cdv A outer s H E).nox (defBody s_Twice_init) (t_exc K "there already" "found") :=
  pss_cons (ps_expr (pe_oinit rfl (Z.glo "MarkError" (by decide)) Z.bas (pa_cons (uv 0) (pa_cons pe_str pa_nil)))) (pss_one (ps_ost (uv 0) (uv 1)))
theorem sc_NoSteps_init : FnScope ["self", "found"] ["self", "found"] (defScope s_NoSteps_init) := ⟨rfl, rfl, rfl, by decide +kernel, rfl, by decide +kernel, by decide +kernel⟩
theorem dv_NoSteps_init {P : Program} {w : World} {K : PySem.W.Frag} {mg : Str → Option Value} {base : Heap} (Z : Zz P w K mg base) {f : Addr} {cdv : Value} {A : Around} {outer : List Env} {s : Shared} {H : Hp} {E : XK} :
    PSs (cxOf CX0 P w K mg base ["self", "found"] "NoSteps.__init__" (defScope s_NoSteps_init) f cdv A outer s H E).nox (defBody s_NoSteps_init) (t_exc K "no steps" "found") :=
  pss_cons (ps_expr (pe_oinit rfl (Z.glo "MarkError" (by decide)) Z.bas (pa_cons (uv 0) (pa_cons pe_str pa_nil)))) (pss_one (ps_ost (uv 0) (uv 1)))
theorem sc_NoStep_init : FnScope ["self", "found"] ["self", "found"] (defScope s_NoStep_init) := ⟨rfl, rfl, rfl, by decide +kernel, rfl, by decide +kernel, by decide +kernel⟩
theorem dv_NoStep_init {P : Program} {w : World} {K : PySem.W.Frag} {mg : Str → Option Value} {base : Heap} (Z : Zz P w K mg base) {f : Addr} {cdv : Value} {A : Around} {outer : List Env} {s : Shared} {H : Hp} {E : XK} :
    PSs (cxOf CX0 P w K mg base ["self", "found"] "NoStep.__init__" (defScope s_NoStep_init) f cdv A outer s H E).nox (defBody s_NoStep_init) (t_exc K "no step" "found") :=
  pss_cons (ps_expr (pe_oinit rfl (Z.glo "MarkError" (by decide)) Z.bas (pa_cons (uv 0) (pa_cons pe_str pa_nil)))) (pss_one (ps_ost (uv 0) (uv 1)))
theorem sc_NoPart_init : FnScope ["self", "found"] ["self", "found"] (defScope s_NoPart_init) := ⟨rfl, rfl, rfl, by decide +kernel, rfl, by decide +kernel, by decide +kernel⟩
theorem dv_NoPart_init {P : Program} {w : World} {K : PySem.W.Frag} {mg : Str → Option Value} {base : Heap} (Z : Zz P w K mg base) {f : Addr} {cdv : Value} {A : Around} {outer : List Env} {s : Shared} {H : Hp} {E : XK} :
    PSs (cxOf CX0 P w K mg base ["self", "found"] "NoPart.__init__" (defScope s_NoPart_init) f cdv A outer s H E).nox (defBody s_NoPart_init) (t_exc K "no part of a mark" "found") :=
  pss_cons (ps_expr (pe_oinit rfl (Z.glo "MarkError" (by decide)) Z.bas (pa_cons (uv 0) (pa_cons pe_str pa_nil)))) (pss_one (ps_ost (uv 0) (uv 1)))
theorem sc_NoWay_init : FnScope ["self", "found"] ["self", "found"] (defScope s_NoWay_init) := ⟨rfl, rfl, rfl, by decide +kernel, rfl, by decide +kernel, by decide +kernel⟩
theorem dv_NoWay_init {P : Program} {w : World} {K : PySem.W.Frag} {mg : Str → Option Value} {base : Heap} (Z : Zz P w K mg base) {f : Addr} {cdv : Value} {A : Around} {outer : List Env} {s : Shared} {H : Hp} {E : XK} :
    PSs (cxOf CX0 P w K mg base ["self", "found"] "NoWay.__init__" (defScope s_NoWay_init) f cdv A outer s H E).nox (defBody s_NoWay_init) (t_exc K "no way of ordering" "found") :=
  pss_cons (ps_expr (pe_oinit rfl (Z.glo "MarkError" (by decide)) Z.bas (pa_cons (uv 0) (pa_cons pe_str pa_nil)))) (pss_one (ps_ost (uv 0) (uv 1)))
theorem sc_NoRow_init : FnScope ["self", "found"] ["self", "found"] (defScope s_NoRow_init) := ⟨rfl, rfl, rfl, by decide +kernel, rfl, by decide +kernel, by decide +kernel⟩
theorem dv_NoRow_init {P : Program} {w : World} {K : PySem.W.Frag} {mg : Str → Option Value} {base : Heap} (Z : Zz P w K mg base) {f : Addr} {cdv : Value} {A : Around} {outer : List Env} {s : Shared} {H : Hp} {E : XK} :
    PSs (cxOf CX0 P w K mg base ["self", "found"] "NoRow.__init__" (defScope s_NoRow_init) f cdv A outer s H E).nox (defBody s_NoRow_init) (t_exc K "no such row" "found") :=
  pss_cons (ps_expr (pe_oinit rfl (Z.glo "MarkError" (by decide)) Z.bas (pa_cons (uv 0) (pa_cons pe_str pa_nil)))) (pss_one (ps_ost (uv 0) (uv 1)))
/-! def split_rows(text): -/
theorem sc_split_rows : FnScope ["text", "rows", "last"] ["text"] (defScope s_split_rows) := ⟨rfl, rfl, rfl, by decide +kernel, rfl, by decide +kernel, by decide +kernel⟩
def t_split_rows (K : PySem.W.Frag) (E : XK) : TS := (tSeq (tIfS (tNot (uTru K (tCB (rIsi K) (tCons (cV 0) (tCons (tC (.ty "str")) tNil))))) (uRaise K (He.ga K "NoText") "found" (cV 0) (fun cls d _ H => E cls d H)) tNext)
  (tSeq (tAsg (tBM K "str" uSplit (cV 0) (tCons (tC (.str ("\n" : Str))) tNil)) (gName 1))
  (tSeq (tAsg (tBM0 K "list" uPop (cV 1)) (gName 2))
  (tRet (tIf (tTest (tOp (uEq K) (cV 2) (tC (.str ("" : Str))))) (cV 1) (tOp uAdd (cV 1) (tLst (tCons (tC .non) tNil))))))))
theorem dv_split_rows {P : Program} {w : World} {K : PySem.W.Frag} {mg : Str → Option Value} {base : Heap} (Z : Zz P w K mg base) (D_X_NoText : Exd P w K mg base 1 "NoText" (He.ga K "NoText") "found") {f : Addr} {cdv : Value} {A : Around} {outer : List Env} {s : Shared} {H : Hp} {E : XK} (hr : Room 2 (A.deeper (envOfC "split_rows" (defScope s_split_rows) s.heap.objs.size f cdv))) :
    PSs (cxOf (L2.CX P w) P w K mg base ["text", "rows", "last"] "split_rows" (defScope s_split_rows) f cdv A outer s H E) (defBody s_split_rows) (t_split_rows K E) :=
  (pss_cons (ps_if (pt_not (pt_truth (pe_callB call_isi rfl (Z.fre "isinstance" (by decide)) (by decide +kernel) (pa_cons (uv 0) (pa_cons (pe_bltn (v := .ty "str") (by rfl) (Z.fre "str" (by decide)) (by decide +kernel) rfl) pa_nil))) (by intro _; rfl))) (pss_one (ps_raiseX D_X_NoText hr (by decide) rfl rfl (takes_of rfl rfl rfl rfl) (uv 0))) pss_nil)
    (pss_cons (ps_asg (pe_bm PySem.F.plainAttrs_str PySem.F.slot_str_split PySem.F.type_str_split mt_uSplit (uv 0) (pa_cons pe_str pa_nil)) (pg_name (i := 1) sc_split_rows.nd rfl (by first | exact Or.inl rfl | exact Or.inr rfl)))
    (pss_cons (ps_asg (pe_bm0 PySem.F.plainAttrs_list PySem.F.slot_list_pop PySem.F.type_list_pop mt_uPop (uv 1)) (pg_name (i := 2) sc_split_rows.nd rfl (by first | exact Or.inl rfl | exact Or.inr rfl)))
    (pss_one (ps_ret (pe_ifExp (pt_cmpR (op_uEq hr.units) (uv 2) pe_str (nomark _)) (uv 1) (pe_op op_uAdd (uv 1) (pe_lst (pa_cons pe_non pa_nil)))))))))
/-! def whole_text(rows): -/
theorem sc_whole_text : FnScope ["rows", "row"] ["rows"] (defScope s_whole_text) := ⟨rfl, rfl, rfl, by decide +kernel, rfl, by decide +kernel, by decide +kernel⟩
def t_whole_text (K : PySem.W.Frag) : TS := (tRet (tBM K "str" (uJoin K) (tC (.str ("" : Str))) (tCons (tLc (uIt K (cV 0)) (gName 1) tYes (tOp uAdd (cV 1) (tC (.str ("\n" : Str)))) [1]) tNil)))
theorem dv_whole_text {P : Program} {w : World} {K : PySem.W.Frag} {mg : Str → Option Value} {base : Heap} (Z : Zz P w K mg base)  {f : Addr} {cdv : Value} {A : Around} {outer : List Env} {s : Shared} {H : Hp} {E : XK} (hr : Room 0 (A.deeper (envOfC "whole_text" (defScope s_whole_text) s.heap.objs.size f cdv))) :
    PSs (cxOf CX0 P w K mg base ["rows", "row"] "whole_text" (defScope s_whole_text) f cdv A outer s H E).nox (defBody s_whole_text) (t_whole_text K) :=
  (pss_one (ps_ret (pe_bm PySem.F.plainAttrs_str PySem.F.slot_str_join PySem.F.type_str_join mt_uJoin pe_str (pa_cons (pe_lc (own := [("row", 1)]) rfl sc_whole_text.nd (pi_u (uv 0)) (blkOk_by (own := [("row", 1)]) (N := ["rows", "row"]) (sc := defScope s_whole_text) (by decide +kernel)) (fun _ _ _ _ _ => (pg_name (i := 1) sc_whole_text.nd rfl (by first | exact Or.inl rfl | exact Or.inr rfl))) (fun _ _ _ _ _ => pts_nil) (fun _ _ _ _ _ => (pe_op op_uAdd (uv 1) pe_str))) pa_nil))))
/-! def words_in(row, many): -/
theorem sc_words_in : FnScope ["row", "many", "words"] ["row", "many"] (defScope s_words_in) := ⟨rfl, rfl, rfl, by decide +kernel, rfl, by decide +kernel, by decide +kernel⟩
def t_words_in (K : PySem.W.Frag) : TS := (tSeq (tIfS (tTest (tOp uIs (cV 0) (tC .non))) (tRet (tC .non)) tNext)
  (tSeq (tAsg (tBM K "str" uSplit (cV 0) (tCons (tC (.str (" " : Str))) tNil)) (gName 2))
  (tRet (tIf (tAnd (tTest (tOp (uEq K) (tCB (uLen K) (tCons (cV 2) tNil)) (cV 1))) (tTest (tOp (uNin K) (tC (.str ("" : Str))) (cV 2)))) (cV 2) (tC .non)))))
theorem dv_words_in {P : Program} {w : World} {K : PySem.W.Frag} {mg : Str → Option Value} {base : Heap} (Z : Zz P w K mg base)  {f : Addr} {cdv : Value} {A : Around} {outer : List Env} {s : Shared} {H : Hp} {E : XK} (hr : Room 0 (A.deeper (envOfC "words_in" (defScope s_words_in) s.heap.objs.size f cdv))) :
    PSs (cxOf CX0 P w K mg base ["row", "many", "words"] "words_in" (defScope s_words_in) f cdv A outer s H E).nox (defBody s_words_in) (t_words_in K) :=
  (pss_cons (ps_if (pt_cmpR op_uIs (uv 0) pe_non (nomark _)) (pss_one (ps_ret pe_non)) pss_nil)
    (pss_cons (ps_asg (pe_bm PySem.F.plainAttrs_str PySem.F.slot_str_split PySem.F.type_str_split mt_uSplit (uv 0) (pa_cons pe_str pa_nil)) (pg_name (i := 2) sc_words_in.nd rfl (by first | exact Or.inl rfl | exact Or.inr rfl)))
    (pss_one (ps_ret (pe_ifExp (PW.pt (pw_and (pt_cmpR (op_uEq hr.units) (pe_callB call_uLen rfl (Z.fre "len" (by decide)) (by decide +kernel) (pa_cons (uv 2) pa_nil)) (uv 1) (nomark _)) (pw_and1 (pt_cmpR op_uNin pe_str (uv 2) rfl)))) (uv 2) pe_non)))))
/-! def ways(part): -/
theorem sc_ways : FnScope ["part", "row"] ["part"] (defScope s_ways) := ⟨rfl, rfl, rfl, by decide +kernel, rfl, by decide +kernel, by decide +kernel⟩
def t_ways (K : PySem.W.Frag) (E : XK) : TS := (tSeq (tIfS (tOr (tNot (uTru K (tCB (rIsi K) (tCons (cV 0) (tCons (tC (.ty "str")) tNil))))) (tTest (tOp (uNin K) (cV 0) (tC (.ref (He.ga K "PARTS")))))) (uRaise K (He.ga K "NoPart") "found" (cV 0) (fun cls d _ H => E cls d H)) tNext)
  (tRet (tLc (iKd ks_KEYS) (gName 1) (uTru K (tBM K "str" uStarts (cV 1) (tCons (tJoined [(tFmt (cV 0)), (tC (.str (" " : Str)))]) tNil))) (tSl (uSl K) (cV 1) (tPart (tOp uAdd (tCB (uLen K) (tCons (cV 0) tNil)) (tC (.int 1)))) tNoPart) [1])))
theorem dv_ways {P : Program} {w : World} {K : PySem.W.Frag} {mg : Str → Option Value} {base : Heap} (Z : Zz P w K mg base) (D_X_NoPart : Exd P w K mg base 1 "NoPart" (He.ga K "NoPart") "found") {f : Addr} {cdv : Value} {A : Around} {outer : List Env} {s : Shared} {H : Hp} {E : XK} (hr : Room 2 (A.deeper (envOfC "ways" (defScope s_ways) s.heap.objs.size f cdv))) :
    PSs (cxOf (L2.CX P w) P w K mg base ["part", "row"] "ways" (defScope s_ways) f cdv A outer s H E) (defBody s_ways) (t_ways K E) :=
  (pss_cons (ps_if (PW.pt (pw_or (pt_not (pt_truth (pe_callB call_isi rfl (Z.fre "isinstance" (by decide)) (by decide +kernel) (pa_cons (uv 0) (pa_cons (pe_bltn (v := .ty "str") (by rfl) (Z.fre "str" (by decide)) (by decide +kernel) rfl) pa_nil))) (by intro _; rfl))) (pw_or1 (pt_cmpR op_uNin (uv 0) (pe_glob (v := .ref (He.ga K "PARTS")) rfl (Z.glo "PARTS" (by decide)) rfl) rfl)))) (pss_one (ps_raiseX D_X_NoPart hr (by decide) rfl rfl (takes_of rfl rfl rfl rfl) (uv 0))) pss_nil)
    (pss_one (ps_ret (pe_lc (own := [("row", 1)]) rfl sc_ways.nd (pi_kd (Z.tab_KEYS) rfl (Z.glo "KEYS" (by decide))) (blkOk_by (own := [("row", 1)]) (N := ["part", "row"]) (sc := defScope s_ways) (by decide +kernel)) (fun _ _ _ _ _ => (pg_name (i := 1) sc_ways.nd rfl (by first | exact Or.inl rfl | exact Or.inr rfl))) (fun _ _ _ _ _ => (pts_one (pt_truth (pe_bm PySem.F.plainAttrs_str PySem.F.slot_str_startswith PySem.F.type_str_startswith mt_uStarts (uv 1) (pa_cons (pe_joined (PJ.cons (pe_fmt (uv 0)) (PJ.cons pe_str PJ.nil))) pa_nil)) (by intro _; rfl)))) (fun _ _ _ _ _ => (pe_slice sl_u (uv 1) (po_some (pe_op op_uAdd (pe_callB call_uLen rfl (Z.fre "len" (by decide)) (by decide +kernel) (pa_cons (uv 0) pa_nil)) pe_int)) po_none))))))
/-! def need_step(step, ahead): -/
theorem sc_need_step : FnScope ["step", "ahead", "part", "way", "row"] ["step", "ahead"] (defScope s_need_step) := ⟨rfl, rfl, rfl, by decide +kernel, rfl, by decide +kernel, by decide +kernel⟩
def t_need_step (K : PySem.W.Frag) (E : XK) : TS := (tSeq (tIfS (tOr (tNot (uTru K (tCB (rIsi K) (tCons (cV 0) (tCons (tC (.ty "tuple")) tNil))))) (tTest (tOp (uNe K) (tCB (uLen K) (tCons (cV 0) tNil)) (tC (.int 2))))) (uRaise K (He.ga K "NoStep") "found" (cV 0) (fun cls d _ H => E cls d H)) tNext)
  (tSeq (tAsg (cV 0) (gTup K 2 (gCons (gName 2) (gCons (gName 3) gNil))))
  (tSeq (tIfS (tTest (tOp (uNin K) (cV 3) (tCall (sp_ways K) [] E (tCons (cV 2) tNil)))) (uRaise K (He.ga K "NoWay") "found" (cV 3) (fun cls d _ H => E cls d H)) tNext)
  (tIfS (tTest (tOp (uIn K) (cV 2) (tLc (uIt K (cV 1)) (gName 4) tYes (tOp (uIx K) (cV 4) (tC (.int 0))) [4]))) (uRaise K (He.ga K "Twice") "found" (cV 2) (fun cls d _ H => E cls d H)) tNext))))
theorem dv_need_step {P : Program} {w : World} {K : PySem.W.Frag} {mg : Str → Option Value} {base : Heap} (Z : Zz P w K mg base) (D_X_NoStep : Exd P w K mg base 1 "NoStep" (He.ga K "NoStep") "found") (D_ways : Dk P w K mg base (L2.CX P w) 3 "ways" [] (sp_ways K)) (D_X_NoWay : Exd P w K mg base 1 "NoWay" (He.ga K "NoWay") "found") (D_X_Twice : Exd P w K mg base 1 "Twice" (He.ga K "Twice") "found") {f : Addr} {cdv : Value} {A : Around} {outer : List Env} {s : Shared} {H : Hp} {E : XK} (hr : Room 3 (A.deeper (envOfC "need_step" (defScope s_need_step) s.heap.objs.size f cdv))) :
    PSs (cxOf (L2.CX P w) P w K mg base ["step", "ahead", "part", "way", "row"] "need_step" (defScope s_need_step) f cdv A outer s H E) (defBody s_need_step) (t_need_step K E) :=
  (pss_cons (ps_if (PW.pt (pw_or (pt_not (pt_truth (pe_callB call_isi rfl (Z.fre "isinstance" (by decide)) (by decide +kernel) (pa_cons (uv 0) (pa_cons (pe_bltn (v := .ty "tuple") (by rfl) (Z.fre "tuple" (by decide)) (by decide +kernel) rfl) pa_nil))) (by intro _; rfl))) (pw_or1 (pt_cmpR (op_uNe hr.units) (pe_callB call_uLen rfl (Z.fre "len" (by decide)) (by decide +kernel) (pa_cons (uv 0) pa_nil)) pe_int (nomark _))))) (pss_one (ps_raiseX D_X_NoStep hr (by decide) rfl rfl (takes_of rfl rfl rfl rfl) (uv 0))) pss_nil)
    (pss_cons (ps_asg (uv 0) (pg_tup rfl (pgs_cons (pg_name (i := 2) sc_need_step.nd rfl (by first | exact Or.inl rfl | exact Or.inr rfl)) (pgs_cons (pg_name (i := 3) sc_need_step.nd rfl (by first | exact Or.inl rfl | exact Or.inr rfl)) pgs_nil))))
    (pss_cons (ps_if (pt_cmpR op_uNin (uv 3) (pe_d D_ways hr (by decide) rfl (passes_call (takes_of rfl rfl rfl rfl) fun _ _ _ _ h => h) (pa_cons (uv 2) pa_nil)) rfl) (pss_one (ps_raiseX D_X_NoWay hr (by decide) rfl rfl (takes_of rfl rfl rfl rfl) (uv 3))) pss_nil)
    (pss_one (ps_if (pt_cmpR op_uIn (uv 2) (pe_lc (own := [("row", 4)]) rfl sc_need_step.nd (pi_u (uv 1)) (blkOk_by (own := [("row", 4)]) (N := ["step", "ahead", "part", "way", "row"]) (sc := defScope s_need_step) (by decide +kernel)) (fun _ _ _ _ _ => (pg_name (i := 4) sc_need_step.nd rfl (by first | exact Or.inl rfl | exact Or.inr rfl))) (fun _ _ _ _ _ => pts_nil) (fun _ _ _ _ _ => (pe_ix ix_u (uv 4) pe_int (fun _ _ => rfl)))) rfl) (pss_one (ps_raiseX D_X_Twice hr (by decide) rfl rfl (takes_of rfl rfl rfl rfl) (uv 2))) pss_nil)))))
/-! def __init__(self, steps): -/
theorem sc_Rule_init : FnScope ["self", "steps", "found", "step"] ["self", "steps"] (defScope s_Rule_init) := ⟨rfl, rfl, rfl, by decide +kernel, rfl, by decide +kernel, by decide +kernel⟩
def t_Rule_init (K : PySem.W.Frag) (E : XK) : TS := (tSeq (tIfS (tOr (tNot (uTru K (tCB (rIsiT K) (tCons (cV 1) (tCons (tTup (tCons (tC (.ty "list")) (tCons (tC (.ty "tuple")) tNil))) tNil))))) (tNot (tTest (tChain uLe uLe (tC (.int 1)) (tCB (uLen K) (tCons (cV 1) tNil)) (tC (.int 6)))))) (uRaise K (He.ga K "NoSteps") "found" (cV 1) (fun cls d _ H => E cls d H)) tNext)
  (tSeq (tAsg (tLst tNil) (gName 2))
  (tSeq (tFor (uIt K (cV 1)) (gName 3) (tSeq (tDrop (tCall (sp_need_step K) [] E (tCons (cV 3) (tCons (cV 2) tNil))))
  (tDrop (tBM K "list" uAppend (cV 2) (tCons (cV 3) tNil)))))
  (sFld K (cV 0) (cV 2) "kept_steps"))))
theorem dv_Rule_init {P : Program} {w : World} {K : PySem.W.Frag} {mg : Str → Option Value} {base : Heap} (Z : Zz P w K mg base) (D_X_NoSteps : Exd P w K mg base 1 "NoSteps" (He.ga K "NoSteps") "found") (D_need_step : Dk P w K mg base (L2.CX P w) 4 "need_step" [] (sp_need_step K)) {f : Addr} {cdv : Value} {A : Around} {outer : List Env} {s : Shared} {H : Hp} {E : XK} (hr : Room 4 (A.deeper (envOfC "Rule.__init__" (defScope s_Rule_init) s.heap.objs.size f cdv))) :
    PSs (cxOf (L2.CX P w) P w K mg base ["self", "steps", "found", "step"] "Rule.__init__" (defScope s_Rule_init) f cdv A outer s H E) (defBody s_Rule_init) (t_Rule_init K E) :=
  (pss_cons (ps_if (PW.pt (pw_or (pt_not (pt_truth (pe_callB call_isiT rfl (Z.fre "isinstance" (by decide)) (by decide +kernel) (pa_cons (uv 1) (pa_cons (pe_tup (pa_cons (pe_bltn (v := .ty "list") (by rfl) (Z.fre "list" (by decide)) (by decide +kernel) rfl) (pa_cons (pe_bltn (v := .ty "tuple") (by rfl) (Z.fre "tuple" (by decide)) (by decide +kernel) rfl) pa_nil))) pa_nil))) (by intro _; rfl))) (pw_or1 (pt_not (pt_chain op_uLe op_uLe pe_int (pe_callB call_uLen rfl (Z.fre "len" (by decide)) (by decide +kernel) (pa_cons (uv 1) pa_nil)) (pe_gcU (v := .int 6) rfl (Z.gints "MOST" 6 (by decide)))))))) (pss_one (ps_raiseX D_X_NoSteps hr (by decide) rfl rfl (takes_of rfl rfl rfl rfl) (uv 1))) pss_nil)
    (pss_cons (ps_asg (pe_lst pa_nil) (pg_name (i := 2) sc_Rule_init.nd rfl (by first | exact Or.inl rfl | exact Or.inr rfl)))
    (pss_cons (ps_for (passes_of rfl) rfl (pi_u (uv 1)) (pg_name (i := 3) sc_Rule_init.nd rfl (by first | exact Or.inl rfl | exact Or.inr rfl)) (pss_cons (ps_expr (pe_d D_need_step hr (by decide) rfl (passes_call (takes_of rfl rfl rfl rfl) fun _ _ _ _ h => h) (pa_cons (uv 3) (pa_cons (uv 2) pa_nil))))
    (pss_one (ps_expr (pe_bm PySem.F.plainAttrs_list PySem.F.slot_list_append PySem.F.type_list_append mt_uAppend (uv 2) (pa_cons (uv 3) pa_nil))))))
    (pss_one (ps_fld (uv 0) (uv 2) rfl)))))
/-! def steps(self): -/
theorem sc_Rule_steps : FnScope ["self"] ["self"] (defScope s_Rule_steps) := ⟨rfl, rfl, rfl, by decide +kernel, rfl, by decide +kernel, by decide +kernel⟩
def t_Rule_steps (K : PySem.W.Frag) : TS := (tRet (tCB (uList K) (tCons (tFld K (cV 0) "kept_steps") tNil)))
theorem dv_Rule_steps {P : Program} {w : World} {K : PySem.W.Frag} {mg : Str → Option Value} {base : Heap} (Z : Zz P w K mg base)  {f : Addr} {cdv : Value} {A : Around} {outer : List Env} {s : Shared} {H : Hp} {E : XK} (hr : Room 0 (A.deeper (envOfC "Rule.steps" (defScope s_Rule_steps) s.heap.objs.size f cdv))) :
    PSs (cxOf CX0 P w K mg base ["self"] "Rule.steps" (defScope s_Rule_steps) f cdv A outer s H E).nox (defBody s_Rule_steps) (t_Rule_steps K) :=
  (pss_one (ps_ret (pe_callTy call_list_of rfl (Z.fre "list" (by decide)) (by decide +kernel) (pa_cons (pe_fld (uv 0) rfl) pa_nil))))
/-! def tuples_in(text, many): -/
theorem sc_tuples_in : FnScope ["text", "many", "found", "number", "row", "words"] ["text", "many"] (defScope s_tuples_in) := ⟨rfl, rfl, rfl, by decide +kernel, rfl, by decide +kernel, by decide +kernel⟩
def t_tuples_in (K : PySem.W.Frag) (E : XK) : TS := (tSeq (tAsg (tLst tNil) (gName 2))
  (tSeq (tFor (iEnum K (tCons (tCall (sp_split_rows K) [] E (tCons (cV 0) tNil)) tNil)) (gTup K 2 (gCons (gName 3) (gCons (gName 4) gNil))) (tSeq (tAsg (tCall (sp_words_in K) [] E0 (tCons (cV 4) (tCons (cV 1) tNil))) (gName 5))
  (tSeq (tIfS (tTest (tOp uIs (cV 5) (tC .non))) (uRaise K (He.ga K "NoRow") "found" (cV 3) (fun cls d _ H => E cls d H)) tNext)
  (tDrop (tBM K "list" uAppend (cV 2) (tCons (tCB (uTuple K) (tCons (cV 5) tNil)) tNil))))))
  (tRet (cV 2))))
theorem dv_tuples_in {P : Program} {w : World} {K : PySem.W.Frag} {mg : Str → Option Value} {base : Heap} (Z : Zz P w K mg base) (D_split_rows : Dk P w K mg base (L2.CX P w) 3 "split_rows" [] (sp_split_rows K)) (D_words_in : Dk P w K mg base CX0 1 "words_in" [] (sp_words_in K)) (D_X_NoRow : Exd P w K mg base 1 "NoRow" (He.ga K "NoRow") "found") {f : Addr} {cdv : Value} {A : Around} {outer : List Env} {s : Shared} {H : Hp} {E : XK} (hr : Room 3 (A.deeper (envOfC "tuples_in" (defScope s_tuples_in) s.heap.objs.size f cdv))) :
    PSs (cxOf (L2.CX P w) P w K mg base ["text", "many", "found", "number", "row", "words"] "tuples_in" (defScope s_tuples_in) f cdv A outer s H E) (defBody s_tuples_in) (t_tuples_in K E) :=
  (pss_cons (ps_asg (pe_lst pa_nil) (pg_name (i := 2) sc_tuples_in.nd rfl (by first | exact Or.inl rfl | exact Or.inr rfl)))
    (pss_cons (ps_for (passes_of rfl) rfl (pi_enum (by rfl) (Z.fre "enumerate" (by decide)) (pa_cons (pe_d D_split_rows hr (by decide) rfl (passes_call (takes_of rfl rfl rfl rfl) fun _ _ _ _ h => h) (pa_cons (uv 0) pa_nil)) pa_nil)) (pg_tup rfl (pgs_cons (pg_name (i := 3) sc_tuples_in.nd rfl (by first | exact Or.inl rfl | exact Or.inr rfl)) (pgs_cons (pg_name (i := 4) sc_tuples_in.nd rfl (by first | exact Or.inl rfl | exact Or.inr rfl)) pgs_nil))) (pss_cons (ps_asg (pe_d D_words_in hr (by decide) rfl pass0 (pa_cons (uv 4) (pa_cons (uv 1) pa_nil))) (pg_name (i := 5) sc_tuples_in.nd rfl (by first | exact Or.inl rfl | exact Or.inr rfl)))
    (pss_cons (ps_if (pt_cmpR op_uIs (uv 5) pe_non (nomark _)) (pss_one (ps_raiseX D_X_NoRow hr (by decide) rfl rfl (takes_of rfl rfl rfl rfl) (uv 3))) pss_nil)
    (pss_one (ps_expr (pe_bm PySem.F.plainAttrs_list PySem.F.slot_list_append PySem.F.type_list_append mt_uAppend (uv 2) (pa_cons (pe_callTy call_tuple_of rfl (Z.fre "tuple" (by decide)) (by decide +kernel) (pa_cons (uv 5) pa_nil)) pa_nil)))))))
    (pss_one (ps_ret (uv 2)))))
/-! def rule_text(rule): -/
theorem sc_rule_text : FnScope ["rule", "step"] ["rule"] (defScope s_rule_text) := ⟨rfl, rfl, rfl, by decide +kernel, rfl, by decide +kernel, by decide +kernel⟩
def t_rule_text (K : PySem.W.Frag) : TS := (tRet (tCall (sp_whole_text K) [] E0 (tCons (tLc (uIt K (tMeth (He.ga K "Rule") "steps" (sp_Rule_steps K) [] E0 (cV 0) tNil)) (gName 1) tYes (tBM K "str" (uJoin K) (tC (.str (" " : Str))) (tCons (cV 1) tNil)) [1]) tNil)))
theorem dv_rule_text {P : Program} {w : World} {K : PySem.W.Frag} {mg : Str → Option Value} {base : Heap} (Z : Zz P w K mg base) (D_Rule_steps : Mtd P w K mg base CX0 1 (He.ga K "Rule") "steps" [] (sp_Rule_steps K)) (D_whole_text : Dk P w K mg base CX0 1 "whole_text" [] (sp_whole_text K)) {f : Addr} {cdv : Value} {A : Around} {outer : List Env} {s : Shared} {H : Hp} {E : XK} (hr : Room 1 (A.deeper (envOfC "rule_text" (defScope s_rule_text) s.heap.objs.size f cdv))) :
    PSs (cxOf CX0 P w K mg base ["rule", "step"] "rule_text" (defScope s_rule_text) f cdv A outer s H E).nox (defBody s_rule_text) (t_rule_text K) :=
  (pss_one (ps_ret (pe_d D_whole_text hr (by decide) rfl pass0 (pa_cons (pe_lc (own := [("step", 1)]) rfl sc_rule_text.nd (pi_u (pe_mtd0 (uv 0) D_Rule_steps hr (by decide) pass0)) (blkOk_by (own := [("step", 1)]) (N := ["rule", "step"]) (sc := defScope s_rule_text) (by decide +kernel)) (fun _ _ _ _ _ => (pg_name (i := 1) sc_rule_text.nd rfl (by first | exact Or.inl rfl | exact Or.inr rfl))) (fun _ _ _ _ _ => pts_nil) (fun _ _ _ _ _ => (pe_bm PySem.F.plainAttrs_str PySem.F.slot_str_join PySem.F.type_str_join mt_uJoin pe_str (pa_cons (uv 1) pa_nil)))) pa_nil))))
/-! def read_rule(text): -/
theorem sc_read_rule : FnScope ["text"] ["text"] (defScope s_read_rule) := ⟨rfl, rfl, rfl, by decide +kernel, rfl, by decide +kernel, by decide +kernel⟩
def t_read_rule (K : PySem.W.Frag) (E : XK) : TS := (tRet (tMake (He.ga K "Rule") (sp_Rule_init K) [] E (tCons (tCall (sp_tuples_in K) [] E (tCons (cV 0) (tCons (tC (.int 2)) tNil))) tNil)))
theorem dv_read_rule {P : Program} {w : World} {K : PySem.W.Frag} {mg : Str → Option Value} {base : Heap} (Z : Zz P w K mg base) (D_tuples_in : Dk P w K mg base (L2.CX P w) 4 "tuples_in" [] (sp_tuples_in K)) (D_Rule_init : Mkd P w K mg base (L2.CX P w) 5 "Rule" (He.ga K "Rule") [] (sp_Rule_init K)) {f : Addr} {cdv : Value} {A : Around} {outer : List Env} {s : Shared} {H : Hp} {E : XK} (hr : Room 6 (A.deeper (envOfC "read_rule" (defScope s_read_rule) s.heap.objs.size f cdv))) :
    PSs (cxOf (L2.CX P w) P w K mg base ["text"] "read_rule" (defScope s_read_rule) f cdv A outer s H E) (defBody s_read_rule) (t_read_rule K E) :=
  (pss_one (ps_ret (pe_mkd D_Rule_init hr (by decide) rfl (passes_call (takes_of rfl rfl rfl rfl) fun _ _ _ _ h => h) (pa_cons (pe_d D_tuples_in hr (by decide) rfl (passes_call (takes_of rfl rfl rfl rfl) fun _ _ _ _ h => h) (pa_cons (uv 0) (pa_cons pe_int pa_nil))) pa_nil))))
/-! def _law_cell(_law_script, _law_k): -/
theorem sc_law_cell : FnScope ["_law_script", "_law_k"] ["_law_script", "_law_k"] (defScope s_law_cell) := ⟨rfl, rfl, rfl, by decide +kernel, rfl, by decide +kernel, by decide +kernel⟩
def t_law_cell (K : PySem.W.Frag) : TS := (tSeq (tIfS (tTest (tOp uLt (cV 1) (tCB (uLen K) (tCons (cV 0) tNil)))) (tRet (tOp (uIx K) (cV 0) (cV 1))) tNext)
  (tRet (tOp uAdd (tOp uMul (tC (.int 160481183)) (cV 1)) (tC (.int 61)))))
theorem dv_law_cell {P : Program} {w : World} {K : PySem.W.Frag} {mg : Str → Option Value} {base : Heap} (Z : Zz P w K mg base)  {f : Addr} {cdv : Value} {A : Around} {outer : List Env} {s : Shared} {H : Hp} {E : XK} (hr : Room 0 (A.deeper (envOfC "_law_cell" (defScope s_law_cell) s.heap.objs.size f cdv))) :
    PSs (cxOf CX0 P w K mg base ["_law_script", "_law_k"] "_law_cell" (defScope s_law_cell) f cdv A outer s H E).nox (defBody s_law_cell) (t_law_cell K) :=
  (pss_cons (ps_if (pt_cmpR op_uLt (uv 1) (pe_callB call_uLen rfl (Z.fre "len" (by decide)) (by decide +kernel) (pa_cons (uv 0) pa_nil)) (nomark _)) (pss_one (ps_ret (pe_ix ix_u (uv 0) (uv 1) (fun _ _ => rfl)))) pss_nil)
    (pss_one (ps_ret (pe_op op_uAdd (pe_op op_uMul pe_int (uv 1)) pe_int))))
/-! def _law_box(_law_cell_here): -/
theorem sc_law_box : FnScope ["_law_cell_here"] ["_law_cell_here"] (defScope s_law_box) := ⟨rfl, rfl, rfl, by decide +kernel, rfl, by decide +kernel, by decide +kernel⟩
def t_law_box (K : PySem.W.Frag) : TS := (tRet (tLst (tCons (tCB uMax2 (tCons (tC (.int 0)) (tCons (tOp uSub (cV 0) (tOp uPow (tC (.int 10)) (tC (.int 18)))) tNil))) (tCons (tOp uMod (cV 0) (tC (.int 2147483629))) (tCons (tOp uMod (cV 0) (tC (.int 2147483587))) (tCons (tC (.int 0)) tNil))))))
theorem dv_law_box {P : Program} {w : World} {K : PySem.W.Frag} {mg : Str → Option Value} {base : Heap} (Z : Zz P w K mg base)  {f : Addr} {cdv : Value} {A : Around} {outer : List Env} {s : Shared} {H : Hp} {E : XK} (hr : Room 0 (A.deeper (envOfC "_law_box" (defScope s_law_box) s.heap.objs.size f cdv))) :
    PSs (cxOf CX0 P w K mg base ["_law_cell_here"] "_law_box" (defScope s_law_box) f cdv A outer s H E).nox (defBody s_law_box) (t_law_box K) :=
  (pss_one (ps_ret (pe_lst (pa_cons (pe_callB (call_uMax2 rfl) rfl (Z.fre "max" (by decide)) (by decide +kernel) (pa_cons pe_int (pa_cons (pe_op op_uSub (uv 0) (pe_op op_uPow pe_int pe_int)) pa_nil))) (pa_cons (pe_op op_uMod (uv 0) pe_int) (pa_cons (pe_op op_uMod (uv 0) pe_int) (pa_cons pe_int pa_nil)))))))
/-! def _law_take(_law_box_here, _law_many): -/
theorem sc_law_take : FnScope ["_law_box_here", "_law_many", "_law_digit", "_law_turn", "_law_number"] ["_law_box_here", "_law_many"] (defScope s_law_take) := ⟨rfl, rfl, rfl, by decide +kernel, rfl, by decide +kernel, by decide +kernel⟩
def t_law_take (K : PySem.W.Frag) : TS := (tSeq (tIfS (tTest (tOp uGt (tOp (uIx K) (cV 0) (tC (.int 0))) (tC (.int 0)))) (tSeq (tAsg (tOp uMod (tOp (uIx K) (cV 0) (tC (.int 0))) (cV 1)) (gName 2))
  (tSeq (tAsg (tOp uFdv (tOp (uIx K) (cV 0) (tC (.int 0))) (cV 1)) (gSub (cV 0) (tC (.int 0)) rSetL))
  (tRet (cV 2)))) tNext)
  (tSeq (tAsg (tOp uAdd (tOp (uIx K) (cV 0) (tC (.int 3))) (tC (.int 1))) (gSub (cV 0) (tC (.int 3)) rSetL))
  (tSeq (tAsg (tOp (uIx K) (cV 0) (tC (.int 3))) (gName 3))
  (tSeq (tAsg (tOp uMod (tOp uPow (tOp uAdd (tOp uAdd (tOp uMul (tOp (uIx K) (cV 0) (tC (.int 1))) (tOp uAdd (tOp uMul (tC (.int 2)) (cV 3)) (tC (.int 3)))) (tOp uMul (tOp uMul (tC (.int 3571)) (cV 3)) (cV 3))) (tC (.int 7))) (tC (.int 5))) (tC (.int 2147483647))) (gName 4))
  (tRet (tOp uMod (tOp uFdv (tOp uMod (tOp uPow (tOp uAdd (tOp uAdd (cV 4) (tOp uMul (tOp (uIx K) (cV 0) (tC (.int 2))) (cV 3))) (tC (.int 31))) (tC (.int 3))) (tC (.int 2147483579))) (tC (.int 16))) (cV 1)))))))
theorem dv_law_take {P : Program} {w : World} {K : PySem.W.Frag} {mg : Str → Option Value} {base : Heap} (Z : Zz P w K mg base)  {f : Addr} {cdv : Value} {A : Around} {outer : List Env} {s : Shared} {H : Hp} {E : XK} (hr : Room 0 (A.deeper (envOfC "_law_take" (defScope s_law_take) s.heap.objs.size f cdv))) :
    PSs (cxOf CX0 P w K mg base ["_law_box_here", "_law_many", "_law_digit", "_law_turn", "_law_number"] "_law_take" (defScope s_law_take) f cdv A outer s H E).nox (defBody s_law_take) (t_law_take K) :=
  (pss_cons (ps_if (pt_cmpR op_uGt (pe_ix ix_u (uv 0) pe_int (fun _ _ => rfl)) pe_int (nomark _)) (pss_cons (ps_asg (pe_op op_uMod (pe_ix ix_u (uv 0) pe_int (fun _ _ => rfl)) (uv 1)) (pg_name (i := 2) sc_law_take.nd rfl (by first | exact Or.inl rfl | exact Or.inr rfl)))
    (pss_cons (ps_asg (pe_op op_uFdv (pe_ix ix_u (uv 0) pe_int (fun _ _ => rfl)) (uv 1)) (pg_sub (uv 0) pe_int set_list))
    (pss_one (ps_ret (uv 2))))) pss_nil)
    (pss_cons (ps_asg (pe_op op_uAdd (pe_ix ix_u (uv 0) pe_int (fun _ _ => rfl)) pe_int) (pg_sub (uv 0) pe_int set_list))
    (pss_cons (ps_asg (pe_ix ix_u (uv 0) pe_int (fun _ _ => rfl)) (pg_name (i := 3) sc_law_take.nd rfl (by first | exact Or.inl rfl | exact Or.inr rfl)))
    (pss_cons (ps_asg (pe_op op_uMod (pe_op op_uPow (pe_op op_uAdd (pe_op op_uAdd (pe_op op_uMul (pe_ix ix_u (uv 0) pe_int (fun _ _ => rfl)) (pe_op op_uAdd (pe_op op_uMul pe_int (uv 3)) pe_int)) (pe_op op_uMul (pe_op op_uMul pe_int (uv 3)) (uv 3))) pe_int) pe_int) pe_int) (pg_name (i := 4) sc_law_take.nd rfl (by first | exact Or.inl rfl | exact Or.inr rfl)))
    (pss_one (ps_ret (pe_op op_uMod (pe_op op_uFdv (pe_op op_uMod (pe_op op_uPow (pe_op op_uAdd (pe_op op_uAdd (uv 4) (pe_op op_uMul (pe_ix ix_u (uv 0) pe_int (fun _ _ => rfl)) (uv 3))) pe_int) pe_int) pe_int) pe_int) (uv 1))))))))
/-! def _law_ways(_law_part): -/
theorem sc_law_ways : FnScope ["_law_part", "_law_table"] ["_law_part"] (defScope s_law_ways) := ⟨rfl, rfl, rfl, by decide +kernel, rfl, by decide +kernel, by decide +kernel⟩
def t_law_ways (K : PySem.W.Frag) : TS := (tSeq (tAsg (tDisp [((tC (.str ("letters" : Str))), (tLst (tCons (tC (.str ("words" : Str))) (tCons (tC (.str ("short" : Str))) tNil)))), ((tC (.str ("number" : Str))), (tLst (tCons (tC (.str ("whole" : Str))) (tCons (tC (.str ("figures" : Str))) tNil)))), ((tC (.str ("points" : Str))), (tLst (tCons (tC (.str ("decimal" : Str))) (tCons (tC (.str ("whole" : Str))) (tCons (tC (.str ("late" : Str))) tNil)))))]) (gName 1))
  (tSeq (sDPut (cV 1) (tC (.str ("makers" : Str))) (tLst (tCons (tC (.str ("decimal" : Str))) (tCons (tC (.str ("whole" : Str))) (tCons (tC (.str ("few" : Str))) tNil)))))
  (tSeq (sDPut (cV 1) (tC (.str ("year" : Str))) (tLst (tCons (tC (.str ("rising" : Str))) (tCons (tC (.str ("falling" : Str))) (tCons (tC (.str ("late" : Str))) (tCons (tC (.str ("figures" : Str))) tNil))))))
  (tSeq (sDPut (cV 1) (tC (.str ("copy" : Str))) (tLst (tCons (tC (.str ("rising" : Str))) (tCons (tC (.str ("falling" : Str))) (tCons (tC (.str ("figures" : Str))) tNil)))))
  (tRet (tDGet2 (cV 1) (cV 0) (tLst tNil)))))))
theorem dv_law_ways {P : Program} {w : World} {K : PySem.W.Frag} {mg : Str → Option Value} {base : Heap} (Z : Zz P w K mg base)  {f : Addr} {cdv : Value} {A : Around} {outer : List Env} {s : Shared} {H : Hp} {E : XK} (hr : Room 0 (A.deeper (envOfC "_law_ways" (defScope s_law_ways) s.heap.objs.size f cdv))) :
    PSs (cxOf CX0 P w K mg base ["_law_part", "_law_table"] "_law_ways" (defScope s_law_ways) f cdv A outer s H E).nox (defBody s_law_ways) (t_law_ways K) :=
  (pss_cons (ps_asg (pe_disp (pps_cons pe_str (pe_lst (pa_cons pe_str (pa_cons pe_str pa_nil))) (pps_cons pe_str (pe_lst (pa_cons pe_str (pa_cons pe_str pa_nil))) (pps_cons pe_str (pe_lst (pa_cons pe_str (pa_cons pe_str (pa_cons pe_str pa_nil)))) pps_nil))) (by rfl) (by rfl) (fun z => by cases z) (by decide)) (pg_name (i := 1) sc_law_ways.nd rfl (by first | exact Or.inl rfl | exact Or.inr rfl)))
    (pss_cons (ps_dput (hu_of hr) (uv 1) pe_str (pe_lst (pa_cons pe_str (pa_cons pe_str (pa_cons pe_str pa_nil)))) rfl)
    (pss_cons (ps_dput (hu_of hr) (uv 1) pe_str (pe_lst (pa_cons pe_str (pa_cons pe_str (pa_cons pe_str (pa_cons pe_str pa_nil))))) rfl)
    (pss_cons (ps_dput (hu_of hr) (uv 1) pe_str (pe_lst (pa_cons pe_str (pa_cons pe_str (pa_cons pe_str pa_nil)))) rfl)
    (pss_one (ps_ret (pe_dget2 (hu_of hr) (uv 1) (uv 0) (pe_lst pa_nil) ⟨rfl, rfl, rfl, rfl⟩)))))))
/-! def _law_steps(_law_box_here): -/
theorem sc_law_steps : FnScope ["_law_box_here", "_law_left", "_law_found", "_law_turn", "_law_part", "_law_some"] ["_law_box_here"] (defScope s_law_steps) := ⟨rfl, rfl, rfl, by decide +kernel, rfl, by decide +kernel, by decide +kernel⟩
def t_law_steps (K : PySem.W.Frag) : TS := (tSeq (tAsg (tLst (tCons (tC (.str ("letters" : Str))) (tCons (tC (.str ("number" : Str))) (tCons (tC (.str ("points" : Str))) (tCons (tC (.str ("makers" : Str))) (tCons (tC (.str ("year" : Str))) (tCons (tC (.str ("copy" : Str))) tNil))))))) (gName 1))
  (tSeq (tAsg (tLst tNil) (gName 2))
  (tSeq (tFor (iRng1 (tCons (tOp uAdd (tC (.int 1)) (tCall (sp_law_take K) [] E0 (tCons (cV 0) (tCons (tC (.int 6)) tNil)))) tNil)) (gName 3) (tSeq (tAsg (tBM K "list" uPopAt (cV 1) (tCons (tCall (sp_law_take K) [] E0 (tCons (cV 0) (tCons (tCB (uLen K) (tCons (cV 1) tNil)) tNil))) tNil)) (gName 4))
  (tSeq (tAsg (tCall (sp_law_ways K) [] E0 (tCons (cV 4) tNil)) (gName 5))
  (tDrop (tBM K "list" uAppend (cV 2) (tCons (tTup (tCons (cV 4) (tCons (tOp (uIx K) (cV 5) (tCall (sp_law_take K) [] E0 (tCons (cV 0) (tCons (tCB (uLen K) (tCons (cV 5) tNil)) tNil)))) tNil))) tNil))))))
  (tRet (cV 2)))))
theorem dv_law_steps {P : Program} {w : World} {K : PySem.W.Frag} {mg : Str → Option Value} {base : Heap} (Z : Zz P w K mg base) (D_law_take : Dk P w K mg base CX0 1 "_law_take" [] (sp_law_take K)) (D_law_ways : Dk P w K mg base CX0 1 "_law_ways" [] (sp_law_ways K)) {f : Addr} {cdv : Value} {A : Around} {outer : List Env} {s : Shared} {H : Hp} {E : XK} (hr : Room 1 (A.deeper (envOfC "_law_steps" (defScope s_law_steps) s.heap.objs.size f cdv))) :
    PSs (cxOf CX0 P w K mg base ["_law_box_here", "_law_left", "_law_found", "_law_turn", "_law_part", "_law_some"] "_law_steps" (defScope s_law_steps) f cdv A outer s H E).nox (defBody s_law_steps) (t_law_steps K) :=
  (pss_cons (ps_asg (pe_lst (pa_cons pe_str (pa_cons pe_str (pa_cons pe_str (pa_cons pe_str (pa_cons pe_str (pa_cons pe_str pa_nil))))))) (pg_name (i := 1) sc_law_steps.nd rfl (by first | exact Or.inl rfl | exact Or.inr rfl)))
    (pss_cons (ps_asg (pe_lst pa_nil) (pg_name (i := 2) sc_law_steps.nd rfl (by first | exact Or.inl rfl | exact Or.inr rfl)))
    (pss_cons (ps_for PassesOwn.never rfl (pi_range1 (by rfl) (Z.fre "range" (by decide)) (pa_cons (pe_op op_uAdd pe_int (pe_d D_law_take hr (by decide) rfl pass0 (pa_cons (uv 0) (pa_cons pe_int pa_nil)))) pa_nil)) (pg_name (i := 3) sc_law_steps.nd rfl (by first | exact Or.inl rfl | exact Or.inr rfl)) (pss_cons (ps_asg (pe_bm PySem.F.plainAttrs_list PySem.F.slot_list_pop PySem.F.type_list_pop mt_uPopAt (uv 1) (pa_cons (pe_d D_law_take hr (by decide) rfl pass0 (pa_cons (uv 0) (pa_cons (pe_callB call_uLen rfl (Z.fre "len" (by decide)) (by decide +kernel) (pa_cons (uv 1) pa_nil)) pa_nil))) pa_nil)) (pg_name (i := 4) sc_law_steps.nd rfl (by first | exact Or.inl rfl | exact Or.inr rfl)))
    (pss_cons (ps_asg (pe_d D_law_ways hr (by decide) rfl pass0 (pa_cons (uv 4) pa_nil)) (pg_name (i := 5) sc_law_steps.nd rfl (by first | exact Or.inl rfl | exact Or.inr rfl)))
    (pss_one (ps_expr (pe_bm PySem.F.plainAttrs_list PySem.F.slot_list_append PySem.F.type_list_append mt_uAppend (uv 2) (pa_cons (pe_tup (pa_cons (uv 4) (pa_cons (pe_ix ix_u (uv 5) (pe_d D_law_take hr (by decide) rfl pass0 (pa_cons (uv 0) (pa_cons (pe_callB call_uLen rfl (Z.fre "len" (by decide)) (by decide +kernel) (pa_cons (uv 5) pa_nil)) pa_nil))) (fun _ _ => rfl)) pa_nil))) pa_nil)))))))
    (pss_one (ps_ret (uv 2))))))
/-! def _law_steps_due(_law_steps_here): -/
theorem sc_law_steps_due : FnScope ["_law_steps_here", "_law_at", "_law_part", "_law_way", "_law_row"] ["_law_steps_here"] (defScope s_law_steps_due) := ⟨rfl, rfl, rfl, by decide +kernel, rfl, by decide +kernel, by decide +kernel⟩
def t_law_steps_due (K : PySem.W.Frag) : TS := (tSeq (tIfS (tNot (tTest (tChain uLe uLe (tC (.int 1)) (tCB (uLen K) (tCons (cV 0) tNil)) (tC (.int 6))))) (tRet (tLst (tCons (tC (.str ("steps" : Str))) (tCons (cV 0) tNil)))) tNext)
  (tSeq (tFor (iEnum K (tCons (cV 0) tNil)) (gTup K 2 (gCons (gName 1) (gCons (gTup K 2 (gCons (gName 2) (gCons (gName 3) gNil))) gNil))) (tSeq (tIfS (tTest (tOp (uEq K) (tCall (sp_law_ways K) [] E0 (tCons (cV 2) tNil)) (tLst tNil))) (tRet (tLst (tCons (tC (.str ("part" : Str))) (tCons (cV 2) tNil)))) tNext)
  (tSeq (tIfS (tTest (tOp (uNin K) (cV 3) (tCall (sp_law_ways K) [] E0 (tCons (cV 2) tNil)))) (tRet (tLst (tCons (tC (.str ("way" : Str))) (tCons (cV 3) tNil)))) tNext)
  (tIfS (tTest (tOp (uIn K) (cV 2) (tLc (uIt K (tSl (uSl K) (cV 0) tNoPart (tPart (cV 1)))) (gName 4) tYes (tOp (uIx K) (cV 4) (tC (.int 0))) [4]))) (tRet (tLst (tCons (tC (.str ("twice" : Str))) (tCons (cV 2) tNil)))) tNext))))
  (tRet (tC .non))))
theorem dv_law_steps_due {P : Program} {w : World} {K : PySem.W.Frag} {mg : Str → Option Value} {base : Heap} (Z : Zz P w K mg base) (D_law_ways : Dk P w K mg base CX0 1 "_law_ways" [] (sp_law_ways K)) {f : Addr} {cdv : Value} {A : Around} {outer : List Env} {s : Shared} {H : Hp} {E : XK} (hr : Room 1 (A.deeper (envOfC "_law_steps_due" (defScope s_law_steps_due) s.heap.objs.size f cdv))) :
    PSs (cxOf CX0 P w K mg base ["_law_steps_here", "_law_at", "_law_part", "_law_way", "_law_row"] "_law_steps_due" (defScope s_law_steps_due) f cdv A outer s H E).nox (defBody s_law_steps_due) (t_law_steps_due K) :=
  (pss_cons (ps_if (pt_not (pt_chain op_uLe op_uLe pe_int (pe_callB call_uLen rfl (Z.fre "len" (by decide)) (by decide +kernel) (pa_cons (uv 0) pa_nil)) pe_int)) (pss_one (ps_ret (pe_lst (pa_cons pe_str (pa_cons (uv 0) pa_nil))))) pss_nil)
    (pss_cons (ps_for PassesOwn.never rfl (pi_enum (by rfl) (Z.fre "enumerate" (by decide)) (pa_cons (uv 0) pa_nil)) (pg_tup rfl (pgs_cons (pg_name (i := 1) sc_law_steps_due.nd rfl (by first | exact Or.inl rfl | exact Or.inr rfl)) (pgs_cons (pg_tup rfl (pgs_cons (pg_name (i := 2) sc_law_steps_due.nd rfl (by first | exact Or.inl rfl | exact Or.inr rfl)) (pgs_cons (pg_name (i := 3) sc_law_steps_due.nd rfl (by first | exact Or.inl rfl | exact Or.inr rfl)) pgs_nil))) pgs_nil))) (pss_cons (ps_if (pt_cmpR (op_uEq hr.units) (pe_d D_law_ways hr (by decide) rfl pass0 (pa_cons (uv 2) pa_nil)) (pe_lst pa_nil) (nomark _)) (pss_one (ps_ret (pe_lst (pa_cons pe_str (pa_cons (uv 2) pa_nil))))) pss_nil)
    (pss_cons (ps_if (pt_cmpR op_uNin (uv 3) (pe_d D_law_ways hr (by decide) rfl pass0 (pa_cons (uv 2) pa_nil)) rfl) (pss_one (ps_ret (pe_lst (pa_cons pe_str (pa_cons (uv 3) pa_nil))))) pss_nil)
    (pss_one (ps_if (pt_cmpR op_uIn (uv 2) (pe_lc (own := [("_law_row", 4)]) rfl sc_law_steps_due.nd (pi_u (pe_slice sl_u (uv 0) po_none (po_some (uv 1)))) (blkOk_by (own := [("_law_row", 4)]) (N := ["_law_steps_here", "_law_at", "_law_part", "_law_way", "_law_row"]) (sc := defScope s_law_steps_due) (by decide +kernel)) (fun _ _ _ _ _ => (pg_name (i := 4) sc_law_steps_due.nd rfl (by first | exact Or.inl rfl | exact Or.inr rfl))) (fun _ _ _ _ _ => pts_nil) (fun _ _ _ _ _ => (pe_ix ix_u (uv 4) pe_int (fun _ _ => rfl)))) rfl) (pss_one (ps_ret (pe_lst (pa_cons pe_str (pa_cons (uv 2) pa_nil))))) pss_nil)))))
    (pss_one (ps_ret pe_non))))
/-! def _law_words_due(_law_whole, _law_many): -/
theorem sc_law_words_due : FnScope ["_law_whole", "_law_many", "_law_rows", "_law_found", "_law_k", "_law_row", "_law_words"] ["_law_whole", "_law_many"] (defScope s_law_words_due) := ⟨rfl, rfl, rfl, by decide +kernel, rfl, by decide +kernel, by decide +kernel⟩
def t_law_words_due (K : PySem.W.Frag) : TS := (tSeq (tAsg (tBM K "str" uSplit (cV 0) (tCons (tC (.str ("\n" : Str))) tNil)) (gName 2))
  (tSeq (tAsg (tLst tNil) (gName 3))
  (tSeq (tFor (iEnum K (tCons (tSl (uSl K) (cV 2) tNoPart (tPart (tUn uNeg (tC (.int 1))))) tNil)) (gTup K 2 (gCons (gName 4) (gCons (gName 5) gNil))) (tSeq (tAsg (tBM K "str" uSplit (cV 5) (tCons (tC (.str (" " : Str))) tNil)) (gName 6))
  (tSeq (tIfS (tOr (tTest (tOp (uNe K) (tCB (uLen K) (tCons (cV 6) tNil)) (cV 1))) (tTest (tOp (uIn K) (tC (.str ("" : Str))) (cV 6)))) (tRet (tLst (tCons (tC (.str ("row" : Str))) (tCons (cV 4) tNil)))) tNext)
  (tDrop (tBM K "list" uAppend (cV 3) (tCons (tCB (uTuple K) (tCons (cV 6) tNil)) tNil))))))
  (tRet (tIf (tTest (tOp (uEq K) (tOp (uIx K) (cV 2) (tUn uNeg (tC (.int 1)))) (tC (.str ("" : Str))))) (tLst (tCons (tC (.str ("told" : Str))) (tCons (cV 3) tNil))) (tLst (tCons (tC (.str ("row" : Str))) (tCons (tOp uSub (tCB (uLen K) (tCons (cV 2) tNil)) (tC (.int 1))) tNil))))))))
theorem dv_law_words_due {P : Program} {w : World} {K : PySem.W.Frag} {mg : Str → Option Value} {base : Heap} (Z : Zz P w K mg base)  {f : Addr} {cdv : Value} {A : Around} {outer : List Env} {s : Shared} {H : Hp} {E : XK} (hr : Room 0 (A.deeper (envOfC "_law_words_due" (defScope s_law_words_due) s.heap.objs.size f cdv))) :
    PSs (cxOf CX0 P w K mg base ["_law_whole", "_law_many", "_law_rows", "_law_found", "_law_k", "_law_row", "_law_words"] "_law_words_due" (defScope s_law_words_due) f cdv A outer s H E).nox (defBody s_law_words_due) (t_law_words_due K) :=
  (pss_cons (ps_asg (pe_bm PySem.F.plainAttrs_str PySem.F.slot_str_split PySem.F.type_str_split mt_uSplit (uv 0) (pa_cons pe_str pa_nil)) (pg_name (i := 2) sc_law_words_due.nd rfl (by first | exact Or.inl rfl | exact Or.inr rfl)))
    (pss_cons (ps_asg (pe_lst pa_nil) (pg_name (i := 3) sc_law_words_due.nd rfl (by first | exact Or.inl rfl | exact Or.inr rfl)))
    (pss_cons (ps_for PassesOwn.never rfl (pi_enum (by rfl) (Z.fre "enumerate" (by decide)) (pa_cons (pe_slice sl_u (uv 2) po_none (po_some (pe_un un_uNeg pe_int))) pa_nil)) (pg_tup rfl (pgs_cons (pg_name (i := 4) sc_law_words_due.nd rfl (by first | exact Or.inl rfl | exact Or.inr rfl)) (pgs_cons (pg_name (i := 5) sc_law_words_due.nd rfl (by first | exact Or.inl rfl | exact Or.inr rfl)) pgs_nil))) (pss_cons (ps_asg (pe_bm PySem.F.plainAttrs_str PySem.F.slot_str_split PySem.F.type_str_split mt_uSplit (uv 5) (pa_cons pe_str pa_nil)) (pg_name (i := 6) sc_law_words_due.nd rfl (by first | exact Or.inl rfl | exact Or.inr rfl)))
    (pss_cons (ps_if (PW.pt (pw_or (pt_cmpR (op_uNe hr.units) (pe_callB call_uLen rfl (Z.fre "len" (by decide)) (by decide +kernel) (pa_cons (uv 6) pa_nil)) (uv 1) (nomark _)) (pw_or1 (pt_cmpR op_uIn pe_str (uv 6) rfl)))) (pss_one (ps_ret (pe_lst (pa_cons pe_str (pa_cons (uv 4) pa_nil))))) pss_nil)
    (pss_one (ps_expr (pe_bm PySem.F.plainAttrs_list PySem.F.slot_list_append PySem.F.type_list_append mt_uAppend (uv 3) (pa_cons (pe_callTy call_tuple_of rfl (Z.fre "tuple" (by decide)) (by decide +kernel) (pa_cons (uv 6) pa_nil)) pa_nil)))))))
    (pss_one (ps_ret (pe_ifExp (pt_cmpR (op_uEq hr.units) (pe_ix ix_u (uv 2) (pe_un un_uNeg pe_int) (fun _ _ => rfl)) pe_str (nomark _)) (pe_lst (pa_cons pe_str (pa_cons (uv 3) pa_nil))) (pe_lst (pa_cons pe_str (pa_cons (pe_op op_uSub (pe_callB call_uLen rfl (Z.fre "len" (by decide)) (by decide +kernel) (pa_cons (uv 2) pa_nil)) pe_int) pa_nil)))))))))
/-! def _law_spoilt(_law_box_here, _law_whole): -/
theorem sc_law_spoilt : FnScope ["_law_box_here", "_law_whole", "_law_way", "_law_at", "_law_signs", "_law_sign", "_law_rows", "_law_place", "_law_other"] ["_law_box_here", "_law_whole"] (defScope s_law_spoilt) := ⟨rfl, rfl, rfl, by decide +kernel, rfl, by decide +kernel, by decide +kernel⟩
def t_law_spoilt (K : PySem.W.Frag) : TS := (tSeq (tAsg (tCall (sp_law_take K) [] E0 (tCons (cV 0) (tCons (tC (.int 8)) tNil))) (gName 2))
  (tSeq (tAsg (tCall (sp_law_take K) [] E0 (tCons (cV 0) (tCons (tOp uAdd (tCB (uLen K) (tCons (cV 1) tNil)) (tC (.int 1))) tNil))) (gName 3))
  (tSeq (tAsg (tC (.str (" .0123456789abcdefghijklmnopqrstuvwxyzAZ-_~\n\n" : Str))) (gName 4)) (tSeq (tAsg (tOp uAdd (cV 4) (tC (.str ("!\"#$&'()*+,/:;<=>?\x40[\\]^`{|}" : Str)))) (gName 4)) (tSgn 4 0 1 5 (sp_law_take K) (tCall (sp_law_take K) [] E0 (tCons (cV 0) (tCons (tCB (uLen K) (tCons (cV 4) tNil)) tNil)))
  (tSeq (tAsg (tBM K "str" uSplit (cV 1) (tCons (tC (.str ("\n" : Str))) tNil)) (gName 6))
  (tSeq (tAsg (tCall (sp_law_take K) [] E0 (tCons (cV 0) (tCons (tCB (uLen K) (tCons (cV 6) tNil)) tNil))) (gName 7))
  (tSeq (tIfS (tTest (tOp (uEq K) (cV 2) (tC (.int 0)))) (tRet (tOp uAdd (tOp uAdd (tSl (uSl K) (cV 1) tNoPart (tPart (cV 3))) (cV 5)) (tSl (uSl K) (cV 1) (tPart (cV 3)) tNoPart))) tNext)
  (tSeq (tIfS (tTest (tOp (uEq K) (cV 2) (tC (.int 1)))) (tRet (tOp uAdd (tSl (uSl K) (cV 1) tNoPart (tPart (cV 3))) (tSl (uSl K) (cV 1) (tPart (tOp uAdd (cV 3) (tC (.int 1)))) tNoPart))) tNext)
  (tSeq (tIfS (tTest (tOp (uEq K) (cV 2) (tC (.int 2)))) (tRet (tOp uAdd (tOp uAdd (tSl (uSl K) (cV 1) tNoPart (tPart (cV 3))) (cV 5)) (tSl (uSl K) (cV 1) (tPart (tOp uAdd (cV 3) (tC (.int 1)))) tNoPart))) tNext)
  (tSeq (tIfS (tTest (tOp (uEq K) (cV 2) (tC (.int 3)))) (tRet (tSl (uSl K) (cV 1) tNoPart (tPart (tUn uNeg (tC (.int 1)))))) tNext)
  (tSeq (tIfS (tTest (tOp (uEq K) (cV 2) (tC (.int 4)))) (tRet (tOp uAdd (cV 1) (tOp (uIx K) (tLst (tCons (tC (.str ("\n" : Str))) (tCons (tC (.str (" " : Str))) (tCons (tC (.str ("a1" : Str))) (tCons (tC (.str ("\n\n" : Str))) (tCons (tC (.str ("0" : Str))) tNil)))))) (tCall (sp_law_take K) [] E0 (tCons (cV 0) (tCons (tC (.int 5)) tNil)))))) tNext)
  (tSeq (tIfS (tTest (tOp (uEq K) (cV 2) (tC (.int 5)))) (tSeq (tDrop (tBM K "list" uInsert (cV 6) (tCons (cV 7) (tCons (tOp (uIx K) (cV 6) (cV 7)) tNil))))
  (tRet (tBM K "str" (uJoin K) (tC (.str ("\n" : Str))) (tCons (cV 6) tNil)))) tNext)
  (tSeq (tIfS (tTest (tOp (uEq K) (cV 2) (tC (.int 6)))) (tRet (tBM K "str" (uJoin K) (tC (.str ("\n" : Str))) (tCons (tOp uAdd (tSl (uSl K) (cV 6) tNoPart (tPart (cV 7))) (tSl (uSl K) (cV 6) (tPart (tOp uAdd (cV 7) (tC (.int 1)))) tNoPart)) tNil))) tNext)
  (tSeq (tAsg (tCall (sp_law_take K) [] E0 (tCons (cV 0) (tCons (tCB (uLen K) (tCons (cV 6) tNil)) tNil))) (gName 8))
  (tSeq (tAsg (tTup (tCons (tOp (uIx K) (cV 6) (cV 8)) (tCons (tOp (uIx K) (cV 6) (cV 7)) tNil))) (gTup K 2 (gCons (gSub (cV 6) (cV 7) rSetL) (gCons (gSub (cV 6) (cV 8) rSetL) gNil))))
  (tRet (tBM K "str" (uJoin K) (tC (.str ("\n" : Str))) (tCons (cV 6) tNil)))))))))))))))))))
theorem dv_law_spoilt {P : Program} {w : World} {K : PySem.W.Frag} {mg : Str → Option Value} {base : Heap} (Z : Zz P w K mg base) (D_law_take : Dk P w K mg base CX0 1 "_law_take" [] (sp_law_take K)) {f : Addr} {cdv : Value} {A : Around} {outer : List Env} {s : Shared} {H : Hp} {E : XK} (hr : Room 1 (A.deeper (envOfC "_law_spoilt" (defScope s_law_spoilt) s.heap.objs.size f cdv))) :
    PSs (cxOf CX0 P w K mg base ["_law_box_here", "_law_whole", "_law_way", "_law_at", "_law_signs", "_law_sign", "_law_rows", "_law_place", "_law_other"] "_law_spoilt" (defScope s_law_spoilt) f cdv A outer s H E).nox (defBody s_law_spoilt) (t_law_spoilt K) :=
  (pss_cons (ps_asg (pe_d D_law_take hr (by decide) rfl pass0 (pa_cons (uv 0) (pa_cons pe_int pa_nil))) (pg_name (i := 2) sc_law_spoilt.nd rfl (by first | exact Or.inl rfl | exact Or.inr rfl)))
    (pss_cons (ps_asg (pe_d D_law_take hr (by decide) rfl pass0 (pa_cons (uv 0) (pa_cons (pe_op op_uAdd (pe_callB call_uLen rfl (Z.fre "len" (by decide)) (by decide +kernel) (pa_cons (uv 1) pa_nil)) pe_int) pa_nil))) (pg_name (i := 3) sc_law_spoilt.nd rfl (by first | exact Or.inl rfl | exact Or.inr rfl)))
    (pss_str (i := 4) sc_law_spoilt.nd rfl (by first | exact Or.inl rfl | exact Or.inr rfl) (psst_cons (PST.of (ps_asg (pe_op op_uAdd (uv 4) pe_str) (pg_name (i := 4) sc_law_spoilt.nd rfl (by first | exact Or.inl rfl | exact Or.inr rfl)))) (pss_sgn (isg := 4) (ib := 0) (iw := 1) (i := 5) D_law_take hr (by decide) rfl Z.nb sc_law_spoilt.nd rfl rfl rfl rfl rfl (by first | exact Or.inl rfl | exact Or.inr (Or.inl rfl) | exact Or.inr (Or.inr rfl)) (by first | exact Or.inl rfl | exact Or.inr (Or.inl rfl) | exact Or.inr (Or.inr rfl)) (by first | exact Or.inl rfl | exact Or.inr (Or.inl rfl) | exact Or.inr (Or.inr rfl)) (by decide) (by decide) (pe_d D_law_take hr (by decide) rfl pass0 (pa_cons (uv 0) (pa_cons (pe_callB call_uLen rfl (Z.fre "len" (by decide)) (by decide +kernel) (pa_cons (uv 4) pa_nil)) pa_nil))) (fun _ _ => rfl)
    (pss_cons (ps_asg (pe_bm PySem.F.plainAttrs_str PySem.F.slot_str_split PySem.F.type_str_split mt_uSplit (uv 1) (pa_cons pe_str pa_nil)) (pg_name (i := 6) sc_law_spoilt.nd rfl (by first | exact Or.inl rfl | exact Or.inr rfl)))
    (pss_cons (ps_asg (pe_d D_law_take hr (by decide) rfl pass0 (pa_cons (uv 0) (pa_cons (pe_callB call_uLen rfl (Z.fre "len" (by decide)) (by decide +kernel) (pa_cons (uv 6) pa_nil)) pa_nil))) (pg_name (i := 7) sc_law_spoilt.nd rfl (by first | exact Or.inl rfl | exact Or.inr rfl)))
    (pss_cons (ps_if (pt_cmpR (op_uEq hr.units) (uv 2) pe_int (nomark _)) (pss_one (ps_ret (pe_op op_uAdd (pe_op op_uAdd (pe_slice sl_u (uv 1) po_none (po_some (uv 3))) (uv 5)) (pe_slice sl_u (uv 1) (po_some (uv 3)) po_none)))) pss_nil)
    (pss_cons (ps_if (pt_cmpR (op_uEq hr.units) (uv 2) pe_int (nomark _)) (pss_one (ps_ret (pe_op op_uAdd (pe_slice sl_u (uv 1) po_none (po_some (uv 3))) (pe_slice sl_u (uv 1) (po_some (pe_op op_uAdd (uv 3) pe_int)) po_none)))) pss_nil)
    (pss_cons (ps_if (pt_cmpR (op_uEq hr.units) (uv 2) pe_int (nomark _)) (pss_one (ps_ret (pe_op op_uAdd (pe_op op_uAdd (pe_slice sl_u (uv 1) po_none (po_some (uv 3))) (uv 5)) (pe_slice sl_u (uv 1) (po_some (pe_op op_uAdd (uv 3) pe_int)) po_none)))) pss_nil)
    (pss_cons (ps_if (pt_cmpR (op_uEq hr.units) (uv 2) pe_int (nomark _)) (pss_one (ps_ret (pe_slice sl_u (uv 1) po_none (po_some (pe_un un_uNeg pe_int))))) pss_nil)
    (pss_cons (ps_if (pt_cmpR (op_uEq hr.units) (uv 2) pe_int (nomark _)) (pss_one (ps_ret (pe_op op_uAdd (uv 1) (pe_ix ix_u (pe_lst (pa_cons pe_str (pa_cons pe_str (pa_cons pe_str (pa_cons pe_str (pa_cons pe_str pa_nil)))))) (pe_d D_law_take hr (by decide) rfl pass0 (pa_cons (uv 0) (pa_cons pe_int pa_nil))) (fun _ _ => rfl))))) pss_nil)
    (pss_cons (ps_if (pt_cmpR (op_uEq hr.units) (uv 2) pe_int (nomark _)) (pss_cons (ps_expr (pe_bm PySem.F.plainAttrs_list PySem.F.slot_list_insert PySem.F.type_list_insert mt_uInsert (uv 6) (pa_cons (uv 7) (pa_cons (pe_ix ix_u (uv 6) (uv 7) (fun _ _ => rfl)) pa_nil))))
    (pss_one (ps_ret (pe_bm PySem.F.plainAttrs_str PySem.F.slot_str_join PySem.F.type_str_join mt_uJoin pe_str (pa_cons (uv 6) pa_nil))))) pss_nil)
    (pss_cons (ps_if (pt_cmpR (op_uEq hr.units) (uv 2) pe_int (nomark _)) (pss_one (ps_ret (pe_bm PySem.F.plainAttrs_str PySem.F.slot_str_join PySem.F.type_str_join mt_uJoin pe_str (pa_cons (pe_op op_uAdd (pe_slice sl_u (uv 6) po_none (po_some (uv 7))) (pe_slice sl_u (uv 6) (po_some (pe_op op_uAdd (uv 7) pe_int)) po_none)) pa_nil)))) pss_nil)
    (pss_cons (ps_asg (pe_d D_law_take hr (by decide) rfl pass0 (pa_cons (uv 0) (pa_cons (pe_callB call_uLen rfl (Z.fre "len" (by decide)) (by decide +kernel) (pa_cons (uv 6) pa_nil)) pa_nil))) (pg_name (i := 8) sc_law_spoilt.nd rfl (by first | exact Or.inl rfl | exact Or.inr rfl)))
    (pss_cons (ps_asg (pe_tup (pa_cons (pe_ix ix_u (uv 6) (uv 8) (fun _ _ => rfl)) (pa_cons (pe_ix ix_u (uv 6) (uv 7) (fun _ _ => rfl)) pa_nil))) (pg_tup rfl (pgs_cons (pg_sub (uv 6) (uv 7) set_list) (pgs_cons (pg_sub (uv 6) (uv 8) set_list) pgs_nil))))
    (pss_one (ps_ret (pe_bm PySem.F.plainAttrs_str PySem.F.slot_str_join PySem.F.type_str_join mt_uJoin pe_str (pa_cons (uv 6) pa_nil))))))))))))))))))))
/-! def _law_other_word(_law_box_here, _law_whole): -/
theorem sc_law_other_word : FnScope ["_law_box_here", "_law_whole", "_law_rows", "_law_row", "_law_some", "_law_word", "_law_place", "_law_at"] ["_law_box_here", "_law_whole"] (defScope s_law_other_word) := ⟨rfl, rfl, rfl, by decide +kernel, rfl, by decide +kernel, by decide +kernel⟩
def t_law_other_word (K : PySem.W.Frag) : TS := (tSeq (tAsg (tLc (uIt K (tBM K "str" uSplit (cV 1) (tCons (tC (.str ("\n" : Str))) tNil))) (gName 3) tYes (tBM K "str" uSplit (cV 3) (tCons (tC (.str (" " : Str))) tNil)) [3]) (gName 2))
  (tSeq (tAsg (tLst (tCons (tC (.str ("letters" : Str))) (tCons (tC (.str ("number" : Str))) (tCons (tC (.str ("points" : Str))) (tCons (tC (.str ("makers" : Str))) (tCons (tC (.str ("year" : Str))) (tCons (tC (.str ("copy" : Str))) (tCons (tC (.str ("words" : Str))) (tCons (tC (.str ("whole" : Str))) (tCons (tC (.str ("few" : Str))) (tCons (tC (.str ("late" : Str))) (tCons (tC (.str ("figures" : Str))) tNil)))))))))))) (gName 4))
  (tSeq (tAsg (tOp uAdd (cV 4) (tLst (tCons (tC (.str ("Year" : Str))) (tCons (tC (.str ("up" : Str))) tNil)))) (gName 4))
  (tSeq (tAsg (tOp (uIx K) (cV 4) (tCall (sp_law_take K) [] E0 (tCons (cV 0) (tCons (tCB (uLen K) (tCons (cV 4) tNil)) tNil)))) (gName 5))
  (tSeq (tAsg (tCall (sp_law_take K) [] E0 (tCons (cV 0) (tCons (tCB (uLen K) (tCons (cV 2) tNil)) tNil))) (gName 6))
  (tSeq (tAsg (tCall (sp_law_take K) [] E0 (tCons (cV 0) (tCons (tCB (uLen K) (tCons (tOp (uIx K) (cV 2) (cV 6)) tNil)) tNil))) (gName 7))
  (tSeq (tIfS (tTest (tOp (uEq K) (tCall (sp_law_take K) [] E0 (tCons (cV 0) (tCons (tC (.int 3)) tNil))) (tC (.int 0)))) (tAsg (tOp (uIx K) (tOp (uIx K) (cV 2) (tCall (sp_law_take K) [] E0 (tCons (cV 0) (tCons (tCB (uLen K) (tCons (cV 2) tNil)) tNil)))) (tUn uNeg (tC (.int 1)))) (gName 5)) tNext)
  (tSeq (tAsg (cV 5) (gSub (tOp (uIx K) (cV 2) (cV 6)) (cV 7) rSetL))
  (tRet (tBM K "str" (uJoin K) (tC (.str ("\n" : Str))) (tCons (tLc (uIt K (cV 2)) (gName 3) tYes (tBM K "str" (uJoin K) (tC (.str (" " : Str))) (tCons (cV 3) tNil)) [3]) tNil)))))))))))
theorem dv_law_other_word {P : Program} {w : World} {K : PySem.W.Frag} {mg : Str → Option Value} {base : Heap} (Z : Zz P w K mg base) (D_law_take : Dk P w K mg base CX0 1 "_law_take" [] (sp_law_take K)) {f : Addr} {cdv : Value} {A : Around} {outer : List Env} {s : Shared} {H : Hp} {E : XK} (hr : Room 1 (A.deeper (envOfC "_law_other_word" (defScope s_law_other_word) s.heap.objs.size f cdv))) :
    PSs (cxOf CX0 P w K mg base ["_law_box_here", "_law_whole", "_law_rows", "_law_row", "_law_some", "_law_word", "_law_place", "_law_at"] "_law_other_word" (defScope s_law_other_word) f cdv A outer s H E).nox (defBody s_law_other_word) (t_law_other_word K) :=
  (pss_cons (ps_setLc (i := 2) (own := [("_law_row", 3)]) rfl sc_law_other_word.nd rfl rfl (sw_true rfl rfl rfl (by decide +kernel)) (pi_u (pe_bm PySem.F.plainAttrs_str PySem.F.slot_str_split PySem.F.type_str_split mt_uSplit (uv 1) (pa_cons pe_str pa_nil))) (blkOk_by (own := [("_law_row", 3)]) (N := ["_law_box_here", "_law_whole", "_law_rows", "_law_row", "_law_some", "_law_word", "_law_place", "_law_at"]) (sc := defScope s_law_other_word) (by decide +kernel)) (fun _ _ _ _ _ => (pg_name (i := 3) sc_law_other_word.nd rfl (by first | exact Or.inl rfl | exact Or.inr rfl))) (fun _ _ _ _ _ => pts_nil) (fun _ _ _ _ _ => (pe_bm PySem.F.plainAttrs_str PySem.F.slot_str_split PySem.F.type_str_split mt_uSplit (uv 3) (pa_cons pe_str pa_nil))))
    (pss_cons (ps_asg (pe_lst (pa_cons pe_str (pa_cons pe_str (pa_cons pe_str (pa_cons pe_str (pa_cons pe_str (pa_cons pe_str (pa_cons pe_str (pa_cons pe_str (pa_cons pe_str (pa_cons pe_str (pa_cons pe_str pa_nil)))))))))))) (pg_name (i := 4) sc_law_other_word.nd rfl (by first | exact Or.inl rfl | exact Or.inr rfl)))
    (pss_cons (ps_asg (pe_op op_uAdd (uv 4) (pe_lst (pa_cons pe_str (pa_cons pe_str pa_nil)))) (pg_name (i := 4) sc_law_other_word.nd rfl (by first | exact Or.inl rfl | exact Or.inr rfl)))
    (pss_cons (ps_asg (pe_ix ix_u (uv 4) (pe_d D_law_take hr (by decide) rfl pass0 (pa_cons (uv 0) (pa_cons (pe_callB call_uLen rfl (Z.fre "len" (by decide)) (by decide +kernel) (pa_cons (uv 4) pa_nil)) pa_nil))) (fun _ _ => rfl)) (pg_name (i := 5) sc_law_other_word.nd rfl (by first | exact Or.inl rfl | exact Or.inr rfl)))
    (pss_cons (ps_asg (pe_d D_law_take hr (by decide) rfl pass0 (pa_cons (uv 0) (pa_cons (pe_callB call_uLen rfl (Z.fre "len" (by decide)) (by decide +kernel) (pa_cons (uv 2) pa_nil)) pa_nil))) (pg_name (i := 6) sc_law_other_word.nd rfl (by first | exact Or.inl rfl | exact Or.inr rfl)))
    (pss_cons (ps_asg (pe_d D_law_take hr (by decide) rfl pass0 (pa_cons (uv 0) (pa_cons (pe_callB call_uLen rfl (Z.fre "len" (by decide)) (by decide +kernel) (pa_cons (pe_ix ix_u (uv 2) (uv 6) (fun _ _ => rfl)) pa_nil)) pa_nil))) (pg_name (i := 7) sc_law_other_word.nd rfl (by first | exact Or.inl rfl | exact Or.inr rfl)))
    (pss_cons (ps_if (pt_cmpR (op_uEq hr.units) (pe_d D_law_take hr (by decide) rfl pass0 (pa_cons (uv 0) (pa_cons pe_int pa_nil))) pe_int (nomark _)) (pss_one (ps_asg (pe_ix ix_u (pe_ix ix_u (uv 2) (pe_d D_law_take hr (by decide) rfl pass0 (pa_cons (uv 0) (pa_cons (pe_callB call_uLen rfl (Z.fre "len" (by decide)) (by decide +kernel) (pa_cons (uv 2) pa_nil)) pa_nil))) (fun _ _ => rfl)) (pe_un un_uNeg pe_int) (fun _ _ => rfl)) (pg_name (i := 5) sc_law_other_word.nd rfl (by first | exact Or.inl rfl | exact Or.inr rfl)))) pss_nil)
    (pss_cons (ps_asg (uv 5) (pg_sub (pe_ix ix_u (uv 2) (uv 6) (fun _ _ => rfl)) (uv 7) set_list))
    (pss_one (ps_ret (pe_bm PySem.F.plainAttrs_str PySem.F.slot_str_join PySem.F.type_str_join mt_uJoin pe_str (pa_cons (pe_lc (own := [("_law_row", 3)]) rfl sc_law_other_word.nd (pi_u (uv 2)) (blkOk_by (own := [("_law_row", 3)]) (N := ["_law_box_here", "_law_whole", "_law_rows", "_law_row", "_law_some", "_law_word", "_law_place", "_law_at"]) (sc := defScope s_law_other_word) (by decide +kernel)) (fun _ _ _ _ _ => (pg_name (i := 3) sc_law_other_word.nd rfl (by first | exact Or.inl rfl | exact Or.inr rfl))) (fun _ _ _ _ _ => pts_nil) (fun _ _ _ _ _ => (pe_bm PySem.F.plainAttrs_str PySem.F.slot_str_join PySem.F.type_str_join mt_uJoin pe_str (pa_cons (uv 3) pa_nil)))) pa_nil))))))))))))
/-! def _law_due(_law_thing): -/
theorem sc_law_due : FnScope ["_law_thing", "_law_due_here"] ["_law_thing"] (defScope s_law_due) := ⟨rfl, rfl, rfl, by decide +kernel, rfl, by decide +kernel, by decide +kernel⟩
def t_law_due (K : PySem.W.Frag) : TS := (tSeq (tIfS (tNot (uTru K (tCB (rIsi K) (tCons (cV 0) (tCons (tC (.ty "str")) tNil))))) (tRet (tLst (tCons (tC (.str ("text" : Str))) (tCons (cV 0) tNil)))) tNext)
  (tSeq (tAsg (tCall (sp_law_words_due K) [] E0 (tCons (cV 0) (tCons (tC (.int 2)) tNil))) (gName 1))
  (tSeq (tIfS (tTest (tOp (uEq K) (tOp (uIx K) (cV 1) (tC (.int 0))) (tC (.str ("row" : Str))))) (tRet (cV 1)) tNext)
  (tRet (tOrT K (tCall (sp_law_steps_due K) [] E0 (tCons (tOp (uIx K) (cV 1) (tC (.int 1))) tNil)) (cV 1))))))
theorem dv_law_due {P : Program} {w : World} {K : PySem.W.Frag} {mg : Str → Option Value} {base : Heap} (Z : Zz P w K mg base) (D_law_words_due : Dk P w K mg base CX0 1 "_law_words_due" [] (sp_law_words_due K)) (D_law_steps_due : Dk P w K mg base CX0 2 "_law_steps_due" [] (sp_law_steps_due K)) {f : Addr} {cdv : Value} {A : Around} {outer : List Env} {s : Shared} {H : Hp} {E : XK} (hr : Room 2 (A.deeper (envOfC "_law_due" (defScope s_law_due) s.heap.objs.size f cdv))) :
    PSs (cxOf CX0 P w K mg base ["_law_thing", "_law_due_here"] "_law_due" (defScope s_law_due) f cdv A outer s H E).nox (defBody s_law_due) (t_law_due K) :=
  (pss_cons (ps_if (pt_not (pt_truth (pe_callB call_isi rfl (Z.fre "isinstance" (by decide)) (by decide +kernel) (pa_cons (uv 0) (pa_cons (pe_bltn (v := .ty "str") (by rfl) (Z.fre "str" (by decide)) (by decide +kernel) rfl) pa_nil))) (by intro _; rfl))) (pss_one (ps_ret (pe_lst (pa_cons pe_str (pa_cons (uv 0) pa_nil))))) pss_nil)
    (pss_cons (ps_asg (pe_d D_law_words_due hr (by decide) rfl pass0 (pa_cons (uv 0) (pa_cons pe_int pa_nil))) (pg_name (i := 1) sc_law_due.nd rfl (by first | exact Or.inl rfl | exact Or.inr rfl)))
    (pss_cons (ps_if (pt_cmpR (op_uEq hr.units) (pe_ix ix_u (uv 1) pe_int (fun _ _ => rfl)) pe_str (nomark _)) (pss_one (ps_ret (uv 1))) pss_nil)
    (pss_one (ps_ret (pe_orT (pe_d D_law_steps_due hr (by decide) rfl pass0 (pa_cons (pe_ix ix_u (uv 1) pe_int (fun _ _ => rfl)) pa_nil)) (pe_one (uv 1))))))))
/-! def _law_kind(_law_e): -/
theorem sc_law_kind : FnScope ["_law_e", "_law_found"] ["_law_e"] (defScope s_law_kind) := ⟨rfl, rfl, rfl, by decide +kernel, rfl, by decide +kernel, by decide +kernel⟩
def t_law_kind (K : PySem.W.Frag) (D a dd : Addr) : TS := (tSeq (tAsg (tLst tNil) (gName 1))
  (tSeq (tIfS (uTru K (tCB (uIsEd K D a dd) (tCons (cV 0) (tCons (tC (.ref (He.ga K "NoText"))) tNil)))) (tDrop (tBM K "list" uAppend (cV 1) (tCons (tLst (tCons (tC (.str ("text" : Str))) (tCons (uXf a dd "found" (cV 0)) tNil))) tNil))) tNext)
  (tSeq (tIfS (uTru K (tCB (uIsEd K D a dd) (tCons (cV 0) (tCons (tC (.ref (He.ga K "NoRow"))) tNil)))) (tDrop (tBM K "list" uAppend (cV 1) (tCons (tLst (tCons (tC (.str ("row" : Str))) (tCons (uXf a dd "found" (cV 0)) tNil))) tNil))) tNext)
  (tSeq (tIfS (uTru K (tCB (uIsEd K D a dd) (tCons (cV 0) (tCons (tC (.ref (He.ga K "NoSteps"))) tNil)))) (tDrop (tBM K "list" uAppend (cV 1) (tCons (tLst (tCons (tC (.str ("steps" : Str))) (tCons (uXf a dd "found" (cV 0)) tNil))) tNil))) tNext)
  (tSeq (tIfS (uTru K (tCB (uIsEd K D a dd) (tCons (cV 0) (tCons (tC (.ref (He.ga K "NoPart"))) tNil)))) (tDrop (tBM K "list" uAppend (cV 1) (tCons (tLst (tCons (tC (.str ("part" : Str))) (tCons (uXf a dd "found" (cV 0)) tNil))) tNil))) tNext)
  (tSeq (tIfS (uTru K (tCB (uIsEd K D a dd) (tCons (cV 0) (tCons (tC (.ref (He.ga K "NoWay"))) tNil)))) (tDrop (tBM K "list" uAppend (cV 1) (tCons (tLst (tCons (tC (.str ("way" : Str))) (tCons (uXf a dd "found" (cV 0)) tNil))) tNil))) tNext)
  (tSeq (tIfS (uTru K (tCB (uIsEd K D a dd) (tCons (cV 0) (tCons (tC (.ref (He.ga K "Twice"))) tNil)))) (tDrop (tBM K "list" uAppend (cV 1) (tCons (tLst (tCons (tC (.str ("twice" : Str))) (tCons (uXf a dd "found" (cV 0)) tNil))) tNil))) tNext)
  (tRet (tIf (tAnd (tTest (tOp (uEq K) (tCB (uLen K) (tCons (cV 1) tNil)) (tC (.int 1)))) (tNot (uTru K (tCB (uIsEd K D a dd) (tCons (cV 0) (tCons (tC (.ref (He.ga K "NoStep"))) tNil)))))) (tOp (uIx K) (cV 1) (tC (.int 0))) (tLst (tCons (tC (.str ("other" : Str))) (tCons (tC .non) tNil))))))))))))
theorem dv_law_kind {P : Program} {w : World} {K : PySem.W.Frag} {mg : Str → Option Value} {base : Heap} (Z : Zz P w K mg base) {p : Addr × Obj} {D dd : Addr} (xc : ExcC K D) (xf : XfC K D) (no : PySem.W.findIn K (.ref D) "found" = some none) (hz : Zc (.ref D) (some dd) p.2) (hf : ∃ fs, p.2.data = .fields fs)  {f : Addr} {cdv : Value} {A : Around} {outer : List Env} {s : Shared} {H : Hp} {E : XK} (hr : L2H.RoomH 0 (A.deeper (envOfC "_law_kind" (defScope s_law_kind) s.heap.objs.size f cdv))) :
    PSs (L2H.cxH CX0 P w K mg base ["_law_e", "_law_found"] "_law_kind" (defScope s_law_kind) f cdv A outer s H E p) (defBody s_law_kind) (t_law_kind K D p.1 dd) :=
  (pss_cons (ps_asg (pe_lst pa_nil) (pg_name (i := 1) sc_law_kind.nd rfl (by first | exact Or.inl rfl | exact Or.inr rfl)))
    (pss_cons (ps_if (pt_truth (pe_callB (call_uIsE (a := p.1) (oe := p.2) (D := D) (dd := dd) (List.mem_singleton.mpr rfl) xc hz hf) rfl (Z.fre "isinstance" (by decide)) (by decide +kernel) (pa_cons (uv 0) (pa_cons (pe_glob (v := .ref (He.ga K "NoText")) rfl (Z.glo "NoText" (by decide)) rfl) pa_nil))) (by intro _; rfl)) (pss_one (ps_expr (pe_bm PySem.F.plainAttrs_list PySem.F.slot_list_append PySem.F.type_list_append mt_uAppend (uv 1) (pa_cons (pe_lst (pa_cons pe_str (pa_cons (pe_uXf (a := p.1) (oe := p.2) (D := D) (dd := dd) (List.mem_singleton.mpr rfl) xf no hz hf (uv 0)) pa_nil))) pa_nil)))) pss_nil)
    (pss_cons (ps_if (pt_truth (pe_callB (call_uIsE (a := p.1) (oe := p.2) (D := D) (dd := dd) (List.mem_singleton.mpr rfl) xc hz hf) rfl (Z.fre "isinstance" (by decide)) (by decide +kernel) (pa_cons (uv 0) (pa_cons (pe_glob (v := .ref (He.ga K "NoRow")) rfl (Z.glo "NoRow" (by decide)) rfl) pa_nil))) (by intro _; rfl)) (pss_one (ps_expr (pe_bm PySem.F.plainAttrs_list PySem.F.slot_list_append PySem.F.type_list_append mt_uAppend (uv 1) (pa_cons (pe_lst (pa_cons pe_str (pa_cons (pe_uXf (a := p.1) (oe := p.2) (D := D) (dd := dd) (List.mem_singleton.mpr rfl) xf no hz hf (uv 0)) pa_nil))) pa_nil)))) pss_nil)
    (pss_cons (ps_if (pt_truth (pe_callB (call_uIsE (a := p.1) (oe := p.2) (D := D) (dd := dd) (List.mem_singleton.mpr rfl) xc hz hf) rfl (Z.fre "isinstance" (by decide)) (by decide +kernel) (pa_cons (uv 0) (pa_cons (pe_glob (v := .ref (He.ga K "NoSteps")) rfl (Z.glo "NoSteps" (by decide)) rfl) pa_nil))) (by intro _; rfl)) (pss_one (ps_expr (pe_bm PySem.F.plainAttrs_list PySem.F.slot_list_append PySem.F.type_list_append mt_uAppend (uv 1) (pa_cons (pe_lst (pa_cons pe_str (pa_cons (pe_uXf (a := p.1) (oe := p.2) (D := D) (dd := dd) (List.mem_singleton.mpr rfl) xf no hz hf (uv 0)) pa_nil))) pa_nil)))) pss_nil)
    (pss_cons (ps_if (pt_truth (pe_callB (call_uIsE (a := p.1) (oe := p.2) (D := D) (dd := dd) (List.mem_singleton.mpr rfl) xc hz hf) rfl (Z.fre "isinstance" (by decide)) (by decide +kernel) (pa_cons (uv 0) (pa_cons (pe_glob (v := .ref (He.ga K "NoPart")) rfl (Z.glo "NoPart" (by decide)) rfl) pa_nil))) (by intro _; rfl)) (pss_one (ps_expr (pe_bm PySem.F.plainAttrs_list PySem.F.slot_list_append PySem.F.type_list_append mt_uAppend (uv 1) (pa_cons (pe_lst (pa_cons pe_str (pa_cons (pe_uXf (a := p.1) (oe := p.2) (D := D) (dd := dd) (List.mem_singleton.mpr rfl) xf no hz hf (uv 0)) pa_nil))) pa_nil)))) pss_nil)
    (pss_cons (ps_if (pt_truth (pe_callB (call_uIsE (a := p.1) (oe := p.2) (D := D) (dd := dd) (List.mem_singleton.mpr rfl) xc hz hf) rfl (Z.fre "isinstance" (by decide)) (by decide +kernel) (pa_cons (uv 0) (pa_cons (pe_glob (v := .ref (He.ga K "NoWay")) rfl (Z.glo "NoWay" (by decide)) rfl) pa_nil))) (by intro _; rfl)) (pss_one (ps_expr (pe_bm PySem.F.plainAttrs_list PySem.F.slot_list_append PySem.F.type_list_append mt_uAppend (uv 1) (pa_cons (pe_lst (pa_cons pe_str (pa_cons (pe_uXf (a := p.1) (oe := p.2) (D := D) (dd := dd) (List.mem_singleton.mpr rfl) xf no hz hf (uv 0)) pa_nil))) pa_nil)))) pss_nil)
    (pss_cons (ps_if (pt_truth (pe_callB (call_uIsE (a := p.1) (oe := p.2) (D := D) (dd := dd) (List.mem_singleton.mpr rfl) xc hz hf) rfl (Z.fre "isinstance" (by decide)) (by decide +kernel) (pa_cons (uv 0) (pa_cons (pe_glob (v := .ref (He.ga K "Twice")) rfl (Z.glo "Twice" (by decide)) rfl) pa_nil))) (by intro _; rfl)) (pss_one (ps_expr (pe_bm PySem.F.plainAttrs_list PySem.F.slot_list_append PySem.F.type_list_append mt_uAppend (uv 1) (pa_cons (pe_lst (pa_cons pe_str (pa_cons (pe_uXf (a := p.1) (oe := p.2) (D := D) (dd := dd) (List.mem_singleton.mpr rfl) xf no hz hf (uv 0)) pa_nil))) pa_nil)))) pss_nil)
    (pss_one (ps_ret (pe_ifExp (PW.pt (pw_and (pt_cmpR (op_uEq hr.units) (pe_callB call_uLen rfl (Z.fre "len" (by decide)) (by decide +kernel) (pa_cons (uv 1) pa_nil)) pe_int (nomark _)) (pw_and1 (pt_not (pt_truth (pe_callB (call_uIsE (a := p.1) (oe := p.2) (D := D) (dd := dd) (List.mem_singleton.mpr rfl) xc hz hf) rfl (Z.fre "isinstance" (by decide)) (by decide +kernel) (pa_cons (uv 0) (pa_cons (pe_glob (v := .ref (He.ga K "NoStep")) rfl (Z.glo "NoStep" (by decide)) rfl) pa_nil))) (by intro _; rfl)))))) (pe_ix ix_u (uv 1) pe_int (fun _ _ => rfl)) (pe_lst (pa_cons pe_str (pa_cons pe_non pa_nil)))))))))))))
/-! def _law_asked(_law_thing): -/
theorem sc_law_asked : FnScope ["_law_thing", "_law_e", "_law_told"] ["_law_thing"] (defScope s_law_asked) := ⟨rfl, rfl, rfl, by decide +kernel, rfl, by decide +kernel, by decide +kernel⟩
def t_law_asked (K : PySem.W.Frag) : TS := (tSeq (fun D σ H => (fun W => (tAsg (tCallSD (sp_read_rule K) [] (WE W) (tCons (cV 0) tNil)) (gName 2))) (wAs K (.ref (He.ga K "MarkError")) 1 (fun a cls d => (tRet (tCallX (sp_law_kind K) cls d a (cV 1)))) (fun _ _ _ _ => False) D) D σ H)
  (tRet (tIf (uTru K (tCB (rIsi K) (tCons (cV 2) (tCons (tC (.ref (He.ga K "Rule"))) tNil)))) (tLst (tCons (tC (.str ("told" : Str))) (tCons (tMeth (He.ga K "Rule") "steps" (sp_Rule_steps K) [] E0 (cV 2) tNil) tNil))) (tLst (tCons (tC (.str ("other" : Str))) (tCons (tC .non) tNil))))))
theorem dv_law_asked {P : Program} {w : World} {K : PySem.W.Frag} {mg : Str → Option Value} {base : Heap} (Z : Zz P w K mg base) (D_read_rule : Dk P w K mg base (L2.CX P w) 7 "read_rule" [] (sp_read_rule K)) (D_law_kind : Sk P w K mg base 1 "_law_kind" (sp_law_kind K)) (D_Rule_steps : Mtd P w K mg base CX0 1 (He.ga K "Rule") "steps" [] (sp_Rule_steps K)) {f : Addr} {cdv : Value} {A : Around} {outer : List Env} {s : Shared} {H : Hp} {E : XK} (hr : Room 7 (A.deeper (envOfC "_law_asked" (defScope s_law_asked) s.heap.objs.size f cdv))) :
    PSs (cxOf CX0 P w K mg base ["_law_thing", "_law_e", "_law_told"] "_law_asked" (defScope s_law_asked) f cdv A outer s H E).nox (defBody s_law_asked) (t_law_asked K) :=
  (pss_cons (ps_try_as rfl rfl sc_law_asked.nd (i := 1) rfl rfl ⟨by rfl, by decide, .inl (Z.glo "MarkError" (by decide))⟩ takes0 (fun W pn xe tk po => (pss_one (ps_asg (pe_dS D_read_rule hr (by decide) (by rfl) (fun σ => passAt tk σ) (pa_cons (uv 0) pa_nil)) (pg_name (i := 2) sc_law_asked.nd rfl (by first | exact Or.inl rfl | exact Or.inr rfl))))) (fun a oe cls d pn hz hf => (pss_one (ps_ret (pe_callX D_law_kind (L2H.roomH_of hr) (by decide) (by rfl) hz hf (uv 1))))))
    (pss_one (ps_ret (pe_ifExp (pt_truth (pe_callB call_isi rfl (Z.fre "isinstance" (by decide)) (by decide +kernel) (pa_cons (uv 2) (pa_cons (pe_glob (v := .ref (He.ga K "Rule")) rfl (Z.glo "Rule" (by decide)) rfl) pa_nil))) (by intro _; rfl)) (pe_lst (pa_cons pe_str (pa_cons (pe_mtd0 (uv 2) D_Rule_steps hr (by decide) pass0) pa_nil))) (pe_lst (pa_cons pe_str (pa_cons pe_non pa_nil)))))))
/-! def law(_law_script): -/
theorem sc_law : FnScope ["_law_script", "_law_k", "_law_box_here", "_law_steps_here", "_law_rule", "_law_whole", "_law_turn", "_law_odd", "_law_near", "_law_spoilt_here", "_law_some", "_law_thing", "_law_told", "_law_part", "_law_way"] ["_law_script"] (defScope s_law) := ⟨rfl, rfl, rfl, by decide +kernel, rfl, by decide +kernel, by decide +kernel⟩
def t_law (K : PySem.W.Frag) : TS := (tSeq (tFor (iRng1 (tCons (tCB uMax2 (tCons (tC (.int 2)) (tCons (tCB uMin2 (tCons (tCB (uLen K) (tCons (cV 0) tNil)) (tCons (tC (.int 4)) tNil))) tNil))) tNil)) (gName 1) (tSeq (tAsg (tCall (sp_law_box K) [] E0 (tCons (tCall (sp_law_cell K) [] E0 (tCons (cV 0) (tCons (cV 1) tNil))) tNil)) (gName 2))
  (tSeq (tAsg (tCall (sp_law_steps K) [] E0 (tCons (cV 2) tNil)) (gName 3))
  (tSeq (tAsg (tMake (He.ga K "Rule") (sp_Rule_init K) [] E0 (tCons (cV 3) tNil)) (gName 4))
  (tSeq (tAsg (tBM K "str" (uJoin K) (tC (.str ("" : Str))) (tCons (tLc (uIt K (cV 3)) (gTup K 2 (gCons (gName 13) (gCons (gName 14) gNil))) tYes (tOp uAdd (tOp uAdd (tOp uAdd (cV 13) (tC (.str (" " : Str)))) (cV 14)) (tC (.str ("\n" : Str)))) [13, 14]) tNil)) (gName 5))
  (tSeq (tFor (iRng1 (tCons (tC (.int 2)) tNil)) (gName 6) (tSeq (tAsg (tCall (sp_rule_text K) [] E0 (tCons (cV 4) tNil)) (gName 12))
  (tIfS (tOr (tNot (uTru K (tCB (rIsi K) (tCons (cV 12) (tCons (tC (.ty "str")) tNil))))) (tOr (tTest (tOp (uNe K) (cV 12) (cV 5))) (tTest (tOp (uNe K) (tMeth (He.ga K "Rule") "steps" (sp_Rule_steps K) [] E0 (cV 4) tNil) (cV 3))))) (tRet (tC (.bl false))) tNext)))
  (tSeq (tAsg (tOp (uIx K) (tLst (tCons (tC .non) (tCons (tC (.int 3)) (tCons (tC (.bl true)) (tCons (tLst (tCons (tC (.str ("year late" : Str))) tNil)) (tCons (tTup (tCons (tC (.str ("year" : Str))) (tCons (tC (.str ("late" : Str))) tNil))) (tCons (tDisp [((tC (.str ("year" : Str))), (tC (.str ("late" : Str))))]) (tCons (tC (.int 0)) (tCons (tLst tNil) (tCons (tC (.str ("" : Str))) tNil)))))))))) (tCall (sp_law_take K) [] E0 (tCons (cV 2) (tCons (tC (.int 9)) tNil)))) (gName 7))
  (tSeq (tAsg (tCall (sp_law_other_word K) [] E0 (tCons (cV 2) (tCons (cV 5) tNil))) (gName 8))
  (tSeq (tAsg (tCall (sp_law_spoilt K) [] E0 (tCons (cV 2) (tCons (cV 5) tNil))) (gName 9))
  (tSeq (tAsg (tLst (tCons (cV 5) (tCons (cV 8) (tCons (tCall (sp_law_other_word K) [] E0 (tCons (cV 2) (tCons (cV 8) tNil))) (tCons (cV 9) (tCons (tCall (sp_law_spoilt K) [] E0 (tCons (cV 2) (tCons (cV 9) tNil))) (tCons (tCall (sp_law_other_word K) [] E0 (tCons (cV 2) (tCons (cV 9) tNil))) tNil))))))) (gName 10))
  (tFor (uIt K (tOp uAdd (cV 10) (tLst (tCons (tOp uAdd (cV 5) (cV 5)) (tCons (tOp uMulS (tC (.str ("year late\n" : Str))) (tC (.int 7))) (tCons (cV 7) tNil)))))) (gName 11) (tFor (iRng1 (tCons (tC (.int 2)) tNil)) (gName 6) (tIfS (tTest (tOp (uNe K) (tCB (uRepr K) (tCons (tCall (sp_law_asked K) [] E0 (tCons (cV 11) tNil)) tNil)) (tCB (uRepr K) (tCons (tCall (sp_law_due K) [] E0 (tCons (cV 11) tNil)) tNil)))) (tRet (tC (.bl false))) tNext)))))))))))))
  (tRet (tC (.bl true))))
theorem dv_law {P : Program} {w : World} {K : PySem.W.Frag} {mg : Str → Option Value} {base : Heap} (Z : Zz P w K mg base) (D_law_cell : Dk P w K mg base CX0 1 "_law_cell" [] (sp_law_cell K)) (D_law_box : Dk P w K mg base CX0 1 "_law_box" [] (sp_law_box K)) (D_law_steps : Dk P w K mg base CX0 2 "_law_steps" [] (sp_law_steps K)) (D_Rule_init : Mkd P w K mg base (L2.CX P w) 5 "Rule" (He.ga K "Rule") [] (sp_Rule_init K)) (D_rule_text : Dk P w K mg base CX0 2 "rule_text" [] (sp_rule_text K)) (D_Rule_steps : Mtd P w K mg base CX0 1 (He.ga K "Rule") "steps" [] (sp_Rule_steps K)) (D_law_take : Dk P w K mg base CX0 1 "_law_take" [] (sp_law_take K)) (D_law_other_word : Dk P w K mg base CX0 2 "_law_other_word" [] (sp_law_other_word K)) (D_law_spoilt : Dk P w K mg base CX0 2 "_law_spoilt" [] (sp_law_spoilt K)) (D_law_asked : Dk P w K mg base CX0 8 "_law_asked" [] (sp_law_asked K)) (D_law_due : Dk P w K mg base CX0 3 "_law_due" [] (sp_law_due K)) {f : Addr} {cdv : Value} {A : Around} {outer : List Env} {s : Shared} {H : Hp} {E : XK} (hr : Room 8 (A.deeper (envOfC "law" (defScope s_law) s.heap.objs.size f cdv))) (hgu : (A.deeper (envOfC "law" (defScope s_law) s.heap.objs.size f cdv)).guards = some []) :
    PSs (cxOf CX0 P w K mg base ["_law_script", "_law_k", "_law_box_here", "_law_steps_here", "_law_rule", "_law_whole", "_law_turn", "_law_odd", "_law_near", "_law_spoilt_here", "_law_some", "_law_thing", "_law_told", "_law_part", "_law_way"] "law" (defScope s_law) f cdv A outer s H E).nox (defBody s_law) (t_law K) :=
  (pss_cons (ps_for PassesOwn.never rfl (pi_range1 (by rfl) (Z.fre "range" (by decide)) (pa_cons (pe_callB (call_uMax2 rfl) rfl (Z.fre "max" (by decide)) (by decide +kernel) (pa_cons pe_int (pa_cons (pe_callB (call_uMin2 rfl) rfl (Z.fre "min" (by decide)) (by decide +kernel) (pa_cons (pe_callB call_uLen rfl (Z.fre "len" (by decide)) (by decide +kernel) (pa_cons (uv 0) pa_nil)) (pa_cons pe_int pa_nil))) pa_nil))) pa_nil)) (pg_name (i := 1) sc_law.nd rfl (by first | exact Or.inl rfl | exact Or.inr rfl)) (pss_cons (ps_asg (pe_d D_law_box hr (by decide) rfl pass0 (pa_cons (pe_d D_law_cell hr (by decide) rfl pass0 (pa_cons (uv 0) (pa_cons (uv 1) pa_nil))) pa_nil)) (pg_name (i := 2) sc_law.nd rfl (by first | exact Or.inl rfl | exact Or.inr rfl)))
    (pss_cons (ps_asg (pe_d D_law_steps hr (by decide) rfl pass0 (pa_cons (uv 2) pa_nil)) (pg_name (i := 3) sc_law.nd rfl (by first | exact Or.inl rfl | exact Or.inr rfl)))
    (pss_cons (ps_asg (pe_mkd D_Rule_init hr (by decide) rfl passL0 (pa_cons (uv 3) pa_nil)) (pg_name (i := 4) sc_law.nd rfl (by first | exact Or.inl rfl | exact Or.inr rfl)))
    (pss_cons (ps_asg (pe_bm PySem.F.plainAttrs_str PySem.F.slot_str_join PySem.F.type_str_join mt_uJoin pe_str (pa_cons (pe_lc (own := [("_law_part", 13), ("_law_way", 14)]) rfl sc_law.nd (pi_u (uv 3)) (blkOk_by (own := [("_law_part", 13), ("_law_way", 14)]) (N := ["_law_script", "_law_k", "_law_box_here", "_law_steps_here", "_law_rule", "_law_whole", "_law_turn", "_law_odd", "_law_near", "_law_spoilt_here", "_law_some", "_law_thing", "_law_told", "_law_part", "_law_way"]) (sc := defScope s_law) (by decide +kernel)) (fun _ _ _ _ _ => (pg_tup rfl (pgs_cons (pg_name (i := 13) sc_law.nd rfl (by first | exact Or.inl rfl | exact Or.inr rfl)) (pgs_cons (pg_name (i := 14) sc_law.nd rfl (by first | exact Or.inl rfl | exact Or.inr rfl)) pgs_nil)))) (fun _ _ _ _ _ => pts_nil) (fun _ _ _ _ _ => (pe_op op_uAdd (pe_op op_uAdd (pe_op op_uAdd (uv 13) pe_str) (uv 14)) pe_str))) pa_nil)) (pg_name (i := 5) sc_law.nd rfl (by first | exact Or.inl rfl | exact Or.inr rfl)))
    (pss_cons (ps_for PassesOwn.never rfl (pi_range1 (by rfl) (Z.fre "range" (by decide)) (pa_cons pe_int pa_nil)) (pg_name (i := 6) sc_law.nd rfl (by first | exact Or.inl rfl | exact Or.inr rfl)) (pss_cons (ps_asg (pe_d D_rule_text hr (by decide) rfl pass0 (pa_cons (uv 4) pa_nil)) (pg_name (i := 12) sc_law.nd rfl (by first | exact Or.inl rfl | exact Or.inr rfl)))
    (pss_one (ps_if (PW.pt (pw_or (pt_not (pt_truth (pe_callB call_isi rfl (Z.fre "isinstance" (by decide)) (by decide +kernel) (pa_cons (uv 12) (pa_cons (pe_bltn (v := .ty "str") (by rfl) (Z.fre "str" (by decide)) (by decide +kernel) rfl) pa_nil))) (by intro _; rfl))) (pw_or (pt_cmpR (op_uNe hr.units) (uv 12) (uv 5) (nomark _)) (pw_or1 (pt_cmpR (op_uNe hr.units) (pe_mtd0 (uv 4) D_Rule_steps hr (by decide) pass0) (uv 3) (nomark _)))))) (pss_one (ps_ret pe_bl)) pss_nil))))
    (pss_cons (ps_asg (pe_ix ix_u (pe_lst (pa_cons pe_non (pa_cons pe_int (pa_cons pe_bl (pa_cons (pe_lst (pa_cons pe_str pa_nil)) (pa_cons (pe_tup (pa_cons pe_str (pa_cons pe_str pa_nil))) (pa_cons (pe_disp (pps_cons pe_str pe_str pps_nil) (by rfl) (by rfl) (fun z => by cases z) (by decide)) (pa_cons pe_int (pa_cons (pe_lst pa_nil) (pa_cons pe_str pa_nil)))))))))) (pe_d D_law_take hr (by decide) rfl pass0 (pa_cons (uv 2) (pa_cons pe_int pa_nil))) (fun _ _ => rfl)) (pg_name (i := 7) sc_law.nd rfl (by first | exact Or.inl rfl | exact Or.inr rfl)))
    (pss_cons (ps_asg (pe_d D_law_other_word hr (by decide) rfl pass0 (pa_cons (uv 2) (pa_cons (uv 5) pa_nil))) (pg_name (i := 8) sc_law.nd rfl (by first | exact Or.inl rfl | exact Or.inr rfl)))
    (pss_cons (ps_asg (pe_d D_law_spoilt hr (by decide) rfl pass0 (pa_cons (uv 2) (pa_cons (uv 5) pa_nil))) (pg_name (i := 9) sc_law.nd rfl (by first | exact Or.inl rfl | exact Or.inr rfl)))
    (pss_cons (ps_asg (pe_lst (pa_cons (uv 5) (pa_cons (uv 8) (pa_cons (pe_d D_law_other_word hr (by decide) rfl pass0 (pa_cons (uv 2) (pa_cons (uv 8) pa_nil))) (pa_cons (uv 9) (pa_cons (pe_d D_law_spoilt hr (by decide) rfl pass0 (pa_cons (uv 2) (pa_cons (uv 9) pa_nil))) (pa_cons (pe_d D_law_other_word hr (by decide) rfl pass0 (pa_cons (uv 2) (pa_cons (uv 9) pa_nil))) pa_nil))))))) (pg_name (i := 10) sc_law.nd rfl (by first | exact Or.inl rfl | exact Or.inr rfl)))
    (pss_one (ps_for PassesOwn.never rfl (pi_u (pe_op op_uAdd (uv 10) (pe_lst (pa_cons (pe_op op_uAdd (uv 5) (uv 5)) (pa_cons (pe_op op_uMulS pe_str pe_int) (pa_cons (uv 7) pa_nil)))))) (pg_name (i := 11) sc_law.nd rfl (by first | exact Or.inl rfl | exact Or.inr rfl)) (pss_one (ps_for PassesOwn.never rfl (pi_range1 (by rfl) (Z.fre "range" (by decide)) (pa_cons pe_int pa_nil)) (pg_name (i := 6) sc_law.nd rfl (by first | exact Or.inl rfl | exact Or.inr rfl)) (pss_one (ps_if (pt_cmpR (op_uNe hr.units) (pe_callB (call_uRepr Z.sys hgu hr.units) rfl (Z.fre "repr" (by decide)) (by decide +kernel) (pa_cons (pe_d D_law_asked hr (by decide) rfl pass0 (pa_cons (uv 11) pa_nil)) pa_nil)) (pe_callB (call_uRepr Z.sys hgu hr.units) rfl (Z.fre "repr" (by decide)) (by decide +kernel) (pa_cons (pe_d D_law_due hr (by decide) rfl pass0 (pa_cons (uv 11) pa_nil)) pa_nil)) (nomark _)) (pss_one (ps_ret pe_bl)) pss_nil))))))))))))))))
    (pss_one (ps_ret pe_bl)))
end K67

set_option Elab.async false
set_option linter.all false
set_option maxRecDepth 100000
set_option maxHeartbeats 4000000
/-! R67a: the readings of the program's defs. -/
namespace U
open PySem PySem.Spec PyProof.Rows L2
theorem same_new {H : Hp} {p : Addr} {o : HO} (h : H p = none) : Same H (upd H p o) := fun a u e => by rw [upd_ne (ne_of_none e h)]; exact e
theorem inV_strs (x : Str) (ys : List Str) : inV (.str x) (ys.map V.str) = decide (x ∈ ys) := by
  unfold inV
  induction ys with
  | nil => rfl
  | cons y ys ih =>
    rw [List.map_cons, List.any_cons, ih]
    have e : eqV (.str y) (.str x) = (y == x) := rfl
    rw [e]
    by_cases h : y = x
    · subst h; simp
    · have h' : ¬ x = y := fun q => h q.symm
      simp [h, h']
theorem flat_strs (ys : List Str) : (ys.map V.str).all flatV = true := by
  rw [List.all_eq_true]
  intro v hv
  obtain ⟨y, _, rfl⟩ := List.mem_map.mp hv
  rfl
def isStrD : PyData → Bool
  | .str _ => true
  | _ => false
theorem tyx_l {K : PySem.W.Frag} {H : Hp} {a : Addr} {xs : List V} (h : SqL K H a xs) : TyX K H (.ref a) (.type "list") := by
  rcases h with (h | ⟨o, h⟩) | ⟨o, its, n, h1, h2, _⟩
  · exact .base (.lst h)
  · exact .base (.frz h)
  · exact .kList h1 h2
theorem tyx_t {K : PySem.W.Frag} {H : Hp} {a : Addr} {xs : List V} (h : SqT K H a xs) : TyX K H (.ref a) (.type "tuple") := by
  rcases h with (h | ⟨o, h⟩) | ⟨o, its, n, h1, h2, _⟩
  · exact .base (.tup h)
  · exact .fTuple h
  · exact .kTuple h1 h2
/-- isinstance(v, str) of a reprable v -/
theorem rp_str {K : PySem.W.Frag} {H : Hp} {v : V} {d : PyData} (h : Rp K H v d) : ∃ t, TyX K H v t ∧ PySem.W.kitOne K t (.type "str") = some (isStrD d) := by
  cases h with
  | non => exact ⟨_, .base .non, kit_ty (a := "NoneType") (b := "str") (r := false) (by decide +kernel)⟩
  | bl b => exact ⟨_, .base (.bl b), kit_ty (a := "bool") (b := "str") (r := false) (by decide +kernel)⟩
  | int i => exact ⟨_, .base (.int i), kit_ty (a := "int") (b := "str") (r := false) (by decide +kernel)⟩
  | str x => exact ⟨_, .base (.str x), kit_ty (a := "str") (b := "str") (r := true) (by decide +kernel)⟩
  | lst hs _ => exact ⟨_, tyx_l hs, kit_ty (a := "list") (b := "str") (r := false) (by decide +kernel)⟩
  | tup hs _ => exact ⟨_, tyx_t hs, kit_ty (a := "tuple") (b := "str") (r := false) (by decide +kernel)⟩
  | dic h => exact ⟨_, .base (.dK h), kit_ty (a := "dict") (b := "str") (r := false) (by decide +kernel)⟩
theorem rIsi_str {K : PySem.W.Frag} {H : Hp} {v : V} {d : PyData} {Q : VK} (h : Rp K H v d) (q : Q (.bl (isStrD d)) H) : rIsi K [v, .ty "str"] H Q := by
  obtain ⟨t, h1, h2⟩ := rp_str h
  exact ⟨v, .ty "str", t, _, _, rfl, .ty _, h1, h2, q⟩
theorem rIsi_of {K : PySem.W.Frag} {H : Hp} {v : V} {t : Value} {n : String} {b : Bool} {Q : VK} (h1 : TyX K H v t) (h2 : PySem.W.kitOne K t (.type n) = some b) (q : Q (.bl b) H) : rIsi K [v, .ty n] H Q := ⟨v, .ty n, t, _, _, rfl, .ty _, h1, h2, q⟩
end U
namespace K67
open PySem PySem.Spec PyProof.Rows L2 U
def excs : List Str := ["NoText", "Twice", "NoSteps", "NoStep", "NoPart", "NoWay", "NoRow"]
/-- what the written part says -/
structure Fx (K : PySem.W.Frag) : Prop where
  oex : ∀ c, excs.contains c = true → OexC K (He.ga K c)
  no : ∀ c, excs.contains c = true → PySem.W.findIn K (.ref (He.ga K c)) "found" = some none
  cl : Cls K (He.ga K "Rule")
  na : NoAttr K (He.ga K "Rule") "kept_steps"
  ha : PySem.W.findIn K (.ref (He.ga K "Rule")) "__class__" = some (some (.builtin "object.__class__"))
  hn : PySem.W.specialIn K (.builtin "object.__class__") "__get__" = some (some (.builtin "getset_descriptor.__get__"))
  ht : PySem.W.takesIn K (.builtin "object.__class__") = some true
  hm : PySem.W.mroIn K (He.ga K "Rule") (.type "object") = some true
  kit : ∀ c c', excs.contains c = true → excs.contains c' = true → PySem.W.kitOne K (.ref (He.ga K c)) (.ref (He.ga K c')) = some (decide (c = c'))
  exm : ∀ c, excs.contains c = true → PySem.W.exmOne K (.ref (He.ga K c)) (.ref (He.ga K "MarkError")) = some true
  exc : ∀ c, excs.contains c = true → ExcC K (He.ga K c)
  xf : ∀ c, excs.contains c = true → XfC K (He.ga K c)
  kitR : PySem.W.kitOne K (.ref (He.ga K "Rule")) (.ref (He.ga K "Rule")) = some true
  parts : ∀ H, SqT K H (He.ga K "PARTS") (PARTSl.map V.str)
theorem rd_raise {K : PySem.W.Frag} (F : Fx K) {c : Str} (hc : excs.contains c = true) {v : V} {E : XK} {σ : L2.St} {H : Hp} (h : ErrS H (He.ga K c) "found" v E) : RaiseA K (He.ga K c) "found" (fun cls d _ H => E cls d H) σ v H :=
  raise_of (F.oex c hc) (F.no c hc) fun d hd => h d _ (same_new hd) hd upd_same
theorem len2 : (BL : Str).length = 1 := rfl
theorem rd_words_in {K : PySem.W.Frag} {vs : List V} {H : Hp} {Q : VK} {E : XK} (h : sp_words_in K vs H Q E) : t_words_in K { nx := fun _ H' => Q .non H', rt := Q } (L2.start ["row", "many", "words"] vs) H := by
  obtain ⟨r, rfl, ht, h1, h2⟩ := h
  change t_words_in K _ [some (oV r), some (.int 2), none] H
  refine ⟨rfl, _, rfl, ?_⟩
  cases r with
  | none => exact h1 rfl H (Same.refl H)
  | some x =>
    have hx := ht x rfl
    refine ⟨rfl, (by decide : ((BL : Str).length == 0) = false), (by have : x.length ≤ 1000 := hx.1; rw [sizeLine_eq]; omega), fun p hp => ?_⟩
    have e1 := h1
    have e2 := h2
    have s1 : Same H (upd H p (.lst ((Txt.split x BL).map V.str))) := same_new hp
    have sq : SqL K (upd H p (.lst ((Txt.split x BL).map V.str))) p ((Txt.split x BL).map V.str) := .inl (.inl upd_same)
    have eq2 : ((.int (((Txt.split x BL).map V.str).length : Nat) : V) = .int 2) ↔ (Txt.split x BL).length = 2 := by
      rw [List.length_map]
      constructor
      · intro e; have := V.int.inj e; omega
      · intro e; rw [e]; rfl
    refine ⟨_, .inl sq, .inl ⟨rfl, _, rfl, ?_⟩⟩
    refine iteD (fun hl => ?_) (fun hl => ?_)
    · rw [eq2] at hl
      refine ⟨_, .inl sq, rfl, flat_strs _, _, rfl, ?_⟩
      rw [inV_strs]
      obtain ⟨a, b, e⟩ : ∃ a b, Txt.split x BL = [a, b] := by
        match h : Txt.split x BL, hl with
        | [a, b], _ => exact ⟨a, b, rfl⟩
      refine iteB (fun hb => ?_) (fun hb => ?_)
      · have nb : ¬ (a = "" ∨ b = "") := by
          rw [e] at hb
          simp only [Bool.not_eq_true', decide_eq_false_iff_not, List.mem_cons, List.not_mem_nil, or_false, not_or] at hb
          exact fun z => z.elim (fun z => hb.1 z.symm) fun z => hb.2 z.symm
        have ew : word2 x = some (a, b) := by unfold word2; rw [e]; simp only [if_neg nb]
        refine e2 (a, b) ew p _ s1 hp ?_
        rw [upd_same, e]
        rfl
      · have nb : (a = "" ∨ b = "") := by
          rw [e] at hb
          simp only [Bool.not_eq_false', decide_eq_true_eq, List.mem_cons, List.not_mem_nil, or_false] at hb
          exact hb.elim (fun z => .inl z.symm) fun z => .inr z.symm
        have ew : word2 x = none := by unfold word2; rw [e]; simp only [if_pos nb]
        exact e1 ew _ s1
    · rw [eq2] at hl
      have ew : word2 x = none := by
        unfold word2
        split
        · rename_i a b e; rw [e] at hl; exact absurd rfl hl
        · rfl
      exact e1 ew _ s1
end K67

set_option Elab.async false
set_option linter.all false
set_option maxRecDepth 100000
set_option maxHeartbeats 4000000
/-! R67b: readings of the program's defs, on. -/
namespace U
open PySem PySem.Spec PyProof.Rows L2
theorem take_succ {α : Type} {l : List α} {i : Nat} {a : α} (h : l[i]? = some a) : l.take (i + 1) = l.take i ++ [a] := by
  rw [List.take_add_one, h]
  rfl
/-- a comprehension whose filter and element leave the heap as it is -/
theorem lc_filt {J : It} {G : Hp → Prop} {xs : List V} {tt : TT} {te : TE} {vs : List Nat} {σ : L2.St} {H1 : Hp} {D : Addr} {j : Nat} {Qd : Hp → Prop} (p : V → Bool) (f : V → V) (w : Walk J xs.length G (YAt xs)) (hG : ∀ ys, G (upd H1 D (.lst ys))) (hn : xs.length ≤ sizeLine)
    (hw : ∀ x, wipe ((wipe σ vs).set j (some x)) vs = wipe σ vs) (ht : ∀ x ys (Q : Bool → Hp → Prop), x ∈ xs → Q (p x) (upd H1 D (.lst ys)) → tt ((wipe σ vs).set j (some x)) (upd H1 D (.lst ys)) Q)
    (hs : ∀ x ys (Q : VK), x ∈ xs → p x = true → Q (f x) (upd H1 D (.lst ys)) → te ((wipe σ vs).set j (some x)) (upd H1 D (.lst ys)) Q) (hd : Qd (upd H1 D (.lst ((xs.filter p).map f)))) :
    ∃ W : Nat → Nat → Hp → Prop, (∃ m, W 0 m (upd H1 D (.lst []))) ∧ ∀ i m H, W i m H →
      (J.stop i H ∧ Qd H) ∨ (J.go i H ∧ ∃ Nx : Hp → Prop, (∀ H', Nx H' → ∃ m', m' < m ∧ W (i + 1) m' H') ∧ ∀ x H', J.yld i H x H' → gName j x (wipe σ vs) H' fun σ2 H2 => wipe σ2 vs = wipe σ vs ∧ tt σ2 H2 fun b H3 =>
        if b = true then te σ2 H3 fun y H4 => ∃ acc, H4 D = some (.lst acc) ∧ acc.length < sizeLine ∧ Nx (upd H4 D (.lst (acc ++ [y]))) else Nx H3) := by
  refine lc_it w (fun i H => H = upd H1 D (.lst (((xs.take i).filter p).map f))) (by simp) (fun i H _ h => by rw [h]; exact hG _) (fun i x H H' hi hP hy => ?_) (fun H h => by
    have h' : H = upd H1 D (.lst (((xs.take xs.length).filter p).map f)) := h
    rw [List.take_length] at h'
    rw [h']
    exact hd)
  have hP' : H = upd H1 D (.lst (((xs.take i).filter p).map f)) := hP
  obtain ⟨e1, e2⟩ := hy
  subst e1
  subst hP'
  refine ⟨hw x, ht x _ _ (List.mem_of_getElem? e2) (iteB (fun hb => ?_) fun hb => ?_)⟩
  · refine hs x _ _ (List.mem_of_getElem? e2) hb ⟨_, upd_same, ?_, ?_⟩
    · rw [List.length_map]
      have := List.length_filter_le p (xs.take i)
      rw [List.length_take] at this
      omega
    · show _ = upd H1 D (.lst (((xs.take (i + 1)).filter p).map f))
      rw [upd_upd, take_succ e2, List.filter_append, List.map_append]
      simp [List.filter, hb]
  · show _ = upd H1 D (.lst (((xs.take (i + 1)).filter p).map f))
    rw [take_succ e2, List.filter_append, List.map_append]
    simp [List.filter, hb]
theorem lc_each {J : It} {G : Hp → Prop} {xs : List V} {te : TE} {vs : List Nat} {σ : L2.St} {H1 : Hp} {D : Addr} {j : Nat} {Qd : Hp → Prop} (f : V → V) (w : Walk J xs.length G (YAt xs)) (hG : ∀ ys, G (upd H1 D (.lst ys))) (hn : xs.length ≤ sizeLine)
    (hw : ∀ x, wipe ((wipe σ vs).set j (some x)) vs = wipe σ vs)
    (hs : ∀ x ys (Q : VK), x ∈ xs → Q (f x) (upd H1 D (.lst ys)) → te ((wipe σ vs).set j (some x)) (upd H1 D (.lst ys)) Q) (hd : Qd (upd H1 D (.lst (xs.map f)))) :
    ∃ W : Nat → Nat → Hp → Prop, (∃ m, W 0 m (upd H1 D (.lst []))) ∧ ∀ i m H, W i m H →
      (J.stop i H ∧ Qd H) ∨ (J.go i H ∧ ∃ Nx : Hp → Prop, (∀ H', Nx H' → ∃ m', m' < m ∧ W (i + 1) m' H') ∧ ∀ x H', J.yld i H x H' → gName j x (wipe σ vs) H' fun σ2 H2 => wipe σ2 vs = wipe σ vs ∧ tYes σ2 H2 fun b H3 =>
        if b = true then te σ2 H3 fun y H4 => ∃ acc, H4 D = some (.lst acc) ∧ acc.length < sizeLine ∧ Nx (upd H4 D (.lst (acc ++ [y]))) else Nx H3) :=
  lc_filt (fun _ => true) f w hG hn hw (fun x ys Q _ q => q) (fun x ys Q hx _ q => hs x ys Q hx q) (by
    have e : xs.filter (fun _ => true) = xs := by simp
    rw [e]
    exact hd)
end U
namespace K67
open PySem PySem.Spec PyProof.Rows L2 U
theorem rd_split_rows {K : PySem.W.Frag} (F : Fx K) {vs : List V} {H : Hp} {Q : VK} {E : XK} (h : sp_split_rows K vs H Q E) : t_split_rows K E { nx := fun _ H' => Q .non H', rt := Q } (L2.start ["text", "rows", "last"] vs) H := by
  obtain ⟨v, d, rfl, hr, h1, h2⟩ := h
  change t_split_rows K E _ [some v, none, none] H
  obtain ⟨ty, hy1, hy2⟩ := rp_str hr
  refine ⟨v, .ty "str", ty, _, _, rfl, .ty _, hy1, hy2, ⟨_, rfl, ?_⟩⟩
  refine iteB (fun hb => ?_) (fun hb => ?_)
  · refine rd_raise (σ := []) F rfl (h2 fun x e => ?_)
    rw [e] at hb
    cases hb
  · obtain ⟨x, e⟩ : ∃ x, d = .str x := by
      cases d <;> first | exact ⟨_, rfl⟩ | cases hb
    subst e
    cases hr
    obtain ⟨ht, hq⟩ := h1 x rfl
    have hl : x.length ≤ 1000 := ht.1
    refine ⟨rfl, (by decide : ((NL : Str).length == 0) = false), (by rw [sizeLine_eq]; omega), fun p hp => ?_⟩
    obtain ⟨ini, last, e⟩ : ∃ ini last, Txt.split x NL = ini ++ [last] := ⟨_, _, (List.dropLast_concat_getLast (split_ne x NL rfl)).symm⟩
    have er : rowsO x = if last = "" then ini.map some else ini.map some ++ [none] := by
      unfold rowsO
      rw [e]
      simp
    have em : (Txt.split x NL).map V.str = ini.map V.str ++ [.str last] := by rw [e]; simp
    rw [em]
    have s1 : ∀ ys, Same H (upd H p (.lst ys)) := fun ys => same_new hp
    refine ⟨.inl ⟨rfl, _, .inl (.inl upd_same)⟩, _, .str last, upd_same, by simp, ?_⟩
    rw [upd_upd, List.dropLast_concat]
    refine .inl ⟨rfl, _, rfl, ?_⟩
    refine iteD (fun hl => ?_) (fun hl => ?_)
    · have hl' : last = "" := V.str.inj hl
      refine hq p _ (s1 _) hp ?_
      rw [upd_same, er, if_pos hl', List.map_map]
      rfl
    · have hl' : ¬ last = "" := fun z => hl (by rw [z])
      refine ⟨(by decide : 1 ≤ sizeLine), fun q hq2 => ⟨ini.map V.str, [.non], ?_, upd_same, ?_, fun r hr => ?_⟩⟩
      · rw [upd_ne (ne_of_none upd_same hq2), upd_same]
      · have z := split_sum x NL rfl
        rw [e] at z
        rw [List.length_append] at z
        rw [List.length_map, sizeLine_eq]
        show ini.length + 1 ≤ _
        simp only [List.length_cons, List.length_nil] at z
        omega
      · have sr : Same H (upd (upd H p (.lst (ini.map V.str))) q (.lst [.non])) := (s1 _).trans (same_new hq2)
        refine hq r _ (sr.trans (same_new hr)) (Same.free sr hr) ?_
        rw [upd_same, er, if_neg hl', List.map_append, List.map_map]
        rfl
theorem rd_whole_text {K : PySem.W.Frag} {vs : List V} {H : Hp} {Q : VK} {E : XK} (h : sp_whole_text K vs H Q E) : t_whole_text K { nx := fun _ H' => Q .non H', rt := Q } (L2.start ["rows", "row"] vs) H := by
  obtain ⟨a, ys, rfl, hs, hn, hb, hq⟩ := h
  change t_whole_text K _ [some (.ref a), none] H
  have hn' : ys.length ≤ 1000 := hn
  have hlen : (ys.map V.str).length ≤ sizeLine := by rw [List.length_map, sizeLine_eq]; omega
  refine ⟨rfl, .inl ⟨⟨_, hs⟩, fun D hD => ?_⟩⟩
  refine lc_each (fun v => match v with | .str y => .str (y ++ NL) | _ => .non) walk_list (fun zs => (same_new hD).seq hs) hlen (fun x => rfl) (fun x zs Q' hx q => ?_) ?_
  · obtain ⟨y, hy, rfl⟩ := List.mem_map.mp hx
    have := hb y hy
    have hy' : y.length ≤ 1000 := this
    exact ⟨(by rw [sizeLine_eq]; show y.length + 1 ≤ _; omega), q⟩
  · refine ⟨ys.map (· ++ NL), .inl (.inl (.inl ?_)), ?_, hq _ (same_new hD)⟩
    · rw [upd_same, List.map_map, List.map_map]
      rfl
    · have z : (((ys.map (· ++ NL)).map (·.length)).sum) ≤ (ys.map (· ++ NL)).length * 1001 := by
        have : ∀ l : List Str, (∀ y ∈ l, y.length ≤ 1001) → (l.map (·.length)).sum ≤ l.length * 1001 := by
          intro l
          induction l with
          | nil => intro _; simp
          | cons y l ih =>
            intro hl
            have h1 := hl y (List.mem_cons_self ..)
            have h2 := ih fun z hz => hl z (List.mem_cons_of_mem _ hz)
            rw [List.map_cons, List.sum_cons, List.length_cons, Nat.succ_mul]
            omega
        refine this _ fun y hy => ?_
        obtain ⟨z, hz, rfl⟩ := List.mem_map.mp hy
        have h1 : z.length ≤ 1000 := hb z hz
        rw [len_app]
        show z.length + 1 ≤ _
        omega
      rw [List.length_map] at z ⊢
      show _ + ys.length * 0 ≤ _
      omega
end K67

set_option Elab.async false
set_option linter.all false
set_option maxRecDepth 100000
set_option maxHeartbeats 4000000
/-! R67c: readings of the program's defs, on. -/
namespace U
open PySem PySem.Spec PyProof.Rows L2
/-- a comprehension whose elements are known by their places -/
theorem lc_zs {J : It} {G : Hp → Prop} {xs zs : List V} {te : TE} {vs : List Nat} {σ : L2.St} {H1 : Hp} {D : Addr} {j : Nat} {Qd : Hp → Prop} (w : Walk J xs.length G (YAt xs)) (hz : zs.length = xs.length) (hG : ∀ ys, G (upd H1 D (.lst ys))) (hn : xs.length ≤ sizeLine)
    (hw : ∀ x, wipe ((wipe σ vs).set j (some x)) vs = wipe σ vs)
    (hs : ∀ (i : Nat) (x z : V) (ys : List V) (Q : VK), xs[i]? = some x → zs[i]? = some z → Q z (upd H1 D (.lst ys)) → te ((wipe σ vs).set j (some x)) (upd H1 D (.lst ys)) Q) (hd : Qd (upd H1 D (.lst zs))) :
    ∃ W : Nat → Nat → Hp → Prop, (∃ m, W 0 m (upd H1 D (.lst []))) ∧ ∀ i m H, W i m H →
      (J.stop i H ∧ Qd H) ∨ (J.go i H ∧ ∃ Nx : Hp → Prop, (∀ H', Nx H' → ∃ m', m' < m ∧ W (i + 1) m' H') ∧ ∀ x H', J.yld i H x H' → gName j x (wipe σ vs) H' fun σ2 H2 => wipe σ2 vs = wipe σ vs ∧ tYes σ2 H2 fun b H3 =>
        if b = true then te σ2 H3 fun y H4 => ∃ acc, H4 D = some (.lst acc) ∧ acc.length < sizeLine ∧ Nx (upd H4 D (.lst (acc ++ [y]))) else Nx H3) := by
  refine lc_it w (fun i H => H = upd H1 D (.lst (zs.take i))) (by simp) (fun i H _ h => by rw [h]; exact hG _) (fun i x H H' hi hP hy => ?_) (fun H h => by
    have h' : H = upd H1 D (.lst (zs.take xs.length)) := h
    rw [← hz, List.take_length] at h'
    rw [h']
    exact hd)
  have hP' : H = upd H1 D (.lst (zs.take i)) := hP
  obtain ⟨e1, e2⟩ := hy
  subst e1
  subst hP'
  have ez : zs[i]? = some (zs[i]'(by omega)) := by simp [hz, hi]
  have ty : ∀ (σ' : L2.St) (H' : Hp) (Q : Bool → Hp → Prop), Q true H' → tYes σ' H' Q := fun _ _ _ q => q
  refine ⟨hw x, ty _ _ _ (iteB (fun _ => ?_) fun hb => by cases hb)⟩
  refine hs i x _ _ _ e2 ez ⟨_, upd_same, ?_, ?_⟩
  · rw [List.length_take]
    omega
  · show _ = upd H1 D (.lst (zs.take (i + 1)))
    rw [upd_upd, take_succ ez]
theorem ErrS.up {H H' : Hp} {C : Addr} {f : Str} {v : V} {E : XK} (h : ErrS H C f v E) (e : Same H H') : ErrS H' C f v E := fun dd H2 s n x => h dd H2 (e.trans s) (Same.free e n) x
theorem dpAll_i {K : PySem.W.Frag} {H : Hp} {vs : List V} {ds : List PyData} {i : Nat} {v : V} {d : PyData} (h : DpAll K H vs ds) (e1 : vs[i]? = some v) (e2 : ds[i]? = some d) : Dp K H v d := by
  obtain ⟨d', e3, q⟩ := dpAll_at h e1
  rw [e2] at e3
  cases e3
  exact q
end U
namespace K67
open PySem PySem.Spec PyProof.Rows L2 U
theorem pair_at {K : PySem.W.Frag} {H : Hp} {v : V} {t : Pr} (h : Dp K H v (pairD t)) : ∃ a, v = .ref a ∧ SqT K H a [.str t.1, .str t.2] := by
  obtain ⟨a, xs, rfl, hs, ha⟩ := dp_tuple h
  cases ha with
  | cons h1 h2 =>
    cases h2 with
    | cons h2 h3 =>
      cases h3
      rw [dp_str h1, dp_str h2] at hs
      exact ⟨a, rfl, hs⟩
def wayP (p : Str) : V → Bool := fun v => match v with
  | .str k => Txt.startswith k (Str.empty ++ p ++ BL)
  | _ => false
def wayF (p : Str) : V → V := fun v => match v with
  | .str k => .str (cutS k (some ((p.length : Int) + 1)) none)
  | _ => .non
theorem ways_tab : ∀ p ∈ PARTSl, (((ks_KEYS.map V.str).filter (wayP p)).map (wayF p)) = (waysOf p).map V.str := by
  intro p hp
  unfold PARTSl at hp
  simp only [List.mem_cons, List.not_mem_nil, or_false] at hp
  rcases hp with rfl | rfl | rfl | rfl | rfl | rfl <;> decide +kernel
theorem keys_len : ∀ k ∈ ks_KEYS, k.length ≤ sizeLine := by
  have h : ∀ k ∈ ks_KEYS, k.length ≤ 1000 := by decide +kernel
  intro k hk
  have := h k hk
  rw [sizeLine_eq]
  omega
theorem rd_ways {K : PySem.W.Frag} (F : Fx K) {vs : List V} {H : Hp} {Q : VK} {E : XK} (h : sp_ways K vs H Q E) : t_ways K E { nx := fun _ H' => Q .non H', rt := Q } (L2.start ["part", "row"] vs) H := by
  obtain ⟨p, rfl, hp, h1, h2⟩ := h
  have hp' : p.length ≤ 1000 := hp
  change t_ways K E _ [some (.str p), none] H
  refine ⟨.str p, .ty "str", .type "str", _, true, rfl, .ty _, .base (.str p), kit_ty (by decide +kernel), ⟨_, rfl, ?_⟩⟩
  refine iteB (fun hb => by cases hb) (fun _ => ?_)
  refine ⟨PARTSl.map V.str, .inr (F.parts H), rfl, flat_strs _, ⟨_, rfl, ?_⟩⟩
  rw [inV_strs]
  refine iteB (fun hb => ?_) (fun hb => ?_)
  · refine rd_raise (σ := []) F rfl (h2 ?_)
    simpa using hb
  · have hm : p ∈ PARTSl := by simpa using hb
    refine fun D hD => ?_
    have hks : ks_KEYS.length ≤ sizeLine := by rw [sizeLine_eq]; decide
    have wk : Walk (Itkd ks_KEYS) (ks_KEYS.map V.str).length (fun _ => True) (YAt (ks_KEYS.map V.str)) := by
      rw [List.length_map]
      refine walk_kd.mono (fun _ h => h) fun i H x H' hi _ y => ?_
      obtain ⟨e, k, e1, e2⟩ := y
      exact ⟨e, by rw [List.getElem?_map, e1, e2]; rfl⟩
    refine lc_filt (wayP p) (wayF p) wk (fun _ => trivial) (by rw [List.length_map]; exact hks) (fun x => rfl) (fun x ys Q' hx q => ?_) (fun x ys Q' hx _ q => ?_) ?_
    · obtain ⟨k, hk, rfl⟩ := List.mem_map.mp hx
      refine ⟨rfl, .inl ⟨p, rfl, (by rw [sizeLine_eq]; omega), ⟨p, rfl, ?_, ⟨BL, rfl, ?_, ⟨_, rfl, q⟩⟩⟩⟩⟩
      · rw [len_app, sizeLine_eq]
        show 0 + p.length ≤ _
        omega
      · rw [len_app, len_app, sizeLine_eq]
        show 0 + p.length + 1 ≤ _
        omega
    · obtain ⟨k, hk, rfl⟩ := List.mem_map.mp hx
      exact ⟨(by rw [sizeLine_eq]; omega), ⟨_, rfl, ⟨keys_len k hk, q⟩⟩⟩
    · refine h1 hm D _ (same_new hD) hD ?_
      rw [upd_same, ways_tab p hm]
theorem chk1_part {done : List Str} {t : Pr} (h : t.1 ∉ PARTSl) : chk1 done t = some ⟨"NoPart", "part", .str t.1⟩ := by unfold chk1; rw [if_pos h]
theorem chk1_way {done : List Str} {t : Pr} (h : t.1 ∈ PARTSl) (h2 : t.2 ∉ waysOf t.1) : chk1 done t = some ⟨"NoWay", "way", .str t.2⟩ := by
  unfold chk1
  rw [if_neg (fun z => z h), if_pos h2]
theorem chk1_two {done : List Str} {t : Pr} (h : t.1 ∈ PARTSl) (h2 : t.2 ∈ waysOf t.1) (h3 : t.1 ∈ done) : chk1 done t = some ⟨"Twice", "twice", .str t.1⟩ := by
  unfold chk1
  rw [if_neg (fun z => z h), if_neg (fun z => z h2), if_pos h3]
theorem chk1_ok {done : List Str} {t : Pr} (h : t.1 ∈ PARTSl) (h2 : t.2 ∈ waysOf t.1) (h3 : t.1 ∉ done) : chk1 done t = none := by
  unfold chk1
  rw [if_neg (fun z => z h), if_neg (fun z => z h2), if_neg h3]
theorem rd_need_step {K : PySem.W.Frag} (F : Fx K) {vs : List V} {H : Hp} {Q : VK} {E : XK} (h : sp_need_step K vs H Q E) : t_need_step K E { nx := fun _ H' => Q .non H', rt := Q } (L2.start ["step", "ahead", "part", "way", "row"] vs) H := by
  obtain ⟨st, a, W, t, done, xs, rfl, sW, hst, htl, hsq, hxs, hdn, hok, hno⟩ := h
  change t_need_step K E _ [some (.ref st), some (.ref a), none, none, none] H
  obtain ⟨st', e1, hT⟩ := pair_at hst
  cases e1
  have hTH := sqT_mono sW hT
  refine ⟨.ref st, .ty "tuple", .type "tuple", _, true, rfl, .ty _, tyx_t hTH, kit_ty (by decide +kernel), ⟨_, rfl, ?_⟩⟩
  refine iteB (fun hb => by cases hb) (fun _ => ?_)
  refine ⟨_, .inr hTH, .inl ⟨rfl, _, rfl, ?_⟩⟩
  refine iteB (fun hb => by simp at hb) (fun _ => ?_)
  refine ⟨st, _, rfl, hTH, rfl, _, _, rfl, _, _, rfl, rfl, ?_⟩
  refine ⟨t.1, rfl, htl, fun hp l H1 s1 hl e1 => ?_, fun hp => hno _ (.str t.1) (chk1_part hp) (.str _)⟩
  refine ⟨(waysOf t.1).map V.str, .inl (.inl (.inl e1)), rfl, flat_strs _, ⟨_, rfl, ?_⟩⟩
  rw [inV_strs]
  refine iteB (fun hb => ?_) (fun hb => ?_)
  · have hw : t.2 ∉ waysOf t.1 := by simpa using hb
    exact rd_raise (σ := []) F rfl ((hno _ (.str t.2) (chk1_way hp hw) (.str _)).up s1)
  · have hw : t.2 ∈ waysOf t.1 := by simpa using hb
    have hsq1 := s1.seq hsq
    have hlen : done.length = xs.length := by have := dpAll_len hxs; rw [List.length_map] at this; exact this.symm
    have hdn' : done.length ≤ 1000 := hdn
    have hz : xs.length ≤ sizeLine := by rw [sizeLine_eq]; omega
    refine .inl ⟨⟨xs, hsq1⟩, fun D hD => ?_⟩
    refine lc_zs (zs := done.map fun u => V.str u.1) walk_list (by rw [List.length_map, hlen]) (fun ys => (same_new hD).seq hsq1) hz (fun x => rfl) (fun i x z ys Q' ex ez q => ?_) ?_
    · have ed : ∃ u, done[i]? = some u ∧ z = .str u.1 := by
        rw [List.getElem?_map] at ez
        cases e : done[i]? with
        | none => rw [e] at ez; cases ez
        | some u => rw [e] at ez; cases ez; exact ⟨u, rfl, rfl⟩
      obtain ⟨u, eu, rfl⟩ := ed
      have hd : Dp K W x (pairD u) := dpAll_i hxs ex (by rw [List.getElem?_map, eu]; rfl)
      obtain ⟨b, rfl, hb⟩ := pair_at hd
      exact ⟨_, _, .inr (sqT_mono (sW.trans (s1.trans (same_new hD))) hb), rfl, q⟩
    · refine ⟨(done.map Prod.fst).map V.str, .inl (.inl (.inl ?_)), rfl, flat_strs _, ⟨_, rfl, ?_⟩⟩
      · rw [upd_same, List.map_map]
        rfl
      · rw [inV_strs]
        have s2 := s1.trans (same_new (o := .lst (done.map fun u => V.str u.1)) hD)
        refine iteB (fun hb => ?_) (fun hb => ?_)
        · have hi : t.1 ∈ done.map Prod.fst := by simpa using hb
          exact rd_raise (σ := []) F rfl ((hno _ (.str t.1) (chk1_two hp hw hi) (.str _)).up s2)
        · have hi : t.1 ∉ done.map Prod.fst := by simpa using hb
          exact hok (chk1_ok hp hw hi) _ s2
end K67

set_option Elab.async false
set_option linter.all false
set_option maxRecDepth 100000
set_option maxHeartbeats 4000000
/-! R67d: readings of the program's defs, on. -/
namespace K67
open PySem PySem.Spec PyProof.Rows L2 U
theorem rd_Rule_steps {K : PySem.W.Frag} (F : Fx K) {vs : List V} {H : Hp} {Q : VK} {E : XK} (h : sp_Rule_steps K vs H Q E) : t_Rule_steps K { nx := fun _ H' => Q .non H', rt := Q } (L2.start ["self"] vs) H := by
  obtain ⟨x, W, ts, rfl, sW, ⟨dx, l, hx, hl⟩, k⟩ := h
  change t_Rule_steps K _ [some (.ref x)] H
  obtain ⟨l', xs, e, hs, ha⟩ := dp_list hl
  cases e
  refine ⟨x, _, dx, _, .ref l, rfl, sW _ _ hx, F.cl, F.na, rfl, l, xs, rfl, .inl (sW.seq hs), fun p hp => ?_⟩
  exact k _ _ _ (Gr.new sW hp) (.lst (.inl (.inl upd_same)) (U.DpAll.up ha (same_new (Same.free sW hp))))
theorem mkR_len {ts : List Pr} (h : ¬ (1 ≤ ts.length ∧ ts.length ≤ 6)) : mkR ts = some ⟨"NoSteps", "steps", .list (ts.map pairD)⟩ := by unfold mkR; rw [if_neg h]
theorem mkR_in {ts : List Pr} (h1 : 1 ≤ ts.length) (h2 : ts.length ≤ 6) : mkR ts = chk [] ts := by unfold mkR; rw [if_pos ⟨h1, h2⟩]
theorem chk_snoc {ts : List Pr} {i : Nat} {t : Pr} (e : ts[i]? = some t) (h : chk [] (ts.take i) = none) : chk [] (ts.take (i + 1)) = chk1 ((ts.take i).map Prod.fst) t := by
  rw [take_succ e, chk_app, h]
  dsimp only
  rw [List.nil_append, chk_cons]
  cases chk1 ((ts.take i).map Prod.fst) t <;> rfl
theorem chk_err {ts : List Pr} {i : Nat} {t : Pr} {e : Ref} (et : ts[i]? = some t) (h : chk [] (ts.take i) = none) (h2 : chk1 ((ts.take i).map Prod.fst) t = some e) : chk [] ts = some e := by
  have z := chk_snoc et h
  rw [h2] at z
  have y := chk_app [] (ts.take (i + 1)) (ts.drop (i + 1))
  rw [List.take_append_drop, z] at y
  exact y
theorem rd_Rule_init {K : PySem.W.Frag} (F : Fx K) {vs : List V} {H : Hp} {Q : VK} {E : XK} (h : sp_Rule_init K vs H Q E) : t_Rule_init K E { nx := fun _ H' => Q .non H', rt := Q } (L2.start ["self", "steps", "found", "step"] vs) H := by
  obtain ⟨a, s, W, dx, ts, rfl, sW, wa, ha, hs, htl, hok, hno⟩ := h
  change t_Rule_init K E _ [some (.ref a), some (.ref s), none, none] H
  obtain ⟨s', xs, e, hsq, hxs⟩ := dp_list hs
  cases e
  have hsH := sW.seq hsq
  have hlen : xs.length = ts.length := by have := dpAll_len hxs; rw [List.length_map] at this; exact this
  refine ⟨(by decide : 2 ≤ sizeLine), fun tp htp => ?_⟩
  have s0 : ∀ o, Same H (upd H tp o) := fun o => same_new htp
  refine ⟨.ref s, tp, [.ty "list", .ty "tuple"], .type "list", [.type "list", .type "tuple"], true, rfl, upd_same, .cons (.ty _) (.cons (.ty _) .nil), tyx_l ((s0 _).seq hsH), kitAny_cons (b := true) (kit_ty (by decide +kernel)) (fun z => by cases z) (fun _ => rfl), ⟨_, rfl, ?_⟩⟩
  refine iteB (fun hb => by cases hb) (fun _ => ?_)
  refine ⟨xs, .inl ((s0 _).seq hsH), ⟨_, rfl, ?_⟩⟩
  have err : ¬ (1 ≤ ts.length ∧ ts.length ≤ 6) → ErrS H (He.ga K "NoSteps") "found" (.ref s) E := fun hb => hno _ (.ref s) (mkR_len hb) (rp_of hs)
  refine iteD (fun h1 => ?_) (fun h1 => ?_)
  · refine ⟨_, rfl, ?_⟩
    refine iteB (fun hb => ?_) (fun hb => ?_)
    · have h6 : ¬ (xs.length : Int) ≤ 6 := by simpa using hb
      exact rd_raise (σ := []) F rfl ((err fun z => h6 (by omega)).up (s0 _))
    · have h6 : ts.length ≤ 6 := by
        have : (xs.length : Int) ≤ 6 := by simpa using hb
        omega
      have h1' : 1 ≤ ts.length := by omega
      have em := mkR_in h1' h6
      refine ⟨(by decide : 0 ≤ sizeLine), fun l hl => ?_⟩
      have hlH : H l = none := Same.free (s0 _) hl
      have hlW : W l = none := Same.free sW hlH
      have s1 : ∀ ys, Same H (upd (upd H tp (.tup [.ty "list", .ty "tuple"])) l (.lst ys)) := fun ys => (s0 _).trans (same_new hl)
      have nal : a ≠ l := ne_of_none ha hlH
      refine .inl ⟨⟨xs, (s1 _).seq hsH⟩, ?_⟩
      refine for_it walk_list (fun i σ H2 => (∃ o, σ = [some (.ref a), some (.ref s), some (.ref l), o]) ∧ chk [] (ts.take i) = none ∧ H2 l = some (.lst (xs.take i)) ∧ Same H H2) ⟨⟨_, rfl⟩, rfl, upd_same, s1 _⟩ (fun i σ H2 _ hp => hp.2.2.2.seq hsH) (fun i x σ H2 H2' hi hp hy => ?_) (fun σ H2 hp => ?_)
      · obtain ⟨⟨o, rfl⟩, hc, hl2, s2⟩ := hp
        obtain ⟨e1, ex⟩ := hy
        subst e1
        obtain ⟨t, et⟩ : ∃ t, ts[i]? = some t := ⟨ts[i]'(by omega), by simp [show i < ts.length by omega]⟩
        have hd : Dp K W x (pairD t) := dpAll_i hxs ex (by rw [List.getElem?_map, et]; rfl)
        obtain ⟨b, rfl, hb⟩ := pair_at hd
        have dt : DpAll K W (xs.take i) ((ts.take i).map pairD) := by
          rw [List.map_take]
          exact dpAll_take i hxs
        refine ⟨b, l, W, t, ts.take i, xs.take i, rfl, sW.trans s2, hd, htl t (List.mem_of_getElem? et), .inl (.inl hl2), dt, (by rw [List.length_take]; show _ ≤ 1000; omega), fun hnone H3 s3 => ?_, fun e v he hv => ?_⟩
        · refine ⟨.inl ⟨rfl, _, .inl (.inl (s3 _ _ hl2))⟩, xs.take i, s3 _ _ hl2, (by rw [List.length_take, sizeLine_eq]; omega), ⟨⟨_, rfl⟩, ?_, ?_, ?_⟩⟩
          · rw [chk_snoc et hc]
            exact hnone
          · rw [upd_same, take_succ ex]
          · intro b' o' hb'
            have nb : b' ≠ l := ne_of_none hb' hlH
            rw [upd_ne nb]
            exact s3 _ _ (s2 _ _ hb')
        · exact (hno e v (by rw [em]; exact chk_err et hc he) hv).up s2
      · obtain ⟨⟨o, rfl⟩, hc, hl2, s2⟩ := hp
        have hl3 : H2 l = some (.lst xs) := by rw [hl2, List.take_length]
        have hn : mkR ts = none := by
          rw [em]
          rw [hlen, List.take_length] at hc
          exact hc
        refine ⟨a, _, dx, [], rfl, s2 _ _ ha, F.cl, F.na, (by decide), ?_⟩
        refine hok hn l (upd W l (.lst xs)) _ ?_ upd_same ?_
        · refine ⟨fun b o h n => ?_, fun b o h => ?_, same_new hlW, fun b o h => ?_, fun b o h n => ?_⟩
          · rw [upd_ne n]; exact s2 _ _ h
          · by_cases e : b = a
            · exact ⟨_, by rw [e, upd_same]⟩
            · exact ⟨o, by rw [upd_ne e]; exact s2 _ _ h⟩
          · by_cases e : b = l
            · rw [e, upd_same] at h
              rw [e, upd_ne nal.symm, hl3]
              exact h
            · rw [upd_ne e] at h
              have nba : b ≠ a := ne_of_none h wa
              rw [upd_ne nba]
              exact s2 _ _ (sW _ _ h)
          · by_cases e : b = l
            · rw [e]; exact hlH
            · rw [upd_ne e, n] at h; cases h
        · exact .lst (.inl (.inl upd_same)) (U.DpAll.up hxs (same_new hlW))
  · refine ⟨_, rfl, ?_⟩
    refine iteB (fun _ => ?_) (fun z => by cases z)
    refine rd_raise (σ := []) F rfl ((err fun z => h1 ?_).up (s0 _))
    omega
end K67

set_option Elab.async false
set_option linter.all false
set_option maxRecDepth 100000
set_option maxHeartbeats 4000000
/-! R67e: readings of the program's defs, the last. -/
namespace U
open PySem PySem.Spec PyProof.Rows L2
theorem ErrP.errS {K : PySem.W.Frag} {W H W' H' : Hp} {C : Addr} {f : Str} {d : PyData} {v : V} {E : XK} (h : ErrP K NoM W H C f d E) (g : Gr NoM W H W' H') (hv : Rp K W' v d) : ErrS H' C f v E := fun dd H2 s n x =>
  h v dd W' H2 (g.trans (Gr.same g.wh s)) hv (Same.free g.wh n) x
end U
namespace K67
open PySem PySem.Spec PyProof.Rows L2 U
theorem drop_cons {α : Type} {l : List α} {i : Nat} {a : α} (h : l[i]? = some a) : l = l.take i ++ a :: l.drop (i + 1) := by
  obtain ⟨h1, h2⟩ := List.getElem?_eq_some_iff.mp h
  rw [← h2, ← List.drop_eq_getElem_cons h1, List.take_append_drop]
theorem tups_err {rs : List (Option Str)} {ts : List Pr} {i : Nat} {r : Option Str} (h : Okk (rs.take i) ts) (e : rs[i]? = some r) (hr : wordO r = none) : tups 0 rs = .error i := by
  have hi : i < rs.length := (List.getElem?_eq_some_iff.mp e).1
  have z := tups_app 0 (rs.take i) (r :: rs.drop (i + 1))
  rw [← drop_cons e, okk_tups h] at z
  rw [z, tups_cons, hr, List.length_take]
  have e2 : min i rs.length = i := by omega
  dsimp only
  rw [e2, Nat.zero_add]
theorem rowsO_len {x : Str} (h : Tame LIM x) : (rowsO x).length ≤ 1001 := by
  have z := split_many h (y := NL) rfl
  have z' : (Txt.split x NL).length ≤ 1001 := z
  have ne := split_ne x NL rfl
  unfold rowsO
  split
  · rw [List.length_map, List.length_dropLast]; omega
  · rw [List.length_append, List.length_map, List.length_dropLast]
    have : 0 < (Txt.split x NL).length := List.length_pos_iff.mpr ne
    simp only [List.length_cons, List.length_nil]
    omega
theorem rowsO_tame {x y : Str} (h : Tame LIM x) (hy : some y ∈ rowsO x) : Tame LIM y := by
  have key : some y ∈ (Txt.split x NL).dropLast.map some := by
    unfold rowsO at hy
    split at hy
    · exact hy
    · rcases List.mem_append.mp hy with hy | hy
      · exact hy
      · simp at hy
  obtain ⟨z, hz, e⟩ := List.mem_map.mp key
  cases e
  exact split_tame h (y := NL) rfl ((List.dropLast_sublist _).subset hz)
theorem word2_tame {n : Nat} {r : Str} {t : Pr} (h : Tame n r) (e : word2 r = some t) : Tame n t.1 ∧ Tame n t.2 := by
  unfold word2 at e
  split at e
  · rename_i a b hs
    split at e
    · cases e
    · cases e
      exact ⟨split_tame h (y := BL) rfl (by rw [hs]; simp), split_tame h (y := BL) rfl (by rw [hs]; simp)⟩
  · cases e
theorem tups_tame {n : Nat} : ∀ {rs : List (Option Str)} {ts : List Pr} {k : Nat}, tups k rs = .ok ts → (∀ y, some y ∈ rs → Tame n y) → ∀ t ∈ ts, Tame n t.1 ∧ Tame n t.2
  | [], ts, k, h, _ => by
    cases h
    intro t ht
    cases ht
  | r :: rs, ts, k, h, hy => by
    rw [tups_cons] at h
    cases hr : wordO r with
    | none => rw [hr] at h; cases h
    | some t0 =>
      rw [hr] at h
      dsimp only at h
      cases hq : tups (k + 1) rs with
      | error j => rw [hq] at h; cases h
      | ok l =>
        rw [hq] at h
        cases h
        intro t ht
        rcases List.mem_cons.mp ht with rfl | ht
        · cases r with
          | none => cases hr
          | some y => exact word2_tame (hy y (List.mem_cons_self ..)) hr
        · exact tups_tame hq (fun y hm => hy y (List.mem_cons_of_mem _ hm)) t ht
theorem rd_tuples_in {K : PySem.W.Frag} (F : Fx K) {vs : List V} {H : Hp} {Q : VK} {E : XK} (h : sp_tuples_in K vs H Q E) : t_tuples_in K E { nx := fun _ H' => Q .non H', rt := Q } (L2.start ["text", "many", "found", "number", "row", "words"] vs) H := by
  obtain ⟨v, d, W, rfl, sW, hd, htm, herr, hok, hno⟩ := h
  change t_tuples_in K E _ [some v, some (.int 2), none, none, none, none] H
  refine ⟨(by decide : 0 ≤ sizeLine), fun l hl => ?_⟩
  have g0 : Gr NoM W H W (upd H l (.lst [])) := Gr.loc sW hl
  have wl : W l = none := Same.free sW hl
  refine ⟨v, d, rfl, hd.up g0.wh, fun x e => ⟨htm x e, fun p H2 s2 hp hp2 => ?_⟩, fun hn => (hno hn).up g0.sameH⟩
  have tm := htm x e
  have g2 : Gr NoM W H W H2 := g0.trans (Gr.same g0.wh s2)
  have npl : p ≠ l := fun z => by rw [z, upd_same] at hp; cases hp
  have hrl := rowsO_len tm
  refine ⟨p, (rowsO x).map oV, rfl, .inl (.inl hp2), ?_⟩
  refine for_it (walk_enum (xs := (rowsO x).map oV)) (fun i σ H3 => ∃ o3 o4 o5 ts W' zs, σ = [some v, some (.int 2), some (.ref l), o3, o4, o5] ∧ Okk ((rowsO x).take i) ts ∧ Gr NoM W H W' H3 ∧ W' l = none ∧ H3 l = some (.lst zs) ∧ DpAll K W' zs (ts.map pairD) ∧ H3 p = some (.lst ((rowsO x).map oV)))
    ⟨none, none, none, [], W, [], rfl, .nil, g2, wl, s2 _ _ upd_same, .nil, hp2⟩ (fun i σ H3 _ hP => ?_) (fun i u σ H3 H4 hi hP hy => ?_) (fun σ H3 hP => ?_)
  · obtain ⟨_, _, _, _, _, _, _, _, _, _, _, _, hp3⟩ := hP
    exact .inl (.inl hp3)
  · obtain ⟨o3, o4, o5, ts, W', zs, rfl, hk, g3, wl3, hl3, hz, hp3⟩ := hP
    obtain ⟨T, nx, y, rfl, hT, rfl, en, ey⟩ := hy
    cases en
    have ey : ((rowsO x).map oV)[i]? = some y := ey
    rw [List.getElem?_map] at ey
    obtain ⟨r, er, ery⟩ := Option.map_eq_some_iff.mp ey
    subst ery
    have g4 : Gr NoM W H W' (upd H3 T (.tup [.int (i : Nat), oV r])) := g3.step_loc hT
    have nTl : T ≠ l := fun z => by rw [z, hl3] at hT; cases hT
    have nTp : T ≠ p := fun z => by rw [z, hp3] at hT; cases hT
    refine ⟨T, _, rfl, .inl (.inl upd_same), rfl, _, _, rfl, _, _, rfl, rfl, ?_⟩
    refine ⟨r, rfl, fun y ey2 => rowsO_tame tm (by rw [← ey2]; exact List.mem_of_getElem? er), fun hw H5 s5 => ?_, fun t hw q H5 s5 hq hq5 => ?_⟩
    · refine ⟨rfl, _, rfl, ?_⟩
      refine iteD (fun _ => ?_) (fun z => absurd rfl z)
      exact rd_raise (σ := []) F rfl ((herr x i e (tups_err hk er hw)).up (g4.sameH.trans s5))
    · refine ⟨rfl, _, rfl, ?_⟩
      refine iteD (fun z => by cases z) (fun _ => ?_)
      have g5 := g4.trans (Gr.same g4.wh s5)
      have hl5 : H5 l = some (.lst zs) := s5 _ _ (by rw [upd_ne nTl.symm]; exact hl3)
      have hp5 : H5 p = some (.lst ((rowsO x).map oV)) := s5 _ _ (by rw [upd_ne nTp.symm]; exact hp3)
      refine ⟨.inl ⟨rfl, zs, .inl (.inl hl5)⟩, q, _, rfl, .inl ⟨.inl (.inl hq5), fun u hu => ?_⟩⟩
      have nul : u ≠ l := fun z => by rw [z, hl5] at hu; cases hu
      have nup : u ≠ p := fun z => by rw [z, hp5] at hu; cases hu
      have g6 : Gr NoM W H (upd W' u (.tup [.str t.1, .str t.2])) (upd H5 u (.tup [.str t.1, .str t.2])) := g5.step_new hu
      have hl6 : (upd H5 u (.tup [.str t.1, .str t.2])) l = some (.lst zs) := by rw [upd_ne nul.symm]; exact hl5
      have wl6 : (upd W' u (.tup [.str t.1, .str t.2])) l = none := by rw [upd_ne nul.symm]; exact wl3
      have hk2 : Okk ((rowsO x).take (i + 1)) (ts ++ [t]) := by
        rw [take_succ er]
        exact .snoc hk hw
      have hzl : zs.length ≤ 1001 := by
        have h1 := dpAll_len hz
        have h2 := okk_len hk
        rw [List.length_map] at h1
        rw [List.length_take] at h2
        omega
      refine ⟨zs, hl6, (by rw [sizeLine_eq]; omega), ⟨_, _, _, ts ++ [t], _, zs ++ [.ref u], rfl, hk2, g6.mut hl wl6, wl6, upd_same, ?_, ?_⟩⟩
      · rw [List.map_append]
        refine dpAll_app (U.DpAll.up hz (same_new (Same.free g5.wh hu))) (.cons (.tup (.inl (.inl upd_same)) (.cons (.str _) (.cons (.str _) .nil))) .nil)
      · rw [upd_ne npl, upd_ne nup.symm]
        exact hp5
  · obtain ⟨o3, o4, o5, ts, W', zs, rfl, hk, g3, wl3, hl3, hz, hp3⟩ := hP
    rw [List.length_map, List.take_length] at hk
    exact hok x ts e (okk_tups hk) _ _ _ (g3.tell hl hl3 wl3) (.lst (.inl (.inl upd_same)) (U.DpAll.up hz (same_new wl3)))
theorem rd_rule_text {K : PySem.W.Frag} (F : Fx K) {vs : List V} {H : Hp} {Q : VK} {E : XK} (h : sp_rule_text K vs H Q E) : t_rule_text K { nx := fun _ H' => Q .non H', rt := Q } (L2.start ["rule", "step"] vs) H := by
  obtain ⟨x, W, ts, rfl, sW, hR, hn, htm, hq⟩ := h
  change t_rule_text K _ [some (.ref x), none] H
  obtain ⟨dx, l, hx, hl⟩ := id hR
  refine ⟨x, dx, _, rfl, sW _ _ hx, rfl, x, W, ts, rfl, sW, hR, fun v W' H' g hv => ?_⟩
  obtain ⟨p, xs, rfl, hs, ha⟩ := dp_list hv
  have hsH := g.wh.seq hs
  have hlen : xs.length = ts.length := by have := dpAll_len ha; rw [List.length_map] at this; exact this
  refine .inl ⟨⟨xs, hsH⟩, fun D hD => ?_⟩
  refine lc_zs (zs := ts.map fun t => V.str (lineOf t)) walk_list (by rw [List.length_map, hlen]) (fun ys => (same_new hD).seq hsH) (by rw [sizeLine_eq]; omega) (fun y => rfl) (fun i y z ys Q' ey ez q => ?_) ?_
  · rw [List.getElem?_map] at ez
    obtain ⟨t, et, rfl⟩ := Option.map_eq_some_iff.mp ez
    have hd : Dp K W' y (pairD t) := dpAll_i ha ey (by rw [List.getElem?_map, et]; rfl)
    obtain ⟨b, rfl, hb⟩ := pair_at hd
    obtain ⟨t1, t2⟩ := htm t (List.mem_of_getElem? et)
    refine ⟨rfl, [t.1, t.2], .inr (sqT_mono (g.wh.trans (same_new hD)) hb), ?_, ?_⟩
    · have h1 := t1.1
      have h2 := t2.1
      show (t.1.length + (t.2.length + 0)) + 2 * 1 ≤ _
      omega
    · rw [join2]
      exact q
  · refine ⟨D, ts.map lineOf, rfl, .inl (.inl ?_), ?_, fun y hy => ?_, fun H2 s2 => ?_⟩
    · rw [upd_same, List.map_map]
      rfl
    · rw [List.length_map]
      show ts.length ≤ 1000
      omega
    · obtain ⟨t, ht, rfl⟩ := List.mem_map.mp hy
      obtain ⟨t1, t2⟩ := htm t ht
      have h1 := t1.1
      have h2 := t2.1
      unfold lineOf
      rw [len_app, len_app]
      show _ ≤ 1000
      have : (BL : Str).length = 1 := rfl
      omega
    · rw [List.map_map]
      exact hq W' H2 (g.trans (Gr.same g.wh ((same_new hD).trans s2)))
theorem rd_read_rule {K : PySem.W.Frag} (F : Fx K) {vs : List V} {H : Hp} {Q : VK} {E : XK} (h : sp_read_rule K vs H Q E) : t_read_rule K E { nx := fun _ H' => Q .non H', rt := Q } (L2.start ["text"] vs) H := by
  obtain ⟨v, d, W, rfl, sW, hd, htm, hok, hno⟩ := h
  change t_read_rule K E _ [some v] H
  refine ⟨v, d, W, rfl, sW, hd, htm, fun x k e ht => ?_, fun x ts e ht => ?_, fun hn => ?_⟩
  · subst e
    have er : readR (.str x) = .error ⟨"NoRow", "row", .int k⟩ := by unfold readR; dsimp only; rw [ht]
    exact (hno _ er).errS (Gr.refl sW) (.int k)
  · subst e
    intro v' W' H1 g hv y dx hy hdx hne
    obtain ⟨s, xs, rfl, hs, ha⟩ := dp_list hv
    have nyW : W' y = none := Same.free g.wh hy
    have s1 : Same H1 (upd (upd H1 dx (.own y)) y (.ins (He.ga K "Rule") dx [])) := (same_new hdx).trans (same_new (by rw [upd_ne hne.symm]; exact hy))
    have g1 := g.trans (Gr.same (M := NoM) g.wh s1)
    refine ⟨y, s, W', dx, ts, rfl, g1.wh, nyW, upd_same, hv, fun t htt => ?_, fun hn l W2 H2 g2 hy2 hl2 => ⟨rfl, ?_⟩, fun e v'' he hv'' => ?_⟩
    · exact (tups_tame ht (fun y hy => rowsO_tame (htm x rfl) hy) t htt).1.1
    · have er : readR (.str x) = .ok ts := by unfold readR; dsimp only; rw [ht]; dsimp only; rw [hn]
      have ny2 : W2 y = none := g2.out nyW upd_same
      have nyH : H y = none := g.free hy
      refine hok ts er y (upd W2 y (.ins (He.ga K "Rule") dx [("kept_steps", .ref l)])) H2 ?_ ⟨dx, l, upd_same, U.Dp.up hl2 (same_new ny2)⟩
      refine ⟨fun a o h _ => ?_, fun a o h => ?_, fun a o h => ?_, fun a o h => ?_, fun a o h n => ?_⟩
      · exact g2.hp a o (s1 _ _ (g.sameH _ _ h)) (ne_of_none h nyH)
      · exact ⟨o, g2.hp a o (s1 _ _ (g.sameH _ _ h)) (ne_of_none h nyH)⟩
      · have e1 := g2.ww a o (g.ww a o h)
        rw [upd_ne (ne_of_none e1 ny2)]
        exact e1
      · by_cases e : a = y
        · rw [e, upd_same] at h
          rw [e, hy2]
          exact h
        · rw [upd_ne e] at h
          exact g2.wh a o h
      · by_cases e : a = y
        · rw [e]; exact nyH
        · rw [upd_ne e] at h
          cases e1 : W' a with
          | some o1 => exact g.nw a o1 e1 n
          | none => exact Same.free (g.sameH.trans s1) (g2.nw a o h e1)
    · have er : readR (.str x) = .error e := by unfold readR; dsimp only; rw [ht]; dsimp only; rw [he]
      exact (hno _ er).errS g1 hv''
  · have er : readR d = .error ⟨"NoText", "text", d⟩ := by
      cases d <;> first | rfl | exact absurd rfl (hn _)
    exact (hno _ er).errS (Gr.refl sW) hd
end K67

set_option Elab.async false
set_option linter.all false
set_option maxRecDepth 100000
set_option maxHeartbeats 4000000
/-! L67a: readings of the law's defs: cell, box, take, ways. -/
namespace U
open PySem PySem.Spec PyProof.Rows L2
theorem atI_in {α : Type} {xs : List α} {k : Int} (h0 : 0 ≤ k) (h1 : k < xs.length) : ∃ v, atI xs k = some v ∧ xs[k.toNat]? = some v := by
  have h2 : k.toNat < xs.length := by omega
  refine ⟨xs[k.toNat], ?_, by simp [h2]⟩
  unfold atI ixN
  rw [if_pos h0, if_pos h1]
  simp [h2]
theorem ixN_in {n : Nat} {k : Int} (h0 : 0 ≤ k) (h1 : k < n) : ixN n k = some k.toNat := by
  unfold ixN
  rw [if_pos h0, if_pos h1]
theorem mul_bd {a b A B : Int} (ha : 0 ≤ a) (hA : a ≤ A) (hb : 0 ≤ b) (hB : b ≤ B) : 0 ≤ a * b ∧ a * b ≤ A * B := by
  refine ⟨Int.mul_nonneg ha hb, ?_⟩
  exact Int.le_trans (Int.mul_le_mul_of_nonneg_right hA hb) (Int.mul_le_mul_of_nonneg_left hB (Int.le_trans ha hA))
end U
namespace K67
open PySem PySem.Spec PyProof.Rows L2 U
theorem rd_law_cell {K : PySem.W.Frag} {vs : List V} {H : Hp} {Q : VK} {E : XK} (h : sp_law_cell K vs H Q E) : t_law_cell K { nx := fun _ H' => Q .non H', rt := Q } (L2.start ["_law_script", "_law_k"] vs) H := by
  obtain ⟨a, ns, k, rfl, hs, h0, h1, hq⟩ := h
  change t_law_cell K _ [some (.ref a), some (.int k)] H
  refine ⟨_, .inl hs, ⟨_, rfl, ?_⟩⟩
  refine iteD (fun hl => ?_) (fun _ => ?_)
  · obtain ⟨v, e1, e2⟩ := atI_in (xs := ns.map V.int) h0 hl
    rw [List.getElem?_map] at e2
    obtain ⟨c, _, rfl⟩ := Option.map_eq_some_iff.mp e2
    exact ⟨_, _, .inl hs, e1, hq c⟩
  · exact ⟨.inl ⟨by decide, by decide⟩, hq _⟩
theorem rd_law_box {K : PySem.W.Frag} {vs : List V} {H : Hp} {Q : VK} {E : XK} (h : sp_law_box K vs H Q E) : t_law_box K { nx := fun _ H' => Q .non H', rt := Q } (L2.start ["_law_cell_here"] vs) H := by
  obtain ⟨c, rfl, hq⟩ := h
  change t_law_box K _ [some (.int c)] H
  refine ⟨⟨by decide, by decide, by decide⟩, ⟨by decide, ⟨by decide, (by decide : 4 ≤ sizeLine), fun p hp => ?_⟩⟩⟩
  refine hq p _ (same_new hp) hp ⟨_, _, _, _, upd_same, ?_, ?_, ?_, ?_, ?_, ?_, ?_⟩
  · split <;> omega
  · exact Int.emod_nonneg _ (by decide)
  · have := Int.emod_lt_of_pos c (b := 2147483629) (by decide); omega
  · exact Int.emod_nonneg _ (by decide)
  · have := Int.emod_lt_of_pos c (b := 2147483587) (by decide); omega
  · exact Int.le_refl _
  · exact Int.le_refl _
theorem rd_law_take {K : PySem.W.Frag} {vs : List V} {H : Hp} {Q : VK} {E : XK} (h : sp_law_take K vs H Q E) : t_law_take K { nx := fun _ H' => Q .non H', rt := Q } (L2.start ["_law_box_here", "_law_many", "_law_digit", "_law_turn", "_law_number"] vs) H := by
  obtain ⟨b, m, n, rfl, ⟨c0, c1, c2, t, hb, p0, p1, q1, p2, q2, pt, qt⟩, hn, hm, hM, hq⟩ := h
  change t_law_take K _ [some (.ref b), some (.int m), none, none, none] H
  have sq : ∀ {ys : List V}, SqL K (upd H b (.lst ys)) b ys := .inl (.inl upd_same)
  have s0 : SqL K H b [.int c0, .int c1, .int c2, .int t] := .inl (.inl hb)
  refine ⟨_, _, .inl s0, rfl, ⟨_, rfl, ?_⟩⟩
  refine iteD (fun hc => ?_) (fun hc => ?_)
  · refine ⟨_, _, .inl s0, rfl, hm, ⟨_, _, .inl s0, rfl, ⟨hm, (by omega)⟩, ⟨b, _, 0, 0, rfl, rfl, hb, rfl, ?_⟩⟩⟩
    refine hq _ _ (Int.emod_nonneg _ (by omega)) (Int.emod_lt_of_pos _ hm) ⟨_, _, _, _, upd_same, ?_, p1, q1, p2, q2, pt, (by omega)⟩
    exact Int.ediv_nonneg p0 (by omega)
  · have T1 : 0 ≤ t + 1 := by omega
    have T2 : t + 1 ≤ 100001 := by omega
    have B1 := mul_bd (a := c1) (A := 2147483648) (b := 2 * (t + 1) + 3) (B := 200005) p1 (by omega) (by omega) (by omega)
    have B2 := mul_bd (a := 3571 * (t + 1)) (A := 357103571) (b := t + 1) (B := 100001) (by omega) (by omega) T1 T2
    have B3 := mul_bd (a := c2) (A := 2147483648) (b := t + 1) (B := 100001) p2 (by omega) T1 T2
    refine ⟨_, _, .inl s0, rfl, ⟨b, _, 3, 3, rfl, rfl, hb, rfl, ?_⟩⟩
    refine ⟨_, _, .inl sq, rfl, ?_⟩
    refine ⟨_, _, .inl sq, rfl, ⟨.inl ⟨by decide, by decide⟩, ⟨.inl ⟨by omega, by omega⟩, ⟨.inl ⟨by decide, by decide⟩, ⟨.inr ⟨by omega, by omega⟩, ⟨⟨by decide, by decide, ?_⟩, ⟨by decide, ?_⟩⟩⟩⟩⟩⟩⟩
    · have e : (2 : Int) ^ 31 * 200005 + 357103571 * 100001 + 7 < 2 ^ 64 := by decide
      omega
    · generalize hg : (c1 * (2 * (t + 1) + 3) + 3571 * (t + 1) * (t + 1) + 7) ^ (5 : Int).toNat % 2147483647 = g
      have g0 : 0 ≤ g := by rw [← hg]; exact Int.emod_nonneg _ (by decide)
      have g1 : g < 2147483647 := by rw [← hg]; exact Int.emod_lt_of_pos _ (by decide)
      refine ⟨_, _, .inl sq, rfl, ⟨.inl ⟨by omega, by omega⟩, ⟨⟨by decide, by decide, ?_⟩, ⟨by decide, ⟨⟨by decide, by decide⟩, ⟨hm, ?_⟩⟩⟩⟩⟩⟩
      · omega
      · exact hq _ _ (Int.emod_nonneg _ (by omega)) (Int.emod_lt_of_pos _ hm) ⟨_, _, _, _, upd_same, p0, p1, q1, p2, q2, T1, (by omega)⟩
end K67

set_option Elab.async false
set_option linter.all false
set_option maxRecDepth 100000
set_option maxHeartbeats 4000000
/-! L67b: readings of the law's defs: ways, steps. -/
namespace U
open PySem PySem.Spec PyProof.Rows L2
theorem Kp.free {b a : Addr} {H H' : Hp} (k : Kp b H H') (hb : H b = none) (h : H' a = none) : H a = none := by
  cases e : H a with
  | none => rfl
  | some o =>
    have n : a ≠ b := fun z => by rw [z, hb] at e; cases e
    rw [k a o e n] at h
    cases h
theorem Kp.all {b : Addr} {H H' : Hp} (k : Kp b H H') (hb : H b = none) : Same H H' := fun a o e => k a o e fun z => by rw [z, hb] at e; cases e
end U
namespace K67
open PySem PySem.Spec PyProof.Rows L2 U
theorem ways_val (p : Str) (l1 l2 l3 l4 l5 l6 : Addr) : valV ([(Sum.inr "letters", V.ref l1), (Sum.inr "number", V.ref l2), (Sum.inr "points", V.ref l3), (Sum.inr "makers", V.ref l4), (Sum.inr "year", V.ref l5), (Sum.inr "copy", V.ref l6)] : List (Key × V)) (Sum.inr p) =
    if p = "letters" then some (.ref l1) else if p = "number" then some (.ref l2) else if p = "points" then some (.ref l3) else if p = "makers" then some (.ref l4) else if p = "year" then some (.ref l5) else if p = "copy" then some (.ref l6) else none := by
  have sw : ∀ a : Str, (decide ((Sum.inr a : Key) = Sum.inr p)) = decide (p = a) := fun a => by
    by_cases h : p = a
    · subst h; simp
    · have h2 : ¬ (Sum.inr a : Key) = Sum.inr p := fun z => h (Sum.inr.inj z).symm
      simp [h, h2]
  unfold valV
  simp only [List.find?, sw]
  by_cases h1 : p = "letters"
  · simp only [decide_eq_true h1]
    rw [if_pos h1]
    rfl
  by_cases h2 : p = "number"
  · simp only [decide_eq_false h1, decide_eq_true h2]
    rw [if_neg h1, if_pos h2]
    rfl
  by_cases h3 : p = "points"
  · simp only [decide_eq_false h1, decide_eq_false h2, decide_eq_true h3]
    rw [if_neg h1, if_neg h2, if_pos h3]
    rfl
  by_cases h4 : p = "makers"
  · simp only [decide_eq_false h1, decide_eq_false h2, decide_eq_false h3, decide_eq_true h4]
    rw [if_neg h1, if_neg h2, if_neg h3, if_pos h4]
    rfl
  by_cases h5 : p = "year"
  · simp only [decide_eq_false h1, decide_eq_false h2, decide_eq_false h3, decide_eq_false h4, decide_eq_true h5]
    rw [if_neg h1, if_neg h2, if_neg h3, if_neg h4, if_pos h5]
    rfl
  by_cases h6 : p = "copy"
  · simp only [decide_eq_false h1, decide_eq_false h2, decide_eq_false h3, decide_eq_false h4, decide_eq_false h5, decide_eq_true h6]
    rw [if_neg h1, if_neg h2, if_neg h3, if_neg h4, if_neg h5, if_pos h6]
    rfl
  simp only [decide_eq_false h1, decide_eq_false h2, decide_eq_false h3, decide_eq_false h4, decide_eq_false h5, decide_eq_false h6]
  rw [if_neg h1, if_neg h2, if_neg h3, if_neg h4, if_neg h5, if_neg h6]
  rfl
theorem rd_law_ways {K : PySem.W.Frag} {vs : List V} {H : Hp} {Q : VK} {E : XK} (h : sp_law_ways K vs H Q E) : t_law_ways K { nx := fun _ H' => Q .non H', rt := Q } (L2.start ["_law_part", "_law_table"] vs) H := by
  obtain ⟨p, rfl, hq⟩ := h
  change t_law_ways K _ [some (.str p), none] H
  intro d hd
  have sz : ∀ n : Nat, n ≤ 10 → n ≤ sizeLine := fun n h => by rw [sizeLine_eq]; omega
  refine ⟨sz 2 (by decide), fun l1 h1 => ⟨sz 2 (by decide), fun l2 h2 => ⟨sz 3 (by decide), fun l3 h3 => ?_⟩⟩⟩
  have k0 : Kp d H (upd H d (.dK [])) := Kp.upd
  have k1 := k0.trans (Kp.same (same_new (o := .lst [.str "words", .str "short"]) h1))
  have k2 := k1.trans (Kp.same (same_new (o := .lst [.str "whole", .str "figures"]) h2))
  have k3 := k2.trans (Kp.same (same_new (o := .lst [.str "decimal", .str "whole", .str "late"]) h3))
  have n1 : d ≠ l1 := ne_of_none upd_same h1
  have n2 : d ≠ l2 := fun z => by rw [← z, upd_ne n1, upd_same] at h2; cases h2
  have n3 : d ≠ l3 := fun z => by rw [← z, upd_ne n2, upd_ne n1, upd_same] at h3; cases h3
  refine ⟨?_, [(.inr "letters", .ref l1), (.inr "number", .ref l2), (.inr "points", .ref l3)], rfl, (show 3 ≤ 15 by decide), ?_⟩
  · rw [upd_ne n3, upd_ne n2, upd_ne n1, upd_same]
  have a1 := (same_new (o := .lst [.str "decimal", .str "whole", .str "late"]) h3) _ _ ((same_new (o := .lst [.str "whole", .str "figures"]) h2) _ _ (upd_same (a := l1) (o := .lst [.str "words", .str "short"])))
  have a2 := (same_new (o := .lst [.str "decimal", .str "whole", .str "late"]) h3) _ _ (upd_same (a := l2) (o := .lst [.str "whole", .str "figures"]))
  have a3 := upd_same (H := upd (upd (upd H d (.dK [])) l1 (.lst [.str "words", .str "short"])) l2 (.lst [.str "whole", .str "figures"])) (a := l3) (o := .lst [.str "decimal", .str "whole", .str "late"])
  have f1 : H l1 = none := k0.free hd h1
  have f2 : H l2 = none := k1.free hd h2
  have f3 : H l3 = none := k2.free hd h3
  generalize (upd (upd (upd (upd H d (.dK [])) l1 (.lst [.str "words", .str "short"])) l2 (.lst [.str "whole", .str "figures"])) l3 (.lst [.str "decimal", .str "whole", .str "late"])) = G at k3 a1 a2 a3 n1 n2 n3 ⊢
  have T3 : mergeK [] ([(.inr "letters", .ref l1), (.inr "number", .ref l2), (.inr "points", .ref l3)] : List (Key × V)) = [(.inr "letters", .ref l1), (.inr "number", .ref l2), (.inr "points", .ref l3)] := rfl
  rw [T3]
  have b1 : (upd G d (.dK [(.inr "letters", .ref l1), (.inr "number", .ref l2), (.inr "points", .ref l3)])) l1 = _ := (upd_ne n1.symm).trans a1
  have b2 : (upd G d (.dK [(.inr "letters", .ref l1), (.inr "number", .ref l2), (.inr "points", .ref l3)])) l2 = _ := (upd_ne n2.symm).trans a2
  have b3 : (upd G d (.dK [(.inr "letters", .ref l1), (.inr "number", .ref l2), (.inr "points", .ref l3)])) l3 = _ := (upd_ne n3.symm).trans a3
  have g3 : Kp d H (upd G d (.dK [(.inr "letters", .ref l1), (.inr "number", .ref l2), (.inr "points", .ref l3)])) := k3.trans Kp.upd
  have e3 : (upd G d (.dK [(.inr "letters", .ref l1), (.inr "number", .ref l2), (.inr "points", .ref l3)])) d = some (.dK [(.inr "letters", .ref l1), (.inr "number", .ref l2), (.inr "points", .ref l3)]) := upd_same
  generalize (upd G d (.dK [(.inr "letters", .ref l1), (.inr "number", .ref l2), (.inr "points", .ref l3)])) = G3 at g3 b1 b2 b3 e3 ⊢
  refine ⟨sz 3 (by decide), fun l4 h4 => ⟨d, _, rfl, .inl ⟨[(.inr "letters", .ref l1), (.inr "number", .ref l2), (.inr "points", .ref l3)], .inr "makers", (same_new h4) _ _ e3, rfl, (show 3 < sizeLine by rw [sizeLine_eq]; decide), rfl⟩, ?_⟩⟩
  have n4 : d ≠ l4 := ne_of_none e3 h4
  have f4 : H l4 = none := g3.free hd h4
  have g4 : Kp d H (upd (upd G3 l4 (.lst [.str "decimal", .str "whole", .str "few"])) d (.dK (putK [(.inr "letters", .ref l1), (.inr "number", .ref l2), (.inr "points", .ref l3)] (.inr "makers") (.ref l4)))) := (g3.trans (Kp.same (same_new h4))).trans Kp.upd
  have b1 : (upd (upd G3 l4 (.lst [.str "decimal", .str "whole", .str "few"])) d (.dK (putK [(.inr "letters", .ref l1), (.inr "number", .ref l2), (.inr "points", .ref l3)] (.inr "makers") (.ref l4)))) l1 = _ := (upd_ne n1.symm).trans ((same_new h4) _ _ b1)
  have b2 : (upd (upd G3 l4 (.lst [.str "decimal", .str "whole", .str "few"])) d (.dK (putK [(.inr "letters", .ref l1), (.inr "number", .ref l2), (.inr "points", .ref l3)] (.inr "makers") (.ref l4)))) l2 = _ := (upd_ne n2.symm).trans ((same_new h4) _ _ b2)
  have b3 : (upd (upd G3 l4 (.lst [.str "decimal", .str "whole", .str "few"])) d (.dK (putK [(.inr "letters", .ref l1), (.inr "number", .ref l2), (.inr "points", .ref l3)] (.inr "makers") (.ref l4)))) l3 = _ := (upd_ne n3.symm).trans ((same_new h4) _ _ b3)
  have b4 : (upd (upd G3 l4 (.lst [.str "decimal", .str "whole", .str "few"])) d (.dK (putK [(.inr "letters", .ref l1), (.inr "number", .ref l2), (.inr "points", .ref l3)] (.inr "makers") (.ref l4)))) l4 = _ := (upd_ne n4.symm).trans upd_same
  have e4 : (upd (upd G3 l4 (.lst [.str "decimal", .str "whole", .str "few"])) d (.dK (putK [(.inr "letters", .ref l1), (.inr "number", .ref l2), (.inr "points", .ref l3)] (.inr "makers") (.ref l4)))) d = some (.dK [(.inr "letters", .ref l1), (.inr "number", .ref l2), (.inr "points", .ref l3), (.inr "makers", .ref l4)]) := upd_same
  generalize (upd (upd G3 l4 (.lst [.str "decimal", .str "whole", .str "few"])) d (.dK (putK [(.inr "letters", .ref l1), (.inr "number", .ref l2), (.inr "points", .ref l3)] (.inr "makers") (.ref l4)))) = G4 at g4 b1 b2 b3 b4 e4 ⊢
  refine ⟨sz 4 (by decide), fun l5 h5 => ⟨d, _, rfl, .inl ⟨[(.inr "letters", .ref l1), (.inr "number", .ref l2), (.inr "points", .ref l3), (.inr "makers", .ref l4)], .inr "year", (same_new h5) _ _ e4, rfl, (show 4 < sizeLine by rw [sizeLine_eq]; decide), rfl⟩, ?_⟩⟩
  have n5 : d ≠ l5 := ne_of_none e4 h5
  have f5 : H l5 = none := g4.free hd h5
  have g5 : Kp d H (upd (upd G4 l5 (.lst [.str "rising", .str "falling", .str "late", .str "figures"])) d (.dK (putK [(.inr "letters", .ref l1), (.inr "number", .ref l2), (.inr "points", .ref l3), (.inr "makers", .ref l4)] (.inr "year") (.ref l5)))) := (g4.trans (Kp.same (same_new h5))).trans Kp.upd
  have b1 : (upd (upd G4 l5 (.lst [.str "rising", .str "falling", .str "late", .str "figures"])) d (.dK (putK [(.inr "letters", .ref l1), (.inr "number", .ref l2), (.inr "points", .ref l3), (.inr "makers", .ref l4)] (.inr "year") (.ref l5)))) l1 = _ := (upd_ne n1.symm).trans ((same_new h5) _ _ b1)
  have b2 : (upd (upd G4 l5 (.lst [.str "rising", .str "falling", .str "late", .str "figures"])) d (.dK (putK [(.inr "letters", .ref l1), (.inr "number", .ref l2), (.inr "points", .ref l3), (.inr "makers", .ref l4)] (.inr "year") (.ref l5)))) l2 = _ := (upd_ne n2.symm).trans ((same_new h5) _ _ b2)
  have b3 : (upd (upd G4 l5 (.lst [.str "rising", .str "falling", .str "late", .str "figures"])) d (.dK (putK [(.inr "letters", .ref l1), (.inr "number", .ref l2), (.inr "points", .ref l3), (.inr "makers", .ref l4)] (.inr "year") (.ref l5)))) l3 = _ := (upd_ne n3.symm).trans ((same_new h5) _ _ b3)
  have b4 : (upd (upd G4 l5 (.lst [.str "rising", .str "falling", .str "late", .str "figures"])) d (.dK (putK [(.inr "letters", .ref l1), (.inr "number", .ref l2), (.inr "points", .ref l3), (.inr "makers", .ref l4)] (.inr "year") (.ref l5)))) l4 = _ := (upd_ne n4.symm).trans ((same_new h5) _ _ b4)
  have b5 : (upd (upd G4 l5 (.lst [.str "rising", .str "falling", .str "late", .str "figures"])) d (.dK (putK [(.inr "letters", .ref l1), (.inr "number", .ref l2), (.inr "points", .ref l3), (.inr "makers", .ref l4)] (.inr "year") (.ref l5)))) l5 = _ := (upd_ne n5.symm).trans upd_same
  have e5 : (upd (upd G4 l5 (.lst [.str "rising", .str "falling", .str "late", .str "figures"])) d (.dK (putK [(.inr "letters", .ref l1), (.inr "number", .ref l2), (.inr "points", .ref l3), (.inr "makers", .ref l4)] (.inr "year") (.ref l5)))) d = some (.dK [(.inr "letters", .ref l1), (.inr "number", .ref l2), (.inr "points", .ref l3), (.inr "makers", .ref l4), (.inr "year", .ref l5)]) := upd_same
  generalize (upd (upd G4 l5 (.lst [.str "rising", .str "falling", .str "late", .str "figures"])) d (.dK (putK [(.inr "letters", .ref l1), (.inr "number", .ref l2), (.inr "points", .ref l3), (.inr "makers", .ref l4)] (.inr "year") (.ref l5)))) = G5 at g5 b1 b2 b3 b4 b5 e5 ⊢
  refine ⟨sz 3 (by decide), fun l6 h6 => ⟨d, _, rfl, .inl ⟨[(.inr "letters", .ref l1), (.inr "number", .ref l2), (.inr "points", .ref l3), (.inr "makers", .ref l4), (.inr "year", .ref l5)], .inr "copy", (same_new h6) _ _ e5, rfl, (show 5 < sizeLine by rw [sizeLine_eq]; decide), rfl⟩, ?_⟩⟩
  have n6 : d ≠ l6 := ne_of_none e5 h6
  have f6 : H l6 = none := g5.free hd h6
  have g6 : Kp d H (upd (upd G5 l6 (.lst [.str "rising", .str "falling", .str "figures"])) d (.dK (putK [(.inr "letters", .ref l1), (.inr "number", .ref l2), (.inr "points", .ref l3), (.inr "makers", .ref l4), (.inr "year", .ref l5)] (.inr "copy") (.ref l6)))) := (g5.trans (Kp.same (same_new h6))).trans Kp.upd
  have b1 : (upd (upd G5 l6 (.lst [.str "rising", .str "falling", .str "figures"])) d (.dK (putK [(.inr "letters", .ref l1), (.inr "number", .ref l2), (.inr "points", .ref l3), (.inr "makers", .ref l4), (.inr "year", .ref l5)] (.inr "copy") (.ref l6)))) l1 = _ := (upd_ne n1.symm).trans ((same_new h6) _ _ b1)
  have b2 : (upd (upd G5 l6 (.lst [.str "rising", .str "falling", .str "figures"])) d (.dK (putK [(.inr "letters", .ref l1), (.inr "number", .ref l2), (.inr "points", .ref l3), (.inr "makers", .ref l4), (.inr "year", .ref l5)] (.inr "copy") (.ref l6)))) l2 = _ := (upd_ne n2.symm).trans ((same_new h6) _ _ b2)
  have b3 : (upd (upd G5 l6 (.lst [.str "rising", .str "falling", .str "figures"])) d (.dK (putK [(.inr "letters", .ref l1), (.inr "number", .ref l2), (.inr "points", .ref l3), (.inr "makers", .ref l4), (.inr "year", .ref l5)] (.inr "copy") (.ref l6)))) l3 = _ := (upd_ne n3.symm).trans ((same_new h6) _ _ b3)
  have b4 : (upd (upd G5 l6 (.lst [.str "rising", .str "falling", .str "figures"])) d (.dK (putK [(.inr "letters", .ref l1), (.inr "number", .ref l2), (.inr "points", .ref l3), (.inr "makers", .ref l4), (.inr "year", .ref l5)] (.inr "copy") (.ref l6)))) l4 = _ := (upd_ne n4.symm).trans ((same_new h6) _ _ b4)
  have b5 : (upd (upd G5 l6 (.lst [.str "rising", .str "falling", .str "figures"])) d (.dK (putK [(.inr "letters", .ref l1), (.inr "number", .ref l2), (.inr "points", .ref l3), (.inr "makers", .ref l4), (.inr "year", .ref l5)] (.inr "copy") (.ref l6)))) l5 = _ := (upd_ne n5.symm).trans ((same_new h6) _ _ b5)
  have b6 : (upd (upd G5 l6 (.lst [.str "rising", .str "falling", .str "figures"])) d (.dK (putK [(.inr "letters", .ref l1), (.inr "number", .ref l2), (.inr "points", .ref l3), (.inr "makers", .ref l4), (.inr "year", .ref l5)] (.inr "copy") (.ref l6)))) l6 = _ := (upd_ne n6.symm).trans upd_same
  have e6 : (upd (upd G5 l6 (.lst [.str "rising", .str "falling", .str "figures"])) d (.dK (putK [(.inr "letters", .ref l1), (.inr "number", .ref l2), (.inr "points", .ref l3), (.inr "makers", .ref l4), (.inr "year", .ref l5)] (.inr "copy") (.ref l6)))) d = some (.dK [(.inr "letters", .ref l1), (.inr "number", .ref l2), (.inr "points", .ref l3), (.inr "makers", .ref l4), (.inr "year", .ref l5), (.inr "copy", .ref l6)]) := upd_same
  generalize (upd (upd G5 l6 (.lst [.str "rising", .str "falling", .str "figures"])) d (.dK (putK [(.inr "letters", .ref l1), (.inr "number", .ref l2), (.inr "points", .ref l3), (.inr "makers", .ref l4), (.inr "year", .ref l5)] (.inr "copy") (.ref l6)))) = G6 at g6 b1 b2 b3 b4 b5 b6 e6 ⊢
  have sH : Same H G6 := g6.all hd
  refine ⟨d, rfl, .inl ⟨_, .inl e6⟩, ⟨sz 0 (by decide), fun z hz => ⟨_, .inl ⟨_, .inr p, .inl ((same_new hz) _ _ e6), rfl, rfl⟩, ?_⟩⟩⟩
  have sz2 : Same H (upd G6 z (.lst [])) := sH.trans (same_new hz)
  rw [ways_val]
  have fin : ∀ (l : Addr) (o : List Str), H l = none → (upd G6 z (.lst [])) l = some (.lst (o.map V.str)) → waysOf p = o → Q (.ref l) (upd G6 z (.lst [])) := fun l o fl el ew => hq l _ sz2 fl (by rw [ew]; exact el)
  by_cases h11 : p = "letters"
  · rw [if_pos h11]
    exact fin l1 (waysOf p) f1 (((same_new hz) _ _ b1).trans (by rw [h11]; rfl)) rfl
  by_cases h12 : p = "number"
  · rw [if_neg h11, if_pos h12]
    exact fin l2 (waysOf p) f2 (((same_new hz) _ _ b2).trans (by rw [h12]; rfl)) rfl
  by_cases h13 : p = "points"
  · rw [if_neg h11, if_neg h12, if_pos h13]
    exact fin l3 (waysOf p) f3 (((same_new hz) _ _ b3).trans (by rw [h13]; rfl)) rfl
  by_cases h14 : p = "makers"
  · rw [if_neg h11, if_neg h12, if_neg h13, if_pos h14]
    exact fin l4 (waysOf p) f4 (((same_new hz) _ _ b4).trans (by rw [h14]; rfl)) rfl
  by_cases h15 : p = "year"
  · rw [if_neg h11, if_neg h12, if_neg h13, if_neg h14, if_pos h15]
    exact fin l5 (waysOf p) f5 (((same_new hz) _ _ b5).trans (by rw [h15]; rfl)) rfl
  by_cases h16 : p = "copy"
  · rw [if_neg h11, if_neg h12, if_neg h13, if_neg h14, if_neg h15, if_pos h16]
    exact fin l6 (waysOf p) f6 (((same_new hz) _ _ b6).trans (by rw [h16]; rfl)) rfl
  rw [if_neg h11, if_neg h12, if_neg h13, if_neg h14, if_neg h15, if_neg h16]
  exact fin z [] (Same.free sH hz) upd_same (by unfold waysOf; rw [if_neg h11, if_neg h12, if_neg h13, if_neg h14, if_neg h15, if_neg h16])
end K67

set_option Elab.async false
set_option linter.all false
set_option maxRecDepth 100000
set_option maxHeartbeats 4000000
/-! L67c: the law's steps. -/
namespace U
open PySem PySem.Spec PyProof.Rows L2
theorem eraseIdx_map {α β : Type} (f : α → β) : ∀ (l : List α) (k : Nat), (l.map f).eraseIdx k = (l.eraseIdx k).map f
  | [], _ => rfl
  | _ :: _, 0 => rfl
  | a :: l, k + 1 => by
    show f a :: (l.map f).eraseIdx k = f a :: (l.eraseIdx k).map f
    rw [eraseIdx_map f l k]
theorem mem_erase {α : Type} {l : List α} {k : Nat} {a : α} (h : a ∈ l.eraseIdx k) : a ∈ l := (List.eraseIdx_sublist l k).subset h
theorem erase_not {α : Type} {l : List α} {k : Nat} {a : α} (hn : l.Nodup) (e : l[k]? = some a) : a ∉ l.eraseIdx k := by
  induction l generalizing k with
  | nil => cases e
  | cons b l ih =>
    rw [List.nodup_cons] at hn
    cases k with
    | zero =>
      have : b = a := by simpa using e
      subst this
      exact hn.1
    | succ k =>
      have e' : l[k]? = some a := by simpa using e
      show a ∉ b :: l.eraseIdx k
      intro h
      rcases List.mem_cons.mp h with rfl | h
      · exact hn.1 (List.mem_of_getElem? e')
      · exact ih hn.2 e' h
theorem Gr.chgT {M : Addr → Prop} {W0 H0 W H : Hp} {p : Addr} {o : HO} (g : Gr M W0 H0 W H) (hw : W p = none) (hm : M p) : Gr M W0 H0 W (upd H p o) := g.trans (Gr.chg g.wh hw hm)
end U
namespace K67
open PySem PySem.Spec PyProof.Rows L2 U
theorem tame_of {x : Str} {n : Nat} (h : (decide (x.length ≤ n) && x.cps.toList.all fun c => decide (c < 256)) = true) : Tame n x := by
  obtain ⟨h1, h2⟩ := Bool.and_eq_true_iff.mp h
  refine ⟨of_decide_eq_true h1, fun c hc => of_decide_eq_true (List.all_eq_true.mp h2 c hc)⟩
theorem parts_tame : ∀ p ∈ PARTSl, Tame 8 p := by
  have h : (PARTSl.all fun x => decide (x.length ≤ 8) && x.cps.toList.all fun c => decide (c < 256)) = true := by decide +kernel
  exact fun p hp => tame_of (List.all_eq_true.mp h p hp)
theorem ways_tame : ∀ p ∈ PARTSl, ∀ w ∈ waysOf p, Tame 8 w := by
  have h : (PARTSl.all fun p => (waysOf p).all fun x => decide (x.length ≤ 8) && x.cps.toList.all fun c => decide (c < 256)) = true := by decide +kernel
  exact fun p hp w hw => tame_of (List.all_eq_true.mp (List.all_eq_true.mp h p hp) w hw)
theorem ways_pos : ∀ p ∈ PARTSl, 0 < (waysOf p).length ∧ (waysOf p).length < 10 := by
  have h : (PARTSl.all fun p => decide (0 < (waysOf p).length) && decide ((waysOf p).length < 10)) = true := by decide +kernel
  intro p hp
  obtain ⟨h1, h2⟩ := Bool.and_eq_true_iff.mp (List.all_eq_true.mp h p hp)
  exact ⟨of_decide_eq_true h1, of_decide_eq_true h2⟩
theorem rd_law_steps {K : PySem.W.Frag} {vs : List V} {H : Hp} {Q : VK} {E : XK} (h : sp_law_steps K vs H Q E) : t_law_steps K { nx := fun _ H' => Q .non H', rt := Q } (L2.start ["_law_box_here", "_law_left", "_law_found", "_law_turn", "_law_part", "_law_some"] vs) H := by
  obtain ⟨b, W, n, rfl, sW, wb, hB, hn, hq⟩ := h
  change t_law_steps K _ [some (.ref b), none, none, none, none, none] H
  refine ⟨(show 6 ≤ sizeLine by rw [sizeLine_eq]; decide), fun l hl => ⟨(show 0 ≤ sizeLine from Nat.zero_le _), fun f hf => ?_⟩⟩
  obtain ⟨ob, hob⟩ : ∃ o, H b = some o := by obtain ⟨_, _, _, _, e, _⟩ := hB; exact ⟨_, e⟩
  have nbl : b ≠ l := ne_of_none hob hl
  have hb1 := (same_new (o := .lst [.str "letters", .str "number", .str "points", .str "makers", .str "year", .str "copy"]) hl) _ _ hob
  have nbf : b ≠ f := ne_of_none hb1 hf
  have nlf : l ≠ f := ne_of_none upd_same hf
  have fH : H f = none := Same.free (same_new hl) hf
  have s1 := (same_new (o := .lst [.str "letters", .str "number", .str "points", .str "makers", .str "year", .str "copy"]) hl).trans (same_new (o := .lst []) hf)
  have B1 := hB.at (fun o e => s1 _ _ e)
  have l1 := (same_new (o := .lst []) hf) _ _ (upd_same (H := H) (a := l) (o := .lst [.str "letters", .str "number", .str "points", .str "makers", .str "year", .str "copy"]))
  have f1 := upd_same (H := upd H l (.lst [.str "letters", .str "number", .str "points", .str "makers", .str "year", .str "copy"])) (a := f) (o := .lst [])
  refine ⟨b, 6, n, rfl, B1, (by omega), (by decide), (by decide), fun r xs0 r0 r6 B2 => ⟨1 + r, rfl, (by omega), (by omega), ?_⟩⟩
  have g1 : Gr (fun a => a = b) W H W (upd (upd (upd H l (.lst [.str "letters", .str "number", .str "points", .str "makers", .str "year", .str "copy"])) f (.lst [])) b (.lst xs0)) := (Gr.same sW s1).chgT wb rfl
  generalize (upd (upd H l (.lst [.str "letters", .str "number", .str "points", .str "makers", .str "year", .str "copy"])) f (.lst [])) = G at *
  have l2 : (upd G b (.lst xs0)) l = _ := (upd_ne nbl.symm).trans l1
  have f2 : (upd G b (.lst xs0)) f = _ := (upd_ne nbf.symm).trans f1
  have wl : W l = none := Same.free sW hl
  have wf : W f = none := Same.free sW fH
  refine for_it (walk_range (lo := 0)) (fun i σ H3 => ∃ o3 o4 o5, ∃ left : List Str, ∃ ts W' zs, σ = [some (.ref b), some (.ref l), some (.ref f), o3, o4, o5] ∧ Gr (fun a => a = b) W H W' H3 ∧ W' b = none ∧ W' l = none ∧ W' f = none ∧ Bx b (n + 1 + 2 * i) H3 ∧
      H3 l = some (.lst (left.map V.str)) ∧ H3 f = some (.lst zs) ∧ DpAll K W' zs (ts.map pairD) ∧ ts.length = i ∧ left.length + i = 6 ∧ left.Nodup ∧ (∀ p ∈ left, p ∈ PARTSl) ∧ (∀ t ∈ ts, t.1 ∈ PARTSl ∧ t.2 ∈ waysOf t.1 ∧ t.1 ∉ left) ∧ (ts.map Prod.fst).Nodup)
    ⟨none, none, none, PARTSl, [], W, [], rfl, g1, wb, wl, wf, B2.mono (by omega), l2, f2, .nil, rfl, rfl, (by decide), fun p hp => hp, (fun t ht => by cases ht), .nil⟩ (fun _ _ _ _ _ => trivial) (fun i u σ H3 H4 hi hP hy => ?_) (fun σ H3 hP => ?_)
  · obtain ⟨o3, o4, o5, left, ts, W', zs, rfl, g3, wb3, wl3, wf3, B3, l3, f3, hz, hti, hli, hnd, hpl, htp, htn⟩ := hP
    obtain ⟨rfl, rfl⟩ := hy
    have hi6 : i < 6 := by omega
    have hlp : 0 < left.length := by omega
    refine ⟨.inl ⟨rfl, _, .inl (.inl l3)⟩, _, .inl (.inl (.inl l3)), ⟨b, (left.map V.str).length, n + 1 + 2 * i, rfl, B3, (by omega), (by rw [List.length_map]; omega), (by rw [List.length_map]; omega), fun k xs1 k0 k1 B4 => ?_⟩⟩
    obtain ⟨v, ev1, ev2⟩ := atI_in (xs := left.map V.str) k0 k1
    rw [List.getElem?_map] at ev2
    obtain ⟨p, ep, rfl⟩ := Option.map_eq_some_iff.mp ev2
    have g4 := g3.chgT (o := .lst xs1) wb3 rfl
    have l4 : (upd H4 b (.lst xs1)) l = _ := (upd_ne nbl.symm).trans l3
    have f4 : (upd H4 b (.lst xs1)) f = _ := (upd_ne nbf.symm).trans f3
    refine ⟨_, k.toNat, .str p, l4, (by omega), (by rw [List.length_map] at k1; omega), (ixN_seq (ixN_in k0 k1)).1, (by rw [List.getElem?_map, ep]; rfl), ?_⟩
    rw [eraseIdx_map]
    have hpP := hpl p (List.mem_of_getElem? ep)
    have g5 := g4.mut (o := .lst ((left.eraseIdx k.toNat).map V.str)) hl wl3
    have l5 := upd_same (H := upd H4 b (.lst xs1)) (a := l) (o := .lst ((left.eraseIdx k.toNat).map V.str))
    have f5 : (upd (upd H4 b (.lst xs1)) l (.lst ((left.eraseIdx k.toNat).map V.str))) f = _ := (upd_ne nlf.symm).trans f4
    have B5 : Bx b (n + 1 + 2 * i + 1) (upd (upd H4 b (.lst xs1)) l (.lst ((left.eraseIdx k.toNat).map V.str))) := B4.at fun o e => (upd_ne nbl).trans e
    generalize (upd (upd H4 b (.lst xs1)) l (.lst ((left.eraseIdx k.toNat).map V.str))) = G5 at g5 l5 f5 B5 ⊢
    refine ⟨p, rfl, fun s H6 s6 hs5 hs6 => ?_⟩
    have g6 := g5.trans (Gr.same g5.wh s6)
    have l6 := s6 _ _ l5
    have f6 := s6 _ _ f5
    have B6 := B5.at fun o e => s6 _ _ e
    have nsb : s ≠ b := fun z => by obtain ⟨_, _, _, _, e, _⟩ := B5; rw [← z, hs5] at e; cases e
    have wsp := ways_pos p hpP
    refine ⟨.inl ⟨rfl, _, .inl (.inl f6)⟩, _, .inl (.inl (.inl hs6)), ⟨b, ((waysOf p).map V.str).length, n + 1 + 2 * i + 1, rfl, B6, (by omega), (by rw [List.length_map]; omega), (by rw [List.length_map]; omega), fun j xs2 j0 j1 B7 => ?_⟩⟩
    obtain ⟨v2, ew1, ew2⟩ := atI_in (xs := (waysOf p).map V.str) j0 j1
    rw [List.getElem?_map] at ew2
    obtain ⟨w, ew, rfl⟩ := Option.map_eq_some_iff.mp ew2
    have hww := List.mem_of_getElem? ew
    have g7 := g6.chgT (o := .lst xs2) wb3 rfl
    have l7 : (upd H6 b (.lst xs2)) l = _ := (upd_ne nbl.symm).trans l6
    have f7 : (upd H6 b (.lst xs2)) f = _ := (upd_ne nbf.symm).trans f6
    have s7 : (upd H6 b (.lst xs2)) s = _ := (upd_ne nsb).trans hs6
    refine ⟨_, .str w, .inl (.inl (.inl s7)), ew1, ⟨(show 2 ≤ sizeLine by rw [sizeLine_eq]; decide), fun T hT => ?_⟩⟩
    have g8 := g7.step_new (o := .tup [.str p, .str w]) hT
    have nTl : l ≠ T := ne_of_none l7 hT
    have nTf : f ≠ T := ne_of_none f7 hT
    have nTb : b ≠ T := by obtain ⟨_, _, _, _, e, _⟩ := B7; exact ne_of_none e hT
    have l8 := (same_new (o := .tup [.str p, .str w]) hT) _ _ l7
    have f8 := (same_new (o := .tup [.str p, .str w]) hT) _ _ f7
    have B8 := B7.at fun o e => (same_new (o := .tup [.str p, .str w]) hT) _ _ e
    have wT : W' T = none := Same.free g7.wh hT
    have hzl : zs.length = ts.length := by have := dpAll_len hz; rw [List.length_map] at this; exact this
    refine ⟨zs, f8, (by rw [sizeLine_eq]; omega), ?_⟩
    have g9 := g8.mut (o := .lst (zs ++ [.ref T])) fH (by rw [upd_ne nTf]; exact wf3)
    refine ⟨_, _, _, left.eraseIdx k.toNat, ts ++ [(p, w)], _, zs ++ [.ref T], rfl, g9, (by rw [upd_ne nTb]; exact wb3), (by rw [upd_ne nTl]; exact wl3), (by rw [upd_ne nTf]; exact wf3), ?_, ?_, upd_same, ?_, ?_, ?_, ?_, ?_, ?_, ?_⟩
    · refine (B8.at fun o e => (upd_ne nbf).trans e).mono ?_
      push_cast
      omega
    · rw [upd_ne nlf]
      exact l8
    · rw [List.map_append]
      exact dpAll_app (U.DpAll.up hz (same_new wT)) (.cons (.tup (.inl (.inl upd_same)) (.cons (.str _) (.cons (.str _) .nil))) .nil)
    · rw [List.length_append, hti]
      rfl
    · have hk : k.toNat < left.length := (List.getElem?_eq_some_iff.mp ep).1
      rw [List.length_eraseIdx_of_lt hk]
      omega
    · exact hnd.sublist (List.eraseIdx_sublist _ _)
    · exact fun q hq => hpl q (mem_erase hq)
    · intro t ht
      rcases List.mem_append.mp ht with ht | ht
      · obtain ⟨a1, a2, a3⟩ := htp t ht
        exact ⟨a1, a2, fun z => a3 (mem_erase z)⟩
      · have e : t = (p, w) := by simpa using ht
        rw [e]
        exact ⟨hpP, hww, erase_not hnd ep⟩
    · rw [List.map_append]
      refine List.nodup_append.mpr ⟨htn, by simp, ?_⟩
      intro a ha c hc
      have ec : c = p := by simpa using hc
      obtain ⟨t, ht, rfl⟩ := List.mem_map.mp ha
      intro z
      rw [ec] at z
      exact (htp t ht).2.2 (z ▸ List.mem_of_getElem? ep)
  · obtain ⟨o3, o4, o5, left, ts, W', zs, rfl, g3, wb3, wl3, wf3, B3, l3, f3, hz, hti, hli, hnd, hpl, htp, htn⟩ := hP
    have h1 : 1 ≤ ts.length := by omega
    have h6 : ts.length ≤ 6 := by omega
    refine hq f ts _ _ (g3.tell fH f3 wf3) (B3.mono (by omega)) ⟨h1, h6, ?_, fun t ht => ⟨parts_tame _ (htp t ht).1, ways_tame _ (htp t ht).1 _ (htp t ht).2.1⟩⟩ (.lst (.inl (.inl upd_same)) (U.DpAll.up hz (same_new wf3)))
    rw [mkR_in h1 h6]
    exact chk_good [] ts (fun t ht => ⟨(htp t ht).1, (htp t ht).2.1⟩) htn fun t _ z => by cases z
end K67

set_option Elab.async false
set_option linter.all false
set_option maxRecDepth 100000
set_option maxHeartbeats 4000000
/-! L67d: what the law finds due. -/
namespace U
open PySem PySem.Spec PyProof.Rows L2
theorem cutV_take (xs : List V) (i : Nat) (h : i ≤ xs.length) : cutV xs none (some (i : Int)) = xs.take i := by
  unfold cutV
  have e1 : HT.sIx xs.length 0 none = 0 := rfl
  have e2 : HT.sIx xs.length xs.length (some (i : Int)) = i := by
    rw [HT.sIx_nat]
    omega
  rw [e1, e2]
  simp
theorem cutV_init (xs : List V) (a : V) : cutV (xs ++ [a]) none (some (-1)) = xs := by
  unfold cutV
  have e1 : HT.sIx (xs ++ [a]).length 0 none = 0 := rfl
  have e2 : HT.sIx (xs ++ [a]).length (xs ++ [a]).length (some (-1)) = xs.length := by
    unfold HT.sIx
    simp
    try omega
  rw [e1, e2]
  simp
theorem atI_last {α : Type} (xs : List α) (a : α) : atI (xs ++ [a]) (-1) = some a := by
  unfold atI ixN
  rw [if_neg (by decide), if_pos (by rw [List.length_append]; simp; omega)]
  have e : (-1 + ((xs ++ [a]).length : Int)).toNat = xs.length := by rw [List.length_append]; simp; omega
  simp only [Option.bind_some, e]
  simp
theorem depthAll_strs : ∀ ys : List Str, PyData.depthAll (ys.map PyData.str) = 0
  | [] => rfl
  | y :: ys => by
    show max 0 (PyData.depthAll (ys.map PyData.str)) = 0
    rw [depthAll_strs ys]
    rfl
theorem lay_strs : ∀ ys : List Str, (∀ y ∈ ys, ∀ c ∈ y.cps.toList, c < 256) → PyData.canLayAll0 (ys.map PyData.str) = true
  | [], _ => rfl
  | y :: ys, h => by
    show (PyData.strOk y && PyData.canLayAll0 (ys.map PyData.str)) = true
    rw [lay_strs ys fun z hz => h z (List.mem_cons_of_mem _ hz), Bool.and_true]
    unfold PyData.strOk
    rw [Array.all_eq_true_iff_forall_mem]
    intro c hc
    have := h y (List.mem_cons_self ..) c (by simpa using hc)
    simp
    omega
theorem shaped_strs (ys : List Str) (h : ∀ y ∈ ys, ∀ c ∈ y.cps.toList, c < 256) : SeqAt.shaped (.list (ys.map PyData.str)) = true := by
  unfold SeqAt.shaped
  have e1 : PyData.canLay0 (.list (ys.map PyData.str)) = true := lay_strs ys h
  have e2 : PyData.depth (.list (ys.map PyData.str)) = 1 := by
    show PyData.depthAll (ys.map PyData.str) + 1 = 1
    rw [depthAll_strs]
  rw [e1, e2]
  rfl
theorem eqv_nil (ys : List Str) : PyData.eqv (.list (ys.map PyData.str)) (.list []) = decide (ys = []) := by
  cases ys with
  | nil => rfl
  | cons y ys => simp [PyData.eqv, PyData.eqvAll]
end U
namespace K67
open PySem PySem.Spec PyProof.Rows L2 U
theorem ways_asc {p : Str} : ∀ w ∈ waysOf p, ∀ c ∈ w.cps.toList, c < 256 := by
  intro w hw
  by_cases hp : p ∈ PARTSl
  · exact (ways_tame p hp w hw).2
  · rw [(ways_parts p).mpr hp] at hw
    cases hw
/-- a list of two, told of from now on -/
theorem retP_two {K : PySem.W.Frag} {W H : Hp} {Q : VK} {k : Str} {v : V} {d : PyData} {p : Addr} (sW : Same W H) (hv : Rp K W v d) (hp : H p = none) (q : RetP K NoM W H (.list [.str k, d]) Q) : Q (.ref p) (upd H p (.lst [.str k, v])) :=
  q _ _ _ (Gr.new sW hp) (.lst (.inl (.inl upd_same)) (.cons (.str k) (.cons (hv.up (same_new (Same.free sW hp))) .nil)))
theorem RetP.up {K : PySem.W.Frag} {W H H' : Hp} {Q : VK} {d : PyData} (h : RetP K NoM W H d Q) (sW : Same W H) (s : Same H H') : RetP K NoM W H' d Q := fun v W2 H2 g hv => h v W2 H2 ((Gr.same sW s).trans g) hv
theorem rd_law_steps_due {K : PySem.W.Frag} {vs : List V} {H : Hp} {Q : VK} {E : XK} (h : sp_law_steps_due K vs H Q E) : t_law_steps_due K { nx := fun _ H' => Q .non H', rt := Q } (L2.start ["_law_steps_here", "_law_at", "_law_part", "_law_way", "_law_row"] vs) H := by
  obtain ⟨s, W, ts, rfl, sW, hs, hok, hno⟩ := h
  change t_law_steps_due K _ [some (.ref s), none, none, none, none] H
  obtain ⟨s', xs, e, hsq, hxs⟩ := dp_list hs
  cases e
  have hsH := sW.seq hsq
  have hlen : xs.length = ts.length := by have := dpAll_len hxs; rw [List.length_map] at this; exact this
  have two : 2 ≤ sizeLine := by rw [sizeLine_eq]; decide
  refine ⟨xs, .inl hsH, ⟨_, rfl, ?_⟩⟩
  refine iteD (fun h1 => ?_) (fun h1 => ?_)
  · refine ⟨_, rfl, ?_⟩
    refine iteB (fun hb => ?_) (fun hb => ?_)
    · have h6 : ¬ (xs.length : Int) ≤ 6 := by simpa using hb
      exact ⟨two, fun p hp => retP_two sW (rp_of hs) hp (hno _ (mkR_len fun z => h6 (by omega)))⟩
    · have h6 : ts.length ≤ 6 := by
        have : (xs.length : Int) ≤ 6 := by simpa using hb
        omega
      have h1' : 1 ≤ ts.length := by omega
      have em := mkR_in h1' h6
      refine ⟨s, xs, rfl, hsH, ?_⟩
      refine for_it walk_enum (fun i σ H3 => (∃ o1 o2 o3 o4, σ = [some (.ref s), o1, o2, o3, o4]) ∧ Same H H3 ∧ chk [] (ts.take i) = none) ⟨⟨_, _, _, _, rfl⟩, Same.refl H, rfl⟩ (fun i σ H3 _ hP => hP.2.1.seq hsH) (fun i u σ H3 H4 hi hP hy => ?_) (fun σ H3 hP => ?_)
      · obtain ⟨⟨o1, o2, o3, o4, rfl⟩, s3, hc⟩ := hP
        obtain ⟨T, nx, y, rfl, hT, rfl, en, ey⟩ := hy
        cases en
        have ey : xs[i]? = some y := ey
        obtain ⟨t, et⟩ : ∃ t, ts[i]? = some t := ⟨ts[i]'(by omega), by simp [show i < ts.length by omega]⟩
        have hd : Dp K W y (pairD t) := dpAll_i hxs ey (by rw [List.getElem?_map, et]; rfl)
        obtain ⟨b, rfl, hb⟩ := pair_at hd
        have s4 : Same H (upd H3 T (.tup [.int (i : Nat), .ref b])) := s3.trans (same_new hT)
        have err : ∀ e, chk1 ((ts.take i).map Prod.fst) t = some e → mkR ts = some e := fun e he => by rw [em]; exact chk_err et hc he
        refine ⟨T, _, rfl, .inl (.inl upd_same), rfl, _, _, rfl, _, _, rfl, b, _, rfl, sqT_mono (sW.trans s4) hb, rfl, _, _, rfl, _, _, rfl, rfl, rfl, ?_⟩
        refine ⟨t.1, rfl, fun l5 H5 s5 hl5 e5 => ⟨Nat.zero_le _, fun z hz => .inr ⟨.list ((waysOf t.1).map PyData.str), .list [], ?_, .lst (.inl (.inl upd_same)) .nil, shaped_strs _ ways_asc, rfl, ⟨_, rfl, ?_⟩⟩⟩⟩
        · exact .lst (.inl (.inl ((same_new hz) _ _ e5))) (dpAll_strs _)
        rw [eqv_nil]
        have s6 := (s4.trans s5).trans (same_new (o := .lst []) hz)
        refine iteD (fun hw => ?_) (fun hw => ?_)
        · have hp := (ways_parts t.1).mp hw
          exact ⟨two, fun p hp2 => retP_two (sW.trans s6) (.str _) hp2 (RetP.up (hno _ (err _ (chk1_part hp))) sW s6)⟩
        · have hp : t.1 ∈ PARTSl := Classical.byContradiction fun z => hw ((ways_parts t.1).mpr z)
          refine ⟨t.1, rfl, fun l7 H7 s7 hl7 e7 => ⟨_, .inl (.inl (.inl e7)), rfl, flat_strs _, ⟨_, rfl, ?_⟩⟩⟩
          rw [inV_strs]
          have s8 := s6.trans s7
          refine iteB (fun hb2 => ?_) (fun hb2 => ?_)
          · have hw2 : t.2 ∉ waysOf t.1 := by simpa using hb2
            exact ⟨two, fun p hp2 => retP_two (sW.trans s8) (.str _) hp2 (RetP.up (hno _ (err _ (chk1_way hp hw2))) sW s8)⟩
          · have hw2 : t.2 ∈ waysOf t.1 := by simpa using hb2
            refine ⟨_, rfl, xs, s8.seq hsH, fun q hq => ?_⟩
            rw [cutV_take xs i (by omega)]
            have sq : SqL K (upd H7 q (.lst (xs.take i))) q (xs.take i) := .inl (.inl upd_same)
            have s9 := s8.trans (same_new (o := .lst (xs.take i)) hq)
            refine .inl ⟨⟨_, sq⟩, fun D hD => ?_⟩
            refine lc_zs (zs := (ts.take i).map fun u => V.str u.1) walk_list (by rw [List.length_map, List.length_take, List.length_take]; omega) (fun ys => (same_new hD).seq sq) (by rw [List.length_take, sizeLine_eq]; omega) (fun x => rfl) (fun j x z ys Q' ex ez q' => ?_) ?_
            · rw [List.getElem?_map] at ez
              obtain ⟨u, eu, rfl⟩ := Option.map_eq_some_iff.mp ez
              have dt : DpAll K W (xs.take i) ((ts.take i).map pairD) := by
                rw [List.map_take]
                exact dpAll_take i hxs
              have hd2 : Dp K W x (pairD u) := dpAll_i dt ex (by rw [List.getElem?_map, eu]; rfl)
              obtain ⟨b2, rfl, hb2⟩ := pair_at hd2
              exact ⟨_, _, .inr (sqT_mono ((sW.trans s9).trans (same_new hD)) hb2), rfl, q'⟩
            · have sD := s9.trans (same_new (o := .lst ((ts.take i).map fun u => V.str u.1)) hD)
              refine ⟨((ts.take i).map Prod.fst).map V.str, .inl (.inl (.inl ?_)), rfl, flat_strs _, ⟨_, rfl, ?_⟩⟩
              · rw [upd_same, List.map_map]
                rfl
              · rw [inV_strs]
                refine iteB (fun hb3 => ?_) (fun hb3 => ?_)
                · have hi3 : t.1 ∈ (ts.take i).map Prod.fst := by simpa using hb3
                  exact ⟨two, fun p hp2 => retP_two (sW.trans sD) (.str _) hp2 (RetP.up (hno _ (err _ (chk1_two hp hw2 hi3))) sW sD)⟩
                · have hi3 : t.1 ∉ (ts.take i).map Prod.fst := by simpa using hb3
                  refine ⟨⟨_, _, _, _, rfl⟩, sD, ?_⟩
                  rw [chk_snoc et hc]
                  exact chk1_ok hp hw2 hi3
      · obtain ⟨⟨o1, o2, o3, o4, rfl⟩, s3, hc⟩ := hP
        rw [hlen, List.take_length] at hc
        exact hok (by rw [em]; exact hc) H3 s3
  · refine ⟨_, rfl, ?_⟩
    refine iteB (fun _ => ?_) (fun z => by cases z)
    exact ⟨two, fun p hp => retP_two sW (rp_of hs) hp (hno _ (mkR_len fun z => h1 (by omega)))⟩
end K67

set_option Elab.async false
set_option linter.all false
set_option maxRecDepth 100000
set_option maxHeartbeats 4000000
/-! L67e: what the law finds due, of a text. -/
namespace K67
open PySem PySem.Spec PyProof.Rows L2 U
theorem word2_none1 {r : Str} (h : (Txt.split r BL).length ≠ 2) : word2 r = none := by
  unfold word2
  split
  · rename_i a b e; rw [e] at h; exact absurd rfl h
  · rfl
theorem word2_none2 {r : Str} (h : ("" : Str) ∈ Txt.split r BL) : word2 r = none := by
  unfold word2
  split
  · rename_i a b e
    rw [e] at h
    simp only [List.mem_cons, List.not_mem_nil, or_false] at h
    rw [if_pos (h.elim (fun z => .inl z.symm) fun z => .inr z.symm)]
  · rfl
theorem word2_some {r : Str} (h : (Txt.split r BL).length = 2) (h2 : ("" : Str) ∉ Txt.split r BL) : ∃ t, word2 r = some t ∧ Txt.split r BL = [t.1, t.2] := by
  obtain ⟨a, b, e⟩ : ∃ a b, Txt.split r BL = [a, b] := by
    match h3 : Txt.split r BL, h with
    | [a, b], _ => exact ⟨a, b, rfl⟩
  rw [e] at h2
  simp only [List.mem_cons, List.not_mem_nil, or_false, not_or] at h2
  refine ⟨(a, b), ?_, e⟩
  unfold word2
  rw [e]
  simp only
  rw [if_neg fun z => z.elim (fun z => h2.1 z.symm) fun z => h2.2 z.symm]
theorem rd_law_words_due {K : PySem.W.Frag} {vs : List V} {H : Hp} {Q : VK} {E : XK} (h : sp_law_words_due K vs H Q E) : t_law_words_due K { nx := fun _ H' => Q .non H', rt := Q } (L2.start ["_law_whole", "_law_many", "_law_rows", "_law_found", "_law_k", "_law_row", "_law_words"] vs) H := by
  obtain ⟨x, W, rfl, sW, ht, herr, hok⟩ := h
  change t_law_words_due K _ [some (.str x), some (.int 2), none, none, none, none, none] H
  have hl : x.length ≤ 1000 := ht.1
  have two : 2 ≤ sizeLine := by rw [sizeLine_eq]; decide
  refine ⟨rfl, (by decide : ((NL : Str).length == 0) = false), (by rw [sizeLine_eq]; omega), fun p hp => ⟨Nat.zero_le _, fun f hf => ?_⟩⟩
  obtain ⟨ini, last, e⟩ : ∃ ini last, Txt.split x NL = ini ++ [last] := ⟨_, _, (List.dropLast_concat_getLast (split_ne x NL rfl)).symm⟩
  have er : rowsO x = if last = "" then ini.map some else ini.map some ++ [none] := by
    unfold rowsO
    rw [e]
    simp
  have et : ∀ i, i ≤ ini.length → (rowsO x).take i = (ini.map some).take i := fun i hi => by
    rw [er]
    split
    · rfl
    · rw [List.take_append_of_le_length (by rw [List.length_map]; exact hi)]
  have hmany : ini.length ≤ 1000 := by
    have z := split_many ht (y := NL) rfl
    rw [e, List.length_append] at z
    have z' : ini.length + 1 ≤ 1000 + 1 := z
    omega
  have em : (Txt.split x NL).map V.str = ini.map V.str ++ [.str last] := by rw [e]; simp
  rw [em] at hf ⊢
  have hpf : p ≠ f := ne_of_none upd_same hf
  have fH : H f = none := Same.free (same_new hp) hf
  have g0 : Gr NoM W H W (upd (upd H p (.lst (ini.map V.str ++ [.str last]))) f (.lst [])) := Gr.same sW ((same_new hp).trans (same_new hf))
  have p0 := (same_new (o := .lst []) hf) _ _ (upd_same (H := H) (a := p) (o := .lst (ini.map V.str ++ [.str last])))
  have f0 := upd_same (H := upd H p (.lst (ini.map V.str ++ [.str last]))) (a := f) (o := .lst [])
  generalize (upd (upd H p (.lst (ini.map V.str ++ [.str last]))) f (.lst [])) = G at g0 p0 f0 ⊢
  have wf : W f = none := Same.free sW fH
  refine ⟨_, rfl, _, .inl (.inl p0), fun q hq => ?_⟩
  have ec : cutV (ini.map V.str ++ [.str last]) none (some (-1)) = ini.map V.str := cutV_init _ _
  have g1 : Gr NoM W H W (upd G q (.lst (cutV (ini.map V.str ++ [.str last]) none (some (-1))))) := g0.step_loc hq
  rw [show (-(1 : Int)) = -1 from rfl, ec] at *
  have q1 := upd_same (H := G) (a := q) (o := .lst (ini.map V.str))
  have p1 := (same_new (o := .lst (ini.map V.str)) hq) _ _ p0
  have f1 := (same_new (o := .lst (ini.map V.str)) hq) _ _ f0
  have nqf : q ≠ f := fun z => by rw [z, f0] at hq; cases hq
  have nqp : q ≠ p := fun z => by rw [z, p0] at hq; cases hq
  refine ⟨q, ini.map V.str, rfl, .inl (.inl q1), ?_⟩
  refine for_it (walk_enum (xs := ini.map V.str)) (fun i σ H3 => ∃ o4 o5 o6 ts W' zs, σ = [some (.str x), some (.int 2), some (.ref p), some (.ref f), o4, o5, o6] ∧ Okk ((rowsO x).take i) ts ∧ Gr NoM W H W' H3 ∧ W' f = none ∧ H3 f = some (.lst zs) ∧ DpAll K W' zs (ts.map pairD) ∧
      H3 p = some (.lst (ini.map V.str ++ [.str last])) ∧ H3 q = some (.lst (ini.map V.str)))
    ⟨none, none, none, [], W, [], rfl, .nil, g1, wf, f1, .nil, p1, q1⟩ (fun i σ H3 _ hP => ?_) (fun i u σ H3 H4 hi hP hy => ?_) (fun σ H3 hP => ?_)
  · obtain ⟨_, _, _, _, _, _, _, _, _, _, _, _, _, hq3⟩ := hP
    exact .inl (.inl hq3)
  · obtain ⟨o4, o5, o6, ts, W', zs, rfl, hk, g3, wf3, hf3, hz, hp3, hq3⟩ := hP
    obtain ⟨T, nx, y, rfl, hT, rfl, en, ey⟩ := hy
    cases en
    have ey : (ini.map V.str)[i]? = some y := ey
    rw [List.getElem?_map] at ey
    obtain ⟨r, er2, rfl⟩ := Option.map_eq_some_iff.mp ey
    have hi' : i < ini.length := (List.getElem?_eq_some_iff.mp er2).1
    have err2 : (rowsO x)[i]? = some (some r) := by
      rw [er]
      split
      · rw [List.getElem?_map, er2]; rfl
      · rw [List.getElem?_append_left (by rw [List.length_map]; exact hi'), List.getElem?_map, er2]; rfl
    have tr : Tame LIM r := rowsO_tame ht (List.mem_of_getElem? err2)
    have hrl : r.length ≤ 1000 := tr.1
    have g4 : Gr NoM W H W' (upd H3 T (.tup [.int (i : Nat), .str r])) := g3.step_loc hT
    have s4 := same_new (o := .tup [.int (i : Nat), .str r]) hT
    refine ⟨T, _, rfl, .inl (.inl upd_same), rfl, _, _, rfl, _, _, rfl, rfl, ?_⟩
    refine ⟨rfl, (by decide : ((BL : Str).length == 0) = false), (by rw [sizeLine_eq]; omega), fun w hw => ?_⟩
    have g5 : Gr NoM W H W' (upd (upd H3 T (.tup [.int (i : Nat), .str r])) w (.lst ((Txt.split r BL).map V.str))) := g4.step_loc hw
    have s5 := same_new (o := .lst ((Txt.split r BL).map V.str)) hw
    have sq : SqL K (upd (upd H3 T (.tup [.int (i : Nat), .str r])) w (.lst ((Txt.split r BL).map V.str))) w ((Txt.split r BL).map V.str) := .inl (.inl upd_same)
    have f5 := s5 _ _ (s4 _ _ hf3)
    have p5 := s5 _ _ (s4 _ _ hp3)
    have q5 := s5 _ _ (s4 _ _ hq3)
    generalize (upd (upd H3 T (.tup [.int (i : Nat), .str r])) w (.lst ((Txt.split r BL).map V.str))) = G5 at g5 sq f5 p5 q5 ⊢
    have bad : word2 r = none → ∀ l, G5 l = none → Q (.ref l) (upd G5 l (.lst [.str "row", .int (i : Nat)])) := fun hw2 l hl2 =>
      herr i (tups_err hk err2 hw2) l _ _ (g5.step_new hl2) upd_same
    have eq2 : ((.int (((Txt.split r BL).map V.str).length : Nat) : V) = .int 2) ↔ (Txt.split r BL).length = 2 := by
      rw [List.length_map]
      constructor
      · intro e; have := V.int.inj e; omega
      · intro e; rw [e]; rfl
    refine ⟨_, .inl sq, .inl ⟨rfl, _, rfl, ?_⟩⟩
    refine iteB (fun hb => ?_) (fun hb => ?_)
    · have hn : (Txt.split r BL).length ≠ 2 := fun z => by
        rw [eq2.mpr z] at hb
        simp at hb
      exact ⟨two, fun l hl2 => bad (word2_none1 hn) l hl2⟩
    · have hn : (Txt.split r BL).length = 2 := by
        refine eq2.mp ?_
        simpa using hb
      refine ⟨_, .inl sq, rfl, flat_strs _, ⟨_, rfl, ?_⟩⟩
      rw [inV_strs]
      refine iteD (fun hm => ?_) (fun hm => ?_)
      · exact ⟨two, fun l hl2 => bad (word2_none2 hm) l hl2⟩
      · obtain ⟨t, ew, es⟩ := word2_some hn hm
        rw [es] at sq
        refine ⟨.inl ⟨rfl, zs, .inl (.inl f5)⟩, w, _, rfl, .inl ⟨sq, fun u hu => ?_⟩⟩
        have nuf : u ≠ f := fun z => by rw [z, f5] at hu; cases hu
        have nup : u ≠ p := fun z => by rw [z, p5] at hu; cases hu
        have nuq : u ≠ q := fun z => by rw [z, q5] at hu; cases hu
        have g6 : Gr NoM W H (upd W' u (.tup [.str t.1, .str t.2])) (upd G5 u (.tup [.str t.1, .str t.2])) := g5.step_new hu
        have hf6 : (upd G5 u (.tup [.str t.1, .str t.2])) f = some (.lst zs) := by rw [upd_ne nuf.symm]; exact f5
        have wf6 : (upd W' u (.tup [.str t.1, .str t.2])) f = none := by rw [upd_ne nuf.symm]; exact wf3
        have hk2 : Okk ((rowsO x).take (i + 1)) (ts ++ [t]) := by
          rw [take_succ err2]
          exact .snoc hk ew
        have hzl : zs.length ≤ 1001 := by
          have h1 := dpAll_len hz
          have h2 := okk_len hk
          rw [List.length_map] at h1
          rw [List.length_take] at h2
          omega
        refine ⟨zs, hf6, (by rw [sizeLine_eq]; omega), ⟨_, _, _, ts ++ [t], _, zs ++ [.ref u], rfl, hk2, g6.mut fH wf6, wf6, upd_same, ?_, ?_, ?_⟩⟩
        · rw [List.map_append]
          refine dpAll_app (U.DpAll.up hz (same_new (Same.free g5.wh hu))) (.cons (.tup (.inl (.inl upd_same)) (.cons (.str _) (.cons (.str _) .nil))) .nil)
        · rw [upd_ne hpf, upd_ne nup.symm]
          exact p5
        · rw [upd_ne nqf, upd_ne nuq.symm]
          exact q5
  · obtain ⟨o4, o5, o6, ts, W', zs, rfl, hk, g3, wf3, hf3, hz, hp3, hq3⟩ := hP
    rw [List.length_map, et _ (Nat.le_refl _), List.take_of_length_le (by rw [List.length_map]; exact Nat.le_refl _)] at hk
    refine ⟨_, _, .inl (.inl (.inl hp3)), U.atI_last _ _, .inl ⟨rfl, _, rfl, ?_⟩⟩
    refine iteD (fun hl2 => ?_) (fun hl2 => ?_)
    · have hl3 : last = "" := V.str.inj hl2
      refine ⟨two, fun l hl4 => ?_⟩
      have gt := g3.tell fH hf3 wf3
      refine hok ts ?_ l f _ _ (gt.step_new hl4) upd_same ?_
      · rw [er, if_pos hl3]
        exact okk_tups hk
      · exact .lst (.inl (.inl (by rw [upd_ne (ne_of_none hf3 hl4), upd_same]))) (U.DpAll.up hz ((same_new wf3).trans (same_new (Same.free gt.wh hl4))))
    · have hl3 : ¬ last = "" := fun z => hl2 (by rw [z])
      refine ⟨_, .inl (.inl (.inl hp3)), ⟨two, fun l hl4 => ?_⟩⟩
      have e1 : (((ini.map V.str ++ [V.str last]).length : Nat) : Int) - 1 = (ini.length : Nat) := by
        rw [List.length_append, List.length_map]
        simp
      rw [e1]
      refine herr ini.length ?_ l _ _ (g3.step_new hl4) upd_same
      rw [er, if_neg hl3, tups_app, okk_tups hk]
      dsimp only
      rw [tups_cons]
      simp [wordO]
end K67

set_option Elab.async false
set_option linter.all false
set_option maxRecDepth 100000
set_option maxHeartbeats 4000000
/-! L67f: due, kind, asked. -/
namespace K67
open PySem PySem.Spec PyProof.Rows L2 U
theorem kind_NoText {K : PySem.W.Frag} (F : Fx K) {H : Hp} {Q : VK} {a dd : Addr} {v : V} {th : PyData} {W : Hp} (hdd : H dd = some (.xd [("found", v)])) (sW : Same W H) (hv : Rp K W v th) (q : RetP K NoM W H (.list [.str "text", th]) Q) :
    t_law_kind K (He.ga K "NoText") a dd { nx := fun _ H' => Q .non H', rt := Q } [some (.ref a), none] H := by
  have two : 2 ≤ sizeLine := by rw [sizeLine_eq]; decide
  refine ⟨Nat.zero_le _, fun l hl => ?_⟩
  have d0 := (same_new (o := .lst []) hl) _ _ hdd
  have l0 := upd_same (H := H) (a := l) (o := .lst [])
  have s0 := same_new (o := .lst []) hl
  generalize upd H l (.lst []) = G at d0 l0 s0 ⊢
  refine ⟨⟨_, d0⟩, rfl, _, F.kit "NoText" "NoText" rfl rfl, ⟨_, rfl, ?_⟩⟩
  refine iteD (fun _ => ?_) (fun z => absurd rfl z)
  refine ⟨.inl ⟨rfl, [], .inl (.inl l0)⟩, rfl, _, v, d0, rfl, ⟨two, fun r hr => ?_⟩⟩
  have nlr : l ≠ r := ne_of_none l0 hr
  have ndl : dd ≠ l := fun z => by rw [z, l0] at d0; cases d0
  refine ⟨[], (same_new hr) _ _ l0, (show 0 < sizeLine by rw [sizeLine_eq]; decide), ?_⟩
  have d1 : (upd (upd G r (.lst [.str "text", v])) l (.lst ([] ++ [.ref r]))) dd = some (.xd [("found", v)]) := (upd_ne ndl).trans ((same_new hr) _ _ d0)
  have l1 := upd_same (H := upd G r (.lst [.str "text", v])) (a := l) (o := .lst ([] ++ [.ref r]))
  have r1 : (upd (upd G r (.lst [.str "text", v])) l (.lst ([] ++ [.ref r]))) r = some (.lst [.str "text", v]) := (upd_ne nlr.symm).trans upd_same
  have k1 : Kp l H (upd (upd G r (.lst [.str "text", v])) l (.lst ([] ++ [.ref r]))) := (Kp.same (s0.trans (same_new hr))).trans Kp.upd
  have rH : H r = none := Same.free s0 hr
  generalize (upd (upd G r (.lst [.str "text", v])) l (.lst ([] ++ [.ref r]))) = G1 at d1 l1 r1 k1 ⊢
  refine ⟨⟨_, d1⟩, rfl, _, F.kit "NoText" "NoRow" rfl rfl, ⟨_, rfl, ?_⟩⟩
  refine iteD (fun z => absurd z (by decide)) (fun _ => ?_)
  refine ⟨⟨_, d1⟩, rfl, _, F.kit "NoText" "NoSteps" rfl rfl, ⟨_, rfl, ?_⟩⟩
  refine iteD (fun z => absurd z (by decide)) (fun _ => ?_)
  refine ⟨⟨_, d1⟩, rfl, _, F.kit "NoText" "NoPart" rfl rfl, ⟨_, rfl, ?_⟩⟩
  refine iteD (fun z => absurd z (by decide)) (fun _ => ?_)
  refine ⟨⟨_, d1⟩, rfl, _, F.kit "NoText" "NoWay" rfl rfl, ⟨_, rfl, ?_⟩⟩
  refine iteD (fun z => absurd z (by decide)) (fun _ => ?_)
  refine ⟨⟨_, d1⟩, rfl, _, F.kit "NoText" "Twice" rfl rfl, ⟨_, rfl, ?_⟩⟩
  refine iteD (fun z => absurd z (by decide)) (fun _ => ?_)
  refine ⟨_, .inl (.inl (.inl l1)), .inl ⟨rfl, ⟨_, rfl, ?_⟩⟩⟩
  refine iteD (fun _ => ?_) (fun z => absurd rfl z)
  refine ⟨⟨_, d1⟩, rfl, _, F.kit "NoText" "NoStep" rfl rfl, ⟨_, rfl, ?_⟩⟩
  refine iteB (fun _ => ?_) (fun z => absurd z (by decide))
  refine ⟨_, .ref r, .inl (.inl (.inl l1)), rfl, ?_⟩
  have s1 : Same H G1 := k1.all hl
  have rW : W r = none := Same.free sW rH
  refine q (.ref r) (upd W r (.lst [.str "text", v])) G1 ⟨fun b o h _ => s1 b o h, fun b o h => ⟨o, s1 b o h⟩, same_new rW, fun b o h => ?_, fun b o h n => ?_⟩ (.lst (.inl (.inl upd_same)) (.cons (.str _) (.cons (hv.up (same_new rW)) .nil)))
  · by_cases e : b = r
    · rw [e, upd_same] at h
      rw [e, r1]
      exact h
    · rw [upd_ne e] at h
      exact s1 _ _ (sW _ _ h)
  · by_cases e : b = r
    · rw [e]; exact rH
    · rw [upd_ne e, n] at h; cases h
theorem kind_NoRow {K : PySem.W.Frag} (F : Fx K) {H : Hp} {Q : VK} {a dd : Addr} {v : V} {th : PyData} {W : Hp} (hdd : H dd = some (.xd [("found", v)])) (sW : Same W H) (hv : Rp K W v th) (q : RetP K NoM W H (.list [.str "row", th]) Q) :
    t_law_kind K (He.ga K "NoRow") a dd { nx := fun _ H' => Q .non H', rt := Q } [some (.ref a), none] H := by
  have two : 2 ≤ sizeLine := by rw [sizeLine_eq]; decide
  refine ⟨Nat.zero_le _, fun l hl => ?_⟩
  have d0 := (same_new (o := .lst []) hl) _ _ hdd
  have l0 := upd_same (H := H) (a := l) (o := .lst [])
  have s0 := same_new (o := .lst []) hl
  generalize upd H l (.lst []) = G at d0 l0 s0 ⊢
  refine ⟨⟨_, d0⟩, rfl, _, F.kit "NoRow" "NoText" rfl rfl, ⟨_, rfl, ?_⟩⟩
  refine iteD (fun z => absurd z (by decide)) (fun _ => ?_)
  refine ⟨⟨_, d0⟩, rfl, _, F.kit "NoRow" "NoRow" rfl rfl, ⟨_, rfl, ?_⟩⟩
  refine iteD (fun _ => ?_) (fun z => absurd rfl z)
  refine ⟨.inl ⟨rfl, [], .inl (.inl l0)⟩, rfl, _, v, d0, rfl, ⟨two, fun r hr => ?_⟩⟩
  have nlr : l ≠ r := ne_of_none l0 hr
  have ndl : dd ≠ l := fun z => by rw [z, l0] at d0; cases d0
  refine ⟨[], (same_new hr) _ _ l0, (show 0 < sizeLine by rw [sizeLine_eq]; decide), ?_⟩
  have d1 : (upd (upd G r (.lst [.str "row", v])) l (.lst ([] ++ [.ref r]))) dd = some (.xd [("found", v)]) := (upd_ne ndl).trans ((same_new hr) _ _ d0)
  have l1 := upd_same (H := upd G r (.lst [.str "row", v])) (a := l) (o := .lst ([] ++ [.ref r]))
  have r1 : (upd (upd G r (.lst [.str "row", v])) l (.lst ([] ++ [.ref r]))) r = some (.lst [.str "row", v]) := (upd_ne nlr.symm).trans upd_same
  have k1 : Kp l H (upd (upd G r (.lst [.str "row", v])) l (.lst ([] ++ [.ref r]))) := (Kp.same (s0.trans (same_new hr))).trans Kp.upd
  have rH : H r = none := Same.free s0 hr
  generalize (upd (upd G r (.lst [.str "row", v])) l (.lst ([] ++ [.ref r]))) = G1 at d1 l1 r1 k1 ⊢
  refine ⟨⟨_, d1⟩, rfl, _, F.kit "NoRow" "NoSteps" rfl rfl, ⟨_, rfl, ?_⟩⟩
  refine iteD (fun z => absurd z (by decide)) (fun _ => ?_)
  refine ⟨⟨_, d1⟩, rfl, _, F.kit "NoRow" "NoPart" rfl rfl, ⟨_, rfl, ?_⟩⟩
  refine iteD (fun z => absurd z (by decide)) (fun _ => ?_)
  refine ⟨⟨_, d1⟩, rfl, _, F.kit "NoRow" "NoWay" rfl rfl, ⟨_, rfl, ?_⟩⟩
  refine iteD (fun z => absurd z (by decide)) (fun _ => ?_)
  refine ⟨⟨_, d1⟩, rfl, _, F.kit "NoRow" "Twice" rfl rfl, ⟨_, rfl, ?_⟩⟩
  refine iteD (fun z => absurd z (by decide)) (fun _ => ?_)
  refine ⟨_, .inl (.inl (.inl l1)), .inl ⟨rfl, ⟨_, rfl, ?_⟩⟩⟩
  refine iteD (fun _ => ?_) (fun z => absurd rfl z)
  refine ⟨⟨_, d1⟩, rfl, _, F.kit "NoRow" "NoStep" rfl rfl, ⟨_, rfl, ?_⟩⟩
  refine iteB (fun _ => ?_) (fun z => absurd z (by decide))
  refine ⟨_, .ref r, .inl (.inl (.inl l1)), rfl, ?_⟩
  have s1 : Same H G1 := k1.all hl
  have rW : W r = none := Same.free sW rH
  refine q (.ref r) (upd W r (.lst [.str "row", v])) G1 ⟨fun b o h _ => s1 b o h, fun b o h => ⟨o, s1 b o h⟩, same_new rW, fun b o h => ?_, fun b o h n => ?_⟩ (.lst (.inl (.inl upd_same)) (.cons (.str _) (.cons (hv.up (same_new rW)) .nil)))
  · by_cases e : b = r
    · rw [e, upd_same] at h
      rw [e, r1]
      exact h
    · rw [upd_ne e] at h
      exact s1 _ _ (sW _ _ h)
  · by_cases e : b = r
    · rw [e]; exact rH
    · rw [upd_ne e, n] at h; cases h
theorem kind_NoSteps {K : PySem.W.Frag} (F : Fx K) {H : Hp} {Q : VK} {a dd : Addr} {v : V} {th : PyData} {W : Hp} (hdd : H dd = some (.xd [("found", v)])) (sW : Same W H) (hv : Rp K W v th) (q : RetP K NoM W H (.list [.str "steps", th]) Q) :
    t_law_kind K (He.ga K "NoSteps") a dd { nx := fun _ H' => Q .non H', rt := Q } [some (.ref a), none] H := by
  have two : 2 ≤ sizeLine := by rw [sizeLine_eq]; decide
  refine ⟨Nat.zero_le _, fun l hl => ?_⟩
  have d0 := (same_new (o := .lst []) hl) _ _ hdd
  have l0 := upd_same (H := H) (a := l) (o := .lst [])
  have s0 := same_new (o := .lst []) hl
  generalize upd H l (.lst []) = G at d0 l0 s0 ⊢
  refine ⟨⟨_, d0⟩, rfl, _, F.kit "NoSteps" "NoText" rfl rfl, ⟨_, rfl, ?_⟩⟩
  refine iteD (fun z => absurd z (by decide)) (fun _ => ?_)
  refine ⟨⟨_, d0⟩, rfl, _, F.kit "NoSteps" "NoRow" rfl rfl, ⟨_, rfl, ?_⟩⟩
  refine iteD (fun z => absurd z (by decide)) (fun _ => ?_)
  refine ⟨⟨_, d0⟩, rfl, _, F.kit "NoSteps" "NoSteps" rfl rfl, ⟨_, rfl, ?_⟩⟩
  refine iteD (fun _ => ?_) (fun z => absurd rfl z)
  refine ⟨.inl ⟨rfl, [], .inl (.inl l0)⟩, rfl, _, v, d0, rfl, ⟨two, fun r hr => ?_⟩⟩
  have nlr : l ≠ r := ne_of_none l0 hr
  have ndl : dd ≠ l := fun z => by rw [z, l0] at d0; cases d0
  refine ⟨[], (same_new hr) _ _ l0, (show 0 < sizeLine by rw [sizeLine_eq]; decide), ?_⟩
  have d1 : (upd (upd G r (.lst [.str "steps", v])) l (.lst ([] ++ [.ref r]))) dd = some (.xd [("found", v)]) := (upd_ne ndl).trans ((same_new hr) _ _ d0)
  have l1 := upd_same (H := upd G r (.lst [.str "steps", v])) (a := l) (o := .lst ([] ++ [.ref r]))
  have r1 : (upd (upd G r (.lst [.str "steps", v])) l (.lst ([] ++ [.ref r]))) r = some (.lst [.str "steps", v]) := (upd_ne nlr.symm).trans upd_same
  have k1 : Kp l H (upd (upd G r (.lst [.str "steps", v])) l (.lst ([] ++ [.ref r]))) := (Kp.same (s0.trans (same_new hr))).trans Kp.upd
  have rH : H r = none := Same.free s0 hr
  generalize (upd (upd G r (.lst [.str "steps", v])) l (.lst ([] ++ [.ref r]))) = G1 at d1 l1 r1 k1 ⊢
  refine ⟨⟨_, d1⟩, rfl, _, F.kit "NoSteps" "NoPart" rfl rfl, ⟨_, rfl, ?_⟩⟩
  refine iteD (fun z => absurd z (by decide)) (fun _ => ?_)
  refine ⟨⟨_, d1⟩, rfl, _, F.kit "NoSteps" "NoWay" rfl rfl, ⟨_, rfl, ?_⟩⟩
  refine iteD (fun z => absurd z (by decide)) (fun _ => ?_)
  refine ⟨⟨_, d1⟩, rfl, _, F.kit "NoSteps" "Twice" rfl rfl, ⟨_, rfl, ?_⟩⟩
  refine iteD (fun z => absurd z (by decide)) (fun _ => ?_)
  refine ⟨_, .inl (.inl (.inl l1)), .inl ⟨rfl, ⟨_, rfl, ?_⟩⟩⟩
  refine iteD (fun _ => ?_) (fun z => absurd rfl z)
  refine ⟨⟨_, d1⟩, rfl, _, F.kit "NoSteps" "NoStep" rfl rfl, ⟨_, rfl, ?_⟩⟩
  refine iteB (fun _ => ?_) (fun z => absurd z (by decide))
  refine ⟨_, .ref r, .inl (.inl (.inl l1)), rfl, ?_⟩
  have s1 : Same H G1 := k1.all hl
  have rW : W r = none := Same.free sW rH
  refine q (.ref r) (upd W r (.lst [.str "steps", v])) G1 ⟨fun b o h _ => s1 b o h, fun b o h => ⟨o, s1 b o h⟩, same_new rW, fun b o h => ?_, fun b o h n => ?_⟩ (.lst (.inl (.inl upd_same)) (.cons (.str _) (.cons (hv.up (same_new rW)) .nil)))
  · by_cases e : b = r
    · rw [e, upd_same] at h
      rw [e, r1]
      exact h
    · rw [upd_ne e] at h
      exact s1 _ _ (sW _ _ h)
  · by_cases e : b = r
    · rw [e]; exact rH
    · rw [upd_ne e, n] at h; cases h
theorem kind_NoPart {K : PySem.W.Frag} (F : Fx K) {H : Hp} {Q : VK} {a dd : Addr} {v : V} {th : PyData} {W : Hp} (hdd : H dd = some (.xd [("found", v)])) (sW : Same W H) (hv : Rp K W v th) (q : RetP K NoM W H (.list [.str "part", th]) Q) :
    t_law_kind K (He.ga K "NoPart") a dd { nx := fun _ H' => Q .non H', rt := Q } [some (.ref a), none] H := by
  have two : 2 ≤ sizeLine := by rw [sizeLine_eq]; decide
  refine ⟨Nat.zero_le _, fun l hl => ?_⟩
  have d0 := (same_new (o := .lst []) hl) _ _ hdd
  have l0 := upd_same (H := H) (a := l) (o := .lst [])
  have s0 := same_new (o := .lst []) hl
  generalize upd H l (.lst []) = G at d0 l0 s0 ⊢
  refine ⟨⟨_, d0⟩, rfl, _, F.kit "NoPart" "NoText" rfl rfl, ⟨_, rfl, ?_⟩⟩
  refine iteD (fun z => absurd z (by decide)) (fun _ => ?_)
  refine ⟨⟨_, d0⟩, rfl, _, F.kit "NoPart" "NoRow" rfl rfl, ⟨_, rfl, ?_⟩⟩
  refine iteD (fun z => absurd z (by decide)) (fun _ => ?_)
  refine ⟨⟨_, d0⟩, rfl, _, F.kit "NoPart" "NoSteps" rfl rfl, ⟨_, rfl, ?_⟩⟩
  refine iteD (fun z => absurd z (by decide)) (fun _ => ?_)
  refine ⟨⟨_, d0⟩, rfl, _, F.kit "NoPart" "NoPart" rfl rfl, ⟨_, rfl, ?_⟩⟩
  refine iteD (fun _ => ?_) (fun z => absurd rfl z)
  refine ⟨.inl ⟨rfl, [], .inl (.inl l0)⟩, rfl, _, v, d0, rfl, ⟨two, fun r hr => ?_⟩⟩
  have nlr : l ≠ r := ne_of_none l0 hr
  have ndl : dd ≠ l := fun z => by rw [z, l0] at d0; cases d0
  refine ⟨[], (same_new hr) _ _ l0, (show 0 < sizeLine by rw [sizeLine_eq]; decide), ?_⟩
  have d1 : (upd (upd G r (.lst [.str "part", v])) l (.lst ([] ++ [.ref r]))) dd = some (.xd [("found", v)]) := (upd_ne ndl).trans ((same_new hr) _ _ d0)
  have l1 := upd_same (H := upd G r (.lst [.str "part", v])) (a := l) (o := .lst ([] ++ [.ref r]))
  have r1 : (upd (upd G r (.lst [.str "part", v])) l (.lst ([] ++ [.ref r]))) r = some (.lst [.str "part", v]) := (upd_ne nlr.symm).trans upd_same
  have k1 : Kp l H (upd (upd G r (.lst [.str "part", v])) l (.lst ([] ++ [.ref r]))) := (Kp.same (s0.trans (same_new hr))).trans Kp.upd
  have rH : H r = none := Same.free s0 hr
  generalize (upd (upd G r (.lst [.str "part", v])) l (.lst ([] ++ [.ref r]))) = G1 at d1 l1 r1 k1 ⊢
  refine ⟨⟨_, d1⟩, rfl, _, F.kit "NoPart" "NoWay" rfl rfl, ⟨_, rfl, ?_⟩⟩
  refine iteD (fun z => absurd z (by decide)) (fun _ => ?_)
  refine ⟨⟨_, d1⟩, rfl, _, F.kit "NoPart" "Twice" rfl rfl, ⟨_, rfl, ?_⟩⟩
  refine iteD (fun z => absurd z (by decide)) (fun _ => ?_)
  refine ⟨_, .inl (.inl (.inl l1)), .inl ⟨rfl, ⟨_, rfl, ?_⟩⟩⟩
  refine iteD (fun _ => ?_) (fun z => absurd rfl z)
  refine ⟨⟨_, d1⟩, rfl, _, F.kit "NoPart" "NoStep" rfl rfl, ⟨_, rfl, ?_⟩⟩
  refine iteB (fun _ => ?_) (fun z => absurd z (by decide))
  refine ⟨_, .ref r, .inl (.inl (.inl l1)), rfl, ?_⟩
  have s1 : Same H G1 := k1.all hl
  have rW : W r = none := Same.free sW rH
  refine q (.ref r) (upd W r (.lst [.str "part", v])) G1 ⟨fun b o h _ => s1 b o h, fun b o h => ⟨o, s1 b o h⟩, same_new rW, fun b o h => ?_, fun b o h n => ?_⟩ (.lst (.inl (.inl upd_same)) (.cons (.str _) (.cons (hv.up (same_new rW)) .nil)))
  · by_cases e : b = r
    · rw [e, upd_same] at h
      rw [e, r1]
      exact h
    · rw [upd_ne e] at h
      exact s1 _ _ (sW _ _ h)
  · by_cases e : b = r
    · rw [e]; exact rH
    · rw [upd_ne e, n] at h; cases h
theorem kind_NoWay {K : PySem.W.Frag} (F : Fx K) {H : Hp} {Q : VK} {a dd : Addr} {v : V} {th : PyData} {W : Hp} (hdd : H dd = some (.xd [("found", v)])) (sW : Same W H) (hv : Rp K W v th) (q : RetP K NoM W H (.list [.str "way", th]) Q) :
    t_law_kind K (He.ga K "NoWay") a dd { nx := fun _ H' => Q .non H', rt := Q } [some (.ref a), none] H := by
  have two : 2 ≤ sizeLine := by rw [sizeLine_eq]; decide
  refine ⟨Nat.zero_le _, fun l hl => ?_⟩
  have d0 := (same_new (o := .lst []) hl) _ _ hdd
  have l0 := upd_same (H := H) (a := l) (o := .lst [])
  have s0 := same_new (o := .lst []) hl
  generalize upd H l (.lst []) = G at d0 l0 s0 ⊢
  refine ⟨⟨_, d0⟩, rfl, _, F.kit "NoWay" "NoText" rfl rfl, ⟨_, rfl, ?_⟩⟩
  refine iteD (fun z => absurd z (by decide)) (fun _ => ?_)
  refine ⟨⟨_, d0⟩, rfl, _, F.kit "NoWay" "NoRow" rfl rfl, ⟨_, rfl, ?_⟩⟩
  refine iteD (fun z => absurd z (by decide)) (fun _ => ?_)
  refine ⟨⟨_, d0⟩, rfl, _, F.kit "NoWay" "NoSteps" rfl rfl, ⟨_, rfl, ?_⟩⟩
  refine iteD (fun z => absurd z (by decide)) (fun _ => ?_)
  refine ⟨⟨_, d0⟩, rfl, _, F.kit "NoWay" "NoPart" rfl rfl, ⟨_, rfl, ?_⟩⟩
  refine iteD (fun z => absurd z (by decide)) (fun _ => ?_)
  refine ⟨⟨_, d0⟩, rfl, _, F.kit "NoWay" "NoWay" rfl rfl, ⟨_, rfl, ?_⟩⟩
  refine iteD (fun _ => ?_) (fun z => absurd rfl z)
  refine ⟨.inl ⟨rfl, [], .inl (.inl l0)⟩, rfl, _, v, d0, rfl, ⟨two, fun r hr => ?_⟩⟩
  have nlr : l ≠ r := ne_of_none l0 hr
  have ndl : dd ≠ l := fun z => by rw [z, l0] at d0; cases d0
  refine ⟨[], (same_new hr) _ _ l0, (show 0 < sizeLine by rw [sizeLine_eq]; decide), ?_⟩
  have d1 : (upd (upd G r (.lst [.str "way", v])) l (.lst ([] ++ [.ref r]))) dd = some (.xd [("found", v)]) := (upd_ne ndl).trans ((same_new hr) _ _ d0)
  have l1 := upd_same (H := upd G r (.lst [.str "way", v])) (a := l) (o := .lst ([] ++ [.ref r]))
  have r1 : (upd (upd G r (.lst [.str "way", v])) l (.lst ([] ++ [.ref r]))) r = some (.lst [.str "way", v]) := (upd_ne nlr.symm).trans upd_same
  have k1 : Kp l H (upd (upd G r (.lst [.str "way", v])) l (.lst ([] ++ [.ref r]))) := (Kp.same (s0.trans (same_new hr))).trans Kp.upd
  have rH : H r = none := Same.free s0 hr
  generalize (upd (upd G r (.lst [.str "way", v])) l (.lst ([] ++ [.ref r]))) = G1 at d1 l1 r1 k1 ⊢
  refine ⟨⟨_, d1⟩, rfl, _, F.kit "NoWay" "Twice" rfl rfl, ⟨_, rfl, ?_⟩⟩
  refine iteD (fun z => absurd z (by decide)) (fun _ => ?_)
  refine ⟨_, .inl (.inl (.inl l1)), .inl ⟨rfl, ⟨_, rfl, ?_⟩⟩⟩
  refine iteD (fun _ => ?_) (fun z => absurd rfl z)
  refine ⟨⟨_, d1⟩, rfl, _, F.kit "NoWay" "NoStep" rfl rfl, ⟨_, rfl, ?_⟩⟩
  refine iteB (fun _ => ?_) (fun z => absurd z (by decide))
  refine ⟨_, .ref r, .inl (.inl (.inl l1)), rfl, ?_⟩
  have s1 : Same H G1 := k1.all hl
  have rW : W r = none := Same.free sW rH
  refine q (.ref r) (upd W r (.lst [.str "way", v])) G1 ⟨fun b o h _ => s1 b o h, fun b o h => ⟨o, s1 b o h⟩, same_new rW, fun b o h => ?_, fun b o h n => ?_⟩ (.lst (.inl (.inl upd_same)) (.cons (.str _) (.cons (hv.up (same_new rW)) .nil)))
  · by_cases e : b = r
    · rw [e, upd_same] at h
      rw [e, r1]
      exact h
    · rw [upd_ne e] at h
      exact s1 _ _ (sW _ _ h)
  · by_cases e : b = r
    · rw [e]; exact rH
    · rw [upd_ne e, n] at h; cases h
theorem kind_Twice {K : PySem.W.Frag} (F : Fx K) {H : Hp} {Q : VK} {a dd : Addr} {v : V} {th : PyData} {W : Hp} (hdd : H dd = some (.xd [("found", v)])) (sW : Same W H) (hv : Rp K W v th) (q : RetP K NoM W H (.list [.str "twice", th]) Q) :
    t_law_kind K (He.ga K "Twice") a dd { nx := fun _ H' => Q .non H', rt := Q } [some (.ref a), none] H := by
  have two : 2 ≤ sizeLine := by rw [sizeLine_eq]; decide
  refine ⟨Nat.zero_le _, fun l hl => ?_⟩
  have d0 := (same_new (o := .lst []) hl) _ _ hdd
  have l0 := upd_same (H := H) (a := l) (o := .lst [])
  have s0 := same_new (o := .lst []) hl
  generalize upd H l (.lst []) = G at d0 l0 s0 ⊢
  refine ⟨⟨_, d0⟩, rfl, _, F.kit "Twice" "NoText" rfl rfl, ⟨_, rfl, ?_⟩⟩
  refine iteD (fun z => absurd z (by decide)) (fun _ => ?_)
  refine ⟨⟨_, d0⟩, rfl, _, F.kit "Twice" "NoRow" rfl rfl, ⟨_, rfl, ?_⟩⟩
  refine iteD (fun z => absurd z (by decide)) (fun _ => ?_)
  refine ⟨⟨_, d0⟩, rfl, _, F.kit "Twice" "NoSteps" rfl rfl, ⟨_, rfl, ?_⟩⟩
  refine iteD (fun z => absurd z (by decide)) (fun _ => ?_)
  refine ⟨⟨_, d0⟩, rfl, _, F.kit "Twice" "NoPart" rfl rfl, ⟨_, rfl, ?_⟩⟩
  refine iteD (fun z => absurd z (by decide)) (fun _ => ?_)
  refine ⟨⟨_, d0⟩, rfl, _, F.kit "Twice" "NoWay" rfl rfl, ⟨_, rfl, ?_⟩⟩
  refine iteD (fun z => absurd z (by decide)) (fun _ => ?_)
  refine ⟨⟨_, d0⟩, rfl, _, F.kit "Twice" "Twice" rfl rfl, ⟨_, rfl, ?_⟩⟩
  refine iteD (fun _ => ?_) (fun z => absurd rfl z)
  refine ⟨.inl ⟨rfl, [], .inl (.inl l0)⟩, rfl, _, v, d0, rfl, ⟨two, fun r hr => ?_⟩⟩
  have nlr : l ≠ r := ne_of_none l0 hr
  have ndl : dd ≠ l := fun z => by rw [z, l0] at d0; cases d0
  refine ⟨[], (same_new hr) _ _ l0, (show 0 < sizeLine by rw [sizeLine_eq]; decide), ?_⟩
  have d1 : (upd (upd G r (.lst [.str "twice", v])) l (.lst ([] ++ [.ref r]))) dd = some (.xd [("found", v)]) := (upd_ne ndl).trans ((same_new hr) _ _ d0)
  have l1 := upd_same (H := upd G r (.lst [.str "twice", v])) (a := l) (o := .lst ([] ++ [.ref r]))
  have r1 : (upd (upd G r (.lst [.str "twice", v])) l (.lst ([] ++ [.ref r]))) r = some (.lst [.str "twice", v]) := (upd_ne nlr.symm).trans upd_same
  have k1 : Kp l H (upd (upd G r (.lst [.str "twice", v])) l (.lst ([] ++ [.ref r]))) := (Kp.same (s0.trans (same_new hr))).trans Kp.upd
  have rH : H r = none := Same.free s0 hr
  generalize (upd (upd G r (.lst [.str "twice", v])) l (.lst ([] ++ [.ref r]))) = G1 at d1 l1 r1 k1 ⊢
  refine ⟨_, .inl (.inl (.inl l1)), .inl ⟨rfl, ⟨_, rfl, ?_⟩⟩⟩
  refine iteD (fun _ => ?_) (fun z => absurd rfl z)
  refine ⟨⟨_, d1⟩, rfl, _, F.kit "Twice" "NoStep" rfl rfl, ⟨_, rfl, ?_⟩⟩
  refine iteB (fun _ => ?_) (fun z => absurd z (by decide))
  refine ⟨_, .ref r, .inl (.inl (.inl l1)), rfl, ?_⟩
  have s1 : Same H G1 := k1.all hl
  have rW : W r = none := Same.free sW rH
  refine q (.ref r) (upd W r (.lst [.str "twice", v])) G1 ⟨fun b o h _ => s1 b o h, fun b o h => ⟨o, s1 b o h⟩, same_new rW, fun b o h => ?_, fun b o h n => ?_⟩ (.lst (.inl (.inl upd_same)) (.cons (.str _) (.cons (hv.up (same_new rW)) .nil)))
  · by_cases e : b = r
    · rw [e, upd_same] at h
      rw [e, r1]
      exact h
    · rw [upd_ne e] at h
      exact s1 _ _ (sW _ _ h)
  · by_cases e : b = r
    · rw [e]; exact rH
    · rw [upd_ne e, n] at h; cases h
theorem k_NoText : (("NoText" : Str), ("text" : Str)) ∈ kinds := by decide
theorem k_NoRow : (("NoRow" : Str), ("row" : Str)) ∈ kinds := by decide
theorem k_NoSteps : (("NoSteps" : Str), ("steps" : Str)) ∈ kinds := by decide
theorem k_NoPart : (("NoPart" : Str), ("part" : Str)) ∈ kinds := by decide
theorem k_NoWay : (("NoWay" : Str), ("way" : Str)) ∈ kinds := by decide
theorem k_Twice : (("Twice" : Str), ("twice" : Str)) ∈ kinds := by decide
theorem chk1_kind {done : List Str} {t : Pr} {e : Ref} (h : chk1 done t = some e) : (e.cl, e.kd) ∈ kinds ∧ ∃ s, e.th = .str s := by
  unfold chk1 at h
  split at h
  · cases h; exact ⟨k_NoPart, _, rfl⟩
  · split at h
    · cases h; exact ⟨k_NoWay, _, rfl⟩
    · split at h
      · cases h; exact ⟨k_Twice, _, rfl⟩
      · cases h
theorem chk_kind {e : Ref} : ∀ {done : List Str} {ts : List Pr}, chk done ts = some e → (e.cl, e.kd) ∈ kinds
  | _, [], h => by cases h
  | done, t :: ts, h => by
    rw [chk_cons] at h
    cases hc : chk1 done t with
    | some e' => rw [hc] at h; cases h; exact (chk1_kind hc).1
    | none => rw [hc] at h; exact chk_kind h
theorem mkR_kind {ts : List Pr} {e : Ref} (h : mkR ts = some e) : (e.cl, e.kd) ∈ kinds := by
  unfold mkR at h
  split at h
  · exact chk_kind h
  · cases h; exact k_NoSteps
theorem readR_kind {d : PyData} {e : Ref} (h : readR d = .error e) : (e.cl, e.kd) ∈ kinds := by
  unfold readR at h
  split at h
  · split at h
    · cases h; exact k_NoRow
    · split at h
      · cases h
        rename_i hm
        exact mkR_kind hm
      · cases h
  · cases h; exact k_NoText
theorem kinds_exc {p : Pr} (h : p ∈ kinds) : excs.contains p.1 = true := by
  have z : (kinds.all fun p => excs.contains p.1) = true := by decide
  exact List.all_eq_true.mp z p h
theorem rd_law_kind {K : PySem.W.Frag} (F : Fx K) {cls : Value} {d : Option Addr} {a : Addr} {vs : List V} {H : Hp} {Q : VK} (h : sp_law_kind K cls d a vs H Q) :
    ∃ D dd, cls = .ref D ∧ d = some dd ∧ ExcC K D ∧ XfC K D ∧ PySem.W.findIn K (.ref D) "found" = some none ∧ t_law_kind K D a dd { nx := fun _ H' => Q .non H', rt := Q } (L2.start ["_law_e", "_law_found"] vs) H := by
  obtain ⟨e, dd, v, W, rfl, rfl, hk, rfl, hdd, _, sW, hv, q⟩ := h
  have hc := kinds_exc hk
  refine ⟨_, dd, rfl, rfl, F.exc _ hc, F.xf _ hc, F.no _ hc, ?_⟩
  obtain ⟨cl, kd, th⟩ := e
  dsimp only at hk hv q ⊢
  change t_law_kind K (He.ga K cl) a dd _ [some (.ref a), none] H
  unfold kinds at hk
  simp only [List.mem_cons, List.not_mem_nil, or_false, Prod.mk.injEq] at hk
  rcases hk with ⟨rfl, rfl⟩ | ⟨rfl, rfl⟩ | ⟨rfl, rfl⟩ | ⟨rfl, rfl⟩ | ⟨rfl, rfl⟩ | ⟨rfl, rfl⟩
  · exact kind_NoText F hdd sW hv q
  · exact kind_NoRow F hdd sW hv q
  · exact kind_NoSteps F hdd sW hv q
  · exact kind_NoPart F hdd sW hv q
  · exact kind_NoWay F hdd sW hv q
  · exact kind_Twice F hdd sW hv q
theorem rd_law_due {K : PySem.W.Frag} {vs : List V} {H : Hp} {Q : VK} {E : XK} (h : sp_law_due K vs H Q E) : t_law_due K { nx := fun _ H' => Q .non H', rt := Q } (L2.start ["_law_thing", "_law_due_here"] vs) H := by
  obtain ⟨v, d, W, rfl, sW, hd, ht, q⟩ := h
  change t_law_due K _ [some v, none] H
  have two : 2 ≤ sizeLine := by rw [sizeLine_eq]; decide
  obtain ⟨ty, hy1, hy2⟩ := rp_str (hd.up sW)
  refine ⟨v, .ty "str", ty, _, _, rfl, .ty _, hy1, hy2, ⟨_, rfl, ?_⟩⟩
  refine iteB (fun hb => ?_) (fun hb => ?_)
  · have er : readR d = .error ⟨"NoText", "text", d⟩ := by
      cases d <;> first | rfl | cases hb
    have ed : dueD d = .list [.str "text", d] := by unfold dueD; rw [er]; rfl
    rw [ed] at q
    exact ⟨two, fun p hp => retP_two sW hd hp q⟩
  · obtain ⟨x, e⟩ : ∃ x, d = .str x := by
      cases d <;> first | exact ⟨_, rfl⟩ | cases hb
    subst e
    cases hd
    have tm := ht x rfl
    refine ⟨x, W, rfl, sW, tm, fun k hk l W' H' g hl => ?_, fun ts hk l p W' H' g hl hp => ?_⟩
    · have sl : SqL K H' l [.str "row", .int k] := .inl (.inl (g.wh _ _ hl))
      refine ⟨_, _, .inl sl, rfl, .inl ⟨rfl, ⟨_, rfl, ?_⟩⟩⟩
      refine iteD (fun _ => ?_) (fun z => absurd rfl z)
      have ed : dueD (.str x) = .list [.str "row", .int k] := by unfold dueD readR; dsimp only; rw [hk]; rfl
      rw [ed] at q
      exact q _ W' H' g (.lst (.inl (.inl hl)) (.cons (.str _) (.cons (.int _) .nil)))
    · have sl : SqL K H' l [.str "told", .ref p] := .inl (.inl (g.wh _ _ hl))
      refine ⟨_, _, .inl sl, rfl, .inl ⟨rfl, ⟨_, rfl, ?_⟩⟩⟩
      refine iteD (fun z => absurd z (by decide)) (fun _ => ?_)
      refine ⟨_, _, .inl sl, rfl, ⟨p, W', ts, rfl, g.wh, hp, fun hm H2 s2 => ⟨false, rfl, ?_⟩, fun e he v2 W2 H2 g2 hv2 => ?_⟩⟩
      · have ed : dueD (.str x) = toldD ts := by unfold dueD readR; dsimp only; rw [hk]; dsimp only; rw [hm]
        rw [ed] at q
        refine q _ W' H2 (g.trans (Gr.same g.wh s2)) (.lst (.inl (.inl hl)) (.cons (.str _) (.cons (rp_of hp) .nil)))
      · have ed : dueD (.str x) = refD e := by unfold dueD readR; dsimp only; rw [hk]; dsimp only; rw [he]
        rw [ed] at q
        have qq := q v2 W2 H2 (g.trans g2) hv2
        cases hv2 with
        | @lst a2 xs2 _ hs2 ha2 =>
          refine ⟨true, .inl ⟨xs2, g2.wh.seq hs2, ?_⟩, qq⟩
          cases ha2
          rfl
theorem rd_law_asked {K : PySem.W.Frag} (F : Fx K) {vs : List V} {H : Hp} {Q : VK} {E : XK} (h : sp_law_asked K vs H Q E) : t_law_asked K { nx := fun _ H' => Q .non H', rt := Q } (L2.start ["_law_thing", "_law_e", "_law_told"] vs) H := by
  obtain ⟨v, d, W, rfl, sW, hd, ht, q⟩ := h
  change t_law_asked K _ [some v, none, none] H
  have two : 2 ≤ sizeLine := by rw [sizeLine_eq]; decide
  refine ⟨v, d, W, rfl, sW, hd, ht, fun ts hr x W' H' g hR => ?_, fun e he v2 dd W' H' g hv2 wdd hdd => ?_⟩
  · obtain ⟨dx, l, hx, hl⟩ := id hR
    have hx2 := g.wh _ _ hx
    refine ⟨.ref x, .ref (He.ga K "Rule"), .ref (He.ga K "Rule"), _, true, rfl, .own _, .base (.ins hx2 F.cl F.ha F.hn F.ht F.hm), F.kitR, ⟨_, rfl, ?_⟩⟩
    refine iteB (fun _ => ?_) (fun z => by cases z)
    refine ⟨x, dx, _, rfl, hx2, rfl, x, W', ts, rfl, g.wh, hR, fun v3 W3 H3 g3 hv3 => ⟨two, fun p hp => ?_⟩⟩
    have ed : dueD d = toldD ts := by unfold dueD; rw [hr]
    rw [ed] at q
    have g4 := g.trans g3
    exact q _ _ _ (g4.step_new hp) (.lst (.inl (.inl upd_same)) (.cons (.str _) (.cons ((rp_of hv3).up (same_new (Same.free g4.wh hp))) .nil)))
  · have hk := readR_kind he
    have ed : dueD d = refD e := by unfold dueD; rw [he]
    rw [ed] at q
    refine ⟨true, F.exm _ (kinds_exc hk), fun _ a ha => ⟨rfl, e, dd, v2, W', rfl, rfl, hk, rfl, hdd, wdd, g.wh, hv2, fun v3 W3 H3 g3 hv3 => q v3 W3 H3 (g.trans g3) hv3⟩, fun z => by cases z⟩
end K67

set_option Elab.async false
set_option linter.all false
set_option maxRecDepth 100000
set_option maxHeartbeats 4000000
/-! L67g: a text with another word. -/
namespace U
open PySem PySem.Spec PyProof.Rows L2
theorem set_sum {α : Type} (f : α → Nat) : ∀ {l : List α} {i : Nat} {a b : α}, l[i]? = some a → ((l.set i b).map f).sum + f a = (l.map f).sum + f b
  | x :: l, 0, a, b, h => by
    have e : x = a := by simpa using h
    subst e
    simp only [List.set_cons_zero, List.map_cons, List.sum_cons]
    omega
  | x :: l, i + 1, a, b, h => by
    have e : l[i]? = some a := by simpa using h
    have ih := set_sum f (b := b) e
    simp only [List.set_cons_succ, List.map_cons, List.sum_cons]
    omega
theorem sum_plus {α : Type} (f : α → Nat) : ∀ l : List α, (l.map fun x => f x + 1).sum = (l.map f).sum + l.length
  | [] => rfl
  | x :: l => by
    simp only [List.map_cons, List.sum_cons, List.length_cons]
    rw [sum_plus f l]
    omega
theorem mem_set {α : Type} {l : List α} {i : Nat} {a b : α} (h : a ∈ l.set i b) : a ∈ l ∨ a = b := List.mem_or_eq_of_mem_set h
end U
namespace K67
open PySem PySem.Spec PyProof.Rows L2 U
/-- signs and blanks of a row, of rows -/
def cst (ws : List Str) : Nat := (ws.map fun w => w.length + 1).sum
def cstR (rws : List (List Str)) : Nat := (rws.map cst).sum
theorem cst_eq (ws : List Str) : cst ws = (ws.map (·.length)).sum + ws.length := sum_plus (fun w : Str => w.length) ws
theorem cst_split (r : Str) : cst (Txt.split r BL) = r.length + 1 := by
  rw [cst_eq]
  exact split_sum r BL rfl
theorem cst_join {ws : List Str} (h : ws ≠ []) : (Txt.join BL ws).length + 1 = cst ws := by
  rw [join_len, cst_eq]
  have : 0 < ws.length := List.length_pos_iff.mpr h
  show _ + (ws.length - 1) * 1 + 1 = _
  omega
theorem cstR_split : ∀ rs : List Str, cstR (rs.map fun r => Txt.split r BL) = (rs.map fun r : Str => r.length + 1).sum
  | [] => rfl
  | r :: rs => by
    unfold cstR
    simp only [List.map_cons, List.sum_cons]
    rw [cst_split]
    have := cstR_split rs
    unfold cstR at this
    omega
theorem cstR_text (x : Str) : cstR ((Txt.split x NL).map fun r => Txt.split r BL) = x.length + 1 := by
  rw [cstR_split, sum_plus (fun r : Str => r.length)]
  exact split_sum x NL rfl
theorem cstR_join : ∀ {rws : List (List Str)}, (∀ ws ∈ rws, ws ≠ []) → ((rws.map fun ws => Txt.join BL ws).map fun r : Str => r.length + 1).sum = cstR rws
  | [], _ => rfl
  | ws :: rws, h => by
    unfold cstR
    simp only [List.map_cons, List.sum_cons]
    rw [cst_join (h ws (List.mem_cons_self ..))]
    have := cstR_join fun z hz => h z (List.mem_cons_of_mem _ hz)
    unfold cstR at this
    omega
theorem lines_len (rs : List Str) (h : rs ≠ []) : (Txt.join NL rs).length + 1 = (rs.map fun r : Str => r.length + 1).sum := by
  rw [join_len, sum_plus (fun r : Str => r.length)]
  have : 0 < rs.length := List.length_pos_iff.mpr h
  show _ + (rs.length - 1) * 1 + 1 = _
  omega
theorem nl_asc : ∀ c ∈ (NL : Str).cps.toList, c < 256 := by decide
theorem bl_asc : ∀ c ∈ (BL : Str).cps.toList, c < 256 := by decide
theorem rows_tame {n : Nat} {rws : List (List Str)} (h1 : rws ≠ []) (h2 : ∀ ws ∈ rws, ws ≠ []) (h3 : ∀ ws ∈ rws, ∀ w ∈ ws, ∀ c ∈ w.cps.toList, c < 256) (h4 : cstR rws ≤ n + 1) : Tame n (Txt.join NL (rws.map fun ws => Txt.join BL ws)) := by
  have z := lines_len (rws.map fun ws => Txt.join BL ws) (by simpa using h1)
  rw [cstR_join h2] at z
  refine ⟨by omega, fun c hc => ?_⟩
  rcases join_mem hc with hc | ⟨p, hp, hc⟩
  · exact nl_asc c hc
  · obtain ⟨ws, hw, rfl⟩ := List.mem_map.mp hp
    rcases join_mem hc with hc | ⟨w, hw2, hc⟩
    · exact bl_asc c hc
    · exact h3 ws hw w hw2 c hc
/-- rows of words in the heap -/
def RA (b D : Addr) (H0 H : Hp) (rws : List (List Str)) (ls : List Addr) : Prop := H D = some (.lst (ls.map V.ref)) ∧ ls.Nodup ∧ D ∉ ls ∧ b ∉ ls ∧ D ≠ b ∧ H0 D = none ∧ (∀ a ∈ ls, H0 a = none) ∧ ls.length = rws.length ∧
  ∀ (j : Nat) (a : Addr) (ws : List Str), ls[j]? = some a → rws[j]? = some ws → H a = some (.lst (ws.map V.str))
theorem RA.up {b D : Addr} {H0 H H' : Hp} {rws : List (List Str)} {ls : List Addr} (h : RA b D H0 H rws ls) (k : Kp b H H') : RA b D H0 H' rws ls := by
  obtain ⟨h1, h2, h3, h4, h5, h6, h7, h8, h9⟩ := h
  refine ⟨k _ _ h1 h5, h2, h3, h4, h5, h6, h7, h8, fun j a ws e1 e2 => k _ _ (h9 j a ws e1 e2) fun z => h4 (z ▸ List.mem_of_getElem? e1)⟩
def somes : List Str := ["letters", "number", "points", "makers", "year", "copy", "words", "whole", "few", "late", "figures", "Year", "up"]
theorem somes_tame : ∀ w ∈ somes, Tame 8 w := by
  have h : (somes.all fun x => decide (x.length ≤ 8) && x.cps.toList.all fun c => decide (c < 256)) = true := by decide +kernel
  exact fun p hp => tame_of (List.all_eq_true.mp h p hp)
theorem rd_law_other_word {K : PySem.W.Frag} {vs : List V} {H : Hp} {Q : VK} {E : XK} (h : sp_law_other_word K vs H Q E) : t_law_other_word K { nx := fun _ H' => Q .non H', rt := Q } (L2.start ["_law_box_here", "_law_whole", "_law_rows", "_law_row", "_law_some", "_law_word", "_law_place", "_law_at"] vs) H := by
  obtain ⟨b, x, n, L, rfl, hB, hn, ht, hL, hq⟩ := h
  change t_law_other_word K _ [some (.ref b), some (.str x), none, none, none, none, none, none] H
  have hl : x.length ≤ L := ht.1
  obtain ⟨ob, hob⟩ : ∃ o, H b = some o := by obtain ⟨_, _, _, _, e, _⟩ := hB; exact ⟨_, e⟩
  refine ⟨rfl, (by decide : ((NL : Str).length == 0) = false), (by rw [sizeLine_eq]; omega), fun p hp => .inl ⟨⟨_, .inl (.inl upd_same)⟩, fun D hD => ?_⟩⟩
  generalize hrs : Txt.split x NL = rs at *
  have rsT : ∀ r ∈ rs, Tame L r := fun r hr => split_tame ht (y := NL) rfl (by rw [hrs]; exact hr)
  have rsN : rs ≠ [] := by rw [← hrs]; exact split_ne x NL rfl
  have rsL : rs.length ≤ 421 := by
    have := split_many ht (y := NL) rfl
    rw [hrs] at this
    omega
  have s1 : Same H (upd H p (.lst (rs.map V.str))) := same_new hp
  have nbp : b ≠ p := ne_of_none hob hp
  have hob1 := s1 _ _ hob
  have nbD : b ≠ D := ne_of_none hob1 hD
  have p1 := upd_same (H := H) (a := p) (o := .lst (rs.map V.str))
  have npD : p ≠ D := ne_of_none p1 hD
  generalize hH1 : upd H p (.lst (rs.map V.str)) = H1 at *
  refine lc_it (walk_list (xs := rs.map V.str)) (fun i H3 => ∃ ls : List Addr, H3 D = some (.lst (ls.map V.ref)) ∧ ls.Nodup ∧ D ∉ ls ∧ ls.length = i ∧ (∀ a ∈ ls, H1 a = none) ∧ (∀ (j : Nat) (a : Addr) (r : Str), ls[j]? = some a → rs[j]? = some r → H3 a = some (.lst ((Txt.split r BL).map V.str))) ∧ Kp D H1 H3)
    ⟨[], upd_same, .nil, (by simp), rfl, (fun a ha => by cases ha), (fun j a r e _ => by simp at e), Kp.upd⟩ (fun i H3 _ hP => ?_) (fun i u H3 H4 hi hP hy => ?_) (fun H3 hP => ?_)
  · obtain ⟨ls, _, _, _, _, _, _, k⟩ := hP
    exact .inl (.inl (k _ _ p1 npD))
  · obtain ⟨ls, hD3, hnd, hDn, hli, hls, hro, k⟩ := hP
    obtain ⟨rfl, ey⟩ := hy
    rw [List.getElem?_map] at ey
    obtain ⟨r, er, rfl⟩ := Option.map_eq_some_iff.mp ey
    have tr := rsT r (List.mem_of_getElem? er)
    have hrl := tr.1
    have ty : ∀ (σ' : L2.St) (H' : Hp) (Q : Bool → Hp → Prop), Q true H' → tYes σ' H' Q := fun _ _ _ q => q
    refine ⟨rfl, ty _ _ _ (iteB (fun _ => ?_) fun hb => by cases hb)⟩
    refine ⟨rfl, (by decide : ((BL : Str).length == 0) = false), (by rw [sizeLine_eq]; omega), fun q hq2 => ?_⟩
    have nqD : q ≠ D := fun z => by rw [z, hD3] at hq2; cases hq2
    have hq1 : H1 q = none := k.free hD hq2
    refine ⟨ls.map V.ref, (same_new hq2) _ _ hD3, (by rw [List.length_map, hli, sizeLine_eq]; rw [List.length_map] at hi; omega), ls ++ [q], ?_, ?_, ?_, ?_, ?_, ?_, ?_⟩
    · rw [upd_same, List.map_append]
      rfl
    · refine List.nodup_append.mpr ⟨hnd, by simp, fun a ha c hc z => ?_⟩
      have ec : c = q := by simpa using hc
      obtain ⟨j, hj, ej⟩ := List.mem_iff_getElem.mp ha
      have ejs : ls[j]? = some a := by rw [List.getElem?_eq_getElem hj, ej]
      obtain ⟨rj, erj⟩ : ∃ rj, rs[j]? = some rj := ⟨rs[j]'(by rw [List.length_map] at hi; omega), by simp [show j < rs.length by rw [List.length_map] at hi; omega]⟩
      have := hro j a rj ejs erj
      rw [z, ec, hq2] at this
      cases this
    · intro hm
      rcases List.mem_append.mp hm with hm | hm
      · exact hDn hm
      · have e : D = q := by simpa using hm
        exact nqD e.symm
    · rw [List.length_append, hli]
      rfl
    · intro a ha
      rcases List.mem_append.mp ha with ha | ha
      · exact hls a ha
      · have e : a = q := by simpa using ha
        rw [e]
        exact hq1
    · intro j a r' e1 e2
      by_cases hj : j < ls.length
      · rw [List.getElem?_append_left hj] at e1
        have z := hro j a r' e1 e2
        have na : a ≠ D := fun z2 => hDn (z2 ▸ List.mem_of_getElem? e1)
        rw [upd_ne na]
        exact (same_new hq2) _ _ z
      · rw [List.getElem?_append_right (by omega)] at e1
        have hj2 : j = ls.length := by
          have : j - ls.length < 1 := by
            rcases Nat.lt_or_ge (j - ls.length) 1 with h | h
            · exact h
            · rw [List.getElem?_eq_none (by simpa using h)] at e1; cases e1
          omega
        rw [hj2, Nat.sub_self] at e1
        have ea : q = a := by simpa using e1
        subst ea
        rw [hj2, hli, er] at e2
        cases e2
        rw [upd_ne nqD, upd_same]
    · exact (k.trans (Kp.same (same_new hq2))).trans Kp.upd
  · obtain ⟨ls, hD3, hnd, hDn, hli, hls, hro, k⟩ := hP
    rw [List.length_map] at hli
    have sH3 : Same H1 H3 := k.all hD
    have HD : H D = none := Same.free s1 hD
    have A0 : RA b D H H3 (rs.map fun r => Txt.split r BL) ls := by
      refine ⟨hD3, hnd, hDn, (fun hm => by rw [hls b hm] at hob1; cases hob1), nbD.symm, HD, (fun a ha => Same.free s1 (hls a ha)), (by rw [List.length_map, hli]), fun j a ws e1 e2 => ?_⟩
      rw [List.getElem?_map] at e2
      obtain ⟨r, er, rfl⟩ := Option.map_eq_some_iff.mp e2
      exact hro j a r e1 er
    have S3 : Same H H3 := s1.trans sH3
    have B3 : Bx b n H3 := hB.at fun o e => S3 _ _ e
    have ctx := cstR_text x
    rw [hrs] at ctx
    have wsN : ∀ ws ∈ rs.map (fun r => Txt.split r BL), ws ≠ [] := fun ws hw => by
      obtain ⟨r, _, rfl⟩ := List.mem_map.mp hw
      exact split_ne r BL rfl
    have wsA : ∀ ws ∈ rs.map (fun r => Txt.split r BL), ∀ w ∈ ws, Tame L w := fun ws hw w hw2 => by
      obtain ⟨r, hr, rfl⟩ := List.mem_map.mp hw
      exact split_tame (rsT r hr) (y := BL) rfl hw2
    have rwsN : rs.map (fun r => Txt.split r BL) ≠ [] := by simpa using rsN
    have rwsL : (rs.map (fun r => Txt.split r BL)).length ≤ 421 := by rw [List.length_map]; exact rsL
    have rwsP : 0 < (rs.map (fun r => Txt.split r BL)).length := List.length_pos_iff.mpr rwsN
    generalize hrw : rs.map (fun r => Txt.split r BL) = rws at *
    have wsL : ∀ ws ∈ rws, 0 < ws.length ∧ ws.length ≤ 421 := fun ws hw => by
      refine ⟨List.length_pos_iff.mpr (wsN ws hw), ?_⟩
      have h1 := sum_le cst hw
      have h2 := cst_eq ws
      unfold cstR at ctx
      omega
    -- the lists of words
    refine ⟨(show 11 ≤ sizeLine by rw [sizeLine_eq]; decide), fun s1 hs1 => ⟨(show 2 ≤ sizeLine by rw [sizeLine_eq]; decide), fun s2 hs2 => ⟨_, _, (same_new hs2) _ _ upd_same, upd_same, (show 11 + 2 ≤ sizeLine by rw [sizeLine_eq]; decide), fun s3 hs3 => ?_⟩⟩⟩
    have sG := ((same_new hs1).trans (same_new hs2)).trans (same_new (o := .lst ([.str "letters", .str "number", .str "points", .str "makers", .str "year", .str "copy", .str "words", .str "whole", .str "few", .str "late", .str "figures"] ++ [.str "Year", .str "up"])) hs3)
    have e3 := upd_same (H := upd (upd H3 s1 (.lst [.str "letters", .str "number", .str "points", .str "makers", .str "year", .str "copy", .str "words", .str "whole", .str "few", .str "late", .str "figures"])) s2 (.lst [.str "Year", .str "up"])) (a := s3) (o := .lst ([.str "letters", .str "number", .str "points", .str "makers", .str "year", .str "copy", .str "words", .str "whole", .str "few", .str "late", .str "figures"] ++ [.str "Year", .str "up"]))
    have A1 := A0.up (Kp.same (b := b) sG)
    have K1 : Kp b H _ := Kp.same (S3.trans sG)
    have B4 := B3.at fun o e => sG _ _ e
    have nbs : s3 ≠ b := fun z => by
      have q := sG _ _ (S3 _ _ hob)
      have q2 := Same.free (same_new hs2) hs3
      have q3 := Same.free (same_new hs1) q2
      rw [z, S3 _ _ hob] at q3
      cases q3
    generalize (upd (upd (upd H3 s1 (.lst [.str "letters", .str "number", .str "points", .str "makers", .str "year", .str "copy", .str "words", .str "whole", .str "few", .str "late", .str "figures"])) s2 (.lst [.str "Year", .str "up"])) s3 (.lst ([.str "letters", .str "number", .str "points", .str "makers", .str "year", .str "copy", .str "words", .str "whole", .str "few", .str "late", .str "figures"] ++ [.str "Year", .str "up"]))) = G at sG e3 A1 K1 B4 ⊢
    have e3 : G s3 = some (.lst (somes.map V.str)) := e3
    have lenD : ∀ {Hx : Hp}, RA b D H Hx rws ls → SqL K Hx D (ls.map V.ref) := fun A => .inl (.inl A.1)
    have lsL : (ls.map V.ref).length = rws.length := by rw [List.length_map]; exact A1.2.2.2.2.2.2.2.1
    -- word
    refine ⟨_, .inl (.inl (.inl e3)), ⟨b, 13, n, rfl, B4, (by omega), (by decide), (by decide), fun r1 x1 r10 r11 B5 => ?_⟩⟩
    obtain ⟨v1, ev1, ev2⟩ := atI_in (xs := somes.map V.str) r10 r11
    rw [List.getElem?_map] at ev2
    obtain ⟨w0, ew0, rfl⟩ := Option.map_eq_some_iff.mp ev2
    have tw0 : Tame (L + 8) w0 := (somes_tame w0 (List.mem_of_getElem? ew0)).mono (by omega)
    have A2 := A1.up (Kp.upd (b := b) (o := .lst x1))
    have K2 := K1.trans (Kp.upd (b := b) (o := .lst x1))
    refine ⟨_, _, .inl (.inl (.inl ((upd_ne nbs).trans e3))), ev1, ?_⟩
    -- place
    refine ⟨_, .inl (lenD A2), ⟨b, _, n + 1, rfl, B5, (by omega), (by rw [lsL]; omega), (by rw [lsL]; omega), fun k0 x2 k00 k01 B6 => ?_⟩⟩
    have A3 := A2.up (Kp.upd (b := b) (o := .lst x2))
    have K3 := K2.trans (Kp.upd (b := b) (o := .lst x2))
    generalize (upd (upd G b (.lst x1)) b (.lst x2)) = G3 at A3 K3 B6 ⊢
    have pick : ∀ (k : Int), 0 ≤ k → k < ((ls.map V.ref).length : Nat) → ∃ (a : Addr) (ws : List Str), atI (ls.map V.ref) k = some (.ref a) ∧ ls[k.toNat]? = some a ∧ rws[k.toNat]? = some ws := fun k h0 h1 => by
      obtain ⟨v, e1, e2⟩ := atI_in (xs := ls.map V.ref) h0 h1
      rw [List.getElem?_map] at e2
      obtain ⟨a, ea, rfl⟩ := Option.map_eq_some_iff.mp e2
      have hk : k.toNat < rws.length := by rw [← lsL]; omega
      exact ⟨a, rws[k.toNat], e1, ea, by simp [hk]⟩
    obtain ⟨a0, ws0, ep1, ep2, ep3⟩ := pick k0 k00 k01
    have ws0m := List.mem_of_getElem? ep3
    obtain ⟨ws0p, ws0l⟩ := wsL ws0 ws0m
    have rowOf : ∀ {Hx : Hp} {j : Nat} {a : Addr} {ws : List Str}, RA b D H Hx rws ls → ls[j]? = some a → rws[j]? = some ws → Hx a = some (.lst (ws.map V.str)) := fun A e1 e2 => A.2.2.2.2.2.2.2.2 _ _ _ e1 e2
    refine ⟨_, _, .inl (lenD A3), ep1, ⟨_, .inl (.inl (.inl (rowOf A3 ep2 ep3))), ⟨b, _, n + 2, rfl, B6.mono (by omega), (by omega), (by rw [List.length_map]; omega), (by rw [List.length_map]; omega), fun j0 x3 j00 j01 B7 => ?_⟩⟩⟩
    have A4 := A3.up (Kp.upd (b := b) (o := .lst x3))
    have K4 := K3.trans (Kp.upd (b := b) (o := .lst x3))
    generalize (upd G3 b (.lst x3)) = G4 at A4 K4 B7 ⊢
    rw [List.length_map] at j01
    -- the end
    have tail : ∀ (w : Str) (Hx : Hp), Tame (L + 8) w → RA b D H Hx rws ls → Kp b H Hx → Bx b (n + 10) Hx → (tSeq (tAsg (cV 5) (gSub (tOp (uIx K) (cV 2) (cV 6)) (cV 7) rSetL))
        (tRet (tBM K "str" (uJoin K) (tC (.str ("\n" : Str))) (tCons (tLc (uIt K (cV 2)) (gName 3) tYes (tBM K "str" (uJoin K) (tC (.str (" " : Str))) (tCons (cV 3) tNil)) [3]) tNil)))) { nx := fun _ H' => Q .non H', rt := Q }
        [some (.ref b), some (.str x), some (.ref D), none, some (.ref s3), some (.str w), some (.int k0), some (.int j0)] Hx := by
      intro w Hx tw A Kx Bq
      have ha0 := rowOf A ep2 ep3
      have hab : a0 ≠ b := fun z => A.2.2.2.1 (z ▸ List.mem_of_getElem? ep2)
      have haD : a0 ≠ D := fun z => A.2.2.1 (z ▸ List.mem_of_getElem? ep2)
      have ha0H : H a0 = none := A.2.2.2.2.2.2.1 a0 (List.mem_of_getElem? ep2)
      have hj : j0.toNat < ws0.length := by omega
      refine ⟨_, _, .inl (lenD A), ep1, a0, _, j0, j0.toNat, rfl, rfl, ha0, ixN_in j00 (by rw [List.length_map]; exact j01), ?_⟩
      rw [← List.map_set]
      have eo : ws0[j0.toNat]? = some ws0[j0.toNat] := by simp [hj]
      have q1 := set_sum (fun w : Str => w.length + 1) (b := w) eo
      have q2 := set_sum cst (b := ws0.set j0.toNat w) ep3
      have twl := tw.1
      have cR : cstR (rws.set k0.toNat (ws0.set j0.toNat w)) ≤ 2 * L + 9 := by
        unfold cstR cst at *
        omega
      have mN : ∀ ws ∈ rws.set k0.toNat (ws0.set j0.toNat w), ws ≠ [] := fun ws hw => by
        rcases mem_set hw with hw | rfl
        · exact wsN ws hw
        · intro z
          have := congrArg List.length z
          rw [List.length_set, List.length_nil] at this
          omega
      have mA : ∀ ws ∈ rws.set k0.toNat (ws0.set j0.toNat w), ∀ u ∈ ws, ∀ c ∈ u.cps.toList, c < 256 := fun ws hw u hu => by
        rcases mem_set hw with hw | rfl
        · exact (wsA ws hw u hu).2
        · rcases mem_set hu with hu | rfl
          · exact (wsA ws0 ws0m u hu).2
          · exact tw.2
      have mR : rws.set k0.toNat (ws0.set j0.toNat w) ≠ [] := fun z => by
        have := congrArg List.length z
        rw [List.length_set, List.length_nil] at this
        omega
      have lR : (rws.set k0.toNat (ws0.set j0.toNat w)).length = rws.length := List.length_set ..
      have gR : ∀ (j : Nat) (a : Addr) (ws : List Str), ls[j]? = some a → (rws.set k0.toNat (ws0.set j0.toNat w))[j]? = some ws → (upd Hx a0 (.lst ((ws0.set j0.toNat w).map V.str))) a = some (.lst (ws.map V.str)) := fun j a ws e1 e2 => by
        by_cases hjk : j = k0.toNat
        · subst hjk
          rw [ep2] at e1
          cases e1
          rw [List.getElem?_set_self (List.getElem?_eq_some_iff.mp ep3).1] at e2
          cases e2
          exact upd_same
        · rw [List.getElem?_set_ne (Ne.symm hjk)] at e2
          have na : a ≠ a0 := fun z => hjk ((List.getElem?_inj (List.getElem?_eq_some_iff.mp e1).1 A.2.1).mp (by rw [e1, ep2, z]))
          rw [upd_ne na]
          exact rowOf A e1 e2
      have cA : ∀ ws ∈ rws.set k0.toNat (ws0.set j0.toNat w), cst ws ≤ 2 * L + 9 := fun ws hw => by
        have := sum_le cst hw
        unfold cstR at cR
        omega
      have hD5 : (upd Hx a0 (.lst ((ws0.set j0.toNat w).map V.str))) D = some (.lst (ls.map V.ref)) := (upd_ne haD.symm).trans A.1
      have K5 : Kp b H (upd Hx a0 (.lst ((ws0.set j0.toNat w).map V.str))) := fun a o e n => by
        rw [upd_ne (ne_of_none e ha0H)]
        exact Kx a o e n
      have B5' : Bx b (n + 10) (upd Hx a0 (.lst ((ws0.set j0.toNat w).map V.str))) := Bq.at fun o e => (upd_ne hab.symm).trans e
      generalize (upd Hx a0 (.lst ((ws0.set j0.toNat w).map V.str))) = G5 at gR hD5 K5 B5' ⊢
      generalize (rws.set k0.toNat (ws0.set j0.toNat w)) = rw2 at *
      refine ⟨rfl, .inl ⟨⟨_, .inl (.inl hD5)⟩, fun D2 hD2 => ?_⟩⟩
      refine lc_zs (zs := rw2.map fun ws => V.str (Txt.join BL ws)) (walk_list (xs := ls.map V.ref)) (by rw [List.length_map, lsL, lR]) (fun ys => .inl (.inl ((same_new hD2) _ _ hD5))) (by rw [lsL, sizeLine_eq]; omega) (fun y => rfl) (fun i y z ys Q' ey ez q => ?_) ?_
      · rw [List.getElem?_map] at ey ez
        obtain ⟨a, ea, rfl⟩ := Option.map_eq_some_iff.mp ey
        obtain ⟨ws, ew, rfl⟩ := Option.map_eq_some_iff.mp ez
        have hc := cA ws (List.mem_of_getElem? ew)
        rw [cst_eq] at hc
        refine ⟨rfl, ws, .inl (.inl (.inl ((same_new hD2) _ _ (gR i a ws ea ew)))), ?_, q⟩
        show _ + ws.length * 1 ≤ _
        omega
      · refine ⟨rw2.map fun ws => Txt.join BL ws, .inl (.inl (.inl ?_)), ?_, ?_⟩
        · rw [upd_same, List.map_map]
          rfl
        · have z := cstR_join mN
          rw [sum_plus (fun r : Str => r.length)] at z
          show _ + _ * 1 ≤ _
          omega
        · exact hq _ _ (K5.trans (Kp.same (same_new hD2))) ((B5'.at fun o e => (same_new hD2) _ _ e).mono (by omega)) ((rows_tame mR mN mA (n := 2 * L + 8) (by omega)).mono (by omega))
    -- the word of another row
    refine ⟨b, 3, n + 3, rfl, B7.mono (by omega), (by omega), (by decide), (by decide), fun r4 x4 r40 r41 B8 => .inl ⟨rfl, ⟨_, rfl, ?_⟩⟩⟩
    have A5 := A4.up (Kp.upd (b := b) (o := .lst x4))
    have K5 := K4.trans (Kp.upd (b := b) (o := .lst x4))
    refine iteD (fun _ => ?_) (fun _ => ?_)
    · refine ⟨_, .inl (lenD A5), ⟨b, _, n + 4, rfl, B8.mono (by omega), (by omega), (by rw [lsL]; omega), (by rw [lsL]; omega), fun k5 x5 k50 k51 B9 => ?_⟩⟩
      have A6 := A5.up (Kp.upd (b := b) (o := .lst x5))
      have K6 := K5.trans (Kp.upd (b := b) (o := .lst x5))
      obtain ⟨a5, ws5, eq1, eq2, eq3⟩ := pick k5 k50 k51
      have ws5m := List.mem_of_getElem? eq3
      obtain ⟨ini5, la5, e5⟩ : ∃ ini la, ws5 = ini ++ [la] := ⟨_, _, (List.dropLast_concat_getLast (wsN ws5 ws5m)).symm⟩
      have em5 : ws5.map V.str = ini5.map V.str ++ [.str la5] := by rw [e5]; simp
      have h5 := rowOf A6 eq2 eq3
      rw [em5] at h5
      refine ⟨_, _, .inl (lenD A6), eq1, ⟨_, _, .inl (.inl (.inl h5)), U.atI_last _ _, ?_⟩⟩
      exact tail la5 _ ((wsA ws5 ws5m la5 (by rw [e5]; simp)).mono (by omega)) A6 K6 (B9.mono (by omega))
    · exact tail w0 _ tw0 A5 K5 (B8.mono (by omega))
end K67

set_option Elab.async false
set_option linter.all false
set_option maxRecDepth 100000
set_option maxHeartbeats 4000000
/-! L67h: a text spoilt. -/
namespace U
open PySem PySem.Spec PyProof.Rows L2
theorem cutS_list (z : Str) (lo hi : Option Int) : ∃ a c, (cutS z lo hi).cps.toList = (z.cps.toList.drop a).take c := ⟨_, _, rfl⟩
theorem Tame.cut {n : Nat} {z : Str} (h : Tame n z) (lo hi : Option Int) : Tame n (cutS z lo hi) := by
  obtain ⟨a, c, e⟩ := cutS_list z lo hi
  refine h.sub ?_ fun d hd => ?_
  · rw [len_list, e, List.length_take, List.length_drop, len_list]
    omega
  · rw [e] at hd
    exact List.mem_of_mem_drop (List.mem_of_mem_take hd)
theorem cutV_map {α : Type} (f : α → V) (l : List α) (lo hi : Option Int) : ∃ a c, cutV (l.map f) lo hi = ((l.drop a).take c).map f := by
  refine ⟨HT.sIx l.length 0 lo, HT.sIx l.length l.length hi - HT.sIx l.length 0 lo, ?_⟩
  unfold cutV
  rw [List.map_take, List.map_drop, List.length_map]
theorem sum_take {α : Type} (f : α → Nat) (l : List α) (c : Nat) : ((l.take c).map f).sum ≤ (l.map f).sum := by
  have e := congrArg (fun l => (l.map f).sum) (List.take_append_drop c l)
  simp only [List.map_append, List.sum_append] at e
  omega
theorem sum_drop {α : Type} (f : α → Nat) (l : List α) (c : Nat) : ((l.drop c).map f).sum ≤ (l.map f).sum := by
  have e := congrArg (fun l => (l.map f).sum) (List.take_append_drop c l)
  simp only [List.map_append, List.sum_append] at e
  omega
end U
namespace K67
open PySem PySem.Spec PyProof.Rows L2 U
def SG1 : Str := " .0123456789abcdefghijklmnopqrstuvwxyzAZ-_~\n\n"
def SG2 : Str := "!\"#$&'()*+,/:;<=>?\x40[\\]^`{|}"
theorem sg_len : SG1.length ≤ 100 ∧ SG2.length ≤ 100 ∧ 0 < (SG1 ++ SG2).length ∧ (SG1 ++ SG2).length ≤ 200 := by decide +kernel
theorem sg_tame : Tame 200 (SG1 ++ SG2) := tame_of (by decide +kernel)
theorem rd_law_spoilt {K : PySem.W.Frag} {vs : List V} {H : Hp} {Q : VK} {E : XK} (h : sp_law_spoilt K vs H Q E) : t_law_spoilt K { nx := fun _ H' => Q .non H', rt := Q } (L2.start ["_law_box_here", "_law_whole", "_law_way", "_law_at", "_law_signs", "_law_sign", "_law_rows", "_law_place", "_law_other"] vs) H := by
  obtain ⟨b, x, n, L, rfl, hB, hn, ht, hL, hq⟩ := h
  change t_law_spoilt K _ [some (.ref b), some (.str x), none, none, none, none, none, none, none] H
  have hl : x.length ≤ L := ht.1
  have xs0 : x.length ≤ sizeLine := by rw [sizeLine_eq]; omega
  obtain ⟨g1, g2, g3, g4⟩ := sg_len
  refine ⟨b, 8, n, rfl, hB, (by omega), (by decide), (by decide), fun w x1 w0 w8 B1 => ?_⟩
  have K1 : Kp b H _ := Kp.upd (o := .lst x1)
  refine ⟨xs0, ⟨b, _, n + 1, rfl, B1, (by omega), (by omega), (by omega), fun at_ x2 a0 a1 B2 => ?_⟩⟩
  have K2 := K1.trans (Kp.upd (b := b) (o := .lst x2))
  generalize (upd (upd H b (.lst x1)) b (.lst x2)) = G2 at K2 B2 ⊢
  refine ⟨(by rw [sizeLine_eq]; show SG1.length + SG2.length ≤ _; omega), ?_⟩
  refine ⟨SG1 ++ SG2, .ref b, x, rfl, (by rw [sizeLine_eq]; omega), rfl, rfl, (by omega), ?_⟩
  refine ⟨(by rw [sizeLine_eq]; show (SG1 ++ SG2).length ≤ _; omega), ⟨b, _, n + 2, rfl, B2.mono (by omega), (by omega), (show (0 : Int) < ((SG1 ++ SG2).length : Nat) by omega), (show (((SG1 ++ SG2).length : Nat) : Int) < 1000000 by omega), fun k x3 k0 k1 B3 => ?_⟩⟩
  have K3 := K2.trans (Kp.upd (b := b) (o := .lst x3))
  generalize (upd G2 b (.lst x3)) = G3 at K3 B3 ⊢
  have k1' : k < ((SG1 ++ SG2).cps.toList.length : Nat) := by rw [← U.len_list]; exact k1
  obtain ⟨c, ec1, ec2⟩ := atI_in k0 k1'
  have hc : c < 256 := sg_tame.2 c (List.mem_of_getElem? ec2)
  have tc : Tame 1 ⟨#[c]⟩ := sg_tame.one k ec1
  refine ⟨k, c, rfl, ec1, ⟨b, 8, n + 3, rfl, B3.mono (by omega), (by omega), (by decide), (by decide), fun r x4 r0 r8 B4 => ⟨r, rfl, fun _ y hy1 hy2 => ?_, fun _ => ?_⟩⟩⟩
  · refine hq y _ (K3.trans Kp.upd) (B4.mono (by omega)) ⟨by omega, fun d hd => ?_⟩
    rcases hy2 d hd with z | z
    · exact ht.2 d z
    · rw [z]; exact hc
  have K4 := K3.trans (Kp.upd (b := b) (o := .lst x4))
  generalize (upd G3 b (.lst x4)) = G4 at K4 B4 ⊢
  obtain ⟨ob, hob⟩ : ∃ o, G4 b = some o := by obtain ⟨_, _, _, _, e, _⟩ := B4; exact ⟨_, e⟩
  obtain ⟨ob0, hob0⟩ : ∃ o, H b = some o := by obtain ⟨_, _, _, _, e, _⟩ := hB; exact ⟨_, e⟩
  refine ⟨rfl, (by decide : ((NL : Str).length == 0) = false), (by rw [sizeLine_eq]; omega), fun p hp => ?_⟩
  have nbp : b ≠ p := ne_of_none hob hp
  have hpH : H p = none := by
    cases e : H p with
    | none => rfl
    | some o => rw [K4 p o e nbp.symm] at hp; cases hp
  have rsT : ∀ r ∈ Txt.split x NL, Tame L r := fun r hr => split_tame ht (y := NL) rfl hr
  have rsL : (Txt.split x NL).length ≤ 421 := by
    have := split_many ht (y := NL) rfl
    omega
  have rsP : 0 < (Txt.split x NL).length := List.length_pos_iff.mpr (split_ne x NL rfl)
  have rsS : ((Txt.split x NL).map fun r : Str => r.length + 1).sum ≤ L + 1 := by
    rw [sum_plus (fun r : Str => r.length)]
    have := split_sum x NL rfl
    omega
  have p5 := upd_same (H := G4) (a := p) (o := .lst ((Txt.split x NL).map V.str))
  have K5 := K4.trans (Kp.same (b := b) (same_new (o := .lst ((Txt.split x NL).map V.str)) hp))
  have B5 := B4.at fun o e => (same_new (o := .lst ((Txt.split x NL).map V.str)) hp) _ _ e
  generalize Txt.split x NL = rs at *
  generalize (upd G4 p (.lst (rs.map V.str))) = G5 at p5 K5 B5 ⊢
  refine ⟨_, .inl (.inl (.inl p5)), ⟨b, _, n + 4, rfl, B5.mono (by omega), (by omega), (by rw [List.length_map]; omega), (by rw [List.length_map]; omega), fun pl x6 p0 p1 B6 => ?_⟩⟩
  rw [List.length_map] at p1
  have K6 := K5.trans (Kp.upd (b := b) (o := .lst x6))
  have p6 : (upd G5 b (.lst x6)) p = some (.lst (rs.map V.str)) := (upd_ne nbp.symm).trans p5
  generalize (upd G5 b (.lst x6)) = G6 at K6 p6 B6 ⊢
  have done : ∀ (y : Str), Tame (2 * L + 10) y → Q (.str y) G6 := fun y ty => hq y _ K6 (B6.mono (by omega)) ty
  have cat : ∀ (y z : Str), Tame L y → Tame (L + 2) z → y.length + z.length ≤ sizeLine ∧ Tame (2 * L + 10) (y ++ z) := fun y z ty tz => by
    have h1 := ty.1
    have h2 := tz.1
    exact ⟨by rw [sizeLine_eq]; omega, (ty.app tz).mono (by omega)⟩
  have cat3 : ∀ (y z u : Str), Tame L y → Tame 1 z → Tame L u → y.length + z.length ≤ sizeLine ∧ (y ++ z).length + u.length ≤ sizeLine ∧ Tame (2 * L + 10) (y ++ z ++ u) := fun y z u ty tz tu => by
    have h1 := ty.1
    have h2 := tz.1
    have h3 := tu.1
    exact ⟨by rw [sizeLine_eq]; omega, by rw [len_app, sizeLine_eq]; omega, ((ty.app tz).app tu).mono (by omega)⟩
  have fin : ∀ (rs' : List Str) (l : Addr) (Hx : Hp), Hx l = some (.lst (rs'.map V.str)) → (rs'.map fun r : Str => r.length + 1).sum ≤ 2 * L + 2 → (∀ r ∈ rs', ∀ c ∈ r.cps.toList, c < 256) → Kp b H Hx → Bx b (n + 20) Hx → uJoin K (.str NL) [.ref l] Hx Q := by
    intro rs' l Hx hl' hs hcs Kx Bq
    rw [sum_plus (fun r : Str => r.length)] at hs
    refine ⟨rs', .inl (.inl (.inl hl')), ?_, hq _ _ Kx Bq (join_tame ?_ nl_asc hcs)⟩
    · show _ + rs'.length * 1 ≤ _
      omega
    · show _ + (rs'.length - 1) * 1 ≤ _
      omega
  have asc : ∀ r ∈ rs, ∀ c ∈ r.cps.toList, c < 256 := fun r hr => (rsT r hr).2
  have B20 : Bx b (n + 20) G6 := B6.mono (by omega)
  refine .inl ⟨rfl, ⟨_, rfl, ?_⟩⟩
  refine iteD (fun _ => ?_) (fun _ => ?_)
  · obtain ⟨c1, c2, c3⟩ := cat3 _ _ _ (ht.cut none (some at_)) tc (ht.cut (some at_) none)
    exact ⟨at_, rfl, xs0, c1, at_, rfl, xs0, c2, done _ c3⟩
  refine .inl ⟨rfl, ⟨_, rfl, ?_⟩⟩
  refine iteD (fun _ => ?_) (fun _ => ?_)
  · obtain ⟨c1, c2⟩ := cat _ _ (ht.cut none (some at_)) ((ht.cut (some (at_ + 1)) none).mono (by omega))
    exact ⟨at_, rfl, xs0, at_ + 1, rfl, xs0, c1, done _ c2⟩
  refine .inl ⟨rfl, ⟨_, rfl, ?_⟩⟩
  refine iteD (fun _ => ?_) (fun _ => ?_)
  · obtain ⟨c1, c2, c3⟩ := cat3 _ _ _ (ht.cut none (some at_)) tc (ht.cut (some (at_ + 1)) none)
    exact ⟨at_, rfl, xs0, c1, at_ + 1, rfl, xs0, c2, done _ c3⟩
  refine .inl ⟨rfl, ⟨_, rfl, ?_⟩⟩
  refine iteD (fun _ => ?_) (fun _ => ?_)
  · exact ⟨-1, rfl, xs0, done _ ((ht.cut none (some (-1))).mono (by omega))⟩
  refine .inl ⟨rfl, ⟨_, rfl, ?_⟩⟩
  refine iteD (fun _ => ?_) (fun _ => ?_)
  · refine ⟨(show 5 ≤ sizeLine by rw [sizeLine_eq]; decide), fun l hl7 => ⟨b, 5, n + 5, rfl, (B6.at fun o e => (same_new hl7) _ _ e).mono (by omega), (by omega), (by decide), (by decide), fun j x7 j0 j1 B7 => ?_⟩⟩
    have j1' : j < ((([("\n" : Str), " ", "a1", "\n\n", "0"] : List Str).map V.str).length : Nat) := j1
    obtain ⟨v, e1, e2⟩ := atI_in j0 j1'
    rw [List.getElem?_map] at e2
    obtain ⟨u, eu, rfl⟩ := Option.map_eq_some_iff.mp e2
    have tu : Tame 2 u := by
      have hh : (([("\n" : Str), " ", "a1", "\n\n", "0"] : List Str).all fun x => decide (x.length ≤ 2) && x.cps.toList.all fun c => decide (c < 256)) = true := by decide +kernel
      exact tame_of (List.all_eq_true.mp hh u (List.mem_of_getElem? eu))
    have nbl : l ≠ b := fun z => by obtain ⟨_, _, _, _, e, _⟩ := B6; rw [z, e] at hl7; cases hl7
    obtain ⟨c1, c2⟩ := cat x u ht (tu.mono (by omega))
    refine ⟨_, _, .inl (.inl (.inl ((upd_ne nbl).trans upd_same))), e1, ⟨c1, ?_⟩⟩
    exact hq _ _ ((K6.trans (Kp.same (same_new hl7))).trans Kp.upd) (B7.mono (by omega)) c2
  refine .inl ⟨rfl, ⟨_, rfl, ?_⟩⟩
  have p1' : pl < ((rs.map V.str).length : Nat) := by rw [List.length_map]; exact p1
  obtain ⟨v, e1, e2⟩ := atI_in (xs := rs.map V.str) p0 p1'
  rw [List.getElem?_map] at e2
  obtain ⟨rp, erp, rfl⟩ := Option.map_eq_some_iff.mp e2
  have hrp := List.mem_of_getElem? erp
  have keepU : ∀ (ys : List V), Kp b H (upd G6 p (.lst ys)) := fun ys a o e n => by
    rw [upd_ne (ne_of_none e hpH)]
    exact K6 a o e n
  have boxU : ∀ (ys : List V), Bx b (n + 20) (upd G6 p (.lst ys)) := fun ys => B20.at fun o e => (upd_ne nbp).trans e
  refine iteD (fun _ => ?_) (fun _ => ?_)
  · refine ⟨.inl ⟨rfl, _, .inl (.inl p6)⟩, _, _, .inl (.inl (.inl p6)), e1, ⟨_, p6, (by rw [List.length_map, sizeLine_eq]; omega), p0, (by omega), ⟨rfl, ?_⟩⟩⟩
    have em : (rs.map V.str).take pl.toNat ++ [V.str rp] ++ (rs.map V.str).drop pl.toNat = (rs.take pl.toNat ++ [rp] ++ rs.drop pl.toNat).map V.str := by simp
    rw [em]
    refine fin _ p _ upd_same ?_ (fun r hr => ?_) (keepU _) (boxU _)
    · have z := sum_le (fun r : Str => r.length + 1) hrp
      have e := congrArg (fun l => (l.map fun r : Str => r.length + 1).sum) (List.take_append_drop pl.toNat rs)
      simp only [List.map_append, List.sum_append, List.map_cons, List.map_nil, List.sum_cons, List.sum_nil] at e ⊢
      omega
    · rcases List.mem_append.mp hr with hr | hr
      · rcases List.mem_append.mp hr with hr | hr
        · exact asc r (List.mem_of_mem_take hr)
        · have e : r = rp := by simpa using hr
          rw [e]
          exact asc rp hrp
      · exact asc r (List.mem_of_mem_drop hr)
  refine .inl ⟨rfl, ⟨_, rfl, ?_⟩⟩
  refine iteD (fun _ => ?_) (fun _ => ?_)
  · refine ⟨rfl, pl, rfl, rs.map V.str, .inl (.inl p6), fun q1 hq1 => ?_⟩
    obtain ⟨a1', c1, ecut1⟩ := cutV_map V.str rs none (some pl)
    rw [ecut1]
    have p7 := (same_new (o := .lst (((rs.drop a1').take c1).map V.str)) hq1) _ _ p6
    refine ⟨pl + 1, rfl, rs.map V.str, .inl (.inl p7), fun q2 hq2 => ?_⟩
    obtain ⟨a2, c2, ecut2⟩ := cutV_map V.str rs (some (pl + 1)) none
    rw [ecut2]
    have l1 : ((rs.drop a1').take c1).length ≤ 421 := by rw [List.length_take, List.length_drop]; omega
    have l2 : ((rs.drop a2).take c2).length ≤ 421 := by rw [List.length_take, List.length_drop]; omega
    refine ⟨_, _, (same_new hq2) _ _ upd_same, upd_same, (by rw [List.length_map, List.length_map, sizeLine_eq]; omega), fun q3 hq3 => ?_⟩
    rw [← List.map_append]
    have S := ((same_new (o := .lst (((rs.drop a1').take c1).map V.str)) hq1).trans (same_new (o := .lst (((rs.drop a2).take c2).map V.str)) hq2)).trans (same_new (o := .lst (((rs.drop a1').take c1 ++ (rs.drop a2).take c2).map V.str)) hq3)
    refine fin _ q3 _ upd_same ?_ (fun r hr => ?_) (K6.trans (Kp.same S)) (B20.at fun o e => S _ _ e)
    · have z1 := sum_take (fun r : Str => r.length + 1) (rs.drop a1') c1
      have z2 := sum_drop (fun r : Str => r.length + 1) rs a1'
      have z3 := sum_take (fun r : Str => r.length + 1) (rs.drop a2) c2
      have z4 := sum_drop (fun r : Str => r.length + 1) rs a2
      rw [List.map_append, List.sum_append]
      omega
    · rcases List.mem_append.mp hr with hr | hr
      · exact asc r (List.mem_of_mem_drop (List.mem_of_mem_take hr))
      · exact asc r (List.mem_of_mem_drop (List.mem_of_mem_take hr))
  · refine ⟨_, .inl (.inl (.inl p6)), ⟨b, _, n + 5, rfl, B6.mono (by omega), (by omega), (by rw [List.length_map]; omega), (by rw [List.length_map]; omega), fun ot x7 o0 o1 B7 => ?_⟩⟩
    have K7 := K6.trans (Kp.upd (b := b) (o := .lst x7))
    have p7 : (upd G6 b (.lst x7)) p = some (.lst (rs.map V.str)) := (upd_ne nbp.symm).trans p6
    obtain ⟨v2, f1, f2⟩ := atI_in (xs := rs.map V.str) o0 o1
    rw [List.getElem?_map] at f2
    obtain ⟨ro, ero, rfl⟩ := Option.map_eq_some_iff.mp f2
    refine ⟨_, _, .inl (.inl (.inl p7)), f1, _, _, .inl (.inl (.inl p7)), e1, (show 2 ≤ sizeLine by rw [sizeLine_eq]; decide), fun T hT => ?_⟩
    have p8 := (same_new (o := .tup [.str ro, .str rp]) hT) _ _ p7
    have K8 := K7.trans (Kp.same (b := b) (same_new (o := .tup [.str ro, .str rp]) hT))
    have B8 := B7.at fun o e => (same_new (o := .tup [.str ro, .str rp]) hT) _ _ e
    generalize (upd G6 b (.lst x7)) = G7 at *
    have sqT : SqT K (upd G7 T (.tup [.str ro, .str rp])) T [.str ro, .str rp] := .inl (.inl upd_same)
    generalize (upd G7 T (.tup [.str ro, .str rp])) = G8 at *
    refine ⟨T, _, rfl, sqT, rfl, _, _, rfl, ⟨p, _, pl, pl.toNat, rfl, rfl, p8, ixN_in p0 p1', _, _, rfl, ⟨p, _, ot, ot.toNat, rfl, rfl, upd_same, ixN_in o0 (by rw [List.length_set]; exact o1), rfl, ⟨rfl, ?_⟩⟩⟩⟩
    rw [upd_upd, ← List.map_set, ← List.map_set]
    have hpl : pl.toNat < rs.length := (List.getElem?_eq_some_iff.mp erp).1
    have g1 : (rs.set pl.toNat ro)[ot.toNat]? = some ro := by
      by_cases e : ot.toNat = pl.toNat
      · rw [e, List.getElem?_set_self hpl]
      · rw [List.getElem?_set_ne (Ne.symm e)]; exact ero
    have q1 := set_sum (fun r : Str => r.length + 1) (b := ro) erp
    have q2 := set_sum (fun r : Str => r.length + 1) (b := rp) g1
    refine fin _ p _ upd_same (by omega) (fun r hr => ?_) (fun a o e n => ?_) ((B8.mono (by omega)).at fun o e => (upd_ne nbp).trans e)
    · rcases mem_set hr with hr | rfl
      · rcases mem_set hr with hr | rfl
        · exact asc r hr
        · exact asc r (List.mem_of_getElem? ero)
      · exact asc r hrp
    · rw [upd_ne (ne_of_none e hpH)]
      exact K8 a o e n
end K67

set_option Elab.async false
set_option linter.all false
set_option maxRecDepth 100000
set_option maxHeartbeats 4000000
/-! L67i: sizes of what is shown; a rule made. -/
namespace K67
open PySem PySem.Spec PyProof.Rows L2 U
theorem rule_made {K : PySem.W.Frag} {M : Addr → Prop} {W H W' H1 W2 H2 : Hp} {x dx l : Addr} {ts : List Pr} (g : Gr M W H W' H1) (hx : H1 x = none) (hdx : H1 dx = none) (hne : dx ≠ x)
    (g2 : Gr (fun b => b = x) W' (upd (upd H1 dx (.own x)) x (.ins (He.ga K "Rule") dx [])) W2 H2) (hx2 : H2 x = some (.ins (He.ga K "Rule") dx [("kept_steps", .ref l)])) (hl2 : Dp K W2 (.ref l) (.list (ts.map pairD))) :
    Gr M W H (upd W2 x (.ins (He.ga K "Rule") dx [("kept_steps", .ref l)])) H2 ∧ RuleD K (upd W2 x (.ins (He.ga K "Rule") dx [("kept_steps", .ref l)])) x ts := by
  have s1 : Same H1 (upd (upd H1 dx (.own x)) x (.ins (He.ga K "Rule") dx [])) := (same_new hdx).trans (same_new (by rw [upd_ne hne.symm]; exact hx))
  have nyW : W' x = none := Same.free g.wh hx
  have ny2 : W2 x = none := g2.out nyW upd_same
  have nyH : H x = none := g.free hx
  refine ⟨⟨fun a o h m => ?_, fun a o h => ?_, fun a o h => ?_, fun a o h => ?_, fun a o h n => ?_⟩, ⟨dx, l, upd_same, U.Dp.up hl2 (same_new ny2)⟩⟩
  · exact g2.hp a o (s1 _ _ (g.hp a o h m)) (ne_of_none h nyH)
  · obtain ⟨o', h'⟩ := g.th a o h
    exact ⟨o', g2.hp a o' (s1 _ _ h') (ne_of_none h nyH)⟩
  · have e1 := g2.ww a o (g.ww a o h)
    rw [upd_ne (ne_of_none e1 ny2)]
    exact e1
  · by_cases e : a = x
    · rw [e, upd_same] at h
      rw [e, hx2]
      exact h
    · rw [upd_ne e] at h
      exact g2.wh a o h
  · by_cases e : a = x
    · rw [e]; exact nyH
    · rw [upd_ne e] at h
      cases e1 : W' a with
      | some o1 => exact g.nw a o1 e1 n
      | none => exact g.free (Same.free s1 (g2.nw a o h e1))
theorem show_pairs : ∀ ts : List Pr, PyData.showableAll (ts.map pairD) = true
  | [] => rfl
  | t :: ts => by
    show (PyData.showable (pairD t) && PyData.showableAll (ts.map pairD)) = true
    rw [show_pairs ts]
    rfl
theorem depth_pairs : ∀ ts : List Pr, PyData.depthAll (ts.map pairD) ≤ 1
  | [] => by show 0 ≤ 1; omega
  | t :: ts => by
    show max (PyData.depth (pairD t)) (PyData.depthAll (ts.map pairD)) ≤ 1
    have := depth_pairs ts
    have e : PyData.depth (pairD t) = 1 := rfl
    omega
theorem lay_pairs : ∀ ts : List Pr, (∀ t ∈ ts, Tame 1000 t.1 ∧ Tame 1000 t.2) → PyData.canLayAll0 (ts.map pairD) = true
  | [], _ => rfl
  | t :: ts, h => by
    obtain ⟨h1, h2⟩ := h t (List.mem_cons_self ..)
    have z := lay_strs [t.1, t.2] fun y hy => by
      simp only [List.mem_cons, List.not_mem_nil, or_false] at hy
      rcases hy with rfl | rfl
      · exact h1.2
      · exact h2.2
    show (PyData.canLay0 (pairD t) && PyData.canLayAll0 (ts.map pairD)) = true
    rw [lay_pairs ts fun u hu => h u (List.mem_cons_of_mem _ hu), Bool.and_true]
    exact z
theorem shaped_pairs {ts : List Pr} (h : ∀ t ∈ ts, Tame 1000 t.1 ∧ Tame 1000 t.2) : SeqAt.shaped (.list (ts.map pairD)) = true ∧ PyData.eqv (.list (ts.map pairD)) (.list (ts.map pairD)) = true := by
  have e1 : PyData.canLay0 (.list (ts.map pairD)) = true := lay_pairs ts h
  refine ⟨?_, SeqAt.eqv_refl _ e1⟩
  unfold SeqAt.shaped
  have e2 : PyData.depth (.list (ts.map pairD)) ≤ 64 := by
    show PyData.depthAll (ts.map pairD) + 1 ≤ 64
    have := depth_pairs ts
    omega
  rw [e1, decide_eq_true e2]
  rfl
/-- what repr takes -/
structure Fine (d : PyData) : Prop where
  sh : (dueD d).showable = true
  dp : (dueD d).depth ≤ 60
  sz : (dueD d).shown.length ≤ sizeLine
theorem two_len {k : Str} {d : PyData} {n : Nat} (hk : Tame 20 k) (hd : d.shown.length ≤ n) : (PyData.list [.str k, d]).shown.length ≤ n + 208 := by
  simp only [PyData.shown, PyData.shownAll]
  have z := listText_len [reprText k, d.shown]
  have a := repr_len hk
  rw [piled_cons, piled_cons, piled_nil] at z
  omega
theorem int_len {k : Nat} (h : k < 10 ^ 6) : (PyData.int (k : Int)).shown.length ≤ 6 := by
  simp only [PyData.shown]
  have e := TL.tl_num k
  have z := TL.numL_len (n := k) (k := 6) (by decide) h
  rw [U.len_list]
  show (TL.tl (Str.ofString (toString ((k : Nat) : Int)))).length ≤ 6
  rw [e]
  exact z
theorem kinds_tame {p : Pr} (h : p ∈ kinds) : Tame 20 p.2 := by
  have z : (kinds.all fun p => decide (p.2.length ≤ 20) && p.2.cps.toList.all fun c => decide (c < 256)) = true := by decide +kernel
  exact tame_of (List.all_eq_true.mp z p h)
theorem chk_thing {n : Nat} {e : Ref} : ∀ {done : List Str} {ts : List Pr}, (∀ t ∈ ts, Tame n t.1 ∧ Tame n t.2) → chk done ts = some e → ∃ s, e.th = .str s ∧ Tame n s
  | _, [], _, h => by cases h
  | done, t :: ts, hT, h => by
    rw [chk_cons] at h
    obtain ⟨t1, t2⟩ := hT t (List.mem_cons_self ..)
    cases hc : chk1 done t with
    | some e' =>
      rw [hc] at h
      cases h
      unfold chk1 at hc
      split at hc
      · cases hc; exact ⟨_, rfl, t1⟩
      · split at hc
        · cases hc; exact ⟨_, rfl, t2⟩
        · split at hc
          · cases hc; exact ⟨_, rfl, t1⟩
          · cases hc
    | none => rw [hc] at h; exact chk_thing (fun u hu => hT u (List.mem_cons_of_mem _ hu)) h
theorem tups_len : ∀ {rs : List (Option Str)} {ts : List Pr} {k : Nat}, tups k rs = .ok ts → ts.length = rs.length
  | [], ts, k, h => by cases h; rfl
  | r :: rs, ts, k, h => by
    rw [tups_cons] at h
    cases hr : wordO r with
    | none => rw [hr] at h; cases h
    | some t0 =>
      rw [hr] at h
      dsimp only at h
      cases hq : tups (k + 1) rs with
      | error j => rw [hq] at h; cases h
      | ok l =>
        rw [hq] at h
        cases h
        rw [List.length_cons, List.length_cons, tups_len hq]
theorem tups_lt : ∀ {rs : List (Option Str)} {k j : Nat}, tups k rs = .error j → j < k + rs.length
  | [], k, j, h => by cases h
  | r :: rs, k, j, h => by
    rw [tups_cons] at h
    rw [List.length_cons]
    cases hr : wordO r with
    | none => rw [hr] at h; cases h; omega
    | some t0 =>
      rw [hr] at h
      dsimp only at h
      cases hq : tups (k + 1) rs with
      | error j2 =>
        rw [hq] at h
        cases h
        have := tups_lt hq
        omega
      | ok l => rw [hq] at h; cases h
theorem fine_str {x : Str} (h : Tame 470 x) : Fine (.str x) := by
  have hL : Tame LIM x := h.mono (by decide)
  have rT : ∀ y, some y ∈ rowsO x → Tame 470 y := fun y hy => by
    have key : some y ∈ (Txt.split x NL).dropLast.map some := by
      unfold rowsO at hy
      split at hy
      · exact hy
      · rcases List.mem_append.mp hy with hy | hy
        · exact hy
        · simp at hy
    obtain ⟨z, hz, e⟩ := List.mem_map.mp key
    cases e
    exact split_tame h (y := NL) rfl ((List.dropLast_sublist _).subset hz)
  have rL : (rowsO x).length ≤ 471 := by
    have z := split_many h (y := NL) rfl
    have ne := split_ne x NL rfl
    have : 0 < (Txt.split x NL).length := List.length_pos_iff.mpr ne
    unfold rowsO
    split
    · rw [List.length_map, List.length_dropLast]; omega
    · rw [List.length_append, List.length_map, List.length_dropLast]
      simp only [List.length_cons, List.length_nil]
      omega
  cases ht : tups 0 (rowsO x) with
  | error k =>
    have ed : dueD (.str x) = .list [.str "row", .int k] := by unfold dueD readR; dsimp only; rw [ht]; rfl
    have hk := tups_lt ht
    refine ⟨?_, ?_, ?_⟩
    · rw [ed]
      have hlog : (k : Int).natAbs.log2 < 1920 := by
        have e : (k : Int).natAbs = k := rfl
        rw [e]
        by_cases hk0 : k = 0
        · rw [hk0]; decide
        · exact (Nat.log2_lt hk0).mpr (Nat.lt_of_lt_of_le (show k < 2 ^ 20 by omega) (Nat.pow_le_pow_right (by decide) (by decide)))
      show (true && (decide ((k : Int).natAbs.log2 < 1920) && true)) = true
      rw [decide_eq_true hlog]
      rfl
    · rw [ed]
      show max 0 (max 0 0) + 1 ≤ 60
      decide
    · rw [ed]
      have z := two_len (k := "row") (d := .int k) (n := 6) (tame_of (by decide +kernel)) (int_len (by omega))
      rw [sizeLine_eq]
      omega
  | ok ts =>
    have tT := tups_tame ht rT
    have tL := tups_len ht
    have szP : (PyData.list (ts.map pairD)).shown.length ≤ 2 + 471 * (20 * 470 + 14) := by
      have z := pairs_len tT
      have : ts.length * (20 * 470 + 14) ≤ 471 * (20 * 470 + 14) := Nat.mul_le_mul_right _ (by omega)
      omega
    have dpP : PyData.depth (.list (ts.map pairD)) ≤ 2 := by
      show PyData.depthAll (ts.map pairD) + 1 ≤ 2
      have := depth_pairs ts
      omega
    cases hm : mkR ts with
    | none =>
      have ed : dueD (.str x) = toldD ts := by unfold dueD readR; dsimp only; rw [ht]; dsimp only; rw [hm]
      refine ⟨?_, ?_, ?_⟩
      · rw [ed]
        show (true && (PyData.showableAll (ts.map pairD) && true)) = true
        rw [show_pairs]
        rfl
      · rw [ed]
        show max 0 (max (PyData.depth (.list (ts.map pairD))) 0) + 1 ≤ 60
        omega
      · rw [ed]
        have z := two_len (k := "told") (tame_of (by decide +kernel)) szP
        rw [sizeLine_eq]
        unfold toldD
        omega
    | some e =>
      have ed : dueD (.str x) = refD e := by unfold dueD readR; dsimp only; rw [ht]; dsimp only; rw [hm]
      have hk := kinds_tame (mkR_kind hm)
      have key : (PyData.showable e.th = true ∧ PyData.depth e.th ≤ 2 ∧ e.th.shown.length ≤ 2 + 471 * (20 * 470 + 14)) := by
        unfold mkR at hm
        split at hm
        · obtain ⟨s, es, hs⟩ := chk_thing tT hm
          rw [es]
          refine ⟨rfl, (show 0 ≤ 2 by omega), ?_⟩
          have := repr_len hs
          show (reprText s).length ≤ _
          omega
        · cases hm
          exact ⟨show_pairs ts, dpP, szP⟩
      refine ⟨?_, ?_, ?_⟩
      · rw [ed]
        show (true && (PyData.showable e.th && true)) = true
        rw [key.1]
        rfl
      · rw [ed]
        show max 0 (max (PyData.depth e.th) 0) + 1 ≤ 60
        have := key.2.1
        omega
      · rw [ed]
        have z := two_len (k := e.kd) hk key.2.2
        rw [sizeLine_eq]
        unfold refD
        omega
def odds : List PyData := [.none, .int 3, .bool true, .list [.str "year late"], .tuple [.str "year", .str "late"], .dict [(.str "year", .str "late")], .int 0, .list []]
theorem fine_odd : ∀ d ∈ odds, Fine d := by
  intro d hd
  unfold odds at hd
  simp only [List.mem_cons, List.not_mem_nil, or_false] at hd
  rcases hd with rfl | rfl | rfl | rfl | rfl | rfl | rfl | rfl <;> exact ⟨by decide +kernel, by decide +kernel, by rw [sizeLine_eq]; decide +kernel⟩
end K67

set_option Elab.async false
set_option linter.all false
set_option maxRecDepth 100000
set_option maxHeartbeats 8000000
/-! L67j: the law. -/
namespace K67
open PySem PySem.Spec PyProof.Rows L2 U
/-- a thing that is asked about -/
def Thg (K : PySem.W.Frag) (W : Hp) (v : V) : Prop := ∃ d, Rp K W v d ∧ (∀ x, d = .str x → Tame LIM x) ∧ Fine d
theorem Thg.up {K : PySem.W.Frag} {W W' : Hp} {v : V} (h : Thg K W v) (e : Same W W') : Thg K W' v := by
  obtain ⟨d, h1, h2, h3⟩ := h
  exact ⟨d, h1.up e, h2, h3⟩
theorem thg_str {K : PySem.W.Frag} {W : Hp} {x : Str} (h : Tame 470 x) : Thg K W (.str x) := ⟨.str x, .str x, fun y e => by cases e; exact h.mono (by decide), fine_str h⟩
theorem thg_odd {K : PySem.W.Frag} {W : Hp} {v : V} {d : PyData} (h : Rp K W v d) (hd : d ∈ odds) : Thg K W v := ⟨d, h, fun x e => by
  subst e
  unfold odds at hd
  simp at hd, fine_odd d hd⟩
theorem good_tame {ts : List Pr} (h : Good ts) : Tame 108 (wholeOf ts) := by
  obtain ⟨h1, h6, _, ht⟩ := h
  have tl : ∀ t ∈ ts, Tame 18 (lineOf t ++ NL) := fun t hm => by
    obtain ⟨a, b⟩ := ht t hm
    have e : Tame 1 BL := tame_of (by decide +kernel)
    have f : Tame 1 NL := tame_of (by decide +kernel)
    exact (((a.app e).app b).app f).mono (by omega)
  refine join_tame ?_ (fun c hc => by cases hc) fun p hp => ?_
  · have : ∀ l : List Pr, (∀ t ∈ l, Tame 18 (lineOf t ++ NL)) → ((l.map fun t => lineOf t ++ NL).map (·.length)).sum ≤ l.length * 18 := by
      intro l
      induction l with
      | nil => intro _; simp
      | cons t l ih =>
        intro hl
        have z1 := (hl t (List.mem_cons_self ..)).1
        have z2 := ih fun u hu => hl u (List.mem_cons_of_mem _ hu)
        simp only [List.map_cons, List.sum_cons, List.length_cons, Nat.succ_mul]
        omega
    have z := this ts tl
    show _ + _ * 0 ≤ 108
    omega
  · obtain ⟨t, hm, rfl⟩ := List.mem_map.mp hp
    exact (tl t hm).2
/-- the state of a turn: what is told of, the box -/
structure Tn (K : PySem.W.Frag) (b : Addr) (Hb W H : Hp) (n : Int) : Prop where
  g : Gr (fun a => a = b) (fun _ => none) Hb W H
  wb : W b = none
  bx : Bx b n H
  n5 : n < 80000
section
variable {K : PySem.W.Frag} {b : Addr} {Hb W H H' W' : Hp} {n : Int} {p : Addr} {o : HO}
theorem Tn.hob (t : Tn K b Hb W H n) : ∃ o, H b = some o := by obtain ⟨_, _, _, _, e, _⟩ := t.bx; exact ⟨_, e⟩
theorem Tn.nb (t : Tn K b Hb W H n) (h : H p = none) : b ≠ p := by obtain ⟨o, e⟩ := t.hob; exact ne_of_none e h
theorem Tn.new (t : Tn K b Hb W H n) (h : H p = none) : Tn K b Hb (upd W p o) (upd H p o) n := ⟨t.g.step_new h, by rw [upd_ne (t.nb h)]; exact t.wb, t.bx.at fun _ e => (same_new h) _ _ e, t.n5⟩
theorem Tn.more (t : Tn K b Hb W H n) (g : Gr NoM W H W' H') : Tn K b Hb W' H' n := by
  obtain ⟨o, e⟩ := t.hob
  exact ⟨t.g.trans g.any, g.out t.wb e, t.bx.at fun _ e => g.sameH _ _ e, t.n5⟩
theorem Tn.kp (t : Tn K b Hb W H n) {m : Int} (k : Kp b H H') (hb : Bx b m H') (hm : m < 80000) : Tn K b Hb W H' m := by
  obtain ⟨_, _, _, _, e, _⟩ := id hb
  exact ⟨t.g.trans (Kp.gr k t.g.wh t.wb e), t.wb, hb, hm⟩
end
theorem rd_law {K : PySem.W.Frag} (F : Fx K) {vs : List V} {H : Hp} {Q : VK} {E : XK} (h : sp_law K vs H Q E) : t_law K { nx := fun _ H' => Q .non H', rt := Q }
    (L2.start ["_law_script", "_law_k", "_law_box_here", "_law_steps_here", "_law_rule", "_law_whole", "_law_turn", "_law_odd", "_law_near", "_law_spoilt_here", "_law_some", "_law_thing", "_law_told", "_law_part", "_law_way"] vs) H := by
  obtain ⟨a, ns, rfl, hs, hn, hq⟩ := h
  change t_law K _ [some (.ref a), none, none, none, none, none, none, none, none, none, none, none, none, none, none] H
  refine ⟨_, .inl hs, ⟨_, rfl, ?_⟩⟩
  generalize hj : (if (if (4 : Int) < ((ns.map V.int).length : Nat) then 4 else (((ns.map V.int).length : Nat) : Int)) > 2 then (if (4 : Int) < ((ns.map V.int).length : Nat) then 4 else (((ns.map V.int).length : Nat) : Int)) else 2) = j
  have hj1 : 0 ≤ j ∧ j ≤ 4 := by
    rw [← hj]
    split <;> split <;> omega
  refine ⟨by omega, by omega, ?_⟩
  refine for_it (walk_range (lo := 0)) (fun i σ Hs => (∃ o1 o2 o3 o4 o5 o6 o7 o8 o9 o10 o11 o12 o13 o14, σ = [some (.ref a), o1, o2, o3, o4, o5, o6, o7, o8, o9, o10, o11, o12, o13, o14]) ∧ Same H Hs) ⟨⟨_, _, _, _, _, _, _, _, _, _, _, _, _, _, rfl⟩, Same.refl H⟩ (fun _ _ _ _ _ => trivial) (fun i u σ Hs Hs' hi hP hy => ?_) (fun σ Hs hP => ?_)
  · obtain ⟨⟨o1, o2, o3, o4, o5, o6, o7, o8, o9, o10, o11, o12, o13, o14, rfl⟩, sH⟩ := hP
    obtain ⟨rfl, rfl⟩ := hy
    refine ⟨a, ns, 0 + i, rfl, sH.seq hs, (by omega), (by omega), fun c => ⟨c, rfl, fun b Hb sb hb B0 => ?_⟩⟩
    have T0 : Tn K b Hb (fun _ => none) Hb 0 := ⟨Gr.refl (fun _ _ h => by cases h), rfl, B0, by decide⟩
    refine ⟨b, fun _ => none, 0, rfl, (fun _ _ h => by cases h), rfl, B0, (by decide), fun p ts W1 H1 g1 B1 hG hp => ?_⟩
    have T1 : Tn K b Hb W1 H1 20 := ⟨g1, by obtain ⟨o, e⟩ := T0.hob; exact g1.out rfl e, B1.mono (by omega), by decide⟩
    have tsT : ∀ t ∈ ts, Tame 8 t.1 ∧ Tame 8 t.2 := hG.2.2.2
    have hmk := hG.2.2.1
    intro x dx hx hdx hne
    have s1 : Same H1 (upd (upd H1 dx (.own x)) x (.ins (He.ga K "Rule") dx [])) := (same_new hdx).trans (same_new (by rw [upd_ne hne.symm]; exact hx))
    refine ⟨x, p, W1, dx, ts, rfl, T1.g.wh.trans s1, Same.free T1.g.wh hx, upd_same, hp, (fun t ht => Nat.le_trans (tsT t ht).1.1 (by decide)), fun _ l W2 H2 g2 hx2 hl2 => ⟨rfl, ?_⟩, fun e v he _ => by rw [hmk] at he; cases he⟩
    obtain ⟨g3, R3⟩ := rule_made T1.g hx hdx hne g2 hx2 hl2
    have hp3 : Dp K (upd W2 x (.ins (He.ga K "Rule") dx [("kept_steps", .ref l)])) (.ref p) (.list (ts.map pairD)) := by
      have w12 : Same W1 W2 := g2.ww
      exact U.Dp.up hp (w12.trans (same_new (g2.out (Same.free T1.g.wh hx) upd_same)))
    have T3 : Tn K b Hb (upd W2 x (.ins (He.ga K "Rule") dx [("kept_steps", .ref l)])) H2 20 := by
      obtain ⟨o, e⟩ := T0.hob
      refine ⟨g3, g3.out rfl e, ?_, by decide⟩
      refine (B1.mono (by omega)).at fun o e => ?_
      exact g2.hp b o (s1 _ _ e) (ne_of_none e hx)
    generalize (upd W2 x (.ins (He.ga K "Rule") dx [("kept_steps", .ref l)])) = W3 at g3 R3 hp3 T3
    -- the whole text
    obtain ⟨p', xs, e, hps, hpa⟩ := dp_list hp3
    cases e
    have hpsH := T3.g.wh.seq hps
    have hlen : xs.length = ts.length := by have := dpAll_len hpa; rw [List.length_map] at this; exact this
    have ts6 : ts.length ≤ 6 := hG.2.1
    refine ⟨rfl, .inl ⟨⟨xs, hpsH⟩, fun D hD => ?_⟩⟩
    refine lc_it (walk_list (xs := xs)) (fun i Hx => Hx = upd H2 D (.lst ((ts.take i).map fun t => V.str (lineOf t ++ NL)))) rfl (fun i Hx _ hP => by rw [hP]; exact (same_new hD).seq hpsH) (fun i v Hx Hx' hi2 hP hy => ?_) (fun Hx hP => ?_)
    · obtain ⟨rfl, ey⟩ := hy
      have hP : Hx' = upd H2 D (.lst ((ts.take i).map fun t => V.str (lineOf t ++ NL))) := hP
      subst hP
      obtain ⟨t, et⟩ : ∃ t, ts[i]? = some t := ⟨ts[i]'(by omega), by simp [show i < ts.length by omega]⟩
      have hd : Dp K W3 v (pairD t) := dpAll_i hpa ey (by rw [List.getElem?_map, et]; rfl)
      obtain ⟨c2, rfl, hc2⟩ := pair_at hd
      obtain ⟨t1, t2⟩ := tsT t (List.mem_of_getElem? et)
      have l1 := t1.1
      have l2 := t2.1
      have ty : ∀ (σ' : L2.St) (H' : Hp) (Q : Bool → Hp → Prop), Q true H' → tYes σ' H' Q := fun _ _ _ q => q
      refine ⟨c2, _, rfl, sqT_mono (T3.g.wh.trans (same_new hD)) hc2, rfl, _, _, rfl, _, _, rfl, rfl, rfl, ty _ _ _ (iteB (fun _ => ?_) fun hb => by cases hb)⟩
      refine ⟨(by rw [sizeLine_eq]; show t.1.length + 1 ≤ _; omega), (by rw [len_app, sizeLine_eq]; show t.1.length + 1 + t.2.length ≤ _; omega), (by rw [len_app, len_app, sizeLine_eq]; show t.1.length + 1 + t.2.length + 1 ≤ _; omega), _, upd_same, (by rw [List.length_map, List.length_take, sizeLine_eq]; omega), ?_⟩
      show _ = upd H2 D _
      rw [upd_upd, take_succ et, List.map_append]
      rfl
    have hP : Hx = upd H2 D (.lst ((ts.take xs.length).map fun t => V.str (lineOf t ++ NL))) := hP
    rw [hlen, List.take_length] at hP
    subst hP
    have tW := good_tame hG
    have T4 := T3.new (o := .lst (ts.map fun t => V.str (lineOf t ++ NL))) hD
    have W34 := same_new (o := .lst (ts.map fun t => V.str (lineOf t ++ NL))) (Same.free T3.g.wh hD)
    have R4 := R3.up W34
    have hp4 := U.Dp.up hp3 W34
    refine ⟨ts.map fun t => lineOf t ++ NL, .inl (.inl (.inl ?_)), ?_, ?_⟩
    · rw [upd_same, List.map_map]
      rfl
    · have := tW.1
      unfold wholeOf at this
      rw [join_len] at this
      show _ + _ * 0 ≤ _
      omega
    generalize (upd H2 D (.lst (ts.map fun t => V.str (lineOf t ++ NL)))) = H4 at T4 ⊢
    generalize (upd W3 D (.lst (ts.map fun t => V.str (lineOf t ++ NL)))) = W4 at T4 R4 hp4 ⊢
    have eqq := shaped_pairs (ts := ts) fun t ht => ⟨(tsT t ht).1.mono (by decide), (tsT t ht).2.mono (by decide)⟩
    have ts20 : ∀ t ∈ ts, Tame 20 t.1 ∧ Tame 20 t.2 := fun t ht => ⟨(tsT t ht).1.mono (by decide), (tsT t ht).2.mono (by decide)⟩
    refine ⟨2, rfl, by decide, by decide, ?_⟩
    refine for_it (walk_range (lo := 0)) (fun k σ Hx => ∃ o6 o12 Wx, σ = [some (.ref a), some (.int (0 + (i : Nat))), some (.ref b), some (.ref p), some (.ref x), some (.str (wholeOf ts)), o6, o7, o8, o9, o10, o11, o12, o13, o14] ∧ Tn K b Hb Wx Hx 20 ∧ RuleD K Wx x ts ∧ Dp K Wx (.ref p) (.list (ts.map pairD)))
      ⟨_, _, W4, rfl, T4, R4, hp4⟩ (fun _ _ _ _ _ => trivial) (fun k u σ Hx Hx' hk hP hy => ?_) (fun σ Hx hP => ?_)
    · obtain ⟨o6, o12, Wx, rfl, T5, R5, hp5⟩ := hP
      obtain ⟨rfl, rfl⟩ := hy
      refine ⟨x, Wx, ts, rfl, T5.g.wh, R5, (by omega), ts20, fun W6 H6 g6 => ?_⟩
      have T6 := T5.more g6
      have R6 := R5.up g6.ww
      have hp6 := U.Dp.up hp5 g6.ww
      refine ⟨.str (wholeOf ts), .ty "str", .type "str", _, true, rfl, .ty _, .base (.str _), kit_ty (by decide +kernel), ⟨_, rfl, ?_⟩⟩
      refine iteB (fun hb => by cases hb) (fun _ => ?_)
      refine .inl ⟨rfl, ⟨_, rfl, ?_⟩⟩
      refine iteB (fun hb => by simp at hb) (fun _ => ?_)
      obtain ⟨dx6, l6, hx6, _⟩ := id R6
      refine ⟨x, dx6, _, rfl, T6.g.wh _ _ hx6, rfl, x, W6, ts, rfl, T6.g.wh, R6, fun v W7 H7 g7 hv => ?_⟩
      have T7 := T6.more g7
      have hp7 := U.Dp.up hp6 g7.ww
      refine .inr ⟨_, _, U.Dp.up hv T7.g.wh, U.Dp.up hp7 T7.g.wh, eqq.1, eqq.1, ⟨_, rfl, ?_⟩⟩
      refine iteB (fun hb => by rw [eqq.2] at hb; cases hb) (fun _ => ?_)
      exact ⟨_, _, W7, rfl, T7, R6.up g7.ww, hp7⟩
    obtain ⟨o6, o12, W8, rfl, T8, R8, hp8⟩ := hP
    -- the odd thing
    have one : ∀ n : Nat, n ≤ 100 → n ≤ sizeLine := fun n h => by rw [sizeLine_eq]; omega
    refine ⟨one 1 (by decide), fun q1 hq1 => ⟨one 2 (by decide), fun q2 hq2 => ?_⟩⟩
    intro q3 hq3
    refine ⟨upd_same, [(.inr "year", .str "late")], rfl, (by decide), ⟨one 0 (by decide), fun q4 hq4 => ⟨one 9 (by decide), fun q5 hq5 => ?_⟩⟩⟩
    rw [upd_upd] at hq4 hq5 ⊢
    have C1 := T8.new (o := .lst [.str "year late"]) hq1
    have C2 := C1.new (o := .tup [.str "year", .str "late"]) hq2
    have C3 := C2.new (o := .dK (mergeK [] [(.inr "year", .str "late")])) hq3
    have C4 := C3.new (o := .lst []) hq4
    have C5 := C4.new (o := .lst [.non, .int 3, .bl true, .ref q1, .ref q2, .ref q3, .int 0, .ref q4, .str ""]) hq5
    have m2 := same_new (o := .tup [.str "year", .str "late"]) (Same.free C1.g.wh hq2)
    have m3 := same_new (o := .dK (mergeK [] [(.inr "year", .str "late")])) (Same.free C2.g.wh hq3)
    have m4 := same_new (o := .lst []) (Same.free C3.g.wh hq4)
    have m5 := same_new (o := .lst [.non, .int 3, .bl true, .ref q1, .ref q2, .ref q3, .int 0, .ref q4, .str ""]) (Same.free C4.g.wh hq5)
    have w1 := m5 _ _ (m4 _ _ (m3 _ _ (m2 _ _ (upd_same (H := W8) (a := q1) (o := .lst [.str "year late"])))))
    have w2 := m5 _ _ (m4 _ _ (m3 _ _ (upd_same (H := upd W8 q1 (.lst [.str "year late"])) (a := q2) (o := .tup [.str "year", .str "late"]))))
    have w3 := m5 _ _ (m4 _ _ (upd_same (H := upd (upd W8 q1 (.lst [.str "year late"])) q2 (.tup [.str "year", .str "late"])) (a := q3) (o := .dK (mergeK [] [(.inr "year", .str "late")]))))
    have w4 := m5 _ _ (upd_same (H := upd (upd (upd W8 q1 (.lst [.str "year late"])) q2 (.tup [.str "year", .str "late"])) q3 (.dK (mergeK [] [(.inr "year", .str "late")]))) (a := q4) (o := .lst []))
    have h5 := upd_same (H := upd (upd (upd (upd Hx q1 (.lst [.str "year late"])) q2 (.tup [.str "year", .str "late"])) q3 (.dK (mergeK [] [(.inr "year", .str "late")]))) q4 (.lst [])) (a := q5) (o := .lst [.non, .int 3, .bl true, .ref q1, .ref q2, .ref q3, .int 0, .ref q4, .str ""])
    have n5 := C4.nb hq5
    generalize (upd (upd (upd (upd (upd Hx q1 (.lst [.str "year late"])) q2 (.tup [.str "year", .str "late"])) q3 (.dK (mergeK [] [(.inr "year", .str "late")]))) q4 (.lst [])) q5 (.lst [.non, .int 3, .bl true, .ref q1, .ref q2, .ref q3, .int 0, .ref q4, .str ""])) = G5 at C5 h5 ⊢
    generalize (upd (upd (upd (upd (upd W8 q1 (.lst [.str "year late"])) q2 (.tup [.str "year", .str "late"])) q3 (.dK (mergeK [] [(.inr "year", .str "late")]))) q4 (.lst [])) q5 (.lst [.non, .int 3, .bl true, .ref q1, .ref q2, .ref q3, .int 0, .ref q4, .str ""])) = V5 at C5 w1 w2 w3 w4 ⊢
    refine ⟨b, 9, 20, rfl, C5.bx, (by decide), (by decide), (by decide), fun r xr r0 r9 B6 => ?_⟩
    have T9 := C5.kp (Kp.upd (o := .lst xr)) B6 (by decide)
    have r9' : r < (([.non, .int 3, .bl true, .ref q1, .ref q2, .ref q3, .int 0, .ref q4, .str ""] : List V).length : Nat) := r9
    obtain ⟨v, ev1, ev2⟩ := atI_in r0 r9'
    have hv := List.mem_of_getElem? ev2
    have tv : Thg K V5 v := by
      simp only [List.mem_cons, List.not_mem_nil, or_false] at hv
      rcases hv with rfl | rfl | rfl | rfl | rfl | rfl | rfl | rfl | rfl
      · exact thg_odd .non (by unfold odds; simp)
      · exact thg_odd (.int 3) (by unfold odds; simp)
      · exact thg_odd (.bl true) (by unfold odds; simp)
      · exact thg_odd (d := .list [.str "year late"]) (.lst (.inl (.inl w1)) (.cons (.str _) .nil)) (by unfold odds; simp)
      · exact thg_odd (d := .tuple [.str "year", .str "late"]) (.tup (.inl (.inl w2)) (.cons (.str _) (.cons (.str _) .nil))) (by unfold odds; simp)
      · exact thg_odd (d := .dict [(.str "year", .str "late")]) (.dic (kvs := [("year", "late")]) w3) (by unfold odds; simp)
      · exact thg_odd (.int 0) (by unfold odds; simp)
      · exact thg_odd (d := .list []) (.lst (.inl (.inl w4)) .nil) (by unfold odds; simp)
      · exact thg_str (tame_of (by decide +kernel))
    refine ⟨_, v, .inl (.inl (.inl ((upd_ne n5.symm).trans h5))), ev1, ?_⟩
    generalize (upd G5 b (.lst xr)) = H9 at T9 ⊢
    -- near, spoilt
    refine ⟨b, wholeOf ts, 21, 108, rfl, T9.bx, (by decide), tW, (by decide), fun y1 H10 k10 B10 ty1 => ?_⟩
    have T10 := T9.kp k10 B10 (by decide)
    refine ⟨b, wholeOf ts, 41, 108, rfl, T10.bx, (by decide), tW, (by decide), fun y2 H11 k11 B11 ty2 => ?_⟩
    have T11 := T10.kp k11 B11 (by decide)
    refine ⟨b, y1, 61, 226, rfl, T11.bx, (by decide), ty1, (by decide), fun y3 H12 k12 B12 ty3 => ?_⟩
    have T12 := T11.kp k12 B12 (by decide)
    refine ⟨b, y2, 81, 226, rfl, T12.bx, (by decide), ty2, (by decide), fun y4 H13 k13 B13 ty4 => ?_⟩
    have T13 := T12.kp k13 B13 (by decide)
    refine ⟨b, y2, 101, 226, rfl, T13.bx, (by decide), ty2, (by decide), fun y5 H14 k14 B14 ty5 => ?_⟩
    have T14 := T13.kp k14 B14 (by decide)
    refine ⟨one 6 (by decide), fun q6 hq6 => ?_⟩
    have D6 := T14.new (o := .lst [.str (wholeOf ts), .str y1, .str y3, .str y2, .str y4, .str y5]) hq6
    have lw := tW.1
    refine ⟨(by rw [sizeLine_eq]; omega), ⟨by decide, by decide, by decide, by decide, (by rw [sizeLine_eq]; decide +kernel), ⟨one 3 (by decide), fun q7 hq7 => ⟨_, _, (same_new hq7) _ _ upd_same, upd_same, one 9 (by decide), fun q8 hq8 => ?_⟩⟩⟩⟩
    have D7 := D6.new (o := .lst [.str (wholeOf ts ++ wholeOf ts), .str (repS "year late\n" (7 : Int).toNat), v]) hq7
    have D8 := D7.new (o := .lst ([.str (wholeOf ts), .str y1, .str y3, .str y2, .str y4, .str y5] ++ [.str (wholeOf ts ++ wholeOf ts), .str (repS "year late\n" (7 : Int).toNat), v])) hq8
    have u8 := upd_same (H := upd (upd V5 q6 (.lst [.str (wholeOf ts), .str y1, .str y3, .str y2, .str y4, .str y5])) q7 (.lst [.str (wholeOf ts ++ wholeOf ts), .str (repS "year late\n" (7 : Int).toNat), v])) (a := q8) (o := .lst ([.str (wholeOf ts), .str y1, .str y3, .str y2, .str y4, .str y5] ++ [.str (wholeOf ts ++ wholeOf ts), .str (repS "year late\n" (7 : Int).toNat), v]))
    have all8 : ∀ u ∈ ([.str (wholeOf ts), .str y1, .str y3, .str y2, .str y4, .str y5] ++ [.str (wholeOf ts ++ wholeOf ts), .str (repS "year late\n" (7 : Int).toNat), v] : List V), Thg K V5 u := by
      intro u hu
      simp only [List.cons_append, List.nil_append, List.mem_cons, List.not_mem_nil, or_false] at hu
      rcases hu with rfl | rfl | rfl | rfl | rfl | rfl | rfl | rfl | rfl
      · exact thg_str (tW.mono (by decide))
      · exact thg_str (ty1.mono (by decide))
      · exact thg_str (ty3.mono (by decide))
      · exact thg_str (ty2.mono (by decide))
      · exact thg_str (ty4.mono (by decide))
      · exact thg_str (ty5.mono (by decide))
      · exact thg_str ((tW.app tW).mono (by decide))
      · exact thg_str (tame_of (by decide +kernel))
      · exact tv
    have sV : Same V5 _ := (same_new (o := .lst [.str (wholeOf ts), .str y1, .str y3, .str y2, .str y4, .str y5]) (Same.free T14.g.wh hq6)).trans ((same_new (o := .lst [.str (wholeOf ts ++ wholeOf ts), .str (repS "year late\n" (7 : Int).toNat), v]) (Same.free D6.g.wh hq7)).trans (same_new (o := .lst ([.str (wholeOf ts), .str y1, .str y3, .str y2, .str y4, .str y5] ++ [.str (wholeOf ts ++ wholeOf ts), .str (repS "year late\n" (7 : Int).toNat), v])) (Same.free D7.g.wh hq8)))
    have all8 := fun u hu => (all8 u hu).up sV
    generalize ([.str (wholeOf ts), .str y1, .str y3, .str y2, .str y4, .str y5] ++ [.str (wholeOf ts ++ wholeOf ts), .str (repS "year late\n" (7 : Int).toNat), v] : List V) = lst8 at *
    generalize (upd (upd (upd V5 q6 (.lst [.str (wholeOf ts), .str y1, .str y3, .str y2, .str y4, .str y5])) q7 (.lst [.str (wholeOf ts ++ wholeOf ts), .str (repS "year late\n" (7 : Int).toNat), v])) q8 (.lst lst8)) = V8 at *
    have sq8 : SqL K _ q8 lst8 := .inl (.inl (D8.g.wh _ _ u8))
    refine .inl ⟨⟨_, sq8⟩, ?_⟩
    have end_ : ∀ {Wz Hz : Hp} {m : Int}, Tn K b Hb Wz Hz m → Same H Hz := fun T z o e => by
      have e2 := sH z o e
      have nzb : z ≠ b := fun q => by rw [q, hb] at e2; cases e2
      exact T.g.hp z o (sb z o e2) nzb
    refine for_it (walk_list (xs := lst8)) (fun k σ Hx => ∃ o6 o11 o12 Wx, σ = [some (.ref a), some (.int (0 + (i : Nat))), some (.ref b), some (.ref p), some (.ref x), some (.str (wholeOf ts)), o6, some v, some (.str y1), some (.str y2), some (.ref q6), o11, o12, o13, o14] ∧ Tn K b Hb Wx Hx 121 ∧ Wx q8 = some (.lst lst8) ∧ ∀ u ∈ lst8, Thg K Wx u)
      ⟨_, _, _, V8, rfl, D8, u8, all8⟩ (fun k σ Hx _ hP => ?_) (fun k u σ Hx Hx' hk hP hy => ?_) (fun σ Hx hP => ?_)
    · obtain ⟨_, _, _, Wx, _, Tx, ux, _⟩ := hP
      exact .inl (.inl (Tx.g.wh _ _ ux))
    · obtain ⟨o6, o11, o12, Wx, rfl, Tx, ux, ax⟩ := hP
      obtain ⟨rfl, eu⟩ := hy
      have hul := List.mem_of_getElem? eu
      refine ⟨2, rfl, by decide, by decide, ?_⟩
      refine for_it (walk_range (lo := 0)) (fun k σ Hx => ∃ o6 Wx, σ = [some (.ref a), some (.int (0 + (i : Nat))), some (.ref b), some (.ref p), some (.ref x), some (.str (wholeOf ts)), o6, some v, some (.str y1), some (.str y2), some (.ref q6), some u, o12, o13, o14] ∧ Tn K b Hb Wx Hx 121 ∧ Wx q8 = some (.lst lst8) ∧ ∀ u ∈ lst8, Thg K Wx u)
        ⟨_, Wx, rfl, Tx, ux, ax⟩ (fun _ _ _ _ _ => trivial) (fun k2 u2 σ Hy Hy' hk2 hP hy2 => ?_) (fun σ Hy hP => ?_)
      · obtain ⟨o6, Wy, rfl, Ty, uy, ay⟩ := hP
        obtain ⟨rfl, rfl⟩ := hy2
        obtain ⟨d, hd, htm, fd⟩ := ay u hul
        refine ⟨u, d, Wy, rfl, Ty.g.wh, hd, htm, fun v1 W1 H1 g1 hv1 => ?_⟩
        have U1 := Ty.more g1
        have due_ref : ∀ {Wq : Hp} {vq : V}, Rp K Wq vq (dueD d) → ∃ pq, vq = .ref pq := fun {Wq vq} hvq => by
          unfold dueD at hvq
          split at hvq
          · unfold refD at hvq; cases hvq; exact ⟨_, rfl⟩
          · unfold toldD at hvq; cases hvq; exact ⟨_, rfl⟩
        obtain ⟨p1, rfl⟩ := due_ref hv1
        refine ⟨p1, dueD d, rfl, hv1.up U1.g.wh, fd.sh, fd.dp, fd.sz, ?_⟩
        refine ⟨u, d, W1, rfl, U1.g.wh, hd.up g1.ww, htm, fun v2 W2 H2 g2 hv2 => ?_⟩
        have U2 := U1.more g2
        obtain ⟨p2, rfl⟩ := due_ref hv2
        refine ⟨p2, dueD d, rfl, hv2.up U2.g.wh, fd.sh, fd.dp, fd.sz, .inl ⟨rfl, ⟨_, rfl, ?_⟩⟩⟩
        refine iteB (fun hb => by simp at hb) (fun _ => ?_)
        have sw := g1.ww.trans g2.ww
        exact ⟨_, W2, rfl, U2, sw _ _ uy, fun z hz => (ay z hz).up sw⟩
      · obtain ⟨o6, Wy, rfl, Ty, uy, ay⟩ := hP
        exact ⟨_, _, _, Wy, rfl, Ty, uy, ay⟩
    · obtain ⟨o6, o11, o12, Wx, rfl, Tx, ux, ax⟩ := hP
      exact ⟨⟨_, _, _, _, _, _, _, _, _, _, _, _, _, _, rfl⟩, end_ Tx⟩
  · exact hq Hs
end K67

set_option Elab.async false
set_option linter.all false
set_option maxRecDepth 100000
set_option maxHeartbeats 4000000
/-! O67: each def of k67 keeps its promise. -/
namespace U
open PySem PySem.Spec PyProof.Rows L2
theorem FunDS {P : Program} {w : World} {K : PySem.W.Frag} {mg : Str → Option Value} {base : Heap} {x qual : Str} {params : Arguments} {body : List Stmt} {scope : Scope} {dvs : List V} {kws : List (Str × V)} {f : Addr} {fd : FuncData} {N ps : List Str} {k : Nat} {sp : SpS} (F : FunD K x qual params body scope dvs kws f fd) (S : FnScope N ps scope) (len : ∀ cls d a vs H Q, sp cls d a vs H Q → vs.length = ps.length)
    (hbody : ∀ (cdv : Value) (A : Around) (outer : List Env) (s : Shared) (H : Hp) (vs : List V) (Q : VK) (p : Addr × Obj) (cls : Value) (d : Option Addr), Zc cls d p.2 → (∃ fs, p.2.data = .fields fs) → L2H.RoomH k (A.deeper (envOfC qual scope s.heap.objs.size f cdv)) → sp cls d p.1 vs H Q →
      ∃ t, PSs (L2H.cxH CX0 P w K mg base N qual scope f cdv A outer s H E0 p) body t ∧ t { nx := fun _ H' => Q .non H', rt := Q } (L2.start N vs) H) : FnS P w K mg base (k + 1) f fd ps sp := by
  obtain ⟨oc, od, dV, kV, doc, pm, an, cdv, ct, osl, rfl, lk, hcd, _, _⟩ := F.ex
  exact fn_ofS lk hcd S len fun A outer s H vs Q p cls d hz hf hr hsp => hbody cdv A outer s H vs Q p cls d hz hf hr hsp
end U
namespace K67
open PySem PySem.Spec PyProof.Rows L2 U
section
variable {P : Program} {w : World} {K : PySem.W.Frag} {mg : Str → Option Value} {base : Heap}
theorem ok_X_NoText (Z : Zz P w K mg base) (F : Fx K) (hi : PySem.W.findIn K (.ref (He.ga K "NoText")) "__init__" = some (some (.ref (He.fAd K ("NoText", some "__init__"))))) (ht : PySem.W.typeIn K (.ref (He.fAd K ("NoText", some "__init__"))) = some (.type "function")) {fd : FuncData} (FD : FunD K "__init__" "NoText.__init__" (defArgs s_NoText_init) (defBody s_NoText_init) (defScope s_NoText_init) [] [] (He.fAd K ("NoText", some "__init__")) fd) : Exd P w K mg base 1 "NoText" (He.ga K "NoText") "found" := by
  have ok : FnOk P w K mg base CX0 1 (He.fAd K ("NoText", some "__init__")) fd ["self", "found"] (spExc K "found") := FD.ok (CX := CX0) sc_NoText_init (fun vs H Q E h => by obtain ⟨_, _, _, rfl, _⟩ := h; rfl) (fun cdv A outer s H vs Q E hr h => ⟨_, (dv_NoText_init Z).nox, rd_exc rfl h⟩)
  exact ⟨F.oex _ rfl, F.no _ rfl, Z.glo "NoText" (by decide), _, fd, _, ok, hi, ht, FD.bindsN fun _ _ _ _ _ _ us hl => match us, hl with | [_, _], _ => rfl⟩
theorem ok_X_Twice (Z : Zz P w K mg base) (F : Fx K) (hi : PySem.W.findIn K (.ref (He.ga K "Twice")) "__init__" = some (some (.ref (He.fAd K ("Twice", some "__init__"))))) (ht : PySem.W.typeIn K (.ref (He.fAd K ("Twice", some "__init__"))) = some (.type "function")) {fd : FuncData} (FD : FunD K "__init__" "Twice.__init__" (defArgs s_Twice_init) (defBody s_Twice_init) (defScope s_Twice_init) [] [] (He.fAd K ("Twice", some "__init__")) fd) : Exd P w K mg base 1 "Twice" (He.ga K "Twice") "found" := by
  have ok : FnOk P w K mg base CX0 1 (He.fAd K ("Twice", some "__init__")) fd ["self", "found"] (spExc K "found") := FD.ok (CX := CX0) sc_Twice_init (fun vs H Q E h => by obtain ⟨_, _, _, rfl, _⟩ := h; rfl) (fun cdv A outer s H vs Q E hr h => ⟨_, (dv_Twice_init Z).nox, rd_exc rfl h⟩)
  exact ⟨F.oex _ rfl, F.no _ rfl, Z.glo "Twice" (by decide), _, fd, _, ok, hi, ht, FD.bindsN fun _ _ _ _ _ _ us hl => match us, hl with | [_, _], _ => rfl⟩
theorem ok_X_NoSteps (Z : Zz P w K mg base) (F : Fx K) (hi : PySem.W.findIn K (.ref (He.ga K "NoSteps")) "__init__" = some (some (.ref (He.fAd K ("NoSteps", some "__init__"))))) (ht : PySem.W.typeIn K (.ref (He.fAd K ("NoSteps", some "__init__"))) = some (.type "function")) {fd : FuncData} (FD : FunD K "__init__" "NoSteps.__init__" (defArgs s_NoSteps_init) (defBody s_NoSteps_init) (defScope s_NoSteps_init) [] [] (He.fAd K ("NoSteps", some "__init__")) fd) : Exd P w K mg base 1 "NoSteps" (He.ga K "NoSteps") "found" := by
  have ok : FnOk P w K mg base CX0 1 (He.fAd K ("NoSteps", some "__init__")) fd ["self", "found"] (spExc K "found") := FD.ok (CX := CX0) sc_NoSteps_init (fun vs H Q E h => by obtain ⟨_, _, _, rfl, _⟩ := h; rfl) (fun cdv A outer s H vs Q E hr h => ⟨_, (dv_NoSteps_init Z).nox, rd_exc rfl h⟩)
  exact ⟨F.oex _ rfl, F.no _ rfl, Z.glo "NoSteps" (by decide), _, fd, _, ok, hi, ht, FD.bindsN fun _ _ _ _ _ _ us hl => match us, hl with | [_, _], _ => rfl⟩
theorem ok_X_NoStep (Z : Zz P w K mg base) (F : Fx K) (hi : PySem.W.findIn K (.ref (He.ga K "NoStep")) "__init__" = some (some (.ref (He.fAd K ("NoStep", some "__init__"))))) (ht : PySem.W.typeIn K (.ref (He.fAd K ("NoStep", some "__init__"))) = some (.type "function")) {fd : FuncData} (FD : FunD K "__init__" "NoStep.__init__" (defArgs s_NoStep_init) (defBody s_NoStep_init) (defScope s_NoStep_init) [] [] (He.fAd K ("NoStep", some "__init__")) fd) : Exd P w K mg base 1 "NoStep" (He.ga K "NoStep") "found" := by
  have ok : FnOk P w K mg base CX0 1 (He.fAd K ("NoStep", some "__init__")) fd ["self", "found"] (spExc K "found") := FD.ok (CX := CX0) sc_NoStep_init (fun vs H Q E h => by obtain ⟨_, _, _, rfl, _⟩ := h; rfl) (fun cdv A outer s H vs Q E hr h => ⟨_, (dv_NoStep_init Z).nox, rd_exc rfl h⟩)
  exact ⟨F.oex _ rfl, F.no _ rfl, Z.glo "NoStep" (by decide), _, fd, _, ok, hi, ht, FD.bindsN fun _ _ _ _ _ _ us hl => match us, hl with | [_, _], _ => rfl⟩
theorem ok_X_NoPart (Z : Zz P w K mg base) (F : Fx K) (hi : PySem.W.findIn K (.ref (He.ga K "NoPart")) "__init__" = some (some (.ref (He.fAd K ("NoPart", some "__init__"))))) (ht : PySem.W.typeIn K (.ref (He.fAd K ("NoPart", some "__init__"))) = some (.type "function")) {fd : FuncData} (FD : FunD K "__init__" "NoPart.__init__" (defArgs s_NoPart_init) (defBody s_NoPart_init) (defScope s_NoPart_init) [] [] (He.fAd K ("NoPart", some "__init__")) fd) : Exd P w K mg base 1 "NoPart" (He.ga K "NoPart") "found" := by
  have ok : FnOk P w K mg base CX0 1 (He.fAd K ("NoPart", some "__init__")) fd ["self", "found"] (spExc K "found") := FD.ok (CX := CX0) sc_NoPart_init (fun vs H Q E h => by obtain ⟨_, _, _, rfl, _⟩ := h; rfl) (fun cdv A outer s H vs Q E hr h => ⟨_, (dv_NoPart_init Z).nox, rd_exc rfl h⟩)
  exact ⟨F.oex _ rfl, F.no _ rfl, Z.glo "NoPart" (by decide), _, fd, _, ok, hi, ht, FD.bindsN fun _ _ _ _ _ _ us hl => match us, hl with | [_, _], _ => rfl⟩
theorem ok_X_NoWay (Z : Zz P w K mg base) (F : Fx K) (hi : PySem.W.findIn K (.ref (He.ga K "NoWay")) "__init__" = some (some (.ref (He.fAd K ("NoWay", some "__init__"))))) (ht : PySem.W.typeIn K (.ref (He.fAd K ("NoWay", some "__init__"))) = some (.type "function")) {fd : FuncData} (FD : FunD K "__init__" "NoWay.__init__" (defArgs s_NoWay_init) (defBody s_NoWay_init) (defScope s_NoWay_init) [] [] (He.fAd K ("NoWay", some "__init__")) fd) : Exd P w K mg base 1 "NoWay" (He.ga K "NoWay") "found" := by
  have ok : FnOk P w K mg base CX0 1 (He.fAd K ("NoWay", some "__init__")) fd ["self", "found"] (spExc K "found") := FD.ok (CX := CX0) sc_NoWay_init (fun vs H Q E h => by obtain ⟨_, _, _, rfl, _⟩ := h; rfl) (fun cdv A outer s H vs Q E hr h => ⟨_, (dv_NoWay_init Z).nox, rd_exc rfl h⟩)
  exact ⟨F.oex _ rfl, F.no _ rfl, Z.glo "NoWay" (by decide), _, fd, _, ok, hi, ht, FD.bindsN fun _ _ _ _ _ _ us hl => match us, hl with | [_, _], _ => rfl⟩
theorem ok_X_NoRow (Z : Zz P w K mg base) (F : Fx K) (hi : PySem.W.findIn K (.ref (He.ga K "NoRow")) "__init__" = some (some (.ref (He.fAd K ("NoRow", some "__init__"))))) (ht : PySem.W.typeIn K (.ref (He.fAd K ("NoRow", some "__init__"))) = some (.type "function")) {fd : FuncData} (FD : FunD K "__init__" "NoRow.__init__" (defArgs s_NoRow_init) (defBody s_NoRow_init) (defScope s_NoRow_init) [] [] (He.fAd K ("NoRow", some "__init__")) fd) : Exd P w K mg base 1 "NoRow" (He.ga K "NoRow") "found" := by
  have ok : FnOk P w K mg base CX0 1 (He.fAd K ("NoRow", some "__init__")) fd ["self", "found"] (spExc K "found") := FD.ok (CX := CX0) sc_NoRow_init (fun vs H Q E h => by obtain ⟨_, _, _, rfl, _⟩ := h; rfl) (fun cdv A outer s H vs Q E hr h => ⟨_, (dv_NoRow_init Z).nox, rd_exc rfl h⟩)
  exact ⟨F.oex _ rfl, F.no _ rfl, Z.glo "NoRow" (by decide), _, fd, _, ok, hi, ht, FD.bindsN fun _ _ _ _ _ _ us hl => match us, hl with | [_, _], _ => rfl⟩
theorem ok_split_rows (Z : Zz P w K mg base) (F : Fx K) (D_X_NoText : Exd P w K mg base 1 "NoText" (He.ga K "NoText") "found") {fd : FuncData} (FD : FunD K "split_rows" "split_rows" (defArgs s_split_rows) (defBody s_split_rows) (defScope s_split_rows) [] [] (He.fAd K ("split_rows", none)) fd) : Dk P w K mg base (L2.CX P w) 3 "split_rows" [] (sp_split_rows K) := by
  have ok : FnOk P w K mg base (L2.CX P w) 3 (He.fAd K ("split_rows", none)) fd ["text"] (sp_split_rows K) := FD.ok (CX := (L2.CX P w)) sc_split_rows (fun vs H Q E h => by unfold sp_split_rows at h; first | (obtain ⟨_, rfl, _⟩ := h; rfl) | (obtain ⟨_, _, rfl, _⟩ := h; rfl) | (obtain ⟨_, _, _, rfl, _⟩ := h; rfl) | (obtain ⟨_, _, _, _, rfl, _⟩ := h; rfl) | (obtain ⟨_, _, _, _, _, rfl, _⟩ := h; rfl) | (obtain ⟨_, _, _, _, _, _, rfl, _⟩ := h; rfl) | (obtain ⟨_, _, _, _, _, _, _, rfl, _⟩ := h; rfl)) (fun cdv A outer s H vs Q E hr h => ⟨_, (dv_split_rows Z D_X_NoText hr), rd_split_rows F h⟩)
  exact ⟨⟨_, fd, _, [], ok, Z.glo "split_rows" (by decide), FD.kp, FD.bindsN fun _ _ _ _ _ _ us hl => match us, hl with | [_], _ => rfl, .nil⟩⟩
theorem ok_whole_text (Z : Zz P w K mg base) (F : Fx K)  {fd : FuncData} (FD : FunD K "whole_text" "whole_text" (defArgs s_whole_text) (defBody s_whole_text) (defScope s_whole_text) [] [] (He.fAd K ("whole_text", none)) fd) : Dk P w K mg base CX0 1 "whole_text" [] (sp_whole_text K) := by
  have ok : FnOk P w K mg base CX0 1 (He.fAd K ("whole_text", none)) fd ["rows"] (sp_whole_text K) := FD.ok (CX := CX0) sc_whole_text (fun vs H Q E h => by unfold sp_whole_text at h; first | (obtain ⟨_, rfl, _⟩ := h; rfl) | (obtain ⟨_, _, rfl, _⟩ := h; rfl) | (obtain ⟨_, _, _, rfl, _⟩ := h; rfl) | (obtain ⟨_, _, _, _, rfl, _⟩ := h; rfl) | (obtain ⟨_, _, _, _, _, rfl, _⟩ := h; rfl) | (obtain ⟨_, _, _, _, _, _, rfl, _⟩ := h; rfl) | (obtain ⟨_, _, _, _, _, _, _, rfl, _⟩ := h; rfl)) (fun cdv A outer s H vs Q E hr h => ⟨_, (dv_whole_text Z  hr).nox, rd_whole_text h⟩)
  exact ⟨⟨_, fd, _, [], ok, Z.glo "whole_text" (by decide), FD.kp, FD.bindsN fun _ _ _ _ _ _ us hl => match us, hl with | [_], _ => rfl, .nil⟩⟩
theorem ok_words_in (Z : Zz P w K mg base) (F : Fx K)  {fd : FuncData} (FD : FunD K "words_in" "words_in" (defArgs s_words_in) (defBody s_words_in) (defScope s_words_in) [] [] (He.fAd K ("words_in", none)) fd) : Dk P w K mg base CX0 1 "words_in" [] (sp_words_in K) := by
  have ok : FnOk P w K mg base CX0 1 (He.fAd K ("words_in", none)) fd ["row", "many"] (sp_words_in K) := FD.ok (CX := CX0) sc_words_in (fun vs H Q E h => by unfold sp_words_in at h; first | (obtain ⟨_, rfl, _⟩ := h; rfl) | (obtain ⟨_, _, rfl, _⟩ := h; rfl) | (obtain ⟨_, _, _, rfl, _⟩ := h; rfl) | (obtain ⟨_, _, _, _, rfl, _⟩ := h; rfl) | (obtain ⟨_, _, _, _, _, rfl, _⟩ := h; rfl) | (obtain ⟨_, _, _, _, _, _, rfl, _⟩ := h; rfl) | (obtain ⟨_, _, _, _, _, _, _, rfl, _⟩ := h; rfl)) (fun cdv A outer s H vs Q E hr h => ⟨_, (dv_words_in Z  hr).nox, rd_words_in h⟩)
  exact ⟨⟨_, fd, _, [], ok, Z.glo "words_in" (by decide), FD.kp, FD.bindsN fun _ _ _ _ _ _ us hl => match us, hl with | [_, _], _ => rfl, .nil⟩⟩
theorem ok_ways (Z : Zz P w K mg base) (F : Fx K) (D_X_NoPart : Exd P w K mg base 1 "NoPart" (He.ga K "NoPart") "found") {fd : FuncData} (FD : FunD K "ways" "ways" (defArgs s_ways) (defBody s_ways) (defScope s_ways) [] [] (He.fAd K ("ways", none)) fd) : Dk P w K mg base (L2.CX P w) 3 "ways" [] (sp_ways K) := by
  have ok : FnOk P w K mg base (L2.CX P w) 3 (He.fAd K ("ways", none)) fd ["part"] (sp_ways K) := FD.ok (CX := (L2.CX P w)) sc_ways (fun vs H Q E h => by unfold sp_ways at h; first | (obtain ⟨_, rfl, _⟩ := h; rfl) | (obtain ⟨_, _, rfl, _⟩ := h; rfl) | (obtain ⟨_, _, _, rfl, _⟩ := h; rfl) | (obtain ⟨_, _, _, _, rfl, _⟩ := h; rfl) | (obtain ⟨_, _, _, _, _, rfl, _⟩ := h; rfl) | (obtain ⟨_, _, _, _, _, _, rfl, _⟩ := h; rfl) | (obtain ⟨_, _, _, _, _, _, _, rfl, _⟩ := h; rfl)) (fun cdv A outer s H vs Q E hr h => ⟨_, (dv_ways Z D_X_NoPart hr), rd_ways F h⟩)
  exact ⟨⟨_, fd, _, [], ok, Z.glo "ways" (by decide), FD.kp, FD.bindsN fun _ _ _ _ _ _ us hl => match us, hl with | [_], _ => rfl, .nil⟩⟩
theorem ok_need_step (Z : Zz P w K mg base) (F : Fx K) (D_X_NoStep : Exd P w K mg base 1 "NoStep" (He.ga K "NoStep") "found") (D_ways : Dk P w K mg base (L2.CX P w) 3 "ways" [] (sp_ways K)) (D_X_NoWay : Exd P w K mg base 1 "NoWay" (He.ga K "NoWay") "found") (D_X_Twice : Exd P w K mg base 1 "Twice" (He.ga K "Twice") "found") {fd : FuncData} (FD : FunD K "need_step" "need_step" (defArgs s_need_step) (defBody s_need_step) (defScope s_need_step) [] [] (He.fAd K ("need_step", none)) fd) : Dk P w K mg base (L2.CX P w) 4 "need_step" [] (sp_need_step K) := by
  have ok : FnOk P w K mg base (L2.CX P w) 4 (He.fAd K ("need_step", none)) fd ["step", "ahead"] (sp_need_step K) := FD.ok (CX := (L2.CX P w)) sc_need_step (fun vs H Q E h => by unfold sp_need_step at h; first | (obtain ⟨_, rfl, _⟩ := h; rfl) | (obtain ⟨_, _, rfl, _⟩ := h; rfl) | (obtain ⟨_, _, _, rfl, _⟩ := h; rfl) | (obtain ⟨_, _, _, _, rfl, _⟩ := h; rfl) | (obtain ⟨_, _, _, _, _, rfl, _⟩ := h; rfl) | (obtain ⟨_, _, _, _, _, _, rfl, _⟩ := h; rfl) | (obtain ⟨_, _, _, _, _, _, _, rfl, _⟩ := h; rfl)) (fun cdv A outer s H vs Q E hr h => ⟨_, (dv_need_step Z D_X_NoStep D_ways D_X_NoWay D_X_Twice hr), rd_need_step F h⟩)
  exact ⟨⟨_, fd, _, [], ok, Z.glo "need_step" (by decide), FD.kp, FD.bindsN fun _ _ _ _ _ _ us hl => match us, hl with | [_, _], _ => rfl, .nil⟩⟩
theorem ok_Rule_init (Z : Zz P w K mg base) (F : Fx K) (mk : Mk K (He.ga K "Rule") (He.fAd K ("Rule", some "__init__"))) (D_X_NoSteps : Exd P w K mg base 1 "NoSteps" (He.ga K "NoSteps") "found") (D_need_step : Dk P w K mg base (L2.CX P w) 4 "need_step" [] (sp_need_step K)) {fd : FuncData} (FD : FunD K "__init__" "Rule.__init__" (defArgs s_Rule_init) (defBody s_Rule_init) (defScope s_Rule_init) [] [] (He.fAd K ("Rule", some "__init__")) fd) : Mkd P w K mg base (L2.CX P w) 5 "Rule" (He.ga K "Rule") [] (sp_Rule_init K) := by
  have ok : FnOk P w K mg base (L2.CX P w) 5 (He.fAd K ("Rule", some "__init__")) fd ["self", "steps"] (sp_Rule_init K) := FD.ok (CX := (L2.CX P w)) sc_Rule_init (fun vs H Q E h => by unfold sp_Rule_init at h; first | (obtain ⟨_, rfl, _⟩ := h; rfl) | (obtain ⟨_, _, rfl, _⟩ := h; rfl) | (obtain ⟨_, _, _, rfl, _⟩ := h; rfl) | (obtain ⟨_, _, _, _, rfl, _⟩ := h; rfl) | (obtain ⟨_, _, _, _, _, rfl, _⟩ := h; rfl) | (obtain ⟨_, _, _, _, _, _, rfl, _⟩ := h; rfl) | (obtain ⟨_, _, _, _, _, _, _, rfl, _⟩ := h; rfl)) (fun cdv A outer s H vs Q E hr h => ⟨_, (dv_Rule_init Z D_X_NoSteps D_need_step hr), rd_Rule_init F h⟩)
  exact ⟨⟨_, fd, _, [], ok, Z.glo "Rule" (by decide), mk, FD.bindsN fun _ _ _ _ _ _ us hl => match us, hl with | [_, _], _ => rfl, .nil⟩⟩
theorem ok_Rule_steps (Z : Zz P w K mg base) (F : Fx K) (me : Meth K (He.ga K "Rule") "steps" (He.fAd K ("Rule", some "steps")))  {fd : FuncData} (FD : FunD K "steps" "Rule.steps" (defArgs s_Rule_steps) (defBody s_Rule_steps) (defScope s_Rule_steps) [] [] (He.fAd K ("Rule", some "steps")) fd) : Mtd P w K mg base CX0 1 (He.ga K "Rule") "steps" [] (sp_Rule_steps K) := by
  have ok : FnOk P w K mg base CX0 1 (He.fAd K ("Rule", some "steps")) fd ["self"] (sp_Rule_steps K) := FD.ok (CX := CX0) sc_Rule_steps (fun vs H Q E h => by unfold sp_Rule_steps at h; first | (obtain ⟨_, rfl, _⟩ := h; rfl) | (obtain ⟨_, _, rfl, _⟩ := h; rfl) | (obtain ⟨_, _, _, rfl, _⟩ := h; rfl) | (obtain ⟨_, _, _, _, rfl, _⟩ := h; rfl) | (obtain ⟨_, _, _, _, _, rfl, _⟩ := h; rfl) | (obtain ⟨_, _, _, _, _, _, rfl, _⟩ := h; rfl) | (obtain ⟨_, _, _, _, _, _, _, rfl, _⟩ := h; rfl)) (fun cdv A outer s H vs Q E hr h => ⟨_, (dv_Rule_steps Z  hr).nox, rd_Rule_steps F h⟩)
  exact ⟨⟨_, fd, _, [], ok, F.cl, me, FD.bindsN fun _ _ _ _ _ _ us hl => match us, hl with | [_], _ => rfl, .nil⟩⟩
theorem ok_tuples_in (Z : Zz P w K mg base) (F : Fx K) (D_split_rows : Dk P w K mg base (L2.CX P w) 3 "split_rows" [] (sp_split_rows K)) (D_words_in : Dk P w K mg base CX0 1 "words_in" [] (sp_words_in K)) (D_X_NoRow : Exd P w K mg base 1 "NoRow" (He.ga K "NoRow") "found") {fd : FuncData} (FD : FunD K "tuples_in" "tuples_in" (defArgs s_tuples_in) (defBody s_tuples_in) (defScope s_tuples_in) [] [] (He.fAd K ("tuples_in", none)) fd) : Dk P w K mg base (L2.CX P w) 4 "tuples_in" [] (sp_tuples_in K) := by
  have ok : FnOk P w K mg base (L2.CX P w) 4 (He.fAd K ("tuples_in", none)) fd ["text", "many"] (sp_tuples_in K) := FD.ok (CX := (L2.CX P w)) sc_tuples_in (fun vs H Q E h => by unfold sp_tuples_in at h; first | (obtain ⟨_, rfl, _⟩ := h; rfl) | (obtain ⟨_, _, rfl, _⟩ := h; rfl) | (obtain ⟨_, _, _, rfl, _⟩ := h; rfl) | (obtain ⟨_, _, _, _, rfl, _⟩ := h; rfl) | (obtain ⟨_, _, _, _, _, rfl, _⟩ := h; rfl) | (obtain ⟨_, _, _, _, _, _, rfl, _⟩ := h; rfl) | (obtain ⟨_, _, _, _, _, _, _, rfl, _⟩ := h; rfl)) (fun cdv A outer s H vs Q E hr h => ⟨_, (dv_tuples_in Z D_split_rows D_words_in D_X_NoRow hr), rd_tuples_in F h⟩)
  exact ⟨⟨_, fd, _, [], ok, Z.glo "tuples_in" (by decide), FD.kp, FD.bindsN fun _ _ _ _ _ _ us hl => match us, hl with | [_, _], _ => rfl, .nil⟩⟩
theorem ok_rule_text (Z : Zz P w K mg base) (F : Fx K) (D_Rule_steps : Mtd P w K mg base CX0 1 (He.ga K "Rule") "steps" [] (sp_Rule_steps K)) (D_whole_text : Dk P w K mg base CX0 1 "whole_text" [] (sp_whole_text K)) {fd : FuncData} (FD : FunD K "rule_text" "rule_text" (defArgs s_rule_text) (defBody s_rule_text) (defScope s_rule_text) [] [] (He.fAd K ("rule_text", none)) fd) : Dk P w K mg base CX0 2 "rule_text" [] (sp_rule_text K) := by
  have ok : FnOk P w K mg base CX0 2 (He.fAd K ("rule_text", none)) fd ["rule"] (sp_rule_text K) := FD.ok (CX := CX0) sc_rule_text (fun vs H Q E h => by unfold sp_rule_text at h; first | (obtain ⟨_, rfl, _⟩ := h; rfl) | (obtain ⟨_, _, rfl, _⟩ := h; rfl) | (obtain ⟨_, _, _, rfl, _⟩ := h; rfl) | (obtain ⟨_, _, _, _, rfl, _⟩ := h; rfl) | (obtain ⟨_, _, _, _, _, rfl, _⟩ := h; rfl) | (obtain ⟨_, _, _, _, _, _, rfl, _⟩ := h; rfl) | (obtain ⟨_, _, _, _, _, _, _, rfl, _⟩ := h; rfl)) (fun cdv A outer s H vs Q E hr h => ⟨_, (dv_rule_text Z D_Rule_steps D_whole_text hr).nox, rd_rule_text F h⟩)
  exact ⟨⟨_, fd, _, [], ok, Z.glo "rule_text" (by decide), FD.kp, FD.bindsN fun _ _ _ _ _ _ us hl => match us, hl with | [_], _ => rfl, .nil⟩⟩
theorem ok_read_rule (Z : Zz P w K mg base) (F : Fx K) (D_tuples_in : Dk P w K mg base (L2.CX P w) 4 "tuples_in" [] (sp_tuples_in K)) (D_Rule_init : Mkd P w K mg base (L2.CX P w) 5 "Rule" (He.ga K "Rule") [] (sp_Rule_init K)) {fd : FuncData} (FD : FunD K "read_rule" "read_rule" (defArgs s_read_rule) (defBody s_read_rule) (defScope s_read_rule) [] [] (He.fAd K ("read_rule", none)) fd) : Dk P w K mg base (L2.CX P w) 7 "read_rule" [] (sp_read_rule K) := by
  have ok : FnOk P w K mg base (L2.CX P w) 7 (He.fAd K ("read_rule", none)) fd ["text"] (sp_read_rule K) := FD.ok (CX := (L2.CX P w)) sc_read_rule (fun vs H Q E h => by unfold sp_read_rule at h; first | (obtain ⟨_, rfl, _⟩ := h; rfl) | (obtain ⟨_, _, rfl, _⟩ := h; rfl) | (obtain ⟨_, _, _, rfl, _⟩ := h; rfl) | (obtain ⟨_, _, _, _, rfl, _⟩ := h; rfl) | (obtain ⟨_, _, _, _, _, rfl, _⟩ := h; rfl) | (obtain ⟨_, _, _, _, _, _, rfl, _⟩ := h; rfl) | (obtain ⟨_, _, _, _, _, _, _, rfl, _⟩ := h; rfl)) (fun cdv A outer s H vs Q E hr h => ⟨_, (dv_read_rule Z D_tuples_in D_Rule_init hr), rd_read_rule F h⟩)
  exact ⟨⟨_, fd, _, [], ok, Z.glo "read_rule" (by decide), FD.kp, FD.bindsN fun _ _ _ _ _ _ us hl => match us, hl with | [_], _ => rfl, .nil⟩⟩
theorem ok_law_cell (Z : Zz P w K mg base) (F : Fx K)  {fd : FuncData} (FD : FunD K "_law_cell" "_law_cell" (defArgs s_law_cell) (defBody s_law_cell) (defScope s_law_cell) [] [] (He.fAd K ("_law_cell", none)) fd) : Dk P w K mg base CX0 1 "_law_cell" [] (sp_law_cell K) := by
  have ok : FnOk P w K mg base CX0 1 (He.fAd K ("_law_cell", none)) fd ["_law_script", "_law_k"] (sp_law_cell K) := FD.ok (CX := CX0) sc_law_cell (fun vs H Q E h => by unfold sp_law_cell at h; first | (obtain ⟨_, rfl, _⟩ := h; rfl) | (obtain ⟨_, _, rfl, _⟩ := h; rfl) | (obtain ⟨_, _, _, rfl, _⟩ := h; rfl) | (obtain ⟨_, _, _, _, rfl, _⟩ := h; rfl) | (obtain ⟨_, _, _, _, _, rfl, _⟩ := h; rfl) | (obtain ⟨_, _, _, _, _, _, rfl, _⟩ := h; rfl) | (obtain ⟨_, _, _, _, _, _, _, rfl, _⟩ := h; rfl)) (fun cdv A outer s H vs Q E hr h => ⟨_, (dv_law_cell Z  hr).nox, rd_law_cell h⟩)
  exact ⟨⟨_, fd, _, [], ok, Z.glo "_law_cell" (by decide), FD.kp, FD.bindsN fun _ _ _ _ _ _ us hl => match us, hl with | [_, _], _ => rfl, .nil⟩⟩
theorem ok_law_box (Z : Zz P w K mg base) (F : Fx K)  {fd : FuncData} (FD : FunD K "_law_box" "_law_box" (defArgs s_law_box) (defBody s_law_box) (defScope s_law_box) [] [] (He.fAd K ("_law_box", none)) fd) : Dk P w K mg base CX0 1 "_law_box" [] (sp_law_box K) := by
  have ok : FnOk P w K mg base CX0 1 (He.fAd K ("_law_box", none)) fd ["_law_cell_here"] (sp_law_box K) := FD.ok (CX := CX0) sc_law_box (fun vs H Q E h => by unfold sp_law_box at h; first | (obtain ⟨_, rfl, _⟩ := h; rfl) | (obtain ⟨_, _, rfl, _⟩ := h; rfl) | (obtain ⟨_, _, _, rfl, _⟩ := h; rfl) | (obtain ⟨_, _, _, _, rfl, _⟩ := h; rfl) | (obtain ⟨_, _, _, _, _, rfl, _⟩ := h; rfl) | (obtain ⟨_, _, _, _, _, _, rfl, _⟩ := h; rfl) | (obtain ⟨_, _, _, _, _, _, _, rfl, _⟩ := h; rfl)) (fun cdv A outer s H vs Q E hr h => ⟨_, (dv_law_box Z  hr).nox, rd_law_box h⟩)
  exact ⟨⟨_, fd, _, [], ok, Z.glo "_law_box" (by decide), FD.kp, FD.bindsN fun _ _ _ _ _ _ us hl => match us, hl with | [_], _ => rfl, .nil⟩⟩
theorem ok_law_take (Z : Zz P w K mg base) (F : Fx K)  {fd : FuncData} (FD : FunD K "_law_take" "_law_take" (defArgs s_law_take) (defBody s_law_take) (defScope s_law_take) [] [] (He.fAd K ("_law_take", none)) fd) : Dk P w K mg base CX0 1 "_law_take" [] (sp_law_take K) := by
  have ok : FnOk P w K mg base CX0 1 (He.fAd K ("_law_take", none)) fd ["_law_box_here", "_law_many"] (sp_law_take K) := FD.ok (CX := CX0) sc_law_take (fun vs H Q E h => by unfold sp_law_take at h; first | (obtain ⟨_, rfl, _⟩ := h; rfl) | (obtain ⟨_, _, rfl, _⟩ := h; rfl) | (obtain ⟨_, _, _, rfl, _⟩ := h; rfl) | (obtain ⟨_, _, _, _, rfl, _⟩ := h; rfl) | (obtain ⟨_, _, _, _, _, rfl, _⟩ := h; rfl) | (obtain ⟨_, _, _, _, _, _, rfl, _⟩ := h; rfl) | (obtain ⟨_, _, _, _, _, _, _, rfl, _⟩ := h; rfl)) (fun cdv A outer s H vs Q E hr h => ⟨_, (dv_law_take Z  hr).nox, rd_law_take h⟩)
  exact ⟨⟨_, fd, _, [], ok, Z.glo "_law_take" (by decide), FD.kp, FD.bindsN fun _ _ _ _ _ _ us hl => match us, hl with | [_, _], _ => rfl, .nil⟩⟩
theorem ok_law_ways (Z : Zz P w K mg base) (F : Fx K)  {fd : FuncData} (FD : FunD K "_law_ways" "_law_ways" (defArgs s_law_ways) (defBody s_law_ways) (defScope s_law_ways) [] [] (He.fAd K ("_law_ways", none)) fd) : Dk P w K mg base CX0 1 "_law_ways" [] (sp_law_ways K) := by
  have ok : FnOk P w K mg base CX0 1 (He.fAd K ("_law_ways", none)) fd ["_law_part"] (sp_law_ways K) := FD.ok (CX := CX0) sc_law_ways (fun vs H Q E h => by unfold sp_law_ways at h; first | (obtain ⟨_, rfl, _⟩ := h; rfl) | (obtain ⟨_, _, rfl, _⟩ := h; rfl) | (obtain ⟨_, _, _, rfl, _⟩ := h; rfl) | (obtain ⟨_, _, _, _, rfl, _⟩ := h; rfl) | (obtain ⟨_, _, _, _, _, rfl, _⟩ := h; rfl) | (obtain ⟨_, _, _, _, _, _, rfl, _⟩ := h; rfl) | (obtain ⟨_, _, _, _, _, _, _, rfl, _⟩ := h; rfl)) (fun cdv A outer s H vs Q E hr h => ⟨_, (dv_law_ways Z  hr).nox, rd_law_ways h⟩)
  exact ⟨⟨_, fd, _, [], ok, Z.glo "_law_ways" (by decide), FD.kp, FD.bindsN fun _ _ _ _ _ _ us hl => match us, hl with | [_], _ => rfl, .nil⟩⟩
theorem ok_law_steps (Z : Zz P w K mg base) (F : Fx K) (D_law_take : Dk P w K mg base CX0 1 "_law_take" [] (sp_law_take K)) (D_law_ways : Dk P w K mg base CX0 1 "_law_ways" [] (sp_law_ways K)) {fd : FuncData} (FD : FunD K "_law_steps" "_law_steps" (defArgs s_law_steps) (defBody s_law_steps) (defScope s_law_steps) [] [] (He.fAd K ("_law_steps", none)) fd) : Dk P w K mg base CX0 2 "_law_steps" [] (sp_law_steps K) := by
  have ok : FnOk P w K mg base CX0 2 (He.fAd K ("_law_steps", none)) fd ["_law_box_here"] (sp_law_steps K) := FD.ok (CX := CX0) sc_law_steps (fun vs H Q E h => by unfold sp_law_steps at h; first | (obtain ⟨_, rfl, _⟩ := h; rfl) | (obtain ⟨_, _, rfl, _⟩ := h; rfl) | (obtain ⟨_, _, _, rfl, _⟩ := h; rfl) | (obtain ⟨_, _, _, _, rfl, _⟩ := h; rfl) | (obtain ⟨_, _, _, _, _, rfl, _⟩ := h; rfl) | (obtain ⟨_, _, _, _, _, _, rfl, _⟩ := h; rfl) | (obtain ⟨_, _, _, _, _, _, _, rfl, _⟩ := h; rfl)) (fun cdv A outer s H vs Q E hr h => ⟨_, (dv_law_steps Z D_law_take D_law_ways hr).nox, rd_law_steps h⟩)
  exact ⟨⟨_, fd, _, [], ok, Z.glo "_law_steps" (by decide), FD.kp, FD.bindsN fun _ _ _ _ _ _ us hl => match us, hl with | [_], _ => rfl, .nil⟩⟩
theorem ok_law_steps_due (Z : Zz P w K mg base) (F : Fx K) (D_law_ways : Dk P w K mg base CX0 1 "_law_ways" [] (sp_law_ways K)) {fd : FuncData} (FD : FunD K "_law_steps_due" "_law_steps_due" (defArgs s_law_steps_due) (defBody s_law_steps_due) (defScope s_law_steps_due) [] [] (He.fAd K ("_law_steps_due", none)) fd) : Dk P w K mg base CX0 2 "_law_steps_due" [] (sp_law_steps_due K) := by
  have ok : FnOk P w K mg base CX0 2 (He.fAd K ("_law_steps_due", none)) fd ["_law_steps_here"] (sp_law_steps_due K) := FD.ok (CX := CX0) sc_law_steps_due (fun vs H Q E h => by unfold sp_law_steps_due at h; first | (obtain ⟨_, rfl, _⟩ := h; rfl) | (obtain ⟨_, _, rfl, _⟩ := h; rfl) | (obtain ⟨_, _, _, rfl, _⟩ := h; rfl) | (obtain ⟨_, _, _, _, rfl, _⟩ := h; rfl) | (obtain ⟨_, _, _, _, _, rfl, _⟩ := h; rfl) | (obtain ⟨_, _, _, _, _, _, rfl, _⟩ := h; rfl) | (obtain ⟨_, _, _, _, _, _, _, rfl, _⟩ := h; rfl)) (fun cdv A outer s H vs Q E hr h => ⟨_, (dv_law_steps_due Z D_law_ways hr).nox, rd_law_steps_due h⟩)
  exact ⟨⟨_, fd, _, [], ok, Z.glo "_law_steps_due" (by decide), FD.kp, FD.bindsN fun _ _ _ _ _ _ us hl => match us, hl with | [_], _ => rfl, .nil⟩⟩
theorem ok_law_words_due (Z : Zz P w K mg base) (F : Fx K)  {fd : FuncData} (FD : FunD K "_law_words_due" "_law_words_due" (defArgs s_law_words_due) (defBody s_law_words_due) (defScope s_law_words_due) [] [] (He.fAd K ("_law_words_due", none)) fd) : Dk P w K mg base CX0 1 "_law_words_due" [] (sp_law_words_due K) := by
  have ok : FnOk P w K mg base CX0 1 (He.fAd K ("_law_words_due", none)) fd ["_law_whole", "_law_many"] (sp_law_words_due K) := FD.ok (CX := CX0) sc_law_words_due (fun vs H Q E h => by unfold sp_law_words_due at h; first | (obtain ⟨_, rfl, _⟩ := h; rfl) | (obtain ⟨_, _, rfl, _⟩ := h; rfl) | (obtain ⟨_, _, _, rfl, _⟩ := h; rfl) | (obtain ⟨_, _, _, _, rfl, _⟩ := h; rfl) | (obtain ⟨_, _, _, _, _, rfl, _⟩ := h; rfl) | (obtain ⟨_, _, _, _, _, _, rfl, _⟩ := h; rfl) | (obtain ⟨_, _, _, _, _, _, _, rfl, _⟩ := h; rfl)) (fun cdv A outer s H vs Q E hr h => ⟨_, (dv_law_words_due Z  hr).nox, rd_law_words_due h⟩)
  exact ⟨⟨_, fd, _, [], ok, Z.glo "_law_words_due" (by decide), FD.kp, FD.bindsN fun _ _ _ _ _ _ us hl => match us, hl with | [_, _], _ => rfl, .nil⟩⟩
theorem ok_law_spoilt (Z : Zz P w K mg base) (F : Fx K) (D_law_take : Dk P w K mg base CX0 1 "_law_take" [] (sp_law_take K)) {fd : FuncData} (FD : FunD K "_law_spoilt" "_law_spoilt" (defArgs s_law_spoilt) (defBody s_law_spoilt) (defScope s_law_spoilt) [] [] (He.fAd K ("_law_spoilt", none)) fd) : Dk P w K mg base CX0 2 "_law_spoilt" [] (sp_law_spoilt K) := by
  have ok : FnOk P w K mg base CX0 2 (He.fAd K ("_law_spoilt", none)) fd ["_law_box_here", "_law_whole"] (sp_law_spoilt K) := FD.ok (CX := CX0) sc_law_spoilt (fun vs H Q E h => by unfold sp_law_spoilt at h; first | (obtain ⟨_, rfl, _⟩ := h; rfl) | (obtain ⟨_, _, rfl, _⟩ := h; rfl) | (obtain ⟨_, _, _, rfl, _⟩ := h; rfl) | (obtain ⟨_, _, _, _, rfl, _⟩ := h; rfl) | (obtain ⟨_, _, _, _, _, rfl, _⟩ := h; rfl) | (obtain ⟨_, _, _, _, _, _, rfl, _⟩ := h; rfl) | (obtain ⟨_, _, _, _, _, _, _, rfl, _⟩ := h; rfl)) (fun cdv A outer s H vs Q E hr h => ⟨_, (dv_law_spoilt Z D_law_take hr).nox, rd_law_spoilt h⟩)
  exact ⟨⟨_, fd, _, [], ok, Z.glo "_law_spoilt" (by decide), FD.kp, FD.bindsN fun _ _ _ _ _ _ us hl => match us, hl with | [_, _], _ => rfl, .nil⟩⟩
theorem ok_law_other_word (Z : Zz P w K mg base) (F : Fx K) (D_law_take : Dk P w K mg base CX0 1 "_law_take" [] (sp_law_take K)) {fd : FuncData} (FD : FunD K "_law_other_word" "_law_other_word" (defArgs s_law_other_word) (defBody s_law_other_word) (defScope s_law_other_word) [] [] (He.fAd K ("_law_other_word", none)) fd) : Dk P w K mg base CX0 2 "_law_other_word" [] (sp_law_other_word K) := by
  have ok : FnOk P w K mg base CX0 2 (He.fAd K ("_law_other_word", none)) fd ["_law_box_here", "_law_whole"] (sp_law_other_word K) := FD.ok (CX := CX0) sc_law_other_word (fun vs H Q E h => by unfold sp_law_other_word at h; first | (obtain ⟨_, rfl, _⟩ := h; rfl) | (obtain ⟨_, _, rfl, _⟩ := h; rfl) | (obtain ⟨_, _, _, rfl, _⟩ := h; rfl) | (obtain ⟨_, _, _, _, rfl, _⟩ := h; rfl) | (obtain ⟨_, _, _, _, _, rfl, _⟩ := h; rfl) | (obtain ⟨_, _, _, _, _, _, rfl, _⟩ := h; rfl) | (obtain ⟨_, _, _, _, _, _, _, rfl, _⟩ := h; rfl)) (fun cdv A outer s H vs Q E hr h => ⟨_, (dv_law_other_word Z D_law_take hr).nox, rd_law_other_word h⟩)
  exact ⟨⟨_, fd, _, [], ok, Z.glo "_law_other_word" (by decide), FD.kp, FD.bindsN fun _ _ _ _ _ _ us hl => match us, hl with | [_, _], _ => rfl, .nil⟩⟩
theorem ok_law_due (Z : Zz P w K mg base) (F : Fx K) (D_law_words_due : Dk P w K mg base CX0 1 "_law_words_due" [] (sp_law_words_due K)) (D_law_steps_due : Dk P w K mg base CX0 2 "_law_steps_due" [] (sp_law_steps_due K)) {fd : FuncData} (FD : FunD K "_law_due" "_law_due" (defArgs s_law_due) (defBody s_law_due) (defScope s_law_due) [] [] (He.fAd K ("_law_due", none)) fd) : Dk P w K mg base CX0 3 "_law_due" [] (sp_law_due K) := by
  have ok : FnOk P w K mg base CX0 3 (He.fAd K ("_law_due", none)) fd ["_law_thing"] (sp_law_due K) := FD.ok (CX := CX0) sc_law_due (fun vs H Q E h => by unfold sp_law_due at h; first | (obtain ⟨_, rfl, _⟩ := h; rfl) | (obtain ⟨_, _, rfl, _⟩ := h; rfl) | (obtain ⟨_, _, _, rfl, _⟩ := h; rfl) | (obtain ⟨_, _, _, _, rfl, _⟩ := h; rfl) | (obtain ⟨_, _, _, _, _, rfl, _⟩ := h; rfl) | (obtain ⟨_, _, _, _, _, _, rfl, _⟩ := h; rfl) | (obtain ⟨_, _, _, _, _, _, _, rfl, _⟩ := h; rfl)) (fun cdv A outer s H vs Q E hr h => ⟨_, (dv_law_due Z D_law_words_due D_law_steps_due hr).nox, rd_law_due h⟩)
  exact ⟨⟨_, fd, _, [], ok, Z.glo "_law_due" (by decide), FD.kp, FD.bindsN fun _ _ _ _ _ _ us hl => match us, hl with | [_], _ => rfl, .nil⟩⟩
theorem ok_law_kind (Z : Zz P w K mg base) (F : Fx K)  {fd : FuncData} (FD : FunD K "_law_kind" "_law_kind" (defArgs s_law_kind) (defBody s_law_kind) (defScope s_law_kind) [] [] (He.fAd K ("_law_kind", none)) fd) : Sk P w K mg base 1 "_law_kind" (sp_law_kind K) := by
  have ok : FnS P w K mg base 1 (He.fAd K ("_law_kind", none)) fd ["_law_e"] (sp_law_kind K) := FunDS FD sc_law_kind (fun cls d a vs H Q h => by obtain ⟨_, _, _, _, rfl, _⟩ := h; rfl) (fun cdv A outer s H vs Q p cls d hz hf hr h => by
    obtain ⟨D, dd, rfl, rfl, xc, xf, no, q⟩ := rd_law_kind F h
    exact ⟨_, dv_law_kind Z xc xf no hz hf (E := E0) hr, q⟩)
  exact ⟨⟨_, fd, _, ok, Z.glo "_law_kind" (by decide), FD.kp, FD.bindsN fun _ _ _ _ _ _ us hl => match us, hl with | [_], _ => rfl⟩⟩
theorem ok_law_asked (Z : Zz P w K mg base) (F : Fx K) (D_read_rule : Dk P w K mg base (L2.CX P w) 7 "read_rule" [] (sp_read_rule K)) (D_law_kind : Sk P w K mg base 1 "_law_kind" (sp_law_kind K)) (D_Rule_steps : Mtd P w K mg base CX0 1 (He.ga K "Rule") "steps" [] (sp_Rule_steps K)) {fd : FuncData} (FD : FunD K "_law_asked" "_law_asked" (defArgs s_law_asked) (defBody s_law_asked) (defScope s_law_asked) [] [] (He.fAd K ("_law_asked", none)) fd) : Dk P w K mg base CX0 8 "_law_asked" [] (sp_law_asked K) := by
  have ok : FnOk P w K mg base CX0 8 (He.fAd K ("_law_asked", none)) fd ["_law_thing"] (sp_law_asked K) := FD.ok (CX := CX0) sc_law_asked (fun vs H Q E h => by unfold sp_law_asked at h; first | (obtain ⟨_, rfl, _⟩ := h; rfl) | (obtain ⟨_, _, rfl, _⟩ := h; rfl) | (obtain ⟨_, _, _, rfl, _⟩ := h; rfl) | (obtain ⟨_, _, _, _, rfl, _⟩ := h; rfl) | (obtain ⟨_, _, _, _, _, rfl, _⟩ := h; rfl) | (obtain ⟨_, _, _, _, _, _, rfl, _⟩ := h; rfl) | (obtain ⟨_, _, _, _, _, _, _, rfl, _⟩ := h; rfl)) (fun cdv A outer s H vs Q E hr h => ⟨_, (dv_law_asked Z D_read_rule D_law_kind D_Rule_steps hr).nox, rd_law_asked F h⟩)
  exact ⟨⟨_, fd, _, [], ok, Z.glo "_law_asked" (by decide), FD.kp, FD.bindsN fun _ _ _ _ _ _ us hl => match us, hl with | [_], _ => rfl, .nil⟩⟩
theorem ok_law (Z : Zz P w K mg base) (F : Fx K) (D_law_cell : Dk P w K mg base CX0 1 "_law_cell" [] (sp_law_cell K)) (D_law_box : Dk P w K mg base CX0 1 "_law_box" [] (sp_law_box K)) (D_law_steps : Dk P w K mg base CX0 2 "_law_steps" [] (sp_law_steps K)) (D_Rule_init : Mkd P w K mg base (L2.CX P w) 5 "Rule" (He.ga K "Rule") [] (sp_Rule_init K)) (D_rule_text : Dk P w K mg base CX0 2 "rule_text" [] (sp_rule_text K)) (D_Rule_steps : Mtd P w K mg base CX0 1 (He.ga K "Rule") "steps" [] (sp_Rule_steps K)) (D_law_take : Dk P w K mg base CX0 1 "_law_take" [] (sp_law_take K)) (D_law_other_word : Dk P w K mg base CX0 2 "_law_other_word" [] (sp_law_other_word K)) (D_law_spoilt : Dk P w K mg base CX0 2 "_law_spoilt" [] (sp_law_spoilt K)) (D_law_asked : Dk P w K mg base CX0 8 "_law_asked" [] (sp_law_asked K)) (D_law_due : Dk P w K mg base CX0 3 "_law_due" [] (sp_law_due K)) {fd : FuncData} (FD : FunD K "law" "law" (defArgs s_law) (defBody s_law) (defScope s_law) [] [] (He.fAd K ("law", none)) fd) : FnG P w K mg base CX0 9 (He.fAd K ("law", none)) fd ["_law_script"] (sp_law K) :=
  FunDG FD sc_law (fun vs H Q E h => by obtain ⟨_, _, rfl, _⟩ := h; rfl) (fun cdv A outer s H vs Q E hg hr h => ⟨_, (dv_law Z D_law_cell D_law_box D_law_steps D_Rule_init D_rule_text D_Rule_steps D_law_take D_law_other_word D_law_spoilt D_law_asked D_law_due hr hg).nox, rd_law F h⟩)
end
end K67

set_option Elab.async false
set_option linter.all false
set_option maxRecDepth 100000
set_option maxHeartbeats 0
/-! H67b: the head of k67: what stands behind the top, by a run in the kernel. -/
namespace U
open PySem PySem.Spec PyProof.Rows L2
/-- the written part: what hangs on the globals, sys.modules, the model's own cells -/
def partU (n : Nat) (g : Addr → Option Obj) : PySem.W.Frag := He.frT g (sysModules :: cStatics :: He.asD g n)
def obsU (n : Nat) (fa : List He.Fa) (fn : List He.DefD) (ex : PySem.W.Frag → Bool) (g : Addr → Option Obj) : He.AlD × Bool := (He.obsD fa fn (partU n g), ex (partU n g))
def hookU (n : Nat) (fa : List He.Fa) (fn : List He.DefD) (ex : PySem.W.Frag → Bool) : PySem.W.Hook where
  α := He.AlD × Bool
  obs := fun s => obsU n fa fn ex s.heap.get?
  val := fun _ => (He.valD fn, true)
  says := fun _ h => ∃ K : PySem.W.Frag, K.In h ∧ He.SaysD fa fn K ∧ ex K = true
  of := fun _ _ e => ⟨_, He.frT_in, congrArg (fun z : He.AlD × Bool => z.1) e, congrArg (fun z : He.AlD × Bool => z.2) e⟩
  keeps := fun _ _ _ ⟨K, hK, c⟩ k => ⟨K, PySem.W.Frag.In.keeps hK k, c⟩
theorem obsU_eq {n : Nat} {fa : List He.Fa} {fn : List He.DefD} {ex : PySem.W.Frag → Bool} {g : Addr → Option Obj} {s : Shared} (h : ∀ a, g a = s.heap.get? a) : obsU n fa fn ex g = (hookU n fa fn ex).obs s := by
  have e : g = s.heap.get? := funext h
  rw [e] <;> rfl
/-- what isinstance asks of an exception's class -/
def excB (K : PySem.W.Frag) (D : Addr) : Bool := decide (PySem.W.findIn K (.ref D) "__getattribute__" = some (some (.builtin "BaseException.__getattribute__"))) && (decide (PySem.W.findIn K (.ref D) "__getattr__" = some none) && (decide (PySem.W.subIn K (.ref D) (.type "BaseException") = some true) && (PySem.W.hasDictIn K D &&
  (decide (PySem.W.findIn K (.ref D) "__class__" = some (some (.builtin "object.__class__"))) && (decide (PySem.W.specialIn K (.builtin "object.__class__") "__get__" = some (some (.builtin "getset_descriptor.__get__"))) && (decide (PySem.W.takesIn K (.builtin "object.__class__") = some true) &&
  decide (PySem.W.mroIn K D (.type "object") = some true)))))))
theorem excB_ok {K : PySem.W.Frag} {D : Addr} (h : excB K D = true) : ExcC K D := by
  obtain ⟨h1, h⟩ := He.ba h
  obtain ⟨h2, h⟩ := He.ba h
  obtain ⟨h3, h⟩ := He.ba h
  obtain ⟨h4, h⟩ := He.ba h
  obtain ⟨h5, h⟩ := He.ba h
  obtain ⟨h6, h⟩ := He.ba h
  obtain ⟨h7, h8⟩ := He.ba h
  exact ⟨of_decide_eq_true h1, of_decide_eq_true h2, of_decide_eq_true h3, h4, of_decide_eq_true h5, of_decide_eq_true h6, of_decide_eq_true h7, of_decide_eq_true h8⟩
/-- a tuple of texts of the module -/
def tupB (K : PySem.W.Frag) (a : Addr) (ys : List Str) : Bool := match K.lookup a with
  | some ⟨.type c, _, .seq its _, _⟩ => decide (c = "tuple") && decide (its.toList.map absV = ys.map fun y => some (V.str y))
  | _ => false
theorem vals_of_abs : ∀ {us : List Value} {ys : List Str}, us.map absV = ys.map (fun y => some (V.str y)) → Vals (ys.map V.str) us
  | [], [], _ => .nil
  | [], _ :: _, h => by cases h
  | _ :: _, [], h => by cases h
  | u :: us, y :: ys, h => by
    simp only [List.map_cons, List.cons.injEq] at h
    exact .cons (relV_str_of h.1) (vals_of_abs h.2)
theorem tupB_ok {K : PySem.W.Frag} {a : Addr} {ys : List Str} (h : tupB K a ys = true) (hn : ys.length ≤ 1000) (H : Hp) : SqT K H a (ys.map V.str) := by
  unfold tupB at h
  split at h
  · rename_i c d its n sl e
    obtain ⟨h1, h2⟩ := He.ba h
    have ec : c = "tuple" := of_decide_eq_true h1
    subst ec
    have v := vals_of_abs (of_decide_eq_true h2)
    have l := v.length
    rw [List.length_map] at l
    refine .inr ⟨_, its, n, e, rfl, rfl, ?_, v⟩
    have e2 : its.size = its.toList.length := by simp
    rw [e2, ← l, sizeLine_eq]
    omega
  · cases h
end U
namespace K67
open PySem PySem.Spec PyProof.Rows L2 U
abbrev R : PySem.W.OpenRow := PySem.W.OpenLaw.row PySem.Challenge.rw_spinemarks_k67_rules_by_rows
def fa : List He.Fa := glos.map He.Fa.glo ++ (frees.map He.Fa.free ++ [.int "MOST" 6, .cls "Rule", .noat "Rule" "kept_steps", .mkr "Rule", .meth "Rule" "steps"])
def exX (K : PySem.W.Frag) (c : Str) : Bool := oexB K (He.ga K c) && (decide (PySem.W.findIn K (.ref (He.ga K c)) "found" = some none) && (decide (PySem.W.exmOne K (.ref (He.ga K c)) (.ref (He.ga K "MarkError")) = some true) && (excB K (He.ga K c) && (xfB K (He.ga K c) &&
  (decide (PySem.W.findIn K (.ref (He.ga K c)) "__init__" = some (some (.ref (He.fAd K (c, some "__init__"))))) && (decide (PySem.W.typeIn K (.ref (He.fAd K (c, some "__init__"))) = some (.type "function")) && excs.all fun c' => decide (PySem.W.kitOne K (.ref (He.ga K c)) (.ref (He.ga K c')) = some (decide (c = c')))))))))
def ex (K : PySem.W.Frag) : Bool := (excs.all fun c => exX K c) && (excB K (He.ga K "NoText") && (decide (PySem.W.findIn K (.ref (He.ga K "Rule")) "__class__" = some (some (.builtin "object.__class__"))) && (decide (PySem.W.mroIn K (He.ga K "Rule") (.type "object") = some true) &&
  (decide (PySem.W.kitOne K (.ref (He.ga K "Rule")) (.ref (He.ga K "Rule")) = some true) && (tupB K (He.ga K "PARTS") PARTSl && (kdB K (He.ga K "KEYS") ks_KEYS && (baseB K (He.ga K "MarkError") && (sysB K && noBookB K))))))))
abbrev hk : PySem.W.Hook := hookU 4 fa fn ex
def ob (s : PySem.W.SharedT) : He.AlD × Bool := obsU 4 fa fn ex (HandSHeadRun.getT s)
theorem ob_eq (s : PySem.W.SharedT) : ob s = hk.obs s.abs := obsU_eq (HandSHeadRun.getT_eq s)
theorem run (w : World) : HandSHeadRun.RunEq R (PySem.W.view R.prog [lawI]) hk ob 6000 names w := by
  refine PySem.W.byRow2 "special-get-raises" (P := fun w => HandSHeadRun.RunEq R (PySem.W.view R.prog [lawI]) hk ob 6000 names w) (fun w => ?_) (fun w => ?_) w
  · intro os
    kernel_rfl
  · intro os
    kernel_rfl
end K67

set_option Elab.async false
set_option linter.all false
set_option maxRecDepth 100000
set_option maxHeartbeats 0
/-! E67: the end of k67. -/
namespace K67
open PySem PySem.Spec PyProof.Rows L2 U
theorem exX_ok {K : PySem.W.Frag} {c : Str} (h : exX K c = true) : OexC K (He.ga K c) ∧ PySem.W.findIn K (.ref (He.ga K c)) "found" = some none ∧ PySem.W.exmOne K (.ref (He.ga K c)) (.ref (He.ga K "MarkError")) = some true ∧ ExcC K (He.ga K c) ∧ XfC K (He.ga K c) ∧
    PySem.W.findIn K (.ref (He.ga K c)) "__init__" = some (some (.ref (He.fAd K (c, some "__init__")))) ∧ PySem.W.typeIn K (.ref (He.fAd K (c, some "__init__"))) = some (.type "function") ∧ ∀ c', c' ∈ excs → PySem.W.kitOne K (.ref (He.ga K c)) (.ref (He.ga K c')) = some (decide (c = c')) := by
  obtain ⟨h1, h⟩ := He.ba h
  obtain ⟨h2, h⟩ := He.ba h
  obtain ⟨h3, h⟩ := He.ba h
  obtain ⟨h4, h⟩ := He.ba h
  obtain ⟨h5, h⟩ := He.ba h
  obtain ⟨h6, h⟩ := He.ba h
  obtain ⟨h7, h8⟩ := He.ba h
  exact ⟨oexB_ok h1, of_decide_eq_true h2, of_decide_eq_true h3, excB_ok h4, xfB_ok h5, of_decide_eq_true h6, of_decide_eq_true h7, fun c' hc => of_decide_eq_true (List.all_eq_true.mp h8 c' hc)⟩
theorem facts {P : Program} {w : World} {K : PySem.W.Frag} {h : Heap} {mg : Str → Option Value} {f : Addr} (X : K.In h) (G : h.Ns mainGlobals mg) (hfa : mg ("law" : Str) = some (.ref f)) (c : He.SaysD fa fn K) (he : ex K = true) :
    ∃ fd : FuncData, (∀ (s : Shared) (v : Value), BindsTo s fd ⟨[v], []⟩ [("_law_script", v)]) ∧ ∀ base : Heap, K.In base → base.Ns mainGlobals mg → FnG P w K mg base CX0 9 f fd ["_law_script"] (sp_law K) := by
  obtain ⟨e1, he⟩ := He.ba he
  obtain ⟨e2, he⟩ := He.ba he
  obtain ⟨e3, he⟩ := He.ba he
  obtain ⟨e4, he⟩ := He.ba he
  obtain ⟨e5, he⟩ := He.ba he
  obtain ⟨e6, he⟩ := He.ba he
  obtain ⟨e7, he⟩ := He.ba he
  obtain ⟨e8, he⟩ := He.ba he
  obtain ⟨e9, e10⟩ := He.ba he
  have EX : ∀ c, c ∈ excs → _ := fun c hc => exX_ok (List.all_eq_true.mp e1 c hc)
  have mem : ∀ {l : List Str} {x : Str}, l.contains x = true → x ∈ l := fun h => by simpa using h
  have E0' := excB_ok e2
  have mkr := He.mkr_ok (c.facts (f := .mkr "Rule") (by unfold fa; simp))
  have mth := He.meth_ok (c.facts (f := .meth "Rule" "steps") (by unfold fa; simp))
  have F : Fx K := ⟨fun c hc => (EX c (mem hc)).1, fun c hc => (EX c (mem hc)).2.1, He.cls_ok (c.facts (f := .cls "Rule") (by unfold fa; simp)), He.noat_ok (c.facts (f := .noat "Rule" "kept_steps") (by unfold fa; simp)),
    of_decide_eq_true e3, E0'.hn, E0'.ht, of_decide_eq_true e4, fun c c' hc hc' => (EX c (mem hc)).2.2.2.2.2.2.2 c' (mem hc'), fun c hc => (EX c (mem hc)).2.2.1, fun c hc => (EX c (mem hc)).2.2.2.1, fun c hc => (EX c (mem hc)).2.2.2.2.1, of_decide_eq_true e5, fun H => tupB_ok e6 (by decide) H⟩
  have glo : ∀ x, glos.contains x = true → mg x = some (.ref (He.ga K x)) := fun x hx => He.glo_ok X G (c.facts (List.mem_append_left _ (List.mem_map.mpr ⟨x, mem hx, rfl⟩)))
  have fre : ∀ x, frees.contains x = true → mg x = none := fun x hx => He.free_ok X G (c.facts (List.mem_append_right _ (List.mem_append_left _ (List.mem_map.mpr ⟨x, mem hx, rfl⟩))))
  have gin : ∀ x i, intsL.contains (x, i) = true → ∃ u, mg x = some u ∧ RelV (.int i) u := fun x i hx => by
    have hm : (x, i) ∈ intsL := by simpa using hx
    have e : (x, i) = (("MOST" : Str), (6 : Int)) := by simpa [intsL] using hm
    cases e
    obtain ⟨t, ht⟩ := He.int_ok X G (c.facts (f := .int "MOST" 6) (by unfold fa; simp))
    exact ⟨_, ht, t, rfl⟩
  have hf := hfa.symm.trans (glo "law" (by decide))
  cases hf
  obtain ⟨fd_NoText_init, FD_NoText_init⟩ := c.def_ 0 (d := d_NoText_init) rfl
  obtain ⟨fd_Twice_init, FD_Twice_init⟩ := c.def_ 1 (d := d_Twice_init) rfl
  obtain ⟨fd_NoSteps_init, FD_NoSteps_init⟩ := c.def_ 2 (d := d_NoSteps_init) rfl
  obtain ⟨fd_NoStep_init, FD_NoStep_init⟩ := c.def_ 3 (d := d_NoStep_init) rfl
  obtain ⟨fd_NoPart_init, FD_NoPart_init⟩ := c.def_ 4 (d := d_NoPart_init) rfl
  obtain ⟨fd_NoWay_init, FD_NoWay_init⟩ := c.def_ 5 (d := d_NoWay_init) rfl
  obtain ⟨fd_NoRow_init, FD_NoRow_init⟩ := c.def_ 6 (d := d_NoRow_init) rfl
  obtain ⟨fd_split_rows, FD_split_rows⟩ := c.def_ 9 (d := d_split_rows) rfl
  obtain ⟨fd_whole_text, FD_whole_text⟩ := c.def_ 10 (d := d_whole_text) rfl
  obtain ⟨fd_words_in, FD_words_in⟩ := c.def_ 11 (d := d_words_in) rfl
  obtain ⟨fd_ways, FD_ways⟩ := c.def_ 32 (d := d_ways) rfl
  obtain ⟨fd_need_step, FD_need_step⟩ := c.def_ 33 (d := d_need_step) rfl
  obtain ⟨fd_Rule_init, FD_Rule_init⟩ := c.def_ 34 (d := d_Rule_init) rfl
  obtain ⟨fd_Rule_steps, FD_Rule_steps⟩ := c.def_ 37 (d := d_Rule_steps) rfl
  obtain ⟨fd_tuples_in, FD_tuples_in⟩ := c.def_ 38 (d := d_tuples_in) rfl
  obtain ⟨fd_rule_text, FD_rule_text⟩ := c.def_ 39 (d := d_rule_text) rfl
  obtain ⟨fd_read_rule, FD_read_rule⟩ := c.def_ 40 (d := d_read_rule) rfl
  obtain ⟨fd_law_cell, FD_law_cell⟩ := c.def_ 41 (d := d_law_cell) rfl
  obtain ⟨fd_law_box, FD_law_box⟩ := c.def_ 42 (d := d_law_box) rfl
  obtain ⟨fd_law_take, FD_law_take⟩ := c.def_ 43 (d := d_law_take) rfl
  obtain ⟨fd_law_ways, FD_law_ways⟩ := c.def_ 44 (d := d_law_ways) rfl
  obtain ⟨fd_law_steps, FD_law_steps⟩ := c.def_ 45 (d := d_law_steps) rfl
  obtain ⟨fd_law_steps_due, FD_law_steps_due⟩ := c.def_ 46 (d := d_law_steps_due) rfl
  obtain ⟨fd_law_words_due, FD_law_words_due⟩ := c.def_ 47 (d := d_law_words_due) rfl
  obtain ⟨fd_law_spoilt, FD_law_spoilt⟩ := c.def_ 48 (d := d_law_spoilt) rfl
  obtain ⟨fd_law_other_word, FD_law_other_word⟩ := c.def_ 49 (d := d_law_other_word) rfl
  obtain ⟨fd_law_due, FD_law_due⟩ := c.def_ 50 (d := d_law_due) rfl
  obtain ⟨fd_law_kind, FD_law_kind⟩ := c.def_ 51 (d := d_law_kind) rfl
  obtain ⟨fd_law_asked, FD_law_asked⟩ := c.def_ 52 (d := d_law_asked) rfl
  obtain ⟨fd_law, FD_law⟩ := c.def_ 53 (d := d_law) rfl
  refine ⟨fd_law, fun s v => FunD.bindsA (ps := ["_law_script"]) FD_law (fun _ _ _ _ _ _ us hl => match us, hl with | [_], _ => rfl) s [v] rfl, fun base _ _ => ?_⟩
  have Z : Zz P w K mg base := ⟨glo, fre, gin, kdB_ok e7, baseB_ok e8, sysB_ok e9, noBookB_ok e10⟩
  have X_NoText := ok_X_NoText Z F (EX "NoText" (by decide)).2.2.2.2.2.1 (EX "NoText" (by decide)).2.2.2.2.2.2.1 FD_NoText_init
  have X_Twice := ok_X_Twice Z F (EX "Twice" (by decide)).2.2.2.2.2.1 (EX "Twice" (by decide)).2.2.2.2.2.2.1 FD_Twice_init
  have X_NoSteps := ok_X_NoSteps Z F (EX "NoSteps" (by decide)).2.2.2.2.2.1 (EX "NoSteps" (by decide)).2.2.2.2.2.2.1 FD_NoSteps_init
  have X_NoStep := ok_X_NoStep Z F (EX "NoStep" (by decide)).2.2.2.2.2.1 (EX "NoStep" (by decide)).2.2.2.2.2.2.1 FD_NoStep_init
  have X_NoPart := ok_X_NoPart Z F (EX "NoPart" (by decide)).2.2.2.2.2.1 (EX "NoPart" (by decide)).2.2.2.2.2.2.1 FD_NoPart_init
  have X_NoWay := ok_X_NoWay Z F (EX "NoWay" (by decide)).2.2.2.2.2.1 (EX "NoWay" (by decide)).2.2.2.2.2.2.1 FD_NoWay_init
  have X_NoRow := ok_X_NoRow Z F (EX "NoRow" (by decide)).2.2.2.2.2.1 (EX "NoRow" (by decide)).2.2.2.2.2.2.1 FD_NoRow_init
  have O_split_rows := ok_split_rows Z F X_NoText FD_split_rows
  have O_whole_text := ok_whole_text Z F  FD_whole_text
  have O_words_in := ok_words_in Z F  FD_words_in
  have O_ways := ok_ways Z F X_NoPart FD_ways
  have O_need_step := ok_need_step Z F X_NoStep O_ways X_NoWay X_Twice FD_need_step
  have O_Rule_init := ok_Rule_init Z F mkr X_NoSteps O_need_step FD_Rule_init
  have O_Rule_steps := ok_Rule_steps Z F mth  FD_Rule_steps
  have O_tuples_in := ok_tuples_in Z F O_split_rows O_words_in X_NoRow FD_tuples_in
  have O_rule_text := ok_rule_text Z F O_Rule_steps O_whole_text FD_rule_text
  have O_read_rule := ok_read_rule Z F O_tuples_in O_Rule_init FD_read_rule
  have O_law_cell := ok_law_cell Z F  FD_law_cell
  have O_law_box := ok_law_box Z F  FD_law_box
  have O_law_take := ok_law_take Z F  FD_law_take
  have O_law_ways := ok_law_ways Z F  FD_law_ways
  have O_law_steps := ok_law_steps Z F O_law_take O_law_ways FD_law_steps
  have O_law_steps_due := ok_law_steps_due Z F O_law_ways FD_law_steps_due
  have O_law_words_due := ok_law_words_due Z F  FD_law_words_due
  have O_law_spoilt := ok_law_spoilt Z F O_law_take FD_law_spoilt
  have O_law_other_word := ok_law_other_word Z F O_law_take FD_law_other_word
  have O_law_due := ok_law_due Z F O_law_words_due O_law_steps_due FD_law_due
  have O_law_kind := ok_law_kind Z F  FD_law_kind
  have O_law_asked := ok_law_asked Z F O_read_rule O_law_kind O_Rule_steps FD_law_asked
  exact ok_law Z F O_law_cell O_law_box O_law_steps O_Rule_init O_rule_text O_Rule_steps O_law_take O_law_other_word O_law_spoilt O_law_asked O_law_due FD_law
end K67
open PySem PySem.W PySem.Calls PyProof.Rows
theorem PySem.Challenge.cw_spinemarks_k67_rules_by_rows_holds : PySem.Challenge.rw_spinemarks_k67_rules_by_rows.Holds := by
  w_on; o_law
  refine HandSHeadRun.head_any (r := OpenLaw.row PySem.Challenge.rw_spinemarks_k67_rules_by_rows) (q := view (OpenLaw.row PySem.Challenge.rw_spinemarks_k67_rules_by_rows).prog [64]) (H := K67.hk) (ob := K67.ob) (M := 6000) (loose := K67.names) (d := HandSHeadRun.topDef (OpenLaw.row PySem.Challenge.rw_spinemarks_k67_rules_by_rows).prog 64) (kwd := []) K67.ob_eq
    (by kernel_rfl) (fun s => by kernel_rfl) K67.run (by kernel_rfl) (by kernel_rfl) (by kernel_rfl) (by rfl) (by first | assumption | decide +kernel) (by decide +kernel) ⟨rfl, rfl, rfl, rfl, rfl, by decide +kernel⟩ ?hw ?hc
  case hw => w_witness2
  case hc =>
    refine U.walk_ofG (l := PySem.Challenge.rw_spinemarks_k67_rules_by_rows) (n := 63) (k := 9) (x := "_law_script") (CX := L2.CX0) rfl (by decide) (by kernel_rfl) ⟨rfl, by decide, by decide⟩ ?F (fun _ _ _ _ z => z)
    intro w mg fa h Y G hmg0
    obtain ⟨K, KX, c, he⟩ := Y
    have hmg : mg ("law" : PySem.Str) = some (.ref fa) := by
      have e : (HandSHeadRun.topDef (OpenLaw.row PySem.Challenge.rw_spinemarks_k67_rules_by_rows).prog 64).name = ("law" : PySem.Str) := by kernel_rfl
      rw [← e]
      exact hmg0
    obtain ⟨fd, hb, hF⟩ := K67.facts (P := (PySem.Challenge.rw_spinemarks_k67_rules_by_rows).prog) (w := w) KX G hmg c he
    exact ⟨K, fd, K67.sp_law K, KX, hb, fun H a ns hl _ hS => ⟨a, ns, rfl, hS, hl, fun _ => rfl⟩, hF⟩

