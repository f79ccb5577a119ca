import PyProof.Rows.All
import Wide.All
import OpenK.AllK
import Wide.FinOn
import KE.KStateDown
import HandS.Base
import HandS.Call
import HandS.List
import HandS.Comp
import HandS.Dict
import HandS.Iter
import HandS.Text
import HandS.Ends
import HandS.More
import HandS.Words
import HandS.WordsExc
import HandS.Defaults
import HandS.MakeKw
import HandS.Exc
import HandS.ExcOwn
import HandS.TryOnly
import HandS.Deep
import HandS.TupAny
import HandS.Head0
import HandS.Head1
import HandS.Head2
import HandS.HeadHook1
import HandS.HeadHook2
import HandS.HeadHook3
import HandS.HeadHook4
import HandS.HeadWalk
import HandS.Flow
import HandS.Style
import HandS.Wide
import HandS.MakeKw
import HandS.Steps
import HandS.Strs
import HandS.IsInst
import HandS.Zip
import HandS.SetKeys
import HandS.Set
import HandS.WordsDict
import HandS.WordsList
import HandS.Walk
import HandS.Iter
import PyProof.Draws
import PyProof.EnumMake
import HandS.Conv
import HandS.RevRange
import HandS.SetFor
import HandS.Strs
import HandS.Zip
import HandS.SortInts
import HandS.Codes
import HandS.TupSets
import HandS.DeepEq
import HandS.StrMore
import HandS.Replace
import PyProof.StrLawsFirst
import PyProof.Rows.SortShellAny
import KE.KxAffix
import HandS.DictComp
import HandS.Finally
import HandS.SortRule
import KE.KSortTupAny
import HandS.SortKw
import KE.SortKeyHeap
import HandS.Nested
import HandS.CallLocal
import KE.KeyNested
import KE.KDictKeyed
import KE.KDictDisplayH
import KE.KDictWalk
import KE.KDictCopyH
import KE.GoesDict
import PySem.Challenge.RW_shunlist_k51_least
set_option Elab.async false
set_option linter.all false
set_option maxRecDepth 100000
set_option maxHeartbeats 4000000

/-! the layer of this proof: calls by promise, readings -/
namespace SL
open PySem PySem.Spec PyProof.Rows L2
/-- a def keeps the promise sp at level k; dvs: its last defaults, filled in -/
def OkD (P : Program) (w : World) (K : PySem.W.Frag) (mg : Str → Option Value) (base : Heap) (k : Nat) (f : Addr) (ps : List Str) (dvs : List V) (sp : Sp) : Prop :=
  ∃ (fd : FuncData) (ds : List Value), FnOk P w K mg base (L2.CX P w) k f fd ps sp ∧ Binds K fd ps ds ∧ Vals dvs ds ∧ PySem.W.keepIn K (.ref f) = true
section
variable {P : Program} {w : World} {K : PySem.W.Frag} {mg : Str → Option Value} {base : Heap} {f : Addr} {name qual : Str} {params : Arguments} {body : List Stmt} {scope : Scope} {dvs : List V} {N ps : List Str} {k : Nat} {sp : Sp}
/-- the body's question of a def -/
abbrev BodyQ (P : Program) (w : World) (K : PySem.W.Frag) (mg : Str → Option Value) (base : Heap) (k : Nat) (f : Addr) (qual : Str) (body : List Stmt) (scope : Scope) (N : List Str) (sp : Sp) : Prop :=
  ∀ (cdv : Value) (A : Around) (outer : List Env) (s : Shared) (H : Hp) (vs : List V) (Q : VK) (E : XK), Room k (A.deeper (envOfC qual scope s.heap.objs.size f cdv)) → sp vs H Q E →
      ∃ t, PSs (cxOf (L2.CX P w) P w K mg base N qual scope f cdv A outer s H E) body t ∧ t { nx := fun _ H' => Q .non H', rt := Q } (start N vs) H
theorem okD (F : ∃ fd, FunD K name qual params body scope [] [] f fd) (S : FnScope N ps scope)
    (hb : ∀ (kV doc pm : Value) (an : Option Addr) (cdv ct : Value) (us : List Value), us.length = ps.length → bindArgs (PySem.W.fnOf name qual params body scope .none kV doc pm an cdv ct) ⟨us, []⟩ = pure (ps.zip us))
    (len : ∀ vs H Q E, sp vs H Q E → vs.length = ps.length) (h : BodyQ P w K mg base k f qual body scope N sp) : OkD P w K mg base (k + 1) f ps [] sp := by
  obtain ⟨fd, F⟩ := F
  exact ⟨fd, [], F.ok S len h, F.bindsN hb, .nil, F.kp⟩
end
section
variable {X : Cx} {k : Nat} {f : Addr} {ps : List Str} {dvs : List V} {sp : Sp} {E : XK} {x : Str} {p pos : Pos} {e : Expr} {es : List Expr} {t : TA}
theorem pe_cal (o : OkD X.prog X.w X.K X.mg X.base k f ps dvs sp) (hr : Room k X.A) (hg : Gl X x) (hm : X.mg x = some (.ref f)) (hx : Passes (L2.CX X.prog X.w) X E)
    (ha : PA X (e :: es) t) (hdb : (x == ("__debug__" : Str)) = false := by decide) (he : starEach (e :: es) X.env = (false, eval e X.env) :: starEach es X.env := by rfl) (hpl : (backTo pos (starEach es X.env)).any (·.1) = false := by rfl) :
    PE X (.Call (.Name x p) (e :: es) [] pos) (tCall sp dvs E t) := by
  obtain ⟨fd, ds, F, hb, hd, hk⟩ := o
  exact pe_call F hr hg hm hk hb hd hx ha hdb he hpl
/-- no error leaves the callee -/
theorem pasN : Passes (L2.CX X.prog X.w) X (fun _ _ _ => False) := fun _ _ _ _ _ _ _ ⟨_, _, _, _, _, _, _, _, _, _, _, _, h⟩ => h.elim
/-- an error of a callee leaves here, too -/
theorem pasE {W : WX} (tk : Takes X W) {E : XK} (h : ∀ c d σ H, E c d H → W c d σ H) : Passes (L2.CX X.prog X.w) X E := fun pins σ H s e s' I c => passes_call tk h pins σ H s e s' I c
end
end SL
namespace SL
open PySem PySem.Spec PyProof.Rows L2
section
variable {X : Cx} {k : Nat} {f C : Addr} {ps : List Str} {dvs : List V} {sp : Sp} {E : XK} {x m : Str} {p pos apos : Pos} {o e : Expr} {es : List Expr} {ta : TE} {t : TA}
/-- o.m(..), the class told by what stands there: i says it -/
def tMeI {ι : Type} (D : ι → V → Hp → Prop) (spI : ι → Sp) (E : XK) (ta : TE) (t : TA) : TE := fun σ H Q => ta σ H fun x H1 => ∃ i, D i x H1 ∧ t σ H1 fun vs H2 => spI i (x :: vs) H2 Q E
/-- C() of a class that has no __init__ of its own -/
structure MkN (K : PySem.W.Frag) (C : Addr) : Prop where
  makes : PySem.W.makesIn K C = true
  init : PySem.W.findIn K (.ref C) "__init__" = some (some (.builtin "object.__init__"))
  kp : PySem.W.keepIn K (.ref C) = true
def tMakN (C : Addr) : TE := fun _ H Q => ∀ x dx, H x = none → H dx = none → dx ≠ x → Q (.ref x) (upd (upd H dx (.own x)) x (.ins C dx []))
end
def tMakK (C : Addr) (n m : Nat) (sp : Sp) (E : XK) (t tk : TA) : TE := fun σ H Q => t σ H fun vs H1 => tk σ H1 fun zs H2 => vs.length = n ∧ zs.length = m ∧
  ∀ x dx, H2 x = none → H2 dx = none → dx ≠ x → sp (.ref x :: (vs ++ zs)) (upd (upd H2 dx (.own x)) x (.ins C dx [])) (fun v H3 => v = .non ∧ Q (.ref x) H3) E
def tMakKr (C : Addr) (n m : Nat) (sp : Sp) (E : XK) (t tk : TA) : TE := fun σ H Q => t σ H fun vs H1 => tk σ H1 fun zs H2 => vs.length = n ∧ zs.length = m ∧
  ∀ x dx, H2 x = none → H2 dx = none → dx ≠ x → sp (.ref x :: (vs ++ zs.reverse)) (upd (upd H2 dx (.own x)) x (.ins C dx [])) (fun v H3 => v = .non ∧ Q (.ref x) H3) E
end SL
namespace SL
open PySem PySem.Spec PyProof.Rows L2
theorem hu64 {k : Nat} {A : Around} (hr : Room k A) : A.units + 64 < cLine := hr.units
section
variable {X : Cx}
theorem OpR.imp {f : Value → Value → Sem Value} {r r' : R2} (h : OpR X f r) (i : ∀ x y H Q, r' x y H Q → r x y H Q) : OpR X f r' := fun pins s σ H x y v u Q I rx ry q => h pins s σ H x y v u Q I rx ry (i _ _ _ _ q)
theorem IxR.imp {r r' : R2} (h : IxR X r) (i : ∀ x y H Q, r' x y H Q → r x y H Q) : IxR X r' := fun value slice pins s σ H x y v u Q I rx ry q hs => h value slice pins s σ H x y v u Q I rx ry (i _ _ _ _ q) hs
theorem CallR.imp {f : Value} {r r' : List V → Hp → VK → Prop} (h : CallR X f r) (i : ∀ xs H Q, r' xs H Q → r xs H Q) : CallR X f r' := fun pins s σ H xs us Q I rx q => h pins s σ H xs us Q I rx (i _ _ _ q)
/-! ### + and * -/
def rAddU (K : PySem.W.Frag) : R2 := fun x y H Q => match x, y with
  | .int i, .int j => Q (.int (i + j)) H
  | .int i, .bl b => Q (.int (i + b2i b)) H
  | .str a, .str b => a.length + b.length ≤ sizeLine ∧ Q (.str (a ++ b)) H
  | .ref a, .ref b => rCat (.ref a) (.ref b) H Q ∨ rCatT K (.ref a) (.ref b) H Q
  | _, _ => False
theorem o_add {K : PySem.W.Frag} (hK : X.K = K := by rfl) : OpR X (binaryOp .Add) (rAddU K) := by
  subst hK
  refine OpR.imp (op_add.or (op_add_ib.or (op_add_str.or (op_cat.or op_catT)))) fun x y H Q h => ?_
  cases x <;> cases y <;> first
    | exact absurd h id
    | exact .inl ⟨_, _, rfl, rfl, h⟩
    | exact .inr (.inl ⟨_, _, rfl, rfl, h⟩)
    | exact .inr (.inr (.inl ⟨_, _, rfl, rfl, h.1, h.2⟩))
    | exact .inr (.inr (.inr h))
def rMulU : R2 := fun x y H Q => match x, y with
  | .int i, .int j => CMul i j ∧ Q (.int (i * j)) H
  | .ref a, .int j => rRep (.ref a) (.int j) H Q
  | _, _ => False
theorem o_mul : OpR X (binaryOp .Mult) rMulU := by
  refine OpR.imp (op_mul.or op_rep) fun x y H Q h => ?_
  cases x <;> cases y <;> first
    | exact absurd h id
    | exact .inl ⟨_, _, rfl, rfl, h.1, h.2⟩
    | exact .inr h
/-! ### comparisons -/
def isRef : V → Bool
  | .ref _ => true
  | _ => false
/-- lists of different lengths -/
def lenNe (K : PySem.W.Frag) (b : Bool) : R2 := fun x y H Q => ∃ p q xs ys, x = .ref p ∧ y = .ref q ∧ SqL K H p xs ∧ SqL K H q ys ∧ xs.length ≠ ys.length ∧ Q (.bl b) H
theorem op_eqLen (hu : X.A.units + 64 < cLine) : OpR X (compareOp .Eq) (lenNe X.K false) := by
  intro pins s σ H x y v u Q I rx ry h
  obtain ⟨p, q, xs, ys, rfl, rfl, h1, h2, hn, k⟩ := h
  cases rx
  cases ry
  obtain ⟨its, r, pl, _⟩ := I.list h1
  obtain ⟨its2, r2, pl2, _⟩ := I.list h2
  have e1 := r.length
  have e2 := r2.length
  exact SeqAt.RcAt.lists_lengths pl.isList pl2.isList (by simp; omega) (by omega) _ _ _ _ ⟨.bl _, H, I, rfl, k⟩
theorem op_neLen (hu : X.A.units + 64 < cLine) : OpR X (compareOp .NotEq) (lenNe X.K true) := by
  intro pins s σ H x y v u Q I rx ry h
  obtain ⟨p, q, xs, ys, rfl, rfl, h1, h2, hn, k⟩ := h
  cases rx
  cases ry
  obtain ⟨its, r, pl, _⟩ := I.list h1
  obtain ⟨its2, r2, pl2, _⟩ := I.list h2
  have e1 := r.length
  have e2 := r2.length
  exact SeqAt.RcNeAt.lists_lengths pl.isList pl2.isList (by simp; omega) (by omega) _ _ _ _ ⟨.bl _, H, I, rfl, k⟩
def rEqR (K : PySem.W.Frag) : R2 := fun x y H Q => rEqD K x y H Q ∨ lenNe K false x y H Q
def rNeR (K : PySem.W.Frag) : R2 := fun x y H Q => rNeD K x y H Q ∨ lenNe K true x y H Q
def rEqU (K : PySem.W.Frag) : R2 := fun x y H Q => match isRef x || isRef y with
  | true => rEqR K x y H Q
  | false => scal x y = true ∧ Q (.bl (decide (x = y))) H
def rNeU (K : PySem.W.Frag) : R2 := fun x y H Q => match isRef x || isRef y with
  | true => rNeR K x y H Q
  | false => scal x y = true ∧ Q (.bl (!decide (x = y))) H
theorem o_eq {K : PySem.W.Frag} (hu : X.A.units + 64 < cLine) (hK : X.K = K := by rfl) : OpR X (compareOp .Eq) (rEqU K) := by
  subst hK
  refine OpR.imp (op_eq.or ((op_eqD hu).or (op_eqLen hu))) fun x y H Q h => ?_
  unfold rEqU at h
  split at h
  · exact .inr h
  · exact .inl h
theorem o_ne {K : PySem.W.Frag} (hu : X.A.units + 64 < cLine) (hK : X.K = K := by rfl) : OpR X (compareOp .NotEq) (rNeU K) := by
  subst hK
  refine OpR.imp (op_ne.or ((op_neD hu).or (op_neLen hu))) fun x y H Q h => ?_
  unfold rNeU at h
  split at h
  · exact .inr h
  · exact .inl h
theorem ne_nil {K : PySem.W.Frag} {p q : Addr} {xs : List V} {H : Hp} {Q : VK} (h1 : SqL K H p xs) (h2 : SqL K H q []) (k : Q (.bl (!decide (xs = []))) H) : rNeR K (.ref p) (.ref q) H Q := by
  cases xs with
  | nil => exact .inl ⟨.list [], .list [], .lst h1 .nil, .lst h2 .nil, rfl, rfl, k⟩
  | cons x r => exact .inr ⟨p, q, _, _, rfl, rfl, h1, h2, by simp, k⟩
/-! ### is, of truths and None -/
def rIsBo : R2 := fun x y H Q => match x, y with
  | .bl a, .bl b => Q (.bl (a == b)) H
  | _, _ => False
def rNotBo : R2 := fun x y H Q => match x, y with
  | .bl a, .bl b => Q (.bl (!(a == b))) H
  | _, _ => False
/-! ### int of a number or a truth -/
def rIntU : List V → Hp → VK → Prop := fun xs H Q => match xs with
  | [.int i] => Q (.int i) H
  | [.bl k] => Q (.int (if k then 1 else 0)) H
  | _ => False
/-! ### x += y -/
def rIadd : TIp := fun x y H Q => match x, y with
  | .int i, .int j => Q (.int (i + j)) H
  | .str a, .str b => a.length + b.length ≤ sizeLine ∧ Q (.str (a ++ b)) H
  | .ref a, .ref b => rExt2 (.ref a) (.ref b) H Q
  | _, _ => False
def rCmp (f : Int → Int → Bool) (g : List Nat → List Nat → Bool) : R2 := fun x y H Q => match x, y with
  | .int i, .int j => Q (.bl (f i j)) H
  | .str a, .str b => Q (.bl (g a.cps.toList b.cps.toList)) H
  | _, _ => False
theorem o_lt : OpR X (compareOp .Lt) (rCmp (fun i j => decide (i < j)) (fun a b => decide (a < b))) := by
  refine OpR.imp (op_lt.or op_lt_str) fun x y H Q h => ?_
  cases x <;> cases y <;> first
    | exact absurd h id
    | exact .inl ⟨_, _, rfl, rfl, h⟩
    | exact .inr ⟨_, _, rfl, rfl, h⟩
theorem o_gt : OpR X (compareOp .Gt) (rCmp (fun i j => decide (j < i)) (fun a b => decide (b < a))) := by
  refine OpR.imp (op_gt.or op_gt_str) fun x y H Q h => ?_
  cases x <;> cases y <;> first
    | exact absurd h id
    | exact .inl ⟨_, _, rfl, rfl, h⟩
    | exact .inr ⟨_, _, rfl, rfl, h⟩
/-- in: a sign in a text, a text in a text, data in a list of data, a flat thing in a list or a tuple -/
def rInU (K : PySem.W.Frag) : R2 := fun x y H Q => match x, y with
  | .str a, .str b => (∃ c, a = ⟨#[c]⟩ ∧ Q (.bl (decide (c ∈ b.cps.toList))) H) ∨ Q (.bl (!(Builtin.Str.occurrences b a 0 b.length 1).isEmpty)) H
  | .ref a, .ref b => rInD K (.ref a) (.ref b) H Q
  | x, .ref b => rIn K false x (.ref b) H Q
  | _, _ => False
theorem hu65 {k : Nat} {A : Around} (hr : Room k A) : A.units + 65 < cLine := by
  have := hr.un
  omega
theorem o_in {K : PySem.W.Frag} (hu : X.A.units + 65 < cLine) (hK : X.K = K := by rfl) : OpR X (compareOp .In) (rInU K) := by
  subst hK
  refine OpR.imp (op_in_sign.or (op_in_str.or (op_in_seq.or (op_inD hu)))) fun x y H Q h => ?_
  cases y with
  | ref b => cases x with
    | ref a => exact .inr (.inr (.inr h))
    | _ => exact .inr (.inr (.inl h))
  | str b =>
    cases x with
    | str a =>
      rcases h with ⟨c, rfl, q⟩ | q
      · exact .inl ⟨c, b, rfl, rfl, q⟩
      · exact .inr (.inl ⟨a, b, rfl, rfl, q⟩)
    | _ => exact absurd h id
  | _ => cases x <;> exact absurd h id
def rNotInU (K : PySem.W.Frag) : R2 := fun x y H Q => match x, y with
  | .str a, .str b => (∃ c, a = ⟨#[c]⟩ ∧ Q (.bl (!decide (c ∈ b.cps.toList))) H) ∨ Q (.bl (!(!(Builtin.Str.occurrences b a 0 b.length 1).isEmpty))) H
  | .ref a, .ref b => rNotInD K (.ref a) (.ref b) H Q
  | x, .ref b => rIn K true x (.ref b) H Q
  | _, _ => False
theorem o_notin {K : PySem.W.Frag} (hu : X.A.units + 65 < cLine) (hK : X.K = K := by rfl) : OpR X (compareOp .NotIn) (rNotInU K) := by
  subst hK
  refine OpR.imp (op_notIn_sign.or (op_notIn_str.or (op_notIn_seq.or (op_notInD hu)))) fun x y H Q h => ?_
  cases y with
  | ref b => cases x with
    | ref a => exact .inr (.inr (.inr h))
    | _ => exact .inr (.inr (.inl h))
  | str b =>
    cases x with
    | str a =>
      rcases h with ⟨c, rfl, q⟩ | q
      · exact .inl ⟨c, b, rfl, rfl, q⟩
      · exact .inr (.inl ⟨a, b, rfl, rfl, q⟩)
    | _ => exact absurd h id
  | _ => cases x <;> exact absurd h id
/-! ### items, slices, walks -/
def rIxU (K : PySem.W.Frag) : R2 := fun x y H Q => match x, y with
  | .ref p, .int i => ∃ xs v, (SqL K H p xs ∨ SqT K H p xs) ∧ atI xs i = some v ∧ Q v H
  | .str z, .int i => z.length ≤ sizeLine ∧ ∃ c, atI z.cps.toList i = some c ∧ Q (.str ⟨#[c]⟩) H
  | _, _ => False
theorem o_ix {K : PySem.W.Frag} (hK : X.K = K := by rfl) : IxR X (rIxU K) := by
  subst hK
  refine IxR.imp ix_seq fun x y H Q h => ?_
  cases y with
  | int i =>
    cases x with
    | ref p =>
      obtain ⟨xs, v, h1 | h1, h2, q⟩ := h
      · exact .inl ⟨p, xs, i, v, rfl, rfl, h1, h2, q⟩
      · exact .inr (.inl ⟨p, xs, i, v, rfl, rfl, h1, h2, q⟩)
    | str z =>
      obtain ⟨h0, c, h2, q⟩ := h
      exact .inr (.inr ⟨z, i, c, rfl, rfl, h0, h2, q⟩)
    | _ => exact absurd h id
  | _ => cases x <;> exact absurd h id
def iU (K : PySem.W.Frag) (te : TE) : TI := fun σ H R => te σ H fun x H1 => match x with
  | .ref a => ((∃ xs, SqL K H1 a xs) ∧ R (Itl K a) H1) ∨ ((∃ xs, SqT K H1 a xs) ∧ R (Itt K a) H1)
  | .str z => R (Its z) H1
  | _ => False
theorem o_it {K : PySem.W.Frag} {tg e : Expr} {te : TE} (hc : X.calm = true) (he : PE X e te) (hK : X.K = K := by rfl) : PI X tg e (iU K te) := by
  subst hK
  refine ⟨fun pins s σ H R I h => ?_⟩
  refine thn (he.run pins s σ H _ I h) fun v s1 ⟨x, H1, I1, r1, q1⟩ => ?_
  cases x with
  | ref a =>
    cases r1
    rcases q1 with ⟨⟨xs, hq⟩, q⟩ | ⟨⟨xs, hq⟩, q⟩
    · obtain ⟨its, rv, p, hz⟩ := I1.list hq
      exact wpAny_pyIter_list p.isList (pi_one (tk := s1.toks) I1 _ (turn_list a _) ⟨_, Heap.get?_push_size _ rfl, rfl, rfl⟩ q)
    · obtain ⟨its, rv, p, hz⟩ := I1.tuple hq
      exact wpAny_pyIter_tuple (show s1.heap.IsTuple a its.toArray from p) (pi_one (tk := s1.toks) I1 _ (turn_tuple a _) ⟨_, Heap.get?_push_size _ rfl, rfl, rfl⟩ q)
  | str z =>
    obtain ⟨t, rfl⟩ := r1
    cases ha : z.cps.all (· < 128)
    · exact wpAny_pyIter_wide ha (pi_one (tk := s1.toks) I1 _ (turn_str _ z t "str_iterator" (.inr rfl)) ⟨_, Heap.get?_push_size _ rfl, rfl, rfl⟩ q1)
    · exact wpAny_pyIter_ascii ha (pi_one (tk := s1.toks) I1 _ (turn_str _ z t "str_ascii_iterator" (.inl rfl)) ⟨_, Heap.get?_push_size _ rfl, rfl, rfl⟩ q1)
  | _ => exact absurd q1 id
/-! ### slices, len, list, the truth of a value -/
def rSlU (K : PySem.W.Frag) : V → Option Int → Option Int → Hp → VK → Prop := fun x lo hi H Q => match x with
  | .str z => z.length ≤ sizeLine ∧ Q (.str (cutS z lo hi)) H
  | .ref a => (∃ xs, SqL K H a xs ∧ ∀ p, H p = none → Q (.ref p) (upd H p (.lst (cutV xs lo hi)))) ∨
    ∃ xs, SqT K H a xs ∧ (HT.sIx xs.length 0 lo = 0 ∧ HT.sIx xs.length xs.length hi = xs.length → Q (.ref a) H) ∧
      (¬ (HT.sIx xs.length 0 lo = 0 ∧ HT.sIx xs.length xs.length hi = xs.length) → ∀ p, H p = none → Q (.ref p) (upd H p (.tup (cutV xs lo hi))))
  | _ => False
theorem SlR.imp {r r' : V → Option Int → Option Int → Hp → VK → Prop} (h : SlR X r) (i : ∀ x lo hi H Q, r' x lo hi H Q → r x lo hi H Q) : SlR X r' := fun pins s σ H x v vl vu lo hi sl Q I rx hs pl pu q => h pins s σ H x v vl vu lo hi sl Q I rx hs pl pu (i _ _ _ _ _ q)
theorem o_sl {K : PySem.W.Frag} (hK : X.K = K := by rfl) : SlR X (rSlU K) := by
  subst hK
  refine SlR.imp (sl_list.or (sl_tupA.or sl_str)) fun x lo hi H Q h => ?_
  match x, h with
  | .str z, ⟨h1, h2⟩ => exact .inr (.inr ⟨z, rfl, h1, h2⟩)
  | .ref a, .inl ⟨xs, h1, h2⟩ => exact .inl ⟨a, xs, rfl, h1, h2⟩
  | .ref a, .inr ⟨xs, h1, h2, h3⟩ => exact .inr (.inl ⟨a, xs, rfl, h1, h2, h3⟩)
def rLenU (K : PySem.W.Frag) : List V → Hp → VK → Prop := fun xs H Q => match xs with
  | [x] => ∃ n, LenV K x H n ∧ Q (.int n) H
  | _ => False
theorem o_len {K : PySem.W.Frag} (hK : X.K = K := by rfl) : CallR X (.builtin "len") (rLenU K) := by
  subst hK
  refine CallR.imp call_len fun xs H Q h => ?_
  match xs, h with
  | [x], ⟨n, h, q⟩ => exact ⟨x, n, rfl, h, q⟩
theorem pt_tru {K : PySem.W.Frag} {a : Expr} {ta : TE} (ha : PE X a ta) (he : ∀ whole, isTrue a X.env whole = (do let v ← whole; standAt a.pos; holding [v] (truthy v))) (hK : X.K = K := by rfl) : PT X a (fun σ H Q => ta σ H fun x H1 => ∃ k, TruV K x H1 k ∧ Q k H1) := by
  subst hK
  exact pt_truth ha he
theorem pe_andK {K : PySem.W.Frag} {a b : Expr} {rest : List Expr} {ta tb : TE} {pos : Pos} (ha : PE X a ta) (hb : PE X (.BoolOp .And (b :: rest) pos) tb) (hK : X.K = K := by rfl) : PE X (.BoolOp .And (a :: b :: rest) pos) (tAndT K ta tb) := by
  subst hK
  exact pe_andT ha hb
/-- isinstance(x, T), T built in -/
def rIsiU (K : PySem.W.Frag) : List V → Hp → VK → Prop := fun xs H Q => match xs with
  | [x, .ty n] => ∃ (t : String) (b : Bool), TyX K H x (.type t) ∧ kitB t n = some b ∧ Q (.bl b) H
  | _ => False
theorem o_isi {K : PySem.W.Frag} (hK : X.K = K := by rfl) : CallR X (.builtin "isinstance") (rIsiU K) := by
  subst hK
  refine CallR.imp call_isi fun xs H Q h => ?_
  match xs, h with
  | [x, .ty n], ⟨t, b, h1, h2, q⟩ => exact ⟨x, .ty n, .type t, .type n, b, rfl, .ty n, h1, kit_ty h2, q⟩
def rTupU (K : PySem.W.Frag) : List V → Hp → VK → Prop := fun xs H Q => match xs with
  | [.ref p] => ∃ ys, (SqL K H p ys ∧ ∀ l, H l = none → Q (.ref l) (upd H l (.tup ys))) ∨ (SqT K H p ys ∧ Q (.ref p) H)
  | _ => False
theorem o_tuple {K : PySem.W.Frag} (hK : X.K = K := by rfl) : CallR X (.type "tuple") (rTupU K) := by
  subst hK
  refine CallR.imp call_tuple_of fun xs H Q h => ?_
  match xs, h with
  | [.ref p], ⟨ys, h⟩ => exact ⟨p, ys, rfl, h⟩
end
end SL
namespace SL
open PySem PySem.Spec PyProof.Rows L2
section
variable {K : PySem.W.Frag} {H H' : Hp}
theorem same_new {p : Addr} {o : HO} (h : H p = none) : Same H (upd H p o) := fun a u e => by
  rw [upd_ne (ne_of_none e h)]
  exact e
/-- an object that H does not know may change -/
theorem same_mut {p : Addr} {o : HO} (e : Same H H') (h : H p = none) : Same H (upd H' p o) := fun a u ha => by
  rw [upd_ne (ne_of_none ha h)]
  exact e a u ha
theorem same_rd {a : Addr} {u : HO} (e : Same H H') (h : Rd H a u) : Rd H' a u := by
  rcases h with h | ⟨o, h⟩
  · exact .inl (e a _ h)
  · exact .inr ⟨o, e a _ h⟩
theorem same_l {a : Addr} {xs : List V} (e : Same H H') (h : SqL K H a xs) : SqL K H' a xs := e.seq h
theorem same_t {a : Addr} {xs : List V} (e : Same H H') (h : SqT K H a xs) : SqT K H' a xs := by
  rcases h with h | h
  · exact .inl (same_rd e h)
  · exact .inr h
mutual
theorem dp_mono (e : Same H H') : ∀ (d : PyData) (v : V), Dp K H v d → Dp K H' v d
  | .none, _, .non => .non
  | .bool _, _, .bl b => .bl b
  | .int _, _, .int i => .int i
  | .str _, _, .str x => .str x
  | .list ds, _, .lst h a => .lst (same_l e h) (dpAll_mono e ds _ a)
  | .tuple ds, _, .tup h a => .tup (same_t e h) (dpAll_mono e ds _ a)
theorem dpAll_mono (e : Same H H') : ∀ (ds : List PyData) (vs : List V), DpAll K H vs ds → DpAll K H' vs ds
  | [], _, .nil => .nil
  | d :: ds, _, .cons h t => .cons (dp_mono e d _ h) (dpAll_mono e ds _ t)
end
end
section
variable {CX : CXT} {P : Program} {w : World} {K : PySem.W.Frag} {mg : Str → Option Value} {base : Heap} {N : List Str} {qual : Str} {scope : Scope} {f : Addr} {cd : Value} {A : Around} {outer : List Env} {s : Shared} {H : Hp} {E : XK}
theorem cxK : (cxOf CX P w K mg base N qual scope f cd A outer s H E).K = K := rfl
theorem cxW : (cxOf CX P w K mg base N qual scope f cd A outer s H E).w = w := rfl
theorem cxP : (cxOf CX P w K mg base N qual scope f cd A outer s H E).prog = P := rfl
end
section
variable {K : PySem.W.Frag} {H : Hp} {k : Bool} {n : Nat}
theorem truBl {b : Bool} : TruV K (.bl b) H k = (k = b) := rfl
theorem truInt {i : Int} : TruV K (.int i) H k = (k = (i != 0)) := rfl
theorem truNon : TruV K .non H k = (k = false) := rfl
theorem truStr {y : Str} : TruV K (.str y) H k = (y.length ≤ sizeLine ∧ k = ((y.length : Int) != 0)) := rfl
theorem lenStr {z : Str} {R : Nat → Prop} : (∃ n, LenV K (.str z) H n ∧ R n) = (z.length ≤ sizeLine ∧ R z.length) := by
  refine propext ⟨fun ⟨n, ⟨h1, h2⟩, h⟩ => ?_, fun ⟨h1, h⟩ => ⟨_, ⟨h1, rfl⟩, h⟩⟩
  subst h2
  exact ⟨h1, h⟩
end
theorem sameT {H : Hp} : Same H H = True := propext ⟨fun _ => trivial, fun _ => Same.refl H⟩
theorem ite_tt {A B : Prop} : (if true = true then A else B) = A := by simp
theorem ite_ff {A B : Prop} : (if false = true then A else B) = B := by simp
theorem le_sz {n : Nat} : (n ≤ sizeLine) = (n ≤ 16777216) := by rw [sizeLine_eq]
theorem lt_sz {n : Nat} : (n < sizeLine) = (n < 16777216) := by rw [sizeLine_eq]
/-- a value by what is wanted of it alone -/
def tMid (te : TE) : TE := fun σ H Q => ∃ Q' : VK, te σ H Q' ∧ ∀ v H1, Q' v H1 → Q v H1
theorem pe_mid {X : Cx} {e : Expr} {te : TE} (h : PE X e te) : PE X e (tMid te) := ⟨fun pins s σ H Q I ⟨_, h1, h2⟩ => thn (h.run pins s σ H _ I h1) fun _ _ ⟨v, H1, I1, r, q⟩ => ⟨v, H1, I1, r, h2 v H1 q⟩⟩
theorem q_mid {i : Nat} {te : TE} {u : TS} {D : Ends} {σ : L2.St} {H : Hp} (C : Int → Prop) (h : te σ H fun v H1 => H1 = H ∧ ∃ n, v = .int n ∧ C n) (k : ∀ n, C n → u D (σ.set i (some (.int n))) H) : tSeq (tAsg (tMid te) (gName i)) u D σ H :=
  ⟨_, h, fun v H1 ⟨e, n, ev, c⟩ => by rw [e, ev]; exact k n c⟩
end SL
namespace SL
open PySem PySem.Spec PyProof.Rows L2
/-- all but the lists stay -/
def NL (H H' : Hp) : Prop := ∀ a o, H a = some o → (∀ l, o ≠ .lst l) → H' a = some o
theorem NL.of {H H' : Hp} (e : Same H H') : NL H H' := fun a o h _ => e a o h
theorem NL.refl {H : Hp} : NL H H := fun _ _ h _ => h
theorem NL.trans {H H1 H2 : Hp} (a : NL H H1) (b : NL H1 H2) : NL H H2 := fun c o h n => b c o (a c o h n) n
theorem nl_upd {H : Hp} {D : Addr} {l : List V} {o : HO} (h : H D = some (.lst l)) : NL H (upd H D o) := fun a u e n => by
  have q : a ≠ D := fun z => by
    rw [z, h] at e
    exact n l (Option.some.inj e).symm
  rw [upd_ne q]
  exact e
/-! ### walked things, by what is wanted of them alone -/
def iMid (wi : TI) : TI := fun σ H R => ∃ R' : It → Hp → Prop, wi σ H R' ∧ ∀ J H1, R' J H1 → R J H1
theorem pi_mid {X : Cx} {tg it : Expr} {wi : TI} (h : PI X tg it wi) : PI X tg it (iMid wi) := ⟨fun pins s σ H R I ⟨_, h1, h2⟩ => thn (h.run pins s σ H _ I h1) fun _ s1 q => thn q fun _ _ ⟨it, fp, tn, J, H', e, I', T, st, f, r⟩ => ⟨it, fp, tn, J, H', e, I', T, st, f, h2 J H' r⟩⟩
def tMidT (tt : TT) : TT := fun σ H Q => ∃ Q' : Bool → Hp → Prop, tt σ H Q' ∧ ∀ b H1, Q' b H1 → Q b H1
theorem pt_mid {X : Cx} {e : Expr} {tt : TT} (h : PT X e tt) : PT X e (tMidT tt) := ⟨fun pins s σ H Q I ⟨_, h1, h2⟩ => thn (h.run pins s σ H _ I h1) fun _ _ ⟨H1, I1, q⟩ => ⟨H1, I1, h2 _ H1 q⟩⟩
section
variable {J0 : It} {n : Nat} {G : Hp → Prop} {Y : Nat → Hp → V → Hp → Prop} {wi : TI} {i : Nat} {tb : TS} {D : Ends} {σ : L2.St} {H H0 : Hp}
theorem for_mid (h : wi σ H fun J H1 => J = J0 ∧ H1 = H0) (w : Walk J0 n G Y) (Pv : Nat → L2.St → Hp → Prop) (h0 : Pv 0 σ H0) (hG : ∀ i σ H, i ≤ n → Pv i σ H → G H)
    (hs : ∀ k x σ H H', k < n → Pv k σ H → Y k H x H' → tb { D with nx := Pv (k + 1), ct := Pv (k + 1), bk := D.nx } (σ.set i (some x)) H') (hd : ∀ σ H, Pv n σ H → D.nx σ H) : tFor (iMid wi) (gName i) tb D σ H := by
  refine ⟨_, h, ?_⟩
  rintro J H1 ⟨rfl, rfl⟩
  exact for_it w Pv h0 hG (fun k x σ H H' hk p y => hs k x σ H H' hk p y) hd
theorem for_midg {g : TG} (h : wi σ H fun J H1 => J = J0 ∧ H1 = H0) (w : Walk J0 n G Y) (Pv : Nat → L2.St → Hp → Prop) (h0 : Pv 0 σ H0) (hG : ∀ i σ H, i ≤ n → Pv i σ H → G H)
    (hs : ∀ k x σ H H', k < n → Pv k σ H → Y k H x H' → g x σ H' fun σ2 H2 => tb { D with nx := Pv (k + 1), ct := Pv (k + 1), bk := D.nx } σ2 H2) (hd : ∀ σ H, Pv n σ H → D.nx σ H) : tFor (iMid wi) g tb D σ H := by
  refine ⟨_, h, ?_⟩
  rintro J H1 ⟨rfl, rfl⟩
  exact for_it w Pv h0 hG (fun k x σ H H' hk p y => hs k x σ H H' hk p y) hd
/-- a comprehension: C by the turn, what is made so far, the heap (all but lists stay) -/
theorem lc_midM {vs : List Nat} {te : TE} {Q : VK} (h : wi σ H fun J H1 => J = J0 ∧ H1 = H0) (w : Walk J0 n G Y) (hn : n < 16777216) (C : Nat → List V → Hp → Prop) (hC : ∀ k acc Ha Hb, NL Ha Hb → C k acc Ha → C k acc Hb) (h0 : C 0 [] H0)
    (hG : ∀ H', Same H0 H' → G H') (hY : ∀ k H x H', Y k H x H' → Same H H') (hw : ∀ x, wipe ((wipe σ vs).set i (some x)) vs = wipe σ vs)
    (turn : ∀ k x acc H' H'', k < n → Same H0 H' → C k acc H' → Y k H' x H'' → tMid te ((wipe σ vs).set i (some x)) H'' fun y H4 => Same H'' H4 ∧ C (k + 1) (acc ++ [y]) H4)
    (done : ∀ p acc H', H0 p = none → Same H0 H' → H' p = some (.lst acc) → acc.length = n → C n acc H' → Q (.ref p) H') : tLc (iMid wi) (gName i) tYes (tMid te) vs σ H Q := by
  refine ⟨_, h, ?_⟩
  rintro J H1 ⟨rfl, rfl⟩ p hp
  refine lc_it w (fun k H' => ∃ acc, Same H1 H' ∧ H' p = some (.lst acc) ∧ acc.length = k ∧ C k acc H') ⟨[], same_new hp, upd_same, rfl, hC _ _ _ _ (NL.of (same_new hp)) h0⟩ (fun k H' _ ⟨acc, s, _⟩ => hG H' s) ?_ fun H' ⟨acc, s, hD, hl, c⟩ => done p acc H' hp s hD hl c
  rintro k x H' H'' hk ⟨acc, s, hD, hl, c⟩ y
  have s2 := hY k H' x H'' y
  refine ⟨hw x, ?_⟩
  obtain ⟨R, h1, h2⟩ := turn k x acc H' H'' hk s c y
  refine ⟨R, h1, ?_⟩
  rintro v H4 hR
  obtain ⟨s3, c'⟩ := h2 v H4 hR
  have hD4 : H4 p = some (.lst acc) := s3 _ _ (s2 _ _ hD)
  refine ⟨acc, hD4, by rw [sizeLine_eq]; omega, acc ++ [v], same_mut ((s.trans s2).trans s3) hp, upd_same, by rw [List.length_append, hl]; rfl, hC _ _ _ _ (nl_upd hD4) c'⟩
/-- with a test -/
theorem lc_midT {vs : List Nat} {te : TE} {tt : TT} {Q : VK} (h : wi σ H fun J H1 => J = J0 ∧ H1 = H0) (w : Walk J0 n G Y) (hn : n < 16777216) (C : Nat → List V → Hp → Prop) (hC : ∀ k acc Ha Hb, NL Ha Hb → C k acc Ha → C k acc Hb) (h0 : C 0 [] H0)
    (hG : ∀ H', Same H0 H' → G H') (hY : ∀ k H x H', Y k H x H' → Same H H') (hw : ∀ x, wipe ((wipe σ vs).set i (some x)) vs = wipe σ vs)
    (turn : ∀ k x acc H' H'', k < n → Same H0 H' → C k acc H' → Y k H' x H'' → tt ((wipe σ vs).set i (some x)) H'' fun b H3 => Same H'' H3 ∧ if b = true then te ((wipe σ vs).set i (some x)) H3 fun y H4 => Same H3 H4 ∧ C (k + 1) (acc ++ [y]) H4 else C (k + 1) acc H3)
    (done : ∀ p acc H', H0 p = none → Same H0 H' → H' p = some (.lst acc) → acc.length ≤ n → C n acc H' → Q (.ref p) H') : tLc (iMid wi) (gName i) (tMidT tt) (tMid te) vs σ H Q := by
  refine ⟨_, h, ?_⟩
  rintro J H1 ⟨rfl, rfl⟩ p hp
  refine lc_it w (fun k H' => ∃ acc, Same H1 H' ∧ H' p = some (.lst acc) ∧ acc.length ≤ k ∧ C k acc H') ⟨[], same_new hp, upd_same, Nat.le_refl _, hC _ _ _ _ (NL.of (same_new hp)) h0⟩ (fun k H' _ ⟨acc, s, _⟩ => hG H' s) ?_ fun H' ⟨acc, s, hD, hl, c⟩ => done p acc H' hp s hD hl c
  rintro k x H' H'' hk ⟨acc, s, hD, hl, c⟩ y
  have s2 := hY k H' x H'' y
  refine ⟨hw x, _, turn k x acc H' H'' hk s c y, ?_⟩
  rintro b H3 ⟨s3, z⟩
  have hD3 : H3 p = some (.lst acc) := s3 _ _ (s2 _ _ hD)
  cases b with
  | false =>
    have z' : C (k + 1) acc H3 := z
    exact ⟨acc, (s.trans s2).trans s3, hD3, by omega, z'⟩
  | true =>
    have z' : te ((wipe σ vs).set i (some x)) H3 fun y H4 => Same H3 H4 ∧ C (k + 1) (acc ++ [y]) H4 := z
    refine ⟨_, z', ?_⟩
    rintro v H4 ⟨s4, c'⟩
    have hD4 : H4 p = some (.lst acc) := s4 _ _ hD3
    refine ⟨acc, hD4, by rw [sizeLine_eq]; omega, acc ++ [v], same_mut (((s.trans s2).trans s3).trans s4) hp, upd_same, by rw [List.length_append]; show acc.length + 1 ≤ k + 1; omega, hC _ _ _ _ (nl_upd hD4) c'⟩
end
theorem y_at {xs : List V} {k : Nat} {H : Hp} {x : V} {H' : Hp} (y : YAt xs k H x H') : Same H H' := by
  rw [y.1]
  exact Same.refl H
theorem y_fn {f : Nat → V} {k : Nat} {H : Hp} {x : V} {H' : Hp} (y : YFn f k H x H') : Same H H' := by
  rw [y.1]
  exact Same.refl H
/-- an assignment by what is wanted of its value -/
theorem q_midG {i : Nat} {te : TE} {u : TS} {D : Ends} {σ : L2.St} {H : Hp} (C : V → Hp → Prop) (h : te σ H C) (k : ∀ v H1, C v H1 → u D (σ.set i (some v)) H1) : tSeq (tAsg (tMid te) (gName i)) u D σ H := ⟨C, h, k⟩
theorem mid_of {te : TE} {σ : L2.St} {H : Hp} {Q : VK} (C : VK) (h : te σ H C) (k : ∀ v H1, C v H1 → Q v H1) : tMid te σ H Q := ⟨C, h, k⟩
/-- an if by what is wanted of its test -/
theorem q_if {tt : TT} {a b u : TS} {D : Ends} {σ : L2.St} {H : Hp} (C : Bool → Hp → Prop) (h : tt σ H C) (t : ∀ H1, C true H1 → tSeq a u D σ H1) (f : ∀ H1, C false H1 → tSeq b u D σ H1) : tSeq (tIfS (tMidT tt) a b) u D σ H :=
  ⟨C, h, fun c H1 hc => by
    cases c with
    | true => exact t H1 hc
    | false => exact f H1 hc⟩
theorem l_if {tt : TT} {a b : TS} {D : Ends} {σ : L2.St} {H : Hp} (C : Bool → Hp → Prop) (h : tt σ H C) (t : ∀ H1, C true H1 → a D σ H1) (f : ∀ H1, C false H1 → b D σ H1) : tIfS (tMidT tt) a b D σ H :=
  ⟨C, h, fun c H1 hc => by
    cases c with
    | true => exact t H1 hc
    | false => exact f H1 hc⟩
theorem q_val {i : Nat} {te : TE} {u : TS} {D : Ends} {σ : L2.St} {H : Hp} (h : te σ H fun v H1 => u D (σ.set i (some v)) H1) : tSeq (tAsg te (gName i)) u D σ H := h
end SL
/-! the text by places -/
namespace TX
open PySem PySem.Spec PyProof.Rows L2
def topS (i : Nat) : Stmt := PySem.Challenge.pw_shunlist_k51_least.main.body.getD i (.Pass ⟨0, 0, 0, 0⟩)
abbrev s_reached : Stmt := (topS 1)
abbrev s_by_answers : Stmt := (topS 2)
abbrev s_parted : Stmt := (topS 3)
abbrev s_least : Stmt := (topS 4)
abbrev s__law_cell : Stmt := (topS 6)
abbrev s__law_mixed : Stmt := (topS 7)
abbrev s__law_table : Stmt := (topS 8)
abbrev s__law_side_by_side : Stmt := (topS 9)
abbrev s__law_unlike : Stmt := (topS 10)
abbrev s__law_met : Stmt := (topS 11)
abbrev s__law_chain : Stmt := (topS 12)
abbrev s_law : Stmt := (topS 13)
end TX
/-! ### sets of texts: made of a text or of a list of texts, counted, sorted -/
namespace SL
open PySem PySem.Spec PyProof.Rows L2
/-- the text of a set's entry -/
def txOf (e : Int × Value) : Str := match e.2 with
  | .str x _ => x
  | _ => Str.empty
def TxE (w : World) (e : Int × Value) : Prop := ∃ x tk, e.2 = Value.str x tk ∧ e.1 = hashStr w x
/-- the set at a holds just the texts l, each once, and can be walked -/
def TxSet (w : World) (h : Heap) (a : Addr) (l : List Str) : Prop :=
  ∃ o es ep t, h.get? a = some o ∧ o.ExactSet ∧ o.data = .set es ep t ∧ (∀ e ∈ es.toList, TxE w e) ∧ (es.toList.map txOf).Perm l ∧ l.Nodup ∧
    (es.size < scanBound ∧ t.fits es.size = true) ∧ (Ris t.place.toList ∧ (w.params.followText "set-order" = true ∨ t.led = true))
section
variable {P : Program} {w : World} {h h' : Heap} {a : Addr} {l : List Str}
theorem TxSet.at (R : TxSet w h a l) (k : ∀ o, h.get? a = some o → h'.get? a = some o) : TxSet w h' a l :=
  let ⟨o, es, ep, t, ho, r⟩ := R
  ⟨o, es, ep, t, k o ho, r⟩
theorem txE_elems {l : List (Int × Value)} (g : ∀ e ∈ l, TxE w e) : ElemsOf (strKind P w) l := by
  intro e he
  obtain ⟨x, tk, e1, e2⟩ := g e he
  refine ⟨⟨x, ?_, e2⟩, ?_⟩
  · rw [e1]
    show Value.isStrOf x (.str x tk) = true
    simp [Value.isStrOf]
  · rw [e1]
    rfl
theorem txE_is {e : Int × Value} (g : TxE w e) (x : Str) : (strKind P w).is x e.2 = true ↔ txOf e = x := by
  obtain ⟨y, tk, e1, _⟩ := g
  unfold txOf
  rw [e1]
  show Value.isStrOf x (.str y tk) = true ↔ y = x
  simp [Value.isStrOf]
theorem txE_mem {l : List (Int × Value)} (g : ∀ e ∈ l, TxE w e) (x : Str) : x ∈ l.map txOf ↔ ∃ e ∈ l, (strKind P w).is x e.2 = true := by
  rw [List.mem_map]
  exact ⟨fun ⟨e, he, q⟩ => ⟨e, he, (txE_is (g e he) x).2 q⟩, fun ⟨e, he, q⟩ => ⟨e, he, (txE_is (g e he) x).1 q⟩⟩
end
section
variable {P : Program} {w : World} {A : Around} {E : Value → Shared → Prop} {s : Shared} {a : Addr} {l : List Str}
theorem tx_tail {gv : Bool → Sem Unit} (hg : ∀ (b : Bool) (s₁ : Shared) (Q' : Unit → Shared → Prop), Q' () s₁ → wpAny (model P w) A (gv b) Q' E s₁)
    {o : Obj} {es : Array (Int × Value)} {ep : Nat} {t : SetTable} (ho : s.heap.get? a = some o) (hx : o.ExactSet) (hd : o.data = .set es ep t) {e1 : Array (Int × Value)} {t2 : SetTable} (g1 : ∀ e ∈ e1.toList, TxE w e)
    (p1 : (e1.toList.map txOf).Perm l) (nd : l.Nodup) (hb : e1.size < scanBound) (hf : t2.fits e1.size = true) (hr : Ris t2.place.toList) (hl : w.params.followText "set-order" = true ∨ t2.led = true) {dummy : Bool} {R : Option Bool → Shared → Prop}
    (hR : ∀ h', Heap.SameBut a s.heap h' → TxSet w h' a l → R (some true) { s with heap := h' }) :
    wpAny (model P w) A (do
        storeSet a e1 t2
        if (!dummy && t2.tooFull) = true then do
            gv (relayAll t2 e1 (SetTable.grown e1.size)).2.2
            storeSet a (relayAll t2 e1 (SetTable.grown e1.size)).1 (relayAll t2 e1 (SetTable.grown e1.size)).2.1
            pure (some true)
          else pure (some true)) R E s := by
  refine wpAny_bind (wpAny_storeSet_of ho hd ?_ (fits_of_scanBound hb))
  have o1 := store_at (es' := e1) (t' := t2) ho hd
  have b1 := Heap.SameBut.update s.heap a (Obj.putSet e1 t2)
  split
  · have pm := relayAll_perm t2 e1 (SetTable.grown e1.size)
    have f3 := relayAll_fits t2 e1 (SetTable.grown e1.size)
    have r3 := relayAll_ris t2 e1 (SetTable.grown e1.size)
    have l3 := relayAll_led t2 e1 (SetTable.grown e1.size)
    generalize relayAll t2 e1 (SetTable.grown e1.size) = Z at pm f3 r3 l3 ⊢
    obtain ⟨e2, t3, gave⟩ := Z
    dsimp only at pm f3 r3 l3 ⊢
    have sz : e2.size < scanBound := by
      have q := pm.length_eq
      rw [Array.length_toList, Array.length_toList] at q
      omega
    refine wpAny_bind (hg _ _ _ (wpAny_bind (wpAny_storeSet_of o1 rfl ?_ (fits_of_scanBound sz))))
    refine wpAny_pure (hR _ (b1.trans (Heap.SameBut.update _ a _)) ⟨_, e2, _, t3, store_at o1 rfl, hx, rfl, fun e he => g1 e (pm.mem_iff.mp he), (pm.map txOf).trans p1, nd, ⟨sz, f3⟩, r3, ?_⟩)
    rw [l3]
    exact hl
  · exact wpAny_pure (hR _ b1 ⟨_, e1, _, t2, o1, hx, rfl, g1, p1, nd, ⟨hb, hf⟩, hr, hl⟩)
/-- a text is added -/
theorem tx_add {x : Str} {tk : Tok} {Q : Bool → Shared → Prop} (R : TxSet w s.heap a l) (room : l.length + 1 < scanBound)
    (hQ : ∀ h', Heap.SameBut a s.heap h' → TxSet w h' a (if x ∈ l then l else x :: l) → Q (!decide (x ∈ l)) { s with heap := h' }) :
    wpAny (model P w) A (setAddHashed a (.str x tk) ((strKind P w).hash x)) Q E s := by
  obtain ⟨o, es, ep, t, ho, hx, hd, g, pm, nd, ⟨hb, hf⟩, hr, hl⟩ := R
  have key : (strKind P w).is x (.str x tk) = true := by
    show Value.isStrOf x (.str x tk) = true
    simp [Value.isStrOf]
  have sc : (Value.str x tk).scannable = true := rfl
  have el : ElemsOf (strKind P w) es.toList := txE_elems g
  unfold setAddHashed
  unfold setAddHashedIn
  refine wpAny_holding (wpAny_bind (wpAny_setState_of ho hd hf ?_))
  dsimp only
  rw [byScan_of sc hb el]
  simp only [if_true]
  unfold setAddByScan
  refine wpAny_bind (wpAny_bind (wpAny_rule (wpAny_bind (wpAny_setScan_of key ho hd hf el ?_))))
  cases fi : List.findIdx? (fun e => (strKind P w).is x e.2) es.toList with
  | some j =>
    dsimp only
    obtain ⟨hj, pj, _⟩ := List.findIdx?_eq_some_iff_getElem.mp fi
    have hm : x ∈ l := pm.mem_iff.mp ((txE_mem (P := P) g x).2 ⟨_, List.getElem_mem hj, pj⟩)
    have q := hQ s.heap (Heap.SameBut.refl a s.heap) (by
      rw [if_pos hm]
      exact ⟨o, es, ep, t, ho, hx, hd, g, pm, nd, ⟨hb, hf⟩, hr, hl⟩)
    rw [decide_eq_true hm] at q
    exact wpAny_pure (wpAny_pure q)
  | none =>
    dsimp only
    have hn : x ∉ l := fun z => by
      obtain ⟨e, he, q⟩ := (txE_mem (P := P) g x).1 (pm.mem_iff.mpr z)
      have c := List.findIdx?_eq_none_iff.mp fi e he
      rw [q] at c
      cases c
    have q0 : ∀ h', Heap.SameBut a s.heap h' → TxSet w h' a (x :: l) → Q true { s with heap := h' } := fun h' sb r => by
      have q := hQ h' sb (by rw [if_neg hn]; exact r)
      rw [decide_eq_false hn] at q
      exact q
    have tl : ∀ (b : Bool) {s₁ : Shared} {Q' : Unit → Shared → Prop}, Q' () s₁ → wpAny (model P w) A (match b with | true => rule "set.scan.the-table-gave-way" | false => pure ()) Q' E s₁ := by
      intro b s₁ Q' z
      cases b
      · exact wpAny_pure z
      · exact wpAny_rule z
    have p0 := layNew_perm t es ((strKind P w).hash x) (.str x tk)
    have f0 := layNew_fits t es ((strKind P w).hash x) (.str x tk)
    have r0 := layNew_ris t es ((strKind P w).hash x) (.str x tk) hr
    have l0 := layNew_led t es ((strKind P w).hash x) (.str x tk)
    generalize layNew t es ((strKind P w).hash x) (.str x tk) = Z at p0 f0 r0 l0 ⊢
    obtain ⟨e1, t1, dummy, gave⟩ := Z
    dsimp only at p0 f0 r0 l0 ⊢
    rw [Array.toList_push] at p0
    have pc : e1.toList.Perm (((strKind P w).hash x, Value.str x tk) :: es.toList) := p0.trans (List.perm_append_singleton _ _)
    have g1 : ∀ e ∈ e1.toList, TxE w e := by
      intro e he
      rcases List.mem_cons.mp (pc.mem_iff.mp he) with z | z
      · exact ⟨x, tk, by rw [z], by rw [z]; rfl⟩
      · exact g e z
    have pk : (e1.toList.map txOf).Perm (x :: l) := (pc.map txOf).trans (List.Perm.cons _ pm)
    have nd1 : (x :: l).Nodup := List.nodup_cons.mpr ⟨hn, nd⟩
    have sz : e1.size < scanBound := by
      have q := pk.length_eq
      rw [List.length_map, Array.length_toList, List.length_cons] at q
      omega
    have hl1 : w.params.followText "set-order" = true ∨ t1.led = true := by rw [l0]; exact hl
    refine wpAny_bind (tl _ ?_)
    split
    · refine wpAny_bind ?_
      rw [hashByValue_scannable 8 sc]
      refine wpAny_pure (tx_tail ?_ ho hx hd g1 pk nd1 sz ?_ ?_ ?_ fun h' sb r => ?_)
      · intro b s₁ Q' z
        exact tl b z
      · first | (split <;> first | exact f0 | exact SetTable.fits_plain_off f0) | exact f0
      · first | (split <;> exact r0) | exact r0
      · first | (split <;> exact hl1) | exact hl1
      · exact wpAny_pure (q0 h' sb r)
    · refine wpAny_bind (wpAny_pure ?_)
      simp only [if_true]
      exact tx_tail (fun b s₁ Q' z => tl b z) ho hx hd g1 pk nd1 sz f0 r0 hl1 fun h' sb r => wpAny_pure (q0 h' sb r)
/-- the distinct ones of texts -/
def dist (l : List Str) (x : Str) : List Str := if x ∈ l then l else x :: l
theorem dist_len (l : List Str) (x : Str) : (dist l x).length ≤ l.length + 1 := by
  unfold dist
  split <;> simp
theorem fold_len : ∀ (zs l : List Str), (zs.foldl dist l).length ≤ l.length + zs.length
  | [], l => by simp
  | x :: r, l => by
    have h1 := fold_len r (dist l x)
    have h2 := dist_len l x
    simp only [List.foldl_cons, List.length_cons]
    omega
theorem fold_mem : ∀ (zs l : List Str) (y : Str), y ∈ zs.foldl dist l ↔ y ∈ l ∨ y ∈ zs
  | [], l, y => by simp
  | x :: r, l, y => by
    rw [List.foldl_cons, fold_mem r (dist l x) y]
    unfold dist
    split
    · rename_i h
      constructor
      · rintro (h1 | h1)
        · exact .inl h1
        · exact .inr (List.mem_cons_of_mem _ h1)
      · rintro (h1 | h1)
        · exact .inl h1
        · rcases List.mem_cons.mp h1 with rfl | h1
          · exact .inl h
          · exact .inr h1
    · simp only [List.mem_cons]
      constructor
      · rintro ((h1 | h1) | h1) <;> simp [h1]
      · rintro (h1 | h1 | h1) <;> simp [h1]
theorem tx_loop {I : Addr} {fp wr : List Addr} {G : Array GenState → Array GenState → Prop} {n : Nat} {Pv : Nat → Value → Prop} {St : Nat → Shared → Prop} {R : Result → Shared → Prop}
    (W : WalksS P w A.in1 I fp wr G n Pv St) (S : Addr) (hSf : S ∉ fp) (zs : List Str) (hn : n = zs.length) (hb : zs.length + 1 < scanBound) (hv : ∀ i v, Pv i v → ∃ x t, zs[i]? = some x ∧ v = .str x t) :
    ∀ (k i : Nat) (s : Shared), n - i = k → i ≤ n → St i s → TxSet w s.heap S ((zs.take i).foldl dist []) →
      (∀ s', Moved (S :: wr) G s s' → TxSet w s'.heap S (zs.foldl dist []) → R (.ok (.ret .none)) s') → codeAny (model P w) A (.builtin "set.update.loop" ⟨[.ref S, .ref I], []⟩) R s := by
  have nw : S ∉ wr := fun z => hSf (W.sub _ z)
  have sub : ∀ b ∈ wr, b ∈ S :: wr := fun b z => List.mem_cons_of_mem _ z
  intro k
  induction k with
  | zero =>
    intro i s hk hi st hS hR
    refine codeAny_builtin PyProof.Rows.F.entry_set_update_loop ?_
    rw [Around.under_plainId PyProof.Rows.F.plain_set_update_loop]
    have hin : i = n := by omega
    subst hin
    show wpAny _ A.in1 (pyNext (.ref I) >>= fun _ => _) _ _ s
    refine wpAny_bind (W.done s _ _ st fun s' hm => wpAny_pure (hR s' (hm.mono sub) ?_))
    rw [List.take_of_length_le (by omega)] at hS
    exact hS.at fun o e => hm.heap S o nw e
  | succ k ih =>
    intro i s hk hi st hS hR
    have lt : i < n := by omega
    refine codeAny_builtin PyProof.Rows.F.entry_set_update_loop ?_
    rw [Around.under_plainId PyProof.Rows.F.plain_set_update_loop]
    show wpAny _ A.in1 (pyNext (.ref I) >>= fun _ => _) _ _ s
    refine wpAny_bind (W.item i s _ _ lt st fun v s' hP st' hm => ?_)
    obtain ⟨x, t, hz, rfl⟩ := hv i v hP
    have hS' : TxSet w s'.heap S ((zs.take i).foldl dist []) := hS.at fun o e => hm.heap S o nw e
    show wpAny _ A.in1 (holding [Value.str x t] (setAdd S (.str x t)) >>= fun _ => _) _ _ s'
    refine wpAny_bind (wpAny_holding ?_)
    unfold setAdd
    have hk2 : (strKind P w).is x (.str x t) = true := by
      show Value.isStrOf x (.str x t) = true
      simp [Value.isStrOf]
    refine wpAny_holding (wpAny_bind ((strKind P w).pyHash (k := x) hk2 ?_))
    have room : ((zs.take i).foldl dist []).length + 1 < scanBound := by
      have q := fold_len (zs.take i) []
      rw [List.length_take, List.length_nil] at q
      omega
    refine tx_add (s := { s' with toks := s'.toks + 1 }) hS' room fun h' sb r => ?_
    have r' : TxSet w h' S ((zs.take (i + 1)).foldl dist []) := by
      rw [List.take_add_one, hz, List.foldl_append]
      exact r
    refine wpAny_pure ⟨plainId_quiet PyProof.Rows.F.plain_set_update_loop _, ih (i + 1) _ (by omega) lt (W.frame _ s' _ _ st' (Nat.le_succ _) fun b z o e => ?_) r' fun s'' hm2 hS2 => ?_⟩
    · rw [sb.2 b fun q => hSf (q ▸ z)]
      exact e
    · refine hR s'' (Moved.trans W.gtrans ((hm.mono sub).then_heap (Nat.le_succ _) fun b o z e => ?_) hm2) hS2
      rw [sb.2 b fun q => z (by rw [q]; exact List.mem_cons_self)]
      exact e
end
end SL
namespace SL
open PySem PySem.Spec PyProof.Rows L2
/-- a value that gives the texts zs when it is walked: a text by its signs, a list of texts -/
structure Src (P : Program) (w : World) (h : Heap) (v : Value) (T : String) (zs : List Str) : Prop where
  ty : ∀ (s : Shared), (∀ b o, h.get? b = some o → s.heap.get? b = some o) → s.TypeIs v T
  s1 : isSubtype (.type T) (.type "set") = pure false
  s2 : isSubtype (.type T) (.type "frozenset") = pure false
  nd : (Value.type T == Value.type "dict") = false
  it : ∀ (A : Around) (Q : Value → Shared → Prop) (E : Value → Shared → Prop) (s : Shared), (∀ b o, h.get? b = some o → s.heap.get? b = some o) → h.objs.size ≤ s.heap.objs.size → A.handled = none →
    (∀ (o : Obj) (fp : List Addr) (St : Nat → Heap → Prop) (Pv : Nat → Value → Prop), (∀ A' : Around, A'.handled = none → Walks P w A' s.heap.objs.size fp [s.heap.objs.size] zs.length Pv St) → St 0 (s.heap.push o) →
      (∀ b ∈ fp, b = s.heap.objs.size ∨ b < h.objs.size) → (∀ i u, Pv i u → ∃ x t, zs[i]? = some x ∧ u = .str x t) → Q (.ref s.heap.objs.size) { s with heap := s.heap.push o }) → wpAny (model P w) A (pyIter v) Q E s
section
variable {P : Program} {w : World} {A : Around} {E : Value → Shared → Prop} {s : Shared}
theorem src_list {h : Heap} {l : Addr} {items : Array Value} {zs : List Str} (hl : h.IsList l items) (hi : PyProof.Rows.StrsAre items.toList zs) : Src P w h (.ref l) "list" zs := by
  obtain ⟨ol, hol, hcl, nl, hdl⟩ := id hl
  have hz : items.size = zs.length := by
    have q := PyProof.Rows.StrsAre.length hi
    rw [Array.length_toList] at q
    exact q
  refine ⟨fun s k => ⟨ol, k _ _ hol, hcl⟩, PySem.F.sub_list_set, PySem.F.sub_list_frozenset, by decide, fun A Q E s k le hh c => ?_⟩
  have hl' : s.heap.IsList l items := ⟨ol, k _ _ hol, hcl, nl, hdl⟩
  have lt : l < h.objs.size := Heap.lt_size hol
  have ne : l ≠ s.heap.objs.size := Nat.ne_of_lt (Nat.lt_of_lt_of_le lt le)
  refine wpAny_pyIter_list hl' (c _ [s.heap.objs.size, l] _ (fun i v => items[i]? = some v) (fun A' hA => by rw [← hz]; exact Walks.list hA _ l ne items) (show Heap.IsListIter _ _ _ _ ∧ Heap.IsList _ _ _ from ⟨⟨_, Heap.get?_push_size _ rfl, rfl, rfl⟩, hl'.push _⟩) (fun b hb => ?_) fun i u hu => ?_)
  · rcases List.mem_cons.mp hb with e | e
    · exact .inl e
    · exact .inr (by rw [List.mem_singleton.mp e]; exact lt)
  · have hi2 : i < zs.length := by rw [← hz]; exact (Array.getElem?_eq_some_iff.mp hu).1
    obtain ⟨t, e⟩ := SS.strs_at hi i u (by rw [Array.getElem?_toList]; exact hu)
    refine ⟨zs[i], t, List.getElem?_eq_getElem hi2, ?_⟩
    rw [e, List.getD_eq_getElem?_getD, List.getElem?_eq_getElem hi2]
    rfl
/-- an empty set object, as set() lays it -/
def set0 (w : World) : Obj := { cls := .type "set", dict := none, data := .set #[] 0 (.fresh 0 0 (!w.params.followText "set-order")) }
theorem tx_empty {h : Heap} {a : Addr} (ho : h.get? a = some (set0 w)) : TxSet w h a [] := by
  refine ⟨_, #[], 0, _, ho, ⟨rfl, rfl, rfl⟩, rfl, fun e he => (nomatch he), by simp, by simp, ⟨by decide, rfl⟩, List.Pairwise.nil, ?_⟩
  show _ ∨ (!w.params.followText "set-order") = true
  cases w.params.followText "set-order"
  · exact .inr rfl
  · exact .inl rfl
set_option maxHeartbeats 8000000 in
theorem call_set_tx {v : Value} {T : String} {zs : List Str} {Q : Value → Shared → Prop} (hh : A.handled = none) (Z : Src P w s.heap v T zs) (hb : zs.length + 1 < scanBound)
    (k : ∀ (h' : Heap) (tk : Nat), TxSet w h' s.heap.objs.size (zs.foldl dist []) → (∀ b o, s.heap.get? b = some o → h'.get? b = some o) → Q (.ref s.heap.objs.size) { s with heap := h', toks := tk }) :
    wpAny (model P w) A (call (.type "set") [v]) Q E s := by
  obtain ⟨c, tl, hmro⟩ := PySem.F.called_set.mro
  have hmade := PySem.F.called_set.made
  have hsub := PySem.F.called_set.sub
  refine wpAny_call (codeAny_of_tree ?_)
  show wpAny _ _ (callAny (.type "set") _) _ _ _
  refine wpAny_pure ⟨Code.quiet_builtin _ (by decide +kernel), codeAny_builtin PySem.F.entry_type_call ?_⟩
  rw [Around.under_plain (weight_type_call_type "set" [v] []) rfl]
  have h1 := PySem.F.called_set.notType
  have h2 := PySem.F.called_set.canCreate
  have hct := PySem.F.typeCall_set_1 v
  repeat (any_goals (first | assumption | wp_step))
  refine codeAny_mono (code_set_led1 v (E := E) (Q₁ := fun obj s₁ => obj = .ref s.heap.objs.size ∧ s₁ = { s with heap := s.heap.push (set0 w) }) ⟨rfl, rfl⟩) fun r s₁ hr => ?_
  cases r with
  | error e => exact hr
  | ok fl =>
    cases fl with
    | ret obj =>
      obtain ⟨rfl, rfl⟩ := hr
      have hS : (s.heap.push (set0 w)).get? s.heap.objs.size = some (set0 w) := Heap.get?_push_size _ rfl
      have hT : Shared.TypeIs { s with heap := s.heap.push (set0 w) } (.ref s.heap.objs.size) "set" := ⟨_, hS, rfl⟩
      have hli := PySem.F.called_set.init.lookup
      have hbi := PySem.F.called_set.init.bind (.ref s.heap.objs.size)
      repeat (any_goals (first | assumption | wp_step))
      refine codeAny_mono (codeAny_call_builtin (R := wants (fun r s₂ => r = .none ∧ ∃ h' tk, s₂ = { s with heap := h', toks := tk } ∧ TxSet w h' s.heap.objs.size (zs.foldl dist []) ∧
          (∀ b o, s.heap.get? b = some o → h'.get? b = some o)) E) PySem.F.called_set.init.plain PySem.F.entry_set_init (check_set_init_1 hT ?_)) fun r₂ s₂ hr₂ => ?_
      · have kp : ∀ b o, s.heap.get? b = some o → (s.heap.push (set0 w)).get? b = some o := fun b o e => Heap.get?_push_of_some _ e
        have tv := Z.ty { s with heap := s.heap.push (set0 w) } kp
        have z1 := Z.s1
        have z2 := Z.s2
        have z3 := Z.nd
        unfold Builtin.«set.__init__» noKeywords
        unfold Builtin.Frozenset.updateFrom
        generalize hPI : pyIter = PI
        wp_walk
        subst hPI
        have hh2 : A.in1.in1.handled = none := by simp [hh]
        have hh3 : A.in1.in1.in1.handled = none := by simp [hh]
        have sz : (s.heap.push (set0 w)).objs.size = s.heap.objs.size + 1 := Heap.size_push ..
        refine Z.it _ _ _ _ kp (by rw [sz]; exact Nat.le_succ _) hh2 fun o fp St Pv W st hf hv => ?_
        have nS : s.heap.objs.size ∉ fp := fun z => by
          rcases hf _ z with e | e
          · rw [sz] at e
            exact absurd e (Nat.ne_of_lt (Nat.lt_succ_self _))
          · exact absurd e (Nat.lt_irrefl _)
        refine wpAny_bind (wpAny_runValue (tx_loop ((W _ hh3).toS) s.heap.objs.size nS zs rfl hb hv (zs.length - 0) 0 _ (by omega) (Nat.zero_le _) st ?_ fun s' hm hS' => ?_))
        · exact tx_empty (Heap.get?_push_of_some _ hS)
        · obtain ⟨h', g2, d', tk', os'⟩ := s'
          obtain rfl : g2 = s.gens := hm.gens
          obtain rfl : d' = s.drawn := hm.drawn
          obtain rfl : os' = s.os := hm.os
          refine wpAny_pure (wpAny_pure ⟨rfl, h', tk', rfl, hS', fun b u e => hm.heap b u (fun z => ?_) (Heap.get?_push_of_some _ (kp b u e))⟩)
          have lt := Heap.lt_size e
          rcases List.mem_cons.mp z with e2 | e2
          · exact absurd lt (by rw [e2]; exact Nat.lt_irrefl _)
          · rw [List.mem_singleton.mp e2] at lt
            rw [sz] at lt
            exact absurd lt (Nat.not_lt.mpr (Nat.le_succ _))
      · cases r₂ with
        | error e => exact hr₂
        | ok fl₂ =>
          cases fl₂ with
          | ret r =>
            obtain ⟨rfl, h', tk, rfl, hS', hk'⟩ := hr₂
            repeat (any_goals (first | assumption | wp_step))
            exact k _ _ hS' hk'
          | _ => exact hr₂.elim
    | _ => exact hr.elim
end
end SL
namespace SL
open PySem PySem.Spec PyProof.Rows L2
theorem fold_nd : ∀ (zs l : List Str), l.Nodup → (zs.foldl dist l).Nodup
  | [], l, h => h
  | x :: r, l, h => by
    refine fold_nd r _ ?_
    unfold dist
    split
    · exact h
    · rename_i n
      exact List.nodup_cons.mpr ⟨n, h⟩
/-- the set of texts at a -/
def SetS (w : World) (a : Addr) (l : List Str) : HO := .ext fun h => TxSet w h a l
def chars (z : Str) : List Str := z.cps.toList.map fun c => ⟨#[c]⟩
section
variable {X : Cx}
theorem setS_get {pins : List (Addr × Obj)} {σ : L2.St} {H : Hp} {s : Shared} {a : Addr} {l : List Str} (I : Inv X pins σ H s) (ha : H a = some (SetS X.w a l)) : TxSet X.w s.heap a l := (I.hok a _ ha).1
/-- what set(x) gives, x with the texts zs -/
def NewSet (w : World) (zs : List Str) (H : Hp) (Q : VK) : Prop := zs.length < 1000 ∧ ∀ a l, H a = none → l.Nodup → (∀ x, x ∈ l ↔ x ∈ zs) → Q (.ref a) (upd H a (SetS w a l))
def rSetU (K : PySem.W.Frag) (w : World) : List V → Hp → VK → Prop := fun xs H Q => match xs with
  | [.str z] => NewSet w (chars z) H Q
  | [.ref p] => ∃ zs : List Str, SqL K H p (zs.map V.str) ∧ NewSet w zs H Q
  | _ => False
/-- len of a set of texts -/
def rLenS (w : World) : List V → Hp → VK → Prop := fun xs H Q => match xs with
  | [.ref p] => ∃ l, H p = some (SetS w p l) ∧ Q (.int (l.length : Int)) H
  | _ => False
theorem len_setS {w : World} (hw : X.w = w := by rfl) : CallR X (.builtin "len") (rLenS w) := by
  subst hw
  intro pins s σ H xs us Q I r h
  match xs, h with
  | [.ref p], ⟨l, hp, q⟩ =>
    obtain ⟨u, rfl, hu⟩ := vals1 r
    obtain rfl : u = Value.ref p := hu
    obtain ⟨o, es, ep, t, ho, hx, hd, g, pm, nd, ⟨hb, hf⟩, _⟩ := setS_get I hp
    have hn : es.size = l.length := by
      have e := pm.length_eq
      rw [List.length_map, Array.length_toList] at e
      exact e
    refine call_len_set ho hx hd hf ?_ ?_
    · have e : scanBound < 2 ^ 63 := by decide
      omega
    · rw [hn]
      exact ⟨.int l.length, H, I.tok _, ⟨_, rfl⟩, q⟩
/-! ### sorted -/
theorem items_strs {z : Str} {acc : Array Value} (h : ItemsOf (SignAt z) acc z.cps.size) : PyProof.Rows.StrsAre acc.toList (chars z) := by
  have key : ∀ (l : List Value) (cs : List Nat), l.length = cs.length → (∀ (j : Nat) (v : Value), l[j]? = some v → ∃ (c : Nat) (u : Tok), cs[j]? = some c ∧ v = Value.str ⟨#[c]⟩ u) → PyProof.Rows.StrsAre l (cs.map fun c => ⟨#[c]⟩) := by
    intro l
    induction l with
    | nil =>
      intro cs hl _
      cases cs with
      | nil => exact .nil
      | cons c r => simp at hl
    | cons v r ih =>
      intro cs hl hv
      cases cs with
      | nil => simp at hl
      | cons c cs =>
        obtain ⟨c', u, e1, rfl⟩ := hv 0 v rfl
        have e2 : c = c' := by simpa using e1
        subst e2
        exact .cons _ u (ih cs (by simpa using hl) fun j v hj => by simpa using hv (j + 1) v (by simpa using hj))
  refine key acc.toList z.cps.toList (by rw [Array.length_toList, Array.length_toList]; exact h.1) fun j v hj => ?_
  obtain ⟨c, u, e1, e2⟩ := h.2 j v (by rw [← Array.getElem?_toList]; exact hj)
  exact ⟨c, u, by rw [Array.getElem?_toList]; exact e1, e2⟩
/-- what sorted(x) gives, x with the texts zs -/
def NewSorted (zs : List Str) (H : Hp) (Q : VK) : Prop := zs.length < 64 ∧ ∀ ys p, ys.Perm zs → sortedS ys = true → H p = none → Q (.ref p) (upd H p (.lst (ys.map V.str)))
def rSortedU (K : PySem.W.Frag) (w : World) : List V → Hp → VK → Prop := fun xs H Q => match xs with
  | [.str z] => NewSorted (chars z) H Q
  | [.ref p] => (∃ l, H p = some (SetS w p l) ∧ NewSorted l H Q) ∨ (rSortedS K [.ref p] H Q ∨ rSortedI K [.ref p] H Q)
  | _ => False
end
end SL
namespace SL
open PySem PySem.Spec PyProof.Rows L2 SX HT
section
variable {prog : Program} {w : World} {A : Around} {E : Value → Shared → Prop} {s : Shared}
end
end SL
namespace SL
open PySem PySem.Spec PyProof.Rows L2 SX
theorem tyStr {K : PySem.W.Frag} {H : Hp} {z : Str} : tyV K "str" (.str z) H = True := propext ⟨fun _ => trivial, fun _ => rfl⟩
section
variable {X : Cx} {o e : Expr} {es : List Expr} {to : TE} {t : TA} {name : Str} {apos cpos : Pos} {T id : String} {r : V → List V → Hp → VK → Prop}
theorem pe_bmK {K : PySem.W.Frag} (pa : PlainAttrs T) (slot : Slot T name id) (hty : typeOf (.builtin id) = pure (.type "method_descriptor")) (hm : MtR X id r) (ho : PE X o to) (ha : PA X (e :: es) t)
    (hK : X.K = K := by rfl) (hbase : attributeBase o name X.env (eval o X.env) = eval o X.env := by rfl)
    (hfew : ((backTo cpos (starEach (e :: es) X.env)).all (fun x => !x.1) && (backToKw cpos (keywordEach [] X.env)).all (fun x => x.1.isSome)
      && decide ((e :: es).length + ([] : List Keyword).length + (if ([] : List Keyword).isEmpty then 0 else 1) < 30)) = true := by rfl)
    (hline : (apos.endLine == cpos.line) = true := by rfl) (hs : starEach (e :: es) X.env = (false, eval e X.env) :: starEach es X.env := by rfl) (hplain : (backTo cpos (starEach es X.env)).any (·.1) = false := by rfl) :
    PE X (.Call (.Attribute o name apos) (e :: es) [] cpos) (tBM K T r to t) := by
  subst hK
  exact pe_bm pa slot hty hm ho ha hbase hfew hline hs hplain
theorem MtR.imp {r r' : V → List V → Hp → VK → Prop} (h : MtR X id r) (i : ∀ x xs H Q, r' x xs H Q → r x xs H Q) : MtR X id r' := fun pins s σ H x xs v us Q I rx rs q => h pins s σ H x xs v us Q I rx rs (i _ _ _ _ q)
def rJoin (K : PySem.W.Frag) : V → List V → Hp → VK → Prop := fun x xs H Q => match x, xs with
  | .str a, [.ref p] => ∃ ys : List Str, (SqL K H p (ys.map V.str) ∨ SqT K H p (ys.map V.str)) ∧ (ys.map (·.length)).sum + ys.length * a.length ≤ 16777216 ∧ Q (.str (Txt.join a ys)) H
  | _, _ => False
def rCount : V → List V → Hp → VK → Prop := fun x xs H Q => match x, xs with
  | .str a, [.str b] => Q (.int (Txt.count a b)) H
  | _, _ => False
/-! ### len of anything -/
def rLenW (K : PySem.W.Frag) (w : World) : List V → Hp → VK → Prop := fun xs H Q => match xs with
  | [.str z] => z.length ≤ sizeLine ∧ Q (.int z.length) H
  | [.ref p] => (∃ l, H p = some (SetS w p l) ∧ Q (.int (l.length : Int)) H) ∨ ∃ n, LenV K (.ref p) H n ∧ Q (.int n) H
  | _ => False
theorem o_lenW {K : PySem.W.Frag} {w : World} (hK : X.K = K := by rfl) (hw : X.w = w := by rfl) : CallR X (.builtin "len") (rLenW K w) := by
  subst hK hw
  refine CallR.imp (CallR.or len_setS o_len) fun xs H Q h => ?_
  match xs, h with
  | [.str z], ⟨h1, h2⟩ => exact .inr ⟨_, ⟨h1, rfl⟩, h2⟩
  | [.ref p], .inl h => exact .inl h
  | [.ref p], .inr h => exact .inr h
/-! ### list of a text, a list, a tuple -/
def rListU (K : PySem.W.Frag) : List V → Hp → VK → Prop := fun xs H Q => match xs with
  | [.str z] => z.length ≤ sizeLine ∧ ∀ p, H p = none → Q (.ref p) (upd H p (.lst ((chars z).map V.str)))
  | [.ref p] => ∃ ys, (SqL K H p ys ∨ SqT K H p ys) ∧ ∀ l, H l = none → Q (.ref l) (upd H l (.lst ys))
  | _ => False
theorem o_list {K : PySem.W.Frag} (hc : X.calm = true) (hK : X.K = K := by rfl) : CallR X (.type "list") (rListU K) := by
  subst hK
  intro pins s σ H xs us Q I r h
  match xs, h with
  | [.str z], ⟨hz, q⟩ =>
    obtain ⟨u, rfl, t, rfl⟩ := vals1 r
    refine call_list_str (hn := hz) (I.ok.hd hc) z t fun h' tk acc' c' k e it => ?_
    have sa := items_strs it
    have fr := I.hok.fresh (Nat.le_refl s.heap.objs.size)
    have hl : ((chars z).map V.str).length ≤ sizeLine := by
      unfold chars
      rw [List.length_map, List.length_map, Array.length_toList]
      exact hz
    exact ⟨.ref s.heap.objs.size, _, I.laid (t' := tk) k (Nat.le_refl _) (show ObjOk X.prog X.w _ h' _ (.lst ((chars z).map V.str)) from ⟨hl, acc'.toList, c', vals_of_strs sa, e⟩), rfl, q _ fr⟩
  | [.ref p], ⟨ys, h1, q⟩ => exact call_list_of pins s σ H [.ref p] us Q I r ⟨p, ys, rfl, h1, q⟩
/-! ### x[::-1] -/
def rRevU (K : PySem.W.Frag) : V → Hp → VK → Prop := fun x H Q => match x with
  | .str z => z.length ≤ sizeLine ∧ Q (.str (S z.cps.toList.reverse)) H
  | .ref a => (∃ xs, SqT K H a xs ∧ ∀ p, H p = none → Q (.ref p) (upd H p (.tup xs.reverse))) ∨ ∃ xs, SqL K H a xs ∧ ∀ p, H p = none → Q (.ref p) (upd H p (.lst xs.reverse))
  | _ => False
end
/-! ### texts by their signs -/
end SL
namespace SL
open PySem PySem.Spec PyProof.Rows L2 SX
/-! ### enumerate of a text or a list -/
def Ites (z : Str) : It := ⟨fun i _ => i < z.cps.size, fun i H v H' => ∃ T c, v = .ref T ∧ H T = none ∧ H' = upd H T (.tup [.int (i : Nat), .str ⟨#[c]⟩]) ∧ z.cps[i]? = some c, fun i _ => z.cps.size ≤ i⟩
def iEnumU (K : PySem.W.Frag) (ta : TA) : TI := fun σ H R => ta σ H fun vs H1 => match vs with
  | [.ref a] => (∃ xs, SqL K H1 a xs) ∧ R (Ite K a) H1
  | [.str z] => R (Ites z) H1
  | _ => False
/-! ### max, min, insert -/
section
variable {X : Cx}
def rMaxU (K : PySem.W.Frag) : List V → Hp → VK → Prop := fun xs H Q => match xs with
  | [.int i, .int j] => Q (.int (if j > i then j else i)) H
  | [.ref a] => rMax K [.ref a] H Q
  | _ => False
def rMinU (K : PySem.W.Frag) : List V → Hp → VK → Prop := fun xs H Q => match xs with
  | [.int i, .int j] => Q (.int (if j < i then j else i)) H
  | [.ref a] => rMin K [.ref a] H Q
  | _ => False
theorem o_min {K : PySem.W.Frag} (hc : X.calm = true) (hK : X.K = K := by rfl) : CallR X (.builtin "min") (rMinU K) := by
  subst hK
  refine CallR.imp (CallR.or (call_min2 hc) (cr_min hc)) fun xs H Q h => ?_
  match xs, h with
  | [.int i, .int j], q => exact .inl ⟨i, j, rfl, q⟩
  | [.ref a], q => exact .inr q
def rInsert : V → List V → Hp → VK → Prop := fun x vs H Q => match x, vs with
  | .ref l, [.int i, y] => ∃ xs, H l = some (.lst xs) ∧ xs.length < sizeLine ∧ 0 ≤ i ∧ i < 2 ^ 63 ∧ Q .non (upd H l (.lst (xs.take i.toNat ++ [y] ++ xs.drop i.toNat)))
  | _, _ => False
end
end SL
namespace SL
open PySem PySem.Spec PyProof.Rows L2
/-! ### list(d.values()) -/
theorem paired_at {α β : Type} {R : α → β → Prop} : ∀ {xs : List α} {ys : List β}, Paired R xs ys → ∀ (j : Nat) (x : α) (y : β), xs[j]? = some x → ys[j]? = some y → R x y
  | _, _, .nil, _, _, _, h, _ => by simp at h
  | _, _, .cons h _, 0, _, _, e, f => by
    cases e
    cases f
    exact h
  | _, _, .cons _ t, j + 1, x, y, e, f => paired_at t j x y e f
def tListVals (te : TE) : TE := fun σ H Q => te σ H fun x H1 => ∃ d kvs, x = .ref d ∧ H1 d = some (.dK kvs) ∧ ∀ p, H1 p = none → Q (.ref p) (upd H1 p (.lst (kvs.map (·.2))))
theorem pe_listVals {X : Cx} {e : Expr} {te : TE} {p apos cpos pos : Pos} (hc : X.calm = true) (he : PE X e te) (hg : Gl X "list") (hm : X.mg "list" = none) (hv : bootBuiltins "list" = some (.type "list"))
    (hbase : attributeBase e "values" X.env (eval e X.env) = eval e X.env := by rfl) (hline : (apos.endLine == cpos.line) = true := by rfl)
    (hs : starEach [.Call (.Attribute e "values" apos) [] [] cpos] X.env = (false, eval (.Call (.Attribute e "values" apos) [] [] cpos) X.env) :: starEach [] X.env := by rfl) :
    PE X (.Call (.Name "list" p) [.Call (.Attribute e "values" apos) [] [] cpos] [] pos) (tListVals te) := by
  refine ⟨fun pins s σ H Q I hq => ?_⟩
  refine PySem.wpAny_Call_Name_kw (ld_blt I hg hm hv ?_)
  refine callWith_type1 ?_ hs rfl
  rw [hs]
  refine Calls.spliced_cons (wpAny_Call_method hbase rfl hline F.plainAttrs_dict F.slot_dict_values F.type_dict_values (thn (he.run pins s σ H _ I hq) fun u s1 x => ?_))
  obtain ⟨x, H1, I1, rx, d, kvs, rfl, hd, q⟩ := x
  obtain rfl : u = Value.ref d := rx
  obtain ⟨hz, hs0, vs, kv, hdo⟩ := I1.hok d _ hd
  obtain ⟨ep, hat⟩ := Heap.DictOf.dictAt hdo
  have lk := Paired.length kv
  have I2 := Inv.kept (t' := s1.toks) I1 fun b ob q => Heap.get?_push_of_some { cls := Value.type "dict_values", data := Data.fields #[Value.ref d] } q
  refine ⟨Heap.DictOf.typeIs hdo, Heap.MapOf.noDict (Heap.DictOf.mapOf hdo), ?_⟩
  refine method_meetsIn F.slot_dict_values F.entry_dict_values rfl (PySem.evalArgs_none ⟨rfl, Heap.DictOf.typeIs hdo, F.args_dict_values_1 (Value.ref d), _, meets_dict_values (mixKind X.prog X.w) d hs0, ⟨vs, hdo⟩, ?_⟩)
  refine Calls.spliced_nil (W.kdl_call W.kdl_values (I1.ok.hd hc) ⟨⟨{ cls := Value.type "dict_values", data := Data.fields #[Value.ref d] }, Heap.get?_push_size s1.heap rfl, rfl, rfl⟩, Heap.DictAt.push hat _⟩ (by rw [← lk]; exact hz) fun h' tk acc c hk hS hacc => ?_)
  refine ⟨.ref _, upd H1 _ (.lst (kvs.map (·.2))), Inv.laid I2 hk (Nat.le_refl _) ?_, rfl, q _ (HOk.fresh I2.hok (Nat.le_refl _))⟩
  refine ⟨by rw [List.length_map]; exact hz, acc.toList, c, vals_of_at ?_ ?_, by rw [Array.toArray_toList]; exact hS⟩
  · rw [List.length_map]
    exact lk.trans hacc.1.symm
  · intro j x w h1 h2
    obtain ⟨k, hk2⟩ := hacc.2 j w (by rw [← Array.getElem?_toList]; exact h2)
    rw [List.getElem?_map] at h1
    obtain ⟨p, hp, rfl⟩ := Option.map_eq_some_iff.mp h1
    exact (paired_at kv j p (k, w) hp hk2).2
/-! ### list.count, of what is plain -/
end SL
/-! ### sets of whole numbers: made of a list, counted -/
namespace SL.SI
open PySem PySem.Spec PyProof.Rows L2
/-- the text of a set's entry -/
def txOf (e : Int × Value) : Int := match e.2 with
  | .int x _ => x
  | _ => 0
def TxE (w : World) (e : Int × Value) : Prop := ∃ x tk, e.2 = Value.int x tk ∧ e.1 = hashInt x
/-- the set at a holds just the texts l, each once, and can be walked -/
def TxSet (w : World) (h : Heap) (a : Addr) (l : List Int) : Prop :=
  ∃ o es ep t, h.get? a = some o ∧ o.ExactSet ∧ o.data = .set es ep t ∧ (∀ e ∈ es.toList, TxE w e) ∧ (es.toList.map txOf).Perm l ∧ l.Nodup ∧
    (es.size < scanBound ∧ t.fits es.size = true) ∧ (Ris t.place.toList ∧ (w.params.followText "set-order" = true ∨ t.led = true))
section
variable {P : Program} {w : World} {h h' : Heap} {a : Addr} {l : List Int}
theorem TxSet.at (R : TxSet w h a l) (k : ∀ o, h.get? a = some o → h'.get? a = some o) : TxSet w h' a l :=
  let ⟨o, es, ep, t, ho, r⟩ := R
  ⟨o, es, ep, t, k o ho, r⟩
theorem txE_elems {l : List (Int × Value)} (g : ∀ e ∈ l, TxE w e) : ElemsOf (intKind P w) l := by
  intro e he
  obtain ⟨x, tk, e1, e2⟩ := g e he
  refine ⟨⟨x, ?_, e2⟩, ?_⟩
  · rw [e1]
    show Value.isInt x (.int x tk) = true
    simp [Value.isInt]
  · rw [e1]
    rfl
theorem txE_is {e : Int × Value} (g : TxE w e) (x : Int) : (intKind P w).is x e.2 = true ↔ txOf e = x := by
  obtain ⟨y, tk, e1, _⟩ := g
  unfold txOf
  rw [e1]
  show Value.isInt x (.int y tk) = true ↔ y = x
  simp [Value.isInt]
theorem txE_mem {l : List (Int × Value)} (g : ∀ e ∈ l, TxE w e) (x : Int) : x ∈ l.map txOf ↔ ∃ e ∈ l, (intKind P w).is x e.2 = true := by
  rw [List.mem_map]
  exact ⟨fun ⟨e, he, q⟩ => ⟨e, he, (txE_is (g e he) x).2 q⟩, fun ⟨e, he, q⟩ => ⟨e, he, (txE_is (g e he) x).1 q⟩⟩
end
section
variable {P : Program} {w : World} {A : Around} {E : Value → Shared → Prop} {s : Shared} {a : Addr} {l : List Int}
theorem tx_tail {gv : Bool → Sem Unit} (hg : ∀ (b : Bool) (s₁ : Shared) (Q' : Unit → Shared → Prop), Q' () s₁ → wpAny (model P w) A (gv b) Q' E s₁)
    {o : Obj} {es : Array (Int × Value)} {ep : Nat} {t : SetTable} (ho : s.heap.get? a = some o) (hx : o.ExactSet) (hd : o.data = .set es ep t) {e1 : Array (Int × Value)} {t2 : SetTable} (g1 : ∀ e ∈ e1.toList, TxE w e)
    (p1 : (e1.toList.map txOf).Perm l) (nd : l.Nodup) (hb : e1.size < scanBound) (hf : t2.fits e1.size = true) (hr : Ris t2.place.toList) (hl : w.params.followText "set-order" = true ∨ t2.led = true) {dummy : Bool} {R : Option Bool → Shared → Prop}
    (hR : ∀ h', Heap.SameBut a s.heap h' → TxSet w h' a l → R (some true) { s with heap := h' }) :
    wpAny (model P w) A (do
        storeSet a e1 t2
        if (!dummy && t2.tooFull) = true then do
            gv (relayAll t2 e1 (SetTable.grown e1.size)).2.2
            storeSet a (relayAll t2 e1 (SetTable.grown e1.size)).1 (relayAll t2 e1 (SetTable.grown e1.size)).2.1
            pure (some true)
          else pure (some true)) R E s := by
  refine wpAny_bind (wpAny_storeSet_of ho hd ?_ (fits_of_scanBound hb))
  have o1 := store_at (es' := e1) (t' := t2) ho hd
  have b1 := Heap.SameBut.update s.heap a (Obj.putSet e1 t2)
  split
  · have pm := relayAll_perm t2 e1 (SetTable.grown e1.size)
    have f3 := relayAll_fits t2 e1 (SetTable.grown e1.size)
    have r3 := relayAll_ris t2 e1 (SetTable.grown e1.size)
    have l3 := relayAll_led t2 e1 (SetTable.grown e1.size)
    generalize relayAll t2 e1 (SetTable.grown e1.size) = Z at pm f3 r3 l3 ⊢
    obtain ⟨e2, t3, gave⟩ := Z
    dsimp only at pm f3 r3 l3 ⊢
    have sz : e2.size < scanBound := by
      have q := pm.length_eq
      rw [Array.length_toList, Array.length_toList] at q
      omega
    refine wpAny_bind (hg _ _ _ (wpAny_bind (wpAny_storeSet_of o1 rfl ?_ (fits_of_scanBound sz))))
    refine wpAny_pure (hR _ (b1.trans (Heap.SameBut.update _ a _)) ⟨_, e2, _, t3, store_at o1 rfl, hx, rfl, fun e he => g1 e (pm.mem_iff.mp he), (pm.map txOf).trans p1, nd, ⟨sz, f3⟩, r3, ?_⟩)
    rw [l3]
    exact hl
  · exact wpAny_pure (hR _ b1 ⟨_, e1, _, t2, o1, hx, rfl, g1, p1, nd, ⟨hb, hf⟩, hr, hl⟩)
/-- a text is added -/
theorem tx_add {x : Int} {tk : Tok} {Q : Bool → Shared → Prop} (R : TxSet w s.heap a l) (room : l.length + 1 < scanBound)
    (hQ : ∀ h', Heap.SameBut a s.heap h' → TxSet w h' a (if x ∈ l then l else x :: l) → Q (!decide (x ∈ l)) { s with heap := h' }) :
    wpAny (model P w) A (setAddHashed a (.int x tk) ((intKind P w).hash x)) Q E s := by
  obtain ⟨o, es, ep, t, ho, hx, hd, g, pm, nd, ⟨hb, hf⟩, hr, hl⟩ := R
  have key : (intKind P w).is x (.int x tk) = true := by
    show Value.isInt x (.int x tk) = true
    simp [Value.isInt]
  have sc : (Value.int x tk).scannable = true := rfl
  have el : ElemsOf (intKind P w) es.toList := txE_elems g
  unfold setAddHashed
  unfold setAddHashedIn
  refine wpAny_holding (wpAny_bind (wpAny_setState_of ho hd hf ?_))
  dsimp only
  rw [byScan_of sc hb el]
  simp only [if_true]
  unfold setAddByScan
  refine wpAny_bind (wpAny_bind (wpAny_rule (wpAny_bind (wpAny_setScan_of key ho hd hf el ?_))))
  cases fi : List.findIdx? (fun e => (intKind P w).is x e.2) es.toList with
  | some j =>
    dsimp only
    obtain ⟨hj, pj, _⟩ := List.findIdx?_eq_some_iff_getElem.mp fi
    have hm : x ∈ l := pm.mem_iff.mp ((txE_mem (P := P) g x).2 ⟨_, List.getElem_mem hj, pj⟩)
    have q := hQ s.heap (Heap.SameBut.refl a s.heap) (by
      rw [if_pos hm]
      exact ⟨o, es, ep, t, ho, hx, hd, g, pm, nd, ⟨hb, hf⟩, hr, hl⟩)
    rw [decide_eq_true hm] at q
    exact wpAny_pure (wpAny_pure q)
  | none =>
    dsimp only
    have hn : x ∉ l := fun z => by
      obtain ⟨e, he, q⟩ := (txE_mem (P := P) g x).1 (pm.mem_iff.mpr z)
      have c := List.findIdx?_eq_none_iff.mp fi e he
      rw [q] at c
      cases c
    have q0 : ∀ h', Heap.SameBut a s.heap h' → TxSet w h' a (x :: l) → Q true { s with heap := h' } := fun h' sb r => by
      have q := hQ h' sb (by rw [if_neg hn]; exact r)
      rw [decide_eq_false hn] at q
      exact q
    have tl : ∀ (b : Bool) {s₁ : Shared} {Q' : Unit → Shared → Prop}, Q' () s₁ → wpAny (model P w) A (match b with | true => rule "set.scan.the-table-gave-way" | false => pure ()) Q' E s₁ := by
      intro b s₁ Q' z
      cases b
      · exact wpAny_pure z
      · exact wpAny_rule z
    have p0 := layNew_perm t es ((intKind P w).hash x) (.int x tk)
    have f0 := layNew_fits t es ((intKind P w).hash x) (.int x tk)
    have r0 := layNew_ris t es ((intKind P w).hash x) (.int x tk) hr
    have l0 := layNew_led t es ((intKind P w).hash x) (.int x tk)
    generalize layNew t es ((intKind P w).hash x) (.int x tk) = Z at p0 f0 r0 l0 ⊢
    obtain ⟨e1, t1, dummy, gave⟩ := Z
    dsimp only at p0 f0 r0 l0 ⊢
    rw [Array.toList_push] at p0
    have pc : e1.toList.Perm (((intKind P w).hash x, Value.int x tk) :: es.toList) := p0.trans (List.perm_append_singleton _ _)
    have g1 : ∀ e ∈ e1.toList, TxE w e := by
      intro e he
      rcases List.mem_cons.mp (pc.mem_iff.mp he) with z | z
      · exact ⟨x, tk, by rw [z], by rw [z]; rfl⟩
      · exact g e z
    have pk : (e1.toList.map txOf).Perm (x :: l) := (pc.map txOf).trans (List.Perm.cons _ pm)
    have nd1 : (x :: l).Nodup := List.nodup_cons.mpr ⟨hn, nd⟩
    have sz : e1.size < scanBound := by
      have q := pk.length_eq
      rw [List.length_map, Array.length_toList, List.length_cons] at q
      omega
    have hl1 : w.params.followText "set-order" = true ∨ t1.led = true := by rw [l0]; exact hl
    refine wpAny_bind (tl _ ?_)
    split
    · refine wpAny_bind ?_
      rw [hashByValue_scannable 8 sc]
      refine wpAny_pure (tx_tail ?_ ho hx hd g1 pk nd1 sz ?_ ?_ ?_ fun h' sb r => ?_)
      · intro b s₁ Q' z
        exact tl b z
      · first | (split <;> first | exact f0 | exact SetTable.fits_plain_off f0) | exact f0
      · first | (split <;> exact r0) | exact r0
      · first | (split <;> exact hl1) | exact hl1
      · exact wpAny_pure (q0 h' sb r)
    · refine wpAny_bind (wpAny_pure ?_)
      simp only [if_true]
      exact tx_tail (fun b s₁ Q' z => tl b z) ho hx hd g1 pk nd1 sz f0 r0 hl1 fun h' sb r => wpAny_pure (q0 h' sb r)
/-- the distinct ones of texts -/
def dist (l : List Int) (x : Int) : List Int := if x ∈ l then l else x :: l
theorem dist_len (l : List Int) (x : Int) : (dist l x).length ≤ l.length + 1 := by
  unfold dist
  split <;> simp
theorem fold_len : ∀ (zs l : List Int), (zs.foldl dist l).length ≤ l.length + zs.length
  | [], l => by simp
  | x :: r, l => by
    have h1 := fold_len r (dist l x)
    have h2 := dist_len l x
    simp only [List.foldl_cons, List.length_cons]
    omega
theorem fold_mem : ∀ (zs l : List Int) (y : Int), y ∈ zs.foldl dist l ↔ y ∈ l ∨ y ∈ zs
  | [], l, y => by simp
  | x :: r, l, y => by
    rw [List.foldl_cons, fold_mem r (dist l x) y]
    unfold dist
    split
    · rename_i h
      constructor
      · rintro (h1 | h1)
        · exact .inl h1
        · exact .inr (List.mem_cons_of_mem _ h1)
      · rintro (h1 | h1)
        · exact .inl h1
        · rcases List.mem_cons.mp h1 with rfl | h1
          · exact .inl h
          · exact .inr h1
    · simp only [List.mem_cons]
      constructor
      · rintro ((h1 | h1) | h1) <;> simp [h1]
      · rintro (h1 | h1 | h1) <;> simp [h1]
theorem tx_loop {I : Addr} {fp wr : List Addr} {G : Array GenState → Array GenState → Prop} {n : Nat} {Pv : Nat → Value → Prop} {St : Nat → Shared → Prop} {R : Result → Shared → Prop}
    (W : WalksS P w A.in1 I fp wr G n Pv St) (S : Addr) (hSf : S ∉ fp) (zs : List Int) (hn : n = zs.length) (hb : zs.length + 1 < scanBound) (hv : ∀ i v, Pv i v → ∃ x t, zs[i]? = some x ∧ v = .int x t) :
    ∀ (k i : Nat) (s : Shared), n - i = k → i ≤ n → St i s → TxSet w s.heap S ((zs.take i).foldl dist []) →
      (∀ s', Moved (S :: wr) G s s' → TxSet w s'.heap S (zs.foldl dist []) → R (.ok (.ret .none)) s') → codeAny (model P w) A (.builtin "set.update.loop" ⟨[.ref S, .ref I], []⟩) R s := by
  have nw : S ∉ wr := fun z => hSf (W.sub _ z)
  have sub : ∀ b ∈ wr, b ∈ S :: wr := fun b z => List.mem_cons_of_mem _ z
  intro k
  induction k with
  | zero =>
    intro i s hk hi st hS hR
    refine codeAny_builtin PyProof.Rows.F.entry_set_update_loop ?_
    rw [Around.under_plainId PyProof.Rows.F.plain_set_update_loop]
    have hin : i = n := by omega
    subst hin
    show wpAny _ A.in1 (pyNext (.ref I) >>= fun _ => _) _ _ s
    refine wpAny_bind (W.done s _ _ st fun s' hm => wpAny_pure (hR s' (hm.mono sub) ?_))
    rw [List.take_of_length_le (by omega)] at hS
    exact hS.at fun o e => hm.heap S o nw e
  | succ k ih =>
    intro i s hk hi st hS hR
    have lt : i < n := by omega
    refine codeAny_builtin PyProof.Rows.F.entry_set_update_loop ?_
    rw [Around.under_plainId PyProof.Rows.F.plain_set_update_loop]
    show wpAny _ A.in1 (pyNext (.ref I) >>= fun _ => _) _ _ s
    refine wpAny_bind (W.item i s _ _ lt st fun v s' hP st' hm => ?_)
    obtain ⟨x, t, hz, rfl⟩ := hv i v hP
    have hS' : TxSet w s'.heap S ((zs.take i).foldl dist []) := hS.at fun o e => hm.heap S o nw e
    show wpAny _ A.in1 (holding [Value.int x t] (setAdd S (.int x t)) >>= fun _ => _) _ _ s'
    refine wpAny_bind (wpAny_holding ?_)
    unfold setAdd
    have hk2 : (intKind P w).is x (.int x t) = true := by
      show Value.isInt x (.int x t) = true
      simp [Value.isInt]
    refine wpAny_holding (wpAny_bind ((intKind P w).pyHash (k := x) hk2 ?_))
    have room : ((zs.take i).foldl dist []).length + 1 < scanBound := by
      have q := fold_len (zs.take i) []
      rw [List.length_take, List.length_nil] at q
      omega
    refine tx_add (s := { s' with toks := s'.toks + 1 }) hS' room fun h' sb r => ?_
    have r' : TxSet w h' S ((zs.take (i + 1)).foldl dist []) := by
      rw [List.take_add_one, hz, List.foldl_append]
      exact r
    refine wpAny_pure ⟨plainId_quiet PyProof.Rows.F.plain_set_update_loop _, ih (i + 1) _ (by omega) lt (W.frame _ s' _ _ st' (Nat.le_succ _) fun b z o e => ?_) r' fun s'' hm2 hS2 => ?_⟩
    · rw [sb.2 b fun q => hSf (q ▸ z)]
      exact e
    · refine hR s'' (Moved.trans W.gtrans ((hm.mono sub).then_heap (Nat.le_succ _) fun b o z e => ?_) hm2) hS2
      rw [sb.2 b fun q => z (by rw [q]; exact List.mem_cons_self)]
      exact e
end
/-- values that are the whole numbers ns -/
def IntsAre (us : List Value) (ns : List Int) : Prop := us.length = ns.length ∧ ∀ (i : Nat) (u : Value), us[i]? = some u → ∃ x t, ns[i]? = some x ∧ u = .int x t
theorem IntsAre.length {us : List Value} {ns : List Int} (h : IntsAre us ns) : us.length = ns.length := h.1
theorem IntsAre.at' {us : List Value} {ns : List Int} (h : IntsAre us ns) (i : Nat) (u : Value) (e : us[i]? = some u) : ∃ x t, ns[i]? = some x ∧ u = .int x t := h.2 i u e
theorem intsAre_of : ∀ {ns : List Int} {us : List Value}, Vals (ns.map V.int) us → IntsAre us ns
  | [], _, .nil => ⟨rfl, fun i u h => by simp at h⟩
  | n :: ns, _, .cons (b := v) ⟨t, e⟩ r => by
    have ih := intsAre_of r
    refine ⟨by rw [List.length_cons, List.length_cons, ih.1], fun i u h => ?_⟩
    cases i with
    | zero =>
      have : v = u := by simpa using h
      exact ⟨n, t, rfl, this ▸ e⟩
    | succ i => exact ih.2 i u (by simpa using h)
/-- a value that gives the texts zs when it is walked: a text by its signs, a list of texts -/
structure Src (P : Program) (w : World) (h : Heap) (v : Value) (T : String) (zs : List Int) : Prop where
  ty : ∀ (s : Shared), (∀ b o, h.get? b = some o → s.heap.get? b = some o) → s.TypeIs v T
  s1 : isSubtype (.type T) (.type "set") = pure false
  s2 : isSubtype (.type T) (.type "frozenset") = pure false
  nd : (Value.type T == Value.type "dict") = false
  it : ∀ (A : Around) (Q : Value → Shared → Prop) (E : Value → Shared → Prop) (s : Shared), (∀ b o, h.get? b = some o → s.heap.get? b = some o) → h.objs.size ≤ s.heap.objs.size → A.handled = none →
    (∀ (o : Obj) (fp : List Addr) (St : Nat → Heap → Prop) (Pv : Nat → Value → Prop), (∀ A' : Around, A'.handled = none → Walks P w A' s.heap.objs.size fp [s.heap.objs.size] zs.length Pv St) → St 0 (s.heap.push o) →
      (∀ b ∈ fp, b = s.heap.objs.size ∨ b < h.objs.size) → (∀ i u, Pv i u → ∃ x t, zs[i]? = some x ∧ u = .int x t) → Q (.ref s.heap.objs.size) { s with heap := s.heap.push o }) → wpAny (model P w) A (pyIter v) Q E s
section
variable {P : Program} {w : World} {A : Around} {E : Value → Shared → Prop} {s : Shared}
theorem src_list {h : Heap} {l : Addr} {items : Array Value} {zs : List Int} (hl : h.IsList l items) (hi : IntsAre items.toList zs) : Src P w h (.ref l) "list" zs := by
  obtain ⟨ol, hol, hcl, nl, hdl⟩ := id hl
  have hz : items.size = zs.length := by
    have q := IntsAre.length hi
    rw [Array.length_toList] at q
    exact q
  refine ⟨fun s k => ⟨ol, k _ _ hol, hcl⟩, PySem.F.sub_list_set, PySem.F.sub_list_frozenset, by decide, fun A Q E s k le hh c => ?_⟩
  have hl' : s.heap.IsList l items := ⟨ol, k _ _ hol, hcl, nl, hdl⟩
  have lt : l < h.objs.size := Heap.lt_size hol
  have ne : l ≠ s.heap.objs.size := Nat.ne_of_lt (Nat.lt_of_lt_of_le lt le)
  refine wpAny_pyIter_list hl' (c _ [s.heap.objs.size, l] _ (fun i v => items[i]? = some v) (fun A' hA => by rw [← hz]; exact Walks.list hA _ l ne items) (show Heap.IsListIter _ _ _ _ ∧ Heap.IsList _ _ _ from ⟨⟨_, Heap.get?_push_size _ rfl, rfl, rfl⟩, hl'.push _⟩) (fun b hb => ?_) fun i u hu => ?_)
  · rcases List.mem_cons.mp hb with e | e
    · exact .inl e
    · exact .inr (by rw [List.mem_singleton.mp e]; exact lt)
  · have hi2 : i < zs.length := by rw [← hz]; exact (Array.getElem?_eq_some_iff.mp hu).1
    obtain ⟨x, t, e1, e2⟩ := IntsAre.at' hi i u (by rw [Array.getElem?_toList]; exact hu)
    exact ⟨x, t, e1, e2⟩
/-- an empty set object, as set() lays it -/
def set0 (w : World) : Obj := { cls := .type "set", dict := none, data := .set #[] 0 (.fresh 0 0 (!w.params.followText "set-order")) }
theorem tx_empty {h : Heap} {a : Addr} (ho : h.get? a = some (set0 w)) : TxSet w h a [] := by
  refine ⟨_, #[], 0, _, ho, ⟨rfl, rfl, rfl⟩, rfl, fun e he => (nomatch he), by simp, by simp, ⟨by decide, rfl⟩, List.Pairwise.nil, ?_⟩
  show _ ∨ (!w.params.followText "set-order") = true
  cases w.params.followText "set-order"
  · exact .inr rfl
  · exact .inl rfl
set_option maxHeartbeats 8000000 in
theorem call_set_tx {v : Value} {T : String} {zs : List Int} {Q : Value → Shared → Prop} (hh : A.handled = none) (Z : Src P w s.heap v T zs) (hb : zs.length + 1 < scanBound)
    (k : ∀ (h' : Heap) (tk : Nat), TxSet w h' s.heap.objs.size (zs.foldl dist []) → (∀ b o, s.heap.get? b = some o → h'.get? b = some o) → Q (.ref s.heap.objs.size) { s with heap := h', toks := tk }) :
    wpAny (model P w) A (call (.type "set") [v]) Q E s := by
  obtain ⟨c, tl, hmro⟩ := PySem.F.called_set.mro
  have hmade := PySem.F.called_set.made
  have hsub := PySem.F.called_set.sub
  refine wpAny_call (codeAny_of_tree ?_)
  show wpAny _ _ (callAny (.type "set") _) _ _ _
  refine wpAny_pure ⟨Code.quiet_builtin _ (by decide +kernel), codeAny_builtin PySem.F.entry_type_call ?_⟩
  rw [Around.under_plain (weight_type_call_type "set" [v] []) rfl]
  have h1 := PySem.F.called_set.notType
  have h2 := PySem.F.called_set.canCreate
  have hct := PySem.F.typeCall_set_1 v
  repeat (any_goals (first | assumption | wp_step))
  refine codeAny_mono (code_set_led1 v (E := E) (Q₁ := fun obj s₁ => obj = .ref s.heap.objs.size ∧ s₁ = { s with heap := s.heap.push (set0 w) }) ⟨rfl, rfl⟩) fun r s₁ hr => ?_
  cases r with
  | error e => exact hr
  | ok fl =>
    cases fl with
    | ret obj =>
      obtain ⟨rfl, rfl⟩ := hr
      have hS : (s.heap.push (set0 w)).get? s.heap.objs.size = some (set0 w) := Heap.get?_push_size _ rfl
      have hT : Shared.TypeIs { s with heap := s.heap.push (set0 w) } (.ref s.heap.objs.size) "set" := ⟨_, hS, rfl⟩
      have hli := PySem.F.called_set.init.lookup
      have hbi := PySem.F.called_set.init.bind (.ref s.heap.objs.size)
      repeat (any_goals (first | assumption | wp_step))
      refine codeAny_mono (codeAny_call_builtin (R := wants (fun r s₂ => r = .none ∧ ∃ h' tk, s₂ = { s with heap := h', toks := tk } ∧ TxSet w h' s.heap.objs.size (zs.foldl dist []) ∧
          (∀ b o, s.heap.get? b = some o → h'.get? b = some o)) E) PySem.F.called_set.init.plain PySem.F.entry_set_init (check_set_init_1 hT ?_)) fun r₂ s₂ hr₂ => ?_
      · have kp : ∀ b o, s.heap.get? b = some o → (s.heap.push (set0 w)).get? b = some o := fun b o e => Heap.get?_push_of_some _ e
        have tv := Z.ty { s with heap := s.heap.push (set0 w) } kp
        have z1 := Z.s1
        have z2 := Z.s2
        have z3 := Z.nd
        unfold Builtin.«set.__init__» noKeywords
        unfold Builtin.Frozenset.updateFrom
        generalize hPI : pyIter = PI
        wp_walk
        subst hPI
        have hh2 : A.in1.in1.handled = none := by simp [hh]
        have hh3 : A.in1.in1.in1.handled = none := by simp [hh]
        have sz : (s.heap.push (set0 w)).objs.size = s.heap.objs.size + 1 := Heap.size_push ..
        refine Z.it _ _ _ _ kp (by rw [sz]; exact Nat.le_succ _) hh2 fun o fp St Pv W st hf hv => ?_
        have nS : s.heap.objs.size ∉ fp := fun z => by
          rcases hf _ z with e | e
          · rw [sz] at e
            exact absurd e (Nat.ne_of_lt (Nat.lt_succ_self _))
          · exact absurd e (Nat.lt_irrefl _)
        refine wpAny_bind (wpAny_runValue (tx_loop ((W _ hh3).toS) s.heap.objs.size nS zs rfl hb hv (zs.length - 0) 0 _ (by omega) (Nat.zero_le _) st ?_ fun s' hm hS' => ?_))
        · exact tx_empty (Heap.get?_push_of_some _ hS)
        · obtain ⟨h', g2, d', tk', os'⟩ := s'
          obtain rfl : g2 = s.gens := hm.gens
          obtain rfl : d' = s.drawn := hm.drawn
          obtain rfl : os' = s.os := hm.os
          refine wpAny_pure (wpAny_pure ⟨rfl, h', tk', rfl, hS', fun b u e => hm.heap b u (fun z => ?_) (Heap.get?_push_of_some _ (kp b u e))⟩)
          have lt := Heap.lt_size e
          rcases List.mem_cons.mp z with e2 | e2
          · exact absurd lt (by rw [e2]; exact Nat.lt_irrefl _)
          · rw [List.mem_singleton.mp e2] at lt
            rw [sz] at lt
            exact absurd lt (Nat.not_lt.mpr (Nat.le_succ _))
      · cases r₂ with
        | error e => exact hr₂
        | ok fl₂ =>
          cases fl₂ with
          | ret r =>
            obtain ⟨rfl, h', tk, rfl, hS', hk'⟩ := hr₂
            repeat (any_goals (first | assumption | wp_step))
            exact k _ _ hS' hk'
          | _ => exact hr₂.elim
    | _ => exact hr.elim
end
theorem fold_nd : ∀ (zs l : List Int), l.Nodup → (zs.foldl dist l).Nodup
  | [], l, h => h
  | x :: r, l, h => by
    refine fold_nd r _ ?_
    unfold dist
    split
    · exact h
    · rename_i n
      exact List.nodup_cons.mpr ⟨n, h⟩
/-- the set of whole numbers at a -/
def SetI (w : World) (a : Addr) (l : List Int) : HO := .ext fun h => TxSet w h a l
section
variable {X : Cx}
theorem setI_new {w : World} {P : Program} {H : Hp} {h : Heap} {a : Addr} {l : List Int} (R : TxSet w h a l) : ObjOk P w H h a (SetI w a l) := by
  have ⟨o, _, _, _, ho, _⟩ := R
  exact ⟨R, ⟨o, ho⟩, fun h1 h2 p k => TxSet.at p k⟩
/-- set(xs), xs a list of whole numbers -/
def rSetI (K : PySem.W.Frag) (w : World) : List V → Hp → VK → Prop := fun xs H Q => match xs with
  | [.ref p] => ∃ ns : List Int, SqL K H p (ns.map V.int) ∧ ns.length < 4000 ∧ ∀ a l, H a = none → l.Nodup → (∀ x, x ∈ l ↔ x ∈ ns) → Q (.ref a) (upd H a (SetI w a l))
  | _ => False
theorem o_setI {K : PySem.W.Frag} {w : World} (hc : X.calm = true) (hK : X.K = K := by rfl) (hw : X.w = w := by rfl) : CallR X (.type "set") (rSetI K w) := by
  subst hK
  subst hw
  intro pins s σ H xs us Q I r h
  match xs, h with
  | [.ref p], ⟨ns, hs, hl, q⟩ =>
    obtain ⟨u, rfl, hu⟩ := vals1 r
    obtain rfl : u = Value.ref p := hu
    obtain ⟨its, rv, pl, _⟩ := I.list hs
    have sb : ns.length + 1 < scanBound := Nat.lt_of_lt_of_le (Nat.succ_lt_succ hl) (by decide)
    refine call_set_tx (I.ok.hd hc) (src_list pl.isList (by simpa using intsAre_of rv)) sb fun h' tk R k => ?_
    have fr := I.hok.fresh (Nat.le_refl s.heap.objs.size)
    exact ⟨.ref s.heap.objs.size, _, I.laid (t' := tk) k (Nat.le_refl _) (setI_new R), rfl, q _ _ fr (fold_nd ns [] .nil) fun x => by rw [fold_mem]; simp⟩
/-- len of such a set -/
def rLenI (w : World) : List V → Hp → VK → Prop := fun xs H Q => match xs with
  | [.ref p] => ∃ l, H p = some (SetI w p l) ∧ Q (.int (l.length : Int)) H
  | _ => False
theorem len_setI {w : World} (hw : X.w = w := by rfl) : CallR X (.builtin "len") (rLenI w) := by
  subst hw
  intro pins s σ H xs us Q I r h
  match xs, h with
  | [.ref p], ⟨l, hp, q⟩ =>
    obtain ⟨u, rfl, hu⟩ := vals1 r
    obtain rfl : u = Value.ref p := hu
    obtain ⟨o, es, ep, t, ho, hx, hd, g, pm, nd, ⟨hb, hf⟩, _⟩ := (show TxSet X.w s.heap p l from (I.hok p _ hp).1)
    have hn : es.size = l.length := by
      have e := pm.length_eq
      rw [List.length_map, Array.length_toList] at e
      exact e
    refine call_len_set ho hx hd hf ?_ ?_
    · have e : scanBound < 2 ^ 63 := by decide
      omega
    · rw [hn]
      exact ⟨.int l.length, H, I.tok _, ⟨_, rfl⟩, q⟩
end
end SL.SI
namespace SL
open PySem PySem.Spec PyProof.Rows L2 SX
theorem ifT {α : Sort _} {d : Decidable True} {a b : α} : @ite α True d a b = a := if_pos trivial
theorem ifF {α : Sort _} {d : Decidable False} {a b : α} : @ite α False d a b = b := if_neg id
/-- a statement by what is wanted behind it -/
def sMid (t : TS) : TS := fun D σ H => ∃ D' : Ends, t D' σ H ∧ (∀ σ H, D'.nx σ H → D.nx σ H) ∧ (∀ v H, D'.rt v H → D.rt v H) ∧ (∀ σ H, D'.bk σ H → D.bk σ H) ∧ ∀ σ H, D'.ct σ H → D.ct σ H
theorem ps_mid {X : Cx} {st : Stmt} {t : TS} (h : PS X st t) : PS X st (sMid t) := ⟨fun pins s σ H D I ⟨D', h1, n, r, b, c⟩ => thn (h.run pins s σ H D' I h1) fun f s' q => by
  cases f with
  | next => obtain ⟨σ', H', J, k⟩ := q; exact ⟨σ', H', J, n _ _ k⟩
  | brk => obtain ⟨σ', H', J, k⟩ := q; exact ⟨σ', H', J, b _ _ k⟩
  | cont => obtain ⟨σ', H', J, k⟩ := q; exact ⟨σ', H', J, c _ _ k⟩
  | ret u => obtain ⟨v, σ', H', J, e, k⟩ := q; exact ⟨v, σ', H', J, e, r _ _ k⟩⟩
/-- a statement, then the rest: Pm stands between -/
theorem q_stm {t u : TS} {D : Ends} {σ : L2.St} {H : Hp} (Pm : L2.St → Hp → Prop) (h : t { D with nx := Pm } σ H) (k : ∀ σ H, Pm σ H → u D σ H) : tSeq (sMid t) u D σ H :=
  ⟨{ D with nx := Pm }, h, k, fun _ _ q => q, fun _ _ q => q, fun _ _ q => q⟩
/-! ### forms of parts, as the laws write them -/
inductive PF where
  | one (c : Nat)
  | any
  | among (l : List Nat) (o : Bool)
  | stars
deriving DecidableEq
def SIG : List Nat := (Str.ofString "-.0123456789_abcdefghijklmnopqrstuvwxyz").cps.toList
theorem sig_len : SIG.length = 39 := by decide +kernel
def PF.d : PF → PyData
  | .one c => .tuple [.str "one", .str (S [c])]
  | .any => .tuple [.str "any"]
  | .among l o => .tuple [.str "among", .str (S l), .bool o]
  | .stars => .tuple [.str "stars"]
/-- a set of signs, rising -/
structure SigSet (l : List Nat) : Prop where
  ne : l ≠ []
  up : l.Pairwise (· < ·)
  sg : ∀ c ∈ l, c ∈ SIG
def PF.Ok : PF → Prop
  | .one c => c ∈ SIG
  | .among l _ => SigSet l ∧ l.length ≤ 12
  | _ => True
def PF.fits (f : PF) (c : Nat) : Bool := match f with
  | .one d => decide (c = d)
  | .among l o => (decide (c ∈ l)) != o
  | _ => true
def PF.many : PF → Bool
  | .stars => true
  | _ => false
/-- sets outside are of three signs at most -/
def PF.Low : PF → Prop
  | .among l true => l.length ≤ 3
  | _ => True
theorem manyOne {c : Nat} : (PF.one c).many = false := rfl
theorem manyAny : PF.any.many = false := rfl
theorem manyAmong {l : List Nat} {o : Bool} : (PF.among l o).many = false := rfl
theorem manyStars : PF.stars.many = true := rfl
theorem nd_up {l : List Nat} (h : l.Pairwise (· < ·)) : l.Nodup := h.imp fun h => Nat.ne_of_lt h
theorem nd_len {l : List Nat} (h : l.Nodup) (s : ∀ c ∈ l, c ∈ SIG) : l.length ≤ 39 := by
  have e := nat_nodup_len l SIG h s
  rw [sig_len] at e
  exact e
theorem SigSet.len {l : List Nat} (h : SigSet l) : l.length ≤ 39 := nd_len (nd_up h.up) h.sg
/-- data that may be compared, at most n deep -/
def DOk (n : Nat) (d : PyData) : Prop := d.canLay0 = true ∧ d.depth ≤ n
theorem DOk.up {n m : Nat} {d : PyData} (h : DOk n d) (e : n ≤ m) : DOk m d := ⟨h.1, Nat.le_trans h.2 e⟩
theorem dok_str {x : Str} {n : Nat} (h : PyData.strOk x = true) : DOk n (.str x) := ⟨by simp only [PyData.canLay0]; exact h, by simp only [PyData.depth]; omega⟩
theorem dok_bl {b : Bool} {n : Nat} : DOk n (.bool b) := ⟨by simp only [PyData.canLay0], by simp only [PyData.depth]; omega⟩
theorem dok_int {i : Int} {n : Nat} : DOk n (.int i) := ⟨by simp only [PyData.canLay0], by simp only [PyData.depth]; omega⟩
theorem dok_non {n : Nat} : DOk n .none := ⟨by simp only [PyData.canLay0], by simp only [PyData.depth]; omega⟩
theorem dok_all {n : Nat} : ∀ {ds : List PyData}, (∀ d ∈ ds, DOk n d) → PyData.canLayAll0 ds = true ∧ PyData.depthAll ds ≤ n
  | [], _ => ⟨by simp only [PyData.canLayAll0], by simp only [PyData.depthAll]; omega⟩
  | d :: r, h => by
    have h1 := h d List.mem_cons_self
    have h2 := dok_all (ds := r) fun e he => h e (List.mem_cons_of_mem _ he)
    refine ⟨by simp only [PyData.canLayAll0, h1.1, h2.1]; rfl, ?_⟩
    simp only [PyData.depthAll]
    have := h1.2
    have := h2.2
    omega
theorem dok_tup {n : Nat} {ds : List PyData} (h : ∀ d ∈ ds, DOk n d) : DOk (n + 1) (.tuple ds) := by
  have e := dok_all h
  exact ⟨by simp only [PyData.canLay0]; exact e.1, by simp only [PyData.depth]; omega⟩
theorem dok_lst {n : Nat} {ds : List PyData} (h : ∀ d ∈ ds, DOk n d) : DOk (n + 1) (.list ds) := by
  have e := dok_all h
  exact ⟨by simp only [PyData.canLay0]; exact e.1, by simp only [PyData.depth]; omega⟩
theorem DOk.shaped {n : Nat} {d : PyData} (h : DOk n d) (e : n ≤ 64) : SeqAt.shaped d = true := by
  show (d.canLay0 && decide (d.depth ≤ 64)) = true
  rw [Bool.and_eq_true]
  exact ⟨h.1, decide_eq_true (Nat.le_trans h.2 e)⟩
theorem DOk.eqv {n : Nat} {d : PyData} (h : DOk n d) : PyData.eqv d d = true := SeqAt.eqv_refl _ h.1
theorem all_nil {p : PyData → Prop} : ∀ d ∈ ([] : List PyData), p d := fun _ h => nomatch h
theorem all_cons {p : PyData → Prop} {x : PyData} {l : List PyData} (h : p x) (t : ∀ d ∈ l, p d) : ∀ d ∈ x :: l, p d := fun d h' => (List.mem_cons.mp h').elim (fun e => e ▸ h) (t d)
/-! ### signs put in order -/
theorem lkSign {a : V} : List.lookup (Str.ofString "sign") [(Str.ofString "sign", a)] = some a := rfl
theorem lkSigns {a b : V} : List.lookup (Str.ofString "signs") [(Str.ofString "signs", a), (Str.ofString "outside", b)] = some a := rfl
theorem lkParts {a : V} : List.lookup (Str.ofString "parts") [(Str.ofString "parts", a)] = some a := rfl
theorem lkOut {a b : V} : List.lookup (Str.ofString "outside") [(Str.ofString "signs", a), (Str.ofString "outside", b)] = some b := rfl
theorem pfNil {f : Str} {y : V} : putF f y [] = [(f, y)] := rfl
theorem pfOut {a y : V} : putF (Str.ofString "outside") y [(Str.ofString "signs", a)] = [(Str.ofString "signs", a), (Str.ofString "outside", y)] := rfl
theorem lkSteps {a b c : V} : List.lookup (Str.ofString "steps") [(Str.ofString "steps", a), (Str.ofString "spares", b), (Str.ofString "folders", c)] = some a := rfl
theorem lkSpares {a b c : V} : List.lookup (Str.ofString "spares") [(Str.ofString "steps", a), (Str.ofString "spares", b), (Str.ofString "folders", c)] = some b := rfl
theorem lkFolders {a b c : V} : List.lookup (Str.ofString "folders") [(Str.ofString "steps", a), (Str.ofString "spares", b), (Str.ofString "folders", c)] = some c := rfl
theorem pfSpares {a y : V} : putF (Str.ofString "spares") y [(Str.ofString "steps", a)] = [(Str.ofString "steps", a), (Str.ofString "spares", y)] := rfl
theorem pfFolders {a b y : V} : putF (Str.ofString "folders") y [(Str.ofString "steps", a), (Str.ofString "spares", b)] = [(Str.ofString "steps", a), (Str.ofString "spares", b), (Str.ofString "folders", y)] := rfl
theorem strEq {a b : String} : (Str.ofString a = Str.ofString b) = (a = b) := by
  refine propext ⟨fun h => ?_, fun h => by rw [h]⟩
  rw [Str.ofString_eq_toList, Str.ofString_eq_toList] at h
  have h1 : a.toList.map Char.toNat = b.toList.map Char.toNat := by
    have e := congrArg (fun x : Str => x.cps.toList) h
    exact e
  have h2 : a.toList = b.toList := by
    generalize a.toList = l at h1
    generalize b.toList = m at h1
    induction l generalizing m with
    | nil => cases m with
      | nil => rfl
      | cons d t => exact absurd h1 (by simp)
    | cons c r ih => cases m with
      | nil => exact absurd h1 (by simp)
      | cons d t =>
        rw [List.map_cons, List.map_cons] at h1
        injection h1 with h3 h4
        have e : c = d := Char.ext (UInt32.toNat_inj.mp h3)
        rw [e, ih t h4]
  exact String.toList_inj.mp h2
/-- lists of data, one of each -/
theorem dp_map {K : PySem.W.Frag} {H : Hp} {α : Type} (f : α → V) (d : α → PyData) (h : ∀ x, Dp K H (f x) (d x)) : ∀ l : List α, DpAll K H (l.map f) (l.map d)
  | [] => .nil
  | x :: r => .cons (h x) (dp_map f d h r)
/-! ### parts as objects -/
section
variable {K : PySem.W.Frag}
def PartO (K : PySem.W.Frag) (dx : Addr) : PF → HO
  | .one c => .ins (He.ga K "One") dx [("sign", .str (S [c]))]
  | .any => .ins (He.ga K "Any") dx []
  | .among l o => .ins (He.ga K "Among") dx [("signs", .str (S l)), ("outside", .bl o)]
  | .stars => .ins (He.ga K "Stars") dx []
def PartV (K : PySem.W.Frag) (f : PF) (v : V) (H : Hp) : Prop := ∃ p dx, v = .ref p ∧ H p = some (PartO K dx f)
theorem PartO.nl {dx : Addr} {f : PF} (l : List V) : PartO K dx f ≠ .lst l := by cases f <;> exact fun h => nomatch h
theorem PartV.nl {f : PF} {v : V} {H H' : Hp} (h : PartV K f v H) (e : NL H H') : PartV K f v H' := let ⟨p, dx, ev, hp⟩ := h; ⟨p, dx, ev, e _ _ hp PartO.nl⟩
theorem PartV.mono {f : PF} {v : V} {H H' : Hp} (h : PartV K f v H) (e : Same H H') : PartV K f v H' := h.nl (.of e)
end
theorem OkD.imp {P : Program} {w : World} {K : PySem.W.Frag} {mg : Str → Option Value} {base : Heap} {k : Nat} {f : Addr} {ps : List Str} {dvs : List V} {sp sp' : Sp} (h : OkD P w K mg base k f ps dvs sp) (i : ∀ vs H Q E, sp' vs H Q E → sp vs H Q E) : OkD P w K mg base k f ps dvs sp' := by
  obtain ⟨fd, ds, F, r⟩ := h
  exact ⟨fd, ds, F.imp i, r⟩
end SL
namespace SL
open PySem PySem.Spec PyProof.Rows L2 SX
/-! ### names along parts -/
/-- the parts laid along the name -/
def Fit : List PF → List Nat → Prop
  | [], w => w = []
  | f :: fs, w => if f.many = true then ∃ u v, w = u ++ v ∧ Fit fs v else ∃ c v, w = c :: v ∧ f.fits c = true ∧ Fit fs v
def starAt (fs : List PF) (j : Nat) : Bool := match fs[j]? with
  | some f => f.many
  | none => false
theorem starAt_lt {fs : List PF} {j : Nat} (h : starAt fs j = true) : j < fs.length := by
  unfold starAt at h
  rcases Nat.lt_or_ge j fs.length with e | e
  · exact e
  · rw [List.getElem?_eq_none e] at h
    cases h
/-- from s on by stars alone -/
def Clos (fs : List PF) (s i : Nat) : Prop := s ≤ i ∧ ∀ k, s ≤ k → k < i → starAt fs k = true
theorem Clos.refl {fs : List PF} {s : Nat} : Clos fs s s := ⟨Nat.le_refl _, fun k a b => absurd b (by omega)⟩
theorem Clos.trans {fs : List PF} {a b c : Nat} (h : Clos fs a b) (g : Clos fs b c) : Clos fs a c := ⟨Nat.le_trans h.1 g.1, fun k h1 h2 => by
  rcases Nat.lt_or_ge k b with e | e
  · exact h.2 k h1 e
  · exact g.2 k e h2⟩
theorem Clos.snoc {fs : List PF} {a b : Nat} (h : Clos fs a b) (g : starAt fs b = true) : Clos fs a (b + 1) := h.trans ⟨Nat.le_succ _, fun k h1 h2 => by
  have e : k = b := by omega
  rw [e]
  exact g⟩
theorem Clos.le {fs : List PF} {s i n : Nat} (h : Clos fs s i) (hs : s ≤ fs.length) : i ≤ fs.length := by
  rcases Nat.eq_or_lt_of_le h.1 with e | e
  · omega
  · have := starAt_lt (h.2 (i - 1) (by omega) (by omega))
    omega
/-! ### forms of steps, steps as objects -/
inductive SF where
  | deep
  | seg (fs : List PF)
deriving DecidableEq
def SF.d : SF → PyData
  | .deep => .tuple [.str "deep"]
  | .seg fs => .tuple [.str "segment", .tuple (fs.map PF.d)]
/-- no two stars next to one another -/
def NoTwo : List PF → Prop
  | f :: g :: r => ¬ (f.many = true ∧ g.many = true) ∧ NoTwo (g :: r)
  | _ => True
structure PartsOk (fs : List PF) : Prop where
  ne : fs ≠ []
  ok : ∀ f ∈ fs, f.Ok
  two : NoTwo fs
  len : fs.length ≤ 60
def SF.Ok : SF → Prop
  | .deep => True
  | .seg fs => PartsOk fs
def SF.deepB : SF → Bool
  | .deep => true
  | _ => false
def SF.fits : SF → List Nat → Prop
  | .deep, _ => True
  | .seg fs, w => Fit fs w
section
variable {K : PySem.W.Frag}
/-- us are the parts fs -/
def PartsV (K : PySem.W.Frag) (fs : List PF) (us : List V) (H : Hp) : Prop := us.length = fs.length ∧ ∀ (i : Nat) (f : PF), fs[i]? = some f → ∃ u, us[i]? = some u ∧ PartV K f u H
theorem PartsV.nl {fs : List PF} {us : List V} {H H' : Hp} (h : PartsV K fs us H) (e : NL H H') : PartsV K fs us H' := ⟨h.1, fun i f hf => let ⟨u, a, b⟩ := h.2 i f hf; ⟨u, a, b.nl e⟩⟩
theorem PartsV.mono {fs : List PF} {us : List V} {H H' : Hp} (h : PartsV K fs us H) (e : Same H H') : PartsV K fs us H' := h.nl (.of e)
theorem PartsV.nil {H : Hp} : PartsV K [] [] H := ⟨rfl, fun i f h => by simp at h⟩
theorem PartsV.snoc {fs : List PF} {us : List V} {H : Hp} {f : PF} {u : V} (h : PartsV K fs us H) (g : PartV K f u H) : PartsV K (fs ++ [f]) (us ++ [u]) H := by
  refine ⟨by rw [List.length_append, List.length_append, h.1]; rfl, fun i f' hf => ?_⟩
  rcases Nat.lt_trichotomy i fs.length with e | e | e
  · rw [List.getElem?_append_left e] at hf
    obtain ⟨w, a, b⟩ := h.2 i f' hf
    exact ⟨w, by rw [List.getElem?_append_left (by rw [h.1]; exact e)]; exact a, b⟩
  · subst e
    rw [List.getElem?_append_right (Nat.le_refl _), Nat.sub_self] at hf
    have ef : f = f' := Option.some.inj hf
    subst ef
    exact ⟨u, by rw [← h.1, List.getElem?_append_right (Nat.le_refl _), Nat.sub_self]; rfl, g⟩
  · rw [List.getElem?_eq_none (by rw [List.length_append]; exact e)] at hf
    cases hf
def StepV (K : PySem.W.Frag) (f : SF) (v : V) (H : Hp) : Prop := match f with
  | .deep => ∃ p dx, v = .ref p ∧ H p = some (.ins (He.ga K "Deep") dx [])
  | .seg fs => ∃ p dx t us, v = .ref p ∧ H p = some (.ins (He.ga K "Segment") dx [("parts", .ref t)]) ∧ H t = some (.tup us) ∧ PartsV K fs us H ∧ fs ≠ []
theorem StepV.nl {f : SF} {v : V} {H H' : Hp} (h : StepV K f v H) (e : NL H H') : StepV K f v H' := by
  cases f with
  | deep => obtain ⟨p, dx, a, b⟩ := h; exact ⟨p, dx, a, e _ _ b fun _ z => nomatch z⟩
  | seg fs => obtain ⟨p, dx, t, us, a, b, c, d, z⟩ := h; exact ⟨p, dx, t, us, a, e _ _ b fun _ z => (nomatch z), e _ _ c fun _ z => (nomatch z), d.nl e, z⟩
theorem StepV.mono {f : SF} {v : V} {H H' : Hp} (h : StepV K f v H) (e : Same H H') : StepV K f v H' := h.nl (.of e)
end
end SL
namespace SL
open PySem PySem.Spec PyProof.Rows L2 He
/-! ### the head's looks over a list of addresses that is known ahead -/
section
variable (as : List Addr) (fa : List Fa) (fn : List DefD) (ts : List Tab) (tf : List Defn) (ex : PySem.W.Frag → Bool)
def obsL (g : Addr → Option Obj) : AlX := (obsT fa fn ts (frT g as), ex (frT g as) && tabsB g tf (frT g as))
variable {as fa fn ts tf ex}
theorem saysL_of {w : World} {h : Heap} (e : obsL as fa fn ts tf ex h.get? = valX fn ts w) : SaysX fa fn ts tf ex w h (frT h.get? as) := by
  obtain ⟨m1, m2⟩ := ba (congrArg Prod.snd e)
  have tab : ∀ p ∈ tf, PySem.W.codeHdIn (frT h.get? as) (cT (frT h.get? as) p).1 (cT (frT h.get? as) p).2 = true ∧ ∃ o, h.get? (cT (frT h.get? as) p).2 = some o ∧ emptyTab o = true := by
    intro p hp
    obtain ⟨x, y⟩ := ba (List.all_eq_true.mp m2 p hp)
    cases q : h.get? (cT (frT h.get? as) p).2 with
    | some o => rw [q] at y; exact ⟨x, o, rfl, y⟩
    | none => rw [q] at y; cases y
  exact { t := congrArg Prod.fst e, more := m1, hd := fun p hp => (tab p hp).1, out := fun p hp => let ⟨_, _, q, z⟩ := tab p hp; frT_none q z, empty := fun p hp => let ⟨_, _, q, z⟩ := tab p hp; q.trans (congrArg some (emptyTab_eq z)) }
variable (as fa fn ts tf ex)
def hookL : PySem.W.Hook where
  α := AlX
  obs := fun s => obsL as fa fn ts tf ex s.heap.get?
  val := fun w => valX fn ts w
  says := fun w h => ∃ K : PySem.W.Frag, K.In h ∧ SaysX fa fn ts tf ex w h K
  of := fun _ _ e => ⟨_, frT_in, saysL_of e⟩
  keeps := (hookX 0 fa fn ts tf ex).keeps
variable {as fa fn ts tf ex}
theorem obsL_eq {g : Addr → Option Obj} {s : Shared} (h : ∀ a, g a = s.heap.get? a) : obsL as fa fn ts tf ex g = (hookL as fa fn ts tf ex).obs s := by
  rw [funext h]
  rfl
end
end SL

namespace HD
open PySem PySem.Spec PyProof.Rows L2
def asL : List Addr := List.range 1600
def fn : List He.DefD := [
  ⟨("reached", none), "reached", "reached", defArgs TX.s_reached, defBody TX.s_reached, defScope TX.s_reached, [], []⟩,
  ⟨("by_answers", none), "by_answers", "by_answers", defArgs TX.s_by_answers, defBody TX.s_by_answers, defScope TX.s_by_answers, [], []⟩,
  ⟨("parted", none), "parted", "parted", defArgs TX.s_parted, defBody TX.s_parted, defScope TX.s_parted, [], []⟩,
  ⟨("least", none), "least", "least", defArgs TX.s_least, defBody TX.s_least, defScope TX.s_least, [], []⟩,
  ⟨("_law_cell", none), "_law_cell", "_law_cell", defArgs TX.s__law_cell, defBody TX.s__law_cell, defScope TX.s__law_cell, [], []⟩,
  ⟨("_law_mixed", none), "_law_mixed", "_law_mixed", defArgs TX.s__law_mixed, defBody TX.s__law_mixed, defScope TX.s__law_mixed, [], []⟩,
  ⟨("_law_table", none), "_law_table", "_law_table", defArgs TX.s__law_table, defBody TX.s__law_table, defScope TX.s__law_table, [], []⟩,
  ⟨("_law_side_by_side", none), "_law_side_by_side", "_law_side_by_side", defArgs TX.s__law_side_by_side, defBody TX.s__law_side_by_side, defScope TX.s__law_side_by_side, [], []⟩,
  ⟨("_law_unlike", none), "_law_unlike", "_law_unlike", defArgs TX.s__law_unlike, defBody TX.s__law_unlike, defScope TX.s__law_unlike, [], []⟩,
  ⟨("_law_met", none), "_law_met", "_law_met", defArgs TX.s__law_met, defBody TX.s__law_met, defScope TX.s__law_met, [], []⟩,
  ⟨("_law_chain", none), "_law_chain", "_law_chain", defArgs TX.s__law_chain, defBody TX.s__law_chain, defScope TX.s__law_chain, [], []⟩,
  ⟨("law", none), "law", "law", defArgs TX.s_law, defBody TX.s_law, defScope TX.s_law, [], []⟩]
def fa : List He.Fa := [.glo "reached", .glo "by_answers", .glo "parted", .glo "least", .glo "_law_cell", .glo "_law_mixed", .glo "_law_table", .glo "_law_side_by_side", .glo "_law_unlike", .glo "_law_met", .glo "_law_chain", .glo "law", .free "len", .free "range", .free "set", .free "list", .free "tuple", .free "isinstance", .free "min"]
def mkn (K : PySem.W.Frag) (x : Str) : Bool := PySem.W.makesIn K (He.ga K x) && (He.eqO (PySem.W.findIn K (.ref (He.ga K x)) "__init__") (some (some (.builtin "object.__init__"))) && PySem.W.keepIn K (.ref (He.ga K x)))
def ex0 (K : PySem.W.Frag) : Bool := ([] : List Str).all (mkn K)
def ex (K : PySem.W.Frag) : Bool := ex0 K
theorem ex0_ok {K : PySem.W.Frag} (h : ex K = true) : ex0 K = true := h
theorem mkn_ok {K : PySem.W.Frag} {x : Str} (h : ex K = true) (m : x ∈ ([] : List Str)) : SL.MkN K (He.ga K x) := by
  have e := List.all_eq_true.mp (ex0_ok h) x m
  unfold mkn at e
  rw [Bool.and_eq_true, Bool.and_eq_true] at e
  exact ⟨e.1, He.eqO_ok e.2.1, e.2.2⟩
abbrev R : PySem.W.OpenRow := PySem.W.OpenLaw.row PySem.Challenge.rw_shunlist_k51_least
abbrev hk : PySem.W.Hook := SL.hookL asL fa fn [] [] ex
def ob (s : PySem.W.SharedT) : He.AlX := SL.obsL asL fa fn [] [] ex (HandSHeadRun.getT s)
theorem ob_eq (s : PySem.W.SharedT) : ob s = hk.obs s.abs := SL.obsL_eq (HandSHeadRun.getT_eq s)
def loose : List Str := (["reached", "by_answers", "parted", "least", "_law_cell", "_law_mixed", "_law_table", "_law_side_by_side", "_law_unlike", "_law_met", "_law_chain"] : List Str)
theorem run (w : World) : HandSHeadRun.RunEq R (PySem.W.view R.prog [13]) hk ob 4000 loose w := by
  intro os
  kernel_rfl
end HD
namespace SL
open PySem PySem.Spec PyProof.Rows L2
abbrev fA (K : PySem.W.Frag) (x : Str) : Addr := He.ga K x
abbrev mA (K : PySem.W.Frag) (C m : Str) : Addr := He.ma K (He.ga K C) m
structure Txt (K : PySem.W.Frag) (mg : Str → Option Value) : Prop where
  F_reached : ∃ fd, FunD K "reached" "reached" (defArgs TX.s_reached) (defBody TX.s_reached) (defScope TX.s_reached) [] [] (fA K "reached") fd
  F_by_answers : ∃ fd, FunD K "by_answers" "by_answers" (defArgs TX.s_by_answers) (defBody TX.s_by_answers) (defScope TX.s_by_answers) [] [] (fA K "by_answers") fd
  F_parted : ∃ fd, FunD K "parted" "parted" (defArgs TX.s_parted) (defBody TX.s_parted) (defScope TX.s_parted) [] [] (fA K "parted") fd
  F_least : ∃ fd, FunD K "least" "least" (defArgs TX.s_least) (defBody TX.s_least) (defScope TX.s_least) [] [] (fA K "least") fd
  F__law_cell : ∃ fd, FunD K "_law_cell" "_law_cell" (defArgs TX.s__law_cell) (defBody TX.s__law_cell) (defScope TX.s__law_cell) [] [] (fA K "_law_cell") fd
  F__law_mixed : ∃ fd, FunD K "_law_mixed" "_law_mixed" (defArgs TX.s__law_mixed) (defBody TX.s__law_mixed) (defScope TX.s__law_mixed) [] [] (fA K "_law_mixed") fd
  F__law_table : ∃ fd, FunD K "_law_table" "_law_table" (defArgs TX.s__law_table) (defBody TX.s__law_table) (defScope TX.s__law_table) [] [] (fA K "_law_table") fd
  F__law_side_by_side : ∃ fd, FunD K "_law_side_by_side" "_law_side_by_side" (defArgs TX.s__law_side_by_side) (defBody TX.s__law_side_by_side) (defScope TX.s__law_side_by_side) [] [] (fA K "_law_side_by_side") fd
  F__law_unlike : ∃ fd, FunD K "_law_unlike" "_law_unlike" (defArgs TX.s__law_unlike) (defBody TX.s__law_unlike) (defScope TX.s__law_unlike) [] [] (fA K "_law_unlike") fd
  F__law_met : ∃ fd, FunD K "_law_met" "_law_met" (defArgs TX.s__law_met) (defBody TX.s__law_met) (defScope TX.s__law_met) [] [] (fA K "_law_met") fd
  F__law_chain : ∃ fd, FunD K "_law_chain" "_law_chain" (defArgs TX.s__law_chain) (defBody TX.s__law_chain) (defScope TX.s__law_chain) [] [] (fA K "_law_chain") fd
  F_law : ∃ fd, FunD K "law" "law" (defArgs TX.s_law) (defBody TX.s_law) (defScope TX.s_law) [] [] (fA K "law") fd
  g_reached : mg "reached" = some (.ref (fA K "reached"))
  g_by_answers : mg "by_answers" = some (.ref (fA K "by_answers"))
  g_parted : mg "parted" = some (.ref (fA K "parted"))
  g_least : mg "least" = some (.ref (fA K "least"))
  g__law_cell : mg "_law_cell" = some (.ref (fA K "_law_cell"))
  g__law_mixed : mg "_law_mixed" = some (.ref (fA K "_law_mixed"))
  g__law_table : mg "_law_table" = some (.ref (fA K "_law_table"))
  g__law_side_by_side : mg "_law_side_by_side" = some (.ref (fA K "_law_side_by_side"))
  g__law_unlike : mg "_law_unlike" = some (.ref (fA K "_law_unlike"))
  g__law_met : mg "_law_met" = some (.ref (fA K "_law_met"))
  g__law_chain : mg "_law_chain" = some (.ref (fA K "_law_chain"))
  g_law : mg "law" = some (.ref (fA K "law"))
  fr_len : mg "len" = none
  fr_range : mg "range" = none
  fr_set : mg "set" = none
  fr_list : mg "list" = none
  fr_tuple : mg "tuple" = none
  fr_isinstance : mg "isinstance" = none
  fr_min : mg "min" = none
theorem Txt.obj {K : PySem.W.Frag} {mg : Str → Option Value} (T : Txt K mg) : True := trivial
end SL
namespace SL
open PySem PySem.Spec PyProof.Rows L2
abbrev N_reached : List Str := ["table", "seen", "line", "later", "stand", "other"]
theorem sc_reached : FnScope ["table", "seen", "line", "later", "stand", "other"] ["table"] (defScope TX.s_reached) := ⟨rfl, rfl, rfl, by decide +kernel, rfl, by decide +kernel, by decide +kernel⟩
abbrev N_by_answers : List Str := ["stands", "answers", "kinds", "found", "stand"]
theorem sc_by_answers : FnScope ["stands", "answers", "kinds", "found", "stand"] ["stands", "answers"] (defScope TX.s_by_answers) := ⟨rfl, rfl, rfl, by decide +kernel, rfl, by decide +kernel, by decide +kernel⟩
abbrev N_parted : List Str := ["table", "blocks", "numbers", "found", "stand", "block", "mark", "other"]
theorem sc_parted : FnScope ["table", "blocks", "numbers", "found", "stand", "block", "mark", "other"] ["table", "blocks"] (defScope TX.s_parted) := ⟨rfl, rfl, rfl, by decide +kernel, rfl, by decide +kernel, by decide +kernel⟩
abbrev N_least : List Str := ["table", "answers", "blocks", "many", "some", "stand", "block", "numbers", "line", "found", "row", "other"]
theorem sc_least : FnScope ["table", "answers", "blocks", "many", "some", "stand", "block", "numbers", "line", "found", "row", "other"] ["table", "answers"] (defScope TX.s_least) := ⟨rfl, rfl, rfl, by decide +kernel, rfl, by decide +kernel, by decide +kernel⟩
abbrev N__law_cell : List Str := ["_law_script", "_law_k", "_law_cell_here", "_law_mark", "_law_more"]
theorem sc__law_cell : FnScope ["_law_script", "_law_k", "_law_cell_here", "_law_mark", "_law_more"] ["_law_script", "_law_k"] (defScope TX.s__law_cell) := ⟨rfl, rfl, rfl, by decide +kernel, rfl, by decide +kernel, by decide +kernel⟩
abbrev N__law_mixed : List Str := ["_law_cell_here", "_law_k", "_law_mark"]
theorem sc__law_mixed : FnScope ["_law_cell_here", "_law_k", "_law_mark"] ["_law_cell_here", "_law_k"] (defScope TX.s__law_mixed) := ⟨rfl, rfl, rfl, by decide +kernel, rfl, by decide +kernel, by decide +kernel⟩
abbrev N__law_table : List Str := ["_law_script", "_law_many", "_law_wide", "_law_table_here", "_law_stand", "_law_cell_here", "_law_kinds", "_law_few", "_law_answers", "_law_k"]
theorem sc__law_table : FnScope ["_law_script", "_law_many", "_law_wide", "_law_table_here", "_law_stand", "_law_cell_here", "_law_kinds", "_law_few", "_law_answers", "_law_k"] ["_law_script"] (defScope TX.s__law_table) := ⟨rfl, rfl, rfl, by decide +kernel, rfl, by decide +kernel, by decide +kernel⟩
abbrev N__law_side_by_side : List Str := ["_law_table_here", "_law_answers", "_law_small", "_law_some", "_law_seen", "_law_at", "_law_one", "_law_other", "_law_k", "_law_pair"]
theorem sc__law_side_by_side : FnScope ["_law_table_here", "_law_answers", "_law_small", "_law_some", "_law_seen", "_law_at", "_law_one", "_law_other", "_law_k", "_law_pair"] ["_law_table_here", "_law_answers", "_law_small", "_law_some"] (defScope TX.s__law_side_by_side) := ⟨rfl, rfl, rfl, by decide +kernel, rfl, by decide +kernel, by decide +kernel⟩
abbrev N__law_unlike : List Str := ["_law_table_here", "_law_answers", "_law_many", "_law_apart", "_law_turn", "_law_one", "_law_other", "_law_k"]
theorem sc__law_unlike : FnScope ["_law_table_here", "_law_answers", "_law_many", "_law_apart", "_law_turn", "_law_one", "_law_other", "_law_k"] ["_law_table_here", "_law_answers"] (defScope TX.s__law_unlike) := ⟨rfl, rfl, rfl, by decide +kernel, rfl, by decide +kernel, by decide +kernel⟩
abbrev N__law_met : List Str := ["_law_table_here", "_law_seen", "_law_at", "_law_other"]
theorem sc__law_met : FnScope ["_law_table_here", "_law_seen", "_law_at", "_law_other"] ["_law_table_here"] (defScope TX.s__law_met) := ⟨rfl, rfl, rfl, by decide +kernel, rfl, by decide +kernel, by decide +kernel⟩
abbrev N__law_chain : List Str := ["_law_cell_here", "_law_many", "_law_wide", "_law_table_here", "_law_k"]
theorem sc__law_chain : FnScope ["_law_cell_here", "_law_many", "_law_wide", "_law_table_here", "_law_k"] ["_law_cell_here"] (defScope TX.s__law_chain) := ⟨rfl, rfl, rfl, by decide +kernel, rfl, by decide +kernel, by decide +kernel⟩
abbrev N_law : List Str := ["_law_script", "_law_chain_here", "_law_table_here", "_law_answers", "_law_kept", "_law_found", "_law_small", "_law_some", "_law_again", "_law_row"]
theorem sc_law : FnScope ["_law_script", "_law_chain_here", "_law_table_here", "_law_answers", "_law_kept", "_law_found", "_law_small", "_law_some", "_law_again", "_law_row"] ["_law_script"] (defScope TX.s_law) := ⟨rfl, rfl, rfl, by decide +kernel, rfl, by decide +kernel, by decide +kernel⟩
end SL
open PySem PySem.Spec PyProof.Rows L2 SL in
local macro_rules | `(tactic| walk_at "rd") => `(tactic| simp only [tVar, tC, tOp, tUn, tCall, tMeI, tMake, tMakN, tMakK, tMakKr, tCB, tCons, tNil, tTup, tLst, tTest, tB, tAnd, tOr, tNot, tAndV, tOrV, tNotV, tOrT, tAndT, tNotT, tIf, tIfS, tSeq, tAsg, gName, tRet, tRetN, tNext, tDrop, tBreak, tCont, tIsN, tNotN, tFld, sFld, tPart, tNoPart, tCKw, tSl,
  rI, rI0, rU, rAddU, rMulU, rEqU, rNeU, rCmp, rInU, rNotInU, rIxU, rSlU, rLenU, rLenW, rJoin, rCount, rListU, rRevU, rSetU, rSortedU, NewSet, NewSorted, tBM, tBM0, SL.tyStr, rTupU, rMaxU, rMinU, rInsert, rPop, rSetL, gSub, iEnumU, rIsiU, rAll, rAny, rIsBo, rNotBo, rIntU, rIadd, rIn, flatV, rAppend, tyV, tAug, rRep, rCat, sDPut, tDGet, tDIn, tDNotIn, tDNewK, tDisp, tPairs, tDGet1, tDGet2, rListD, rDClear, iZip, iU, iRng1, iRng2, iRevR, tRg1, wipe, SL.sameT, Int.zero_add, isRef, scal, Bool.or_true, Bool.true_or, Bool.or_false, Bool.false_or, Bool.or_self,
  L2.start, SL.cxK, SL.cxW, SL.cxP, SL.truBl, SL.truInt, SL.truNon, SL.truStr, SL.lenStr, List.map_cons, List.map_nil, List.length_cons, List.length_nil, List.replicate, List.reverse_cons, List.reverse_nil, List.nil_append, List.cons_append, List.append_nil, List.set_cons_zero, List.set_cons_succ, List.getElem?_cons_zero, List.getElem?_cons_succ, Nat.zero_add, Nat.reduceAdd, Nat.reduceSub, Nat.sub_self, Nat.add_sub_cancel,
  List.cons.injEq, V.int.injEq, V.str.injEq, V.bl.injEq, V.ref.injEq, Option.some.injEq, reduceCtorEq, exists_eq_left', exists_eq_left, exists_eq', exists_eq, exists_and_left, exists_and_right, and_true, true_and, false_and, and_false, false_or, or_false, decide_eq_true_eq, Bool.not_eq_true', decide_eq_false_iff_not, SL.ite_tt, SL.ite_ff, ne_eq, not_true_eq_false, not_false_eq_true, forall_eq, forall_eq', Bool.not_true, Bool.not_false, decide_true, decide_false, SL.le_sz, SL.lt_sz, SL.ifT, SL.ifF, SL.strEq, String.reduceEq, SL.manyOne, SL.manyAny, SL.manyAmong, SL.manyStars, Nat.reduceLeDiff, Nat.reduceLT, Int.reduceLT, Int.reduceLE])

local macro_rules | `(tactic| walk_at "sm") => `(tactic| (first | exact L2.Same.refl _ | assumption | (repeat (first | exact L2.Same.refl _ | assumption | refine L2.Same.trans ?_ (SL.same_new (by assumption))))))
open PySem PySem.Spec PyProof.Rows L2 SL in
local macro_rules | `(tactic| walk_at "rdh") => `(tactic| (simp only [tVar, tC, tOp, tUn, tCall, tMeI, tMake, tMakN, tMakK, tMakKr, tCB, tCons, tNil, tTup, tLst, tTest, tB, tAnd, tOr, tNot, tAndV, tOrV, tNotV, tOrT, tAndT, tNotT, tIf, tIfS, tSeq, tAsg, gName, tRet, tRetN, tNext, tDrop, tBreak, tCont, tIsN, tNotN, tFld, sFld, tPart, tNoPart, tCKw, tSl,
  rI, rI0, rU, rAddU, rMulU, rEqU, rNeU, rCmp, rInU, rNotInU, rIxU, rSlU, rLenU, rLenW, rJoin, rCount, rListU, rRevU, rSetU, rSortedU, NewSet, NewSorted, tBM, tBM0, SL.tyStr, rTupU, rMaxU, rMinU, rInsert, rPop, rSetL, gSub, iEnumU, rIsiU, rAll, rAny, rIsBo, rNotBo, rIntU, rIadd, rIn, flatV, rAppend, tyV, tAug, rRep, rCat, sDPut, tDGet, tDIn, tDNotIn, tDNewK, tDisp, tPairs, tDGet1, tDGet2, rListD, rDClear, iZip, iU, iRng1, iRng2, iRevR, tRg1, wipe, SL.sameT, Int.zero_add, isRef, scal, Bool.or_true, Bool.true_or, Bool.or_false, Bool.false_or, Bool.or_self,
  L2.start, SL.cxK, SL.cxW, SL.cxP, SL.truBl, SL.truInt, SL.truNon, SL.truStr, SL.lenStr, List.map_cons, List.map_nil, List.length_cons, List.length_nil, List.replicate, List.reverse_cons, List.reverse_nil, List.nil_append, List.cons_append, List.append_nil, List.set_cons_zero, List.set_cons_succ, List.getElem?_cons_zero, List.getElem?_cons_succ, Nat.zero_add, Nat.reduceAdd, Nat.reduceSub, Nat.sub_self, Nat.add_sub_cancel,
  List.cons.injEq, V.int.injEq, V.str.injEq, V.bl.injEq, V.ref.injEq, Option.some.injEq, reduceCtorEq, exists_eq_left', exists_eq_left, exists_eq', exists_eq, exists_and_left, exists_and_right, and_true, true_and, false_and, and_false, false_or, or_false, decide_eq_true_eq, Bool.not_eq_true', decide_eq_false_iff_not, SL.ite_tt, SL.ite_ff, ne_eq, not_true_eq_false, not_false_eq_true, forall_eq, forall_eq', Bool.not_true, Bool.not_false, decide_true, decide_false, SL.le_sz, SL.lt_sz, SL.ifT, SL.ifF, SL.strEq, String.reduceEq, SL.manyOne, SL.manyAny, SL.manyAmong, SL.manyStars, Nat.reduceLeDiff, Nat.reduceLT, Int.reduceLT, Int.reduceLE, SL.PartO, SL.lkSign, SL.lkSigns, SL.lkOut, SL.lkParts, SL.lkSteps, SL.lkSpares, SL.lkFolders, SL.pfNil, SL.pfOut, SL.pfSpares, SL.pfFolders, L2.upd_same, L2.upd_upd, HO.ins.injEq, and_assoc, *]))
local macro_rules | `(tactic| walk_at "rdx") => `(tactic| (walk_at "rd"; repeat (refine ⟨_, Or.inr (by assumption), _, rfl, ?_⟩; try walk_at "rd")))
namespace SL
open PySem PySem.Spec PyProof.Rows L2 SX
section
variable {P : Program} {w : World} {K : PySem.W.Frag} {mg : Str → Option Value} {base : Heap}

/-! ### is_sign, the drawn numbers -/
def spCell (K : PySem.W.Frag) : Sp := fun vs H Q _ => ∃ a k, ∃ ns : List Int, vs = [.ref a, .int k] ∧ SqL K H a (ns.map V.int) ∧ ns.length ≤ 63 ∧ 0 ≤ k ∧ k < 64 ∧ ∀ c, Q (.int c) H
theorem ok__law_cell (T : Txt K mg) : OkD P w K mg base 1 (fA K "_law_cell") ["_law_script", "_law_k"] [] (spCell K) := by
  refine okD T.F__law_cell sc__law_cell (fun _ _ _ _ _ _ us hl => match us, hl with | [_, _], _ => rfl) ?_ ?_
  · rintro vs H Q E ⟨a, k, ns, rfl, _⟩
    rfl
  · rintro cdv A outer s H vs Q E hr ⟨a, k, ns, rfl, hs, hn, h0, h1, q⟩
    refine ⟨_, (pss_cons (ps_set (i := 2) sc__law_cell.nd rfl (Or.inl rfl) (pe_mid pe_int))
  (pss_cons (ps_mid (ps_if (pt_mid (pt_cmpR o_gt (pe_callB (o_lenW (K := K) (w := w)) (by rfl) T.fr_len boot_len (pa_cons (pv 0) pa_nil)) pe_int (nomark _))) (pss_one (ps_set (i := 2) sc__law_cell.nd rfl (Or.inl rfl) (pe_mid (pe_ix (o_ix (K := K)) (pv 0) (pe_op op_mod (pv 1) (pe_callB (o_lenW (K := K) (w := w)) (by rfl) T.fr_len boot_len (pa_cons (pv 0) pa_nil))) (fun _ _ => rfl))))) pss_nil))
  (pss_cons (ps_set (i := 3) sc__law_cell.nd rfl (Or.inl rfl) (pe_mid (pe_op op_mod (pe_op o_mul (pe_op (o_add (K := K)) (pe_op op_mod (pv 2) pe_int) (pe_op o_mul pe_int (pe_op (o_add (K := K)) (pv 1) pe_int))) pe_int) pe_int)))
  (pss_cons (ps_set (i := 3) sc__law_cell.nd rfl (Or.inl rfl) (pe_mid (pe_op op_mod (pe_op o_mul (pe_op op_mod (pe_op o_mul (pv 3) (pv 3)) pe_int) pe_int) pe_int)))
  (pss_cons (ps_set (i := 4) sc__law_cell.nd rfl (Or.inl rfl) (pe_mid (pe_op op_mod (pe_op op_fdivW (pv 2) pe_int) (pe_op op_pow pe_int pe_int))))
  (pss_one (ps_ret (pe_op (o_add (K := K)) (pe_op o_mul (pe_op (o_add (K := K)) (pe_op o_mul (pv 4) pe_int) (pv 3)) pe_int) (pe_op op_mod (pe_op o_mul (pv 3) (pv 3)) pe_int))))))))), ?_⟩
    have hl : LenV K (V.ref a) H (ns.map V.int).length := .inl ⟨_, hs, rfl⟩
    refine q_mid (fun c => c = 0) ?_ fun n hn0 => ?_
    · walk_at "rd"
    subst hn0
    refine q_stm (fun σ H' => H' = H ∧ ∃ c : Int, σ = [some (.ref a), some (.int k), some (.int c), none, none]) ?_ ?_
    · refine l_if (fun b H' => H' = H ∧ b = decide (0 < ns.length)) ?_ (fun H1 h => ?_) (fun H1 h => ?_)
      · walk_at "rd"
        refine .inr ⟨_, hl, ?_⟩
        rw [List.length_map]
        exact decide_eq_decide.mpr (by omega)
      · obtain ⟨rfl, hb⟩ := h
        have h0' := of_decide_eq_true hb.symm
        walk_at "rd"
        refine mid_of (fun v H' => H' = H1 ∧ ∃ c : Int, v = .int c) ?_ (fun v H' h => h)
        have e0 : 0 ≤ k % (ns.length : Int) := Int.emod_nonneg _ (by omega)
        have e1 : k % (ns.length : Int) < ns.length := Int.emod_lt_of_pos _ (by omega)
        obtain ⟨j, hj⟩ : ∃ j : Nat, k % (ns.length : Int) = (j : Int) := ⟨(k % (ns.length : Int)).toNat, by omega⟩
        walk_at "rd"
        refine .inr ⟨_, hl, ?_⟩
        rw [List.length_map]
        refine ⟨by omega, _, .inl hs, V.int ns[j], ?_, _, rfl⟩
        rw [hj]
        refine atI_nat ?_
        rw [List.getElem?_map, List.getElem?_eq_getElem (by omega)]
        rfl
      · obtain ⟨rfl, hb⟩ := h
        exact ⟨rfl, _, rfl⟩
    rintro σ _ ⟨rfl, c, rfl⟩
    have b : ∀ (x : Int), 0 ≤ x % 2147483647 ∧ x % 2147483647 < 2147483647 := fun x => ⟨Int.emod_nonneg _ (by decide), Int.emod_lt_of_pos _ (by decide)⟩
    have b2 : ∀ (x : Int), 0 ≤ x % 2147483629 ∧ x % 2147483629 < 2147483629 := fun x => ⟨Int.emod_nonneg _ (by decide), Int.emod_lt_of_pos _ (by decide)⟩
    have sm : ∀ (x y : Int), 0 ≤ x → x < 2147483647 → CMul x y := fun x y h1 h2 => .inl ⟨by omega, by omega⟩
    have sm2 : ∀ (x y : Int), 0 ≤ y → y ≤ 2147483647 → CMul x y := fun x y h1 h2 => .inr ⟨by omega, by omega⟩
    refine q_mid (fun m => 0 ≤ m ∧ m < 2147483647) ?_ fun m hm => ?_
    · walk_at "rd"
      exact ⟨sm _ _ (by decide) (by decide), sm2 _ _ (by decide) (by decide), b _⟩
    refine q_mid (fun m => 0 ≤ m ∧ m < 2147483647) ?_ fun m2 hm2 => ?_
    · walk_at "rd"
      exact ⟨sm _ _ hm.1 hm.2, sm2 _ _ (by decide) (by decide), b _⟩
    refine q_mid (fun _ => True) ?_ fun hgh _ => ?_
    · walk_at "rd"
      exact ⟨⟨by decide, by decide⟩, ⟨by decide, by decide, by decide⟩, by decide⟩
    walk_at "rd"
    exact ⟨sm2 _ _ (by decide) (by decide), sm2 _ _ (by decide) (by decide), sm _ _ hm2.1 hm2.2, q _⟩
/-! ### lists of signs -/
theorem q_next {u : TS} {D : Ends} {σ : L2.St} {H : Hp} (h : u D σ H) : tSeq tNext u D σ H := h

/-! ### the parts -/
theorem OkD.mono {k j : Nat} {f : Addr} {ps : List Str} {dvs : List V} {sp : Sp} (h : OkD P w K mg base k f ps dvs sp) (e : k ≤ j) : OkD P w K mg base j f ps dvs sp := by
  obtain ⟨fd, ds, F, r⟩ := h
  exact ⟨fd, ds, F.mono e, r⟩
/-! ### what parts tell -/
section
variable {X : Cx}
end
/-! ### the parts made -/
/-! ### steps -/
theorem while_mid {c : TT} {tb : TS} {D : Ends} {σ : L2.St} {H : Hp} (W : Nat → L2.St → Hp → Prop) (m : Nat) (w0 : W m σ H)
    (turn : ∀ m σ H, W m σ H → ∃ C : Bool → Hp → Prop, c σ H C ∧ (∀ H1, C true H1 → tb { D with nx := fun σ' H' => ∃ m', m' < m ∧ W m' σ' H', ct := fun σ' H' => ∃ m', m' < m ∧ W m' σ' H', bk := D.nx } σ H1) ∧ ∀ H1, C false H1 → D.nx σ H1) :
    tWhile (tMidT c) tb D σ H := by
  refine ⟨W, ⟨m, w0⟩, fun m σ H w => ?_⟩
  obtain ⟨C, h1, h2, h3⟩ := turn m σ H w
  refine ⟨C, h1, fun b H1 hb => ?_⟩
  cases b with
  | true => exact ⟨_, fun _ _ h => h, h2 H1 hb⟩
  | false => exact h3 H1 hb
theorem q_new {i : Nat} {u : TS} {D : Ends} {σ : L2.St} {H : Hp} (h : ∀ p, H p = none → u D (σ.set i (some (.ref p))) (upd H p (.lst []))) : tSeq (tAsg (tLst tNil) (gName i)) u D σ H := by
  unfold tSeq tAsg tLst tNil gName
  exact ⟨Nat.zero_le _, fun p hp => h p hp⟩
theorem q_app {i : Nat} {te : TE} {u : TS} {D : Ends} {σ : L2.St} {H : Hp} {F : Addr} {xs : List V} (e : σ[i]? = some (some (.ref F))) (hl : H F = some (.lst xs))
    (h : te σ H fun y H1 => ∃ ys, H1 F = some (.lst ys) ∧ ys.length < sizeLine ∧ u D σ (upd H1 F (.lst (ys ++ [y])))) : tSeq (tDrop (tBM K "list" rAppend (tVar i) (tCons (tMid te) tNil))) u D σ H := by
  unfold tSeq tDrop tBM tVar tCons tNil
  exact ⟨_, e, .inl ⟨rfl, xs, .inl (.inl hl)⟩, _, h, fun y H1 ⟨ys, h1, h2, h3⟩ => ⟨F, ys, y, rfl, rfl, h1, h2, h3⟩⟩
theorem l_app {i : Nat} {te : TE} {D : Ends} {σ : L2.St} {H : Hp} {F : Addr} {xs : List V} (e : σ[i]? = some (some (.ref F))) (hl : H F = some (.lst xs))
    (h : te σ H fun y H1 => ∃ ys, H1 F = some (.lst ys) ∧ ys.length < sizeLine ∧ D.nx σ (upd H1 F (.lst (ys ++ [y])))) : tDrop (tBM K "list" rAppend (tVar i) (tCons (tMid te) tNil)) D σ H := by
  unfold tDrop tBM tVar tCons tNil
  exact ⟨_, e, .inl ⟨rfl, xs, .inl (.inl hl)⟩, _, h, fun y H1 ⟨ys, h1, h2, h3⟩ => ⟨F, ys, y, rfl, rfl, h1, h2, h3⟩⟩
theorem l_appV {i j : Nat} {D : Ends} {σ : L2.St} {H : Hp} {F : Addr} {xs : List V} {y : V} (e : σ[i]? = some (some (.ref F))) (e2 : σ[j]? = some (some y)) (hl : H F = some (.lst xs)) (hn : xs.length < 16777216)
    (h : D.nx σ (upd H F (.lst (xs ++ [y])))) : tDrop (tBM K "list" rAppend (tVar i) (tCons (tMid (tVar j)) tNil)) D σ H := l_app e hl ⟨y, e2, xs, hl, by rw [sizeLine_eq]; exact hn, h⟩
def intsV (l : List Nat) : List V := l.map fun (i : Nat) => V.int (i : Int)
theorem inV_ints {j : Nat} : ∀ {l : List Nat}, inV (.int j) (intsV l) = decide (j ∈ l)
  | [] => rfl
  | i :: r => by
    have ih := inV_ints (j := j) (l := r)
    have e : inV (.int j) (intsV (i :: r)) = (decide ((i : Int) = (j : Int)) || inV (.int j) (intsV r)) := rfl
    rw [e, ih, ← Bool.decide_or]
    refine decide_eq_decide.mpr ?_
    rw [List.mem_cons, Int.natCast_inj]
    exact ⟨fun h => h.imp Eq.symm id, fun h => h.imp Eq.symm id⟩
theorem flat_ints : ∀ (l : List Nat), (intsV l).all flatV = true
  | [] => rfl
  | _ :: r => flat_ints r
theorem l_midG {i : Nat} {te : TE} {D : Ends} {σ : L2.St} {H : Hp} (C : V → Hp → Prop) (h : te σ H C) (k : ∀ v H1, C v H1 → D.nx (σ.set i (some v)) H1) : tAsg (tMid te) (gName i) D σ H := ⟨C, h, k⟩
/-! ### segments -/
theorem PartsV.at' {fs : List PF} {us : List V} {H : Hp} {i : Nat} {x : V} (h : PartsV K fs us H) (e : us[i]? = some x) : ∃ f, fs[i]? = some f ∧ PartV K f x H := by
  have hl : i < us.length := (List.getElem?_eq_some_iff.mp e).1
  rw [h.1] at hl
  obtain ⟨u, e2, g⟩ := h.2 i fs[i] (List.getElem?_eq_getElem hl)
  rw [e2] at e
  cases e
  exact ⟨_, List.getElem?_eq_getElem hl, g⟩
/-! ### what steps tell -/
mutual
def tupB : PyData → Bool
  | .none => true
  | .bool _ => true
  | .int _ => true
  | .str _ => true
  | .tuple ds => tupBs ds
  | _ => false
def tupBs : List PyData → Bool
  | [] => true
  | d :: r => tupB d && tupBs r
end
theorem tupBs_map {α : Type} (d : α → PyData) (h : ∀ x, tupB (d x) = true) : ∀ l : List α, tupBs (l.map d) = true
  | [] => by simp only [List.map_nil, tupBs]
  | x :: r => by simp only [List.map_cons, tupBs, h x, tupBs_map d h r, Bool.and_self]
theorem PF.tup (f : PF) : tupB f.d = true := by cases f <;> simp [PF.d, tupB, tupBs]
theorem SF.tup (f : SF) : tupB f.d = true := by
  cases f with
  | deep => simp [SF.d, tupB, tupBs]
  | seg fs => simp [SF.d, tupB, tupBs, tupBs_map PF.d PF.tup fs]
/-- us are the things fs, one by one -/
def Each {α : Type} (R : α → V → Hp → Prop) (fs : List α) (us : List V) (H : Hp) : Prop := us.length = fs.length ∧ ∀ (i : Nat) (f : α), fs[i]? = some f → ∃ u, us[i]? = some u ∧ R f u H
section
variable {α : Type} {R : α → V → Hp → Prop} {fs : List α} {us : List V} {H H' : Hp}
theorem Each.imp {R' : α → V → Hp → Prop} (h : Each R fs us H) (i : ∀ f u, R f u H → R' f u H') : Each R' fs us H' := ⟨h.1, fun j f hf => let ⟨u, a, b⟩ := h.2 j f hf; ⟨u, a, i f u b⟩⟩
theorem Each.nil : Each R [] [] H := ⟨rfl, fun i f h => by simp at h⟩
theorem Each.snoc {f : α} {u : V} (h : Each R fs us H) (g : R f u H) : Each R (fs ++ [f]) (us ++ [u]) H := by
  refine ⟨by rw [List.length_append, List.length_append, h.1]; rfl, fun i f' hf => ?_⟩
  rcases Nat.lt_trichotomy i fs.length with e | e | e
  · rw [List.getElem?_append_left e] at hf
    obtain ⟨w, a, b⟩ := h.2 i f' hf
    exact ⟨w, by rw [List.getElem?_append_left (by rw [h.1]; exact e)]; exact a, b⟩
  · subst e
    rw [List.getElem?_append_right (Nat.le_refl _), Nat.sub_self] at hf
    have ef : f = f' := Option.some.inj hf
    subst ef
    exact ⟨u, by rw [← h.1, List.getElem?_append_right (Nat.le_refl _), Nat.sub_self]; rfl, g⟩
  · rw [List.getElem?_eq_none (by rw [List.length_append]; exact e)] at hf
    cases hf
theorem Each.at' {i : Nat} {x : V} (h : Each R fs us H) (e : us[i]? = some x) : ∃ f, fs[i]? = some f ∧ R f x H := by
  have hl : i < us.length := (List.getElem?_eq_some_iff.mp e).1
  rw [h.1] at hl
  obtain ⟨u, e2, g⟩ := h.2 i fs[i] (List.getElem?_eq_getElem hl)
  rw [e2] at e
  cases e
  exact ⟨_, List.getElem?_eq_getElem hl, g⟩
theorem each_dp {d : α → PyData} : ∀ {fs : List α} {us : List V}, Each (fun f u H => Dp K H u (d f)) fs us H → DpAll K H us (fs.map d)
  | [], [], _ => .nil
  | [], _ :: _, h => absurd h.1 (by simp)
  | f :: r, [], h => absurd h.1 (by simp)
  | f :: r, u :: us, h => by
    obtain ⟨u', e, g⟩ := h.2 0 f rfl
    cases e
    exact .cons g (each_dp ⟨by simpa using h.1, fun i f' hf => h.2 (i + 1) f' hf⟩)
end
/-! ### what steps tell -/
section
variable {X : Cx}
end
/-! ### spots -/
/-! ### a segment fits a name -/
section
variable {X : Cx}
end
/-! ### drawn segments -/
def spMixed : Sp := fun vs H Q _ => ∃ c k, vs = [.int c, .int k] ∧ ∀ m, 0 ≤ m → m < 2147483647 → Q (.int m) H
theorem ok__law_mixed (T : Txt K mg) : OkD P w K mg base 1 (fA K "_law_mixed") ["_law_cell_here", "_law_k"] [] spMixed := by
  refine okD T.F__law_mixed sc__law_mixed (fun _ _ _ _ _ _ us hl => match us, hl with | [_, _], _ => rfl) ?_ ?_
  · rintro vs H Q E ⟨c, k, rfl, _⟩
    rfl
  · rintro cdv A outer s H vs Q E hr ⟨c, k, rfl, q⟩
    refine ⟨_, (pss_cons (ps_set (i := 2) sc__law_mixed.nd rfl (Or.inl rfl) (pe_mid (pe_op op_mod (pe_op o_mul (pe_op (o_add (K := K)) (pe_op op_mod (pv 0) pe_int) (pe_op o_mul pe_int (pe_op (o_add (K := K)) (pv 1) pe_int))) pe_int) pe_int)))
  (pss_one (ps_ret (pe_op op_mod (pe_op o_mul (pe_op op_mod (pe_op o_mul (pv 2) (pv 2)) pe_int) pe_int) pe_int)))), ?_⟩
    have b : ∀ (x : Int), 0 ≤ x % 2147483647 ∧ x % 2147483647 < 2147483647 := fun x => ⟨Int.emod_nonneg _ (by decide), Int.emod_lt_of_pos _ (by decide)⟩
    have sm : ∀ (x y : Int), 0 ≤ x → x < 2147483647 → CMul x y := fun x y h1 h2 => .inl ⟨by omega, by omega⟩
    have sm2 : ∀ (x y : Int), 0 ≤ y → y ≤ 2147483647 → CMul x y := fun x y h1 h2 => .inr ⟨by omega, by omega⟩
    refine q_mid (fun m => 0 ≤ m ∧ m < 2147483647) ?_ fun m hm => ?_
    · walk_at "rd"
      exact ⟨sm _ _ (by decide) (by decide), sm2 _ _ (by decide) (by decide), b _⟩
    walk_at "rd"
    exact ⟨sm _ _ hm.1 hm.2, sm2 _ _ (by decide) (by decide), q _ (b _).1 (b _).2⟩
/-- the list acc of forms at F -/
def FormsL (K : PySem.W.Frag) (acc : List PF) (F : Addr) (H : Hp) : Prop := ∃ us, H F = some (.lst us) ∧ Each (fun f u H => Dp K H u (PF.d f)) acc us H
theorem FormsL.mono {acc : List PF} {F : Addr} {H H' : Hp} (h : FormsL K acc F H) (s : Same H H') : FormsL K acc F H' := let ⟨us, a, b⟩ := h; ⟨us, s _ _ a, b.imp fun f u d => dp_mono s _ _ d⟩
theorem FormsL.len {acc : List PF} {F : Addr} {H : Hp} {us : List V} (h : Each (fun f u H => Dp K H u (PF.d f)) acc us H) : us = [] ↔ acc = [] := by rw [← List.length_eq_zero_iff, ← List.length_eq_zero_iff, h.1]
/-! ### stars twice, rows and segments made -/
theorem ne_dat {n : Nat} {d : PyData} {u v : V} {H : Hp} {Q : VK} (ok : DOk n d) (hn : n ≤ 64) (h1 : Dp K H u d) (h2 : Dp K H v d) (q : Q (.bl false) H) : rNeR K u v H Q := by
  refine .inl ⟨d, d, h1, h2, ok.shaped hn, ok.shaped hn, ?_⟩
  rw [ok.eqv]
  exact q
theorem same_none {H H' : Hp} {a : Addr} (s : Same H H') (h : H' a = none) : H a = none := by
  cases e : H a with
  | none => rfl
  | some o => rw [s _ _ e] at h; cases h
/-! ### forms of rows, rows drawn large -/
structure RF where
  steps : List SF
  spares : Bool
  folders : Bool
def RF.d (r : RF) : PyData := .tuple [.tuple (r.steps.map SF.d), .bool r.spares, .bool r.folders]
def NoTwoD : List SF → Prop
  | a :: b :: r => ¬ (a = .deep ∧ b = .deep) ∧ NoTwoD (b :: r)
  | _ => True
structure RF.Ok (r : RF) : Prop where
  ne : r.steps ≠ []
  ok : ∀ s ∈ r.steps, s.Ok
  two : NoTwoD r.steps
  len : r.steps.length ≤ 12
theorem Each.drop {α : Type} {R : α → V → Hp → Prop} {fs : List α} {us : List V} {H : Hp} (h : Each R fs us H) (k : Nat) : Each R (fs.drop k) (us.drop k) H :=
  ⟨by rw [List.length_drop, List.length_drop, h.1], fun i f hf => by
    rw [List.getElem?_drop] at hf
    obtain ⟨u, e, g⟩ := h.2 _ f hf
    exact ⟨u, by rw [List.getElem?_drop]; exact e, g⟩⟩
/-! ### rows as objects -/
abbrev rowO (K : PySem.W.Frag) (dx t : Addr) (a b : Bool) : HO := .ins (fA K "Row") dx [("steps", .ref t), ("spares", .bl a), ("folders", .bl b)]
def RowV (K : PySem.W.Frag) (r : RF) (v : V) (H : Hp) : Prop := ∃ p dx t us, v = .ref p ∧ H p = some (rowO K dx t r.spares r.folders) ∧ H t = some (.tup us) ∧ Each (StepV K) r.steps us H ∧ r.steps ≠ []
theorem Each.nl {us : List V} {ss : List SF} {H H' : Hp} (h : Each (StepV K) ss us H) (e : NL H H') : Each (StepV K) ss us H' := h.imp fun _ _ s => s.nl e
theorem Each.mono {us : List V} {ss : List SF} {H H' : Hp} (h : Each (StepV K) ss us H) (e : Same H H') : Each (StepV K) ss us H' := h.nl (.of e)
theorem RowV.nl {r : RF} {v : V} {H H' : Hp} (h : RowV K r v H) (e : NL H H') : RowV K r v H' := by
  obtain ⟨p, dx, t, us, a, b, c, d, z⟩ := h
  exact ⟨p, dx, t, us, a, e _ _ b (fun _ z => nomatch z), e _ _ c (fun _ z => nomatch z), d.nl e, z⟩
theorem RowV.mono {r : RF} {v : V} {H H' : Hp} (h : RowV K r v H) (e : Same H H') : RowV K r v H' := h.nl (.of e)
/-! ### what rows tell -/
section
variable {X : Cx}
end
/-! ### drawn rows, rows made -/
def RF.Low (r : RF) : Prop := ∀ fs, SF.seg fs ∈ r.steps → ∀ f ∈ fs, f.Low
/-! ### signs that a part fits -/
/-! ### names about a row -/
/-- a name: signs, one at least -/
def NmV (b : Nat) (v : V) : Prop := ∃ l : List Nat, v = .str (S l) ∧ l ≠ [] ∧ l.length ≤ b ∧ ∀ c ∈ l, c ∈ SIG
theorem NmV.up {b b' : Nat} {v : V} (h : NmV b v) (e : b ≤ b') : NmV b' v := let ⟨l, a, c, d, f⟩ := h; ⟨l, a, c, Nat.le_trans d e, f⟩
/-! ### the law's own fitting of a name, from its end on -/
/-- p of each end of a list -/
def ends {β : Type} (p : List β → Bool) : List β → List Bool
  | [] => [p []]
  | c :: w => p (c :: w) :: ends p w
def fitB : List PF → List Nat → Bool
  | [], w => w.isEmpty
  | f :: fs, w => if f.many = true then (ends (fitB fs) w).any id else match w with
    | [] => false
    | c :: v => f.fits c && fitB fs v
/-! ### things laid along a row of other things -/
section
variable {α β : Type} {m : α → Bool} {ft : α → β → Bool}
def starG (m : α → Bool) (fs : List α) (j : Nat) : Bool := match fs[j]? with
  | some f => m f
  | none => false
theorem starG_lt {fs : List α} {j : Nat} (h : starG m fs j = true) : j < fs.length := by
  unfold starG at h
  rcases Nat.lt_or_ge j fs.length with e | e
  · exact e
  · rw [List.getElem?_eq_none e] at h
    cases h
/-- from s on by stars alone -/
def ClosG (m : α → Bool) (fs : List α) (s i : Nat) : Prop := s ≤ i ∧ ∀ k, s ≤ k → k < i → starG m fs k = true
theorem ClosG.refl {fs : List α} {s : Nat} : ClosG m fs s s := ⟨Nat.le_refl _, fun k a b => absurd b (by omega)⟩
theorem ClosG.trans {fs : List α} {a b c : Nat} (h : ClosG m fs a b) (g : ClosG m fs b c) : ClosG m fs a c := ⟨Nat.le_trans h.1 g.1, fun k h1 h2 => by
  rcases Nat.lt_or_ge k b with e | e
  · exact h.2 k h1 e
  · exact g.2 k e h2⟩
theorem ClosG.snoc {fs : List α} {a b : Nat} (h : ClosG m fs a b) (g : starG m fs b = true) : ClosG m fs a (b + 1) := h.trans ⟨Nat.le_succ _, fun k h1 h2 => by
  have e : k = b := by omega
  rw [e]
  exact g⟩
theorem ClosG.le {fs : List α} {s i n : Nat} (h : ClosG m fs s i) (hs : s ≤ fs.length) : i ≤ fs.length := by
  rcases Nat.eq_or_lt_of_le h.1 with e | e
  · omega
  · have := starG_lt (h.2 (i - 1) (by omega) (by omega))
    omega
def fitGB (m : α → Bool) (ft : α → β → Bool) : List α → List β → Bool
  | [], w => w.isEmpty
  | f :: fs, w => if m f = true then (ends (fitGB m ft fs) w).any id else match w with
    | [] => false
    | c :: v => ft f c && fitGB m ft fs v
end
/-- from where on something good comes -/
def behind : List Bool → List Bool
  | [] => []
  | b :: r => (b || r.any id) :: behind r
/-! ### places -/
/-! ### a row fits names -/
def SF.fitB (s : SF) (nm : List Nat) : Bool := match s with
  | .deep => true
  | .seg fs => SL.fitB fs nm
structure RowSz (r : RF) : Prop where
  len : r.steps.length ≤ 1000
  parts : ∀ fs, SF.seg fs ∈ r.steps → fs.length ≤ 1000
/-! ### the law's own fitting of a name -/
/-! ### names that parts fit, or nearly fit -/
/-! ### the law's own fitting -/
/-! ### rows near the bounds -/
/-! ### lists of rows -/
theorem RF.tup (r : RF) : tupB r.d = true := by simp [RF.d, tupB, tupBs, tupBs_map SF.d SF.tup r.steps]
abbrev RowsE (K : PySem.W.Frag) (rs : List RF) (us : List V) (H : Hp) : Prop := Each (fun f u H => Dp K H u (RF.d f)) rs us H
def RowsL (K : PySem.W.Frag) (rs : List RF) (F : Addr) (H : Hp) : Prop := ∃ us, H F = some (.lst us) ∧ RowsE K rs us H ∧ ∀ r ∈ rs, r.Ok ∧ r.Low
theorem RowsL.mono {rs : List RF} {F : Addr} {H H' : Hp} (h : RowsL K rs F H) (s : Same H H') : RowsL K rs F H' := let ⟨us, a, b, c⟩ := h; ⟨us, s _ _ a, b.imp fun _ _ d => dp_mono s _ _ d, c⟩
/-! ### the last row that fits -/
def rfit (nms : List (List Nat)) (fo : Bool) (r : RF) : Bool := (!r.folders || fo) && fitGB SF.deepB SF.fitB r.steps nms
def optV : Option Nat → V
  | some i => .int i
  | none => .non
def IsLast (p : RF → Bool) (rs : List RF) (o : Option Nat) : Prop := (∀ i, o = some i → ∃ r, rs[i]? = some r ∧ p r = true) ∧ ∀ j r, rs[j]? = some r → p r = true → ∃ i, o = some i ∧ j ≤ i
theorem IsLast.uniq {p : RF → Bool} {rs : List RF} {a b : Option Nat} (h : IsLast p rs a) (g : IsLast p rs b) : a = b := by
  cases a with
  | none =>
    cases b with
    | none => rfl
    | some j =>
      obtain ⟨r, e, f⟩ := g.1 j rfl
      obtain ⟨i, e2, _⟩ := h.2 j r e f
      cases e2
  | some i =>
    obtain ⟨r, e, f⟩ := h.1 i rfl
    obtain ⟨j, rfl, hj⟩ := g.2 i r e f
    obtain ⟨r', e', f'⟩ := g.1 j rfl
    obtain ⟨i', e2, hi⟩ := h.2 j r' e' f'
    cases e2
    rw [Nat.le_antisymm hj hi]
/-! ### long rows -/
theorem Each.take {α : Type} {R : α → V → Hp → Prop} {fs : List α} {us : List V} {H : Hp} (h : Each R fs us H) (k : Nat) : Each R (fs.take k) (us.take k) H :=
  ⟨by rw [List.length_take, List.length_take, h.1], fun i f hf => by
    rw [List.getElem?_take] at hf
    split at hf
    · obtain ⟨u, e, g⟩ := h.2 i f hf
      exact ⟨u, by rw [List.getElem?_take, if_pos (by assumption)]; exact e, g⟩
    · cases hf⟩
/-! ### names as texts -/
/-! ### the numbers of the rows that fit -/
def hitsN (p : RF → Bool) (rs : List RF) (k : Nat) : List Nat := (List.range k).filter fun i => match rs[i]? with
  | some r => p r
  | none => false
/-! ### split, startswith, endswith -/
section
variable {X : Cx}
end
/-! ### the names of a path -/
def splW (w : List Nat) : List (List Nat) := TL.spl [47] 0 [] w
def folderW (ps : List (List Nat)) : Bool := decide (1 < ps.length) && decide (ps.getLast? = some [])
def nmOk (l : List Nat) : Bool := !decide (l = []) && l.all fun c => decide (c ∈ SIG)
def pathN (w : List Nat) : Option (List (List Nat) × Bool) :=
  let ps := splW w
  let ns := if folderW ps = true then ps.dropLast else ps
  if ns.all nmOk = true then some (ns, folderW ps) else none
/-! ### names_of -/
/-! ### a path, sign by sign (plain) -/
/-! ### going down -/
theorem for_pair {J0 : It} {n : Nat} {G : Hp → Prop} {f g : Nat → Option V} {wi : TI} {i j : Nat} {tb : TS} {D : Ends} {σ : L2.St} {H H0 : Hp} (h : wi σ H fun J H1 => J = J0 ∧ H1 = H0) (wk : Walk J0 n G (YPair f g)) (Pv : Nat → L2.St → Hp → Prop) (h0 : Pv 0 σ H0) (hG : ∀ i σ H, i ≤ n → Pv i σ H → G H)
    (hs : ∀ k x y σ H H', k < n → Pv k σ H → Same H H' → f k = some x → g k = some y → tb { D with nx := Pv (k + 1), ct := Pv (k + 1), bk := D.nx } ((σ.set i (some x)).set j (some y)) H') (hd : ∀ σ H, Pv n σ H → D.nx σ H) :
    tFor (iMid wi) (gTup K 2 (gCons (gName i) (gCons (gName j) gNil))) tb D σ H := by
  refine for_midg h wk Pv h0 hG ?_ hd
  rintro k v σ H1 H2 hk p ⟨T, x, y, rfl, hT, rfl, hx, hy⟩
  exact ⟨T, [x, y], rfl, .inl (.inl upd_same), rfl, x, [y], rfl, y, [], rfl, rfl, hs k x y σ H1 _ hk p (same_new hT) hx hy⟩
def lastN (p : RF → Bool) (rs : List RF) : Option Nat := (hitsN p rs rs.length).getLast?
def stepN (rs : List RF) (nms : List (List Nat)) (fo : Bool) (m : Nat) : Option Nat := lastN (rfit (nms.take m) (fo || decide (m < nms.length))) rs
def stops (rs : List RF) (o : Option Nat) : Bool := match o with
  | some i => match rs[i]? with
    | some r => !r.spares
    | none => false
  | none => false
def IsDown (rs : List RF) (nms : List (List Nat)) (fo : Bool) (b : Bool) (o : Option Nat) : Prop :=
  (b = true ∧ ∃ k, k < nms.length ∧ o = stepN rs nms fo (k + 1) ∧ stops rs o = true ∧ ∀ j, j < k → stops rs (stepN rs nms fo (j + 1)) = false) ∨
  (b = false ∧ o = stepN rs nms fo nms.length ∧ ∀ j, j < nms.length → stops rs (stepN rs nms fo (j + 1)) = false)
theorem IsDown.uniq {rs : List RF} {nms : List (List Nat)} {fo b b' : Bool} {o o' : Option Nat} (h : IsDown rs nms fo b o) (g : IsDown rs nms fo b' o') : b = b' ∧ o = o' := by
  rcases h with ⟨rfl, k, hk, rfl, hs, hj⟩ | ⟨rfl, rfl, hj⟩ <;> rcases g with ⟨rfl, k', hk', rfl, hs', hj'⟩ | ⟨rfl, rfl, hj'⟩
  · rcases Nat.lt_trichotomy k k' with q | q | q
    · rw [hj' k q] at hs; cases hs
    · rw [q]; exact ⟨rfl, rfl⟩
    · rw [hj k' q] at hs'; cases hs'
  · rw [hj' k hk] at hs; cases hs
  · rw [hj k' hk'] at hs'; cases hs'
  · exact ⟨rfl, rfl⟩
def RowsO (K : PySem.W.Frag) (rs : List RF) (l : Addr) (H : Hp) : Prop := ∃ us, SqL K H l us ∧ Each (RowV K) rs us H ∧ (∀ r ∈ rs, RowSz r) ∧ rs.length ≤ 1000
theorem RowsO.mono {rs : List RF} {l : Addr} {H H' : Hp} (h : RowsO K rs l H) (s : Same H H') : RowsO K rs l H' := let ⟨us, a, b, c⟩ := h; ⟨us, same_l s a, b.imp fun _ _ d => d.mono s, c⟩
/-! ### the law's own going down -/
/-! ### a text, several times -/
/-! ### dicts: their data compared; zip -/
section
variable {X : Cx}
end
/-! ### all_told: a dict of what told tells -/
def addN (acc : List (List Nat)) (w : List Nat) : List (List Nat) := if w ∈ acc then acc else acc ++ [w]
def onceN (ws : List (List Nat)) : List (List Nat) := ws.foldl addN []
theorem once_take {ws : List (List Nat)} {k : Nat} {w : List Nat} (h : ws[k]? = some w) : onceN (ws.take (k + 1)) = addN (onceN (ws.take k)) w := by
  unfold onceN
  rw [List.take_succ, h, List.foldl_append]
  rfl
def ToldV (rs : List RF) (w : List Nat) (v : V) (H : Hp) : Prop := ∃ t nms fo b o, v = .ref t ∧ H t = some (.tup [.bl b, optV o]) ∧ pathN w = some (nms, fo) ∧ IsDown rs nms fo b o
theorem ToldV.nl {rs : List RF} {w : List Nat} {v : V} {H H' : Hp} (h : ToldV rs w v H) (s : ∀ a t, H a = some (.tup t) → H' a = some (.tup t)) : ToldV rs w v H' := let ⟨t, a, b, c, d, e, f, g⟩ := h; ⟨t, a, b, c, d, e, s _ _ f, g⟩
theorem ToldV.mono {rs : List RF} {w : List Nat} {v : V} {H H' : Hp} (h : ToldV rs w v H) (s : Same H H') : ToldV rs w v H' := h.nl fun _ _ e => s _ _ e
/-- a dict of what is told of each of these paths -/
structure ToldD (rs : List RF) (ws : List (List Nat)) (kvs : List (Key × V)) (H : Hp) : Prop where
  keys : kvs.map (·.1) = (onceN ws).map fun w => (Sum.inr (S w) : Key)
  each : ∀ q ∈ kvs, ∃ w, q.1 = .inr (S w) ∧ ToldV rs w q.2 H
theorem valV_pair {kvs : List (Key × V)} {k : Key} {v : V} (h : valV kvs k = some v) : (k, v) ∈ kvs := by
  unfold valV at h
  cases e : kvs.find? (fun kv => decide (kv.1 = k)) with
  | none => rw [e] at h; cases h
  | some q =>
    rw [e] at h
    have h1 := List.mem_of_find?_eq_some e
    have h3 : decide (q.1 = k) = true := List.find?_some (p := fun kv : Key × V => decide (kv.1 = k)) e
    have h2 := of_decide_eq_true h3
    obtain ⟨a, b⟩ := q
    cases (show some b = some v from h)
    cases (show a = k from h2)
    exact h1
theorem ToldD.vals {rs : List RF} {ws : List (List Nat)} {kvs : List (Key × V)} {H : Hp} (h : ToldD rs ws kvs H) (w : List Nat) (v : V) (e : valV kvs (.inr (S w)) = some v) : ToldV rs w v H := by
  obtain ⟨w', e1, e2⟩ := h.each _ (valV_pair e)
  have e3 : S w = S w' := Sum.inr.inj e1
  rw [S_inj e3]
  exact e2
theorem putK_mem {kvs : List (Key × V)} {k : Key} {v : V} {q : Key × V} (h : q ∈ putK kvs k v) : q ∈ kvs ∨ q = (k, v) := by
  unfold putK at h
  split at h
  · obtain ⟨x, hx, e⟩ := List.mem_map.mp h
    split at e
    · rename_i e2
      rw [e2] at e
      exact .inr e.symm
    · exact .inl (e ▸ hx)
  · exact (List.mem_append.mp h).imp id List.mem_singleton.mp
theorem ToldD.mono {rs : List RF} {ws : List (List Nat)} {kvs : List (Key × V)} {H H' : Hp} (h : ToldD rs ws kvs H) (s : Same H H') : ToldD rs ws kvs H' := ⟨h.keys, fun q hq => let ⟨w, a, b⟩ := h.each q hq; ⟨w, a, b.mono s⟩⟩
theorem valV_some {kvs : List (Key × V)} {k : Key} (h : k ∈ kvs.map (·.1)) : ∃ v, valV kvs k = some v := by
  cases e : valV kvs k with
  | some v => exact ⟨v, rfl⟩
  | none => exact absurd h (valV_not e)
theorem key_mem {ws : List (List Nat)} {w : List Nat} : (Sum.inr (S w) : Key) ∈ ws.map (fun w => (Sum.inr (S w) : Key)) ↔ w ∈ ws := by
  rw [List.mem_map]
  refine ⟨fun ⟨x, hx, e⟩ => ?_, fun h => ⟨w, h, rfl⟩⟩
  have e2 : S x = S w := Sum.inr.inj e
  rw [← S_inj e2]
  exact hx
theorem ToldD.put {rs : List RF} {ws : List (List Nat)} {kvs : List (Key × V)} {H : Hp} (h : ToldD rs ws kvs H) {k : Nat} {w : List Nat} {v : V} (hw : ToldV rs w v H) {us : List (List Nat)} (hu : ws = us.take k) (hk : us[k]? = some w) : ToldD rs (us.take (k + 1)) (putK kvs (.inr (S w)) v) H := by
  subst hu
  refine ⟨?_, fun q hq => ?_⟩
  · rw [once_take hk]
    unfold addN
    by_cases hm : w ∈ onceN (us.take k)
    · rw [if_pos hm, ← h.keys]
      have hany : (kvs.any fun kv => decide (kv.1 = (Sum.inr (S w) : Key))) = true := by
        rw [valV_any]
        have : (Sum.inr (S w) : Key) ∈ kvs.map (·.1) := by rw [h.keys]; exact key_mem.mpr hm
        obtain ⟨v0, e⟩ := valV_some this
        rw [e]; rfl
      unfold putK
      rw [if_pos hany, List.map_map]
      refine List.map_congr_left fun p _ => ?_
      show (if p.1 = Sum.inr (S w) then (p.1, v) else p).1 = p.1
      split <;> rfl
    · rw [if_neg hm, List.map_append, ← h.keys]
      have hn : valV kvs (Sum.inr (S w) : Key) = none := by
        cases e : valV kvs (Sum.inr (S w) : Key) with
        | none => rfl
        | some v0 =>
          have := valV_in e
          rw [h.keys] at this
          exact absurd (key_mem.mp this) hm
      rw [putK_new v hn, List.map_append]
      rfl
  · rcases putK_mem hq with h1 | rfl
    · exact h.each q h1
    · exact ⟨w, rfl, hw⟩
/-! ### plain: going down, one name more -/
theorem join_len {b : Nat} : ∀ {ls : List (List Nat)}, (∀ l ∈ ls, l.length ≤ b) → (TL.joinL [47] ls).length ≤ (b + 1) * ls.length
  | [], _ => Nat.zero_le _
  | [p], h => by
    have := h p List.mem_cons_self
    show p.length ≤ _
    simp only [List.length_cons, List.length_nil]
    omega
  | p :: q :: r, h => by
    have h1 := h p List.mem_cons_self
    have h2 := join_len (ls := q :: r) fun l hl => h l (List.mem_cons_of_mem _ hl)
    show (p ++ ([47] ++ TL.joinL [47] (q :: r))).length ≤ _
    rw [List.length_append, List.length_append, List.length_cons (as := q :: r), Nat.mul_succ]
    simp only [List.length_cons, List.length_nil] at h2 ⊢
    omega
theorem cut_take {us : List V} {k : Nat} : cutV us none (some (k : Int)) = us.take k := by
  unfold cutV
  have e : HT.sIx us.length us.length (some (k : Int)) = min k us.length := by
    unfold HT.sIx
    simp
    omega
  rw [HT.sIx_none, e, List.drop_zero, Nat.sub_zero]
  rcases Nat.le_total k us.length with h | h
  · rw [Nat.min_eq_left h]
  · rw [Nat.min_eq_right h, List.take_of_length_le (Nat.le_refl _), List.take_of_length_le h]
/-- a good path by its names -/
structure GoodP (w : List Nat) (nms : List (List Nat)) (fo : Bool) : Prop where
  eq : w = TL.joinL [47] nms ++ (if fo = true then [47] else [])
  ne : nms ≠ []
  len : nms.length ≤ 60
  nm : ∀ nm ∈ nms, nm ≠ [] ∧ nm.length ≤ 400 ∧ ∀ c ∈ nm, c ∈ SIG
theorem GoodP.size {w : List Nat} {nms : List (List Nat)} {fo : Bool} (h : GoodP w nms fo) : w.length ≤ 30000 := by
  have lj := join_len (b := 400) fun nm hm => (h.nm nm hm).2.1
  have := h.len
  rw [h.eq, List.length_append]
  split <;> simp <;> omega
theorem eq_dat {n : Nat} {d : PyData} {u v : V} {H : Hp} {Q : VK} (ok : DOk n d) (hn : n ≤ 64) (h1 : Dp K H u d) (h2 : Dp K H v d) (q : Q (.bl true) H) : rEqR K u v H Q := by
  refine .inl ⟨d, d, h1, h2, ok.shaped hn, ok.shaped hn, ?_⟩
  rw [ok.eqv]
  exact q

/-! ### texts put in order: the one list -/
section
variable {X : Cx}
end
/-! ### trees as dicts -/
/-- a name of a tree: signs of names, one at least -/
def NmOk (nm : List Nat) : Prop := nm ≠ [] ∧ nm.length ≤ 1000 ∧ ∀ c ∈ nm, c ∈ SIG
abbrev Names := List (List Nat)
/-- what stands in a folder, in the dict's order -/
def kidE (al : Names → Addr) (e : Names × Bool) : Key × V := (.inr (S (e.1.getLastD [])), if e.2 = true then .ref (al e.1) else .non)
def inF (p : Names) (e : Names × Bool) : Bool := decide (e.1.dropLast = p)
def kids (E : List (Names × Bool)) (al : Names → Addr) (p : Names) : List (Key × V) := (E.filter (inF p)).map (kidE al)
def kidN (E : List (Names × Bool)) (p : Names) : List (List Nat) := (E.filter (inF p)).map fun e => e.1.getLastD []
/-- the entries of a tree: each once, folders ahead, names of signs -/
structure EOk (E : List (Names × Bool)) : Prop where
  nd : (E.map (·.1)).Nodup
  ne : ∀ e ∈ E, e.1 ≠ []
  up : ∀ e ∈ E, e.1.dropLast = [] ∨ (e.1.dropLast, true) ∈ E
  nm : ∀ e ∈ E, ∀ nm ∈ e.1, NmOk nm
  deep : ∀ e ∈ E, e.1.length ≤ 9
def Fold (E : List (Names × Bool)) (p : Names) : Prop := p = [] ∨ (p, true) ∈ E
structure TreeE (E : List (Names × Bool)) (al : Names → Addr) (H : Hp) : Prop where
  ok : EOk E
  at_ : ∀ p, Fold E p → H (al p) = some (.dK (kids E al p))
  inj : ∀ p q, Fold E p → Fold E q → al p = al q → p = q
theorem TreeE.mono {E : List (Names × Bool)} {al : Names → Addr} {H H' : Hp} (h : TreeE E al H) (s : Same H H') : TreeE E al H' := ⟨h.ok, fun p hp => s _ _ (h.at_ p hp), h.inj⟩
/-! how many there are -/
/-! ### the paths within a folder, by the program and by the law -/
/-! ### a tree that grows -/
theorem kidN_snoc {E : List (Names × Bool)} {e : Names × Bool} {q : Names} : kidN (E ++ [e]) q = kidN E q ++ (if e.1.dropLast = q then [e.1.getLastD []] else []) := by
  unfold kidN
  rw [List.filter_append, List.map_append]
  congr 1
  unfold inF
  by_cases h : e.1.dropLast = q <;> simp [h]
structure Grow (E E' : List (Names × Bool)) (nms : Names) (k : Nat) : Prop where
  sub : ∀ e ∈ E, e ∈ E'
  new : ∀ e ∈ E', e ∈ E ∨ ∃ i, 0 < i ∧ i ≤ k ∧ e.1 = nms.take i ∧ (i < nms.length → e.2 = true)
  len : E'.length ≤ E.length + k
  kid : ∀ p, (kidN E' p).length ≤ (kidN E p).length + if p.length < k then 1 else 0
theorem Grow.refl {E : List (Names × Bool)} {nms : Names} : Grow E E nms 0 := ⟨fun _ h => h, fun _ h => .inl h, Nat.le_refl _, fun p => Nat.le_add_right _ _⟩
theorem Grow.snoc {E E' : List (Names × Bool)} {nms : Names} {k : Nat} {nm : List Nat} {fo : Bool} (g : Grow E E' nms k) (hk : nms[k]? = some nm) (hf : k + 1 < nms.length → fo = true) : Grow E (E' ++ [(nms.take k ++ [nm], fo)]) nms (k + 1) := by
  have tk : nms.take (k + 1) = nms.take k ++ [nm] := by rw [List.take_succ, hk]; rfl
  have hl : k < nms.length := (List.getElem?_eq_some_iff.mp hk).1
  refine ⟨fun e he => List.mem_append_left _ (g.sub e he), fun e he => ?_, by rw [List.length_append, List.length_singleton]; have := g.len; omega, fun p => ?_⟩
  · rcases List.mem_append.mp he with h | h
    · exact (g.new e h).imp id fun ⟨i, a, b, c⟩ => ⟨i, a, by omega, c⟩
    · rw [List.mem_singleton.mp h]
      exact .inr ⟨k + 1, by omega, Nat.le_refl _, tk.symm, hf⟩
  · have h := g.kid p
    rw [kidN_snoc, List.length_append]
    by_cases e : nms.take k = p
    · rw [if_pos (by simpa using e)]
      have lp : p.length = k := by rw [← e, List.length_take]; omega
      rw [if_neg (by omega)] at h
      rw [if_pos (by omega)]
      simp only [List.length_singleton]
      omega
    · rw [if_neg (by simpa using e)]
      split at h <;> split <;> simp only [List.length_nil] <;> omega
/-! ### trees drawn -/
/-! ### what every law here promises -/
def spLaw (K : PySem.W.Frag) : Sp := fun vs H Q _ => ∃ a, ∃ ns : List Int, vs = [.ref a] ∧ SqL K H a (ns.map V.int) ∧ ns.length ≤ 63 ∧ ∀ H', Q (.bl true) H'
theorem law_len {vs : List V} {H : Hp} {Q : VK} {E : XK} (h : spLaw K vs H Q E) : vs.length = ["_law_script"].length := by
  obtain ⟨a, ns, rfl, _⟩ := h
  rfl
theorem law_sp {a : Addr} {ns : List Int} {H : Hp} (hs : SqL K H a (ns.map V.int)) (hl : ns.length ≤ 63) (hb : ∀ z ∈ ns, Builtin.Int.intBits z ≤ 1048576) : spLaw K [.ref a] H (fun v _ => v = .bl true) fun _ _ _ => False := ⟨a, ns, rfl, hs, hl, fun _ => rfl⟩

/-! ### what is written of parts, steps and rows -/
/-! ### the place of a sign in a text; blanks cut off -/
section
variable {X : Cx}
end
/-! ### the signs of a set's text -/
/-! ### a set's text, a step's text -/
/-! ### a step's text, a row's text -/
/-! ### lists written, lists read -/
section
variable {X : Cx}
end
/-! ### reading gives what was written -/
/-! ### a row's text, a list's text read -/
/-! ### the law's own texts -/
/-! ### kept but for lists and dicts; dicts of lists -/
def ND (H H' : Hp) : Prop := ∀ a o, H a = some o → (∀ l, o ≠ .lst l) → (∀ ks, o ≠ .dK ks) → (∀ q ks, o ≠ .frz q (.dK ks)) → H' a = some o
theorem ND.of {H H' : Hp} (e : Same H H') : ND H H' := fun a o h _ _ _ => e a o h
theorem ND.nl {H H' : Hp} (e : NL H H') : ND H H' := fun a o h n _ _ => e a o h n
theorem ND.trans {H H1 H2 : Hp} (a : ND H H1) (b : ND H1 H2) : ND H H2 := fun c o h n m w => b c o (a c o h n m w) n m w
theorem ND.dict {H : Hp} {d : Addr} {ks : List (Key × V)} {o : HO} (h : H d = some (.dK ks)) : ND H (upd H d o) := fun a u e _ m _ => by
  have q : a ≠ d := fun z => by
    rw [z, h] at e
    exact m ks (Option.some.inj e).symm
  rw [upd_ne q]
  exact e
theorem ND.frz {H : Hp} {d : Addr} {q : Obj} {ks : List (Key × V)} {o : HO} (h : H d = some (.frz q (.dK ks))) : ND H (upd H d o) := fun a u e _ _ m => by
  have n : a ≠ d := fun z => by
    rw [z, h] at e
    exact m q ks (Option.some.inj e).symm
  rw [upd_ne n]
  exact e
theorem ND.lst {H : Hp} {d : Addr} {l : List V} {o : HO} (h : H d = some (.lst l)) : ND H (upd H d o) := .nl (nl_upd h)
theorem sqT_nd {K : PySem.W.Frag} {H H' : Hp} {a : Addr} {xs : List V} (h : SqT K H a xs) (e : ND H H') : SqT K H' a xs := by
  rcases h with (h | ⟨o, h⟩) | h
  · exact .inl (.inl (e _ _ h (fun _ z => nomatch z) (fun _ z => nomatch z) fun _ _ z => nomatch z))
  · exact .inl (.inr ⟨o, e _ _ h (fun _ z => nomatch z) (fun _ z => nomatch z) fun _ _ z => nomatch z⟩)
  · exact .inr h
mutual
theorem dp_nd {K : PySem.W.Frag} {H H' : Hp} (e : ND H H') : ∀ (d : PyData) (v : V), tupB d = true → Dp K H v d → Dp K H' v d
  | .none, _, _, .non => .non
  | .bool _, _, _, .bl b => .bl b
  | .int _, _, _, .int i => .int i
  | .str _, _, _, .str x => .str x
  | .tuple ds, _, t, .tup h a => .tup (sqT_nd h e) (dpAll_nd e ds _ (by simpa only [tupB] using t) a)
  | .list ds, _, t, _ => by simp [tupB] at t
theorem dpAll_nd {K : PySem.W.Frag} {H H' : Hp} (e : ND H H') : ∀ (ds : List PyData) (vs : List V), tupBs ds = true → DpAll K H vs ds → DpAll K H' vs ds
  | [], _, _, .nil => .nil
  | d :: ds, _, t, .cons h a => by
    have t' : tupB d = true ∧ tupBs ds = true := by simpa only [tupBs, Bool.and_eq_true] using t
    exact .cons (dp_nd e d _ t'.1 h) (dpAll_nd e ds _ t'.2 a)
end
theorem PartO.nd {K : PySem.W.Frag} {dx : Addr} {f : PF} (l : List (Key × V)) : PartO K dx f ≠ .dK l := by cases f <;> exact fun h => nomatch h
theorem PartO.nf {K : PySem.W.Frag} {dx : Addr} {f : PF} (q : Obj) (l : List (Key × V)) : PartO K dx f ≠ .frz q (.dK l) := by cases f <;> exact fun h => nomatch h
theorem PartV.nd {K : PySem.W.Frag} {f : PF} {v : V} {H H' : Hp} (h : PartV K f v H) (e : ND H H') : PartV K f v H' := let ⟨p, dx, ev, hp⟩ := h; ⟨p, dx, ev, e _ _ hp PartO.nl PartO.nd PartO.nf⟩
theorem PartsV.nd {K : PySem.W.Frag} {fs : List PF} {us : List V} {H H' : Hp} (h : PartsV K fs us H) (e : ND H H') : PartsV K fs us H' := ⟨h.1, fun i f hf => let ⟨u, a, b⟩ := h.2 i f hf; ⟨u, a, b.nd e⟩⟩
theorem StepV.nd {K : PySem.W.Frag} {f : SF} {v : V} {H H' : Hp} (h : StepV K f v H) (e : ND H H') : StepV K f v H' := by
  cases f with
  | deep => obtain ⟨p, dx, a, b⟩ := h; exact ⟨p, dx, a, e _ _ b (fun _ z => nomatch z) (fun _ z => nomatch z) fun _ _ z => nomatch z⟩
  | seg fs => obtain ⟨p, dx, t, us, a, b, c, d, z⟩ := h; exact ⟨p, dx, t, us, a, e _ _ b (fun _ z => nomatch z) (fun _ z => nomatch z) (fun _ _ z => nomatch z), e _ _ c (fun _ z => nomatch z) (fun _ z => nomatch z) (fun _ _ z => nomatch z), d.nd e, z⟩
theorem RowV.nd {K : PySem.W.Frag} {r : RF} {v : V} {H H' : Hp} (h : RowV K r v H) (e : ND H H') : RowV K r v H' := by
  obtain ⟨p, dx, t, us, a, b, c, d, z⟩ := h
  exact ⟨p, dx, t, us, a, e _ _ b (fun _ z => nomatch z) (fun _ z => nomatch z) (fun _ _ z => nomatch z), e _ _ c (fun _ z => nomatch z) (fun _ z => nomatch z) (fun _ _ z => nomatch z), d.imp fun _ _ s => s.nd e, z⟩
/-- behind a lock on a dict -/
theorem same_unlock {H H2 : Hp} {d : Addr} {o u : HO} (h : H d = some u) (s : Same (upd H d o) H2) : Same H (upd H2 d u) := fun a v e => by
  by_cases hd : a = d
  · subst hd
    rw [upd_same]
    exact (h.symm.trans e)
  · rw [upd_ne hd]
    exact s a v (by rw [upd_ne hd]; exact e)
/-- what a dict of lists holds -/
abbrev LE := List Nat × List RF
structure Lsts (R : RF → V → Hp → Prop) (es : List LE) (kvs : List (Key × V)) (H : Hp) : Prop where
  keys : kvs.map (·.1) = es.map fun e => (Sum.inr (S e.1) : Key)
  vals : Each (fun (e : LE) u H => ∃ L us, u = .ref L ∧ H L = some (.lst us) ∧ Each R e.2 us H) es (kvs.map (·.2)) H
section
variable {R : RF → V → Hp → Prop} {es : List LE} {kvs : List (Key × V)} {H H' : Hp}
theorem Lsts.len (h : Lsts R es kvs H) : kvs.length = es.length := by
  have := congrArg List.length h.keys
  rwa [List.length_map, List.length_map] at this
theorem Lsts.mono (h : Lsts R es kvs H) (s : Same H H') (r : ∀ f u, R f u H → R f u H') : Lsts R es kvs H' :=
  ⟨h.keys, h.vals.imp fun _ _ ⟨L, us, e, l, x⟩ => ⟨L, us, e, s _ _ l, x.imp fun f u => r f u⟩⟩
/-- a dict that is no list changes -/
theorem Lsts.dict {d : Addr} {ks : List (Key × V)} {o : HO} (h : Lsts R es kvs H) (hd : H d = some (.dK ks)) (r : ∀ f u, R f u H → R f u (upd H d o)) : Lsts R es kvs (upd H d o) :=
  ⟨h.keys, h.vals.imp fun _ _ ⟨L, us, e, l, x⟩ => ⟨L, us, e, by
    rw [upd_ne (fun z => by rw [z, hd] at l; cases l)]
    exact l, x.imp fun f u => r f u⟩⟩
theorem Lsts.nil : Lsts R [] [] H := ⟨rfl, .nil⟩
theorem Lsts.at_ (h : Lsts R es kvs H) {i : Nat} {k : Key} {v : V} (hk : kvs[i]? = some (k, v)) : ∃ e L us, es[i]? = some e ∧ k = .inr (S e.1) ∧ v = .ref L ∧ H L = some (.lst us) ∧ Each R e.2 us H := by
  have h1 : (kvs.map (·.1))[i]? = some k := by rw [List.getElem?_map, hk]; rfl
  have h2 : (kvs.map (·.2))[i]? = some v := by rw [List.getElem?_map, hk]; rfl
  obtain ⟨e, he, L, us, ev, hl, hr⟩ := h.vals.at' h2
  rw [h.keys, List.getElem?_map, he] at h1
  exact ⟨e, L, us, he, (Option.some.inj h1).symm, ev, hl, hr⟩
theorem val_get : ∀ {es : List LE} {kvs : List (Key × V)} {i : Nat} {e : LE} {v : V}, kvs.map (·.1) = es.map (fun e => (Sum.inr (S e.1) : Key)) → (es.map (·.1)).Nodup → es[i]? = some e → (kvs.map (·.2))[i]? = some v → valV kvs (.inr (S e.1)) = some v
  | [], _, i, e, v, _, _, h, _ => by simp at h
  | x :: r, [], i, e, v, hk, _, _, _ => by simp at hk
  | x :: r, (k, u) :: t, 0, e, v, hk, _, h, hv => by
    have e1 : x = e := by simpa using h
    subst e1
    have e2 : u = v := by simpa using hv
    subst e2
    have e3 : k = .inr (S x.1) := by
      have := List.head_eq_of_cons_eq hk
      exact this
    exact valV_pos (p := (k, u)) e3
  | x :: r, (k, u) :: t, i + 1, e, v, hk, nd, h, hv => by
    have e3 : k = .inr (S x.1) := List.head_eq_of_cons_eq hk
    have nd' := List.nodup_cons.mp nd
    have hr : r[i]? = some e := by simpa using h
    have hne : ¬ k = .inr (S e.1) := fun z => by
      rw [e3] at z
      have z2 := S_inj (Sum.inr.inj z)
      exact nd'.1 (List.mem_map.mpr ⟨e, List.mem_of_getElem? hr, z2.symm⟩)
    rw [valV_neg (p := (k, u)) hne]
    exact val_get (List.tail_eq_of_cons_eq hk) nd'.2 hr (by simpa using hv)
theorem Lsts.get (h : Lsts R es kvs H) (nd : (es.map (·.1)).Nodup) {i : Nat} {e : LE} (he : es[i]? = some e) : ∃ L us, valV kvs (.inr (S e.1)) = some (.ref L) ∧ H L = some (.lst us) ∧ Each R e.2 us H := by
  obtain ⟨u, hu, L, us, rfl, hl, hr⟩ := h.vals.2 i e he
  exact ⟨L, us, val_get h.keys nd he hu, hl, hr⟩
def putE (es : List LE) (f : List Nat) (rs : List RF) : List LE := if (es.any fun e => decide (e.1 = f)) = true then es.map (fun e => if e.1 = f then (e.1, rs) else e) else es ++ [(f, rs)]
theorem any_same {f : List Nat} : ∀ {es : List LE} {kvs : List (Key × V)}, kvs.map (·.1) = es.map (fun e => (Sum.inr (S e.1) : Key)) → (kvs.any fun kv => decide (kv.1 = (.inr (S f) : Key))) = es.any fun e => decide (e.1 = f)
  | [], [], _ => rfl
  | [], _ :: _, h => by simp at h
  | _ :: _, [], h => by simp at h
  | x :: r, (k, u) :: t, h => by
    have e3 : k = .inr (S x.1) := List.head_eq_of_cons_eq h
    rw [List.any_cons, List.any_cons, any_same (List.tail_eq_of_cons_eq h)]
    congr 1
    exact decide_eq_decide.mpr ⟨fun z => S_inj (Sum.inr.inj (e3.symm.trans z)), fun z => by rw [e3, z]⟩
/-- a list put at a text -/
theorem Lsts.put {d : Addr} {f : List Nat} {rs : List RF} {L : Addr} {us : List V} (h : Lsts R es kvs H) (hd : H d = some (.dK kvs)) (hL : H L = some (.lst us)) (hr : Each R rs us H) (r : ∀ g u, R g u H → R g u (upd H d (.dK (putK kvs (.inr (S f)) (.ref L))))) :
    Lsts R (putE es f rs) (putK kvs (.inr (S f)) (.ref L)) (upd H d (.dK (putK kvs (.inr (S f)) (.ref L)))) := by
  have h' := h.dict (o := .dK (putK kvs (.inr (S f)) (.ref L))) hd r
  have hL' : upd H d (.dK (putK kvs (.inr (S f)) (.ref L))) L = some (.lst us) := by
    rw [upd_ne (fun z => by rw [z, hd] at hL; cases hL)]
    exact hL
  have hr' : Each R rs us (upd H d (.dK (putK kvs (.inr (S f)) (.ref L)))) := hr.imp fun g u => r g u
  generalize upd H d (.dK (putK kvs (.inr (S f)) (.ref L))) = H1 at *
  have ha := any_same (f := f) h.keys
  unfold putE putK
  by_cases hany : (es.any fun e => decide (e.1 = f)) = true
  · rw [if_pos hany, if_pos (ha.trans hany)]
    have hk := h'.keys
    refine ⟨?_, ?_, fun i e he => ?_⟩
    · rw [List.map_map, List.map_map]
      have e1 : kvs.map ((fun x => x.1) ∘ fun kv => if kv.1 = (Sum.inr (S f) : Key) then (kv.1, V.ref L) else kv) = kvs.map (·.1) := List.map_congr_left fun kv _ => by
        show (if kv.1 = _ then (kv.1, V.ref L) else kv).1 = kv.1
        split <;> rfl
      have e2 : es.map ((fun e => (Sum.inr (S e.1) : Key)) ∘ fun e => if e.1 = f then (e.1, rs) else e) = es.map fun e => (Sum.inr (S e.1) : Key) := List.map_congr_left fun e _ => by
        show (Sum.inr (S (if e.1 = f then (e.1, rs) else e).1) : Key) = _
        split <;> rfl
      rw [e1, e2]
      exact hk
    · simp [h.len]
    · rw [List.getElem?_map] at he
      obtain ⟨e0, he0, e1⟩ := Option.map_eq_some_iff.mp he
      obtain ⟨u, hu, L0, us0, rfl, hl0, hr0⟩ := h'.vals.2 i e0 he0
      rw [List.getElem?_map] at hu
      obtain ⟨kv, hkv, ekv⟩ := Option.map_eq_some_iff.mp hu
      have hk1 : kv.1 = .inr (S e0.1) := by
        have h3 : (kvs.map (·.1))[i]? = some kv.1 := by rw [List.getElem?_map, hkv]; rfl
        rw [hk, List.getElem?_map, he0] at h3
        exact (Option.some.inj h3).symm
      by_cases hf : e0.1 = f
      · have e2 : e = (e0.1, rs) := by rw [← e1, if_pos hf]
        refine ⟨.ref L, ?_, L, us, rfl, hL', by rw [e2]; exact hr'⟩
        rw [List.getElem?_map, List.getElem?_map, hkv]
        show some (if kv.1 = _ then (kv.1, V.ref L) else kv).2 = _
        rw [if_pos (by rw [hk1, hf])]
      · have e2 : e = e0 := by rw [← e1, if_neg hf]
        refine ⟨.ref L0, ?_, L0, us0, rfl, hl0, by rw [e2]; exact hr0⟩
        rw [List.getElem?_map, List.getElem?_map, hkv]
        show some (if kv.1 = _ then (kv.1, V.ref L) else kv).2 = _
        rw [if_neg (by rw [hk1]; exact fun z => hf (S_inj (Sum.inr.inj z))), ekv]
  · rw [if_neg hany, if_neg (by rw [ha]; exact hany)]
    refine ⟨by rw [List.map_append, List.map_append, h.keys]; rfl, ?_⟩
    rw [List.map_append]
    exact h'.vals.snoc ⟨L, us, rfl, hL', hr'⟩
end
/-! ### targets in a try, a comprehension in another -/
theorem pg_tupK {X : Cx} {K : PySem.W.Frag} {es : List Expr} {k n : Nat} {pos : Pos} {t : TGs} (hc : X.calm = true) (h : PGs X es t) (hK : X.K = K := by rfl) (hn : (assignEach es X.env).length = n := by rfl) (hst : (assignEach es X.env).findIdx? (·.1) = none := by rfl) : PG X (.Tuple es k pos) (gTup K n t) := by
  subst hK
  exact pg_tup hc h hn hst
theorem blkOk_blk {N : List Str} {bs scope : Scope} {cl : List (Str × Addr)} {C : Addr} {env : Env} {own : List (Str × Nat)} (h : blkC N (relS bs env.scope) scope own = true) : BlkOk N (compEnvC bs cl C env).scope scope own := blkOk_by h

/-! ### dicts whose keys are tuples of data, at any depth -/
mutual
def kOf : PyData → NestedKey
  | .int i => .num i
  | .bool b => .num (if b = true then 1 else 0)
  | .str x => .text x
  | .tuple ds => .tup (kOfs ds)
  | _ => .none
def kOfs : List PyData → List NestedKey
  | [] => []
  | d :: ds => kOf d :: kOfs ds
end
mutual
def hashD : PyData → Bool
  | .none => true
  | .int _ => true
  | .bool _ => true
  | .str _ => true
  | .tuple ds => hashDs ds
  | _ => false
def hashDs : List PyData → Bool
  | [] => true
  | d :: ds => hashD d && hashDs ds
end
theorem kOfs_map : ∀ ds : List PyData, kOfs ds = ds.map kOf
  | [] => by simp [kOfs]
  | d :: ds => by simp [kOfs, kOfs_map ds]
theorem hashDs_iff : ∀ ds : List PyData, hashDs ds = true ↔ ∀ d ∈ ds, hashD d = true
  | [] => by simp [hashDs]
  | d :: ds => by simp [hashDs, hashDs_iff ds]
section
variable {X : Cx} {pins : List (Addr × Obj)} {σ : L2.St} {H : Hp} {s : Shared}
mutual
theorem nest_is (I : Inv X pins σ H s) : ∀ (d : PyData) (v : V) (u : Value), Dp X.K H v d → RelV v u → hashD d = true → NestedIs s.heap (kOf d) u
  | .none, _, _, .non, r, _ => by
    cases r
    simp only [kOf]
    exact .none
  | .bool b, _, _, .bl _, r, _ => by
    cases r
    simp only [kOf]
    exact .bool rfl
  | .int i, _, _, .int _, r, _ => by
    obtain ⟨t, rfl⟩ := r
    simp only [kOf]
    exact .int _ _
  | .str x, _, _, .str _, r, _ => by
    obtain ⟨t, rfl⟩ := r
    simp only [kOf]
    exact .text _ _
  | .tuple ds, _, _, .tup h a, r, hh => by
    cases r
    obtain ⟨its, rv, ⟨o, ho, hc, n, hd⟩, _⟩ := I.tuple h
    simp only [kOf]
    exact .tup ho hc hd (by simpa using nest_all I ds _ its a rv (by simpa only [hashD] using hh))
  | .list ds, _, _, _, _, hh => by simp [hashD] at hh
theorem nest_all (I : Inv X pins σ H s) : ∀ (ds : List PyData) (vs : List V) (us : List Value), DpAll X.K H vs ds → Vals vs us → hashDs ds = true → NestedAll s.heap (kOfs ds) us
  | [], _, _, .nil, r, _ => by
    cases r
    simp only [kOfs]
    exact .nil
  | d :: ds, _, _, .cons h a, r, hh => by
    cases r with
    | cons r1 r2 =>
      have hh' : hashD d = true ∧ hashDs ds = true := by simpa only [hashDs, Bool.and_eq_true] using hh
      simp only [kOfs]
      exact .cons (nest_is I d _ _ h r1 hh'.1) (nest_all I ds _ _ a r2 hh'.2)
end
end
/-- the thing at b is the key k -/
def KeyA (K : PySem.W.Frag) (H : Hp) (k : NestedKey) (b : Addr) : Prop := ∃ d, Dp K H (.ref b) d ∧ hashD d = true ∧ kOf d = k ∧ k.depth ≤ 8
theorem KeyA.mono {K : PySem.W.Frag} {H H' : Hp} {k : NestedKey} {b : Addr} (h : KeyA K H k b) (e : Same H H') : KeyA K H' k b := let ⟨d, a, r⟩ := h; ⟨d, dp_mono e d _ a, r⟩
mutual
theorem tupB_hash : ∀ d : PyData, hashD d = true → tupB d = true
  | .none, _ => by simp [tupB]
  | .bool _, _ => by simp [tupB]
  | .int _, _ => by simp [tupB]
  | .str _, _ => by simp [tupB]
  | .tuple ds, h => by
    simp only [hashD] at h
    simp only [tupB]
    exact tupBs_hash ds h
  | .list _, h => by simp [hashD] at h
  | .dict _, h => by simp [hashD] at h
theorem tupBs_hash : ∀ ds : List PyData, hashDs ds = true → tupBs ds = true
  | [], _ => by simp [tupBs]
  | d :: ds, h => by
    have h' : hashD d = true ∧ hashDs ds = true := by simpa only [hashDs, Bool.and_eq_true] using h
    simp only [tupBs, Bool.and_eq_true]
    exact ⟨tupB_hash d h'.1, tupBs_hash ds h'.2⟩
end
theorem KeyA.nd {K : PySem.W.Frag} {H H' : Hp} {k : NestedKey} {b : Addr} (h : KeyA K H k b) (e : ND H H') : KeyA K H' k b := let ⟨d, a, r, z⟩ := h; ⟨d, dp_nd e d _ (tupB_hash d r) a, r, z⟩
/-- all stays but lists, dicts, sets -/
def NM (H H' : Hp) : Prop := ∀ a o, H a = some o → (∀ l, o ≠ .lst l) → (∀ ks, o ≠ .dK ks) → (∀ q ks, o ≠ .frz q (.dK ks)) → (∀ φ, o ≠ .ext φ) → (∀ q φ, o ≠ .frz q (.ext φ)) → H' a = some o
theorem NM.of {H H' : Hp} (e : Same H H') : NM H H' := fun a o h _ _ _ _ _ => e a o h
theorem NM.nd {H H' : Hp} (e : ND H H') : NM H H' := fun a o h n m w _ _ => e a o h n m w
theorem NM.refl {H : Hp} : NM H H := fun _ _ h _ _ _ _ _ => h
theorem NM.trans {H H1 H2 : Hp} (a : NM H H1) (b : NM H1 H2) : NM H H2 := fun c o h n m w x y => b c o (a c o h n m w x y) n m w x y
theorem NM.ext {H : Hp} {d : Addr} {φ : Heap → Prop} {o : HO} (h : H d = some (.ext φ)) : NM H (upd H d o) := fun a u e _ _ _ m _ => by
  have q : a ≠ d := fun z => by
    rw [z, h] at e
    exact m φ (Option.some.inj e).symm
  rw [upd_ne q]
  exact e
theorem sqT_nm {K : PySem.W.Frag} {H H' : Hp} {a : Addr} {xs : List V} (h : SqT K H a xs) (e : NM H H') : SqT K H' a xs := by
  rcases h with (h | ⟨o, h⟩) | h
  · exact .inl (.inl (e _ _ h (fun _ z => nomatch z) (fun _ z => nomatch z) (fun _ _ z => nomatch z) (fun _ z => nomatch z) fun _ _ z => nomatch z))
  · exact .inl (.inr ⟨o, e _ _ h (fun _ z => nomatch z) (fun _ z => nomatch z) (fun _ _ z => nomatch z) (fun _ z => nomatch z) fun _ _ z => nomatch z⟩)
  · exact .inr h
mutual
theorem dp_nm {K : PySem.W.Frag} {H H' : Hp} (e : NM H H') : ∀ (d : PyData) (v : V), tupB d = true → Dp K H v d → Dp K H' v d
  | .none, _, _, .non => .non
  | .bool _, _, _, .bl b => .bl b
  | .int _, _, _, .int i => .int i
  | .str _, _, _, .str x => .str x
  | .tuple ds, _, t, .tup h a => .tup (sqT_nm h e) (dpAll_nm e ds _ (by simpa only [tupB] using t) a)
  | .list ds, _, t, _ => by simp [tupB] at t
theorem dpAll_nm {K : PySem.W.Frag} {H H' : Hp} (e : NM H H') : ∀ (ds : List PyData) (vs : List V), tupBs ds = true → DpAll K H vs ds → DpAll K H' vs ds
  | [], _, _, .nil => .nil
  | d :: ds, _, t, .cons h a => by
    have t' : tupB d = true ∧ tupBs ds = true := by simpa only [tupBs, Bool.and_eq_true] using t
    exact .cons (dp_nm e d _ t'.1 h) (dpAll_nm e ds _ t'.2 a)
end
theorem KeyA.nm {K : PySem.W.Frag} {H H' : Hp} {k : NestedKey} {b : Addr} (h : KeyA K H k b) (e : NM H H') : KeyA K H' k b := let ⟨d, a, r, z⟩ := h; ⟨d, dp_nm e d _ (tupB_hash d r) a, r, z⟩
theorem KeyA.is {X : Cx} {pins : List (Addr × Obj)} {σ : L2.St} {H : Hp} {s : Shared} (I : Inv X pins σ H s) {k : NestedKey} {b : Addr} (h : KeyA X.K H k b) : (nestedKind X.prog X.w).is s.heap k b := by
  obtain ⟨d, a, r, rfl, z⟩ := h
  exact ⟨nest_is I d _ _ a rfl r, z⟩
/-- the dict at a, by its entries -/
def dN (P : Program) (w : World) (a : Addr) (xs : List (NestedKey × Addr × Value)) : HO := .ext fun h => xs.length ≤ sizeLine ∧ (a == sysModules) = false ∧ ∃ o es ep, h.get? a = some o ∧ o.ExactDict ∧ o.data = .dict es ep ∧ es.toList = xs.map (entryOfKey (nestedKind P w)) ∧ (xs.map (·.1)).Nodup
theorem dN_ok {P : Program} {w : World} {H : Hp} {h : Heap} {a : Addr} {xs : List (NestedKey × Addr × Value)} (hl : xs.length ≤ sizeLine) (hs : (a == sysModules) = false) (x : h.DictOfH (nestedKind P w) a xs) : ObjOk P w H h a (dN P w a xs) := by
  obtain ⟨o, es, ep, e, c, d, q, _, n⟩ := x
  exact ⟨⟨hl, hs, o, es, ep, e, c, d, q, n⟩, ⟨o, e⟩, fun h1 h2 ⟨a1, a2, o', es', ep', e', r⟩ k => ⟨a1, a2, o', es', ep', k _ e', r⟩⟩
/-- what the dict at a holds -/
def DN (P : Program) (w : World) (K : PySem.W.Frag) (H : Hp) (a : Addr) (kvs : List (NestedKey × V)) : Prop := ∃ xs, H a = some (dN P w a xs) ∧ KV kvs (pairsH xs) ∧ ∀ x ∈ xs, KeyA K H x.1 x.2.1
section
variable {P : Program} {w : World} {K : PySem.W.Frag} {H H' : Hp} {a : Addr} {kvs : List (NestedKey × V)}
theorem DN.mono (h : DN P w K H a kvs) (e : Same H H') : DN P w K H' a kvs := let ⟨xs, x, r, k⟩ := h; ⟨xs, e _ _ x, r, fun y hy => (k y hy).mono e⟩
theorem DN.nd (h : DN P w K H a kvs) (e : ND H H') : DN P w K H' a kvs := let ⟨xs, x, r, k⟩ := h; ⟨xs, e _ _ x (fun _ z => nomatch z) (fun _ z => nomatch z) (fun _ _ z => nomatch z), r, fun y hy => (k y hy).nd e⟩
theorem DN.ext (h : DN P w K H a kvs) : ∃ φ, H a = some (.ext φ) := let ⟨_, x, _⟩ := h; ⟨_, x⟩
end
theorem dn_of {X : Cx} {pins : List (Addr × Obj)} {σ : L2.St} {H : Hp} {s : Shared} {a : Addr} {kvs : List (NestedKey × V)} (I : Inv X pins σ H s) (h : DN X.prog X.w X.K H a kvs) :
    ∃ xs, H a = some (dN X.prog X.w a xs) ∧ KV kvs (pairsH xs) ∧ (∀ x ∈ xs, KeyA X.K H x.1 x.2.1) ∧ xs.length ≤ sizeLine ∧ (a == sysModules) = false ∧ s.heap.DictOfH (nestedKind X.prog X.w) a xs := by
  obtain ⟨xs, x, r, k⟩ := h
  obtain ⟨⟨l, z, o, es, ep, e, c, d, q, n⟩, _⟩ := (show ObjOk X.prog X.w H s.heap a (dN X.prog X.w a xs) from I.hok a _ x)
  exact ⟨xs, x, r, k, l, z, o, es, ep, e, c, d, q, fun y hy => (k y hy).is I, n⟩
theorem kv_len {xs : List (NestedKey × Addr × Value)} {kvs : List (NestedKey × V)} (r : KV kvs (pairsH xs)) : kvs.length = xs.length := by rw [r.length, pairsH_length]
theorem mem_storedH {xs : List (NestedKey × Addr × Value)} {k : NestedKey} {b : Addr} {u : Value} {P : NestedKey → Addr → Prop} (h : ∀ x ∈ xs, P x.1 x.2.1) (hb : P k b) : ∀ x ∈ storedH xs k b u, P x.1 x.2.1 := by
  intro x hx
  unfold storedH at hx
  split at hx
  · obtain ⟨y, hy, rfl⟩ := List.mem_map.mp hx
    have := h y hy
    unfold putAt
    split
    · exact this
    · exact this
  · rcases List.mem_append.mp hx with hx | hx
    · exact h x hx
    · rw [List.mem_singleton.mp hx]
      exact hb
/-- the key that y is -/
def KeyV (K : PySem.W.Frag) (H : Hp) (k : NestedKey) (y : V) : Prop := ∃ b, y = .ref b ∧ KeyA K H k b
theorem KeyV.of {K : PySem.W.Frag} {H : Hp} {b : Addr} {d : PyData} (h : Dp K H (.ref b) d) (t : hashD d = true) (z : (kOf d).depth ≤ 8) : KeyV K H (kOf d) (.ref b) := ⟨b, rfl, d, h, t, rfl, z⟩
/-! #### rules -/
def tNNew (P : Program) (w : World) : TE := fun _ H Q => ∀ p, H p = none → Q (.ref p) (upd H p (dN P w p []))
def tNSetd (P : Program) (w : World) (K : PySem.W.Frag) (td ty tx : TE) : TE := fun σ H Q => td σ H fun x H1 => ∃ a, x = .ref a ∧ (∃ kvs, DN P w K H1 a kvs) ∧ ty σ H1 fun y H2 => tx σ H2 fun z H3 => ∃ kvs k, DN P w K H3 a kvs ∧ KeyV K H3 k y ∧ kvs.length < sizeLine ∧
  (∀ v, valV kvs k = some v → Q v H3) ∧ (valV kvs k = none → ∀ xs, DN P w K (upd H3 a (dN P w a xs)) a (putK kvs k z) → Q z (upd H3 a (dN P w a xs)))
section
variable {X : Cx} {pos : Pos}
theorem dN_new {P : Program} {w : World} {K : PySem.W.Frag} {H : Hp} {p : Addr} : DN P w K (upd H p (dN P w p [])) p [] := ⟨[], upd_same, .nil, fun _ h => nomatch h⟩
theorem pe_dnewN {P : Program} {w : World} (hP : X.prog = P := by rfl) (hw : X.w = w := by rfl) : PE X (.Dict [] [] pos) (tNNew P w) := by
  subst hP hw
  exact ⟨fun pins s σ H Q I h => wpAny_Dict_empty ⟨.ref s.heap.objs.size, _, I.laid (a := s.heap.objs.size) (o := dN X.prog X.w s.heap.objs.size []) (t' := s.toks) (fun _ _ q => Heap.get?_push_of_some _ q) (Nat.le_refl _)
    (dN_ok (Nat.zero_le _) (beq_eq_false_iff_ne.mpr (Ne.symm (Nat.ne_of_lt I.big))) (Heap.DictOfH.new _)), rfl, h _ (I.hok.fresh (Nat.le_refl _))⟩⟩
theorem nroom {A : Around} (hu : A.units + 16 < cLine) {P : Program} {w : World} : (nestedKind P w).room A.in1 := by
  show A.in1.units + 8 < cLine
  simp only [Around.in1_units]
  omega
theorem hu16 {k : Nat} {A : Around} (hr : Room k A) : A.units + 16 < cLine := by
  have := hr.un
  omega
variable {o i e f value : Expr} {pos' tpos apos cpos : Pos} {td ty tv tx : TE} {P : Program} {w : World} {K : PySem.W.Frag}
section
variable {pins : List (Addr × Obj)} {σ : L2.St} {H : Hp} {s : Shared} {a b : Addr} {kvs : List (NestedKey × V)} {k : NestedKey} {A : Around} {E : Value → Shared → Prop}
theorem n_write {h' : Heap} {t' : Nat} {xs xs' : List (NestedKey × Addr × Value)} (I : Inv X pins σ H s) (e : H a = some (dN X.prog X.w a xs)) (hs : Heap.SameBut a s.heap h') (hl : xs'.length ≤ sizeLine) (hd : (a == sysModules) = false) (dd : h'.DictOfH (nestedKind X.prog X.w) a xs') :
    Inv X pins σ (upd H a (dN X.prog X.w a xs')) { s with heap := h', toks := t' } := by
  have he : ∃ q, h'.get? a = some q := let ⟨q, _, _, hq, _⟩ := dd; ⟨q, hq⟩
  exact d_write I (by rw [e]; exact True.intro) hs he (dN_ok hl hd dd)
theorem n_put {xs : List (NestedKey × Addr × Value)} {y : V} {u : Value} (e : H a = some (dN P w a xs)) (r : KV kvs (pairsH xs)) (hk : ∀ x ∈ xs, KeyA K H x.1 x.2.1) (hb : KeyA K H k b) (ry : RelV y u) : DN P w K (upd H a (dN P w a (storedH xs k b u))) a (putK kvs k y) := by
  refine ⟨_, upd_same, ?_, mem_storedH (fun x hx => (hk x hx).nm (.ext e)) (hb.nm (.ext e))⟩
  rw [pairsH_storedH]
  exact r.put k ry
theorem n_setd {y d : V} {u r : Value} {Q : Value → Shared → Prop} (hu : A.units + 16 < cLine) (I : Inv X pins σ H s) (g : DN X.prog X.w X.K H a kvs) (hk : KeyV X.K H k y) (ry : RelV y u) (rd : RelV d r) (hl : kvs.length < sizeLine)
    (h1 : ∀ v, valV kvs k = some v → ∀ w' s', Inv X pins σ H s' → RelV v w' → Q w' s')
    (h2 : valV kvs k = none → ∀ xs s', DN X.prog X.w X.K (upd H a (dN X.prog X.w a xs)) a (putK kvs k d) → Inv X pins σ (upd H a (dN X.prog X.w a xs)) s' → Q r s') :
    wpAny (model X.prog X.w) A (call (.builtin "dict.setdefault") [.ref a, u, r]) Q E s := by
  obtain ⟨b, rfl, hb⟩ := hk
  obtain rfl : u = Value.ref b := ry
  obtain ⟨xs, e, rel, ks, hz, hd, dd⟩ := dn_of I g
  refine call_setdefault_heap (hsz := hz) (nroom hu) (hb.is I) hd dd (fun p hp => ?_) fun hn h' dd' hs => h2 ?_ _ _ (n_put e rel ks hb rd) (n_write I e hs ?_ hd dd')
  · have q := rel.val k
    rw [valueAt_pairsH, hp] at q
    cases e2 : valV kvs k with
    | none => rw [e2] at q; exact (show False from q).elim
    | some v =>
      rw [e2] at q
      exact h1 v e2 _ _ (I.tok _) q
  · have q := rel.val k
    rw [valueAt_pairsH, hn] at q
    cases e2 : valV kvs k with
    | none => rfl
    | some v => rw [e2] at q; exact (show False from q).elim
  · have := storedH_length xs k b r
    have := kv_len rel
    omega
theorem n_typ (I : Inv X pins σ H s) (g : DN X.prog X.w X.K H a kvs) : s.TypeIs (.ref a) "dict" ∧ ∀ b, Value.ref a = .ref b → ∃ ob, s.heap.get? b = some ob ∧ ob.dict = none := by
  obtain ⟨xs, e, rel, ks, hz, hd, dd⟩ := dn_of I g
  refine ⟨dd.typeIs, fun b q => ?_⟩
  cases q
  obtain ⟨o, es, ep, h1, h2, _⟩ := dd
  exact ⟨o, h1, h2.2.1⟩
end
theorem pe_dsetdN (hu : X.A.units + 16 < cLine) (ho : PE X o td) (he : PE X e ty) (hf : PE X f tx) (m : M2 X o "setdefault" apos e f cpos) (hP : X.prog = P := by rfl) (hw : X.w = w := by rfl) (hK : X.K = K := by rfl) : PE X (.Call (.Attribute o "setdefault" apos) [e, f] [] cpos) (tNSetd P w K td ty tx) := by
  subst hP hw hK
  refine ⟨fun pins s σ H Q I h => ?_⟩
  refine wpAny_Call_method m.base m.few m.line PySem.F.plainAttrs_dict PySem.F.slot_dict_setdefault PySem.F.type_dict_setdefault (thn (ho.run pins s σ H _ I h) fun u s1 ⟨x, H1, I1, rx, a, ex, ⟨kv1, g1⟩, q1⟩ => ?_)
  subst ex
  obtain rfl : u = Value.ref a := rx
  obtain ⟨t1, t2⟩ := n_typ I1 g1
  refine ⟨t1, t2, ?_⟩
  rw [m.trees]
  refine Calls.callWith_builtin rfl (Calls.evalArgs_plain (Calls.spliced_cons (thn (he.run pins s1 σ H1 _ I1 q1) fun iv s2 ⟨y, H2, I2, ry, q2⟩ =>
    Calls.spliced_cons (thn (hf.run pins s2 σ H2 _ I2 q2) fun fv s3 ⟨z, H3, I3, rz, kvs, k, g, hk, hl, q3, q4⟩ => Calls.spliced_nil ?_))))
  exact n_setd hu I3 g hk ry rz hl (fun v hv w' s4 I4 rw' => ⟨v, _, I4, rw', q3 v hv⟩) fun hn xs s4 d4 I4 => ⟨z, _, I4, rz, q4 hn xs d4⟩
/-! #### a display of one entry -/
/-! #### len, list of the keys, list of the values -/
theorem call_lenN (hP : X.prog = P := by rfl) (hw : X.w = w := by rfl) (hK : X.K = K := by rfl) : CallR X (.builtin "len") (fun xs H Q => ∃ a kvs, xs = [V.ref a] ∧ DN P w K H a kvs ∧ Q (.int (kvs.length : Nat)) H) := by
  subst hP hw hK
  intro pins s σ H xs us Q I r h
  obtain ⟨a, kvs, rfl, g, q⟩ := h
  obtain ⟨u, rfl, hu⟩ := vals1 r
  obtain rfl : u = Value.ref a := hu
  obtain ⟨xs, e, rel, ks, hz, hd, dd⟩ := dn_of I g
  have el : (pairsH xs).length = kvs.length := rel.length.symm
  refine PyProof.Rows.call_len_slot (n := kvs.length) dd.typeIs F.slot_dict_len (fun Q' hq => len_keyed hd ⟨xs, dd, rfl⟩ (by rw [el]; exact hq)) (by omega) (by have := kv_len rel; rw [sizeLine_eq] at hz; omega) ?_
  exact ⟨.int (kvs.length : Nat), H, I.tok _, ⟨_, rfl⟩, q⟩
/-! #### membership among data, places among data -/
theorem o_neD (hu : X.A.units + 64 < cLine) (hK : X.K = K := by rfl) : OpR X (compareOp .NotEq) (rNeD K) := by subst hK; exact op_neD hu
theorem o_notinD (hu : X.A.units + 65 < cLine) (hK : X.K = K := by rfl) : OpR X (compareOp .NotIn) (rNotInD K) := by subst hK; exact op_notInD hu
theorem mo_indexD (hu : X.A.units + 65 < cLine) (hK : X.K = K := by rfl) : MtR X "list.index" (rIndexD K) := by subst hK; exact mt_indexD hu
end
/-! ### the least table: plain -/
abbrev Tab := List (List Nat)
def trow (Z : Tab) (s : Nat) : List Nat := Z.getD s []
def tstep (Z : Tab) (s k : Nat) : Nat := (trow Z s).getD k 0
def trun (Z : Tab) (s : Nat) (w : List Nat) : Nat := w.foldl (tstep Z) s
/-- a table of n stands over m classes -/
structure TabOk (Z : Tab) (m : Nat) : Prop where
  pos : 0 < Z.length
  wid : ∀ r ∈ Z, r.length = m
  lt : ∀ r ∈ Z, ∀ o ∈ r, o < Z.length
inductive Reach (Z : Tab) : Nat → Prop
  | zero : Reach Z 0
  | step {s o : Nat} : Reach Z s → o ∈ trow Z s → Reach Z o
section
variable {Z : Tab} {m : Nat}
theorem TabOk.row (h : TabOk Z m) {s : Nat} (hs : s < Z.length) : trow Z s ∈ Z := by
  unfold trow
  rw [List.getD_eq_getElem?_getD, List.getElem?_eq_getElem hs]
  exact List.getElem_mem hs
theorem TabOk.rowLen (h : TabOk Z m) {s : Nat} (hs : s < Z.length) : (trow Z s).length = m := h.wid _ (h.row hs)
theorem TabOk.rowLt (h : TabOk Z m) {s o : Nat} (hs : s < Z.length) (ho : o ∈ trow Z s) : o < Z.length := h.lt _ (h.row hs) o ho
theorem Reach.lt (h : TabOk Z m) {s : Nat} (r : Reach Z s) : s < Z.length := by
  induction r with
  | zero => exact h.pos
  | step _ ho ih => exact h.rowLt ih ho
theorem tstep_mem {s k : Nat} (hk : k < (trow Z s).length) : tstep Z s k ∈ trow Z s := by
  unfold tstep
  rw [List.getD_eq_getElem?_getD, List.getElem?_eq_getElem hk]
  exact List.getElem_mem hk
theorem Reach.run1 {s k : Nat} (r : Reach Z s) : Reach Z (tstep Z s k) := by
  by_cases hk : k < (trow Z s).length
  · exact .step r (tstep_mem hk)
  · unfold tstep
    rw [List.getD_eq_getElem?_getD, List.getElem?_eq_none (by omega)]
    exact .zero
end
/-- two stands tell the like whatever is read -/
def Alike {α : Type} (A : Nat → α) (Z : Tab) (s t : Nat) : Prop := ∀ w, A (trun Z s w) = A (trun Z t w)
theorem Alike.step {α : Type} {A : Nat → α} {Z : Tab} {s t : Nat} (h : Alike A Z s t) (k : Nat) : Alike A Z (tstep Z s k) (tstep Z t k) := fun w => h (k :: w)
/-- rows of numbers, each met the first time in its turn -/
def metN (seen : List Nat) (o : Nat) : List Nat := if o ∈ seen then seen else seen ++ [o]
structure Normal (Z : Tab) : Prop where
  ex : ∃ c : Nat → Nat, c 0 = 1 ∧ c Z.length = Z.length ∧ ∀ i, i < Z.length → i < c i ∧ (trow Z i).foldl metN (List.range (c i)) = List.range (c (i + 1))
/-- what the least one is -/
structure LeastSp {α : Type} (A : Nat → α) (Z : Tab) (m : Nat) (A' : Nat → α) (Z' : Tab) (f : Nat → Nat) : Prop where
  wid : ∀ r ∈ Z', r.length = m
  zero : f 0 = 0
  lt : ∀ s, Reach Z s → f s < Z'.length
  row : ∀ s, Reach Z s → trow Z' (f s) = (trow Z s).map f
  ans : ∀ s, Reach Z s → A' (f s) = A s
  sur : ∀ i, i < Z'.length → ∃ s, Reach Z s ∧ f s = i
  sep : ∀ i j, i < Z'.length → j < Z'.length → Alike A' Z' i j → i = j
  nor : Normal Z'
section
variable {α : Type} {A A' A2 : Nat → α} {Z Z' Z2 : Tab} {m : Nat} {f g : Nat → Nat}
theorem getD_map (l : List Nat) (k : Nat) (h : f 0 = 0) : (l.map f).getD k 0 = f (l.getD k 0) := by
  rw [List.getD_eq_getElem?_getD, List.getD_eq_getElem?_getD, List.getElem?_map]
  cases l[k]? with
  | none => exact h.symm
  | some x => rfl
theorem LeastSp.step1 (h : LeastSp A Z m A' Z' f) {s : Nat} (r : Reach Z s) (k : Nat) : tstep Z' (f s) k = f (tstep Z s k) := by
  unfold tstep
  rw [h.row s r]
  exact getD_map _ k h.zero
theorem LeastSp.run (h : LeastSp A Z m A' Z' f) : ∀ (w : List Nat) {s : Nat}, Reach Z s → trun Z' (f s) w = f (trun Z s w)
  | [], s, _ => rfl
  | k :: w, s, r => by
    show trun Z' (tstep Z' (f s) k) w = f (trun Z (tstep Z s k) w)
    rw [h.step1 r k]
    exact h.run w r.run1
theorem reach_run : ∀ (w : List Nat) {s : Nat}, Reach Z s → Reach Z (trun Z s w)
  | [], _, r => r
  | k :: w, _, r => reach_run w r.run1 (s := _)
theorem LeastSp.out (h : LeastSp A Z m A' Z' f) (w : List Nat) {s : Nat} (r : Reach Z s) : A' (trun Z' (f s) w) = A (trun Z s w) := by
  rw [h.run w r]
  exact h.ans _ (reach_run w r)
theorem LeastSp.ker (h : LeastSp A Z m A' Z' f) {s t : Nat} (r : Reach Z s) (q : Reach Z t) : f s = f t ↔ Alike A Z s t := by
  refine ⟨fun e w => ?_, fun e => h.sep _ _ (h.lt s r) (h.lt t q) fun w => ?_⟩
  · rw [← h.out w r, ← h.out w q, e]
  · rw [h.out w r, h.out w q]
    exact e w
theorem LeastSp.pos (h : LeastSp A Z m A' Z' f) : 0 < Z'.length := by
  have := h.lt 0 .zero
  rw [h.zero] at this
  exact this
theorem fold_pre : ∀ (r l : List Nat), l <+: r.foldl metN l
  | [], l => List.prefix_refl l
  | o :: r, l => by
    refine List.IsPrefix.trans ?_ (fold_pre r (metN l o))
    unfold metN
    split
    · exact List.prefix_refl l
    · exact List.prefix_append _ _
theorem range_pre {l : List Nat} {n : Nat} (h : l <+: List.range n) : l = List.range l.length := by
  obtain ⟨t, e⟩ := h
  refine List.ext_getElem? fun i => ?_
  by_cases hi : i < l.length
  · have : l[i]? = (List.range n)[i]? := by rw [← e, List.getElem?_append_left hi]
    rw [this]
    have hn : l.length ≤ n := by
      have := congrArg List.length e
      rw [List.length_append, List.length_range] at this
      omega
    rw [List.getElem?_range (by omega), List.getElem?_range hi]
  · rw [List.getElem?_eq_none (by omega), List.getElem?_eq_none (by rw [List.length_range]; omega)]
/-- one row under a one-to-one renaming that leaves the numbers so far as they are -/
theorem row_fix {p : Nat → Nat} (inj : ∀ a b, a < n → b < n → p a = p b → a = b) : ∀ (r : List Nat) (c d e : Nat), (∀ o ∈ r, o < n) → d ≤ n → (∀ j, j < c → p j = j) → c ≤ n →
    r.foldl metN (List.range c) = List.range d → (r.map p).foldl metN (List.range c) = List.range e → e = d ∧ ∀ j, j < d → p j = j
  | [], c, d, e, _, _, hp, _, h1, h2 => by
    have e1 : c = d := by have := congrArg List.length h1; simpa using this
    have e2 : c = e := by have := congrArg List.length h2; simpa using this
    subst e1
    exact ⟨e2.symm, hp⟩
  | o :: r, c, d, e, ho, hd, hp, hc, h1, h2 => by
    rw [List.foldl_cons] at h1
    rw [List.map_cons, List.foldl_cons] at h2
    have on : o < n := ho o List.mem_cons_self
    by_cases oc : o < c
    · have a1 : metN (List.range c) o = List.range c := if_pos (List.mem_range.mpr oc)
      have a2 : metN (List.range c) (p o) = List.range c := by rw [hp o oc]; exact a1
      rw [a1] at h1
      rw [a2] at h2
      exact row_fix inj r c d e (fun x hx => ho x (List.mem_cons_of_mem _ hx)) hd hp hc h1 h2
    · have a1 : metN (List.range c) o = List.range c ++ [o] := if_neg (by rw [List.mem_range]; exact oc)
      have q1 : List.range c ++ [o] <+: List.range d := by rw [← h1, a1]; exact fold_pre _ _
      have o1 : List.range c ++ [o] = List.range (c + 1) := by
        have := range_pre q1
        rwa [List.length_append, List.length_range] at this
      have oe : o = c := by
        rw [List.range_succ] at o1
        have := List.append_cancel_left o1
        exact List.head_eq_of_cons_eq this
      have cd : c + 1 ≤ d := by
        have := q1.length_le
        rw [List.length_append, List.length_range, List.length_range] at this
        exact this
      have pc : ¬ p o < c := fun z => by
        have e1 := hp (p o) z
        have := inj (p o) o (by omega) on e1
        omega
      have a2 : metN (List.range c) (p o) = List.range c ++ [p o] := if_neg (by rw [List.mem_range]; exact pc)
      have q2 : List.range c ++ [p o] <+: List.range e := by rw [← h2, a2]; exact fold_pre _ _
      have o2 : List.range c ++ [p o] = List.range (c + 1) := by
        have := range_pre q2
        rwa [List.length_append, List.length_range] at this
      have pe : p o = c := by
        rw [List.range_succ] at o2
        have := List.append_cancel_left o2
        exact List.head_eq_of_cons_eq this
      rw [a1, o1] at h1
      rw [a2, o2] at h2
      refine row_fix inj r (c + 1) d e (fun x hx => ho x (List.mem_cons_of_mem _ hx)) hd (fun j hj => ?_) (by omega) h1 h2
      by_cases jc : j < c
      · exact hp j jc
      · have : j = c := by omega
        rw [this, ← oe, pe, oe]
theorem LeastSp.rowLt (h : LeastSp A Z m A' Z' f) : ∀ i, i < Z'.length → ∀ o ∈ trow Z' i, o < Z'.length := by
  intro i hi o ho
  obtain ⟨s, r, rfl⟩ := h.sur i hi
  rw [h.row s r] at ho
  obtain ⟨x, hx, rfl⟩ := List.mem_map.mp ho
  exact h.lt x (.step r hx)
/-- there is one alone -/
theorem LeastSp.uniq (h : LeastSp A Z m A' Z' f) (k : LeastSp A Z m A2 Z2 g) : Z' = Z2 ∧ ∀ i, i < Z'.length → A' i = A2 i := by
  -- the renaming
  have ex : ∀ i, ∃ j, i < Z'.length → ∃ s, Reach Z s ∧ f s = i ∧ g s = j := fun i => by
    by_cases hi : i < Z'.length
    · obtain ⟨s, r, e⟩ := h.sur i hi
      exact ⟨g s, fun _ => ⟨s, r, e, rfl⟩⟩
    · exact ⟨0, fun z => absurd z hi⟩
  obtain ⟨p, hp⟩ := Classical.axiomOfChoice ex
  have pf : ∀ s, Reach Z s → p (f s) = g s := fun s r => by
    obtain ⟨t, q, e1, e2⟩ := hp (f s) (h.lt s r)
    rw [← e2]
    exact (k.ker q r).mpr ((h.ker q r).mp e1)
  have inj : ∀ a b, a < Z'.length → b < Z'.length → p a = p b → a = b := fun a b ha hb e => by
    obtain ⟨s, r, rfl, e1⟩ := hp a ha
    obtain ⟨t, q, rfl, e2⟩ := hp b hb
    exact (h.ker r q).mpr ((k.ker r q).mp (e1.trans (e.trans e2.symm)))
  have prow : ∀ i, i < Z'.length → trow Z2 (p i) = (trow Z' i).map p := fun i hi => by
    obtain ⟨s, r, rfl, e1⟩ := hp i hi
    rw [← e1, k.row s r, h.row s r, List.map_map]
    refine List.map_congr_left fun o ho => ?_
    exact (pf o (.step r ho)).symm
  obtain ⟨c, c0, cn, cs⟩ := h.nor.ex
  obtain ⟨d, d0, dn, ds⟩ := k.nor.ex
  have plt : ∀ i, i < Z'.length → p i < Z2.length := fun i hi => by
    obtain ⟨s, r, _, e1⟩ := hp i hi
    rw [← e1]
    exact k.lt s r
  have p0 : p 0 = 0 := by
    have := pf 0 .zero
    rwa [h.zero, k.zero] at this
  have cle : ∀ i, i ≤ Z'.length → c i ≤ Z'.length := by
    intro i hi
    have : ∀ j, i ≤ j → j ≤ Z'.length → c i ≤ c j := by
      intro j hij
      induction j with
      | zero => intro _; rw [Nat.le_zero.mp hij]; exact Nat.le_refl _
      | succ j ih =>
        intro hj
        rcases Nat.lt_or_eq_of_le hij with z | z
        · refine Nat.le_trans (ih (by omega) (by omega)) ?_
          have := (fold_pre (trow Z' j) (List.range (c j))).length_le
          rw [(cs j (by omega)).2, List.length_range, List.length_range] at this
          exact this
        · rw [z]; exact Nat.le_refl _
    have := this Z'.length hi (Nat.le_refl _)
    omega
  have main : ∀ i, i ≤ Z'.length → (∀ j, j < i → j < Z2.length) ∧ c i = d i ∧ ∀ j, j < c i → p j = j := by
    intro i
    induction i with
    | zero =>
      intro _
      refine ⟨fun j hj => absurd hj (Nat.not_lt_zero _), by rw [c0, d0], fun j hj => ?_⟩
      rw [c0] at hj
      have : j = 0 := by omega
      rw [this, p0]
    | succ i ih =>
      intro hi
      obtain ⟨h1, h2, h3⟩ := ih (by omega)
      have ci := cs i (by omega)
      have pi : p i = i := h3 i ci.1
      have i2 : i < Z2.length := by
        have := plt i (by omega)
        rwa [pi] at this
      have di := ds i i2
      have pr := prow i (by omega)
      rw [pi] at pr
      rw [pr, ← h2] at di
      obtain ⟨e1, e2⟩ := row_fix (n := Z'.length) inj (trow Z' i) (c i) (c (i + 1)) (d (i + 1)) (h.rowLt i (by omega)) (cle _ hi) h3 (cle _ (by omega)) ci.2 di.2
      refine ⟨fun j hj => ?_, e1.symm, e2⟩
      rcases Nat.lt_succ_iff_lt_or_eq.mp hj with z | z
      · exact h1 j z
      · rw [z]; exact i2
  obtain ⟨m1, m2, m3⟩ := main Z'.length (Nat.le_refl _)
  have pid : ∀ j, j < Z'.length → p j = j := fun j hj => m3 j (by rw [cn]; exact hj)
  have len : Z'.length = Z2.length := by
    refine Nat.le_antisymm ?_ ?_
    · rcases Nat.lt_or_ge Z2.length Z'.length with z | z
      · exact absurd (m1 Z2.length z) (Nat.lt_irrefl _)
      · exact z
    · -- every stand of the other one is p of one here
      rcases Nat.lt_or_ge Z'.length Z2.length with z | z
      · obtain ⟨s, r, e⟩ := k.sur Z'.length z
        have := pf s r
        rw [pid _ (h.lt s r), e] at this
        have := h.lt s r
        omega
      · exact z
  have rows : ∀ i, i < Z'.length → trow Z' i = trow Z2 i := fun i hi => by
    have := prow i hi
    rw [pid i hi] at this
    rw [this]
    exact (List.map_id _).symm.trans (List.map_congr_left fun o ho => (pid o (h.rowLt i hi o ho)).symm)
  refine ⟨?_, fun i hi => ?_⟩
  · refine List.ext_getElem? fun i => ?_
    by_cases hi : i < Z'.length
    · have e := rows i hi
      unfold trow at e
      rw [List.getD_eq_getElem?_getD, List.getD_eq_getElem?_getD, List.getElem?_eq_getElem hi, List.getElem?_eq_getElem (by omega)] at e
      rw [List.getElem?_eq_getElem hi, List.getElem?_eq_getElem (by omega)]
      exact congrArg some e
    · rw [List.getElem?_eq_none (by omega), List.getElem?_eq_none (by omega)]
  · obtain ⟨s, r, e1, e2⟩ := hp i hi
    have a1 := h.ans s r
    have a2 := k.ans s r
    rw [e1] at a1
    rw [e2, pid i hi] at a2
    rw [a1, a2]
end
/-! #### parting -/
/-- what a def that parts leaves: like numbers just where the block and the blocks behind were like -/
theorem fewer {R : List Nat} {b b' : Nat → Nat} {l l' : List Int} (ref : ∀ s ∈ R, ∀ t ∈ R, b' s = b' t → b s = b t)
    (h1 : ∀ x, x ∈ l ↔ x ∈ R.map fun s => (b s : Int)) (h2 : l'.Nodup) (h3 : ∀ x, x ∈ l' ↔ x ∈ R.map fun s => (b' s : Int)) (n1 : l.Nodup) (le : l'.length ≤ l.length) : ∀ s ∈ R, ∀ t ∈ R, b s = b t → b' s = b' t := by
  intro s hs t ht e
  refine Classical.byContradiction fun ne => ?_
  have ex : ∀ x : Int, ∃ r, x ∈ l → r ∈ R ∧ (b r : Int) = x := fun x => by
    by_cases hx : x ∈ l
    · obtain ⟨r, hr, e⟩ := List.mem_map.mp ((h1 x).mp hx)
      exact ⟨r, fun _ => ⟨hr, e⟩⟩
    · exact ⟨0, fun z => absurd z hx⟩
  obtain ⟨rep, hrep⟩ := Classical.axiomOfChoice ex
  have nodup_len : ∀ (a c : List Int), a.Nodup → (∀ x ∈ a, x ∈ c) → a.length ≤ c.length := by
    intro a
    induction a with
    | nil => intro _ _ _; exact Nat.zero_le _
    | cons x r ih =>
      intro c nd hc
      have hx := List.nodup_cons.mp nd
      have := ih (c.erase x) hx.2 fun y hy => by
        have hne : y ≠ x := fun e => hx.1 (e ▸ hy)
        exact (List.mem_erase_of_ne hne).mpr (hc y (List.mem_cons_of_mem _ hy))
      have e1 := List.length_erase_of_mem (hc x List.mem_cons_self)
      have e2 := List.length_pos_of_mem (hc x List.mem_cons_self)
      rw [List.length_cons]
      omega
  -- one of both is not met by the representatives
  have key : ∃ u ∈ R, ∀ x ∈ l, b' (rep x) ≠ b' u := by
    have hx0 : (b s : Int) ∈ l := (h1 _).mpr (List.mem_map.mpr ⟨s, hs, rfl⟩)
    obtain ⟨r0, r1⟩ := hrep _ hx0
    by_cases z : b' (rep (b s : Int)) = b' s
    · refine ⟨t, ht, fun x hx q => ?_⟩
      obtain ⟨q0, q1⟩ := hrep x hx
      have w := ref _ q0 _ ht q
      have : x = (b s : Int) := by rw [← q1, w, e]
      rw [this, z] at q
      exact ne q
    · refine ⟨s, hs, fun x hx q => ?_⟩
      obtain ⟨q0, q1⟩ := hrep x hx
      have w := ref _ q0 _ hs q
      have : x = (b s : Int) := by rw [← q1, w]
      rw [this] at q
      exact z q
  obtain ⟨u, hu, nu⟩ := key
  have nd : ((b' u : Int) :: l.map fun x => (b' (rep x) : Int)).Nodup := by
    refine List.nodup_cons.mpr ⟨fun z => ?_, ?_⟩
    · obtain ⟨x, hx, e⟩ := List.mem_map.mp z
      exact nu x hx (Int.ofNat.inj e)
    · refine (List.pairwise_map.mpr ?_)
      refine n1.imp_of_mem fun {x y} hx hy hxy z => hxy ?_
      obtain ⟨q0, q1⟩ := hrep x hx
      obtain ⟨p0, p1⟩ := hrep y hy
      rw [← q1, ← p1, ref _ q0 _ p0 (Int.ofNat.inj z)]
  have := nodup_len _ l' nd fun x hx => by
    refine (h3 x).mpr ?_
    rcases List.mem_cons.mp hx with rfl | hx
    · exact List.mem_map.mpr ⟨u, hu, rfl⟩
    · obtain ⟨y, hy, rfl⟩ := List.mem_map.mp hx
      exact List.mem_map.mpr ⟨rep y, (hrep y hy).1, rfl⟩
  rw [List.length_cons, List.length_map] at this
  omega
/-- blocks under way: like stands in one block, one block of one answer -/
structure BlocksOk {α : Type} (A : Nat → α) (Z : Tab) (b : Nat → Nat) : Prop where
  like : ∀ s t, Reach Z s → Reach Z t → Alike A Z s t → b s = b t
  ans : ∀ s t, Reach Z s → Reach Z t → b s = b t → A s = A t
/-- parted by what is behind -/
def Parted (Z : Tab) (b b' : Nat → Nat) : Prop := ∀ s t, Reach Z s → Reach Z t → (b' s = b' t ↔ b s = b t ∧ (trow Z s).map b = (trow Z t).map b)
theorem map_like {r1 r2 : List Nat} {b : Nat → Nat} (hl : r1.length = r2.length) (h : ∀ k, k < r1.length → b (r1.getD k 0) = b (r2.getD k 0)) : r1.map b = r2.map b := by
  refine List.ext_getElem? fun k => ?_
  rw [List.getElem?_map, List.getElem?_map]
  by_cases hk : k < r1.length
  · have := h k hk
    rw [List.getD_eq_getElem?_getD, List.getD_eq_getElem?_getD, List.getElem?_eq_getElem hk, List.getElem?_eq_getElem (by omega)] at this
    rw [List.getElem?_eq_getElem hk, List.getElem?_eq_getElem (by omega)]
    exact congrArg some this
  · rw [List.getElem?_eq_none (by omega), List.getElem?_eq_none (by omega)]
theorem BlocksOk.next {α : Type} {A : Nat → α} {Z : Tab} {m : Nat} {b b' : Nat → Nat} (h : BlocksOk A Z b) (ok : TabOk Z m) (p : Parted Z b b') : BlocksOk A Z b' := by
  refine ⟨fun s t r q e => (p s t r q).mpr ⟨h.like s t r q e, ?_⟩, fun s t r q e => h.ans s t r q ((p s t r q).mp e).1⟩
  refine map_like (by rw [ok.rowLen (r.lt ok), ok.rowLen (q.lt ok)]) fun k hk => ?_
  exact h.like _ _ (r.run1 (k := k)) (q.run1 (k := k)) (e.step k)
/-- nothing more is parted -/
def Stable (Z : Tab) (b : Nat → Nat) : Prop := ∀ s t, Reach Z s → Reach Z t → b s = b t → (trow Z s).map b = (trow Z t).map b
theorem stable_of {Z : Tab} {b b' : Nat → Nat} (p : Parted Z b b') (h : ∀ s t, Reach Z s → Reach Z t → b s = b t → b' s = b' t) : Stable Z b' := fun s t r q e => by
  have e2 := ((p s t r q).mp e).2
  have key : ∀ x y, Reach Z x → Reach Z y → b x = b y → b' x = b' y := h
  have hl : (trow Z s).length = (trow Z t).length := by have := congrArg List.length e2; simpa using this
  refine map_like hl fun k hk => ?_
  refine key _ _ (r.run1 (k := k)) (q.run1 (k := k)) ?_
  have e3 := congrArg (fun l : List Nat => l[k]?) e2
  simp only [List.getElem?_map] at e3
  rw [List.getD_eq_getElem?_getD, List.getD_eq_getElem?_getD]
  rw [List.getElem?_eq_getElem hk, List.getElem?_eq_getElem (by omega)] at e3 ⊢
  simpa using e3
/-- going on with reps of blocks: the least one -/
theorem least_made {α : Type} {A : Nat → α} {Z : Tab} {m : Nat} {b : Nat → Nat} (ok : TabOk Z m) (bo : BlocksOk A Z b) (st : Stable Z b) (ls : List Nat) (rep : Nat → Nat) (F : Tab) (nd : ls.Nodup) (h0 : ls[0]? = some (b 0))
    (hr : ∀ x ∈ ls, Reach Z (rep x) ∧ b (rep x) = x) (hF : F.length = ls.length) (hrow : ∀ (i x : Nat), ls[i]? = some x → trow F i = ((trow Z (rep x)).map b).map ls.idxOf) (hin : ∀ x ∈ ls, ∀ y ∈ (trow Z (rep x)).map b, y ∈ ls) (nor : Normal F) :
    LeastSp A Z m (fun i => A (rep (ls.getD i 0))) F (fun s => ls.idxOf (b s)) := by
  have mem : ∀ s, Reach Z s → b s ∈ ls := fun s r => by
    induction r with
    | zero => exact List.mem_of_getElem? h0
    | @step s o r ho ih =>
      obtain ⟨q, e⟩ := hr _ ih
      have e2 := st _ _ q r e
      refine hin _ ih _ ?_
      rw [e2]
      exact List.mem_map.mpr ⟨o, ho, rfl⟩
  have at' : ∀ s, Reach Z s → ls[ls.idxOf (b s)]? = some (b s) := fun s r => by
    have := List.idxOf_lt_length_of_mem (mem s r)
    rw [List.getElem?_eq_getElem this, List.getElem_idxOf]
  have gd : ∀ s, Reach Z s → ls.getD (ls.idxOf (b s)) 0 = b s := fun s r => by
    rw [List.getD_eq_getElem?_getD, at' s r]
    rfl
  have row : ∀ s, Reach Z s → trow F (ls.idxOf (b s)) = (trow Z s).map fun s => ls.idxOf (b s) := fun s r => by
    rw [hrow _ _ (at' s r)]
    obtain ⟨q, e⟩ := hr _ (mem s r)
    rw [st _ _ q r e, List.map_map]
    rfl
  have ans : ∀ s, Reach Z s → A (rep (ls.getD (ls.idxOf (b s)) 0)) = A s := fun s r => by
    rw [gd s r]
    obtain ⟨q, e⟩ := hr _ (mem s r)
    exact bo.ans _ _ q r e
  have zero : ls.idxOf (b 0) = 0 := by
    cases ls with
    | nil => simp at h0
    | cons x l =>
      have : x = b 0 := by simpa using h0
      subst this
      exact List.idxOf_cons_self
  have lt : ∀ s, Reach Z s → ls.idxOf (b s) < F.length := fun s r => by
    rw [hF]
    exact List.idxOf_lt_length_of_mem (mem s r)
  have sur : ∀ i, i < F.length → ∃ s, Reach Z s ∧ ls.idxOf (b s) = i := fun i hi => by
    rw [hF] at hi
    obtain ⟨q, e⟩ := hr ls[i] (List.getElem_mem hi)
    exact ⟨_, q, by rw [e]; exact nd.idxOf_getElem i hi⟩
  have run : ∀ (w : List Nat) s, Reach Z s → trun F (ls.idxOf (b s)) w = ls.idxOf (b (trun Z s w)) := by
    intro w
    induction w with
    | nil => intro s _; rfl
    | cons k w ih =>
      intro s r
      show trun F (tstep F (ls.idxOf (b s)) k) w = ls.idxOf (b (trun Z (tstep Z s k) w))
      rw [← ih _ (r.run1 (k := k))]
      congr 1
      unfold tstep
      rw [row s r]
      exact getD_map (f := fun s => ls.idxOf (b s)) _ k zero
  refine ⟨fun r hr' => ?_, zero, lt, row, ans, sur, fun i j hi hj al => ?_, nor⟩
  · obtain ⟨i, hi, rfl⟩ := List.mem_iff_getElem.mp hr'
    have e : trow F i = F[i] := by unfold trow; rw [List.getD_eq_getElem?_getD, List.getElem?_eq_getElem hi]; rfl
    obtain ⟨s, q, rfl⟩ := sur i hi
    rw [← e, row s q, List.length_map]
    exact ok.rowLen (q.lt ok)
  · obtain ⟨s, r, rfl⟩ := sur i hi
    obtain ⟨t, q, rfl⟩ := sur j hj
    have : b s = b t := bo.like s t r q fun w => by
      have := al w
      rw [run w s r, run w t q] at this
      exact (ans _ (reach_run w r)).symm.trans (this.trans (ans _ (reach_run w q)))
    show ls.idxOf (b s) = ls.idxOf (b t)
    rw [this]
theorem LeastSp.congr {α : Type} {A A' A2 : Nat → α} {Z Z' : Tab} {m : Nat} {f : Nat → Nat} (h : LeastSp A Z m A' Z' f) (e : ∀ i, i < Z'.length → A' i = A2 i) : LeastSp A Z m A2 Z' f := by
  refine ⟨h.wid, h.zero, h.lt, h.row, fun s r => by rw [← e _ (h.lt s r)]; exact h.ans s r, h.sur, fun i j hi hj al => h.sep i j hi hj fun w => ?_, h.nor⟩
  obtain ⟨s, r, rfl⟩ := h.sur i hi
  obtain ⟨t, q, rfl⟩ := h.sur j hj
  have := al w
  rw [h.run w r, h.run w q] at this ⊢
  rw [e _ (h.lt _ (reach_run w r)), e _ (h.lt _ (reach_run w q))]
  exact this

/-! ### stands told apart by few signs -/
theorem nodup_leN : ∀ (a c : List Nat), a.Nodup → (∀ x ∈ a, x ∈ c) → a.length ≤ c.length
  | [], _, _, _ => Nat.zero_le _
  | x :: r, c, nd, hc => by
    have hx := List.nodup_cons.mp nd
    have := nodup_leN r (c.erase x) hx.2 fun y hy => by
      have hne : y ≠ x := fun e => hx.1 (e ▸ hy)
      exact (List.mem_erase_of_ne hne).mpr (hc y (List.mem_cons_of_mem _ hy))
    have e1 := List.length_erase_of_mem (hc x List.mem_cons_self)
    have e2 := List.length_pos_of_mem (hc x List.mem_cons_self)
    rw [List.length_cons]
    omega
/-- told alike by all words of at most t signs -/
def AlikeT {α : Type} (A : Nat → α) (Z : Tab) (t s u : Nat) : Prop := ∀ w : List Nat, w.length ≤ t → A (trun Z s w) = A (trun Z u w)
section
variable {α : Type} {A : Nat → α} {Z : Tab}
theorem AlikeT.mono {t t' s u : Nat} (h : AlikeT A Z t' s u) (le : t ≤ t') : AlikeT A Z t s u := fun w hw => h w (Nat.le_trans hw le)
theorem alikeT_succ {t s u : Nat} : AlikeT A Z (t + 1) s u ↔ A s = A u ∧ ∀ k, AlikeT A Z t (tstep Z s k) (tstep Z u k) := by
  refine ⟨fun h => ⟨h [] (Nat.zero_le _), fun k w hw => h (k :: w) (Nat.succ_le_succ hw)⟩, fun ⟨h0, h1⟩ w hw => ?_⟩
  cases w with
  | nil => exact h0
  | cons k w => exact h1 k w (Nat.le_of_succ_le_succ hw)
/-- where one step more tells nothing, none does -/
theorem alikeT_up {n t : Nat} (cl : ∀ s, s < n → ∀ k, tstep Z s k < n) (st : ∀ s u, s < n → u < n → AlikeT A Z t s u → AlikeT A Z (t + 1) s u) : ∀ j s u, s < n → u < n → AlikeT A Z t s u → AlikeT A Z (t + j) s u
  | 0, _, _, _, _, h => h
  | j + 1, s, u, hs, hu, h => by
    have h1 := alikeT_succ.mp (st s u hs hu h)
    exact alikeT_succ.mpr ⟨h1.1, fun k => alikeT_up cl st j _ _ (cl s hs k) (cl u hu k) (h1.2 k)⟩
/-- the first stand that is told alike -/
noncomputable def firstA (A : Nat → α) (Z : Tab) (n t s : Nat) : Nat := by
  classical exact ((List.range n).find? fun u => decide (AlikeT A Z t u s)).getD s
theorem firstA_ok {n t s : Nat} (hs : s < n) : firstA A Z n t s < n ∧ AlikeT A Z t (firstA A Z n t s) s := by
  classical
  unfold firstA
  cases e : (List.range n).find? fun u => decide (AlikeT A Z t u s) with
  | none => exact ⟨hs, fun _ _ => rfl⟩
  | some u =>
    have h1 := List.find?_some e
    have h2 := List.mem_of_find?_eq_some e
    exact ⟨List.mem_range.mp h2, of_decide_eq_true h1⟩
theorem firstA_eq {n t s u : Nat} (hs : s < n) (hu : u < n) : firstA A Z n t s = firstA A Z n t u ↔ AlikeT A Z t s u := by
  classical
  refine ⟨fun e => ?_, fun h => ?_⟩
  · have a := (firstA_ok (A := A) (Z := Z) (t := t) hs).2
    have b := (firstA_ok (A := A) (Z := Z) (t := t) hu).2
    rw [e] at a
    exact fun w hw => (a w hw).symm.trans (b w hw)
  · have e : (fun x => decide (AlikeT A Z t x s)) = fun x => decide (AlikeT A Z t x u) := funext fun x => decide_eq_decide.mpr ⟨fun g w hw => (g w hw).trans (h w hw), fun g w hw => (g w hw).trans (h w hw).symm⟩
    unfold firstA
    rw [e]
    cases q : (List.range n).find? fun x => decide (AlikeT A Z t x u) with
    | some x => rfl
    | none =>
      have := List.find?_eq_none.mp q u (List.mem_range.mpr hu)
      exact absurd (decide_eq_true (fun _ _ => rfl : AlikeT A Z t u u)) this
/-- the stands that are the first ones -/
noncomputable def firsts (A : Nat → α) (Z : Tab) (n t : Nat) : List Nat := by
  classical exact (List.range n).filter fun s => decide (firstA A Z n t s = s)
theorem firstA_idem {n t s : Nat} (hs : s < n) : firstA A Z n t (firstA A Z n t s) = firstA A Z n t s := by
  have h := firstA_ok (A := A) (Z := Z) (t := t) hs
  exact (firstA_eq h.1 hs).mpr h.2
/-- all that is told apart is told apart by fewer signs than there are stands -/
theorem moore {n : Nat} (cl : ∀ s, s < n → ∀ k, tstep Z s k < n) {s u : Nat} (hs : s < n) (hu : u < n) (h : AlikeT A Z n s u) : Alike A Z s u := by
  classical
  have mem : ∀ t x, x ∈ firsts A Z n t ↔ x < n ∧ firstA A Z n t x = x := fun t x => by
    unfold firsts
    rw [List.mem_filter, List.mem_range, decide_eq_true_eq]
  have nd : ∀ t, (firsts A Z n t).Nodup := fun t => by unfold firsts; exact List.Nodup.sublist List.filter_sublist List.nodup_range
  have grow : ∀ t, (∀ s u, s < n → u < n → AlikeT A Z t s u → AlikeT A Z (t + 1) s u) ∨ t + 1 ≤ (firsts A Z n t).length := by
    intro t
    induction t with
    | zero =>
      right
      have : firstA A Z n 0 s ∈ firsts A Z n 0 := (mem 0 _).mpr ⟨(firstA_ok hs).1, firstA_idem hs⟩
      exact List.length_pos_of_mem this
    | succ t ih =>
      by_cases st : ∀ s u, s < n → u < n → AlikeT A Z t s u → AlikeT A Z (t + 1) s u
      · left
        intro a b ha hb g
        exact alikeT_up cl st 2 a b ha hb (g.mono (Nat.le_succ _))
      · right
        have ih := ih.resolve_left st
        -- one more at least
        obtain ⟨a, b, ha, hb, g, ng⟩ : ∃ a b, a < n ∧ b < n ∧ AlikeT A Z t a b ∧ ¬ AlikeT A Z (t + 1) a b := by
          refine Classical.byContradiction fun z => st fun a b ha hb g => Classical.byContradiction fun w => z ⟨a, b, ha, hb, g, w⟩
        -- the first ones of t are first ones of t + 1
        have sub : ∀ x ∈ firsts A Z n t, x ∈ firsts A Z n (t + 1) := fun x hx => by
          obtain ⟨h1, h2⟩ := (mem t x).mp hx
          refine (mem _ x).mpr ⟨h1, ?_⟩
          have h3 := firstA_ok (A := A) (Z := Z) (t := t + 1) h1
          -- the first one of t + 1 is alike by t, too; none ahead of x is
          unfold firstA at h2 ⊢
          cases e : (List.range n).find? fun u => decide (AlikeT A Z (t + 1) u x) with
          | none => rfl
          | some y =>
            show y = x
            have y0 := List.find?_some e
            have y1 : AlikeT A Z (t + 1) y x := of_decide_eq_true y0
            cases e2 : (List.range n).find? fun u => decide (AlikeT A Z t u x) with
            | none =>
              have := List.find?_eq_none.mp e2 x (List.mem_range.mpr h1)
              exact absurd (decide_eq_true (fun _ _ => rfl : AlikeT A Z t x x)) this
            | some z =>
              rw [e2] at h2
              have hz : z = x := h2
              subst hz
              obtain ⟨p1, i, hi, p2, p3⟩ := List.find?_eq_some_iff_getElem.mp e2
              obtain ⟨q1, j, hj, q2, q3⟩ := List.find?_eq_some_iff_getElem.mp e
              rw [List.getElem_range] at p2 q2
              subst p2
              rcases Nat.lt_trichotomy j i with w | w | w
              · have := p3 j w
                rw [List.getElem_range] at this
                rw [q2, decide_eq_true (y1.mono (Nat.le_succ _))] at this
                cases this
              · rw [← q2, w]
              · have := q3 i w
                rw [List.getElem_range] at this
                have z : AlikeT A Z (t + 1) i i := fun _ _ => rfl
                rw [decide_eq_true z] at this
                cases this
        -- a new one: the first of a or of b
        have key : ∃ x, x ∈ firsts A Z n (t + 1) ∧ x ∉ firsts A Z n t := by
          have fa := firstA_ok (A := A) (Z := Z) (t := t + 1) ha
          have fb := firstA_ok (A := A) (Z := Z) (t := t + 1) hb
          refine Classical.byContradiction fun z => ng ?_
          have ina : firstA A Z n (t + 1) a ∈ firsts A Z n t := Classical.byContradiction fun w => z ⟨_, (mem _ _).mpr ⟨fa.1, firstA_idem ha⟩, w⟩
          have inb : firstA A Z n (t + 1) b ∈ firsts A Z n t := Classical.byContradiction fun w => z ⟨_, (mem _ _).mpr ⟨fb.1, firstA_idem hb⟩, w⟩
          have ea := ((mem _ _).mp ina).2
          have eb := ((mem _ _).mp inb).2
          have al : AlikeT A Z t (firstA A Z n (t + 1) a) (firstA A Z n (t + 1) b) := fun w hw => ((fa.2.mono (Nat.le_succ _)) w hw).trans ((g w hw).trans ((fb.2.mono (Nat.le_succ _)) w hw).symm)
          have := (firstA_eq fa.1 fb.1).mpr al
          rw [ea, eb] at this
          exact (firstA_eq ha hb).mp this
        obtain ⟨x, hx, nx⟩ := key
        have := nodup_leN (x :: firsts A Z n t) (firsts A Z n (t + 1)) (List.nodup_cons.mpr ⟨nx, nd t⟩) fun y hy => by
          rcases List.mem_cons.mp hy with rfl | hy
          · exact hx
          · exact sub y hy
        rw [List.length_cons] at this
        omega
  have top : ∀ s u, s < n → u < n → AlikeT A Z n s u → AlikeT A Z (n + 1) s u := by
    refine (grow n).resolve_right fun z => ?_
    have := nodup_leN (firsts A Z n n) (List.range n) (nd n) fun x hx => List.mem_range.mpr ((mem _ x).mp hx).1
    rw [List.length_range] at this
    omega
  intro w
  exact (alikeT_up cl top w.length s u hs hu h) w (Nat.le_add_left _ _)
end
/-! ### the chain -/
def chainT (n m : Nat) : Tab := (List.range n).map fun k => min (k + 1) (n - 1) :: List.replicate (m - 1) 0
def chainA {α : Type} (n : Nat) (x y : α) (i : Nat) : α := if i = n - 1 then y else x
section
variable {n m : Nat}
theorem chain_len : (chainT n m).length = n := by unfold chainT; rw [List.length_map, List.length_range]
theorem chain_row {s : Nat} (hs : s < n) : trow (chainT n m) s = min (s + 1) (n - 1) :: List.replicate (m - 1) 0 := by
  unfold trow chainT
  rw [List.getD_eq_getElem?_getD, List.getElem?_map, List.getElem?_range hs]
  rfl
theorem chain_ok (hn : 2 ≤ n) (hm : 1 ≤ m) : TabOk (chainT n m) m := by
  refine ⟨by rw [chain_len]; omega, fun r hr => ?_, fun r hr o ho => ?_⟩
  · obtain ⟨k, _, rfl⟩ := List.mem_map.mp hr
    rw [List.length_cons, List.length_replicate]
    omega
  · obtain ⟨k, _, rfl⟩ := List.mem_map.mp hr
    rw [chain_len]
    rcases List.mem_cons.mp ho with rfl | ho
    · omega
    · rw [(List.mem_replicate.mp ho).2]; omega
theorem chain_step {s : Nat} (hs : s < n) : tstep (chainT n m) s 0 = min (s + 1) (n - 1) := by
  unfold tstep
  rw [chain_row hs]
  rfl
theorem chain_run : ∀ (t s : Nat), s < n → trun (chainT n m) s (List.replicate t 0) = min (s + t) (n - 1)
  | 0, s, hs => by show s = _; omega
  | t + 1, s, hs => by
    show trun (chainT n m) (tstep (chainT n m) s 0) (List.replicate t 0) = _
    rw [chain_step hs, chain_run t _ (by omega)]
    omega
theorem chain_reach (hn : 2 ≤ n) : ∀ s, s < n → Reach (chainT n m) s
  | 0, _ => .zero
  | s + 1, hs => by
    refine .step (chain_reach hn s (by omega)) ?_
    rw [chain_row (by omega)]
    refine List.mem_cons.mpr (.inl ?_)
    omega
theorem chain_least {α : Type} {x y : α} (hn : 2 ≤ n) (hm : 1 ≤ m) (ne : x ≠ y) : LeastSp (chainA n x y) (chainT n m) m (chainA n x y) (chainT n m) id := by
  have sep : ∀ i j, i < j → j < n → ¬ Alike (chainA n x y) (chainT n m) i j := fun i j h hj al => by
    have := al (List.replicate (n - 1 - j) 0)
    rw [chain_run _ _ (by omega), chain_run _ _ hj] at this
    unfold chainA at this
    rw [if_neg (by omega), if_pos (by omega)] at this
    exact ne this
  refine ⟨(chain_ok hn hm).wid, rfl, fun s r => r.lt (chain_ok hn hm), fun s r => (List.map_id _).symm, fun s r => rfl, fun i hi => ⟨i, chain_reach hn i (by rwa [chain_len] at hi), rfl⟩, fun i j hi hj al => ?_, ?_⟩
  · rw [chain_len] at hi hj
    rcases Nat.lt_trichotomy i j with h | h | h
    · exact absurd al (sep i j h hj)
    · exact h
    · exact absurd (fun w => (al w).symm) (sep j i h hi)
  · refine ⟨fun i => min (i + 1) n, by simp only []; omega, by rw [chain_len]; simp only []; omega, fun i hi => ?_⟩
    rw [chain_len] at hi
    show i < min (i + 1) n ∧ (trow (chainT n m) i).foldl metN (List.range (min (i + 1) n)) = List.range (min (i + 1 + 1) n)
    refine ⟨by omega, ?_⟩
    rw [chain_row hi, List.foldl_cons]
    have z : ∀ (t : Nat) (l : List Nat), 0 ∈ l → (List.replicate t 0).foldl metN l = l := by
      intro t
      induction t with
      | zero => intro l _; rfl
      | succ t ih =>
        intro l hl
        rw [List.replicate_succ, List.foldl_cons]
        have : metN l 0 = l := if_pos hl
        rw [this]
        exact ih l hl
    have e1 : min (i + 1) n = i + 1 := by omega
    rw [e1]
    by_cases e : i + 1 = n
    · have e2 : min (i + 1) (n - 1) = i := by omega
      have e3 : metN (List.range (i + 1)) i = List.range (i + 1) := if_pos (List.mem_range.mpr (by omega))
      rw [e2, e3, z _ _ (List.mem_range.mpr (by omega))]
      congr 1
      omega
    · have e2 : min (i + 1) (n - 1) = i + 1 := by omega
      have e3 : metN (List.range (i + 1)) (i + 1) = List.range (i + 1) ++ [i + 1] := if_neg (by rw [List.mem_range]; omega)
      rw [e2, e3, ← List.range_succ, z _ _ (List.mem_range.mpr (by omega))]
      congr 1
      omega
end
/-! ### the least table: walked -/
def RowN (r : List Nat) (v : V) (H : Hp) : Prop := ∃ p, v = .ref p ∧ H p = some (.lst (intsV r))
theorem RowN.mono {r : List Nat} {v : V} {H H' : Hp} (h : RowN r v H) (e : Same H H') : RowN r v H' := let ⟨p, a, b⟩ := h; ⟨p, a, e _ _ b⟩
def TabV (Z : Tab) (a : Addr) (H : Hp) : Prop := ∃ us, H a = some (.lst us) ∧ Each RowN Z us H
theorem TabV.mono {Z : Tab} {a : Addr} {H H' : Hp} (h : TabV Z a H) (e : Same H H') : TabV Z a H' := let ⟨us, x, y⟩ := h; ⟨us, e _ _ x, y.imp fun _ _ r => r.mono e⟩
theorem TabV.at_ {Z : Tab} {a : Addr} {H : Hp} (h : TabV Z a H) {s : Nat} (hs : s < Z.length) : ∃ us p, H a = some (.lst us) ∧ us[s]? = some (.ref p) ∧ H p = some (.lst (intsV (trow Z s))) := by
  obtain ⟨us, x, y⟩ := h
  obtain ⟨u, hu, p, rfl, hp⟩ := y.2 s Z[s] (List.getElem?_eq_getElem hs)
  refine ⟨us, p, x, hu, ?_⟩
  unfold trow
  rw [List.getD_eq_getElem?_getD, List.getElem?_eq_getElem hs]
  exact hp
theorem ints_at {l : List Nat} {i : Nat} : (intsV l)[i]? = (l[i]?).map fun (n : Nat) => V.int (n : Int) := List.getElem?_map ..
theorem ints_len {l : List Nat} : (intsV l).length = l.length := List.length_map _
theorem ints_snoc {l : List Nat} {n : Nat} : intsV l ++ [V.int (n : Int)] = intsV (l ++ [n]) := by unfold intsV; rw [List.map_append]; rfl
theorem ints_nil {l : List Nat} : (intsV l = []) = (l = []) := propext List.map_eq_nil_iff
/-- a dict of numbers, all True -/
def keyN (l : List Nat) : List (Key × V) := l.map fun (s : Nat) => ((Sum.inl (s : Int) : Key), V.bl true)
theorem keyN_val {l : List Nat} {o : Nat} : (valV (keyN l) (.inl (o : Int))).isSome = decide (o ∈ l) := by
  rw [← valV_any]
  unfold keyN
  rw [List.any_map]
  by_cases h : o ∈ l
  · rw [decide_eq_true h, List.any_eq_true]
    exact ⟨o, h, by simp⟩
  · rw [decide_eq_false h, List.any_eq_false]
    intro x hx e
    have e2 : (x : Int) = (o : Int) := by simpa using e
    have e3 : x = o := Int.ofNat.inj e2
    exact h (e3 ▸ hx)
theorem keyN_put {l : List Nat} {o : Nat} (h : o ∉ l) : putK (keyN l) (.inl (o : Int)) (.bl true) = keyN (l ++ [o]) := by
  rw [putK_new]
  · unfold keyN
    rw [List.map_append]
    rfl
  · have := keyN_val (l := l) (o := o)
    rw [decide_eq_false h] at this
    cases e : valV (keyN l) (.inl (o : Int)) with
    | none => rfl
    | some v => rw [e] at this; cases this
/-- where the going through stands: met, met and not looked at, still to be looked at -/
structure RcI (Z : Tab) (K lt todo : List Nat) : Prop where
  nd : K.Nodup
  reach : ∀ s ∈ K, Reach Z s
  zero : 0 ∈ K
  later : ∀ s ∈ lt, s ∈ K
  open_ : ∀ s ∈ todo, s ∈ K
  done : ∀ s ∈ K, s ∉ lt → s ∉ todo → ∀ o ∈ trow Z s, o ∈ K
theorem RcI.le {Z : Tab} {m : Nat} {K lt todo : List Nat} (h : RcI Z K lt todo) (ok : TabOk Z m) : K.length ≤ Z.length := by
  have := nat_nodup_len K (List.range Z.length) h.nd fun s hs => List.mem_range.mpr ((h.reach s hs).lt ok)
  rwa [List.length_range] at this
theorem RcI.add {Z : Tab} {K lt todo : List Nat} {o : Nat} (h : RcI Z K lt todo) (n : o ∉ K) (r : Reach Z o) : RcI Z (K ++ [o]) (lt ++ [o]) todo := by
  refine ⟨?_, fun s hs => ?_, List.mem_append_left _ h.zero, fun s hs => ?_, fun s hs => List.mem_append_left _ (h.open_ s hs), fun s hs n1 n2 o' ho => ?_⟩
  · exact List.nodup_append.mpr ⟨h.nd, by simp, fun a ha b hb e => n (by rw [List.mem_singleton.mp hb] at e; exact e ▸ ha)⟩
  · rcases List.mem_append.mp hs with hs | hs
    · exact h.reach s hs
    · rw [List.mem_singleton.mp hs]; exact r
  · rcases List.mem_append.mp hs with hs | hs
    · exact List.mem_append_left _ (h.later s hs)
    · exact List.mem_append_right _ hs
  · rcases List.mem_append.mp hs with hs | hs
    · exact List.mem_append_left _ (h.done s hs (fun z => n1 (List.mem_append_left _ z)) n2 o' ho)
    · exact absurd (List.mem_append_right _ hs) n1
theorem l_stm {t : TS} {D : Ends} {σ : L2.St} {H : Hp} (h : t D σ H) : sMid t D σ H := ⟨D, h, fun _ _ q => q, fun _ _ q => q, fun _ _ q => q, fun _ _ q => q⟩
def spReached (K : PySem.W.Frag) : Sp := fun vs H Q _ => ∃ a Z m, vs = [.ref a] ∧ TabV Z a H ∧ TabOk Z m ∧ Z.length ≤ 5000 ∧ ∀ p H' R, Same H H' → H p = none → H' p = some (.lst (intsV R)) → R.Nodup → (∀ s, s ∈ R ↔ Reach Z s) → Q (.ref p) H'
theorem ok_reached (T : Txt K mg) : OkD P w K mg base 1 (fA K "reached") ["table"] [] (spReached K) := by
  refine okD T.F_reached sc_reached (fun _ _ _ _ _ _ us hl => match us, hl with | [_], _ => rfl) ?_ ?_
  · rintro vs H Q E ⟨a, Z, m, rfl, _⟩
    rfl
  · rintro cdv A outer s H vs Q E hr ⟨a, Z, m, rfl, tv, ok, hn, q⟩
    refine ⟨_, (pss_cons (ps_set (i := 1) sc_reached.nd rfl (Or.inl rfl) (pe_mid (pe_disp (pps_cons pe_int pe_bl pps_nil) rfl rfl (by decide) (by decide))))
  (pss_cons (ps_set (i := 2) sc_reached.nd rfl (Or.inl rfl) (pe_mid (pe_lst (pa_cons pe_int pa_nil))))
  (pss_cons (ps_mid (ps_while (passes_of rfl) (pt_mid (pt_cmpR (o_ne (K := K) (hu64 hr)) (pv 2) (pe_lst pa_nil) (nomark _))) (pss_cons (ps_set (i := 3) sc_reached.nd rfl (Or.inl rfl) (pe_mid (pe_lst pa_nil)))
  (pss_cons (ps_mid (ps_for (passes_of rfl) rfl (pi_mid (o_it (K := K) rfl (pv 2))) (pg_name (i := 4) sc_reached.nd rfl (Or.inl rfl)) (pss_one (ps_mid (ps_for (passes_of rfl) rfl (pi_mid (o_it (K := K) rfl (pe_ix (o_ix (K := K)) (pv 0) (pv 4) (fun _ _ => rfl)))) (pg_name (i := 5) sc_reached.nd rfl (Or.inl rfl)) (pss_one (ps_if (pt_mid (pt_cmp (pc_dnotin (hu_of hr) (pv 5) (pv 1)) rfl)) (pss_cons (ps_dput (hu_of hr) (pv 1) (pv 5) pe_bl rfl)
  (pss_one (ps_expr (pe_bmK (K := K) PySem.F.plainAttrs_list PySem.F.slot_list_append PySem.F.type_list_append mt_append (pv 3) (pa_cons (pe_mid (pv 5)) pa_nil))))) pss_nil)))))))
  (pss_one (ps_set (i := 2) sc_reached.nd rfl (Or.inl rfl) (pe_mid (pv 3))))))))
  (pss_one (ps_ret (pe_callTy (call_list_dK rfl) (by rfl) T.fr_list (by decide +kernel) (pa_cons (pv 1) pa_nil))))))), ?_⟩
    have tobj := T.obj
    refine q_midG (fun v H' => ∃ D, v = .ref D ∧ H D = none ∧ Same H H' ∧ H' D = some (.dK (keyN [0]))) ?_ ?_
    · walk_at "rd"
      exact fun p hp => ⟨upd_same, [(.inl 0, .bl true)], rfl, by decide, by rw [upd_upd]; exact ⟨hp, same_new hp, upd_same⟩⟩
    rintro _ H1 ⟨D, rfl, hD, s1, hD1⟩
    refine q_midG (fun v H' => ∃ L, v = .ref L ∧ H1 L = none ∧ Same H1 H' ∧ H' L = some (.lst (intsV [0]))) ?_ ?_
    · walk_at "rd"
      exact fun p hp => ⟨hp, same_new hp, upd_same⟩
    rintro _ H2 ⟨L, rfl, hL, s2, hL2⟩
    have hD2 := s2 _ _ hD1
    refine q_stm (fun σ H' => ∃ R x2 x3 x4 x5, σ = [some (.ref a), some (.ref D), x2, x3, x4, x5] ∧ Same H H' ∧ H' D = some (.dK (keyN R)) ∧ RcI Z R [] []) ?_ ?_
    · refine while_mid (fun m σ H' => ∃ R ln L x3 x4 x5, σ = [some (.ref a), some (.ref D), some (.ref L), x3, x4, x5] ∧ Same H H' ∧ H' D = some (.dK (keyN R)) ∧ H L = none ∧ H' L = some (.lst (intsV ln)) ∧ RcI Z R [] ln ∧ m = (Z.length - R.length) * 2 + (if ln = [] then 0 else 1)) _ ⟨[0], [0], L, _, _, _, rfl, s1.trans s2, hD2, same_none s1 hL, hL2, ⟨by simp, fun s hs => by rw [List.mem_singleton.mp hs]; exact .zero, by simp, (fun _ h => nomatch h), fun _ h => h, fun s hs _ n => absurd hs n⟩, rfl⟩ ?_
      rintro m σ H3 ⟨R, ln, L, x3, x4, x5, rfl, s3, hD3, hLn, hL3, rc, rfl⟩
      refine ⟨fun b H' => Same H3 H' ∧ b = !decide (ln = []), ?_, ?_, ?_⟩
      · walk_at "rd"
        intro p hp
        refine ne_nil (.inl (.inl (same_new hp _ _ hL3))) (.inl (.inl upd_same)) ⟨_, rfl, same_new hp, ?_⟩
        simp only [ints_nil]
      · rintro H4 ⟨s4, hb⟩
        have ne : ln ≠ [] := by simpa using hb.symm
        refine q_midG (fun v H' => ∃ A, v = .ref A ∧ H4 A = none ∧ Same H4 H' ∧ H' A = some (.lst (intsV []))) ?_ ?_
        · walk_at "rd"
          exact fun p hp => ⟨hp, same_new hp, upd_same⟩
        rintro _ H5 ⟨A, rfl, hA, s5, hA5⟩
        have sH4 := s3.trans s4
        have hAn : H A = none := same_none sH4 hA
        have hD5 := s5 _ _ (s4 _ _ hD3)
        have hL5 := s5 _ _ (s4 _ _ hL3)
        have nDA : D ≠ A := ne_of_none (s4 _ _ hD3) hA
        have nLA : L ≠ A := ne_of_none (s4 _ _ hL3) hA
        have nLD : L ≠ D := ne_of hL5 hD5 fun z => nomatch z
        refine q_stm (fun σ H' => ∃ R' lt x4 x5, σ = [some (.ref a), some (.ref D), some (.ref L), some (.ref A), x4, x5] ∧ Same H H' ∧ H' D = some (.dK (keyN R')) ∧ H' A = some (.lst (intsV lt)) ∧ RcI Z R' lt [] ∧ R'.length = R.length + lt.length) ?_ ?_
        · refine for_mid (J0 := Itl K L) (H0 := H5) ?_ (walk_list (K := K) (a := L) (xs := intsV ln)) (fun k σ H' => ∃ R' lt x4 x5, σ = [some (.ref a), some (.ref D), some (.ref L), some (.ref A), x4, x5] ∧ Same H H' ∧ H' D = some (.dK (keyN R')) ∧ H' A = some (.lst (intsV lt)) ∧ H' L = some (.lst (intsV ln)) ∧ RcI Z R' lt (ln.drop k) ∧ R'.length = R.length + lt.length)
            ⟨R, [], _, _, rfl, sH4.trans s5, hD5, hA5, hL5, rc, rfl⟩ (fun _ _ _ _ ⟨_, _, _, _, _, _, _, _, h, _⟩ => .inl (.inl h)) ?_ ?_
          · walk_at "rd"
            exact .inl ⟨_, .inl (.inl hL5)⟩
          · rintro k x σ H6 H7 hk ⟨R', lt, x4, x5, rfl, s6, hD6, hA6, hL6, rc6, ln6⟩ ⟨rfl, hx⟩
            rw [ints_at] at hx
            obtain ⟨st, hst, rfl⟩ := Option.map_eq_some_iff.mp hx
            have dr : ln.drop k = st :: ln.drop (k + 1) := by
              obtain ⟨hk2, e⟩ := List.getElem?_eq_some_iff.mp hst
              rw [List.drop_eq_getElem_cons hk2, e]
            rw [dr] at rc6
            have stR : st ∈ R' := rc6.open_ st List.mem_cons_self
            have stZ : st < Z.length := (rc6.reach st stR).lt ok
            obtain ⟨us, pr, hus, hup, hpr⟩ := tv.at_ stZ
            refine l_stm ?_
            refine for_mid (J0 := Itl K pr) (H0 := H7) ?_ (walk_list (K := K) (a := pr) (xs := intsV (trow Z st))) (fun j σ H' => ∃ R' lt x5, σ = [some (.ref a), some (.ref D), some (.ref L), some (.ref A), some (.int (st : Int)), x5] ∧ Same H H' ∧ H' D = some (.dK (keyN R')) ∧ H' A = some (.lst (intsV lt)) ∧ H' L = some (.lst (intsV ln)) ∧ st ∈ R' ∧ RcI Z R' lt (st :: ln.drop (k + 1)) ∧ R'.length = R.length + lt.length ∧ ∀ o ∈ (trow Z st).take j, o ∈ R')
              ⟨R', lt, _, rfl, s6, hD6, hA6, hL6, stR, rc6, ln6, fun o h => by simp at h⟩ (fun _ _ _ _ ⟨_, _, _, _, h, _⟩ => .inl (.inl (h _ _ hpr))) ?_ ?_
            · walk_at "rd"
              exact ⟨us, .inl (.inl (.inl (s6 _ _ hus))), _, atI_nat hup, .inl ⟨⟨_, .inl (.inl (s6 _ _ hpr))⟩, rfl⟩⟩
            · rintro j x σ H7 H8 hj ⟨R', lt, x5, rfl, s7, hD7, hA7, hL7, stR, rc7, ln7, tk⟩ ⟨rfl, hx⟩
              rw [ints_at] at hx
              obtain ⟨o, ho, rfl⟩ := Option.map_eq_some_iff.mp hx
              have tk1 : (trow Z st).take (j + 1) = (trow Z st).take j ++ [o] := by rw [List.take_add_one, ho]; rfl
              have le7 := rc7.le ok
              refine l_if (fun b H' => H' = H8 ∧ b = !decide (o ∈ R')) ?_ (fun H9 h => ?_) fun H9 h => ?_
              · walk_at "rd"
                refine ⟨_, DGet.k (k := Sum.inl (o : Int)) hD7, ?_⟩
                rw [keyN_val]
              · obtain ⟨rfl, hb⟩ := h
                have no : o ∉ R' := by simpa using hb.symm
                refine ⟨_, rfl, _, rfl, D, _, rfl, DPut.k (k := Sum.inl (o : Int)) hD7 (by unfold keyN; rw [List.length_map, sizeLine_eq]; omega), ?_⟩
                rw [keyN_put no]
                have sD : ∀ q, q ≠ D → upd H9 D (.dK (keyN (R' ++ [o]))) q = H9 q := fun q hq => upd_ne hq
                refine l_appV (xs := intsV lt) rfl rfl (by rw [sD _ (Ne.symm nDA)]; exact hA7) (by rw [ints_len]; omega) ?_
                rw [ints_snoc]
                refine ⟨R' ++ [o], lt ++ [o], _, rfl, same_mut (same_mut s7 hD) hAn, ?_, upd_same, ?_, List.mem_append_left _ stR, rc7.add no ?_, by rw [List.length_append, List.length_append]; show _ + 1 = _ + (_ + 1); omega, fun o' ho' => ?_⟩
                · rw [upd_ne nDA, upd_same]
                · rw [upd_ne nLA, upd_ne nLD]; exact hL7
                · exact .step (rc7.reach st stR) (List.mem_of_getElem? ho)
                · rw [tk1] at ho'
                  rcases List.mem_append.mp ho' with ho' | ho'
                  · exact List.mem_append_left _ (tk o' ho')
                  · exact List.mem_append_right _ ho'
              · obtain ⟨rfl, hb⟩ := h
                have yo : o ∈ R' := by simpa using hb.symm
                refine ⟨R', lt, _, rfl, s7, hD7, hA7, hL7, stR, rc7, ln7, fun o' ho' => ?_⟩
                rw [tk1] at ho'
                rcases List.mem_append.mp ho' with ho' | ho'
                · exact tk o' ho'
                · rw [List.mem_singleton.mp ho']; exact yo
            · rintro σ H7 ⟨R', lt, x5, rfl, s7, hD7, hA7, hL7, stR, rc7, ln7, tk⟩
              refine ⟨R', lt, _, _, rfl, s7, hD7, hA7, hL7, ⟨rc7.nd, rc7.reach, rc7.zero, rc7.later, fun s hs => rc7.open_ s (List.mem_cons_of_mem _ hs), fun s hs n1 n2 o ho => ?_⟩, ln7⟩
              by_cases e : s = st
              · rw [e] at ho
                refine tk o ?_
                rw [ints_len, List.take_of_length_le (Nat.le_refl _)]
                exact ho
              · exact rc7.done s hs n1 (fun z => (List.mem_cons.mp z).elim e n2) o ho
          · rintro σ H6 ⟨R', lt, x4, x5, rfl, s6, hD6, hA6, hL6, rc6, ln6⟩
            rw [ints_len, List.drop_length] at rc6
            exact ⟨R', lt, _, _, rfl, s6, hD6, hA6, rc6, ln6⟩
        · rintro σ H6 ⟨R', lt, x4, x5, rfl, s6, hD6, hA6, rc6, ln6⟩
          refine l_midG (fun v H' => v = .ref A ∧ H' = H6) ?_ ?_
          · walk_at "rd"
          · rintro _ _ ⟨rfl, rfl⟩
            have le6 := rc6.le ok
            have le0 := rc.le ok
            refine ⟨_, ?_, R', lt, A, _, _, _, rfl, s6, hD6, hAn, hA6, ⟨rc6.nd, rc6.reach, rc6.zero, (fun _ h => nomatch h), rc6.later, fun s hs _ n => rc6.done s hs n (by simp)⟩, rfl⟩
            rw [if_neg ne]
            by_cases e : lt = []
            · rw [if_pos e]
              rw [e, List.length_nil] at ln6
              omega
            · rw [if_neg e]
              have := List.length_pos_iff.mpr e
              omega
      · rintro H4 ⟨s4, hb⟩
        have e : ln = [] := by simpa using hb.symm
        rw [e] at rc
        exact ⟨R, _, _, _, _, rfl, s3.trans s4, s4 _ _ hD3, rc⟩
    · rintro σ H3 ⟨R, x2, x3, x4, x5, rfl, s3, hD3, rc⟩
      walk_at "rd"
      refine ⟨_, hD3, fun p hp => q p _ R (s3.trans (same_new hp)) (same_none s3 hp) ?_ rc.nd fun s => ⟨rc.reach s, fun r => ?_⟩⟩
      · rw [upd_same]
        unfold keyN intsV
        rw [List.map_map]
        rfl
      · induction r with
        | zero => exact rc.zero
        | step _ ho ih => exact rc.done _ ih (by simp) (by simp) _ ho
/-- a dict of numbers of blocks -/
def blkN (R : List Nat) (f : Nat → Nat) : List (Key × V) := R.map fun (s : Nat) => ((Sum.inl (s : Int) : Key), V.int (f s : Int))
theorem inlN {a b : Nat} (h : (Sum.inl (a : Int) : Key) = Sum.inl (b : Int)) : a = b := Int.ofNat.inj (Sum.inl.inj h)
theorem blk_in {R : List Nat} {f : Nat → Nat} {s : Nat} (h : s ∈ R) : valV (blkN R f) (.inl (s : Int)) = some (.int (f s : Int)) := by
  induction R with
  | nil => cases h
  | cons x r ih =>
    unfold blkN
    rw [List.map_cons]
    by_cases e : x = s
    · rw [e]
      exact valV_pos (p := ((Sum.inl (s : Int) : Key), V.int (f s : Int))) rfl
    · rw [valV_neg (p := ((Sum.inl (x : Int) : Key), V.int (f x : Int))) (fun z => e (inlN z))]
      exact ih ((List.mem_cons.mp h).resolve_left fun z => e z.symm)
theorem blk_out {R : List Nat} {f : Nat → Nat} {s : Nat} (h : s ∉ R) : valV (blkN R f) (.inl (s : Int)) = none := by
  induction R with
  | nil => rfl
  | cons x r ih =>
    unfold blkN
    rw [List.map_cons, valV_neg (p := ((Sum.inl (x : Int) : Key), V.int (f x : Int))) (fun z => h (by rw [← inlN z]; exact List.mem_cons_self))]
    exact ih fun z => h (List.mem_cons_of_mem _ z)
theorem blk_put {R : List Nat} {f : Nat → Nat} {s j : Nat} (h : s ∉ R) : putK (blkN R f) (.inl (s : Int)) (.int (j : Int)) = blkN (R ++ [s]) (fun x => if x = s then j else f x) := by
  rw [putK_new _ (blk_out h)]
  unfold blkN
  rw [List.map_append]
  congr 1
  · refine List.map_congr_left fun x hx => ?_
    have ne : x ≠ s := fun z => h (by rw [← z]; exact hx)
    show _ = ((Sum.inl (x : Int) : Key), V.int ((if x = s then j else f x : Nat) : Int))
    rw [if_neg ne]
  · simp
theorem blk_len {R : List Nat} {f : Nat → Nat} : (blkN R f).length = R.length := List.length_map _
/-- answers as data that are told apart just where they are not one -/
structure AnsOk (ds : List PyData) : Prop where
  ok : ∀ d ∈ ds, DOk 20 d
  eq : ∀ d ∈ ds, ∀ e ∈ ds, (PyData.eqv d e = true ↔ d = e)
abbrev ansAt (ds : List PyData) (s : Nat) : PyData := ds.getD s .none
theorem ans_mem {ds : List PyData} {s : Nat} (h : s < ds.length) : ansAt ds s ∈ ds := by
  unfold ansAt
  rw [List.getD_eq_getElem?_getD, List.getElem?_eq_getElem h]
  exact List.getElem_mem h
theorem dpAll_at {H : Hp} : ∀ {us : List V} {ds : List PyData} {i : Nat}, DpAll K H us ds → i < ds.length → ∃ u, us[i]? = some u ∧ Dp K H u (ansAt ds i)
  | _, _, 0, .cons h _, _ => ⟨_, rfl, h⟩
  | _, _, i + 1, .cons _ t, hi => by
    obtain ⟨u, a, b⟩ := dpAll_at (i := i) t (by simpa using hi)
    exact ⟨u, by simpa using a, b⟩
  | _, _, _, .nil, hi => absurd hi (Nat.not_lt_zero _)
theorem dpAll_snoc {H : Hp} : ∀ {us : List V} {ds : List PyData} {u : V} {d : PyData}, DpAll K H us ds → Dp K H u d → DpAll K H (us ++ [u]) (ds ++ [d])
  | _, _, _, _, .nil, g => .cons g .nil
  | _, _, _, _, .cons h t, g => .cons h (dpAll_snoc t g)
theorem dpAll_len {H : Hp} : ∀ {us : List V} {ds : List PyData}, DpAll K H us ds → us.length = ds.length
  | _, _, .nil => rfl
  | _, _, .cons _ t => by rw [List.length_cons, List.length_cons, dpAll_len t]
def spByAns (K : PySem.W.Frag) : Sp := fun vs H Q _ => ∃ r b R us ds, vs = [.ref r, .ref b] ∧ SqL K H r (intsV R) ∧ SqL K H b us ∧ DpAll K H us ds ∧ AnsOk ds ∧ R.Nodup ∧ (∀ s ∈ R, s < ds.length) ∧ R.length ≤ 5000 ∧
  ∀ p H' f, Same H H' → H p = none → H' p = some (.dK (blkN R f)) → (∀ s ∈ R, ∀ t ∈ R, f s = f t ↔ ansAt ds s = ansAt ds t) → Q (.ref p) H'
theorem ok_by_answers (T : Txt K mg) : OkD P w K mg base 1 (fA K "by_answers") ["stands", "answers"] [] (spByAns K) := by
  refine okD T.F_by_answers sc_by_answers (fun _ _ _ _ _ _ us hl => match us, hl with | [_, _], _ => rfl) ?_ ?_
  · rintro vs H Q E ⟨r, b, R, us, ds, rfl, _⟩
    rfl
  · rintro cdv A outer s H vs Q E hr ⟨r, b, R, us, ds, rfl, hs, hb, hd, ao, nd, lt, hn, q⟩
    refine ⟨_, (pss_cons (ps_set (i := 2) sc_by_answers.nd rfl (Or.inl rfl) (pe_lst pa_nil))
  (pss_cons (ps_set (i := 3) sc_by_answers.nd rfl (Or.inl rfl) (pe_mid pe_dnewK))
  (pss_cons (ps_mid (ps_for (passes_of rfl) rfl (pi_mid (o_it (K := K) rfl (pv 0))) (pg_name (i := 4) sc_by_answers.nd rfl (Or.inl rfl)) (pss_cons (ps_mid (ps_if (pt_mid (pt_cmpR (o_notinD (K := K) (hu65 hr)) (pe_ix (o_ix (K := K)) (pv 1) (pv 4) (fun _ _ => rfl)) (pv 2) (by rfl))) (pss_one (ps_expr (pe_bmK (K := K) PySem.F.plainAttrs_list PySem.F.slot_list_append PySem.F.type_list_append mt_append (pv 2) (pa_cons (pe_mid (pe_ix (o_ix (K := K)) (pv 1) (pv 4) (fun _ _ => rfl))) pa_nil)))) pss_nil))
  (pss_one (ps_dput (hu_of hr) (pv 3) (pv 4) (pe_bmK (K := K) PySem.F.plainAttrs_list PySem.F.slot_list_index PySem.F.type_list_index (mo_indexD (K := K) (hu65 hr)) (pv 2) (pa_cons (pe_ix (o_ix (K := K)) (pv 1) (pv 4) (fun _ _ => rfl)) pa_nil)) rfl)))))
  (pss_one (ps_ret (pv 3)))))), ?_⟩
    have tobj := T.obj
    refine q_new fun F hF => ?_
    have sF : Same H (upd H F (.lst [])) := same_new hF
    have hF1 : upd H F (.lst []) F = some (.lst []) := upd_same
    generalize upd H F (.lst []) = H1 at *
    refine q_midG (fun v H' => ∃ D, v = .ref D ∧ H1 D = none ∧ Same H1 H' ∧ H' D = some (.dK [])) ?_ ?_
    · walk_at "rd"
      exact fun p hp => ⟨hp, same_new hp, upd_same⟩
    rintro _ H2 ⟨D, rfl, hD, s2, hD2⟩
    have hDn : H D = none := same_none sF hD
    have nFD : F ≠ D := ne_of_none hF1 hD
    refine q_stm (fun σ H' => ∃ f x2 x4, σ = [some (.ref r), some (.ref b), x2, some (.ref D), x4] ∧ Same H H' ∧ H' D = some (.dK (blkN R f)) ∧ ∀ s ∈ R, ∀ t ∈ R, f s = f t ↔ ansAt ds s = ansAt ds t) ?_ ?_
    · refine for_mid (J0 := Itl K r) (H0 := H2) ?_ (walk_list (K := K) (a := r) (xs := intsV R)) (fun k σ H' => ∃ f x4 kus kd, σ = [some (.ref r), some (.ref b), some (.ref F), some (.ref D), x4] ∧ Same H H' ∧ H' D = some (.dK (blkN (R.take k) f)) ∧ H' F = some (.lst kus) ∧ DpAll K H kus kd ∧ kd.Nodup ∧ (∀ d ∈ kd, d ∈ ds) ∧ kd.length ≤ k ∧ ∀ s ∈ R.take k, kd[f s]? = some (ansAt ds s))
        ⟨fun _ => 0, _, [], [], rfl, sF.trans s2, by simpa [blkN] using hD2, s2 _ _ hF1, .nil, .nil, (fun _ h => nomatch h), Nat.le_refl _, fun s h => by simp at h⟩ (fun _ _ _ _ ⟨_, _, _, _, _, h, _⟩ => same_l h hs) ?_ ?_
      · walk_at "rd"
        exact .inl ⟨_, same_l (sF.trans s2) hs⟩
      · rintro k x σ H3 H4 hk ⟨f, x4, kus, kd, rfl, s3, hD3, hF3, hkd, knd, ksub, kle, kf⟩ ⟨rfl, hx⟩
        rw [ints_at] at hx
        obtain ⟨st, hst, rfl⟩ := Option.map_eq_some_iff.mp hx
        have stR : st ∈ R := List.mem_of_getElem? hst
        have stl := lt st stR
        obtain ⟨u, hu, du⟩ := dpAll_at hd stl
        have tk1 : R.take (k + 1) = R.take k ++ [st] := by rw [List.take_add_one, hst]; rfl
        refine q_stm (fun σ H' => ∃ kus kd, ∃ j : Nat, σ = [some (.ref r), some (.ref b), some (.ref F), some (.ref D), some (.int (st : Int))] ∧ Same H H' ∧ H' D = some (.dK (blkN (R.take k) f)) ∧ H' F = some (.lst kus) ∧ DpAll K H kus kd ∧ kd.Nodup ∧ (∀ d ∈ kd, d ∈ ds) ∧ kd.length ≤ k + 1 ∧ (∀ s ∈ R.take k, kd[f s]? = some (ansAt ds s)) ∧ kd[j]? = some (ansAt ds st)) ?_ ?_
        · refine l_if (fun b' H' => H' = H4 ∧ b' = !kd.any fun z => PyData.eqv z (ansAt ds st)) ?_ (fun H5 h => ?_) fun H5 h => ?_
          · walk_at "rd"
            refine ⟨_, .inl (same_l s3 hb), _, atI_nat hu, _, kd, dp_mono s3 _ _ du, .lst (.inl (.inl hF3)) (dpAll_mono s3 _ _ hkd), (ao.ok _ (ans_mem stl)).shaped (by decide), (dok_lst fun d hd' => ao.ok _ (ksub d hd')).shaped (by decide), _, rfl, rfl, rfl⟩
          · obtain ⟨rfl, hb'⟩ := h
            have nk : ansAt ds st ∉ kd := fun z => by
              have : (kd.any fun z => PyData.eqv z (ansAt ds st)) = true := List.any_eq_true.mpr ⟨_, z, (ao.eq _ (ans_mem stl) _ (ans_mem stl)).mpr rfl⟩
              rw [this] at hb'
              cases hb'
            refine l_app (xs := kus) rfl hF3 ?_
            have kl := dpAll_len hkd
            have hk' : k < R.length := by rw [ints_len] at hk; exact hk
            refine ⟨_, rfl, _, rfl, us, u, .inl (same_l s3 hb), atI_nat hu, kus, hF3, by rw [sizeLine_eq]; omega, kus ++ [u], kd ++ [ansAt ds st], kd.length, rfl, same_mut s3 hF, ?_, upd_same, dpAll_snoc hkd du, ?_, fun d hd' => ?_, by rw [List.length_append]; show kd.length + 1 ≤ _; omega, fun s hs' => ?_, by rw [List.getElem?_append_right (Nat.le_refl _), Nat.sub_self]; rfl⟩
            · rw [upd_ne (Ne.symm nFD)]; exact hD3
            · exact List.nodup_append.mpr ⟨knd, by simp, fun x hx y hy e => nk (by rw [List.mem_singleton.mp hy] at e; exact e ▸ hx)⟩
            · rcases List.mem_append.mp hd' with h | h
              · exact ksub d h
              · rw [List.mem_singleton.mp h]; exact ans_mem stl
            · have := kf s hs'
              rw [List.getElem?_append_left (List.getElem?_eq_some_iff.mp this).1]
              exact this
          · obtain ⟨rfl, hb'⟩ := h
            have yk : (kd.any fun z => PyData.eqv z (ansAt ds st)) = true := by simpa using hb'
            obtain ⟨z, hz, e⟩ := List.any_eq_true.mp yk
            have ez := (ao.eq _ (ksub z hz) _ (ans_mem stl)).mp e
            obtain ⟨j, hj⟩ := List.mem_iff_getElem?.mp hz
            exact ⟨kus, kd, j, rfl, s3, hD3, hF3, hkd, knd, ksub, by omega, kf, by rw [hj, ez]⟩
        · rintro σ H5 ⟨kus, kd, j, rfl, s5, hD5, hF5, hkd, knd, ksub, kle, kf, kj⟩
          have nst : st ∉ R.take k := fun z => by
            have := tk1 ▸ (nd.sublist (List.take_sublist (k + 1) R))
            exact (List.nodup_append.mp this).2.2 st z st (List.mem_singleton.mpr rfl) rfl
          walk_at "rd"
          refine ⟨⟨_, .inl (.inl hF5)⟩, us, .inl (same_l s5 hb), _, atI_nat hu, F, u, ansAt ds st, kd, j, ansAt ds st, rfl, rfl, .lst (.inl (.inl hF5)) (dpAll_mono s5 _ _ hkd), dp_mono s5 _ _ du, (dok_lst fun d hd' => ao.ok _ (ksub d hd')).shaped (by decide), (ao.ok _ (ans_mem stl)).shaped (by decide), kj, (ao.eq _ (ans_mem stl) _ (ans_mem stl)).mpr rfl, fun m z' hm hz' => ?_, _, DPut.k (k := Sum.inl (st : Int)) hD5 (by rw [blk_len, List.length_take, sizeLine_eq]; omega), ?_⟩
          · cases e : PyData.eqv z' (ansAt ds st) with
            | false => rfl
            | true =>
              have ez := (ao.eq _ (ksub z' (List.mem_of_getElem? hz')) _ (ans_mem stl)).mp e
              rw [ez] at hz'
              have := (List.getElem?_inj (List.getElem?_eq_some_iff.mp hz').1 knd).mp (hz'.trans kj.symm)
              omega
          · rw [blk_put nst, ← tk1]
            refine ⟨same_mut s5 hDn, _, upd_same, kus, by rw [upd_ne nFD]; exact hF5, kd, hkd, knd, ksub, kle, fun s hs' => ?_⟩
            by_cases es : s = st
            · simp only [es, if_true]
              exact kj
            · simp only [es, if_false]
              rw [tk1] at hs'
              exact kf s ((List.mem_append.mp hs').resolve_right fun z => es (List.mem_singleton.mp z))
      · rintro σ H3 ⟨f, x4, kus, kd, rfl, s3, hD3, hF3, hkd, knd, ksub, kle, kf⟩
        rw [ints_len, List.take_of_length_le (Nat.le_refl _)] at hD3 kf
        refine ⟨f, _, _, rfl, s3, hD3, fun s hs t ht => ?_⟩
        have a := kf s hs
        have b := kf t ht
        refine ⟨fun e => ?_, fun e => ?_⟩
        · rw [e] at a
          exact Option.some.inj (a.symm.trans b)
        · rw [← e] at b
          obtain ⟨h1, e1⟩ := List.getElem?_eq_some_iff.mp a
          exact (List.getElem?_inj h1 knd).mp (a.trans b.symm)
    · rintro σ H3 ⟨f, x2, x4, rfl, s3, hD3, hf⟩
      walk_at "rd"
      exact q _ _ f s3 hDn hD3 hf
/-- the mark by which blocks are parted -/
def markK (b : Nat) (bs : List Nat) : NestedKey := .tup [.num (b : Int), .tup (bs.map fun (x : Nat) => .num (x : Int))]
theorem markK_inj {b c : Nat} {bs cs : List Nat} (h : markK b bs = markK c cs) : b = c ∧ bs = cs := by
  unfold markK at h
  injection h with h
  injection h with h1 h2
  injection h2 with h2 _
  injection h1 with h1
  injection h2 with h2
  refine ⟨Int.ofNat.inj h1, ?_⟩
  have inj : ∀ (x y : List Nat), (x.map fun (x : Nat) => NestedKey.num (x : Int)) = (y.map fun (x : Nat) => NestedKey.num (x : Int)) → x = y := by
    intro x
    induction x with
    | nil => intro y h; cases y with
      | nil => rfl
      | cons _ _ => simp at h
    | cons a x ih => intro y h; cases y with
      | nil => simp at h
      | cons b y =>
        simp only [List.map_cons, List.cons.injEq, NestedKey.num.injEq] at h
        rw [Int.ofNat.inj h.1, ih y h.2]
  exact inj _ _ h2
theorem markK_d {b : Nat} {bs : List Nat} : kOf (.tuple [.int (b : Int), .tuple (bs.map fun (x : Nat) => .int (x : Int))]) = markK b bs := by
  unfold markK
  simp only [kOf, kOfs, kOfs_map, List.map_map]
  rfl
theorem mark_hash {b : Nat} {bs : List Nat} : hashD (.tuple [.int (b : Int), .tuple (bs.map fun (x : Nat) => .int (x : Int))]) = true := by
  simp only [hashD, hashDs, Bool.and_true, Bool.true_and]
  exact (hashDs_iff _).mpr fun d hd => by obtain ⟨x, _, rfl⟩ := List.mem_map.mp hd; simp [hashD]
theorem mark_depth {b : Nat} {bs : List Nat} : (markK b bs).depth ≤ 8 := by
  have h : ∀ l : List Nat, NestedKey.depthAll (l.map fun (x : Nat) => NestedKey.num (x : Int)) = 0 := by
    intro l
    induction l with
    | nil => simp [NestedKey.depthAll]
    | cons x l ih => simp [NestedKey.depthAll, NestedKey.depth, ih]
  unfold markK
  simp [NestedKey.depth, NestedKey.depthAll, h]
theorem dp_ints {H : Hp} (l : List Nat) : DpAll K H (intsV l) (l.map fun (x : Nat) => .int (x : Int)) := dp_map (fun (x : Nat) => V.int (x : Int)) (fun (x : Nat) => PyData.int (x : Int)) (fun x => .int _) l
/-- keys numbered in their order -/
def numF {κ : Type} (n : Nat) : List κ → List (κ × V)
  | [] => []
  | k :: ms => (k, .int (n : Int)) :: numF (n + 1) ms
abbrev numK {κ : Type} (ms : List κ) : List (κ × V) := numF 0 ms
theorem numF_snoc {κ : Type} {k : κ} : ∀ {ms : List κ} {n : Nat}, numF n (ms ++ [k]) = numF n ms ++ [(k, .int ((n + ms.length : Nat) : Int))]
  | [], n => rfl
  | x :: ms, n => by
    show (x, V.int (n : Int)) :: numF (n + 1) (ms ++ [k]) = _
    rw [numF_snoc]
    show _ = (x, V.int (n : Int)) :: (numF (n + 1) ms ++ _)
    rw [List.length_cons, show n + 1 + ms.length = n + (ms.length + 1) by omega]
theorem numF_len {κ : Type} : ∀ {ms : List κ} {n : Nat}, (numF n ms).length = ms.length
  | [], _ => rfl
  | _ :: ms, n => by show (numF (n + 1) ms).length + 1 = _; rw [numF_len]; rfl
section
variable {κ : Type} [DecidableEq κ] {k : κ}
theorem numF_in : ∀ {ms : List κ} {n : Nat}, k ∈ ms → valV (numF n ms) k = some (.int ((n + ms.idxOf k : Nat) : Int))
  | x :: ms, n, h => by
    show valV ((x, V.int (n : Int)) :: numF (n + 1) ms) k = _
    by_cases e : x = k
    · rw [valV_pos (p := (x, V.int (n : Int))) e, e, List.idxOf_cons_self]
      rfl
    · rw [valV_neg (p := (x, V.int (n : Int))) e, numF_in ((List.mem_cons.mp h).resolve_left fun z => e z.symm), List.idxOf_cons, beq_false_of_ne e, show n + 1 + ms.idxOf k = n + (ms.idxOf k + 1) by omega]
      rfl
theorem numF_out : ∀ {ms : List κ} {n : Nat}, k ∉ ms → valV (numF n ms) k = none
  | [], _, _ => rfl
  | x :: ms, n, h => by
    show valV ((x, V.int (n : Int)) :: numF (n + 1) ms) k = none
    rw [valV_neg (p := (x, V.int (n : Int))) fun e => h (by rw [← e]; exact List.mem_cons_self)]
    exact numF_out fun z => h (List.mem_cons_of_mem _ z)
theorem numK_in {ms : List κ} (h : k ∈ ms) : valV (numK ms) k = some (.int (ms.idxOf k : Int)) := by rw [numF_in h, Nat.zero_add]
theorem numK_out {ms : List κ} (h : k ∉ ms) : valV (numK ms) k = none := numF_out h
theorem numK_put {ms : List κ} (h : k ∉ ms) : putK (numK ms) k (.int (ms.length : Int)) = numK (ms ++ [k]) := by
  rw [putK_new _ (numK_out h), show numK (ms ++ [k]) = _ from numF_snoc, Nat.zero_add]
end
theorem idx_snoc {κ : Type} [DecidableEq κ] {ms : List κ} {k : κ} (h : k ∉ ms) : (ms ++ [k]).idxOf k = ms.length := by
  rw [List.idxOf_append, if_neg h, List.idxOf_cons_self, Nat.zero_add]
theorem idx_app {κ : Type} [DecidableEq κ] {ms l : List κ} {k : κ} (h : k ∈ ms) : (ms ++ l).idxOf k = ms.idxOf k := by
  rw [List.idxOf_append, if_pos h]
/-- lists stay where a dict changes -/
theorem lst_upd {H : Hp} {d q : Addr} {ks : List (Key × V)} {l : List V} {o : HO} (hd : H d = some (.dK ks)) (h : H q = some (.lst l)) : upd H d o q = some (.lst l) := by
  rw [upd_ne (ne_of h hd fun z => nomatch z)]
  exact h
theorem TabV.lock {Z : Tab} {a d : Addr} {H : Hp} {ks : List (Key × V)} {o : HO} (h : TabV Z a H) (hd : H d = some (.dK ks)) : TabV Z a (upd H d o) := let ⟨us, x, y⟩ := h; ⟨us, lst_upd hd x, y.imp fun _ _ ⟨p, e, r⟩ => ⟨p, e, lst_upd hd r⟩⟩
theorem same_updS {H H' : Hp} {d : Addr} {o : HO} (s : Same H H') : Same (upd H d o) (upd H' d o) := fun q u e => by
  by_cases h : q = d
  · rw [h, upd_same] at e ⊢
    exact e
  · rw [upd_ne h] at e ⊢
    exact s q u e
/-- a comprehension over a list whose items tell each value -/
theorem lc_fn {a : Addr} {xs : List V} {wi : TI} {i : Nat} {te : TE} {vs : List Nat} {σ : L2.St} {H H0 : Hp} {Q : VK} (f : V → V) (h : wi σ H fun J H1 => J = Itl K a ∧ H1 = H0) (ha : SqL K H0 a xs) (hn : xs.length < 16777216) (hw : ∀ x, wipe ((wipe σ vs).set i (some x)) vs = wipe σ vs)
    (turn : ∀ (k : Nat) (x : V) (H' : Hp), xs[k]? = some x → Same H0 H' → te ((wipe σ vs).set i (some x)) H' fun y H4 => H4 = H' ∧ y = f x)
    (done : ∀ p H', H0 p = none → Same H0 H' → H' p = some (.lst (xs.map f)) → Q (.ref p) H') : tLc (iMid wi) (gName i) tYes (tMid te) vs σ H Q := by
  refine lc_midM h (walk_list (K := K) (a := a) (xs := xs)) hn (fun k acc _ => acc = (xs.take k).map f) (fun _ _ _ _ _ e => e) rfl (fun _ s => same_l s ha) (fun _ _ _ _ y => y_at y) hw ?_ ?_
  · rintro k x acc H' H'' hk sm e ⟨rfl, hx⟩
    obtain ⟨R, h1, h2⟩ : ∃ R, te ((wipe σ vs).set i (some x)) H'' R ∧ ∀ y H4, R y H4 → Same H'' H4 ∧ acc ++ [y] = (xs.take (k + 1)).map f := ⟨_, turn k x H'' hx sm, fun y H4 ⟨e4, ey⟩ => ⟨by rw [e4]; exact Same.refl _, by rw [List.take_add_one, hx, List.map_append, e, ey]; rfl⟩⟩
    exact ⟨R, h1, h2⟩
  · intro p acc H' hp sm hD hl e
    rw [List.take_of_length_le (Nat.le_refl _)] at e
    rw [e] at hD
    exact done p H' hp sm hD
def spParted (K : PySem.W.Frag) : Sp := fun vs H Q _ => ∃ a d Z m R b, vs = [.ref a, .ref d] ∧ TabV Z a H ∧ TabOk Z m ∧ m ≤ 5000 ∧ R.Nodup ∧ (∀ s, s ∈ R ↔ Reach Z s) ∧ R.length ≤ 5000 ∧ H d = some (.dK (blkN R b)) ∧
  ∀ p H' b', Same H H' → H p = none → H' p = some (.dK (blkN R b')) → Parted Z b b' → Q (.ref p) H'
theorem ok_parted (T : Txt K mg) : OkD P w K mg base 1 (fA K "parted") ["table", "blocks"] [] (spParted K) := by
  refine okD T.F_parted sc_parted (fun _ _ _ _ _ _ us hl => match us, hl with | [_, _], _ => rfl) ?_ ?_
  · rintro vs H Q E ⟨a, d, Z, m, R, b, rfl, _⟩
    rfl
  · rintro cdv A outer s H vs Q E hr ⟨a, d, Z, m, R, b, rfl, tv, ok, hm, nd, reach, hn, hd, q⟩
    refine ⟨_, (pss_cons (ps_set (i := 2) sc_parted.nd rfl (Or.inl rfl) (pe_mid (pe_dnewN (P := P) (w := w))))
  (pss_cons (ps_set (i := 3) sc_parted.nd rfl (Or.inl rfl) (pe_mid pe_dnewK))
  (pss_cons (ps_mid (ps_lock (ps_for (passes_of rfl) rfl (pi_mid (pi_items (pv 1))) (pg_tupK (K := K) (n := 2) rfl (pgs_cons (pg_name (i := 4) sc_parted.nd rfl (Or.inl rfl)) (pgs_cons (pg_name (i := 5) sc_parted.nd rfl (Or.inl rfl)) pgs_nil))) (pss_cons (ps_set (i := 6) sc_parted.nd rfl (Or.inl rfl) (pe_mid (pe_tup (pa_cons (pv 5) (pa_cons (pe_callTy (o_tuple (K := K)) (by rfl) T.fr_tuple (by decide +kernel) (pa_cons (pe_lc (own := [("other", 7)]) (g := (gName 7)) (tt := tYes) rfl sc_parted.nd (pi_mid (o_it (K := K) rfl (pe_ix (o_ix (K := K)) (pv 0) (pv 4) (fun _ _ => rfl)))) (blkOk_by (N := N_parted) (sc := defScope TX.s_parted) (by decide +kernel)) (fun _ _ _ _ _ => (pg_name (i := 7) sc_parted.nd rfl (Or.inl rfl))) (fun _ _ _ _ _ => pts_nil) (fun _ _ _ _ _ => (pe_mid (pe_dget (hu_of hr) (pv 1) (pv 7) (fun _ _ => rfl))))) pa_nil)) pa_nil)))))
  (pss_one (ps_dput (hu_of hr) (pv 3) (pv 4) (pe_dsetdN (K := K) (P := P) (w := w) (hu16 hr) (pv 2) (pv 6) (pe_callB (call_lenN (K := K) (P := P) (w := w)) (by rfl) T.fr_len boot_len (pa_cons (pv 2) pa_nil)) ⟨by rfl, by rfl, by rfl, by rfl⟩) rfl))))))
  (pss_one (ps_ret (pv 3)))))), ?_⟩
    have tobj := T.obj
    refine q_midG (fun v H' => ∃ N, v = .ref N ∧ H N = none ∧ Same H H' ∧ DN P w K H' N (numK [])) ?_ ?_
    · walk_at "rd"
      exact fun p hp => ⟨p, rfl, hp, same_new hp, dN_new⟩
    rintro _ H1 ⟨N, rfl, hN, s1, hN1⟩
    refine q_midG (fun v H' => ∃ D, v = .ref D ∧ H1 D = none ∧ Same H1 H' ∧ H' D = some (.dK [])) ?_ ?_
    · walk_at "rd"
      exact fun p hp => ⟨hp, same_new hp, upd_same⟩
    rintro _ H2 ⟨D, rfl, hD, s2, hD2⟩
    have hDn := same_none s1 hD
    have s12 := s1.trans s2
    have hd2 := s12 _ _ hd
    have hN2 := hN1.mono s2
    have nND : N ≠ D := fun z => by obtain ⟨φ, e⟩ := hN2.ext; rw [z, hD2] at e; cases e
    have nNd : N ≠ d := fun z => by obtain ⟨φ, e⟩ := hN2.ext; rw [z, hd2] at e; cases e
    have nDd : D ≠ d := fun z => by rw [z] at hDn; rw [hd] at hDn; cases hDn
    refine q_stm (fun σ H' => ∃ b' x2 x4 x5 x6 x7, σ = [some (.ref a), some (.ref d), x2, some (.ref D), x4, x5, x6, x7] ∧ Same H H' ∧ H' D = some (.dK (blkN R b')) ∧ Parted Z b b') ?_ ?_
    · refine ⟨d, _, hd2, trivial, fun od => ?_⟩
      have tvF : TabV Z a (upd H2 d (.frz od (.dK (blkN R b)))) := (tv.mono s12).lock hd2
      refine for_pair (J0 := Iti d od (blkN R b)) (H0 := upd H2 d (.frz od (.dK (blkN R b)))) ?_ walk_items (fun k σ H' => ∃ b' ms x4 x5 x6 x7, σ = [some (.ref a), some (.ref d), some (.ref N), some (.ref D), x4, x5, x6, x7] ∧ Same (upd H d (.frz od (.dK (blkN R b)))) H' ∧ H' D = some (.dK (blkN (R.take k) b')) ∧ DN P w K H' N (numK ms) ∧ ms.Nodup ∧ ms.length ≤ k ∧ ∀ s ∈ R.take k, markK (b s) ((trow Z s).map b) ∈ ms ∧ ms.idxOf (markK (b s) ((trow Z s).map b)) = b' s)
        ⟨fun _ => 0, [], _, _, _, _, rfl, ?_, by rw [upd_ne nDd]; simpa [blkN] using hD2, ?_, .nil, Nat.le_refl _, fun s h => by simp at h⟩ (fun _ _ _ _ ⟨_, _, _, _, _, _, _, s, _⟩ => s _ _ upd_same) ?_ ?_
      · exact ⟨_, rfl, d, od, blkN R b, rfl, upd_same, rfl, rfl⟩
      · exact same_updS s12
      · exact hN2.nd (.dict hd2)
      · rintro k x y σ H3 H4 hk ⟨b', ms, x4, x5, x6, x7, rfl, s3, hD3, hN3, mnd, mle, mf⟩ s4 hx hy
        rw [blk_len] at hk
        have hst := List.getElem?_eq_getElem hk
        have exy : x = .int ((R[k] : Nat) : Int) ∧ y = .int ((b R[k] : Nat) : Int) := by
          unfold blkN at hx hy
          rw [List.getElem?_map, hst] at hx hy
          exact ⟨(Option.some.inj hx).symm, (Option.some.inj hy).symm⟩
        obtain ⟨rfl, rfl⟩ := exy
        generalize est : R[k] = st at *
        have stR : Reach Z st := (reach st).mp (List.mem_of_getElem? hst)
        have sF := s3.trans s4
        have hdF := sF _ _ upd_same
        obtain ⟨us, pr, hus, hup, hpr⟩ := (((tv.lock hd).mono sF)).at_ (stR.lt ok)
        have tk1 : R.take (k + 1) = R.take k ++ [st] := by rw [List.take_add_one, hst]; rfl
        have rl := ok.rowLen (stR.lt ok)
        refine q_midG (fun v H' => ∃ M, v = .ref M ∧ Same H4 H' ∧ Dp K H' (.ref M) (.tuple [.int (b st : Int), .tuple (((trow Z st).map b).map fun (x : Nat) => .int (x : Int))])) ?_ ?_
        · walk_at "rd"
          refine lc_fn (K := K) (a := pr) (xs := intsV (trow Z st)) (H0 := H4) (fun v => match v with | .int i => .int (b i.toNat : Int) | v => v) ?_ (.inl (.inl hpr)) (by rw [ints_len]; omega) (fun _ => rfl) ?_ ?_
          · walk_at "rd"
            exact ⟨us, .inl (.inl (.inl hus)), _, atI_nat hup, .inl ⟨⟨_, .inl (.inl hpr)⟩, rfl⟩⟩
          · intro j x H5 hx s5
            rw [ints_at] at hx
            obtain ⟨o, ho, rfl⟩ := Option.map_eq_some_iff.mp hx
            walk_at "rd"
            exact ⟨_, .inl ⟨blkN R b, .inl (o : Int), .inr ⟨od, s5 _ _ hdF⟩, rfl, (blk_in ((reach o).mpr (.step stR (List.mem_of_getElem? ho)))).symm⟩, rfl⟩
          · intro p H5 hp s5 hp5
            walk_at "rd"
            refine ⟨_, .inl ⟨.inl (.inl hp5), fun l hl p2 hp2 => ⟨(s5.trans (same_new hl)).trans (same_new hp2), ?_⟩⟩⟩
            refine .tup (.inl (.inl upd_same)) (.cons (.int _) (.cons (.tup (.inl (.inl ((same_new hp2) _ _ upd_same))) ?_) .nil))
            have : ((intsV (trow Z st)).map fun v => match v with | .int i => .int (b i.toNat : Int) | v => v) = intsV ((trow Z st).map b) := by
              unfold intsV
              rw [List.map_map, List.map_map]
              rfl
            rw [this]
            exact dp_ints _
        · rintro _ H5 ⟨M, rfl, s5, dM⟩
          have s35 := sF.trans s5
          have hN5 := (hN3.mono s4).mono s5
          have hD5 := s5 _ _ (s4 _ _ hD3)
          have nst : st ∉ R.take k := fun z => by
            have := tk1 ▸ (nd.sublist (List.take_sublist (k + 1) R))
            exact (List.nodup_append.mp this).2.2 st z st (List.mem_singleton.mpr rfl) rfl
          have kv : KeyV K H5 (markK (b st) ((trow Z st).map b)) (.ref M) := by
            have := KeyV.of dM mark_hash (by rw [markK_d]; exact mark_depth)
            rwa [markK_d] at this
          refine ⟨_, rfl, N, rfl, ⟨_, hN5⟩, _, rfl, _, rfl, N, _, rfl, hN5, _, _, hN5, kv, by rw [numF_len, sizeLine_eq]; omega, fun v hv => ?_, fun hv xs dn => ?_⟩
          · have me : markK (b st) ((trow Z st).map b) ∈ ms := Classical.byContradiction fun z => by
              rw [numK_out z] at hv
              cases hv
            rw [numK_in me] at hv
            obtain rfl := Option.some.inj hv
            refine ⟨_, rfl, _, rfl, D, _, rfl, DPut.k (k := Sum.inl (st : Int)) hD5 (by rw [blk_len, List.length_take, sizeLine_eq]; omega), ?_⟩
            rw [blk_put nst, ← tk1]
            refine ⟨_, ms, _, _, _, _, rfl, same_mut s35 (by rw [upd_ne nDd]; exact hDn), upd_same, hN5.nd (.dict hD5), mnd, by omega, fun s hs => ?_⟩
            by_cases e : s = st
            · simp only [e, if_true]
              exact ⟨me, trivial⟩
            · simp only [e, if_false]
              rw [tk1] at hs
              exact mf s ((List.mem_append.mp hs).resolve_right fun z => e (List.mem_singleton.mp z))
          · have me : markK (b st) ((trow Z st).map b) ∉ ms := fun z => by
              rw [numK_in z] at hv
              cases hv
            rw [numF_len, numK_put me] at dn
            have hD6 : upd H5 N (dN P w N xs) D = some (.dK (blkN (R.take k) b')) := by rw [upd_ne (Ne.symm nND)]; exact hD5
            refine ⟨_, rfl, _, rfl, D, _, rfl, DPut.k (k := Sum.inl (st : Int)) hD6 (by rw [blk_len, List.length_take, sizeLine_eq]; omega), ?_⟩
            rw [numF_len, blk_put nst, ← tk1]
            refine ⟨_, ms ++ [markK (b st) ((trow Z st).map b)], _, _, _, _, rfl, same_mut (same_mut s35 (by rw [upd_ne nNd]; exact hN)) (by rw [upd_ne nDd]; exact hDn), upd_same, dn.nd (.dict hD6), ?_, by rw [List.length_append]; show ms.length + 1 ≤ _; omega, fun s hs => ?_⟩
            · exact List.nodup_append.mpr ⟨mnd, by simp, fun x hx y hy e => me (by rw [List.mem_singleton.mp hy] at e; exact e ▸ hx)⟩
            · by_cases e : s = st
              · simp only [e, if_true]
                exact ⟨List.mem_append_right _ (List.mem_singleton.mpr rfl), idx_snoc me⟩
              · simp only [e, if_false]
                rw [tk1] at hs
                obtain ⟨m1, m2⟩ := mf s ((List.mem_append.mp hs).resolve_right fun z => e (List.mem_singleton.mp z))
                exact ⟨List.mem_append_left _ m1, (idx_app m1).trans m2⟩
      · rintro σ H3 ⟨b', ms, x4, x5, x6, x7, rfl, s3, hD3, hN3, mnd, mle, mf⟩
        rw [blk_len, List.take_of_length_le (Nat.le_refl _)] at hD3 mf
        have hdF := s3 _ _ upd_same
        refine ⟨hdF, b', _, _, _, _, _, rfl, same_unlock hd s3, by rw [upd_ne nDd]; exact hD3, fun s t r r' => ?_⟩
        obtain ⟨m1, e1⟩ := mf s ((reach s).mpr r)
        obtain ⟨m2, e2⟩ := mf t ((reach t).mpr r')
        refine ⟨fun e => markK_inj ?_, fun ⟨e, e'⟩ => by rw [← e1, ← e2, e, e']⟩
        rw [← e1, ← e2] at e
        have g1 := List.getElem_idxOf (List.idxOf_lt_length_of_mem m1)
        have g2 := List.getElem_idxOf (List.idxOf_lt_length_of_mem m2)
        rw [← g1, ← g2]
        simp only [e]
    · rintro σ H3 ⟨b', x2, x4, x5, x6, x7, rfl, s3, hD3, pt⟩
      walk_at "rd"
      exact q _ _ b' s3 hDn hD3 pt
theorem blk_congr {l : List Nat} {f g : Nat → Nat} (h : ∀ x ∈ l, f x = g x) : blkN l f = blkN l g := List.map_congr_left fun x hx => by rw [h x hx]
/-- blocks in a line, rows found of the first ones -/
structure LnI (Z : Tab) (b rep : Nat → Nat) (ls : List Nat) (Fs : Tab) : Prop where
  nd : ls.Nodup
  zero : ls[0]? = some (b 0)
  reach : ∀ x ∈ ls, ∃ s, Reach Z s ∧ b s = x
  le : Fs.length ≤ ls.length
  rows : ∀ i x, i < Fs.length → ls[i]? = some x → (∀ y ∈ (trow Z (rep x)).map b, y ∈ ls) ∧ trow Fs i = ((trow Z (rep x)).map b).map ls.idxOf
theorem LnI.grow {Z : Tab} {b rep : Nat → Nat} {ls : List Nat} {Fs : Tab} {s : Nat} (h : LnI Z b rep ls Fs) (r : Reach Z s) (n : b s ∉ ls) : LnI Z b rep (ls ++ [b s]) Fs := by
  refine ⟨List.nodup_append.mpr ⟨h.nd, by simp, fun x hx y hy e => n (by rw [List.mem_singleton.mp hy] at e; exact e ▸ hx)⟩, ?_, fun x hx => ?_, by rw [List.length_append]; exact Nat.le_trans h.le (Nat.le_add_right _ _), fun i x hi hx => ?_⟩
  · rw [List.getElem?_append_left (List.getElem?_eq_some_iff.mp h.zero).1]
    exact h.zero
  · rcases List.mem_append.mp hx with hx | hx
    · exact h.reach x hx
    · exact ⟨s, r, (List.mem_singleton.mp hx).symm⟩
  · have hx2 : ls[i]? = some x := by
      rw [List.getElem?_append_left (Nat.lt_of_lt_of_le hi h.le)] at hx
      exact hx
    obtain ⟨q1, q2⟩ := h.rows i x hi hx2
    refine ⟨fun y hy => List.mem_append_left _ (q1 y hy), ?_⟩
    rw [q2]
    exact List.map_congr_left fun y hy => (idx_app (q1 y hy)).symm
theorem trow_snoc {Fs : Tab} {r : List Nat} {i : Nat} (h : i < Fs.length) : trow (Fs ++ [r]) i = trow Fs i := by
  unfold trow
  rw [List.getD_eq_getElem?_getD, List.getElem?_append_left h, ← List.getD_eq_getElem?_getD]
theorem trow_last {Fs : Tab} {r : List Nat} : trow (Fs ++ [r]) Fs.length = r := by
  unfold trow
  rw [List.getD_eq_getElem?_getD, List.getElem?_append_right (Nat.le_refl _), Nat.sub_self]
  rfl
def NorI (Fs : Tab) (n : Nat) : Prop := ∃ c : Nat → Nat, c 0 = 1 ∧ c Fs.length = n ∧ ∀ i, i < Fs.length → i < c i ∧ (trow Fs i).foldl metN (List.range (c i)) = List.range (c (i + 1))
theorem NorI.snoc {Fs : Tab} {n n' : Nat} {r : List Nat} (h : NorI Fs n) (lt : Fs.length < n) (e : r.foldl metN (List.range n) = List.range n') : NorI (Fs ++ [r]) n' := by
  obtain ⟨c, c0, cn, cs⟩ := h
  refine ⟨fun i => if i = Fs.length + 1 then n' else c i, by simp only []; rw [if_neg (by omega)]; exact c0, by simp, fun i hi => ?_⟩
  rw [List.length_append] at hi
  have hi' : i < Fs.length + 1 := hi
  simp only []
  rw [if_neg (by omega : ¬ i = Fs.length + 1)]
  by_cases e2 : i = Fs.length
  · subst e2
    rw [if_pos rfl, cn, trow_last]
    exact ⟨lt, e⟩
  · rw [if_neg (by omega : ¬ i + 1 = Fs.length + 1), trow_snoc (by omega)]
    exact cs i (by omega)
theorem LnI.snoc {Z : Tab} {b rep : Nat → Nat} {ls : List Nat} {Fs : Tab} {x : Nat} (h : LnI Z b rep ls Fs) (hx : ls[Fs.length]? = some x) (hin : ∀ y ∈ (trow Z (rep x)).map b, y ∈ ls) : LnI Z b rep ls (Fs ++ [((trow Z (rep x)).map b).map ls.idxOf]) := by
  refine ⟨h.nd, h.zero, h.reach, by rw [List.length_append]; exact (List.getElem?_eq_some_iff.mp hx).1, fun i y hi hy => ?_⟩
  rw [List.length_append] at hi
  have hi' : i < Fs.length + 1 := hi
  by_cases e2 : i = Fs.length
  · subst e2
    rw [hx] at hy
    cases hy
    exact ⟨hin, trow_last⟩
  · rw [trow_snoc (by omega)]
    exact h.rows i y (by omega) hy
theorem nodup_le : ∀ (a c : List Int), a.Nodup → (∀ x ∈ a, x ∈ c) → a.length ≤ c.length
  | [], _, _, _ => Nat.zero_le _
  | x :: r, c, nd, hc => by
    have hx := List.nodup_cons.mp nd
    have := nodup_le r (c.erase x) hx.2 fun y hy => by
      have hne : y ≠ x := fun e => hx.1 (e ▸ hy)
      exact (List.mem_erase_of_ne hne).mpr (hc y (List.mem_cons_of_mem _ hy))
    have e1 := List.length_erase_of_mem (hc x List.mem_cons_self)
    have e2 := List.length_pos_of_mem (hc x List.mem_cons_self)
    rw [List.length_cons]
    omega
/-- a row that was made after H, apart from L and F -/
def FRow (H : Hp) (L F : Addr) (r : List Nat) (v : V) (H' : Hp) : Prop := ∃ q, v = .ref q ∧ H q = none ∧ q ≠ L ∧ q ≠ F ∧ H' q = some (.lst (intsV r))
def FRow2 (H : Hp) (L F A : Addr) (r : List Nat) (v : V) (H' : Hp) : Prop := ∃ q, v = .ref q ∧ H q = none ∧ q ≠ L ∧ q ≠ F ∧ q ≠ A ∧ H' q = some (.lst (intsV r))
theorem card_of {R : List Nat} {b : Nat → Nat} {B : Addr} {i : Nat} {σ : L2.St} {H : Hp} {Q : VK} (e : σ[i]? = some (some (.ref B))) (hB : H B = some (.dK (blkN R b))) (hn : R.length < 4000)
    (q : ∀ H' (l : List Int), Same H H' → l.Nodup → (∀ x, x ∈ l ↔ x ∈ R.map fun s => ((b s : Nat) : Int)) → Q (.int (l.length : Int)) H') : tListVals (tVar i) σ H fun x H1 => SI.rSetI K w [x] H1 fun x H1 => SI.rLenI w [x] H1 Q := by
  have ev : (blkN R b).map (·.2) = (R.map fun s => ((b s : Nat) : Int)).map V.int := by unfold blkN; rw [List.map_map, List.map_map]; rfl
  refine ⟨_, e, B, _, rfl, hB, fun p hp => ⟨R.map fun s => ((b s : Nat) : Int), .inl (.inl (by rw [upd_same, ev])), by rw [List.length_map]; exact hn, fun a l ha nd mem => ⟨l, upd_same, q _ l ((same_new hp).trans (same_new ha)) nd mem⟩⟩⟩
theorem len_l {p : Addr} {xs : List V} {H : Hp} (h : H p = some (.lst xs)) : LenV K (.ref p) H xs.length := .inl ⟨xs, .inl (.inl h), rfl⟩
def spLeast (K : PySem.W.Frag) : Sp := fun vs H Q _ => ∃ a b Z m us ds, vs = [.ref a, .ref b] ∧ TabV Z a H ∧ TabOk Z m ∧ m ≤ 5000 ∧ Z.length ≤ 3000 ∧ SqL K H b us ∧ DpAll K H us ds ∧ AnsOk ds ∧ Z.length ≤ ds.length ∧
  ∀ p H' F G fus us' Z' ds' f, Same H H' → H' p = some (.tup [.ref F, .ref G]) → H F = none → H G = none → H' F = some (.lst fus) → Each (fun r v H' => ∃ q, v = .ref q ∧ H q = none ∧ H' q = some (.lst (intsV r))) Z' fus H' → H' G = some (.lst us') → DpAll K H us' ds' →
    LeastSp (ansAt ds) Z m (ansAt ds') Z' f → ds'.length = Z'.length → Z'.length ≤ Z.length → (∀ d ∈ ds', d ∈ ds) → Q (.ref p) H'
theorem ok_least (T : Txt K mg) : OkD P w K mg base 2 (fA K "least") ["table", "answers"] [] (spLeast K) := by
  refine okD T.F_least sc_least (fun _ _ _ _ _ _ us hl => match us, hl with | [_, _], _ => rfl) ?_ ?_
  · rintro vs H Q E ⟨a, b, Z, m, us, ds, rfl, _⟩
    rfl
  · rintro cdv A outer s H vs Q E hr ⟨a, bA, Z, m, us, ds, rfl, tv, ok, hm, hn, hs, hds, ao, hl, q⟩
    refine ⟨_, (pss_cons (ps_set (i := 2) sc_least.nd rfl (Or.inl rfl) (pe_mid (pe_cal (ok_by_answers T) (hr.mono (by decide)) rfl T.g_by_answers (pasE (takes_of rfl rfl rfl rfl) (fun _ _ _ _ h => h)) (pa_cons (pe_cal (ok_reached T) (hr.mono (by decide)) rfl T.g_reached (pasE (takes_of rfl rfl rfl rfl) (fun _ _ _ _ h => h)) (pa_cons (pv 0) pa_nil)) (pa_cons (pv 1) pa_nil)))))
  (pss_cons (ps_set (i := 3) sc_least.nd rfl (Or.inl rfl) (pe_mid pe_int))
  (pss_cons (ps_mid (ps_while (passes_of rfl) (pt_mid (pt_cmpR o_lt (pv 3) (pe_callB (SI.len_setI (w := w)) (by rfl) T.fr_len boot_len (pa_cons (pe_callTy (SI.o_setI (K := K) (w := w) rfl) (by rfl) T.fr_set (by decide +kernel) (pa_cons (pe_listVals rfl (pv 2) (by rfl) T.fr_list (by decide +kernel)) pa_nil)) pa_nil)) (nomark _))) (pss_cons (ps_set (i := 3) sc_least.nd rfl (Or.inl rfl) (pe_mid (pe_callB (SI.len_setI (w := w)) (by rfl) T.fr_len boot_len (pa_cons (pe_callTy (SI.o_setI (K := K) (w := w) rfl) (by rfl) T.fr_set (by decide +kernel) (pa_cons (pe_listVals rfl (pv 2) (by rfl) T.fr_list (by decide +kernel)) pa_nil)) pa_nil))))
  (pss_one (ps_set (i := 2) sc_least.nd rfl (Or.inl rfl) (pe_mid (pe_cal (ok_parted T) (hr.mono (by decide)) rfl T.g_parted (pasE (takes_of rfl rfl rfl rfl) (fun _ _ _ _ h => h)) (pa_cons (pv 0) (pa_cons (pv 2) pa_nil)))))))))
  (pss_cons (ps_set (i := 4) sc_least.nd rfl (Or.inr rfl) (pe_mid pe_dnewK))
  (pss_cons (ps_mid (ps_lock (ps_for (passes_of rfl) rfl (pi_mid (pi_items (pv 2))) (pg_tupK (K := K) (n := 2) rfl (pgs_cons (pg_name (i := 5) sc_least.nd rfl (Or.inl rfl)) (pgs_cons (pg_name (i := 6) sc_least.nd rfl (Or.inl rfl)) pgs_nil))) (pss_one (ps_expr (pe_dsetd (pv 4) (pv 6) (pv 5) ⟨by rfl, by rfl, by rfl, by rfl⟩))))))
  (pss_cons (ps_set (i := 7) sc_least.nd rfl (Or.inl rfl) (pe_mid (pe_disp (pps_cons (pe_dget (hu_of hr) (pv 2) pe_int (fun _ _ => rfl)) pe_int pps_nil) rfl rfl (by decide) (by decide))))
  (pss_cons (ps_set (i := 8) sc_least.nd rfl (Or.inl rfl) (pe_mid (pe_lst (pa_cons (pe_dget (hu_of hr) (pv 2) pe_int (fun _ _ => rfl)) pa_nil))))
  (pss_cons (ps_set (i := 9) sc_least.nd rfl (Or.inl rfl) (pe_mid (pe_lst pa_nil)))
  (pss_cons (ps_mid (ps_while (passes_of rfl) (pt_mid (pt_cmpR o_lt (pe_callB (o_lenW (K := K) (w := w)) (by rfl) T.fr_len boot_len (pa_cons (pv 9) pa_nil)) (pe_callB (o_lenW (K := K) (w := w)) (by rfl) T.fr_len boot_len (pa_cons (pv 8) pa_nil)) (nomark _))) (pss_cons (ps_set (i := 10) sc_least.nd rfl (Or.inl rfl) (pe_mid (pe_lst pa_nil)))
  (pss_cons (ps_mid (ps_for (passes_of rfl) rfl (pi_mid (o_it (K := K) rfl (pe_ix (o_ix (K := K)) (pv 0) (pe_dget (hu_of hr) (pv 4) (pe_ix (o_ix (K := K)) (pv 8) (pe_callB (o_lenW (K := K) (w := w)) (by rfl) T.fr_len boot_len (pa_cons (pv 9) pa_nil)) (fun _ _ => rfl)) (fun _ _ => rfl)) (fun _ _ => rfl)))) (pg_name (i := 11) sc_least.nd rfl (Or.inl rfl)) (pss_cons (ps_set (i := 6) sc_least.nd rfl (Or.inl rfl) (pe_mid (pe_dget (hu_of hr) (pv 2) (pv 11) (fun _ _ => rfl))))
  (pss_cons (ps_mid (ps_if (pt_mid (pt_cmp (pc_dnotin (hu_of hr) (pv 6) (pv 7)) rfl)) (pss_cons (ps_dput (hu_of hr) (pv 7) (pv 6) (pe_callB (o_lenW (K := K) (w := w)) (by rfl) T.fr_len boot_len (pa_cons (pv 8) pa_nil)) rfl)
  (pss_one (ps_expr (pe_bmK (K := K) PySem.F.plainAttrs_list PySem.F.slot_list_append PySem.F.type_list_append mt_append (pv 8) (pa_cons (pe_mid (pv 6)) pa_nil))))) pss_nil))
  (pss_one (ps_expr (pe_bmK (K := K) PySem.F.plainAttrs_list PySem.F.slot_list_append PySem.F.type_list_append mt_append (pv 10) (pa_cons (pe_mid (pe_dget (hu_of hr) (pv 7) (pv 6) (fun _ _ => rfl))) pa_nil))))))))
  (pss_one (ps_expr (pe_bmK (K := K) PySem.F.plainAttrs_list PySem.F.slot_list_append PySem.F.type_list_append mt_append (pv 9) (pa_cons (pe_mid (pv 10)) pa_nil))))))))
  (pss_one (ps_ret (pe_tup (pa_cons (pv 9) (pa_cons (pe_lc (own := [("block", 6)]) (g := (gName 6)) (tt := tYes) rfl sc_least.nd (pi_mid (o_it (K := K) rfl (pv 8))) (blkOk_by (N := N_least) (sc := defScope TX.s_least) (by decide +kernel)) (fun _ _ _ _ _ => (pg_name (i := 6) sc_least.nd rfl (Or.inl rfl))) (fun _ _ _ _ _ => pts_nil) (fun _ _ _ _ _ => (pe_mid (pe_ix (o_ix (K := K)) (pv 1) (pe_dget (hu_of hr) (pv 4) (pv 6) (fun _ _ => rfl)) (fun _ _ => rfl))))) pa_nil)))))))))))))), ?_⟩
    have tobj := T.obj
    refine q_midG (fun v H' => ∃ B R b, v = .ref B ∧ Same H H' ∧ R.Nodup ∧ (∀ s, s ∈ R ↔ Reach Z s) ∧ H' B = some (.dK (blkN R b)) ∧ BlocksOk (ansAt ds) Z b) ?_ ?_
    · walk_at "rd"
      refine ⟨a, Z, m, rfl, tv, ok, by omega, fun p H1 R sR hp hR nd rc => ⟨p, bA, R, us, ds, rfl, .inl (.inl hR), same_l sR hs, dpAll_mono sR _ _ hds, ao, nd, fun s hs' => Nat.lt_of_lt_of_le (((rc s).mp hs').lt ok) hl, ?_, fun B H2 f s2 hB hB2 hf => ⟨B, rfl, sR.trans s2, R, nd, rc, f, hB2, ?_⟩⟩⟩
      · have := nat_nodup_len R (List.range Z.length) nd fun s hs => List.mem_range.mpr (((rc s).mp hs).lt ok)
        rw [List.length_range] at this
        omega
      · exact ⟨fun s t r r' e => (hf s ((rc s).mpr r) t ((rc t).mpr r')).mpr (e []), fun s t r r' e => (hf s ((rc s).mpr r) t ((rc t).mpr r')).mp e⟩
    rintro _ H1 ⟨B, R, b, rfl, s1, nd, reach, hB, bo⟩
    have Rn : R.length ≤ Z.length := by
      have := nat_nodup_len R (List.range Z.length) nd fun s hs => List.mem_range.mpr (((reach s).mp hs).lt ok)
      rwa [List.length_range] at this
    refine q_midG (fun v H' => v = .int 0 ∧ H' = H1) ?_ ?_
    · walk_at "rd"
    rintro _ _ ⟨rfl, rfl⟩
    refine q_stm (fun σ H' => ∃ B b x3, σ = [some (.ref a), some (.ref bA), some (.ref B), x3, none, none, none, none, none, none, none, none] ∧ Same H H' ∧ H' B = some (.dK (blkN R b)) ∧ BlocksOk (ansAt ds) Z b ∧ Stable Z b) ?_ ?_
    · refine while_mid (fun mm σ H' => ∃ B b n, σ = [some (.ref a), some (.ref bA), some (.ref B), some (.int ((n : Nat) : Int)), none, none, none, none, none, none, none, none] ∧ Same H H' ∧ H' B = some (.dK (blkN R b)) ∧ BlocksOk (ansAt ds) Z b ∧ (n = 0 ∨ ∃ (b0 : Nat → Nat) (l0 : List Int), Parted Z b0 b ∧ l0.Nodup ∧ (∀ x, x ∈ l0 ↔ x ∈ R.map fun s => ((b0 s : Nat) : Int)) ∧ n = l0.length) ∧ n ≤ R.length ∧ mm = R.length - n) _ ⟨B, b, 0, rfl, s1, hB, bo, .inl rfl, Nat.zero_le _, rfl⟩ ?_
      rintro mm σ H2 ⟨B, b, n, rfl, s2, hB, bo, hn0, nle, rfl⟩
      refine ⟨fun c H' => Same H2 H' ∧ ∃ l : List Int, l.Nodup ∧ (∀ x, x ∈ l ↔ x ∈ R.map fun s => ((b s : Nat) : Int)) ∧ c = decide ((n : Int) < (l.length : Int)), ?_, ?_, ?_⟩
      · walk_at "rd"
        exact card_of rfl hB (by omega) fun H' l s' nd' mem => ⟨s', l, nd', mem, rfl⟩
      · rintro H3 ⟨s3, l, lnd, lm, hb⟩
        refine q_midG (fun v H' => Same H3 H' ∧ ∃ l : List Int, v = .int (l.length : Int) ∧ l.Nodup ∧ (∀ x, x ∈ l ↔ x ∈ R.map fun s => ((b s : Nat) : Int))) ?_ ?_
        · walk_at "rd"
          exact card_of rfl (s3 _ _ hB) (by omega) fun H' l s' nd' mem => ⟨s', l, rfl, nd', mem⟩
        rintro _ H4 ⟨s4, l2, rfl, l2nd, l2m⟩
        have s34 := (s2.trans s3).trans s4
        refine l_midG (fun v H' => Same H4 H' ∧ ∃ B b', v = .ref B ∧ H' B = some (.dK (blkN R b')) ∧ Parted Z b b') ?_ ?_
        · walk_at "rd"
          exact ⟨a, B, Z, m, R, b, rfl, tv.mono s34, ok, hm, nd, reach, by omega, s4 _ _ (s3 _ _ hB), fun p H' b' s' _ hp pt => ⟨s', p, rfl, b', hp, pt⟩⟩
        rintro _ H5 ⟨s5, B', b', rfl, hB', pt⟩
        have l2le : l2.length ≤ R.length := by
          have := nodup_le l2 (R.map fun s => ((b s : Nat) : Int)) l2nd fun x hx => (l2m x).mp hx
          rwa [List.length_map] at this
        have lle : l.length ≤ l2.length := nodup_le l l2 lnd fun x hx => (l2m x).mpr ((lm x).mp hx)
        have lt : n < l.length := by have := of_decide_eq_true hb.symm; omega
        exact ⟨_, by omega, B', b', l2.length, rfl, s34.trans s5, hB', bo.next ok pt, .inr ⟨b, l2, pt, l2nd, l2m, rfl⟩, l2le, rfl⟩
      · rintro H3 ⟨s3, l, lnd, lm, hb⟩
        have ge : l.length ≤ n := by have := of_decide_eq_false hb.symm; omega
        refine ⟨B, b, _, rfl, s2.trans s3, s3 _ _ hB, bo, ?_⟩
        rcases hn0 with rfl | ⟨b0, l0, pt, l0nd, l0m, rfl⟩
        · have : ((b 0 : Nat) : Int) ∈ l := (lm _).mpr (List.mem_map.mpr ⟨0, (reach 0).mpr .zero, rfl⟩)
          have := List.length_pos_of_mem this
          omega
        · refine stable_of pt fun s t r r' => ?_
          exact fewer (R := R) (b := b0) (b' := b) (fun s hs t ht e => ((pt s t ((reach s).mp hs) ((reach t).mp ht)).mp e).1) l0m lnd lm l0nd ge s ((reach s).mpr r) t ((reach t).mpr r')
    rintro σ H3 ⟨B, b, x3, rfl, s3, hB, bo, st⟩
    refine q_midG (fun v H' => ∃ S, v = .ref S ∧ H3 S = none ∧ Same H3 H' ∧ H' S = some (.dK [])) ?_ ?_
    · walk_at "rd"
      exact fun p hp => ⟨hp, same_new hp, upd_same⟩
    rintro _ H4 ⟨S0, rfl, hS, s4, hS4⟩
    have hB4 := s4 _ _ hB
    have nSB : S0 ≠ B := fun z => by rw [z] at hS; rw [hB] at hS; cases hS
    refine q_stm (fun σ H' => ∃ kvs x5 x6, σ = [some (.ref a), some (.ref bA), some (.ref B), x3, some (.ref S0), x5, x6, none, none, none, none, none] ∧ Same H3 H' ∧ H' S0 = some (.dK kvs) ∧ ∀ s ∈ R, ∃ r ∈ R, b r = b s ∧ valV kvs (.inl (b s : Int)) = some (.int (r : Int))) ?_ ?_
    · refine ⟨B, _, hB4, trivial, fun od => ?_⟩
      refine for_pair (J0 := Iti B od (blkN R b)) (H0 := upd H4 B (.frz od (.dK (blkN R b)))) ?_ walk_items (fun k σ H' => ∃ kvs x5 x6, σ = [some (.ref a), some (.ref bA), some (.ref B), x3, some (.ref S0), x5, x6, none, none, none, none, none] ∧ Same (upd H3 B (.frz od (.dK (blkN R b)))) H' ∧ H' S0 = some (.dK kvs) ∧ kvs.length ≤ k ∧ (∀ (x : Nat) (v : V), valV kvs (.inl (x : Int)) = some v → ∃ r ∈ R, b r = x ∧ v = .int (r : Int)) ∧ ∀ s ∈ R.take k, (valV kvs (.inl (b s : Int))).isSome = true)
        ⟨[], _, _, rfl, same_updS s4, by rw [upd_ne nSB]; exact hS4, Nat.le_refl _, fun _ _ h => (nomatch h), fun s h => by simp at h⟩ (fun _ _ _ _ ⟨_, _, _, _, s, _⟩ => s _ _ upd_same) ?_ ?_
      · exact ⟨_, rfl, B, od, blkN R b, rfl, upd_same, rfl, rfl⟩
      · rintro k x y σ H5 H6 hk ⟨kvs, x5, x6, rfl, s5, hS5, kl, kin, kall⟩ s6 hx hy
        rw [blk_len] at hk
        have hst := List.getElem?_eq_getElem hk
        have exy : x = .int ((R[k] : Nat) : Int) ∧ y = .int ((b R[k] : Nat) : Int) := by
          unfold blkN at hx hy
          rw [List.getElem?_map, hst] at hx hy
          exact ⟨(Option.some.inj hx).symm, (Option.some.inj hy).symm⟩
        obtain ⟨rfl, rfl⟩ := exy
        generalize est : R[k] = st0 at *
        have tk1 : R.take (k + 1) = R.take k ++ [st0] := by rw [List.take_add_one, hst]; rfl
        have hS6 := s6 _ _ hS5
        refine ⟨_, rfl, S0, rfl, .inl ⟨kvs, .inl hS6⟩, _, rfl, _, rfl, kvs, .inl (b st0 : Int), hS6, rfl, by rw [sizeLine_eq]; omega, fun v hv => ?_, fun hv => ?_⟩
        · refine ⟨kvs, _, _, rfl, s5.trans s6, hS6, by omega, kin, fun s hs => ?_⟩
          rw [tk1] at hs
          rcases List.mem_append.mp hs with hs | hs
          · exact kall s hs
          · rw [List.mem_singleton.mp hs, hv]; rfl
        · refine ⟨putK kvs (.inl (b st0 : Int)) (.int (st0 : Int)), _, _, rfl, same_mut (s5.trans s6) (by rw [upd_ne nSB]; exact hS), upd_same, by have := length_putK kvs (.inl (b st0 : Int)) (.int (st0 : Int)); omega, fun x v hx' => ?_, fun s hs => ?_⟩
          · rw [valV_put] at hx'
            by_cases e : (Sum.inl (x : Int) : Key) = Sum.inl (b st0 : Int)
            · rw [if_pos e] at hx'
              cases hx'
              exact ⟨st0, List.mem_of_getElem? hst, (inlN e).symm, rfl⟩
            · rw [if_neg e] at hx'
              exact kin x v hx'
          · rw [valV_put]
            by_cases e : (Sum.inl (b s : Int) : Key) = Sum.inl (b st0 : Int)
            · rw [if_pos e]; rfl
            · rw [if_neg e]
              rw [tk1] at hs
              refine kall s ((List.mem_append.mp hs).resolve_right fun z => e (by rw [List.mem_singleton.mp z]))
      · rintro σ H5 ⟨kvs, x5, x6, rfl, s5, hS5, kl, kin, kall⟩
        rw [blk_len, List.take_of_length_le (Nat.le_refl _)] at kall
        refine ⟨s5 _ _ upd_same, kvs, _, _, rfl, same_unlock hB s5, by rw [upd_ne nSB]; exact hS5, fun s hs => ?_⟩
        have := kall s hs
        cases e : valV kvs (.inl (b s : Int)) with
        | none => rw [e] at this; cases this
        | some v =>
          obtain ⟨r, hr, er, ev⟩ := kin _ _ e
          exact ⟨r, hr, er, by rw [ev]⟩
    rintro σ H5 ⟨kvs, x5, x6, rfl, s5, hS5, rp⟩
    have exr : ∀ x, ∃ r, x ∈ R.map b → r ∈ R ∧ b r = x ∧ valV kvs (.inl (x : Int)) = some (.int (r : Int)) := fun x => by
      by_cases hx : x ∈ R.map b
      · obtain ⟨s, hs, rfl⟩ := List.mem_map.mp hx
        obtain ⟨r, hr⟩ := rp s hs
        exact ⟨r, fun _ => ⟨hr.1, hr.2.1, hr.2.2⟩⟩
      · exact ⟨0, fun z => absurd z hx⟩
    obtain ⟨rep, hrep⟩ := Classical.axiomOfChoice exr
    have hB5 := s5 _ _ hB
    have b0v : valV (blkN R b) (.inl ((0 : Nat) : Int)) = some (.int (b 0 : Int)) := blk_in ((reach 0).mpr .zero)
    refine q_midG (fun v H' => ∃ N, v = .ref N ∧ H5 N = none ∧ Same H5 H' ∧ H' N = some (.dK (blkN [b 0] [b 0].idxOf))) ?_ ?_
    · walk_at "rd"
      intro p hp
      have nBp : B ≠ p := ne_of_none hB5 hp
      refine ⟨.int (b 0 : Int), ?_, upd_same, [(.inl (b 0 : Int), .int 0)], rfl, by simp, hp, by rw [upd_upd]; exact same_new hp, ?_⟩
      · rw [← b0v]
        exact DGet.k (k := Sum.inl ((0 : Nat) : Int)) (by rw [upd_ne nBp]; exact hB5)
      · rw [upd_same]
        show some (HO.dK [((Sum.inl (b 0 : Int) : Key), V.int 0)]) = some (HO.dK [((Sum.inl (b 0 : Int) : Key), V.int (([b 0].idxOf (b 0) : Nat) : Int))])
        rw [List.idxOf_cons_self]
        rfl
    rintro _ H6 ⟨N, rfl, hN, s6, hN6⟩
    refine q_midG (fun v H' => ∃ L, v = .ref L ∧ H6 L = none ∧ Same H6 H' ∧ H' L = some (.lst (intsV [b 0]))) ?_ ?_
    · walk_at "rd"
      exact ⟨.int (b 0 : Int), by rw [← b0v]; exact DGet.k (k := Sum.inl ((0 : Nat) : Int)) (s6 _ _ hB5), fun p hp => ⟨hp, same_new hp, upd_same⟩⟩
    rintro _ H7 ⟨L, rfl, hL, s7, hL7⟩
    refine q_midG (fun v H' => ∃ F, v = .ref F ∧ H7 F = none ∧ Same H7 H' ∧ H' F = some (.lst [])) ?_ ?_
    · walk_at "rd"
      exact fun p hp => ⟨hp, same_new hp, upd_same⟩
    rintro _ H8 ⟨F, rfl, hF, s8, hF8⟩
    have s58 := (s6.trans s7).trans s8
    have sH5 := s3.trans s5
    have sH8 := sH5.trans s58
    have hNn : H N = none := same_none sH5 hN
    have hLn : H L = none := same_none (sH5.trans s6) hL
    have hFn : H F = none := same_none ((sH5.trans s6).trans s7) hF
    have h5N := hN
    have h5L : H5 L = none := same_none s6 hL
    have h5F : H5 F = none := same_none (s6.trans s7) hF
    have nLN : L ≠ N := fun z => by rw [z, hN6] at hL; cases hL
    have nFN : F ≠ N := fun z => by rw [z, s7 _ _ hN6] at hF; cases hF
    have nFL : F ≠ L := fun z => by rw [z, hL7] at hF; cases hF
    have lsR : ∀ {ls Fs}, LnI Z b rep ls Fs → ls.length ≤ R.length := fun {ls Fs} h => by
      have := nat_nodup_len ls (R.map b) h.nd fun x hx => by
        obtain ⟨s, r, e⟩ := h.reach x hx
        exact List.mem_map.mpr ⟨s, (reach s).mpr r, e⟩
      rwa [List.length_map] at this
    have repR : ∀ {ls Fs}, LnI Z b rep ls Fs → ∀ x ∈ ls, Reach Z (rep x) ∧ b (rep x) = x ∧ valV kvs (.inl (x : Int)) = some (.int (rep x : Int)) := fun {ls Fs} h x hx => by
      obtain ⟨s, r, e⟩ := h.reach x hx
      obtain ⟨h1, h2, h3⟩ := hrep x (List.mem_map.mpr ⟨s, (reach s).mpr r, e⟩)
      exact ⟨(reach _).mp h1, h2, h3⟩
    refine q_stm (fun σ H' => ∃ ls Fs fus x5 x6 x10 x11, σ = [some (.ref a), some (.ref bA), some (.ref B), x3, some (.ref S0), x5, x6, some (.ref N), some (.ref L), some (.ref F), x10, x11] ∧ Same H5 H' ∧ H' N = some (.dK (blkN ls ls.idxOf)) ∧ H' L = some (.lst (intsV ls)) ∧ H' F = some (.lst fus) ∧ Each (FRow H L F) Fs fus H' ∧ LnI Z b rep ls Fs ∧ NorI Fs ls.length ∧ Fs.length = ls.length) ?_ ?_
    · refine while_mid (fun mm σ H' => ∃ ls Fs fus x5 x6 x10 x11, σ = [some (.ref a), some (.ref bA), some (.ref B), x3, some (.ref S0), x5, x6, some (.ref N), some (.ref L), some (.ref F), x10, x11] ∧ Same H5 H' ∧ H' N = some (.dK (blkN ls ls.idxOf)) ∧ H' L = some (.lst (intsV ls)) ∧ H' F = some (.lst fus) ∧ Each (FRow H L F) Fs fus H' ∧ LnI Z b rep ls Fs ∧ NorI Fs ls.length ∧ mm = R.length - Fs.length) _
        ⟨[b 0], [], [], _, _, _, _, rfl, s58, s8 _ _ (s7 _ _ hN6), s8 _ _ hL7, hF8, .nil, ⟨by simp, rfl, fun x hx => ⟨0, .zero, (List.mem_singleton.mp hx).symm⟩, Nat.zero_le _, fun i x h => absurd h (Nat.not_lt_zero _)⟩, ⟨fun _ => 1, rfl, rfl, fun i h => absurd h (Nat.not_lt_zero _)⟩, rfl⟩ ?_
      rintro mm σ H9 ⟨ls, Fs, fus, x5, x6, x10, x11, rfl, s9, hN9, hL9, hF9, fr, ln, nor, rfl⟩
      have lsle := lsR ln
      refine ⟨fun c H' => H' = H9 ∧ c = decide (Fs.length < ls.length), ?_, ?_, ?_⟩
      · walk_at "rd"
        refine .inr ⟨_, len_l hF9, .inr ⟨_, len_l hL9, ?_⟩⟩
        rw [ints_len, fr.1]
        exact decide_eq_decide.mpr Int.ofNat_lt
      · rintro H10 ⟨rfl, hb⟩
        have lt := of_decide_eq_true hb.symm
        refine q_midG (fun v H' => ∃ A, v = .ref A ∧ H10 A = none ∧ Same H10 H' ∧ H' A = some (.lst (intsV []))) ?_ ?_
        · walk_at "rd"
          exact fun p hp => ⟨hp, same_new hp, upd_same⟩
        rintro _ H11 ⟨A0, rfl, hA, s11, hA11⟩
        have hAn : H A0 = none := same_none (sH5.trans s9) hA
        have h5A : H5 A0 = none := same_none s9 hA
        have nAN : A0 ≠ N := fun z => by rw [z, hN9] at hA; cases hA
        have nAL : A0 ≠ L := fun z => by rw [z, hL9] at hA; cases hA
        have nAF : A0 ≠ F := fun z => by rw [z, hF9] at hA; cases hA
        obtain ⟨x, hx⟩ : ∃ x, ls[Fs.length]? = some x := ⟨_, List.getElem?_eq_getElem lt⟩
        obtain ⟨rr, rb, rv⟩ := repR ln x (List.mem_of_getElem? hx)
        obtain ⟨us2, pr, hus, hup, hpr⟩ := tv.at_ (rr.lt ok)
        have frA : ∀ r v, FRow H L F r v H10 → FRow2 H L F A0 r v H11 := fun r v ⟨q, e, h1, h2, h3, h4⟩ => ⟨q, e, h1, h2, h3, ne_of_none h4 hA, s11 _ _ h4⟩
        have prl := ok.rowLen (rr.lt ok)
        refine q_stm (fun σ H' => ∃ ls' x5 x6 x11, σ = [some (.ref a), some (.ref bA), some (.ref B), x3, some (.ref S0), x5, x6, some (.ref N), some (.ref L), some (.ref F), some (.ref A0), x11] ∧ Same H5 H' ∧ H' N = some (.dK (blkN ls' ls'.idxOf)) ∧ H' L = some (.lst (intsV ls')) ∧ H' F = some (.lst fus) ∧ H' A0 = some (.lst (intsV (((trow Z (rep x)).map b).map ls'.idxOf))) ∧ Each (FRow2 H L F A0) Fs fus H' ∧ LnI Z b rep ls' Fs ∧ ls'[Fs.length]? = some x ∧ (∀ y ∈ (trow Z (rep x)).map b, y ∈ ls') ∧ (((trow Z (rep x)).map b).map ls'.idxOf).foldl metN (List.range ls.length) = List.range ls'.length) ?_ ?_
        · refine for_mid (J0 := Itl K pr) (H0 := H11) ?_ (walk_list (K := K) (a := pr) (xs := intsV (trow Z (rep x)))) (fun j σ H' => ∃ ls' x5 x6 x11, σ = [some (.ref a), some (.ref bA), some (.ref B), x3, some (.ref S0), x5, x6, some (.ref N), some (.ref L), some (.ref F), some (.ref A0), x11] ∧ Same H5 H' ∧ H' N = some (.dK (blkN ls' ls'.idxOf)) ∧ H' L = some (.lst (intsV ls')) ∧ H' F = some (.lst fus) ∧ H' A0 = some (.lst (intsV ((((trow Z (rep x)).take j).map b).map ls'.idxOf))) ∧ Each (FRow2 H L F A0) Fs fus H' ∧ LnI Z b rep ls' Fs ∧ ls'[Fs.length]? = some x ∧ (∀ y ∈ ((trow Z (rep x)).take j).map b, y ∈ ls') ∧ ((((trow Z (rep x)).take j).map b).map ls'.idxOf).foldl metN (List.range ls.length) = List.range ls'.length)
            ⟨ls, _, _, _, rfl, s9.trans s11, s11 _ _ hN9, s11 _ _ hL9, s11 _ _ hF9, hA11, fr.imp frA, ln, hx, (fun y h => by simp at h), rfl⟩ (fun _ _ _ _ ⟨_, _, _, _, _, s, _⟩ => same_l (sH5.trans s) (.inl (.inl hpr))) ?_ ?_
          · have s11' := (sH5.trans s9).trans s11
            walk_at "rd"
            exact .inr ⟨_, len_l (s11 _ _ hF9), intsV ls, .inl (.inl (.inl (s11 _ _ hL9))), .int (x : Int), atI_nat (by rw [fr.1, ints_at, hx]; rfl), .int (rep x : Int), by rw [← rv]; exact DGet.k (k := Sum.inl (x : Int)) (s11 _ _ (s9 _ _ hS5)), us2, .inl (.inl (.inl (s11' _ _ hus))), .ref pr, atI_nat hup, .inl ⟨⟨_, .inl (.inl (s11' _ _ hpr))⟩, rfl⟩⟩
          · rintro j v σ H12 H13 hj ⟨ls', y5, y6, y11, rfl, s12, hN12, hL12, hF12, hA12, fr12, ln12, hx12, hin, fold⟩ ⟨rfl, ho⟩
            rw [ints_at] at ho
            obtain ⟨o, hoo, rfl⟩ := Option.map_eq_some_iff.mp ho
            have hjl : j < (trow Z (rep x)).length := (List.getElem?_eq_some_iff.mp hoo).1
            have oR : Reach Z o := .step rr (List.mem_of_getElem? hoo)
            have tk1 : (trow Z (rep x)).take (j + 1) = (trow Z (rep x)).take j ++ [o] := by rw [List.take_add_one, hoo]; rfl
            have lsle' := lsR ln12
            refine q_midG (fun v H' => v = .int (b o : Int) ∧ H' = H13) ?_ ?_
            · walk_at "rd"
              exact ⟨_, by rw [← blk_in ((reach o).mpr oR)]; exact DGet.k (k := Sum.inl (o : Int)) (s12 _ _ hB5), rfl⟩
            rintro _ H13 ⟨rfl, rfl⟩
            have hlen : (blkN ls' ls'.idxOf).length < sizeLine := by rw [blk_len, sizeLine_eq]; omega
            refine q_stm (fun σ H' => ∃ ls', σ = [some (.ref a), some (.ref bA), some (.ref B), x3, some (.ref S0), y5, some (.int (b o : Int)), some (.ref N), some (.ref L), some (.ref F), some (.ref A0), some (.int (o : Int))] ∧ Same H5 H' ∧ H' N = some (.dK (blkN ls' ls'.idxOf)) ∧ H' L = some (.lst (intsV ls')) ∧ H' F = some (.lst fus) ∧ H' A0 = some (.lst (intsV ((((trow Z (rep x)).take j).map b).map ls'.idxOf))) ∧ Each (FRow2 H L F A0) Fs fus H' ∧ LnI Z b rep ls' Fs ∧ ls'[Fs.length]? = some x ∧ (∀ y ∈ ((trow Z (rep x)).take j).map b, y ∈ ls') ∧ b o ∈ ls' ∧ ((((trow Z (rep x)).take (j + 1)).map b).map ls'.idxOf).foldl metN (List.range ls.length) = List.range ls'.length) ?_ ?_
            · refine l_if (fun c H' => H' = H13 ∧ c = !decide (b o ∈ ls')) ?_ (fun H14 h => ?_) fun H14 h => ?_
              · walk_at "rd"
                refine ⟨_, DGet.k (k := Sum.inl (b o : Int)) hN12, ?_⟩
                by_cases e : b o ∈ ls'
                · rw [blk_in e, decide_eq_true e]; rfl
                · rw [blk_out e, decide_eq_false e]; rfl
              · obtain ⟨rfl, hb'⟩ := h
                have no : b o ∉ ls' := by simpa using hb'.symm
                refine ⟨_, rfl, .inr ⟨_, len_l hL12, _, rfl, _, rfl, N, _, rfl, DPut.k (k := Sum.inl (b o : Int)) hN12 hlen, ?_⟩⟩
                rw [ints_len, blk_put no, blk_congr (g := (ls' ++ [b o]).idxOf) fun y hy => ?_]
                · refine l_appV (xs := intsV ls') rfl rfl (lst_upd hN12 hL12) (by rw [ints_len]; omega) ?_
                  rw [ints_snoc]
                  have lnG := ln12.grow oR no
                  refine ⟨ls' ++ [b o], rfl, same_mut (same_mut s12 h5N) h5L, by rw [upd_ne (Ne.symm nLN), upd_same], upd_same, by rw [upd_ne nFL]; exact lst_upd hN12 hF12, ?_, ?_, lnG, ?_, fun y hy => List.mem_append_left _ (hin y hy), List.mem_append_right _ (List.mem_singleton.mpr rfl), ?_⟩
                  · rw [upd_ne nAL, lst_upd hN12 hA12]
                    refine congrArg (fun l => some (HO.lst (intsV l))) (List.map_congr_left fun y hy => (idx_app (hin y hy)).symm)
                  · exact fr12.imp fun r v ⟨q, e, h1, h2, h3, h4, h5⟩ => ⟨q, e, h1, h2, h3, h4, by rw [upd_ne h2]; exact lst_upd hN12 h5⟩
                  · rw [List.getElem?_append_left (List.getElem?_eq_some_iff.mp hx12).1]
                    exact hx12
                  · rw [tk1, List.map_append, List.map_append, List.foldl_append]
                    have e1 : ((((trow Z (rep x)).take j).map b).map (ls' ++ [b o]).idxOf) = ((((trow Z (rep x)).take j).map b).map ls'.idxOf) := List.map_congr_left fun y hy => idx_app (hin y hy)
                    rw [e1, fold]
                    show metN (List.range ls'.length) ((ls' ++ [b o]).idxOf (b o)) = _
                    rw [idx_snoc no, List.length_append]
                    show metN (List.range ls'.length) ls'.length = List.range (ls'.length + 1)
                    rw [List.range_succ]
                    exact if_neg (by rw [List.mem_range]; omega)
                · by_cases e : y = b o
                  · simp only [e, if_true]
                    exact (idx_snoc no).symm
                  · simp only [e, if_false]
                    exact (idx_app ((List.mem_append.mp hy).resolve_right fun z => e (List.mem_singleton.mp z))).symm
              · obtain ⟨rfl, hb'⟩ := h
                have yo : b o ∈ ls' := by simpa using hb'.symm
                refine ⟨ls', rfl, s12, hN12, hL12, hF12, hA12, fr12, ln12, hx12, hin, yo, ?_⟩
                rw [tk1, List.map_append, List.map_append, List.foldl_append, fold]
                show metN (List.range ls'.length) (ls'.idxOf (b o)) = _
                exact if_pos (List.mem_range.mpr (List.idxOf_lt_length_of_mem yo))
            · rintro σ H14 ⟨ls', rfl, s14, hN14, hL14, hF14, hA14, fr14, ln14, hx14, hin14, yo, fold14⟩
              refine l_app (xs := intsV ((((trow Z (rep x)).take j).map b).map ls'.idxOf)) rfl hA14 ?_
              refine ⟨_, rfl, _, rfl, N, .int (ls'.idxOf (b o) : Int), rfl, ?_, _, hA14, ?_, ls', y5, _, _, rfl, same_mut s14 h5A, ?_, ?_, ?_, ?_, ?_, ln14, hx14, ?_, fold14⟩
              · rw [← blk_in yo (f := ls'.idxOf)]
                exact DGet.k (k := Sum.inl (b o : Int)) hN14
              · rw [ints_len, List.length_map, List.length_map, List.length_take, sizeLine_eq]
                omega
              · rw [upd_ne (Ne.symm nAN)]; exact hN14
              · rw [upd_ne (Ne.symm nAL)]; exact hL14
              · rw [upd_ne (Ne.symm nAF)]; exact hF14
              · rw [upd_same, tk1, List.map_append, List.map_append, ints_snoc]
                rfl
              · exact fr14.imp fun r v ⟨q, e, h1, h2, h3, h4, h5⟩ => ⟨q, e, h1, h2, h3, h4, by rw [upd_ne h4]; exact h5⟩
              · intro y hy
                rw [tk1, List.map_append] at hy
                rcases List.mem_append.mp hy with hy | hy
                · exact hin14 y hy
                · rw [List.mem_singleton.mp hy]; exact yo
          · rintro σ H12 ⟨ls', y5, y6, y11, rfl, s12, hN12, hL12, hF12, hA12, fr12, ln12, hx12, hin, fold⟩
            rw [ints_len, List.take_of_length_le (Nat.le_refl _)] at hA12 hin fold
            exact ⟨ls', _, _, _, rfl, s12, hN12, hL12, hF12, hA12, fr12, ln12, hx12, hin, fold⟩
        · rintro σ H12 ⟨ls', y5, y6, y11, rfl, s12, hN12, hL12, hF12, hA12, fr12, ln12, hx12, hin, fold⟩
          refine l_app (xs := fus) rfl hF12 ⟨_, rfl, fus, hF12, by rw [fr12.1, sizeLine_eq]; have := lsR ln12; have := ln12.le; omega, ?_⟩
          have fr' : Each (FRow H L F) (Fs ++ [((trow Z (rep x)).map b).map ls'.idxOf]) (fus ++ [.ref A0]) (upd H12 F (.lst (fus ++ [.ref A0]))) := by
            refine Each.snoc (fr12.imp fun r v ⟨q, e, h1, h2, h3, _, h4⟩ => ⟨q, e, h1, h2, h3, by rw [upd_ne h3]; exact h4⟩) ⟨A0, rfl, hAn, nAL, nAF, by rw [upd_ne nAF]; exact hA12⟩
          have := lsR ln12
          have lt2 := (List.getElem?_eq_some_iff.mp hx12).1
          refine ⟨_, ?_, ls', _, _, y5, y6, _, y11, rfl, same_mut s12 h5F, by rw [upd_ne (Ne.symm nFN)]; exact hN12, by rw [upd_ne (Ne.symm nFL)]; exact hL12, upd_same, fr', ln12.snoc hx12 hin, ?_, rfl⟩
          · rw [List.length_append]
            show R.length - (Fs.length + 1) < _
            omega
          · refine (nor.snoc lt ?_)
            exact fold
      · rintro H10 ⟨rfl, hb⟩
        have nlt := of_decide_eq_false hb.symm
        have := ln.le
        exact ⟨ls, Fs, fus, _, _, _, _, rfl, s9, hN9, hL9, hF9, fr, ln, nor, by omega⟩
    rintro σ H9 ⟨ls, Fs, fus, x5, x6, x10, x11, rfl, s9, hN9, hL9, hF9, fr, ln, nor, le⟩
    have lsle := lsR ln
    walk_at "rd"
    refine lc_fn (K := K) (a := L) (xs := intsV ls) (H0 := H9) (fun v => match v with | .int i => us.getD (rep i.toNat) .non | v => v) ?_ (.inl (.inl hL9)) (by rw [ints_len]; omega) (fun _ => rfl) ?_ ?_
    · walk_at "rd"
      exact .inl ⟨_, .inl (.inl hL9)⟩
    · intro j v H10 hv s10
      rw [ints_at] at hv
      obtain ⟨x, hx, rfl⟩ := Option.map_eq_some_iff.mp hv
      obtain ⟨rr, rb, rv⟩ := repR ln x (List.mem_of_getElem? hx)
      obtain ⟨u, hu, du⟩ := dpAll_at hds (Nat.lt_of_lt_of_le (rr.lt ok) hl)
      walk_at "rd"
      refine ⟨.int (rep x : Int), by rw [← rv]; exact DGet.k (k := Sum.inl (x : Int)) (s10 _ _ (s9 _ _ hS5)), us, .inl (same_l ((sH5.trans s9).trans s10) hs), u, atI_nat hu, ?_⟩
      show u = us.getD (rep x) .non
      rw [List.getD_eq_getElem?_getD, hu]
      rfl
    · intro G H10 hG s10 hG10 p hp
      have sp := same_new (o := .tup [.ref F, .ref G]) hp
      have e1 : (intsV ls).map (fun v => match v with | .int i => us.getD (rep i.toNat) .non | v => v) = ls.map fun x => us.getD (rep x) .non := by
        unfold intsV
        rw [List.map_map]
        rfl
      rw [e1] at hG10
      have sH9 := sH5.trans s9
      have hds' : DpAll K H (ls.map fun x => us.getD (rep x) .non) (ls.map fun x => ansAt ds (rep x)) := by
        have : ∀ l : List Nat, (∀ x ∈ l, x ∈ ls) → DpAll K H (l.map fun x => us.getD (rep x) .non) (l.map fun x => ansAt ds (rep x)) := by
          intro l
          induction l with
          | nil => intro _; exact .nil
          | cons x l ih =>
            intro h
            obtain ⟨rr, _, _⟩ := repR ln x (h x List.mem_cons_self)
            obtain ⟨u, hu, du⟩ := dpAll_at hds (Nat.lt_of_lt_of_le (rr.lt ok) hl)
            refine .cons ?_ (ih fun y hy => h y (List.mem_cons_of_mem _ hy))
            show Dp K H (us.getD (rep x) .non) (ansAt ds (rep x))
            rw [List.getD_eq_getElem?_getD, hu]
            exact du
        exact this ls fun _ h => h
      have made := least_made (A := ansAt ds) (b := b) ok bo st ls rep Fs ln.nd ln.zero (fun x hx => ⟨(repR ln x hx).1, (repR ln x hx).2.1⟩) le (fun i x hx => (ln.rows i x (by rw [le]; exact (List.getElem?_eq_some_iff.mp hx).1) hx).2) (fun x hx y hy => by
        obtain ⟨i, hi⟩ := List.mem_iff_getElem?.mp hx
        exact (ln.rows i x (by rw [le]; exact (List.getElem?_eq_some_iff.mp hi).1) hi).1 y hy) (by rw [← le] at nor; exact ⟨nor⟩)
      refine q p _ F G fus _ Fs _ _ ((sH9.trans s10).trans sp) upd_same hFn (same_none sH9 hG) (sp _ _ (s10 _ _ hF9)) (fr.imp fun r v ⟨q', e, h1, _, _, h4⟩ => ⟨q', e, h1, sp _ _ (s10 _ _ h4)⟩) (sp _ _ hG10) hds' (made.congr fun i hi => ?_) (by rw [List.length_map, le]) (by omega) fun d hd => ?_
      · rw [le] at hi
        show ansAt ds (rep (ls.getD i 0)) = (ls.map fun x => ansAt ds (rep x)).getD i .none
        rw [List.getD_eq_getElem?_getD, List.getD_eq_getElem?_getD, List.getElem?_map, List.getElem?_eq_getElem hi]
        rfl
      · obtain ⟨x, hx, rfl⟩ := List.mem_map.mp hd
        exact ans_mem (Nat.lt_of_lt_of_le ((repR ln x hx).1.lt ok) hl)

/-! ### k51 -/
/-- a comprehension whose things are told by their turns -/
theorem lc_pv {J0 : It} {n : Nat} {G : Hp → Prop} {Y : Nat → Hp → V → Hp → Prop} {wi : TI} {i : Nat} {vs : List Nat} {te : TE} {σ : L2.St} {H H0 : Hp} {Q : VK} (h : wi σ H fun J H1 => J = J0 ∧ H1 = H0) (w : Walk J0 n G Y) (hn : n < 16777216) (PV : Nat → V → Prop)
    (hG : ∀ H', Same H0 H' → G H') (hY : ∀ k H x H', Y k H x H' → Same H H') (hw : ∀ x, wipe ((wipe σ vs).set i (some x)) vs = wipe σ vs)
    (turn : ∀ (k : Nat) (x : V) (H' H'' : Hp), k < n → Same H0 H' → Y k H' x H'' → te ((wipe σ vs).set i (some x)) H'' fun y H4 => Same H'' H4 ∧ PV k y)
    (done : ∀ (p : Addr) (acc : List V) (H' : Hp), H0 p = none → Same H0 H' → H' p = some (.lst acc) → acc.length = n → (∀ (k : Nat) (v : V), acc[k]? = some v → PV k v) → Q (.ref p) H') : tLc (iMid wi) (gName i) tYes (tMid te) vs σ H Q := by
  refine lc_midM h w hn (fun k acc _ => acc.length = k ∧ ∀ (j : Nat) (v : V), acc[j]? = some v → PV j v) (fun _ _ _ _ _ e => e) ⟨rfl, fun j v h => by simp at h⟩ hG hY hw ?_ ?_
  · rintro k x acc H' H'' hk sm ⟨e, hp⟩ y
    refine ⟨_, turn k x H' H'' hk sm y, fun v H4 ⟨s4, pv⟩ => ⟨s4, by rw [List.length_append, e]; rfl, fun j u hu => ?_⟩⟩
    by_cases hj : j < acc.length
    · rw [List.getElem?_append_left hj] at hu
      exact hp j u hu
    · rw [List.getElem?_append_right (by omega)] at hu
      have : j - acc.length = 0 := by
        refine Classical.byContradiction fun z => ?_
        rw [List.getElem?_eq_none (by show 1 ≤ j - acc.length; omega)] at hu
        cases hu
      rw [this] at hu
      cases hu
      have : j = k := by omega
      rw [this]
      exact pv
  · intro p acc H' hp sm hD hl ⟨_, hc⟩
    exact done p acc H' hp sm hD hl hc
theorem ints_of {n : Nat} : ∀ {acc : List V}, (∀ (k : Nat) (v : V), acc[k]? = some v → ∃ o : Nat, v = .int (o : Int) ∧ o < n) → ∃ row : List Nat, acc = intsV row ∧ ∀ o ∈ row, o < n
  | [], _ => ⟨[], rfl, fun _ h => nomatch h⟩
  | v :: acc, h => by
    obtain ⟨row, e, ro⟩ := ints_of (acc := acc) fun k u hu => h (k + 1) u hu
    obtain ⟨o, ho, lt⟩ := h 0 v rfl
    refine ⟨o :: row, by rw [e, ho]; rfl, fun x hx => ?_⟩
    rcases List.mem_cons.mp hx with rfl | hx
    · exact lt
    · exact ro x hx
def kindsD : List PyData := [.none, .tuple [.bool false, .none], .tuple [.bool true, .int 3], .tuple [.bool true, .int 1], .str "a", .list [.int 4], .tuple [.bool false, .int 3]]
theorem kinds_ok : ∀ d ∈ kindsD, DOk 20 d := by
  intro d hd
  have str : DOk 1 (.str "a") := dok_str (by decide +kernel)
  simp only [kindsD, List.mem_cons, List.not_mem_nil, or_false] at hd
  rcases hd with rfl | rfl | rfl | rfl | rfl | rfl | rfl
  · exact dok_non
  · exact (dok_tup (n := 1) (all_cons dok_bl (all_cons dok_non all_nil))).up (by decide)
  · exact (dok_tup (n := 1) (all_cons dok_bl (all_cons dok_int all_nil))).up (by decide)
  · exact (dok_tup (n := 1) (all_cons dok_bl (all_cons dok_int all_nil))).up (by decide)
  · exact str.up (by decide)
  · exact (dok_lst (n := 1) (all_cons dok_int all_nil)).up (by decide)
  · exact (dok_tup (n := 1) (all_cons dok_bl (all_cons dok_int all_nil))).up (by decide)
theorem kinds_eq : ∀ d ∈ kindsD, ∀ e ∈ kindsD, (PyData.eqv d e = true ↔ d = e) := by
  intro d hd e he
  refine ⟨fun h => ?_, fun h => by rw [h]; exact (kinds_ok e he).eqv⟩
  simp only [kindsD, List.mem_cons, List.not_mem_nil, or_false] at hd he
  rcases hd with rfl | rfl | rfl | rfl | rfl | rfl | rfl <;> rcases he with rfl | rfl | rfl | rfl | rfl | rfl | rfl <;> first | rfl | exact absurd h (by decide +kernel)
def spTable (K : PySem.W.Frag) : Sp := fun vs H Q _ => ∃ a, ∃ ns : List Int, vs = [.ref a] ∧ SqL K H a (ns.map V.int) ∧ ns.length ≤ 63 ∧ ∀ p H' a b Z m us ds, Same H H' → H' p = some (.tup [.ref a, .ref b]) → H a = none → H b = none → TabV Z a H' → TabOk Z m → 1 ≤ m → m ≤ 4 → Z.length ≤ 12 → H' b = some (.lst us) → DpAll K H' us ds → AnsOk ds → ds.length = Z.length → Q (.ref p) H'
theorem ok__law_table (T : Txt K mg) : OkD P w K mg base 2 (fA K "_law_table") ["_law_script"] [] (spTable K) := by
  refine okD T.F__law_table sc__law_table (fun _ _ _ _ _ _ us hl => match us, hl with | [_], _ => rfl) ?_ ?_
  · rintro vs H Q E ⟨a, ns, rfl, _⟩
    rfl
  · rintro cdv A outer s H vs Q E hr ⟨a, ns, rfl, hs, hn, q⟩
    refine ⟨_, (pss_cons (ps_set (i := 1) sc__law_table.nd rfl (Or.inr rfl) (pe_mid (pe_op (o_add (K := K)) pe_int (pe_op op_mod (pe_cal (ok__law_cell T) (hr.mono (by decide)) rfl T.g__law_cell (pasE (takes_of rfl rfl rfl rfl) (fun _ _ _ _ h => h)) (pa_cons (pv 0) (pa_cons pe_int pa_nil))) pe_int))))
  (pss_cons (ps_set (i := 2) sc__law_table.nd rfl (Or.inl rfl) (pe_mid (pe_op (o_add (K := K)) pe_int (pe_op op_mod (pe_cal (ok__law_cell T) (hr.mono (by decide)) rfl T.g__law_cell (pasE (takes_of rfl rfl rfl rfl) (fun _ _ _ _ h => h)) (pa_cons (pv 0) (pa_cons pe_int pa_nil))) pe_int))))
  (pss_cons (ps_set (i := 3) sc__law_table.nd rfl (Or.inl rfl) (pe_mid (pe_lst pa_nil)))
  (pss_cons (ps_mid (ps_for (passes_of rfl) rfl (pi_mid (pi_range1 rfl T.fr_range (pa_cons (pv 1) pa_nil))) (pg_name (i := 4) sc__law_table.nd rfl (Or.inl rfl)) (pss_cons (ps_set (i := 5) sc__law_table.nd rfl (Or.inr rfl) (pe_mid (pe_cal (ok__law_cell T) (hr.mono (by decide)) rfl T.g__law_cell (pasE (takes_of rfl rfl rfl rfl) (fun _ _ _ _ h => h)) (pa_cons (pv 0) (pa_cons (pe_op (o_add (K := K)) pe_int (pv 4)) pa_nil)))))
  (pss_cons (ps_expr (pe_bmK (K := K) PySem.F.plainAttrs_list PySem.F.slot_list_append PySem.F.type_list_append mt_append (pv 3) (pa_cons (pe_mid (pe_lc (own := [("_law_k", 9)]) (g := (gName 9)) (tt := tYes) rfl sc__law_table.nd (pi_mid (pi_range1 rfl T.fr_range (pa_cons (pv 2) pa_nil))) (blkOk_by (N := N__law_table) (sc := defScope TX.s__law_table) (by decide +kernel)) (fun _ _ _ _ _ => (pg_name (i := 9) sc__law_table.nd rfl (Or.inl rfl))) (fun _ _ _ _ _ => pts_nil) (fun _ _ _ _ _ => (pe_mid (pe_op op_mod (pe_cal (ok__law_mixed T) (hr.mono (by decide)) rfl T.g__law_mixed pasN (pa_cons (pv 5) (pa_cons (pv 9) pa_nil))) (pv 1)))))) pa_nil)))
  (pss_one (ps_if (pt_mid (PW.pt (pw_and (pt_cmpR o_gt (pv 4) pe_int (nomark _)) (pw_and (pt_cmpR (o_eq (K := K) (hu64 hr)) (pe_op op_mod (pe_op op_fdivW (pv 5) pe_int) pe_int) pe_int (nomark _)) (pw_and1 (pt_cmpR (o_eq (K := K) (hu64 hr)) (pe_op op_mod (pe_cal (ok__law_cell T) (hr.mono (by decide)) rfl T.g__law_cell (pasE (takes_of rfl rfl rfl rfl) (fun _ _ _ _ h => h)) (pa_cons (pv 0) (pa_cons pe_int pa_nil))) pe_int) pe_int (nomark _))))))) (pss_one (ps_asg (pe_callTy (o_list (K := K) rfl) (by rfl) T.fr_list (by decide +kernel) (pa_cons (pe_ix (o_ix (K := K)) (pv 3) (pe_op op_mod (pe_op op_fdivW (pv 5) pe_int) (pv 4)) (fun _ _ => rfl)) pa_nil)) (pg_sub (pv 3) (pe_un un_neg pe_int) set_list))) pss_nil))))))
  (pss_cons (ps_set (i := 6) sc__law_table.nd rfl (Or.inr rfl) (pe_mid (pe_lst (pa_cons pe_non (pa_cons (pe_tup (pa_cons pe_bl (pa_cons pe_non pa_nil))) (pa_cons (pe_tup (pa_cons pe_bl (pa_cons pe_int pa_nil))) (pa_cons (pe_tup (pa_cons pe_bl (pa_cons pe_int pa_nil))) (pa_cons pe_str (pa_cons (pe_lst (pa_cons pe_int pa_nil)) (pa_cons (pe_tup (pa_cons pe_bl (pa_cons pe_int pa_nil))) pa_nil))))))))))
  (pss_cons (ps_set (i := 7) sc__law_table.nd rfl (Or.inr rfl) (pe_mid (pe_op (o_add (K := K)) pe_int (pe_op op_mod (pe_op op_fdivW (pe_cal (ok__law_cell T) (hr.mono (by decide)) rfl T.g__law_cell (pasE (takes_of rfl rfl rfl rfl) (fun _ _ _ _ h => h)) (pa_cons (pv 0) (pa_cons pe_int pa_nil))) pe_int) pe_int))))
  (pss_cons (ps_setLc (own := [("_law_stand", 4)]) (g := (gName 4)) (tt := tYes) (i := 8) rfl sc__law_table.nd rfl rfl (sw_true rfl rfl rfl (by decide +kernel)) (pi_mid (pi_range1 rfl T.fr_range (pa_cons (pv 1) pa_nil))) (blkOk_by (N := N__law_table) (sc := defScope TX.s__law_table) (by decide +kernel)) (fun _ _ _ _ _ => (pg_name (i := 4) sc__law_table.nd rfl (Or.inl rfl))) (fun _ _ _ _ _ => pts_nil) (fun _ _ _ _ _ => (pe_mid (pe_ix (o_ix (K := K)) (pv 6) (pe_op op_mod (pe_op (o_add (K := K)) (pe_op op_mod (pe_cal (ok__law_cell T) (hr.mono (by decide)) rfl T.g__law_cell pasN (pa_cons (pv 0) (pa_cons (pe_op (o_add (K := K)) pe_int (pv 4)) pa_nil))) (pv 7)) (pe_cal (ok__law_cell T) (hr.mono (by decide)) rfl T.g__law_cell pasN (pa_cons (pv 0) (pa_cons pe_int pa_nil)))) pe_int) (fun _ _ => rfl)))))
  (pss_one (ps_ret (pe_tup (pa_cons (pv 3) (pa_cons (pv 8) pa_nil)))))))))))), ?_⟩
    have tobj := T.obj
    refine q_mid (fun c => ∃ n : Nat, c = (n : Int) ∧ 1 ≤ n ∧ n ≤ 12) ?_ fun mi hmi => ?_
    · walk_at "rd"
      refine ⟨a, 0, ns, rfl, hs, hn, by decide, by decide, fun c => ⟨c, rfl, ?_⟩⟩
      exact ⟨rfl, (1 + c % 12).toNat, by omega, by omega, by omega⟩
    obtain ⟨n, rfl, n1, n12⟩ := hmi
    refine q_mid (fun c => ∃ n : Nat, c = (n : Int) ∧ 1 ≤ n ∧ n ≤ 4) ?_ fun mi hmi => ?_
    · walk_at "rd"
      refine ⟨a, 1, ns, rfl, hs, hn, by decide, by decide, fun c => ⟨c, rfl, ?_⟩⟩
      exact ⟨rfl, (1 + c % 4).toNat, by omega, by omega, by omega⟩
    obtain ⟨m, rfl, m1, m4⟩ := hmi
    refine q_midG (fun v H' => ∃ F, v = .ref F ∧ H F = none ∧ Same H H' ∧ H' F = some (.lst [])) ?_ ?_
    · walk_at "rd"
      exact fun p hp => ⟨hp, same_new hp, upd_same⟩
    rintro _ H1 ⟨F, rfl, hF, s1, hF1⟩
    refine q_stm (fun σ H' => ∃ Z us x4 x5 x6 x7 x8 x9, σ = [some (.ref a), some (.int (n : Int)), some (.int (m : Int)), some (.ref F), x4, x5, x6, x7, x8, x9] ∧ Same H H' ∧ H' F = some (.lst us) ∧ Each (fun r v H' => RowN r v H' ∧ v ≠ .ref F) Z us H' ∧ Z.length = n ∧ (∀ r ∈ Z, r.length = m) ∧ ∀ r ∈ Z, ∀ o ∈ r, o < n) ?_ ?_
    · refine for_mid (J0 := Itr 0 n) (H0 := H1) ?_ walk_range (fun k σ H' => ∃ Z us x4 x5 x6 x7 x8 x9, σ = [some (.ref a), some (.int (n : Int)), some (.int (m : Int)), some (.ref F), x4, x5, x6, x7, x8, x9] ∧ Same H H' ∧ H' F = some (.lst us) ∧ Each (fun r v H' => RowN r v H' ∧ v ≠ .ref F) Z us H' ∧ Z.length = k ∧ (∀ r ∈ Z, r.length = m) ∧ ∀ r ∈ Z, ∀ o ∈ r, o < n)
        ⟨[], [], _, _, _, _, _, _, rfl, s1, hF1, .nil, rfl, (fun _ h => nomatch h), (fun _ h => nomatch h)⟩ (fun _ _ _ _ _ => trivial) ?_ (fun _ _ h => h)
      · walk_at "rd"
        exact ⟨by omega, by omega, by rw [Int.toNat_natCast]⟩
      · rintro k x σ H2 H3 hk ⟨Z, us, x4, x5, x6, x7, x8, x9, rfl, s2, hF2, hZ, zl, zw, zo⟩ ⟨rfl, rfl⟩
        refine q_mid (fun c => True) ?_ fun cc _ => ?_
        · walk_at "rd"
          exact ⟨a, 4 + (k : Int), ns, rfl, same_l s2 hs, hn, by omega, by omega, fun c => ⟨rfl, c, rfl⟩⟩
        refine q_app (xs := us) rfl hF2 ?_
        refine lc_pv (J0 := Itr 0 m) (H0 := H3) ?_ walk_range (by omega) (fun _ v => ∃ o : Nat, v = .int (o : Int) ∧ o < n) (fun _ _ => trivial) (fun _ _ _ _ y => y_fn y) (fun _ => rfl) ?_ ?_
        · walk_at "rd"
          exact ⟨by omega, by omega, by rw [Int.toNat_natCast]⟩
        · rintro j x H' H'' hj sm ⟨rfl, rfl⟩
          walk_at "rd"
          refine ⟨cc, (j : Int), rfl, fun mm _ _ => ⟨mm, rfl, by omega, Same.refl _, (mm % (n : Int)).toNat, ?_, ?_⟩⟩
          · have := Int.emod_nonneg mm (b := (n : Int)) (by omega)
            omega
          · have := Int.emod_nonneg mm (b := (n : Int)) (by omega)
            have := Int.emod_lt_of_pos mm (b := (n : Int)) (by omega)
            omega
        · intro p acc H4 hp s4 hp4 al ap
          obtain ⟨row, rfl, ro⟩ := ints_of ap
          rw [ints_len] at al
          have nFp : F ≠ p := ne_of_none hF2 hp
          refine ⟨us, s4 _ _ hF2, by rw [hZ.1, sizeLine_eq]; omega, ?_⟩
          have hF5 : upd H4 F (.lst (us ++ [.ref p])) F = some (.lst (us ++ [.ref p])) := upd_same
          have s5 : Same H (upd H4 F (.lst (us ++ [.ref p]))) := same_mut (s2.trans s4) hF
          have z5 : Each (fun r v H' => RowN r v H' ∧ v ≠ .ref F) (Z ++ [row]) (us ++ [.ref p]) (upd H4 F (.lst (us ++ [.ref p]))) := by
            refine Each.snoc (hZ.imp fun r v ⟨⟨q', e, h1⟩, ne⟩ => ⟨⟨q', e, ?_⟩, ne⟩) ⟨⟨p, rfl, ?_⟩, fun z => nFp (V.ref.inj z).symm⟩
            · rw [upd_ne (fun z => ne (by rw [e, z]))]
              exact s4 _ _ h1
            · rw [upd_ne (Ne.symm nFp)]
              exact hp4
          generalize upd H4 F (.lst (us ++ [.ref p])) = H5 at *
          refine l_if (fun b H' => H' = H5 ∧ (b = true → 0 < k)) ?_ (fun H6 h => ?_) fun H6 h => ?_
          · walk_at "rd"
            by_cases k0 : 0 < (k : Int)
            · rw [if_pos k0]
              refine ⟨⟨by decide, by decide⟩, ?_⟩
              split
              · exact ⟨a, 2, ns, rfl, same_l s5 hs, hn, by decide, by decide, fun c => ⟨c, rfl, rfl, fun _ => by omega⟩⟩
              · exact fun h => h.elim
            · rw [if_neg k0]
              exact fun h => h.elim
          · obtain ⟨rfl, hk0⟩ := h
            have k0 := hk0 rfl
            walk_at "rd"
            have e0 := Int.emod_nonneg (cc / 6) (b := (k : Int)) (by omega)
            have e1 := Int.emod_lt_of_pos (cc / 6) (b := (k : Int)) (by omega)
            obtain ⟨ix, hix, ixl⟩ : ∃ ix : Nat, cc / 6 % (k : Int) = (ix : Int) ∧ ix < k := ⟨(cc / 6 % (k : Int)).toNat, by omega, by omega⟩
            have zl2 : (Z ++ [row]).length = k + 1 := by rw [List.length_append, zl]; rfl
            have usl : us.length = k := by rw [hZ.1, zl]
            have hr0 : (Z ++ [row])[ix]? = some (Z[ix]'(by omega)) := by rw [List.getElem?_append_left (by omega), List.getElem?_eq_getElem (by omega)]
            obtain ⟨v, hv, ⟨pr, rfl, hpr⟩, vne⟩ := z5.2 ix _ hr0
            have zm : Z[ix]'(by omega) ∈ Z := List.getElem_mem _
            refine ⟨⟨by decide, by decide⟩, by omega, us ++ [.ref p], .inl (.inl (.inl hF5)), .ref pr, by rw [hix]; exact atI_nat hv, ?_⟩
            refine ⟨_, .inl (.inl (.inl hpr)), fun p1 hp1 => ?_⟩
            have nF1 : F ≠ p1 := ne_of_none hF5 hp1
            have s6 := same_new (o := .lst (intsV (Z[ix]'(by omega)))) hp1
            have es : (us ++ [V.ref p]).set k (.ref p1) = us ++ [.ref p1] := by rw [List.set_append_right _ _ (by omega), usl, Nat.sub_self]; rfl
            refine ⟨us ++ [.ref p], s6 _ _ hF5, k, ?_, same_mut (s5.trans s6) hF, Z ++ [Z[ix]'(by omega)], us ++ [.ref p1], ?_, ?_, by rw [List.length_append]; show Z.length + 1 = _; omega, fun r hr => ?_, fun r hr => ?_⟩
            · rw [List.length_append, usl]
              show ixN (k + 1) (-1) = some k
              unfold ixN
              rw [if_neg (by omega), if_pos (by omega)]
              congr 1
              omega
            · rw [upd_same, es]
            · refine Each.snoc (?_ : Each _ Z us _) ⟨⟨p1, rfl, ?_⟩, fun z => nF1 (V.ref.inj z).symm⟩
              · refine ⟨hZ.1, fun i r hr => ?_⟩
                have hi : i < Z.length := (List.getElem?_eq_some_iff.mp hr).1
                obtain ⟨v', hv', ⟨q', rfl, h1⟩, ne⟩ := z5.2 i r (by rw [List.getElem?_append_left hi]; exact hr)
                rw [List.getElem?_append_left (by omega)] at hv'
                exact ⟨_, hv', ⟨q', rfl, by rw [upd_ne (fun z => ne (by rw [z]))]; exact s6 _ _ h1⟩, ne⟩
              · rw [upd_ne (Ne.symm nF1), upd_same]
            · rcases List.mem_append.mp hr with hr | hr
              · exact zw r hr
              · rw [List.mem_singleton.mp hr]; exact zw _ zm
            · rcases List.mem_append.mp hr with hr | hr
              · exact zo r hr
              · rw [List.mem_singleton.mp hr]; exact zo _ zm
          · obtain ⟨rfl, _⟩ := h
            refine ⟨Z ++ [row], _, _, _, _, _, _, _, rfl, s5, hF5, z5, by rw [List.length_append, zl]; rfl, fun r hr => ?_, fun r hr => ?_⟩
            · rcases List.mem_append.mp hr with hr | hr
              · exact zw r hr
              · rw [List.mem_singleton.mp hr]; exact al
            · rcases List.mem_append.mp hr with hr | hr
              · exact zo r hr
              · rw [List.mem_singleton.mp hr]; exact ro
    · rintro σ H2 ⟨Z, us, x4, x5, x6, x7, x8, x9, rfl, s2, hF2, hZ, zl, zw, zo⟩
      refine q_midG (fun v H' => ∃ Kd kus, v = .ref Kd ∧ Same H2 H' ∧ H' Kd = some (.lst kus) ∧ DpAll K H' kus kindsD) ?_ ?_
      · walk_at "rd"
        intro p1 h1 p2 h2 p3 h3 p4 h4 p5 h5 p6 h6
        have a1 := same_new (o := .tup [.bl false, .non]) h1
        have a2 := same_new (o := .tup [.bl true, .int 3]) h2
        have a3 := same_new (o := .tup [.bl true, .int 1]) h3
        have a4 := same_new (o := .lst [.int 4]) h4
        have a5 := same_new (o := .tup [.bl false, .int 3]) h5
        have a6 := same_new (o := .lst [.non, .ref p1, .ref p2, .ref p3, .str (Str.ofString "a"), .ref p4, .ref p5]) h6
        refine ⟨((((a1.trans a2).trans a3).trans a4).trans a5).trans a6, _, upd_same, ?_⟩
        have b5 := a6 _ _ (upd_same (H := _) (a := p5) (o := .tup [.bl false, .int 3]))
        have b4 := (a5.trans a6) _ _ (upd_same (a := p4) (o := .lst [.int 4]))
        have b3 := ((a4.trans a5).trans a6) _ _ (upd_same (a := p3) (o := .tup [.bl true, .int 1]))
        have b2 := (((a3.trans a4).trans a5).trans a6) _ _ (upd_same (a := p2) (o := .tup [.bl true, .int 3]))
        have b1 := ((((a2.trans a3).trans a4).trans a5).trans a6) _ _ (upd_same (a := p1) (o := .tup [.bl false, .non]))
        exact .cons .non (.cons (.tup (.inl (.inl b1)) (.cons (.bl _) (.cons .non .nil))) (.cons (.tup (.inl (.inl b2)) (.cons (.bl _) (.cons (.int _) .nil))) (.cons (.tup (.inl (.inl b3)) (.cons (.bl _) (.cons (.int _) .nil))) (.cons (.str _) (.cons (.lst (.inl (.inl b4)) (.cons (.int _) .nil)) (.cons (.tup (.inl (.inl b5)) (.cons (.bl _) (.cons (.int _) .nil))) .nil))))))
      rintro _ H3 ⟨Kd, kus, rfl, s3, hK3, hkd⟩
      refine q_mid (fun c => ∃ f : Nat, c = (f : Int) ∧ 1 ≤ f ∧ f ≤ 3) ?_ fun ci hci => ?_
      · walk_at "rd"
        exact ⟨a, 2, ns, rfl, same_l (s2.trans s3) hs, hn, by decide, by decide, fun c => ⟨c, rfl, ⟨by decide, by decide⟩, rfl, (1 + c / 2 % 3).toNat, by omega, by omega, by omega⟩⟩
      obtain ⟨f, rfl, f1, f3⟩ := hci
      refine q_val ?_
      refine lc_pv (J0 := Itr 0 n) (H0 := H3) ?_ walk_range (by omega) (fun _ v => ∃ j : Nat, j < 7 ∧ kus[j]? = some v) (fun _ _ => trivial) (fun _ _ _ _ y => y_fn y) (fun _ => rfl) ?_ ?_
      · walk_at "rd"
        exact ⟨by omega, by omega, by rw [Int.toNat_natCast]⟩
      · rintro j x H' H'' hj sm ⟨rfl, rfl⟩
        walk_at "rd"
        have sH := ((s2.trans s3).trans sm)
        have kl := dpAll_len hkd
        refine ⟨a, 20 + (0 + (j : Int)), ns, by simp, same_l sH hs, hn, by omega, by omega, fun c => ⟨c, rfl, by omega, a, 3, ns, rfl, same_l sH hs, hn, by decide, by decide, fun c2 => ?_⟩⟩
        obtain ⟨jx, hjx, jl⟩ : ∃ jx : Nat, (c % (f : Int) + c2) % 7 = (jx : Int) ∧ jx < 7 := ⟨((c % (f : Int) + c2) % 7).toNat, by omega, by omega⟩
        have hj7 : jx < kus.length := by rw [kl]; exact jl
        exact ⟨kus, .inl (.inl (.inl (sm _ _ hK3))), kus[jx], by rw [hjx]; exact atI_nat (List.getElem?_eq_getElem hj7), Same.refl _, jx, jl, List.getElem?_eq_getElem hj7⟩
      · intro p acc H4 hp s4 hp4 al ap
        have kl := dpAll_len hkd
        walk_at "rd"
        intro p1 hp1
        have s5 := same_new (o := .tup [.ref F, .ref p]) hp1
        have s24 := (s3.trans s4).trans s5
        obtain ⟨ds, hds, dsk⟩ : ∃ ds, DpAll K H4 acc ds ∧ ∀ d ∈ ds, d ∈ kindsD := by
          have key : ∀ l : List V, (∀ (k : Nat) (v : V), l[k]? = some v → ∃ j : Nat, j < 7 ∧ kus[j]? = some v) → ∃ ds, DpAll K H4 l ds ∧ ∀ d ∈ ds, d ∈ kindsD := by
            intro l
            induction l with
            | nil => exact fun _ => ⟨[], .nil, fun _ h => nomatch h⟩
            | cons v l ih =>
              intro h
              obtain ⟨ds, h1, h2⟩ := ih fun k u hu => h (k + 1) u hu
              obtain ⟨j, jl, hj⟩ := h 0 v rfl
              obtain ⟨u, hu, du⟩ := dpAll_at hkd (i := j) (by exact jl)
              rw [hj] at hu
              cases hu
              refine ⟨ansAt kindsD j :: ds, .cons (dp_mono s4 _ _ du) h1, fun d hd => ?_⟩
              rcases List.mem_cons.mp hd with rfl | hd
              · exact ans_mem (by exact jl)
              · exact h2 d hd
          exact key acc ap
        have dl := dpAll_len hds
        refine q p1 _ F p Z m acc ds (s2.trans s24) upd_same hF (same_none (s2.trans s3) hp) ⟨us, s24 _ _ hF2, hZ.imp fun r v h => h.1.mono s24⟩ ⟨by omega, zw, fun r hr o ho => by rw [zl]; exact zo r hr o ho⟩ m1 m4 (by omega) (s5 _ _ hp4) (dpAll_mono s5 _ _ hds) ⟨fun d hd => kinds_ok d (dsk d hd), fun d hd e he => kinds_eq d (dsk d hd) e (dsk e he)⟩ (by omega)
def PairN (x : Nat × Nat) (v : V) (H : Hp) : Prop := ∃ t, v = .ref t ∧ H t = some (.tup [.int (x.1 : Int), .int (x.2 : Int)])
theorem PairN.dp {x : Nat × Nat} {v : V} {H : Hp} (h : PairN x v H) : Dp K H v (.tuple [.int (x.1 : Int), .int (x.2 : Int)]) := by
  obtain ⟨t, rfl, e⟩ := h
  exact .tup (.inl (.inl e)) (.cons (.int _) (.cons (.int _) .nil))
theorem eqv_pairN (x y : Nat × Nat) : PyData.eqv (.tuple [.int (x.1 : Int), .int (x.2 : Int)]) (.tuple [.int (y.1 : Int), .int (y.2 : Int)]) = decide (x = y) := by
  show (((x.1 : Int) == (y.1 : Int)) && (((x.2 : Int) == (y.2 : Int)) && true)) = _
  obtain ⟨a, b⟩ := x
  obtain ⟨c, d⟩ := y
  rw [Bool.and_true]
  by_cases h1 : a = c
  · by_cases h2 : b = d
    · simp [h1, h2]
    · have : ¬ ((b : Int) = (d : Int)) := fun z => h2 (Int.ofNat.inj z)
      simp [h2, this]
  · have : ¬ ((a : Int) = (c : Int)) := fun z => h1 (Int.ofNat.inj z)
    simp [h1, this]
theorem dok_pairN (x : Nat × Nat) : DOk 1 (.tuple [.int (x.1 : Int), .int (x.2 : Int)]) := dok_tup (all_cons dok_int (all_cons dok_int all_nil))
theorem q_tup2 {te : TE} {i j : Nat} {u : TS} {D : Ends} {σ : L2.St} {H : Hp} (C : V → V → Hp → Prop) (h : te σ H fun v H1 => ∃ t x y, v = .ref t ∧ SqT K H1 t [x, y] ∧ C x y H1) (k : ∀ x y H1, C x y H1 → u D ((σ.set i (some x)).set j (some y)) H1) :
    tSeq (tAsg (tMid te) (gTup K 2 (gCons (gName i) (gCons (gName j) gNil)))) u D σ H := ⟨_, h, fun _ H1 ⟨t, x, y, e, ht, c⟩ => ⟨t, [x, y], e, ht, rfl, x, [y], rfl, y, [], rfl, rfl, k x y H1 c⟩⟩
theorem any_pairs {x : Nat × Nat} : ∀ l : List (Nat × Nat), ((l.map fun x => PyData.tuple [.int (x.1 : Int), .int (x.2 : Int)]).any fun z => PyData.eqv z (.tuple [.int (x.1 : Int), .int (x.2 : Int)])) = decide (x ∈ l)
  | [] => rfl
  | y :: l => by
    rw [List.map_cons, List.any_cons, any_pairs l, eqv_pairN, ← Bool.decide_or]
    refine decide_eq_decide.mpr ?_
    rw [List.mem_cons]
    exact ⟨fun h => h.imp Eq.symm id, fun h => h.imp Eq.symm id⟩
/-- both gone along side by side -/
def spSide (K : PySem.W.Frag) : Sp := fun vs H Q _ => ∃ a b c d Z m us ds Z' us' ds' f, vs = [.ref a, .ref b, .ref c, .ref d] ∧ TabV Z a H ∧ TabOk Z m ∧ Z.length ≤ 600 ∧ m ≤ 600 ∧ SqL K H b us ∧ DpAll K H us ds ∧ AnsOk ds ∧ ds.length = Z.length ∧ TabV Z' c H ∧ SqL K H d us' ∧ DpAll K H us' ds' ∧ LeastSp (ansAt ds) Z m (ansAt ds') Z' f ∧ ds'.length = Z'.length ∧ (∀ e ∈ ds', e ∈ ds) ∧ ∀ H', Same H H' → Q (.bl true) H'
theorem ok__law_side_by_side (T : Txt K mg) : OkD P w K mg base 1 (fA K "_law_side_by_side") ["_law_table_here", "_law_answers", "_law_small", "_law_some"] [] (spSide K) := by
  refine okD T.F__law_side_by_side sc__law_side_by_side (fun _ _ _ _ _ _ us hl => match us, hl with | [_, _, _, _], _ => rfl) ?_ ?_
  · rintro vs H Q E ⟨a, b, c, d, Z, m, us, ds, Z', us', ds', f, rfl, _⟩
    rfl
  · rintro cdv A outer s H vs Q E hr ⟨a, b, c, d, Z, m, us, ds, Z', us', ds', f, rfl, tv, ok, hz, hm, hb, hds, ao, dl, tv', hd, hds', ls, dl', sub, q⟩
    refine ⟨_, (pss_cons (ps_set (i := 4) sc__law_side_by_side.nd rfl (Or.inl rfl) (pe_mid (pe_lst (pa_cons (pe_tup (pa_cons pe_int (pa_cons pe_int pa_nil))) pa_nil))))
  (pss_cons (ps_set (i := 5) sc__law_side_by_side.nd rfl (Or.inl rfl) (pe_mid pe_int))
  (pss_cons (ps_mid (ps_while (passes_of rfl) (pt_mid (pt_cmpR o_lt (pv 5) (pe_callB (o_lenW (K := K) (w := w)) (by rfl) T.fr_len boot_len (pa_cons (pv 4) pa_nil)) (nomark _))) (pss_cons (ps_asg (pe_mid (pe_ix (o_ix (K := K)) (pv 4) (pv 5) (fun _ _ => rfl))) (pg_tupK (K := K) (n := 2) rfl (pgs_cons (pg_name (i := 6) sc__law_side_by_side.nd rfl (Or.inl rfl)) (pgs_cons (pg_name (i := 7) sc__law_side_by_side.nd rfl (Or.inl rfl)) pgs_nil))))
  (pss_cons (ps_if (pt_mid (pt_cmpR (o_neD (K := K) (hu64 hr)) (pe_ix (o_ix (K := K)) (pv 1) (pv 6) (fun _ _ => rfl)) (pe_ix (o_ix (K := K)) (pv 3) (pv 7) (fun _ _ => rfl)) (nomark _))) (pss_one (ps_ret pe_bl)) pss_nil)
  (pss_cons (ps_mid (ps_for (passes_of rfl) rfl (pi_mid (pi_range1 rfl T.fr_range (pa_cons (pe_callB (o_lenW (K := K) (w := w)) (by rfl) T.fr_len boot_len (pa_cons (pe_ix (o_ix (K := K)) (pv 0) (pv 6) (fun _ _ => rfl)) pa_nil)) pa_nil))) (pg_name (i := 8) sc__law_side_by_side.nd rfl (Or.inl rfl)) (pss_cons (ps_set (i := 9) sc__law_side_by_side.nd rfl (Or.inl rfl) (pe_mid (pe_tup (pa_cons (pe_ix (o_ix (K := K)) (pe_ix (o_ix (K := K)) (pv 0) (pv 6) (fun _ _ => rfl)) (pv 8) (fun _ _ => rfl)) (pa_cons (pe_ix (o_ix (K := K)) (pe_ix (o_ix (K := K)) (pv 2) (pv 7) (fun _ _ => rfl)) (pv 8) (fun _ _ => rfl)) pa_nil)))))
  (pss_one (ps_mid (ps_if (pt_mid (pt_cmpR (o_notin (K := K) (hu65 hr)) (pv 9) (pv 4) (by rfl))) (pss_one (ps_expr (pe_bmK (K := K) PySem.F.plainAttrs_list PySem.F.slot_list_append PySem.F.type_list_append mt_append (pv 4) (pa_cons (pe_mid (pv 9)) pa_nil)))) pss_nil))))))
  (pss_one (ps_set (i := 5) sc__law_side_by_side.nd rfl (Or.inl rfl) (pe_mid (pe_op (o_add (K := K)) (pv 5) pe_int)))))))))
  (pss_one (ps_ret pe_bl))))), ?_⟩
    have tobj := T.obj
    refine q_midG (fun v H' => ∃ F us, v = .ref F ∧ H F = none ∧ Same H H' ∧ H' F = some (.lst us) ∧ Each PairN [(0, 0)] us H') ?_ ?_
    · walk_at "rd"
      intro p hp p1 hp1
      have a1 := same_new (o := .tup [.int 0, .int 0]) hp
      have a2 := same_new (o := .lst [.ref p]) hp1
      exact ⟨same_none a1 hp1, a1.trans a2, [.ref p], upd_same, (Each.nil.snoc ⟨p, rfl, a2 _ _ upd_same⟩ : Each PairN ([] ++ [(0, 0)]) ([] ++ [.ref p]) _)⟩
    rintro _ H1 ⟨F, fus, rfl, hF, s1, hF1, hE1⟩
    refine q_mid (fun c => c = 0) ?_ fun ci hci => ?_
    · walk_at "rd"
    subst hci
    refine q_stm (fun σ H' => Same H H') ?_ ?_
    · refine while_mid (fun mm σ H' => ∃ (sn : List Nat) (fus : List V) (at_ : Nat) (x6 x7 x8 x9 : Option V), σ = [some (.ref a), some (.ref b), some (.ref c), some (.ref d), some (.ref F), some (.int (at_ : Int)), x6, x7, x8, x9] ∧ Same H H' ∧ H' F = some (.lst fus) ∧ Each PairN (sn.map fun s => (s, f s)) fus H' ∧ sn.Nodup ∧ (∀ s ∈ sn, Reach Z s) ∧ at_ ≤ sn.length ∧ mm = Z.length - at_) _ ⟨[0], fus, 0, _, _, _, _, rfl, s1, hF1, by rw [List.map_singleton, ls.zero]; exact hE1, by simp, fun s hs => by rw [List.mem_singleton.mp hs]; exact .zero, Nat.zero_le _, rfl⟩ ?_
      rintro mm σ H2 ⟨sn, fus, at_, x6, x7, x8, x9, rfl, s2, hF2, hE2, snd, snr, atl, rfl⟩
      refine ⟨fun b' H' => H' = H2 ∧ b' = decide (at_ < sn.length), ?_, ?_, ?_⟩
      · walk_at "rd"
        refine .inr ⟨_, len_l hF2, ?_⟩
        rw [hE2.1, List.length_map]
        exact decide_eq_decide.mpr Int.ofNat_lt
      · rintro H3 ⟨rfl, hb'⟩
        have lt := of_decide_eq_true hb'.symm
        have snle : ∀ {l : List Nat}, l.Nodup → (∀ s ∈ l, Reach Z s) → l.length ≤ Z.length := fun {l} nd rc => by
          have := nat_nodup_len l (List.range Z.length) nd fun s hs => List.mem_range.mpr ((rc s hs).lt ok)
          rwa [List.length_range] at this
        have := snle snd snr
        have hst := List.getElem?_eq_getElem lt
        generalize est : sn[at_] = st at hst
        have stR := snr st (List.mem_of_getElem? hst)
        have stl := stR.lt ok
        obtain ⟨pu, hpu, t0, rfl, ht0⟩ := hE2.2 at_ (st, f st) (by rw [List.getElem?_map, hst]; rfl)
        refine q_tup2 (fun x y H' => x = .int (st : Int) ∧ y = .int (f st : Int) ∧ H' = H3) ?_ ?_
        · walk_at "rd"
          exact ⟨fus, .inl (.inl (.inl hF2)), .ref t0, atI_nat hpu, t0, rfl, _, _, .inl (.inl ht0), rfl, rfl⟩
        rintro _ _ H4 ⟨rfl, rfl, rfl⟩
        obtain ⟨u, hu, du⟩ := dpAll_at hds (i := st) (by omega)
        obtain ⟨u', hu', du'⟩ := dpAll_at hds' (i := f st) (by rw [dl']; exact ls.lt st stR)
        rw [ls.ans st stR] at du'
        have aok := ao.ok _ (ans_mem (ds := ds) (s := st) (by omega))
        refine q_if (fun b H' => H' = H4 ∧ b = false) ?_ (fun _ h => nomatch h.2) fun H5 h => q_next ?_
        · walk_at "rd"
          refine ⟨us, .inl (same_l s2 hb), u, atI_nat hu, us', .inl (same_l s2 hd), u', atI_nat hu', _, _, dp_mono s2 _ _ du, dp_mono s2 _ _ du', aok.shaped (by decide), aok.shaped (by decide), ?_⟩
          rw [aok.eqv]
          exact ⟨_, rfl, rfl, rfl⟩
        obtain ⟨rfl, _⟩ := h
        obtain ⟨us2, pr, hus2, hup, hpr⟩ := tv.at_ stl
        obtain ⟨us3, pr3, hus3, hup3, hpr3⟩ := tv'.at_ (ls.lt st stR)
        rw [ls.row st stR] at hpr3
        have rl := ok.rowLen stl
        refine q_stm (fun σ H' => ∃ (sn : List Nat) (fus : List V) (x8 x9 : Option V), σ = [some (.ref a), some (.ref b), some (.ref c), some (.ref d), some (.ref F), some (.int (at_ : Int)), some (.int (st : Int)), some (.int (f st : Int)), x8, x9] ∧ Same H H' ∧ H' F = some (.lst fus) ∧ Each PairN (sn.map fun s => (s, f s)) fus H' ∧ sn.Nodup ∧ (∀ s ∈ sn, Reach Z s) ∧ at_ < sn.length) ?_ ?_
        · refine for_mid (J0 := Itr 0 m) (H0 := H5) ?_ walk_range (fun k σ H' => ∃ (sn : List Nat) (fus : List V) (x8 x9 : Option V), σ = [some (.ref a), some (.ref b), some (.ref c), some (.ref d), some (.ref F), some (.int (at_ : Int)), some (.int (st : Int)), some (.int (f st : Int)), x8, x9] ∧ Same H H' ∧ H' F = some (.lst fus) ∧ Each PairN (sn.map fun s => (s, f s)) fus H' ∧ sn.Nodup ∧ (∀ s ∈ sn, Reach Z s) ∧ at_ < sn.length)
            ⟨sn, fus, _, _, rfl, s2, hF2, hE2, snd, snr, lt⟩ (fun _ _ _ _ _ => trivial) ?_ (fun _ _ h => h)
          · walk_at "rd"
            refine ⟨us2, .inl (.inl (.inl (s2 _ _ hus2))), .ref pr, atI_nat hup, .inr ⟨_, len_l (s2 _ _ hpr), ?_⟩⟩
            rw [ints_len, rl]
            exact ⟨by omega, by omega, by rw [Int.toNat_natCast]⟩
          · rintro k x σ H6 H7 hk ⟨sn, fus, x8, x9, rfl, s6, hF6, hE6, snd, snr, lt⟩ ⟨rfl, rfl⟩
            have hko : (trow Z st)[k]? = some ((trow Z st)[k]'(by omega)) := List.getElem?_eq_getElem _
            generalize eo : (trow Z st)[k]'(by omega) = o at hko
            have oR : Reach Z o := .step stR (List.mem_of_getElem? hko)
            refine q_midG (fun v H' => ∃ t, v = .ref t ∧ Same H7 H' ∧ H' t = some (.tup [.int (o : Int), .int (f o : Int)])) ?_ ?_
            · walk_at "rd"
              refine ⟨us2, .inl (.inl (.inl (s6 _ _ hus2))), .ref pr, atI_nat hup, intsV (trow Z st), .inl (.inl (.inl (s6 _ _ hpr))), .int (o : Int), atI_nat (by rw [ints_at, hko]; rfl), us3, .inl (.inl (.inl (s6 _ _ hus3))), .ref pr3, atI_nat hup3, intsV ((trow Z st).map f), .inl (.inl (.inl (s6 _ _ hpr3))), .int (f o : Int), atI_nat (by rw [ints_at, List.getElem?_map, hko]; rfl), fun p hp => ⟨same_new hp, upd_same⟩⟩
            rintro _ H8 ⟨t1, rfl, s8, ht8⟩
            have s68 := s6.trans s8
            have hF8 := s8 _ _ hF6
            have hE8 : Each PairN (sn.map fun s => (s, f s)) fus H8 := hE6.imp fun x v ⟨q', e, h⟩ => ⟨q', e, s8 _ _ h⟩
            have dF : DpAll K H8 fus ((sn.map fun s => (s, f s)).map fun x => PyData.tuple [.int (x.1 : Int), .int (x.2 : Int)]) := each_dp (hE8.imp fun x v h => h.dp)
            have pt : PairN (o, f o) (.ref t1) H8 := ⟨t1, rfl, ht8⟩
            refine l_stm (l_if (fun b' H' => H' = H8 ∧ b' = !decide ((o, f o) ∈ sn.map fun s => (s, f s))) ?_ (fun H9 h => ?_) fun H9 h => ?_)
            · walk_at "rd"
              refine ⟨_, _, pt.dp, .lst (.inl (.inl hF8)) dF, (dok_pairN _).shaped (by decide), (dok_lst fun d hd' => ?_).shaped (by decide : 2 ≤ 64), ?_⟩
              · obtain ⟨x, _, rfl⟩ := List.mem_map.mp hd'
                exact dok_pairN x
              · rw [any_pairs]
                exact ⟨_, rfl, rfl, rfl⟩
            · obtain ⟨rfl, hb2⟩ := h
              have no : o ∉ sn := fun z => by
                have : (o, f o) ∈ sn.map fun s => (s, f s) := List.mem_map.mpr ⟨o, z, rfl⟩
                rw [decide_eq_true this] at hb2
                cases hb2
              have := snle snd snr
              refine l_appV (xs := fus) rfl rfl hF8 (by rw [hE8.1, List.length_map]; omega) ⟨sn ++ [o], _, _, _, rfl, same_mut s68 hF, upd_same, ?_, List.nodup_append.mpr ⟨snd, by simp, fun x hx y hy e => no (by rw [List.mem_singleton.mp hy] at e; exact e ▸ hx)⟩, fun s hs => ?_, by rw [List.length_append]; omega⟩
              · rw [List.map_append]
                refine Each.snoc (hE8.imp fun x v ⟨q', e, h⟩ => ⟨q', e, ?_⟩) ⟨t1, rfl, ?_⟩
                · rw [upd_ne (ne_of h hF8 fun z => nomatch z)]; exact h
                · rw [upd_ne (ne_of ht8 hF8 fun z => nomatch z)]; exact ht8
              · rcases List.mem_append.mp hs with hs | hs
                · exact snr s hs
                · rw [List.mem_singleton.mp hs]; exact oR
            · obtain ⟨rfl, _⟩ := h
              exact ⟨sn, fus, _, _, rfl, s68, hF8, hE8, snd, snr, lt⟩
        · rintro σ H6 ⟨sn, fus, x8, x9, rfl, s6, hF6, hE6, snd, snr, lt⟩
          refine l_midG (fun v H' => v = .int ((at_ + 1 : Nat) : Int) ∧ H' = H6) ?_ ?_
          · walk_at "rd"
            exact Int.natCast_succ at_ |>.symm
          rintro _ _ ⟨rfl, rfl⟩
          have := snle snd snr
          exact ⟨_, by omega, sn, fus, at_ + 1, _, _, _, _, rfl, s6, hF6, hE6, snd, snr, lt, rfl⟩
      · rintro H3 ⟨rfl, _⟩
        exact s2
    · rintro σ H2 s2
      walk_at "rd"
      exact q _ s2
/-- a comprehension that makes lists, each another one -/
theorem lc_own2 {J0 : It} {n : Nat} {G : Hp → Prop} {Y : Nat → Hp → V → Hp → Prop} {wi : TI} {i : Nat} {σ : L2.St} {H H0 : Hp} {vs : List Nat} {te : TE} {Q : VK} (h : wi σ H fun J H1 => J = J0 ∧ H1 = H0) (w : Walk J0 n G Y) (hn : n < 16777216) (C : Nat → List V)
    (hG : ∀ H', Same H0 H' → G H') (hY : ∀ k H x H', Y k H x H' → Same H H') (hw : ∀ x, wipe ((wipe σ vs).set i (some x)) vs = wipe σ vs)
    (turn : ∀ (k : Nat) (x : V) (H' H'' : Hp), k < n → Same H0 H' → Y k H' x H'' → te ((wipe σ vs).set i (some x)) H'' fun y H4 => Same H'' H4 ∧ ∃ q, y = .ref q ∧ H'' q = none ∧ H4 q = some (.lst (C k)))
    (done : ∀ (p : Addr) (acc : List V) (H' : Hp), H0 p = none → Same H0 H' → H' p = some (.lst acc) → acc.length = n → acc.Nodup → (∀ (k : Nat) (v : V), acc[k]? = some v → ∃ q, v = .ref q ∧ q ≠ p ∧ H0 q = none ∧ H' q = some (.lst (C k))) → Q (.ref p) H') : tLc (iMid wi) (gName i) tYes (tMid te) vs σ H Q := by
  refine ⟨_, h, ?_⟩
  rintro J H1 ⟨rfl, rfl⟩ p hp
  refine lc_it w (fun k H' => ∃ acc, Same H1 H' ∧ H' p = some (.lst acc) ∧ acc.length = k ∧ acc.Nodup ∧ ∀ (j : Nat) (v : V), acc[j]? = some v → ∃ q, v = .ref q ∧ q ≠ p ∧ H1 q = none ∧ H' q = some (.lst (C j))) ⟨[], same_new hp, upd_same, rfl, .nil, fun j v h => by simp at h⟩ (fun k H' _ ⟨acc, s, _⟩ => hG H' s) ?_ fun H' ⟨acc, s, hD, hl, nd, c⟩ => done p acc H' hp s hD hl nd c
  rintro k x H' H'' hk ⟨acc, s, hD, hl, nd, c⟩ y
  have s2 := hY k H' x H'' y
  refine ⟨hw x, ?_⟩
  refine ⟨_, turn k x H' H'' hk s y, ?_⟩
  rintro v H4 ⟨s3, q, rfl, hq, hq4⟩
  have hD2 := s2 _ _ hD
  have hD4 : H4 p = some (.lst acc) := s3 _ _ hD2
  have nqp : q ≠ p := fun e => by rw [e, hD2] at hq; cases hq
  have no : V.ref q ∉ acc := fun z => by
    obtain ⟨j, hj⟩ := List.mem_iff_getElem?.mp z
    obtain ⟨q', e, _, _, h4⟩ := c j _ hj
    have h5 := s2 _ _ h4
    rw [← V.ref.inj e, hq] at h5
    cases h5
  refine ⟨acc, hD4, by rw [sizeLine_eq]; omega, acc ++ [.ref q], same_mut ((s.trans s2).trans s3) hp, upd_same, by rw [List.length_append, hl]; rfl, List.nodup_append.mpr ⟨nd, by simp, fun x hx y hy e => no (by rw [List.mem_singleton.mp hy] at e; exact e ▸ hx)⟩, fun j u hj => ?_⟩
  rcases Nat.lt_or_ge j acc.length with e | e
  · rw [List.getElem?_append_left e] at hj
    obtain ⟨q', rfl, n1, n2, h4⟩ := c j u hj
    exact ⟨q', rfl, n1, n2, by rw [upd_ne n1]; exact s3 _ _ (s2 _ _ h4)⟩
  · rw [List.getElem?_append_right e] at hj
    have e0 : j - acc.length = 0 := by
      rcases Nat.eq_zero_or_pos (j - acc.length) with z | z
      · exact z
      · rw [List.getElem?_eq_none (by rw [List.length_singleton]; omega)] at hj
        cases hj
    rw [e0] at hj
    cases hj
    have ej : j = k := by omega
    subst ej
    exact ⟨q, rfl, nqp, same_none (s.trans s2) hq, by rw [upd_ne nqp]; exact hq4⟩
/-- a row of truths -/
def rowT (M : Nat → Nat → Bool) (n i : Nat) : List V := (List.range n).map fun j => .bl (M i j)
theorem rowT_len {M : Nat → Nat → Bool} {n i : Nat} : (rowT M n i).length = n := by unfold rowT; rw [List.length_map, List.length_range]
theorem rowT_at {M : Nat → Nat → Bool} {n i j : Nat} (hj : j < n) : (rowT M n i)[j]? = some (.bl (M i j)) := by unfold rowT; rw [List.getElem?_map, List.getElem?_range hj]; rfl
theorem cutT {M : Nat → Nat → Bool} {n i k : Nat} (hk : k < n) : cutV (rowT M n i) none (some ((k : Nat) : Int)) = (List.range k).map fun j => V.bl (M i j) := by
  rw [cut_take]
  unfold rowT
  rw [← List.map_take, List.take_range]
  congr 2
  omega
def setB (M : Nat → Nat → Bool) (i j : Nat) : Nat → Nat → Bool := fun a b => if a = i ∧ b = j then true else M a b
theorem rowT_set {M : Nat → Nat → Bool} {n i j : Nat} : (rowT M n i).set j (.bl true) = rowT (setB M i j) n i := by
  refine List.ext_getElem? fun k => ?_
  by_cases hk : k < n
  · rw [rowT_at hk, List.getElem?_set]
    by_cases e : j = k
    · rw [if_pos e, if_pos (by rw [rowT_len]; omega)]
      unfold setB
      rw [if_pos ⟨rfl, e.symm⟩]
    · rw [if_neg e, rowT_at hk]
      unfold setB
      rw [if_neg fun z => e z.2.symm]
  · rw [List.getElem?_eq_none (by rw [List.length_set, rowT_len]; omega), List.getElem?_eq_none (by rw [rowT_len]; omega)]
theorem rowT_other {M : Nat → Nat → Bool} {n i j a : Nat} (h : a ≠ i) : rowT (setB M i j) n a = rowT M n a := by
  unfold rowT setB
  refine List.map_congr_left fun b _ => ?_
  rw [if_neg fun z => h z.1]
/-- a table of truths -/
structure MatV (H : Hp) (F : Addr) (us : List V) (M : Nat → Nat → Bool) (n : Nat) (H' : Hp) : Prop where
  none_ : H F = none
  lst : H' F = some (.lst us)
  nd : us.Nodup
  len : us.length = n
  row : ∀ (k : Nat) (v : V), us[k]? = some v → ∃ q, v = .ref q ∧ q ≠ F ∧ H q = none ∧ H' q = some (.lst (rowT M n k))
theorem MatV.at_ {H : Hp} {F : Addr} {us : List V} {M : Nat → Nat → Bool} {n : Nat} {H' : Hp} (h : MatV H F us M n H') {i : Nat} (hi : i < n) : ∃ q, us[i]? = some (.ref q) ∧ q ≠ F ∧ H q = none ∧ H' q = some (.lst (rowT M n i)) := by
  have e := List.getElem?_eq_getElem (l := us) (i := i) (by rw [h.len]; exact hi)
  obtain ⟨q, eq, r⟩ := h.row i _ e
  exact ⟨q, by rw [e, eq], r⟩
theorem MatV.mono {H : Hp} {F : Addr} {us : List V} {M : Nat → Nat → Bool} {n : Nat} {H' H2 : Hp} (h : MatV H F us M n H') (s : Same H' H2) : MatV H F us M n H2 := ⟨h.none_, s _ _ h.lst, h.nd, h.len, fun k v e => let ⟨q, a, b, c, d⟩ := h.row k v e; ⟨q, a, b, c, s _ _ d⟩⟩
theorem MatV.set {H : Hp} {F : Addr} {us : List V} {M : Nat → Nat → Bool} {n : Nat} {H' : Hp} (h : MatV H F us M n H') {i j : Nat} {q : Addr} (hq : us[i]? = some (.ref q)) : MatV H F us (setB M i j) n (upd H' q (.lst ((rowT M n i).set j (.bl true)))) := by
  obtain ⟨q0, e0, nF, _, _⟩ := h.row i _ hq
  cases e0
  refine ⟨h.none_, by rw [upd_ne (Ne.symm nF)]; exact h.lst, h.nd, h.len, fun k v hv => ?_⟩
  obtain ⟨q1, rfl, n1, n2, h4⟩ := h.row k v hv
  refine ⟨q1, rfl, n1, n2, ?_⟩
  by_cases e : k = i
  · subst e
    rw [hq] at hv
    cases hv
    rw [upd_same, rowT_set]
  · have ne : q1 ≠ q := fun z => e (by
      rw [z] at hv
      exact (List.getElem?_inj (List.getElem?_eq_some_iff.mp hv).1 h.nd).mp (hv.trans hq.symm))
    rw [upd_ne ne, rowT_other e]
    exact h4
/-- no two are alike, by pairs -/
def spUnlike (K : PySem.W.Frag) : Sp := fun vs H Q _ => ∃ c d Z us ds m, vs = [.ref c, .ref d] ∧ TabV Z c H ∧ TabOk Z m ∧ Z.length ≤ 600 ∧ m ≤ 600 ∧ SqL K H d us ∧ DpAll K H us ds ∧ AnsOk ds ∧ ds.length = Z.length ∧ (∀ i j, i < Z.length → j < Z.length → Alike (ansAt ds) Z i j → i = j) ∧ ∀ H', Same H H' → Q (.bl true) H'
theorem ok__law_unlike (T : Txt K mg) : OkD P w K mg base 1 (fA K "_law_unlike") ["_law_table_here", "_law_answers"] [] (spUnlike K) := by
  refine okD T.F__law_unlike sc__law_unlike (fun _ _ _ _ _ _ us hl => match us, hl with | [_, _], _ => rfl) ?_ ?_
  · rintro vs H Q E ⟨c, d, Z, us, ds, m, rfl, _⟩
    rfl
  · rintro cdv A outer s H vs Q E hr ⟨c, d, Z, us, ds, m, rfl, tv, ok, hz, hm, hd, hds, ao, dl, sep, q⟩
    refine ⟨_, (pss_cons (ps_set (i := 2) sc__law_unlike.nd rfl (Or.inr rfl) (pe_mid (pe_callB (o_lenW (K := K) (w := w)) (by rfl) T.fr_len boot_len (pa_cons (pv 0) pa_nil))))
  (pss_cons (ps_setLc (own := [("_law_one", 5)]) (g := (gName 5)) (tt := tYes) (i := 3) rfl sc__law_unlike.nd rfl rfl (sw_true rfl rfl rfl (by decide +kernel)) (pi_mid (pi_range1 rfl T.fr_range (pa_cons (pv 2) pa_nil))) (blkOk_by (N := N__law_unlike) (sc := defScope TX.s__law_unlike) (by decide +kernel)) (fun _ _ _ _ _ => (pg_name (i := 5) sc__law_unlike.nd rfl (Or.inr rfl))) (fun _ _ _ _ _ => pts_nil) (fun _ _ _ _ _ => (pe_mid (pe_lc (own := [("_law_other", 6)]) (g := (gName 6)) (tt := tYes) rfl sc__law_unlike.nd (pi_mid (pi_range1 rfl T.fr_range (pa_cons (pv 2) pa_nil))) (blkOk_blk (by kernel_rfl)) (fun _ _ _ _ _ => (pg_name (i := 6) sc__law_unlike.nd rfl (Or.inl rfl))) (fun _ _ _ _ _ => pts_nil) (fun _ _ _ _ _ => (pe_mid (pe_cmpR (o_neD (K := K) (hu64 hr)) (pe_ix (o_ix (K := K)) (pv 1) (pv 5) (fun _ _ => rfl)) (pe_ix (o_ix (K := K)) (pv 1) (pv 6) (fun _ _ => rfl)) (nomark _))))))))
  (pss_cons (ps_mid (ps_for (passes_of rfl) rfl (pi_mid (pi_range1 rfl T.fr_range (pa_cons (pv 2) pa_nil))) (pg_name (i := 4) sc__law_unlike.nd rfl (Or.inl rfl)) (pss_one (ps_mid (ps_for (passes_of rfl) rfl (pi_mid (pi_range1 rfl T.fr_range (pa_cons (pv 2) pa_nil))) (pg_name (i := 5) sc__law_unlike.nd rfl (Or.inl rfl)) (pss_one (ps_mid (ps_for (passes_of rfl) rfl (pi_mid (pi_range1 rfl T.fr_range (pa_cons (pv 2) pa_nil))) (pg_name (i := 6) sc__law_unlike.nd rfl (Or.inl rfl)) (pss_one (ps_mid (ps_for (passes_of rfl) rfl (pi_mid (pi_range1 rfl T.fr_range (pa_cons (pe_callB (o_lenW (K := K) (w := w)) (by rfl) T.fr_len boot_len (pa_cons (pe_ix (o_ix (K := K)) (pv 0) (pv 5) (fun _ _ => rfl)) pa_nil)) pa_nil))) (pg_name (i := 7) sc__law_unlike.nd rfl (Or.inl rfl)) (pss_one (ps_if (pt_mid (pt_tru (K := K) (pe_ix (o_ix (K := K)) (pe_ix (o_ix (K := K)) (pv 3) (pe_ix (o_ix (K := K)) (pe_ix (o_ix (K := K)) (pv 0) (pv 5) (fun _ _ => rfl)) (pv 7) (fun _ _ => rfl)) (fun _ _ => rfl)) (pe_ix (o_ix (K := K)) (pe_ix (o_ix (K := K)) (pv 0) (pv 6) (fun _ _ => rfl)) (pv 7) (fun _ _ => rfl)) (fun _ _ => rfl)) (by intro _; rfl))) (pss_one (ps_asg pe_bl (pg_sub (pe_ix (o_ix (K := K)) (pv 3) (pv 5) (fun _ _ => rfl)) (pv 6) set_list))) pss_nil)))))))))))))
  (pss_cons (ps_mid (ps_for (passes_of rfl) rfl (pi_mid (pi_range1 rfl T.fr_range (pa_cons (pv 2) pa_nil))) (pg_name (i := 5) sc__law_unlike.nd rfl (Or.inl rfl)) (pss_one (ps_if (pt_mid (pt_cmpR (o_in (K := K) (hu65 hr)) pe_bl (pe_slice (o_sl (K := K)) (pe_ix (o_ix (K := K)) (pv 3) (pv 5) (fun _ _ => rfl)) po_none (po_some (pv 5))) (by rfl))) (pss_one (ps_ret pe_bl)) pss_nil))))
  (pss_one (ps_ret pe_bl)))))), ?_⟩
    have tobj := T.obj
    have hZu : ∃ zus, H c = some (.lst zus) ∧ zus.length = Z.length := let ⟨zus, h1, h2⟩ := tv; ⟨zus, h1, h2.1⟩
    obtain ⟨zus, hzus, zul⟩ := hZu
    refine q_mid (fun x => x = (Z.length : Int)) ?_ fun xi hxi => ?_
    · walk_at "rd"
      exact .inr ⟨_, len_l hzus, by rw [zul]⟩
    subst hxi
    refine q_val ?_
    refine lc_own2 (J0 := Itr 0 Z.length) (H0 := H) ?_ walk_range (by omega) (fun k => rowT (fun i j => !PyData.eqv (ansAt ds i) (ansAt ds j)) Z.length k) (fun _ _ => trivial) (fun _ _ _ _ y => y_fn y) (fun _ => rfl) ?_ ?_
    · walk_at "rd"
      exact ⟨by omega, by omega, by rw [Int.toNat_natCast]⟩
    · rintro k x H' H'' hk sm ⟨rfl, rfl⟩
      obtain ⟨u, hu, du⟩ := dpAll_at hds (i := k) (by omega)
      refine lc_pv (J0 := Itr 0 Z.length) (H0 := H'') ?_ walk_range (by omega) (fun j v => v = .bl (!PyData.eqv (ansAt ds k) (ansAt ds j))) (fun _ _ => trivial) (fun _ _ _ _ y => y_fn y) (fun _ => rfl) ?_ ?_
      · walk_at "rd"
        exact ⟨by omega, by omega, by rw [Int.toNat_natCast]⟩
      · rintro j x H2 H3 hj s2 ⟨rfl, rfl⟩
        obtain ⟨u2, hu2, du2⟩ := dpAll_at hds (i := j) (by omega)
        have s3 := sm.trans s2
        walk_at "rd"
        exact ⟨us, .inl (same_l s3 hd), u, atI_nat hu, us, .inl (same_l s3 hd), u2, atI_nat hu2, _, _, dp_mono s3 _ _ du, dp_mono s3 _ _ du2, (ao.ok _ (ans_mem (by omega))).shaped (by decide), (ao.ok _ (ans_mem (by omega))).shaped (by decide), Same.refl _, rfl⟩
      · intro p acc H2 hp s2 hp2 al ap
        refine ⟨s2, p, rfl, hp, ?_⟩
        rw [hp2]
        congr 2
        refine List.ext_getElem? fun j => ?_
        by_cases hj : j < Z.length
        · rw [rowT_at hj, List.getElem?_eq_getElem (by omega)]
          exact congrArg some (ap j _ (List.getElem?_eq_getElem (by omega)))
        · rw [List.getElem?_eq_none (by omega), List.getElem?_eq_none (by rw [rowT_len]; omega)]
    intro F fus H1 hF s1 hF1 fl fnd frow
    have mv0 : MatV H F fus (fun i j => !PyData.eqv (ansAt ds i) (ansAt ds j)) Z.length H1 := ⟨hF, hF1, fnd, fl, frow⟩
    have m0 : ∀ i j, i < Z.length → j < Z.length → ¬ AlikeT (ansAt ds) Z 0 i j → (!PyData.eqv (ansAt ds i) (ansAt ds j)) = true := fun i j hi hj na => by
      cases e : PyData.eqv (ansAt ds i) (ansAt ds j) with
      | false => rfl
      | true =>
        have := (ao.eq _ (ans_mem (by omega)) _ (ans_mem (by omega))).mp e
        exact absurd (fun w hw => by rw [List.length_eq_zero_iff.mp (Nat.le_zero.mp hw)]; exact this) na
    obtain ⟨M0, hM0⟩ : ∃ M0 : Nat → Nat → Bool, M0 = fun i j => !PyData.eqv (ansAt ds i) (ansAt ds j) := ⟨_, rfl⟩
    rw [← hM0] at mv0
    have m0 : ∀ i j, i < Z.length → j < Z.length → ¬ AlikeT (ansAt ds) Z 0 i j → M0 i j = true := fun i j hi hj na => by rw [hM0]; exact m0 i j hi hj na
    clear hM0
    refine q_stm (fun σ H' => ∃ M x4 x5 x6 x7, σ = [some (.ref c), some (.ref d), some (.int (Z.length : Int)), some (.ref F), x4, x5, x6, x7] ∧ Same H H' ∧ MatV H F fus M Z.length H' ∧ ∀ i j, i < Z.length → j < Z.length → ¬ AlikeT (ansAt ds) Z Z.length i j → M i j = true) ?_ ?_
    · refine for_mid (J0 := Itr 0 Z.length) (H0 := H1) ?_ walk_range (fun k σ H' => ∃ M x4 x5 x6 x7, σ = [some (.ref c), some (.ref d), some (.int (Z.length : Int)), some (.ref F), x4, x5, x6, x7] ∧ Same H H' ∧ MatV H F fus M Z.length H' ∧ ∀ i j, i < Z.length → j < Z.length → ¬ AlikeT (ansAt ds) Z k i j → M i j = true)
        ⟨M0, _, _, _, _, rfl, s1, mv0, m0⟩ (fun _ _ _ _ _ => trivial) ?_ (fun _ _ h => h)
      · walk_at "rd"
        exact ⟨by omega, by omega, by rw [Int.toNat_natCast]⟩
      rintro t x σ H2 H3 ht ⟨Mt, x4, x5, x6, x7, rfl, s2, mvt, mt⟩ ⟨rfl, rfl⟩
      refine l_stm (for_mid (J0 := Itr 0 Z.length) (H0 := H3) ?_ walk_range (fun one σ H' => ∃ M x5 x6 x7, σ = [some (.ref c), some (.ref d), some (.int (Z.length : Int)), some (.ref F), some (.int (0 + (t : Int))), x5, x6, x7] ∧ Same H H' ∧ MatV H F fus M Z.length H' ∧ (∀ a b, Mt a b = true → M a b = true) ∧ ∀ i j, i < one → j < Z.length → ¬ AlikeT (ansAt ds) Z (t + 1) i j → M i j = true)
        ⟨Mt, _, _, _, rfl, s2, mvt, fun _ _ h => h, fun i j h => absurd h (Nat.not_lt_zero _)⟩ (fun _ _ _ _ _ => trivial) ?_ ?_)
      · walk_at "rd"
        exact ⟨by omega, by omega, by rw [Int.toNat_natCast]⟩
      · rintro one x σ H4 H5 hone ⟨M1, y5, y6, y7, rfl, s4, mv1, mono1, m1⟩ ⟨rfl, rfl⟩
        refine l_stm (for_mid (J0 := Itr 0 Z.length) (H0 := H5) ?_ walk_range (fun other σ H' => ∃ M x6 x7, σ = [some (.ref c), some (.ref d), some (.int (Z.length : Int)), some (.ref F), some (.int (0 + (t : Int))), some (.int (0 + (one : Int))), x6, x7] ∧ Same H H' ∧ MatV H F fus M Z.length H' ∧ (∀ a b, M1 a b = true → M a b = true) ∧ ∀ j, j < other → ¬ AlikeT (ansAt ds) Z (t + 1) one j → M one j = true)
          ⟨M1, _, _, rfl, s4, mv1, fun _ _ h => h, fun j h => absurd h (Nat.not_lt_zero _)⟩ (fun _ _ _ _ _ => trivial) ?_ ?_)
        · walk_at "rd"
          exact ⟨by omega, by omega, by rw [Int.toNat_natCast]⟩
        · rintro other x σ H6 H7 hother ⟨M2, z6, z7, rfl, s6, mv2, mono2, m2⟩ ⟨rfl, rfl⟩
          obtain ⟨zu, pr, hzu, hup, hpr⟩ := tv.at_ hone
          obtain ⟨zu2, pr2, hzu2, hup2, hpr2⟩ := tv.at_ hother
          have rl := ok.rowLen hone
          have rl2 := ok.rowLen hother
          refine l_stm (for_mid (J0 := Itr 0 m) (H0 := H7) ?_ walk_range (fun k σ H' => ∃ M x7, σ = [some (.ref c), some (.ref d), some (.int (Z.length : Int)), some (.ref F), some (.int (0 + (t : Int))), some (.int (0 + (one : Int))), some (.int (0 + (other : Int))), x7] ∧ Same H H' ∧ MatV H F fus M Z.length H' ∧ (∀ a b, M2 a b = true → M a b = true) ∧ ∀ k', k' < k → Mt (tstep Z one k') (tstep Z other k') = true → M one other = true)
            ⟨M2, _, rfl, s6, mv2, fun _ _ h => h, fun j h => absurd h (Nat.not_lt_zero _)⟩ (fun _ _ _ _ _ => trivial) ?_ ?_)
          · walk_at "rd"
            refine ⟨zu, .inl (.inl (.inl (s6 _ _ hzu))), .ref pr, atI_nat hup, .inr ⟨_, len_l (s6 _ _ hpr), ?_⟩⟩
            rw [ints_len, rl]
            exact ⟨by omega, by omega, by rw [Int.toNat_natCast]⟩
          · rintro k x σ H8 H9 hk ⟨M3, w7, rfl, s8, mv3, mono3, m3⟩ ⟨rfl, rfl⟩
            have i1 : tstep Z one k < Z.length := ok.rowLt hone (tstep_mem (by omega))
            have i2 : tstep Z other k < Z.length := ok.rowLt hother (tstep_mem (by omega))
            have g1 : (intsV (trow Z one))[k]? = some (.int (tstep Z one k : Int)) := by
              rw [ints_at]; unfold tstep; rw [List.getD_eq_getElem?_getD, List.getElem?_eq_getElem (by omega)]; rfl
            have g2 : (intsV (trow Z other))[k]? = some (.int (tstep Z other k : Int)) := by
              rw [ints_at]; unfold tstep; rw [List.getD_eq_getElem?_getD, List.getElem?_eq_getElem (by omega)]; rfl
            obtain ⟨q1, hq1, nq1, _, hr1⟩ := mv3.at_ i1
            obtain ⟨q2, hq2, nq2, hn2, hr2⟩ := mv3.at_ hone
            refine l_if (fun b' H' => H' = H9 ∧ b' = M3 (tstep Z one k) (tstep Z other k)) ?_ (fun H10 h => ?_) fun H10 h => ?_
            · walk_at "rd"
              exact ⟨zu, .inl (.inl (.inl (s8 _ _ hzu))), .ref pr, atI_nat hup, intsV (trow Z one), .inl (.inl (.inl (s8 _ _ hpr))), .int (tstep Z one k : Int), atI_nat g1, fus, .inl (.inl (.inl mv3.lst)), .ref q1, atI_nat hq1, zu2, .inl (.inl (.inl (s8 _ _ hzu2))), .ref pr2, atI_nat hup2, intsV (trow Z other), .inl (.inl (.inl (s8 _ _ hpr2))), .int (tstep Z other k : Int), atI_nat g2, _, .inl (.inl (.inl hr1)), .bl (M3 (tstep Z one k) (tstep Z other k)), atI_nat (rowT_at i2), _, rfl, rfl⟩
            · obtain ⟨rfl, hb⟩ := h
              walk_at "rd"
              refine ⟨fus, .inl (.inl (.inl mv3.lst)), .ref q2, atI_nat hq2, q2, rfl, _, hr2, other, ?_, same_mut s8 hn2, setB M3 one other, mv3.set hq2, fun a b h => ?_, fun _ _ _ => ?_⟩
              · rw [rowT_len]
                unfold ixN
                rw [if_pos (by omega), if_pos (by omega), Int.toNat_natCast]
              · unfold setB
                split
                · rfl
                · exact mono3 a b h
              · unfold setB
                rw [if_pos ⟨rfl, rfl⟩]
            · obtain ⟨rfl, hb⟩ := h
              refine ⟨M3, _, rfl, s8, mv3, mono3, fun k' hk' h => ?_⟩
              by_cases e : k' = k
              · rw [e] at h
                rw [mono3 _ _ (mono2 _ _ (mono1 _ _ h))] at hb
                cases hb
              · exact m3 k' (by omega) h
          · rintro σ H8 ⟨M3, w7, rfl, s8, mv3, mono3, m3⟩
            refine ⟨M3, _, _, rfl, s8, mv3, fun a b h => mono3 _ _ (mono2 _ _ h), fun j hj na => ?_⟩
            by_cases e : j = other
            · subst e
              by_cases ea : ansAt ds one = ansAt ds j
              · have : ∃ k, ¬ AlikeT (ansAt ds) Z t (tstep Z one k) (tstep Z j k) := Classical.byContradiction fun z => na (alikeT_succ.mpr ⟨ea, fun k => Classical.byContradiction fun w => z ⟨k, w⟩⟩)
                obtain ⟨k, hk⟩ := this
                have km : k < m := Classical.byContradiction fun z => hk (by
                  have e1 : tstep Z one k = 0 := by unfold tstep; rw [List.getD_eq_getElem?_getD, List.getElem?_eq_none (by omega)]; rfl
                  have e2 : tstep Z j k = 0 := by unfold tstep; rw [List.getD_eq_getElem?_getD, List.getElem?_eq_none (by omega)]; rfl
                  rw [e1, e2]
                  exact fun _ _ => rfl)
                exact m3 k km (mt _ _ (ok.rowLt hone (tstep_mem (by omega))) (ok.rowLt hother (tstep_mem (by omega))) hk)
              · exact mono3 _ _ (mono2 _ _ (mono1 _ _ (mt _ _ hone hother fun al => ea (al [] (Nat.zero_le _)))))
            · exact mono3 _ _ (m2 j (by omega) na)
        · rintro σ H6 ⟨M2, z6, z7, rfl, s6, mv2, mono2, m2⟩
          refine ⟨M2, _, _, _, rfl, s6, mv2, fun a b h => mono2 _ _ (mono1 _ _ h), fun i j hi hj na => ?_⟩
          by_cases e : i = one
          · rw [e] at na ⊢
            exact m2 j hj na
          · exact mono2 _ _ (m1 i j (by omega) hj na)
      · rintro σ H4 ⟨M1, y5, y6, y7, rfl, s4, mv1, mono1, m1⟩
        exact ⟨M1, _, _, _, _, rfl, s4, mv1, m1⟩
    rintro σ H2 ⟨M, x4, x5, x6, x7, rfl, s2, mv, mm⟩
    refine q_stm (fun σ H' => Same H H') ?_ ?_
    · refine for_mid (J0 := Itr 0 Z.length) (H0 := H2) ?_ walk_range (fun k σ H' => ∃ x4 x5 x6 x7, σ = [some (.ref c), some (.ref d), some (.int (Z.length : Int)), some (.ref F), x4, x5, x6, x7] ∧ Same H H' ∧ MatV H F fus M Z.length H') ⟨_, _, _, _, rfl, s2, mv⟩ (fun _ _ _ _ _ => trivial) ?_ (fun _ _ ⟨_, _, _, _, _, s, _⟩ => s)
      · walk_at "rd"
        exact ⟨by omega, by omega, by rw [Int.toNat_natCast]⟩
      rintro k x σ H3 H4 hk ⟨x4, x5, x6, x7, rfl, s3, mv3⟩ ⟨rfl, rfl⟩
      obtain ⟨q1, hq1, nq1, _, hr1⟩ := mv3.at_ hk
      refine l_if (fun b' H' => Same H4 H' ∧ b' = false) ?_ (fun _ h => nomatch h.2) fun H5 h => ?_
      · walk_at "rd"
        refine ⟨fus, .inl (.inl (.inl mv3.lst)), .ref q1, atI_nat hq1, .inl ⟨_, .inl (.inl hr1), fun p hp => ⟨_, .inl (.inl (.inl upd_same)), ?_, same_new hp, ?_⟩⟩⟩
        · rw [cutT hk, List.all_eq_true]
          intro x hx
          obtain ⟨j, _, rfl⟩ := List.mem_map.mp hx
          rfl
        · rw [cutT hk]
          have : ∀ l : List Nat, (∀ j ∈ l, M k j = true) → inV (.bl false) (l.map fun j => V.bl (M k j)) = false := by
            intro l
            induction l with
            | nil => intro _; rfl
            | cons j l ih =>
              intro h
              have h1 := h j List.mem_cons_self
              have h2 := ih fun x hx => h x (List.mem_cons_of_mem _ hx)
              show (eqV (.bl (M k j)) (.bl false) || inV (.bl false) (l.map fun j => V.bl (M k j))) = false
              rw [h2, h1]
              rfl
          refine this _ fun j hj => ?_
          have jk := List.mem_range.mp hj
          refine mm k j hk (by omega) fun al => ?_
          have := sep k j hk (by omega) (moore (fun s hs k => ?_) hk (by omega) al)
          · omega
          · by_cases hkm : k < (trow Z s).length
            · exact ok.rowLt hs (tstep_mem hkm)
            · unfold tstep
              rw [List.getD_eq_getElem?_getD, List.getElem?_eq_none (by omega)]
              exact ok.pos
      · obtain ⟨s5, _⟩ := h
        exact ⟨_, _, _, _, rfl, s3.trans s5, mv3.mono s5⟩
    · rintro σ H3 s3
      walk_at "rd"
      exact q _ s3
/-- the stands as they are met -/
def spMet (K : PySem.W.Frag) : Sp := fun vs H Q _ => ∃ c Z m, vs = [.ref c] ∧ TabV Z c H ∧ TabOk Z m ∧ Z.length ≤ 600 ∧ m ≤ 600 ∧ Normal Z ∧ ∀ p H', Same H H' → H p = none → H' p = some (.lst (intsV (List.range Z.length))) → Q (.ref p) H'
theorem ok__law_met (T : Txt K mg) : OkD P w K mg base 1 (fA K "_law_met") ["_law_table_here"] [] (spMet K) := by
  refine okD T.F__law_met sc__law_met (fun _ _ _ _ _ _ us hl => match us, hl with | [_], _ => rfl) ?_ ?_
  · rintro vs H Q E ⟨c, Z, m, rfl, _⟩
    rfl
  · rintro cdv A outer s H vs Q E hr ⟨c, Z, m, rfl, tv, ok, hz, hm, nor, q⟩
    refine ⟨_, (pss_cons (ps_set (i := 1) sc__law_met.nd rfl (Or.inl rfl) (pe_mid (pe_lst (pa_cons pe_int pa_nil))))
  (pss_cons (ps_set (i := 2) sc__law_met.nd rfl (Or.inl rfl) (pe_mid pe_int))
  (pss_cons (ps_mid (ps_while (passes_of rfl) (pt_mid (pt_cmpR o_lt (pv 2) (pe_callB (o_lenW (K := K) (w := w)) (by rfl) T.fr_len boot_len (pa_cons (pv 1) pa_nil)) (nomark _))) (pss_cons (ps_mid (ps_for (passes_of rfl) rfl (pi_mid (o_it (K := K) rfl (pe_ix (o_ix (K := K)) (pv 0) (pe_ix (o_ix (K := K)) (pv 1) (pv 2) (fun _ _ => rfl)) (fun _ _ => rfl)))) (pg_name (i := 3) sc__law_met.nd rfl (Or.inl rfl)) (pss_one (ps_if (pt_mid (pt_cmpR (o_notin (K := K) (hu65 hr)) (pv 3) (pv 1) (by rfl))) (pss_one (ps_expr (pe_bmK (K := K) PySem.F.plainAttrs_list PySem.F.slot_list_append PySem.F.type_list_append mt_append (pv 1) (pa_cons (pe_mid (pv 3)) pa_nil)))) pss_nil))))
  (pss_one (ps_set (i := 2) sc__law_met.nd rfl (Or.inl rfl) (pe_mid (pe_op (o_add (K := K)) (pv 2) pe_int)))))))
  (pss_one (ps_ret (pv 1)))))), ?_⟩
    have tobj := T.obj
    obtain ⟨cn, c0, cN, cs⟩ := nor.ex
    have cle : ∀ i, i ≤ Z.length → cn i ≤ Z.length := by
      intro i hi
      have : ∀ j, i ≤ j → j ≤ Z.length → cn i ≤ cn j := by
        intro j hij
        induction j with
        | zero => intro _; rw [Nat.le_zero.mp hij]; exact Nat.le_refl _
        | succ j ih =>
          intro hj
          rcases Nat.lt_or_eq_of_le hij with z | z
          · refine Nat.le_trans (ih (by omega) (by omega)) ?_
            have := (fold_pre (trow Z j) (List.range (cn j))).length_le
            rw [(cs j (by omega)).2, List.length_range, List.length_range] at this
            exact this
          · rw [z]; exact Nat.le_refl _
      have := this Z.length hi (Nat.le_refl _)
      omega
    refine q_midG (fun v H' => ∃ F, v = .ref F ∧ H F = none ∧ Same H H' ∧ H' F = some (.lst (intsV (List.range 1)))) ?_ ?_
    · walk_at "rd"
      exact fun p hp => ⟨hp, same_new hp, upd_same⟩
    rintro _ H1 ⟨F, rfl, hF, s1, hF1⟩
    refine q_mid (fun c => c = 0) ?_ fun ci hci => ?_
    · walk_at "rd"
    subst hci
    refine q_stm (fun σ H' => ∃ x2 x3, σ = [some (.ref c), some (.ref F), x2, x3] ∧ Same H H' ∧ H' F = some (.lst (intsV (List.range Z.length)))) ?_ ?_
    · refine while_mid (fun mm σ H' => ∃ (at_ : Nat) (x3 : Option V), σ = [some (.ref c), some (.ref F), some (.int (at_ : Int)), x3] ∧ Same H H' ∧ at_ ≤ Z.length ∧ H' F = some (.lst (intsV (List.range (cn at_)))) ∧ mm = Z.length - at_) _ ⟨0, _, rfl, s1, Nat.zero_le _, by rw [c0]; exact hF1, rfl⟩ ?_
      rintro mm σ H2 ⟨at_, x3, rfl, s2, atl, hF2, rfl⟩
      refine ⟨fun b' H' => H' = H2 ∧ b' = decide (at_ < cn at_), ?_, ?_, ?_⟩
      · walk_at "rd"
        refine .inr ⟨_, len_l hF2, ?_⟩
        rw [ints_len, List.length_range]
        exact decide_eq_decide.mpr Int.ofNat_lt
      · rintro H3 ⟨rfl, hb⟩
        have lt := of_decide_eq_true hb.symm
        have atl : at_ < Z.length := by
          rcases Nat.lt_or_eq_of_le atl with z | z
          · exact z
          · rw [z, cN] at lt
            exact absurd lt (Nat.lt_irrefl _)
        obtain ⟨us, pr, hus, hup, hpr⟩ := tv.at_ atl
        have rl := ok.rowLen atl
        have hat : (intsV (List.range (cn at_)))[at_]? = some (.int (at_ : Int)) := by rw [ints_at, List.getElem?_range lt]; rfl
        refine q_stm (fun σ H' => ∃ x3, σ = [some (.ref c), some (.ref F), some (.int (at_ : Int)), x3] ∧ Same H H' ∧ H' F = some (.lst (intsV (List.range (cn (at_ + 1)))))) ?_ ?_
        · refine for_mid (J0 := Itl K pr) (H0 := H3) ?_ (walk_list (K := K) (a := pr) (xs := intsV (trow Z at_))) (fun k σ H' => ∃ x3 l, σ = [some (.ref c), some (.ref F), some (.int (at_ : Int)), x3] ∧ Same H H' ∧ H' F = some (.lst (intsV l)) ∧ l = ((trow Z at_).take k).foldl metN (List.range (cn at_)) ∧ l.length ≤ cn at_ + k) ⟨_, _, rfl, s2, hF2, rfl, by rw [List.length_range]; exact Nat.le_refl _⟩ (fun _ _ _ _ ⟨_, _, _, s, _⟩ => same_l s (.inl (.inl hpr))) ?_ ?_
          · walk_at "rd"
            exact ⟨_, .inl (.inl (.inl hF2)), .int (at_ : Int), atI_nat hat, us, .inl (.inl (.inl (s2 _ _ hus))), .ref pr, atI_nat hup, .inl ⟨⟨_, .inl (.inl (s2 _ _ hpr))⟩, rfl⟩⟩
          · rintro k x σ H4 H5 hk ⟨x3, l, rfl, s4, hF4, hl, hll⟩ ⟨rfl, hx⟩
            rw [ints_len] at hk
            rw [ints_at] at hx
            obtain ⟨o, ho, rfl⟩ := Option.map_eq_some_iff.mp hx
            have tk1 : (trow Z at_).take (k + 1) = (trow Z at_).take k ++ [o] := by rw [List.take_add_one, ho]; rfl
            have hl2 : ((trow Z at_).take (k + 1)).foldl metN (List.range (cn at_)) = metN l o := by rw [tk1, List.foldl_append, ← hl]; rfl
            have := cle at_ (by omega)
            refine l_if (fun b' H' => H' = H5 ∧ b' = !decide (o ∈ l)) ?_ (fun H6 h => ?_) fun H6 h => ?_
            · walk_at "rd"
              exact ⟨_, .inl (.inl (.inl hF4)), flat_ints l, by rw [inV_ints]⟩
            · obtain ⟨rfl, hb⟩ := h
              have no : o ∉ l := by simpa using hb.symm
              refine l_appV (xs := intsV l) rfl rfl hF4 (by rw [ints_len]; omega) ?_
              rw [ints_snoc]
              exact ⟨_, l ++ [o], rfl, same_mut s4 hF, upd_same, by rw [hl2]; exact (if_neg no).symm, by rw [List.length_append]; show l.length + 1 ≤ _; omega⟩
            · obtain ⟨rfl, hb⟩ := h
              have yo : o ∈ l := by simpa using hb.symm
              exact ⟨_, l, rfl, s4, hF4, by rw [hl2]; exact (if_pos yo).symm, by omega⟩
          · rintro σ H4 ⟨x3, l, rfl, s4, hF4, hl, hll⟩
            rw [ints_len, List.take_of_length_le (Nat.le_refl _), (cs at_ atl).2] at hl
            exact ⟨_, rfl, s4, by rw [← hl]; exact hF4⟩
        · rintro σ H4 ⟨x3, rfl, s4, hF4⟩
          refine l_midG (fun v H' => v = .int ((at_ + 1 : Nat) : Int) ∧ H' = H4) ?_ ?_
          · walk_at "rd"
            exact Int.natCast_succ at_ |>.symm
          rintro _ _ ⟨rfl, rfl⟩
          exact ⟨_, by omega, at_ + 1, _, rfl, s4, by omega, hF4, rfl⟩
      · rintro H3 ⟨rfl, hb⟩
        have nlt := of_decide_eq_false hb.symm
        have e : at_ = Z.length := by
          rcases Nat.lt_or_eq_of_le atl with z | z
          · exact absurd (cs at_ z).1 nlt
          · exact z
        rw [e, cN] at hF2
        exact ⟨_, _, rfl, s2, hF2⟩
    · rintro σ H2 ⟨x2, x3, rfl, s2, hF2⟩
      walk_at "rd"
      exact q _ _ s2 hF hF2
def spChain (K : PySem.W.Frag) : Sp := fun vs H Q _ => ∃ i : Int, vs = [.int i] ∧ ∀ p H' a b n m us, Same H H' → H' p = some (.tup [.ref a, .ref b]) → TabV (chainT n m) a H' → 20 ≤ n → n ≤ 100 → 1 ≤ m → m ≤ 3 → H' b = some (.lst us) → DpAll K H' us (List.replicate (n - 1) .none ++ [.tuple [.bool true, .int 1]]) → Q (.ref p) H'
theorem ok__law_chain (T : Txt K mg) : OkD P w K mg base 1 (fA K "_law_chain") ["_law_cell_here"] [] (spChain K) := by
  refine okD T.F__law_chain sc__law_chain (fun _ _ _ _ _ _ us hl => match us, hl with | [_], _ => rfl) ?_ ?_
  · rintro vs H Q E ⟨i, rfl, _⟩
    rfl
  · rintro cdv A outer s H vs Q E hr ⟨i, rfl, q⟩
    refine ⟨_, (pss_cons (ps_set (i := 1) sc__law_chain.nd rfl (Or.inr rfl) (pe_mid (pe_op (o_add (K := K)) pe_int (pe_op op_mod (pv 0) pe_int))))
  (pss_cons (ps_set (i := 2) sc__law_chain.nd rfl (Or.inr rfl) (pe_mid (pe_op (o_add (K := K)) pe_int (pe_op op_mod (pe_op op_fdivW (pv 0) pe_int) pe_int))))
  (pss_cons (ps_setLc (own := [("_law_k", 4)]) (g := (gName 4)) (tt := tYes) (i := 3) rfl sc__law_chain.nd rfl rfl (sw_true rfl rfl rfl (by decide +kernel)) (pi_mid (pi_range1 rfl T.fr_range (pa_cons (pv 1) pa_nil))) (blkOk_by (N := N__law_chain) (sc := defScope TX.s__law_chain) (by decide +kernel)) (fun _ _ _ _ _ => (pg_name (i := 4) sc__law_chain.nd rfl (Or.inl rfl))) (fun _ _ _ _ _ => pts_nil) (fun _ _ _ _ _ => (pe_mid (pe_op (o_add (K := K)) (pe_lst (pa_cons (pe_callB (o_min (K := K) rfl) (by rfl) T.fr_min (by decide +kernel) (pa_cons (pe_op (o_add (K := K)) (pv 4) pe_int) (pa_cons (pe_op op_sub (pv 1) pe_int) pa_nil))) pa_nil)) (pe_op o_mul (pe_lst (pa_cons pe_int pa_nil)) (pe_op op_sub (pv 2) pe_int))))))
  (pss_one (ps_ret (pe_tup (pa_cons (pv 3) (pa_cons (pe_op (o_add (K := K)) (pe_op o_mul (pe_lst (pa_cons pe_non pa_nil)) (pe_op op_sub (pv 1) pe_int)) (pe_lst (pa_cons (pe_tup (pa_cons pe_bl (pa_cons pe_int pa_nil))) pa_nil))) pa_nil)))))))), ?_⟩
    have tobj := T.obj
    refine q_mid (fun c => ∃ n : Nat, c = (n : Int) ∧ 20 ≤ n ∧ n ≤ 100) ?_ fun mi hmi => ?_
    · walk_at "rd"
      exact ⟨(20 + i % 81).toNat, by omega, by omega, by omega⟩
    obtain ⟨n, rfl, n1, n2⟩ := hmi
    refine q_mid (fun c => ∃ m : Nat, c = (m : Int) ∧ 1 ≤ m ∧ m ≤ 3) ?_ fun mi hmi => ?_
    · walk_at "rd"
      exact ⟨⟨by decide, by decide⟩, (1 + i / 81 % 3).toNat, by omega, by omega, by omega⟩
    obtain ⟨m, rfl, m1, m3⟩ := hmi
    have flat : ∀ (t : Nat) (v : V), (List.replicate t [v]).flatten = List.replicate t v := by
      intro t v
      induction t with
      | zero => rfl
      | succ t ih => rw [List.replicate_succ, List.flatten_cons, ih]; rfl
    have en : ((n : Int) - 1).toNat = n - 1 := by omega
    have em : ((m : Int) - 1).toNat = m - 1 := by omega
    refine q_val ?_
    refine lc_own2 (J0 := Itr 0 n) (H0 := H) ?_ walk_range (by omega) (fun k => intsV (min (k + 1) (n - 1) :: List.replicate (m - 1) 0)) (fun _ _ => trivial) (fun _ _ _ _ y => y_fn y) (fun _ => rfl) ?_ ?_
    · walk_at "rd"
      exact ⟨by omega, by omega, by rw [Int.toNat_natCast]⟩
    · rintro k x H' H'' hk sm ⟨rfl, rfl⟩
      walk_at "rd"
      intro p hp p1 hp1
      have a1 := same_new (o := .lst [.int (if (n : Int) - 1 < (k : Int) + 1 then (n : Int) - 1 else (k : Int) + 1)]) hp
      have a2 := same_new (o := .lst [.int 0]) hp1
      refine ⟨[.int 0], upd_same, by omega, by omega, by rw [em]; show 1 * (m - 1) ≤ _; omega, fun p2 hp2 => ?_⟩
      rw [em, flat]
      have a3 := same_new (o := .lst (List.replicate (m - 1) (.int 0))) hp2
      refine .inl ⟨_, a3 _ _ (a2 _ _ upd_same), List.replicate (m - 1) (.int 0), upd_same, by rw [List.length_replicate]; show 1 + (m - 1) ≤ _; omega, fun p3 hp3 => ⟨((a1.trans a2).trans a3).trans (same_new hp3), same_none ((a1.trans a2).trans a3) hp3, ?_⟩⟩
      rw [upd_same]
      congr 2
      show V.int _ :: List.replicate (m - 1) (V.int 0) = V.int ((min (k + 1) (n - 1) : Nat) : Int) :: (List.replicate (m - 1) 0).map fun (i : Nat) => V.int (i : Int)
      rw [List.map_replicate]
      congr 2
      split <;> omega
    · intro F acc H1 hF s1 hF1 al _ hr'
      walk_at "rd"
      intro p hp
      have a1 := same_new (o := .lst [.non]) hp
      refine ⟨[.non], upd_same, by omega, by omega, by rw [en]; show 1 * (n - 1) ≤ _; omega, fun p1 hp1 p2 hp2 p3 hp3 => ?_⟩
      rw [en, flat] at *
      have a2 := same_new (o := .lst (List.replicate (n - 1) .non)) hp1
      have a3 := same_new (o := .tup [.bl true, .int 1]) hp2
      have a4 := same_new (o := .lst [.ref p2]) hp3
      refine .inl ⟨_, a4 _ _ (a3 _ _ upd_same), [.ref p2], upd_same, by rw [List.length_replicate]; show n - 1 + 1 ≤ _; omega, fun p4 hp4 p5 hp5 => ?_⟩
      have a5 := same_new (o := .lst (List.replicate (n - 1) .non ++ [.ref p2])) hp4
      have a6 := same_new (o := .tup [.ref F, .ref p4]) hp5
      have sA := ((((a1.trans a2).trans a3).trans a4).trans a5).trans a6
      refine q p5 _ F p4 n m _ (s1.trans sA) upd_same ⟨acc, sA _ _ hF1, by rw [al, chain_len], fun k r hr => ?_⟩ n1 n2 m1 m3 (a6 _ _ upd_same) ?_
      · have hk : k < n := by have := (List.getElem?_eq_some_iff.mp hr).1; rwa [chain_len] at this
        obtain ⟨q', e, _, _, h4⟩ := hr' k _ (List.getElem?_eq_getElem (by omega))
        refine ⟨_, List.getElem?_eq_getElem (by omega), q', e, ?_⟩
        have er : r = min (k + 1) (n - 1) :: List.replicate (m - 1) 0 := by
          unfold chainT at hr
          rw [List.getElem?_map, List.getElem?_range hk] at hr
          exact (Option.some.inj hr).symm
        rw [er]
        exact sA _ _ h4
      · have nn : ∀ t : Nat, DpAll K (upd (upd (upd (upd (upd (upd H1 p (.lst [.non])) p1 (.lst (List.replicate (n - 1) .non))) p2 (.tup [.bl true, .int 1])) p3 (.lst [.ref p2])) p4 (.lst (List.replicate (n - 1) .non ++ [.ref p2]))) p5 (.tup [.ref F, .ref p4])) (List.replicate t V.non) (List.replicate t PyData.none) := by
          intro t
          induction t with
          | zero => exact .nil
          | succ t ih => exact .cons .non ih
        exact dpAll_snoc (nn _) (.tup (.inl (.inl ((a4.trans (a5.trans a6)) _ _ upd_same))) (.cons (.bl _) (.cons (.int _) .nil)))
def tabD (Z : Tab) : PyData := .list (Z.map fun r => .list (r.map fun (x : Nat) => .int (x : Int)))
theorem tab_dp {Z : Tab} {a : Addr} {H : Hp} (h : TabV Z a H) : Dp K H (.ref a) (tabD Z) := by
  obtain ⟨us, h1, h2⟩ := h
  refine .lst (.inl (.inl h1)) (each_dp (h2.imp fun r v ⟨p, e, h⟩ => ?_))
  rw [e]
  exact .lst (.inl (.inl h)) (dp_ints r)
theorem tab_dok {Z : Tab} : DOk 2 (tabD Z) := dok_lst fun d hd => by
  obtain ⟨r, _, rfl⟩ := List.mem_map.mp hd
  exact dok_lst fun e he => by
    obtain ⟨x, _, rfl⟩ := List.mem_map.mp he
    exact dok_int
theorem both_dok {Z : Tab} {ds : List PyData} (h : AnsOk ds) : DOk 22 (.tuple [tabD Z, .list ds]) := dok_tup (all_cons (tab_dok.up (by decide)) (all_cons (dok_lst fun d hd => h.ok d hd) all_nil))
theorem ds_eq {ds es : List PyData} (hl : ds.length = es.length) (h : ∀ i, i < ds.length → ansAt ds i = ansAt es i) : ds = es := by
  refine List.ext_getElem? fun i => ?_
  by_cases hi : i < ds.length
  · have := h i hi
    unfold ansAt at this
    rw [List.getD_eq_getElem?_getD, List.getD_eq_getElem?_getD, List.getElem?_eq_getElem hi, List.getElem?_eq_getElem (by omega)] at this
    rw [List.getElem?_eq_getElem hi, List.getElem?_eq_getElem (by omega)]
    exact congrArg some this
  · rw [List.getElem?_eq_none (by omega), List.getElem?_eq_none (by omega)]
def chainD (n : Nat) : List PyData := List.replicate (n - 1) .none ++ [.tuple [.bool true, .int 1]]
theorem chainD_len {n : Nat} (h : 1 ≤ n) : (chainD n).length = n := by
  unfold chainD
  rw [List.length_append, List.length_replicate]
  show n - 1 + 1 = n
  omega
theorem chainD_at {n : Nat} : ansAt (chainD n) = chainA n .none (.tuple [.bool true, .int 1]) := by
  funext i
  unfold ansAt chainA chainD
  rw [List.getD_eq_getElem?_getD]
  by_cases e : i = n - 1
  · rw [if_pos e, List.getElem?_append_right (by rw [List.length_replicate]; omega), List.length_replicate, e, Nat.sub_self]
    rfl
  · rw [if_neg e]
    by_cases l : i < n - 1
    · rw [List.getElem?_append_left (by rw [List.length_replicate]; exact l), List.getElem?_replicate_of_lt l]
      rfl
    · rw [List.getElem?_eq_none (by rw [List.length_append, List.length_replicate]; show n - 1 + 1 ≤ i; omega)]
      rfl
theorem chainD_ok {n : Nat} : AnsOk (chainD n) := by
  have h : ∀ d ∈ chainD n, d = .none ∨ d = .tuple [.bool true, .int 1] := fun d hd => by
    rcases List.mem_append.mp hd with hd | hd
    · exact .inl (List.mem_replicate.mp hd).2
    · exact .inr (List.mem_singleton.mp hd)
  have ok2 : DOk 20 (.tuple [.bool true, .int 1]) := (dok_tup (n := 1) (all_cons dok_bl (all_cons dok_int all_nil))).up (by decide)
  refine ⟨fun d hd => ?_, fun d hd e he => ?_⟩
  · rcases h d hd with rfl | rfl
    · exact dok_non
    · exact ok2
  · rcases h d hd with rfl | rfl <;> rcases h e he with rfl | rfl
    · exact ⟨fun _ => rfl, fun _ => by decide +kernel⟩
    · exact ⟨fun z => absurd z (by decide +kernel), fun z => nomatch z⟩
    · exact ⟨fun z => absurd z (by decide +kernel), fun z => nomatch z⟩
    · exact ⟨fun _ => rfl, fun _ => ok2.eqv⟩
theorem both_dp {Z : Tab} {t a b : Addr} {us : List V} {ds : List PyData} {H : Hp} (ht : H t = some (.tup [.ref a, .ref b])) (tv : TabV Z a H) (hb : H b = some (.lst us)) (hd : DpAll K H us ds) : Dp K H (.ref t) (.tuple [tabD Z, .list ds]) :=
  .tup (.inl (.inl ht)) (.cons (tab_dp tv) (.cons (.lst (.inl (.inl hb)) hd) .nil))
/-- a table copied, row by row -/
theorem copy_tab {σ : L2.St} {i : Nat} {vs : List Nat} {Z : Tab} {aT : Addr} {H : Hp} {Q : VK} (e : σ[i]? = some (some (.ref aT))) (hw : ∀ x, wipe ((wipe σ vs).set 9 (some x)) vs = wipe σ vs) (hl : 9 < (wipe σ vs).length) (hi : i ≠ 9) (hv : vs = [9]) (tv : TabV Z aT H) (hz : Z.length ≤ 600) (hm : ∀ r ∈ Z, r.length ≤ 600)
    (done : ∀ (p : Addr) (acc : List V) (H' : Hp), H p = none → Same H H' → H' p = some (.lst acc) → Each (fun r v H' => ∃ q, v = .ref q ∧ q ≠ p ∧ H q = none ∧ H' q = some (.lst (intsV r))) Z acc H' → Q (.ref p) H') : tLc (iMid (iU K (tVar i))) (gName 9) tYes (tMid (tCB (rListU K) (tCons (tVar 9) tNil))) vs σ H Q := by
  obtain ⟨us, h1, h2⟩ := tv
  subst hv
  refine lc_own2 (J0 := Itl K aT) (H0 := H) ?_ (walk_list (K := K) (a := aT) (xs := us)) (by rw [h2.1]; omega) (fun k => intsV (trow Z k)) (fun H' s => same_l s (.inl (.inl h1))) (fun _ _ _ _ y => y.1 ▸ Same.refl _) hw ?_ ?_
  · refine ⟨_, e, ?_⟩
    exact .inl ⟨⟨_, .inl (.inl h1)⟩, rfl, rfl⟩
  · rintro k x H' H'' hk sm ⟨rfl, hx⟩
    have hkz : k < Z.length := by rw [← h2.1]; exact hk
    have hr : Z[k]? = some (trow Z k) := by unfold trow; rw [List.getD_eq_getElem?_getD, List.getElem?_eq_getElem hkz]; rfl
    obtain ⟨v, hv, q, rfl, hq⟩ := h2.2 k _ hr
    rw [hv] at hx
    cases hx
    have e9 : ((wipe σ [9]).set 9 (some (V.ref q)))[9]? = some (some (V.ref q)) := List.getElem?_set_self hl
    walk_at "rd"
    refine ⟨_, e9, _, .inl (.inl (.inl (sm _ _ hq))), fun p1 hp1 => ⟨same_new hp1, hp1, upd_same⟩⟩
  · intro p acc H' hp sm hp' al _ hq
    refine done p acc H' hp sm hp' ⟨by rw [al, h2.1], fun k r hr => ?_⟩
    have hk : k < Z.length := (List.getElem?_eq_some_iff.mp hr).1
    obtain ⟨q, e1, n1, n2, h4⟩ := hq k _ (List.getElem?_eq_getElem (by rw [al, h2.1]; exact hk))
    have er : trow Z k = r := by unfold trow; rw [List.getD_eq_getElem?_getD, hr]; rfl
    exact ⟨_, List.getElem?_eq_getElem (by rw [al, h2.1]; exact hk), q, e1, n1, n2, by rw [← er]; exact h4⟩
theorem bd_law (T : Txt K mg) : BodyQ P w K mg base 2 (fA K "law") "law" (defBody TX.s_law) (defScope TX.s_law) N_law (spLaw K) := by
    rintro cdv A outer s H vs Q E hr ⟨a, ns, rfl, hs, hn, q⟩
    refine ⟨_, (pss_cons (ps_mid (ps_if (pt_mid (pt_cmpR (o_eq (K := K) (hu64 hr)) (pe_op op_mod (pe_cal (ok__law_cell T) (hr.mono (by decide)) rfl T.g__law_cell (pasE (takes_of rfl rfl rfl rfl) (fun _ _ _ _ h => h)) (pa_cons (pv 0) (pa_cons pe_int pa_nil))) pe_int) pe_int (nomark _))) (pss_cons (ps_set (i := 1) sc_law.nd rfl (Or.inl rfl) (pe_mid (pe_cal (ok__law_chain T) (hr.mono (by decide)) rfl T.g__law_chain (pasE (takes_of rfl rfl rfl rfl) (fun _ _ _ _ h => h)) (pa_cons (pe_cal (ok__law_cell T) (hr.mono (by decide)) rfl T.g__law_cell (pasE (takes_of rfl rfl rfl rfl) (fun _ _ _ _ h => h)) (pa_cons (pv 0) (pa_cons pe_int pa_nil))) pa_nil))))
  (pss_one (ps_if (pt_mid (pt_cmpR (o_ne (K := K) (hu64 hr)) (pe_mid (pe_cal (ok_least T) (hr.mono (by decide)) rfl T.g_least (pasE (takes_of rfl rfl rfl rfl) (fun _ _ _ _ h => h)) (pa_cons (pe_ix (o_ix (K := K)) (pv 1) pe_int (fun _ _ => rfl)) (pa_cons (pe_ix (o_ix (K := K)) (pv 1) pe_int (fun _ _ => rfl)) pa_nil)))) (pv 1) (nomark _))) (pss_one (ps_ret pe_bl)) pss_nil))) pss_nil))
  (pss_cons (ps_asg (pe_mid (pe_cal (ok__law_table T) (hr.mono (by decide)) rfl T.g__law_table (pasE (takes_of rfl rfl rfl rfl) (fun _ _ _ _ h => h)) (pa_cons (pv 0) pa_nil))) (pg_tup rfl (pgs_cons (pg_name (i := 2) sc_law.nd rfl (Or.inr rfl)) (pgs_cons (pg_name (i := 3) sc_law.nd rfl (Or.inl rfl)) pgs_nil))))
  (pss_cons (ps_set (i := 4) sc_law.nd rfl (Or.inl rfl) (pe_mid (pe_tup (pa_cons (pe_lc (own := [("_law_row", 9)]) (g := (gName 9)) (tt := tYes) rfl sc_law.nd (pi_mid (o_it (K := K) rfl (pv 2))) (blkOk_by (N := N_law) (sc := defScope TX.s_law) (by decide +kernel)) (fun _ _ _ _ _ => (pg_name (i := 9) sc_law.nd rfl (Or.inl rfl))) (fun _ _ _ _ _ => pts_nil) (fun _ _ _ _ _ => (pe_mid (pe_callTy (o_list (K := K) rfl) (by rfl) T.fr_list (by decide +kernel) (pa_cons (pv 9) pa_nil))))) (pa_cons (pe_callTy (o_list (K := K) rfl) (by rfl) T.fr_list (by decide +kernel) (pa_cons (pv 3) pa_nil)) pa_nil)))))
  (pss_cons (ps_set (i := 5) sc_law.nd rfl (Or.inl rfl) (pe_mid (pe_mid (pe_cal (ok_least T) (hr.mono (by decide)) rfl T.g_least (pasE (takes_of rfl rfl rfl rfl) (fun _ _ _ _ h => h)) (pa_cons (pv 2) (pa_cons (pv 3) pa_nil))))))
  (pss_cons (ps_if (pt_mid (PW.pt (pw_or (pt_not (pt_tru (K := K) (pe_callB (o_isi (K := K)) (by rfl) T.fr_isinstance (by decide +kernel) (pa_cons (pv 5) (pa_cons (pe_bltn (v := .ty "tuple") rfl T.fr_tuple (by decide +kernel) rfl) pa_nil))) (by intro _; rfl))) (pw_or (pt_cmpR (o_ne (K := K) (hu64 hr)) (pe_callB (o_lenW (K := K) (w := w)) (by rfl) T.fr_len boot_len (pa_cons (pv 5) pa_nil)) pe_int (nomark _)) (pw_or1 (pt_cmpR (o_ne (K := K) (hu64 hr)) (pe_mid (pe_tup (pa_cons (pv 2) (pa_cons (pv 3) pa_nil)))) (pv 4) (nomark _))))))) (pss_one (ps_ret pe_bl)) pss_nil)
  (pss_cons (ps_asg (pe_mid (pv 5)) (pg_tup rfl (pgs_cons (pg_name (i := 6) sc_law.nd rfl (Or.inl rfl)) (pgs_cons (pg_name (i := 7) sc_law.nd rfl (Or.inl rfl)) pgs_nil))))
  (pss_cons (ps_if (pt_mid (PW.pt (pw_or (pt_not (pt_tru (K := K) (pe_callB (o_isi (K := K)) (by rfl) T.fr_isinstance (by decide +kernel) (pa_cons (pv 6) (pa_cons (pe_bltn (v := .ty "list") rfl T.fr_list (by decide +kernel) rfl) pa_nil))) (by intro _; rfl))) (pw_or (pt_not (pt_tru (K := K) (pe_callB (o_isi (K := K)) (by rfl) T.fr_isinstance (by decide +kernel) (pa_cons (pv 7) (pa_cons (pe_bltn (v := .ty "list") rfl T.fr_list (by decide +kernel) rfl) pa_nil))) (by intro _; rfl))) (pw_or1 (pt_cmpR (o_ne (K := K) (hu64 hr)) (pe_callB (o_lenW (K := K) (w := w)) (by rfl) T.fr_len boot_len (pa_cons (pv 6) pa_nil)) (pe_callB (o_lenW (K := K) (w := w)) (by rfl) T.fr_len boot_len (pa_cons (pv 7) pa_nil)) (nomark _))))))) (pss_one (ps_ret pe_bl)) pss_nil)
  (pss_cons (ps_if (pt_mid (pt_cmpR (o_ne (K := K) (hu64 hr)) (pe_lc (own := [("_law_row", 9)]) (g := (gName 9)) rfl sc_law.nd (pi_mid (o_it (K := K) rfl (pv 6))) (blkOk_by (N := N_law) (sc := defScope TX.s_law) (by decide +kernel)) (fun _ _ _ _ _ => (pg_name (i := 9) sc_law.nd rfl (Or.inl rfl))) (fun _ _ _ _ _ => (pts_one (pt_mid (PW.pt (pw_or (pt_not (pt_tru (K := K) (pe_callB (o_isi (K := K)) (by rfl) T.fr_isinstance (by decide +kernel) (pa_cons (pv 9) (pa_cons (pe_bltn (v := .ty "list") rfl T.fr_list (by decide +kernel) rfl) pa_nil))) (by intro _; rfl))) (pw_or1 (pt_cmpR (o_ne (K := K) (hu64 hr)) (pe_callB (o_lenW (K := K) (w := w)) (by rfl) T.fr_len boot_len (pa_cons (pv 9) pa_nil)) (pe_callB (o_lenW (K := K) (w := w)) (by rfl) T.fr_len boot_len (pa_cons (pe_ix (o_ix (K := K)) (pv 2) pe_int (fun _ _ => rfl)) pa_nil)) (nomark _)))))))) (fun _ _ _ _ _ => (pe_mid (pv 9)))) (pe_lst pa_nil) (nomark _))) (pss_one (ps_ret pe_bl)) pss_nil)
  (pss_cons (ps_if (pt_mid (PW.pt (pw_or (pt_not (pt_tru (K := K) (pe_cal (ok__law_side_by_side T) (hr.mono (by decide)) rfl T.g__law_side_by_side (pasE (takes_of rfl rfl rfl rfl) (fun _ _ _ _ h => h)) (pa_cons (pv 2) (pa_cons (pv 3) (pa_cons (pv 6) (pa_cons (pv 7) pa_nil))))) (by intro _; rfl))) (pw_or1 (pt_not (pt_tru (K := K) (pe_cal (ok__law_unlike T) (hr.mono (by decide)) rfl T.g__law_unlike (pasE (takes_of rfl rfl rfl rfl) (fun _ _ _ _ h => h)) (pa_cons (pv 6) (pa_cons (pv 7) pa_nil))) (by intro _; rfl))))))) (pss_one (ps_ret pe_bl)) pss_nil)
  (pss_cons (ps_if (pt_mid (pt_cmpR (o_ne (K := K) (hu64 hr)) (pe_cal (ok__law_met T) (hr.mono (by decide)) rfl T.g__law_met (pasE (takes_of rfl rfl rfl rfl) (fun _ _ _ _ h => h)) (pa_cons (pv 6) pa_nil)) (pe_mid (pe_listRg rfl (by rfl) T.fr_list (prg_1 rfl T.fr_range (pe_callB (o_lenW (K := K) (w := w)) (by rfl) T.fr_len boot_len (pa_cons (pv 6) pa_nil))))) (nomark _))) (pss_one (ps_ret pe_bl)) pss_nil)
  (pss_cons (ps_set (i := 8) sc_law.nd rfl (Or.inl rfl) (pe_mid (pe_tup (pa_cons (pe_lc (own := [("_law_row", 9)]) (g := (gName 9)) (tt := tYes) rfl sc_law.nd (pi_mid (o_it (K := K) rfl (pv 6))) (blkOk_by (N := N_law) (sc := defScope TX.s_law) (by decide +kernel)) (fun _ _ _ _ _ => (pg_name (i := 9) sc_law.nd rfl (Or.inl rfl))) (fun _ _ _ _ _ => pts_nil) (fun _ _ _ _ _ => (pe_mid (pe_callTy (o_list (K := K) rfl) (by rfl) T.fr_list (by decide +kernel) (pa_cons (pv 9) pa_nil))))) (pa_cons (pe_callTy (o_list (K := K) rfl) (by rfl) T.fr_list (by decide +kernel) (pa_cons (pv 7) pa_nil)) pa_nil)))))
  (pss_cons (ps_expr (pe_bmK (K := K) PySem.F.plainAttrs_list PySem.F.slot_list_append PySem.F.type_list_append mt_append (pe_ix (o_ix (K := K)) (pv 6) pe_int (fun _ _ => rfl)) (pa_cons (pe_mid pe_int) pa_nil)))
  (pss_cons (ps_expr (pe_bmK (K := K) PySem.F.plainAttrs_list PySem.F.slot_list_append PySem.F.type_list_append mt_append (pv 6) (pa_cons (pe_mid (pe_lst pa_nil)) pa_nil)))
  (pss_one (ps_ret (pe_andK (K := K) (pe_cmpR (o_eq (K := K) (hu64 hr)) (pe_mid (pe_cal (ok_least T) (hr.mono (by decide)) rfl T.g_least (pasE (takes_of rfl rfl rfl rfl) (fun _ _ _ _ h => h)) (pa_cons (pv 2) (pa_cons (pv 3) pa_nil)))) (pv 8) (nomark _)) (pe_one (pe_cmpR (o_eq (K := K) (hu64 hr)) (pe_mid (pe_tup (pa_cons (pv 2) (pa_cons (pv 3) pa_nil)))) (pv 4) (nomark _))))))))))))))))))), ?_⟩
    have tobj := T.obj
    refine q_stm (fun σ H' => Same H H' ∧ ∃ x1, σ = [some (.ref a), x1, none, none, none, none, none, none, none, none]) ?_ ?_
    · refine l_if (fun _ H' => H' = H) ?_ (fun H1 h => ?_) fun H1 h => ?_
      · walk_at "rd"
        exact ⟨a, 50, ns, rfl, hs, hn, by decide, by decide, fun c => ⟨⟨c, rfl⟩, rfl⟩⟩
      · subst h
        refine q_midG (fun v H' => ∃ p a b n m us, v = .ref p ∧ Same H1 H' ∧ H' p = some (.tup [.ref a, .ref b]) ∧ TabV (chainT n m) a H' ∧ 20 ≤ n ∧ n ≤ 100 ∧ 1 ≤ m ∧ m ≤ 3 ∧ H' b = some (.lst us) ∧ DpAll K H' us (chainD n)) ?_ ?_
        · walk_at "rd"
          exact ⟨a, 51, ns, rfl, hs, hn, by decide, by decide, fun c => ⟨c, rfl, fun p H' a b n m us sm hp tv n1 n2 m1 m2 hb hd => ⟨p, rfl, sm, a, b, hp, n, m, tv, n1, n2, m1, m2, us, hb, hd⟩⟩⟩
        rintro _ H2 ⟨p, aC, bC, n, m, us, rfl, s2, hp, tv, n1, n2, m1, m2, hb, hds⟩
        refine l_if (fun b H' => Same H2 H' ∧ b = false) ?_ (fun _ h => nomatch h.2) fun H3 h => ?_
        · refine mid_of (fun v H' => ∃ t, v = .ref t ∧ Same H2 H' ∧ Dp K H' (.ref t) (.tuple [tabD (chainT n m), .list (chainD n)])) ?_ ?_
          · walk_at "rd"
            refine ⟨_, .inr (.inl (.inl hp)), _, rfl, _, .inr (.inl (.inl hp)), _, rfl, aC, bC, chainT n m, m, us, chainD n, rfl, tv, chain_ok (by omega) m1, by omega, by rw [chain_len]; omega, .inl (.inl hb), hds, chainD_ok, by rw [chain_len, chainD_len (by omega)]; exact Nat.le_refl _, fun p' H' F G fus us' Z' ds' f sm hp' hFn hGn hF rows hG hds' ls dl' zle sub => ⟨p', rfl, sm, ?_⟩⟩
            have ls0 : LeastSp (ansAt (chainD n)) (chainT n m) m (ansAt (chainD n)) (chainT n m) id := by
              rw [chainD_at]
              exact chain_least (by omega) m1 (fun z => nomatch z)
            obtain ⟨e1, e2⟩ := ls.uniq ls0
            subst e1
            have e3 : ds' = chainD n := ds_eq (by rw [dl', chain_len, chainD_len (by omega)]) fun i hi => e2 i (by rw [← dl']; exact hi)
            subst e3
            exact both_dp hp' ⟨fus, hF, rows.imp fun r v ⟨q', e, _, h4⟩ => ⟨q', e, h4⟩⟩ hG (dpAll_mono sm _ _ hds')
          · rintro _ H3 ⟨t, rfl, s3, d3⟩
            walk_at "rd"
            refine ne_dat (both_dok chainD_ok) (by decide) d3 (dp_mono s3 _ _ (both_dp hp tv hb hds)) ?_
            exact ⟨_, rfl, s3, rfl⟩
        · exact ⟨s2.trans h.1, _, rfl⟩
      · exact ⟨by rw [h]; exact Same.refl _, _, rfl⟩
    rintro σ H1 ⟨s1, x1, rfl⟩
    refine q_tup2 (fun x y H' => ∃ aT aA Z m us ds, x = .ref aT ∧ y = .ref aA ∧ Same H1 H' ∧ TabV Z aT H' ∧ TabOk Z m ∧ 1 ≤ m ∧ m ≤ 4 ∧ Z.length ≤ 12 ∧ H' aA = some (.lst us) ∧ DpAll K H' us ds ∧ AnsOk ds ∧ ds.length = Z.length) ?_ ?_
    · walk_at "rd"
      exact ⟨a, ns, rfl, same_l s1 hs, hn, fun p H' aT aA Z m us ds sm hp _ _ tv ok m1 m4 zl hA hds ao dl => ⟨p, rfl, _, _, .inl (.inl hp), aT, rfl, aA, rfl, sm, Z, tv, m, ok, m1, m4, zl, us, hA, ds, hds, ao, dl⟩⟩
    rintro _ _ H2 ⟨aT, aA, Z, m, us, ds, rfl, rfl, s2, tv, ok, m1, m4, zl, hA, hds, ao, dl⟩
    refine q_midG (fun v H' => ∃ k kT kA, v = .ref k ∧ Same H2 H' ∧ H' k = some (.tup [.ref kT, .ref kA]) ∧ TabV Z kT H' ∧ H' kA = some (.lst us)) ?_ ?_
    · walk_at "rd"
      refine copy_tab rfl (fun _ => rfl) (by show 9 < 10; decide) (by decide) rfl tv (by omega) (fun r hr => by rw [ok.wid r hr]; omega) fun F acc H' hF sF hF' rows => ?_
      have hA' := sF _ _ hA
      refine ⟨us, .inl (.inl (.inl hA')), fun l hl' p hp => ?_⟩
      have a1 := same_new (o := .lst us) hl'
      have a2 := same_new (o := .tup [.ref F, .ref l]) hp
      exact ⟨(sF.trans a1).trans a2, F, l, upd_same, ⟨acc, a2 _ _ (a1 _ _ hF'), rows.imp fun r v ⟨q', e, _, _, h4⟩ => ⟨q', e, a2 _ _ (a1 _ _ h4)⟩⟩, a2 _ _ upd_same⟩
    rintro _ H3 ⟨kk, kT, kA, rfl, s3, hk, ktv, hkA⟩
    refine q_midG (fun v H' => ∃ p, v = .ref p ∧ Same H3 H' ∧ ∃ F G fus us' Z' ds' f, H' p = some (.tup [.ref F, .ref G]) ∧ H3 F = none ∧ H3 G = none ∧ H' F = some (.lst fus) ∧ Each (fun r v H' => ∃ q, v = .ref q ∧ H3 q = none ∧ H' q = some (.lst (intsV r))) Z' fus H' ∧ H' G = some (.lst us') ∧ DpAll K H3 us' ds' ∧ LeastSp (ansAt ds) Z m (ansAt ds') Z' f ∧ ds'.length = Z'.length ∧ Z'.length ≤ Z.length ∧ ∀ d ∈ ds', d ∈ ds) ?_ ?_
    · refine mid_of (fun v H' => ∃ p, v = .ref p ∧ Same H3 H' ∧ ∃ F G fus us' Z' ds' f, H' p = some (.tup [.ref F, .ref G]) ∧ H3 F = none ∧ H3 G = none ∧ H' F = some (.lst fus) ∧ Each (fun r v H' => ∃ q, v = .ref q ∧ H3 q = none ∧ H' q = some (.lst (intsV r))) Z' fus H' ∧ H' G = some (.lst us') ∧ DpAll K H3 us' ds' ∧ LeastSp (ansAt ds) Z m (ansAt ds') Z' f ∧ ds'.length = Z'.length ∧ Z'.length ≤ Z.length ∧ ∀ d ∈ ds', d ∈ ds) ?_ fun _ _ h => h
      walk_at "rd"
      exact ⟨aT, aA, Z, m, us, ds, rfl, tv.mono s3, ok, by omega, by omega, .inl (.inl (s3 _ _ hA)), dpAll_mono s3 _ _ hds, ao, by omega, fun p H' F G fus us' Z' ds' f sm hp hFn hGn hF rows hG hds' ls dl' zle sub => ⟨p, rfl, sm, F, G, hp, hFn, hGn, fus, hF, us', Z', rows, hG, ds', hds', ⟨f, ls⟩, dl', zle, sub⟩⟩
    rintro _ H4 ⟨p, rfl, s4, F, G, fus, us', Z', ds', f, hp, hFn, hGn, hF, rows, hG, hds', ls, dl', zle, sub⟩
    have hk4 := s4 _ _ hk
    refine q_if (fun b H' => Same H4 H' ∧ b = false) ?_ (fun _ h => nomatch h.2) fun H5 h => q_next ?_
    · walk_at "rd"
      refine ⟨"tuple", .base (.tup hp), true, by decide +kernel, ?_⟩
      rw [if_neg (by decide)]
      refine .inr ⟨2, .inr ⟨_, .inl (.inl hp), rfl⟩, ?_⟩
      rw [if_neg (by decide)]
      refine mid_of (fun v H' => ∃ t, v = .ref t ∧ Same H4 H' ∧ H' t = some (.tup [.ref aT, .ref aA])) ?_ ?_
      · walk_at "rd"
        exact fun t ht => ⟨same_new ht, upd_same⟩
      · rintro _ H5 ⟨t, rfl, s5, ht⟩
        have s25 := (s3.trans s4).trans s5
        refine ne_dat (both_dok ao) (by decide) (both_dp ht (tv.mono s25) (s25 _ _ hA) (dpAll_mono s25 _ _ hds)) (both_dp (s5 _ _ hk4) (ktv.mono (s4.trans s5)) (s5 _ _ (s4 _ _ hkA)) (dpAll_mono s25 _ _ hds)) ?_
        exact ⟨_, rfl, s5, rfl⟩
    obtain ⟨s5, _⟩ := h
    refine q_tup2 (fun x y H' => x = .ref F ∧ y = .ref G ∧ H' = H5) ?_ ?_
    · walk_at "rd"
      exact ⟨_, _, .inl (.inl (s5 _ _ hp)), rfl, rfl⟩
    rintro _ _ H6 ⟨rfl, rfl, rfl⟩
    have hF5 := s5 _ _ hF
    have hG5 := s5 _ _ hG
    have rows5 : Each (fun r v H' => ∃ q, v = .ref q ∧ H3 q = none ∧ H' q = some (.lst (intsV r))) Z' fus H6 := rows.imp fun r v ⟨q', e, h1, h4⟩ => ⟨q', e, h1, s5 _ _ h4⟩
    have tv5 : TabV Z' F H6 := ⟨fus, hF5, rows5.imp fun r v ⟨q', e, _, h4⟩ => ⟨q', e, h4⟩⟩
    have ok' : TabOk Z' m := ⟨ls.pos, ls.wid, fun r hr o ho => by
      obtain ⟨i, hi⟩ := List.mem_iff_getElem?.mp hr
      have hil := (List.getElem?_eq_some_iff.mp hi).1
      refine ls.rowLt i hil o ?_
      unfold trow
      rw [List.getD_eq_getElem?_getD, hi]
      exact ho⟩
    have s35 := s4.trans s5
    have ao' : AnsOk ds' := ⟨fun d hd => ao.ok d (sub d hd), fun d hd e he => ao.eq d (sub d hd) e (sub e he)⟩
    have hds5 : DpAll K H6 us' ds' := dpAll_mono s35 _ _ hds'
    have ul : us'.length = Z'.length := by rw [dpAll_len hds', dl']
    have tv6 := (tv.mono s3).mono s35
    have hA6 := s35 _ _ (s3 _ _ hA)
    have hds6 := dpAll_mono s35 _ _ (dpAll_mono s3 _ _ hds)
    refine q_if (fun b H' => H' = H6 ∧ b = false) ?_ (fun _ h => nomatch h.2) fun H7 h => q_next ?_
    · walk_at "rd"
      refine ⟨"list", .base (.lst hF5), true, by decide +kernel, ?_⟩
      rw [if_neg (by decide)]
      refine ⟨"list", .base (.lst hG5), true, by decide +kernel, ?_⟩
      rw [if_neg (by decide)]
      refine .inr ⟨_, len_l hF5, .inr ⟨_, len_l hG5, ?_⟩⟩
      rw [rows5.1, ul]
      simp
    obtain ⟨rfl, _⟩ := h
    refine q_if (fun b H' => Same H7 H' ∧ b = false) ?_ (fun _ h => nomatch h.2) fun H8 h => q_next ?_
    · walk_at "rd"
      have hk0 := tv6
      obtain ⟨us2, pr, hus2, hup, hpr⟩ := tv6.at_ ok.pos
      have rl0 := ok.rowLen ok.pos
      refine lc_midT (J0 := Itl K F) (H0 := H7) ?_ (walk_list (K := K) (a := F) (xs := fus)) (by rw [rows5.1]; omega) (fun k acc _ => acc = []) (fun _ _ _ _ _ e => e) rfl (fun H' s => .inl (.inl (s _ _ hF5))) (fun _ _ _ _ y => y_at y) (fun _ => rfl) ?_ ?_
      · walk_at "rd"
        exact .inl ⟨_, .inl (.inl hF5)⟩
      · rintro k x acc H' H'' hk sm rfl ⟨rfl, hx⟩
        have hkz : k < Z'.length := by rw [← rows5.1]; exact hk
        have hrk : Z'[k]? = some (trow Z' k) := by unfold trow; rw [List.getD_eq_getElem?_getD, List.getElem?_eq_getElem hkz]; rfl
        obtain ⟨v, hv, q1, rfl, _, hq1⟩ := rows5.2 k _ hrk
        rw [hv] at hx
        cases hx
        have hq2 := sm _ _ hq1
        have rlk := ok'.rowLen hkz
        walk_at "rd"
        refine ⟨"list", .base (.lst hq2), true, by decide +kernel, ?_⟩
        rw [if_neg (by decide)]
        refine .inr ⟨_, len_l hq2, us2, .inl (.inl (.inl (sm _ _ hus2))), .ref pr, atI_nat hup, .inr ⟨_, len_l (sm _ _ hpr), ?_⟩⟩
        rw [ints_len, ints_len, rlk, rl0, if_neg (fun z => z rfl)]
        trivial
      · intro p1 acc H' hp1 sm hp1' _ e p2 hp2
        subst e
        have sp := same_new (o := .lst []) hp2
        exact ne_nil (.inl (.inl (sp _ _ hp1'))) (.inl (.inl upd_same)) ⟨_, rfl, sm.trans sp, rfl⟩
    obtain ⟨s8, _⟩ := h
    refine q_if (fun b H' => Same H8 H' ∧ b = false) ?_ (fun _ h => nomatch h.2) fun H9 h => q_next ?_
    · walk_at "rd"
      refine ⟨aT, aA, F, G, Z, m, us, ds, Z', us', ds', f, rfl, tv6.mono s8, ok, by omega, by omega, .inl (.inl (s8 _ _ hA6)), dpAll_mono s8 _ _ hds6, ao, dl, tv5.mono s8, .inl (.inl (s8 _ _ hG5)), dpAll_mono s8 _ _ hds5, ls, dl', sub, fun H10 s10 => ⟨true, rfl, ?_⟩⟩
      rw [if_neg (by decide)]
      have s810 := s8.trans s10
      exact ⟨F, G, Z', us', ds', m, rfl, tv5.mono s810, ok', by omega, by omega, .inl (.inl (s810 _ _ hG5)), dpAll_mono s810 _ _ hds5, ao', dl', ls.sep, fun H11 s11 => ⟨true, rfl, s10.trans s11, rfl⟩⟩
    obtain ⟨s9, _⟩ := h
    refine q_if (fun b H' => Same H9 H' ∧ b = false) ?_ (fun _ h => nomatch h.2) fun H10 h => q_next ?_
    · walk_at "rd"
      refine ⟨F, Z', m, rfl, (tv5.mono s8).mono s9, ok', by omega, by omega, ls.nor, fun p' H' sm hp0 hp' => ?_⟩
      refine mid_of (fun v H6 => ∃ t, v = .ref t ∧ Same H' H6 ∧ H6 t = some (.lst (intsV (List.range Z'.length)))) ?_ ?_
      · unfold tLstRg tRg1
        walk_at "rd"
        refine .inr ⟨_, len_l (sm _ _ (s9 _ _ (s8 _ _ hF5))), RgOk.of_le (by omega) (by rw [rows5.1]; omega) (by omega) (by omega), fun q1 hq1 => ⟨same_new hq1, ?_⟩⟩
        rw [upd_same, rows5.1]
        unfold rgV
        congr 2
        show _ = (List.range Z'.length).map fun (i : Nat) => V.int (i : Int)
        rw [show ((Z'.length : Int) - 0).toNat = Z'.length by omega]
        refine List.map_congr_left fun i _ => ?_
        rw [Int.zero_add]
      · rintro _ H6 ⟨t, rfl, s6, ht⟩
        refine ne_dat (d := .list ((List.range Z'.length).map fun (x : Nat) => .int (x : Int))) (n := 1) (dok_lst fun e he => ?_) (by decide) (.lst (.inl (.inl (s6 _ _ hp'))) (dp_ints _)) (.lst (.inl (.inl ht)) (dp_ints _)) ?_
        · obtain ⟨x, _, rfl⟩ := List.mem_map.mp he
          exact dok_int
        · exact ⟨_, rfl, sm.trans s6, rfl⟩
    obtain ⟨s10, _⟩ := h
    have s610 := (s8.trans s9).trans s10
    have hF9 := s610 _ _ hF5
    have hG9 := s610 _ _ hG5
    refine q_midG (fun v H' => ∃ k kT kA kus, v = .ref k ∧ Same H10 H' ∧ H' k = some (.tup [.ref kT, .ref kA]) ∧ H' kT = some (.lst kus) ∧ H10 k = none ∧ H10 kT = none ∧ H10 kA = none ∧ Each (fun r v H' => ∃ q, v = .ref q ∧ H10 q = none ∧ H' q = some (.lst (intsV r))) Z' kus H' ∧ H' kA = some (.lst us')) ?_ ?_
    · walk_at "rd"
      refine copy_tab rfl (fun _ => rfl) (by show 9 < 10; decide) (by decide) rfl (tv5.mono s610) (by omega) (fun r hr => by rw [ok'.wid r hr]; omega) fun N acc H' hN sN hN' rws => ?_
      refine ⟨us', .inl (.inl (.inl (sN _ _ hG9))), fun l hl' p hp => ?_⟩
      have a1 := same_new (o := .lst us') hl'
      have a2 := same_new (o := .tup [.ref N, .ref l]) hp
      exact ⟨(sN.trans a1).trans a2, N, l, upd_same, acc, a2 _ _ (a1 _ _ hN'), same_none (sN.trans a1) hp, hN, same_none sN hl', rws.imp fun r v ⟨q', e, _, h0, h4⟩ => ⟨q', e, h0, a2 _ _ (a1 _ _ h4)⟩, a2 _ _ upd_same⟩
    rintro _ H11 ⟨ag, agT, agA, kus, rfl, s11, hag, hagT, agn, agTn, agAn, agr, hagA⟩
    have hF11 := s11 _ _ hF9
    obtain ⟨v0, hv0, q0, rfl, q0n, hq0⟩ := rows5.2 0 (trow Z' 0) (by unfold trow; rw [List.getD_eq_getElem?_getD, List.getElem?_eq_getElem ls.pos]; rfl)
    have hq11 := s11 _ _ (s610 _ _ hq0)
    have hz0 : (intsV (trow Z' 0)).length ≤ 4 := by rw [ints_len, ok'.rowLen ls.pos]; exact m4
    have nqF : q0 ≠ F := fun z => by
      rw [z] at hq0
      rw [hF5] at hq0
      have e := HO.lst.inj (Option.some.inj hq0)
      rw [e, ints_at] at hv0
      obtain ⟨x, _, z⟩ := Option.map_eq_some_iff.mp hv0
      cases z
    walk_at "rd"
    refine ⟨fus, .inl (.inl (.inl hF11)), .ref q0, atI_nat hv0, ⟨_, .inl (.inl hq11)⟩, ?_⟩
    refine mid_of (fun v H' => v = .int 0 ∧ H' = H11) (by walk_at "rd") ?_
    rintro _ H12 ⟨rfl, rfl⟩
    refine ⟨q0, rfl, _, hq11, by omega, ?_⟩
    have hF12 : upd H12 q0 (.lst (intsV (trow Z' 0) ++ [.int 0])) F = some (.lst fus) := by rw [upd_ne (Ne.symm nqF)]; exact hF11
    have q010 : H10 q0 = some (.lst (intsV (trow Z' 0))) := s610 _ _ hq0
    have s3x : Same H3 (upd H12 q0 (.lst (intsV (trow Z' 0) ++ [.int 0]))) := same_mut ((s35.trans s610).trans s11) q0n
    have kp1 : ∀ (x : Addr) (o : HO), H10 x = none → H12 x = some o → upd H12 q0 (.lst (intsV (trow Z' 0) ++ [.int 0])) x = some o := fun x o hn0 ho => by
      rw [upd_ne fun z => by rw [z, q010] at hn0; cases hn0]
      exact ho
    generalize upd H12 q0 (.lst (intsV (trow Z' 0) ++ [.int 0])) = H13 at *
    refine ⟨⟨_, .inl (.inl hF12)⟩, ?_⟩
    refine mid_of (fun v H' => ∃ p2, v = .ref p2 ∧ Same H13 H' ∧ H13 p2 = none) ?_ ?_
    · walk_at "rd"
      exact fun p2 hp2 => ⟨same_new hp2, hp2⟩
    rintro _ H14 ⟨p2, rfl, s14, hp2⟩
    have hF14 := s14 _ _ hF12
    refine ⟨fus, hF14, by rw [rows5.1]; omega, ?_⟩
    have s3y : Same H3 (upd H14 F (.lst (fus ++ [.ref p2]))) := same_mut (s3x.trans s14) hFn
    have kp2 : ∀ (x : Addr) (o : HO), H10 x = none → H12 x = some o → upd H14 F (.lst (fus ++ [.ref p2])) x = some o := fun x o hn0 ho => by
      rw [upd_ne fun z => by rw [z, hF9] at hn0; cases hn0]
      exact s14 _ _ (kp1 x o hn0 ho)
    generalize upd H14 F (.lst (fus ++ [.ref p2])) = H15 at *
    refine mid_of (fun v H' => ∃ t, v = .ref t ∧ Same H15 H' ∧ Dp K H' (.ref t) (.tuple [tabD Z', .list ds'])) ?_ ?_
    · walk_at "rd"
      refine ⟨aT, aA, Z, m, us, ds, rfl, (tv.mono s3).mono s3y, ok, by omega, by omega, .inl (.inl (s3y _ _ (s3 _ _ hA))), dpAll_mono s3y _ _ (dpAll_mono s3 _ _ hds), ao, by omega, fun p3 H' F2 G2 fus2 us2 Z2 ds2 f2 sm hp3 _ _ hF2 rows2 hG2 hds2 ls2 dl2 _ _ => ⟨p3, rfl, sm, ?_⟩⟩
      obtain ⟨e1, e2⟩ := ls2.uniq ls
      subst e1
      have e3 : ds2 = ds' := ds_eq (by rw [dl2, dl']) fun i hi => e2 i (by rw [← dl2]; exact hi)
      subst e3
      exact both_dp hp3 ⟨fus2, hF2, rows2.imp fun r v ⟨q', e, _, h4⟩ => ⟨q', e, h4⟩⟩ hG2 (dpAll_mono sm _ _ hds2)
    rintro _ H16 ⟨t3, rfl, s16, d16⟩
    have dag : Dp K H15 (.ref ag) (.tuple [tabD Z', .list ds']) := both_dp (kp2 _ _ agn hag) ⟨kus, kp2 _ _ agTn hagT, agr.imp fun r v ⟨q', e, h0, h4⟩ => ⟨q', e, kp2 _ _ h0 h4⟩⟩ (kp2 _ _ agAn hagA) (dpAll_mono s3y _ _ hds')
    refine eq_dat (both_dok ao') (by decide) d16 (dp_mono s16 _ _ dag) ⟨true, rfl, ?_⟩
    rw [if_pos rfl]
    have s2z := (s3.trans s3y).trans s16
    have s3z := s3y.trans s16
    refine mid_of (fun v H' => ∃ t, v = .ref t ∧ Same H16 H' ∧ H' t = some (.tup [.ref aT, .ref aA])) ?_ ?_
    · walk_at "rd"
      exact fun t ht => ⟨same_new ht, upd_same⟩
    · rintro _ H17 ⟨t, rfl, s17, ht⟩
      have s25 := s2z.trans s17
      have s35' := s3z.trans s17
      exact eq_dat (both_dok ao) (by decide) (both_dp ht (tv.mono s25) (s25 _ _ hA) (dpAll_mono s25 _ _ hds)) (both_dp (s35' _ _ hk) (ktv.mono s35') (s35' _ _ hkA) (dpAll_mono s25 _ _ hds)) (q _)

end
end SL
namespace SL
open PySem PySem.Spec PyProof.Rows L2
theorem txt_of {w : World} {K : PySem.W.Frag} {h : Heap} {mg : Str → Option Value} (X : K.In h) (G : h.Ns mainGlobals mg) (c : He.SaysX HD.fa HD.fn [] [] HD.ex w h K) : Txt K mg where
  F_reached := c.t.d.def_ 0 rfl
  F_by_answers := c.t.d.def_ 1 rfl
  F_parted := c.t.d.def_ 2 rfl
  F_least := c.t.d.def_ 3 rfl
  F__law_cell := c.t.d.def_ 4 rfl
  F__law_mixed := c.t.d.def_ 5 rfl
  F__law_table := c.t.d.def_ 6 rfl
  F__law_side_by_side := c.t.d.def_ 7 rfl
  F__law_unlike := c.t.d.def_ 8 rfl
  F__law_met := c.t.d.def_ 9 rfl
  F__law_chain := c.t.d.def_ 10 rfl
  F_law := c.t.d.def_ 11 rfl
  g_reached := He.glo_ok X G (c.t.d.fact 0 (f := .glo "reached") rfl)
  g_by_answers := He.glo_ok X G (c.t.d.fact 1 (f := .glo "by_answers") rfl)
  g_parted := He.glo_ok X G (c.t.d.fact 2 (f := .glo "parted") rfl)
  g_least := He.glo_ok X G (c.t.d.fact 3 (f := .glo "least") rfl)
  g__law_cell := He.glo_ok X G (c.t.d.fact 4 (f := .glo "_law_cell") rfl)
  g__law_mixed := He.glo_ok X G (c.t.d.fact 5 (f := .glo "_law_mixed") rfl)
  g__law_table := He.glo_ok X G (c.t.d.fact 6 (f := .glo "_law_table") rfl)
  g__law_side_by_side := He.glo_ok X G (c.t.d.fact 7 (f := .glo "_law_side_by_side") rfl)
  g__law_unlike := He.glo_ok X G (c.t.d.fact 8 (f := .glo "_law_unlike") rfl)
  g__law_met := He.glo_ok X G (c.t.d.fact 9 (f := .glo "_law_met") rfl)
  g__law_chain := He.glo_ok X G (c.t.d.fact 10 (f := .glo "_law_chain") rfl)
  g_law := He.glo_ok X G (c.t.d.fact 11 (f := .glo "law") rfl)
  fr_len := He.free_ok X G (c.t.d.fact 12 (f := .free "len") rfl)
  fr_range := He.free_ok X G (c.t.d.fact 13 (f := .free "range") rfl)
  fr_set := He.free_ok X G (c.t.d.fact 14 (f := .free "set") rfl)
  fr_list := He.free_ok X G (c.t.d.fact 15 (f := .free "list") rfl)
  fr_tuple := He.free_ok X G (c.t.d.fact 16 (f := .free "tuple") rfl)
  fr_isinstance := He.free_ok X G (c.t.d.fact 17 (f := .free "isinstance") rfl)
  fr_min := He.free_ok X G (c.t.d.fact 18 (f := .free "min") rfl)
end SL
open PySem PySem.W PySem.Calls PyProof.Rows
theorem PySem.Challenge.cw_shunlist_k51_least_holds : PySem.Challenge.rw_shunlist_k51_least.Holds := by
  w_on; o_law
  refine HandSHeadRun.head_any (r := (PySem.W.OpenLaw.row PySem.Challenge.rw_shunlist_k51_least)) (q := view (PySem.W.OpenLaw.row PySem.Challenge.rw_shunlist_k51_least).prog [13]) (H := HD.hk) (ob := HD.ob) (M := 4000) (loose := HD.loose) (d := HandSHeadRun.topDef (PySem.W.OpenLaw.row PySem.Challenge.rw_shunlist_k51_least).prog 13) (kwd := []) HD.ob_eq
    (by kernel_rfl) (fun s => by kernel_rfl) HD.run (by kernel_rfl) (by kernel_rfl) (by kernel_rfl) (by rfl) (by first | assumption | decide +kernel) (by decide +kernel) ⟨rfl, rfl, rfl, rfl, rfl, by decide +kernel⟩ ?hw ?hc
  case hw => w_witness2
  case hc =>
    refine LamX.walk_ofTsE (l := PySem.Challenge.rw_shunlist_k51_least) (n := 63) (k := 3) (x := "_law_script") (CX := fun w => L2.CX (PySem.Challenge.rw_shunlist_k51_least).prog w) rfl (by decide) (by kernel_rfl) ⟨rfl, by decide, by decide⟩ ?F (fun _ _ _ _ _ ⟨_, _, _, _, _, _, _, _, _, _, _, _, z⟩ => z)
    intro w mg fa h Y G hmg0
    obtain ⟨K, KX, c⟩ := Y
    have T := SL.txt_of KX G c
    have hmg : mg ("law" : PySem.Str) = some (.ref fa) := by
      have e : (HandSHeadRun.topDef (PySem.W.OpenLaw.row PySem.Challenge.rw_shunlist_k51_least).prog 13).name = ("law" : PySem.Str) := by kernel_rfl
      rw [← e]
      exact hmg0
    have e := hmg.symm.trans T.g_law
    cases e
    obtain ⟨fd, F⟩ := T.F_law
    have b := L2.FunD.bindsA (ps := ["_law_script"]) F fun _ _ _ _ _ _ us hl => match us, hl with | [_], _ => rfl
    exact ⟨K, KX, fd, [], SL.spLaw K, (fun _ h => nomatch h), (fun _ h => nomatch h), (fun _ h => nomatch h), fun s v => b s [v] rfl, fun H a ns hl hb _ hS => SL.law_sp hS hl hb, fun base _ _ _ => F.ok SL.sc_law (fun vs H Q E h => SL.law_len h) (SL.bd_law T)⟩
