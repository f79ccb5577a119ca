import PyProof.Rows.All
import Wide.All
import OpenK.AllK
import Wide.FinOn
import KE.KStateDown
import HandS.Base
import HandS.Call
import HandS.List
import HandS.Comp
import HandS.Dict
import HandS.Iter
import HandS.Text
import HandS.Ends
import HandS.More
import HandS.Words
import HandS.WordsExc
import HandS.Defaults
import HandS.MakeKw
import HandS.Exc
import HandS.ExcOwn
import HandS.TryOnly
import HandS.Deep
import HandS.TupAny
import HandS.Head0
import HandS.Head1
import HandS.Head2
import HandS.HeadHook1
import HandS.HeadHook2
import HandS.HeadHook3
import HandS.HeadHook4
import HandS.HeadWalk
import HandS.Flow
import HandS.Style
import HandS.Wide
import HandS.MakeKw
import HandS.Steps
import HandS.Strs
import HandS.IsInst
import HandS.Zip
import HandS.SetKeys
import HandS.Set
import HandS.WordsDict
import HandS.WordsList
import HandS.Walk
import HandS.Iter
import PyProof.Draws
import PyProof.EnumMake
import HandS.Conv
import HandS.RevRange
import HandS.SetFor
import HandS.Strs
import HandS.Zip
import HandS.SortInts
import HandS.Codes
import HandS.TupSets
import PyProof.Rows.SortShellAny
import KE.KxAffix
import HandS.DictComp
import HandS.Finally
import PySem.Challenge.RW_shunlist_k83_paths_of_trees
set_option Elab.async false
set_option linter.all false
set_option maxRecDepth 100000
set_option maxHeartbeats 4000000

/-! the layer of this proof: calls by promise, readings -/
namespace SL
open PySem PySem.Spec PyProof.Rows L2
/-- a def keeps the promise sp at level k; dvs: its last defaults, filled in -/
def OkD (P : Program) (w : World) (K : PySem.W.Frag) (mg : Str → Option Value) (base : Heap) (k : Nat) (f : Addr) (ps : List Str) (dvs : List V) (sp : Sp) : Prop :=
  ∃ (fd : FuncData) (ds : List Value), FnOk P w K mg base (L2.CX P w) k f fd ps sp ∧ Binds K fd ps ds ∧ Vals dvs ds ∧ PySem.W.keepIn K (.ref f) = true
section
variable {P : Program} {w : World} {K : PySem.W.Frag} {mg : Str → Option Value} {base : Heap} {f : Addr} {name qual : Str} {params : Arguments} {body : List Stmt} {scope : Scope} {dvs : List V} {N ps : List Str} {k : Nat} {sp : Sp}
/-- the body's question of a def -/
abbrev BodyQ (P : Program) (w : World) (K : PySem.W.Frag) (mg : Str → Option Value) (base : Heap) (k : Nat) (f : Addr) (qual : Str) (body : List Stmt) (scope : Scope) (N : List Str) (sp : Sp) : Prop :=
  ∀ (cdv : Value) (A : Around) (outer : List Env) (s : Shared) (H : Hp) (vs : List V) (Q : VK) (E : XK), Room k (A.deeper (envOfC qual scope s.heap.objs.size f cdv)) → sp vs H Q E →
      ∃ t, PSs (cxOf (L2.CX P w) P w K mg base N qual scope f cdv A outer s H E) body t ∧ t { nx := fun _ H' => Q .non H', rt := Q } (start N vs) H
theorem okD (F : ∃ fd, FunD K name qual params body scope [] [] f fd) (S : FnScope N ps scope)
    (hb : ∀ (kV doc pm : Value) (an : Option Addr) (cdv ct : Value) (us : List Value), us.length = ps.length → bindArgs (PySem.W.fnOf name qual params body scope .none kV doc pm an cdv ct) ⟨us, []⟩ = pure (ps.zip us))
    (len : ∀ vs H Q E, sp vs H Q E → vs.length = ps.length) (h : BodyQ P w K mg base k f qual body scope N sp) : OkD P w K mg base (k + 1) f ps [] sp := by
  obtain ⟨fd, F⟩ := F
  exact ⟨fd, [], F.ok S len h, F.bindsN hb, .nil, F.kp⟩
end
section
variable {X : Cx} {k : Nat} {f : Addr} {ps : List Str} {dvs : List V} {sp : Sp} {E : XK} {x : Str} {p pos : Pos} {e : Expr} {es : List Expr} {t : TA}
theorem pe_cal (o : OkD X.prog X.w X.K X.mg X.base k f ps dvs sp) (hr : Room k X.A) (hg : Gl X x) (hm : X.mg x = some (.ref f)) (hx : Passes (L2.CX X.prog X.w) X E)
    (ha : PA X (e :: es) t) (hdb : (x == ("__debug__" : Str)) = false := by decide) (he : starEach (e :: es) X.env = (false, eval e X.env) :: starEach es X.env := by rfl) (hpl : (backTo pos (starEach es X.env)).any (·.1) = false := by rfl) :
    PE X (.Call (.Name x p) (e :: es) [] pos) (tCall sp dvs E t) := by
  obtain ⟨fd, ds, F, hb, hd, hk⟩ := o
  exact pe_call F hr hg hm hk hb hd hx ha hdb he hpl
/-- an error of a callee leaves here, too -/
theorem pasE {W : WX} (tk : Takes X W) {E : XK} (h : ∀ c d σ H, E c d H → W c d σ H) : Passes (L2.CX X.prog X.w) X E := fun pins σ H s e s' I c => passes_call tk h pins σ H s e s' I c
end
end SL
namespace SL
open PySem PySem.Spec PyProof.Rows L2
section
variable {X : Cx} {k : Nat} {f C : Addr} {ps : List Str} {dvs : List V} {sp : Sp} {E : XK} {x m : Str} {p pos apos : Pos} {o e : Expr} {es : List Expr} {ta : TE} {t : TA}
/-- o.m(..), the class told by what stands there: i says it -/
def tMeI {ι : Type} (D : ι → V → Hp → Prop) (spI : ι → Sp) (E : XK) (ta : TE) (t : TA) : TE := fun σ H Q => ta σ H fun x H1 => ∃ i, D i x H1 ∧ t σ H1 fun vs H2 => spI i (x :: vs) H2 Q E
/-- C() of a class that has no __init__ of its own -/
structure MkN (K : PySem.W.Frag) (C : Addr) : Prop where
  makes : PySem.W.makesIn K C = true
  init : PySem.W.findIn K (.ref C) "__init__" = some (some (.builtin "object.__init__"))
  kp : PySem.W.keepIn K (.ref C) = true
def tMakN (C : Addr) : TE := fun _ H Q => ∀ x dx, H x = none → H dx = none → dx ≠ x → Q (.ref x) (upd (upd H dx (.own x)) x (.ins C dx []))
end
def tMakK (C : Addr) (n m : Nat) (sp : Sp) (E : XK) (t tk : TA) : TE := fun σ H Q => t σ H fun vs H1 => tk σ H1 fun zs H2 => vs.length = n ∧ zs.length = m ∧
  ∀ x dx, H2 x = none → H2 dx = none → dx ≠ x → sp (.ref x :: (vs ++ zs)) (upd (upd H2 dx (.own x)) x (.ins C dx [])) (fun v H3 => v = .non ∧ Q (.ref x) H3) E
def tMakKr (C : Addr) (n m : Nat) (sp : Sp) (E : XK) (t tk : TA) : TE := fun σ H Q => t σ H fun vs H1 => tk σ H1 fun zs H2 => vs.length = n ∧ zs.length = m ∧
  ∀ x dx, H2 x = none → H2 dx = none → dx ≠ x → sp (.ref x :: (vs ++ zs.reverse)) (upd (upd H2 dx (.own x)) x (.ins C dx [])) (fun v H3 => v = .non ∧ Q (.ref x) H3) E
end SL
namespace SL
open PySem PySem.Spec PyProof.Rows L2
theorem hu64 {k : Nat} {A : Around} (hr : Room k A) : A.units + 64 < cLine := hr.units
section
variable {X : Cx}
theorem OpR.imp {f : Value → Value → Sem Value} {r r' : R2} (h : OpR X f r) (i : ∀ x y H Q, r' x y H Q → r x y H Q) : OpR X f r' := fun pins s σ H x y v u Q I rx ry q => h pins s σ H x y v u Q I rx ry (i _ _ _ _ q)
theorem IxR.imp {r r' : R2} (h : IxR X r) (i : ∀ x y H Q, r' x y H Q → r x y H Q) : IxR X r' := fun value slice pins s σ H x y v u Q I rx ry q hs => h value slice pins s σ H x y v u Q I rx ry (i _ _ _ _ q) hs
theorem CallR.imp {f : Value} {r r' : List V → Hp → VK → Prop} (h : CallR X f r) (i : ∀ xs H Q, r' xs H Q → r xs H Q) : CallR X f r' := fun pins s σ H xs us Q I rx q => h pins s σ H xs us Q I rx (i _ _ _ q)
/-! ### + and * -/
def rAddU (K : PySem.W.Frag) : R2 := fun x y H Q => match x, y with
  | .int i, .int j => Q (.int (i + j)) H
  | .int i, .bl b => Q (.int (i + b2i b)) H
  | .str a, .str b => a.length + b.length ≤ sizeLine ∧ Q (.str (a ++ b)) H
  | .ref a, .ref b => rCat (.ref a) (.ref b) H Q ∨ rCatT K (.ref a) (.ref b) H Q
  | _, _ => False
theorem o_add {K : PySem.W.Frag} (hK : X.K = K := by rfl) : OpR X (binaryOp .Add) (rAddU K) := by
  subst hK
  refine OpR.imp (op_add.or (op_add_ib.or (op_add_str.or (op_cat.or op_catT)))) fun x y H Q h => ?_
  cases x <;> cases y <;> first
    | exact absurd h id
    | exact .inl ⟨_, _, rfl, rfl, h⟩
    | exact .inr (.inl ⟨_, _, rfl, rfl, h⟩)
    | exact .inr (.inr (.inl ⟨_, _, rfl, rfl, h.1, h.2⟩))
    | exact .inr (.inr (.inr h))
def rMulU : R2 := fun x y H Q => match x, y with
  | .int i, .int j => CMul i j ∧ Q (.int (i * j)) H
  | .ref a, .int j => rRep (.ref a) (.int j) H Q
  | _, _ => False
theorem o_mul : OpR X (binaryOp .Mult) rMulU := by
  refine OpR.imp (op_mul.or op_rep) fun x y H Q h => ?_
  cases x <;> cases y <;> first
    | exact absurd h id
    | exact .inl ⟨_, _, rfl, rfl, h.1, h.2⟩
    | exact .inr h
/-! ### comparisons -/
def isRef : V → Bool
  | .ref _ => true
  | _ => false
/-- lists of different lengths -/
def lenNe (K : PySem.W.Frag) (b : Bool) : R2 := fun x y H Q => ∃ p q xs ys, x = .ref p ∧ y = .ref q ∧ SqL K H p xs ∧ SqL K H q ys ∧ xs.length ≠ ys.length ∧ Q (.bl b) H
theorem op_eqLen (hu : X.A.units + 64 < cLine) : OpR X (compareOp .Eq) (lenNe X.K false) := by
  intro pins s σ H x y v u Q I rx ry h
  obtain ⟨p, q, xs, ys, rfl, rfl, h1, h2, hn, k⟩ := h
  cases rx
  cases ry
  obtain ⟨its, r, pl, _⟩ := I.list h1
  obtain ⟨its2, r2, pl2, _⟩ := I.list h2
  have e1 := r.length
  have e2 := r2.length
  exact SeqAt.RcAt.lists_lengths pl.isList pl2.isList (by simp; omega) (by omega) _ _ _ _ ⟨.bl _, H, I, rfl, k⟩
theorem op_neLen (hu : X.A.units + 64 < cLine) : OpR X (compareOp .NotEq) (lenNe X.K true) := by
  intro pins s σ H x y v u Q I rx ry h
  obtain ⟨p, q, xs, ys, rfl, rfl, h1, h2, hn, k⟩ := h
  cases rx
  cases ry
  obtain ⟨its, r, pl, _⟩ := I.list h1
  obtain ⟨its2, r2, pl2, _⟩ := I.list h2
  have e1 := r.length
  have e2 := r2.length
  exact SeqAt.RcNeAt.lists_lengths pl.isList pl2.isList (by simp; omega) (by omega) _ _ _ _ ⟨.bl _, H, I, rfl, k⟩
def rEqR (K : PySem.W.Frag) : R2 := fun x y H Q => rEqD K x y H Q ∨ lenNe K false x y H Q
def rNeR (K : PySem.W.Frag) : R2 := fun x y H Q => rNeD K x y H Q ∨ lenNe K true x y H Q
def rEqU (K : PySem.W.Frag) : R2 := fun x y H Q => match isRef x || isRef y with
  | true => rEqR K x y H Q
  | false => scal x y = true ∧ Q (.bl (decide (x = y))) H
def rNeU (K : PySem.W.Frag) : R2 := fun x y H Q => match isRef x || isRef y with
  | true => rNeR K x y H Q
  | false => scal x y = true ∧ Q (.bl (!decide (x = y))) H
theorem o_eq {K : PySem.W.Frag} (hu : X.A.units + 64 < cLine) (hK : X.K = K := by rfl) : OpR X (compareOp .Eq) (rEqU K) := by
  subst hK
  refine OpR.imp (op_eq.or ((op_eqD hu).or (op_eqLen hu))) fun x y H Q h => ?_
  unfold rEqU at h
  split at h
  · exact .inr h
  · exact .inl h
theorem o_ne {K : PySem.W.Frag} (hu : X.A.units + 64 < cLine) (hK : X.K = K := by rfl) : OpR X (compareOp .NotEq) (rNeU K) := by
  subst hK
  refine OpR.imp (op_ne.or ((op_neD hu).or (op_neLen hu))) fun x y H Q h => ?_
  unfold rNeU at h
  split at h
  · exact .inr h
  · exact .inl h
/-- a list against the empty list -/
theorem eq_nil {K : PySem.W.Frag} {p q : Addr} {xs : List V} {H : Hp} {Q : VK} (h1 : SqL K H p xs) (h2 : SqL K H q []) (k : Q (.bl (decide (xs = []))) H) : rEqR K (.ref p) (.ref q) H Q := by
  cases xs with
  | nil => exact .inl ⟨.list [], .list [], .lst h1 .nil, .lst h2 .nil, rfl, rfl, k⟩
  | cons x r => exact .inr ⟨p, q, _, _, rfl, rfl, h1, h2, by simp, k⟩
theorem ne_nil {K : PySem.W.Frag} {p q : Addr} {xs : List V} {H : Hp} {Q : VK} (h1 : SqL K H p xs) (h2 : SqL K H q []) (k : Q (.bl (!decide (xs = []))) H) : rNeR K (.ref p) (.ref q) H Q := by
  cases xs with
  | nil => exact .inl ⟨.list [], .list [], .lst h1 .nil, .lst h2 .nil, rfl, rfl, k⟩
  | cons x r => exact .inr ⟨p, q, _, _, rfl, rfl, h1, h2, by simp, k⟩
/-! ### is, of truths and None -/
def rIsBo : R2 := fun x y H Q => match x, y with
  | .bl a, .bl b => Q (.bl (a == b)) H
  | _, _ => False
def rNotBo : R2 := fun x y H Q => match x, y with
  | .bl a, .bl b => Q (.bl (!(a == b))) H
  | _, _ => False
/-! ### int of a number or a truth -/
def rIntU : List V → Hp → VK → Prop := fun xs H Q => match xs with
  | [.int i] => Q (.int i) H
  | [.bl k] => Q (.int (if k then 1 else 0)) H
  | _ => False
theorem o_int : CallR X (.type "int") rIntU := CallR.imp call_int1 fun xs H Q h => match xs, h with
  | [.int i], q => .inl ⟨i, rfl, q⟩
  | [.bl k], q => .inr ⟨k, rfl, q⟩
/-! ### x += y -/
def rIadd : TIp := fun x y H Q => match x, y with
  | .int i, .int j => Q (.int (i + j)) H
  | .ref a, .ref b => rExt2 (.ref a) (.ref b) H Q
  | _, _ => False
theorem o_iadd : PIp X .Add rIadd := fun pins s σ H x y v u Q I rx ry h => match x, y, h with
  | .int i, .int j, q => ip_add pins s σ H _ _ v u Q I rx ry ⟨i, j, rfl, rfl, q⟩
  | .ref a, .ref b, q => iop_ext pins s σ H _ _ v u Q I rx ry q
def rCmp (f : Int → Int → Bool) (g : List Nat → List Nat → Bool) : R2 := fun x y H Q => match x, y with
  | .int i, .int j => Q (.bl (f i j)) H
  | .str a, .str b => Q (.bl (g a.cps.toList b.cps.toList)) H
  | _, _ => False
theorem o_lt : OpR X (compareOp .Lt) (rCmp (fun i j => decide (i < j)) (fun a b => decide (a < b))) := by
  refine OpR.imp (op_lt.or op_lt_str) fun x y H Q h => ?_
  cases x <;> cases y <;> first
    | exact absurd h id
    | exact .inl ⟨_, _, rfl, rfl, h⟩
    | exact .inr ⟨_, _, rfl, rfl, h⟩
/-- in: a sign in a text, a text in a text, data in a list of data, a flat thing in a list or a tuple -/
def rInU (K : PySem.W.Frag) : R2 := fun x y H Q => match x, y with
  | .str a, .str b => (∃ c, a = ⟨#[c]⟩ ∧ Q (.bl (decide (c ∈ b.cps.toList))) H) ∨ Q (.bl (!(Builtin.Str.occurrences b a 0 b.length 1).isEmpty)) H
  | .ref a, .ref b => rInD K (.ref a) (.ref b) H Q
  | x, .ref b => rIn K false x (.ref b) H Q
  | _, _ => False
theorem hu65 {k : Nat} {A : Around} (hr : Room k A) : A.units + 65 < cLine := by
  have := hr.un
  omega
def rNotInU (K : PySem.W.Frag) : R2 := fun x y H Q => match x, y with
  | .str a, .str b => (∃ c, a = ⟨#[c]⟩ ∧ Q (.bl (!decide (c ∈ b.cps.toList))) H) ∨ Q (.bl (!(!(Builtin.Str.occurrences b a 0 b.length 1).isEmpty))) H
  | .ref a, .ref b => rNotInD K (.ref a) (.ref b) H Q
  | x, .ref b => rIn K true x (.ref b) H Q
  | _, _ => False
theorem o_notin {K : PySem.W.Frag} (hu : X.A.units + 65 < cLine) (hK : X.K = K := by rfl) : OpR X (compareOp .NotIn) (rNotInU K) := by
  subst hK
  refine OpR.imp (op_notIn_sign.or (op_notIn_str.or (op_notIn_seq.or (op_notInD hu)))) fun x y H Q h => ?_
  cases y with
  | ref b => cases x with
    | ref a => exact .inr (.inr (.inr h))
    | _ => exact .inr (.inr (.inl h))
  | str b =>
    cases x with
    | str a =>
      rcases h with ⟨c, rfl, q⟩ | q
      · exact .inl ⟨c, b, rfl, rfl, q⟩
      · exact .inr (.inl ⟨a, b, rfl, rfl, q⟩)
    | _ => exact absurd h id
  | _ => cases x <;> exact absurd h id
/-! ### items, slices, walks -/
def rIxU (K : PySem.W.Frag) : R2 := fun x y H Q => match x, y with
  | .ref p, .int i => ∃ xs v, (SqL K H p xs ∨ SqT K H p xs) ∧ atI xs i = some v ∧ Q v H
  | .str z, .int i => z.length ≤ sizeLine ∧ ∃ c, atI z.cps.toList i = some c ∧ Q (.str ⟨#[c]⟩) H
  | _, _ => False
theorem o_ix {K : PySem.W.Frag} (hK : X.K = K := by rfl) : IxR X (rIxU K) := by
  subst hK
  refine IxR.imp ix_seq fun x y H Q h => ?_
  cases y with
  | int i =>
    cases x with
    | ref p =>
      obtain ⟨xs, v, h1 | h1, h2, q⟩ := h
      · exact .inl ⟨p, xs, i, v, rfl, rfl, h1, h2, q⟩
      · exact .inr (.inl ⟨p, xs, i, v, rfl, rfl, h1, h2, q⟩)
    | str z =>
      obtain ⟨h0, c, h2, q⟩ := h
      exact .inr (.inr ⟨z, i, c, rfl, rfl, h0, h2, q⟩)
    | _ => exact absurd h id
  | _ => cases x <;> exact absurd h id
def iU (K : PySem.W.Frag) (te : TE) : TI := fun σ H R => te σ H fun x H1 => match x with
  | .ref a => ((∃ xs, SqL K H1 a xs) ∧ R (Itl K a) H1) ∨ ((∃ xs, SqT K H1 a xs) ∧ R (Itt K a) H1)
  | .str z => R (Its z) H1
  | _ => False
theorem o_it {K : PySem.W.Frag} {tg e : Expr} {te : TE} (hc : X.calm = true) (he : PE X e te) (hK : X.K = K := by rfl) : PI X tg e (iU K te) := by
  subst hK
  refine ⟨fun pins s σ H R I h => ?_⟩
  refine thn (he.run pins s σ H _ I h) fun v s1 ⟨x, H1, I1, r1, q1⟩ => ?_
  cases x with
  | ref a =>
    cases r1
    rcases q1 with ⟨⟨xs, hq⟩, q⟩ | ⟨⟨xs, hq⟩, q⟩
    · obtain ⟨its, rv, p, hz⟩ := I1.list hq
      exact wpAny_pyIter_list p.isList (pi_one (tk := s1.toks) I1 _ (turn_list a _) ⟨_, Heap.get?_push_size _ rfl, rfl, rfl⟩ q)
    · obtain ⟨its, rv, p, hz⟩ := I1.tuple hq
      exact wpAny_pyIter_tuple (show s1.heap.IsTuple a its.toArray from p) (pi_one (tk := s1.toks) I1 _ (turn_tuple a _) ⟨_, Heap.get?_push_size _ rfl, rfl, rfl⟩ q)
  | str z =>
    obtain ⟨t, rfl⟩ := r1
    cases ha : z.cps.all (· < 128)
    · exact wpAny_pyIter_wide ha (pi_one (tk := s1.toks) I1 _ (turn_str _ z t "str_iterator" (.inr rfl)) ⟨_, Heap.get?_push_size _ rfl, rfl, rfl⟩ q1)
    · exact wpAny_pyIter_ascii ha (pi_one (tk := s1.toks) I1 _ (turn_str _ z t "str_ascii_iterator" (.inl rfl)) ⟨_, Heap.get?_push_size _ rfl, rfl, rfl⟩ q1)
  | _ => exact absurd q1 id
/-! ### slices, len, list, the truth of a value -/
def rSlU (K : PySem.W.Frag) : V → Option Int → Option Int → Hp → VK → Prop := fun x lo hi H Q => match x with
  | .str z => z.length ≤ sizeLine ∧ Q (.str (cutS z lo hi)) H
  | .ref a => (∃ xs, SqL K H a xs ∧ ∀ p, H p = none → Q (.ref p) (upd H p (.lst (cutV xs lo hi)))) ∨
    ∃ xs, SqT K H a xs ∧ (HT.sIx xs.length 0 lo = 0 ∧ HT.sIx xs.length xs.length hi = xs.length → Q (.ref a) H) ∧
      (¬ (HT.sIx xs.length 0 lo = 0 ∧ HT.sIx xs.length xs.length hi = xs.length) → ∀ p, H p = none → Q (.ref p) (upd H p (.tup (cutV xs lo hi))))
  | _ => False
theorem SlR.imp {r r' : V → Option Int → Option Int → Hp → VK → Prop} (h : SlR X r) (i : ∀ x lo hi H Q, r' x lo hi H Q → r x lo hi H Q) : SlR X r' := fun pins s σ H x v vl vu lo hi sl Q I rx hs pl pu q => h pins s σ H x v vl vu lo hi sl Q I rx hs pl pu (i _ _ _ _ _ q)
theorem o_sl {K : PySem.W.Frag} (hK : X.K = K := by rfl) : SlR X (rSlU K) := by
  subst hK
  refine SlR.imp (sl_list.or (sl_tupA.or sl_str)) fun x lo hi H Q h => ?_
  match x, h with
  | .str z, ⟨h1, h2⟩ => exact .inr (.inr ⟨z, rfl, h1, h2⟩)
  | .ref a, .inl ⟨xs, h1, h2⟩ => exact .inl ⟨a, xs, rfl, h1, h2⟩
  | .ref a, .inr ⟨xs, h1, h2, h3⟩ => exact .inr (.inl ⟨a, xs, rfl, h1, h2, h3⟩)
def rLenU (K : PySem.W.Frag) : List V → Hp → VK → Prop := fun xs H Q => match xs with
  | [x] => ∃ n, LenV K x H n ∧ Q (.int n) H
  | _ => False
theorem o_len {K : PySem.W.Frag} (hK : X.K = K := by rfl) : CallR X (.builtin "len") (rLenU K) := by
  subst hK
  refine CallR.imp call_len fun xs H Q h => ?_
  match xs, h with
  | [x], ⟨n, h, q⟩ => exact ⟨x, n, rfl, h, q⟩
theorem pt_tru {K : PySem.W.Frag} {a : Expr} {ta : TE} (ha : PE X a ta) (he : ∀ whole, isTrue a X.env whole = (do let v ← whole; standAt a.pos; holding [v] (truthy v))) (hK : X.K = K := by rfl) : PT X a (fun σ H Q => ta σ H fun x H1 => ∃ k, TruV K x H1 k ∧ Q k H1) := by
  subst hK
  exact pt_truth ha he
theorem pe_notK {K : PySem.W.Frag} {a : Expr} {ta : TE} {pos : Pos} (ha : PE X a ta) (hK : X.K = K := by rfl) : PE X (.UnaryOp .Not a pos) (tNotT K ta) := by
  subst hK
  exact pe_notT ha
theorem pe_orK {K : PySem.W.Frag} {a b : Expr} {rest : List Expr} {ta tb : TE} {pos : Pos} (ha : PE X a ta) (hb : PE X (.BoolOp .Or (b :: rest) pos) tb) (hK : X.K = K := by rfl) : PE X (.BoolOp .Or (a :: b :: rest) pos) (tOrT K ta tb) := by
  subst hK
  exact pe_orT ha hb
theorem pe_andK {K : PySem.W.Frag} {a b : Expr} {rest : List Expr} {ta tb : TE} {pos : Pos} (ha : PE X a ta) (hb : PE X (.BoolOp .And (b :: rest) pos) tb) (hK : X.K = K := by rfl) : PE X (.BoolOp .And (a :: b :: rest) pos) (tAndT K ta tb) := by
  subst hK
  exact pe_andT ha hb
/-- isinstance(x, T), T built in -/
def rIsiU (K : PySem.W.Frag) : List V → Hp → VK → Prop := fun xs H Q => match xs with
  | [x, .ty n] => ∃ (t : String) (b : Bool), TyX K H x (.type t) ∧ kitB t n = some b ∧ Q (.bl b) H
  | _ => False
theorem o_isi {K : PySem.W.Frag} (hK : X.K = K := by rfl) : CallR X (.builtin "isinstance") (rIsiU K) := by
  subst hK
  refine CallR.imp call_isi fun xs H Q h => ?_
  match xs, h with
  | [x, .ty n], ⟨t, b, h1, h2, q⟩ => exact ⟨x, .ty n, .type t, .type n, b, rfl, .ty n, h1, kit_ty h2, q⟩
def rTupU (K : PySem.W.Frag) : List V → Hp → VK → Prop := fun xs H Q => match xs with
  | [.ref p] => ∃ ys, (SqL K H p ys ∧ ∀ l, H l = none → Q (.ref l) (upd H l (.tup ys))) ∨ (SqT K H p ys ∧ Q (.ref p) H)
  | _ => False
theorem o_tuple {K : PySem.W.Frag} (hK : X.K = K := by rfl) : CallR X (.type "tuple") (rTupU K) := by
  subst hK
  refine CallR.imp call_tuple_of fun xs H Q h => ?_
  match xs, h with
  | [.ref p], ⟨ys, h⟩ => exact ⟨p, ys, rfl, h⟩
end
end SL
namespace SL
open PySem PySem.Spec PyProof.Rows L2
section
variable {K : PySem.W.Frag} {H H' : Hp}
theorem same_new {p : Addr} {o : HO} (h : H p = none) : Same H (upd H p o) := fun a u e => by
  rw [upd_ne (ne_of_none e h)]
  exact e
/-- an object that H does not know may change -/
theorem same_mut {p : Addr} {o : HO} (e : Same H H') (h : H p = none) : Same H (upd H' p o) := fun a u ha => by
  rw [upd_ne (ne_of_none ha h)]
  exact e a u ha
theorem same_rd {a : Addr} {u : HO} (e : Same H H') (h : Rd H a u) : Rd H' a u := by
  rcases h with h | ⟨o, h⟩
  · exact .inl (e a _ h)
  · exact .inr ⟨o, e a _ h⟩
theorem same_l {a : Addr} {xs : List V} (e : Same H H') (h : SqL K H a xs) : SqL K H' a xs := e.seq h
theorem same_t {a : Addr} {xs : List V} (e : Same H H') (h : SqT K H a xs) : SqT K H' a xs := by
  rcases h with h | h
  · exact .inl (same_rd e h)
  · exact .inr h
mutual
theorem dp_mono (e : Same H H') : ∀ (d : PyData) (v : V), Dp K H v d → Dp K H' v d
  | .none, _, .non => .non
  | .bool _, _, .bl b => .bl b
  | .int _, _, .int i => .int i
  | .str _, _, .str x => .str x
  | .list ds, _, .lst h a => .lst (same_l e h) (dpAll_mono e ds _ a)
  | .tuple ds, _, .tup h a => .tup (same_t e h) (dpAll_mono e ds _ a)
theorem dpAll_mono (e : Same H H') : ∀ (ds : List PyData) (vs : List V), DpAll K H vs ds → DpAll K H' vs ds
  | [], _, .nil => .nil
  | d :: ds, _, .cons h t => .cons (dp_mono e d _ h) (dpAll_mono e ds _ t)
end
end
section
variable {CX : CXT} {P : Program} {w : World} {K : PySem.W.Frag} {mg : Str → Option Value} {base : Heap} {N : List Str} {qual : Str} {scope : Scope} {f : Addr} {cd : Value} {A : Around} {outer : List Env} {s : Shared} {H : Hp} {E : XK}
theorem cxK : (cxOf CX P w K mg base N qual scope f cd A outer s H E).K = K := rfl
theorem cxW : (cxOf CX P w K mg base N qual scope f cd A outer s H E).w = w := rfl
theorem cxP : (cxOf CX P w K mg base N qual scope f cd A outer s H E).prog = P := rfl
end
section
variable {K : PySem.W.Frag} {H : Hp} {k : Bool} {n : Nat}
theorem truBl {b : Bool} : TruV K (.bl b) H k = (k = b) := rfl
theorem truInt {i : Int} : TruV K (.int i) H k = (k = (i != 0)) := rfl
theorem truNon : TruV K .non H k = (k = false) := rfl
theorem truStr {y : Str} : TruV K (.str y) H k = (y.length ≤ sizeLine ∧ k = ((y.length : Int) != 0)) := rfl
theorem lenStr {z : Str} {R : Nat → Prop} : (∃ n, LenV K (.str z) H n ∧ R n) = (z.length ≤ sizeLine ∧ R z.length) := by
  refine propext ⟨fun ⟨n, ⟨h1, h2⟩, h⟩ => ?_, fun ⟨h1, h⟩ => ⟨_, ⟨h1, rfl⟩, h⟩⟩
  subst h2
  exact ⟨h1, h⟩
end
theorem sameT {H : Hp} : Same H H = True := propext ⟨fun _ => trivial, fun _ => Same.refl H⟩
theorem ite_tt {A B : Prop} : (if true = true then A else B) = A := by simp
theorem ite_ff {A B : Prop} : (if false = true then A else B) = B := by simp
theorem le_sz {n : Nat} : (n ≤ sizeLine) = (n ≤ 16777216) := by rw [sizeLine_eq]
theorem lt_sz {n : Nat} : (n < sizeLine) = (n < 16777216) := by rw [sizeLine_eq]
/-- a value by what is wanted of it alone -/
def tMid (te : TE) : TE := fun σ H Q => ∃ Q' : VK, te σ H Q' ∧ ∀ v H1, Q' v H1 → Q v H1
theorem pe_mid {X : Cx} {e : Expr} {te : TE} (h : PE X e te) : PE X e (tMid te) := ⟨fun pins s σ H Q I ⟨_, h1, h2⟩ => thn (h.run pins s σ H _ I h1) fun _ _ ⟨v, H1, I1, r, q⟩ => ⟨v, H1, I1, r, h2 v H1 q⟩⟩
theorem q_mid {i : Nat} {te : TE} {u : TS} {D : Ends} {σ : L2.St} {H : Hp} (C : Int → Prop) (h : te σ H fun v H1 => H1 = H ∧ ∃ n, v = .int n ∧ C n) (k : ∀ n, C n → u D (σ.set i (some (.int n))) H) : tSeq (tAsg (tMid te) (gName i)) u D σ H :=
  ⟨_, h, fun v H1 ⟨e, n, ev, c⟩ => by rw [e, ev]; exact k n c⟩
end SL
namespace SL
open PySem PySem.Spec PyProof.Rows L2
/-- all but the lists stay -/
def NL (H H' : Hp) : Prop := ∀ a o, H a = some o → (∀ l, o ≠ .lst l) → H' a = some o
theorem NL.of {H H' : Hp} (e : Same H H') : NL H H' := fun a o h _ => e a o h
theorem NL.refl {H : Hp} : NL H H := fun _ _ h _ => h
theorem NL.trans {H H1 H2 : Hp} (a : NL H H1) (b : NL H1 H2) : NL H H2 := fun c o h n => b c o (a c o h n) n
theorem nl_upd {H : Hp} {D : Addr} {l : List V} {o : HO} (h : H D = some (.lst l)) : NL H (upd H D o) := fun a u e n => by
  have q : a ≠ D := fun z => by
    rw [z, h] at e
    exact n l (Option.some.inj e).symm
  rw [upd_ne q]
  exact e
/-! ### walked things, by what is wanted of them alone -/
def iMid (wi : TI) : TI := fun σ H R => ∃ R' : It → Hp → Prop, wi σ H R' ∧ ∀ J H1, R' J H1 → R J H1
theorem pi_mid {X : Cx} {tg it : Expr} {wi : TI} (h : PI X tg it wi) : PI X tg it (iMid wi) := ⟨fun pins s σ H R I ⟨_, h1, h2⟩ => thn (h.run pins s σ H _ I h1) fun _ s1 q => thn q fun _ _ ⟨it, fp, tn, J, H', e, I', T, st, f, r⟩ => ⟨it, fp, tn, J, H', e, I', T, st, f, h2 J H' r⟩⟩
def tMidT (tt : TT) : TT := fun σ H Q => ∃ Q' : Bool → Hp → Prop, tt σ H Q' ∧ ∀ b H1, Q' b H1 → Q b H1
theorem pt_mid {X : Cx} {e : Expr} {tt : TT} (h : PT X e tt) : PT X e (tMidT tt) := ⟨fun pins s σ H Q I ⟨_, h1, h2⟩ => thn (h.run pins s σ H _ I h1) fun _ _ ⟨H1, I1, q⟩ => ⟨H1, I1, h2 _ H1 q⟩⟩
section
variable {J0 : It} {n : Nat} {G : Hp → Prop} {Y : Nat → Hp → V → Hp → Prop} {wi : TI} {i : Nat} {tb : TS} {D : Ends} {σ : L2.St} {H H0 : Hp}
theorem for_mid (h : wi σ H fun J H1 => J = J0 ∧ H1 = H0) (w : Walk J0 n G Y) (Pv : Nat → L2.St → Hp → Prop) (h0 : Pv 0 σ H0) (hG : ∀ i σ H, i ≤ n → Pv i σ H → G H)
    (hs : ∀ k x σ H H', k < n → Pv k σ H → Y k H x H' → tb { D with nx := Pv (k + 1), ct := Pv (k + 1), bk := D.nx } (σ.set i (some x)) H') (hd : ∀ σ H, Pv n σ H → D.nx σ H) : tFor (iMid wi) (gName i) tb D σ H := by
  refine ⟨_, h, ?_⟩
  rintro J H1 ⟨rfl, rfl⟩
  exact for_it w Pv h0 hG (fun k x σ H H' hk p y => hs k x σ H H' hk p y) hd
theorem for_midg {g : TG} (h : wi σ H fun J H1 => J = J0 ∧ H1 = H0) (w : Walk J0 n G Y) (Pv : Nat → L2.St → Hp → Prop) (h0 : Pv 0 σ H0) (hG : ∀ i σ H, i ≤ n → Pv i σ H → G H)
    (hs : ∀ k x σ H H', k < n → Pv k σ H → Y k H x H' → g x σ H' fun σ2 H2 => tb { D with nx := Pv (k + 1), ct := Pv (k + 1), bk := D.nx } σ2 H2) (hd : ∀ σ H, Pv n σ H → D.nx σ H) : tFor (iMid wi) g tb D σ H := by
  refine ⟨_, h, ?_⟩
  rintro J H1 ⟨rfl, rfl⟩
  exact for_it w Pv h0 hG (fun k x σ H H' hk p y => hs k x σ H H' hk p y) hd
/-- a comprehension: C by the turn, what is made so far, the heap (all but lists stay) -/
theorem lc_midM {vs : List Nat} {te : TE} {Q : VK} (h : wi σ H fun J H1 => J = J0 ∧ H1 = H0) (w : Walk J0 n G Y) (hn : n < 16777216) (C : Nat → List V → Hp → Prop) (hC : ∀ k acc Ha Hb, NL Ha Hb → C k acc Ha → C k acc Hb) (h0 : C 0 [] H0)
    (hG : ∀ H', Same H0 H' → G H') (hY : ∀ k H x H', Y k H x H' → Same H H') (hw : ∀ x, wipe ((wipe σ vs).set i (some x)) vs = wipe σ vs)
    (turn : ∀ k x acc H' H'', k < n → Same H0 H' → C k acc H' → Y k H' x H'' → tMid te ((wipe σ vs).set i (some x)) H'' fun y H4 => Same H'' H4 ∧ C (k + 1) (acc ++ [y]) H4)
    (done : ∀ p acc H', H0 p = none → Same H0 H' → H' p = some (.lst acc) → acc.length = n → C n acc H' → Q (.ref p) H') : tLc (iMid wi) (gName i) tYes (tMid te) vs σ H Q := by
  refine ⟨_, h, ?_⟩
  rintro J H1 ⟨rfl, rfl⟩ p hp
  refine lc_it w (fun k H' => ∃ acc, Same H1 H' ∧ H' p = some (.lst acc) ∧ acc.length = k ∧ C k acc H') ⟨[], same_new hp, upd_same, rfl, hC _ _ _ _ (NL.of (same_new hp)) h0⟩ (fun k H' _ ⟨acc, s, _⟩ => hG H' s) ?_ fun H' ⟨acc, s, hD, hl, c⟩ => done p acc H' hp s hD hl c
  rintro k x H' H'' hk ⟨acc, s, hD, hl, c⟩ y
  have s2 := hY k H' x H'' y
  refine ⟨hw x, ?_⟩
  obtain ⟨R, h1, h2⟩ := turn k x acc H' H'' hk s c y
  refine ⟨R, h1, ?_⟩
  rintro v H4 hR
  obtain ⟨s3, c'⟩ := h2 v H4 hR
  have hD4 : H4 p = some (.lst acc) := s3 _ _ (s2 _ _ hD)
  refine ⟨acc, hD4, by rw [sizeLine_eq]; omega, acc ++ [v], same_mut ((s.trans s2).trans s3) hp, upd_same, by rw [List.length_append, hl]; rfl, hC _ _ _ _ (nl_upd hD4) c'⟩
/-- a comprehension: C by the turn, what is made so far, the heap (all but lists stay) -/
theorem lc_mid {vs : List Nat} {te : TE} {Q : VK} (h : wi σ H fun J H1 => J = J0 ∧ H1 = H0) (w : Walk J0 n G Y) (hn : n < 16777216) (C : Nat → List V → Hp → Prop) (hC : ∀ k acc Ha Hb, NL Ha Hb → C k acc Ha → C k acc Hb) (h0 : C 0 [] H0)
    (hG : ∀ H', Same H0 H' → G H') (hY : ∀ k H x H', Y k H x H' → Same H H') (hw : ∀ x, wipe ((wipe σ vs).set i (some x)) vs = wipe σ vs)
    (turn : ∀ k x acc H' H'', k < n → Same H0 H' → C k acc H' → Y k H' x H'' → te ((wipe σ vs).set i (some x)) H'' fun y H4 => Same H'' H4 ∧ C (k + 1) (acc ++ [y]) H4)
    (done : ∀ p acc H', H0 p = none → Same H0 H' → H' p = some (.lst acc) → acc.length = n → C n acc H' → Q (.ref p) H') : tLc (iMid wi) (gName i) tYes (tMid te) vs σ H Q :=
  lc_midM h w hn C hC h0 hG hY hw (fun k x acc H' H'' a b c d => ⟨_, turn k x acc H' H'' a b c d, fun _ _ q => q⟩) done
/-- with a test -/
theorem lc_midT {vs : List Nat} {te : TE} {tt : TT} {Q : VK} (h : wi σ H fun J H1 => J = J0 ∧ H1 = H0) (w : Walk J0 n G Y) (hn : n < 16777216) (C : Nat → List V → Hp → Prop) (hC : ∀ k acc Ha Hb, NL Ha Hb → C k acc Ha → C k acc Hb) (h0 : C 0 [] H0)
    (hG : ∀ H', Same H0 H' → G H') (hY : ∀ k H x H', Y k H x H' → Same H H') (hw : ∀ x, wipe ((wipe σ vs).set i (some x)) vs = wipe σ vs)
    (turn : ∀ k x acc H' H'', k < n → Same H0 H' → C k acc H' → Y k H' x H'' → tt ((wipe σ vs).set i (some x)) H'' fun b H3 => Same H'' H3 ∧ if b = true then te ((wipe σ vs).set i (some x)) H3 fun y H4 => Same H3 H4 ∧ C (k + 1) (acc ++ [y]) H4 else C (k + 1) acc H3)
    (done : ∀ p acc H', H0 p = none → Same H0 H' → H' p = some (.lst acc) → acc.length ≤ n → C n acc H' → Q (.ref p) H') : tLc (iMid wi) (gName i) (tMidT tt) (tMid te) vs σ H Q := by
  refine ⟨_, h, ?_⟩
  rintro J H1 ⟨rfl, rfl⟩ p hp
  refine lc_it w (fun k H' => ∃ acc, Same H1 H' ∧ H' p = some (.lst acc) ∧ acc.length ≤ k ∧ C k acc H') ⟨[], same_new hp, upd_same, Nat.le_refl _, hC _ _ _ _ (NL.of (same_new hp)) h0⟩ (fun k H' _ ⟨acc, s, _⟩ => hG H' s) ?_ fun H' ⟨acc, s, hD, hl, c⟩ => done p acc H' hp s hD hl c
  rintro k x H' H'' hk ⟨acc, s, hD, hl, c⟩ y
  have s2 := hY k H' x H'' y
  refine ⟨hw x, _, turn k x acc H' H'' hk s c y, ?_⟩
  rintro b H3 ⟨s3, z⟩
  have hD3 : H3 p = some (.lst acc) := s3 _ _ (s2 _ _ hD)
  cases b with
  | false =>
    have z' : C (k + 1) acc H3 := z
    exact ⟨acc, (s.trans s2).trans s3, hD3, by omega, z'⟩
  | true =>
    have z' : te ((wipe σ vs).set i (some x)) H3 fun y H4 => Same H3 H4 ∧ C (k + 1) (acc ++ [y]) H4 := z
    refine ⟨_, z', ?_⟩
    rintro v H4 ⟨s4, c'⟩
    have hD4 : H4 p = some (.lst acc) := s4 _ _ hD3
    refine ⟨acc, hD4, by rw [sizeLine_eq]; omega, acc ++ [v], same_mut (((s.trans s2).trans s3).trans s4) hp, upd_same, by rw [List.length_append]; show acc.length + 1 ≤ k + 1; omega, hC _ _ _ _ (nl_upd hD4) c'⟩
end
theorem y_at {xs : List V} {k : Nat} {H : Hp} {x : V} {H' : Hp} (y : YAt xs k H x H') : Same H H' := by
  rw [y.1]
  exact Same.refl H
theorem y_fn {f : Nat → V} {k : Nat} {H : Hp} {x : V} {H' : Hp} (y : YFn f k H x H') : Same H H' := by
  rw [y.1]
  exact Same.refl H
/-- an assignment by what is wanted of its value -/
theorem q_midG {i : Nat} {te : TE} {u : TS} {D : Ends} {σ : L2.St} {H : Hp} (C : V → Hp → Prop) (h : te σ H C) (k : ∀ v H1, C v H1 → u D (σ.set i (some v)) H1) : tSeq (tAsg (tMid te) (gName i)) u D σ H := ⟨C, h, k⟩
theorem mid_of {te : TE} {σ : L2.St} {H : Hp} {Q : VK} (C : VK) (h : te σ H C) (k : ∀ v H1, C v H1 → Q v H1) : tMid te σ H Q := ⟨C, h, k⟩
/-- an if by what is wanted of its test -/
theorem q_if {tt : TT} {a b u : TS} {D : Ends} {σ : L2.St} {H : Hp} (C : Bool → Hp → Prop) (h : tt σ H C) (t : ∀ H1, C true H1 → tSeq a u D σ H1) (f : ∀ H1, C false H1 → tSeq b u D σ H1) : tSeq (tIfS (tMidT tt) a b) u D σ H :=
  ⟨C, h, fun c H1 hc => by
    cases c with
    | true => exact t H1 hc
    | false => exact f H1 hc⟩
theorem l_if {tt : TT} {a b : TS} {D : Ends} {σ : L2.St} {H : Hp} (C : Bool → Hp → Prop) (h : tt σ H C) (t : ∀ H1, C true H1 → a D σ H1) (f : ∀ H1, C false H1 → b D σ H1) : tIfS (tMidT tt) a b D σ H :=
  ⟨C, h, fun c H1 hc => by
    cases c with
    | true => exact t H1 hc
    | false => exact f H1 hc⟩
/-- a walk that is told -/
theorem for_open {wi : TI} {g : TG} {tb : TS} {D : Ends} {σ : L2.St} {H : Hp} (C : It → Hp → Prop) (h : wi σ H C) (k : ∀ J H1, C J H1 → tFor (iMid (fun _ _ R => R J H1)) g tb D σ H) : tFor (iMid wi) g tb D σ H := ⟨C, h, fun J H1 c => let ⟨_, r, k'⟩ := k J H1 c; k' J H1 r⟩
theorem q_val {i : Nat} {te : TE} {u : TS} {D : Ends} {σ : L2.St} {H : Hp} (h : te σ H fun v H1 => u D (σ.set i (some v)) H1) : tSeq (tAsg te (gName i)) u D σ H := h
end SL
/-! the text by places -/
namespace TX
open PySem PySem.Spec PyProof.Rows L2
def topS (i : Nat) : Stmt := PySem.Challenge.pw_shunlist_k83_paths_of_trees.main.body.getD i (.Pass ⟨0, 0, 0, 0⟩)
abbrev s_paths_within : Stmt := (topS 1)
abbrev s_paths_of : Stmt := (topS 2)
abbrev s__law_cell : Stmt := (topS 4)
abbrev s__law_mixed : Stmt := (topS 5)
abbrev s__law_signs : Stmt := (topS 6)
abbrev s__law_part : Stmt := (topS 7)
abbrev s__law_segment : Stmt := (topS 8)
abbrev s__law_row : Stmt := (topS 9)
abbrev s__law_rows : Stmt := (topS 10)
abbrev s__law_filled : Stmt := (topS 11)
abbrev s__law_names : Stmt := (topS 12)
abbrev s__law_free : Stmt := (topS 13)
abbrev s__law_put_in : Stmt := (topS 14)
abbrev s__law_tree : Stmt := (topS 15)
abbrev s__law_paths : Stmt := (topS 16)
abbrev s_law : Stmt := (topS 17)
end TX
/-! ### sets of texts: made of a text or of a list of texts, counted, sorted -/
namespace SL
open PySem PySem.Spec PyProof.Rows L2
/-- the text of a set's entry -/
def txOf (e : Int × Value) : Str := match e.2 with
  | .str x _ => x
  | _ => Str.empty
def TxE (w : World) (e : Int × Value) : Prop := ∃ x tk, e.2 = Value.str x tk ∧ e.1 = hashStr w x
/-- the set at a holds just the texts l, each once, and can be walked -/
def TxSet (w : World) (h : Heap) (a : Addr) (l : List Str) : Prop :=
  ∃ o es ep t, h.get? a = some o ∧ o.ExactSet ∧ o.data = .set es ep t ∧ (∀ e ∈ es.toList, TxE w e) ∧ (es.toList.map txOf).Perm l ∧ l.Nodup ∧
    (es.size < scanBound ∧ t.fits es.size = true) ∧ (Ris t.place.toList ∧ (w.params.followText "set-order" = true ∨ t.led = true))
section
variable {P : Program} {w : World} {h h' : Heap} {a : Addr} {l : List Str}
theorem TxSet.at (R : TxSet w h a l) (k : ∀ o, h.get? a = some o → h'.get? a = some o) : TxSet w h' a l :=
  let ⟨o, es, ep, t, ho, r⟩ := R
  ⟨o, es, ep, t, k o ho, r⟩
theorem txE_elems {l : List (Int × Value)} (g : ∀ e ∈ l, TxE w e) : ElemsOf (strKind P w) l := by
  intro e he
  obtain ⟨x, tk, e1, e2⟩ := g e he
  refine ⟨⟨x, ?_, e2⟩, ?_⟩
  · rw [e1]
    show Value.isStrOf x (.str x tk) = true
    simp [Value.isStrOf]
  · rw [e1]
    rfl
theorem txE_is {e : Int × Value} (g : TxE w e) (x : Str) : (strKind P w).is x e.2 = true ↔ txOf e = x := by
  obtain ⟨y, tk, e1, _⟩ := g
  unfold txOf
  rw [e1]
  show Value.isStrOf x (.str y tk) = true ↔ y = x
  simp [Value.isStrOf]
theorem txE_mem {l : List (Int × Value)} (g : ∀ e ∈ l, TxE w e) (x : Str) : x ∈ l.map txOf ↔ ∃ e ∈ l, (strKind P w).is x e.2 = true := by
  rw [List.mem_map]
  exact ⟨fun ⟨e, he, q⟩ => ⟨e, he, (txE_is (g e he) x).2 q⟩, fun ⟨e, he, q⟩ => ⟨e, he, (txE_is (g e he) x).1 q⟩⟩
end
section
variable {P : Program} {w : World} {A : Around} {E : Value → Shared → Prop} {s : Shared} {a : Addr} {l : List Str}
theorem tx_tail {gv : Bool → Sem Unit} (hg : ∀ (b : Bool) (s₁ : Shared) (Q' : Unit → Shared → Prop), Q' () s₁ → wpAny (model P w) A (gv b) Q' E s₁)
    {o : Obj} {es : Array (Int × Value)} {ep : Nat} {t : SetTable} (ho : s.heap.get? a = some o) (hx : o.ExactSet) (hd : o.data = .set es ep t) {e1 : Array (Int × Value)} {t2 : SetTable} (g1 : ∀ e ∈ e1.toList, TxE w e)
    (p1 : (e1.toList.map txOf).Perm l) (nd : l.Nodup) (hb : e1.size < scanBound) (hf : t2.fits e1.size = true) (hr : Ris t2.place.toList) (hl : w.params.followText "set-order" = true ∨ t2.led = true) {dummy : Bool} {R : Option Bool → Shared → Prop}
    (hR : ∀ h', Heap.SameBut a s.heap h' → TxSet w h' a l → R (some true) { s with heap := h' }) :
    wpAny (model P w) A (do
        storeSet a e1 t2
        if (!dummy && t2.tooFull) = true then do
            gv (relayAll t2 e1 (SetTable.grown e1.size)).2.2
            storeSet a (relayAll t2 e1 (SetTable.grown e1.size)).1 (relayAll t2 e1 (SetTable.grown e1.size)).2.1
            pure (some true)
          else pure (some true)) R E s := by
  refine wpAny_bind (wpAny_storeSet_of ho hd ?_ (fits_of_scanBound hb))
  have o1 := store_at (es' := e1) (t' := t2) ho hd
  have b1 := Heap.SameBut.update s.heap a (Obj.putSet e1 t2)
  split
  · have pm := relayAll_perm t2 e1 (SetTable.grown e1.size)
    have f3 := relayAll_fits t2 e1 (SetTable.grown e1.size)
    have r3 := relayAll_ris t2 e1 (SetTable.grown e1.size)
    have l3 := relayAll_led t2 e1 (SetTable.grown e1.size)
    generalize relayAll t2 e1 (SetTable.grown e1.size) = Z at pm f3 r3 l3 ⊢
    obtain ⟨e2, t3, gave⟩ := Z
    dsimp only at pm f3 r3 l3 ⊢
    have sz : e2.size < scanBound := by
      have q := pm.length_eq
      rw [Array.length_toList, Array.length_toList] at q
      omega
    refine wpAny_bind (hg _ _ _ (wpAny_bind (wpAny_storeSet_of o1 rfl ?_ (fits_of_scanBound sz))))
    refine wpAny_pure (hR _ (b1.trans (Heap.SameBut.update _ a _)) ⟨_, e2, _, t3, store_at o1 rfl, hx, rfl, fun e he => g1 e (pm.mem_iff.mp he), (pm.map txOf).trans p1, nd, ⟨sz, f3⟩, r3, ?_⟩)
    rw [l3]
    exact hl
  · exact wpAny_pure (hR _ b1 ⟨_, e1, _, t2, o1, hx, rfl, g1, p1, nd, ⟨hb, hf⟩, hr, hl⟩)
/-- a text is added -/
theorem tx_add {x : Str} {tk : Tok} {Q : Bool → Shared → Prop} (R : TxSet w s.heap a l) (room : l.length + 1 < scanBound)
    (hQ : ∀ h', Heap.SameBut a s.heap h' → TxSet w h' a (if x ∈ l then l else x :: l) → Q (!decide (x ∈ l)) { s with heap := h' }) :
    wpAny (model P w) A (setAddHashed a (.str x tk) ((strKind P w).hash x)) Q E s := by
  obtain ⟨o, es, ep, t, ho, hx, hd, g, pm, nd, ⟨hb, hf⟩, hr, hl⟩ := R
  have key : (strKind P w).is x (.str x tk) = true := by
    show Value.isStrOf x (.str x tk) = true
    simp [Value.isStrOf]
  have sc : (Value.str x tk).scannable = true := rfl
  have el : ElemsOf (strKind P w) es.toList := txE_elems g
  unfold setAddHashed
  unfold setAddHashedIn
  refine wpAny_holding (wpAny_bind (wpAny_setState_of ho hd hf ?_))
  dsimp only
  rw [byScan_of sc hb el]
  simp only [if_true]
  unfold setAddByScan
  refine wpAny_bind (wpAny_bind (wpAny_rule (wpAny_bind (wpAny_setScan_of key ho hd hf el ?_))))
  cases fi : List.findIdx? (fun e => (strKind P w).is x e.2) es.toList with
  | some j =>
    dsimp only
    obtain ⟨hj, pj, _⟩ := List.findIdx?_eq_some_iff_getElem.mp fi
    have hm : x ∈ l := pm.mem_iff.mp ((txE_mem (P := P) g x).2 ⟨_, List.getElem_mem hj, pj⟩)
    have q := hQ s.heap (Heap.SameBut.refl a s.heap) (by
      rw [if_pos hm]
      exact ⟨o, es, ep, t, ho, hx, hd, g, pm, nd, ⟨hb, hf⟩, hr, hl⟩)
    rw [decide_eq_true hm] at q
    exact wpAny_pure (wpAny_pure q)
  | none =>
    dsimp only
    have hn : x ∉ l := fun z => by
      obtain ⟨e, he, q⟩ := (txE_mem (P := P) g x).1 (pm.mem_iff.mpr z)
      have c := List.findIdx?_eq_none_iff.mp fi e he
      rw [q] at c
      cases c
    have q0 : ∀ h', Heap.SameBut a s.heap h' → TxSet w h' a (x :: l) → Q true { s with heap := h' } := fun h' sb r => by
      have q := hQ h' sb (by rw [if_neg hn]; exact r)
      rw [decide_eq_false hn] at q
      exact q
    have tl : ∀ (b : Bool) {s₁ : Shared} {Q' : Unit → Shared → Prop}, Q' () s₁ → wpAny (model P w) A (match b with | true => rule "set.scan.the-table-gave-way" | false => pure ()) Q' E s₁ := by
      intro b s₁ Q' z
      cases b
      · exact wpAny_pure z
      · exact wpAny_rule z
    have p0 := layNew_perm t es ((strKind P w).hash x) (.str x tk)
    have f0 := layNew_fits t es ((strKind P w).hash x) (.str x tk)
    have r0 := layNew_ris t es ((strKind P w).hash x) (.str x tk) hr
    have l0 := layNew_led t es ((strKind P w).hash x) (.str x tk)
    generalize layNew t es ((strKind P w).hash x) (.str x tk) = Z at p0 f0 r0 l0 ⊢
    obtain ⟨e1, t1, dummy, gave⟩ := Z
    dsimp only at p0 f0 r0 l0 ⊢
    rw [Array.toList_push] at p0
    have pc : e1.toList.Perm (((strKind P w).hash x, Value.str x tk) :: es.toList) := p0.trans (List.perm_append_singleton _ _)
    have g1 : ∀ e ∈ e1.toList, TxE w e := by
      intro e he
      rcases List.mem_cons.mp (pc.mem_iff.mp he) with z | z
      · exact ⟨x, tk, by rw [z], by rw [z]; rfl⟩
      · exact g e z
    have pk : (e1.toList.map txOf).Perm (x :: l) := (pc.map txOf).trans (List.Perm.cons _ pm)
    have nd1 : (x :: l).Nodup := List.nodup_cons.mpr ⟨hn, nd⟩
    have sz : e1.size < scanBound := by
      have q := pk.length_eq
      rw [List.length_map, Array.length_toList, List.length_cons] at q
      omega
    have hl1 : w.params.followText "set-order" = true ∨ t1.led = true := by rw [l0]; exact hl
    refine wpAny_bind (tl _ ?_)
    split
    · refine wpAny_bind ?_
      rw [hashByValue_scannable 8 sc]
      refine wpAny_pure (tx_tail ?_ ho hx hd g1 pk nd1 sz ?_ ?_ ?_ fun h' sb r => ?_)
      · intro b s₁ Q' z
        exact tl b z
      · first | (split <;> first | exact f0 | exact SetTable.fits_plain_off f0) | exact f0
      · first | (split <;> exact r0) | exact r0
      · first | (split <;> exact hl1) | exact hl1
      · exact wpAny_pure (q0 h' sb r)
    · refine wpAny_bind (wpAny_pure ?_)
      simp only [if_true]
      exact tx_tail (fun b s₁ Q' z => tl b z) ho hx hd g1 pk nd1 sz f0 r0 hl1 fun h' sb r => wpAny_pure (q0 h' sb r)
/-- the distinct ones of texts -/
def dist (l : List Str) (x : Str) : List Str := if x ∈ l then l else x :: l
theorem dist_len (l : List Str) (x : Str) : (dist l x).length ≤ l.length + 1 := by
  unfold dist
  split <;> simp
theorem fold_len : ∀ (zs l : List Str), (zs.foldl dist l).length ≤ l.length + zs.length
  | [], l => by simp
  | x :: r, l => by
    have h1 := fold_len r (dist l x)
    have h2 := dist_len l x
    simp only [List.foldl_cons, List.length_cons]
    omega
theorem fold_mem : ∀ (zs l : List Str) (y : Str), y ∈ zs.foldl dist l ↔ y ∈ l ∨ y ∈ zs
  | [], l, y => by simp
  | x :: r, l, y => by
    rw [List.foldl_cons, fold_mem r (dist l x) y]
    unfold dist
    split
    · rename_i h
      constructor
      · rintro (h1 | h1)
        · exact .inl h1
        · exact .inr (List.mem_cons_of_mem _ h1)
      · rintro (h1 | h1)
        · exact .inl h1
        · rcases List.mem_cons.mp h1 with rfl | h1
          · exact .inl h
          · exact .inr h1
    · simp only [List.mem_cons]
      constructor
      · rintro ((h1 | h1) | h1) <;> simp [h1]
      · rintro (h1 | h1 | h1) <;> simp [h1]
theorem tx_loop {I : Addr} {fp wr : List Addr} {G : Array GenState → Array GenState → Prop} {n : Nat} {Pv : Nat → Value → Prop} {St : Nat → Shared → Prop} {R : Result → Shared → Prop}
    (W : WalksS P w A.in1 I fp wr G n Pv St) (S : Addr) (hSf : S ∉ fp) (zs : List Str) (hn : n = zs.length) (hb : zs.length + 1 < scanBound) (hv : ∀ i v, Pv i v → ∃ x t, zs[i]? = some x ∧ v = .str x t) :
    ∀ (k i : Nat) (s : Shared), n - i = k → i ≤ n → St i s → TxSet w s.heap S ((zs.take i).foldl dist []) →
      (∀ s', Moved (S :: wr) G s s' → TxSet w s'.heap S (zs.foldl dist []) → R (.ok (.ret .none)) s') → codeAny (model P w) A (.builtin "set.update.loop" ⟨[.ref S, .ref I], []⟩) R s := by
  have nw : S ∉ wr := fun z => hSf (W.sub _ z)
  have sub : ∀ b ∈ wr, b ∈ S :: wr := fun b z => List.mem_cons_of_mem _ z
  intro k
  induction k with
  | zero =>
    intro i s hk hi st hS hR
    refine codeAny_builtin PyProof.Rows.F.entry_set_update_loop ?_
    rw [Around.under_plainId PyProof.Rows.F.plain_set_update_loop]
    have hin : i = n := by omega
    subst hin
    show wpAny _ A.in1 (pyNext (.ref I) >>= fun _ => _) _ _ s
    refine wpAny_bind (W.done s _ _ st fun s' hm => wpAny_pure (hR s' (hm.mono sub) ?_))
    rw [List.take_of_length_le (by omega)] at hS
    exact hS.at fun o e => hm.heap S o nw e
  | succ k ih =>
    intro i s hk hi st hS hR
    have lt : i < n := by omega
    refine codeAny_builtin PyProof.Rows.F.entry_set_update_loop ?_
    rw [Around.under_plainId PyProof.Rows.F.plain_set_update_loop]
    show wpAny _ A.in1 (pyNext (.ref I) >>= fun _ => _) _ _ s
    refine wpAny_bind (W.item i s _ _ lt st fun v s' hP st' hm => ?_)
    obtain ⟨x, t, hz, rfl⟩ := hv i v hP
    have hS' : TxSet w s'.heap S ((zs.take i).foldl dist []) := hS.at fun o e => hm.heap S o nw e
    show wpAny _ A.in1 (holding [Value.str x t] (setAdd S (.str x t)) >>= fun _ => _) _ _ s'
    refine wpAny_bind (wpAny_holding ?_)
    unfold setAdd
    have hk2 : (strKind P w).is x (.str x t) = true := by
      show Value.isStrOf x (.str x t) = true
      simp [Value.isStrOf]
    refine wpAny_holding (wpAny_bind ((strKind P w).pyHash (k := x) hk2 ?_))
    have room : ((zs.take i).foldl dist []).length + 1 < scanBound := by
      have q := fold_len (zs.take i) []
      rw [List.length_take, List.length_nil] at q
      omega
    refine tx_add (s := { s' with toks := s'.toks + 1 }) hS' room fun h' sb r => ?_
    have r' : TxSet w h' S ((zs.take (i + 1)).foldl dist []) := by
      rw [List.take_add_one, hz, List.foldl_append]
      exact r
    refine wpAny_pure ⟨plainId_quiet PyProof.Rows.F.plain_set_update_loop _, ih (i + 1) _ (by omega) lt (W.frame _ s' _ _ st' (Nat.le_succ _) fun b z o e => ?_) r' fun s'' hm2 hS2 => ?_⟩
    · rw [sb.2 b fun q => hSf (q ▸ z)]
      exact e
    · refine hR s'' (Moved.trans W.gtrans ((hm.mono sub).then_heap (Nat.le_succ _) fun b o z e => ?_) hm2) hS2
      rw [sb.2 b fun q => z (by rw [q]; exact List.mem_cons_self)]
      exact e
end
end SL
namespace SL
open PySem PySem.Spec PyProof.Rows L2
/-- a value that gives the texts zs when it is walked: a text by its signs, a list of texts -/
structure Src (P : Program) (w : World) (h : Heap) (v : Value) (T : String) (zs : List Str) : Prop where
  ty : ∀ (s : Shared), (∀ b o, h.get? b = some o → s.heap.get? b = some o) → s.TypeIs v T
  s1 : isSubtype (.type T) (.type "set") = pure false
  s2 : isSubtype (.type T) (.type "frozenset") = pure false
  nd : (Value.type T == Value.type "dict") = false
  it : ∀ (A : Around) (Q : Value → Shared → Prop) (E : Value → Shared → Prop) (s : Shared), (∀ b o, h.get? b = some o → s.heap.get? b = some o) → h.objs.size ≤ s.heap.objs.size → A.handled = none →
    (∀ (o : Obj) (fp : List Addr) (St : Nat → Heap → Prop) (Pv : Nat → Value → Prop), (∀ A' : Around, A'.handled = none → Walks P w A' s.heap.objs.size fp [s.heap.objs.size] zs.length Pv St) → St 0 (s.heap.push o) →
      (∀ b ∈ fp, b = s.heap.objs.size ∨ b < h.objs.size) → (∀ i u, Pv i u → ∃ x t, zs[i]? = some x ∧ u = .str x t) → Q (.ref s.heap.objs.size) { s with heap := s.heap.push o }) → wpAny (model P w) A (pyIter v) Q E s
section
variable {P : Program} {w : World} {A : Around} {E : Value → Shared → Prop} {s : Shared}
theorem src_text {h : Heap} (x : Str) (t : Tok) : Src P w h (.str x t) "str" (x.cps.toList.map fun c => ⟨#[c]⟩) where
  ty := fun s _ => rfl
  s1 := PySem.F.sub_str_set
  s2 := PySem.F.sub_str_frozenset
  nd := by decide
  it := fun A Q E s _ _ _ k => by
    refine wpAny_pyIter_str fun o St W st => ?_
    have e : (x.cps.toList.map fun c => (⟨#[c]⟩ : Str)).length = x.cps.size := by rw [List.length_map, Array.length_toList]
    refine k o [s.heap.objs.size] St (SignAt x) (fun A' hA => by rw [e]; exact W A' hA) st (fun b hb => .inl (List.mem_singleton.mp hb)) fun i u hu => ?_
    obtain ⟨c, t', hc, rfl⟩ : ∃ c t', x.cps[i]? = some c ∧ u = .str ⟨#[c]⟩ t' := by
      first
        | exact hu
        | (obtain ⟨c, hc, t', e'⟩ := hu; exact ⟨c, t', hc, e'⟩)
    refine ⟨_, t', ?_, rfl⟩
    rw [List.getElem?_map, Array.getElem?_toList, hc]
    rfl
theorem src_list {h : Heap} {l : Addr} {items : Array Value} {zs : List Str} (hl : h.IsList l items) (hi : PyProof.Rows.StrsAre items.toList zs) : Src P w h (.ref l) "list" zs := by
  obtain ⟨ol, hol, hcl, nl, hdl⟩ := id hl
  have hz : items.size = zs.length := by
    have q := PyProof.Rows.StrsAre.length hi
    rw [Array.length_toList] at q
    exact q
  refine ⟨fun s k => ⟨ol, k _ _ hol, hcl⟩, PySem.F.sub_list_set, PySem.F.sub_list_frozenset, by decide, fun A Q E s k le hh c => ?_⟩
  have hl' : s.heap.IsList l items := ⟨ol, k _ _ hol, hcl, nl, hdl⟩
  have lt : l < h.objs.size := Heap.lt_size hol
  have ne : l ≠ s.heap.objs.size := Nat.ne_of_lt (Nat.lt_of_lt_of_le lt le)
  refine wpAny_pyIter_list hl' (c _ [s.heap.objs.size, l] _ (fun i v => items[i]? = some v) (fun A' hA => by rw [← hz]; exact Walks.list hA _ l ne items) (show Heap.IsListIter _ _ _ _ ∧ Heap.IsList _ _ _ from ⟨⟨_, Heap.get?_push_size _ rfl, rfl, rfl⟩, hl'.push _⟩) (fun b hb => ?_) fun i u hu => ?_)
  · rcases List.mem_cons.mp hb with e | e
    · exact .inl e
    · exact .inr (by rw [List.mem_singleton.mp e]; exact lt)
  · have hi2 : i < zs.length := by rw [← hz]; exact (Array.getElem?_eq_some_iff.mp hu).1
    obtain ⟨t, e⟩ := SS.strs_at hi i u (by rw [Array.getElem?_toList]; exact hu)
    refine ⟨zs[i], t, List.getElem?_eq_getElem hi2, ?_⟩
    rw [e, List.getD_eq_getElem?_getD, List.getElem?_eq_getElem hi2]
    rfl
/-- an empty set object, as set() lays it -/
def set0 (w : World) : Obj := { cls := .type "set", dict := none, data := .set #[] 0 (.fresh 0 0 (!w.params.followText "set-order")) }
theorem tx_empty {h : Heap} {a : Addr} (ho : h.get? a = some (set0 w)) : TxSet w h a [] := by
  refine ⟨_, #[], 0, _, ho, ⟨rfl, rfl, rfl⟩, rfl, fun e he => (nomatch he), by simp, by simp, ⟨by decide, rfl⟩, List.Pairwise.nil, ?_⟩
  show _ ∨ (!w.params.followText "set-order") = true
  cases w.params.followText "set-order"
  · exact .inr rfl
  · exact .inl rfl
set_option maxHeartbeats 8000000 in
theorem call_set_tx {v : Value} {T : String} {zs : List Str} {Q : Value → Shared → Prop} (hh : A.handled = none) (Z : Src P w s.heap v T zs) (hb : zs.length + 1 < scanBound)
    (k : ∀ (h' : Heap) (tk : Nat), TxSet w h' s.heap.objs.size (zs.foldl dist []) → (∀ b o, s.heap.get? b = some o → h'.get? b = some o) → Q (.ref s.heap.objs.size) { s with heap := h', toks := tk }) :
    wpAny (model P w) A (call (.type "set") [v]) Q E s := by
  obtain ⟨c, tl, hmro⟩ := PySem.F.called_set.mro
  have hmade := PySem.F.called_set.made
  have hsub := PySem.F.called_set.sub
  refine wpAny_call (codeAny_of_tree ?_)
  show wpAny _ _ (callAny (.type "set") _) _ _ _
  refine wpAny_pure ⟨Code.quiet_builtin _ (by decide +kernel), codeAny_builtin PySem.F.entry_type_call ?_⟩
  rw [Around.under_plain (weight_type_call_type "set" [v] []) rfl]
  have h1 := PySem.F.called_set.notType
  have h2 := PySem.F.called_set.canCreate
  have hct := PySem.F.typeCall_set_1 v
  repeat (any_goals (first | assumption | wp_step))
  refine codeAny_mono (code_set_led1 v (E := E) (Q₁ := fun obj s₁ => obj = .ref s.heap.objs.size ∧ s₁ = { s with heap := s.heap.push (set0 w) }) ⟨rfl, rfl⟩) fun r s₁ hr => ?_
  cases r with
  | error e => exact hr
  | ok fl =>
    cases fl with
    | ret obj =>
      obtain ⟨rfl, rfl⟩ := hr
      have hS : (s.heap.push (set0 w)).get? s.heap.objs.size = some (set0 w) := Heap.get?_push_size _ rfl
      have hT : Shared.TypeIs { s with heap := s.heap.push (set0 w) } (.ref s.heap.objs.size) "set" := ⟨_, hS, rfl⟩
      have hli := PySem.F.called_set.init.lookup
      have hbi := PySem.F.called_set.init.bind (.ref s.heap.objs.size)
      repeat (any_goals (first | assumption | wp_step))
      refine codeAny_mono (codeAny_call_builtin (R := wants (fun r s₂ => r = .none ∧ ∃ h' tk, s₂ = { s with heap := h', toks := tk } ∧ TxSet w h' s.heap.objs.size (zs.foldl dist []) ∧
          (∀ b o, s.heap.get? b = some o → h'.get? b = some o)) E) PySem.F.called_set.init.plain PySem.F.entry_set_init (check_set_init_1 hT ?_)) fun r₂ s₂ hr₂ => ?_
      · have kp : ∀ b o, s.heap.get? b = some o → (s.heap.push (set0 w)).get? b = some o := fun b o e => Heap.get?_push_of_some _ e
        have tv := Z.ty { s with heap := s.heap.push (set0 w) } kp
        have z1 := Z.s1
        have z2 := Z.s2
        have z3 := Z.nd
        unfold Builtin.«set.__init__» noKeywords
        unfold Builtin.Frozenset.updateFrom
        generalize hPI : pyIter = PI
        wp_walk
        subst hPI
        have hh2 : A.in1.in1.handled = none := by simp [hh]
        have hh3 : A.in1.in1.in1.handled = none := by simp [hh]
        have sz : (s.heap.push (set0 w)).objs.size = s.heap.objs.size + 1 := Heap.size_push ..
        refine Z.it _ _ _ _ kp (by rw [sz]; exact Nat.le_succ _) hh2 fun o fp St Pv W st hf hv => ?_
        have nS : s.heap.objs.size ∉ fp := fun z => by
          rcases hf _ z with e | e
          · rw [sz] at e
            exact absurd e (Nat.ne_of_lt (Nat.lt_succ_self _))
          · exact absurd e (Nat.lt_irrefl _)
        refine wpAny_bind (wpAny_runValue (tx_loop ((W _ hh3).toS) s.heap.objs.size nS zs rfl hb hv (zs.length - 0) 0 _ (by omega) (Nat.zero_le _) st ?_ fun s' hm hS' => ?_))
        · exact tx_empty (Heap.get?_push_of_some _ hS)
        · obtain ⟨h', g2, d', tk', os'⟩ := s'
          obtain rfl : g2 = s.gens := hm.gens
          obtain rfl : d' = s.drawn := hm.drawn
          obtain rfl : os' = s.os := hm.os
          refine wpAny_pure (wpAny_pure ⟨rfl, h', tk', rfl, hS', fun b u e => hm.heap b u (fun z => ?_) (Heap.get?_push_of_some _ (kp b u e))⟩)
          have lt := Heap.lt_size e
          rcases List.mem_cons.mp z with e2 | e2
          · exact absurd lt (by rw [e2]; exact Nat.lt_irrefl _)
          · rw [List.mem_singleton.mp e2] at lt
            rw [sz] at lt
            exact absurd lt (Nat.not_lt.mpr (Nat.le_succ _))
      · cases r₂ with
        | error e => exact hr₂
        | ok fl₂ =>
          cases fl₂ with
          | ret r =>
            obtain ⟨rfl, h', tk, rfl, hS', hk'⟩ := hr₂
            repeat (any_goals (first | assumption | wp_step))
            exact k _ _ hS' hk'
          | _ => exact hr₂.elim
    | _ => exact hr.elim
end
end SL
namespace SL
open PySem PySem.Spec PyProof.Rows L2
theorem fold_nd : ∀ (zs l : List Str), l.Nodup → (zs.foldl dist l).Nodup
  | [], l, h => h
  | x :: r, l, h => by
    refine fold_nd r _ ?_
    unfold dist
    split
    · exact h
    · rename_i n
      exact List.nodup_cons.mpr ⟨n, h⟩
/-- the set of texts at a -/
def SetS (w : World) (a : Addr) (l : List Str) : HO := .ext fun h => TxSet w h a l
def chars (z : Str) : List Str := z.cps.toList.map fun c => ⟨#[c]⟩
section
variable {X : Cx}
theorem setS_new {w : World} {P : Program} {H : Hp} {h : Heap} {a : Addr} {l : List Str} (R : TxSet w h a l) : ObjOk P w H h a (SetS w a l) := by
  have ⟨o, _, _, _, ho, _⟩ := R
  exact ⟨R, ⟨o, ho⟩, fun h1 h2 p k => TxSet.at p k⟩
theorem setS_get {pins : List (Addr × Obj)} {σ : L2.St} {H : Hp} {s : Shared} {a : Addr} {l : List Str} (I : Inv X pins σ H s) (ha : H a = some (SetS X.w a l)) : TxSet X.w s.heap a l := (I.hok a _ ha).1
/-- what set(x) gives, x with the texts zs -/
def NewSet (w : World) (zs : List Str) (H : Hp) (Q : VK) : Prop := zs.length < 1000 ∧ ∀ a l, H a = none → l.Nodup → (∀ x, x ∈ l ↔ x ∈ zs) → Q (.ref a) (upd H a (SetS w a l))
def rSetU (K : PySem.W.Frag) (w : World) : List V → Hp → VK → Prop := fun xs H Q => match xs with
  | [.str z] => NewSet w (chars z) H Q
  | [.ref p] => ∃ zs : List Str, SqL K H p (zs.map V.str) ∧ NewSet w zs H Q
  | _ => False
theorem new_set {pins : List (Addr × Obj)} {σ : L2.St} {H : Hp} {s : Shared} {Q : VK} {v : Value} {T : String} {zs : List Str} (hc : X.calm = true) (I : Inv X pins σ H s) (Z : Src X.prog X.w s.heap v T zs) (q : NewSet X.w zs H Q) :
    wpAny (model X.prog X.w) X.A (call (.type "set") [v]) (EP X pins σ Q) X.xe s := by
  have sb : zs.length + 1 < scanBound := Nat.lt_of_lt_of_le (Nat.succ_lt_succ q.1) (by decide)
  refine call_set_tx (I.ok.hd hc) Z sb fun h' tk R k => ?_
  have fr := I.hok.fresh (Nat.le_refl s.heap.objs.size)
  exact ⟨.ref s.heap.objs.size, _, I.laid (t' := tk) k (Nat.le_refl _) (setS_new R), rfl, q.2 _ _ fr (fold_nd zs [] .nil) fun x => by rw [fold_mem]; simp⟩
theorem o_set {K : PySem.W.Frag} {w : World} (hc : X.calm = true) (hK : X.K = K := by rfl) (hw : X.w = w := by rfl) : CallR X (.type "set") (rSetU K w) := by
  subst hK
  subst hw
  intro pins s σ H xs us Q I r h
  match xs, h with
  | [.str z], q =>
    obtain ⟨u, rfl, t, rfl⟩ := vals1 r
    exact new_set hc I (src_text z t) q
  | [.ref p], ⟨zs, hs, q⟩ =>
    obtain ⟨u, rfl, hu⟩ := vals1 r
    obtain rfl : u = Value.ref p := hu
    obtain ⟨its, rv, pl, _⟩ := I.list hs
    exact new_set hc I (src_list pl.isList (by simpa using strsAre_of rv)) q
/-- len of a set of texts -/
def rLenS (w : World) : List V → Hp → VK → Prop := fun xs H Q => match xs with
  | [.ref p] => ∃ l, H p = some (SetS w p l) ∧ Q (.int (l.length : Int)) H
  | _ => False
theorem len_setS {w : World} (hw : X.w = w := by rfl) : CallR X (.builtin "len") (rLenS w) := by
  subst hw
  intro pins s σ H xs us Q I r h
  match xs, h with
  | [.ref p], ⟨l, hp, q⟩ =>
    obtain ⟨u, rfl, hu⟩ := vals1 r
    obtain rfl : u = Value.ref p := hu
    obtain ⟨o, es, ep, t, ho, hx, hd, g, pm, nd, ⟨hb, hf⟩, _⟩ := setS_get I hp
    have hn : es.size = l.length := by
      have e := pm.length_eq
      rw [List.length_map, Array.length_toList] at e
      exact e
    refine call_len_set ho hx hd hf ?_ ?_
    · have e : scanBound < 2 ^ 63 := by decide
      omega
    · rw [hn]
      exact ⟨.int l.length, H, I.tok _, ⟨_, rfl⟩, q⟩
/-! ### sorted -/
theorem un_laid {fs ex : List Addr} {H : Hp} {h h' : Heap} {a : Addr} {o : HO} (k : ∀ b u, h.get? b = some u → h'.get? b = some u) (na : ∀ b u, h.get? b = some u → b ≠ a) (hn : H a = none) : Un fs ex H (upd H a o) h h' :=
  ⟨fun b u q _ _ _ => k b u q, fun b u q _ _ _ => ⟨u.slots, k b u q⟩, fun b u q n _ => by rw [upd_ne (na b u q)]; exact n, fun b u q _ => ⟨u, k b u q⟩, fun b xs q => by rw [upd_ne (ne_of_none q hn)]; exact q,
    fun b u xs q => by rw [upd_ne (ne_of_none q hn)]; exact q, fun b ps q => ⟨#[], by rw [upd_ne (ne_of_none q hn), q]; simp⟩⟩
theorem hok_laid {P : Program} {w : World} {H : Hp} {h h' : Heap} {a : Addr} {o : HO} (x : HOk P w H h) (k : ∀ b u, h.get? b = some u → h'.get? b = some u) (hn : H a = none) (new : ObjOk P w (upd H a o) h' a o) : HOk P w (upd H a o) h' := fun b u e => by
  by_cases hb : b = a
  · subst hb
    rw [upd_same] at e
    cases e
    exact new
  · rw [upd_ne hb] at e
    exact (x b u e).stay (fun c v _ q => k c v q) (fun c q => by rw [upd_ne (ne_of_none q hn)]; exact q) fun c xs q => by rw [upd_ne (ne_of_none q hn)]; exact q
theorem sorted_of {P : Program} {w : World} {A : Around} {E : Value → Shared → Prop} {s : Shared} {v : Value} {zs : List Str} {Q : Value → Shared → Prop} (h64 : zs.length < 64)
    (col : ∀ (A : Around) (Q' : List Value → Shared → Prop), A.handled = none → (∀ s' vs zs', (∀ b o, s.heap.get? b = some o → s'.heap.get? b = some o) → s'.gens = s.gens → s'.os = s.os → PyProof.Rows.StrsAre vs zs' → zs'.Perm zs → Q' vs s') → wpAny (model P w) A (collect v) Q' E s)
    (hh : A.handled = none)
    (hQ : ∀ s' p (out : Array Value) (c : Nat) (ys : List Str), (∀ b o, s.heap.get? b = some o → s'.heap.get? b = some o) → s'.gens = s.gens → s'.os = s.os → (∀ b o, s.heap.get? b = some o → b ≠ p) → s'.heap.get? p = some (seqObj "list" out c) → PyProof.Rows.StrsAre out.toList ys → ys.Perm zs → sortedS ys = true → Q (.ref p) s') :
    wpAny (model P w) A (call (.builtin "sorted") [v]) Q E s := by
  refine Calls.call_function_entry kind_sorted plain_sorted entry_sorted (args_sorted1 _) ?_
  unfold Builtin.«sorted»
  refine wpAny_bind (m := checkCount "sorted" 1 1 _) (wpAny_pure (wpAny_bind (col A.in1 _ (by simp [hh]) fun s1 vs zs' k1 g1 o1 hs pm => ?_)))
  have hl : vs.length = zs.length := by rw [PyProof.Rows.StrsAre.length hs, pm.length_eq]
  refine wpAny_bind (wpAny_newList ?_ (by rw [hl, sizeLine_eq]; omega))
  have oL : (s1.heap.push (seqObj "list" vs.toArray 0)).get? s1.heap.objs.size = some (seqObj "list" vs.toArray 0) := Heap.get?_push_size _ rfl
  refine wpAny_bind (wpAny_holding (wpAny_call_entry slot_list_sort ⟨_, oL, rfl⟩ entry_list_sort (list_sort_treeK strKind_oneLt oL hs.keysOf (fun v₁ v₂ rest e => keyKind_strs (by rw [← e]; exact hs)) (by rw [hl]; exact h64) fun st' a1 a2 => ⟨_, rfl, ?_⟩) (args_list_sort _)))
  obtain ⟨ys, b1, b2, b3⟩ := sorted_out_str hs a1 a2
  obtain ⟨c, hc⟩ := sortedHeap_at (vs := vs) (out := (arrOf st').map (·.2)) oL
  refine wpAny_pure ⟨_, rfl, hQ _ s1.heap.objs.size _ c ys (fun b u e => ?_) g1 o1 (fun b u e => Nat.ne_of_lt (Heap.lt_size (k1 b u e))) hc b1 (b2.trans pm) b3⟩
  have q := k1 b u e
  have lt := Heap.lt_size q
  show (sortedHeap (s1.heap.push (seqObj "list" vs.toArray 0)) s1.heap.objs.size vs ((arrOf st').map (·.2))).get? b = some u
  rw [sortedHeap_old (Nat.ne_of_lt lt) (by rw [size_push']; exact Nat.lt_succ_of_lt lt)]
  exact Heap.get?_push_of_some _ q
theorem items_strs {z : Str} {acc : Array Value} (h : ItemsOf (SignAt z) acc z.cps.size) : PyProof.Rows.StrsAre acc.toList (chars z) := by
  have key : ∀ (l : List Value) (cs : List Nat), l.length = cs.length → (∀ (j : Nat) (v : Value), l[j]? = some v → ∃ (c : Nat) (u : Tok), cs[j]? = some c ∧ v = Value.str ⟨#[c]⟩ u) → PyProof.Rows.StrsAre l (cs.map fun c => ⟨#[c]⟩) := by
    intro l
    induction l with
    | nil =>
      intro cs hl _
      cases cs with
      | nil => exact .nil
      | cons c r => simp at hl
    | cons v r ih =>
      intro cs hl hv
      cases cs with
      | nil => simp at hl
      | cons c cs =>
        obtain ⟨c', u, e1, rfl⟩ := hv 0 v rfl
        have e2 : c = c' := by simpa using e1
        subst e2
        exact .cons _ u (ih cs (by simpa using hl) fun j v hj => by simpa using hv (j + 1) v (by simpa using hj))
  refine key acc.toList z.cps.toList (by rw [Array.length_toList, Array.length_toList]; exact h.1) fun j v hj => ?_
  obtain ⟨c, u, e1, e2⟩ := h.2 j v (by rw [← Array.getElem?_toList]; exact hj)
  exact ⟨c, u, by rw [Array.getElem?_toList]; exact e1, e2⟩
/-- what sorted(x) gives, x with the texts zs -/
def NewSorted (zs : List Str) (H : Hp) (Q : VK) : Prop := zs.length < 64 ∧ ∀ ys p, ys.Perm zs → sortedS ys = true → H p = none → Q (.ref p) (upd H p (.lst (ys.map V.str)))
theorem new_sorted {pins : List (Addr × Obj)} {σ : L2.St} {H : Hp} {s : Shared} {Q : VK} {v : Value} {zs : List Str} (hc : X.calm = true) (I : Inv X pins σ H s) (q : NewSorted zs H Q)
    (col : ∀ (A : Around) (Q' : List Value → Shared → Prop), A.handled = none → (∀ s' vs zs', (∀ b o, s.heap.get? b = some o → s'.heap.get? b = some o) → s'.gens = s.gens → s'.os = s.os → PyProof.Rows.StrsAre vs zs' → zs'.Perm zs → Q' vs s') → wpAny (model X.prog X.w) A (collect v) Q' X.xe s) :
    wpAny (model X.prog X.w) X.A (call (.builtin "sorted") [v]) (EP X pins σ Q) X.xe s := by
  refine sorted_of q.1 col (I.ok.hd hc) fun s' p out c ys k g o hp hg hi pm so => ?_
  have fr : H p = none := by
    cases e : H p with
    | none => rfl
    | some u =>
      obtain ⟨ob, hob⟩ := objOk_get (I.hok p u e)
      exact absurd rfl (hp p ob hob)
  have hlen : (ys.map V.str).length ≤ sizeLine := by
    have h1 := q.1
    rw [List.length_map, pm.length_eq, sizeLine_eq]
    omega
  have J : Inv X pins σ (upd H p (.lst (ys.map V.str))) { s with heap := s'.heap, gens := s'.gens, drawn := s'.drawn, toks := s'.toks } :=
    I.call (ch := []) (un_laid k hp fr) (hok_laid I.hok k fr ⟨hlen, out.toList, c, vals_of_strs hi, hg⟩) (by rw [g]; exact I.bare) fun _ z => nomatch z
  obtain ⟨h2, g2, d2, t2, o2⟩ := s'
  obtain rfl : o2 = s.os := o
  exact ⟨.ref p, _, J, rfl, q.2 ys p pm so fr⟩
def rSortedU (K : PySem.W.Frag) (w : World) : List V → Hp → VK → Prop := fun xs H Q => match xs with
  | [.str z] => NewSorted (chars z) H Q
  | [.ref p] => (∃ l, H p = some (SetS w p l) ∧ NewSorted l H Q) ∨ (rSortedS K [.ref p] H Q ∨ rSortedI K [.ref p] H Q)
  | _ => False
theorem o_sorted {K : PySem.W.Frag} {w : World} (hc : X.calm = true) (hK : X.K = K := by rfl) (hw : X.w = w := by rfl) : CallR X (.builtin "sorted") (rSortedU K w) := by
  subst hK
  subst hw
  intro pins s σ H xs us Q I r h
  match xs, h with
  | [.str z], q =>
    obtain ⟨u, rfl, t, rfl⟩ := vals1 r
    have h64 : z.cps.size < 64 := by
      have e := q.1
      unfold chars at e
      rw [List.length_map, Array.length_toList] at e
      exact e
    refine new_sorted hc I q fun A Q' hA k => wpAny_collect_str hA z t (fun s' acc kp g d o it => k s' acc.toList (chars z) kp g o (items_strs it) (.refl _)) (by rw [sizeLine_eq]; omega)
  | [.ref p], .inl ⟨l, hp, q⟩ =>
    obtain ⟨u, rfl, hu⟩ := vals1 r
    obtain rfl : u = Value.ref p := hu
    obtain ⟨o, es, ep, t, ho, hx, hd, g, pm, nd, ⟨hb, hf⟩, hr, hl⟩ := setS_get I hp
    refine new_sorted hc I q fun A Q' hA k => collect_set hA ⟨o, ho, hx.1, hd⟩ hf hb hr hl fun s1 vs k1 _ g1 o1 p1 => ?_
    have key : ∀ (us : List Value), (∀ v ∈ us, ∃ x t, v = Value.str x t) → PyProof.Rows.StrsAre us (us.map fun v => txOf (0, v)) := by
      intro us
      induction us with
      | nil => exact fun _ => .nil
      | cons v r ih =>
        intro hv
        obtain ⟨x, t, rfl⟩ := hv v List.mem_cons_self
        exact .cons x t (ih fun u hu => hv u (List.mem_cons_of_mem _ hu))
    refine k s1 vs (vs.map fun v => txOf (0, v)) k1 g1 o1 (key vs fun v hv => ?_) ?_
    · obtain ⟨e, he, rfl⟩ := List.mem_map.mp (p1.mem_iff.mp hv)
      obtain ⟨x, tk, e1, _⟩ := g e he
      exact ⟨x, tk, e1⟩
    · have p2 := p1.map fun v => txOf (0, v)
      rw [List.map_map] at p2
      exact p2.trans pm
  | [.ref p], .inr h => exact (cr_sortedS.or cr_sortedI) pins s σ H [.ref p] us Q I r h
end
end SL
namespace SL
open PySem PySem.Spec PyProof.Rows L2 SX HT
section
variable {prog : Program} {w : World} {A : Around} {E : Value → Shared → Prop} {s : Shared}
end
end SL
namespace SL
open PySem PySem.Spec PyProof.Rows L2 SX
theorem tyStr {K : PySem.W.Frag} {H : Hp} {z : Str} : tyV K "str" (.str z) H = True := propext ⟨fun _ => trivial, fun _ => rfl⟩
section
variable {X : Cx} {o e : Expr} {es : List Expr} {to : TE} {t : TA} {name : Str} {apos cpos : Pos} {T id : String} {r : V → List V → Hp → VK → Prop}
theorem pe_bmK {K : PySem.W.Frag} (pa : PlainAttrs T) (slot : Slot T name id) (hty : typeOf (.builtin id) = pure (.type "method_descriptor")) (hm : MtR X id r) (ho : PE X o to) (ha : PA X (e :: es) t)
    (hK : X.K = K := by rfl) (hbase : attributeBase o name X.env (eval o X.env) = eval o X.env := by rfl)
    (hfew : ((backTo cpos (starEach (e :: es) X.env)).all (fun x => !x.1) && (backToKw cpos (keywordEach [] X.env)).all (fun x => x.1.isSome)
      && decide ((e :: es).length + ([] : List Keyword).length + (if ([] : List Keyword).isEmpty then 0 else 1) < 30)) = true := by rfl)
    (hline : (apos.endLine == cpos.line) = true := by rfl) (hs : starEach (e :: es) X.env = (false, eval e X.env) :: starEach es X.env := by rfl) (hplain : (backTo cpos (starEach es X.env)).any (·.1) = false := by rfl) :
    PE X (.Call (.Attribute o name apos) (e :: es) [] cpos) (tBM K T r to t) := by
  subst hK
  exact pe_bm pa slot hty hm ho ha hbase hfew hline hs hplain
theorem MtR.imp {r r' : V → List V → Hp → VK → Prop} (h : MtR X id r) (i : ∀ x xs H Q, r' x xs H Q → r x xs H Q) : MtR X id r' := fun pins s σ H x xs v us Q I rx rs q => h pins s σ H x xs v us Q I rx rs (i _ _ _ _ q)
def rJoin (K : PySem.W.Frag) : V → List V → Hp → VK → Prop := fun x xs H Q => match x, xs with
  | .str a, [.ref p] => ∃ ys : List Str, (SqL K H p (ys.map V.str) ∨ SqT K H p (ys.map V.str)) ∧ (ys.map (·.length)).sum + ys.length * a.length ≤ 16777216 ∧ Q (.str (Txt.join a ys)) H
  | _, _ => False
theorem mo_join {K : PySem.W.Frag} (hK : X.K = K := by rfl) : MtR X "str.join" (rJoin K) := by
  subst hK
  refine MtR.imp mt_join fun x xs H Q h => ?_
  match x, xs, h with
  | .str a, [.ref p], ⟨ys, h1, h2, q⟩ => exact ⟨a, p, ys, rfl, rfl, h1, h2, q⟩
def rCount : V → List V → Hp → VK → Prop := fun x xs H Q => match x, xs with
  | .str a, [.str b] => Q (.int (Txt.count a b)) H
  | _, _ => False
/-! ### len of anything -/
def rLenW (K : PySem.W.Frag) (w : World) : List V → Hp → VK → Prop := fun xs H Q => match xs with
  | [.str z] => z.length ≤ sizeLine ∧ Q (.int z.length) H
  | [.ref p] => (∃ l, H p = some (SetS w p l) ∧ Q (.int (l.length : Int)) H) ∨ ∃ n, LenV K (.ref p) H n ∧ Q (.int n) H
  | _ => False
theorem o_lenW {K : PySem.W.Frag} {w : World} (hK : X.K = K := by rfl) (hw : X.w = w := by rfl) : CallR X (.builtin "len") (rLenW K w) := by
  subst hK hw
  refine CallR.imp (CallR.or len_setS o_len) fun xs H Q h => ?_
  match xs, h with
  | [.str z], ⟨h1, h2⟩ => exact .inr ⟨_, ⟨h1, rfl⟩, h2⟩
  | [.ref p], .inl h => exact .inl h
  | [.ref p], .inr h => exact .inr h
/-! ### list of a text, a list, a tuple -/
def rListU (K : PySem.W.Frag) : List V → Hp → VK → Prop := fun xs H Q => match xs with
  | [.str z] => z.length ≤ sizeLine ∧ ∀ p, H p = none → Q (.ref p) (upd H p (.lst ((chars z).map V.str)))
  | [.ref p] => ∃ ys, (SqL K H p ys ∨ SqT K H p ys) ∧ ∀ l, H l = none → Q (.ref l) (upd H l (.lst ys))
  | _ => False
/-! ### x[::-1] -/
def rRevU (K : PySem.W.Frag) : V → Hp → VK → Prop := fun x H Q => match x with
  | .str z => z.length ≤ sizeLine ∧ Q (.str (S z.cps.toList.reverse)) H
  | .ref a => (∃ xs, SqT K H a xs ∧ ∀ p, H p = none → Q (.ref p) (upd H p (.tup xs.reverse))) ∨ ∃ xs, SqL K H a xs ∧ ∀ p, H p = none → Q (.ref p) (upd H p (.lst xs.reverse))
  | _ => False
end
/-! ### texts by their signs -/
theorem join_chars : ∀ a : List Nat, Txt.join (S []) (a.map fun c => S [c]) = S a := by
  intro a
  have h : ∀ a : List Nat, TL.joinL [] (a.map fun c => [c]) = a := by
    intro a
    induction a with
    | nil => rfl
    | cons c r ih =>
      cases r with
      | nil => rfl
      | cons d r => exact congrArg (c :: ·) ih
  have e := SX.join_S [] (a.map fun c => [c])
  rw [h a, List.map_map] at e
  exact e
theorem len_chars (a : List Nat) : ((a.map fun c => S [c]).map (·.length)).sum + (a.map fun c => S [c]).length * (S []).length = a.length := by
  rw [S_len, List.length_nil, Nat.mul_zero, Nat.add_zero]
  induction a with
  | nil => rfl
  | cons c r ih =>
    rw [List.map_cons, List.map_cons, List.sum_cons, ih, S_len]
    simp; omega
end SL
namespace SL
open PySem PySem.Spec PyProof.Rows L2 SX
/-! ### enumerate of a text or a list -/
def Ites (z : Str) : It := ⟨fun i _ => i < z.cps.size, fun i H v H' => ∃ T c, v = .ref T ∧ H T = none ∧ H' = upd H T (.tup [.int (i : Nat), .str ⟨#[c]⟩]) ∧ z.cps[i]? = some c, fun i _ => z.cps.size ≤ i⟩
theorem turn_enumS {P : Program} {w : World} {K : PySem.W.Frag} {elts : List Expr} {kk : Nat} {tpos : Pos} (e it : Addr) (z : Str) (t : Tok) :
    Turn P w K (.Tuple elts kk tpos) (Ites z) [e, it] e (fun i h => (∃ old, IsEnum h e it ((i : Nat) : Int) old) ∧ h.IsStrIter it (strIterType z) z t i ∧ e ≠ it ∧ i ≤ z.cps.size) where
  mem := by simp
  obj := fun i h st b hb => by
    obtain ⟨⟨old, he⟩, ⟨o, ho, hc, hd⟩, _⟩ := st
    have e' : b = e ∨ b = it := by simpa using hb
    rcases e' with z | z
    · rw [z]; exact ⟨_, he, fun v q => nomatch q⟩
    · rw [z]; exact ⟨o, ho, fun v q => by rw [hd] at q; cases q⟩
  keep := fun i h h' st k => let ⟨⟨old, he⟩, ⟨o, ho, r⟩, hne, hi⟩ := st; ⟨⟨old, k e (by simp) _ he⟩, ⟨o, k it (by simp) o ho, r⟩, hne, hi⟩
  item := by
    intro X hP hw hK hc i pins s σ H E I hf st hg
    subst hP hw hK
    obtain ⟨⟨old, he⟩, hit, hne, hi⟩ := st
    have hg' : i < z.cps.size := hg
    have hel : e < s.heap.objs.size := Heap.lt_size he
    have hil : it < s.heap.objs.size := by obtain ⟨_, q, _⟩ := hit; exact Heap.lt_size q
    have D : Draws X.prog X.w X.A.in1 it [it] z.cps.size (fun i v => ∃ c u, z.cps[i]? = some c ∧ v = .str ⟨#[c]⟩ u) (fun i h => h.IsStrIter it (strIterType z) z t i) := by
      unfold strIterType
      split
      · exact Draws.strAscii (A := X.A.in1) (I.ok.hd hc) it z t
      · exact Draws.strWide (A := X.A.in1) (I.ok.hd hc) it z t
    refine wpAny_pyNext_enum_itemD D he hit hg' hne (by simpa using hne) fun x h' tk hPx ho hit' hT hsz hk => ?_
    obtain ⟨c, u, hcx, rfl⟩ := hPx
    refine ⟨_, rfl, wpAny_letOwnedTupleGo_enum (s := { s with heap := h', toks := tk + 1 }) ho fun h'' he' sb => ?_⟩
    have hT2 : h''.get? s.heap.objs.size = some { cls := .type "tuple", data := .seq #[.int i tk, .str ⟨#[c]⟩ u] } := (sb.2 _ (Nat.ne_of_gt hel)).trans hT
    have new : ObjOk X.prog X.w (upd H s.heap.objs.size (.tup [.int (i : Nat), .str ⟨#[c]⟩])) h'' s.heap.objs.size (.tup [.int (i : Nat), .str ⟨#[c]⟩]) :=
      ⟨by show 2 ≤ sizeLine; decide, [.int i tk, .str ⟨#[c]⟩ u], .cons ⟨_, rfl⟩ (.cons ⟨_, rfl⟩ .nil), ⟨_, hT2, rfl, _, rfl⟩⟩
    have I1 : Inv X pins σ (upd H s.heap.objs.size (.tup [.int (i : Nat), .str ⟨#[c]⟩])) { s with heap := h'', toks := tk + 1 } :=
      I.turnedNew (ch := [e, it]) (fun b ob hb q => (sb.2 b (fun z => hb (by simp [z]))).trans (hk b ob (fun z => hb (by simp [z])) (fun z => hb (by simp [z])) q)) hf (Nat.le_refl _) new
    refine ⟨.ref s.heap.objs.size, _, I1, rfl, ⟨_, c, rfl, I.hok.fresh (Nat.le_refl _), rfl, hcx⟩, ⟨⟨.str ⟨#[c]⟩ u, ?_⟩, ?_, hne, hg'⟩, fun b hb => ?_⟩
    · have e1 : ((i + 1 : Nat) : Int) = (i : Int) + 1 := by omega
      rw [e1]; exact he'
    · obtain ⟨o, ho', r⟩ := hit'
      exact ⟨o, (sb.2 it (Ne.symm hne)).trans ho', r⟩
    · have hb' : b < s.heap.objs.size := by
        have e' : b = e ∨ b = it := by simpa using hb
        rcases e' with z | z
        · rw [z]; exact hel
        · rw [z]; exact hil
      rw [upd_ne (Nat.ne_of_lt hb')]
      exact (hf b hb).1
  done := by
    intro X hP hw hK hc i pins s σ H E I hf st hg
    subst hP hw hK
    obtain ⟨⟨old, he⟩, hit, hne, hi⟩ := st
    have hg' : z.cps.size ≤ i := hg
    have ei : i = z.cps.size := by omega
    subst ei
    obtain ⟨f0, f1, f2, f3, f4, f5⟩ := hf it (by simp)
    have D : Draws X.prog X.w X.A.in1 it [it] z.cps.size (fun i v => ∃ c u, z.cps[i]? = some c ∧ v = .str ⟨#[c]⟩ u) (fun i h => h.IsStrIter it (strIterType z) z t i) := by
      unfold strIterType
      split
      · exact Draws.strAscii (A := X.A.in1) (I.ok.hd hc) it z t
      · exact Draws.strWide (A := X.A.in1) (I.ok.hd hc) it z t
    exact wpAny_pyNext_enum_endD D he hit fun h' eb => ⟨rfl, I.turned (t' := s.toks) (fun b o hb q => eb b o hb q) f0 f1 f3 f4 f5⟩
  self := fun A i s Q E st h => let ⟨⟨_, he⟩, _⟩ := st; wpAny_pyIter_enum he h
def iEnumU (K : PySem.W.Frag) (ta : TA) : TI := fun σ H R => ta σ H fun vs H1 => match vs with
  | [.ref a] => (∃ xs, SqL K H1 a xs) ∧ R (Ite K a) H1
  | [.str z] => R (Ites z) H1
  | _ => False
theorem o_enum {X : Cx} {K : PySem.W.Frag} {e : Expr} {te : TE} {p pos tpos : Pos} {elts : List Expr} {kk : Nat} (hg : Gl X "enumerate") (hm : X.mg "enumerate" = none) (he : PE X e te) (hs : starEach [e] X.env = (false, eval e X.env) :: starEach [] X.env := by rfl) (hK : X.K = K := by rfl) :
    PI X (.Tuple elts kk tpos) (.Call (.Name "enumerate" p) [e] [] pos) (iEnumU K (tCons te tNil)) := by
  subst hK
  refine ⟨fun pins s σ H R I h => ?_⟩
  refine Call_ (ld_blt I hg hm boot_enumerate (PyProof.Rows.callWith_type1 (args_cons (thn (he.run pins s σ H _ I h) fun u s1 ⟨v, H1, I1, r1, q1⟩ => args_nil ?_) hs) hs rfl))
  have q2 : (match [v] with
    | [.ref a] => (∃ xs, SqL X.K H1 a xs) ∧ R (Ite X.K a) H1
    | [.str z] => R (Ites z) H1
    | _ => False) := q1
  cases v with
  | ref a =>
    obtain ⟨⟨xs, hq⟩, q⟩ := q2
    cases r1
    obtain ⟨its, rv, p', hz⟩ := I1.list hq
    refine call_enumerate_list p'.isList fun h' he hit hsz hk => wpAny_pyIter_enum he ?_
    have I2 : Inv X pins σ H1 { s1 with heap := h' } := I1.kept (t' := s1.toks) hk
    refine ⟨s1.heap.objs.size + 1, [s1.heap.objs.size + 1, s1.heap.objs.size], _, _, H1, rfl, I2, turn_enum a (s1.heap.objs.size + 1) s1.heap.objs.size, ⟨⟨.none, he⟩, hit, Nat.succ_ne_self _⟩, fun b hb => ?_, q⟩
    have e' : b = s1.heap.objs.size + 1 ∨ b = s1.heap.objs.size := by simpa using hb
    have hle : s1.heap.objs.size ≤ b := by
      rcases e' with z | z
      · rw [z]; exact Nat.le_add_right _ _
      · rw [z]; exact Nat.le_refl _
    exact I1.fpOk hle (I1.hok.fresh hle)
  | str z =>
    obtain ⟨t, rfl⟩ := r1
    refine call_enumerate_str fun h' he hit hsz hk => wpAny_pyIter_enum he ?_
    have I2 : Inv X pins σ H1 { s1 with heap := h' } := I1.kept (t' := s1.toks) hk
    refine ⟨s1.heap.objs.size + 1, [s1.heap.objs.size + 1, s1.heap.objs.size], _, _, H1, rfl, I2, turn_enumS (s1.heap.objs.size + 1) s1.heap.objs.size z t, ⟨⟨.none, he⟩, hit, Nat.succ_ne_self _, Nat.zero_le _⟩, fun b hb => ?_, q2⟩
    have e' : b = s1.heap.objs.size + 1 ∨ b = s1.heap.objs.size := by simpa using hb
    have hle : s1.heap.objs.size ≤ b := by
      rcases e' with z | z
      · rw [z]; exact Nat.le_add_right _ _
      · rw [z]; exact Nat.le_refl _
    exact I1.fpOk hle (I1.hok.fresh hle)
  | _ => exact absurd q2 id
/-! ### max, min, insert -/
section
variable {X : Cx}
def rMaxU (K : PySem.W.Frag) : List V → Hp → VK → Prop := fun xs H Q => match xs with
  | [.int i, .int j] => Q (.int (if j > i then j else i)) H
  | [.ref a] => rMax K [.ref a] H Q
  | _ => False
theorem o_max {K : PySem.W.Frag} (hc : X.calm = true) (hK : X.K = K := by rfl) : CallR X (.builtin "max") (rMaxU K) := by
  subst hK
  refine CallR.imp (CallR.or (call_max2 hc) (cr_max hc)) fun xs H Q h => ?_
  match xs, h with
  | [.int i, .int j], q => exact .inl ⟨i, j, rfl, q⟩
  | [.ref a], q => exact .inr q
def rMinU (K : PySem.W.Frag) : List V → Hp → VK → Prop := fun xs H Q => match xs with
  | [.int i, .int j] => Q (.int (if j < i then j else i)) H
  | [.ref a] => rMin K [.ref a] H Q
  | _ => False
def rInsert : V → List V → Hp → VK → Prop := fun x vs H Q => match x, vs with
  | .ref l, [.int i, y] => ∃ xs, H l = some (.lst xs) ∧ xs.length < sizeLine ∧ 0 ≤ i ∧ i < 2 ^ 63 ∧ Q .non (upd H l (.lst (xs.take i.toNat ++ [y] ++ xs.drop i.toNat)))
  | _, _ => False
end
end SL
namespace SL
open PySem PySem.Spec PyProof.Rows L2 SX
theorem ifT {α : Sort _} {d : Decidable True} {a b : α} : @ite α True d a b = a := if_pos trivial
theorem ifF {α : Sort _} {d : Decidable False} {a b : α} : @ite α False d a b = b := if_neg id
/-- a statement by what is wanted behind it -/
def sMid (t : TS) : TS := fun D σ H => ∃ D' : Ends, t D' σ H ∧ (∀ σ H, D'.nx σ H → D.nx σ H) ∧ (∀ v H, D'.rt v H → D.rt v H) ∧ (∀ σ H, D'.bk σ H → D.bk σ H) ∧ ∀ σ H, D'.ct σ H → D.ct σ H
theorem ps_mid {X : Cx} {st : Stmt} {t : TS} (h : PS X st t) : PS X st (sMid t) := ⟨fun pins s σ H D I ⟨D', h1, n, r, b, c⟩ => thn (h.run pins s σ H D' I h1) fun f s' q => by
  cases f with
  | next => obtain ⟨σ', H', J, k⟩ := q; exact ⟨σ', H', J, n _ _ k⟩
  | brk => obtain ⟨σ', H', J, k⟩ := q; exact ⟨σ', H', J, b _ _ k⟩
  | cont => obtain ⟨σ', H', J, k⟩ := q; exact ⟨σ', H', J, c _ _ k⟩
  | ret u => obtain ⟨v, σ', H', J, e, k⟩ := q; exact ⟨v, σ', H', J, e, r _ _ k⟩⟩
/-- a statement, then the rest: Pm stands between -/
theorem q_stm {t u : TS} {D : Ends} {σ : L2.St} {H : Hp} (Pm : L2.St → Hp → Prop) (h : t { D with nx := Pm } σ H) (k : ∀ σ H, Pm σ H → u D σ H) : tSeq (sMid t) u D σ H :=
  ⟨{ D with nx := Pm }, h, k, fun _ _ q => q, fun _ _ q => q, fun _ _ q => q⟩
/-! ### forms of parts, as the laws write them -/
inductive PF where
  | one (c : Nat)
  | any
  | among (l : List Nat) (o : Bool)
  | stars
deriving DecidableEq
def SIG : List Nat := (Str.ofString "-.0123456789_abcdefghijklmnopqrstuvwxyz").cps.toList
theorem sig_len : SIG.length = 39 := by decide +kernel
theorem sig_up : SIG.Pairwise (· < ·) := by decide +kernel
def PF.d : PF → PyData
  | .one c => .tuple [.str "one", .str (S [c])]
  | .any => .tuple [.str "any"]
  | .among l o => .tuple [.str "among", .str (S l), .bool o]
  | .stars => .tuple [.str "stars"]
/-- a set of signs, rising -/
structure SigSet (l : List Nat) : Prop where
  ne : l ≠ []
  up : l.Pairwise (· < ·)
  sg : ∀ c ∈ l, c ∈ SIG
def PF.Ok : PF → Prop
  | .one c => c ∈ SIG
  | .among l _ => SigSet l ∧ l.length ≤ 12
  | _ => True
def PF.fits (f : PF) (c : Nat) : Bool := match f with
  | .one d => decide (c = d)
  | .among l o => (decide (c ∈ l)) != o
  | _ => true
def PF.many : PF → Bool
  | .stars => true
  | _ => false
/-- sets outside are of three signs at most -/
def PF.Low : PF → Prop
  | .among l true => l.length ≤ 3
  | _ => True
theorem manyOne {c : Nat} : (PF.one c).many = false := rfl
theorem manyAny : PF.any.many = false := rfl
theorem manyAmong {l : List Nat} {o : Bool} : (PF.among l o).many = false := rfl
theorem manyStars : PF.stars.many = true := rfl
theorem nd_up {l : List Nat} (h : l.Pairwise (· < ·)) : l.Nodup := h.imp fun h => Nat.ne_of_lt h
theorem str_nd_len : ∀ (l D : List Str), l.Nodup → (∀ x ∈ l, x ∈ D) → l.length ≤ D.length
  | [], _, _, _ => Nat.zero_le _
  | x :: l, D, hn, hs => by
    obtain ⟨h1, h2⟩ := List.nodup_cons.mp hn
    have hx : x ∈ D := hs x List.mem_cons_self
    have ih := str_nd_len l (D.erase x) h2 fun y hy => by
      have hne : y ≠ x := fun e => h1 (e ▸ hy)
      exact (List.mem_erase_of_ne hne).2 (hs y (List.mem_cons_of_mem _ hy))
    have e := List.length_erase_of_mem hx
    have hp : 0 < D.length := List.length_pos_of_mem hx
    rw [List.length_cons]
    omega
theorem nd_len {l : List Nat} (h : l.Nodup) (s : ∀ c ∈ l, c ∈ SIG) : l.length ≤ 39 := by
  have e := nat_nodup_len l SIG h s
  rw [sig_len] at e
  exact e
theorem SigSet.len {l : List Nat} (h : SigSet l) : l.length ≤ 39 := nd_len (nd_up h.up) h.sg
/-- data that may be compared, at most n deep -/
def DOk (n : Nat) (d : PyData) : Prop := d.canLay0 = true ∧ d.depth ≤ n
theorem DOk.up {n m : Nat} {d : PyData} (h : DOk n d) (e : n ≤ m) : DOk m d := ⟨h.1, Nat.le_trans h.2 e⟩
theorem dok_str {x : Str} {n : Nat} (h : PyData.strOk x = true) : DOk n (.str x) := ⟨by simp only [PyData.canLay0]; exact h, by simp only [PyData.depth]; omega⟩
theorem dok_bl {b : Bool} {n : Nat} : DOk n (.bool b) := ⟨by simp only [PyData.canLay0], by simp only [PyData.depth]; omega⟩
theorem dok_int {i : Int} {n : Nat} : DOk n (.int i) := ⟨by simp only [PyData.canLay0], by simp only [PyData.depth]; omega⟩
theorem dok_non {n : Nat} : DOk n .none := ⟨by simp only [PyData.canLay0], by simp only [PyData.depth]; omega⟩
theorem dok_all {n : Nat} : ∀ {ds : List PyData}, (∀ d ∈ ds, DOk n d) → PyData.canLayAll0 ds = true ∧ PyData.depthAll ds ≤ n
  | [], _ => ⟨by simp only [PyData.canLayAll0], by simp only [PyData.depthAll]; omega⟩
  | d :: r, h => by
    have h1 := h d List.mem_cons_self
    have h2 := dok_all (ds := r) fun e he => h e (List.mem_cons_of_mem _ he)
    refine ⟨by simp only [PyData.canLayAll0, h1.1, h2.1]; rfl, ?_⟩
    simp only [PyData.depthAll]
    have := h1.2
    have := h2.2
    omega
theorem dok_tup {n : Nat} {ds : List PyData} (h : ∀ d ∈ ds, DOk n d) : DOk (n + 1) (.tuple ds) := by
  have e := dok_all h
  exact ⟨by simp only [PyData.canLay0]; exact e.1, by simp only [PyData.depth]; omega⟩
theorem dok_lst {n : Nat} {ds : List PyData} (h : ∀ d ∈ ds, DOk n d) : DOk (n + 1) (.list ds) := by
  have e := dok_all h
  exact ⟨by simp only [PyData.canLay0]; exact e.1, by simp only [PyData.depth]; omega⟩
theorem DOk.shaped {n : Nat} {d : PyData} (h : DOk n d) (e : n ≤ 64) : SeqAt.shaped d = true := by
  show (d.canLay0 && decide (d.depth ≤ 64)) = true
  rw [Bool.and_eq_true]
  exact ⟨h.1, decide_eq_true (Nat.le_trans h.2 e)⟩
theorem DOk.eqv {n : Nat} {d : PyData} (h : DOk n d) : PyData.eqv d d = true := SeqAt.eqv_refl _ h.1
theorem all_nil {p : PyData → Prop} : ∀ d ∈ ([] : List PyData), p d := fun _ h => nomatch h
theorem all_cons {p : PyData → Prop} {x : PyData} {l : List PyData} (h : p x) (t : ∀ d ∈ l, p d) : ∀ d ∈ x :: l, p d := fun d h' => (List.mem_cons.mp h').elim (fun e => e ▸ h) (t d)
theorem ok_signs {l : List Nat} (h : ∀ c ∈ l, c ∈ SIG) : PyData.strOk (S l) = true := by
  have k : ∀ c ∈ SIG, c < 128 := by decide +kernel
  unfold PyData.strOk
  rw [← Array.all_toList, List.all_eq_true]
  exact fun c hc => decide_eq_true (Nat.lt_trans (k c (h c hc)) (by decide))
theorem PF.dok {f : PF} (h : f.Ok) : DOk 1 f.d := by
  cases f with
  | one c => exact dok_tup (all_cons (dok_str (by decide +kernel)) (all_cons (dok_str (ok_signs fun d hd => by rw [List.mem_singleton.mp hd]; exact h)) all_nil))
  | any => exact dok_tup (all_cons (dok_str (by decide +kernel)) all_nil)
  | among l o => exact dok_tup (all_cons (dok_str (by decide +kernel)) (all_cons (dok_str (ok_signs h.1.sg)) (all_cons dok_bl all_nil)))
  | stars => exact dok_tup (all_cons (dok_str (by decide +kernel)) all_nil)
/-! ### signs put in order -/
theorem S1_inj {a b : Nat} (h : S [a] = S [b]) : a = b := List.head_eq_of_cons_eq (S_inj h)
theorem map1_mem {cs : List Nat} {c : Nat} : S [c] ∈ (cs.map fun c => S [c]) ↔ c ∈ cs := by
  rw [List.mem_map]
  exact ⟨fun ⟨d, hd, e⟩ => by rw [← S1_inj e]; exact hd, fun h => ⟨c, h, rfl⟩⟩
theorem signs_of : ∀ {ys : List Str}, (∀ y ∈ ys, ∃ c, y = S [c]) → ∃ cs : List Nat, ys = cs.map fun c => S [c]
  | [], _ => ⟨[], rfl⟩
  | y :: r, h => by
    obtain ⟨c, rfl⟩ := h y List.mem_cons_self
    obtain ⟨cs, rfl⟩ := signs_of (ys := r) fun z hz => h z (List.mem_cons_of_mem _ hz)
    exact ⟨c :: cs, rfl⟩
theorem rising_codes : ∀ (cs : List Nat) (p : Nat), risingS (S [p]) (cs.map fun c => S [c]) = true → (p :: cs).Pairwise (· ≤ ·)
  | [], p, _ => by simp
  | c :: r, p, h => by
    have h' : (!ltCps [c] [p] && risingS (S [c]) (r.map fun c => S [c])) = true := h
    rw [Bool.and_eq_true] at h'
    have h1 : p ≤ c := by
      have e := h'.1
      unfold ltCps at e
      simp [ltCps] at e
      exact e
    have h2 := rising_codes r c h'.2
    refine List.pairwise_cons.mpr ⟨fun d hd => ?_, h2⟩
    rcases List.mem_cons.mp hd with rfl | hd
    · exact h1
    · exact Nat.le_trans h1 ((List.pairwise_cons.mp h2).1 d hd)
theorem sorted_codes : ∀ (cs : List Nat), sortedS (cs.map fun c => S [c]) = true → cs.Pairwise (· ≤ ·)
  | [], _ => .nil
  | c :: r, h => rising_codes r c h
theorem le_lt_nd : ∀ {l : List Nat}, l.Pairwise (· ≤ ·) → l.Nodup → l.Pairwise (· < ·)
  | [], _, _ => .nil
  | a :: r, h, n => by
    have h' := List.pairwise_cons.mp h
    have n' := List.nodup_cons.mp n
    refine List.pairwise_cons.mpr ⟨fun b hb => ?_, le_lt_nd h'.2 n'.2⟩
    have e := h'.1 b hb
    have q : a ≠ b := fun z => n'.1 (z ▸ hb)
    omega
theorem nd_unmap : ∀ {cs : List Nat}, (cs.map fun c => S [c]).Nodup → cs.Nodup
  | [], _ => .nil
  | c :: r, h => by
    have h' := List.nodup_cons.mp h
    exact List.nodup_cons.mpr ⟨fun q => h'.1 (map1_mem.mpr q), nd_unmap h'.2⟩
/-- sorted signs, each once -/
theorem sorted_signs {ys zs : List Str} (pm : ys.Perm zs) (so : sortedS ys = true) (nd : zs.Nodup) (h : ∀ z ∈ zs, ∃ c, z = S [c]) : ∃ cs : List Nat, ys = cs.map (fun c => S [c]) ∧ cs.Pairwise (· < ·) ∧ ∀ c, c ∈ cs ↔ S [c] ∈ zs := by
  obtain ⟨cs, rfl⟩ := signs_of (ys := ys) fun y hy => h y (pm.mem_iff.mp hy)
  exact ⟨cs, rfl, le_lt_nd (sorted_codes cs so) (nd_unmap (pm.nodup_iff.mpr nd)), fun c => by rw [← pm.mem_iff, map1_mem]⟩
theorem lkSign {a : V} : List.lookup (Str.ofString "sign") [(Str.ofString "sign", a)] = some a := rfl
theorem lkSigns {a b : V} : List.lookup (Str.ofString "signs") [(Str.ofString "signs", a), (Str.ofString "outside", b)] = some a := rfl
theorem lkParts {a : V} : List.lookup (Str.ofString "parts") [(Str.ofString "parts", a)] = some a := rfl
theorem lkOut {a b : V} : List.lookup (Str.ofString "outside") [(Str.ofString "signs", a), (Str.ofString "outside", b)] = some b := rfl
theorem pfNil {f : Str} {y : V} : putF f y [] = [(f, y)] := rfl
theorem pfOut {a y : V} : putF (Str.ofString "outside") y [(Str.ofString "signs", a)] = [(Str.ofString "signs", a), (Str.ofString "outside", y)] := rfl
theorem lkSteps {a b c : V} : List.lookup (Str.ofString "steps") [(Str.ofString "steps", a), (Str.ofString "spares", b), (Str.ofString "folders", c)] = some a := rfl
theorem lkSpares {a b c : V} : List.lookup (Str.ofString "spares") [(Str.ofString "steps", a), (Str.ofString "spares", b), (Str.ofString "folders", c)] = some b := rfl
theorem lkFolders {a b c : V} : List.lookup (Str.ofString "folders") [(Str.ofString "steps", a), (Str.ofString "spares", b), (Str.ofString "folders", c)] = some c := rfl
theorem pfSpares {a y : V} : putF (Str.ofString "spares") y [(Str.ofString "steps", a)] = [(Str.ofString "steps", a), (Str.ofString "spares", y)] := rfl
theorem pfFolders {a b y : V} : putF (Str.ofString "folders") y [(Str.ofString "steps", a), (Str.ofString "spares", b)] = [(Str.ofString "steps", a), (Str.ofString "spares", b), (Str.ofString "folders", y)] := rfl
theorem strEq {a b : String} : (Str.ofString a = Str.ofString b) = (a = b) := by
  refine propext ⟨fun h => ?_, fun h => by rw [h]⟩
  rw [Str.ofString_eq_toList, Str.ofString_eq_toList] at h
  have h1 : a.toList.map Char.toNat = b.toList.map Char.toNat := by
    have e := congrArg (fun x : Str => x.cps.toList) h
    exact e
  have h2 : a.toList = b.toList := by
    generalize a.toList = l at h1
    generalize b.toList = m at h1
    induction l generalizing m with
    | nil => cases m with
      | nil => rfl
      | cons d t => exact absurd h1 (by simp)
    | cons c r ih => cases m with
      | nil => exact absurd h1 (by simp)
      | cons d t =>
        rw [List.map_cons, List.map_cons] at h1
        injection h1 with h3 h4
        have e : c = d := Char.ext (UInt32.toNat_inj.mp h3)
        rw [e, ih t h4]
  exact String.toList_inj.mp h2
/-- lists of data, one of each -/
theorem dp_map {K : PySem.W.Frag} {H : Hp} {α : Type} (f : α → V) (d : α → PyData) (h : ∀ x, Dp K H (f x) (d x)) : ∀ l : List α, DpAll K H (l.map f) (l.map d)
  | [] => .nil
  | x :: r => .cons (h x) (dp_map f d h r)
/-! ### parts as objects -/
section
variable {K : PySem.W.Frag}
def PartO (K : PySem.W.Frag) (dx : Addr) : PF → HO
  | .one c => .ins (He.ga K "One") dx [("sign", .str (S [c]))]
  | .any => .ins (He.ga K "Any") dx []
  | .among l o => .ins (He.ga K "Among") dx [("signs", .str (S l)), ("outside", .bl o)]
  | .stars => .ins (He.ga K "Stars") dx []
def PartV (K : PySem.W.Frag) (f : PF) (v : V) (H : Hp) : Prop := ∃ p dx, v = .ref p ∧ H p = some (PartO K dx f)
theorem PartO.nl {dx : Addr} {f : PF} (l : List V) : PartO K dx f ≠ .lst l := by cases f <;> exact fun h => nomatch h
theorem PartV.nl {f : PF} {v : V} {H H' : Hp} (h : PartV K f v H) (e : NL H H') : PartV K f v H' := let ⟨p, dx, ev, hp⟩ := h; ⟨p, dx, ev, e _ _ hp PartO.nl⟩
theorem PartV.mono {f : PF} {v : V} {H H' : Hp} (h : PartV K f v H) (e : Same H H') : PartV K f v H' := h.nl (.of e)
end
theorem OkD.imp {P : Program} {w : World} {K : PySem.W.Frag} {mg : Str → Option Value} {base : Heap} {k : Nat} {f : Addr} {ps : List Str} {dvs : List V} {sp sp' : Sp} (h : OkD P w K mg base k f ps dvs sp) (i : ∀ vs H Q E, sp' vs H Q E → sp vs H Q E) : OkD P w K mg base k f ps dvs sp' := by
  obtain ⟨fd, ds, F, r⟩ := h
  exact ⟨fd, ds, F.imp i, r⟩
end SL
namespace SL
open PySem PySem.Spec PyProof.Rows L2 SX
/-! ### names along parts -/
/-- the parts laid along the name -/
def Fit : List PF → List Nat → Prop
  | [], w => w = []
  | f :: fs, w => if f.many = true then ∃ u v, w = u ++ v ∧ Fit fs v else ∃ c v, w = c :: v ∧ f.fits c = true ∧ Fit fs v
def starAt (fs : List PF) (j : Nat) : Bool := match fs[j]? with
  | some f => f.many
  | none => false
/-- from s on by stars alone -/
def Clos (fs : List PF) (s i : Nat) : Prop := s ≤ i ∧ ∀ k, s ≤ k → k < i → starAt fs k = true
theorem Clos.refl {fs : List PF} {s : Nat} : Clos fs s s := ⟨Nat.le_refl _, fun k a b => absurd b (by omega)⟩
theorem Clos.trans {fs : List PF} {a b c : Nat} (h : Clos fs a b) (g : Clos fs b c) : Clos fs a c := ⟨Nat.le_trans h.1 g.1, fun k h1 h2 => by
  rcases Nat.lt_or_ge k b with e | e
  · exact h.2 k h1 e
  · exact g.2 k e h2⟩
theorem Clos.snoc {fs : List PF} {a b : Nat} (h : Clos fs a b) (g : starAt fs b = true) : Clos fs a (b + 1) := h.trans ⟨Nat.le_succ _, fun k h1 h2 => by
  have e : k = b := by omega
  rw [e]
  exact g⟩
/-! ### forms of steps, steps as objects -/
inductive SF where
  | deep
  | seg (fs : List PF)
deriving DecidableEq
def SF.d : SF → PyData
  | .deep => .tuple [.str "deep"]
  | .seg fs => .tuple [.str "segment", .tuple (fs.map PF.d)]
/-- no two stars next to one another -/
def NoTwo : List PF → Prop
  | f :: g :: r => ¬ (f.many = true ∧ g.many = true) ∧ NoTwo (g :: r)
  | _ => True
structure PartsOk (fs : List PF) : Prop where
  ne : fs ≠ []
  ok : ∀ f ∈ fs, f.Ok
  two : NoTwo fs
  len : fs.length ≤ 60
def SF.Ok : SF → Prop
  | .deep => True
  | .seg fs => PartsOk fs
def SF.deepB : SF → Bool
  | .deep => true
  | _ => false
def SF.fits : SF → List Nat → Prop
  | .deep, _ => True
  | .seg fs, w => Fit fs w
theorem SF.dok {f : SF} (h : f.Ok) : DOk 3 f.d := by
  cases f with
  | deep => exact (dok_tup (n := 0) (all_cons (dok_str (by decide +kernel)) all_nil)).up (by decide)
  | seg fs => exact dok_tup (all_cons (dok_str (by decide +kernel)) (all_cons (dok_tup fun d hd => by
      obtain ⟨f, hf, rfl⟩ := List.mem_map.mp hd
      exact PF.dok (h.ok f hf)) all_nil))
section
variable {K : PySem.W.Frag}
/-- us are the parts fs -/
def PartsV (K : PySem.W.Frag) (fs : List PF) (us : List V) (H : Hp) : Prop := us.length = fs.length ∧ ∀ (i : Nat) (f : PF), fs[i]? = some f → ∃ u, us[i]? = some u ∧ PartV K f u H
theorem PartsV.nl {fs : List PF} {us : List V} {H H' : Hp} (h : PartsV K fs us H) (e : NL H H') : PartsV K fs us H' := ⟨h.1, fun i f hf => let ⟨u, a, b⟩ := h.2 i f hf; ⟨u, a, b.nl e⟩⟩
theorem PartsV.mono {fs : List PF} {us : List V} {H H' : Hp} (h : PartsV K fs us H) (e : Same H H') : PartsV K fs us H' := h.nl (.of e)
theorem PartsV.nil {H : Hp} : PartsV K [] [] H := ⟨rfl, fun i f h => by simp at h⟩
theorem PartsV.snoc {fs : List PF} {us : List V} {H : Hp} {f : PF} {u : V} (h : PartsV K fs us H) (g : PartV K f u H) : PartsV K (fs ++ [f]) (us ++ [u]) H := by
  refine ⟨by rw [List.length_append, List.length_append, h.1]; rfl, fun i f' hf => ?_⟩
  rcases Nat.lt_trichotomy i fs.length with e | e | e
  · rw [List.getElem?_append_left e] at hf
    obtain ⟨w, a, b⟩ := h.2 i f' hf
    exact ⟨w, by rw [List.getElem?_append_left (by rw [h.1]; exact e)]; exact a, b⟩
  · subst e
    rw [List.getElem?_append_right (Nat.le_refl _), Nat.sub_self] at hf
    have ef : f = f' := Option.some.inj hf
    subst ef
    exact ⟨u, by rw [← h.1, List.getElem?_append_right (Nat.le_refl _), Nat.sub_self]; rfl, g⟩
  · rw [List.getElem?_eq_none (by rw [List.length_append]; exact e)] at hf
    cases hf
def StepV (K : PySem.W.Frag) (f : SF) (v : V) (H : Hp) : Prop := match f with
  | .deep => ∃ p dx, v = .ref p ∧ H p = some (.ins (He.ga K "Deep") dx [])
  | .seg fs => ∃ p dx t us, v = .ref p ∧ H p = some (.ins (He.ga K "Segment") dx [("parts", .ref t)]) ∧ H t = some (.tup us) ∧ PartsV K fs us H ∧ fs ≠ []
theorem StepV.nl {f : SF} {v : V} {H H' : Hp} (h : StepV K f v H) (e : NL H H') : StepV K f v H' := by
  cases f with
  | deep => obtain ⟨p, dx, a, b⟩ := h; exact ⟨p, dx, a, e _ _ b fun _ z => nomatch z⟩
  | seg fs => obtain ⟨p, dx, t, us, a, b, c, d, z⟩ := h; exact ⟨p, dx, t, us, a, e _ _ b fun _ z => (nomatch z), e _ _ c fun _ z => (nomatch z), d.nl e, z⟩
theorem StepV.mono {f : SF} {v : V} {H H' : Hp} (h : StepV K f v H) (e : Same H H') : StepV K f v H' := h.nl (.of e)
end
end SL
namespace SL
open PySem PySem.Spec PyProof.Rows L2
abbrev fA (K : PySem.W.Frag) (x : Str) : Addr := He.ga K x
abbrev mA (K : PySem.W.Frag) (C m : Str) : Addr := He.ma K (He.ga K C) m
structure Txt (K : PySem.W.Frag) (mg : Str → Option Value) : Prop where
  F_paths_within : ∃ fd, FunD K "paths_within" "paths_within" (defArgs TX.s_paths_within) (defBody TX.s_paths_within) (defScope TX.s_paths_within) [] [] (fA K "paths_within") fd
  F_paths_of : ∃ fd, FunD K "paths_of" "paths_of" (defArgs TX.s_paths_of) (defBody TX.s_paths_of) (defScope TX.s_paths_of) [] [] (fA K "paths_of") fd
  F__law_cell : ∃ fd, FunD K "_law_cell" "_law_cell" (defArgs TX.s__law_cell) (defBody TX.s__law_cell) (defScope TX.s__law_cell) [] [] (fA K "_law_cell") fd
  F__law_mixed : ∃ fd, FunD K "_law_mixed" "_law_mixed" (defArgs TX.s__law_mixed) (defBody TX.s__law_mixed) (defScope TX.s__law_mixed) [] [] (fA K "_law_mixed") fd
  F__law_signs : ∃ fd, FunD K "_law_signs" "_law_signs" (defArgs TX.s__law_signs) (defBody TX.s__law_signs) (defScope TX.s__law_signs) [] [] (fA K "_law_signs") fd
  F__law_part : ∃ fd, FunD K "_law_part" "_law_part" (defArgs TX.s__law_part) (defBody TX.s__law_part) (defScope TX.s__law_part) [] [] (fA K "_law_part") fd
  F__law_segment : ∃ fd, FunD K "_law_segment" "_law_segment" (defArgs TX.s__law_segment) (defBody TX.s__law_segment) (defScope TX.s__law_segment) [] [] (fA K "_law_segment") fd
  F__law_row : ∃ fd, FunD K "_law_row" "_law_row" (defArgs TX.s__law_row) (defBody TX.s__law_row) (defScope TX.s__law_row) [] [] (fA K "_law_row") fd
  F__law_rows : ∃ fd, FunD K "_law_rows" "_law_rows" (defArgs TX.s__law_rows) (defBody TX.s__law_rows) (defScope TX.s__law_rows) [] [] (fA K "_law_rows") fd
  F__law_filled : ∃ fd, FunD K "_law_filled" "_law_filled" (defArgs TX.s__law_filled) (defBody TX.s__law_filled) (defScope TX.s__law_filled) [] [] (fA K "_law_filled") fd
  F__law_names : ∃ fd, FunD K "_law_names" "_law_names" (defArgs TX.s__law_names) (defBody TX.s__law_names) (defScope TX.s__law_names) [] [] (fA K "_law_names") fd
  F__law_free : ∃ fd, FunD K "_law_free" "_law_free" (defArgs TX.s__law_free) (defBody TX.s__law_free) (defScope TX.s__law_free) [] [] (fA K "_law_free") fd
  F__law_put_in : ∃ fd, FunD K "_law_put_in" "_law_put_in" (defArgs TX.s__law_put_in) (defBody TX.s__law_put_in) (defScope TX.s__law_put_in) [] [] (fA K "_law_put_in") fd
  F__law_tree : ∃ fd, FunD K "_law_tree" "_law_tree" (defArgs TX.s__law_tree) (defBody TX.s__law_tree) (defScope TX.s__law_tree) [] [] (fA K "_law_tree") fd
  F__law_paths : ∃ fd, FunD K "_law_paths" "_law_paths" (defArgs TX.s__law_paths) (defBody TX.s__law_paths) (defScope TX.s__law_paths) [] [] (fA K "_law_paths") fd
  F_law : ∃ fd, FunD K "law" "law" (defArgs TX.s_law) (defBody TX.s_law) (defScope TX.s_law) [] [] (fA K "law") fd
  g_paths_within : mg "paths_within" = some (.ref (fA K "paths_within"))
  g_paths_of : mg "paths_of" = some (.ref (fA K "paths_of"))
  g__law_cell : mg "_law_cell" = some (.ref (fA K "_law_cell"))
  g__law_mixed : mg "_law_mixed" = some (.ref (fA K "_law_mixed"))
  g__law_signs : mg "_law_signs" = some (.ref (fA K "_law_signs"))
  g__law_part : mg "_law_part" = some (.ref (fA K "_law_part"))
  g__law_segment : mg "_law_segment" = some (.ref (fA K "_law_segment"))
  g__law_row : mg "_law_row" = some (.ref (fA K "_law_row"))
  g__law_rows : mg "_law_rows" = some (.ref (fA K "_law_rows"))
  g__law_filled : mg "_law_filled" = some (.ref (fA K "_law_filled"))
  g__law_names : mg "_law_names" = some (.ref (fA K "_law_names"))
  g__law_free : mg "_law_free" = some (.ref (fA K "_law_free"))
  g__law_put_in : mg "_law_put_in" = some (.ref (fA K "_law_put_in"))
  g__law_tree : mg "_law_tree" = some (.ref (fA K "_law_tree"))
  g__law_paths : mg "_law_paths" = some (.ref (fA K "_law_paths"))
  g_law : mg "law" = some (.ref (fA K "law"))
  fr_len : mg "len" = none
  fr_range : mg "range" = none
  fr_set : mg "set" = none
  fr_sorted : mg "sorted" = none
  fr_list : mg "list" = none
  fr_tuple : mg "tuple" = none
  fr_isinstance : mg "isinstance" = none
  fr_int : mg "int" = none
  fr_enumerate : mg "enumerate" = none
  fr_max : mg "max" = none
theorem Txt.obj {K : PySem.W.Frag} {mg : Str → Option Value} (T : Txt K mg) : True := trivial
end SL
namespace SL
open PySem PySem.Spec PyProof.Rows L2
abbrev N_paths_within : List Str := ["tree", "ahead", "found", "name"]
theorem sc_paths_within : FnScope ["tree", "ahead", "found", "name"] ["tree", "ahead"] (defScope TX.s_paths_within) := ⟨rfl, rfl, rfl, by decide +kernel, rfl, by decide +kernel, by decide +kernel⟩
abbrev N_paths_of : List Str := ["tree"]
theorem sc_paths_of : FnScope ["tree"] ["tree"] (defScope TX.s_paths_of) := ⟨rfl, rfl, rfl, by decide +kernel, rfl, by decide +kernel, by decide +kernel⟩
abbrev N__law_cell : List Str := ["_law_script", "_law_k", "_law_cell_here", "_law_mark", "_law_high"]
theorem sc__law_cell : FnScope ["_law_script", "_law_k", "_law_cell_here", "_law_mark", "_law_high"] ["_law_script", "_law_k"] (defScope TX.s__law_cell) := ⟨rfl, rfl, rfl, by decide +kernel, rfl, by decide +kernel, by decide +kernel⟩
abbrev N__law_mixed : List Str := ["_law_cell_here", "_law_k", "_law_mark"]
theorem sc__law_mixed : FnScope ["_law_cell_here", "_law_k", "_law_mark"] ["_law_cell_here", "_law_k"] (defScope TX.s__law_mixed) := ⟨rfl, rfl, rfl, by decide +kernel, rfl, by decide +kernel, by decide +kernel⟩
abbrev N__law_signs : List Str := ["_law_cell_here", "_law_all_signs", "_law_step", "_law_k"]
theorem sc__law_signs : FnScope ["_law_cell_here", "_law_all_signs", "_law_step", "_law_k"] ["_law_cell_here"] (defScope TX.s__law_signs) := ⟨rfl, rfl, rfl, by decide +kernel, rfl, by decide +kernel, by decide +kernel⟩
abbrev N__law_part : List Str := ["_law_cell_here", "_law_signs_here", "_law_way", "_law_one", "_law_some"]
theorem sc__law_part : FnScope ["_law_cell_here", "_law_signs_here", "_law_way", "_law_one", "_law_some"] ["_law_cell_here", "_law_signs_here"] (defScope TX.s__law_part) := ⟨rfl, rfl, rfl, by decide +kernel, rfl, by decide +kernel, by decide +kernel⟩
abbrev N__law_segment : List Str := ["_law_cell_here", "_law_signs_here", "_law_parts", "_law_k", "_law_part_here"]
theorem sc__law_segment : FnScope ["_law_cell_here", "_law_signs_here", "_law_parts", "_law_k", "_law_part_here"] ["_law_cell_here", "_law_signs_here"] (defScope TX.s__law_segment) := ⟨rfl, rfl, rfl, by decide +kernel, rfl, by decide +kernel, by decide +kernel⟩
abbrev N__law_row : List Str := ["_law_cell_here", "_law_signs_here", "_law_steps", "_law_k", "_law_mark"]
theorem sc__law_row : FnScope ["_law_cell_here", "_law_signs_here", "_law_steps", "_law_k", "_law_mark"] ["_law_cell_here", "_law_signs_here"] (defScope TX.s__law_row) := ⟨rfl, rfl, rfl, by decide +kernel, rfl, by decide +kernel, by decide +kernel⟩
abbrev N__law_rows : List Str := ["_law_script", "_law_first", "_law_many", "_law_signs_here", "_law_found", "_law_k", "_law_cell_here", "_law_row_here"]
theorem sc__law_rows : FnScope ["_law_script", "_law_first", "_law_many", "_law_signs_here", "_law_found", "_law_k", "_law_cell_here", "_law_row_here"] ["_law_script", "_law_first", "_law_many", "_law_signs_here"] (defScope TX.s__law_rows) := ⟨rfl, rfl, rfl, by decide +kernel, rfl, by decide +kernel, by decide +kernel⟩
abbrev N__law_filled : List Str := ["_law_part_here", "_law_cell_here", "_law_signs_here", "_law_some", "_law_sign"]
theorem sc__law_filled : FnScope ["_law_part_here", "_law_cell_here", "_law_signs_here", "_law_some", "_law_sign"] ["_law_part_here", "_law_cell_here", "_law_signs_here"] (defScope TX.s__law_filled) := ⟨rfl, rfl, rfl, by decide +kernel, rfl, by decide +kernel, by decide +kernel⟩
abbrev N__law_names : List Str := ["_law_form", "_law_cell_here", "_law_signs_here", "_law_names_here", "_law_k", "_law_step", "_law_mark", "_law_more", "_law_some", "_law_j", "_law_way", "_law_at"]
theorem sc__law_names : FnScope ["_law_form", "_law_cell_here", "_law_signs_here", "_law_names_here", "_law_k", "_law_step", "_law_mark", "_law_more", "_law_some", "_law_j", "_law_way", "_law_at"] ["_law_form", "_law_cell_here", "_law_signs_here"] (defScope TX.s__law_names) := ⟨rfl, rfl, rfl, by decide +kernel, rfl, by decide +kernel, by decide +kernel⟩
abbrev N__law_free : List Str := ["_law_root", "_law_names_here", "_law_folder", "_law_here", "_law_place", "_law_name", "_law_last"]
theorem sc__law_free : FnScope ["_law_root", "_law_names_here", "_law_folder", "_law_here", "_law_place", "_law_name", "_law_last"] ["_law_root", "_law_names_here", "_law_folder"] (defScope TX.s__law_free) := ⟨rfl, rfl, rfl, by decide +kernel, rfl, by decide +kernel, by decide +kernel⟩
abbrev N__law_put_in : List Str := ["_law_root", "_law_names_here", "_law_folder", "_law_here", "_law_name"]
theorem sc__law_put_in : FnScope ["_law_root", "_law_names_here", "_law_folder", "_law_here", "_law_name"] ["_law_root", "_law_names_here", "_law_folder"] (defScope TX.s__law_put_in) := ⟨rfl, rfl, rfl, by decide +kernel, rfl, by decide +kernel, by decide +kernel⟩
abbrev N__law_tree : List Str := ["_law_script", "_law_first", "_law_many", "_law_forms", "_law_signs_here", "_law_root", "_law_k", "_law_cell_here", "_law_names_here", "_law_folder"]
theorem sc__law_tree : FnScope ["_law_script", "_law_first", "_law_many", "_law_forms", "_law_signs_here", "_law_root", "_law_k", "_law_cell_here", "_law_names_here", "_law_folder"] ["_law_script", "_law_first", "_law_many", "_law_forms", "_law_signs_here"] (defScope TX.s__law_tree) := ⟨rfl, rfl, rfl, by decide +kernel, rfl, by decide +kernel, by decide +kernel⟩
abbrev N__law_paths : List Str := ["_law_tree_here", "_law_ahead", "_law_found", "_law_name", "_law_inner"]
theorem sc__law_paths : FnScope ["_law_tree_here", "_law_ahead", "_law_found", "_law_name", "_law_inner"] ["_law_tree_here", "_law_ahead"] (defScope TX.s__law_paths) := ⟨rfl, rfl, rfl, by decide +kernel, rfl, by decide +kernel, by decide +kernel⟩
abbrev N_law : List Str := ["_law_script", "_law_signs_here", "_law_forms", "_law_tree_here", "_law_due", "_law_turn", "_law_found"]
theorem sc_law : FnScope ["_law_script", "_law_signs_here", "_law_forms", "_law_tree_here", "_law_due", "_law_turn", "_law_found"] ["_law_script"] (defScope TX.s_law) := ⟨rfl, rfl, rfl, by decide +kernel, rfl, by decide +kernel, by decide +kernel⟩
end SL
open PySem PySem.Spec PyProof.Rows L2 SL in
local macro_rules | `(tactic| walk_at "rd") => `(tactic| simp only [tVar, tC, tOp, tUn, tCall, tMeI, tMake, tMakN, tMakK, tMakKr, tCB, tCons, tNil, tTup, tLst, tTest, tB, tAnd, tOr, tNot, tAndV, tOrV, tNotV, tOrT, tAndT, tNotT, tIf, tIfS, tSeq, tAsg, gName, tRet, tRetN, tNext, tDrop, tBreak, tCont, tIsN, tNotN, tFld, sFld, tPart, tNoPart, tSl,
  rI, rI0, rU, rAddU, rMulU, rEqU, rNeU, rCmp, rInU, rNotInU, rIxU, rSlU, rLenU, rLenW, rJoin, rCount, rListU, rRevU, rSetU, rSortedU, NewSet, NewSorted, tBM, tBM0, SL.tyStr, rTupU, rMaxU, rMinU, rInsert, rPop, rSetL, gSub, iEnumU, rIsiU, rAll, rAny, rIsBo, rNotBo, rIntU, rIadd, rIn, flatV, rAppend, tyV, tAug, rRep, rCat, sDPut, tDGet, tDIn, tDNotIn, tDNewK, tDisp, tPairs, tDGet1, tDGet2, rListD, rDClear, iZip, iU, iRng1, iRng2, iRevR, tRg1, wipe, SL.sameT, Int.zero_add, isRef, scal, Bool.or_true, Bool.true_or, Bool.or_false, Bool.false_or, Bool.or_self,
  L2.start, SL.cxK, SL.cxW, SL.cxP, SL.truBl, SL.truInt, SL.truNon, SL.truStr, SL.lenStr, List.map_cons, List.map_nil, List.length_cons, List.length_nil, List.replicate, List.reverse_cons, List.reverse_nil, List.nil_append, List.cons_append, List.append_nil, List.set_cons_zero, List.set_cons_succ, List.getElem?_cons_zero, List.getElem?_cons_succ, Nat.zero_add, Nat.reduceAdd, Nat.reduceSub, Nat.sub_self, Nat.add_sub_cancel,
  List.cons.injEq, V.int.injEq, V.str.injEq, V.bl.injEq, V.ref.injEq, Option.some.injEq, reduceCtorEq, exists_eq_left', exists_eq_left, exists_eq', exists_eq, exists_and_left, exists_and_right, and_true, true_and, false_and, and_false, false_or, or_false, decide_eq_true_eq, Bool.not_eq_true', decide_eq_false_iff_not, SL.ite_tt, SL.ite_ff, ne_eq, not_true_eq_false, not_false_eq_true, forall_eq, forall_eq', Bool.not_true, Bool.not_false, decide_true, decide_false, SL.le_sz, SL.lt_sz, SL.ifT, SL.ifF, SL.strEq, String.reduceEq, SL.manyOne, SL.manyAny, SL.manyAmong, SL.manyStars, Nat.reduceLeDiff, Nat.reduceLT, Int.reduceLT, Int.reduceLE])

local macro_rules | `(tactic| walk_at "sm") => `(tactic| (first | exact L2.Same.refl _ | assumption | (repeat (first | exact L2.Same.refl _ | assumption | refine L2.Same.trans ?_ (SL.same_new (by assumption))))))
open PySem PySem.Spec PyProof.Rows L2 SL in
local macro_rules | `(tactic| walk_at "rdh") => `(tactic| (simp only [tVar, tC, tOp, tUn, tCall, tMeI, tMake, tMakN, tMakK, tMakKr, tCB, tCons, tNil, tTup, tLst, tTest, tB, tAnd, tOr, tNot, tAndV, tOrV, tNotV, tOrT, tAndT, tNotT, tIf, tIfS, tSeq, tAsg, gName, tRet, tRetN, tNext, tDrop, tBreak, tCont, tIsN, tNotN, tFld, sFld, tPart, tNoPart, tSl,
  rI, rI0, rU, rAddU, rMulU, rEqU, rNeU, rCmp, rInU, rNotInU, rIxU, rSlU, rLenU, rLenW, rJoin, rCount, rListU, rRevU, rSetU, rSortedU, NewSet, NewSorted, tBM, tBM0, SL.tyStr, rTupU, rMaxU, rMinU, rInsert, rPop, rSetL, gSub, iEnumU, rIsiU, rAll, rAny, rIsBo, rNotBo, rIntU, rIadd, rIn, flatV, rAppend, tyV, tAug, rRep, rCat, sDPut, tDGet, tDIn, tDNotIn, tDNewK, tDisp, tPairs, tDGet1, tDGet2, rListD, rDClear, iZip, iU, iRng1, iRng2, iRevR, tRg1, wipe, SL.sameT, Int.zero_add, isRef, scal, Bool.or_true, Bool.true_or, Bool.or_false, Bool.false_or, Bool.or_self,
  L2.start, SL.cxK, SL.cxW, SL.cxP, SL.truBl, SL.truInt, SL.truNon, SL.truStr, SL.lenStr, List.map_cons, List.map_nil, List.length_cons, List.length_nil, List.replicate, List.reverse_cons, List.reverse_nil, List.nil_append, List.cons_append, List.append_nil, List.set_cons_zero, List.set_cons_succ, List.getElem?_cons_zero, List.getElem?_cons_succ, Nat.zero_add, Nat.reduceAdd, Nat.reduceSub, Nat.sub_self, Nat.add_sub_cancel,
  List.cons.injEq, V.int.injEq, V.str.injEq, V.bl.injEq, V.ref.injEq, Option.some.injEq, reduceCtorEq, exists_eq_left', exists_eq_left, exists_eq', exists_eq, exists_and_left, exists_and_right, and_true, true_and, false_and, and_false, false_or, or_false, decide_eq_true_eq, Bool.not_eq_true', decide_eq_false_iff_not, SL.ite_tt, SL.ite_ff, ne_eq, not_true_eq_false, not_false_eq_true, forall_eq, forall_eq', Bool.not_true, Bool.not_false, decide_true, decide_false, SL.le_sz, SL.lt_sz, SL.ifT, SL.ifF, SL.strEq, String.reduceEq, SL.manyOne, SL.manyAny, SL.manyAmong, SL.manyStars, Nat.reduceLeDiff, Nat.reduceLT, Int.reduceLT, Int.reduceLE, SL.PartO, SL.lkSign, SL.lkSigns, SL.lkOut, SL.lkParts, SL.lkSteps, SL.lkSpares, SL.lkFolders, SL.pfNil, SL.pfOut, SL.pfSpares, SL.pfFolders, L2.upd_same, L2.upd_upd, HO.ins.injEq, and_assoc, *]))
local macro_rules | `(tactic| walk_at "rdx") => `(tactic| (walk_at "rd"; repeat (refine ⟨_, Or.inr (by assumption), _, rfl, ?_⟩; try walk_at "rd")))
namespace SL
open PySem PySem.Spec PyProof.Rows L2 SX
section
variable {P : Program} {w : World} {K : PySem.W.Frag} {mg : Str → Option Value} {base : Heap}

/-! ### is_sign, the drawn numbers -/
def spCell (K : PySem.W.Frag) : Sp := fun vs H Q _ => ∃ a k, ∃ ns : List Int, vs = [.ref a, .int k] ∧ SqL K H a (ns.map V.int) ∧ ns.length ≤ 63 ∧ 0 ≤ k ∧ k < 64 ∧ ∀ c, Q (.int c) H
theorem ok__law_cell (T : Txt K mg) : OkD P w K mg base 1 (fA K "_law_cell") ["_law_script", "_law_k"] [] (spCell K) := by
  refine okD T.F__law_cell sc__law_cell (fun _ _ _ _ _ _ us hl => match us, hl with | [_, _], _ => rfl) ?_ ?_
  · rintro vs H Q E ⟨a, k, ns, rfl, _⟩
    rfl
  · rintro cdv A outer s H vs Q E hr ⟨a, k, ns, rfl, hs, hn, h0, h1, q⟩
    refine ⟨_, (pss_cons (ps_set (i := 2) sc__law_cell.nd rfl (Or.inl rfl) (pe_mid (pe_ifExp (pt_cmpR o_lt (pv 1) (pe_callB (o_lenW (K := K) (w := w)) (by rfl) T.fr_len boot_len (pa_cons (pv 0) pa_nil)) (nomark _)) (pe_ix (o_ix (K := K)) (pv 0) (pv 1) (fun _ _ => rfl)) pe_int)))
  (pss_cons (ps_set (i := 3) sc__law_cell.nd rfl (Or.inl rfl) (pe_mid (pe_op op_mod (pe_op o_mul (pe_op (o_add (K := K)) (pe_op op_mod (pv 2) pe_int) (pe_op o_mul pe_int (pe_op (o_add (K := K)) (pv 1) pe_int))) pe_int) pe_int)))
  (pss_cons (ps_set (i := 3) sc__law_cell.nd rfl (Or.inl rfl) (pe_mid (pe_op op_mod (pe_op o_mul (pe_op op_mod (pe_op o_mul (pv 3) (pv 3)) pe_int) pe_int) pe_int)))
  (pss_cons (ps_set (i := 4) sc__law_cell.nd rfl (Or.inl rfl) (pe_mid (pe_op (o_add (K := K)) (pe_op o_mul (pe_op op_mod (pe_op op_fdivW (pv 2) pe_int) (pe_op op_pow pe_int pe_int)) pe_int) (pv 3))))
  (pss_one (ps_ret (pe_op (o_add (K := K)) (pe_op o_mul (pv 4) pe_int) (pe_op op_mod (pe_op o_mul (pv 3) (pv 3)) pe_int)))))))), ?_⟩
    have hl : LenV K (V.ref a) H (ns.map V.int).length := .inl ⟨_, hs, rfl⟩
    refine q_mid (fun _ => True) ?_ fun n _ => ?_
    · walk_at "rd"
      refine .inr ⟨_, hl, ite2 (fun hk => ?_) (fun _ => trivial)⟩
      obtain ⟨j, rfl⟩ : ∃ j : Nat, k = (j : Int) := ⟨k.toNat, by omega⟩
      have hj : j < (ns.map V.int).length := by omega
      have hj2 : j < ns.length := by rw [List.length_map] at hj; exact hj
      refine ⟨_, .inl hs, V.int ns[j], atI_nat ?_, _, rfl⟩
      rw [List.getElem?_map, List.getElem?_eq_getElem hj2]
      rfl
    have b : ∀ (x : Int), 0 ≤ x % 2147483647 ∧ x % 2147483647 < 2147483647 := fun x => ⟨Int.emod_nonneg _ (by decide), Int.emod_lt_of_pos _ (by decide)⟩
    have b2 : ∀ (x : Int), 0 ≤ x % 2147483629 ∧ x % 2147483629 < 2147483629 := fun x => ⟨Int.emod_nonneg _ (by decide), Int.emod_lt_of_pos _ (by decide)⟩
    have sm : ∀ (x y : Int), 0 ≤ x → x < 2147483647 → CMul x y := fun x y h1 h2 => .inl ⟨by omega, by omega⟩
    have sm2 : ∀ (x y : Int), 0 ≤ y → y ≤ 2147483647 → CMul x y := fun x y h1 h2 => .inr ⟨by omega, by omega⟩
    refine q_mid (fun m => 0 ≤ m ∧ m < 2147483647) ?_ fun m hm => ?_
    · walk_at "rd"
      exact ⟨sm _ _ (by decide) (by decide), sm2 _ _ (by decide) (by decide), b _⟩
    refine q_mid (fun m => 0 ≤ m ∧ m < 2147483647) ?_ fun m2 hm2 => ?_
    · walk_at "rd"
      exact ⟨sm _ _ hm.1 hm.2, sm2 _ _ (by decide) (by decide), b _⟩
    refine q_mid (fun _ => True) ?_ fun hgh _ => ?_
    · walk_at "rd"
      exact ⟨⟨by decide, by decide⟩, ⟨by decide, by decide, by decide⟩, by decide, sm2 _ _ (by decide) (by decide)⟩
    walk_at "rd"
    exact ⟨sm2 _ _ (by decide) (by decide), sm _ _ hm2.1 hm2.2, q _⟩
/-- four signs -/
def SignV (v : V) : Prop := ∃ c ∈ SIG, v = .str ⟨#[c]⟩
/-- the sign at a place -/
def sgAt (i : Int) : V := .str (S [SIG.getD i.toNat 0])
theorem sig_get {i : Int} (h0 : 0 ≤ i) (h1 : i < 39) : atI SIG i = some (SIG.getD i.toNat 0) ∧ SIG.getD i.toNat 0 ∈ SIG := by
  obtain ⟨j, rfl⟩ : ∃ j : Nat, i = (j : Int) := ⟨i.toNat, by omega⟩
  have hj : j < SIG.length := by rw [sig_len]; omega
  have e : SIG.getD (j : Int).toNat 0 = SIG[j] := by
    rw [Int.toNat_natCast, List.getD_eq_getElem?_getD, List.getElem?_eq_getElem hj]
    rfl
  rw [e]
  exact ⟨atI_nat (List.getElem?_eq_getElem hj), List.getElem_mem hj⟩
theorem sgAt_ne {i j : Int} (h0 : 0 ≤ i) (h1 : i < 39) (g0 : 0 ≤ j) (g1 : j < 39) (h : i ≠ j) : sgAt i ≠ sgAt j := by
  intro e
  obtain ⟨a, rfl⟩ : ∃ a : Nat, i = (a : Int) := ⟨i.toNat, by omega⟩
  obtain ⟨b, rfl⟩ : ∃ b : Nat, j = (b : Int) := ⟨j.toNat, by omega⟩
  have ha : a < SIG.length := by rw [sig_len]; omega
  have hb : b < SIG.length := by rw [sig_len]; omega
  unfold sgAt at e
  rw [Int.toNat_natCast, Int.toNat_natCast, List.getD_eq_getElem?_getD, List.getD_eq_getElem?_getD, List.getElem?_eq_getElem ha, List.getElem?_eq_getElem hb] at e
  have e2 := S1_inj (V.str.inj e)
  rcases Nat.lt_trichotomy a b with q | q | q
  · have := List.pairwise_iff_getElem.mp sig_up a b ha hb q
    have e3 : SIG[a] = SIG[b] := e2
    omega
  · exact h (by rw [q])
  · have := List.pairwise_iff_getElem.mp sig_up b a hb ha q
    have e3 : SIG[a] = SIG[b] := e2
    omega
def spSigns : Sp := fun vs H Q _ => ∃ c, vs = [.int c] ∧ ∀ p l H', l.length = 4 → l.Nodup → (∀ v ∈ l, SignV v) → H p = none → Same H H' → H' p = some (.lst l) → Q (.ref p) H'
theorem ok__law_signs (T : Txt K mg) : OkD P w K mg base 1 (fA K "_law_signs") ["_law_cell_here"] [] spSigns := by
  refine okD T.F__law_signs sc__law_signs (fun _ _ _ _ _ _ us hl => match us, hl with | [_], _ => rfl) ?_ ?_
  · rintro vs H Q E ⟨c, rfl, _⟩
    rfl
  · rintro cdv A outer s H vs Q E hr ⟨c, rfl, q⟩
    refine ⟨_, (pss_cons (ps_set (i := 1) sc__law_signs.nd rfl (Or.inr rfl) pe_str)
  (pss_cons (ps_set (i := 2) sc__law_signs.nd rfl (Or.inr rfl) (pe_op o_mul pe_int (pe_op (o_add (K := K)) pe_int (pe_op op_mod (pe_op op_fdivW (pv 0) pe_int) pe_int))))
  (pss_one (ps_ret (pe_lc (own := [("_law_k", 3)]) (g := (gName 3)) (tt := tYes) rfl sc__law_signs.nd (pi_mid (pi_range1 rfl T.fr_range (pa_cons pe_int pa_nil))) (blkOk_by (N := N__law_signs) (sc := defScope TX.s__law_signs) (by decide +kernel)) (fun _ _ _ _ _ => (pg_name (i := 3) sc__law_signs.nd rfl (Or.inl rfl))) (fun _ _ _ _ _ => pts_nil) (fun _ _ _ _ _ => (pe_mid (pe_ix (o_ix (K := K)) (pv 1) (pe_op op_mod (pe_op (o_add (K := K)) (pv 0) (pe_op o_mul (pv 2) (pv 3))) pe_int) (fun _ _ => rfl))))))))), ?_⟩
    walk_at "rd"
    refine ⟨⟨by decide, by decide⟩, .inl ⟨by decide, by decide⟩, ?_⟩
    refine lc_mid (J0 := Itr 0 4) (H0 := H) ?_ walk_range (by decide) (fun k acc _ => acc = (List.range k).map fun (j : Nat) => sgAt ((c + 7 * (1 + c / 39 % 2) * (j : Int)) % 39)) (fun _ _ _ _ _ h => h) rfl (fun _ _ => trivial) (fun _ _ _ _ y => y_fn y) (fun _ => rfl) ?_ ?_
    · walk_at "rd"
      exact ⟨by decide, by decide, rfl⟩
    · rintro k x acc H' H'' hk sm hc ⟨rfl, rfl⟩
      walk_at "rd"
      refine ⟨.inl ⟨by omega, by omega⟩, by decide +kernel, ?_⟩
      have hg := sig_get (i := (c + 7 * (1 + c / 39 % 2) * k) % 39) (Int.emod_nonneg _ (by decide)) (Int.emod_lt_of_pos _ (by decide))
      refine ⟨_, hg.1, ?_⟩
      rw [List.range_succ, List.map_append, ← hc]
      rfl
    · intro p acc H' hp sm hD hl hc
      have b : ∀ x : Int, 0 ≤ x % 39 ∧ x % 39 < 39 := fun x => ⟨Int.emod_nonneg _ (by decide), Int.emod_lt_of_pos _ (by decide)⟩
      have hx : c / 39 % 2 = 0 ∨ c / 39 % 2 = 1 := by omega
      have hc4 : acc = [sgAt ((c + 7 * (1 + c / 39 % 2) * 0) % 39), sgAt ((c + 7 * (1 + c / 39 % 2) * 1) % 39), sgAt ((c + 7 * (1 + c / 39 % 2) * 2) % 39), sgAt ((c + 7 * (1 + c / 39 % 2) * 3) % 39)] := hc
      refine q p acc H' hl ?_ ?_ hp sm hD
      · rw [hc4]
        have ne : ∀ x y : Int, x % 39 ≠ y % 39 → sgAt (x % 39) ≠ sgAt (y % 39) := fun x y h => sgAt_ne (b x).1 (b x).2 (b y).1 (b y).2 h
        rcases hx with h | h <;> rw [h] <;>
          refine List.nodup_cons.mpr ⟨?_, List.nodup_cons.mpr ⟨?_, List.nodup_cons.mpr ⟨?_, List.nodup_cons.mpr ⟨List.not_mem_nil, .nil⟩⟩⟩⟩ <;>
          simp only [List.mem_cons, List.not_mem_nil, or_false, not_or] <;>
          (try refine ⟨ne _ _ (by omega), ne _ _ (by omega), ne _ _ (by omega)⟩) <;> (try refine ⟨ne _ _ (by omega), ne _ _ (by omega)⟩) <;> exact ne _ _ (by omega)
      · rw [hc4]
        have s : ∀ x : Int, SignV (sgAt (x % 39)) := fun x => ⟨_, (sig_get (b x).1 (b x).2).2, rfl⟩
        intro v hv
        simp only [List.mem_cons, List.not_mem_nil, or_false] at hv
        rcases hv with rfl | rfl | rfl | rfl <;> exact s _

def spPart (K : PySem.W.Frag) : Sp := fun vs H Q _ => ∃ c p ws, vs = [.int c, .ref p] ∧ SqL K H p ws ∧ ws.length = 4 ∧ (∀ v ∈ ws, SignV v) ∧ ∀ v f H', PF.Ok f → PF.Low f → Same H H' → Dp K H' v f.d → Q v H'
theorem at4 {ws : List V} (hl : ws.length = 4) (hw : ∀ v ∈ ws, SignV v) (i : Int) : ∃ c ∈ SIG, atI ws (i % 4) = some (.str (S [c])) := by
  have h0 : 0 ≤ i % 4 := Int.emod_nonneg _ (by decide)
  have h1 : i % 4 < 4 := Int.emod_lt_of_pos _ (by decide)
  obtain ⟨j, hj⟩ : ∃ j : Nat, i % 4 = (j : Int) := ⟨(i % 4).toNat, by omega⟩
  have hj2 : j < ws.length := by omega
  obtain ⟨c, hc, e⟩ := hw ws[j] (List.getElem_mem hj2)
  refine ⟨c, hc, ?_⟩
  rw [hj]
  refine atI_nat ?_
  rw [List.getElem?_eq_getElem hj2, e]
theorem at5 {a b c d e : V} {i : Int} {Q : V → Prop} (h0 : 0 ≤ i) (h1 : i < 5) (h : Q a ∧ Q b ∧ Q c ∧ Q d ∧ Q e) : ∃ v, atI [a, b, c, d, e] i = some v ∧ Q v := by
  have : i = 0 ∨ i = 1 ∨ i = 2 ∨ i = 3 ∨ i = 4 := by omega
  rcases this with rfl | rfl | rfl | rfl | rfl
  · exact ⟨a, rfl, h.1⟩
  · exact ⟨b, rfl, h.2.1⟩
  · exact ⟨c, rfl, h.2.2.1⟩
  · exact ⟨d, rfl, h.2.2.2.1⟩
  · exact ⟨e, rfl, h.2.2.2.2⟩
theorem ok__law_part (T : Txt K mg) : OkD P w K mg base 1 (fA K "_law_part") ["_law_cell_here", "_law_signs_here"] [] (spPart K) := by
  refine okD T.F__law_part sc__law_part (fun _ _ _ _ _ _ us hl => match us, hl with | [_, _], _ => rfl) ?_ ?_
  · rintro vs H Q E ⟨c, p, ws, rfl, _⟩
    rfl
  · rintro cdv A outer s H vs Q E hr ⟨c, p, ws, rfl, hs, hl, hw, q⟩
    refine ⟨_, (pss_cons (ps_set (i := 2) sc__law_part.nd rfl (Or.inl rfl) (pe_op op_mod (pv 0) pe_int))
  (pss_cons (ps_set (i := 3) sc__law_part.nd rfl (Or.inl rfl) (pe_ix (o_ix (K := K)) (pv 1) (pe_op op_mod (pe_op op_fdivW (pv 0) pe_int) pe_int) (fun _ _ => rfl)))
  (pss_cons (ps_set (i := 4) sc__law_part.nd rfl (Or.inl rfl) (pe_mid (pe_bmK (K := K) PySem.F.plainAttrs_str PySem.F.slot_str_join PySem.F.type_str_join (mo_join (K := K)) pe_str (pa_cons (pe_callB (o_sorted (K := K) (w := w) rfl) (by rfl) T.fr_sorted (by decide +kernel) (pa_cons (pe_callTy (o_set (K := K) (w := w) rfl) (by rfl) T.fr_set (by decide +kernel) (pa_cons (pe_lst (pa_cons (pv 3) (pa_cons (pe_ix (o_ix (K := K)) (pv 1) (pe_op op_mod (pe_op op_fdivW (pv 0) pe_int) pe_int) (fun _ _ => rfl)) pa_nil))) pa_nil)) pa_nil)) pa_nil))))
  (pss_cons (ps_if (pt_cmpR o_lt (pv 2) pe_int (nomark _)) (pss_one (ps_ret (pe_tup (pa_cons pe_str (pa_cons (pv 3) pa_nil))))) pss_nil)
  (pss_one (ps_ret (pe_ix (o_ix (K := K)) (pe_lst (pa_cons (pe_tup (pa_cons pe_str pa_nil)) (pa_cons (pe_tup (pa_cons pe_str (pa_cons (pv 4) (pa_cons pe_bl pa_nil)))) (pa_cons (pe_tup (pa_cons pe_str (pa_cons (pv 4) (pa_cons pe_bl pa_nil)))) (pa_cons (pe_tup (pa_cons pe_str pa_nil)) (pa_cons (pe_tup (pa_cons pe_str pa_nil)) pa_nil)))))) (pe_op op_sub (pv 2) pe_int) (fun _ _ => rfl)))))))), ?_⟩
    obtain ⟨c1, hc1, e1⟩ := at4 hl hw (c / 11)
    obtain ⟨c2, hc2, e2⟩ := at4 hl hw (c / 44)
    walk_at "rd"
    refine ⟨⟨by decide, by decide⟩, ws, .inl hs, _, e1, ?_⟩
    refine mid_of (fun v H' => ∃ l, (SigSet l ∧ l.length ≤ 2) ∧ v = .str (S l) ∧ Same H H') ?_ ?_
    · walk_at "rd"
      refine ⟨⟨by decide, by decide⟩, ws, .inl hs, _, e2, fun p1 hp1 => ⟨[S [c1], S [c2]], .inl (.inl upd_same), (by show (2 : Nat) < 1000; decide), fun p2 zs hp2 nd hz => .inl ⟨zs, upd_same, ?_, fun ys p3 pm so hp3 => ?_⟩⟩⟩
      · have e : zs.length ≤ 2 := str_nd_len zs [S [c1], S [c2]] nd fun x hx => (hz x).mp hx
        exact Nat.lt_of_le_of_lt e (by decide)
      · obtain ⟨cs, rfl, up, mem⟩ := sorted_signs pm so nd fun z hz' => by
          rcases List.mem_cons.mp ((hz z).mp hz') with rfl | h
          · exact ⟨_, rfl⟩
          · exact ⟨c2, List.mem_singleton.mp h⟩
        have sg : ∀ c ∈ cs, c ∈ SIG := fun c hc => by
          rcases List.mem_cons.mp ((hz _).mp ((mem c).mp hc)) with h | h
          · rw [S1_inj h]; exact hc1
          · rw [S1_inj (List.mem_singleton.mp h)]; exact hc2
        have ne : cs ≠ [] := fun e => by
          have h := (mem c1).mpr ((hz _).mpr List.mem_cons_self)
          rw [e] at h
          cases h
        have ok : SigSet cs := ⟨ne, up, sg⟩
        have l2 : zs.length ≤ 2 := str_nd_len zs [S [c1], S [c2]] nd fun x hx => (hz x).mp hx
        have l3 : cs.length ≤ 2 := by
          have e := pm.length_eq
          rw [List.length_map] at e
          omega
        refine ⟨_, .inl (.inl (.inl upd_same)), ?_, cs, ⟨ok, by omega⟩, join_chars cs, by walk_at "sm"⟩
        have e := len_chars cs
        have e2 := ok.len
        rw [show (Str.ofString "") = S [] from rfl, e]
        omega
    · rintro _ H1 ⟨l, hl, rfl, sm⟩
      refine ite2 (fun h6 => ?_) fun h6 => ?_
      · intro p1 hp1
        exact q _ (.one c1) _ hc1 trivial (by walk_at "sm") (.tup (.inl (.inl upd_same)) (.cons (.str _) (.cons (.str _) .nil)))
      · intro p1 hp1 p2 hp2 p3 hp3 p4 hp4 p5 hp5 p6 hp6
        have h0 : 0 ≤ c % 11 := Int.emod_nonneg _ (by decide)
        have h1 : c % 11 < 11 := Int.emod_lt_of_pos _ (by decide)
        refine ⟨_, .inl (.inl (.inl upd_same)), at5 (by omega) (by omega) ?_⟩
        refine ⟨q _ .any _ trivial trivial (by walk_at "sm") ?_, q _ (.among l false) _ ⟨hl.1, by omega⟩ trivial (by walk_at "sm") ?_, q _ (.among l true) _ ⟨hl.1, by omega⟩ (Nat.le_trans hl.2 (by decide)) (by walk_at "sm") ?_, q _ .stars _ trivial trivial (by walk_at "sm") ?_, q _ .stars _ trivial trivial (by walk_at "sm") ?_⟩
        · exact dp_mono (by walk_at "sm") _ _ (.tup (.inl (.inl (upd_same (H := H1) (a := p1)))) (.cons (.str _) .nil))
        · exact dp_mono (by walk_at "sm") _ _ (.tup (.inl (.inl (upd_same (a := p2)))) (.cons (.str _) (.cons (.str _) (.cons (.bl _) .nil))))
        · exact dp_mono (by walk_at "sm") _ _ (.tup (.inl (.inl (upd_same (a := p3)))) (.cons (.str _) (.cons (.str _) (.cons (.bl _) .nil))))
        · exact dp_mono (by walk_at "sm") _ _ (.tup (.inl (.inl (upd_same (a := p4)))) (.cons (.str _) .nil))
        · exact dp_mono (by walk_at "sm") _ _ (.tup (.inl (.inl (upd_same (a := p5)))) (.cons (.str _) .nil))

/-! ### the parts -/
/-- all but p stays -/
def But (p : Addr) (H H' : Hp) : Prop := ∀ a o, a ≠ p → H a = some o → H' a = some o
theorem But.same {H H1 H2 : Hp} {p : Addr} (s : Same H H1) (b : But p H1 H2) : But p H H2 := fun a o n e => b a o n (s a o e)
theorem OkD.mono {k j : Nat} {f : Addr} {ps : List Str} {dvs : List V} {sp : Sp} (h : OkD P w K mg base k f ps dvs sp) (e : k ≤ j) : OkD P w K mg base j f ps dvs sp := by
  obtain ⟨fd, ds, F, r⟩ := h
  exact ⟨fd, ds, F.mono e, r⟩
/-! ### the parts made -/
def PF.vs : PF → List V
  | .one c => [.str "one", .str (S [c])]
  | .any => [.str "any"]
  | .among l o => [.str "among", .str (S l), .bl o]
  | .stars => [.str "stars"]
theorem PF.inv {f : PF} {v : V} {H : Hp} (h : Dp K H v f.d) : ∃ a, v = .ref a ∧ SqT K H a f.vs := by
  cases f with
  | one c =>
    cases h with
    | tup hs ha => cases ha with | cons h1 ha => cases ha with | cons h2 ha => cases ha; cases h1; cases h2; exact ⟨_, rfl, hs⟩
  | any =>
    cases h with
    | tup hs ha => cases ha with | cons h1 ha => cases ha; cases h1; exact ⟨_, rfl, hs⟩
  | among l o =>
    cases h with
    | tup hs ha => cases ha with | cons h1 ha => cases ha with | cons h2 ha => cases ha with | cons h3 ha => cases ha; cases h1; cases h2; cases h3; exact ⟨_, rfl, hs⟩
  | stars =>
    cases h with
    | tup hs ha => cases ha with | cons h1 ha => cases ha; cases h1; exact ⟨_, rfl, hs⟩
/-! ### steps -/
theorem q_new {i : Nat} {u : TS} {D : Ends} {σ : L2.St} {H : Hp} (h : ∀ p, H p = none → u D (σ.set i (some (.ref p))) (upd H p (.lst []))) : tSeq (tAsg (tLst tNil) (gName i)) u D σ H := by
  unfold tSeq tAsg tLst tNil gName
  exact ⟨Nat.zero_le _, fun p hp => h p hp⟩
theorem q_app {i : Nat} {te : TE} {u : TS} {D : Ends} {σ : L2.St} {H : Hp} {F : Addr} {xs : List V} (e : σ[i]? = some (some (.ref F))) (hl : H F = some (.lst xs))
    (h : te σ H fun y H1 => ∃ ys, H1 F = some (.lst ys) ∧ ys.length < sizeLine ∧ u D σ (upd H1 F (.lst (ys ++ [y])))) : tSeq (tDrop (tBM K "list" rAppend (tVar i) (tCons (tMid te) tNil))) u D σ H := by
  unfold tSeq tDrop tBM tVar tCons tNil
  exact ⟨_, e, .inl ⟨rfl, xs, .inl (.inl hl)⟩, _, h, fun y H1 ⟨ys, h1, h2, h3⟩ => ⟨F, ys, y, rfl, rfl, h1, h2, h3⟩⟩
theorem l_app {i : Nat} {te : TE} {D : Ends} {σ : L2.St} {H : Hp} {F : Addr} {xs : List V} (e : σ[i]? = some (some (.ref F))) (hl : H F = some (.lst xs))
    (h : te σ H fun y H1 => ∃ ys, H1 F = some (.lst ys) ∧ ys.length < sizeLine ∧ D.nx σ (upd H1 F (.lst (ys ++ [y])))) : tDrop (tBM K "list" rAppend (tVar i) (tCons (tMid te) tNil)) D σ H := by
  unfold tDrop tBM tVar tCons tNil
  exact ⟨_, e, .inl ⟨rfl, xs, .inl (.inl hl)⟩, _, h, fun y H1 ⟨ys, h1, h2, h3⟩ => ⟨F, ys, y, rfl, rfl, h1, h2, h3⟩⟩
theorem l_appV {i j : Nat} {D : Ends} {σ : L2.St} {H : Hp} {F : Addr} {xs : List V} {y : V} (e : σ[i]? = some (some (.ref F))) (e2 : σ[j]? = some (some y)) (hl : H F = some (.lst xs)) (hn : xs.length < 16777216)
    (h : D.nx σ (upd H F (.lst (xs ++ [y])))) : tDrop (tBM K "list" rAppend (tVar i) (tCons (tMid (tVar j)) tNil)) D σ H := l_app e hl ⟨y, e2, xs, hl, by rw [sizeLine_eq]; exact hn, h⟩
theorem l_midG {i : Nat} {te : TE} {D : Ends} {σ : L2.St} {H : Hp} (C : V → Hp → Prop) (h : te σ H C) (k : ∀ v H1, C v H1 → D.nx (σ.set i (some v)) H1) : tAsg (tMid te) (gName i) D σ H := ⟨C, h, k⟩
theorem drop_le {α : Type} (k : Nat) (l : List α) : (l.drop k).length ≤ l.length := by rw [List.length_drop]; exact Nat.sub_le _ _
theorem atI_zero {α : Type} {x : α} {r : List α} : atI (x :: r) 0 = some x := by
  show atI (x :: r) ((0 : Nat) : Int) = some x
  exact atI_nat rfl
/-! ### segments -/
theorem atI_last {xs : List V} {u : V} (h : xs.getLast? = some u) : atI xs (-1) = some u := by
  unfold atI ixN
  have hne : xs ≠ [] := fun e => by rw [e] at h; cases h
  have hl : 0 < xs.length := List.length_pos_iff.mpr hne
  rw [if_neg (by decide), if_pos (by omega)]
  have e : ((-1 : Int) + (xs.length : Int)).toNat = xs.length - 1 := by omega
  show xs[((-1 : Int) + (xs.length : Int)).toNat]? = some u
  rw [e, ← List.getLast?_eq_getElem?]
  exact h
def addB (acc : List PF) (f : PF) : Bool := decide (acc = []) || (!f.many || match acc.getLast? with
  | some g => !g.many
  | none => true)
/-! ### what steps tell -/
mutual
def tupB : PyData → Bool
  | .none => true
  | .bool _ => true
  | .int _ => true
  | .str _ => true
  | .tuple ds => tupBs ds
  | _ => false
def tupBs : List PyData → Bool
  | [] => true
  | d :: r => tupB d && tupBs r
end
theorem sqT_nl {H H' : Hp} {a : Addr} {xs : List V} (h : SqT K H a xs) (e : NL H H') : SqT K H' a xs := by
  rcases h with (h | ⟨o, h⟩) | h
  · exact .inl (.inl (e _ _ h fun _ z => nomatch z))
  · exact .inl (.inr ⟨o, e _ _ h fun _ z => nomatch z⟩)
  · exact .inr h
mutual
theorem dp_nl {H H' : Hp} (e : NL H H') : ∀ (d : PyData) (v : V), tupB d = true → Dp K H v d → Dp K H' v d
  | .none, _, _, .non => .non
  | .bool _, _, _, .bl b => .bl b
  | .int _, _, _, .int i => .int i
  | .str _, _, _, .str x => .str x
  | .tuple ds, _, t, .tup h a => .tup (sqT_nl h e) (dpAll_nl e ds _ (by simpa only [tupB] using t) a)
  | .list ds, _, t, _ => by simp [tupB] at t
theorem dpAll_nl {H H' : Hp} (e : NL H H') : ∀ (ds : List PyData) (vs : List V), tupBs ds = true → DpAll K H vs ds → DpAll K H' vs ds
  | [], _, _, .nil => .nil
  | d :: ds, _, t, .cons h a => by
    have t' : tupB d = true ∧ tupBs ds = true := by simpa only [tupBs, Bool.and_eq_true] using t
    exact .cons (dp_nl e d _ t'.1 h) (dpAll_nl e ds _ t'.2 a)
end
theorem tupBs_map {α : Type} (d : α → PyData) (h : ∀ x, tupB (d x) = true) : ∀ l : List α, tupBs (l.map d) = true
  | [] => by simp only [List.map_nil, tupBs]
  | x :: r => by simp only [List.map_cons, tupBs, h x, tupBs_map d h r, Bool.and_self]
theorem PF.tup (f : PF) : tupB f.d = true := by cases f <;> simp [PF.d, tupB, tupBs]
theorem SF.tup (f : SF) : tupB f.d = true := by
  cases f with
  | deep => simp [SF.d, tupB, tupBs]
  | seg fs => simp [SF.d, tupB, tupBs, tupBs_map PF.d PF.tup fs]
/-- us are the things fs, one by one -/
def Each {α : Type} (R : α → V → Hp → Prop) (fs : List α) (us : List V) (H : Hp) : Prop := us.length = fs.length ∧ ∀ (i : Nat) (f : α), fs[i]? = some f → ∃ u, us[i]? = some u ∧ R f u H
section
variable {α : Type} {R : α → V → Hp → Prop} {fs : List α} {us : List V} {H H' : Hp}
theorem Each.imp {R' : α → V → Hp → Prop} (h : Each R fs us H) (i : ∀ f u, R f u H → R' f u H') : Each R' fs us H' := ⟨h.1, fun j f hf => let ⟨u, a, b⟩ := h.2 j f hf; ⟨u, a, i f u b⟩⟩
theorem Each.nil : Each R [] [] H := ⟨rfl, fun i f h => by simp at h⟩
theorem Each.snoc {f : α} {u : V} (h : Each R fs us H) (g : R f u H) : Each R (fs ++ [f]) (us ++ [u]) H := by
  refine ⟨by rw [List.length_append, List.length_append, h.1]; rfl, fun i f' hf => ?_⟩
  rcases Nat.lt_trichotomy i fs.length with e | e | e
  · rw [List.getElem?_append_left e] at hf
    obtain ⟨w, a, b⟩ := h.2 i f' hf
    exact ⟨w, by rw [List.getElem?_append_left (by rw [h.1]; exact e)]; exact a, b⟩
  · subst e
    rw [List.getElem?_append_right (Nat.le_refl _), Nat.sub_self] at hf
    have ef : f = f' := Option.some.inj hf
    subst ef
    exact ⟨u, by rw [← h.1, List.getElem?_append_right (Nat.le_refl _), Nat.sub_self]; rfl, g⟩
  · rw [List.getElem?_eq_none (by rw [List.length_append]; exact e)] at hf
    cases hf
theorem each_dp {d : α → PyData} : ∀ {fs : List α} {us : List V}, Each (fun f u H => Dp K H u (d f)) fs us H → DpAll K H us (fs.map d)
  | [], [], _ => .nil
  | [], _ :: _, h => absurd h.1 (by simp)
  | f :: r, [], h => absurd h.1 (by simp)
  | f :: r, u :: us, h => by
    obtain ⟨u', e, g⟩ := h.2 0 f rfl
    cases e
    exact .cons g (each_dp ⟨by simpa using h.1, fun i f' hf => h.2 (i + 1) f' hf⟩)
theorem dp_each {d : α → PyData} : ∀ {fs : List α} {us : List V}, DpAll K H us (fs.map d) → Each (fun f u H => Dp K H u (d f)) fs us H
  | [], _, .nil => .nil
  | f :: r, _, .cons h a => by
    have ih := dp_each (fs := r) a
    refine ⟨by simp [ih.1], fun i f' hf => ?_⟩
    cases i with
    | zero =>
      cases (show some f = some f' from hf)
      exact ⟨_, rfl, h⟩
    | succ i => exact ih.2 i f' hf
end
/-! ### spots -/
/-! ### a segment fits a name -/
section
variable {X : Cx}
end
/-! ### drawn segments -/
def spMixed : Sp := fun vs H Q _ => ∃ c k, vs = [.int c, .int k] ∧ ∀ m, 0 ≤ m → m < 2147483647 → Q (.int m) H
theorem ok__law_mixed (T : Txt K mg) : OkD P w K mg base 1 (fA K "_law_mixed") ["_law_cell_here", "_law_k"] [] spMixed := by
  refine okD T.F__law_mixed sc__law_mixed (fun _ _ _ _ _ _ us hl => match us, hl with | [_, _], _ => rfl) ?_ ?_
  · rintro vs H Q E ⟨c, k, rfl, _⟩
    rfl
  · rintro cdv A outer s H vs Q E hr ⟨c, k, rfl, q⟩
    refine ⟨_, (pss_cons (ps_set (i := 2) sc__law_mixed.nd rfl (Or.inl rfl) (pe_mid (pe_op op_mod (pe_op o_mul (pe_op (o_add (K := K)) (pe_op op_mod (pv 0) pe_int) (pe_op o_mul pe_int (pe_op (o_add (K := K)) (pv 1) pe_int))) pe_int) pe_int)))
  (pss_one (ps_ret (pe_op op_mod (pe_op o_mul (pe_op op_mod (pe_op o_mul (pv 2) (pv 2)) pe_int) pe_int) pe_int)))), ?_⟩
    have b : ∀ (x : Int), 0 ≤ x % 2147483647 ∧ x % 2147483647 < 2147483647 := fun x => ⟨Int.emod_nonneg _ (by decide), Int.emod_lt_of_pos _ (by decide)⟩
    have sm : ∀ (x y : Int), 0 ≤ x → x < 2147483647 → CMul x y := fun x y h1 h2 => .inl ⟨by omega, by omega⟩
    have sm2 : ∀ (x y : Int), 0 ≤ y → y ≤ 2147483647 → CMul x y := fun x y h1 h2 => .inr ⟨by omega, by omega⟩
    refine q_mid (fun m => 0 ≤ m ∧ m < 2147483647) ?_ fun m hm => ?_
    · walk_at "rd"
      exact ⟨sm _ _ (by decide) (by decide), sm2 _ _ (by decide) (by decide), b _⟩
    walk_at "rd"
    exact ⟨sm _ _ hm.1 hm.2, sm2 _ _ (by decide) (by decide), q _ (b _).1 (b _).2⟩
theorem eqv_stars (f : PF) : PyData.eqv f.d (.tuple [.str "stars"]) = f.many := by
  have e1 : ((Str.ofString "one") == (Str.ofString "stars")) = false := by decide +kernel
  have e2 : ((Str.ofString "any") == (Str.ofString "stars")) = false := by decide +kernel
  have e3 : ((Str.ofString "among") == (Str.ofString "stars")) = false := by decide +kernel
  cases f <;> simp [PF.d, PF.many, PyData.eqv, PyData.eqvAll, e1, e2, e3]
theorem two_snoc : ∀ {acc : List PF} {f : PF}, NoTwo acc → addB acc f = true → NoTwo (acc ++ [f])
  | [], _, _, _ => trivial
  | [g], f, _, h => by
    refine ⟨fun ⟨h1, h2⟩ => ?_, trivial⟩
    unfold addB at h
    simp [h1, h2] at h
  | g :: g2 :: r, f, n, h => by
    refine ⟨n.1, two_snoc (acc := g2 :: r) n.2 ?_⟩
    unfold addB at h ⊢
    have e : (g :: g2 :: r).getLast? = (g2 :: r).getLast? := by simp [List.getLast?_cons_cons]
    rw [e] at h
    simpa using h
/-- the list acc of forms at F -/
def FormsL (K : PySem.W.Frag) (acc : List PF) (F : Addr) (H : Hp) : Prop := ∃ us, H F = some (.lst us) ∧ Each (fun f u H => Dp K H u (PF.d f)) acc us H
theorem FormsL.mono {acc : List PF} {F : Addr} {H H' : Hp} (h : FormsL K acc F H) (s : Same H H') : FormsL K acc F H' := let ⟨us, a, b⟩ := h; ⟨us, s _ _ a, b.imp fun f u d => dp_mono s _ _ d⟩
theorem FormsL.len {acc : List PF} {F : Addr} {H : Hp} {us : List V} (h : Each (fun f u H => Dp K H u (PF.d f)) acc us H) : us = [] ↔ acc = [] := by rw [← List.length_eq_zero_iff, ← List.length_eq_zero_iff, h.1]
/-- the test ahead of an append -/
theorem add_test {acc : List PF} {f : PF} {F p : Addr} {v : V} {H : Hp} {us : List V} (hf : H F = some (.lst us)) (hu : Each (fun f u H => Dp K H u (PF.d f)) acc us H) (hv : Dp K H v f.d) (ok : f.Ok) (hok : ∀ g ∈ acc, g.Ok) {Q : Bool → Hp → Prop} (q : ∀ H', Same H H' → Q (addB acc f) H') : ∀ p, H p = none →
    rEqR K (.ref F) (.ref p) (upd H p (.lst [])) fun x H1 => ∃ k, x = .bl k ∧ if k = true then Q true H1 else ∀ r, H1 r = none → rNeR K v (.ref r) (upd H1 r (.tup [.str "stars"])) fun x H2 => ∃ k, x = .bl k ∧ if k = true then Q true H2 else
      ∃ xs, (SqL K H2 F xs ∨ SqT K H2 F xs) ∧ ∃ y, atI xs (-1) = some y ∧ rNeR K y v H2 fun x H3 => ∃ k, x = .bl k ∧ Q k H3 := by
  intro p hp
  have sp := same_new (o := .lst []) hp
  refine eq_nil (.inl (.inl (sp _ _ hf))) (.inl (.inl upd_same)) ⟨_, rfl, ite2 (fun h => ?_) fun h => ?_⟩
  · have e : acc = [] := (FormsL.len (F := F) hu).mp (of_decide_eq_true h)
    have q' := q _ sp
    unfold addB at q'
    rw [decide_eq_true e] at q'
    exact q'
  have hne : acc ≠ [] := fun e => h (decide_eq_true ((FormsL.len (F := F) hu).mpr e))
  intro r hr
  have sr := same_new (o := .tup [.str "stars"]) hr
  have s2 := sp.trans sr
  have dst : Dp K (upd (upd H p (.lst [])) r (.tup [.str "stars"])) (.ref r) (.tuple [.str "stars"]) := .tup (.inl (.inl upd_same)) (.cons (.str _) .nil)
  have dok : DOk 1 (.tuple [.str "stars"]) := PF.dok (f := .stars) trivial
  refine .inl ⟨f.d, _, dp_mono s2 _ _ hv, dst, (PF.dok ok).shaped (by decide), dok.shaped (by decide), ?_⟩
  rw [eqv_stars]
  refine ⟨_, rfl, ite2 (fun hm => ?_) fun hm => ?_⟩
  · have q' := q _ s2
    unfold addB at q'
    rw [decide_eq_false hne, hm] at q'
    exact q'
  have hm' : f.many = true := by simpa using hm
  have ef : f = .stars := by cases f <;> first | rfl | cases hm'
  obtain ⟨g, hg⟩ : ∃ g, acc.getLast? = some g := by
    cases e : acc.getLast? with
    | none => exact absurd (List.getLast?_eq_none_iff.mp e) hne
    | some g => exact ⟨g, rfl⟩
  have hg' := hg
  rw [List.getLast?_eq_getElem?] at hg'
  obtain ⟨y, e2, dy⟩ := hu.2 _ g hg'
  have hy : us.getLast? = some y := by rw [List.getLast?_eq_getElem?, hu.1]; exact e2
  have okg : g.Ok := hok g (List.mem_of_getElem? hg')
  refine ⟨us, .inl (.inl (.inl (s2 _ _ hf))), y, atI_last hy, .inl ⟨g.d, f.d, dp_mono s2 _ _ dy, dp_mono s2 _ _ hv, (PF.dok okg).shaped (by decide), (PF.dok ok).shaped (by decide), ?_⟩⟩
  have q' := q _ s2
  unfold addB at q'
  rw [decide_eq_false hne, hm', hg] at q'
  refine ⟨_, rfl, ?_⟩
  rw [ef]
  show Q (!PyData.eqv g.d (.tuple [.str "stars"])) _
  rw [eqv_stars]
  exact q'
def spSegm (K : PySem.W.Frag) : Sp := fun vs H Q _ => ∃ c p ws, vs = [.int c, .ref p] ∧ SqL K H p ws ∧ ws.length = 4 ∧ (∀ v ∈ ws, SignV v) ∧ ∀ v fs H', PartsOk fs → fs.length ≤ 3 → (∀ f ∈ fs, f.Low) → Same H H' → Dp K H' v (SF.seg fs).d → Q v H'
theorem ok__law_segment (T : Txt K mg) : OkD P w K mg base 2 (fA K "_law_segment") ["_law_cell_here", "_law_signs_here"] [] (spSegm K) := by
  refine okD T.F__law_segment sc__law_segment (fun _ _ _ _ _ _ us hl => match us, hl with | [_, _], _ => rfl) ?_ ?_
  · rintro vs H Q E ⟨c, p, ws, rfl, _⟩
    rfl
  · rintro cdv A outer s H vs Q E hr ⟨c, p, ws, rfl, hs, hl, hw, q⟩
    refine ⟨_, (pss_cons (ps_set (i := 2) sc__law_segment.nd rfl (Or.inl rfl) (pe_lst pa_nil))
  (pss_cons (ps_mid (ps_for (passes_of rfl) rfl (pi_mid (pi_range1 rfl T.fr_range (pa_cons (pe_op (o_add (K := K)) pe_int (pe_op op_mod (pv 0) pe_int)) pa_nil))) (pg_name (i := 3) sc__law_segment.nd rfl (Or.inl rfl)) (pss_cons (ps_set (i := 4) sc__law_segment.nd rfl (Or.inl rfl) (pe_mid (pe_cal (ok__law_part T) (hr.mono (by decide)) rfl T.g__law_part (pasE (takes_of rfl rfl rfl rfl) (fun _ _ _ _ h => h)) (pa_cons (pe_cal (ok__law_mixed T) (hr.mono (by decide)) rfl T.g__law_mixed (pasE (takes_of rfl rfl rfl rfl) (fun _ _ _ _ h => h)) (pa_cons (pv 0) (pa_cons (pv 3) pa_nil))) (pa_cons (pv 1) pa_nil)))))
  (pss_one (ps_if (pt_mid (PW.pt (pw_or (pt_cmpR (o_eq (K := K) (hu64 hr)) (pv 2) (pe_lst pa_nil) (nomark _)) (pw_or (pt_cmpR (o_ne (K := K) (hu64 hr)) (pv 4) (pe_tup (pa_cons pe_str pa_nil)) (nomark _)) (pw_or1 (pt_cmpR (o_ne (K := K) (hu64 hr)) (pe_ix (o_ix (K := K)) (pv 2) (pe_un un_neg pe_int) (fun _ _ => rfl)) (pv 4) (nomark _))))))) (pss_one (ps_expr (pe_bmK (K := K) PySem.F.plainAttrs_list PySem.F.slot_list_append PySem.F.type_list_append mt_append (pv 2) (pa_cons (pe_mid (pv 4)) pa_nil)))) pss_nil)))))
  (pss_one (ps_ret (pe_tup (pa_cons pe_str (pa_cons (pe_callTy (o_tuple (K := K)) (by rfl) T.fr_tuple (by decide +kernel) (pa_cons (pv 2) pa_nil)) pa_nil))))))), ?_⟩
    have tobj := T.obj
    refine q_new fun F hF => ?_
    have sF := same_new (o := .lst []) hF
    have hm0 : 0 ≤ c % 3 := Int.emod_nonneg _ (by decide)
    have hm1 : c % 3 < 3 := Int.emod_lt_of_pos _ (by decide)
    obtain ⟨n, hn, hn1, hn3⟩ : ∃ n : Nat, 1 + c % 3 = (n : Int) ∧ 1 ≤ n ∧ n ≤ 3 := ⟨(1 + c % 3).toNat, by omega, by omega, by omega⟩
    refine q_stm (fun σ H' => ∃ acc us x y, σ = [some (.int c), some (.ref p), some (.ref F), x, y] ∧ Same H H' ∧ H' F = some (.lst us) ∧ Each (fun f u H => Dp K H u (PF.d f)) acc us H' ∧ PartsOk acc ∧ acc.length ≤ 3 ∧ ∀ f ∈ acc, f.Low) ?_ ?_
    · refine for_mid (J0 := Itr 0 n) (H0 := upd H F (.lst [])) ?_ walk_range
        (fun k σ H' => ∃ acc us x y, σ = [some (.int c), some (.ref p), some (.ref F), x, y] ∧ Same H H' ∧ H' F = some (.lst us) ∧ Each (fun f u H => Dp K H u (PF.d f)) acc us H' ∧ (0 < k → acc ≠ []) ∧ (∀ f ∈ acc, f.Ok ∧ f.Low) ∧ NoTwo acc ∧ acc.length ≤ k)
        ⟨[], [], none, none, rfl, sF, upd_same, .nil, fun h => absurd h (by decide), fun _ h => (nomatch h), trivial, Nat.le_refl _⟩ (fun _ _ _ _ _ => trivial) ?_ (fun σ H' h => ?_)
      · walk_at "rd"
        rw [hn]
        exact ⟨by omega, by omega, rfl⟩
      · rintro k x σ H1 H1' hk ⟨acc, us, x0, y0, rfl, sm, hl1, each, ne, oks, two, len⟩ ⟨rfl, rfl⟩
        refine q_midG (fun v H' => Same H1' H' ∧ ∃ f, (PF.Ok f ∧ PF.Low f) ∧ Dp K H' v f.d) ?_ ?_
        · walk_at "rd"
          exact ⟨c, _, rfl, fun m _ _ => ⟨m, p, ws, rfl, same_l sm hs, hl, hw, fun v f H'' ok lo s hd => ⟨s, f, ⟨ok, lo⟩, hd⟩⟩⟩
        · rintro v H2 ⟨s2, f, ⟨ok, lo⟩, hd⟩
          obtain ⟨va, rfl, _⟩ := PF.inv hd
          have hl2 := s2 _ _ hl1
          have each2 : Each (fun f u H => Dp K H u (PF.d f)) acc us H2 := each.imp fun f u d => dp_mono s2 _ _ d
          refine l_if (fun b H' => Same H2 H' ∧ b = addB acc f) ?_ ?_ ?_
          · walk_at "rd"
            exact add_test (p := va) (Q := fun b H' => Same H2 H' ∧ b = addB acc f) hl2 each2 hd ok (fun g h => (oks g h).1) fun H' s => ⟨s, rfl⟩
          · rintro H3 ⟨s3, hb⟩
            have hl3 := s3 _ _ hl2
            have s13 := (sm.trans s2).trans s3
            refine l_appV rfl rfl hl3 (by rw [each.1]; omega) ⟨acc ++ [f], us ++ [.ref va], _, _, rfl, same_mut s13 hF, upd_same, ?_, fun _ e => ?_, fun g hg => ?_, two_snoc two hb.symm, ?_⟩
            · exact Each.snoc (each2.imp fun f u d => dp_nl (NL.trans (.of s3) (nl_upd hl3)) _ _ f.tup d) (dp_nl (NL.trans (.of s3) (nl_upd hl3)) _ _ f.tup hd)
            · exact absurd e (by simp)
            · exact (List.mem_append.mp hg).elim (oks g) fun h => by rw [List.mem_singleton.mp h]; exact ⟨ok, lo⟩
            · rw [List.length_append]; exact Nat.succ_le_succ len
          · rintro H3 ⟨s3, hb⟩
            refine ⟨acc, us, _, _, rfl, (sm.trans s2).trans s3, s3 _ _ hl2, each2.imp fun f u d => dp_mono s3 _ _ d, fun _ e => ?_, oks, two, by omega⟩
            rw [e] at hb
            cases hb
      · obtain ⟨acc, us, x, y, e, s1, h1, h2, h3, h4, h5, h6⟩ := h
        exact ⟨acc, us, x, y, e, s1, h1, h2, ⟨h3 (by omega), fun f hf => (h4 f hf).1, h5, by omega⟩, by omega, fun f hf => (h4 f hf).2⟩
    · rintro σ H1 ⟨acc, us, x, y, rfl, s1, h1, h2, h3, h4, h5⟩
      walk_at "rd"
      refine ⟨us, .inl ⟨.inl (.inl h1), fun l2 hl2 p2 hp2 => ?_⟩⟩
      have s2 := same_new (o := .tup us) hl2
      have s3 := same_new (o := .tup [V.str (Str.ofString "segment"), V.ref l2]) hp2
      exact q _ acc _ h3 h4 h5 ((s1.trans s2).trans s3) (.tup (.inl (.inl upd_same)) (.cons (.str _) (.cons (.tup (.inl (.inl (s3 _ _ upd_same))) (each_dp (h2.imp fun f u d => dp_mono (s2.trans s3) _ _ d))) .nil)))

/-! ### stars twice, rows and segments made -/
theorem ne_dat {n : Nat} {d : PyData} {u v : V} {H : Hp} {Q : VK} (ok : DOk n d) (hn : n ≤ 64) (h1 : Dp K H u d) (h2 : Dp K H v d) (q : Q (.bl false) H) : rNeR K u v H Q := by
  refine .inl ⟨d, d, h1, h2, ok.shaped hn, ok.shaped hn, ?_⟩
  rw [ok.eqv]
  exact q
theorem same_none {H H' : Hp} {a : Addr} (s : Same H H') (h : H' a = none) : H a = none := by
  cases e : H a with
  | none => rfl
  | some o => rw [s _ _ e] at h; cases h
/-! ### forms of rows, rows drawn large -/
structure RF where
  steps : List SF
  spares : Bool
  folders : Bool
def RF.d (r : RF) : PyData := .tuple [.tuple (r.steps.map SF.d), .bool r.spares, .bool r.folders]
def NoTwoD : List SF → Prop
  | a :: b :: r => ¬ (a = .deep ∧ b = .deep) ∧ NoTwoD (b :: r)
  | _ => True
structure RF.Ok (r : RF) : Prop where
  ne : r.steps ≠ []
  ok : ∀ s ∈ r.steps, s.Ok
  two : NoTwoD r.steps
  len : r.steps.length ≤ 12
theorem twoD_snoc : ∀ {acc : List SF} {f : SF}, NoTwoD acc → (f = .deep → acc.getLast? ≠ some .deep) → NoTwoD (acc ++ [f])
  | [], _, _, _ => trivial
  | [g], f, _, h => ⟨fun ⟨h1, h2⟩ => h h2 (by rw [h1]; rfl), trivial⟩
  | g :: g2 :: r, f, n, h => ⟨n.1, twoD_snoc (acc := g2 :: r) n.2 fun e => by
      have h' := h e
      rwa [List.getLast?_cons_cons] at h'⟩
theorem eqv_deep (s : SF) : PyData.eqv s.d (.tuple [.str "deep"]) = s.deepB := by
  have e1 : ((Str.ofString "segment") == (Str.ofString "deep")) = false := by decide +kernel
  cases s <;> simp [SF.d, SF.deepB, PyData.eqv, PyData.eqvAll, e1]
theorem cutV_last {us : List V} : cutV us (some (-1)) none = us.drop (us.length - 1) := by
  unfold cutV
  have e : HT.sIx us.length 0 (some (-1)) = us.length - 1 := by
    unfold HT.sIx
    simp
    omega
  rw [e, HT.sIx_none]
  refine List.take_of_length_le ?_
  rw [List.length_drop]
  exact Nat.le_refl _
theorem Each.drop {α : Type} {R : α → V → Hp → Prop} {fs : List α} {us : List V} {H : Hp} (h : Each R fs us H) (k : Nat) : Each R (fs.drop k) (us.drop k) H :=
  ⟨by rw [List.length_drop, List.length_drop, h.1], fun i f hf => by
    rw [List.getElem?_drop] at hf
    obtain ⟨u, e, g⟩ := h.2 _ f hf
    exact ⟨u, by rw [List.getElem?_drop]; exact e, g⟩⟩
theorem last_drop {α : Type} {ss : List α} {x : α} (h : ss.getLast? = some x) : ss.drop (ss.length - 1) = [x] := by
  rcases List.eq_nil_or_concat ss with rfl | ⟨r, y, rfl⟩
  · cases h
  · rw [List.concat_eq_append] at h ⊢
    rw [List.getLast?_append] at h
    cases (show some y = some x from h)
    rw [List.length_append, List.length_singleton, Nat.add_sub_cancel, List.drop_left]
/-- ("deep",) not in steps[-1:] -/
theorem deep_test {ss : List SF} {us : List V} {L : Addr} {H : Hp} {B : Addr → Prop} {R : Bool → Hp → Prop} (hl : H L = some (.lst us)) (e : Each (fun f u H => Dp K H u (SF.d f)) ss us H) (oks : ∀ s ∈ ss, s.Ok) (r : ∀ b H', Same H H' → (b = true → ss.getLast? ≠ some .deep) → R b H') : ∀ p, H p = none →
    (∃ xs, SqL K (upd H p (.tup [.str "deep"])) L xs ∧ ∀ p1, upd H p (.tup [.str "deep"]) p1 = none → rNotInD K (.ref p) (.ref p1) (upd (upd H p (.tup [.str "deep"])) p1 (.lst (cutV xs (some (-1)) none))) fun x H' => ∃ k, x = .bl k ∧ R k H') ∨ B p := by
  intro p hp
  have sp := same_new (o := .tup [V.str (Str.ofString "deep")]) hp
  refine .inl ⟨us, .inl (.inl (sp _ _ hl)), fun p1 hp1 => ?_⟩
  have s1 := same_new (o := .lst (cutV us (some (-1)) none)) hp1
  have e1 : Each (fun f u H => Dp K H u (SF.d f)) ss us (upd (upd H p (.tup [V.str (Str.ofString "deep")])) p1 (.lst (cutV us (some (-1)) none))) := e.imp fun f u d => dp_mono (sp.trans s1) _ _ d
  have e2 := e1.drop (ss.length - 1)
  have eq : us.drop (ss.length - 1) = cutV us (some (-1)) none := by rw [cutV_last, e.1]
  rw [eq] at e2
  have dl : DOk 4 (.list ((ss.drop (ss.length - 1)).map SF.d)) := dok_lst fun d hd => by
    obtain ⟨f, hf, rfl⟩ := List.mem_map.mp hd
    exact SF.dok (oks f (List.mem_of_mem_drop hf))
  have dd : DOk 3 (.tuple [.str "deep"]) := SF.dok (f := .deep) trivial
  refine ⟨.tuple [.str "deep"], (ss.drop (ss.length - 1)).map SF.d, .tup (.inl (.inl (s1 _ _ upd_same))) (.cons (.str _) .nil), .lst (.inl (.inl upd_same)) (each_dp e2), dd.shaped (by decide), dl.shaped (by decide), _, rfl, r _ _ (sp.trans s1) fun hb hlast => ?_⟩
  rw [last_drop hlast] at hb
  simp [eqv_deep, SF.deepB] at hb
theorem forms_snoc {ss : List SF} {us : List V} {s : SF} {y : V} {L : Addr} {H : Hp} (hl : H L = some (.lst us)) (e : Each (fun f u H => Dp K H u (SF.d f)) ss us H) (d : Dp K H y s.d) : Each (fun f u H => Dp K H u (SF.d f)) (ss ++ [s]) (us ++ [y]) (upd H L (.lst (us ++ [y]))) :=
  Each.snoc (e.imp fun f u d => dp_nl (nl_upd hl) _ _ f.tup d) (dp_nl (nl_upd hl) _ _ s.tup d)
theorem row_d {r : RF} {us : List V} {l p : Addr} {H : Hp} (e : Each (fun f u H => Dp K H u (SF.d f)) r.steps us H) (hl : H l = none) (hp : upd H l (.tup us) p = none) : Dp K (upd (upd H l (.tup us)) p (.tup [.ref l, .bl r.spares, .bl r.folders])) (.ref p) r.d := by
  have s2 := same_new (o := .tup us) hl
  have s3 := same_new (o := .tup [V.ref l, V.bl r.spares, V.bl r.folders]) hp
  exact .tup (.inl (.inl upd_same)) (.cons (.tup (.inl (.inl (s3 _ _ upd_same))) (each_dp (e.imp fun f u d => dp_mono (s2.trans s3) _ _ d))) (.cons (.bl _) (.cons (.bl _) .nil)))
theorem SF.seg_inv {fs : List PF} {v : V} {H : Hp} (h : Dp K H v (SF.seg fs).d) : ∃ a t us, v = .ref a ∧ SqT K H a [.str "segment", .ref t] ∧ SqT K H t us ∧ Each (fun f u H => Dp K H u (PF.d f)) fs us H := by
  cases h with
  | tup hs ha => cases ha with | cons h1 ha => cases ha with | cons h2 ha =>
    cases ha; cases h1
    cases h2 with
    | tup ht hu => exact ⟨_, _, _, rfl, hs, ht, dp_each hu⟩
theorem SF.deep_inv {v : V} {H : Hp} (h : Dp K H v SF.deep.d) : ∃ a, v = .ref a ∧ SqT K H a [.str "deep"] := by
  cases h with | tup hs ha => cases ha with | cons h1 ha => cases ha; cases h1; exact ⟨_, rfl, hs⟩
theorem RF.inv {r : RF} {v : V} {H : Hp} (h : Dp K H v r.d) : ∃ a t us, v = .ref a ∧ SqT K H a [.ref t, .bl r.spares, .bl r.folders] ∧ SqT K H t us ∧ Each (fun f u H => Dp K H u (SF.d f)) r.steps us H := by
  cases h with
  | tup hs ha => cases ha with | cons h1 ha => cases ha with | cons h2 ha => cases ha with | cons h3 ha =>
    cases ha; cases h2; cases h3
    cases h1 with
    | tup ht hu => exact ⟨_, _, _, rfl, hs, ht, dp_each hu⟩
/-! ### rows as objects -/
abbrev rowO (K : PySem.W.Frag) (dx t : Addr) (a b : Bool) : HO := .ins (fA K "Row") dx [("steps", .ref t), ("spares", .bl a), ("folders", .bl b)]
def RowV (K : PySem.W.Frag) (r : RF) (v : V) (H : Hp) : Prop := ∃ p dx t us, v = .ref p ∧ H p = some (rowO K dx t r.spares r.folders) ∧ H t = some (.tup us) ∧ Each (StepV K) r.steps us H ∧ r.steps ≠ []
theorem Each.nl {us : List V} {ss : List SF} {H H' : Hp} (h : Each (StepV K) ss us H) (e : NL H H') : Each (StepV K) ss us H' := h.imp fun _ _ s => s.nl e
theorem Each.mono {us : List V} {ss : List SF} {H H' : Hp} (h : Each (StepV K) ss us H) (e : Same H H') : Each (StepV K) ss us H' := h.nl (.of e)
theorem RowV.nl {r : RF} {v : V} {H H' : Hp} (h : RowV K r v H) (e : NL H H') : RowV K r v H' := by
  obtain ⟨p, dx, t, us, a, b, c, d, z⟩ := h
  exact ⟨p, dx, t, us, a, e _ _ b (fun _ z => nomatch z), e _ _ c (fun _ z => nomatch z), d.nl e, z⟩
theorem RowV.mono {r : RF} {v : V} {H H' : Hp} (h : RowV K r v H) (e : Same H H') : RowV K r v H' := h.nl (.of e)
/-! ### drawn rows, rows made -/
def RF.Low (r : RF) : Prop := ∀ fs, SF.seg fs ∈ r.steps → ∀ f ∈ fs, f.Low
theorem range4 {i : Int} {Q : V → Prop} (h : ∀ n : Nat, 1 ≤ n → n ≤ 3 → Q (.int n)) : ∃ v, atI [V.int 1, V.int 2, V.int 2, V.int 3] (i % 4) = some v ∧ Q v := by
  have h0 : 0 ≤ i % 4 := Int.emod_nonneg _ (by decide)
  have h1 : i % 4 < 4 := Int.emod_lt_of_pos _ (by decide)
  have : i % 4 = 0 ∨ i % 4 = 1 ∨ i % 4 = 2 ∨ i % 4 = 3 := by omega
  rcases this with e | e | e | e <;> rw [e]
  · exact ⟨_, rfl, h 1 (by decide) (by decide)⟩
  · exact ⟨_, rfl, h 2 (by decide) (by decide)⟩
  · exact ⟨_, rfl, h 2 (by decide) (by decide)⟩
  · exact ⟨_, rfl, h 3 (by decide) (by decide)⟩
def spRowL (K : PySem.W.Frag) : Sp := fun vs H Q _ => ∃ c p ws, vs = [.int c, .ref p] ∧ SqL K H p ws ∧ ws.length = 4 ∧ (∀ v ∈ ws, SignV v) ∧ ∀ v r H', RF.Ok r → r.Low → r.steps.length ≤ 3 → Same H H' → Dp K H' v r.d → Q v H'
theorem ok__law_row (T : Txt K mg) : OkD P w K mg base 3 (fA K "_law_row") ["_law_cell_here", "_law_signs_here"] [] (spRowL K) := by
  refine okD T.F__law_row sc__law_row (fun _ _ _ _ _ _ us hl => match us, hl with | [_, _], _ => rfl) ?_ ?_
  · rintro vs H Q E ⟨c, p, ws, rfl, _⟩
    rfl
  · rintro cdv A outer s H vs Q E hr ⟨c, p, ws, rfl, hs, hl, hw, q⟩
    refine ⟨_, (pss_cons (ps_set (i := 2) sc__law_row.nd rfl (Or.inl rfl) (pe_lst pa_nil))
  (pss_cons (ps_mid (ps_for (passes_of rfl) rfl (pi_mid (pi_range1 rfl T.fr_range (pa_cons (pe_ix (o_ix (K := K)) (pe_lst (pa_cons pe_int (pa_cons pe_int (pa_cons pe_int (pa_cons pe_int pa_nil))))) (pe_op op_mod (pv 0) pe_int) (fun _ _ => rfl)) pa_nil))) (pg_name (i := 3) sc__law_row.nd rfl (Or.inl rfl)) (pss_cons (ps_set (i := 4) sc__law_row.nd rfl (Or.inl rfl) (pe_mid (pe_cal (ok__law_mixed T) (hr.mono (by decide)) rfl T.g__law_mixed (pasE (takes_of rfl rfl rfl rfl) (fun _ _ _ _ h => h)) (pa_cons (pv 0) (pa_cons (pe_op (o_add (K := K)) pe_int (pv 3)) pa_nil)))))
  (pss_one (ps_if (pt_mid (PW.pt (pw_and (pt_cmpR (o_eq (K := K) (hu64 hr)) (pe_op op_mod (pv 4) pe_int) pe_int (nomark _)) (pw_and1 (pt_cmpR (o_notin (K := K) (hu65 hr)) (pe_tup (pa_cons pe_str pa_nil)) (pe_slice (o_sl (K := K)) (pv 2) (po_some (pe_un un_neg pe_int)) po_none) (by rfl)))))) (pss_one (ps_expr (pe_bmK (K := K) PySem.F.plainAttrs_list PySem.F.slot_list_append PySem.F.type_list_append mt_append (pv 2) (pa_cons (pe_mid (pe_tup (pa_cons pe_str pa_nil))) pa_nil)))) (pss_one (ps_expr (pe_bmK (K := K) PySem.F.plainAttrs_list PySem.F.slot_list_append PySem.F.type_list_append mt_append (pv 2) (pa_cons (pe_mid (pe_cal (ok__law_segment T) (hr.mono (by decide)) rfl T.g__law_segment (pasE (takes_of rfl rfl rfl rfl) (fun _ _ _ _ h => h)) (pa_cons (pe_op op_fdivW (pv 4) pe_int) (pa_cons (pv 1) pa_nil)))) pa_nil)))))))))
  (pss_one (ps_ret (pe_tup (pa_cons (pe_callTy (o_tuple (K := K)) (by rfl) T.fr_tuple (by decide +kernel) (pa_cons (pv 2) pa_nil)) (pa_cons (pe_cmpR (o_eq (K := K) (hu64 hr)) (pe_op op_mod (pe_op op_fdivW (pv 0) pe_int) pe_int) pe_int (nomark _)) (pa_cons (pe_cmpR (o_eq (K := K) (hu64 hr)) (pe_op op_mod (pe_op op_fdivW (pv 0) pe_int) pe_int) pe_int (nomark _)) pa_nil)))))))), ?_⟩
    have tobj := T.obj
    refine q_new fun L hL => ?_
    have sL := same_new (o := .lst []) hL
    refine q_stm (fun σ H' => ∃ ss us x1 x2, σ = [some (.int c), some (.ref p), some (.ref L), x1, x2] ∧ Same H H' ∧ H' L = some (.lst us) ∧ Each (fun f u H => Dp K H u (SF.d f)) ss us H' ∧ ss ≠ [] ∧ (∀ s ∈ ss, s.Ok) ∧ NoTwoD ss ∧ ss.length ≤ 3 ∧ ∀ fs, SF.seg fs ∈ ss → ∀ f ∈ fs, f.Low) ?_ ?_
    · refine for_open (fun J H' => ∃ n : Nat, J = Itr 0 n ∧ Same (upd H L (.lst [])) H' ∧ 1 ≤ n ∧ n ≤ 3) ?_ ?_
      · walk_at "rd"
        intro p' hp'
        exact ⟨_, .inl (.inl (.inl upd_same)), range4 (Q := fun v => ∃ j, v = V.int j ∧ _) fun n h1 h3 => ⟨n, rfl, by omega, by omega, n, rfl, same_new hp', h1, h3⟩⟩
      rintro _ H0 ⟨n, rfl, s0, hn1, hn3⟩
      have s00 := sL.trans s0
      refine for_mid (J0 := Itr 0 n) (H0 := H0) ⟨rfl, rfl⟩ walk_range
        (fun k σ H' => ∃ ss us x1 x2, σ = [some (.int c), some (.ref p), some (.ref L), x1, x2] ∧ Same H H' ∧ H' L = some (.lst us) ∧ Each (fun f u H => Dp K H u (SF.d f)) ss us H' ∧ (0 < k → ss ≠ []) ∧ (∀ s ∈ ss, s.Ok) ∧ NoTwoD ss ∧ ss.length ≤ k ∧ ∀ fs, SF.seg fs ∈ ss → ∀ f ∈ fs, f.Low)
        ⟨[], [], none, none, rfl, s00, s0 _ _ upd_same, .nil, fun h => absurd h (by decide), fun _ h => (nomatch h), trivial, Nat.le_refl _, fun _ h => nomatch h⟩ (fun _ _ _ _ _ => trivial) ?_ (fun σ H' h => ?_)
      · rintro k x σ H1 H1' hk ⟨ss, us, x1, x2, rfl, sm, hl1, each, ne, oks, two, len, low⟩ ⟨rfl, rfl⟩
        refine q_mid (fun m => 0 ≤ m ∧ m < 2147483647) ?_ fun mk hmk => ?_
        · walk_at "rd"
          exact ⟨c, _, rfl, fun m h1 h2 => ⟨rfl, m, rfl, h1, h2⟩⟩
        refine l_if (fun b H' => Same H1' H' ∧ (b = true → ss.getLast? ≠ some .deep)) ?_ ?_ ?_
        · walk_at "rd"
          refine ite2 (fun _ => ?_) fun _ h => h.elim
          exact deep_test (R := fun k H' => Same H1' H' ∧ (k = true → ¬ss.getLast? = some SF.deep)) hl1 each oks fun b H' s h => ⟨s, h⟩
        · rintro H3 ⟨s3, hb⟩
          have hL3 := s3 _ _ hl1
          refine l_app rfl hL3 ?_
          walk_at "rd"
          intro p' hp'
          have sp := same_new (o := .tup [V.str (Str.ofString "deep")]) hp'
          have s13 := (sm.trans s3).trans sp
          refine ⟨us, sp _ _ hL3, by rw [each.1]; omega, same_mut s13 hL, ss ++ [.deep], _, upd_same, forms_snoc (sp _ _ hL3) (each.imp fun f u d => dp_mono (s3.trans sp) _ _ d) (.tup (.inl (.inl upd_same)) (.cons (.str _) .nil)), fun _ => by simp, fun s h => ?_, twoD_snoc two fun _ => hb rfl, ?_, fun fs h => ?_⟩
          · exact (List.mem_append.mp h).elim (oks s) fun e => by rw [List.mem_singleton.mp e]; trivial
          · rw [List.length_append]; exact Nat.succ_le_succ len
          · exact (List.mem_append.mp h).elim (low fs) fun e => nomatch (List.mem_singleton.mp e)
        · rintro H3 ⟨s3, hb⟩
          have hL3 := s3 _ _ hl1
          refine l_app rfl hL3 ?_
          walk_at "rd"
          refine ⟨⟨by decide, by decide⟩, mk / 5, p, ws, rfl, same_l (sm.trans s3) hs, hl, hw, fun v fs H4 okf _ lo s4 d => ⟨us, s4 _ _ hL3, by rw [each.1]; omega, same_mut ((sm.trans s3).trans s4) hL, ss ++ [.seg fs], _, upd_same, forms_snoc (s4 _ _ hL3) (each.imp fun f u d => dp_mono (s3.trans s4) _ _ d) d, fun _ => by simp, fun s h => ?_, twoD_snoc two (fun e => nomatch e), ?_, fun gs h => ?_⟩⟩
          · exact (List.mem_append.mp h).elim (oks s) fun e => by rw [List.mem_singleton.mp e]; exact okf
          · rw [List.length_append]; exact Nat.succ_le_succ len
          · exact (List.mem_append.mp h).elim (low gs) fun e => by cases List.mem_singleton.mp e; exact lo
      · obtain ⟨ss, us, x1, x2, e, s1, h1, h2, h3, h4, h5, h6, h7⟩ := h
        exact ⟨ss, us, x1, x2, e, s1, h1, h2, h3 (by omega), h4, h5, by omega, h7⟩
    · rintro σ H1 ⟨ss, us, x1, x2, rfl, s1, h1, h2, h3, h4, h5, h6, h7⟩
      walk_at "rd"
      refine ⟨us, .inl ⟨.inl (.inl h1), fun l hl' => ⟨⟨by decide, by decide⟩, ⟨by decide, by decide⟩, fun p' hp' => ?_⟩⟩⟩
      exact q _ ⟨ss, _, _⟩ _ ⟨h3, h4, h5, Nat.le_trans h6 (by decide)⟩ h7 h6 ((s1.trans (same_new hl')).trans (same_new hp')) (row_d (r := ⟨ss, _, _⟩) h2 hl' hp')
/-! ### lists of signs -/
theorem signs_list : ∀ {ws : List V}, (∀ v ∈ ws, SignV v) → ∃ cs : List Nat, ws = (cs.map fun c => S [c]).map V.str ∧ ∀ c ∈ cs, c ∈ SIG
  | [], _ => ⟨[], rfl, fun _ h => nomatch h⟩
  | v :: r, h => by
    obtain ⟨c, hc, rfl⟩ := h v List.mem_cons_self
    obtain ⟨cs, rfl, hs⟩ := signs_list (ws := r) fun u hu => h u (List.mem_cons_of_mem _ hu)
    exact ⟨c :: cs, rfl, fun d hd => (List.mem_cons.mp hd).elim (fun e => e ▸ hc) (hs d)⟩
theorem q_next {u : TS} {D : Ends} {σ : L2.St} {H : Hp} (h : u D σ H) : tSeq tNext u D σ H := h

/-! ### signs that a part fits -/
def FOk (f : PF) : Prop := f.Ok ∧ f.Low
def WsOk (ws : List V) : Prop := ws.Nodup
theorem ws_out {cs l : List Nat} (hc : cs.length = 4) (hn : cs.Nodup) (h : l.length ≤ 3) : ∃ c ∈ cs, c ∉ l := by
  refine Classical.byContradiction fun n => ?_
  have a : ∀ c ∈ cs, c ∈ l := fun c hc => Classical.byContradiction fun q => n ⟨c, hc, q⟩
  have e := nat_nodup_len cs l hn a
  omega
def spFilled (K : PySem.W.Frag) : Sp := fun vs H Q _ => ∃ v c p ws f, vs = [v, .int c, .ref p] ∧ Dp K H v (PF.d f) ∧ FOk f ∧ SqL K H p ws ∧ ws.length = 4 ∧ WsOk ws ∧ (∀ v ∈ ws, SignV v) ∧ ∀ l H', l.length ≤ 2 → (∀ c ∈ l, c ∈ SIG) → Same H H' → Q (.str (S l)) H'
theorem ok__law_filled (T : Txt K mg) : OkD P w K mg base 1 (fA K "_law_filled") ["_law_part_here", "_law_cell_here", "_law_signs_here"] [] (spFilled K) := by
  refine okD T.F__law_filled sc__law_filled (fun _ _ _ _ _ _ us hl => match us, hl with | [_, _, _], _ => rfl) ?_ ?_
  · rintro vs H Q E ⟨v, c, p, ws, f, rfl, _⟩
    rfl
  · rintro cdv A outer s H vs Q E hr ⟨v, c, p, ws, f, rfl, hd, okl, hs, hl, wsd, hw, q⟩
    have ok : f.Ok := okl.1
    have wsd : ws.Nodup := wsd
    refine ⟨_, (pss_cons (ps_if (pt_mid (pt_cmpR (o_eq (K := K) (hu64 hr)) (pe_ix (o_ix (K := K)) (pv 0) pe_int (fun _ _ => rfl)) pe_str (nomark _))) (pss_one (ps_ret (pe_ix (o_ix (K := K)) (pv 0) pe_int (fun _ _ => rfl)))) pss_nil)
  (pss_cons (ps_if (pt_mid (pt_cmpR (o_eq (K := K) (hu64 hr)) (pe_ix (o_ix (K := K)) (pv 0) pe_int (fun _ _ => rfl)) pe_str (nomark _))) (pss_one (ps_ret (pe_ix (o_ix (K := K)) (pv 2) (pe_op op_mod (pv 1) pe_int) (fun _ _ => rfl)))) pss_nil)
  (pss_cons (ps_if (pt_mid (pt_cmpR (o_eq (K := K) (hu64 hr)) (pe_ix (o_ix (K := K)) (pv 0) pe_int (fun _ _ => rfl)) pe_str (nomark _))) (pss_cons (ps_set (i := 3) sc__law_filled.nd rfl (Or.inl rfl) (pe_mid (pe_op (o_add (K := K)) (pe_ix (o_ix (K := K)) (pv 2) (pe_op op_mod (pv 1) pe_int) (fun _ _ => rfl)) (pe_ix (o_ix (K := K)) (pv 2) (pe_op op_mod (pe_op op_fdivW (pv 1) pe_int) pe_int) (fun _ _ => rfl)))))
  (pss_one (ps_ret (pe_slice (o_sl (K := K)) (pv 3) po_none (po_some (pe_op op_mod (pe_op op_fdivW (pv 1) pe_int) pe_int)))))) pss_nil)
  (pss_cons (ps_if (pt_mid (pt_tru (K := K) (pe_ix (o_ix (K := K)) (pv 0) pe_int (fun _ _ => rfl)) (by intro _; rfl))) (pss_cons (ps_setLc (own := [("_law_sign", 4)]) (g := (gName 4)) (i := 3) rfl sc__law_filled.nd rfl rfl (sw_true rfl rfl rfl (by decide +kernel)) (pi_mid (o_it (K := K) rfl (pv 2))) (blkOk_by (N := N__law_filled) (sc := defScope TX.s__law_filled) (by decide +kernel)) (fun _ _ _ _ _ => (pg_name (i := 4) sc__law_filled.nd rfl (Or.inl rfl))) (fun _ _ _ _ _ => (pts_one (pt_mid (pt_cmpR (o_notin (K := K) (hu65 hr)) (pv 4) (pe_ix (o_ix (K := K)) (pv 0) pe_int (fun _ _ => rfl)) (by rfl))))) (fun _ _ _ _ _ => (pe_mid (pv 4))))
  (pss_one (ps_ret (pe_ix (o_ix (K := K)) (pv 3) pe_int (fun _ _ => rfl))))) pss_nil)
  (pss_one (ps_ret (pe_ix (o_ix (K := K)) (pe_ix (o_ix (K := K)) (pv 0) pe_int (fun _ _ => rfl)) (pe_op op_mod (pv 1) (pe_callB (o_lenW (K := K) (w := w)) (by rfl) T.fr_len boot_len (pa_cons (pe_ix (o_ix (K := K)) (pv 0) pe_int (fun _ _ => rfl)) pa_nil))) (fun _ _ => rfl)))))))), ?_⟩
    have tobj := T.obj
    obtain ⟨a, rfl, hv⟩ := PF.inv hd
    obtain ⟨c1, hc1, e1⟩ := at4 hl hw c
    obtain ⟨c2, hc2, e2⟩ := at4 hl hw (c / 4)
    cases f with
    | one d =>
      refine q_if (fun b H1 => b = true ∧ H1 = H) (by walk_at "rdx") (fun H1 h => ?_) (fun H1 h => nomatch h.1)
      obtain ⟨_, rfl⟩ := h
      walk_at "rdx"
      exact q [d] _ (by simp) (fun c hc => by rw [List.mem_singleton.mp hc]; exact ok) (Same.refl _)
    | any =>
      refine q_if (fun b H1 => b = false ∧ H1 = H) (by walk_at "rdx") (fun H1 h => nomatch h.1) (fun H1 h => ?_)
      obtain ⟨_, rfl⟩ := h
      refine q_if (fun b H1' => b = true ∧ H1' = H1) (by walk_at "rdx") (fun H2 h => ?_) (fun H1 h => nomatch h.1)
      obtain ⟨_, rfl⟩ := h
      walk_at "rd"
      exact ⟨ws, .inl hs, _, e1, q [c1] _ (by simp) (fun c hc => by rw [List.mem_singleton.mp hc]; exact hc1) (Same.refl _)⟩
    | stars =>
      refine q_if (fun b H1 => b = false ∧ H1 = H) (by walk_at "rdx") (fun H1 h => nomatch h.1) (fun H1 h => ?_)
      obtain ⟨_, rfl⟩ := h
      refine q_if (fun b H1' => b = false ∧ H1' = H1) (by walk_at "rdx") (fun H1 h => nomatch h.1) (fun H2 h => ?_)
      obtain ⟨_, rfl⟩ := h
      refine q_if (fun b H1' => b = true ∧ H1' = H2) (by walk_at "rdx") (fun H3 h => ?_) (fun H1 h => nomatch h.1)
      obtain ⟨_, rfl⟩ := h
      refine q_midG (fun v H' => v = .str (S [c1, c2]) ∧ H' = H3) ?_ ?_
      · walk_at "rd"
        refine ⟨ws, .inl hs, _, e1, ⟨by decide, by decide⟩, ws, .inl hs, _, e2, ?_⟩
        show (S [c1]).length + (S [c2]).length ≤ 16777216 ∧ S [c1] ++ S [c2] = S [c1, c2]
        rw [S_cat]
        exact ⟨by rw [S_len, S_len]; simp, rfl⟩
      rintro _ _ ⟨rfl, rfl⟩
      rename_i H4
      walk_at "rd"
      refine ⟨⟨by decide, by decide⟩, by rw [S_len]; simp, ?_⟩
      refine q _ _ ?_ (fun c hc => ?_) (Same.refl _)
      · exact Nat.le_trans (List.length_take_le' _ _) (Nat.le_trans (drop_le _ _) (Nat.le_refl 2))
      · have h := List.mem_of_mem_drop (List.mem_of_mem_take hc)
        rcases List.mem_cons.mp h with rfl | h
        · exact hc1
        · rw [List.mem_singleton.mp h]; exact hc2
    | among l o =>
      refine q_if (fun b H1 => b = false ∧ H1 = H) (by walk_at "rdx") (fun H1 h => nomatch h.1) (fun H1 h => ?_)
      obtain ⟨_, rfl⟩ := h
      refine q_if (fun b H1' => b = false ∧ H1' = H1) (by walk_at "rdx") (fun H1 h => nomatch h.1) (fun H2 h => ?_)
      obtain ⟨_, rfl⟩ := h
      refine q_if (fun b H1' => b = false ∧ H1' = H2) (by walk_at "rdx") (fun H1 h => nomatch h.1) (fun H3 h => ?_)
      obtain ⟨_, rfl⟩ := h
      refine q_next ?_
      refine q_if (fun b H1' => o = b ∧ H1' = H3) ?_ (fun H4 h => ?_) (fun H4 h => ?_)
      · walk_at "rdx"
      · obtain ⟨rfl, rfl⟩ := h
        obtain ⟨cs, rfl, hcs⟩ := signs_list hw
        have lcs : cs.length = 4 := by simpa using hl
        have ncs : cs.Nodup := by
          have h : ((cs.map fun c => S [c]).map V.str).Nodup := wsd
          have h2 : (cs.map fun c => S [c]).Nodup := (List.pairwise_map.mp h).imp fun q e => q (by rw [e])
          exact nd_unmap h2
        have hs4 : (List.map V.str (List.map (fun c => S [c]) cs)).length = 4 := hl
        refine q_val ?_
        refine lc_midT (J0 := Itl K p) (H0 := H4) ?_ (walk_list (K := K) (a := p) (xs := (cs.map fun c => S [c]).map V.str)) (by rw [hs4]; decide) (fun k acc _ => acc = ((cs.take k).filter fun c => !decide (c ∈ l)).map fun c => V.str (S [c])) (fun _ _ _ _ _ e => e) rfl (fun H' s => same_l s hs) (fun _ _ _ _ y => y_at y) (fun _ => rfl) ?_ ?_
        · walk_at "rd"
          exact .inl ⟨_, hs⟩
        · rintro k x acc H' H'' hk sm ha ⟨rfl, hx⟩
          obtain ⟨c, hc', rfl⟩ : ∃ c, cs[k]? = some c ∧ x = .str (S [c]) := by
            rw [List.getElem?_map, List.getElem?_map] at hx
            cases e : cs[k]? with
            | none => rw [e] at hx; cases hx
            | some c => rw [e] at hx; exact ⟨c, rfl, (Option.some.inj hx).symm⟩
          have hv' := same_t sm hv
          have tk : cs.take (k + 1) = cs.take k ++ [c] := by rw [List.take_succ, hc']; rfl
          walk_at "rdx"
          refine .inl ⟨c, rfl, ?_⟩
          rw [tk, List.filter_append, List.map_append, ← ha]
          by_cases h : c ∈ l <;> simp [h]
        · rintro r acc H' hp0 sm hD hle ha
          rw [List.take_of_length_le (by rw [hs4, lcs]; exact Nat.le_refl _)] at ha
          obtain ⟨d, hd1, hd2⟩ := ws_out lcs ncs (okl.2)
          have hmem : d ∈ cs.filter fun c => !decide (c ∈ l) := List.mem_filter.mpr ⟨hd1, by simp [hd2]⟩
          cases hf : cs.filter fun c => !decide (c ∈ l) with
          | nil => rw [hf] at hmem; cases hmem
          | cons y r' =>
            rw [hf] at ha
            have hy : y ∈ cs := (List.mem_filter.mp (by rw [hf]; exact List.mem_cons_self)).1
            walk_at "rd"
            refine ⟨acc, .inl (.inl (.inl hD)), V.str (S [y]), ?_, ?_⟩
            · rw [ha]; exact atI_zero
            · exact q [y] _ (by simp) (fun c hc => by rw [List.mem_singleton.mp hc]; exact hcs y hy) sm
      · obtain ⟨_, rfl⟩ := h
        have hl0 : 0 < l.length := List.length_pos_iff.mpr ok.1.ne
        obtain ⟨j, hj⟩ : ∃ j : Nat, c % (l.length : Int) = (j : Int) := ⟨(c % (l.length : Int)).toNat, by have := Int.emod_nonneg c (b := (l.length : Int)) (by omega); omega⟩
        have hj2 : j < l.length := by
          have := Int.emod_lt_of_pos c (b := (l.length : Int)) (by omega)
          omega
        have h12 := ok.2
        walk_at "rdx"
        rw [S_len, hj]
        exact ⟨by omega, by omega, by omega, l[j], atI_nat (List.getElem?_eq_getElem hj2), q [l[j]] _ (by simp) (fun c hc => by rw [List.mem_singleton.mp hc]; exact ok.1.sg _ (List.getElem_mem hj2)) (Same.refl _)⟩

/-! ### names about a row -/
/-- a name: signs, one at least -/
def NmV (b : Nat) (v : V) : Prop := ∃ l : List Nat, v = .str (S l) ∧ l ≠ [] ∧ l.length ≤ b ∧ ∀ c ∈ l, c ∈ SIG
theorem NmV.up {b b' : Nat} {v : V} (h : NmV b v) (e : b ≤ b') : NmV b' v := let ⟨l, a, c, d, f⟩ := h; ⟨l, a, c, Nat.le_trans d e, f⟩
def NmL (H : Hp) (F : Addr) (b : Nat) (us : List V) (n : Nat) (H' : Hp) : Prop := Same H H' ∧ H F = none ∧ H' F = some (.lst us) ∧ (∀ u ∈ us, NmV b u) ∧ us.length ≤ n
theorem nm_one {c b : Nat} (h : c ∈ SIG) : NmV (b + 2) (.str (S [c])) := ⟨[c], rfl, by simp, by simp, fun d hd => by rw [List.mem_singleton.mp hd]; exact h⟩
theorem nm_two {c d b : Nat} (h : c ∈ SIG) (g : d ∈ SIG) : NmV (b + 2) (.str (S [c, d])) := ⟨[c, d], rfl, by simp, by simp, fun e he => (List.mem_cons.mp he).elim (fun q => q ▸ h) fun q => by rw [List.mem_singleton.mp q]; exact g⟩
theorem all_snoc {p : V → Prop} {us : List V} {u : V} (h : ∀ v ∈ us, p v) (g : p u) : ∀ v ∈ us ++ [u], p v := fun v hv => (List.mem_append.mp hv).elim (h v) fun e => by rw [List.mem_singleton.mp e]; exact g
theorem all_app {p : V → Prop} {us ws : List V} (h : ∀ v ∈ us, p v) (g : ∀ v ∈ ws, p v) : ∀ v ∈ us ++ ws, p v := fun v hv => (List.mem_append.mp hv).elim (h v) (g v)
theorem cut_mem {us : List V} {lo hi : Option Int} {v : V} (h : v ∈ cutV us lo hi) : v ∈ us := List.mem_of_mem_drop (List.mem_of_mem_take h)
theorem cut_len {us : List V} {lo hi : Option Int} : (cutV us lo hi).length ≤ us.length := Nat.le_trans (List.length_take_le' _ _) (drop_le _ _)
theorem ix_nat {n j : Nat} (h : j < n) : ixN n (j : Int) = some j := by
  unfold ixN
  rw [if_pos (Int.natCast_nonneg _), if_pos (by omega), Int.toNat_natCast]
theorem at_name {us : List V} {i : Int} (hne : us ≠ []) (h0 : 0 ≤ i) (h1 : i < max 1 (us.length : Int)) {b : Nat} (h : ∀ u ∈ us, NmV b u) : ∃ (j : Nat), i = (j : Int) ∧ j < us.length ∧ ∃ l : List Nat, atI us i = some (.str (S l)) ∧ l ≠ [] ∧ l.length ≤ b ∧ ∀ c ∈ l, c ∈ SIG := by
  have hl : 0 < us.length := List.length_pos_iff.mpr hne
  obtain ⟨j, rfl⟩ : ∃ j : Nat, i = (j : Int) := ⟨i.toNat, by omega⟩
  have hj : j < us.length := by omega
  obtain ⟨l, e, a, b, c⟩ := h us[j] (List.getElem_mem hj)
  refine ⟨j, rfl, hj, l, atI_nat ?_, a, b, c⟩
  rw [List.getElem?_eq_getElem hj, e]
theorem cutS_sub (l : List Nat) (lo hi : Option Int) : ∃ m : List Nat, cutS (S l) lo hi = S m ∧ m.length ≤ l.length ∧ ∀ c ∈ m, c ∈ l :=
  ⟨_, rfl, Nat.le_trans (List.length_take_le' _ _) (drop_le _ _), fun _ h => List.mem_of_mem_drop (List.mem_of_mem_take h)⟩
def spNames (K : PySem.W.Frag) : Sp := fun vs H Q _ => ∃ v c p ws r, vs = [v, .int c, .ref p] ∧ Dp K H v (RF.d r) ∧ RF.Ok r ∧ (∀ fs, SF.seg fs ∈ r.steps → ∀ f ∈ fs, FOk f) ∧ SqL K H p ws ∧ ws.length = 4 ∧ WsOk ws ∧ (∀ v ∈ ws, SignV v) ∧
  ∀ F us H', us ≠ [] → (∀ u ∈ us, NmV 400 u) → us.length ≤ 50 → Same H H' → H' F = some (.lst us) → Q (.ref F) H'
theorem ok__law_names (T : Txt K mg) : OkD P w K mg base 2 (fA K "_law_names") ["_law_form", "_law_cell_here", "_law_signs_here"] [] (spNames K) := by
  refine okD T.F__law_names sc__law_names (fun _ _ _ _ _ _ us hl => match us, hl with | [_, _, _], _ => rfl) ?_ ?_
  · rintro vs H Q E ⟨v, c, p, ws, r, rfl, _⟩
    rfl
  · rintro cdv A outer s H vs Q E hr ⟨v, c, p, ws, r, rfl, hd, okr, okp, hs, hl, wok, hw, q⟩
    refine ⟨_, (pss_cons (ps_set (i := 3) sc__law_names.nd rfl (Or.inl rfl) (pe_mid (pe_lst pa_nil)))
  (pss_cons (ps_mid (ps_for (passes_of rfl) rfl (pi_mid (pi_range1 rfl T.fr_range (pa_cons (pe_callB (o_lenW (K := K) (w := w)) (by rfl) T.fr_len boot_len (pa_cons (pe_ix (o_ix (K := K)) (pv 0) pe_int (fun _ _ => rfl)) pa_nil)) pa_nil))) (pg_name (i := 4) sc__law_names.nd rfl (Or.inl rfl)) (pss_cons (ps_set (i := 5) sc__law_names.nd rfl (Or.inl rfl) (pe_mid (pe_ix (o_ix (K := K)) (pe_ix (o_ix (K := K)) (pv 0) pe_int (fun _ _ => rfl)) (pv 4) (fun _ _ => rfl))))
  (pss_cons (ps_set (i := 6) sc__law_names.nd rfl (Or.inl rfl) (pe_mid (pe_cal (ok__law_mixed T) (hr.mono (by decide)) rfl T.g__law_mixed (pasE (takes_of rfl rfl rfl rfl) (fun _ _ _ _ h => h)) (pa_cons (pv 1) (pa_cons (pe_op (o_add (K := K)) pe_int (pv 4)) pa_nil)))))
  (pss_one (ps_if (pt_mid (pt_cmpR (o_eq (K := K) (hu64 hr)) (pe_ix (o_ix (K := K)) (pv 5) pe_int (fun _ _ => rfl)) pe_str (nomark _))) (pss_cons (ps_set (i := 7) sc__law_names.nd rfl (Or.inl rfl) (pe_mid (pe_lst (pa_cons (pe_ix (o_ix (K := K)) (pv 2) (pe_op op_mod (pe_op op_fdivW (pv 6) pe_int) pe_int) (fun _ _ => rfl)) (pa_cons (pe_op (o_add (K := K)) (pe_ix (o_ix (K := K)) (pv 2) (pe_op op_mod (pe_op op_fdivW (pv 6) pe_int) pe_int) (fun _ _ => rfl)) (pe_ix (o_ix (K := K)) (pv 2) (pe_op op_mod (pe_op op_fdivW (pv 6) pe_int) pe_int) (fun _ _ => rfl))) pa_nil)))))
  (pss_one (ps_set (i := 3) sc__law_names.nd rfl (Or.inl rfl) (pe_mid (pe_op (o_add (K := K)) (pv 3) (pe_slice (o_sl (K := K)) (pv 7) po_none (po_some (pe_op op_mod (pv 6) pe_int)))))))) (pss_cons (ps_set (i := 8) sc__law_names.nd rfl (Or.inl rfl) (pe_mid pe_str))
  (pss_cons (ps_mid (ps_for (passes_of rfl) rfl (pi_mid (pi_range1 rfl T.fr_range (pa_cons (pe_callB (o_lenW (K := K) (w := w)) (by rfl) T.fr_len boot_len (pa_cons (pe_ix (o_ix (K := K)) (pv 5) pe_int (fun _ _ => rfl)) pa_nil)) pa_nil))) (pg_name (i := 9) sc__law_names.nd rfl (Or.inl rfl)) (pss_one (ps_set (i := 8) sc__law_names.nd rfl (Or.inl rfl) (pe_mid (pe_op (o_add (K := K)) (pv 8) (pe_cal (ok__law_filled T) (hr.mono (by decide)) rfl T.g__law_filled (pasE (takes_of rfl rfl rfl rfl) (fun _ _ _ _ h => h)) (pa_cons (pe_ix (o_ix (K := K)) (pe_ix (o_ix (K := K)) (pv 5) pe_int (fun _ _ => rfl)) (pv 9) (fun _ _ => rfl)) (pa_cons (pe_cal (ok__law_mixed T) (hr.mono (by decide)) rfl T.g__law_mixed (pasE (takes_of rfl rfl rfl rfl) (fun _ _ _ _ h => h)) (pa_cons (pv 6) (pa_cons (pv 9) pa_nil))) (pa_cons (pv 2) pa_nil))))))))))
  (pss_one (ps_expr (pe_bmK (K := K) PySem.F.plainAttrs_list PySem.F.slot_list_append PySem.F.type_list_append mt_append (pv 3) (pa_cons (pe_mid (pe_orK (K := K) (pv 8) (pe_one (pe_ix (o_ix (K := K)) (pv 2) pe_int (fun _ _ => rfl))))) pa_nil))))))))))))
  (pss_cons (ps_set (i := 10) sc__law_names.nd rfl (Or.inl rfl) (pe_mid (pe_op op_mod (pe_op op_fdivW (pv 1) pe_int) pe_int)))
  (pss_cons (ps_set (i := 11) sc__law_names.nd rfl (Or.inl rfl) (pe_mid (pe_op op_mod (pe_op op_fdivW (pv 1) pe_int) (pe_callB (o_max (K := K) rfl) (by rfl) T.fr_max (by decide +kernel) (pa_cons pe_int (pa_cons (pe_callB (o_lenW (K := K) (w := w)) (by rfl) T.fr_len boot_len (pa_cons (pv 3) pa_nil)) pa_nil))))))
  (pss_cons (ps_mid (ps_if (pt_mid (pt_cmpR (o_eq (K := K) (hu64 hr)) (pv 10) pe_int (nomark _))) (pss_one (ps_set (i := 3) sc__law_names.nd rfl (Or.inl rfl) (pe_mid (pe_op (o_add (K := K)) (pv 3) (pe_lst (pa_cons (pe_ix (o_ix (K := K)) (pv 2) (pe_op op_mod (pe_op op_fdivW (pv 1) pe_int) pe_int) (fun _ _ => rfl)) pa_nil)))))) pss_nil))
  (pss_cons (ps_mid (ps_if (pt_mid (pt_cmpR (o_eq (K := K) (hu64 hr)) (pv 10) pe_int (nomark _))) (pss_one (ps_set (i := 3) sc__law_names.nd rfl (Or.inl rfl) (pe_mid (pe_op (o_add (K := K)) (pe_slice (o_sl (K := K)) (pv 3) po_none (po_some (pv 11))) (pe_slice (o_sl (K := K)) (pv 3) (po_some (pe_op (o_add (K := K)) (pv 11) pe_int)) po_none))))) pss_nil))
  (pss_cons (ps_mid (ps_if (pt_mid (PW.pt (pw_and (pt_cmpR (o_eq (K := K) (hu64 hr)) (pv 10) pe_int (nomark _)) (pw_and1 (pt_cmpR (o_ne (K := K) (hu64 hr)) (pv 3) (pe_lst pa_nil) (nomark _)))))) (pss_one (ps_asg (pe_op (o_add (K := K)) (pe_ix (o_ix (K := K)) (pv 3) (pv 11) (fun _ _ => rfl)) (pe_ix (o_ix (K := K)) (pv 2) (pe_op op_mod (pe_op op_fdivW (pv 1) pe_int) pe_int) (fun _ _ => rfl))) (pg_sub (pv 3) (pv 11) set_list))) pss_nil))
  (pss_cons (ps_mid (ps_if (pt_mid (PW.pt (pw_and (pt_cmpR (o_eq (K := K) (hu64 hr)) (pv 10) pe_int (nomark _)) (pw_and1 (pt_cmpR (o_ne (K := K) (hu64 hr)) (pv 3) (pe_lst pa_nil) (nomark _)))))) (pss_one (ps_asg (pe_op (o_add (K := K)) (pe_ix (o_ix (K := K)) (pv 2) (pe_op op_mod (pe_op op_fdivW (pv 1) pe_int) pe_int) (fun _ _ => rfl)) (pe_slice (o_sl (K := K)) (pe_ix (o_ix (K := K)) (pv 3) (pv 11) (fun _ _ => rfl)) (po_some pe_int) po_none)) (pg_sub (pv 3) (pv 11) set_list))) pss_nil))
  (pss_one (ps_ret (pe_orK (K := K) (pv 3) (pe_one (pe_lst (pa_cons (pe_ix (o_ix (K := K)) (pv 2) (pe_op op_mod (pe_op op_fdivW (pv 1) pe_int) pe_int) (fun _ _ => rfl)) pa_nil)))))))))))))), ?_⟩
    have tobj := T.obj
    obtain ⟨a, t, ts, rfl, ha, ht, each⟩ := RF.inv hd
    obtain ⟨c0, hc0, e0⟩ := at4 hl hw 0
    have e0' : atI ws 0 = some (.str (S [c0])) := e0
    obtain ⟨cx, hcx, ex⟩ := at4 hl hw (c / 100)
    refine q_midG (fun v H' => ∃ F, v = .ref F ∧ NmL H F 398 [] 0 H') ?_ ?_
    · walk_at "rd"
      exact fun p hp => ⟨same_new hp, hp, upd_same, fun _ h => (nomatch h), Nat.le_refl _⟩
    rintro _ H0 ⟨F0, rfl, n0⟩
    refine q_stm (fun σ H' => ∃ F us x4 x5 x6 x7 x8 x9 x10 x11, σ = [some (.ref a), some (.int c), some (.ref p), some (.ref F), x4, x5, x6, x7, x8, x9, x10, x11] ∧ NmL H F 398 us 24 H') ?_ ?_
    · refine for_mid (J0 := Itr 0 r.steps.length) (H0 := H0) ?_ walk_range
        (fun k σ H' => ∃ F us x4 x5 x6 x7 x8 x9 x10 x11, σ = [some (.ref a), some (.int c), some (.ref p), some (.ref F), x4, x5, x6, x7, x8, x9, x10, x11] ∧ NmL H F 398 us (2 * k) H')
        ⟨F0, [], none, none, none, none, none, none, none, none, rfl, n0⟩ (fun _ _ _ _ _ => trivial) ?_ (fun σ H' h => ?_)
      · have ha1 := same_t n0.1 ha
        have ht1 := same_t n0.1 ht
        walk_at "rdx"
        refine .inr ⟨_, .inr ⟨ts, ht1, rfl⟩, ?_⟩
        have := okr.len
        rw [each.1]
        exact ⟨by omega, by omega, rfl⟩
      · rintro k x σ H1 H1' hk ⟨F, us, x4, x5, x6, x7, x8, x9, x10, x11, rfl, sm, hF0, hF, nus, lus⟩ ⟨rfl, rfl⟩
        have hfk : r.steps[k]? = some r.steps[k] := List.getElem?_eq_getElem hk
        have okk := okr.ok _ (List.getElem_mem hk)
        have okpk : ∀ fs, r.steps[k] = SF.seg fs → ∀ f ∈ fs, FOk f := fun fs e => okp fs (e ▸ List.getElem_mem hk)
        generalize r.steps[k] = sf at hfk okk okpk
        obtain ⟨u, hu, du⟩ := each.2 k sf hfk
        have ha1 := same_t sm ha
        have ht1 := same_t sm ht
        have hs1 := same_l sm hs
        have du1 := dp_mono sm _ _ du
        refine q_midG (fun v H' => v = u ∧ H' = H1') ?_ ?_
        · walk_at "rdx"
          exact ⟨ts, .inr ht1, u, atI_nat hu, rfl⟩
        rintro _ _ ⟨rfl, rfl⟩
        rename_i v H2
        refine q_mid (fun m => 0 ≤ m ∧ m < 2147483647) ?_ fun mk hmk => ?_
        · walk_at "rd"
          exact ⟨c, _, rfl, fun m h1 h2 => ⟨rfl, m, rfl, h1, h2⟩⟩
        cases sf with
        | deep =>
          obtain ⟨va, rfl, hv⟩ := SF.deep_inv du1
          refine l_if (fun b H' => b = true ∧ H' = H2) (by walk_at "rdx") (fun H5 h => ?_) (fun H1 h => nomatch h.1)
          obtain ⟨_, rfl⟩ := h
          obtain ⟨c1, hc1, e1⟩ := at4 hl hw (mk / 3)
          obtain ⟨c2, hc2, e2⟩ := at4 hl hw (mk / 12)
          obtain ⟨c3, hc3, e3⟩ := at4 hl hw (mk / 48)
          refine q_midG (fun v H' => ∃ G, v = .ref G ∧ Same H5 H' ∧ H' G = some (.lst [.str (S [c1]), .str (S [c2, c3])])) ?_ ?_
          · walk_at "rd"
            refine ⟨⟨by decide, by decide⟩, ws, .inl hs1, _, e1, ⟨by decide, by decide⟩, ws, .inl hs1, _, e2, ⟨by decide, by decide⟩, ws, .inl hs1, _, e3, ?_⟩
            show (S [c2]).length + (S [c3]).length ≤ 16777216 ∧ _
            rw [S_cat, S_len, S_len]
            exact ⟨by simp, fun p hp => ⟨same_new hp, upd_same⟩⟩
          rintro _ H6 ⟨G, rfl, s6, hG⟩
          have hF6 := s6 _ _ hF
          refine l_midG (fun v H' => ∃ F us', v = .ref F ∧ NmL H F 398 us' (2 * (k + 1)) H') ?_ ?_
          · walk_at "rd"
            refine .inl ⟨_, .inl (.inl hG), fun p1 hp1 => .inl ⟨us, (same_new hp1) _ _ hF6, _, upd_same, ?_, fun p2 hp2 => ⟨us ++ cutV [.str (S [c1]), .str (S [c2, c3])] none (some (mk % 3)), ?_⟩⟩⟩
            · have hcl := cut_len (us := [V.str (S [c1]), V.str (S [c2, c3])]) (lo := none) (hi := some (mk % 3))
              have := okr.len
              simp only [List.length_cons, List.length_nil] at hcl
              omega
            · have sx := ((sm.trans s6).trans (same_new hp1)).trans (same_new (o := .lst (us ++ cutV [.str (S [c1]), .str (S [c2, c3])] none (some (mk % 3)))) hp2)
              refine ⟨sx, same_none ((sm.trans s6).trans (same_new hp1)) hp2, upd_same, all_app nus fun v hv => ?_, ?_⟩
              · have h := cut_mem hv
                rcases List.mem_cons.mp h with rfl | h
                · exact nm_one hc1
                · rw [List.mem_singleton.mp h]; exact nm_two hc2 hc3
              · have := cut_len (us := [V.str (S [c1]), V.str (S [c2, c3])]) (lo := none) (hi := some (mk % 3))
                simp only [List.length_cons, List.length_nil] at this
                rw [List.length_append]
                omega
          · rintro _ H7 ⟨F, us', rfl, n7⟩
            exact ⟨F, us', _, _, _, _, _, _, _, _, rfl, n7⟩
        | seg fs =>
          obtain ⟨va, t1, us1, rfl, hv, ht1', each1⟩ := SF.seg_inv du1
          have okf : PartsOk fs := okk
          refine l_if (fun b H' => b = false ∧ H' = H2) (by walk_at "rdx") (fun H1 h => nomatch h.1) (fun H5 h => ?_)
          obtain ⟨_, rfl⟩ := h
          refine q_midG (fun v H' => v = .str (S []) ∧ H' = H5) (by walk_at "rd"; rfl) ?_
          rintro _ _ ⟨rfl, rfl⟩
          rename_i H6
          refine q_stm (fun σ H' => Same H6 H' ∧ ∃ l x9, σ = [some (.ref a), some (.int c), some (.ref p), some (.ref F), some (.int (0 + k)), some (.ref va), some (.int mk), x7, some (.str (S l)), x9, x10, x11] ∧ l.length ≤ 120 ∧ ∀ c ∈ l, c ∈ SIG) ?_ ?_
          · refine for_mid (J0 := Itr 0 fs.length) (H0 := H6) ?_ walk_range (fun j σ H' => Same H6 H' ∧ ∃ l x9, σ = [some (.ref a), some (.int c), some (.ref p), some (.ref F), some (.int (0 + k)), some (.ref va), some (.int mk), x7, some (.str (S l)), x9, x10, x11] ∧ l.length ≤ 2 * j ∧ ∀ c ∈ l, c ∈ SIG)
              ⟨Same.refl _, [], x9, rfl, Nat.le_refl _, fun _ h => nomatch h⟩ (fun _ _ _ _ _ => trivial) ?_ (fun σ H' h => ?_)
            · walk_at "rdx"
              refine .inr ⟨_, .inr ⟨us1, ht1', rfl⟩, ?_⟩
              have := okf.len
              rw [each1.1]
              exact ⟨by omega, by omega, rfl⟩
            · rintro j x σ H7 H7' hj ⟨s7, l, x9, rfl, ll, hlc⟩ ⟨rfl, rfl⟩
              have hfj : fs[j]? = some fs[j] := List.getElem?_eq_getElem hj
              have okj := okpk fs rfl _ (List.getElem_mem hj)
              generalize fs[j] = f at hfj okj
              obtain ⟨u, hu, du⟩ := each1.2 j f hfj
              have hv7 := same_t s7 hv
              have ht7 := same_t s7 ht1'
              have hs7 := same_l s7 hs1
              have := okf.len
              refine l_midG (fun v H' => Same H7' H' ∧ ∃ m : List Nat, v = .str (S (l ++ m)) ∧ m.length ≤ 2 ∧ ∀ c ∈ m, c ∈ SIG) ?_ ?_
              · walk_at "rdx"
                refine ⟨us1, .inr ht7, u, atI_nat hu, mk, _, rfl, fun m _ _ => ⟨u, m, p, ws, f, rfl, dp_mono s7 _ _ du, okj, hs7, hl, wok, hw, fun l2 H8 ll2 lc2 s8 => ?_⟩⟩
                show (S l).length + (S l2).length ≤ 16777216 ∧ _
                rw [S_cat, S_len, S_len]
                exact ⟨by omega, s8, l2, rfl, ll2, lc2⟩
              · rintro _ H8 ⟨s8, m, rfl, lm, hm⟩
                refine ⟨s7.trans s8, l ++ m, _, rfl, by rw [List.length_append]; omega, fun c hc => (List.mem_append.mp hc).elim (hlc c) (hm c)⟩
            · obtain ⟨s7, l, x9, e, h1, h2⟩ := h
              have := okf.len
              exact ⟨s7, l, x9, e, by omega, h2⟩
          · rintro σ H7 ⟨s7, l, x9, rfl, ll, hlc⟩
            have hF7 := s7 _ _ hF
            have hs7 := same_l s7 hs1
            refine l_app rfl hF7 ?_
            walk_at "rd"
            have := okr.len
            refine ⟨_, ⟨by rw [S_len]; omega, rfl⟩, ite2 (fun hne => ?_) fun _ => ?_⟩
            · exact ⟨us, hF7, by omega, us ++ [.str (S l)], same_mut (sm.trans s7) hF0, hF0, upd_same, all_snoc nus ⟨l, rfl, fun e => by rw [e] at hne; simp [S_len] at hne, by omega, hlc⟩, by rw [List.length_append, List.length_singleton]; omega⟩
            · exact ⟨ws, .inl hs7, _, e0', us, hF7, by omega, _, same_mut (sm.trans s7) hF0, hF0, upd_same, all_snoc nus (nm_one hc0), by rw [List.length_append, List.length_singleton]; omega⟩
      · obtain ⟨F, us, x4, x5, x6, x7, x8, x9, x10, x11, e, h1, h2, h3, h4, h5⟩ := h
        have := okr.len
        exact ⟨F, us, x4, x5, x6, x7, x8, x9, x10, x11, e, h1, h2, h3, h4, by omega⟩
    rintro σ H1 ⟨F, us, x4, x5, x6, x7, x8, x9, x10, x11, rfl, n1⟩
    refine q_mid (fun _ => True) (by walk_at "rd"; exact ⟨by decide, by decide⟩) fun way _ => ?_
    refine q_mid (fun i => 0 ≤ i ∧ i < max 1 (us.length : Int)) ?_ fun at' hat => ?_
    · have h3 := n1.2.2.1
      walk_at "rd"
      refine ⟨⟨by decide, by decide⟩, .inr ⟨_, .inl ⟨us, .inl (.inl h3), rfl⟩, ?_⟩⟩
      have e : (if (us.length : Int) > 1 then (us.length : Int) else 1) = max 1 (us.length : Int) := by split <;> omega
      rw [e]
      exact ⟨by omega, Int.emod_nonneg _ (by omega), Int.emod_lt_of_pos _ (by omega)⟩
    refine q_stm (fun σ H' => ∃ F us, σ = [some (.ref a), some (.int c), some (.ref p), some (.ref F), x4, x5, x6, x7, x8, x9, some (.int way), some (.int at')] ∧ NmL H F 398 us 25 H' ∧ (way ≠ 0 → at' < max 1 (us.length : Int))) ?_ ?_
    · refine l_if (fun b H' => H' = H1 ∧ (b = true → way = 0)) (by walk_at "rd"; exact id) (fun H2 h => ?_) (fun H2 h => ?_)
      · obtain ⟨rfl, hw0⟩ := h
        refine l_midG (fun v H' => ∃ F us', v = .ref F ∧ NmL H F 398 us' 25 H') ?_ ?_
        · have h3 := n1.2.2.1
          have hs1 := same_l n1.1 hs
          walk_at "rd"
          have hl24 := n1.2.2.2.2
          refine ⟨⟨by decide, by decide⟩, ws, .inl hs1, _, ex, fun p1 hp1 => .inl ⟨us, (same_new hp1) _ _ h3, _, upd_same, ?_, fun p2 hp2 => ⟨us ++ [.str (S [cx])], ?_⟩⟩⟩
          · rw [List.length_singleton]; omega
          · exact ⟨(n1.1.trans (same_new hp1)).trans (same_new hp2), same_none (n1.1.trans (same_new hp1)) hp2, upd_same, all_snoc n1.2.2.2.1 (nm_one hcx), by rw [List.length_append, List.length_singleton]; omega⟩
        · rintro _ H3 ⟨F, us', rfl, n3⟩
          exact ⟨F, us', rfl, n3, fun h => absurd (hw0 rfl) h⟩
      · obtain ⟨rfl, _⟩ := h
        exact ⟨F, us, rfl, ⟨n1.1, n1.2.1, n1.2.2.1, n1.2.2.2.1, by have := n1.2.2.2.2; omega⟩, fun _ => hat.2⟩
    rintro σ H2 ⟨F, us, rfl, n2, hlt⟩
    refine q_stm (fun σ H' => ∃ F us, σ = [some (.ref a), some (.int c), some (.ref p), some (.ref F), x4, x5, x6, x7, x8, x9, some (.int way), some (.int at')] ∧ NmL H F 398 us 50 H' ∧ ((way = 2 ∨ way = 3) → at' < max 1 (us.length : Int))) ?_ ?_
    · refine l_if (fun b H' => H' = H2 ∧ (b = true → way = 1)) (by walk_at "rd"; exact id) (fun H3 h => ?_) (fun H3 h => ?_)
      · obtain ⟨rfl, hw0⟩ := h
        have hw1 := hw0 rfl
        refine l_midG (fun v H' => ∃ F us', v = .ref F ∧ NmL H F 398 us' 50 H') ?_ ?_
        · have h3 := n2.2.2.1
          walk_at "rd"
          have hl25 := n2.2.2.2.2
          have l1 := cut_len (us := us) (lo := none) (hi := some at')
          have l2 := cut_len (us := us) (lo := some (at' + 1)) (hi := none)
          refine .inl ⟨us, .inl (.inl h3), fun p1 hp1 => .inl ⟨us, .inl (.inl ((same_new hp1) _ _ h3)), fun p2 hp2 => .inl ⟨_, (same_new hp2) _ _ upd_same, _, upd_same, by omega, fun p3 hp3 => ⟨cutV us none (some at') ++ cutV us (some (at' + 1)) none, ?_⟩⟩⟩⟩
          have sx := (n2.1.trans (same_new hp1)).trans (same_new (o := .lst (cutV us (some (at' + 1)) none)) hp2)
          exact ⟨sx.trans (same_new hp3), same_none sx hp3, upd_same, all_app (fun v h => n2.2.2.2.1 v (cut_mem h)) (fun v h => n2.2.2.2.1 v (cut_mem h)), by rw [List.length_append]; omega⟩
        · rintro _ H4 ⟨F, us', rfl, n4⟩
          exact ⟨F, us', rfl, n4, fun h => by omega⟩
      · obtain ⟨rfl, _⟩ := h
        exact ⟨F, us, rfl, ⟨n2.1, n2.2.1, n2.2.2.1, n2.2.2.2.1, by have := n2.2.2.2.2; omega⟩, fun h => hlt (by omega)⟩
    rintro σ H3 ⟨F, us, rfl, n3, hlt⟩
    refine q_stm (fun σ H' => ∃ us, σ = [some (.ref a), some (.int c), some (.ref p), some (.ref F), x4, x5, x6, x7, x8, x9, some (.int way), some (.int at')] ∧ NmL H F 399 us 50 H' ∧ ((way = 2 ∨ way = 3) → at' < max 1 (us.length : Int))) ?_ ?_
    · refine l_if (fun b H' => Same H3 H' ∧ (b = true → way = 2 ∧ us ≠ [])) ?_ (fun H4 h => ?_) (fun H4 h => ?_)
      · have h3 := n3.2.2.1
        walk_at "rd"
        refine ite2 (fun hw2 p hp => ?_) fun _ h => h.elim
        have sp := same_new (o := .lst []) hp
        exact ne_nil (.inl (.inl (sp _ _ h3))) (.inl (.inl upd_same)) ⟨_, rfl, sp, fun h => ⟨hw2, by simpa using h⟩⟩
      · obtain ⟨s4, hw0⟩ := h
        obtain ⟨hw2, hne⟩ := hw0 rfl
        have h4 := s4 _ _ n3.2.2.1
        have hs4 := same_l (n3.1.trans s4) hs
        walk_at "rd"
        obtain ⟨j, hj, hj2, l, ej, l1, l2, l3⟩ := at_name hne hat.1 (hlt (.inl hw2)) n3.2.2.2.1
        refine ⟨us, .inl (.inl (.inl h4)), _, ej, ⟨by decide, by decide⟩, ws, .inl hs4, _, ex, ?_⟩
        show (S l).length + (S [cx]).length ≤ 16777216 ∧ _
        rw [S_cat, S_len, S_len]
        refine ⟨by rw [List.length_singleton]; omega, ?_⟩
        subst hj
        refine ⟨us, h4, j, ix_nat hj2, us.set j (.str (S (l ++ [cx]))), ⟨same_mut (n3.1.trans s4) n3.2.1, n3.2.1, upd_same, fun u hu => ?_, by rw [List.length_set]; exact n3.2.2.2.2⟩, fun h => by rw [List.length_set]; exact hlt h⟩
        rcases List.mem_or_eq_of_mem_set hu with h | rfl
        · exact (n3.2.2.2.1 u h).up (by decide)
        · refine ⟨l ++ [cx], rfl, by simp, ?_, fun d hd => (List.mem_append.mp hd).elim (l3 d) fun e => by rw [List.mem_singleton.mp e]; exact hcx⟩
          rw [List.length_append, List.length_singleton]
          omega
      · obtain ⟨s4, _⟩ := h
        exact ⟨us, rfl, ⟨n3.1.trans s4, n3.2.1, s4 _ _ n3.2.2.1, fun u hu => (n3.2.2.2.1 u hu).up (by decide), n3.2.2.2.2⟩, hlt⟩
    rintro σ H4 ⟨us, rfl, n4, hlt⟩
    refine q_stm (fun σ H' => ∃ us, σ = [some (.ref a), some (.int c), some (.ref p), some (.ref F), x4, x5, x6, x7, x8, x9, some (.int way), some (.int at')] ∧ NmL H F 400 us 50 H') ?_ ?_
    · refine l_if (fun b H' => Same H4 H' ∧ (b = true → way = 3 ∧ us ≠ [])) ?_ (fun H5 h => ?_) (fun H5 h => ?_)
      · have h3 := n4.2.2.1
        walk_at "rd"
        refine ite2 (fun hw2 p hp => ?_) fun _ h => h.elim
        have sp := same_new (o := .lst []) hp
        exact ne_nil (.inl (.inl (sp _ _ h3))) (.inl (.inl upd_same)) ⟨_, rfl, sp, fun h => ⟨hw2, by simpa using h⟩⟩
      · obtain ⟨s5, hw0⟩ := h
        obtain ⟨hw3, hne⟩ := hw0 rfl
        have h4 := s5 _ _ n4.2.2.1
        have hs5 := same_l (n4.1.trans s5) hs
        walk_at "rd"
        obtain ⟨j, hj, hj2, l, ej, l1, l2, l3⟩ := at_name hne hat.1 (hlt (.inr hw3)) n4.2.2.2.1
        refine ⟨⟨by decide, by decide⟩, ws, .inl hs5, _, ex, us, .inl (.inl (.inl h4)), _, ej, by rw [S_len]; omega, ?_⟩
        obtain ⟨m, em, lm, hm⟩ := cutS_sub l (some 1) none
        rw [em]
        show (S [cx]).length + (S m).length ≤ 16777216 ∧ _
        rw [S_cat, S_len, S_len]
        refine ⟨by rw [List.length_singleton]; omega, ?_⟩
        subst hj
        refine ⟨us, h4, j, ix_nat hj2, us.set j (.str (S ([cx] ++ m))), ⟨same_mut (n4.1.trans s5) n4.2.1, n4.2.1, upd_same, fun u hu => ?_, by rw [List.length_set]; exact n4.2.2.2.2⟩⟩
        rcases List.mem_or_eq_of_mem_set hu with h | rfl
        · exact (n4.2.2.2.1 u h).up (by decide)
        · refine ⟨[cx] ++ m, rfl, by simp, ?_, fun d hd => (List.mem_append.mp hd).elim (fun e => by rw [List.mem_singleton.mp e]; exact hcx) fun h => l3 d (hm d h)⟩
          rw [List.length_append, List.length_singleton]
          omega
      · obtain ⟨s5, _⟩ := h
        exact ⟨us, rfl, n4.1.trans s5, n4.2.1, s5 _ _ n4.2.2.1, fun u hu => (n4.2.2.2.1 u hu).up (by decide), n4.2.2.2.2⟩
    rintro σ H5 ⟨us, rfl, n5⟩
    have h5 := n5.2.2.1
    have hs5 := same_l n5.1 hs
    walk_at "rd"
    have hl50 := n5.2.2.2.2
    refine ⟨_, .inl ⟨us, .inl (.inl h5), rfl⟩, ite2 (fun h => ?_) fun h => ?_⟩
    · exact q F us H5 (fun e => by rw [e] at h; simp at h) n5.2.2.2.1 hl50 n5.1 h5
    · exact ⟨⟨by decide, by decide⟩, ws, .inl hs5, _, ex, fun p1 hp1 => q p1 [.str (S [cx])] _ (by simp) (fun u hu => by rw [List.mem_singleton.mp hu]; exact nm_one hcx) (by simp) (n5.1.trans (same_new hp1)) upd_same⟩

/-! ### the law's own fitting of a name, from its end on -/
/-- p of each end of a list -/
def ends {β : Type} (p : List β → Bool) : List β → List Bool
  | [] => [p []]
  | c :: w => p (c :: w) :: ends p w
def fitB : List PF → List Nat → Bool
  | [], w => w.isEmpty
  | f :: fs, w => if f.many = true then (ends (fitB fs) w).any id else match w with
    | [] => false
    | c :: v => f.fits c && fitB fs v
/-! ### things laid along a row of other things -/
section
variable {α β : Type} {m : α → Bool} {ft : α → β → Bool}
def starG (m : α → Bool) (fs : List α) (j : Nat) : Bool := match fs[j]? with
  | some f => m f
  | none => false
/-- from s on by stars alone -/
def ClosG (m : α → Bool) (fs : List α) (s i : Nat) : Prop := s ≤ i ∧ ∀ k, s ≤ k → k < i → starG m fs k = true
theorem ClosG.refl {fs : List α} {s : Nat} : ClosG m fs s s := ⟨Nat.le_refl _, fun k a b => absurd b (by omega)⟩
theorem ClosG.trans {fs : List α} {a b c : Nat} (h : ClosG m fs a b) (g : ClosG m fs b c) : ClosG m fs a c := ⟨Nat.le_trans h.1 g.1, fun k h1 h2 => by
  rcases Nat.lt_or_ge k b with e | e
  · exact h.2 k h1 e
  · exact g.2 k e h2⟩
theorem ClosG.snoc {fs : List α} {a b : Nat} (h : ClosG m fs a b) (g : starG m fs b = true) : ClosG m fs a (b + 1) := h.trans ⟨Nat.le_succ _, fun k h1 h2 => by
  have e : k = b := by omega
  rw [e]
  exact g⟩
def fitGB (m : α → Bool) (ft : α → β → Bool) : List α → List β → Bool
  | [], w => w.isEmpty
  | f :: fs, w => if m f = true then (ends (fitGB m ft fs) w).any id else match w with
    | [] => false
    | c :: v => ft f c && fitGB m ft fs v
end
/-! ### places -/
/-! ### a row fits names -/
def SF.fitB (s : SF) (nm : List Nat) : Bool := match s with
  | .deep => true
  | .seg fs => SL.fitB fs nm
def nmsV (nms : List (List Nat)) : List V := (nms.map S).map V.str
theorem nms_at {nms : List (List Nat)} {k : Nat} {x : V} (h : (nmsV nms)[k]? = some x) : ∃ nm, nms[k]? = some nm ∧ x = .str (S nm) := by
  unfold nmsV at h
  rw [List.getElem?_map, List.getElem?_map] at h
  cases e : nms[k]? with
  | none => rw [e] at h; cases h
  | some nm => rw [e] at h; exact ⟨nm, rfl, (Option.some.inj h).symm⟩
theorem nms_len {nms : List (List Nat)} : (nmsV nms).length = nms.length := by unfold nmsV; rw [List.length_map, List.length_map]
structure RowSz (r : RF) : Prop where
  len : r.steps.length ≤ 1000
  parts : ∀ fs, SF.seg fs ∈ r.steps → fs.length ≤ 1000
/-! ### the law's own fitting -/
/-! ### lists of rows -/
theorem RF.tup (r : RF) : tupB r.d = true := by simp [RF.d, tupB, tupBs, tupBs_map SF.d SF.tup r.steps]
abbrev RowsE (K : PySem.W.Frag) (rs : List RF) (us : List V) (H : Hp) : Prop := Each (fun f u H => Dp K H u (RF.d f)) rs us H
def RowsL (K : PySem.W.Frag) (rs : List RF) (F : Addr) (H : Hp) : Prop := ∃ us, H F = some (.lst us) ∧ RowsE K rs us H ∧ ∀ r ∈ rs, r.Ok ∧ r.Low
theorem RowsL.mono {rs : List RF} {F : Addr} {H H' : Hp} (h : RowsL K rs F H) (s : Same H H') : RowsL K rs F H' := let ⟨us, a, b, c⟩ := h; ⟨us, s _ _ a, b.imp fun _ _ d => dp_mono s _ _ d, c⟩
theorem rows_snoc {rs : List RF} {us : List V} {r : RF} {y : V} {L : Addr} {H : Hp} (hl : H L = some (.lst us)) (e : RowsE K rs us H) (d : Dp K H y r.d) : RowsE K (rs ++ [r]) (us ++ [y]) (upd H L (.lst (us ++ [y]))) :=
  Each.snoc (e.imp fun f u d => dp_nl (nl_upd hl) _ _ f.tup d) (dp_nl (nl_upd hl) _ _ r.tup d)
def spRows (K : PySem.W.Frag) : Sp := fun vs H Q _ => ∃ a ns p ws, ∃ first many : Nat, vs = [.ref a, .int first, .int many, .ref p] ∧ SqL K H a (List.map V.int ns) ∧ ns.length ≤ 63 ∧ first + many ≤ 64 ∧ SqL K H p ws ∧ ws.length = 4 ∧ (∀ v ∈ ws, SignV v) ∧
  ∀ F rs H', Same H H' → H F = none → RowsL K rs F H' → rs.length = many → Q (.ref F) H'
theorem ok__law_rows (T : Txt K mg) : OkD P w K mg base 4 (fA K "_law_rows") ["_law_script", "_law_first", "_law_many", "_law_signs_here"] [] (spRows K) := by
  refine okD T.F__law_rows sc__law_rows (fun _ _ _ _ _ _ us hl => match us, hl with | [_, _, _, _], _ => rfl) ?_ ?_
  · rintro vs H Q E ⟨a, ns, p, ws, first, many, rfl, _⟩
    rfl
  · rintro cdv A outer s H vs Q E hr ⟨a, ns, p, ws, first, many, rfl, ha, hn, hfm, hs, hl, hw, q⟩
    refine ⟨_, (pss_cons (ps_set (i := 4) sc__law_rows.nd rfl (Or.inl rfl) (pe_lst pa_nil))
  (pss_cons (ps_mid (ps_for (passes_of rfl) rfl (pi_mid (pi_range1 rfl T.fr_range (pa_cons (pv 2) pa_nil))) (pg_name (i := 5) sc__law_rows.nd rfl (Or.inl rfl)) (pss_cons (ps_set (i := 6) sc__law_rows.nd rfl (Or.inl rfl) (pe_mid (pe_cal (ok__law_cell T) (hr.mono (by decide)) rfl T.g__law_cell (pasE (takes_of rfl rfl rfl rfl) (fun _ _ _ _ h => h)) (pa_cons (pv 0) (pa_cons (pe_op (o_add (K := K)) (pv 1) (pv 5)) pa_nil)))))
  (pss_cons (ps_set (i := 7) sc__law_rows.nd rfl (Or.inl rfl) (pe_mid (pe_cal (ok__law_row T) (hr.mono (by decide)) rfl T.g__law_row (pasE (takes_of rfl rfl rfl rfl) (fun _ _ _ _ h => h)) (pa_cons (pv 6) (pa_cons (pv 3) pa_nil)))))
  (pss_cons (ps_mid (ps_if (pt_mid (PW.pt (pw_and (pt_cmpR (o_ne (K := K) (hu64 hr)) (pv 4) (pe_lst pa_nil) (nomark _)) (pw_and1 (pt_cmpR (o_eq (K := K) (hu64 hr)) (pe_op op_mod (pe_op op_fdivW (pv 6) pe_int) pe_int) pe_int (nomark _)))))) (pss_one (ps_set (i := 7) sc__law_rows.nd rfl (Or.inl rfl) (pe_mid (pe_tup (pa_cons (pe_ix (o_ix (K := K)) (pe_ix (o_ix (K := K)) (pv 4) (pe_un un_neg pe_int) (fun _ _ => rfl)) pe_int (fun _ _ => rfl)) (pa_cons (pe_notK (K := K) (pe_ix (o_ix (K := K)) (pe_ix (o_ix (K := K)) (pv 4) (pe_un un_neg pe_int) (fun _ _ => rfl)) pe_int (fun _ _ => rfl))) (pa_cons (pe_ix (o_ix (K := K)) (pv 7) pe_int (fun _ _ => rfl)) pa_nil))))))) pss_nil))
  (pss_one (ps_expr (pe_bmK (K := K) PySem.F.plainAttrs_list PySem.F.slot_list_append PySem.F.type_list_append mt_append (pv 4) (pa_cons (pe_mid (pv 7)) pa_nil)))))))))
  (pss_one (ps_ret (pv 4))))), ?_⟩
    have tobj := T.obj
    refine q_new fun L hL => ?_
    have sL := same_new (o := .lst []) hL
    refine q_stm (fun σ H' => ∃ rs x5 x6 x7, σ = [some (.ref a), some (.int first), some (.int many), some (.ref p), some (.ref L), x5, x6, x7] ∧ Same H H' ∧ RowsL K rs L H' ∧ rs.length = many) ?_ ?_
    · refine for_mid (J0 := Itr 0 many) (H0 := upd H L (.lst [])) ?_ walk_range
        (fun k σ H' => ∃ rs x5 x6 x7, σ = [some (.ref a), some (.int first), some (.int many), some (.ref p), some (.ref L), x5, x6, x7] ∧ Same H H' ∧ RowsL K rs L H' ∧ rs.length = k)
        ⟨[], none, none, none, rfl, sL, ⟨[], upd_same, .nil, fun _ h => nomatch h⟩, rfl⟩ (fun _ _ _ _ _ => trivial) ?_ (fun _ _ h => h)
      · walk_at "rd"
        exact ⟨by omega, by omega, rfl⟩
      · rintro k x σ H1 H1' hk ⟨rs, x5, x6, x7, rfl, sm, ⟨us, hl1, each, oks⟩, len⟩ ⟨rfl, rfl⟩
        refine q_mid (fun _ => True) ?_ fun cell _ => ?_
        · walk_at "rd"
          exact ⟨a, _, ns, rfl, same_l sm ha, hn, by omega, by omega, fun c => ⟨rfl, c, rfl⟩⟩
        refine q_midG (fun v H' => Same H1' H' ∧ ∃ r, RF.Ok r ∧ r.Low ∧ Dp K H' v r.d) ?_ ?_
        · walk_at "rd"
          exact ⟨cell, p, ws, rfl, same_l sm hs, hl, hw, fun v r H' ok lo _ s d => ⟨s, r, ok, lo, d⟩⟩
        rintro v H2 ⟨s2, r, ok, lo, d⟩
        have hl2 := s2 _ _ hl1
        have each2 : RowsE K rs us H2 := each.imp fun _ _ d => dp_mono s2 _ _ d
        refine q_stm (fun σ H' => Same H2 H' ∧ ∃ v r, σ = [some (.ref a), some (.int first), some (.int many), some (.ref p), some (.ref L), some (.int (0 + k)), some (.int cell), some v] ∧ RF.Ok r ∧ r.Low ∧ Dp K H' v r.d) ?_ ?_
        · refine l_if (fun b H' => Same H2 H' ∧ (b = true → rs ≠ [])) ?_ (fun H3 h => ?_) (fun H3 h => ?_)
          · walk_at "rd"
            intro n hn
            have sn := same_new (o := .lst []) hn
            refine ne_nil (.inl (.inl (sn _ _ hl2))) (.inl (.inl upd_same)) ⟨_, rfl, ite2 (fun h => ?_) fun h => ?_⟩
            · have hne : rs ≠ [] := fun e => by
                have hu : us = [] := List.length_eq_zero_iff.mp (by rw [each.1, e]; rfl)
                simp [hu] at h
              exact ⟨⟨by decide, by decide⟩, sn, fun _ => hne⟩
            · exact ⟨sn, fun h => h.elim⟩
          · obtain ⟨s3, hb⟩ := h
            have hl3 := s3 _ _ hl2
            obtain ⟨g, hg⟩ : ∃ g, rs.getLast? = some g := by
              cases e : rs.getLast? with
              | none => exact absurd (List.getLast?_eq_none_iff.mp e) (hb rfl)
              | some g => exact ⟨g, rfl⟩
            have hg' := hg
            rw [List.getLast?_eq_getElem?] at hg'
            obtain ⟨u, hu, du⟩ := each2.2 _ g hg'
            have hlast : us.getLast? = some u := by rw [List.getLast?_eq_getElem?, each.1]; exact hu
            obtain ⟨okg, log⟩ := oks g (List.mem_of_getElem? hg')
            obtain ⟨ga, gt, gus, rfl, hga, hgt, geach⟩ := RF.inv (dp_mono s3 _ _ du)
            obtain ⟨va, vt, vus, rfl, hva, hvt, veach⟩ := RF.inv (dp_mono s3 _ _ d)
            refine l_midG (fun v H' => Same H3 H' ∧ ∃ r, RF.Ok r ∧ r.Low ∧ Dp K H' v r.d) ?_ ?_
            · walk_at "rd"
              refine ⟨us, .inl (.inl (.inl hl3)), _, atI_last hlast, _, .inr hga, _, rfl, us, .inl (.inl (.inl hl3)), _, atI_last hlast, _, .inr hga, _, rfl, g.spares, rfl, _, .inr hva, _, rfl, fun p' hp' => ⟨same_new hp', ⟨g.steps, !g.spares, r.folders⟩, ⟨okg.ne, okg.ok, okg.two, okg.len⟩, log, ?_⟩⟩
              exact .tup (.inl (.inl upd_same)) (.cons (.tup (same_t (same_new hp') hgt) (each_dp (geach.imp fun f u d => dp_mono (same_new hp') _ _ d))) (.cons (.bl _) (.cons (.bl _) .nil)))
            · rintro v' H4 ⟨s4, r', ok', lo', d'⟩
              exact ⟨s3.trans s4, v', r', rfl, ok', lo', d'⟩
          · obtain ⟨s3, _⟩ := h
            exact ⟨s3, v, r, rfl, ok, lo, dp_mono s3 _ _ d⟩
        · rintro σ H3 ⟨s3, v', r', rfl, ok', lo', d'⟩
          have hl3 := s3 _ _ hl2
          refine l_appV rfl rfl hl3 (by rw [each.1]; omega) ⟨rs ++ [r'], _, _, _, rfl, same_mut ((sm.trans s2).trans s3) hL, ⟨_, upd_same, rows_snoc hl3 (each2.imp fun _ _ d => dp_mono s3 _ _ d) d', fun g hg => ?_⟩, by rw [List.length_append, len]; rfl⟩
          exact (List.mem_append.mp hg).elim (oks g) fun e => by rw [List.mem_singleton.mp e]; exact ⟨ok', lo'⟩
    · rintro σ H1 ⟨rs, x5, x6, x7, rfl, s1, h1, h2⟩
      walk_at "rd"
      exact q L rs H1 s1 hL h1 h2

/-! ### the last row that fits -/
def rfit (nms : List (List Nat)) (fo : Bool) (r : RF) : Bool := (!r.folders || fo) && fitGB SF.deepB SF.fitB r.steps nms
def optV : Option Nat → V
  | some i => .int i
  | none => .non
def IsLast (p : RF → Bool) (rs : List RF) (o : Option Nat) : Prop := (∀ i, o = some i → ∃ r, rs[i]? = some r ∧ p r = true) ∧ ∀ j r, rs[j]? = some r → p r = true → ∃ i, o = some i ∧ j ≤ i
theorem IsLast.uniq {p : RF → Bool} {rs : List RF} {a b : Option Nat} (h : IsLast p rs a) (g : IsLast p rs b) : a = b := by
  cases a with
  | none =>
    cases b with
    | none => rfl
    | some j =>
      obtain ⟨r, e, f⟩ := g.1 j rfl
      obtain ⟨i, e2, _⟩ := h.2 j r e f
      cases e2
  | some i =>
    obtain ⟨r, e, f⟩ := h.1 i rfl
    obtain ⟨j, rfl, hj⟩ := g.2 i r e f
    obtain ⟨r', e', f'⟩ := g.1 j rfl
    obtain ⟨i', e2, hi⟩ := h.2 j r' e' f'
    cases e2
    rw [Nat.le_antisymm hj hi]
/-! ### long rows -/
theorem Each.take {α : Type} {R : α → V → Hp → Prop} {fs : List α} {us : List V} {H : Hp} (h : Each R fs us H) (k : Nat) : Each R (fs.take k) (us.take k) H :=
  ⟨by rw [List.length_take, List.length_take, h.1], fun i f hf => by
    rw [List.getElem?_take] at hf
    split at hf
    · obtain ⟨u, e, g⟩ := h.2 i f hf
      exact ⟨u, by rw [List.getElem?_take, if_pos (by assumption)]; exact e, g⟩
    · cases hf⟩
/-! ### names as texts -/
theorem names_list : ∀ {us : List V}, (∀ u ∈ us, NmV 400 u) → ∃ nms : List (List Nat), us = nmsV nms ∧ ∀ nm ∈ nms, nm ≠ [] ∧ nm.length ≤ 400 ∧ ∀ c ∈ nm, c ∈ SIG
  | [], _ => ⟨[], rfl, fun _ h => nomatch h⟩
  | u :: r, h => by
    obtain ⟨l, rfl, h1, h2, h3⟩ := h u List.mem_cons_self
    obtain ⟨nms, rfl, hs⟩ := names_list (us := r) fun v hv => h v (List.mem_cons_of_mem _ hv)
    exact ⟨l :: nms, rfl, fun nm hnm => (List.mem_cons.mp hnm).elim (fun e => e ▸ ⟨h1, h2, h3⟩) (hs nm)⟩
/-! ### the numbers of the rows that fit -/
def hitsN (p : RF → Bool) (rs : List RF) (k : Nat) : List Nat := (List.range k).filter fun i => match rs[i]? with
  | some r => p r
  | none => false
/-! ### split, startswith, endswith -/
section
variable {X : Cx}
end
/-! ### the names of a path -/
def splW (w : List Nat) : List (List Nat) := TL.spl [47] 0 [] w
def folderW (ps : List (List Nat)) : Bool := decide (1 < ps.length) && decide (ps.getLast? = some [])
def nmOk (l : List Nat) : Bool := !decide (l = []) && l.all fun c => decide (c ∈ SIG)
def pathN (w : List Nat) : Option (List (List Nat) × Bool) :=
  let ps := splW w
  let ns := if folderW ps = true then ps.dropLast else ps
  if ns.all nmOk = true then some (ns, folderW ps) else none
/-! ### names_of -/
/-! ### going down -/
theorem for_pair {J0 : It} {n : Nat} {G : Hp → Prop} {f g : Nat → Option V} {wi : TI} {i j : Nat} {tb : TS} {D : Ends} {σ : L2.St} {H H0 : Hp} (h : wi σ H fun J H1 => J = J0 ∧ H1 = H0) (wk : Walk J0 n G (YPair f g)) (Pv : Nat → L2.St → Hp → Prop) (h0 : Pv 0 σ H0) (hG : ∀ i σ H, i ≤ n → Pv i σ H → G H)
    (hs : ∀ k x y σ H H', k < n → Pv k σ H → Same H H' → f k = some x → g k = some y → tb { D with nx := Pv (k + 1), ct := Pv (k + 1), bk := D.nx } ((σ.set i (some x)).set j (some y)) H') (hd : ∀ σ H, Pv n σ H → D.nx σ H) :
    tFor (iMid wi) (gTup K 2 (gCons (gName i) (gCons (gName j) gNil))) tb D σ H := by
  refine for_midg h wk Pv h0 hG ?_ hd
  rintro k v σ H1 H2 hk p ⟨T, x, y, rfl, hT, rfl, hx, hy⟩
  exact ⟨T, [x, y], rfl, .inl (.inl upd_same), rfl, x, [y], rfl, y, [], rfl, rfl, hs k x y σ H1 _ hk p (same_new hT) hx hy⟩
def lastN (p : RF → Bool) (rs : List RF) : Option Nat := (hitsN p rs rs.length).getLast?
def stepN (rs : List RF) (nms : List (List Nat)) (fo : Bool) (m : Nat) : Option Nat := lastN (rfit (nms.take m) (fo || decide (m < nms.length))) rs
def stops (rs : List RF) (o : Option Nat) : Bool := match o with
  | some i => match rs[i]? with
    | some r => !r.spares
    | none => false
  | none => false
def IsDown (rs : List RF) (nms : List (List Nat)) (fo : Bool) (b : Bool) (o : Option Nat) : Prop :=
  (b = true ∧ ∃ k, k < nms.length ∧ o = stepN rs nms fo (k + 1) ∧ stops rs o = true ∧ ∀ j, j < k → stops rs (stepN rs nms fo (j + 1)) = false) ∨
  (b = false ∧ o = stepN rs nms fo nms.length ∧ ∀ j, j < nms.length → stops rs (stepN rs nms fo (j + 1)) = false)
theorem IsDown.uniq {rs : List RF} {nms : List (List Nat)} {fo b b' : Bool} {o o' : Option Nat} (h : IsDown rs nms fo b o) (g : IsDown rs nms fo b' o') : b = b' ∧ o = o' := by
  rcases h with ⟨rfl, k, hk, rfl, hs, hj⟩ | ⟨rfl, rfl, hj⟩ <;> rcases g with ⟨rfl, k', hk', rfl, hs', hj'⟩ | ⟨rfl, rfl, hj'⟩
  · rcases Nat.lt_trichotomy k k' with q | q | q
    · rw [hj' k q] at hs; cases hs
    · rw [q]; exact ⟨rfl, rfl⟩
    · rw [hj k' q] at hs'; cases hs'
  · rw [hj' k hk] at hs; cases hs
  · rw [hj k' hk'] at hs'; cases hs'
  · exact ⟨rfl, rfl⟩
def RowsO (K : PySem.W.Frag) (rs : List RF) (l : Addr) (H : Hp) : Prop := ∃ us, SqL K H l us ∧ Each (RowV K) rs us H ∧ (∀ r ∈ rs, RowSz r) ∧ rs.length ≤ 1000
theorem RowsO.mono {rs : List RF} {l : Addr} {H H' : Hp} (h : RowsO K rs l H) (s : Same H H') : RowsO K rs l H' := let ⟨us, a, b, c⟩ := h; ⟨us, same_l s a, b.imp fun _ _ d => d.mono s, c⟩
/-! ### the law's own going down -/
def pairD (b : Bool) (o : Option Nat) : PyData := .tuple [.bool b, match o with
  | some i => .int i
  | none => .none]
theorem pair_dp {H : Hp} {b : Bool} {o : Option Nat} {p : Addr} (h : SqT K H p [.bl b, optV o]) : Dp K H (.ref p) (pairD b o) := by
  cases o with
  | none => exact .tup h (.cons (.bl _) (.cons .non .nil))
  | some i => exact .tup h (.cons (.bl _) (.cons (.int _) .nil))
theorem pair_ok {b : Bool} {o : Option Nat} : DOk 1 (pairD b o) := dok_tup (all_cons dok_bl (all_cons (by cases o <;> first | exact dok_non | exact dok_int) all_nil))
/-! ### a text, several times -/
theorem foldl_rep (a : Array Nat) : ∀ (n : Nat) (b : Array Nat), ((List.replicate n a).foldl (· ++ ·) b).toList = b.toList ++ (List.replicate n a.toList).flatten
  | 0, b => by simp
  | n + 1, b => by
    rw [List.replicate_succ, List.replicate_succ, List.foldl_cons, foldl_rep a n, Array.toList_append, List.flatten_cons, List.append_assoc]
def repS (z : Str) (n : Nat) : Str := ⟨(List.replicate n z.cps.toList).flatten.toArray⟩
theorem repS_eq (z : Str) (n : Nat) : (⟨(List.replicate n z.cps).foldl (· ++ ·) #[]⟩ : Str) = repS z n := by
  have h := foldl_rep z.cps n #[]
  unfold repS
  congr 1
  refine Array.ext' ?_
  rw [h]
  simp
theorem repS_len (z : Str) (n : Nat) : (repS z n).length = n * z.length := by
  show (List.toArray _).size = n * z.cps.size
  simp
def rMulStr : R2 := fun x y H Q => ∃ (z : Str) (n : Int), x = .str z ∧ y = .int n ∧ 0 ≤ n ∧ n ≤ 1000 ∧ z.length ≤ 1000 ∧ Q (.str (repS z n.toNat)) H
theorem o_mulStr {X : Cx} : OpR X (binaryOp .Mult) rMulStr := by
  intro pins s σ H x y v u Q I rx ry h
  obtain ⟨z, n, rfl, rfl, h0, h1, h2, q⟩ := h
  obtain ⟨t, rfl⟩ := rx
  obtain ⟨t', rfl⟩ := ry
  refine P.mul_str ?_ (fun a b => ?_) (fun a b => ?_) ?_
  · rw [decide_eq_false (by omega), decide_eq_false (by omega)]; rfl
  · have h3 : (1000 : Int) ≤ (2 ^ 63 - 1) / n := Int.le_ediv_of_mul_le (by omega) (by omega)
    omega
  · have h3 : z.length * n.toNat ≤ 1000 * 1000 := Nat.mul_le_mul h2 (by omega)
    unfold Builtin.Str.tooLong
    rw [decide_eq_false (by rw [sizeLine_eq]; omega)]
  · split
    · rename_i hn
      have e : repS z n.toNat = Str.empty := by
        rw [show n.toNat = 0 from by omega]
        rfl
      exact ⟨by decide, .str (repS z n.toNat), H, I.tok _, ⟨_, by rw [e]⟩, q⟩
    · rename_i hn
      split
      · rename_i hc
        have e : repS z n.toNat = z := by
          rw [Bool.or_eq_true] at hc
          rcases hc with hc | hc
          · rw [show n.toNat = 1 from by have := eq_of_beq hc; omega]
            unfold repS
            simp
          · have hz : z.cps = #[] := Array.eq_empty_of_size_eq_zero (eq_of_beq hc)
            unfold repS
            rw [hz]
            obtain ⟨c⟩ := z
            cases hz
            simp
        exact ⟨.str (repS z n.toNat), H, I, ⟨t, by rw [e]⟩, q⟩
      · rw [repS_eq]
        refine ⟨?_, .str (repS z n.toNat), H, I.tok _, ⟨_, rfl⟩, q⟩
        rw [repS_len, sizeLine_eq]
        have h3 : n.toNat * z.length ≤ 1000 * 1000 := Nat.mul_le_mul (by omega) h2
        omega

/-! ### dicts: their data compared; zip -/
/-- dicts of like data -/
def SameDD (K : PySem.W.Frag) (H : Hp) (ks ls : List (Key × V)) : Prop := ks.length = ls.length ∧ ∀ p ∈ ks, ∃ u d, valV ls p.1 = some u ∧ Dp K H p.2 d ∧ Dp K H u d ∧ DOk 50 d
section
variable {X : Cx}
end
/-- a key's value by the text -/
theorem dget_s {H : Hp} {a : Addr} {kvs : List (Key × V)} {z : Str} {v : V} (h : H a = some (.dK kvs)) (e : valV kvs (.inr z) = some v) : DGet H a (.str z) (some v) := e ▸ DGet.k (k := .inr z) h
theorem dput_s {H : Hp} {a : Addr} {kvs : List (Key × V)} {z : Str} {v : V} (h : H a = some (.dK kvs)) (hl : kvs.length < 16777216) : DPut H a (.str z) v (upd H a (.dK (putK kvs (.inr z) v))) := DPut.k (k := .inr z) h (by rw [sizeLine_eq]; exact hl)
/-! ### all_told: a dict of what told tells -/
def addN (acc : List (List Nat)) (w : List Nat) : List (List Nat) := if w ∈ acc then acc else acc ++ [w]
def onceN (ws : List (List Nat)) : List (List Nat) := ws.foldl addN []
def ToldV (rs : List RF) (w : List Nat) (v : V) (H : Hp) : Prop := ∃ t nms fo b o, v = .ref t ∧ H t = some (.tup [.bl b, optV o]) ∧ pathN w = some (nms, fo) ∧ IsDown rs nms fo b o
theorem ToldV.nl {rs : List RF} {w : List Nat} {v : V} {H H' : Hp} (h : ToldV rs w v H) (s : ∀ a t, H a = some (.tup t) → H' a = some (.tup t)) : ToldV rs w v H' := let ⟨t, a, b, c, d, e, f, g⟩ := h; ⟨t, a, b, c, d, e, s _ _ f, g⟩
theorem ToldV.mono {rs : List RF} {w : List Nat} {v : V} {H H' : Hp} (h : ToldV rs w v H) (s : Same H H') : ToldV rs w v H' := h.nl fun _ _ e => s _ _ e
/-- a dict of what is told of each of these paths -/
structure ToldD (rs : List RF) (ws : List (List Nat)) (kvs : List (Key × V)) (H : Hp) : Prop where
  keys : kvs.map (·.1) = (onceN ws).map fun w => (Sum.inr (S w) : Key)
  each : ∀ q ∈ kvs, ∃ w, q.1 = .inr (S w) ∧ ToldV rs w q.2 H
theorem valV_pair {kvs : List (Key × V)} {k : Key} {v : V} (h : valV kvs k = some v) : (k, v) ∈ kvs := by
  unfold valV at h
  cases e : kvs.find? (fun kv => decide (kv.1 = k)) with
  | none => rw [e] at h; cases h
  | some q =>
    rw [e] at h
    have h1 := List.mem_of_find?_eq_some e
    have h3 : decide (q.1 = k) = true := List.find?_some (p := fun kv : Key × V => decide (kv.1 = k)) e
    have h2 := of_decide_eq_true h3
    obtain ⟨a, b⟩ := q
    cases (show some b = some v from h)
    cases (show a = k from h2)
    exact h1
theorem ToldD.vals {rs : List RF} {ws : List (List Nat)} {kvs : List (Key × V)} {H : Hp} (h : ToldD rs ws kvs H) (w : List Nat) (v : V) (e : valV kvs (.inr (S w)) = some v) : ToldV rs w v H := by
  obtain ⟨w', e1, e2⟩ := h.each _ (valV_pair e)
  have e3 : S w = S w' := Sum.inr.inj e1
  rw [S_inj e3]
  exact e2
theorem ToldD.mono {rs : List RF} {ws : List (List Nat)} {kvs : List (Key × V)} {H H' : Hp} (h : ToldD rs ws kvs H) (s : Same H H') : ToldD rs ws kvs H' := ⟨h.keys, fun q hq => let ⟨w, a, b⟩ := h.each q hq; ⟨w, a, b.mono s⟩⟩
theorem valV_some {kvs : List (Key × V)} {k : Key} (h : k ∈ kvs.map (·.1)) : ∃ v, valV kvs k = some v := by
  cases e : valV kvs k with
  | some v => exact ⟨v, rfl⟩
  | none => exact absurd h (valV_not e)
/-- two dicts of the same paths tell alike -/
theorem ToldD.same {rs : List RF} {ws : List (List Nat)} {ks ls : List (Key × V)} {H : Hp} (h : ToldD rs ws ks H) (g : ToldD rs ws ls H) : SameDD K H ks ls := by
  refine ⟨?_, fun q hq => ?_⟩
  · have := congrArg List.length (h.keys.trans g.keys.symm)
    rwa [List.length_map, List.length_map] at this
  · obtain ⟨w, e, t, nms, fo, b, o, e1, e2, e3, e4⟩ := h.each q hq
    have hm : q.1 ∈ ls.map (·.1) := by
      rw [g.keys, ← h.keys]
      exact List.mem_map.mpr ⟨q, hq, rfl⟩
    obtain ⟨v, hv⟩ := valV_some hm
    have hv' := hv
    rw [e] at hv'
    obtain ⟨t', nms', fo', b', o', f1, f2, f3, f4⟩ := g.vals w v hv'
    rw [e3] at f3
    cases f3
    obtain ⟨rfl, rfl⟩ := f4.uniq e4
    refine ⟨v, pairD b' o', hv, ?_, ?_, pair_ok.up (by decide)⟩
    · rw [e1]; exact pair_dp (.inl (.inl e2))
    · rw [f1]; exact pair_dp (.inl (.inl f2))
/-! ### plain: going down, one name more -/
theorem join_len {b : Nat} : ∀ {ls : List (List Nat)}, (∀ l ∈ ls, l.length ≤ b) → (TL.joinL [47] ls).length ≤ (b + 1) * ls.length
  | [], _ => Nat.zero_le _
  | [p], h => by
    have := h p List.mem_cons_self
    show p.length ≤ _
    simp only [List.length_cons, List.length_nil]
    omega
  | p :: q :: r, h => by
    have h1 := h p List.mem_cons_self
    have h2 := join_len (ls := q :: r) fun l hl => h l (List.mem_cons_of_mem _ hl)
    show (p ++ ([47] ++ TL.joinL [47] (q :: r))).length ≤ _
    rw [List.length_append, List.length_append, List.length_cons (as := q :: r), Nat.mul_succ]
    simp only [List.length_cons, List.length_nil] at h2 ⊢
    omega
theorem nms_app (A B : List (List Nat)) : nmsV A ++ nmsV B = nmsV (A ++ B) := by
  unfold nmsV
  rw [List.map_append, List.map_append]
theorem cut_take {us : List V} {k : Nat} : cutV us none (some (k : Int)) = us.take k := by
  unfold cutV
  have e : HT.sIx us.length us.length (some (k : Int)) = min k us.length := by
    unfold HT.sIx
    simp
    omega
  rw [HT.sIx_none, e, List.drop_zero, Nat.sub_zero]
  rcases Nat.le_total k us.length with h | h
  · rw [Nat.min_eq_left h]
  · rw [Nat.min_eq_right h, List.take_of_length_le (Nat.le_refl _), List.take_of_length_le h]
theorem nms_take {ns : List (List Nat)} {k : Nat} : (nmsV ns).take k = nmsV (ns.take k) := by
  unfold nmsV
  rw [List.map_take, List.map_take]
/-- a good path by its names -/
structure GoodP (w : List Nat) (nms : List (List Nat)) (fo : Bool) : Prop where
  eq : w = TL.joinL [47] nms ++ (if fo = true then [47] else [])
  ne : nms ≠ []
  len : nms.length ≤ 60
  nm : ∀ nm ∈ nms, nm ≠ [] ∧ nm.length ≤ 400 ∧ ∀ c ∈ nm, c ∈ SIG
theorem GoodP.size {w : List Nat} {nms : List (List Nat)} {fo : Bool} (h : GoodP w nms fo) : w.length ≤ 30000 := by
  have lj := join_len (b := 400) fun nm hm => (h.nm nm hm).2.1
  have := h.len
  rw [h.eq, List.length_append]
  split <;> simp <;> omega
theorem txts_dp {H : Hp} {p : Addr} {ws : List (List Nat)} (h : SqL K H p (nmsV ws)) : Dp K H (.ref p) (.list (ws.map fun w => .str (S w))) := .lst h (by
  unfold nmsV
  rw [List.map_map]
  exact dp_map (fun w => V.str (S w)) (fun w => PyData.str (S w)) (fun w => .str _) ws)
theorem txts_ok {ws : List (List Nat)} (h : ∀ w ∈ ws, PyData.strOk (S w) = true) : DOk 1 (.list (ws.map fun w => .str (S w))) := dok_lst fun d hd => by
  obtain ⟨w, hw, rfl⟩ := List.mem_map.mp hd
  exact dok_str (h w hw)
theorem txt_ok {w : List Nat} (h : ∀ c ∈ w, c = 47 ∨ c ∈ SIG) : PyData.strOk (S w) = true := by
  have k : ∀ c ∈ SIG, c < 128 := by decide +kernel
  unfold PyData.strOk
  rw [← Array.all_toList, List.all_eq_true]
  exact fun c hc => decide_eq_true ((h c hc).elim (fun e => by omega) fun h => Nat.lt_trans (k c h) (by decide))
theorem eq_dat {n : Nat} {d : PyData} {u v : V} {H : Hp} {Q : VK} (ok : DOk n d) (hn : n ≤ 64) (h1 : Dp K H u d) (h2 : Dp K H v d) (q : Q (.bl true) H) : rEqR K u v H Q := by
  refine .inl ⟨d, d, h1, h2, ok.shaped hn, ok.shaped hn, ?_⟩
  rw [ok.eqv]
  exact q

/-! ### texts put in order: the one list -/
def leW (a b : List Nat) : Bool := !ltCps b a
theorem lt_irr : ∀ a : List Nat, ltCps a a = false
  | [] => rfl
  | a :: r => by simp [ltCps, lt_irr r]
theorem lt_tri : ∀ {a b : List Nat}, ltCps a b = false → ltCps b a = false → a = b
  | [], [], _, _ => rfl
  | [], _ :: _, h, _ => by simp [ltCps] at h
  | _ :: _, [], _, h => by simp [ltCps] at h
  | a :: r, b :: t, h, g => by
    simp only [ltCps, Bool.or_eq_false_iff, decide_eq_false_iff_not, Bool.and_eq_false_iff, beq_eq_false_iff_ne] at h g
    have e : a = b := by omega
    subst e
    rw [lt_tri (a := r) (b := t) (h.2.resolve_left fun z => z rfl) (g.2.resolve_left fun z => z rfl)]
theorem lt_tr : ∀ {a b c : List Nat}, ltCps a b = true → ltCps b c = true → ltCps a c = true
  | [], [], _, h, _ => by simp [ltCps] at h
  | [], _ :: _, [], _, g => by simp [ltCps] at g
  | [], _ :: _, _ :: _, _, _ => rfl
  | _ :: _, [], _, h, _ => by simp [ltCps] at h
  | _ :: _, _ :: _, [], _, g => by simp [ltCps] at g
  | a :: r, b :: t, c :: u, h, g => by
    simp only [ltCps, Bool.or_eq_true, decide_eq_true_eq, Bool.and_eq_true, beq_iff_eq] at h g ⊢
    rcases h with h | ⟨h1, h2⟩
    · rcases g with g | ⟨g1, g2⟩
      · exact .inl (by omega)
      · exact .inl (by omega)
    · rcases g with g | ⟨g1, g2⟩
      · exact .inl (by omega)
      · exact .inr ⟨by omega, lt_tr h2 g2⟩
theorem lt_as {a b : List Nat} (h : ltCps a b = true) : ltCps b a = false := by
  cases e : ltCps b a with
  | false => rfl
  | true => have := lt_tr h e; rw [lt_irr] at this; cases this
theorem le_tot (a b : List Nat) : leW a b = true ∨ leW b a = true := by
  unfold leW
  cases h : ltCps b a with
  | false => exact .inl rfl
  | true => rw [lt_as h]; exact .inr rfl
theorem le_tr {a b c : List Nat} (h : leW a b = true) (g : leW b c = true) : leW a c = true := by
  unfold leW at h g ⊢
  simp only [Bool.not_eq_true'] at h g ⊢
  cases e : ltCps c a with
  | false => rfl
  | true =>
    cases e2 : ltCps b c with
    | true => rw [lt_tr e2 e] at h; cases h
    | false =>
      have : b = c := lt_tri e2 g
      subst this
      rw [h] at e
      cases e
theorem le_anti {a b : List Nat} (h : leW a b = true) (g : leW b a = true) : a = b := by
  unfold leW at h g
  simp only [Bool.not_eq_true'] at h g
  exact lt_tri g h
theorem rising_pw : ∀ (l : List (List Nat)) (p : List Nat), risingS (S p) (l.map S) = true → (p :: l).Pairwise fun a b => leW a b = true
  | [], p, _ => List.pairwise_singleton _ _
  | c :: r, p, h => by
    have h' : (!ltCps c p && risingS (S c) (r.map S)) = true := h
    rw [Bool.and_eq_true] at h'
    have h2 := rising_pw r c h'.2
    refine List.pairwise_cons.mpr ⟨fun d hd => ?_, h2⟩
    rcases List.mem_cons.mp hd with rfl | hd
    · exact h'.1
    · exact le_tr h'.1 ((List.pairwise_cons.mp h2).1 d hd)
theorem sorted_pw : ∀ {l : List (List Nat)}, sortedS (l.map S) = true → l.Pairwise fun a b => leW a b = true
  | [], _ => .nil
  | c :: r, h => rising_pw r c h
def insW (x : List Nat) : List (List Nat) → List (List Nat)
  | [] => [x]
  | y :: r => if leW x y = true then x :: y :: r else y :: insW x r
def srtW : List (List Nat) → List (List Nat)
  | [] => []
  | x :: r => insW x (srtW r)
theorem ins_perm (x : List Nat) : ∀ l, (insW x l).Perm (x :: l)
  | [] => .refl _
  | y :: r => by
    show (if leW x y = true then x :: y :: r else y :: insW x r).Perm _
    split
    · exact .refl _
    · exact ((ins_perm x r).cons y).trans (List.Perm.swap x y r)
theorem srt_perm : ∀ l : List (List Nat), (srtW l).Perm l
  | [] => .refl _
  | x :: r => (ins_perm x (srtW r)).trans ((srt_perm r).cons x)
theorem ins_pw (x : List Nat) : ∀ l : List (List Nat), (l.Pairwise fun a b => leW a b = true) → (insW x l).Pairwise fun a b => leW a b = true
  | [], _ => List.pairwise_singleton _ _
  | y :: r, h => by
    have h' := List.pairwise_cons.mp h
    show (if leW x y = true then x :: y :: r else y :: insW x r).Pairwise _
    split
    · rename_i e
      refine List.pairwise_cons.mpr ⟨fun z hz => ?_, h⟩
      rcases List.mem_cons.mp hz with rfl | hz
      · exact e
      · exact le_tr e (h'.1 z hz)
    · rename_i e
      have e2 := (le_tot x y).resolve_left e
      refine List.pairwise_cons.mpr ⟨fun z hz => ?_, ins_pw x r h'.2⟩
      rcases List.mem_cons.mp ((ins_perm x r).mem_iff.mp hz) with rfl | hz
      · exact e2
      · exact h'.1 z hz
theorem srt_pw : ∀ l : List (List Nat), (srtW l).Pairwise fun a b => leW a b = true
  | [] => .nil
  | x :: r => ins_pw x (srtW r) (srt_pw r)
theorem srt_uniq {a b : List (List Nat)} (ha : a.Pairwise fun a b => leW a b = true) (hb : b.Pairwise fun a b => leW a b = true) (p : a.Perm b) : a = b :=
  p.eq_of_pairwise (fun _ _ _ _ h g => le_anti h g) ha hb
theorem texts_of : ∀ {ys : List Str} {ws : List (List Nat)}, ys.Perm (ws.map S) → ∃ vs : List (List Nat), ys = vs.map S := fun {ys ws} _ =>
  ⟨ys.map fun y => y.cps.toList, by rw [List.map_map]; exact (List.map_id ys).symm.trans (List.map_congr_left fun y _ => (S_tl y).symm)⟩
theorem unmapS {vs ws : List (List Nat)} (h : (vs.map S).Perm (ws.map S)) : vs.Perm ws := by
  have e := h.map fun y : Str => y.cps.toList
  rw [List.map_map, List.map_map] at e
  have k : ∀ l : List (List Nat), l.map ((fun y : Str => y.cps.toList) ∘ S) = l := fun l => by
    refine (List.map_congr_left fun x _ => ?_).trans (List.map_id l)
    show (S x).cps.toList = x
    simp
  rwa [k, k] at e
/-- what sorted tells is the one list -/
theorem sorted_is {ys : List Str} {ws : List (List Nat)} (p : ys.Perm (ws.map S)) (h : sortedS ys = true) : ys = (srtW ws).map S := by
  obtain ⟨vs, rfl⟩ := texts_of p
  rw [srt_uniq (sorted_pw h) (srt_pw ws) ((unmapS p).trans (srt_perm ws).symm)]
section
variable {X : Cx}
/-- sorted of a list of texts, of any length -/
def rSortedA (K : PySem.W.Frag) : List V → Hp → VK → Prop := fun vs H Q => match vs with
  | [.ref a] => ∃ ws : List (List Nat), SqL K H a (nmsV ws) ∧ ∀ p, H p = none → Q (.ref p) (upd H p (.lst (nmsV (srtW ws))))
  | _ => False
theorem o_sortedA {K : PySem.W.Frag} (hK : X.K = K := by rfl) : CallR X (.builtin "sorted") (rSortedA K) := by
  subst hK
  intro pins s σ H vs us Q I r h
  match vs, h with
  | [.ref a], ⟨ws, hs, q⟩ =>
  obtain ⟨its, rv, hl, hz⟩ := I.list hs
  rw [Vals.ref1 r]
  have hlen0 := rv.length
  rw [nms_len] at hlen0
  have rv' : Vals ((ws.map S).map V.str) its := rv
  refine PyProof.Rows.sorted_strsAny hl.isList rv'.strs (by rw [← hlen0]; rw [nms_len] at hz; exact hz) fun out ys h1 h2 h3 => ?_
  obtain ⟨ep, he'⟩ := PyProof.Rows.sortedAll_at s.heap its out
  have e := sorted_is h2 h3
  subst e
  have hlen : (nmsV (srtW ws)).length ≤ sizeLine := by
    rw [nms_len, (srt_perm ws).length_eq]
    rw [nms_len] at hz
    exact hz
  exact ⟨.ref _, upd H (s.heap.objs.size + 1) (.lst (nmsV (srtW ws))), I.laid (t' := s.toks) (fun _ _ => PyProof.Rows.sortedAll_old) (Nat.le_succ _) ⟨hlen, out.toList, ep, vals_of_strs h1, he'⟩, rfl, q _ (I.hok.fresh (Nat.le_succ _))⟩
end
/-! ### trees as dicts -/
/-- a name of a tree: signs of names, one at least -/
def NmOk (nm : List Nat) : Prop := nm ≠ [] ∧ nm.length ≤ 1000 ∧ ∀ c ∈ nm, c ∈ SIG
abbrev Names := List (List Nat)
/-- what stands in a folder, in the dict's order -/
def kidE (al : Names → Addr) (e : Names × Bool) : Key × V := (.inr (S (e.1.getLastD [])), if e.2 = true then .ref (al e.1) else .non)
def inF (p : Names) (e : Names × Bool) : Bool := decide (e.1.dropLast = p)
def kids (E : List (Names × Bool)) (al : Names → Addr) (p : Names) : List (Key × V) := (E.filter (inF p)).map (kidE al)
def kidN (E : List (Names × Bool)) (p : Names) : List (List Nat) := (E.filter (inF p)).map fun e => e.1.getLastD []
/-- the entries of a tree: each once, folders ahead, names of signs -/
structure EOk (E : List (Names × Bool)) : Prop where
  nd : (E.map (·.1)).Nodup
  ne : ∀ e ∈ E, e.1 ≠ []
  up : ∀ e ∈ E, e.1.dropLast = [] ∨ (e.1.dropLast, true) ∈ E
  nm : ∀ e ∈ E, ∀ nm ∈ e.1, NmOk nm
  deep : ∀ e ∈ E, e.1.length ≤ 9
def Fold (E : List (Names × Bool)) (p : Names) : Prop := p = [] ∨ (p, true) ∈ E
structure TreeE (E : List (Names × Bool)) (al : Names → Addr) (H : Hp) : Prop where
  ok : EOk E
  at_ : ∀ p, Fold E p → H (al p) = some (.dK (kids E al p))
  inj : ∀ p q, Fold E p → Fold E q → al p = al q → p = q
theorem TreeE.mono {E : List (Names × Bool)} {al : Names → Addr} {H H' : Hp} (h : TreeE E al H) (s : Same H H') : TreeE E al H' := ⟨h.ok, fun p hp => s _ _ (h.at_ p hp), h.inj⟩
theorem last_app {p : Names} {nm : List Nat} : (p ++ [nm]).getLastD [] = nm := by simp
theorem drop_last {q : Names} (h : q ≠ []) : q = q.dropLast ++ [q.getLastD []] := by
  rcases List.eq_nil_or_concat q with e | ⟨r, x, e⟩
  · exact absurd e h
  · rw [e, List.concat_eq_append, List.dropLast_concat, last_app]
/-- an entry of a folder, by its name -/
theorem kid_of {E : List (Names × Bool)} (ok : EOk E) {p : Names} {e : Names × Bool} (h : e ∈ E.filter (inF p)) : e ∈ E ∧ e.1 = p ++ [e.1.getLastD []] := by
  obtain ⟨h1, h2⟩ := List.mem_filter.mp h
  refine ⟨h1, ?_⟩
  have e2 : e.1.dropLast = p := of_decide_eq_true h2
  rw [← e2]
  exact drop_last (ok.ne e h1)
theorem kid_in {E : List (Names × Bool)} {p : Names} {nm : List Nat} {fo : Bool} (h : (p ++ [nm], fo) ∈ E) : (p ++ [nm], fo) ∈ E.filter (inF p) := List.mem_filter.mpr ⟨h, decide_eq_true (by simp)⟩
theorem kidN_mem {E : List (Names × Bool)} (ok : EOk E) {p : Names} {nm : List Nat} : nm ∈ kidN E p ↔ ∃ fo, (p ++ [nm], fo) ∈ E := by
  unfold kidN
  rw [List.mem_map]
  constructor
  · rintro ⟨e, he, rfl⟩
    obtain ⟨h1, h2⟩ := kid_of ok he
    exact ⟨e.2, by rw [← h2]; exact h1⟩
  · rintro ⟨fo, h⟩
    exact ⟨_, kid_in h, last_app⟩
theorem e_uniq {E : List (Names × Bool)} (ok : EOk E) {p : Names} {a b : Bool} (h : (p, a) ∈ E) (g : (p, b) ∈ E) : a = b := by
  have key : ∀ {E : List (Names × Bool)}, (E.map (·.1)).Nodup → (p, a) ∈ E → (p, b) ∈ E → a = b := by
    intro E
    induction E with
    | nil => exact fun _ h => nomatch h
    | cons x r ih =>
      intro nd h g
      have nd' := List.nodup_cons.mp nd
      rcases List.mem_cons.mp h with e1 | h
      · rcases List.mem_cons.mp g with e2 | g
        · exact (Prod.mk.inj (e1.trans e2.symm)).2
        · exact absurd (List.mem_map.mpr ⟨_, g, by rw [← e1]⟩) nd'.1
      · rcases List.mem_cons.mp g with e2 | g
        · exact absurd (List.mem_map.mpr ⟨_, h, by rw [← e2]⟩) nd'.1
        · exact ih nd'.2 h g
  exact key ok.nd h g
theorem kids_keys {E : List (Names × Bool)} {al : Names → Addr} {p : Names} : (kids E al p).map (·.1) = (kidN E p).map fun nm => (Sum.inr (S nm) : Key) := by
  unfold kids kidN
  rw [List.map_map, List.map_map]
  rfl
theorem kidN_nd {E : List (Names × Bool)} (ok : EOk E) {p : Names} : (kidN E p).Nodup := by
  have h1 : (E.filter (inF p)).map (·.1) = (kidN E p).map fun nm => p ++ [nm] := by
    unfold kidN
    rw [List.map_map]
    exact List.map_congr_left fun e he => (kid_of ok he).2
  have h2 : ((E.filter (inF p)).map (·.1)).Nodup := ok.nd.sublist ((List.filter_sublist (l := E)).map _)
  rw [h1] at h2
  exact (List.pairwise_map.mp h2).imp fun {a b} h e => h (by rw [e])
/-- what stands at a name of a folder -/
theorem kid_val {E : List (Names × Bool)} (ok : EOk E) {al : Names → Addr} {p : Names} {nm : List Nat} {fo : Bool} (h : (p ++ [nm], fo) ∈ E) : valV (kids E al p) (.inr (S nm)) = some (if fo = true then .ref (al (p ++ [nm])) else .non) := by
  have hk : (Sum.inr (S nm) : Key) ∈ (kids E al p).map (·.1) := by
    rw [kids_keys]
    exact List.mem_map.mpr ⟨nm, (kidN_mem ok).mpr ⟨fo, h⟩, rfl⟩
  cases e : valV (kids E al p) (.inr (S nm) : Key) with
  | none => exact absurd hk (valV_not e)
  | some v =>
    have hm := valV_pair e
    unfold kids at hm
    obtain ⟨x, hx, ex⟩ := List.mem_map.mp hm
    obtain ⟨h1, h2⟩ := kid_of ok hx
    unfold kidE at ex
    have e1 : x.1.getLastD [] = nm := S_inj (Sum.inr.inj (Prod.mk.inj ex).1)
    rw [e1] at h2
    have e3 : x.2 = fo := e_uniq ok (p := p ++ [nm]) (by rw [← h2]; exact h1) h
    rw [← (Prod.mk.inj ex).2, h2, e3]
theorem kid_no {E : List (Names × Bool)} (ok : EOk E) {al : Names → Addr} {p : Names} {nm : List Nat} (h : ∀ fo, (p ++ [nm], fo) ∉ E) : valV (kids E al p) (.inr (S nm)) = none := by
  cases e : valV (kids E al p) (.inr (S nm) : Key) with
  | none => rfl
  | some v =>
    have hm := valV_in e
    rw [kids_keys, List.mem_map] at hm
    obtain ⟨x, hx, ex⟩ := hm
    have e1 : x = nm := S_inj (Sum.inr.inj ex)
    subst e1
    obtain ⟨fo, h'⟩ := (kidN_mem ok).mp hx
    exact absurd h' (h fo)
/-- the paths within a folder, names rising, a folder ahead of what is in it -/
def pathsE (E : List (Names × Bool)) : Nat → Names → List Nat → List (List Nat)
  | 0, _, _ => []
  | n + 1, p, ahead => (srtW (kidN E p)).flatMap fun nm => if (p ++ [nm], true) ∈ E then (ahead ++ nm ++ [47]) :: pathsE E n (p ++ [nm]) (ahead ++ nm ++ [47]) else [ahead ++ nm]
/-! how many there are -/
def preB (p q : Names) : Bool := p.isPrefixOf q
theorem cntP_one {E : List (Names × Bool)} {p : Names} : ∀ {L : List (List Nat)}, L.Nodup → (L.map fun nm => E.countP fun e => preB (p ++ [nm]) e.1).sum ≤ E.countP fun e => preB p e.1 && decide (p.length < e.1.length) := by
  induction E with
  | nil =>
    intro L _
    have : ∀ L : List (List Nat), (L.map fun nm => ([] : List (Names × Bool)).countP fun e => preB (p ++ [nm]) e.1).sum = 0 := by
      intro L
      induction L with
      | nil => rfl
      | cons a r ih => rw [List.map_cons, List.sum_cons, ih]; rfl
    rw [this]
    exact Nat.zero_le _
  | cons x E ih =>
    intro L nd
    have h1 := ih nd
    have key : ∀ {L : List (List Nat)}, L.Nodup → (L.map fun nm => (x :: E).countP fun e => preB (p ++ [nm]) e.1).sum ≤ (L.map fun nm => E.countP fun e => preB (p ++ [nm]) e.1).sum + (if (preB p x.1 && decide (p.length < x.1.length)) = true then 1 else 0) ∧
        ((∀ nm ∈ L, preB (p ++ [nm]) x.1 = false) → (L.map fun nm => (x :: E).countP fun e => preB (p ++ [nm]) e.1).sum = (L.map fun nm => E.countP fun e => preB (p ++ [nm]) e.1).sum) := by
      intro L
      induction L with
      | nil => exact fun _ => ⟨Nat.zero_le _, fun _ => rfl⟩
      | cons a r ih2 =>
        intro nd
        have nd' := List.nodup_cons.mp nd
        obtain ⟨i1, i2⟩ := ih2 nd'.2
        rw [List.map_cons, List.map_cons, List.sum_cons, List.sum_cons, List.countP_cons]
        constructor
        · cases ha : preB (p ++ [a]) x.1 with
          | false => rw [if_neg Bool.false_ne_true]; omega
          | true =>
            have hp : ∃ t, x.1 = p ++ a :: t := by
              obtain ⟨t, e⟩ := List.isPrefixOf_iff_prefix.mp ha
              exact ⟨t, by rw [← e]; simp⟩
            obtain ⟨t, ht⟩ := hp
            have hs : (preB p x.1 && decide (p.length < x.1.length)) = true := by
              rw [Bool.and_eq_true]
              refine ⟨List.isPrefixOf_iff_prefix.mpr ⟨a :: t, ht.symm⟩, decide_eq_true ?_⟩
              rw [ht, List.length_append, List.length_cons]
              omega
            have hr : ∀ nm ∈ r, preB (p ++ [nm]) x.1 = false := fun nm hm => by
              cases hb : preB (p ++ [nm]) x.1 with
              | false => rfl
              | true =>
                obtain ⟨t2, e2⟩ := List.isPrefixOf_iff_prefix.mp hb
                rw [ht, List.append_assoc] at e2
                have e3 := List.append_cancel_left e2
                cases e3
                exact absurd hm nd'.1
            rw [if_pos rfl, if_pos hs, i2 hr]
            omega
        · intro hno
          rw [hno a List.mem_cons_self, if_neg Bool.false_ne_true, i2 fun nm hm => hno nm (List.mem_cons_of_mem _ hm), Nat.add_zero]
    have k := (key nd).1
    rw [List.countP_cons]
    omega
theorem sum_le {α : Type} {f g : α → Nat} : ∀ {l : List α}, (∀ x ∈ l, f x ≤ g x) → (l.map f).sum ≤ (l.map g).sum
  | [], _ => Nat.le_refl _
  | x :: r, h => by
    have a := h x List.mem_cons_self
    have b := sum_le (l := r) fun y hy => h y (List.mem_cons_of_mem _ hy)
    rw [List.map_cons, List.map_cons, List.sum_cons, List.sum_cons]
    omega
theorem paths_cnt {E : List (Names × Bool)} (ok : EOk E) : ∀ (n : Nat) (p : Names) (ahead : List Nat), (pathsE E n p ahead).length ≤ E.countP fun e => preB p e.1 && decide (p.length < e.1.length)
  | 0, _, _ => Nat.zero_le _
  | n + 1, p, ahead => by
    have nd : (srtW (kidN E p)).Nodup := (srt_perm _).nodup_iff.mpr (kidN_nd ok)
    refine Nat.le_trans ?_ (cntP_one nd)
    show (List.flatMap _ _).length ≤ _
    rw [List.length_flatMap]
    refine sum_le fun nm hm => ?_
    obtain ⟨fo, hin⟩ := (kidN_mem ok).mp ((srt_perm _).mem_iff.mp hm)
    have pre0 : preB (p ++ [nm]) (p ++ [nm]) = true := List.isPrefixOf_iff_prefix.mpr (List.prefix_refl _)
    split
    · have ih := paths_cnt ok n (p ++ [nm]) (ahead ++ nm ++ [47])
      rw [List.length_cons]
      have key : ∀ E : List (Names × Bool), (p ++ [nm], fo) ∈ E → (E.countP fun e => preB (p ++ [nm]) e.1 && decide ((p ++ [nm]).length < e.1.length)) + 1 ≤ E.countP fun e => preB (p ++ [nm]) e.1 := by
        intro E
        induction E with
        | nil => exact fun h => nomatch h
        | cons x r ih =>
          intro h
          rw [List.countP_cons, List.countP_cons]
          have mono : (r.countP fun e => preB (p ++ [nm]) e.1 && decide ((p ++ [nm]).length < e.1.length)) ≤ r.countP fun e => preB (p ++ [nm]) e.1 :=
            List.countP_mono_left fun e _ h => (Bool.and_eq_true _ _ ▸ h).1
          rcases List.mem_cons.mp h with e | h
          · rw [← e, if_neg, if_pos pre0]
            · omega
            · rw [pre0, Bool.true_and, decide_eq_true_eq]
              exact Nat.lt_irrefl _
          · have i := ih h
            split
            · rename_i hx
              rw [if_pos (Bool.and_eq_true _ _ ▸ hx).1]
              omega
            · split <;> omega
      have := key E hin
      omega
    · exact List.countP_pos_iff.mpr ⟨_, hin, pre0⟩
theorem paths_len {E : List (Names × Bool)} (ok : EOk E) (n : Nat) (p : Names) (ahead : List Nat) : (pathsE E n p ahead).length ≤ E.length := Nat.le_trans (paths_cnt ok n p ahead) List.countP_le_length
theorem paths_sig {E : List (Names × Bool)} (ok : EOk E) : ∀ (n : Nat) (p : Names) (ahead : List Nat), (∀ c ∈ ahead, c = 47 ∨ c ∈ SIG) → ∀ w ∈ pathsE E n p ahead, ∀ c ∈ w, c = 47 ∨ c ∈ SIG
  | 0, _, _, _, w, h => nomatch h
  | n + 1, p, ahead, ha, w, h => by
    obtain ⟨nm, hnm, hw⟩ := List.mem_flatMap.mp h
    obtain ⟨fo, hin⟩ := (kidN_mem ok).mp ((srt_perm _).mem_iff.mp hnm)
    have okn := ok.nm _ hin nm (by simp)
    have h1 : ∀ c ∈ ahead ++ nm, c = 47 ∨ c ∈ SIG := fun c hc => (List.mem_append.mp hc).elim (ha c) fun h => .inr (okn.2.2 c h)
    have h2 : ∀ c ∈ ahead ++ nm ++ [47], c = 47 ∨ c ∈ SIG := fun c hc => (List.mem_append.mp hc).elim (h1 c) fun h => .inl (List.mem_singleton.mp h)
    split at hw
    · rcases List.mem_cons.mp hw with rfl | hw
      · exact h2
      · exact paths_sig ok n _ _ h2 w hw
    · rw [List.mem_singleton.mp hw]
      exact h1

/-! ### the paths within a folder, by the program and by the law -/
def spPW (K : PySem.W.Frag) (n : Nat) : Sp := fun vs H Q _ => ∃ E al p ahead, vs = [.ref (al p), .str (S ahead)] ∧ TreeE E al H ∧ Fold E p ∧ p.length + n = 10 ∧ E.length ≤ 1000 ∧ (∀ p, (kidN E p).length ≤ 60) ∧ ahead.length ≤ p.length * 1001 ∧
  ∀ F H', Same H H' → H F = none → H' F = some (.lst (nmsV (pathsE E n p ahead))) → Q (.ref F) H'
theorem treeE_sorted {E : List (Names × Bool)} {p : Names} {ys : List Str} (h : ys.Perm ((kidN E p).map S)) (s : sortedS ys = true) : ys.map V.str = nmsV (srtW (kidN E p)) := by
  rw [sorted_is h s]
  rfl
theorem flat_take {α β : Type} {f : α → List β} {l : List α} {k : Nat} {x : α} (h : l[k]? = some x) : (l.take (k + 1)).flatMap f = (l.take k).flatMap f ++ f x := by
  rw [List.take_succ, h, List.flatMap_append]
  simp
theorem flat_take_len {α β : Type} {f : α → List β} {l : List α} {k : Nat} : ((l.take k).flatMap f).length ≤ (l.flatMap f).length := by
  have e : l.flatMap f = (l.take k).flatMap f ++ (l.drop k).flatMap f := by rw [← List.flatMap_append, List.take_append_drop]
  rw [e, List.length_append]
  omega
theorem ok_paths_within (T : Txt K mg) : ∀ n, OkD P w K mg base (n + 2) (fA K "paths_within") ["tree", "ahead"] [] (spPW K n)
  | 0 => by
    refine okD T.F_paths_within sc_paths_within (fun _ _ _ _ _ _ us hl => match us, hl with | [_, _], _ => rfl) ?_ ?_
    · rintro vs H Q E ⟨E, al, p, ahead, rfl, _⟩
      rfl
    · rintro cdv A outer s H vs Q E hr ⟨E, al, p, ahead, rfl, ht, hp, hn, _⟩
      have hd : p.length ≤ 9 := by
        rcases hp with rfl | hp
        · exact Nat.zero_le _
        · exact ht.ok.deep _ hp
      omega
  | n + 1 => by
    have ih := ok_paths_within T n
    refine okD T.F_paths_within sc_paths_within (fun _ _ _ _ _ _ us hl => match us, hl with | [_, _], _ => rfl) ?_ ?_
    · rintro vs H Q E ⟨E, al, p, ahead, rfl, _⟩
      rfl
    · rintro cdv A outer s H vs Q X hr ⟨E, al, p, ahead, rfl, ht, hp, hn, hl, hk, ha, q⟩
      refine ⟨_, (pss_cons (ps_set (i := 2) sc_paths_within.nd rfl (Or.inl rfl) (pe_lst pa_nil))
  (pss_cons (ps_mid (ps_for (passes_of rfl) rfl (pi_mid (o_it (K := K) rfl (pe_callB (call_sortedD rfl) (by rfl) T.fr_sorted (by decide +kernel) (pa_cons (pv 0) pa_nil)))) (pg_name (i := 3) sc_paths_within.nd rfl (Or.inl rfl)) (pss_one (ps_if (pt_mid (pt_cmp (pc_isN (pe_dget (hu_of hr) (pv 0) (pv 3) (fun _ _ => rfl))) rfl)) (pss_one (ps_expr (pe_bmK (K := K) PySem.F.plainAttrs_list PySem.F.slot_list_append PySem.F.type_list_append mt_append (pv 2) (pa_cons (pe_mid (pe_op (o_add (K := K)) (pv 1) (pv 3))) pa_nil)))) (pss_cons (ps_expr (pe_bmK (K := K) PySem.F.plainAttrs_list PySem.F.slot_list_append PySem.F.type_list_append mt_append (pv 2) (pa_cons (pe_mid (pe_op (o_add (K := K)) (pe_op (o_add (K := K)) (pv 1) (pv 3)) pe_str)) pa_nil)))
  (pss_one (ps_aug (i := 2) sc_paths_within.nd rfl (Or.inl rfl) (pe_cal ih (hr.mono (by omega)) rfl T.g_paths_within (pasE (takes_of rfl rfl rfl rfl) (fun _ _ _ _ h => h)) (pa_cons (pe_dget (hu_of hr) (pv 0) (pv 3) (fun _ _ => rfl)) (pa_cons (pe_op (o_add (K := K)) (pe_op (o_add (K := K)) (pv 1) (pv 3)) pe_str) pa_nil))) o_iadd)))))))
  (pss_one (ps_ret (pv 2))))), ?_⟩
      have tobj := T.obj
      refine q_new fun F hF => ?_
      have sF := same_new (o := .lst []) hF
      have hd := ht.at_ p hp
      have hs := kids_keys (E := E) (al := al) (p := p)
      have hkn := (srt_perm (kidN E p)).length_eq
      have hk1 := hk p
      have ok := ht.ok
      have pl : p.length ≤ 9 := by
        rcases hp with rfl | hp
        · exact Nat.zero_le _
        · exact ok.deep _ hp
      have al1 : ahead.length ≤ 9009 := by
        have : p.length * 1001 ≤ 9 * 1001 := Nat.mul_le_mul_right _ pl
        omega
      let f : List Nat → List (List Nat) := fun nm => if (p ++ [nm], true) ∈ E then (ahead ++ nm ++ [47]) :: pathsE E n (p ++ [nm]) (ahead ++ nm ++ [47]) else [ahead ++ nm]
      have ef : pathsE E (n + 1) p ahead = (srtW (kidN E p)).flatMap f := rfl
      have tot : ((srtW (kidN E p)).flatMap f).length ≤ 1000 := by
        rw [← ef]
        exact Nat.le_trans (paths_len ok _ _ _) hl
      refine q_stm (fun σ H' => Same H H' ∧ ∃ x, σ = [some (.ref (al p)), some (.str (S ahead)), some (.ref F), x] ∧ H' F = some (.lst (nmsV (pathsE E (n + 1) p ahead)))) ?_ ?_
      · refine for_open (fun J H1 => ∃ L, J = Itl K L ∧ Same (upd H F (.lst [])) H1 ∧ H1 L = some (.lst (nmsV (srtW (kidN E p)))) ∧ upd H F (.lst []) L = none) ?_ ?_
        · walk_at "rd"
          refine ⟨_, .inl (sF _ _ hd), (kidN E p).map S, by rw [hs, List.map_map]; rfl, by rw [List.length_map]; omega, fun ys L hy hs' hL => ?_⟩
          rw [treeE_sorted hy hs']
          exact .inl ⟨⟨_, .inl (.inl upd_same)⟩, L, rfl, same_new hL, upd_same, hL⟩
        rintro _ H1 ⟨L, rfl, s1, hL, hLn⟩
        have nLF : L ≠ F := fun e => by rw [e, upd_same] at hLn; cases hLn
        have hLn0 : H L = none := by rw [upd_ne nLF] at hLn; exact hLn
        refine for_mid (J0 := Itl K L) (H0 := H1) ⟨rfl, rfl⟩ (walk_list (K := K) (a := L) (xs := nmsV (srtW (kidN E p)))) (fun k σ H' => Same H H' ∧ H' L = some (.lst (nmsV (srtW (kidN E p)))) ∧ ∃ x, σ = [some (.ref (al p)), some (.str (S ahead)), some (.ref F), x] ∧ H' F = some (.lst (nmsV (((srtW (kidN E p)).take k).flatMap f))))
          ⟨sF.trans s1, hL, _, rfl, s1 _ _ upd_same⟩ (fun _ _ _ _ h => .inl (.inl h.2.1)) ?_ (fun σ H' h => ?_)
        · rintro k x σ H2 H2' hk2 ⟨s2, hL2, x3, rfl, hF2⟩ ⟨rfl, hx⟩
          obtain ⟨nm, hnm, rfl⟩ := nms_at hx
          obtain ⟨fo, hin⟩ := (kidN_mem ok).mp ((srt_perm _).mem_iff.mp (List.mem_of_getElem? hnm))
          have okn := ok.nm _ hin nm (by simp)
          have hd2 := s2 _ _ hd
          have hv := kid_val ok (al := al) hin
          have stp := flat_take (f := f) hnm
          have tl := flat_take_len (f := f) (l := srtW (kidN E p)) (k := k)
          have tl1 := flat_take_len (f := f) (l := srtW (kidN E p)) (k := k + 1)
          have nlen := okn.2.1
          refine l_if (fun b H' => H' = H2' ∧ b = !fo) ?_ (fun H3 h => ?_) (fun H3 h => ?_)
          · walk_at "rd"
            refine ⟨_, dget_s hd2 hv, ?_⟩
            cases fo <;> rfl
          · obtain ⟨rfl, hb⟩ := h
            have hfo : fo = false := by cases fo with | false => rfl | true => cases hb
            subst hfo
            have hno : (p ++ [nm], true) ∉ E := fun z => by cases e_uniq ok hin z
            refine l_app (xs := nmsV (((srtW (kidN E p)).take k).flatMap f)) rfl hF2 ?_
            walk_at "rd"
            rw [S_cat]
            have ef1 : f nm = [ahead ++ nm] := if_neg hno
            rw [ef1] at stp
            refine ⟨by rw [S_len, S_len]; omega, _, hF2, by rw [nms_len]; omega, same_mut s2 hF, by rw [upd_ne nLF]; exact hL2, ?_⟩
            rw [upd_same, stp]
            simp [nmsV]
          · obtain ⟨rfl, hb⟩ := h
            have hfo : fo = true := by cases fo with | true => rfl | false => cases hb
            subst hfo
            refine q_app (xs := nmsV (((srtW (kidN E p)).take k).flatMap f)) rfl hF2 ?_
            walk_at "rd"
            rw [S_cat, show Str.ofString "/" = S [47] from rfl, S_cat]
            have ef1 : f nm = (ahead ++ nm ++ [47]) :: pathsE E n (p ++ [nm]) (ahead ++ nm ++ [47]) := if_pos hin
            rw [ef1] at stp
            have hd3 : upd H3 F (.lst (nmsV (((srtW (kidN E p)).take k).flatMap f) ++ [V.str (S (ahead ++ nm ++ [47]))])) (al p) = some (.dK (kids E al p)) := by
              rw [upd_ne fun e => by rw [e, hF2] at hd2; cases hd2]
              exact hd2
            have s3 : Same H (upd H3 F (.lst (nmsV (((srtW (kidN E p)).take k).flatMap f) ++ [V.str (S (ahead ++ nm ++ [47]))]))) := same_mut s2 hF
            refine ⟨by rw [S_len, S_len]; omega, by rw [S_len, S_len, List.length_append]; simp only [List.length_singleton]; omega, _, hF2, by rw [nms_len]; omega, _, dget_s hd3 hv, by rw [S_len, S_len]; omega, by rw [S_len, S_len, List.length_append]; simp only [List.length_singleton]; omega, ?_⟩
            refine ⟨E, al, p ++ [nm], ahead ++ nm ++ [47], rfl, ht.mono s3, .inr hin, by rw [List.length_append, List.length_singleton]; omega, hl, hk, ?_, fun G H4 s4 hG hG4 => ?_⟩
            · simp only [List.length_append, List.length_singleton, Nat.add_mul]
              omega
            have hF4 : H4 F = some (.lst (nmsV (((srtW (kidN E p)).take k).flatMap f) ++ [V.str (S (ahead ++ nm ++ [47]))])) := s4 _ _ upd_same
            have hL4 : H4 L = some (.lst (nmsV (srtW (kidN E p)))) := s4 _ _ (by rw [upd_ne nLF]; exact hL2)
            refine ⟨F, G, _, _, rfl, rfl, hF4, hG4, ?_, same_mut (s3.trans s4) hF, by rw [upd_ne nLF]; exact hL4, rfl, ?_⟩
            · have := congrArg List.length stp
              rw [List.length_append, List.length_cons] at this
              rw [List.length_append, nms_len, nms_len, List.length_singleton, sizeLine_eq]
              omega
            · rw [upd_same, stp]
              simp [nmsV]
        · obtain ⟨s2, _, x, e, hF2⟩ := h
          rw [List.take_of_length_le (by rw [nms_len]; exact Nat.le_refl _)] at hF2
          exact ⟨s2, x, e, hF2⟩
      rintro σ H1 ⟨s1, x, rfl, hF1⟩
      walk_at "rd"
      exact q F H1 s1 hF hF1
theorem ok__law_paths (T : Txt K mg) : ∀ n, OkD P w K mg base (n + 2) (fA K "_law_paths") ["_law_tree_here", "_law_ahead"] [] (spPW K n)
  | 0 => by
    refine okD T.F__law_paths sc__law_paths (fun _ _ _ _ _ _ us hl => match us, hl with | [_, _], _ => rfl) ?_ ?_
    · rintro vs H Q E ⟨E, al, p, ahead, rfl, _⟩
      rfl
    · rintro cdv A outer s H vs Q E hr ⟨E, al, p, ahead, rfl, ht, hp, hn, _⟩
      have hd : p.length ≤ 9 := by
        rcases hp with rfl | hp
        · exact Nat.zero_le _
        · exact ht.ok.deep _ hp
      omega
  | n + 1 => by
    have ih := ok__law_paths T n
    refine okD T.F__law_paths sc__law_paths (fun _ _ _ _ _ _ us hl => match us, hl with | [_, _], _ => rfl) ?_ ?_
    · rintro vs H Q E ⟨E, al, p, ahead, rfl, _⟩
      rfl
    · rintro cdv A outer s H vs Q X hr ⟨E, al, p, ahead, rfl, ht, hp, hn, hl, hk, ha, q⟩
      refine ⟨_, (pss_cons (ps_set (i := 2) sc__law_paths.nd rfl (Or.inl rfl) (pe_lst pa_nil))
  (pss_cons (ps_mid (ps_for (passes_of rfl) rfl (pi_mid (o_it (K := K) rfl (pe_callB (call_sortedD rfl) (by rfl) T.fr_sorted (by decide +kernel) (pa_cons (pv 0) pa_nil)))) (pg_name (i := 3) sc__law_paths.nd rfl (Or.inl rfl)) (pss_cons (ps_set (i := 4) sc__law_paths.nd rfl (Or.inl rfl) (pe_mid (pe_dget (hu_of hr) (pv 0) (pv 3) (fun _ _ => rfl))))
  (pss_cons (ps_expr (pe_bmK (K := K) PySem.F.plainAttrs_list PySem.F.slot_list_append PySem.F.type_list_append mt_append (pv 2) (pa_cons (pe_mid (pe_op (o_add (K := K)) (pe_op (o_add (K := K)) (pv 1) (pv 3)) (pe_mid (pe_op o_mulStr pe_str (pe_callTy o_int (by rfl) T.fr_int (by decide +kernel) (pa_cons (pe_cmp (pc_notN (pv 4)) rfl) pa_nil)))))) pa_nil)))
  (pss_one (ps_mid (ps_if (pt_mid (pt_cmp (pc_notN (pv 4)) rfl)) (pss_one (ps_set (i := 2) sc__law_paths.nd rfl (Or.inl rfl) (pe_op (o_add (K := K)) (pv 2) (pe_cal ih (hr.mono (by omega)) rfl T.g__law_paths (pasE (takes_of rfl rfl rfl rfl) (fun _ _ _ _ h => h)) (pa_cons (pv 4) (pa_cons (pe_op (o_add (K := K)) (pe_op (o_add (K := K)) (pv 1) (pv 3)) pe_str) pa_nil)))))) pss_nil)))))))
  (pss_one (ps_ret (pv 2))))), ?_⟩
      have tobj := T.obj
      refine q_new fun F hF => ?_
      have sF := same_new (o := .lst []) hF
      have hd := ht.at_ p hp
      have hs := kids_keys (E := E) (al := al) (p := p)
      have hkn := (srt_perm (kidN E p)).length_eq
      have hk1 := hk p
      have ok := ht.ok
      have pl : p.length ≤ 9 := by
        rcases hp with rfl | hp
        · exact Nat.zero_le _
        · exact ok.deep _ hp
      have al1 : ahead.length ≤ 9009 := by
        have : p.length * 1001 ≤ 9 * 1001 := Nat.mul_le_mul_right _ pl
        omega
      let f : List Nat → List (List Nat) := fun nm => if (p ++ [nm], true) ∈ E then (ahead ++ nm ++ [47]) :: pathsE E n (p ++ [nm]) (ahead ++ nm ++ [47]) else [ahead ++ nm]
      have ef : pathsE E (n + 1) p ahead = (srtW (kidN E p)).flatMap f := rfl
      have tot : ((srtW (kidN E p)).flatMap f).length ≤ 1000 := by
        rw [← ef]
        exact Nat.le_trans (paths_len ok _ _ _) hl
      refine q_stm (fun σ H' => Same H H' ∧ ∃ F x y, H F = none ∧ σ = [some (.ref (al p)), some (.str (S ahead)), some (.ref F), x, y] ∧ H' F = some (.lst (nmsV (pathsE E (n + 1) p ahead)))) ?_ ?_
      · refine for_open (fun J H1 => ∃ L, J = Itl K L ∧ Same (upd H F (.lst [])) H1 ∧ H1 L = some (.lst (nmsV (srtW (kidN E p)))) ∧ upd H F (.lst []) L = none) ?_ ?_
        · walk_at "rd"
          refine ⟨_, .inl (sF _ _ hd), (kidN E p).map S, by rw [hs, List.map_map]; rfl, by rw [List.length_map]; omega, fun ys L hy hs' hL => ?_⟩
          rw [treeE_sorted hy hs']
          exact .inl ⟨⟨_, .inl (.inl upd_same)⟩, L, rfl, same_new hL, upd_same, hL⟩
        rintro _ H1 ⟨L, rfl, s1, hL, hLn⟩
        have nLF : L ≠ F := fun e => by rw [e, upd_same] at hLn; cases hLn
        refine for_mid (J0 := Itl K L) (H0 := H1) ⟨rfl, rfl⟩ (walk_list (K := K) (a := L) (xs := nmsV (srtW (kidN E p)))) (fun k σ H' => Same H H' ∧ H' L = some (.lst (nmsV (srtW (kidN E p)))) ∧ ∃ F x y, H F = none ∧ L ≠ F ∧ σ = [some (.ref (al p)), some (.str (S ahead)), some (.ref F), x, y] ∧ H' F = some (.lst (nmsV (((srtW (kidN E p)).take k).flatMap f))))
          ⟨sF.trans s1, hL, F, _, _, hF, nLF, rfl, s1 _ _ upd_same⟩ (fun _ _ _ _ h => .inl (.inl h.2.1)) ?_ (fun σ H' h => ?_)
        · clear nLF sF hF s1 hLn
          rintro k x σ H2 H2' hk2 ⟨s2, hL2, F, x3, x4, hF, nLF, rfl, hF2⟩ ⟨rfl, hx⟩
          obtain ⟨nm, hnm, rfl⟩ := nms_at hx
          obtain ⟨fo, hin⟩ := (kidN_mem ok).mp ((srt_perm _).mem_iff.mp (List.mem_of_getElem? hnm))
          have okn := ok.nm _ hin nm (by simp)
          have hd2 := s2 _ _ hd
          have hv := kid_val ok (al := al) hin
          have stp := flat_take (f := f) hnm
          have tl := flat_take_len (f := f) (l := srtW (kidN E p)) (k := k)
          have tl1 := flat_take_len (f := f) (l := srtW (kidN E p)) (k := k + 1)
          have nlen := okn.2.1
          refine q_midG (fun v H' => H' = H2' ∧ v = if fo = true then .ref (al (p ++ [nm])) else .non) ?_ ?_
          · walk_at "rd"
            exact ⟨_, dget_s hd2 hv, rfl⟩
          rintro _ _ ⟨rfl, rfl⟩
          rename_i H2'
          refine q_app (xs := nmsV (((srtW (kidN E p)).take k).flatMap f)) rfl hF2 ?_
          have stp1 : (S ahead).length + (S nm).length ≤ 16777216 := by rw [S_len, S_len]; omega
          walk_at "rd"
          refine ⟨stp1, ?_⟩
          rw [S_cat]
          refine mid_of (fun v H' => H' = H2' ∧ v = .str (S (if fo = true then [47] else []))) ?_ ?_
          · walk_at "rd"
            cases fo
            · walk_at "rd"
              exact ⟨_, _, rfl, rfl, by decide, by decide, by decide, rfl, by decide +kernel⟩
            · walk_at "rd"
              exact ⟨_, _, rfl, rfl, by decide, by decide, by decide, rfl, by decide +kernel⟩
          rintro _ _ ⟨rfl, rfl⟩
          rename_i H2'
          refine ⟨by rw [S_len, S_len]; simp only [List.length_append]; split <;> simp <;> omega, _, hF2, by rw [nms_len]; omega, ?_⟩
          rw [S_cat]
          have nFt : al p ≠ F := fun e => by rw [← e, hd] at hF; cases hF
          generalize hH3 : upd H2' F (.lst (nmsV (((srtW (kidN E p)).take k).flatMap f) ++ [V.str (S (ahead ++ nm ++ if fo = true then [47] else []))])) = H3
          have s3 : Same H H3 := by rw [← hH3]; exact same_mut s2 hF
          have hF3 : H3 F = some (.lst (nmsV (((srtW (kidN E p)).take k).flatMap f) ++ [V.str (S (ahead ++ nm ++ if fo = true then [47] else []))])) := by rw [← hH3, upd_same]
          have hL3 : H3 L = some (.lst (nmsV (srtW (kidN E p)))) := by rw [← hH3, upd_ne nLF]; exact hL2
          refine ⟨_, ?_, fun _ _ h => h, fun _ _ h => h, fun _ _ h => h, fun _ _ h => h⟩
          refine l_if (fun b H' => H' = H3 ∧ b = fo) ?_ (fun H4 h => ?_) (fun H4 h => ?_)
          · walk_at "rd"
            cases fo <;> rfl
          · obtain ⟨rfl, hb⟩ := h
            subst hb
            have ef1 : f nm = (ahead ++ nm ++ [47]) :: pathsE E n (p ++ [nm]) (ahead ++ nm ++ [47]) := if_pos hin
            rw [ef1] at stp
            walk_at "rd"
            rw [S_cat, show Str.ofString "/" = S [47] from rfl, S_cat]
            refine ⟨by rw [S_len, S_len]; omega, by rw [S_len, S_len, List.length_append]; simp only [List.length_singleton]; omega, ?_⟩
            refine ⟨E, al, p ++ [nm], ahead ++ nm ++ [47], rfl, ht.mono s3, .inr hin, by rw [List.length_append, List.length_singleton]; omega, hl, hk, ?_, fun G H5 s5 hG hG5 => ?_⟩
            · simp only [List.length_append, List.length_singleton, Nat.add_mul]
              omega
            refine .inl ⟨_, s5 _ _ hF3, _, hG5, ?_, fun p2 hp2 => ⟨(s3.trans s5).trans (same_new hp2), (same_new hp2) _ _ (s5 _ _ hL3), p2, same_none (s3.trans s5) hp2, fun e => ?_, rfl, ?_⟩⟩
            · have := congrArg List.length stp
              rw [List.length_append, List.length_cons] at this
              rw [List.length_append, nms_len, nms_len, List.length_singleton]
              omega
            · rw [← e, s5 _ _ hL3] at hp2; cases hp2
            · rw [upd_same, stp, if_pos rfl]
              simp [nmsV]
          · obtain ⟨rfl, hb⟩ := h
            subst hb
            have hno : (p ++ [nm], true) ∉ E := fun z => by cases e_uniq ok hin z
            have ef1 : f nm = [ahead ++ nm] := if_neg hno
            rw [ef1] at stp
            refine ⟨s3, hL3, F, hF, nLF, ⟨_, _, rfl⟩, ?_⟩
            rw [hF3, stp, if_neg Bool.false_ne_true, List.append_nil]
            simp [nmsV]
        · obtain ⟨s2, _, F, x, y, hF, _, e, hF2⟩ := h
          rw [List.take_of_length_le (by rw [nms_len]; exact Nat.le_refl _)] at hF2
          exact ⟨s2, F, x, y, hF, e, hF2⟩
      rintro σ H1 ⟨s1, F, x, y, hF, rfl, hF1⟩
      walk_at "rd"
      exact q F H1 s1 hF hF1
def spPathsOf (K : PySem.W.Frag) : Sp := fun vs H Q _ => ∃ E al, vs = [.ref (al [])] ∧ TreeE E al H ∧ E.length ≤ 1000 ∧ (∀ p, (kidN E p).length ≤ 60) ∧ ∀ F H', Same H H' → H F = none → H' F = some (.lst (nmsV (srtW (pathsE E 10 [] [])))) → Q (.ref F) H'
theorem ok_paths_of (T : Txt K mg) : OkD P w K mg base 13 (fA K "paths_of") ["tree"] [] (spPathsOf K) := by
  refine okD T.F_paths_of sc_paths_of (fun _ _ _ _ _ _ us hl => match us, hl with | [_], _ => rfl) ?_ ?_
  · rintro vs H Q E ⟨E, al, rfl, _⟩
    rfl
  · rintro cdv A outer s H vs Q X hr ⟨E, al, rfl, ht, hl, hk, q⟩
    refine ⟨_, (pss_one (ps_ret (pe_callB (o_sortedA (K := K)) (by rfl) T.fr_sorted (by decide +kernel) (pa_cons (pe_cal (ok_paths_within T 10) (hr.mono (by omega)) rfl T.g_paths_within (pasE (takes_of rfl rfl rfl rfl) (fun _ _ _ _ h => h)) (pa_cons (pv 0) (pa_cons pe_str pa_nil))) pa_nil)))), ?_⟩
    have tobj := T.obj
    walk_at "rd"
    refine ⟨E, al, [], [], rfl, ht, .inl rfl, rfl, hl, hk, Nat.zero_le _, fun F H' s hF hF' => ?_⟩
    exact ⟨_, .inl (.inl hF'), fun p hp => q p _ (s.trans (same_new hp)) (same_none s hp) upd_same⟩

/-! ### a tree that grows -/
theorem kids_congr {E : List (Names × Bool)} {al al' : Names → Addr} {q : Names} (h : ∀ e ∈ E, e.2 = true → al e.1 = al' e.1) : kids E al q = kids E al' q := by
  unfold kids
  refine List.map_congr_left fun e he => ?_
  have hm := (List.mem_filter.mp he).1
  unfold kidE
  cases hb : e.2 with
  | false => rfl
  | true => rw [h e hm hb]
theorem kids_snoc {E : List (Names × Bool)} {e : Names × Bool} {al : Names → Addr} {q : Names} : kids (E ++ [e]) al q = kids E al q ++ (if e.1.dropLast = q then [kidE al e] else []) := by
  unfold kids
  rw [List.filter_append, List.map_append]
  congr 1
  unfold inF
  by_cases h : e.1.dropLast = q <;> simp [h]
theorem kidN_snoc {E : List (Names × Bool)} {e : Names × Bool} {q : Names} : kidN (E ++ [e]) q = kidN E q ++ (if e.1.dropLast = q then [e.1.getLastD []] else []) := by
  unfold kidN
  rw [List.filter_append, List.map_append]
  congr 1
  unfold inF
  by_cases h : e.1.dropLast = q <;> simp [h]
theorem Fold.more {E E' : List (Names × Bool)} {p : Names} (h : Fold E p) (s : ∀ e ∈ E, e ∈ E') : Fold E' p := h.imp id (s _)
theorem ok_snoc {E : List (Names × Bool)} (ok : EOk E) {p : Names} {nm : List Nat} {fo : Bool} (hp : Fold E p) (hno : ∀ fo, (p ++ [nm], fo) ∉ E) (okp : ∀ x ∈ p, NmOk x) (okn : NmOk nm) (hl : p.length < 9) : EOk (E ++ [(p ++ [nm], fo)]) := by
  have hm : ∀ e ∈ E ++ [(p ++ [nm], fo)], e ∈ E ∨ e = (p ++ [nm], fo) := fun e he => (List.mem_append.mp he).imp id List.mem_singleton.mp
  refine ⟨?_, fun e he => ?_, fun e he => ?_, fun e he => ?_, fun e he => ?_⟩
  · rw [List.map_append]
    refine nd_snoc ok.nd fun h => ?_
    obtain ⟨e, he, e1⟩ := List.mem_map.mp h
    exact hno e.2 (by rw [← show e.1 = p ++ [nm] from e1]; exact he)
  · rcases hm e he with h | rfl
    · exact ok.ne e h
    · simp
  · rcases hm e he with h | rfl
    · exact (ok.up e h).imp id fun h => List.mem_append_left _ h
    · rw [show (p ++ [nm], fo).1.dropLast = p from List.dropLast_concat]
      exact hp.imp id fun h => List.mem_append_left _ h
  · rcases hm e he with h | rfl
    · exact ok.nm e h
    · intro x hx
      exact (List.mem_append.mp hx).elim (okp x) fun h => by rw [List.mem_singleton.mp h]; exact okn
  · rcases hm e he with h | rfl
    · exact ok.deep e h
    · show (p ++ [nm]).length ≤ 9
      rw [List.length_append, List.length_singleton]
      exact hl
theorem fold_snoc {E : List (Names × Bool)} {e : Names × Bool} {q : Names} (h : Fold (E ++ [e]) q) : Fold E q ∨ (q = e.1 ∧ e.2 = true) := by
  rcases h with rfl | h
  · exact .inl (.inl rfl)
  · rcases List.mem_append.mp h with h | h
    · exact .inl (.inr h)
    · have := List.mem_singleton.mp h
      exact .inr ⟨by rw [← this], by rw [← this]⟩
theorem tree_leaf {E : List (Names × Bool)} {al : Names → Addr} {H : Hp} {p : Names} {nm : List Nat} (t : TreeE E al H) (hp : Fold E p) (hno : ∀ fo, (p ++ [nm], fo) ∉ E) (okp : ∀ x ∈ p, NmOk x) (okn : NmOk nm) (hl : p.length < 9) :
    TreeE (E ++ [(p ++ [nm], false)]) al (upd H (al p) (.dK (putK (kids E al p) (.inr (S nm)) .non))) := by
  have fo : ∀ q, Fold (E ++ [(p ++ [nm], false)]) q → Fold E q := fun q h => (fold_snoc h).elim id fun h => nomatch h.2
  refine ⟨ok_snoc t.ok hp hno okp okn hl, fun q hq => ?_, fun a b ha hb => t.inj a b (fo a ha) (fo b hb)⟩
  have hq' := fo q hq
  by_cases e : q = p
  · subst e
    rw [upd_same, putK_new _ (kid_no t.ok hno), kids_snoc, if_pos (by simp)]
    unfold kidE
    rw [last_app]
    rfl
  · rw [upd_ne fun z => e (t.inj q p hq' hp z), t.at_ q hq', kids_snoc, if_neg (by simpa using fun z => e z.symm), List.append_nil]
def upA (al : Names → Addr) (p : Names) (D : Addr) : Names → Addr := fun q => if q = p then D else al q
theorem tree_dir {E : List (Names × Bool)} {al : Names → Addr} {H : Hp} {p : Names} {nm : List Nat} {D : Addr} (t : TreeE E al H) (hp : Fold E p) (hno : ∀ fo, (p ++ [nm], fo) ∉ E) (okp : ∀ x ∈ p, NmOk x) (okn : NmOk nm) (hl : p.length < 9) (hD : H D = none) :
    TreeE (E ++ [(p ++ [nm], true)]) (upA al (p ++ [nm]) D) (upd (upd H D (.dK [])) (al p) (.dK (putK (kids E al p) (.inr (S nm)) (.ref D)))) := by
  have nF : ∀ q, Fold E q → q ≠ p ++ [nm] := fun q h e => by
    subst e
    rcases h with h | h
    · simp at h
    · exact hno _ h
  have aD : ∀ q, Fold E q → al q ≠ D := fun q h e => by
    have := t.at_ q h
    rw [e, hD] at this
    cases this
  have old : ∀ q, Fold E q → upA al (p ++ [nm]) D q = al q := fun q h => if_neg (nF q h)
  have new : upA al (p ++ [nm]) D (p ++ [nm]) = D := if_pos rfl
  have cg : ∀ q, kids E (upA al (p ++ [nm]) D) q = kids E al q := fun q => kids_congr fun e he hb => old e.1 (.inr (by rw [← hb]; exact he))
  refine ⟨ok_snoc t.ok hp hno okp okn hl, fun q hq => ?_, fun a b ha hb e => ?_⟩
  · rcases fold_snoc hq with h | ⟨h, _⟩
    · rw [old q h, kids_snoc, cg]
      by_cases e : q = p
      · subst e
        rw [upd_same, putK_new _ (kid_no t.ok hno), if_pos (by simp)]
        unfold kidE
        rw [last_app]
        show _ = some (HO.dK (kids E al q ++ [(Sum.inr (S nm), if true = true then V.ref (upA al (q ++ [nm]) D (q ++ [nm])) else V.non)]))
        rw [new, if_pos rfl]
      · rw [upd_ne fun z => e (t.inj q p h hp z), upd_ne (aD q h), t.at_ q h, if_neg (by simpa using fun z => e z.symm), List.append_nil]
    · have h' : q = p ++ [nm] := h
      subst h'
      rw [new, upd_ne (fun e => aD p hp e.symm), upd_same, kids_snoc, cg, if_neg (by
        rw [show (p ++ [nm], true).1.dropLast = p from List.dropLast_concat]
        exact fun e => by have := congrArg List.length e; simp at this), List.append_nil]
      have : kids E al (p ++ [nm]) = [] := by
        unfold kids
        rw [List.map_eq_nil_iff, List.filter_eq_nil_iff]
        intro e he hb
        have e1 := of_decide_eq_true hb
        rcases t.ok.up e he with h | h
        · rw [e1] at h; simp at h
        · rw [e1] at h; exact hno _ h
      rw [this]
  · rcases fold_snoc ha with h | ⟨h, _⟩
    · rcases fold_snoc hb with g | ⟨g, _⟩
      · rw [old a h, old b g] at e
        exact t.inj a b h g e
      · have g' : b = p ++ [nm] := g
        rw [old a h, g', new] at e
        exact absurd e (aD a h)
    · have h' : a = p ++ [nm] := h
      rcases fold_snoc hb with g | ⟨g, _⟩
      · rw [old b g, h', new] at e
        exact absurd e.symm (aD b g)
      · exact h.trans g.symm
/-- what stands ahead of an entry is a folder -/
theorem up_all {E : List (Names × Bool)} (ok : EOk E) : ∀ (t p : Names) {b : Bool}, p ≠ [] → t ≠ [] → (p ++ t, b) ∈ E → (p, true) ∈ E := by
  intro t
  induction h : t.length using Nat.strongRecOn generalizing t with
  | _ n ih =>
    intro p b hp ht he
    have e := drop_last ht
    have hu := ok.up _ he
    rw [show (p ++ t, b).1.dropLast = p ++ t.dropLast from by rw [e, ← List.append_assoc]; simp] at hu
    rcases hu with hu | hu
    · simp at hu
      exact absurd hu.1 hp
    · by_cases h0 : t.dropLast = []
      · rw [h0, List.append_nil] at hu
        exact hu
      · refine ih t.dropLast.length (by rw [List.length_dropLast]; have := List.length_pos_iff.mpr ht; omega) _ rfl p hp h0 hu
theorem up_take {E : List (Names × Bool)} (ok : EOk E) {q : Names} {b : Bool} {i : Nat} (h : (q, b) ∈ E) (h0 : 0 < i) (hi : i < q.length) : (q.take i, true) ∈ E := by
  refine up_all ok (q.drop i) (q.take i) (b := b) (fun e => ?_) (fun e => ?_) (by rw [List.take_append_drop]; exact h)
  · have := congrArg List.length e
    rw [List.length_take, List.length_nil] at this
    omega
  · have := congrArg List.length e
    rw [List.length_drop, List.length_nil] at this
    omega
/-- a path may come -/
def OkPut (E : List (Names × Bool)) (nms : Names) (fo : Bool) : Prop := (∀ i, 0 < i → i < nms.length → (nms.take i, false) ∉ E) ∧ (nms, !fo) ∉ E
structure Grow (E E' : List (Names × Bool)) (nms : Names) (k : Nat) : Prop where
  sub : ∀ e ∈ E, e ∈ E'
  new : ∀ e ∈ E', e ∈ E ∨ ∃ i, 0 < i ∧ i ≤ k ∧ e.1 = nms.take i ∧ (i < nms.length → e.2 = true)
  len : E'.length ≤ E.length + k
  kid : ∀ p, (kidN E' p).length ≤ (kidN E p).length + if p.length < k then 1 else 0
def NewT (H0 : Hp) (E : List (Names × Bool)) (al : Names → Addr) : Prop := ∀ p, Fold E p → H0 (al p) = none
theorem Grow.refl {E : List (Names × Bool)} {nms : Names} : Grow E E nms 0 := ⟨fun _ h => h, fun _ h => .inl h, Nat.le_refl _, fun p => Nat.le_add_right _ _⟩
theorem Grow.same {E E' : List (Names × Bool)} {nms : Names} {k : Nat} (g : Grow E E' nms k) : Grow E E' nms (k + 1) :=
  ⟨g.sub, fun e he => (g.new e he).imp id fun ⟨i, a, b, c⟩ => ⟨i, a, by omega, c⟩, by have := g.len; omega, fun p => by have := g.kid p; split at this <;> split <;> omega⟩
theorem Grow.snoc {E E' : List (Names × Bool)} {nms : Names} {k : Nat} {nm : List Nat} {fo : Bool} (g : Grow E E' nms k) (hk : nms[k]? = some nm) (hf : k + 1 < nms.length → fo = true) : Grow E (E' ++ [(nms.take k ++ [nm], fo)]) nms (k + 1) := by
  have tk : nms.take (k + 1) = nms.take k ++ [nm] := by rw [List.take_succ, hk]; rfl
  have hl : k < nms.length := (List.getElem?_eq_some_iff.mp hk).1
  refine ⟨fun e he => List.mem_append_left _ (g.sub e he), fun e he => ?_, by rw [List.length_append, List.length_singleton]; have := g.len; omega, fun p => ?_⟩
  · rcases List.mem_append.mp he with h | h
    · exact (g.new e h).imp id fun ⟨i, a, b, c⟩ => ⟨i, a, by omega, c⟩
    · rw [List.mem_singleton.mp h]
      exact .inr ⟨k + 1, by omega, Nat.le_refl _, tk.symm, hf⟩
  · have h := g.kid p
    rw [kidN_snoc, List.length_append]
    by_cases e : nms.take k = p
    · rw [if_pos (by simpa using e)]
      have lp : p.length = k := by rw [← e, List.length_take]; omega
      rw [if_neg (by omega)] at h
      rw [if_pos (by omega)]
      simp only [List.length_singleton]
      omega
    · rw [if_neg (by simpa using e)]
      split at h <;> split <;> simp only [List.length_nil] <;> omega
def spFree (K : PySem.W.Frag) : Sp := fun vs H Q _ => ∃ E al n fo nms, vs = [.ref (al []), .ref n, .bl fo] ∧ TreeE E al H ∧ SqL K H n (nmsV nms) ∧ nms ≠ [] ∧ nms.length ≤ 9 ∧ (∀ x ∈ nms, NmOk x) ∧ ∀ b H', Same H H' → (b = true → OkPut E nms fo) → Q (.bl b) H'
theorem ok__law_free (T : Txt K mg) : OkD P w K mg base 1 (fA K "_law_free") ["_law_root", "_law_names_here", "_law_folder"] [] (spFree K) := by
  refine okD T.F__law_free sc__law_free (fun _ _ _ _ _ _ us hl => match us, hl with | [_, _, _], _ => rfl) ?_ ?_
  · rintro vs H Q E ⟨E, al, n, fo, nms, rfl, _⟩
    rfl
  · rintro cdv A outer s H vs Q X hr ⟨E, al, n, fo, nms, rfl, ht, hn, hne, hl, hnm, q⟩
    refine ⟨_, (pss_cons (ps_set (i := 3) sc__law_free.nd rfl (Or.inl rfl) (pe_mid (pv 0)))
  (pss_cons (ps_mid (ps_for (passes_of rfl) rfl (pi_mid (o_enum (K := K) rfl T.fr_enumerate (pv 1))) (pg_tup rfl (pgs_cons (pg_name (i := 4) sc__law_free.nd rfl (Or.inl rfl)) (pgs_cons (pg_name (i := 5) sc__law_free.nd rfl (Or.inl rfl)) pgs_nil))) (pss_cons (ps_set (i := 6) sc__law_free.nd rfl (Or.inl rfl) (pe_mid (pe_cmpR (o_eq (K := K) (hu64 hr)) (pe_op (o_add (K := K)) (pv 4) pe_int) (pe_callB (o_lenW (K := K) (w := w)) (by rfl) T.fr_len boot_len (pa_cons (pv 1) pa_nil)) (nomark _))))
  (pss_cons (ps_if (pt_mid (pt_cmp (pc_dnotin (hu_of hr) (pv 5) (pv 3)) rfl)) (pss_one (ps_ret pe_bl)) pss_nil)
  (pss_cons (ps_if (pt_mid (PW.pt (pw_or (pt_tru (K := K) (pv 6) (by intro _; rfl)) (pw_or1 (pt_cmp (pc_isN (pe_dget (hu_of hr) (pv 3) (pv 5) (fun _ _ => rfl))) rfl))))) (pss_one (ps_ret (pe_andK (K := K) (pv 6) (pe_one (pe_cmpR (o_ne (K := K) (hu64 hr)) (pe_cmp (pc_isN (pe_dget (hu_of hr) (pv 3) (pv 5) (fun _ _ => rfl))) rfl) (pv 2) (nomark _)))))) pss_nil)
  (pss_one (ps_set (i := 3) sc__law_free.nd rfl (Or.inl rfl) (pe_mid (pe_dget (hu_of hr) (pv 3) (pv 5) (fun _ _ => rfl))))))))))
  (pss_one (ps_ret pe_bl)))), ?_⟩
    have tobj := T.obj
    have ok := ht.ok
    refine q_midG (fun v H' => v = .ref (al []) ∧ H' = H) (by walk_at "rd") ?_
    rintro _ _ ⟨rfl, rfl⟩
    rename_i H
    refine q_stm (fun σ H' => False) ?_ (fun _ _ h => h.elim)
    refine for_pair (J0 := Ite K n) (H0 := H) ?_ (walk_enum (K := K) (a := n) (xs := nmsV nms)) (fun k σ H' => Same H H' ∧ k < nms.length ∧ Fold E (nms.take k) ∧ ∃ x4 x5 x6, σ = [some (.ref (al [])), some (.ref n), some (.bl fo), some (.ref (al (nms.take k))), x4, x5, x6])
      ⟨Same.refl _, List.length_pos_iff.mpr hne, .inl rfl, _, _, _, rfl⟩ (fun _ _ _ _ h => same_l h.1 hn) ?_ (fun σ H' h => ?_)
    · walk_at "rd"
      exact ⟨_, hn⟩
    · rintro k x y σ H1 H2 hk ⟨s1, hkl, hf, x4, x5, x6, rfl⟩ s2 hx hy
      obtain rfl : x = .int (k : Nat) := (Option.some.inj hx).symm
      obtain ⟨nm, hnm1, rfl⟩ := nms_at hy
      have tk : nms.take (k + 1) = nms.take k ++ [nm] := by rw [List.take_succ, hnm1]; rfl
      have s12 := s1.trans s2
      have hd := s12 _ _ (ht.at_ _ hf)
      have ahead : ∀ i, 0 < i → i ≤ k → (nms.take i, true) ∈ E := fun i h0 hi => by
        rcases hf with h | h
        · have := congrArg List.length h
          rw [List.length_take, List.length_nil] at this
          omega
        · rcases Nat.lt_or_ge i k with h1 | h1
          · have := up_take ok h h0 (by rw [List.length_take]; omega)
            rwa [List.take_take, Nat.min_eq_left (by omega)] at this
          · rw [show i = k from by omega]; exact h
      refine q_midG (fun v H' => Same H2 H' ∧ v = .bl (decide (k + 1 = nms.length))) ?_ ?_
      · walk_at "rd"
        refine .inr ⟨_, .inl ⟨_, same_l s12 hn, rfl⟩, ?_⟩
        rw [nms_len]
        exact decide_eq_decide.mpr ⟨fun h => by omega, fun h => by omega⟩
      rintro _ H3 ⟨s3, rfl⟩
      have hd3 := s3 _ _ hd
      refine q_if (fun b H' => H' = H3 ∧ (b = true → ∀ fo, (nms.take k ++ [nm], fo) ∉ E) ∧ (b = false → ∃ fo, (nms.take k ++ [nm], fo) ∈ E)) ?_ (fun H4 h => ?_) fun H4 h => q_next ?_
      · walk_at "rd"
        by_cases he : ∃ fo, (nms.take k ++ [nm], fo) ∈ E
        · obtain ⟨fo', he⟩ := he
          exact ⟨_, dget_s hd3 (kid_val ok he), (fun z => nomatch z), fun _ => ⟨fo', he⟩⟩
        · have hno : ∀ fo, (nms.take k ++ [nm], fo) ∉ E := fun fo h => he ⟨fo, h⟩
          have g := DGet.k (k := .inr (S nm)) hd3
          rw [kid_no ok hno] at g
          exact ⟨_, g, fun _ => hno, fun z => nomatch z⟩
      · obtain ⟨rfl, hb, _⟩ := h
        have hno := hb rfl
        walk_at "rd"
        refine q _ _ (s12.trans s3) fun _ => ⟨fun i h0 hi he => ?_, fun he => ?_⟩
        · rcases Nat.lt_or_ge k i with h | h
          · rcases Nat.eq_or_lt_of_le h with e | h2
            · rw [← e, tk] at he
              exact hno _ he
            · have := up_take ok he (i := k + 1) (by omega) (by rw [List.length_take]; omega)
              rw [List.take_take, Nat.min_eq_left (by omega), tk] at this
              exact hno _ this
          · have := e_uniq ok he (ahead i h0 h)
            cases this
        · rcases Nat.eq_or_lt_of_le hkl with e | h2
          · rw [← List.take_of_length_le (l := nms) (i := k + 1) (by omega), tk] at he
            exact hno _ he
          · have := up_take ok he (i := k + 1) (by omega) h2
            rw [tk] at this
            exact hno _ this
      obtain ⟨rfl, _, hb⟩ := h
      obtain ⟨fo', he⟩ := hb rfl
      have hv := kid_val ok (al := al) he
      refine q_if (fun b H' => H' = H4 ∧ b = (decide (k + 1 = nms.length) || !fo')) ?_ (fun H5 h => ?_) fun H5 h => q_next ?_
      · walk_at "rd"
        split
        · rename_i e
          rw [decide_eq_true e]
          rfl
        · rename_i e
          rw [decide_eq_false e]
          refine ⟨_, dget_s hd3 hv, ?_⟩
          cases fo' <;> rfl
      · obtain ⟨rfl, hb⟩ := h
        walk_at "rd"
        split
        · rename_i e
          have en : nms = nms.take k ++ [nm] := by rw [← tk, List.take_of_length_le (by omega)]
          refine ⟨_, dget_s hd3 hv, q _ _ (s12.trans s3) fun h => ⟨fun i h0 hi he' => ?_, fun he' => ?_⟩⟩
          · have := e_uniq ok he' (ahead i h0 (by omega))
            cases this
          · rw [en] at he'
            have := e_uniq ok he he'
            subst this
            cases fo <;> simp at h
        · rename_i e
          rw [decide_eq_false e]
          exact q _ _ (s12.trans s3) fun h => nomatch h
      obtain ⟨rfl, hb⟩ := h
      have hfo : fo' = true := by cases fo' with | true => rfl | false => simp at hb
      have hlt : k + 1 < nms.length := by
        have : ¬ k + 1 = nms.length := fun e => by rw [decide_eq_true e] at hb; simp at hb
        omega
      subst hfo
      refine l_midG (fun v H' => H' = H5 ∧ v = .ref (al (nms.take k ++ [nm]))) ?_ ?_
      · walk_at "rd"
        exact ⟨_, dget_s hd3 hv, rfl⟩
      rintro _ _ ⟨rfl, rfl⟩
      rw [tk]
      exact ⟨s12.trans s3, hlt, .inr he, _, _, _, rfl⟩
    · exact absurd h.2.1 (by rw [nms_len]; exact Nat.lt_irrefl _)
def spPut (K : PySem.W.Frag) : Sp := fun vs H Q _ => ∃ H0 E al n fo nms, vs = [.ref (al []), .ref n, .bl fo] ∧ Same H0 H ∧ NewT H0 E al ∧ TreeE E al H ∧ H n = some (.lst (nmsV nms)) ∧ nms ≠ [] ∧ nms.length ≤ 9 ∧ (∀ x ∈ nms, NmOk x) ∧ OkPut E nms fo ∧ (∀ p, (kidN E p).length ≤ 1000) ∧
  ∀ E' al' H', Same H0 H' → NewT H0 E' al' → TreeE E' al' H' → al' [] = al [] → Grow E E' nms nms.length → (nms, fo) ∈ E' → Q .non H'
theorem NewT.leaf {H0 : Hp} {E : List (Names × Bool)} {al : Names → Addr} {q : Names} (h : NewT H0 E al) : NewT H0 (E ++ [(q, false)]) al := fun p hp => (fold_snoc hp).elim (h p) fun z => nomatch z.2
theorem NewT.dir {H0 : Hp} {E : List (Names × Bool)} {al : Names → Addr} {q : Names} {D : Addr} (h : NewT H0 E al) (hD : H0 D = none) : NewT H0 (E ++ [(q, true)]) (upA al q D) := fun p hp => by
  unfold upA
  split
  · exact hD
  · rename_i e
    exact (fold_snoc hp).elim (h p) fun z => absurd z.1 e
theorem ok__law_put_in (T : Txt K mg) : OkD P w K mg base 1 (fA K "_law_put_in") ["_law_root", "_law_names_here", "_law_folder"] [] (spPut K) := by
  refine okD T.F__law_put_in sc__law_put_in (fun _ _ _ _ _ _ us hl => match us, hl with | [_, _, _], _ => rfl) ?_ ?_
  · rintro vs H Q E ⟨H0, E, al, n, fo, nms, rfl, _⟩
    rfl
  · rintro cdv A outer s H vs Q X hr ⟨H0, E, al, n, fo, nms, rfl, s0, hnew, ht, hn, hne, hl, hnm, hput, hkid, q⟩
    refine ⟨_, (pss_cons (ps_set (i := 3) sc__law_put_in.nd rfl (Or.inl rfl) (pe_mid (pv 0)))
  (pss_cons (ps_mid (ps_for (passes_of rfl) rfl (pi_mid (o_it (K := K) rfl (pe_slice (o_sl (K := K)) (pv 1) po_none (po_some (pe_un un_neg pe_int))))) (pg_name (i := 4) sc__law_put_in.nd rfl (Or.inl rfl)) (pss_cons (ps_mid (ps_if (pt_mid (pt_cmp (pc_dnotin (hu_of hr) (pv 4) (pv 3)) rfl)) (pss_one (ps_dput (hu_of hr) (pv 3) (pv 4) pe_dnewK rfl)) pss_nil))
  (pss_one (ps_set (i := 3) sc__law_put_in.nd rfl (Or.inl rfl) (pe_mid (pe_dget (hu_of hr) (pv 3) (pv 4) (fun _ _ => rfl))))))))
  (pss_one (ps_if (pt_mid (pt_cmp (pc_dnotin (hu_of hr) (pe_ix (o_ix (K := K)) (pv 1) (pe_un un_neg pe_int) (fun _ _ => rfl)) (pv 3)) rfl)) (pss_one (ps_dput (hu_of hr) (pv 3) (pe_ix (o_ix (K := K)) (pv 1) (pe_un un_neg pe_int) (fun _ _ => rfl)) (pe_ifExp (pt_tru (K := K) (pv 2) (by intro _; rfl)) pe_dnewK pe_non) rfl)) pss_nil)))), ?_⟩
    have tobj := T.obj
    have hlen := List.length_pos_iff.mpr hne
    refine q_midG (fun v H' => v = .ref (al []) ∧ H' = H) (by walk_at "rd") ?_
    rintro _ _ ⟨rfl, rfl⟩
    rename_i H
    refine q_stm (fun σ H' => Same H0 H' ∧ H' n = some (.lst (nmsV nms)) ∧ ∃ E' al' x4, σ = [some (.ref (al [])), some (.ref n), some (.bl fo), some (.ref (al' (nms.take (nms.length - 1)))), x4] ∧ NewT H0 E' al' ∧ TreeE E' al' H' ∧ al' [] = al [] ∧ Fold E' (nms.take (nms.length - 1)) ∧ Grow E E' nms (nms.length - 1)) ?_ ?_
    · refine for_open (fun J H1 => ∃ L, J = Itl K L ∧ H L = none ∧ H1 = upd H L (.lst (nmsV (nms.take (nms.length - 1))))) ?_ ?_
      · walk_at "rd"
        refine .inl ⟨_, .inl (.inl hn), fun L hL => .inl ⟨⟨_, .inl (.inl upd_same)⟩, L, rfl, hL, ?_⟩⟩
        have e : cutV (nmsV nms) none (some (-1)) = nmsV (nms.take (nms.length - 1)) := by
          unfold cutV
          have e : HT.sIx (nmsV nms).length (nmsV nms).length (some (-1)) = nms.length - 1 := by
            rw [nms_len]
            unfold HT.sIx
            simp
            omega
          rw [HT.sIx_none, e, List.drop_zero, Nat.sub_zero, nms_take]
        rw [e]
      rintro _ _ ⟨L, rfl, hLn, rfl⟩
      have nL : L ≠ n := fun e => by rw [e, hn] at hLn; cases hLn
      have sL : Same H (upd H L (.lst (nmsV (nms.take (nms.length - 1))))) := same_new hLn
      refine for_mid (J0 := Itl K L) (H0 := upd H L (.lst (nmsV (nms.take (nms.length - 1))))) ⟨rfl, rfl⟩ (walk_list (K := K) (a := L) (xs := nmsV (nms.take (nms.length - 1)))) (fun k σ H' => Same H0 H' ∧ H' n = some (.lst (nmsV nms)) ∧ H' L = some (.lst (nmsV (nms.take (nms.length - 1)))) ∧ ∃ E' al' x4, σ = [some (.ref (al [])), some (.ref n), some (.bl fo), some (.ref (al' (nms.take k))), x4] ∧ NewT H0 E' al' ∧ TreeE E' al' H' ∧ al' [] = al [] ∧ Fold E' (nms.take k) ∧ Grow E E' nms k)
        ⟨s0.trans sL, sL _ _ hn, upd_same, E, al, _, rfl, hnew, ht.mono sL, rfl, .inl rfl, .refl⟩ (fun _ _ _ _ h => .inl (.inl h.2.2.1)) ?_ (fun σ H' h => ?_)
      · rintro k x σ H1 H1' hk ⟨s1, hn1, hL1, E', al', x4, rfl, new1, t1, e1, f1, g1⟩ ⟨rfl, hx⟩
        obtain ⟨nm, hnm0, rfl⟩ := nms_at hx
        have hk1 : k + 1 < nms.length := by
          rw [nms_len, List.length_take] at hk
          omega
        have hnm1 : nms[k]? = some nm := by rwa [List.getElem?_take_of_lt (by omega)] at hnm0
        have tk : nms.take (k + 1) = nms.take k ++ [nm] := by rw [List.take_succ, hnm1]; rfl
        have okp : ∀ x ∈ nms.take k, NmOk x := fun x h => hnm x (List.mem_of_mem_take h)
        have okn : NmOk nm := hnm nm (List.mem_of_getElem? hnm1)
        have hd := t1.at_ _ f1
        have ok := t1.ok
        have lk : (nms.take k).length < 9 := by rw [List.length_take]; omega
        have kl : (kids E' al' (nms.take k)).length ≤ 1001 := by
          have h1 := congrArg List.length (kids_keys (E := E') (al := al') (p := nms.take k))
          rw [List.length_map, List.length_map] at h1
          have h2 := g1.kid (nms.take k)
          have h3 := hkid (nms.take k)
          split at h2 <;> omega
        refine q_stm (fun σ H' => Same H0 H' ∧ H' n = some (.lst (nmsV nms)) ∧ H' L = some (.lst (nmsV (nms.take (nms.length - 1)))) ∧ ∃ E' al', σ = [some (.ref (al [])), some (.ref n), some (.bl fo), some (.ref (al' (nms.take k))), some (.str (S nm))] ∧ NewT H0 E' al' ∧ TreeE E' al' H' ∧ al' [] = al [] ∧ Fold E' (nms.take k) ∧ (nms.take k ++ [nm], true) ∈ E' ∧ Grow E E' nms (k + 1)) ?_ ?_
        · refine l_if (fun b H' => H' = H1' ∧ (b = true → ∀ fo, (nms.take k ++ [nm], fo) ∉ E') ∧ (b = false → ∃ fo, (nms.take k ++ [nm], fo) ∈ E')) ?_ (fun H2 h => ?_) fun H2 h => ?_
          · walk_at "rd"
            by_cases he : ∃ fo, (nms.take k ++ [nm], fo) ∈ E'
            · obtain ⟨fo', he⟩ := he
              exact ⟨_, dget_s hd (kid_val ok he), (fun z => nomatch z), fun _ => ⟨fo', he⟩⟩
            · have hno : ∀ fo, (nms.take k ++ [nm], fo) ∉ E' := fun fo h => he ⟨fo, h⟩
              have g := DGet.k (k := .inr (S nm)) hd
              rw [kid_no ok hno] at g
              exact ⟨_, g, fun _ => hno, fun z => nomatch z⟩
          · obtain ⟨rfl, hb, _⟩ := h
            have hno := hb rfl
            walk_at "rd"
            intro D hD
            have hD0 := same_none s1 hD
            have h2 : upd H2 D (.dK []) (al' (nms.take k)) = some (.dK (kids E' al' (nms.take k))) := by
              rw [upd_ne fun e => by rw [e, hD] at hd; cases hd]
              exact hd
            have nn : ∀ {a : Addr} {l : List V}, H2 a = some (.lst l) → upd (upd H2 D (.dK [])) (al' (nms.take k)) (.dK (putK (kids E' al' (nms.take k)) (.inr (S nm)) (.ref D))) a = some (.lst l) := fun {a l} h => by
              rw [upd_ne (fun e => by rw [e, hd] at h; cases h), upd_ne (fun e => by rw [e, hD] at h; cases h)]
              exact h
            have old : upA al' (nms.take k ++ [nm]) D (nms.take k) = al' (nms.take k) := if_neg fun e => by have := congrArg List.length e; simp at this
            refine ⟨_, dput_s h2 (by omega), same_mut (same_mut s1 hD0) (new1 _ f1), nn hn1, nn hL1, _, upA al' (nms.take k ++ [nm]) D, old.symm, new1.dir hD0, tree_dir t1 f1 hno okp okn lk hD, ?_, f1.more fun e he => List.mem_append_left _ he, by simp, g1.snoc hnm1 fun _ => rfl⟩
            rw [← e1]
            exact if_neg fun e => by simp at e
          · obtain ⟨rfl, _, hb⟩ := h
            obtain ⟨fo', he⟩ := hb rfl
            have hfo : fo' = true := by
              rcases g1.new _ he with h | ⟨i, _, hi, e, _⟩
              · cases fo' with
                | true => rfl
                | false => rw [← tk] at h; exact absurd h (hput.1 (k + 1) (by omega) hk1)
              · have := congrArg List.length e
                rw [List.length_append, List.length_take, List.length_take, List.length_singleton] at this
                omega
            subst hfo
            exact ⟨s1, hn1, hL1, E', al', rfl, new1, t1, e1, f1, he, g1.same⟩
        rintro σ H2 ⟨s2, hn2, hL2, E2, al2, rfl, new2, t2, e2, f2, he2, g2⟩
        refine l_midG (fun v H' => H' = H2 ∧ v = .ref (al2 (nms.take k ++ [nm]))) ?_ ?_
        · walk_at "rd"
          exact ⟨_, dget_s (t2.at_ _ f2) (kid_val t2.ok he2), rfl⟩
        rintro _ _ ⟨rfl, rfl⟩
        rw [tk]
        exact ⟨s2, hn2, hL2, E2, al2, _, rfl, new2, t2, e2, .inr he2, g2⟩
      · obtain ⟨s1, hn1, hL1, E', al', x4, rfl, new1, t1, e1, f1, g1⟩ := h
        rw [nms_len, List.length_take, Nat.min_eq_left (Nat.sub_le _ _)] at f1 g1
        rw [nms_len, List.length_take, Nat.min_eq_left (Nat.sub_le _ _)]
        exact ⟨s1, hn1, E', al', x4, rfl, new1, t1, e1, f1, g1⟩
    rintro σ H1 ⟨s1, hn1, E', al', x4, rfl, new1, t1, e1, f1, g1⟩
    have el : nms = nms.take (nms.length - 1) ++ [nms.getLastD []] := by
      conv => lhs; rw [drop_last hne]
      rw [List.dropLast_eq_take]
    generalize hlst : nms.getLastD [] = nm at el
    have hlast : nms[nms.length - 1]? = some nm := by
      rw [← List.getLast?_eq_getElem?, congrArg List.getLast? el]
      simp
    have hat : atI (nmsV nms) (-1) = some (V.str (S nm)) := atI_last (by
      unfold nmsV
      rw [List.getLast?_map, List.getLast?_map, List.getLast?_eq_getElem?, hlast]
      rfl)
    have okp : ∀ x ∈ nms.take (nms.length - 1), NmOk x := fun x h => hnm x (List.mem_of_mem_take h)
    have okn : NmOk nm := hnm nm (List.mem_of_getElem? hlast)
    have hd := t1.at_ _ f1
    have ok := t1.ok
    have lk : (nms.take (nms.length - 1)).length < 9 := by rw [List.length_take]; omega
    have kl : (kids E' al' (nms.take (nms.length - 1))).length ≤ 1001 := by
      have h1 := congrArg List.length (kids_keys (E := E') (al := al') (p := nms.take (nms.length - 1)))
      rw [List.length_map, List.length_map] at h1
      have h2 := g1.kid (nms.take (nms.length - 1))
      have h3 := hkid (nms.take (nms.length - 1))
      split at h2 <;> omega
    have tk : nms.take (nms.length - 1) ++ [nm] = nms := el.symm
    have g2 : ∀ fo', Grow E (E' ++ [(nms.take (nms.length - 1) ++ [nm], fo')]) nms nms.length := fun fo' => by
      have := g1.snoc (fo := fo') hlast (by omega)
      rwa [Nat.sub_add_cancel hlen] at this
    refine l_if (fun b H' => H' = H1 ∧ (b = true → ∀ fo, (nms.take (nms.length - 1) ++ [nm], fo) ∉ E') ∧ (b = false → ∃ fo, (nms.take (nms.length - 1) ++ [nm], fo) ∈ E')) ?_ (fun H2 h => ?_) fun H2 h => ?_
    · walk_at "rd"
      refine ⟨_, .inl (.inl (.inl hn1)), _, hat, ?_⟩
      by_cases he : ∃ fo, (nms.take (nms.length - 1) ++ [nm], fo) ∈ E'
      · obtain ⟨fo', he⟩ := he
        exact ⟨_, dget_s hd (kid_val ok he), (fun z => nomatch z), fun _ => ⟨fo', he⟩⟩
      · have hno : ∀ fo, (nms.take (nms.length - 1) ++ [nm], fo) ∉ E' := fun fo h => he ⟨fo, h⟩
        have g := DGet.k (k := .inr (S nm)) hd
        rw [kid_no ok hno] at g
        exact ⟨_, g, fun _ => hno, fun z => nomatch z⟩
    · obtain ⟨rfl, hb, _⟩ := h
      have hno := hb rfl
      walk_at "rd"
      split
      · rename_i hfo
        subst hfo
        intro D hD
        have hD0 := same_none s1 hD
        have hn2 : upd H2 D (.dK []) n = some (.lst (nmsV nms)) := by
          rw [upd_ne (fun e => by rw [← e, hn1] at hD; cases hD)]
          exact hn1
        have h2 : upd H2 D (.dK []) (al' (nms.take (nms.length - 1))) = some (.dK (kids E' al' (nms.take (nms.length - 1)))) := by
          rw [upd_ne fun e => by rw [e, hD] at hd; cases hd]
          exact hd
        refine ⟨_, .inl (.inl (.inl hn2)), _, hat, _, dput_s h2 (by omega), ?_⟩
        refine q _ (upA al' (nms.take (nms.length - 1) ++ [nm]) D) _ (same_mut (same_mut s1 hD0) (new1 _ f1)) (new1.dir hD0) (tree_dir t1 f1 hno okp okn lk hD) ?_ (g2 true) (by rw [tk]; simp)
        rw [← e1]
        exact if_neg fun e => by simp at e
      · rename_i hfo
        have hfo : fo = false := by simpa using hfo
        subst hfo
        refine ⟨_, .inl (.inl (.inl hn1)), _, hat, _, dput_s hd (by omega), ?_⟩
        exact q _ al' _ (same_mut s1 (new1 _ f1)) new1.leaf (tree_leaf t1 f1 hno okp okn lk) e1 (g2 false) (by rw [tk]; simp)
    · obtain ⟨rfl, _, hb⟩ := h
      obtain ⟨fo', he⟩ := hb rfl
      have hfo : fo' = fo := by
        rcases g1.new _ he with h | ⟨i, _, hi, e, _⟩
        · rw [tk] at h
          have := hput.2
          cases fo <;> cases fo' <;> first | rfl | exact absurd h this
        · have := congrArg List.length (tk.symm.trans e)
          rw [List.length_take] at this
          omega
      subst hfo
      refine q E' al' _ s1 new1 t1 e1 ?_ (by rw [← tk]; exact he)
      have := g1.same
      rwa [Nat.sub_add_cancel hlen] at this
theorem tree_nil {H : Hp} {D : Addr} (h : H D = some (.dK [])) : TreeE [] (fun _ => D) H := by
  refine ⟨⟨.nil, (fun _ h => nomatch h), (fun _ h => nomatch h), (fun _ h => nomatch h), fun _ h => nomatch h⟩, fun p hp => ?_, fun a b ha hb _ => ?_⟩
  · rcases hp with rfl | hp
    · exact h
    · cases hp
  · rcases ha with rfl | ha
    · rcases hb with rfl | hb
      · rfl
      · cases hb
    · cases ha

/-! ### trees drawn -/
def spTree (K : PySem.W.Frag) : Sp := fun vs H Q _ => ∃ a, ∃ first m : Nat, ∃ F p ws rs, ∃ ns : List Int, vs = [.ref a, .int (first : Nat), .int (m : Nat), .ref F, .ref p] ∧ first ≤ 50 ∧ m ≤ 60 ∧ SqL K H a (ns.map V.int) ∧ ns.length ≤ 63 ∧ RowsL K rs F H ∧ 1 ≤ rs.length ∧ rs.length ≤ 1000 ∧ H p = some (.lst ws) ∧ ws.length = 4 ∧ WsOk ws ∧ (∀ v ∈ ws, SignV v) ∧
  ∀ E al H', Same H H' → NewT H E al → TreeE E al H' → E.length ≤ 6 * m → (∀ p, (kidN E p).length ≤ m) → (∀ e ∈ E, e.1.length ≤ 6 ∧ ∀ x ∈ e.1, x.length ≤ 400) → Q (.ref (al [])) H'
theorem ok__law_tree (T : Txt K mg) : OkD P w K mg base 3 (fA K "_law_tree") ["_law_script", "_law_first", "_law_many", "_law_forms", "_law_signs_here"] [] (spTree K) := by
  refine okD T.F__law_tree sc__law_tree (fun _ _ _ _ _ _ us hl => match us, hl with | [_, _, _, _, _], _ => rfl) ?_ ?_
  · rintro vs H Q E ⟨a, first, m, F, p, ws, rs, ns, rfl, _⟩
    rfl
  · rintro cdv A outer s H vs Q X hr ⟨a, first, m, F, p, ws, rs, ns, rfl, hfi, hm, hs, hn, hrs, lrs1, lrs, hp, hl4, hnd, hw, q⟩
    refine ⟨_, (pss_cons (ps_set (i := 5) sc__law_tree.nd rfl (Or.inl rfl) pe_dnewK)
  (pss_cons (ps_mid (ps_for (passes_of rfl) rfl (pi_mid (pi_range1 rfl T.fr_range (pa_cons (pv 2) pa_nil))) (pg_name (i := 6) sc__law_tree.nd rfl (Or.inl rfl)) (pss_cons (ps_set (i := 7) sc__law_tree.nd rfl (Or.inl rfl) (pe_mid (pe_cal (ok__law_mixed T) (hr.mono (by decide)) rfl T.g__law_mixed (pasE (takes_of rfl rfl rfl rfl) (fun _ _ _ _ h => h)) (pa_cons (pe_cal (ok__law_cell T) (hr.mono (by decide)) rfl T.g__law_cell (pasE (takes_of rfl rfl rfl rfl) (fun _ _ _ _ h => h)) (pa_cons (pv 0) (pa_cons (pe_op (o_add (K := K)) (pv 1) (pe_op op_mod (pv 6) pe_int)) pa_nil))) (pa_cons (pe_op (o_add (K := K)) pe_int (pv 6)) pa_nil)))))
  (pss_cons (ps_set (i := 8) sc__law_tree.nd rfl (Or.inl rfl) (pe_mid (pe_slice (o_sl (K := K)) (pe_cal (ok__law_names T) (hr.mono (by decide)) rfl T.g__law_names (pasE (takes_of rfl rfl rfl rfl) (fun _ _ _ _ h => h)) (pa_cons (pe_ix (o_ix (K := K)) (pv 3) (pe_op op_mod (pv 7) (pe_callB (o_lenW (K := K) (w := w)) (by rfl) T.fr_len boot_len (pa_cons (pv 3) pa_nil))) (fun _ _ => rfl)) (pa_cons (pe_cal (ok__law_mixed T) (hr.mono (by decide)) rfl T.g__law_mixed (pasE (takes_of rfl rfl rfl rfl) (fun _ _ _ _ h => h)) (pa_cons (pv 7) (pa_cons pe_int pa_nil))) (pa_cons (pv 4) pa_nil)))) po_none (po_some pe_int))))
  (pss_cons (ps_set (i := 8) sc__law_tree.nd rfl (Or.inl rfl) (pe_mid (pe_op (o_add (K := K)) (pv 8) (pe_op o_mul (pe_lst (pa_cons (pe_ix (o_ix (K := K)) (pv 4) (pe_op op_mod (pe_op op_fdivW (pv 7) pe_int) pe_int) (fun _ _ => rfl)) pa_nil)) (pe_op op_mod (pe_op op_fdivW (pv 7) pe_int) pe_int)))))
  (pss_cons (ps_set (i := 9) sc__law_tree.nd rfl (Or.inl rfl) (pe_mid (pe_cmpR (o_eq (K := K) (hu64 hr)) (pe_op op_mod (pe_op op_fdivW (pv 7) pe_int) pe_int) pe_int (nomark _))))
  (pss_one (ps_if (pt_mid (pt_tru (K := K) (pe_cal (ok__law_free T) (hr.mono (by decide)) rfl T.g__law_free (pasE (takes_of rfl rfl rfl rfl) (fun _ _ _ _ h => h)) (pa_cons (pv 5) (pa_cons (pv 8) (pa_cons (pv 9) pa_nil)))) (by intro _; rfl))) (pss_one (ps_expr (pe_cal (ok__law_put_in T) (hr.mono (by decide)) rfl T.g__law_put_in (pasE (takes_of rfl rfl rfl rfl) (fun _ _ _ _ h => h)) (pa_cons (pv 5) (pa_cons (pv 8) (pa_cons (pv 9) pa_nil)))))) pss_nil))))))))
  (pss_one (ps_ret (pv 5))))), ?_⟩
    have tobj := T.obj
    walk_at "rd"
    intro D hD
    have sD := same_new (o := .dK []) hD
    refine q_stm (fun σ H' => Same H H' ∧ ∃ E al x6 x7 x8 x9, σ = [some (.ref a), some (.int (first : Nat)), some (.int (m : Nat)), some (.ref F), some (.ref p), some (.ref (al [])), x6, x7, x8, x9] ∧ NewT H E al ∧ TreeE E al H' ∧ E.length ≤ 6 * m ∧ (∀ p, (kidN E p).length ≤ m) ∧ ∀ e ∈ E, e.1.length ≤ 6 ∧ ∀ x ∈ e.1, x.length ≤ 400) ?_ ?_
    · refine for_mid (J0 := Itr 0 m) (H0 := upd H D (.dK [])) ?_ walk_range (fun k σ H' => Same H H' ∧ ∃ E al x6 x7 x8 x9, σ = [some (.ref a), some (.int (first : Nat)), some (.int (m : Nat)), some (.ref F), some (.ref p), some (.ref (al [])), x6, x7, x8, x9] ∧ NewT H E al ∧ TreeE E al H' ∧ E.length ≤ 6 * k ∧ (∀ p, (kidN E p).length ≤ k) ∧ ∀ e ∈ E, e.1.length ≤ 6 ∧ ∀ x ∈ e.1, x.length ≤ 400)
        ⟨sD, [], fun _ => D, _, _, _, _, rfl, fun _ _ => hD, tree_nil upd_same, Nat.le_refl _, fun _ => Nat.le_refl _, fun _ h => nomatch h⟩ (fun _ _ _ _ _ => trivial) ?_ (fun σ H' h => h)
      · walk_at "rd"
        exact ⟨by omega, by omega, rfl⟩
      rintro k x σ H1 H1' hk ⟨s1, E, al, x6, x7, x8, x9, rfl, new1, t1, le1, kd1, nm1⟩ ⟨rfl, rfl⟩
      refine q_mid (fun m => 0 ≤ m ∧ m < 2147483647) ?_ fun cell hcell => ?_
      · walk_at "rd"
        exact ⟨a, _, ns, rfl, same_l s1 hs, hn, by omega, by omega, fun c => ⟨c, _, rfl, fun m h1 h2 => ⟨rfl, m, rfl, h1, h2⟩⟩⟩
      have hrs1 := hrs.mono s1
      have hp1 := s1 _ _ hp
      obtain ⟨us6, hF6, each6, oks6⟩ := id hrs1
      obtain ⟨j, hj, hjl⟩ : ∃ j : Nat, cell % (rs.length : Int) = (j : Int) ∧ j < rs.length := ⟨(cell % (rs.length : Int)).toNat, by have := Int.emod_nonneg cell (b := (rs.length : Int)) (by omega); omega, by have := Int.emod_nonneg cell (b := (rs.length : Int)) (by omega); have := Int.emod_lt_of_pos cell (b := (rs.length : Int)) (by omega); omega⟩
      obtain ⟨u, hu, du⟩ := each6.2 j _ (List.getElem?_eq_getElem hjl)
      obtain ⟨okr, lor⟩ := oks6 _ (List.getElem_mem hjl)
      have okp : ∀ fs, SF.seg fs ∈ rs[j].steps → ∀ f ∈ fs, FOk f := fun fs h f hf => ⟨(show PartsOk fs from okr.ok _ h).ok f hf, lor fs h f hf⟩
      refine q_midG (fun v H' => Same H1' H' ∧ ∃ g nms, v = .ref g ∧ H' g = some (.lst (nmsV nms)) ∧ nms ≠ [] ∧ nms.length ≤ 5 ∧ ∀ nm ∈ nms, nm ≠ [] ∧ nm.length ≤ 400 ∧ ∀ c ∈ nm, c ∈ SIG) ?_ ?_
      · have lF : LenV K (V.ref F) H1' us6.length := .inl ⟨us6, .inl (.inl hF6), rfl⟩
        walk_at "rd"
        refine .inr ⟨_, lF, by have := each6.1; omega, us6, .inl (.inl (.inl hF6)), u, ?_, cell, 44, rfl, fun m _ _ => ⟨u, m, p, ws, rs[j], rfl, du, okr, okp, .inl (.inl hp1), hl4, hnd, hw, fun G us H' hne hus hlen s h => ?_⟩⟩
        · rw [each6.1, hj]
          exact atI_nat hu
        obtain ⟨nms, rfl, hnm⟩ := names_list hus
        walk_at "rd"
        refine .inl ⟨nmsV nms, .inl (.inl h), fun p1 hp1 => ⟨s.trans (same_new hp1), nms.take 5, ?_, ?_, List.length_take_le _ _, fun nm h => hnm nm (List.mem_of_mem_take h)⟩⟩
        · rw [upd_same, show (5 : Int) = ((5 : Nat) : Int) from rfl, cut_take, nms_take]
        · intro e
          have : nms = [] := by
            cases nms with
            | nil => rfl
            | cons x r => simp at e
          exact hne (by rw [this]; rfl)
      rintro _ H2 ⟨s2, g, nms, rfl, hg, nne, nlen, hnm⟩
      have hp2 := s2 _ _ hp1
      refine q_midG (fun v H' => Same H2 H' ∧ ∃ g nms, v = .ref g ∧ H' g = some (.lst (nmsV nms)) ∧ nms ≠ [] ∧ nms.length ≤ 6 ∧ ∀ nm ∈ nms, nm ≠ [] ∧ nm.length ≤ 400 ∧ ∀ c ∈ nm, c ∈ SIG) ?_ ?_
      · obtain ⟨ca, hca, eca⟩ := at4 hl4 hw (cell / 11)
        walk_at "rd"
        refine ⟨⟨by decide, by decide⟩, ws, .inl (.inl (.inl hp2)), _, eca, fun p1 hp1 => ?_⟩
        have t1' := same_new (o := .lst [V.str (S [ca])]) hp1
        obtain ⟨i, hi, hi2⟩ : ∃ i : Nat, cell / 17 % 2 = (i : Int) ∧ i ≤ 1 := ⟨(cell / 17 % 2).toNat, by omega, by omega⟩
        rw [hi]
        refine ⟨⟨by decide, by decide⟩, _, upd_same, by omega, by omega, by rw [List.length_singleton]; omega, fun p2 hp2 => .inl ?_⟩
        have t2' := same_new (o := .lst (List.replicate ((i : Int)).toNat [V.str (S [ca])]).flatten) hp2
        have e : (List.replicate ((i : Int)).toNat [V.str (S [ca])]).flatten = nmsV (List.replicate i [ca]) := by
          rcases Nat.le_one_iff_eq_zero_or_eq_one.mp hi2 with rfl | rfl <;> rfl
        refine ⟨nmsV nms, t2' _ _ (t1' _ _ hg), _, upd_same, by rw [e, nms_len, nms_len, List.length_replicate]; omega, fun p3 hp3 => ⟨(t1'.trans t2').trans (same_new hp3), nms ++ List.replicate i [ca], ?_, by simp [nne], by rw [List.length_append, List.length_replicate]; omega, fun nm h => ?_⟩⟩
        · rw [upd_same, e, nms_app]
        · rcases List.mem_append.mp h with h | h
          · exact hnm nm h
          · rw [List.eq_of_mem_replicate h]
            exact ⟨by simp, by simp, fun c h => by rw [List.mem_singleton.mp h]; exact hca⟩
      clear hg nne nlen hnm
      rintro _ H3 ⟨s3, g, nms, rfl, hg, nne, nlen, hnm⟩
      refine q_midG (fun v H' => H' = H3 ∧ ∃ b, v = .bl b) ?_ ?_
      · walk_at "rd"
        exact ⟨by decide, by decide⟩
      rintro _ _ ⟨rfl, fo, rfl⟩
      rename_i H3
      have t3 := t1.mono (s2.trans s3)
      have okn : ∀ x ∈ nms, NmOk x := fun x h => ⟨(hnm x h).1, Nat.le_trans (hnm x h).2.1 (by decide), (hnm x h).2.2⟩
      have s03 := (s1.trans s2).trans s3
      refine l_if (fun b H' => Same H3 H' ∧ (b = true → OkPut E nms fo)) ?_ (fun H4 h => ?_) fun H4 h => ?_
      · walk_at "rd"
        exact ⟨E, al, g, fo, nms, rfl, t3, .inl (.inl hg), nne, by omega, okn, fun b H' s h => ⟨b, rfl, s, h⟩⟩
      · obtain ⟨s4, hb⟩ := h
        walk_at "rd"
        refine ⟨H, E, al, g, fo, nms, rfl, s03.trans s4, new1, t3.mono s4, s4 _ _ hg, nne, by omega, okn, hb rfl, fun p => by have := kd1 p; omega, fun E' al' H' s' new' t' e' g' _ => ⟨s', E', al', by rw [e'], new', t', ?_, fun p => ?_, fun e he => ?_⟩⟩
        · have := g'.len; omega
        · have h1 := g'.kid p
          have h2 := kd1 p
          split at h1 <;> omega
        · rcases g'.new e he with h | ⟨i, _, _, e1, _⟩
          · exact nm1 e h
          · rw [e1]
            exact ⟨by rw [List.length_take]; omega, fun x hx => (hnm x (List.mem_of_mem_take hx)).2.1⟩
      · exact ⟨s03.trans h.1, E, al, _, _, _, _, rfl, new1, t3.mono h.1, by omega, fun p => by have := kd1 p; omega, nm1⟩
    rintro σ H1 ⟨s1, E, al, x6, x7, x8, x9, rfl, new1, t1, le1, kd1, nm1⟩
    walk_at "rd"
    exact q E al H1 s1 new1 t1 le1 kd1 nm1

/-! ### what every law here promises -/
def spLaw (K : PySem.W.Frag) : Sp := fun vs H Q _ => ∃ a, ∃ ns : List Int, vs = [.ref a] ∧ SqL K H a (ns.map V.int) ∧ ns.length ≤ 63 ∧ ∀ H', Q (.bl true) H'
theorem law_len {vs : List V} {H : Hp} {Q : VK} {E : XK} (h : spLaw K vs H Q E) : vs.length = ["_law_script"].length := by
  obtain ⟨a, ns, rfl, _⟩ := h
  rfl
theorem law_sp {a : Addr} {ns : List Int} {H : Hp} (hs : SqL K H a (ns.map V.int)) (hl : ns.length ≤ 63) (hb : ∀ z ∈ ns, Builtin.Int.intBits z ≤ 1048576) : spLaw K [.ref a] H (fun v _ => v = .bl true) fun _ _ _ => False := ⟨a, ns, rfl, hs, hl, fun _ => rfl⟩

theorem bd_law (T : Txt K mg) : BodyQ P w K mg base 13 (fA K "law") "law" (defBody TX.s_law) (defScope TX.s_law) N_law (spLaw K) := by
    rintro cdv A outer s H vs Q E hr ⟨a, ns, rfl, hs, hn, q⟩
    refine ⟨_, (pss_cons (ps_set (i := 1) sc_law.nd rfl (Or.inl rfl) (pe_mid (pe_cal (ok__law_signs T) (hr.mono (by decide)) rfl T.g__law_signs (pasE (takes_of rfl rfl rfl rfl) (fun _ _ _ _ h => h)) (pa_cons (pe_cal (ok__law_cell T) (hr.mono (by decide)) rfl T.g__law_cell (pasE (takes_of rfl rfl rfl rfl) (fun _ _ _ _ h => h)) (pa_cons (pv 0) (pa_cons pe_int pa_nil))) pa_nil))))
  (pss_cons (ps_set (i := 2) sc_law.nd rfl (Or.inl rfl) (pe_mid (pe_cal (ok__law_rows T) (hr.mono (by decide)) rfl T.g__law_rows (pasE (takes_of rfl rfl rfl rfl) (fun _ _ _ _ h => h)) (pa_cons (pv 0) (pa_cons pe_int (pa_cons pe_int (pa_cons (pv 1) pa_nil)))))))
  (pss_cons (ps_set (i := 3) sc_law.nd rfl (Or.inl rfl) (pe_mid (pe_cal (ok__law_tree T) (hr.mono (by decide)) rfl T.g__law_tree (pasE (takes_of rfl rfl rfl rfl) (fun _ _ _ _ h => h)) (pa_cons (pv 0) (pa_cons pe_int (pa_cons (pe_op op_mod (pe_cal (ok__law_cell T) (hr.mono (by decide)) rfl T.g__law_cell (pasE (takes_of rfl rfl rfl rfl) (fun _ _ _ _ h => h)) (pa_cons (pv 0) (pa_cons pe_int pa_nil))) pe_int) (pa_cons (pv 2) (pa_cons (pv 1) pa_nil))))))))
  (pss_cons (ps_set (i := 4) sc_law.nd rfl (Or.inl rfl) (pe_mid (pe_callB (o_sortedA (K := K)) (by rfl) T.fr_sorted (by decide +kernel) (pa_cons (pe_cal (ok__law_paths T 10) (hr.mono (by omega)) rfl T.g__law_paths (pasE (takes_of rfl rfl rfl rfl) (fun _ _ _ _ h => h)) (pa_cons (pv 3) (pa_cons pe_str pa_nil))) pa_nil))))
  (pss_cons (ps_mid (ps_for (passes_of rfl) rfl (pi_mid (pi_range1 rfl T.fr_range (pa_cons pe_int pa_nil))) (pg_name (i := 5) sc_law.nd rfl (Or.inl rfl)) (pss_cons (ps_set (i := 6) sc_law.nd rfl (Or.inl rfl) (pe_mid (pe_cal (ok_paths_of T) (hr.mono (by decide)) rfl T.g_paths_of (pasE (takes_of rfl rfl rfl rfl) (fun _ _ _ _ h => h)) (pa_cons (pv 3) pa_nil))))
  (pss_cons (ps_if (pt_mid (PW.pt (pw_or (pt_not (pt_tru (K := K) (pe_callB (o_isi (K := K)) (by rfl) T.fr_isinstance (by decide +kernel) (pa_cons (pv 6) (pa_cons (pe_bltn (v := .ty "list") rfl T.fr_list (by decide +kernel) rfl) pa_nil))) (by intro _; rfl))) (pw_or (pt_cmpR (o_ne (K := K) (hu64 hr)) (pv 6) (pv 4) (nomark _)) (pw_or1 (pt_cmpR (o_ne (K := K) (hu64 hr)) (pe_callB (o_sortedA (K := K)) (by rfl) T.fr_sorted (by decide +kernel) (pa_cons (pe_cal (ok__law_paths T 10) (hr.mono (by omega)) rfl T.g__law_paths (pasE (takes_of rfl rfl rfl rfl) (fun _ _ _ _ h => h)) (pa_cons (pv 3) (pa_cons pe_str pa_nil))) pa_nil)) (pv 4) (nomark _))))))) (pss_one (ps_ret pe_bl)) pss_nil)
  (pss_one (ps_expr (pe_bmK (K := K) PySem.F.plainAttrs_list PySem.F.slot_list_append PySem.F.type_list_append mt_append (pv 6) (pa_cons (pe_mid pe_str) pa_nil))))))))
  (pss_cons (ps_set (i := 6) sc_law.nd rfl (Or.inl rfl) (pe_mid (pe_cal (ok_paths_of T) (hr.mono (by decide)) rfl T.g_paths_of (pasE (takes_of rfl rfl rfl rfl) (fun _ _ _ _ h => h)) (pa_cons (pe_mid (pe_disp (pps_cons pe_str pe_dnewK (pps_cons pe_str pe_non (pps_cons pe_str (pe_disp (pps_cons pe_str pe_non pps_nil) rfl rfl (by decide) (by decide)) pps_nil))) rfl rfl (by decide) (by decide))) pa_nil))))
  (pss_one (ps_ret (pe_andK (K := K) (pe_cmpR (o_eq (K := K) (hu64 hr)) (pe_cal (ok_paths_of T) (hr.mono (by decide)) rfl T.g_paths_of (pasE (takes_of rfl rfl rfl rfl) (fun _ _ _ _ h => h)) (pa_cons pe_dnewK pa_nil)) (pe_lst pa_nil) (nomark _)) (pe_one (pe_cmpR (o_eq (K := K) (hu64 hr)) (pv 6) (pe_lst (pa_cons pe_str (pa_cons pe_str (pa_cons pe_str (pa_cons pe_str pa_nil))))) (nomark _)))))))))))), ?_⟩
    have tobj := T.obj
    refine q_midG (fun v H' => Same H H' ∧ ∃ p l, v = .ref p ∧ H' p = some (.lst l) ∧ l.length = 4 ∧ l.Nodup ∧ ∀ v ∈ l, SignV v) ?_ ?_
    · walk_at "rd"
      exact ⟨a, 0, ns, rfl, hs, hn, by decide, by decide, fun c => ⟨c, rfl, fun p l H' hl4 nd hw hp sm hp' => ⟨sm, p, rfl, l, hp', hl4, nd, hw⟩⟩⟩
    rintro _ H1 ⟨s1, p, ws, rfl, hp, hl4, nd, hw⟩
    have hs1 := same_l s1 hs
    refine q_midG (fun v H' => Same H1 H' ∧ ∃ F rs, v = .ref F ∧ RowsL K rs F H' ∧ rs.length = 3) ?_ ?_
    · walk_at "rd"
      exact ⟨a, ns, p, ws, 1, 3, rfl, hs1, hn, by omega, .inl (.inl hp), hl4, hw, fun F rs H' s _ h l => ⟨s, F, rfl, rs, h, by omega⟩⟩
    rintro _ H2 ⟨s2, F, rs, rfl, hrs, lrs⟩
    have hp2 := s2 _ _ hp
    have hs2 := same_l s2 hs1
    refine q_midG (fun v H' => Same H2 H' ∧ ∃ E al, v = .ref (al []) ∧ TreeE E al H' ∧ E.length ≤ 1000 ∧ (∀ p, (kidN E p).length ≤ 60) ∧ ∀ e ∈ E, e.1.length ≤ 6 ∧ ∀ x ∈ e.1, x.length ≤ 400) ?_ ?_
    · walk_at "rd"
      refine ⟨a, 3, ns, rfl, hs2, hn, by decide, by decide, fun c => ?_⟩
      obtain ⟨m, hm, hm2⟩ : ∃ m : Nat, c % 41 = (m : Int) ∧ m ≤ 40 := by
        have h0 : 0 ≤ c % 41 := Int.emod_nonneg _ (by decide)
        have h1 : c % 41 < 41 := Int.emod_lt_of_pos _ (by decide)
        exact ⟨(c % 41).toNat, by omega, by omega⟩
      refine ⟨_, rfl, ?_⟩
      rw [hm]
      exact ⟨a, 4, m, F, p, ws, rs, ns, rfl, by decide, by omega, hs2, hn, hrs, by omega, by omega, hp2, hl4, nd, hw, fun E al H' s _ t l k b => ⟨s, E, al, rfl, t, by omega, fun p => by have := k p; omega, b⟩⟩
    rintro _ H3 ⟨s3, T, al, rfl, tr, lT, kT, bT⟩
    refine q_midG (fun v H' => Same H3 H' ∧ ∃ G, v = .ref G ∧ H3 G = none ∧ H' G = some (.lst (nmsV (srtW (pathsE T 10 [] []))))) ?_ ?_
    · walk_at "rd"
      refine ⟨T, al, [], [], rfl, tr, .inl rfl, rfl, lT, kT, Nat.zero_le _, fun F H' s hF hF' => ⟨_, .inl (.inl hF'), fun p hp => ⟨s.trans (same_new hp), p, rfl, same_none s hp, upd_same⟩⟩⟩
    rintro _ H4 ⟨s4, G, rfl, hGn, hG⟩
    have okw : ∀ w ∈ srtW (pathsE T 10 [] []), PyData.strOk (S w) = true := fun w h => txt_ok (paths_sig tr.ok 10 [] [] (fun _ h => nomatch h) w ((srt_perm _).mem_iff.mp h))
    refine q_stm (fun σ H' => Same H4 H' ∧ ∃ x5 x6, σ = [some (.ref a), some (.ref p), some (.ref F), some (.ref (al [])), some (.ref G), x5, x6]) ?_ ?_
    · refine for_mid (J0 := Itr 0 2) (H0 := H4) ?_ walk_range (fun _ σ H' => Same H4 H' ∧ ∃ x5 x6, σ = [some (.ref a), some (.ref p), some (.ref F), some (.ref (al [])), some (.ref G), x5, x6]) ⟨Same.refl _, _, _, rfl⟩ (fun _ _ _ _ _ => trivial) ?_ (fun _ _ h => h)
      · walk_at "rd"
        exact ⟨by decide, by decide, rfl⟩
      rintro k x σ H5 H6 hk ⟨s5, x5, x6, rfl⟩ ⟨rfl, rfl⟩
      have tr6 := tr.mono (s4.trans s5)
      have hG6 := s5 _ _ hG
      refine q_midG (fun v H' => Same H6 H' ∧ ∃ N, v = .ref N ∧ H6 N = none ∧ H' N = some (.lst (nmsV (srtW (pathsE T 10 [] []))))) ?_ ?_
      · walk_at "rd"
        exact ⟨T, al, rfl, tr6, lT, kT, fun F H' s hF hF' => ⟨s, F, rfl, hF, hF'⟩⟩
      rintro _ H7 ⟨s7, N, rfl, hNn, hN⟩
      refine q_if (fun b H' => Same H7 H' ∧ b = false) ?_ (fun _ h => nomatch h.2) fun H8 h => q_next ?_
      · walk_at "rd"
        refine ⟨"list", .base (.lst hN), true, by decide +kernel, ?_⟩
        rw [if_neg (by decide)]
        refine ne_dat (txts_ok okw) (by decide) (txts_dp (.inl (.inl hN))) (txts_dp (.inl (.inl (s7 _ _ hG6)))) ⟨_, rfl, ?_⟩
        rw [if_neg (by decide)]
        refine ⟨T, al, [], [], rfl, tr6.mono s7, .inl rfl, rfl, lT, kT, Nat.zero_le _, fun F H' s hF hF' => ⟨_, .inl (.inl hF'), fun p hp => ?_⟩⟩
        have sp := same_new (o := .lst (nmsV (srtW (pathsE T 10 [] [])))) hp
        exact ne_dat (txts_ok okw) (by decide) (txts_dp (.inl (.inl upd_same))) (txts_dp (.inl (.inl (sp _ _ (s _ _ (s7 _ _ hG6)))))) ⟨_, rfl, s.trans sp, rfl⟩
      obtain ⟨s8, _⟩ := h
      have lp := paths_len tr.ok 10 [] []
      refine l_app (xs := nmsV (srtW (pathsE T 10 [] []))) rfl (s8 _ _ hN) ?_
      walk_at "rd"
      exact ⟨_, s8 _ _ hN, by rw [nms_len, (srt_perm _).length_eq]; omega, s5.trans (same_mut (s7.trans s8) hNn)⟩
    rintro σ H5 ⟨s5, x5, x6, rfl⟩
    refine q_midG (fun v H' => ∃ N, v = .ref N ∧ H' N = some (.lst (nmsV [[97, 45], [97, 46, 98, 47], [97, 46, 98, 47, 99], [97, 47]]))) ?_ ?_
    · walk_at "rd"
      refine mid_of (fun v H' => ∃ D D1 D2, v = .ref D ∧ H' D = some (.dK [(.inr (S [97]), .ref D1), (.inr (S [97, 45]), .non), (.inr (S [97, 46, 98]), .ref D2)]) ∧ H' D1 = some (.dK []) ∧ H' D2 = some (.dK [(.inr (S [99]), .non)]) ∧ D ≠ D1 ∧ D ≠ D2 ∧ D1 ≠ D2) ?_ ?_
      · walk_at "rd"
        intro D hD D1 hD1 D2 hD2
        have n1 : D ≠ D1 := fun e => by rw [← e, upd_same] at hD1; cases hD1
        have n3 : D1 ≠ D2 := fun e => by rw [← e, upd_same] at hD2; cases hD2
        have n2 : D ≠ D2 := fun e => by rw [← e, upd_ne n1, upd_same] at hD2; cases hD2
        refine ⟨upd_same, [(.inr (S [99]), .non)], rfl, by decide, ?_, [(.inr (S [97]), .ref D1), (.inr (S [97, 45]), .non), (.inr (S [97, 46, 98]), .ref D2)], rfl, by simp, D1, D2, ?_, ?_, ?_, n1, n2, n3⟩
        · rw [upd_ne n2, upd_ne n2, upd_ne n1, upd_same]
        · rw [upd_same]
          rfl
        · rw [upd_ne n1.symm, upd_ne n3, upd_ne n3, upd_same]
        · rw [upd_ne n2.symm, upd_same]
          rfl
      rintro _ H6 ⟨D, D1, D2, rfl, hD, hD1, hD2, n1, n2, n3⟩
      refine ⟨[([[97]], true), ([[97, 45]], false), ([[97, 46, 98]], true), ([[97, 46, 98], [99]], false)], fun p => if p = [] then D else if p = [[97]] then D1 else D2, rfl, ?_, by decide, fun p => ?_, fun N H' s hN hN' => ⟨N, rfl, ?_⟩⟩
      · have fo : ∀ p, Fold [([[97]], true), ([[97, 45]], false), ([[97, 46, 98]], true), ([[97, 46, 98], [99]], false)] p → p = [] ∨ p = [[97]] ∨ p = [[97, 46, 98]] := fun p h => by
          rcases h with h | h
          · exact .inl h
          · simp only [List.mem_cons, List.not_mem_nil, or_false, Prod.mk.injEq, and_true, and_false, false_or, reduceCtorEq] at h
            exact .inr h
        refine ⟨⟨by decide, by decide, by decide, by unfold NmOk; decide +kernel, by decide⟩, fun p hp => ?_, fun a b ha hb => ?_⟩
        · rcases fo p hp with rfl | rfl | rfl
          · rw [if_pos rfl, hD]
            rfl
          · rw [if_neg (by decide), if_pos rfl, hD1]
            rfl
          · rw [if_neg (by decide), if_neg (by decide), hD2]
            rfl
        · rcases fo a ha with rfl | rfl | rfl <;> rcases fo b hb with rfl | rfl | rfl <;> simp <;> intro e <;> first | exact absurd e n1 | exact absurd e n2 | exact absurd e n3 | exact absurd e.symm n1 | exact absurd e.symm n2 | exact absurd e.symm n3
      · exact Nat.le_trans (Nat.le_trans (by unfold kidN; rw [List.length_map]; exact List.length_filter_le _ _) (by decide : 4 ≤ 60)) (Nat.le_refl _)
      · rw [hN']
        congr 2
    rintro _ H6 ⟨N, rfl, hN⟩
    walk_at "rd"
    intro N2 hN2
    have sN2 := same_new (o := .dK []) hN2
    refine ⟨[], fun _ => N2, rfl, tree_nil upd_same, by decide, fun _ => Nat.zero_le _, fun N3 H' s hN3 hN3' p1 hp1 => ?_⟩
    have sp1 := same_new (o := .lst []) hp1
    refine eq_nil (.inl (.inl (sp1 _ _ hN3'))) (.inl (.inl upd_same)) ⟨true, rfl, ?_⟩
    rw [if_pos rfl]
    intro p2 hp2
    have sp2 := same_new (o := .lst [V.str (Str.ofString "a-"), V.str (Str.ofString "a.b/"), V.str (Str.ofString "a.b/c"), V.str (Str.ofString "a/")]) hp2
    refine eq_dat (txts_ok (ws := [[97, 45], [97, 46, 98, 47], [97, 46, 98, 47, 99], [97, 47]]) fun w h => ?_) (by decide) (txts_dp (.inl (.inl (sp2 _ _ (sp1 _ _ (s _ _ (sN2 _ _ hN))))))) (txts_dp (.inl (.inl (by rw [upd_same]; rfl)))) (q _)
    simp only [List.mem_cons, List.not_mem_nil, or_false] at h
    rcases h with rfl | rfl | rfl | rfl <;> decide +kernel

end
end SL
namespace HD
open PySem PySem.Spec PyProof.Rows L2
def fn : List He.DefD := [
  ⟨("paths_within", none), "paths_within", "paths_within", defArgs TX.s_paths_within, defBody TX.s_paths_within, defScope TX.s_paths_within, [], []⟩,
  ⟨("paths_of", none), "paths_of", "paths_of", defArgs TX.s_paths_of, defBody TX.s_paths_of, defScope TX.s_paths_of, [], []⟩,
  ⟨("_law_cell", none), "_law_cell", "_law_cell", defArgs TX.s__law_cell, defBody TX.s__law_cell, defScope TX.s__law_cell, [], []⟩,
  ⟨("_law_mixed", none), "_law_mixed", "_law_mixed", defArgs TX.s__law_mixed, defBody TX.s__law_mixed, defScope TX.s__law_mixed, [], []⟩,
  ⟨("_law_signs", none), "_law_signs", "_law_signs", defArgs TX.s__law_signs, defBody TX.s__law_signs, defScope TX.s__law_signs, [], []⟩,
  ⟨("_law_part", none), "_law_part", "_law_part", defArgs TX.s__law_part, defBody TX.s__law_part, defScope TX.s__law_part, [], []⟩,
  ⟨("_law_segment", none), "_law_segment", "_law_segment", defArgs TX.s__law_segment, defBody TX.s__law_segment, defScope TX.s__law_segment, [], []⟩,
  ⟨("_law_row", none), "_law_row", "_law_row", defArgs TX.s__law_row, defBody TX.s__law_row, defScope TX.s__law_row, [], []⟩,
  ⟨("_law_rows", none), "_law_rows", "_law_rows", defArgs TX.s__law_rows, defBody TX.s__law_rows, defScope TX.s__law_rows, [], []⟩,
  ⟨("_law_filled", none), "_law_filled", "_law_filled", defArgs TX.s__law_filled, defBody TX.s__law_filled, defScope TX.s__law_filled, [], []⟩,
  ⟨("_law_names", none), "_law_names", "_law_names", defArgs TX.s__law_names, defBody TX.s__law_names, defScope TX.s__law_names, [], []⟩,
  ⟨("_law_free", none), "_law_free", "_law_free", defArgs TX.s__law_free, defBody TX.s__law_free, defScope TX.s__law_free, [], []⟩,
  ⟨("_law_put_in", none), "_law_put_in", "_law_put_in", defArgs TX.s__law_put_in, defBody TX.s__law_put_in, defScope TX.s__law_put_in, [], []⟩,
  ⟨("_law_tree", none), "_law_tree", "_law_tree", defArgs TX.s__law_tree, defBody TX.s__law_tree, defScope TX.s__law_tree, [], []⟩,
  ⟨("_law_paths", none), "_law_paths", "_law_paths", defArgs TX.s__law_paths, defBody TX.s__law_paths, defScope TX.s__law_paths, [], []⟩,
  ⟨("law", none), "law", "law", defArgs TX.s_law, defBody TX.s_law, defScope TX.s_law, [], []⟩]
def fa : List He.Fa := [.glo "paths_within", .glo "paths_of", .glo "_law_cell", .glo "_law_mixed", .glo "_law_signs", .glo "_law_part", .glo "_law_segment", .glo "_law_row", .glo "_law_rows", .glo "_law_filled", .glo "_law_names", .glo "_law_free", .glo "_law_put_in", .glo "_law_tree", .glo "_law_paths", .glo "law", .free "len", .free "range", .free "set", .free "sorted", .free "list", .free "tuple", .free "isinstance", .free "int", .free "enumerate", .free "max"]
def mkn (K : PySem.W.Frag) (x : Str) : Bool := PySem.W.makesIn K (He.ga K x) && (He.eqO (PySem.W.findIn K (.ref (He.ga K x)) "__init__") (some (some (.builtin "object.__init__"))) && PySem.W.keepIn K (.ref (He.ga K x)))
def ex (K : PySem.W.Frag) : Bool := ([] : List Str).all (mkn K)
theorem mkn_ok {K : PySem.W.Frag} {x : Str} (h : ex K = true) (m : x ∈ ([] : List Str)) : SL.MkN K (He.ga K x) := by
  have e := List.all_eq_true.mp h x m
  unfold mkn at e
  rw [Bool.and_eq_true, Bool.and_eq_true] at e
  exact ⟨e.1, He.eqO_ok e.2.1, e.2.2⟩
abbrev R : PySem.W.OpenRow := PySem.W.OpenLaw.row PySem.Challenge.rw_shunlist_k83_paths_of_trees
abbrev hk : PySem.W.Hook := He.hookX 5 fa fn [] [] ex
def ob (s : PySem.W.SharedT) : He.AlX := He.obsX 5 fa fn [] [] ex (HandSHeadRun.getT s)
theorem ob_eq (s : PySem.W.SharedT) : ob s = hk.obs s.abs := He.obsX_eq (HandSHeadRun.getT_eq s)
def loose : List Str := (["paths_within", "paths_of", "_law_cell", "_law_mixed", "_law_signs", "_law_part", "_law_segment", "_law_row", "_law_rows", "_law_filled", "_law_names", "_law_free", "_law_put_in", "_law_tree", "_law_paths"] : List Str)
theorem run (w : World) : HandSHeadRun.RunEq R (PySem.W.view R.prog [17]) hk ob 6000 loose w := by
  intro os
  kernel_rfl
end HD
namespace SL
open PySem PySem.Spec PyProof.Rows L2
theorem txt_of {w : World} {K : PySem.W.Frag} {h : Heap} {mg : Str → Option Value} (X : K.In h) (G : h.Ns mainGlobals mg) (c : He.SaysX HD.fa HD.fn [] [] HD.ex w h K) : Txt K mg where
  F_paths_within := c.t.d.def_ 0 rfl
  F_paths_of := c.t.d.def_ 1 rfl
  F__law_cell := c.t.d.def_ 2 rfl
  F__law_mixed := c.t.d.def_ 3 rfl
  F__law_signs := c.t.d.def_ 4 rfl
  F__law_part := c.t.d.def_ 5 rfl
  F__law_segment := c.t.d.def_ 6 rfl
  F__law_row := c.t.d.def_ 7 rfl
  F__law_rows := c.t.d.def_ 8 rfl
  F__law_filled := c.t.d.def_ 9 rfl
  F__law_names := c.t.d.def_ 10 rfl
  F__law_free := c.t.d.def_ 11 rfl
  F__law_put_in := c.t.d.def_ 12 rfl
  F__law_tree := c.t.d.def_ 13 rfl
  F__law_paths := c.t.d.def_ 14 rfl
  F_law := c.t.d.def_ 15 rfl
  g_paths_within := He.glo_ok X G (c.t.d.fact 0 (f := .glo "paths_within") rfl)
  g_paths_of := He.glo_ok X G (c.t.d.fact 1 (f := .glo "paths_of") rfl)
  g__law_cell := He.glo_ok X G (c.t.d.fact 2 (f := .glo "_law_cell") rfl)
  g__law_mixed := He.glo_ok X G (c.t.d.fact 3 (f := .glo "_law_mixed") rfl)
  g__law_signs := He.glo_ok X G (c.t.d.fact 4 (f := .glo "_law_signs") rfl)
  g__law_part := He.glo_ok X G (c.t.d.fact 5 (f := .glo "_law_part") rfl)
  g__law_segment := He.glo_ok X G (c.t.d.fact 6 (f := .glo "_law_segment") rfl)
  g__law_row := He.glo_ok X G (c.t.d.fact 7 (f := .glo "_law_row") rfl)
  g__law_rows := He.glo_ok X G (c.t.d.fact 8 (f := .glo "_law_rows") rfl)
  g__law_filled := He.glo_ok X G (c.t.d.fact 9 (f := .glo "_law_filled") rfl)
  g__law_names := He.glo_ok X G (c.t.d.fact 10 (f := .glo "_law_names") rfl)
  g__law_free := He.glo_ok X G (c.t.d.fact 11 (f := .glo "_law_free") rfl)
  g__law_put_in := He.glo_ok X G (c.t.d.fact 12 (f := .glo "_law_put_in") rfl)
  g__law_tree := He.glo_ok X G (c.t.d.fact 13 (f := .glo "_law_tree") rfl)
  g__law_paths := He.glo_ok X G (c.t.d.fact 14 (f := .glo "_law_paths") rfl)
  g_law := He.glo_ok X G (c.t.d.fact 15 (f := .glo "law") rfl)
  fr_len := He.free_ok X G (c.t.d.fact 16 (f := .free "len") rfl)
  fr_range := He.free_ok X G (c.t.d.fact 17 (f := .free "range") rfl)
  fr_set := He.free_ok X G (c.t.d.fact 18 (f := .free "set") rfl)
  fr_sorted := He.free_ok X G (c.t.d.fact 19 (f := .free "sorted") rfl)
  fr_list := He.free_ok X G (c.t.d.fact 20 (f := .free "list") rfl)
  fr_tuple := He.free_ok X G (c.t.d.fact 21 (f := .free "tuple") rfl)
  fr_isinstance := He.free_ok X G (c.t.d.fact 22 (f := .free "isinstance") rfl)
  fr_int := He.free_ok X G (c.t.d.fact 23 (f := .free "int") rfl)
  fr_enumerate := He.free_ok X G (c.t.d.fact 24 (f := .free "enumerate") rfl)
  fr_max := He.free_ok X G (c.t.d.fact 25 (f := .free "max") rfl)
end SL
open PySem PySem.W PySem.Calls PyProof.Rows
theorem PySem.Challenge.cw_shunlist_k83_paths_of_trees_holds : PySem.Challenge.rw_shunlist_k83_paths_of_trees.Holds := by
  w_on; o_law
  refine HandSHeadRun.head_any (r := (PySem.W.OpenLaw.row PySem.Challenge.rw_shunlist_k83_paths_of_trees)) (q := view (PySem.W.OpenLaw.row PySem.Challenge.rw_shunlist_k83_paths_of_trees).prog [17]) (H := HD.hk) (ob := HD.ob) (M := 6000) (loose := HD.loose) (d := HandSHeadRun.topDef (PySem.W.OpenLaw.row PySem.Challenge.rw_shunlist_k83_paths_of_trees).prog 17) (kwd := []) HD.ob_eq
    (by kernel_rfl) (fun s => by kernel_rfl) HD.run (by kernel_rfl) (by kernel_rfl) (by kernel_rfl) (by rfl) (by first | assumption | decide +kernel) (by decide +kernel) ⟨rfl, rfl, rfl, rfl, rfl, by decide +kernel⟩ ?hw ?hc
  case hw => w_witness2
  case hc =>
    refine LamX.walk_ofTsE (l := PySem.Challenge.rw_shunlist_k83_paths_of_trees) (n := 63) (k := 14) (x := "_law_script") (CX := fun w => L2.CX (PySem.Challenge.rw_shunlist_k83_paths_of_trees).prog w) rfl (by decide) (by kernel_rfl) ⟨rfl, by decide, by decide⟩ ?F (fun _ _ _ _ _ ⟨_, _, _, _, _, _, _, _, _, _, _, _, z⟩ => z)
    intro w mg fa h Y G hmg0
    obtain ⟨K, KX, c⟩ := Y
    have T := SL.txt_of KX G c
    have hmg : mg ("law" : PySem.Str) = some (.ref fa) := by
      have e : (HandSHeadRun.topDef (PySem.W.OpenLaw.row PySem.Challenge.rw_shunlist_k83_paths_of_trees).prog 17).name = ("law" : PySem.Str) := by kernel_rfl
      rw [← e]
      exact hmg0
    have e := hmg.symm.trans T.g_law
    cases e
    obtain ⟨fd, F⟩ := T.F_law
    have b := L2.FunD.bindsA (ps := ["_law_script"]) F fun _ _ _ _ _ _ us hl => match us, hl with | [_], _ => rfl
    exact ⟨K, KX, fd, [], SL.spLaw K, (fun _ h => nomatch h), (fun _ h => nomatch h), (fun _ h => nomatch h), fun s v => b s [v] rfl, fun H a ns hl hb _ hS => SL.law_sp hS hl hb, fun base _ _ _ => F.ok SL.sc_law (fun vs H Q E h => SL.law_len h) (SL.bd_law T)⟩
