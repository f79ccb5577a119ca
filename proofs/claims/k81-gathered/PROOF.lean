import PyProof.Rows.All
import Wide.All
import OpenK.AllK
import Wide.FinOn
import KE.KStateDown
import HandS.Base
import HandS.Call
import HandS.List
import HandS.Comp
import HandS.Dict
import HandS.Iter
import HandS.Text
import HandS.Ends
import HandS.More
import HandS.Words
import HandS.WordsExc
import HandS.Defaults
import HandS.MakeKw
import HandS.Exc
import HandS.ExcOwn
import HandS.TryOnly
import HandS.Deep
import HandS.TupAny
import HandS.Head0
import HandS.Head1
import HandS.Head2
import HandS.HeadHook1
import HandS.HeadHook2
import HandS.HeadHook3
import HandS.HeadHook4
import HandS.HeadWalk
import HandS.Flow
import HandS.Style
import HandS.Wide
import HandS.MakeKw
import HandS.Steps
import HandS.Strs
import HandS.IsInst
import HandS.Zip
import HandS.SetKeys
import HandS.Set
import HandS.WordsDict
import HandS.WordsList
import HandS.Walk
import HandS.Iter
import PyProof.Draws
import PyProof.EnumMake
import HandS.Conv
import HandS.RevRange
import HandS.SetFor
import HandS.Strs
import HandS.Zip
import HandS.SortInts
import HandS.Codes
import HandS.TupSets
import HandS.StrMore
import HandS.Replace
import PyProof.StrLawsFirst
import PyProof.Rows.SortShellAny
import KE.KxAffix
import HandS.DictComp
import HandS.Finally
import HandS.SortRule
import KE.KSortTupAny
import HandS.ExcValue
import HandS.ExcIs
import HandS.HeadHook1
import PyProof.StrOps2
import HandS.CallSlots
import HandS.ExcOwn
import PySem.Challenge.RW_shunlist_k81_gathered
set_option Elab.async false
set_option linter.all false
set_option maxRecDepth 100000
set_option maxHeartbeats 4000000

/-! the layer of this proof: calls by promise, readings -/
namespace SL
open PySem PySem.Spec PyProof.Rows L2
/-- a def keeps the promise sp at level k; dvs: its last defaults, filled in -/
def OkD (P : Program) (w : World) (K : PySem.W.Frag) (mg : Str → Option Value) (base : Heap) (k : Nat) (f : Addr) (ps : List Str) (dvs : List V) (sp : Sp) : Prop :=
  ∃ (fd : FuncData) (ds : List Value), FnOk P w K mg base (L2.CX P w) k f fd ps sp ∧ Binds K fd ps ds ∧ Vals dvs ds ∧ PySem.W.keepIn K (.ref f) = true
/-- what the top tells of an error's class -/
def ExcK (K : PySem.W.Frag) (C : Addr) : Prop := PySem.W.excIn K C He.veBase "ValueError.__new__" = true ∧ PySem.W.keepIn K (.ref C) = true ∧ PySem.W.subIn K (.ref C) (.type "BaseException") = some true ∧ PySem.W.typeIn K (.ref C) = some (.type "type")
section
variable {P : Program} {w : World} {K : PySem.W.Frag} {mg : Str → Option Value} {base : Heap} {f : Addr} {name qual : Str} {params : Arguments} {body : List Stmt} {scope : Scope} {dvs : List V} {N ps : List Str} {k : Nat} {sp : Sp}
/-- the body's question of a def -/
abbrev BodyQ (P : Program) (w : World) (K : PySem.W.Frag) (mg : Str → Option Value) (base : Heap) (k : Nat) (f : Addr) (qual : Str) (body : List Stmt) (scope : Scope) (N : List Str) (sp : Sp) : Prop :=
  ∀ (cdv : Value) (A : Around) (outer : List Env) (s : Shared) (H : Hp) (vs : List V) (Q : VK) (E : XK), Room k (A.deeper (envOfC qual scope s.heap.objs.size f cdv)) → sp vs H Q E →
      ∃ t, PSs (cxOf (L2.CX P w) P w K mg base N qual scope f cdv A outer s H E) body t ∧ t { nx := fun _ H' => Q .non H', rt := Q } (start N vs) H
theorem okD (F : ∃ fd, FunD K name qual params body scope [] [] f fd) (S : FnScope N ps scope)
    (hb : ∀ (kV doc pm : Value) (an : Option Addr) (cdv ct : Value) (us : List Value), us.length = ps.length → bindArgs (PySem.W.fnOf name qual params body scope .none kV doc pm an cdv ct) ⟨us, []⟩ = pure (ps.zip us))
    (len : ∀ vs H Q E, sp vs H Q E → vs.length = ps.length) (h : BodyQ P w K mg base k f qual body scope N sp) : OkD P w K mg base (k + 1) f ps [] sp := by
  obtain ⟨fd, F⟩ := F
  exact ⟨fd, [], F.ok S len h, F.bindsN hb, .nil, F.kp⟩
/-- a def with defaults, called with all but the last dvs.drop j -/
theorem okDd (F : ∃ fd, FunD K name qual params body scope dvs [] f fd) (S : FnScope N ps scope) (n j : Nat) (hd : dvs ≠ []) (hn : n + (dvs.length - j) = ps.length)
    (hb : ∀ (T : Addr) (kV doc pm : Value) (an : Option Addr) (cdv ct : Value) (us its : List Value), us.length = n → its.length = dvs.length →
      ∃ k, bindArgs (PySem.W.fnOf name qual params body scope (.ref T) kV doc pm an cdv ct) ⟨us, []⟩ = seqItems? (.ref T) >>= k ∧ k (some its.toArray) = pure (ps.zip (us ++ its.drop j)))
    (len : ∀ vs H Q E, sp vs H Q E → vs.length = ps.length) (h : BodyQ P w K mg base k f qual body scope N sp) : OkD P w K mg base (k + 1) f ps (dvs.drop j) sp := by
  obtain ⟨fd, F⟩ := F
  obtain ⟨ds, h1, h2⟩ := F.binds1 n j hd hn hb
  exact ⟨fd, ds, F.ok S len h, h2, h1, F.kp⟩
end
section
variable {X : Cx} {k : Nat} {f : Addr} {ps : List Str} {dvs : List V} {sp : Sp} {E : XK} {x : Str} {p pos : Pos} {e : Expr} {es : List Expr} {t : TA}
theorem pe_cal (o : OkD X.prog X.w X.K X.mg X.base k f ps dvs sp) (hr : Room k X.A) (hg : Gl X x) (hm : X.mg x = some (.ref f)) (hx : Passes (L2.CX X.prog X.w) X E)
    (ha : PA X (e :: es) t) (hdb : (x == ("__debug__" : Str)) = false := by decide) (he : starEach (e :: es) X.env = (false, eval e X.env) :: starEach es X.env := by rfl) (hpl : (backTo pos (starEach es X.env)).any (·.1) = false := by rfl) :
    PE X (.Call (.Name x p) (e :: es) [] pos) (tCall sp dvs E t) := by
  obtain ⟨fd, ds, F, hb, hd, hk⟩ := o
  exact pe_call F hr hg hm hk hb hd hx ha hdb he hpl
/-- a module's text, a module's number -/
theorem pe_gstr {z : Str} (hg : Gl X x) (hm : ∃ t, X.mg x = some (.str z t)) (hd : (x == ("__debug__" : Str)) = false := by decide) : PE X (.Name x pos) (tC (.str z)) := by
  obtain ⟨t, hm⟩ := hm
  exact pe_glob hg hm ⟨t, rfl⟩ hd
/-- no error leaves the callee -/
theorem pasN : Passes (L2.CX X.prog X.w) X (fun _ _ _ => False) := fun _ _ _ _ _ _ _ ⟨_, _, _, _, _, _, _, _, _, _, _, _, h⟩ => h.elim
/-- an error of a callee leaves here, too -/
theorem pasE {W : WX} (tk : Takes X W) {E : XK} (h : ∀ c d σ H, E c d H → W c d σ H) : Passes (L2.CX X.prog X.w) X E := fun pins σ H s e s' I c => passes_call tk h pins σ H s e s' I c
end
end SL
namespace SL
open PySem PySem.Spec PyProof.Rows L2
section
variable {X : Cx} {k : Nat} {f C : Addr} {ps : List Str} {dvs : List V} {sp : Sp} {E : XK} {x m : Str} {p pos apos : Pos} {o e : Expr} {es : List Expr} {ta : TE} {t : TA}
/-- o.m(..), the class told by what stands there: i says it -/
def tMeI {ι : Type} (D : ι → V → Hp → Prop) (spI : ι → Sp) (E : XK) (ta : TE) (t : TA) : TE := fun σ H Q => ta σ H fun x H1 => ∃ i, D i x H1 ∧ t σ H1 fun vs H2 => spI i (x :: vs) H2 Q E
/-- what a value must be for a method m of promise spI i -/
def MetD {ι : Type} (X : Cx) (k : Nat) (m : Str) (D : ι → V → Hp → Prop) (spI : ι → Sp) : Prop :=
  ∀ i x H, D i x H → ∃ a C dx fs g ps, x = .ref a ∧ H a = some (.ins C dx fs) ∧ Cls X.K C ∧ Meth X.K C m g ∧ fs.lookup m = none ∧ OkD X.prog X.w X.K X.mg X.base k g ps [] (spI i)
theorem pe_metI0 {ι : Type} {D : ι → V → Hp → Prop} {spI : ι → Sp} {pl : Sem Bool} (hD : MetD X k m D spI) (he : PE X o ta) (hr : Room k X.A) (hx : Passes (L2.CX X.prog X.w) X E)
    (ht : eval (.Call (.Attribute o m apos) [] [] pos) X.env = (do
      let ov ← eval o X.env
      standAt apos.atName
      let (f, first) ← holding [ov] (getMethod ov m pl)
      callWith pos f first (backTo pos (starEach [] X.env)) (backToKw pos (keywordEach [] X.env))) := by rfl) :
    PE X (.Call (.Attribute o m apos) [] [] pos) (tMeI D spI E ta tNil) := by
  refine ⟨fun pins s σ H Q I h => ?_⟩
  refine PySem.W.methodCall_KW (pl := pl) (thn (he.run pins s σ H _ I h) fun u s1 ⟨x, H1, I1, rx, i, hi, q⟩ => ?_) ht
  obtain ⟨a, C, dx, fs, g, ps, rfl, ea, c, hm, l, fd, ds, F, hb, hd, hk⟩ := hD i x H1 hi
  obtain rfl : u = Value.ref a := rx
  cases hd
  refine getmeth_ok I1 ea c hm l (PySem.W.callWith_K0 (first := [.ref a]) I1.kIn hm.kp ?_)
  exact run_fn (us := [.ref a]) (vs := [.ref a]) F hr hb .nil hx I1 (.cons rfl .nil) q
/-- C(e, ..) by its __init__ -/
theorem pe_mak (M : Mk X.K C f) (o : OkD X.prog X.w X.K X.mg X.base k f ps dvs sp) (hr : Room (k + 1) X.A) (hg : Gl X x) (hm : X.mg x = some (.ref C)) (hx : Passes (L2.CX X.prog X.w) X E)
    (ha : PA X (e :: es) t) (hdb : (x == ("__debug__" : Str)) = false := by decide) (he : starEach (e :: es) X.env = (false, eval e X.env) :: starEach es X.env := by rfl) (hpl : (backTo pos (starEach es X.env)).any (·.1) = false := by rfl) :
    PE X (.Call (.Name x p) (e :: es) [] pos) (tMake C sp dvs E t) := by
  obtain ⟨fd, ds, F, hb, hd, _⟩ := o
  exact pe_make M F hr hg hm hb hd hx ha hdb he hpl
/-- C() of a class that has no __init__ of its own -/
structure MkN (K : PySem.W.Frag) (C : Addr) : Prop where
  makes : PySem.W.makesIn K C = true
  init : PySem.W.findIn K (.ref C) "__init__" = some (some (.builtin "object.__init__"))
  kp : PySem.W.keepIn K (.ref C) = true
def tMakN (C : Addr) : TE := fun _ H Q => ∀ x dx, H x = none → H dx = none → dx ≠ x → Q (.ref x) (upd (upd H dx (.own x)) x (.ins C dx []))
theorem pe_makN (M : MkN X.K C) (hg : Gl X x) (hm : X.mg x = some (.ref C)) (hdb : (x == ("__debug__" : Str)) = false := by decide) : PE X (.Call (.Name x p) [] [] pos) (tMakN C) := by
  refine ⟨fun pins s σ H Q I h => ?_⟩
  refine wpAny_Call_Name_kw (ld_glob I hg hm ?_ hdb)
  refine PySem.W.callWith_K0 I.kIn M.kp (wpAny_call ?_)
  have I2 := Inv.made (C := C) I
  have hq := h (s.heap.objs.size + 1) s.heap.objs.size (I.hok.fresh (Nat.le_succ _)) (I.hok.fresh (Nat.le_refl _)) (Nat.ne_of_lt (Nat.lt_succ_self _))
  refine make_map0 I.kIn M.makes M.init (fun self => PySem.W.Looks.of_pure (PySem.W.oi_bind self)) ?_
  have Y := PySem.W.makes_of (M := model X.prog X.w) I.kIn M.makes
  have hx : ((s.heap.push PySem.W.emptyDict).push (PySem.W.instObj C s.heap.objs.size)).get? (s.heap.objs.size + 1) = some (PySem.W.instObj C s.heap.objs.size) := by
    have e := Heap.get?_push_size (s.heap.push PySem.W.emptyDict) (show (PySem.W.instObj C s.heap.objs.size).isFreed = false from rfl)
    rw [Heap.size_push] at e
    exact e
  have t1 : PySem.W.Looks (model X.prog X.w) ((s.heap.push PySem.W.emptyDict).push (PySem.W.instObj C s.heap.objs.size)) (isInstance (.ref (s.heap.objs.size + 1)) (.type "object")) true :=
    ((PySem.W.Looks.ld hx).andThen .now).andThen (Y.top.keeps fun b o e => Heap.get?_push_of_some _ (Heap.get?_push_of_some _ e))
  refine codeAny_call_builtin PySem.W.oi_plain PySem.W.entry_oi (@PySem.W.check_slot (model X.prog X.w) _ _ _ "object.__init__" "object" "__init__" (.ref (s.heap.objs.size + 1)) [] [] _ PySem.W.oi_kind PySem.W.oi_split t1 (PySem.W.oi_args (.ref (s.heap.objs.size + 1))) ?_)
  rw [PySem.W.oi_run]
  exact wpAny_pure ⟨rfl, .ref (s.heap.objs.size + 1), _, I2, rfl, hq⟩
end
/-- a def that keeps sp, called with n values and the keywords ks, in the order of its parameters -/
def OkK (P : Program) (w : World) (K : PySem.W.Frag) (mg : Str → Option Value) (base : Heap) (k : Nat) (f : Addr) (ps : List Str) (n : Nat) (ks : List Str) (sp : Sp) : Prop :=
  ∃ (fd : FuncData) (g : List Value → List Value → List Value) (gV : List V → List V → List V), FnOk P w K mg base (L2.CX P w) k f fd ps sp ∧ KBn K fd ps n ks g gV ∧ ∀ vs zs, gV vs zs = vs ++ zs
theorem okK {P : Program} {w : World} {K : PySem.W.Frag} {mg : Str → Option Value} {base : Heap} {f : Addr} {name qual : Str} {params : Arguments} {body : List Stmt} {scope : Scope} {dvs : List V} {N ps : List Str} {k : Nat} {sp : Sp}
    (F : ∃ fd, FunD K name qual params body scope dvs [] f fd) (S : FnScope N ps scope) (n : Nat) (ks : List Str) (hd : dvs ≠ [])
    (hb : ∀ (T : Addr) (kV doc pm : Value) (an : Option Addr) (cdv ct : Value) (us its ws : List Value), us.length = n → its.length = dvs.length → ws.length = ks.length →
      ∃ k, bindArgs (PySem.W.fnOf name qual params body scope (.ref T) kV doc pm an cdv ct) ⟨us, ks.zip ws⟩ = seqItems? (.ref T) >>= k ∧ k (some its.toArray) = pure (ps.zip (us ++ ws)))
    (len : ∀ vs H Q E, sp vs H Q E → vs.length = ps.length) (h : BodyQ P w K mg base k f qual body scope N sp) : OkK P w K mg base (k + 1) f ps n ks sp := by
  obtain ⟨fd, F⟩ := F
  obtain ⟨its, hk⟩ := F.kbindsD n ks (fun us _ ws => us ++ ws) hd (fun a _ c => a.append c) hb
  exact ⟨fd, _, _, F.ok S len h, hk, fun _ _ => rfl⟩
def tMakK (C : Addr) (n m : Nat) (sp : Sp) (E : XK) (t tk : TA) : TE := fun σ H Q => t σ H fun vs H1 => tk σ H1 fun zs H2 => vs.length = n ∧ zs.length = m ∧
  ∀ x dx, H2 x = none → H2 dx = none → dx ≠ x → sp (.ref x :: (vs ++ zs)) (upd (upd H2 dx (.own x)) x (.ins C dx [])) (fun v H3 => v = .non ∧ Q (.ref x) H3) E
/-- keywords turned about -/
def OkKr (P : Program) (w : World) (K : PySem.W.Frag) (mg : Str → Option Value) (base : Heap) (k : Nat) (f : Addr) (ps : List Str) (n : Nat) (ks : List Str) (sp : Sp) : Prop :=
  ∃ (fd : FuncData) (g : List Value → List Value → List Value) (gV : List V → List V → List V), FnOk P w K mg base (L2.CX P w) k f fd ps sp ∧ KBn K fd ps n ks g gV ∧ ∀ vs zs, gV vs zs = vs ++ zs.reverse
theorem okKr {P : Program} {w : World} {K : PySem.W.Frag} {mg : Str → Option Value} {base : Heap} {f : Addr} {name qual : Str} {params : Arguments} {body : List Stmt} {scope : Scope} {dvs : List V} {N ps : List Str} {k : Nat} {sp : Sp}
    (F : ∃ fd, FunD K name qual params body scope dvs [] f fd) (S : FnScope N ps scope) (n : Nat) (ks : List Str) (hd : dvs ≠ [])
    (hb : ∀ (T : Addr) (kV doc pm : Value) (an : Option Addr) (cdv ct : Value) (us its ws : List Value), us.length = n → its.length = dvs.length → ws.length = ks.length →
      ∃ k, bindArgs (PySem.W.fnOf name qual params body scope (.ref T) kV doc pm an cdv ct) ⟨us, ks.zip ws⟩ = seqItems? (.ref T) >>= k ∧ k (some its.toArray) = pure (ps.zip (us ++ ws.reverse)))
    (len : ∀ vs H Q E, sp vs H Q E → vs.length = ps.length) (h : BodyQ P w K mg base k f qual body scope N sp) : OkKr P w K mg base (k + 1) f ps n ks sp := by
  obtain ⟨fd, F⟩ := F
  obtain ⟨its, hk⟩ := F.kbindsD n ks (fun us _ ws => us ++ ws.reverse) hd (fun a _ c => a.append c.reverse) hb
  exact ⟨fd, _, _, F.ok S len h, hk, fun _ _ => rfl⟩
def tMakKr (C : Addr) (n m : Nat) (sp : Sp) (E : XK) (t tk : TA) : TE := fun σ H Q => t σ H fun vs H1 => tk σ H1 fun zs H2 => vs.length = n ∧ zs.length = m ∧
  ∀ x dx, H2 x = none → H2 dx = none → dx ≠ x → sp (.ref x :: (vs ++ zs.reverse)) (upd (upd H2 dx (.own x)) x (.ins C dx [])) (fun v H3 => v = .non ∧ Q (.ref x) H3) E
end SL
namespace SL
open PySem PySem.Spec PyProof.Rows L2
theorem hu64 {k : Nat} {A : Around} (hr : Room k A) : A.units + 64 < cLine := hr.units
section
variable {X : Cx}
theorem OpR.imp {f : Value → Value → Sem Value} {r r' : R2} (h : OpR X f r) (i : ∀ x y H Q, r' x y H Q → r x y H Q) : OpR X f r' := fun pins s σ H x y v u Q I rx ry q => h pins s σ H x y v u Q I rx ry (i _ _ _ _ q)
theorem IxR.imp {r r' : R2} (h : IxR X r) (i : ∀ x y H Q, r' x y H Q → r x y H Q) : IxR X r' := fun value slice pins s σ H x y v u Q I rx ry q hs => h value slice pins s σ H x y v u Q I rx ry (i _ _ _ _ q) hs
theorem CallR.imp {f : Value} {r r' : List V → Hp → VK → Prop} (h : CallR X f r) (i : ∀ xs H Q, r' xs H Q → r xs H Q) : CallR X f r' := fun pins s σ H xs us Q I rx q => h pins s σ H xs us Q I rx (i _ _ _ q)
/-! ### + and * -/
def rAddU (K : PySem.W.Frag) : R2 := fun x y H Q => match x, y with
  | .int i, .int j => Q (.int (i + j)) H
  | .int i, .bl b => Q (.int (i + b2i b)) H
  | .str a, .str b => a.length + b.length ≤ sizeLine ∧ Q (.str (a ++ b)) H
  | .ref a, .ref b => rCat (.ref a) (.ref b) H Q ∨ rCatT K (.ref a) (.ref b) H Q
  | _, _ => False
theorem o_add {K : PySem.W.Frag} (hK : X.K = K := by rfl) : OpR X (binaryOp .Add) (rAddU K) := by
  subst hK
  refine OpR.imp (op_add.or (op_add_ib.or (op_add_str.or (op_cat.or op_catT)))) fun x y H Q h => ?_
  cases x <;> cases y <;> first
    | exact absurd h id
    | exact .inl ⟨_, _, rfl, rfl, h⟩
    | exact .inr (.inl ⟨_, _, rfl, rfl, h⟩)
    | exact .inr (.inr (.inl ⟨_, _, rfl, rfl, h.1, h.2⟩))
    | exact .inr (.inr (.inr h))
def rMulU : R2 := fun x y H Q => match x, y with
  | .int i, .int j => CMul i j ∧ Q (.int (i * j)) H
  | .ref a, .int j => rRep (.ref a) (.int j) H Q
  | _, _ => False
theorem o_mul : OpR X (binaryOp .Mult) rMulU := by
  refine OpR.imp (op_mul.or op_rep) fun x y H Q h => ?_
  cases x <;> cases y <;> first
    | exact absurd h id
    | exact .inl ⟨_, _, rfl, rfl, h.1, h.2⟩
    | exact .inr h
/-! ### comparisons -/
def isRef : V → Bool
  | .ref _ => true
  | _ => false
/-- lists of different lengths -/
def lenNe (K : PySem.W.Frag) (b : Bool) : R2 := fun x y H Q => ∃ p q xs ys, x = .ref p ∧ y = .ref q ∧ SqL K H p xs ∧ SqL K H q ys ∧ xs.length ≠ ys.length ∧ Q (.bl b) H
theorem op_eqLen (hu : X.A.units + 64 < cLine) : OpR X (compareOp .Eq) (lenNe X.K false) := by
  intro pins s σ H x y v u Q I rx ry h
  obtain ⟨p, q, xs, ys, rfl, rfl, h1, h2, hn, k⟩ := h
  cases rx
  cases ry
  obtain ⟨its, r, pl, _⟩ := I.list h1
  obtain ⟨its2, r2, pl2, _⟩ := I.list h2
  have e1 := r.length
  have e2 := r2.length
  exact SeqAt.RcAt.lists_lengths pl.isList pl2.isList (by simp; omega) (by omega) _ _ _ _ ⟨.bl _, H, I, rfl, k⟩
theorem op_neLen (hu : X.A.units + 64 < cLine) : OpR X (compareOp .NotEq) (lenNe X.K true) := by
  intro pins s σ H x y v u Q I rx ry h
  obtain ⟨p, q, xs, ys, rfl, rfl, h1, h2, hn, k⟩ := h
  cases rx
  cases ry
  obtain ⟨its, r, pl, _⟩ := I.list h1
  obtain ⟨its2, r2, pl2, _⟩ := I.list h2
  have e1 := r.length
  have e2 := r2.length
  exact SeqAt.RcNeAt.lists_lengths pl.isList pl2.isList (by simp; omega) (by omega) _ _ _ _ ⟨.bl _, H, I, rfl, k⟩
def rEqR (K : PySem.W.Frag) : R2 := fun x y H Q => rEqD K x y H Q ∨ lenNe K false x y H Q
def rNeR (K : PySem.W.Frag) : R2 := fun x y H Q => rNeD K x y H Q ∨ lenNe K true x y H Q
def rEqU (K : PySem.W.Frag) : R2 := fun x y H Q => match isRef x || isRef y with
  | true => rEqR K x y H Q
  | false => scal x y = true ∧ Q (.bl (decide (x = y))) H
def rNeU (K : PySem.W.Frag) : R2 := fun x y H Q => match isRef x || isRef y with
  | true => rNeR K x y H Q
  | false => scal x y = true ∧ Q (.bl (!decide (x = y))) H
theorem o_eq {K : PySem.W.Frag} (hu : X.A.units + 64 < cLine) (hK : X.K = K := by rfl) : OpR X (compareOp .Eq) (rEqU K) := by
  subst hK
  refine OpR.imp (op_eq.or ((op_eqD hu).or (op_eqLen hu))) fun x y H Q h => ?_
  unfold rEqU at h
  split at h
  · exact .inr h
  · exact .inl h
theorem o_ne {K : PySem.W.Frag} (hu : X.A.units + 64 < cLine) (hK : X.K = K := by rfl) : OpR X (compareOp .NotEq) (rNeU K) := by
  subst hK
  refine OpR.imp (op_ne.or ((op_neD hu).or (op_neLen hu))) fun x y H Q h => ?_
  unfold rNeU at h
  split at h
  · exact .inr h
  · exact .inl h
/-- a list against the empty list -/
theorem eq_nil {K : PySem.W.Frag} {p q : Addr} {xs : List V} {H : Hp} {Q : VK} (h1 : SqL K H p xs) (h2 : SqL K H q []) (k : Q (.bl (decide (xs = []))) H) : rEqR K (.ref p) (.ref q) H Q := by
  cases xs with
  | nil => exact .inl ⟨.list [], .list [], .lst h1 .nil, .lst h2 .nil, rfl, rfl, k⟩
  | cons x r => exact .inr ⟨p, q, _, _, rfl, rfl, h1, h2, by simp, k⟩
theorem ne_nil {K : PySem.W.Frag} {p q : Addr} {xs : List V} {H : Hp} {Q : VK} (h1 : SqL K H p xs) (h2 : SqL K H q []) (k : Q (.bl (!decide (xs = []))) H) : rNeR K (.ref p) (.ref q) H Q := by
  cases xs with
  | nil => exact .inl ⟨.list [], .list [], .lst h1 .nil, .lst h2 .nil, rfl, rfl, k⟩
  | cons x r => exact .inr ⟨p, q, _, _, rfl, rfl, h1, h2, by simp, k⟩
/-! ### is, of truths and None -/
def rIsBo : R2 := fun x y H Q => match x, y with
  | .bl a, .bl b => Q (.bl (a == b)) H
  | _, _ => False
def rNotBo : R2 := fun x y H Q => match x, y with
  | .bl a, .bl b => Q (.bl (!(a == b))) H
  | _, _ => False
/-! ### int of a number or a truth -/
def rIntU : List V → Hp → VK → Prop := fun xs H Q => match xs with
  | [.int i] => Q (.int i) H
  | [.bl k] => Q (.int (if k then 1 else 0)) H
  | _ => False
/-! ### x += y -/
def rIadd : TIp := fun x y H Q => match x, y with
  | .int i, .int j => Q (.int (i + j)) H
  | .str a, .str b => a.length + b.length ≤ sizeLine ∧ Q (.str (a ++ b)) H
  | .ref a, .ref b => rExt2 (.ref a) (.ref b) H Q
  | _, _ => False
theorem o_iadd : PIp X .Add rIadd := fun pins s σ H x y v u Q I rx ry h => match x, y, h with
  | .int i, .int j, q => ip_add pins s σ H _ _ v u Q I rx ry ⟨i, j, rfl, rfl, q⟩
  | .str a, .str b, q => iop_add_str pins s σ H _ _ v u Q I rx ry ⟨a, b, rfl, rfl, q⟩
  | .ref a, .ref b, q => iop_ext pins s σ H _ _ v u Q I rx ry q
def rCmp (f : Int → Int → Bool) (g : List Nat → List Nat → Bool) : R2 := fun x y H Q => match x, y with
  | .int i, .int j => Q (.bl (f i j)) H
  | .str a, .str b => Q (.bl (g a.cps.toList b.cps.toList)) H
  | _, _ => False
theorem o_lt : OpR X (compareOp .Lt) (rCmp (fun i j => decide (i < j)) (fun a b => decide (a < b))) := by
  refine OpR.imp (op_lt.or op_lt_str) fun x y H Q h => ?_
  cases x <;> cases y <;> first
    | exact absurd h id
    | exact .inl ⟨_, _, rfl, rfl, h⟩
    | exact .inr ⟨_, _, rfl, rfl, h⟩
theorem o_gt : OpR X (compareOp .Gt) (rCmp (fun i j => decide (j < i)) (fun a b => decide (b < a))) := by
  refine OpR.imp (op_gt.or op_gt_str) fun x y H Q h => ?_
  cases x <;> cases y <;> first
    | exact absurd h id
    | exact .inl ⟨_, _, rfl, rfl, h⟩
    | exact .inr ⟨_, _, rfl, rfl, h⟩
/-- in: a sign in a text, a text in a text, data in a list of data, a flat thing in a list or a tuple -/
def rInU (K : PySem.W.Frag) : R2 := fun x y H Q => match x, y with
  | .str a, .str b => (∃ c, a = ⟨#[c]⟩ ∧ Q (.bl (decide (c ∈ b.cps.toList))) H) ∨ Q (.bl (!(Builtin.Str.occurrences b a 0 b.length 1).isEmpty)) H
  | .ref a, .ref b => rInD K (.ref a) (.ref b) H Q
  | x, .ref b => rIn K false x (.ref b) H Q
  | _, _ => False
theorem hu65 {k : Nat} {A : Around} (hr : Room k A) : A.units + 65 < cLine := by
  have := hr.un
  omega
theorem o_in {K : PySem.W.Frag} (hu : X.A.units + 65 < cLine) (hK : X.K = K := by rfl) : OpR X (compareOp .In) (rInU K) := by
  subst hK
  refine OpR.imp (op_in_sign.or (op_in_str.or (op_in_seq.or (op_inD hu)))) fun x y H Q h => ?_
  cases y with
  | ref b => cases x with
    | ref a => exact .inr (.inr (.inr h))
    | _ => exact .inr (.inr (.inl h))
  | str b =>
    cases x with
    | str a =>
      rcases h with ⟨c, rfl, q⟩ | q
      · exact .inl ⟨c, b, rfl, rfl, q⟩
      · exact .inr (.inl ⟨a, b, rfl, rfl, q⟩)
    | _ => exact absurd h id
  | _ => cases x <;> exact absurd h id
def rNotInU (K : PySem.W.Frag) : R2 := fun x y H Q => match x, y with
  | .str a, .str b => (∃ c, a = ⟨#[c]⟩ ∧ Q (.bl (!decide (c ∈ b.cps.toList))) H) ∨ Q (.bl (!(!(Builtin.Str.occurrences b a 0 b.length 1).isEmpty))) H
  | .ref a, .ref b => rNotInD K (.ref a) (.ref b) H Q
  | x, .ref b => rIn K true x (.ref b) H Q
  | _, _ => False
theorem o_notin {K : PySem.W.Frag} (hu : X.A.units + 65 < cLine) (hK : X.K = K := by rfl) : OpR X (compareOp .NotIn) (rNotInU K) := by
  subst hK
  refine OpR.imp (op_notIn_sign.or (op_notIn_str.or (op_notIn_seq.or (op_notInD hu)))) fun x y H Q h => ?_
  cases y with
  | ref b => cases x with
    | ref a => exact .inr (.inr (.inr h))
    | _ => exact .inr (.inr (.inl h))
  | str b =>
    cases x with
    | str a =>
      rcases h with ⟨c, rfl, q⟩ | q
      · exact .inl ⟨c, b, rfl, rfl, q⟩
      · exact .inr (.inl ⟨a, b, rfl, rfl, q⟩)
    | _ => exact absurd h id
  | _ => cases x <;> exact absurd h id
/-! ### items, slices, walks -/
def rIxU (K : PySem.W.Frag) : R2 := fun x y H Q => match x, y with
  | .ref p, .int i => ∃ xs v, (SqL K H p xs ∨ SqT K H p xs) ∧ atI xs i = some v ∧ Q v H
  | .str z, .int i => z.length ≤ sizeLine ∧ ∃ c, atI z.cps.toList i = some c ∧ Q (.str ⟨#[c]⟩) H
  | _, _ => False
theorem o_ix {K : PySem.W.Frag} (hK : X.K = K := by rfl) : IxR X (rIxU K) := by
  subst hK
  refine IxR.imp ix_seq fun x y H Q h => ?_
  cases y with
  | int i =>
    cases x with
    | ref p =>
      obtain ⟨xs, v, h1 | h1, h2, q⟩ := h
      · exact .inl ⟨p, xs, i, v, rfl, rfl, h1, h2, q⟩
      · exact .inr (.inl ⟨p, xs, i, v, rfl, rfl, h1, h2, q⟩)
    | str z =>
      obtain ⟨h0, c, h2, q⟩ := h
      exact .inr (.inr ⟨z, i, c, rfl, rfl, h0, h2, q⟩)
    | _ => exact absurd h id
  | _ => cases x <;> exact absurd h id
def iU (K : PySem.W.Frag) (te : TE) : TI := fun σ H R => te σ H fun x H1 => match x with
  | .ref a => ((∃ xs, SqL K H1 a xs) ∧ R (Itl K a) H1) ∨ ((∃ xs, SqT K H1 a xs) ∧ R (Itt K a) H1)
  | .str z => R (Its z) H1
  | _ => False
theorem o_it {K : PySem.W.Frag} {tg e : Expr} {te : TE} (hc : X.calm = true) (he : PE X e te) (hK : X.K = K := by rfl) : PI X tg e (iU K te) := by
  subst hK
  refine ⟨fun pins s σ H R I h => ?_⟩
  refine thn (he.run pins s σ H _ I h) fun v s1 ⟨x, H1, I1, r1, q1⟩ => ?_
  cases x with
  | ref a =>
    cases r1
    rcases q1 with ⟨⟨xs, hq⟩, q⟩ | ⟨⟨xs, hq⟩, q⟩
    · obtain ⟨its, rv, p, hz⟩ := I1.list hq
      exact wpAny_pyIter_list p.isList (pi_one (tk := s1.toks) I1 _ (turn_list a _) ⟨_, Heap.get?_push_size _ rfl, rfl, rfl⟩ q)
    · obtain ⟨its, rv, p, hz⟩ := I1.tuple hq
      exact wpAny_pyIter_tuple (show s1.heap.IsTuple a its.toArray from p) (pi_one (tk := s1.toks) I1 _ (turn_tuple a _) ⟨_, Heap.get?_push_size _ rfl, rfl, rfl⟩ q)
  | str z =>
    obtain ⟨t, rfl⟩ := r1
    cases ha : z.cps.all (· < 128)
    · exact wpAny_pyIter_wide ha (pi_one (tk := s1.toks) I1 _ (turn_str _ z t "str_iterator" (.inr rfl)) ⟨_, Heap.get?_push_size _ rfl, rfl, rfl⟩ q1)
    · exact wpAny_pyIter_ascii ha (pi_one (tk := s1.toks) I1 _ (turn_str _ z t "str_ascii_iterator" (.inl rfl)) ⟨_, Heap.get?_push_size _ rfl, rfl, rfl⟩ q1)
  | _ => exact absurd q1 id
/-! ### slices, len, list, the truth of a value -/
def rSlU (K : PySem.W.Frag) : V → Option Int → Option Int → Hp → VK → Prop := fun x lo hi H Q => match x with
  | .str z => z.length ≤ sizeLine ∧ Q (.str (cutS z lo hi)) H
  | .ref a => (∃ xs, SqL K H a xs ∧ ∀ p, H p = none → Q (.ref p) (upd H p (.lst (cutV xs lo hi)))) ∨
    ∃ xs, SqT K H a xs ∧ (HT.sIx xs.length 0 lo = 0 ∧ HT.sIx xs.length xs.length hi = xs.length → Q (.ref a) H) ∧
      (¬ (HT.sIx xs.length 0 lo = 0 ∧ HT.sIx xs.length xs.length hi = xs.length) → ∀ p, H p = none → Q (.ref p) (upd H p (.tup (cutV xs lo hi))))
  | _ => False
theorem SlR.imp {r r' : V → Option Int → Option Int → Hp → VK → Prop} (h : SlR X r) (i : ∀ x lo hi H Q, r' x lo hi H Q → r x lo hi H Q) : SlR X r' := fun pins s σ H x v vl vu lo hi sl Q I rx hs pl pu q => h pins s σ H x v vl vu lo hi sl Q I rx hs pl pu (i _ _ _ _ _ q)
theorem o_sl {K : PySem.W.Frag} (hK : X.K = K := by rfl) : SlR X (rSlU K) := by
  subst hK
  refine SlR.imp (sl_list.or (sl_tupA.or sl_str)) fun x lo hi H Q h => ?_
  match x, h with
  | .str z, ⟨h1, h2⟩ => exact .inr (.inr ⟨z, rfl, h1, h2⟩)
  | .ref a, .inl ⟨xs, h1, h2⟩ => exact .inl ⟨a, xs, rfl, h1, h2⟩
  | .ref a, .inr ⟨xs, h1, h2, h3⟩ => exact .inr (.inl ⟨a, xs, rfl, h1, h2, h3⟩)
def rLenU (K : PySem.W.Frag) : List V → Hp → VK → Prop := fun xs H Q => match xs with
  | [x] => ∃ n, LenV K x H n ∧ Q (.int n) H
  | _ => False
theorem o_len {K : PySem.W.Frag} (hK : X.K = K := by rfl) : CallR X (.builtin "len") (rLenU K) := by
  subst hK
  refine CallR.imp call_len fun xs H Q h => ?_
  match xs, h with
  | [x], ⟨n, h, q⟩ => exact ⟨x, n, rfl, h, q⟩
theorem pt_tru {K : PySem.W.Frag} {a : Expr} {ta : TE} (ha : PE X a ta) (he : ∀ whole, isTrue a X.env whole = (do let v ← whole; standAt a.pos; holding [v] (truthy v))) (hK : X.K = K := by rfl) : PT X a (fun σ H Q => ta σ H fun x H1 => ∃ k, TruV K x H1 k ∧ Q k H1) := by
  subst hK
  exact pt_truth ha he
theorem pe_notK {K : PySem.W.Frag} {a : Expr} {ta : TE} {pos : Pos} (ha : PE X a ta) (hK : X.K = K := by rfl) : PE X (.UnaryOp .Not a pos) (tNotT K ta) := by
  subst hK
  exact pe_notT ha
theorem pe_orK {K : PySem.W.Frag} {a b : Expr} {rest : List Expr} {ta tb : TE} {pos : Pos} (ha : PE X a ta) (hb : PE X (.BoolOp .Or (b :: rest) pos) tb) (hK : X.K = K := by rfl) : PE X (.BoolOp .Or (a :: b :: rest) pos) (tOrT K ta tb) := by
  subst hK
  exact pe_orT ha hb
theorem pe_andK {K : PySem.W.Frag} {a b : Expr} {rest : List Expr} {ta tb : TE} {pos : Pos} (ha : PE X a ta) (hb : PE X (.BoolOp .And (b :: rest) pos) tb) (hK : X.K = K := by rfl) : PE X (.BoolOp .And (a :: b :: rest) pos) (tAndT K ta tb) := by
  subst hK
  exact pe_andT ha hb
theorem pe_fldK {K : PySem.W.Frag} {e : Expr} {f : Str} {ta : TE} {pos : Pos} (he : PE X e ta) (hb : attributeBase e f X.env (eval e X.env) = eval e X.env) (hK : X.K = K := by rfl) : PE X (.Attribute e f pos) (tFld K ta f) := by
  subst hK
  exact pe_fld he hb
theorem o_all {K : PySem.W.Frag} (hc : X.calm = true) (hK : X.K = K := by rfl) : CallR X (.builtin "all") (rAll K) := by
  subst hK
  exact cr_all hc
/-- isinstance(x, T), T built in -/
def rIsiU (K : PySem.W.Frag) : List V → Hp → VK → Prop := fun xs H Q => match xs with
  | [x, .ty n] => ∃ (t : String) (b : Bool), TyX K H x (.type t) ∧ kitB t n = some b ∧ Q (.bl b) H
  | _ => False
theorem o_isi {K : PySem.W.Frag} (hK : X.K = K := by rfl) : CallR X (.builtin "isinstance") (rIsiU K) := by
  subst hK
  refine CallR.imp call_isi fun xs H Q h => ?_
  match xs, h with
  | [x, .ty n], ⟨t, b, h1, h2, q⟩ => exact ⟨x, .ty n, .type t, .type n, b, rfl, .ty n, h1, kit_ty h2, q⟩
def rTupU (K : PySem.W.Frag) : List V → Hp → VK → Prop := fun xs H Q => match xs with
  | [.ref p] => ∃ ys, (SqL K H p ys ∧ ∀ l, H l = none → Q (.ref l) (upd H l (.tup ys))) ∨ (SqT K H p ys ∧ Q (.ref p) H)
  | _ => False
theorem o_tuple {K : PySem.W.Frag} (hK : X.K = K := by rfl) : CallR X (.type "tuple") (rTupU K) := by
  subst hK
  refine CallR.imp call_tuple_of fun xs H Q h => ?_
  match xs, h with
  | [.ref p], ⟨ys, h⟩ => exact ⟨p, ys, rfl, h⟩
end
end SL
namespace SL
open PySem PySem.Spec PyProof.Rows L2
section
variable {K : PySem.W.Frag} {H H' : Hp}
theorem same_new {p : Addr} {o : HO} (h : H p = none) : Same H (upd H p o) := fun a u e => by
  rw [upd_ne (ne_of_none e h)]
  exact e
/-- an object that H does not know may change -/
theorem same_mut {p : Addr} {o : HO} (e : Same H H') (h : H p = none) : Same H (upd H' p o) := fun a u ha => by
  rw [upd_ne (ne_of_none ha h)]
  exact e a u ha
theorem same_rd {a : Addr} {u : HO} (e : Same H H') (h : Rd H a u) : Rd H' a u := by
  rcases h with h | ⟨o, h⟩
  · exact .inl (e a _ h)
  · exact .inr ⟨o, e a _ h⟩
theorem same_l {a : Addr} {xs : List V} (e : Same H H') (h : SqL K H a xs) : SqL K H' a xs := e.seq h
theorem same_t {a : Addr} {xs : List V} (e : Same H H') (h : SqT K H a xs) : SqT K H' a xs := by
  rcases h with h | h
  · exact .inl (same_rd e h)
  · exact .inr h
mutual
theorem dp_mono (e : Same H H') : ∀ (d : PyData) (v : V), Dp K H v d → Dp K H' v d
  | .none, _, .non => .non
  | .bool _, _, .bl b => .bl b
  | .int _, _, .int i => .int i
  | .str _, _, .str x => .str x
  | .list ds, _, .lst h a => .lst (same_l e h) (dpAll_mono e ds _ a)
  | .tuple ds, _, .tup h a => .tup (same_t e h) (dpAll_mono e ds _ a)
theorem dpAll_mono (e : Same H H') : ∀ (ds : List PyData) (vs : List V), DpAll K H vs ds → DpAll K H' vs ds
  | [], _, .nil => .nil
  | d :: ds, _, .cons h t => .cons (dp_mono e d _ h) (dpAll_mono e ds _ t)
end
end
section
variable {CX : CXT} {P : Program} {w : World} {K : PySem.W.Frag} {mg : Str → Option Value} {base : Heap} {N : List Str} {qual : Str} {scope : Scope} {f : Addr} {cd : Value} {A : Around} {outer : List Env} {s : Shared} {H : Hp} {E : XK}
theorem cxK : (cxOf CX P w K mg base N qual scope f cd A outer s H E).K = K := rfl
theorem cxW : (cxOf CX P w K mg base N qual scope f cd A outer s H E).w = w := rfl
theorem cxP : (cxOf CX P w K mg base N qual scope f cd A outer s H E).prog = P := rfl
end
section
variable {K : PySem.W.Frag} {H : Hp} {k : Bool} {n : Nat}
theorem truBl {b : Bool} : TruV K (.bl b) H k = (k = b) := rfl
theorem truInt {i : Int} : TruV K (.int i) H k = (k = (i != 0)) := rfl
theorem truNon : TruV K .non H k = (k = false) := rfl
theorem truStr {y : Str} : TruV K (.str y) H k = (y.length ≤ sizeLine ∧ k = ((y.length : Int) != 0)) := rfl
theorem lenStr {z : Str} {R : Nat → Prop} : (∃ n, LenV K (.str z) H n ∧ R n) = (z.length ≤ sizeLine ∧ R z.length) := by
  refine propext ⟨fun ⟨n, ⟨h1, h2⟩, h⟩ => ?_, fun ⟨h1, h⟩ => ⟨_, ⟨h1, rfl⟩, h⟩⟩
  subst h2
  exact ⟨h1, h⟩
end
theorem sameT {H : Hp} : Same H H = True := propext ⟨fun _ => trivial, fun _ => Same.refl H⟩
theorem ite_tt {A B : Prop} : (if true = true then A else B) = A := by simp
theorem ite_ff {A B : Prop} : (if false = true then A else B) = B := by simp
theorem le_sz {n : Nat} : (n ≤ sizeLine) = (n ≤ 16777216) := by rw [sizeLine_eq]
theorem lt_sz {n : Nat} : (n < sizeLine) = (n < 16777216) := by rw [sizeLine_eq]
/-- a value by what is wanted of it alone -/
def tMid (te : TE) : TE := fun σ H Q => ∃ Q' : VK, te σ H Q' ∧ ∀ v H1, Q' v H1 → Q v H1
theorem pe_mid {X : Cx} {e : Expr} {te : TE} (h : PE X e te) : PE X e (tMid te) := ⟨fun pins s σ H Q I ⟨_, h1, h2⟩ => thn (h.run pins s σ H _ I h1) fun _ _ ⟨v, H1, I1, r, q⟩ => ⟨v, H1, I1, r, h2 v H1 q⟩⟩
theorem q_mid {i : Nat} {te : TE} {u : TS} {D : Ends} {σ : L2.St} {H : Hp} (C : Int → Prop) (h : te σ H fun v H1 => H1 = H ∧ ∃ n, v = .int n ∧ C n) (k : ∀ n, C n → u D (σ.set i (some (.int n))) H) : tSeq (tAsg (tMid te) (gName i)) u D σ H :=
  ⟨_, h, fun v H1 ⟨e, n, ev, c⟩ => by rw [e, ev]; exact k n c⟩
end SL
namespace SL
open PySem PySem.Spec PyProof.Rows L2
/-- all but the lists stay -/
def NL (H H' : Hp) : Prop := ∀ a o, H a = some o → (∀ l, o ≠ .lst l) → H' a = some o
theorem NL.of {H H' : Hp} (e : Same H H') : NL H H' := fun a o h _ => e a o h
theorem NL.refl {H : Hp} : NL H H := fun _ _ h _ => h
theorem NL.trans {H H1 H2 : Hp} (a : NL H H1) (b : NL H1 H2) : NL H H2 := fun c o h n => b c o (a c o h n) n
theorem nl_upd {H : Hp} {D : Addr} {l : List V} {o : HO} (h : H D = some (.lst l)) : NL H (upd H D o) := fun a u e n => by
  have q : a ≠ D := fun z => by
    rw [z, h] at e
    exact n l (Option.some.inj e).symm
  rw [upd_ne q]
  exact e
/-! ### walked things, by what is wanted of them alone -/
def iMid (wi : TI) : TI := fun σ H R => ∃ R' : It → Hp → Prop, wi σ H R' ∧ ∀ J H1, R' J H1 → R J H1
theorem pi_mid {X : Cx} {tg it : Expr} {wi : TI} (h : PI X tg it wi) : PI X tg it (iMid wi) := ⟨fun pins s σ H R I ⟨_, h1, h2⟩ => thn (h.run pins s σ H _ I h1) fun _ s1 q => thn q fun _ _ ⟨it, fp, tn, J, H', e, I', T, st, f, r⟩ => ⟨it, fp, tn, J, H', e, I', T, st, f, h2 J H' r⟩⟩
def tMidT (tt : TT) : TT := fun σ H Q => ∃ Q' : Bool → Hp → Prop, tt σ H Q' ∧ ∀ b H1, Q' b H1 → Q b H1
theorem pt_mid {X : Cx} {e : Expr} {tt : TT} (h : PT X e tt) : PT X e (tMidT tt) := ⟨fun pins s σ H Q I ⟨_, h1, h2⟩ => thn (h.run pins s σ H _ I h1) fun _ _ ⟨H1, I1, q⟩ => ⟨H1, I1, h2 _ H1 q⟩⟩
section
variable {J0 : It} {n : Nat} {G : Hp → Prop} {Y : Nat → Hp → V → Hp → Prop} {wi : TI} {i : Nat} {tb : TS} {D : Ends} {σ : L2.St} {H H0 : Hp}
theorem for_mid (h : wi σ H fun J H1 => J = J0 ∧ H1 = H0) (w : Walk J0 n G Y) (Pv : Nat → L2.St → Hp → Prop) (h0 : Pv 0 σ H0) (hG : ∀ i σ H, i ≤ n → Pv i σ H → G H)
    (hs : ∀ k x σ H H', k < n → Pv k σ H → Y k H x H' → tb { D with nx := Pv (k + 1), ct := Pv (k + 1), bk := D.nx } (σ.set i (some x)) H') (hd : ∀ σ H, Pv n σ H → D.nx σ H) : tFor (iMid wi) (gName i) tb D σ H := by
  refine ⟨_, h, ?_⟩
  rintro J H1 ⟨rfl, rfl⟩
  exact for_it w Pv h0 hG (fun k x σ H H' hk p y => hs k x σ H H' hk p y) hd
theorem for_midg {g : TG} (h : wi σ H fun J H1 => J = J0 ∧ H1 = H0) (w : Walk J0 n G Y) (Pv : Nat → L2.St → Hp → Prop) (h0 : Pv 0 σ H0) (hG : ∀ i σ H, i ≤ n → Pv i σ H → G H)
    (hs : ∀ k x σ H H', k < n → Pv k σ H → Y k H x H' → g x σ H' fun σ2 H2 => tb { D with nx := Pv (k + 1), ct := Pv (k + 1), bk := D.nx } σ2 H2) (hd : ∀ σ H, Pv n σ H → D.nx σ H) : tFor (iMid wi) g tb D σ H := by
  refine ⟨_, h, ?_⟩
  rintro J H1 ⟨rfl, rfl⟩
  exact for_it w Pv h0 hG (fun k x σ H H' hk p y => hs k x σ H H' hk p y) hd
/-- a comprehension: C by the turn, what is made so far, the heap (all but lists stay) -/
theorem lc_midM {vs : List Nat} {te : TE} {Q : VK} (h : wi σ H fun J H1 => J = J0 ∧ H1 = H0) (w : Walk J0 n G Y) (hn : n < 16777216) (C : Nat → List V → Hp → Prop) (hC : ∀ k acc Ha Hb, NL Ha Hb → C k acc Ha → C k acc Hb) (h0 : C 0 [] H0)
    (hG : ∀ H', Same H0 H' → G H') (hY : ∀ k H x H', Y k H x H' → Same H H') (hw : ∀ x, wipe ((wipe σ vs).set i (some x)) vs = wipe σ vs)
    (turn : ∀ k x acc H' H'', k < n → Same H0 H' → C k acc H' → Y k H' x H'' → tMid te ((wipe σ vs).set i (some x)) H'' fun y H4 => Same H'' H4 ∧ C (k + 1) (acc ++ [y]) H4)
    (done : ∀ p acc H', H0 p = none → Same H0 H' → H' p = some (.lst acc) → acc.length = n → C n acc H' → Q (.ref p) H') : tLc (iMid wi) (gName i) tYes (tMid te) vs σ H Q := by
  refine ⟨_, h, ?_⟩
  rintro J H1 ⟨rfl, rfl⟩ p hp
  refine lc_it w (fun k H' => ∃ acc, Same H1 H' ∧ H' p = some (.lst acc) ∧ acc.length = k ∧ C k acc H') ⟨[], same_new hp, upd_same, rfl, hC _ _ _ _ (NL.of (same_new hp)) h0⟩ (fun k H' _ ⟨acc, s, _⟩ => hG H' s) ?_ fun H' ⟨acc, s, hD, hl, c⟩ => done p acc H' hp s hD hl c
  rintro k x H' H'' hk ⟨acc, s, hD, hl, c⟩ y
  have s2 := hY k H' x H'' y
  refine ⟨hw x, ?_⟩
  obtain ⟨R, h1, h2⟩ := turn k x acc H' H'' hk s c y
  refine ⟨R, h1, ?_⟩
  rintro v H4 hR
  obtain ⟨s3, c'⟩ := h2 v H4 hR
  have hD4 : H4 p = some (.lst acc) := s3 _ _ (s2 _ _ hD)
  refine ⟨acc, hD4, by rw [sizeLine_eq]; omega, acc ++ [v], same_mut ((s.trans s2).trans s3) hp, upd_same, by rw [List.length_append, hl]; rfl, hC _ _ _ _ (nl_upd hD4) c'⟩
/-- a comprehension: C by the turn, what is made so far, the heap (all but lists stay) -/
theorem lc_mid {vs : List Nat} {te : TE} {Q : VK} (h : wi σ H fun J H1 => J = J0 ∧ H1 = H0) (w : Walk J0 n G Y) (hn : n < 16777216) (C : Nat → List V → Hp → Prop) (hC : ∀ k acc Ha Hb, NL Ha Hb → C k acc Ha → C k acc Hb) (h0 : C 0 [] H0)
    (hG : ∀ H', Same H0 H' → G H') (hY : ∀ k H x H', Y k H x H' → Same H H') (hw : ∀ x, wipe ((wipe σ vs).set i (some x)) vs = wipe σ vs)
    (turn : ∀ k x acc H' H'', k < n → Same H0 H' → C k acc H' → Y k H' x H'' → te ((wipe σ vs).set i (some x)) H'' fun y H4 => Same H'' H4 ∧ C (k + 1) (acc ++ [y]) H4)
    (done : ∀ p acc H', H0 p = none → Same H0 H' → H' p = some (.lst acc) → acc.length = n → C n acc H' → Q (.ref p) H') : tLc (iMid wi) (gName i) tYes (tMid te) vs σ H Q :=
  lc_midM h w hn C hC h0 hG hY hw (fun k x acc H' H'' a b c d => ⟨_, turn k x acc H' H'' a b c d, fun _ _ q => q⟩) done
/-- with a test -/
theorem lc_midT {vs : List Nat} {te : TE} {tt : TT} {Q : VK} (h : wi σ H fun J H1 => J = J0 ∧ H1 = H0) (w : Walk J0 n G Y) (hn : n < 16777216) (C : Nat → List V → Hp → Prop) (hC : ∀ k acc Ha Hb, NL Ha Hb → C k acc Ha → C k acc Hb) (h0 : C 0 [] H0)
    (hG : ∀ H', Same H0 H' → G H') (hY : ∀ k H x H', Y k H x H' → Same H H') (hw : ∀ x, wipe ((wipe σ vs).set i (some x)) vs = wipe σ vs)
    (turn : ∀ k x acc H' H'', k < n → Same H0 H' → C k acc H' → Y k H' x H'' → tt ((wipe σ vs).set i (some x)) H'' fun b H3 => Same H'' H3 ∧ if b = true then te ((wipe σ vs).set i (some x)) H3 fun y H4 => Same H3 H4 ∧ C (k + 1) (acc ++ [y]) H4 else C (k + 1) acc H3)
    (done : ∀ p acc H', H0 p = none → Same H0 H' → H' p = some (.lst acc) → acc.length ≤ n → C n acc H' → Q (.ref p) H') : tLc (iMid wi) (gName i) (tMidT tt) (tMid te) vs σ H Q := by
  refine ⟨_, h, ?_⟩
  rintro J H1 ⟨rfl, rfl⟩ p hp
  refine lc_it w (fun k H' => ∃ acc, Same H1 H' ∧ H' p = some (.lst acc) ∧ acc.length ≤ k ∧ C k acc H') ⟨[], same_new hp, upd_same, Nat.le_refl _, hC _ _ _ _ (NL.of (same_new hp)) h0⟩ (fun k H' _ ⟨acc, s, _⟩ => hG H' s) ?_ fun H' ⟨acc, s, hD, hl, c⟩ => done p acc H' hp s hD hl c
  rintro k x H' H'' hk ⟨acc, s, hD, hl, c⟩ y
  have s2 := hY k H' x H'' y
  refine ⟨hw x, _, turn k x acc H' H'' hk s c y, ?_⟩
  rintro b H3 ⟨s3, z⟩
  have hD3 : H3 p = some (.lst acc) := s3 _ _ (s2 _ _ hD)
  cases b with
  | false =>
    have z' : C (k + 1) acc H3 := z
    exact ⟨acc, (s.trans s2).trans s3, hD3, by omega, z'⟩
  | true =>
    have z' : te ((wipe σ vs).set i (some x)) H3 fun y H4 => Same H3 H4 ∧ C (k + 1) (acc ++ [y]) H4 := z
    refine ⟨_, z', ?_⟩
    rintro v H4 ⟨s4, c'⟩
    have hD4 : H4 p = some (.lst acc) := s4 _ _ hD3
    refine ⟨acc, hD4, by rw [sizeLine_eq]; omega, acc ++ [v], same_mut (((s.trans s2).trans s3).trans s4) hp, upd_same, by rw [List.length_append]; show acc.length + 1 ≤ k + 1; omega, hC _ _ _ _ (nl_upd hD4) c'⟩
end
theorem y_at {xs : List V} {k : Nat} {H : Hp} {x : V} {H' : Hp} (y : YAt xs k H x H') : Same H H' := by
  rw [y.1]
  exact Same.refl H
theorem y_fn {f : Nat → V} {k : Nat} {H : Hp} {x : V} {H' : Hp} (y : YFn f k H x H') : Same H H' := by
  rw [y.1]
  exact Same.refl H
/-- an assignment by what is wanted of its value -/
theorem q_midG {i : Nat} {te : TE} {u : TS} {D : Ends} {σ : L2.St} {H : Hp} (C : V → Hp → Prop) (h : te σ H C) (k : ∀ v H1, C v H1 → u D (σ.set i (some v)) H1) : tSeq (tAsg (tMid te) (gName i)) u D σ H := ⟨C, h, k⟩
theorem mid_of {te : TE} {σ : L2.St} {H : Hp} {Q : VK} (C : VK) (h : te σ H C) (k : ∀ v H1, C v H1 → Q v H1) : tMid te σ H Q := ⟨C, h, k⟩
/-- an if by what is wanted of its test -/
theorem q_if {tt : TT} {a b u : TS} {D : Ends} {σ : L2.St} {H : Hp} (C : Bool → Hp → Prop) (h : tt σ H C) (t : ∀ H1, C true H1 → tSeq a u D σ H1) (f : ∀ H1, C false H1 → tSeq b u D σ H1) : tSeq (tIfS (tMidT tt) a b) u D σ H :=
  ⟨C, h, fun c H1 hc => by
    cases c with
    | true => exact t H1 hc
    | false => exact f H1 hc⟩
theorem l_if {tt : TT} {a b : TS} {D : Ends} {σ : L2.St} {H : Hp} (C : Bool → Hp → Prop) (h : tt σ H C) (t : ∀ H1, C true H1 → a D σ H1) (f : ∀ H1, C false H1 → b D σ H1) : tIfS (tMidT tt) a b D σ H :=
  ⟨C, h, fun c H1 hc => by
    cases c with
    | true => exact t H1 hc
    | false => exact f H1 hc⟩
/-- a comprehension over a text, each sign by itself -/
theorem lc_text {z : Str} {wi : TI} {i : Nat} {te : TE} {vs : List Nat} {σ : L2.St} {H H0 : Hp} {Q : VK} (f : Nat → V) (h : wi σ H fun J H1 => J = Its z ∧ H1 = H0) (hn : z.length < 16777216) (hw : ∀ x, wipe ((wipe σ vs).set i (some x)) vs = wipe σ vs)
    (turn : ∀ c H', c ∈ z.cps.toList → Same H0 H' → te ((wipe σ vs).set i (some (.str ⟨#[c]⟩))) H' fun y H4 => Same H' H4 ∧ y = f c)
    (done : ∀ p H', H0 p = none → Same H0 H' → H' p = some (.lst (z.cps.toList.map f)) → Q (.ref p) H') : tLc (iMid wi) (gName i) tYes (tMid te) vs σ H Q := by
  refine lc_midM h walk_str hn (fun k acc _ => acc = (z.cps.toList.take k).map f) (fun _ _ _ _ _ e => e) rfl (fun _ _ => trivial) (fun _ _ _ _ y => by rw [y.1]; exact Same.refl _) hw ?_ ?_
  · rintro k x acc H' H'' hk sm ha ⟨rfl, c, hc, rfl⟩
    have hc' : z.cps.toList[k]? = some c := by rw [Array.getElem?_toList]; exact hc
    have r := turn c H'' (List.mem_of_getElem? hc') sm
    refine ⟨_, r, ?_⟩
    rintro y H4 ⟨s4, rfl⟩
    refine ⟨s4, ?_⟩
    have e : z.cps.toList.take (k + 1) = z.cps.toList.take k ++ [c] := by
      rw [List.take_succ, hc']
      rfl
    rw [e, List.map_append, ha]
    rfl
  · intro p acc H' hp sm hD hl ha
    rw [List.take_of_length_le (by rw [Array.length_toList]; exact Nat.le_refl _)] at ha
    rw [ha] at hD
    exact done p H' hp sm hD
/-- a walk that is told -/
theorem for_open {wi : TI} {g : TG} {tb : TS} {D : Ends} {σ : L2.St} {H : Hp} (C : It → Hp → Prop) (h : wi σ H C) (k : ∀ J H1, C J H1 → tFor (iMid (fun _ _ R => R J H1)) g tb D σ H) : tFor (iMid wi) g tb D σ H := ⟨C, h, fun J H1 c => let ⟨_, r, k'⟩ := k J H1 c; k' J H1 r⟩
theorem lc_open {wi : TI} {g : TG} {tt : TT} {te : TE} {vs : List Nat} {σ : L2.St} {H : Hp} {Q : VK} (C : It → Hp → Prop) (h : wi σ H C) (k : ∀ J H1, C J H1 → tLc (iMid (fun _ _ R => R J H1)) g tt te vs σ H Q) : tLc (iMid wi) g tt te vs σ H Q := ⟨C, h, fun J H1 c => let ⟨_, r, k'⟩ := k J H1 c; k' J H1 r⟩
theorem q_val {i : Nat} {te : TE} {u : TS} {D : Ends} {σ : L2.St} {H : Hp} (h : te σ H fun v H1 => u D (σ.set i (some v)) H1) : tSeq (tAsg te (gName i)) u D σ H := h
end SL
/-! the text by places -/
namespace TX
open PySem PySem.Spec PyProof.Rows L2
def topS (i : Nat) : Stmt := PySem.Challenge.pw_shunlist_k81_gathered.main.body.getD i (.Pass ⟨0, 0, 0, 0⟩)
abbrev s__wall : Stmt := (topS 0)
abbrev s_NoText___init__ : Stmt := (inClass (topS 5) 0)
abbrev s_is_sign : Stmt := (topS 11)
abbrev s_Part_fits : Stmt := (inClass (topS 12) 0)
abbrev s_Part_many : Stmt := (inClass (topS 12) 1)
abbrev s_Part_told : Stmt := (inClass (topS 12) 2)
abbrev s_One___init__ : Stmt := (inClass (topS 14) 0)
abbrev s_One_fits : Stmt := (inClass (topS 14) 1)
abbrev s_One_told : Stmt := (inClass (topS 14) 2)
abbrev s_Among___init__ : Stmt := (inClass (topS 15) 0)
abbrev s_Among_fits : Stmt := (inClass (topS 15) 1)
abbrev s_Among_told : Stmt := (inClass (topS 15) 2)
abbrev s_Stars_many : Stmt := (inClass (topS 16) 0)
abbrev s_Stars_told : Stmt := (inClass (topS 16) 1)
abbrev s_Step_deep : Stmt := (inClass (topS 18) 0)
abbrev s_Step_fits_name : Stmt := (inClass (topS 18) 1)
abbrev s_Step_told : Stmt := (inClass (topS 18) 2)
abbrev s_Deep_deep : Stmt := (inClass (topS 19) 0)
abbrev s_Segment___init__ : Stmt := (inClass (topS 20) 0)
abbrev s_Segment_fits_name : Stmt := (inClass (topS 20) 1)
abbrev s_Segment_told : Stmt := (inClass (topS 20) 2)
abbrev s_Row___init__ : Stmt := (inClass (topS 21) 0)
abbrev s_Row_told : Stmt := (inClass (topS 21) 1)
abbrev s_names_of : Stmt := (topS 22)
abbrev s_folder_names : Stmt := (topS 24)
abbrev s_placed : Stmt := (topS 25)
abbrev s_gathered : Stmt := (topS 26)
abbrev s__law_cell : Stmt := (topS 28)
abbrev s__law_mixed : Stmt := (topS 29)
abbrev s__law_signs : Stmt := (topS 30)
abbrev s__law_part : Stmt := (topS 31)
abbrev s__law_segment : Stmt := (topS 32)
abbrev s__law_row : Stmt := (topS 33)
abbrev s__law_rows : Stmt := (topS 34)
abbrev s__law_part_made : Stmt := (topS 35)
abbrev s__law_row_made : Stmt := (topS 36)
abbrev s__law_filled : Stmt := (topS 37)
abbrev s__law_names : Stmt := (topS 38)
abbrev s__law_lists : Stmt := (topS 39)
abbrev s__law_made_lists : Stmt := (topS 40)
abbrev s__law_ranked : Stmt := (topS 41)
abbrev s__law_form : Stmt := (topS 42)
abbrev s__law_refused : Stmt := (topS 43)
abbrev s_law : Stmt := (topS 44)
end TX
/-! ### sets of texts: made of a text or of a list of texts, counted, sorted -/
namespace SL
open PySem PySem.Spec PyProof.Rows L2
/-- the text of a set's entry -/
def txOf (e : Int × Value) : Str := match e.2 with
  | .str x _ => x
  | _ => Str.empty
def TxE (w : World) (e : Int × Value) : Prop := ∃ x tk, e.2 = Value.str x tk ∧ e.1 = hashStr w x
/-- the set at a holds just the texts l, each once, and can be walked -/
def TxSet (w : World) (h : Heap) (a : Addr) (l : List Str) : Prop :=
  ∃ o es ep t, h.get? a = some o ∧ o.ExactSet ∧ o.data = .set es ep t ∧ (∀ e ∈ es.toList, TxE w e) ∧ (es.toList.map txOf).Perm l ∧ l.Nodup ∧
    (es.size < scanBound ∧ t.fits es.size = true) ∧ (Ris t.place.toList ∧ (w.params.followText "set-order" = true ∨ t.led = true))
section
variable {P : Program} {w : World} {h h' : Heap} {a : Addr} {l : List Str}
theorem TxSet.at (R : TxSet w h a l) (k : ∀ o, h.get? a = some o → h'.get? a = some o) : TxSet w h' a l :=
  let ⟨o, es, ep, t, ho, r⟩ := R
  ⟨o, es, ep, t, k o ho, r⟩
theorem TxSet.perm {l' : List Str} (R : TxSet w h a l) (p : l.Perm l') : TxSet w h a l' :=
  let ⟨o, es, ep, t, ho, hx, hd, g, pm, nd, r⟩ := R
  ⟨o, es, ep, t, ho, hx, hd, g, pm.trans p, p.nodup_iff.mp nd, r⟩
theorem txE_elems {l : List (Int × Value)} (g : ∀ e ∈ l, TxE w e) : ElemsOf (strKind P w) l := by
  intro e he
  obtain ⟨x, tk, e1, e2⟩ := g e he
  refine ⟨⟨x, ?_, e2⟩, ?_⟩
  · rw [e1]
    show Value.isStrOf x (.str x tk) = true
    simp [Value.isStrOf]
  · rw [e1]
    rfl
theorem txE_is {e : Int × Value} (g : TxE w e) (x : Str) : (strKind P w).is x e.2 = true ↔ txOf e = x := by
  obtain ⟨y, tk, e1, _⟩ := g
  unfold txOf
  rw [e1]
  show Value.isStrOf x (.str y tk) = true ↔ y = x
  simp [Value.isStrOf]
theorem txE_mem {l : List (Int × Value)} (g : ∀ e ∈ l, TxE w e) (x : Str) : x ∈ l.map txOf ↔ ∃ e ∈ l, (strKind P w).is x e.2 = true := by
  rw [List.mem_map]
  exact ⟨fun ⟨e, he, q⟩ => ⟨e, he, (txE_is (g e he) x).2 q⟩, fun ⟨e, he, q⟩ => ⟨e, he, (txE_is (g e he) x).1 q⟩⟩
end
section
variable {P : Program} {w : World} {A : Around} {E : Value → Shared → Prop} {s : Shared} {a : Addr} {l : List Str}
theorem tx_tail {gv : Bool → Sem Unit} (hg : ∀ (b : Bool) (s₁ : Shared) (Q' : Unit → Shared → Prop), Q' () s₁ → wpAny (model P w) A (gv b) Q' E s₁)
    {o : Obj} {es : Array (Int × Value)} {ep : Nat} {t : SetTable} (ho : s.heap.get? a = some o) (hx : o.ExactSet) (hd : o.data = .set es ep t) {e1 : Array (Int × Value)} {t2 : SetTable} (g1 : ∀ e ∈ e1.toList, TxE w e)
    (p1 : (e1.toList.map txOf).Perm l) (nd : l.Nodup) (hb : e1.size < scanBound) (hf : t2.fits e1.size = true) (hr : Ris t2.place.toList) (hl : w.params.followText "set-order" = true ∨ t2.led = true) {dummy : Bool} {R : Option Bool → Shared → Prop}
    (hR : ∀ h', Heap.SameBut a s.heap h' → TxSet w h' a l → R (some true) { s with heap := h' }) :
    wpAny (model P w) A (do
        storeSet a e1 t2
        if (!dummy && t2.tooFull) = true then do
            gv (relayAll t2 e1 (SetTable.grown e1.size)).2.2
            storeSet a (relayAll t2 e1 (SetTable.grown e1.size)).1 (relayAll t2 e1 (SetTable.grown e1.size)).2.1
            pure (some true)
          else pure (some true)) R E s := by
  refine wpAny_bind (wpAny_storeSet_of ho hd ?_ (fits_of_scanBound hb))
  have o1 := store_at (es' := e1) (t' := t2) ho hd
  have b1 := Heap.SameBut.update s.heap a (Obj.putSet e1 t2)
  split
  · have pm := relayAll_perm t2 e1 (SetTable.grown e1.size)
    have f3 := relayAll_fits t2 e1 (SetTable.grown e1.size)
    have r3 := relayAll_ris t2 e1 (SetTable.grown e1.size)
    have l3 := relayAll_led t2 e1 (SetTable.grown e1.size)
    generalize relayAll t2 e1 (SetTable.grown e1.size) = Z at pm f3 r3 l3 ⊢
    obtain ⟨e2, t3, gave⟩ := Z
    dsimp only at pm f3 r3 l3 ⊢
    have sz : e2.size < scanBound := by
      have q := pm.length_eq
      rw [Array.length_toList, Array.length_toList] at q
      omega
    refine wpAny_bind (hg _ _ _ (wpAny_bind (wpAny_storeSet_of o1 rfl ?_ (fits_of_scanBound sz))))
    refine wpAny_pure (hR _ (b1.trans (Heap.SameBut.update _ a _)) ⟨_, e2, _, t3, store_at o1 rfl, hx, rfl, fun e he => g1 e (pm.mem_iff.mp he), (pm.map txOf).trans p1, nd, ⟨sz, f3⟩, r3, ?_⟩)
    rw [l3]
    exact hl
  · exact wpAny_pure (hR _ b1 ⟨_, e1, _, t2, o1, hx, rfl, g1, p1, nd, ⟨hb, hf⟩, hr, hl⟩)
/-- a text is added -/
theorem tx_add {x : Str} {tk : Tok} {Q : Bool → Shared → Prop} (R : TxSet w s.heap a l) (room : l.length + 1 < scanBound)
    (hQ : ∀ h', Heap.SameBut a s.heap h' → TxSet w h' a (if x ∈ l then l else x :: l) → Q (!decide (x ∈ l)) { s with heap := h' }) :
    wpAny (model P w) A (setAddHashed a (.str x tk) ((strKind P w).hash x)) Q E s := by
  obtain ⟨o, es, ep, t, ho, hx, hd, g, pm, nd, ⟨hb, hf⟩, hr, hl⟩ := R
  have key : (strKind P w).is x (.str x tk) = true := by
    show Value.isStrOf x (.str x tk) = true
    simp [Value.isStrOf]
  have sc : (Value.str x tk).scannable = true := rfl
  have el : ElemsOf (strKind P w) es.toList := txE_elems g
  unfold setAddHashed
  unfold setAddHashedIn
  refine wpAny_holding (wpAny_bind (wpAny_setState_of ho hd hf ?_))
  dsimp only
  rw [byScan_of sc hb el]
  simp only [if_true]
  unfold setAddByScan
  refine wpAny_bind (wpAny_bind (wpAny_rule (wpAny_bind (wpAny_setScan_of key ho hd hf el ?_))))
  cases fi : List.findIdx? (fun e => (strKind P w).is x e.2) es.toList with
  | some j =>
    dsimp only
    obtain ⟨hj, pj, _⟩ := List.findIdx?_eq_some_iff_getElem.mp fi
    have hm : x ∈ l := pm.mem_iff.mp ((txE_mem (P := P) g x).2 ⟨_, List.getElem_mem hj, pj⟩)
    have q := hQ s.heap (Heap.SameBut.refl a s.heap) (by
      rw [if_pos hm]
      exact ⟨o, es, ep, t, ho, hx, hd, g, pm, nd, ⟨hb, hf⟩, hr, hl⟩)
    rw [decide_eq_true hm] at q
    exact wpAny_pure (wpAny_pure q)
  | none =>
    dsimp only
    have hn : x ∉ l := fun z => by
      obtain ⟨e, he, q⟩ := (txE_mem (P := P) g x).1 (pm.mem_iff.mpr z)
      have c := List.findIdx?_eq_none_iff.mp fi e he
      rw [q] at c
      cases c
    have q0 : ∀ h', Heap.SameBut a s.heap h' → TxSet w h' a (x :: l) → Q true { s with heap := h' } := fun h' sb r => by
      have q := hQ h' sb (by rw [if_neg hn]; exact r)
      rw [decide_eq_false hn] at q
      exact q
    have tl : ∀ (b : Bool) {s₁ : Shared} {Q' : Unit → Shared → Prop}, Q' () s₁ → wpAny (model P w) A (match b with | true => rule "set.scan.the-table-gave-way" | false => pure ()) Q' E s₁ := by
      intro b s₁ Q' z
      cases b
      · exact wpAny_pure z
      · exact wpAny_rule z
    have p0 := layNew_perm t es ((strKind P w).hash x) (.str x tk)
    have f0 := layNew_fits t es ((strKind P w).hash x) (.str x tk)
    have r0 := layNew_ris t es ((strKind P w).hash x) (.str x tk) hr
    have l0 := layNew_led t es ((strKind P w).hash x) (.str x tk)
    generalize layNew t es ((strKind P w).hash x) (.str x tk) = Z at p0 f0 r0 l0 ⊢
    obtain ⟨e1, t1, dummy, gave⟩ := Z
    dsimp only at p0 f0 r0 l0 ⊢
    rw [Array.toList_push] at p0
    have pc : e1.toList.Perm (((strKind P w).hash x, Value.str x tk) :: es.toList) := p0.trans (List.perm_append_singleton _ _)
    have g1 : ∀ e ∈ e1.toList, TxE w e := by
      intro e he
      rcases List.mem_cons.mp (pc.mem_iff.mp he) with z | z
      · exact ⟨x, tk, by rw [z], by rw [z]; rfl⟩
      · exact g e z
    have pk : (e1.toList.map txOf).Perm (x :: l) := (pc.map txOf).trans (List.Perm.cons _ pm)
    have nd1 : (x :: l).Nodup := List.nodup_cons.mpr ⟨hn, nd⟩
    have sz : e1.size < scanBound := by
      have q := pk.length_eq
      rw [List.length_map, Array.length_toList, List.length_cons] at q
      omega
    have hl1 : w.params.followText "set-order" = true ∨ t1.led = true := by rw [l0]; exact hl
    refine wpAny_bind (tl _ ?_)
    split
    · refine wpAny_bind ?_
      rw [hashByValue_scannable 8 sc]
      refine wpAny_pure (tx_tail ?_ ho hx hd g1 pk nd1 sz ?_ ?_ ?_ fun h' sb r => ?_)
      · intro b s₁ Q' z
        exact tl b z
      · first | (split <;> first | exact f0 | exact SetTable.fits_plain_off f0) | exact f0
      · first | (split <;> exact r0) | exact r0
      · first | (split <;> exact hl1) | exact hl1
      · exact wpAny_pure (q0 h' sb r)
    · refine wpAny_bind (wpAny_pure ?_)
      simp only [if_true]
      exact tx_tail (fun b s₁ Q' z => tl b z) ho hx hd g1 pk nd1 sz f0 r0 hl1 fun h' sb r => wpAny_pure (q0 h' sb r)
/-- the distinct ones of texts -/
def dist (l : List Str) (x : Str) : List Str := if x ∈ l then l else x :: l
theorem dist_len (l : List Str) (x : Str) : (dist l x).length ≤ l.length + 1 := by
  unfold dist
  split <;> simp
theorem fold_len : ∀ (zs l : List Str), (zs.foldl dist l).length ≤ l.length + zs.length
  | [], l => by simp
  | x :: r, l => by
    have h1 := fold_len r (dist l x)
    have h2 := dist_len l x
    simp only [List.foldl_cons, List.length_cons]
    omega
theorem fold_mem : ∀ (zs l : List Str) (y : Str), y ∈ zs.foldl dist l ↔ y ∈ l ∨ y ∈ zs
  | [], l, y => by simp
  | x :: r, l, y => by
    rw [List.foldl_cons, fold_mem r (dist l x) y]
    unfold dist
    split
    · rename_i h
      constructor
      · rintro (h1 | h1)
        · exact .inl h1
        · exact .inr (List.mem_cons_of_mem _ h1)
      · rintro (h1 | h1)
        · exact .inl h1
        · rcases List.mem_cons.mp h1 with rfl | h1
          · exact .inl h
          · exact .inr h1
    · simp only [List.mem_cons]
      constructor
      · rintro ((h1 | h1) | h1) <;> simp [h1]
      · rintro (h1 | h1 | h1) <;> simp [h1]
theorem tx_loop {I : Addr} {fp wr : List Addr} {G : Array GenState → Array GenState → Prop} {n : Nat} {Pv : Nat → Value → Prop} {St : Nat → Shared → Prop} {R : Result → Shared → Prop}
    (W : WalksS P w A.in1 I fp wr G n Pv St) (S : Addr) (hSf : S ∉ fp) (zs : List Str) (hn : n = zs.length) (hb : zs.length + 1 < scanBound) (hv : ∀ i v, Pv i v → ∃ x t, zs[i]? = some x ∧ v = .str x t) :
    ∀ (k i : Nat) (s : Shared), n - i = k → i ≤ n → St i s → TxSet w s.heap S ((zs.take i).foldl dist []) →
      (∀ s', Moved (S :: wr) G s s' → TxSet w s'.heap S (zs.foldl dist []) → R (.ok (.ret .none)) s') → codeAny (model P w) A (.builtin "set.update.loop" ⟨[.ref S, .ref I], []⟩) R s := by
  have nw : S ∉ wr := fun z => hSf (W.sub _ z)
  have sub : ∀ b ∈ wr, b ∈ S :: wr := fun b z => List.mem_cons_of_mem _ z
  intro k
  induction k with
  | zero =>
    intro i s hk hi st hS hR
    refine codeAny_builtin PyProof.Rows.F.entry_set_update_loop ?_
    rw [Around.under_plainId PyProof.Rows.F.plain_set_update_loop]
    have hin : i = n := by omega
    subst hin
    show wpAny _ A.in1 (pyNext (.ref I) >>= fun _ => _) _ _ s
    refine wpAny_bind (W.done s _ _ st fun s' hm => wpAny_pure (hR s' (hm.mono sub) ?_))
    rw [List.take_of_length_le (by omega)] at hS
    exact hS.at fun o e => hm.heap S o nw e
  | succ k ih =>
    intro i s hk hi st hS hR
    have lt : i < n := by omega
    refine codeAny_builtin PyProof.Rows.F.entry_set_update_loop ?_
    rw [Around.under_plainId PyProof.Rows.F.plain_set_update_loop]
    show wpAny _ A.in1 (pyNext (.ref I) >>= fun _ => _) _ _ s
    refine wpAny_bind (W.item i s _ _ lt st fun v s' hP st' hm => ?_)
    obtain ⟨x, t, hz, rfl⟩ := hv i v hP
    have hS' : TxSet w s'.heap S ((zs.take i).foldl dist []) := hS.at fun o e => hm.heap S o nw e
    show wpAny _ A.in1 (holding [Value.str x t] (setAdd S (.str x t)) >>= fun _ => _) _ _ s'
    refine wpAny_bind (wpAny_holding ?_)
    unfold setAdd
    have hk2 : (strKind P w).is x (.str x t) = true := by
      show Value.isStrOf x (.str x t) = true
      simp [Value.isStrOf]
    refine wpAny_holding (wpAny_bind ((strKind P w).pyHash (k := x) hk2 ?_))
    have room : ((zs.take i).foldl dist []).length + 1 < scanBound := by
      have q := fold_len (zs.take i) []
      rw [List.length_take, List.length_nil] at q
      omega
    refine tx_add (s := { s' with toks := s'.toks + 1 }) hS' room fun h' sb r => ?_
    have r' : TxSet w h' S ((zs.take (i + 1)).foldl dist []) := by
      rw [List.take_add_one, hz, List.foldl_append]
      exact r
    refine wpAny_pure ⟨plainId_quiet PyProof.Rows.F.plain_set_update_loop _, ih (i + 1) _ (by omega) lt (W.frame _ s' _ _ st' (Nat.le_succ _) fun b z o e => ?_) r' fun s'' hm2 hS2 => ?_⟩
    · rw [sb.2 b fun q => hSf (q ▸ z)]
      exact e
    · refine hR s'' (Moved.trans W.gtrans ((hm.mono sub).then_heap (Nat.le_succ _) fun b o z e => ?_) hm2) hS2
      rw [sb.2 b fun q => z (by rw [q]; exact List.mem_cons_self)]
      exact e
end
end SL
namespace SL
open PySem PySem.Spec PyProof.Rows L2
/-- a value that gives the texts zs when it is walked: a text by its signs, a list of texts -/
structure Src (P : Program) (w : World) (h : Heap) (v : Value) (T : String) (zs : List Str) : Prop where
  ty : ∀ (s : Shared), (∀ b o, h.get? b = some o → s.heap.get? b = some o) → s.TypeIs v T
  s1 : isSubtype (.type T) (.type "set") = pure false
  s2 : isSubtype (.type T) (.type "frozenset") = pure false
  nd : (Value.type T == Value.type "dict") = false
  it : ∀ (A : Around) (Q : Value → Shared → Prop) (E : Value → Shared → Prop) (s : Shared), (∀ b o, h.get? b = some o → s.heap.get? b = some o) → h.objs.size ≤ s.heap.objs.size → A.handled = none →
    (∀ (o : Obj) (fp : List Addr) (St : Nat → Heap → Prop) (Pv : Nat → Value → Prop), (∀ A' : Around, A'.handled = none → Walks P w A' s.heap.objs.size fp [s.heap.objs.size] zs.length Pv St) → St 0 (s.heap.push o) →
      (∀ b ∈ fp, b = s.heap.objs.size ∨ b < h.objs.size) → (∀ i u, Pv i u → ∃ x t, zs[i]? = some x ∧ u = .str x t) → Q (.ref s.heap.objs.size) { s with heap := s.heap.push o }) → wpAny (model P w) A (pyIter v) Q E s
section
variable {P : Program} {w : World} {A : Around} {E : Value → Shared → Prop} {s : Shared}
theorem src_text {h : Heap} (x : Str) (t : Tok) : Src P w h (.str x t) "str" (x.cps.toList.map fun c => ⟨#[c]⟩) where
  ty := fun s _ => rfl
  s1 := PySem.F.sub_str_set
  s2 := PySem.F.sub_str_frozenset
  nd := by decide
  it := fun A Q E s _ _ _ k => by
    refine wpAny_pyIter_str fun o St W st => ?_
    have e : (x.cps.toList.map fun c => (⟨#[c]⟩ : Str)).length = x.cps.size := by rw [List.length_map, Array.length_toList]
    refine k o [s.heap.objs.size] St (SignAt x) (fun A' hA => by rw [e]; exact W A' hA) st (fun b hb => .inl (List.mem_singleton.mp hb)) fun i u hu => ?_
    obtain ⟨c, t', hc, rfl⟩ : ∃ c t', x.cps[i]? = some c ∧ u = .str ⟨#[c]⟩ t' := by
      first
        | exact hu
        | (obtain ⟨c, hc, t', e'⟩ := hu; exact ⟨c, t', hc, e'⟩)
    refine ⟨_, t', ?_, rfl⟩
    rw [List.getElem?_map, Array.getElem?_toList, hc]
    rfl
theorem src_list {h : Heap} {l : Addr} {items : Array Value} {zs : List Str} (hl : h.IsList l items) (hi : PyProof.Rows.StrsAre items.toList zs) : Src P w h (.ref l) "list" zs := by
  obtain ⟨ol, hol, hcl, nl, hdl⟩ := id hl
  have hz : items.size = zs.length := by
    have q := PyProof.Rows.StrsAre.length hi
    rw [Array.length_toList] at q
    exact q
  refine ⟨fun s k => ⟨ol, k _ _ hol, hcl⟩, PySem.F.sub_list_set, PySem.F.sub_list_frozenset, by decide, fun A Q E s k le hh c => ?_⟩
  have hl' : s.heap.IsList l items := ⟨ol, k _ _ hol, hcl, nl, hdl⟩
  have lt : l < h.objs.size := Heap.lt_size hol
  have ne : l ≠ s.heap.objs.size := Nat.ne_of_lt (Nat.lt_of_lt_of_le lt le)
  refine wpAny_pyIter_list hl' (c _ [s.heap.objs.size, l] _ (fun i v => items[i]? = some v) (fun A' hA => by rw [← hz]; exact Walks.list hA _ l ne items) (show Heap.IsListIter _ _ _ _ ∧ Heap.IsList _ _ _ from ⟨⟨_, Heap.get?_push_size _ rfl, rfl, rfl⟩, hl'.push _⟩) (fun b hb => ?_) fun i u hu => ?_)
  · rcases List.mem_cons.mp hb with e | e
    · exact .inl e
    · exact .inr (by rw [List.mem_singleton.mp e]; exact lt)
  · have hi2 : i < zs.length := by rw [← hz]; exact (Array.getElem?_eq_some_iff.mp hu).1
    obtain ⟨t, e⟩ := SS.strs_at hi i u (by rw [Array.getElem?_toList]; exact hu)
    refine ⟨zs[i], t, List.getElem?_eq_getElem hi2, ?_⟩
    rw [e, List.getD_eq_getElem?_getD, List.getElem?_eq_getElem hi2]
    rfl
/-- an empty set object, as set() lays it -/
def set0 (w : World) : Obj := { cls := .type "set", dict := none, data := .set #[] 0 (.fresh 0 0 (!w.params.followText "set-order")) }
theorem tx_empty {h : Heap} {a : Addr} (ho : h.get? a = some (set0 w)) : TxSet w h a [] := by
  refine ⟨_, #[], 0, _, ho, ⟨rfl, rfl, rfl⟩, rfl, fun e he => (nomatch he), by simp, by simp, ⟨by decide, rfl⟩, List.Pairwise.nil, ?_⟩
  show _ ∨ (!w.params.followText "set-order") = true
  cases w.params.followText "set-order"
  · exact .inr rfl
  · exact .inl rfl
set_option maxHeartbeats 8000000 in
theorem call_set_tx {v : Value} {T : String} {zs : List Str} {Q : Value → Shared → Prop} (hh : A.handled = none) (Z : Src P w s.heap v T zs) (hb : zs.length + 1 < scanBound)
    (k : ∀ (h' : Heap) (tk : Nat), TxSet w h' s.heap.objs.size (zs.foldl dist []) → (∀ b o, s.heap.get? b = some o → h'.get? b = some o) → Q (.ref s.heap.objs.size) { s with heap := h', toks := tk }) :
    wpAny (model P w) A (call (.type "set") [v]) Q E s := by
  obtain ⟨c, tl, hmro⟩ := PySem.F.called_set.mro
  have hmade := PySem.F.called_set.made
  have hsub := PySem.F.called_set.sub
  refine wpAny_call (codeAny_of_tree ?_)
  show wpAny _ _ (callAny (.type "set") _) _ _ _
  refine wpAny_pure ⟨Code.quiet_builtin _ (by decide +kernel), codeAny_builtin PySem.F.entry_type_call ?_⟩
  rw [Around.under_plain (weight_type_call_type "set" [v] []) rfl]
  have h1 := PySem.F.called_set.notType
  have h2 := PySem.F.called_set.canCreate
  have hct := PySem.F.typeCall_set_1 v
  repeat (any_goals (first | assumption | wp_step))
  refine codeAny_mono (code_set_led1 v (E := E) (Q₁ := fun obj s₁ => obj = .ref s.heap.objs.size ∧ s₁ = { s with heap := s.heap.push (set0 w) }) ⟨rfl, rfl⟩) fun r s₁ hr => ?_
  cases r with
  | error e => exact hr
  | ok fl =>
    cases fl with
    | ret obj =>
      obtain ⟨rfl, rfl⟩ := hr
      have hS : (s.heap.push (set0 w)).get? s.heap.objs.size = some (set0 w) := Heap.get?_push_size _ rfl
      have hT : Shared.TypeIs { s with heap := s.heap.push (set0 w) } (.ref s.heap.objs.size) "set" := ⟨_, hS, rfl⟩
      have hli := PySem.F.called_set.init.lookup
      have hbi := PySem.F.called_set.init.bind (.ref s.heap.objs.size)
      repeat (any_goals (first | assumption | wp_step))
      refine codeAny_mono (codeAny_call_builtin (R := wants (fun r s₂ => r = .none ∧ ∃ h' tk, s₂ = { s with heap := h', toks := tk } ∧ TxSet w h' s.heap.objs.size (zs.foldl dist []) ∧
          (∀ b o, s.heap.get? b = some o → h'.get? b = some o)) E) PySem.F.called_set.init.plain PySem.F.entry_set_init (check_set_init_1 hT ?_)) fun r₂ s₂ hr₂ => ?_
      · have kp : ∀ b o, s.heap.get? b = some o → (s.heap.push (set0 w)).get? b = some o := fun b o e => Heap.get?_push_of_some _ e
        have tv := Z.ty { s with heap := s.heap.push (set0 w) } kp
        have z1 := Z.s1
        have z2 := Z.s2
        have z3 := Z.nd
        unfold Builtin.«set.__init__» noKeywords
        unfold Builtin.Frozenset.updateFrom
        generalize hPI : pyIter = PI
        wp_walk
        subst hPI
        have hh2 : A.in1.in1.handled = none := by simp [hh]
        have hh3 : A.in1.in1.in1.handled = none := by simp [hh]
        have sz : (s.heap.push (set0 w)).objs.size = s.heap.objs.size + 1 := Heap.size_push ..
        refine Z.it _ _ _ _ kp (by rw [sz]; exact Nat.le_succ _) hh2 fun o fp St Pv W st hf hv => ?_
        have nS : s.heap.objs.size ∉ fp := fun z => by
          rcases hf _ z with e | e
          · rw [sz] at e
            exact absurd e (Nat.ne_of_lt (Nat.lt_succ_self _))
          · exact absurd e (Nat.lt_irrefl _)
        refine wpAny_bind (wpAny_runValue (tx_loop ((W _ hh3).toS) s.heap.objs.size nS zs rfl hb hv (zs.length - 0) 0 _ (by omega) (Nat.zero_le _) st ?_ fun s' hm hS' => ?_))
        · exact tx_empty (Heap.get?_push_of_some _ hS)
        · obtain ⟨h', g2, d', tk', os'⟩ := s'
          obtain rfl : g2 = s.gens := hm.gens
          obtain rfl : d' = s.drawn := hm.drawn
          obtain rfl : os' = s.os := hm.os
          refine wpAny_pure (wpAny_pure ⟨rfl, h', tk', rfl, hS', fun b u e => hm.heap b u (fun z => ?_) (Heap.get?_push_of_some _ (kp b u e))⟩)
          have lt := Heap.lt_size e
          rcases List.mem_cons.mp z with e2 | e2
          · exact absurd lt (by rw [e2]; exact Nat.lt_irrefl _)
          · rw [List.mem_singleton.mp e2] at lt
            rw [sz] at lt
            exact absurd lt (Nat.not_lt.mpr (Nat.le_succ _))
      · cases r₂ with
        | error e => exact hr₂
        | ok fl₂ =>
          cases fl₂ with
          | ret r =>
            obtain ⟨rfl, h', tk, rfl, hS', hk'⟩ := hr₂
            repeat (any_goals (first | assumption | wp_step))
            exact k _ _ hS' hk'
          | _ => exact hr₂.elim
    | _ => exact hr.elim
end
end SL
namespace SL
open PySem PySem.Spec PyProof.Rows L2
theorem fold_nd : ∀ (zs l : List Str), l.Nodup → (zs.foldl dist l).Nodup
  | [], l, h => h
  | x :: r, l, h => by
    refine fold_nd r _ ?_
    unfold dist
    split
    · exact h
    · rename_i n
      exact List.nodup_cons.mpr ⟨n, h⟩
/-- the set of texts at a -/
def SetS (w : World) (a : Addr) (l : List Str) : HO := .ext fun h => TxSet w h a l
def chars (z : Str) : List Str := z.cps.toList.map fun c => ⟨#[c]⟩
section
variable {X : Cx}
theorem setS_new {w : World} {P : Program} {H : Hp} {h : Heap} {a : Addr} {l : List Str} (R : TxSet w h a l) : ObjOk P w H h a (SetS w a l) := by
  have ⟨o, _, _, _, ho, _⟩ := R
  exact ⟨R, ⟨o, ho⟩, fun h1 h2 p k => TxSet.at p k⟩
theorem setS_get {pins : List (Addr × Obj)} {σ : L2.St} {H : Hp} {s : Shared} {a : Addr} {l : List Str} (I : Inv X pins σ H s) (ha : H a = some (SetS X.w a l)) : TxSet X.w s.heap a l := (I.hok a _ ha).1
/-- what set(x) gives, x with the texts zs -/
def NewSet (w : World) (zs : List Str) (H : Hp) (Q : VK) : Prop := zs.length < 1000 ∧ ∀ a l, H a = none → l.Nodup → (∀ x, x ∈ l ↔ x ∈ zs) → Q (.ref a) (upd H a (SetS w a l))
def rSetU (K : PySem.W.Frag) (w : World) : List V → Hp → VK → Prop := fun xs H Q => match xs with
  | [.str z] => NewSet w (chars z) H Q
  | [.ref p] => ∃ zs : List Str, SqL K H p (zs.map V.str) ∧ NewSet w zs H Q
  | _ => False
theorem new_set {pins : List (Addr × Obj)} {σ : L2.St} {H : Hp} {s : Shared} {Q : VK} {v : Value} {T : String} {zs : List Str} (hc : X.calm = true) (I : Inv X pins σ H s) (Z : Src X.prog X.w s.heap v T zs) (q : NewSet X.w zs H Q) :
    wpAny (model X.prog X.w) X.A (call (.type "set") [v]) (EP X pins σ Q) X.xe s := by
  have sb : zs.length + 1 < scanBound := Nat.lt_of_lt_of_le (Nat.succ_lt_succ q.1) (by decide)
  refine call_set_tx (I.ok.hd hc) Z sb fun h' tk R k => ?_
  have fr := I.hok.fresh (Nat.le_refl s.heap.objs.size)
  exact ⟨.ref s.heap.objs.size, _, I.laid (t' := tk) k (Nat.le_refl _) (setS_new R), rfl, q.2 _ _ fr (fold_nd zs [] .nil) fun x => by rw [fold_mem]; simp⟩
theorem o_set {K : PySem.W.Frag} {w : World} (hc : X.calm = true) (hK : X.K = K := by rfl) (hw : X.w = w := by rfl) : CallR X (.type "set") (rSetU K w) := by
  subst hK
  subst hw
  intro pins s σ H xs us Q I r h
  match xs, h with
  | [.str z], q =>
    obtain ⟨u, rfl, t, rfl⟩ := vals1 r
    exact new_set hc I (src_text z t) q
  | [.ref p], ⟨zs, hs, q⟩ =>
    obtain ⟨u, rfl, hu⟩ := vals1 r
    obtain rfl : u = Value.ref p := hu
    obtain ⟨its, rv, pl, _⟩ := I.list hs
    exact new_set hc I (src_list pl.isList (by simpa using strsAre_of rv)) q
/-- len of a set of texts -/
def rLenS (w : World) : List V → Hp → VK → Prop := fun xs H Q => match xs with
  | [.ref p] => ∃ l, H p = some (SetS w p l) ∧ Q (.int (l.length : Int)) H
  | _ => False
theorem len_setS {w : World} (hw : X.w = w := by rfl) : CallR X (.builtin "len") (rLenS w) := by
  subst hw
  intro pins s σ H xs us Q I r h
  match xs, h with
  | [.ref p], ⟨l, hp, q⟩ =>
    obtain ⟨u, rfl, hu⟩ := vals1 r
    obtain rfl : u = Value.ref p := hu
    obtain ⟨o, es, ep, t, ho, hx, hd, g, pm, nd, ⟨hb, hf⟩, _⟩ := setS_get I hp
    have hn : es.size = l.length := by
      have e := pm.length_eq
      rw [List.length_map, Array.length_toList] at e
      exact e
    refine call_len_set ho hx hd hf ?_ ?_
    · have e : scanBound < 2 ^ 63 := by decide
      omega
    · rw [hn]
      exact ⟨.int l.length, H, I.tok _, ⟨_, rfl⟩, q⟩
/-! ### sorted -/
theorem un_laid {fs ex : List Addr} {H : Hp} {h h' : Heap} {a : Addr} {o : HO} (k : ∀ b u, h.get? b = some u → h'.get? b = some u) (na : ∀ b u, h.get? b = some u → b ≠ a) (hn : H a = none) : Un fs ex H (upd H a o) h h' :=
  ⟨fun b u q _ _ _ => k b u q, fun b u q _ _ _ => ⟨u.slots, k b u q⟩, fun b u q n _ => by rw [upd_ne (na b u q)]; exact n, fun b u q _ => ⟨u, k b u q⟩, fun b xs q => by rw [upd_ne (ne_of_none q hn)]; exact q,
    fun b u xs q => by rw [upd_ne (ne_of_none q hn)]; exact q, fun b ps q => ⟨#[], by rw [upd_ne (ne_of_none q hn), q]; simp⟩⟩
theorem hok_laid {P : Program} {w : World} {H : Hp} {h h' : Heap} {a : Addr} {o : HO} (x : HOk P w H h) (k : ∀ b u, h.get? b = some u → h'.get? b = some u) (hn : H a = none) (new : ObjOk P w (upd H a o) h' a o) : HOk P w (upd H a o) h' := fun b u e => by
  by_cases hb : b = a
  · subst hb
    rw [upd_same] at e
    cases e
    exact new
  · rw [upd_ne hb] at e
    exact (x b u e).stay (fun c v _ q => k c v q) (fun c q => by rw [upd_ne (ne_of_none q hn)]; exact q) fun c xs q => by rw [upd_ne (ne_of_none q hn)]; exact q
theorem sorted_of {P : Program} {w : World} {A : Around} {E : Value → Shared → Prop} {s : Shared} {v : Value} {zs : List Str} {Q : Value → Shared → Prop} (h64 : zs.length < 64)
    (col : ∀ (A : Around) (Q' : List Value → Shared → Prop), A.handled = none → (∀ s' vs zs', (∀ b o, s.heap.get? b = some o → s'.heap.get? b = some o) → s'.gens = s.gens → s'.os = s.os → PyProof.Rows.StrsAre vs zs' → zs'.Perm zs → Q' vs s') → wpAny (model P w) A (collect v) Q' E s)
    (hh : A.handled = none)
    (hQ : ∀ s' p (out : Array Value) (c : Nat) (ys : List Str), (∀ b o, s.heap.get? b = some o → s'.heap.get? b = some o) → s'.gens = s.gens → s'.os = s.os → (∀ b o, s.heap.get? b = some o → b ≠ p) → s'.heap.get? p = some (seqObj "list" out c) → PyProof.Rows.StrsAre out.toList ys → ys.Perm zs → sortedS ys = true → Q (.ref p) s') :
    wpAny (model P w) A (call (.builtin "sorted") [v]) Q E s := by
  refine Calls.call_function_entry kind_sorted plain_sorted entry_sorted (args_sorted1 _) ?_
  unfold Builtin.«sorted»
  refine wpAny_bind (m := checkCount "sorted" 1 1 _) (wpAny_pure (wpAny_bind (col A.in1 _ (by simp [hh]) fun s1 vs zs' k1 g1 o1 hs pm => ?_)))
  have hl : vs.length = zs.length := by rw [PyProof.Rows.StrsAre.length hs, pm.length_eq]
  refine wpAny_bind (wpAny_newList ?_ (by rw [hl, sizeLine_eq]; omega))
  have oL : (s1.heap.push (seqObj "list" vs.toArray 0)).get? s1.heap.objs.size = some (seqObj "list" vs.toArray 0) := Heap.get?_push_size _ rfl
  refine wpAny_bind (wpAny_holding (wpAny_call_entry slot_list_sort ⟨_, oL, rfl⟩ entry_list_sort (list_sort_treeK strKind_oneLt oL hs.keysOf (fun v₁ v₂ rest e => keyKind_strs (by rw [← e]; exact hs)) (by rw [hl]; exact h64) fun st' a1 a2 => ⟨_, rfl, ?_⟩) (args_list_sort _)))
  obtain ⟨ys, b1, b2, b3⟩ := sorted_out_str hs a1 a2
  obtain ⟨c, hc⟩ := sortedHeap_at (vs := vs) (out := (arrOf st').map (·.2)) oL
  refine wpAny_pure ⟨_, rfl, hQ _ s1.heap.objs.size _ c ys (fun b u e => ?_) g1 o1 (fun b u e => Nat.ne_of_lt (Heap.lt_size (k1 b u e))) hc b1 (b2.trans pm) b3⟩
  have q := k1 b u e
  have lt := Heap.lt_size q
  show (sortedHeap (s1.heap.push (seqObj "list" vs.toArray 0)) s1.heap.objs.size vs ((arrOf st').map (·.2))).get? b = some u
  rw [sortedHeap_old (Nat.ne_of_lt lt) (by rw [size_push']; exact Nat.lt_succ_of_lt lt)]
  exact Heap.get?_push_of_some _ q
theorem items_strs {z : Str} {acc : Array Value} (h : ItemsOf (SignAt z) acc z.cps.size) : PyProof.Rows.StrsAre acc.toList (chars z) := by
  have key : ∀ (l : List Value) (cs : List Nat), l.length = cs.length → (∀ (j : Nat) (v : Value), l[j]? = some v → ∃ (c : Nat) (u : Tok), cs[j]? = some c ∧ v = Value.str ⟨#[c]⟩ u) → PyProof.Rows.StrsAre l (cs.map fun c => ⟨#[c]⟩) := by
    intro l
    induction l with
    | nil =>
      intro cs hl _
      cases cs with
      | nil => exact .nil
      | cons c r => simp at hl
    | cons v r ih =>
      intro cs hl hv
      cases cs with
      | nil => simp at hl
      | cons c cs =>
        obtain ⟨c', u, e1, rfl⟩ := hv 0 v rfl
        have e2 : c = c' := by simpa using e1
        subst e2
        exact .cons _ u (ih cs (by simpa using hl) fun j v hj => by simpa using hv (j + 1) v (by simpa using hj))
  refine key acc.toList z.cps.toList (by rw [Array.length_toList, Array.length_toList]; exact h.1) fun j v hj => ?_
  obtain ⟨c, u, e1, e2⟩ := h.2 j v (by rw [← Array.getElem?_toList]; exact hj)
  exact ⟨c, u, by rw [Array.getElem?_toList]; exact e1, e2⟩
/-- what sorted(x) gives, x with the texts zs -/
def NewSorted (zs : List Str) (H : Hp) (Q : VK) : Prop := zs.length < 64 ∧ ∀ ys p, ys.Perm zs → sortedS ys = true → H p = none → Q (.ref p) (upd H p (.lst (ys.map V.str)))
theorem new_sorted {pins : List (Addr × Obj)} {σ : L2.St} {H : Hp} {s : Shared} {Q : VK} {v : Value} {zs : List Str} (hc : X.calm = true) (I : Inv X pins σ H s) (q : NewSorted zs H Q)
    (col : ∀ (A : Around) (Q' : List Value → Shared → Prop), A.handled = none → (∀ s' vs zs', (∀ b o, s.heap.get? b = some o → s'.heap.get? b = some o) → s'.gens = s.gens → s'.os = s.os → PyProof.Rows.StrsAre vs zs' → zs'.Perm zs → Q' vs s') → wpAny (model X.prog X.w) A (collect v) Q' X.xe s) :
    wpAny (model X.prog X.w) X.A (call (.builtin "sorted") [v]) (EP X pins σ Q) X.xe s := by
  refine sorted_of q.1 col (I.ok.hd hc) fun s' p out c ys k g o hp hg hi pm so => ?_
  have fr : H p = none := by
    cases e : H p with
    | none => rfl
    | some u =>
      obtain ⟨ob, hob⟩ := objOk_get (I.hok p u e)
      exact absurd rfl (hp p ob hob)
  have hlen : (ys.map V.str).length ≤ sizeLine := by
    have h1 := q.1
    rw [List.length_map, pm.length_eq, sizeLine_eq]
    omega
  have J : Inv X pins σ (upd H p (.lst (ys.map V.str))) { s with heap := s'.heap, gens := s'.gens, drawn := s'.drawn, toks := s'.toks } :=
    I.call (ch := []) (un_laid k hp fr) (hok_laid I.hok k fr ⟨hlen, out.toList, c, vals_of_strs hi, hg⟩) (by rw [g]; exact I.bare) fun _ z => nomatch z
  obtain ⟨h2, g2, d2, t2, o2⟩ := s'
  obtain rfl : o2 = s.os := o
  exact ⟨.ref p, _, J, rfl, q.2 ys p pm so fr⟩
def rSortedU (K : PySem.W.Frag) (w : World) : List V → Hp → VK → Prop := fun xs H Q => match xs with
  | [.str z] => NewSorted (chars z) H Q
  | [.ref p] => (∃ l, H p = some (SetS w p l) ∧ NewSorted l H Q) ∨ (rSortedS K [.ref p] H Q ∨ rSortedI K [.ref p] H Q)
  | _ => False
theorem o_sorted {K : PySem.W.Frag} {w : World} (hc : X.calm = true) (hK : X.K = K := by rfl) (hw : X.w = w := by rfl) : CallR X (.builtin "sorted") (rSortedU K w) := by
  subst hK
  subst hw
  intro pins s σ H xs us Q I r h
  match xs, h with
  | [.str z], q =>
    obtain ⟨u, rfl, t, rfl⟩ := vals1 r
    have h64 : z.cps.size < 64 := by
      have e := q.1
      unfold chars at e
      rw [List.length_map, Array.length_toList] at e
      exact e
    refine new_sorted hc I q fun A Q' hA k => wpAny_collect_str hA z t (fun s' acc kp g d o it => k s' acc.toList (chars z) kp g o (items_strs it) (.refl _)) (by rw [sizeLine_eq]; omega)
  | [.ref p], .inl ⟨l, hp, q⟩ =>
    obtain ⟨u, rfl, hu⟩ := vals1 r
    obtain rfl : u = Value.ref p := hu
    obtain ⟨o, es, ep, t, ho, hx, hd, g, pm, nd, ⟨hb, hf⟩, hr, hl⟩ := setS_get I hp
    refine new_sorted hc I q fun A Q' hA k => collect_set hA ⟨o, ho, hx.1, hd⟩ hf hb hr hl fun s1 vs k1 _ g1 o1 p1 => ?_
    have key : ∀ (us : List Value), (∀ v ∈ us, ∃ x t, v = Value.str x t) → PyProof.Rows.StrsAre us (us.map fun v => txOf (0, v)) := by
      intro us
      induction us with
      | nil => exact fun _ => .nil
      | cons v r ih =>
        intro hv
        obtain ⟨x, t, rfl⟩ := hv v List.mem_cons_self
        exact .cons x t (ih fun u hu => hv u (List.mem_cons_of_mem _ hu))
    refine k s1 vs (vs.map fun v => txOf (0, v)) k1 g1 o1 (key vs fun v hv => ?_) ?_
    · obtain ⟨e, he, rfl⟩ := List.mem_map.mp (p1.mem_iff.mp hv)
      obtain ⟨x, tk, e1, _⟩ := g e he
      exact ⟨x, tk, e1⟩
    · have p2 := p1.map fun v => txOf (0, v)
      rw [List.map_map] at p2
      exact p2.trans pm
  | [.ref p], .inr h => exact (cr_sortedS.or cr_sortedI) pins s σ H [.ref p] us Q I r h
end
end SL
namespace SL
open PySem PySem.Spec PyProof.Rows L2 SX HT
section
variable {prog : Program} {w : World} {A : Around} {E : Value → Shared → Prop} {s : Shared}
end
end SL
namespace SL
open PySem PySem.Spec PyProof.Rows L2 SX
theorem tyStr {K : PySem.W.Frag} {H : Hp} {z : Str} : tyV K "str" (.str z) H = True := propext ⟨fun _ => trivial, fun _ => rfl⟩
section
variable {X : Cx} {o e : Expr} {es : List Expr} {to : TE} {t : TA} {name : Str} {apos cpos : Pos} {T id : String} {r : V → List V → Hp → VK → Prop}
theorem pe_bmK {K : PySem.W.Frag} (pa : PlainAttrs T) (slot : Slot T name id) (hty : typeOf (.builtin id) = pure (.type "method_descriptor")) (hm : MtR X id r) (ho : PE X o to) (ha : PA X (e :: es) t)
    (hK : X.K = K := by rfl) (hbase : attributeBase o name X.env (eval o X.env) = eval o X.env := by rfl)
    (hfew : ((backTo cpos (starEach (e :: es) X.env)).all (fun x => !x.1) && (backToKw cpos (keywordEach [] X.env)).all (fun x => x.1.isSome)
      && decide ((e :: es).length + ([] : List Keyword).length + (if ([] : List Keyword).isEmpty then 0 else 1) < 30)) = true := by rfl)
    (hline : (apos.endLine == cpos.line) = true := by rfl) (hs : starEach (e :: es) X.env = (false, eval e X.env) :: starEach es X.env := by rfl) (hplain : (backTo cpos (starEach es X.env)).any (·.1) = false := by rfl) :
    PE X (.Call (.Attribute o name apos) (e :: es) [] cpos) (tBM K T r to t) := by
  subst hK
  exact pe_bm pa slot hty hm ho ha hbase hfew hline hs hplain
theorem pe_bm0K' {K : PySem.W.Frag} (pa : PlainAttrs T) (slot : Slot T name id) (hty : typeOf (.builtin id) = pure (.type "method_descriptor")) (hm : MtR X id r) (ho : PE X o to)
    (hK : X.K = K := by rfl) (hbase : attributeBase o name X.env (eval o X.env) = eval o X.env := by rfl) (hline : (apos.endLine == cpos.line) = true := by rfl) : PE X (.Call (.Attribute o name apos) [] [] cpos) (tBM0 K T r to) := by
  subst hK
  exact pe_bm0 pa slot hty hm ho hbase hline
theorem MtR.imp {r r' : V → List V → Hp → VK → Prop} (h : MtR X id r) (i : ∀ x xs H Q, r' x xs H Q → r x xs H Q) : MtR X id r' := fun pins s σ H x xs v us Q I rx rs q => h pins s σ H x xs v us Q I rx rs (i _ _ _ _ q)
def rJoin (K : PySem.W.Frag) : V → List V → Hp → VK → Prop := fun x xs H Q => match x, xs with
  | .str a, [.ref p] => ∃ ys : List Str, (SqL K H p (ys.map V.str) ∨ SqT K H p (ys.map V.str)) ∧ (ys.map (·.length)).sum + ys.length * a.length ≤ 16777216 ∧ Q (.str (Txt.join a ys)) H
  | _, _ => False
theorem mo_join {K : PySem.W.Frag} (hK : X.K = K := by rfl) : MtR X "str.join" (rJoin K) := by
  subst hK
  refine MtR.imp mt_join fun x xs H Q h => ?_
  match x, xs, h with
  | .str a, [.ref p], ⟨ys, h1, h2, q⟩ => exact ⟨a, p, ys, rfl, rfl, h1, h2, q⟩
def rCount : V → List V → Hp → VK → Prop := fun x xs H Q => match x, xs with
  | .str a, [.str b] => Q (.int (Txt.count a b)) H
  | _, _ => False
theorem mo_count : MtR X "str.count" rCount := by
  refine MtR.imp mt_count fun x xs H Q h => ?_
  match x, xs, h with
  | .str a, [.str b], q => exact ⟨a, b, rfl, rfl, q⟩
/-! ### len of anything -/
def rLenW (K : PySem.W.Frag) (w : World) : List V → Hp → VK → Prop := fun xs H Q => match xs with
  | [.str z] => z.length ≤ sizeLine ∧ Q (.int z.length) H
  | [.ref p] => (∃ l, H p = some (SetS w p l) ∧ Q (.int (l.length : Int)) H) ∨ ∃ n, LenV K (.ref p) H n ∧ Q (.int n) H
  | _ => False
theorem o_lenW {K : PySem.W.Frag} {w : World} (hK : X.K = K := by rfl) (hw : X.w = w := by rfl) : CallR X (.builtin "len") (rLenW K w) := by
  subst hK hw
  refine CallR.imp (CallR.or len_setS o_len) fun xs H Q h => ?_
  match xs, h with
  | [.str z], ⟨h1, h2⟩ => exact .inr ⟨_, ⟨h1, rfl⟩, h2⟩
  | [.ref p], .inl h => exact .inl h
  | [.ref p], .inr h => exact .inr h
/-! ### list of a text, a list, a tuple -/
def rListU (K : PySem.W.Frag) : List V → Hp → VK → Prop := fun xs H Q => match xs with
  | [.str z] => z.length ≤ sizeLine ∧ ∀ p, H p = none → Q (.ref p) (upd H p (.lst ((chars z).map V.str)))
  | [.ref p] => ∃ ys, (SqL K H p ys ∨ SqT K H p ys) ∧ ∀ l, H l = none → Q (.ref l) (upd H l (.lst ys))
  | _ => False
theorem o_list {K : PySem.W.Frag} (hc : X.calm = true) (hK : X.K = K := by rfl) : CallR X (.type "list") (rListU K) := by
  subst hK
  intro pins s σ H xs us Q I r h
  match xs, h with
  | [.str z], ⟨hz, q⟩ =>
    obtain ⟨u, rfl, t, rfl⟩ := vals1 r
    refine call_list_str (hn := hz) (I.ok.hd hc) z t fun h' tk acc' c' k e it => ?_
    have sa := items_strs it
    have fr := I.hok.fresh (Nat.le_refl s.heap.objs.size)
    have hl : ((chars z).map V.str).length ≤ sizeLine := by
      unfold chars
      rw [List.length_map, List.length_map, Array.length_toList]
      exact hz
    exact ⟨.ref s.heap.objs.size, _, I.laid (t' := tk) k (Nat.le_refl _) (show ObjOk X.prog X.w _ h' _ (.lst ((chars z).map V.str)) from ⟨hl, acc'.toList, c', vals_of_strs sa, e⟩), rfl, q _ fr⟩
  | [.ref p], ⟨ys, h1, q⟩ => exact call_list_of pins s σ H [.ref p] us Q I r ⟨p, ys, rfl, h1, q⟩
/-! ### x[::-1] -/
def rRevU (K : PySem.W.Frag) : V → Hp → VK → Prop := fun x H Q => match x with
  | .str z => z.length ≤ sizeLine ∧ Q (.str (S z.cps.toList.reverse)) H
  | .ref a => (∃ xs, SqT K H a xs ∧ ∀ p, H p = none → Q (.ref p) (upd H p (.tup xs.reverse))) ∨ ∃ xs, SqL K H a xs ∧ ∀ p, H p = none → Q (.ref p) (upd H p (.lst xs.reverse))
  | _ => False
end
/-! ### texts by their signs -/
theorem join_chars : ∀ a : List Nat, Txt.join (S []) (a.map fun c => S [c]) = S a := by
  intro a
  have h : ∀ a : List Nat, TL.joinL [] (a.map fun c => [c]) = a := by
    intro a
    induction a with
    | nil => rfl
    | cons c r ih =>
      cases r with
      | nil => rfl
      | cons d r => exact congrArg (c :: ·) ih
  have e := SX.join_S [] (a.map fun c => [c])
  rw [h a, List.map_map] at e
  exact e
theorem len_chars (a : List Nat) : ((a.map fun c => S [c]).map (·.length)).sum + (a.map fun c => S [c]).length * (S []).length = a.length := by
  rw [S_len, List.length_nil, Nat.mul_zero, Nat.add_zero]
  induction a with
  | nil => rfl
  | cons c r ih =>
    rw [List.map_cons, List.map_cons, List.sum_cons, ih, S_len]
    simp; omega
end SL
namespace SL
open PySem PySem.Spec PyProof.Rows L2 SX
/-! ### enumerate of a text or a list -/
def Ites (z : Str) : It := ⟨fun i _ => i < z.cps.size, fun i H v H' => ∃ T c, v = .ref T ∧ H T = none ∧ H' = upd H T (.tup [.int (i : Nat), .str ⟨#[c]⟩]) ∧ z.cps[i]? = some c, fun i _ => z.cps.size ≤ i⟩
def iEnumU (K : PySem.W.Frag) (ta : TA) : TI := fun σ H R => ta σ H fun vs H1 => match vs with
  | [.ref a] => (∃ xs, SqL K H1 a xs) ∧ R (Ite K a) H1
  | [.str z] => R (Ites z) H1
  | _ => False
/-! ### max, min, insert -/
section
variable {X : Cx}
def rMaxU (K : PySem.W.Frag) : List V → Hp → VK → Prop := fun xs H Q => match xs with
  | [.int i, .int j] => Q (.int (if j > i then j else i)) H
  | [.ref a] => rMax K [.ref a] H Q
  | _ => False
theorem o_max {K : PySem.W.Frag} (hc : X.calm = true) (hK : X.K = K := by rfl) : CallR X (.builtin "max") (rMaxU K) := by
  subst hK
  refine CallR.imp (CallR.or (call_max2 hc) (cr_max hc)) fun xs H Q h => ?_
  match xs, h with
  | [.int i, .int j], q => exact .inl ⟨i, j, rfl, q⟩
  | [.ref a], q => exact .inr q
def rMinU (K : PySem.W.Frag) : List V → Hp → VK → Prop := fun xs H Q => match xs with
  | [.int i, .int j] => Q (.int (if j < i then j else i)) H
  | [.ref a] => rMin K [.ref a] H Q
  | _ => False
def rInsert : V → List V → Hp → VK → Prop := fun x vs H Q => match x, vs with
  | .ref l, [.int i, y] => ∃ xs, H l = some (.lst xs) ∧ xs.length < sizeLine ∧ 0 ≤ i ∧ i < 2 ^ 63 ∧ Q .non (upd H l (.lst (xs.take i.toNat ++ [y] ++ xs.drop i.toNat)))
  | _, _ => False
end
end SL
namespace SL
open PySem PySem.Spec PyProof.Rows L2 SX SrtO
open PySem.W (KatLex kat_nil kat_cons kat_yes kat_no kat_go kat_lt)
/-! ### sorted lists of tuples: a number, then a text, then more -/
abbrev KeyT := Int × List Nat
def ltK (a b : KeyT) : Bool := lexLt itemOrd [.inl a.1, .inr a.2] [.inl b.1, .inr b.2]
theorem ltK_irr (a : KeyT) : ltK a a = false := lex_irrefl _
theorem swo_ltK {α : Type} (k : α → KeyT) : Swo fun v u => ltK (k v) (k u) := by
  refine ⟨fun x y h => ?_, fun x y z h1 h2 => ?_⟩
  · cases e : ltK (k y) (k x) with
    | false => rfl
    | true =>
      have := lex_trans (O := itemOrd) _ _ _ h e
      rw [show lexLt itemOrd [.inl (k x).1, .inr (k x).2] [.inl (k x).1, .inr (k x).2] = false from lex_irrefl _] at this
      cases this
  · cases e : ltK (k z) (k x) with
    | false => rfl
    | true =>
      rcases lex_negTrans (O := itemOrd) _ [.inl (k y).1, .inr (k y).2] _ e with h | h
      · exact absurd (h2.symm.trans h) Bool.false_ne_true
      · exact absurd (h1.symm.trans h) Bool.false_ne_true
theorem ltK_tri {a b : KeyT} (h : ltK a b = false) (g : ltK b a = false) : a = b := by
  have e := lex_total (O := itemOrd) _ _ h g
  injection e with e1 e2
  injection e2 with e2 _
  injection e1 with e1
  injection e2 with e2
  exact Prod.ext e1 e2
section
variable {prog : Program} {w : World} {A : Around} {E : Value → Shared → Prop} {s : Shared}
def TupAt (h : Heap) (v : Value) (kk : KeyT) : Prop := ∃ a o x t y u r n, v = .ref a ∧ h.get? a = some o ∧ o.cls = .type "tuple" ∧ o.data = .seq (Value.int x t :: Value.str y u :: r).toArray n ∧ kk = (x, y.cps.toList)
theorem TupAt.keeps {h h' : Heap} {v : Value} {kk : KeyT} (q : TupAt h v kk) (k : ∀ b o, h.get? b = some o → o.cls = .type "tuple" → h'.get? b = some o) : TupAt h' v kk := by
  obtain ⟨a, o, x, t, y, u, r, n, e, ho, hc, hd, hk⟩ := q
  exact ⟨a, o, x, t, y, u, r, n, e, k a o ho hc, hc, hd, hk⟩
theorem kat_self {b : Bool} {Q : Bool → Shared → Prop} : ∀ (l : List Value) (i : Nat), Q false s → KatLex prog w A b false Q (l.zip l) i s
  | [], _, h => kat_nil h
  | v :: r, i, h => by
    refine kat_cons (SeqAt.EqAt.same v prog w _ _ ?_)
    exact kat_yes (kat_self r (i + 1) h)
theorem katT {b fin : Bool} {Q : Bool → Shared → Prop} {x x' : Int} {t t' u u' : Tok} {y y' : Str} {rs : List (Value × Value)} (hne : ¬ (x = x' ∧ y = y')) (h : Q (ltK (x, y.cps.toList) (x', y'.cps.toList)) s) : KatLex prog w A b fin Q ((.int x t, .int x' t') :: (.str y u, .str y' u') :: rs) 0 s := by
  unfold ltK at h
  refine kat_cons (wpAny_eqBool_int ?_)
  refine kat_go (fun e => kat_yes ?_) (fun e => kat_no ?_)
  · have hx : x = x' := by simpa using e
    subst hx
    rw [lex_self] at h
    refine kat_cons (wpAny_eqBool_str ?_)
    refine kat_go (fun e => ?_) (fun e => kat_no ?_)
    · exact absurd ⟨rfl, of_decide_eq_true e⟩ hne
    · have hxy : ¬ y = y' := of_decide_eq_false e
      have hn : y.cps.toList ≠ y'.cps.toList := fun hl => hxy (by
        have hc : y.cps = y'.cps := Array.toList_inj.mp hl
        cases y; cases y'
        simp only [Str.mk.injEq]
        exact hc)
      rw [lex_diff (fun z => hn (Sum.inr.inj z))] at h
      exact oneLt_any_str h
  · have hx : ¬ x = x' := by simpa using e
    rw [lex_diff (fun z => hx (Sum.inl.inj z))] at h
    exact oneLt_any_int h
theorem keyT_cmp {vs : List Value} {k : Value → KeyT} (hp : ∀ v ∈ vs, TupAt s.heap v (k v)) (inj : ∀ v ∈ vs, ∀ u ∈ vs, k v = k u → v = u) : Cmp prog w A s (tuples' true) (fun p => p.1 ∈ vs) (lt2 fun v u => ltK (k v) (k u)) := by
  intro p q hm hm'
  show wpAny (model prog w) A (keyLt' (tuples' true) p.1 q.1) (fun r s' => s' = s ∧ r = ltK (k p.1) (k q.1)) (fun _ _ => False) s
  obtain ⟨a, o, x, t, y, u, r, n, e, ho, hc, hd, hk⟩ := hp _ hm
  obtain ⟨a', o', x', t', y', u', r', n', e', ho', hc', hd', hk'⟩ := hp _ hm'
  by_cases hkk : k p.1 = k q.1
  · have ev := inj _ hm _ hm' hkk
    rw [← ev, e]
    refine kat_lt ho hd ho hd ?_
    have ef : decide ((Value.int x t :: Value.str y u :: r).toArray.size < (Value.int x t :: Value.str y u :: r).toArray.size) = false := decide_eq_false (Nat.lt_irrefl _)
    rw [ef]
    exact kat_self _ 0 ⟨rfl, (ltK_irr _).symm⟩
  · rw [e, e']
    rw [e] at hk
    rw [e'] at hk'
    refine kat_lt ho hd ho' hd' ?_
    rw [hk, hk']
    refine katT (fun h => hkk ?_) ⟨rfl, rfl⟩
    rw [e, e', hk, hk', h.1, h.2]
theorem keyT_sortable {a : Addr} {vs : List Value} {k : Value → KeyT} (h0 : 0 < vs.length) (hp : ∀ v ∈ vs, TupAt s.heap v (k v)) (inj : ∀ v ∈ vs, ∀ u ∈ vs, k v = k u → v = u) (ha : ∀ o, s.heap.get? a = some o → o.cls ≠ .type "tuple") : SortableO prog w A s a vs fun v u => ltK (k v) (k u) := by
  intro h' keep
  have hp' : ∀ v ∈ vs, TupAt h' v (k v) := fun v hm => (hp v hm).keeps fun b o e c => keep b o (fun z => by subst z; exact ha o e c) e
  have key : ∀ l : List Value, (∀ v ∈ l, TupAt h' v (k v)) → ∃ fs, TupsOf h' (fun _ => false) l fs ∧ fs.length = l.length := by
    intro l
    induction l with
    | nil => exact fun _ => ⟨[], .nil, rfl⟩
    | cons v r ih =>
      intro hl
      obtain ⟨fs, h1, h2⟩ := ih fun u hu => hl u (List.mem_cons_of_mem _ hu)
      obtain ⟨a, o, x, t, y, u, r', n, e, ho, hc, hd, _⟩ := hl v List.mem_cons_self
      exact ⟨.int x t :: fs, .cons ⟨a, o, _, n, e, ho, hc, hd, rfl, fun _ => ⟨x, t, rfl⟩, fun z => nomatch z⟩ h1, by rw [List.length_cons, List.length_cons, h2]⟩
  obtain ⟨fs, h1, h2⟩ := key vs hp'
  exact ⟨tuples' true, fun Q E hq => tup_kind (by omega) h1 hq, keyT_cmp (s := { s with heap := h' }) hp' inj⟩
end
def rSortT (K : PySem.W.Frag) : List V → Hp → VK → Prop := fun vs H Q => ∃ (a : Addr) (xs : List V) (k : V → KeyT), vs = [V.ref a] ∧ SqL K H a xs ∧ (∀ x ∈ xs, ∃ t more, x = V.ref t ∧ H t = some (.tup (.int (k x).1 :: .str (S (k x).2) :: more))) ∧ (∀ x ∈ xs, ∀ y ∈ xs, k x = k y → x = y) ∧
  ∀ ys p, ys.Perm xs → ys.Pairwise (fun x y => ltK (k y) (k x) = false) → H p = none → Q (.ref p) (upd H p (.lst ys))
section
variable {X : Cx}
theorem o_sortedT {K : PySem.W.Frag} (hK : X.K = K := by rfl) : CallR X (.builtin "sorted") (rSortT K) := by
  subst hK
  intro pins s σ H vs us Q I r h
  obtain ⟨a, xs, k, rfl, hs, hx, inj, q⟩ := h
  obtain ⟨its, rv, hl, hz⟩ := I.list hs
  obtain ⟨u, rfl, ru⟩ := vals1 r
  obtain rfl : u = Value.ref a := ru
  obtain ⟨e1, e2⟩ := refs_back rv fun x m => by
    obtain ⟨t, _, e, _⟩ := hx x m
    exact ⟨t, e⟩
  have mem : ∀ v ∈ its, backV v ∈ xs := fun v hv => by rw [e1]; exact List.mem_map.mpr ⟨_, hv, rfl⟩
  have tup : ∀ v ∈ its, TupAt s.heap v (k (backV v)) := fun v hv => by
    obtain ⟨t, rfl⟩ := e2 v hv
    obtain ⟨t', more, e, ht⟩ := hx _ (mem _ hv)
    cases e
    obtain ⟨_, its2, r2, o, ho, hc, n, hd⟩ := I.hok _ _ ht
    cases r2 with
    | cons ri r2 => cases r2 with
      | cons rj r2 =>
        obtain ⟨t1, rfl⟩ := ri
        obtain ⟨t2, rfl⟩ := rj
        refine ⟨t, o, _, t1, _, t2, _, n, rfl, ho, hc, hd, ?_⟩
        refine Prod.ext rfl ?_
        simp
  have inj' : ∀ v ∈ its, ∀ u ∈ its, k (backV v) = k (backV u) → v = u := fun v hv u hu e => by
    have e' := inj _ (mem v hv) _ (mem u hu) e
    obtain ⟨t, rfl⟩ := e2 v hv
    obtain ⟨t', rfl⟩ := e2 u hu
    have e3 : V.ref t = V.ref t' := e'
    cases e3
    rfl
  refine sorted_ord (swo_ltK fun u => k (backV u)) hl.isList (by rw [← rv.length]; exact hz) (fun h2 h₁ a' ha kk => ?_) fun out h1 h2 => ?_
  · refine keyT_sortable (s := { s with heap := h₁ }) (by omega) (fun v hm => (tup v hm).keeps fun b o e _ => (kk b o e).2) inj' fun o e => ?_
    have e' : some o = some (seqObj "list" its.toArray 0) := e.symm.trans ha
    cases e'
    intro c
    exact absurd (Value.type.inj c) (by decide)
  · have h3 : ∀ u ∈ out, ∃ a, u = Value.ref a := fun u hu => e2 u (h2.perm.mem_iff.mp hu)
    obtain ⟨n, hn⟩ := sortedAll_at s.heap its out.toArray
    have hb : (out.map backV).Perm xs := by
      rw [e1]
      exact h2.perm.map _
    have hsz : s.heap.objs.size ≤ s.heap.objs.size + 1 := Nat.le_succ _
    refine ⟨.ref _, upd H (s.heap.objs.size + 1) (.lst (out.map backV)), I.laid (t' := s.toks) (fun _ _ => sortedAll_old) hsz ⟨?_, out, n, vals_back h3, hn⟩, rfl, q _ _ hb (srtd_map h1) (I.hok.fresh hsz)⟩
    rw [hb.length_eq]
    exact hz
end
/-- two orders of the same entries, both rising -/
theorem sorted_uniq {α : Type} {k : α → KeyT} : ∀ {a b : List α}, a.Perm b → a.Pairwise (fun x y => ltK (k y) (k x) = false) → b.Pairwise (fun x y => ltK (k y) (k x) = false) → (∀ x ∈ a, ∀ y ∈ a, k x = k y → x = y) → a = b
  | [], b, p, _, _, _ => (List.nil_perm.mp p).symm
  | x :: r, [], p, _, _, _ => absurd (List.perm_nil.mp p) (by simp)
  | x :: r, y :: t, p, ha, hb, inj => by
    have hx : x ∈ y :: t := p.mem_iff.mp List.mem_cons_self
    have hy : y ∈ x :: r := p.mem_iff.mpr List.mem_cons_self
    have h1 : ltK (k y) (k x) = false := by
      rcases List.mem_cons.mp hy with e | h
      · rw [e]; exact ltK_irr _
      · exact (List.pairwise_cons.mp ha).1 y h
    have h2 : ltK (k x) (k y) = false := by
      rcases List.mem_cons.mp hx with e | h
      · rw [e]; exact ltK_irr _
      · exact (List.pairwise_cons.mp hb).1 x h
    have e : x = y := inj x List.mem_cons_self y hy (ltK_tri h2 h1)
    subst e
    rw [sorted_uniq p.cons_inv (List.pairwise_cons.mp ha).2 (List.pairwise_cons.mp hb).2 fun a ha b hb => inj a (List.mem_cons_of_mem _ ha) b (List.mem_cons_of_mem _ hb)]
end SL
namespace SL
open PySem PySem.Spec PyProof.Rows L2 SX
theorem ifT {α : Sort _} {d : Decidable True} {a b : α} : @ite α True d a b = a := if_pos trivial
theorem ifF {α : Sort _} {d : Decidable False} {a b : α} : @ite α False d a b = b := if_neg id
/-- a statement by what is wanted behind it -/
def sMid (t : TS) : TS := fun D σ H => ∃ D' : Ends, t D' σ H ∧ (∀ σ H, D'.nx σ H → D.nx σ H) ∧ (∀ v H, D'.rt v H → D.rt v H) ∧ (∀ σ H, D'.bk σ H → D.bk σ H) ∧ ∀ σ H, D'.ct σ H → D.ct σ H
theorem ps_mid {X : Cx} {st : Stmt} {t : TS} (h : PS X st t) : PS X st (sMid t) := ⟨fun pins s σ H D I ⟨D', h1, n, r, b, c⟩ => thn (h.run pins s σ H D' I h1) fun f s' q => by
  cases f with
  | next => obtain ⟨σ', H', J, k⟩ := q; exact ⟨σ', H', J, n _ _ k⟩
  | brk => obtain ⟨σ', H', J, k⟩ := q; exact ⟨σ', H', J, b _ _ k⟩
  | cont => obtain ⟨σ', H', J, k⟩ := q; exact ⟨σ', H', J, c _ _ k⟩
  | ret u => obtain ⟨v, σ', H', J, e, k⟩ := q; exact ⟨v, σ', H', J, e, r _ _ k⟩⟩
/-- a statement, then the rest: Pm stands between -/
theorem q_stm {t u : TS} {D : Ends} {σ : L2.St} {H : Hp} (Pm : L2.St → Hp → Prop) (h : t { D with nx := Pm } σ H) (k : ∀ σ H, Pm σ H → u D σ H) : tSeq (sMid t) u D σ H :=
  ⟨{ D with nx := Pm }, h, k, fun _ _ q => q, fun _ _ q => q, fun _ _ q => q⟩
/-! ### forms of parts, as the laws write them -/
inductive PF where
  | one (c : Nat)
  | any
  | among (l : List Nat) (o : Bool)
  | stars
deriving DecidableEq
def SIG : List Nat := (Str.ofString "-.0123456789_abcdefghijklmnopqrstuvwxyz").cps.toList
theorem sig_len : SIG.length = 39 := by decide +kernel
theorem sig_up : SIG.Pairwise (· < ·) := by decide +kernel
def PF.d : PF → PyData
  | .one c => .tuple [.str "one", .str (S [c])]
  | .any => .tuple [.str "any"]
  | .among l o => .tuple [.str "among", .str (S l), .bool o]
  | .stars => .tuple [.str "stars"]
/-- a set of signs, rising -/
structure SigSet (l : List Nat) : Prop where
  ne : l ≠ []
  up : l.Pairwise (· < ·)
  sg : ∀ c ∈ l, c ∈ SIG
def PF.Ok : PF → Prop
  | .one c => c ∈ SIG
  | .among l _ => SigSet l ∧ l.length ≤ 12
  | _ => True
def PF.fits (f : PF) (c : Nat) : Bool := match f with
  | .one d => decide (c = d)
  | .among l o => (decide (c ∈ l)) != o
  | _ => true
def PF.many : PF → Bool
  | .stars => true
  | _ => false
/-- sets outside are of three signs at most -/
def PF.Low : PF → Prop
  | .among l true => l.length ≤ 3
  | _ => True
theorem manyOne {c : Nat} : (PF.one c).many = false := rfl
theorem manyAny : PF.any.many = false := rfl
theorem manyAmong {l : List Nat} {o : Bool} : (PF.among l o).many = false := rfl
theorem manyStars : PF.stars.many = true := rfl
theorem nd_up {l : List Nat} (h : l.Pairwise (· < ·)) : l.Nodup := h.imp fun h => Nat.ne_of_lt h
theorem str_nd_len : ∀ (l D : List Str), l.Nodup → (∀ x ∈ l, x ∈ D) → l.length ≤ D.length
  | [], _, _, _ => Nat.zero_le _
  | x :: l, D, hn, hs => by
    obtain ⟨h1, h2⟩ := List.nodup_cons.mp hn
    have hx : x ∈ D := hs x List.mem_cons_self
    have ih := str_nd_len l (D.erase x) h2 fun y hy => by
      have hne : y ≠ x := fun e => h1 (e ▸ hy)
      exact (List.mem_erase_of_ne hne).2 (hs y (List.mem_cons_of_mem _ hy))
    have e := List.length_erase_of_mem hx
    have hp : 0 < D.length := List.length_pos_of_mem hx
    rw [List.length_cons]
    omega
theorem nd_len {l : List Nat} (h : l.Nodup) (s : ∀ c ∈ l, c ∈ SIG) : l.length ≤ 39 := by
  have e := nat_nodup_len l SIG h s
  rw [sig_len] at e
  exact e
theorem SigSet.len {l : List Nat} (h : SigSet l) : l.length ≤ 39 := nd_len (nd_up h.up) h.sg
/-- data that may be compared, at most n deep -/
def DOk (n : Nat) (d : PyData) : Prop := d.canLay0 = true ∧ d.depth ≤ n
theorem DOk.up {n m : Nat} {d : PyData} (h : DOk n d) (e : n ≤ m) : DOk m d := ⟨h.1, Nat.le_trans h.2 e⟩
theorem dok_str {x : Str} {n : Nat} (h : PyData.strOk x = true) : DOk n (.str x) := ⟨by simp only [PyData.canLay0]; exact h, by simp only [PyData.depth]; omega⟩
theorem dok_bl {b : Bool} {n : Nat} : DOk n (.bool b) := ⟨by simp only [PyData.canLay0], by simp only [PyData.depth]; omega⟩
theorem dok_int {i : Int} {n : Nat} : DOk n (.int i) := ⟨by simp only [PyData.canLay0], by simp only [PyData.depth]; omega⟩
theorem dok_non {n : Nat} : DOk n .none := ⟨by simp only [PyData.canLay0], by simp only [PyData.depth]; omega⟩
theorem dok_all {n : Nat} : ∀ {ds : List PyData}, (∀ d ∈ ds, DOk n d) → PyData.canLayAll0 ds = true ∧ PyData.depthAll ds ≤ n
  | [], _ => ⟨by simp only [PyData.canLayAll0], by simp only [PyData.depthAll]; omega⟩
  | d :: r, h => by
    have h1 := h d List.mem_cons_self
    have h2 := dok_all (ds := r) fun e he => h e (List.mem_cons_of_mem _ he)
    refine ⟨by simp only [PyData.canLayAll0, h1.1, h2.1]; rfl, ?_⟩
    simp only [PyData.depthAll]
    have := h1.2
    have := h2.2
    omega
theorem dok_tup {n : Nat} {ds : List PyData} (h : ∀ d ∈ ds, DOk n d) : DOk (n + 1) (.tuple ds) := by
  have e := dok_all h
  exact ⟨by simp only [PyData.canLay0]; exact e.1, by simp only [PyData.depth]; omega⟩
theorem dok_lst {n : Nat} {ds : List PyData} (h : ∀ d ∈ ds, DOk n d) : DOk (n + 1) (.list ds) := by
  have e := dok_all h
  exact ⟨by simp only [PyData.canLay0]; exact e.1, by simp only [PyData.depth]; omega⟩
theorem DOk.shaped {n : Nat} {d : PyData} (h : DOk n d) (e : n ≤ 64) : SeqAt.shaped d = true := by
  show (d.canLay0 && decide (d.depth ≤ 64)) = true
  rw [Bool.and_eq_true]
  exact ⟨h.1, decide_eq_true (Nat.le_trans h.2 e)⟩
theorem DOk.eqv {n : Nat} {d : PyData} (h : DOk n d) : PyData.eqv d d = true := SeqAt.eqv_refl _ h.1
theorem all_nil {p : PyData → Prop} : ∀ d ∈ ([] : List PyData), p d := fun _ h => nomatch h
theorem all_cons {p : PyData → Prop} {x : PyData} {l : List PyData} (h : p x) (t : ∀ d ∈ l, p d) : ∀ d ∈ x :: l, p d := fun d h' => (List.mem_cons.mp h').elim (fun e => e ▸ h) (t d)
theorem ok_signs {l : List Nat} (h : ∀ c ∈ l, c ∈ SIG) : PyData.strOk (S l) = true := by
  have k : ∀ c ∈ SIG, c < 128 := by decide +kernel
  unfold PyData.strOk
  rw [← Array.all_toList, List.all_eq_true]
  exact fun c hc => decide_eq_true (Nat.lt_trans (k c (h c hc)) (by decide))
theorem PF.dok {f : PF} (h : f.Ok) : DOk 1 f.d := by
  cases f with
  | one c => exact dok_tup (all_cons (dok_str (by decide +kernel)) (all_cons (dok_str (ok_signs fun d hd => by rw [List.mem_singleton.mp hd]; exact h)) all_nil))
  | any => exact dok_tup (all_cons (dok_str (by decide +kernel)) all_nil)
  | among l o => exact dok_tup (all_cons (dok_str (by decide +kernel)) (all_cons (dok_str (ok_signs h.1.sg)) (all_cons dok_bl all_nil)))
  | stars => exact dok_tup (all_cons (dok_str (by decide +kernel)) all_nil)
/-! ### signs put in order -/
theorem S1_inj {a b : Nat} (h : S [a] = S [b]) : a = b := List.head_eq_of_cons_eq (S_inj h)
theorem map1_mem {cs : List Nat} {c : Nat} : S [c] ∈ (cs.map fun c => S [c]) ↔ c ∈ cs := by
  rw [List.mem_map]
  exact ⟨fun ⟨d, hd, e⟩ => by rw [← S1_inj e]; exact hd, fun h => ⟨c, h, rfl⟩⟩
theorem signs_of : ∀ {ys : List Str}, (∀ y ∈ ys, ∃ c, y = S [c]) → ∃ cs : List Nat, ys = cs.map fun c => S [c]
  | [], _ => ⟨[], rfl⟩
  | y :: r, h => by
    obtain ⟨c, rfl⟩ := h y List.mem_cons_self
    obtain ⟨cs, rfl⟩ := signs_of (ys := r) fun z hz => h z (List.mem_cons_of_mem _ hz)
    exact ⟨c :: cs, rfl⟩
theorem rising_codes : ∀ (cs : List Nat) (p : Nat), risingS (S [p]) (cs.map fun c => S [c]) = true → (p :: cs).Pairwise (· ≤ ·)
  | [], p, _ => by simp
  | c :: r, p, h => by
    have h' : (!ltCps [c] [p] && risingS (S [c]) (r.map fun c => S [c])) = true := h
    rw [Bool.and_eq_true] at h'
    have h1 : p ≤ c := by
      have e := h'.1
      unfold ltCps at e
      simp [ltCps] at e
      exact e
    have h2 := rising_codes r c h'.2
    refine List.pairwise_cons.mpr ⟨fun d hd => ?_, h2⟩
    rcases List.mem_cons.mp hd with rfl | hd
    · exact h1
    · exact Nat.le_trans h1 ((List.pairwise_cons.mp h2).1 d hd)
theorem sorted_codes : ∀ (cs : List Nat), sortedS (cs.map fun c => S [c]) = true → cs.Pairwise (· ≤ ·)
  | [], _ => .nil
  | c :: r, h => rising_codes r c h
theorem le_lt_nd : ∀ {l : List Nat}, l.Pairwise (· ≤ ·) → l.Nodup → l.Pairwise (· < ·)
  | [], _, _ => .nil
  | a :: r, h, n => by
    have h' := List.pairwise_cons.mp h
    have n' := List.nodup_cons.mp n
    refine List.pairwise_cons.mpr ⟨fun b hb => ?_, le_lt_nd h'.2 n'.2⟩
    have e := h'.1 b hb
    have q : a ≠ b := fun z => n'.1 (z ▸ hb)
    omega
theorem nd_unmap : ∀ {cs : List Nat}, (cs.map fun c => S [c]).Nodup → cs.Nodup
  | [], _ => .nil
  | c :: r, h => by
    have h' := List.nodup_cons.mp h
    exact List.nodup_cons.mpr ⟨fun q => h'.1 (map1_mem.mpr q), nd_unmap h'.2⟩
/-- sorted signs, each once -/
theorem sorted_signs {ys zs : List Str} (pm : ys.Perm zs) (so : sortedS ys = true) (nd : zs.Nodup) (h : ∀ z ∈ zs, ∃ c, z = S [c]) : ∃ cs : List Nat, ys = cs.map (fun c => S [c]) ∧ cs.Pairwise (· < ·) ∧ ∀ c, c ∈ cs ↔ S [c] ∈ zs := by
  obtain ⟨cs, rfl⟩ := signs_of (ys := ys) fun y hy => h y (pm.mem_iff.mp hy)
  exact ⟨cs, rfl, le_lt_nd (sorted_codes cs so) (nd_unmap (pm.nodup_iff.mpr nd)), fun c => by rw [← pm.mem_iff, map1_mem]⟩
/-- a text of different signs, one at least -/
def Good (z : Str) : Prop := ∃ l, SigSet l ∧ z.cps.toList.Perm l
theorem not_nd : ∀ {zs : List Str}, ¬ zs.Nodup → ∃ x ∈ zs, ∀ y ∈ zs, y ∈ zs.erase x
  | [], h => absurd .nil h
  | a :: r, h => by
    by_cases ha : a ∈ r
    · refine ⟨a, List.mem_cons_self, fun y hy => ?_⟩
      rw [List.erase_cons_head]
      exact (List.mem_cons.mp hy).elim (fun e => e ▸ ha) id
    · obtain ⟨x, hx, hs⟩ := not_nd (zs := r) fun n => h (List.nodup_cons.mpr ⟨ha, n⟩)
      have hne : a ≠ x := fun e => ha (e ▸ hx)
      refine ⟨x, List.mem_cons_of_mem _ hx, fun y hy => ?_⟩
      rw [List.erase_cons_tail (by simpa using hne)]
      exact (List.mem_cons.mp hy).elim (fun e => e ▸ List.mem_cons_self) fun q => List.mem_cons_of_mem _ (hs y q)
/-- how many different texts there are tells whether each is there once -/
theorem set_len {l zs : List Str} (nd : l.Nodup) (h : ∀ x, x ∈ l ↔ x ∈ zs) : (l.length < zs.length) = ¬ zs.Nodup := by
  refine propext ⟨fun hl n => ?_, fun hn => ?_⟩
  · have := str_nd_len zs l n fun x hx => (h x).mpr hx
    omega
  · obtain ⟨x, hx, hs⟩ := not_nd hn
    have a := str_nd_len l (zs.erase x) nd fun y hy => hs y ((h y).mp hy)
    have b := List.length_erase_of_mem hx
    have c := List.length_pos_of_mem hx
    omega
theorem nd_map1 : ∀ {cs : List Nat}, cs.Nodup → (cs.map fun c => S [c]).Nodup
  | [], _ => .nil
  | c :: r, h => by
    have h' := List.nodup_cons.mp h
    exact List.nodup_cons.mpr ⟨fun q => h'.1 (map1_mem.mp q), nd_map1 h'.2⟩
theorem insU_up (a : Nat) : ∀ (l : List Nat), l.Pairwise (· < ·) → a ∉ l → ∃ m : List Nat, m.Pairwise (· < ·) ∧ (a :: l).Perm m
  | [], _, _ => ⟨[a], List.pairwise_singleton _ _, .refl _⟩
  | b :: r, h, n => by
    have h' := List.pairwise_cons.mp h
    rcases Nat.lt_trichotomy a b with q | q | q
    · exact ⟨a :: b :: r, List.pairwise_cons.mpr ⟨fun c hc => (List.mem_cons.mp hc).elim (fun e => e ▸ q) fun e => Nat.lt_trans q (h'.1 c e), h⟩, .refl _⟩
    · exact absurd (q ▸ List.mem_cons_self) n
    · obtain ⟨m, m1, m2⟩ := insU_up a r h'.2 fun e => n (List.mem_cons_of_mem _ e)
      refine ⟨b :: m, List.pairwise_cons.mpr ⟨fun c hc => ?_, m1⟩, (List.Perm.swap b a r).trans (m2.cons b)⟩
      exact (List.mem_cons.mp (m2.mem_iff.mpr hc)).elim (fun e => e ▸ q) (h'.1 c)
theorem up_of : ∀ {l : List Nat}, l.Nodup → ∃ m : List Nat, m.Pairwise (· < ·) ∧ l.Perm m
  | [], _ => ⟨[], .nil, .refl _⟩
  | a :: r, h => by
    have h' := List.nodup_cons.mp h
    obtain ⟨m, m1, m2⟩ := up_of h'.2
    obtain ⟨k, k1, k2⟩ := insU_up a m m1 fun e => h'.1 (m2.mem_iff.mpr e)
    exact ⟨k, k1, (m2.cons a).trans k2⟩
theorem good_iff {z : Str} : Good z ↔ z ≠ S [] ∧ (chars z).Nodup ∧ ∀ c ∈ z.cps.toList, c ∈ SIG := by
  refine ⟨fun ⟨l, ok, pm⟩ => ⟨fun e => ?_, nd_map1 (pm.nodup_iff.mpr (nd_up ok.up)), fun c hc => ok.sg c (pm.mem_iff.mp hc)⟩, fun ⟨ne, nd, sg⟩ => ?_⟩
  · rw [e] at pm
    exact ok.ne (List.nil_perm.mp pm)
  · obtain ⟨m, m1, m2⟩ := up_of (nd_unmap nd)
    refine ⟨m, ⟨fun e => ne ?_, m1, fun c hc => sg c (m2.mem_iff.mpr hc)⟩, m2⟩
    rw [e] at m2
    have e2 := m2.eq_nil
    exact (S_tl z).symm.trans (congrArg S e2)
/-- two rising lists with the same members are one -/
theorem up_eq {a b : List Nat} (ha : a.Pairwise (· < ·)) (hb : b.Pairwise (· < ·)) (h : ∀ c, c ∈ a ↔ c ∈ b) : a = b := by
  have p : a.Perm b := (List.perm_ext_iff_of_nodup (nd_up ha) (nd_up hb)).mpr h
  exact p.eq_of_pairwise (fun x y _ _ h1 h2 => absurd h1 (Nat.lt_asymm h2)) ha hb
theorem lkSign {a : V} : List.lookup (Str.ofString "sign") [(Str.ofString "sign", a)] = some a := rfl
theorem lkSigns {a b : V} : List.lookup (Str.ofString "signs") [(Str.ofString "signs", a), (Str.ofString "outside", b)] = some a := rfl
theorem lkParts {a : V} : List.lookup (Str.ofString "parts") [(Str.ofString "parts", a)] = some a := rfl
theorem lkOut {a b : V} : List.lookup (Str.ofString "outside") [(Str.ofString "signs", a), (Str.ofString "outside", b)] = some b := rfl
theorem pfNil {f : Str} {y : V} : putF f y [] = [(f, y)] := rfl
theorem pfOut {a y : V} : putF (Str.ofString "outside") y [(Str.ofString "signs", a)] = [(Str.ofString "signs", a), (Str.ofString "outside", y)] := rfl
theorem lkSteps {a b c : V} : List.lookup (Str.ofString "steps") [(Str.ofString "steps", a), (Str.ofString "spares", b), (Str.ofString "folders", c)] = some a := rfl
theorem lkSpares {a b c : V} : List.lookup (Str.ofString "spares") [(Str.ofString "steps", a), (Str.ofString "spares", b), (Str.ofString "folders", c)] = some b := rfl
theorem lkFolders {a b c : V} : List.lookup (Str.ofString "folders") [(Str.ofString "steps", a), (Str.ofString "spares", b), (Str.ofString "folders", c)] = some c := rfl
theorem pfSpares {a y : V} : putF (Str.ofString "spares") y [(Str.ofString "steps", a)] = [(Str.ofString "steps", a), (Str.ofString "spares", y)] := rfl
theorem pfFolders {a b y : V} : putF (Str.ofString "folders") y [(Str.ofString "steps", a), (Str.ofString "spares", b)] = [(Str.ofString "steps", a), (Str.ofString "spares", b), (Str.ofString "folders", y)] := rfl
theorem strEq {a b : String} : (Str.ofString a = Str.ofString b) = (a = b) := by
  refine propext ⟨fun h => ?_, fun h => by rw [h]⟩
  rw [Str.ofString_eq_toList, Str.ofString_eq_toList] at h
  have h1 : a.toList.map Char.toNat = b.toList.map Char.toNat := by
    have e := congrArg (fun x : Str => x.cps.toList) h
    exact e
  have h2 : a.toList = b.toList := by
    generalize a.toList = l at h1
    generalize b.toList = m at h1
    induction l generalizing m with
    | nil => cases m with
      | nil => rfl
      | cons d t => exact absurd h1 (by simp)
    | cons c r ih => cases m with
      | nil => exact absurd h1 (by simp)
      | cons d t =>
        rw [List.map_cons, List.map_cons] at h1
        injection h1 with h3 h4
        have e : c = d := Char.ext (UInt32.toNat_inj.mp h3)
        rw [e, ih t h4]
  exact String.toList_inj.mp h2
/-- lists of data, one of each -/
theorem dp_map {K : PySem.W.Frag} {H : Hp} {α : Type} (f : α → V) (d : α → PyData) (h : ∀ x, Dp K H (f x) (d x)) : ∀ l : List α, DpAll K H (l.map f) (l.map d)
  | [] => .nil
  | x :: r => .cons (h x) (dp_map f d h r)
/-! ### parts as objects -/
section
variable {K : PySem.W.Frag}
def PartO (K : PySem.W.Frag) (dx : Addr) : PF → HO
  | .one c => .ins (He.ga K "One") dx [("sign", .str (S [c]))]
  | .any => .ins (He.ga K "Any") dx []
  | .among l o => .ins (He.ga K "Among") dx [("signs", .str (S l)), ("outside", .bl o)]
  | .stars => .ins (He.ga K "Stars") dx []
def PartV (K : PySem.W.Frag) (f : PF) (v : V) (H : Hp) : Prop := ∃ p dx, v = .ref p ∧ H p = some (PartO K dx f)
theorem PartO.nl {dx : Addr} {f : PF} (l : List V) : PartO K dx f ≠ .lst l := by cases f <;> exact fun h => nomatch h
theorem PartV.nl {f : PF} {v : V} {H H' : Hp} (h : PartV K f v H) (e : NL H H') : PartV K f v H' := let ⟨p, dx, ev, hp⟩ := h; ⟨p, dx, ev, e _ _ hp PartO.nl⟩
theorem PartV.mono {f : PF} {v : V} {H H' : Hp} (h : PartV K f v H) (e : Same H H') : PartV K f v H' := h.nl (.of e)
end
theorem OkD.imp {P : Program} {w : World} {K : PySem.W.Frag} {mg : Str → Option Value} {base : Heap} {k : Nat} {f : Addr} {ps : List Str} {dvs : List V} {sp sp' : Sp} (h : OkD P w K mg base k f ps dvs sp) (i : ∀ vs H Q E, sp' vs H Q E → sp vs H Q E) : OkD P w K mg base k f ps dvs sp' := by
  obtain ⟨fd, ds, F, r⟩ := h
  exact ⟨fd, ds, F.imp i, r⟩
end SL
namespace SL
open PySem PySem.Spec PyProof.Rows L2 SX
/-! ### names along parts -/
/-- the parts laid along the name -/
def Fit : List PF → List Nat → Prop
  | [], w => w = []
  | f :: fs, w => if f.many = true then ∃ u v, w = u ++ v ∧ Fit fs v else ∃ c v, w = c :: v ∧ f.fits c = true ∧ Fit fs v
def starAt (fs : List PF) (j : Nat) : Bool := match fs[j]? with
  | some f => f.many
  | none => false
theorem take_succ' {fs : List PF} {j : Nat} {f : PF} (h : fs[j]? = some f) : fs.take (j + 1) = fs.take j ++ [f] := by
  rw [List.take_succ, h]
  rfl
/-- from s on by stars alone -/
def Clos (fs : List PF) (s i : Nat) : Prop := s ≤ i ∧ ∀ k, s ≤ k → k < i → starAt fs k = true
theorem Clos.refl {fs : List PF} {s : Nat} : Clos fs s s := ⟨Nat.le_refl _, fun k a b => absurd b (by omega)⟩
theorem Clos.trans {fs : List PF} {a b c : Nat} (h : Clos fs a b) (g : Clos fs b c) : Clos fs a c := ⟨Nat.le_trans h.1 g.1, fun k h1 h2 => by
  rcases Nat.lt_or_ge k b with e | e
  · exact h.2 k h1 e
  · exact g.2 k e h2⟩
theorem Clos.snoc {fs : List PF} {a b : Nat} (h : Clos fs a b) (g : starAt fs b = true) : Clos fs a (b + 1) := h.trans ⟨Nat.le_succ _, fun k h1 h2 => by
  have e : k = b := by omega
  rw [e]
  exact g⟩
/-! ### forms of steps, steps as objects -/
inductive SF where
  | deep
  | seg (fs : List PF)
deriving DecidableEq
def SF.d : SF → PyData
  | .deep => .tuple [.str "deep"]
  | .seg fs => .tuple [.str "segment", .tuple (fs.map PF.d)]
/-- no two stars next to one another -/
def NoTwo : List PF → Prop
  | f :: g :: r => ¬ (f.many = true ∧ g.many = true) ∧ NoTwo (g :: r)
  | _ => True
structure PartsOk (fs : List PF) : Prop where
  ne : fs ≠ []
  ok : ∀ f ∈ fs, f.Ok
  two : NoTwo fs
  len : fs.length ≤ 60
def SF.Ok : SF → Prop
  | .deep => True
  | .seg fs => PartsOk fs
def SF.deepB : SF → Bool
  | .deep => true
  | _ => false
def SF.fits : SF → List Nat → Prop
  | .deep, _ => True
  | .seg fs, w => Fit fs w
theorem SF.dok {f : SF} (h : f.Ok) : DOk 3 f.d := by
  cases f with
  | deep => exact (dok_tup (n := 0) (all_cons (dok_str (by decide +kernel)) all_nil)).up (by decide)
  | seg fs => exact dok_tup (all_cons (dok_str (by decide +kernel)) (all_cons (dok_tup fun d hd => by
      obtain ⟨f, hf, rfl⟩ := List.mem_map.mp hd
      exact PF.dok (h.ok f hf)) all_nil))
section
variable {K : PySem.W.Frag}
/-- us are the parts fs -/
def PartsV (K : PySem.W.Frag) (fs : List PF) (us : List V) (H : Hp) : Prop := us.length = fs.length ∧ ∀ (i : Nat) (f : PF), fs[i]? = some f → ∃ u, us[i]? = some u ∧ PartV K f u H
theorem PartsV.nl {fs : List PF} {us : List V} {H H' : Hp} (h : PartsV K fs us H) (e : NL H H') : PartsV K fs us H' := ⟨h.1, fun i f hf => let ⟨u, a, b⟩ := h.2 i f hf; ⟨u, a, b.nl e⟩⟩
theorem PartsV.mono {fs : List PF} {us : List V} {H H' : Hp} (h : PartsV K fs us H) (e : Same H H') : PartsV K fs us H' := h.nl (.of e)
theorem PartsV.nil {H : Hp} : PartsV K [] [] H := ⟨rfl, fun i f h => by simp at h⟩
theorem PartsV.snoc {fs : List PF} {us : List V} {H : Hp} {f : PF} {u : V} (h : PartsV K fs us H) (g : PartV K f u H) : PartsV K (fs ++ [f]) (us ++ [u]) H := by
  refine ⟨by rw [List.length_append, List.length_append, h.1]; rfl, fun i f' hf => ?_⟩
  rcases Nat.lt_trichotomy i fs.length with e | e | e
  · rw [List.getElem?_append_left e] at hf
    obtain ⟨w, a, b⟩ := h.2 i f' hf
    exact ⟨w, by rw [List.getElem?_append_left (by rw [h.1]; exact e)]; exact a, b⟩
  · subst e
    rw [List.getElem?_append_right (Nat.le_refl _), Nat.sub_self] at hf
    have ef : f = f' := Option.some.inj hf
    subst ef
    exact ⟨u, by rw [← h.1, List.getElem?_append_right (Nat.le_refl _), Nat.sub_self]; rfl, g⟩
  · rw [List.getElem?_eq_none (by rw [List.length_append]; exact e)] at hf
    cases hf
def StepV (K : PySem.W.Frag) (f : SF) (v : V) (H : Hp) : Prop := match f with
  | .deep => ∃ p dx, v = .ref p ∧ H p = some (.ins (He.ga K "Deep") dx [])
  | .seg fs => ∃ p dx t us, v = .ref p ∧ H p = some (.ins (He.ga K "Segment") dx [("parts", .ref t)]) ∧ H t = some (.tup us) ∧ PartsV K fs us H ∧ fs ≠ []
theorem StepV.nl {f : SF} {v : V} {H H' : Hp} (h : StepV K f v H) (e : NL H H') : StepV K f v H' := by
  cases f with
  | deep => obtain ⟨p, dx, a, b⟩ := h; exact ⟨p, dx, a, e _ _ b fun _ z => nomatch z⟩
  | seg fs => obtain ⟨p, dx, t, us, a, b, c, d, z⟩ := h; exact ⟨p, dx, t, us, a, e _ _ b fun _ z => (nomatch z), e _ _ c fun _ z => (nomatch z), d.nl e, z⟩
theorem StepV.mono {f : SF} {v : V} {H H' : Hp} (h : StepV K f v H) (e : Same H H') : StepV K f v H' := h.nl (.of e)
end
/-- parts with the second of two stars left out -/
def normP (fs : List PF) : List PF := fs.foldl (fun acc f => if acc = [] ∨ f.many = false ∨ acc.getLast?.map PF.many = some false then acc ++ [f] else acc) []
def normOne (acc : List PF) (f : PF) : List PF := if acc = [] ∨ f.many = false ∨ acc.getLast?.map PF.many = some false then acc ++ [f] else acc
theorem norm_take {fs : List PF} {k : Nat} {f : PF} (h : fs[k]? = some f) : (fs.take (k + 1)).foldl normOne [] = normOne ((fs.take k).foldl normOne []) f := by
  rw [take_succ' h, List.foldl_append]
  rfl
end SL
namespace SL
open PySem PySem.Spec PyProof.Rows L2
/-! ### a caught error that stays at hand behind its clause -/
/-- an error of the class cls, caught, at a -/
def ExF (cls : Value) (d : Option Addr) (a : Addr) : HO := .ext fun h => ∃ (oe : Obj) (vs : Array Value), h.get? a = some oe ∧ Zc cls d oe ∧ oe.data = .fields vs
theorem exF_ok {P : Program} {w : World} {H : Hp} {h : Heap} {a : Addr} {cls : Value} {d : Option Addr} {oe : Obj} {vs : Array Value} (e : h.get? a = some oe) (z : Zc cls d oe) (f : oe.data = .fields vs) : ObjOk P w H h a (ExF cls d a) :=
  ⟨⟨oe, vs, e, z, f⟩, ⟨oe, e⟩, fun _ _ ⟨o, v, q, r⟩ k => ⟨o, v, k o q, r⟩⟩
/-- a pinned object becomes a tracked one -/
theorem inv_track {X : Cx} {pins : List (Addr × Obj)} {σ : L2.St} {H : Hp} {s : Shared} {q : Addr × Obj} {o : HO} (I : Inv X (q :: pins) σ H s) (h0 : X.s_0.heap.get? q.1 = none) (hp : ∀ p ∈ X.pn ++ pins, p.1 ≠ q.1) (new : ObjOk X.prog X.w (upd H q.1 o) s.heap q.1 o) :
    Inv X pins σ (upd H q.1 o) s := by
  obtain ⟨e, hn, nl, nf, nc⟩ := I.pin q (List.mem_append_right _ List.mem_cons_self)
  have ne_at : ∀ {b : Addr} {u : HO}, H b = some u → b ≠ q.1 := fun hb z => by
    rw [z, hn] at hb
    cases hb
  refine ⟨I.ok, I.os, I.bare, ⟨I.base.keep, I.base.slot, fun b u e1 e2 e3 => ?_, I.base.there, fun b xs e1 => ?_, fun b u v e1 => ?_, fun b ps e1 => ?_⟩, I.loc, I.cell, ?_, fun x c hc => ?_, fun p hm => ?_, HOk.laidN I.hok (fun _ _ z => z) hn new, I.len⟩
  · rw [upd_ne fun z => by rw [z, h0] at e1; cases e1]
    exact I.base.free b u e1 e2 e3
  · have t := I.base.tups b xs e1
    rw [upd_ne (ne_at t)]
    exact t
  · have t := I.base.frzs b u v e1
    rw [upd_ne (ne_at t)]
    exact t
  · obtain ⟨more, t⟩ := I.base.tbls b ps e1
    exact ⟨more, by rw [upd_ne (ne_at t)]; exact t⟩
  · rw [upd_ne fun z => nl z.symm]
    exact I.free
  · have nq : c ≠ q.1 := fun z => by
      obtain ⟨v, oc, e1, e2⟩ := I.cell x c hc
      rw [z, e] at e1
      cases e1
      exact nc v e2
    rw [upd_ne nq]
    exact I.freeC x c hc
  · have m2 : p ∈ X.pn ++ (q :: pins) := (List.mem_append.mp hm).elim (fun z => List.mem_append_left _ z) fun z => List.mem_append_right _ (List.mem_cons_of_mem _ z)
    obtain ⟨a1, a2, a3, a4, a5⟩ := I.pin p m2
    exact ⟨a1, by rw [upd_ne (hp p hm)]; exact a2, a3, a4, a5⟩
/-- what 'except x as n' wishes of an exception of the body, where the error stays tracked behind the clause -/
def wKeep (K : PySem.W.Frag) (c : Value) (i : Nat) (ts : Addr → Value → Option Addr → TS) (Wout : WX) (D : Ends) : WX := fun cls d σ H =>
  ∃ b, PySem.W.exmOne K cls c = some b ∧
    (b = true → ∀ a, H a = none → ts a cls d { nx := fun σ' H' => D.nx (σ'.set i none) (upd H' a (ExF cls d a)), rt := D.rt, bk := fun σ' H' => D.bk (σ'.set i none) H', ct := fun σ' H' => D.ct (σ'.set i none) H' } (σ.set i (some (.ref a))) H) ∧
    (b = false → Wout cls d σ H)

/-- the pins of a suite, but for the caught error's, are the ground's; with it -/
theorem inv_outsuite {X : Cx} {a : Addr} {q : Addr × Obj} {pins pn' : List (Addr × Obj)} {σ : L2.St} {H : Hp} {s : Shared} (I : Inv (X.suite a (q :: (X.pn ++ pins))) pn' σ H s) (ok : X.Ok) : Inv X (q :: pins) σ H s :=
  ⟨ok, I.os, I.bare, I.base, I.loc, I.cell, I.free, I.freeC, fun p hp => by
    refine I.pin p (List.mem_append_left _ ?_)
    rcases List.mem_append.mp hp with z | z
    · exact List.mem_cons_of_mem _ (List.mem_append_left _ z)
    · rcases List.mem_cons.mp z with e | z2
      · exact e ▸ List.mem_cons_self
      · exact List.mem_cons_of_mem _ (List.mem_append_right _ z2), I.hok, I.len⟩

section
variable {X : Cx} {nm var : Str} {c : Value} {i : Nat} {body rest : List Stmt} {st0 : Stmt} {p1 p2 p3 : Pos} {tb : WX → TS} {ts : Addr → Value → Option Addr → TS} {Wout : WX}
theorem ps_try_keep (kex : X.ex = []) (kst : X.stack = X.env :: X.outer) (kfr : X.env.frame = some X.env.locals) (kN : X.N.Nodup) (ki : X.N[i]? = some var) (kl : X.env.kindOf var = some .local) (kc : Names X nm c) (kt : Takes X Wout)
    (kb : ∀ (W : WX) (pn : List (Addr × Obj)) (xe : Value → Shared → Prop), Takes (X.tr pn xe) W → PassesOwn (model X.prog X.w) X.A X.env xe → PSs (X.tr pn xe) body (tb W))
    (ks : ∀ (a : Addr) (oe : Obj) (cls : Value) (d : Option Addr) (pn : List (Addr × Obj)), Zc cls d oe → (∃ vs, oe.data = .fields vs) → PSs (X.suite a ((a, oe) :: pn)) (st0 :: rest) (ts a cls d)) :
    PS X (.Try body [.ExceptHandler (some (.Name nm p1)) (some var) (st0 :: rest) p2] [] [] p3) (fun D σ H => tb (wKeep X.K c i ts Wout D) D σ H) := by
  constructor
  intro pins s σ H D inv0 wish
  have okX := inv0.ok
  have frames : X.A.frames = some (X.env :: X.outer) := okX.frames.trans (congrArg some kst)
  have isLoc : Loc X.env.scope var := Or.inl kl
  let tail : Value → Shared → Prop := fun er u₁ => wpAny (model X.prog X.w) X.A (noteFrame er X.env) (fun _ u₂ => wpAny (model X.prog X.w) X.A (setFlight er none) (fun _ u₃ =>
      wpAny (model X.prog X.w) X.A (handleBy er X.env [.ExceptHandler (some (.Name nm p1)) (some var) (st0 :: rest) p2]) (SP X pins D) X.xe u₃) X.xe u₂) X.xe u₁
  have run := (kb (wKeep X.K c i ts Wout D) (X.pn ++ pins) tail (fun er u xr => ?caught) PassesOwn.looking).run [] s σ H D (inv0.toTry _) wish
  · refine wpAny_Try_except (wpAny_mono run (fun fl u through => ?_) fun _ _ z => z)
    cases fl with
    | next =>
      obtain ⟨σ₂, H₂, inv₂, w₂⟩ := through
      exact wpAny_execs_nil ⟨_, _, inv₂.ofTry okX, w₂⟩
    | brk =>
      obtain ⟨σ₂, H₂, inv₂, w₂⟩ := through
      exact ⟨_, _, inv₂.ofTry okX, w₂⟩
    | cont =>
      obtain ⟨σ₂, H₂, inv₂, w₂⟩ := through
      exact ⟨_, _, inv₂.ofTry okX, w₂⟩
    | ret val =>
      obtain ⟨v₂, σ₂, H₂, inv₂, r₂, w₂⟩ := through
      exact ⟨_, _, _, inv₂.ofTry okX, r₂, w₂⟩
  · obtain ⟨a, G, sI, pins₁, σ₁, H₁, cls, d, eqA, invT, ground, upG, skyT, aFree, osEq, bare, yes, test, onYes, onNo⟩ := xr
    subst eqA
    have inv₁ : Inv X pins σ₁ H₁ sI := invT.ofTry okX
    have skyE : Sky G (X.env :: X.outer) a (Zc cls d) X.env.locals u.heap := kst ▸ skyT
    show wpAny (model X.prog X.w) X.A (noteFrame (.ref a) X.env) _ _ _
    refine Sky.land Zc.steady frames kfr skyE fun hA flA stepA => ?_
    have invA : Inv X pins σ₁ H₁ { u with heap := hA } := inv₁.landed ground flA.1 (upG.trans stepA) osEq bare
    obtain ⟨oA, fsA, atA, zA, dataA⟩ := flA.there
    have outside : a ∉ frs (X.env :: X.outer) := fun inFr => by
      obtain ⟨_, o', at', nofs⟩ := flA.2.2.1.mem inFr
      rw [atA] at at'
      cases at'
      exact nofs _ dataA
    have noLoc : a ≠ X.env.locals := fun z => outside (List.mem_filterMap.mpr ⟨X.env, List.mem_cons_self, by rw [kfr, z]⟩)
    have noFs : a ∉ X.fs := fun inFs => by
      obtain ⟨en, inOut, isFr⟩ := List.mem_filterMap.mp inFs
      exact outside (List.mem_filterMap.mpr ⟨en, List.mem_cons_of_mem _ inOut, isFr⟩)
    have groundNone : G.get? a = none := flA.2.1
    have unborn : X.s_0.heap.get? a = none := by
      cases born : X.s_0.heap.get? a with
      | none => rfl
      | some o0 =>
        obtain ⟨o1, there1⟩ := inv₁.base.there a o0 born (by rw [kex]; exact List.not_mem_nil)
        have := ground a o1 there1 (by rw [kst]; exact outside)
        rw [groundNone] at this
        cases this
    have apart : ∀ p ∈ X.pn ++ pins, p.1 ≠ a := fun p inP same => by
      have there1 := (inv₁.pin p inP).1
      rw [same] at there1
      have := ground a p.2 there1 (by rw [kst]; exact outside)
      rw [groundNone] at this
      cases this
    have invS := invA.suite atA dataA aFree noLoc noFs
    refine wpAny_handleBy_cons (codeAny_handlers_test ?_) (by intro q; cases q)
    have looks : PySem.W.Looks (model X.prog X.w) hA (typeOf (.ref a)) cls := fun A Q E s k q => wpAny_typeOf_ref (k _ _ atA) (by rw [zA.1]; exact q)
    have matches_ := PySem.W.exm_one (M := model X.prog X.w) invA.kIn looks test
    have named : ∀ {Q : Value → Shared → Prop} {E : Value → Shared → Prop}, Q c { u with heap := hA } → wpAny (model X.prog X.w) (X.A.mark (some (.ref a))) (eval (.Name nm p1) X.env) Q E { u with heap := hA } := fun {Q E} w => by
      obtain ⟨gl, notDbg, inMod | ⟨notMod, inBlt, notNm⟩⟩ := kc
      · exact ld_glob (X := X.suite a ((a, oA) :: (X.pn ++ pins))) invS gl inMod w notDbg
      · exact ld_blt (X := X.suite a ((a, oA) :: (X.pn ++ pins))) invS gl notMod inBlt w notNm notDbg
    refine named (matches_.here ?_)
    cases yes with
    | false =>
      show wpAny _ X.A (handleBy (.ref a) X.env []) _ _ _
      refine wpAny_handleBy_nil ?_
      have whole := flA
      obtain ⟨_, _, _, oF, fsF, T, oT, tsF, atF, zF, dataF, at1, _⟩ := whole
      unfold PySem.passOn
      refine wpAny_bind (wpAny_field atF dataF at1 ?_)
      rw [if_neg (show ¬ ((Value.ref T == Value.none) = true) from by simp)]
      have away : wpAny (model X.prog X.w) X.A (setFlight (.ref a) X.env.frame) (fun _ u₄ => wpAny (model X.prog X.w) X.A (throw (.ref a) : Sem Flow) (SP X pins D) X.xe u₄) X.xe { u with heap := hA } := by
        rw [kfr]
        exact HandSPX.setFlight_upZ flA fun hB heldB stepB => wpAny_throw (kt _ _
          ⟨a, G, sI, pins, σ₁, H₁, cls, d, rfl, inv₁, ground, (upG.trans stepA).trans stepB, .inr (.inr (by rw [kst]; exact heldB)), aFree, osEq, bare, onNo rfl⟩)
      first
        | exact wpAny_bind away
        | exact wpAny_bind (wpAny_pure (wpAny_bind away))
    | true =>
      refine codeAny_handlers_suite_as (HandSPX.lands_againZ flA fun hB flB stepB => ?_)
      have invB : Inv X pins σ₁ H₁ { u with heap := hB } := inv₁.landed ground flB.1 ((upG.trans stepA).trans stepB) osEq bare
      obtain ⟨oB, fsB, atB, zB, dataB⟩ := flB.there
      refine store_ok (X := X.suite a ((a, oB) :: (X.pn ++ pins))) (v := .ref a) (invB.suite atB dataB aFree noLoc noFs) kN ki isLoc rfl (fun u₅ inv₅ => ?_) (.inr kl)
      refine wpAny_mono ((ks a oB cls d (X.pn ++ pins) zB ⟨fsB, dataB⟩).run [] u₅ _ H₁ _ inv₅ (onYes rfl a aFree)) (fun fl u₆ got => ?_) fun _ _ z => False.elim z
      have leave : ∀ {σ₆ : L2.St} {H₆ : Hp} {Q : Shared → Prop}, Inv (X.suite a ((a, oB) :: (X.pn ++ pins))) [] σ₆ H₆ u₆ → (∀ u₇, Inv X ((a, oB) :: pins) (σ₆.set i none) H₆ u₇ → Q u₇) →
          wpAny (model X.prog X.w) X.A (do bindName X.env var .none; unbindBehindTheSuite X.env var p2) (fun _ u₇ => Q u₇) X.xe u₆ := fun {σ₆ H₆ Q} inv₆ goal => gone_ok (inv_outsuite inv₆ okX) kN ki kl goal
      have forget : ∀ {σ₇ : L2.St} {H₇ : Hp} {u₇ : Shared}, Inv X ((a, oB) :: pins) σ₇ H₇ u₇ → Inv X pins σ₇ H₇ u₇ := fun {σ₇ H₇ u₇} I =>
        ⟨I.ok, I.os, I.bare, I.base, I.loc, I.cell, I.free, I.freeC, fun p hp => I.pin p ((List.mem_append.mp hp).elim (fun z => List.mem_append_left _ z) fun z => List.mem_append_right _ (List.mem_cons_of_mem _ z)), I.hok, I.len⟩
      cases fl with
      | next =>
        obtain ⟨σ₆, H₆, inv₆, w₆⟩ := got
        exact leave inv₆ fun u₇ inv₇ => ⟨_, _, inv_track inv₇ unborn apart (exF_ok (inv₇.pin (a, oB) (List.mem_append_right _ List.mem_cons_self)).1 zB dataB), w₆⟩
      | brk =>
        obtain ⟨σ₆, H₆, inv₆, w₆⟩ := got
        exact leave inv₆ fun u₇ inv₇ => ⟨_, _, forget inv₇, w₆⟩
      | cont =>
        obtain ⟨σ₆, H₆, inv₆, w₆⟩ := got
        exact leave inv₆ fun u₇ inv₇ => ⟨_, _, forget inv₇, w₆⟩
      | ret val =>
        obtain ⟨v₆, σ₆, H₆, inv₆, r₆, w₆⟩ := got
        exact leave inv₆ fun u₇ inv₇ => ⟨_, _, _, forget inv₇, r₆, w₆⟩
end
/-! ### isinstance of what may be a caught error -/
inductive TyE (K : PySem.W.Frag) (H : Hp) : V → Value → Prop where
  | old {x : V} {t : Value} (h : TyX K H x t) : TyE K H x t
  | exc {a C : Addr} (e : H a = some (ExF (.ref C) none a)) (c : ExcC K C) : TyE K H (.ref a) (.ref C)
theorem kit_ofE {X : Cx} {pins : List (Addr × Obj)} {σ : L2.St} {H : Hp} {s : Shared} {x : V} {u t : Value} (I : Inv X pins σ H s) (rx : RelV x u) (ty : TyE X.K H x t) : ∃ P : Heap → Prop, PySem.W.KitX X.K u t P ∧ P s.heap ∧ u ≠ .builtin "__main__.__loader__#opaque" := by
  cases ty with
  | old h => exact kit_of I rx h
  | @exc a C e c =>
    cases (show u = Value.ref a from rx)
    obtain ⟨⟨oe, vs, at_, z, f⟩, _⟩ := I.hok a _ e
    obtain ⟨oc, od, oda, osl⟩ := oe
    obtain ⟨z1, z2⟩ := z
    dsimp only at z1 z2 f
    subst z1 z2 f
    exact ⟨_, PySem.W.handS_kitx_exc c.hg c.hk c.hs c.hd c.ha c.hn c.ht c.hm, ⟨at_, rfl, rfl, trivial⟩, fun q => nomatch q⟩
/-- isinstance(x, c): c a class, or a tuple of classes -/
def rIsC (K : PySem.W.Frag) : List V → Hp → VK → Prop := fun xs H Q => ∃ (x c : V) (t : Value) (b : Bool), xs = [x, c] ∧ TyE K H x t ∧ Q (.bl b) H ∧
  ((∃ u, ClsV c u ∧ PySem.W.kitOne K t u = some b) ∨ ∃ (tp : Addr) (cs : List V) (us : List Value), c = .ref tp ∧ H tp = some (.tup cs) ∧ Paired ClsV cs us ∧ PySem.W.kitAny K t us = some b)
theorem call_isC {X : Cx} : CallR X (.builtin "isinstance") (rIsC X.K) := by
  intro pins s σ H xs us Q I r h
  obtain ⟨x, c, t, b, rfl, ty, q, h⟩ := h
  obtain ⟨u1, u2, rfl, r1, r2⟩ := vals2 r
  obtain ⟨P, Z, p, hx⟩ := kit_ofE I r1 ty
  rcases h with ⟨u, k, e⟩ | ⟨tp, cs, ws, rfl, hT, k, e⟩
  · have e2 := k.eq r2
    subst e2
    exact PySem.W.kia_one Z I.kIn p e hx fun tk => ⟨.bl b, H, I.tok tk, rfl, q⟩
  · cases (show u2 = Value.ref tp from r2)
    obtain ⟨_, its, rv, o, h1, h2, n, h3⟩ := (show ObjOk X.prog X.w H s.heap tp (.tup cs) from I.hok tp _ hT)
    have e3 := ClsV.all k rv
    subst e3
    obtain ⟨oc, od, dt, sl⟩ := o
    simp only at h2 h3
    subst h2 h3
    exact PySem.W.kia_tup Z I.kIn p h1 e hx fun tk => ⟨.bl b, H, I.tok tk, rfl, q⟩
theorem o_isc {X : Cx} {K : PySem.W.Frag} (hK : X.K = K := by rfl) : CallR X (.builtin "isinstance") (rIsC K) := hK ▸ call_isC
/-- what isinstance asks of the class D of errors -/
def excCB (K : PySem.W.Frag) (D : Addr) : Bool :=
  decide (PySem.W.findIn K (.ref D) "__getattribute__" = some (some (.builtin "BaseException.__getattribute__"))) && (decide (PySem.W.findIn K (.ref D) "__getattr__" = some none) &&
  (decide (PySem.W.subIn K (.ref D) (.type "BaseException") = some true) && (PySem.W.hasDictIn K D && (decide (PySem.W.findIn K (.ref D) "__class__" = some (some (.builtin "object.__class__"))) &&
  (decide (PySem.W.specialIn K (.builtin "object.__class__") "__get__" = some (some (.builtin "getset_descriptor.__get__"))) && (decide (PySem.W.takesIn K (.builtin "object.__class__") = some true) && decide (PySem.W.mroIn K D (.type "object") = some true)))))))
theorem excCB_ok {K : PySem.W.Frag} {D : Addr} (h : excCB K D = true) : ExcC K D := by
  unfold excCB at h
  simp only [Bool.and_eq_true, decide_eq_true_eq] at h
  obtain ⟨a, b, c, d, e, f, g, i⟩ := h
  exact ⟨a, b, c, d, e, f, g, i⟩
/-- an error of class x: caught by "except y", and of which classes it is -/
def kxB (K : PySem.W.Frag) (ex : List (Str × Str)) (is_ : List (Str × Str × Bool)) (no : List Str) : Bool :=
  ex.all (fun q => decide (PySem.W.exmOne K (.ref (He.ga K q.1)) (.ref (He.ga K q.2)) = some true) && (excCB K (He.ga K q.1) && decide (PySem.W.kitOne K (.ref (He.ga K q.1)) (.type "ValueError") = some true))) &&
  (is_.all (fun q => decide (PySem.W.kitOne K (.ref (He.ga K q.1)) (.ref (He.ga K q.2.1)) = some q.2.2)) && no.all fun y => decide (PySem.W.kitOne K (.type "NoneType") (.ref (He.ga K y)) = some false))
theorem kxB_ex {K : PySem.W.Frag} {ex : List (Str × Str)} {is_ : List (Str × Str × Bool)} {no : List Str} (h : kxB K ex is_ no = true) {x y : Str} (m : (x, y) ∈ ex) :
    PySem.W.exmOne K (.ref (He.ga K x)) (.ref (He.ga K y)) = some true ∧ ExcC K (He.ga K x) ∧ PySem.W.kitOne K (.ref (He.ga K x)) (.type "ValueError") = some true := by
  unfold kxB at h
  rw [Bool.and_eq_true] at h
  have e := List.all_eq_true.mp h.1 (x, y) m
  simp only [Bool.and_eq_true, decide_eq_true_eq] at e
  exact ⟨e.1, excCB_ok e.2.1, e.2.2⟩
theorem kxB_is {K : PySem.W.Frag} {ex : List (Str × Str)} {is_ : List (Str × Str × Bool)} {no : List Str} (h : kxB K ex is_ no = true) {x y : Str} {b : Bool} (m : (x, y, b) ∈ is_) : PySem.W.kitOne K (.ref (He.ga K x)) (.ref (He.ga K y)) = some b := by
  unfold kxB at h
  rw [Bool.and_eq_true, Bool.and_eq_true] at h
  exact of_decide_eq_true (List.all_eq_true.mp h.2.1 (x, y, b) m)
/-! ### calls within a try: what the error finds is wished for at the slots that stand -/
section
variable {X : Cx} {k : Nat} {f C : Addr} {ps : List Str} {sp : Sp} {dvs : List V} {W : WX} {x : Str} {p pos : Pos} {e : Expr} {es : List Expr} {t : TA}
theorem pe_calT (o : OkD X.prog X.w X.K X.mg X.base k f ps dvs sp) (hr : Room k X.A) (hg : Gl X x) (hm : X.mg x = some (.ref f)) (tk : Takes X W)
    (ha : PA X (e :: es) t) (hdb : (x == ("__debug__" : Str)) = false := by decide) (he : starEach (e :: es) X.env = (false, eval e X.env) :: starEach es X.env := by rfl) (hpl : (backTo pos (starEach es X.env)).any (·.1) = false := by rfl) :
    PE X (.Call (.Name x p) (e :: es) [] pos) (tCallSD sp dvs (WE W) t) := by
  obtain ⟨fd, ds, F, hb, hd, hk⟩ := o
  exact pe_callSD F hr hg hm hk hb hd (passAt tk) ha hdb he hpl
end
theorem kitAny_no {K : PySem.W.Frag} {t : Value} : ∀ {us : List Value}, (∀ u ∈ us, PySem.W.kitOne K t u = some false) → PySem.W.kitAny K t us = some false
  | [], _ => kitAny_nil
  | u :: us, h => kitAny_cons (h u List.mem_cons_self) (fun _ => kitAny_no fun v hv => h v (List.mem_cons_of_mem _ hv)) fun z => nomatch z
theorem cls_refs : ∀ as : List Addr, Paired ClsV (as.map V.ref) (as.map Value.ref)
  | [] => .nil
  | a :: r => .cons (.own a) (cls_refs r)
theorem isc_tup {K : PySem.W.Frag} {x : V} {t : Value} {p : Addr} {H : Hp} {Q : VK} (as : List Addr) (ty : TyE K H x t) (hp : H p = some (.tup (as.map V.ref))) (h : ∀ a ∈ as, PySem.W.kitOne K t (.ref a) = some false) (q : Q (.bl false) H) : rIsC K [x, .ref p] H Q :=
  ⟨x, _, t, false, rfl, ty, q, .inr ⟨p, _, _, rfl, hp, cls_refs as, kitAny_no fun u hu => by
    obtain ⟨a, ha, rfl⟩ := List.mem_map.mp hu
    exact h a ha⟩⟩
theorem isc_one {K : PySem.W.Frag} {x : V} {t : Value} {a : Addr} {H : Hp} {Q : VK} {b : Bool} (ty : TyE K H x t) (h : PySem.W.kitOne K t (.ref a) = some b) (q : Q (.bl b) H) : rIsC K [x, .ref a] H Q :=
  ⟨x, _, t, b, rfl, ty, q, .inl ⟨_, .own a, h⟩⟩
theorem isc_ty {K : PySem.W.Frag} {x : V} {t : Value} {n : String} {H : Hp} {Q : VK} {b : Bool} (ty : TyE K H x t) (h : PySem.W.kitOne K t (.type n) = some b) (q : Q (.bl b) H) : rIsC K [x, .ty n] H Q :=
  ⟨x, _, t, b, rfl, ty, q, .inl ⟨_, .ty n, h⟩⟩
theorem kx_is {K : PySem.W.Frag} {ex : List (Str × Str)} {is_ : List (Str × Str × Bool)} {no : List Str} (h : kxB K ex is_ no = true) (x : Str) (ys : List Str) (m : (ys.all fun y => decide ((x, y, false) ∈ is_)) = true) : ∀ a ∈ ys.map (He.ga K), PySem.W.kitOne K (.ref (He.ga K x)) (.ref a) = some false := fun a ha => by
  obtain ⟨y, hy, rfl⟩ := List.mem_map.mp ha
  exact kxB_is h (of_decide_eq_true (List.all_eq_true.mp m y hy))
end SL
namespace SL
open PySem PySem.Spec PyProof.Rows L2
abbrev fA (K : PySem.W.Frag) (x : Str) : Addr := He.ga K x
abbrev mA (K : PySem.W.Frag) (C m : Str) : Addr := He.ma K (He.ga K C) m
structure Txt (K : PySem.W.Frag) (mg : Str → Option Value) : Prop where
  F__wall : ∃ fd, FunD K "_wall" "_wall" (defArgs TX.s__wall) (defBody TX.s__wall) (defScope TX.s__wall) [] [] (fA K "_wall") fd
  F_is_sign : ∃ fd, FunD K "is_sign" "is_sign" (defArgs TX.s_is_sign) (defBody TX.s_is_sign) (defScope TX.s_is_sign) [] [] (fA K "is_sign") fd
  F_names_of : ∃ fd, FunD K "names_of" "names_of" (defArgs TX.s_names_of) (defBody TX.s_names_of) (defScope TX.s_names_of) [] [] (fA K "names_of") fd
  F_folder_names : ∃ fd, FunD K "folder_names" "folder_names" (defArgs TX.s_folder_names) (defBody TX.s_folder_names) (defScope TX.s_folder_names) [] [] (fA K "folder_names") fd
  F_placed : ∃ fd, FunD K "placed" "placed" (defArgs TX.s_placed) (defBody TX.s_placed) (defScope TX.s_placed) [] [] (fA K "placed") fd
  F_gathered : ∃ fd, FunD K "gathered" "gathered" (defArgs TX.s_gathered) (defBody TX.s_gathered) (defScope TX.s_gathered) [] [] (fA K "gathered") fd
  F__law_cell : ∃ fd, FunD K "_law_cell" "_law_cell" (defArgs TX.s__law_cell) (defBody TX.s__law_cell) (defScope TX.s__law_cell) [] [] (fA K "_law_cell") fd
  F__law_mixed : ∃ fd, FunD K "_law_mixed" "_law_mixed" (defArgs TX.s__law_mixed) (defBody TX.s__law_mixed) (defScope TX.s__law_mixed) [] [] (fA K "_law_mixed") fd
  F__law_signs : ∃ fd, FunD K "_law_signs" "_law_signs" (defArgs TX.s__law_signs) (defBody TX.s__law_signs) (defScope TX.s__law_signs) [] [] (fA K "_law_signs") fd
  F__law_part : ∃ fd, FunD K "_law_part" "_law_part" (defArgs TX.s__law_part) (defBody TX.s__law_part) (defScope TX.s__law_part) [] [] (fA K "_law_part") fd
  F__law_segment : ∃ fd, FunD K "_law_segment" "_law_segment" (defArgs TX.s__law_segment) (defBody TX.s__law_segment) (defScope TX.s__law_segment) [] [] (fA K "_law_segment") fd
  F__law_row : ∃ fd, FunD K "_law_row" "_law_row" (defArgs TX.s__law_row) (defBody TX.s__law_row) (defScope TX.s__law_row) [] [] (fA K "_law_row") fd
  F__law_rows : ∃ fd, FunD K "_law_rows" "_law_rows" (defArgs TX.s__law_rows) (defBody TX.s__law_rows) (defScope TX.s__law_rows) [] [] (fA K "_law_rows") fd
  F__law_part_made : ∃ fd, FunD K "_law_part_made" "_law_part_made" (defArgs TX.s__law_part_made) (defBody TX.s__law_part_made) (defScope TX.s__law_part_made) [] [] (fA K "_law_part_made") fd
  F__law_row_made : ∃ fd, FunD K "_law_row_made" "_law_row_made" (defArgs TX.s__law_row_made) (defBody TX.s__law_row_made) (defScope TX.s__law_row_made) [] [] (fA K "_law_row_made") fd
  F__law_filled : ∃ fd, FunD K "_law_filled" "_law_filled" (defArgs TX.s__law_filled) (defBody TX.s__law_filled) (defScope TX.s__law_filled) [] [] (fA K "_law_filled") fd
  F__law_names : ∃ fd, FunD K "_law_names" "_law_names" (defArgs TX.s__law_names) (defBody TX.s__law_names) (defScope TX.s__law_names) [] [] (fA K "_law_names") fd
  F__law_lists : ∃ fd, FunD K "_law_lists" "_law_lists" (defArgs TX.s__law_lists) (defBody TX.s__law_lists) (defScope TX.s__law_lists) [] [] (fA K "_law_lists") fd
  F__law_made_lists : ∃ fd, FunD K "_law_made_lists" "_law_made_lists" (defArgs TX.s__law_made_lists) (defBody TX.s__law_made_lists) (defScope TX.s__law_made_lists) [] [] (fA K "_law_made_lists") fd
  F__law_ranked : ∃ fd, FunD K "_law_ranked" "_law_ranked" (defArgs TX.s__law_ranked) (defBody TX.s__law_ranked) (defScope TX.s__law_ranked) [] [] (fA K "_law_ranked") fd
  F__law_form : ∃ fd, FunD K "_law_form" "_law_form" (defArgs TX.s__law_form) (defBody TX.s__law_form) (defScope TX.s__law_form) [] [] (fA K "_law_form") fd
  F__law_refused : ∃ fd, FunD K "_law_refused" "_law_refused" (defArgs TX.s__law_refused) (defBody TX.s__law_refused) (defScope TX.s__law_refused) [] [] (fA K "_law_refused") fd
  F_law : ∃ fd, FunD K "law" "law" (defArgs TX.s_law) (defBody TX.s_law) (defScope TX.s_law) [] [] (fA K "law") fd
  F_NoText___init__ : ∃ fd, FunD K "__init__" "NoText.__init__" (defArgs TX.s_NoText___init__) (defBody TX.s_NoText___init__) (defScope TX.s_NoText___init__) [] [] (mA K "NoText" "__init__") fd
  F_Part_fits : ∃ fd, FunD K "fits" "Part.fits" (defArgs TX.s_Part_fits) (defBody TX.s_Part_fits) (defScope TX.s_Part_fits) [] [] (mA K "Part" "fits") fd
  F_Part_many : ∃ fd, FunD K "many" "Part.many" (defArgs TX.s_Part_many) (defBody TX.s_Part_many) (defScope TX.s_Part_many) [] [] (mA K "Part" "many") fd
  F_Part_told : ∃ fd, FunD K "told" "Part.told" (defArgs TX.s_Part_told) (defBody TX.s_Part_told) (defScope TX.s_Part_told) [] [] (mA K "Part" "told") fd
  F_Any_fits : ∃ fd, FunD K "fits" "Part.fits" (defArgs TX.s_Part_fits) (defBody TX.s_Part_fits) (defScope TX.s_Part_fits) [] [] (mA K "Any" "fits") fd
  F_Any_many : ∃ fd, FunD K "many" "Part.many" (defArgs TX.s_Part_many) (defBody TX.s_Part_many) (defScope TX.s_Part_many) [] [] (mA K "Any" "many") fd
  F_Any_told : ∃ fd, FunD K "told" "Part.told" (defArgs TX.s_Part_told) (defBody TX.s_Part_told) (defScope TX.s_Part_told) [] [] (mA K "Any" "told") fd
  F_One_fits : ∃ fd, FunD K "fits" "One.fits" (defArgs TX.s_One_fits) (defBody TX.s_One_fits) (defScope TX.s_One_fits) [] [] (mA K "One" "fits") fd
  F_One_many : ∃ fd, FunD K "many" "Part.many" (defArgs TX.s_Part_many) (defBody TX.s_Part_many) (defScope TX.s_Part_many) [] [] (mA K "One" "many") fd
  F_One_told : ∃ fd, FunD K "told" "One.told" (defArgs TX.s_One_told) (defBody TX.s_One_told) (defScope TX.s_One_told) [] [] (mA K "One" "told") fd
  F_One___init__ : ∃ fd, FunD K "__init__" "One.__init__" (defArgs TX.s_One___init__) (defBody TX.s_One___init__) (defScope TX.s_One___init__) [] [] (mA K "One" "__init__") fd
  F_Among_fits : ∃ fd, FunD K "fits" "Among.fits" (defArgs TX.s_Among_fits) (defBody TX.s_Among_fits) (defScope TX.s_Among_fits) [] [] (mA K "Among" "fits") fd
  F_Among_many : ∃ fd, FunD K "many" "Part.many" (defArgs TX.s_Part_many) (defBody TX.s_Part_many) (defScope TX.s_Part_many) [] [] (mA K "Among" "many") fd
  F_Among_told : ∃ fd, FunD K "told" "Among.told" (defArgs TX.s_Among_told) (defBody TX.s_Among_told) (defScope TX.s_Among_told) [] [] (mA K "Among" "told") fd
  F_Among___init__ : ∃ fd, FunD K "__init__" "Among.__init__" (defArgs TX.s_Among___init__) (defBody TX.s_Among___init__) (defScope TX.s_Among___init__) [V.bl false] [] (mA K "Among" "__init__") fd
  F_Stars_fits : ∃ fd, FunD K "fits" "Part.fits" (defArgs TX.s_Part_fits) (defBody TX.s_Part_fits) (defScope TX.s_Part_fits) [] [] (mA K "Stars" "fits") fd
  F_Stars_many : ∃ fd, FunD K "many" "Stars.many" (defArgs TX.s_Stars_many) (defBody TX.s_Stars_many) (defScope TX.s_Stars_many) [] [] (mA K "Stars" "many") fd
  F_Stars_told : ∃ fd, FunD K "told" "Stars.told" (defArgs TX.s_Stars_told) (defBody TX.s_Stars_told) (defScope TX.s_Stars_told) [] [] (mA K "Stars" "told") fd
  F_Step_deep : ∃ fd, FunD K "deep" "Step.deep" (defArgs TX.s_Step_deep) (defBody TX.s_Step_deep) (defScope TX.s_Step_deep) [] [] (mA K "Step" "deep") fd
  F_Step_fits_name : ∃ fd, FunD K "fits_name" "Step.fits_name" (defArgs TX.s_Step_fits_name) (defBody TX.s_Step_fits_name) (defScope TX.s_Step_fits_name) [] [] (mA K "Step" "fits_name") fd
  F_Step_told : ∃ fd, FunD K "told" "Step.told" (defArgs TX.s_Step_told) (defBody TX.s_Step_told) (defScope TX.s_Step_told) [] [] (mA K "Step" "told") fd
  F_Deep_deep : ∃ fd, FunD K "deep" "Deep.deep" (defArgs TX.s_Deep_deep) (defBody TX.s_Deep_deep) (defScope TX.s_Deep_deep) [] [] (mA K "Deep" "deep") fd
  F_Deep_fits_name : ∃ fd, FunD K "fits_name" "Step.fits_name" (defArgs TX.s_Step_fits_name) (defBody TX.s_Step_fits_name) (defScope TX.s_Step_fits_name) [] [] (mA K "Deep" "fits_name") fd
  F_Deep_told : ∃ fd, FunD K "told" "Step.told" (defArgs TX.s_Step_told) (defBody TX.s_Step_told) (defScope TX.s_Step_told) [] [] (mA K "Deep" "told") fd
  F_Segment_deep : ∃ fd, FunD K "deep" "Step.deep" (defArgs TX.s_Step_deep) (defBody TX.s_Step_deep) (defScope TX.s_Step_deep) [] [] (mA K "Segment" "deep") fd
  F_Segment_fits_name : ∃ fd, FunD K "fits_name" "Segment.fits_name" (defArgs TX.s_Segment_fits_name) (defBody TX.s_Segment_fits_name) (defScope TX.s_Segment_fits_name) [] [] (mA K "Segment" "fits_name") fd
  F_Segment_told : ∃ fd, FunD K "told" "Segment.told" (defArgs TX.s_Segment_told) (defBody TX.s_Segment_told) (defScope TX.s_Segment_told) [] [] (mA K "Segment" "told") fd
  F_Segment___init__ : ∃ fd, FunD K "__init__" "Segment.__init__" (defArgs TX.s_Segment___init__) (defBody TX.s_Segment___init__) (defScope TX.s_Segment___init__) [] [] (mA K "Segment" "__init__") fd
  F_Row___init__ : ∃ fd, FunD K "__init__" "Row.__init__" (defArgs TX.s_Row___init__) (defBody TX.s_Row___init__) (defScope TX.s_Row___init__) [V.bl false, V.bl false] [] (mA K "Row" "__init__") fd
  F_Row_told : ∃ fd, FunD K "told" "Row.told" (defArgs TX.s_Row_told) (defBody TX.s_Row_told) (defScope TX.s_Row_told) [] [] (mA K "Row" "told") fd
  g__wall : mg "_wall" = some (.ref (fA K "_wall"))
  g_is_sign : mg "is_sign" = some (.ref (fA K "is_sign"))
  g_names_of : mg "names_of" = some (.ref (fA K "names_of"))
  g_folder_names : mg "folder_names" = some (.ref (fA K "folder_names"))
  g_placed : mg "placed" = some (.ref (fA K "placed"))
  g_gathered : mg "gathered" = some (.ref (fA K "gathered"))
  g__law_cell : mg "_law_cell" = some (.ref (fA K "_law_cell"))
  g__law_mixed : mg "_law_mixed" = some (.ref (fA K "_law_mixed"))
  g__law_signs : mg "_law_signs" = some (.ref (fA K "_law_signs"))
  g__law_part : mg "_law_part" = some (.ref (fA K "_law_part"))
  g__law_segment : mg "_law_segment" = some (.ref (fA K "_law_segment"))
  g__law_row : mg "_law_row" = some (.ref (fA K "_law_row"))
  g__law_rows : mg "_law_rows" = some (.ref (fA K "_law_rows"))
  g__law_part_made : mg "_law_part_made" = some (.ref (fA K "_law_part_made"))
  g__law_row_made : mg "_law_row_made" = some (.ref (fA K "_law_row_made"))
  g__law_filled : mg "_law_filled" = some (.ref (fA K "_law_filled"))
  g__law_names : mg "_law_names" = some (.ref (fA K "_law_names"))
  g__law_lists : mg "_law_lists" = some (.ref (fA K "_law_lists"))
  g__law_made_lists : mg "_law_made_lists" = some (.ref (fA K "_law_made_lists"))
  g__law_ranked : mg "_law_ranked" = some (.ref (fA K "_law_ranked"))
  g__law_form : mg "_law_form" = some (.ref (fA K "_law_form"))
  g__law_refused : mg "_law_refused" = some (.ref (fA K "_law_refused"))
  g_law : mg "law" = some (.ref (fA K "law"))
  g_ShunError : mg "ShunError" = some (.ref (fA K "ShunError"))
  k_ShunError : PySem.W.keepIn K (.ref (fA K "ShunError")) = true
  x_ShunError : ExcK K (fA K "ShunError")
  g_NoPart : mg "NoPart" = some (.ref (fA K "NoPart"))
  k_NoPart : PySem.W.keepIn K (.ref (fA K "NoPart")) = true
  x_NoPart : ExcK K (fA K "NoPart")
  g_NoPath : mg "NoPath" = some (.ref (fA K "NoPath"))
  k_NoPath : PySem.W.keepIn K (.ref (fA K "NoPath")) = true
  x_NoPath : ExcK K (fA K "NoPath")
  g_NoText : mg "NoText" = some (.ref (fA K "NoText"))
  k_NoText : PySem.W.keepIn K (.ref (fA K "NoText")) = true
  g_TooMany : mg "TooMany" = some (.ref (fA K "TooMany"))
  k_TooMany : PySem.W.keepIn K (.ref (fA K "TooMany")) = true
  x_TooMany : ExcK K (fA K "TooMany")
  g_NoFolder : mg "NoFolder" = some (.ref (fA K "NoFolder"))
  k_NoFolder : PySem.W.keepIn K (.ref (fA K "NoFolder")) = true
  x_NoFolder : ExcK K (fA K "NoFolder")
  g_NoLeaf : mg "NoLeaf" = some (.ref (fA K "NoLeaf"))
  k_NoLeaf : PySem.W.keepIn K (.ref (fA K "NoLeaf")) = true
  x_NoLeaf : ExcK K (fA K "NoLeaf")
  g_Part : mg "Part" = some (.ref (fA K "Part"))
  k_Part : PySem.W.keepIn K (.ref (fA K "Part")) = true
  c_Part : Cls K (fA K "Part")
  m_Part_fits : Meth K (fA K "Part") "fits" (mA K "Part" "fits")
  m_Part_many : Meth K (fA K "Part") "many" (mA K "Part" "many")
  m_Part_told : Meth K (fA K "Part") "told" (mA K "Part" "told")
  g_Any : mg "Any" = some (.ref (fA K "Any"))
  k_Any : PySem.W.keepIn K (.ref (fA K "Any")) = true
  c_Any : Cls K (fA K "Any")
  m_Any_fits : Meth K (fA K "Any") "fits" (mA K "Any" "fits")
  m_Any_many : Meth K (fA K "Any") "many" (mA K "Any" "many")
  m_Any_told : Meth K (fA K "Any") "told" (mA K "Any" "told")
  g_One : mg "One" = some (.ref (fA K "One"))
  k_One : PySem.W.keepIn K (.ref (fA K "One")) = true
  c_One : Cls K (fA K "One")
  n_One_sign : NoAttr K (fA K "One") "sign"
  m_One_fits : Meth K (fA K "One") "fits" (mA K "One" "fits")
  m_One_many : Meth K (fA K "One") "many" (mA K "One" "many")
  m_One_told : Meth K (fA K "One") "told" (mA K "One" "told")
  m_One___init__ : Meth K (fA K "One") "__init__" (mA K "One" "__init__")
  mk_One : Mk K (fA K "One") (mA K "One" "__init__")
  g_Among : mg "Among" = some (.ref (fA K "Among"))
  k_Among : PySem.W.keepIn K (.ref (fA K "Among")) = true
  c_Among : Cls K (fA K "Among")
  n_Among_signs : NoAttr K (fA K "Among") "signs"
  n_Among_outside : NoAttr K (fA K "Among") "outside"
  m_Among_fits : Meth K (fA K "Among") "fits" (mA K "Among" "fits")
  m_Among_many : Meth K (fA K "Among") "many" (mA K "Among" "many")
  m_Among_told : Meth K (fA K "Among") "told" (mA K "Among" "told")
  m_Among___init__ : Meth K (fA K "Among") "__init__" (mA K "Among" "__init__")
  mk_Among : Mk K (fA K "Among") (mA K "Among" "__init__")
  g_Stars : mg "Stars" = some (.ref (fA K "Stars"))
  k_Stars : PySem.W.keepIn K (.ref (fA K "Stars")) = true
  c_Stars : Cls K (fA K "Stars")
  m_Stars_fits : Meth K (fA K "Stars") "fits" (mA K "Stars" "fits")
  m_Stars_many : Meth K (fA K "Stars") "many" (mA K "Stars" "many")
  m_Stars_told : Meth K (fA K "Stars") "told" (mA K "Stars" "told")
  g_Step : mg "Step" = some (.ref (fA K "Step"))
  k_Step : PySem.W.keepIn K (.ref (fA K "Step")) = true
  c_Step : Cls K (fA K "Step")
  m_Step_deep : Meth K (fA K "Step") "deep" (mA K "Step" "deep")
  m_Step_fits_name : Meth K (fA K "Step") "fits_name" (mA K "Step" "fits_name")
  m_Step_told : Meth K (fA K "Step") "told" (mA K "Step" "told")
  g_Deep : mg "Deep" = some (.ref (fA K "Deep"))
  k_Deep : PySem.W.keepIn K (.ref (fA K "Deep")) = true
  c_Deep : Cls K (fA K "Deep")
  m_Deep_deep : Meth K (fA K "Deep") "deep" (mA K "Deep" "deep")
  m_Deep_fits_name : Meth K (fA K "Deep") "fits_name" (mA K "Deep" "fits_name")
  m_Deep_told : Meth K (fA K "Deep") "told" (mA K "Deep" "told")
  g_Segment : mg "Segment" = some (.ref (fA K "Segment"))
  k_Segment : PySem.W.keepIn K (.ref (fA K "Segment")) = true
  c_Segment : Cls K (fA K "Segment")
  n_Segment_parts : NoAttr K (fA K "Segment") "parts"
  m_Segment_deep : Meth K (fA K "Segment") "deep" (mA K "Segment" "deep")
  m_Segment_fits_name : Meth K (fA K "Segment") "fits_name" (mA K "Segment" "fits_name")
  m_Segment_told : Meth K (fA K "Segment") "told" (mA K "Segment" "told")
  m_Segment___init__ : Meth K (fA K "Segment") "__init__" (mA K "Segment" "__init__")
  mk_Segment : Mk K (fA K "Segment") (mA K "Segment" "__init__")
  g_Row : mg "Row" = some (.ref (fA K "Row"))
  k_Row : PySem.W.keepIn K (.ref (fA K "Row")) = true
  c_Row : Cls K (fA K "Row")
  n_Row_steps : NoAttr K (fA K "Row") "steps"
  n_Row_spares : NoAttr K (fA K "Row") "spares"
  n_Row_folders : NoAttr K (fA K "Row") "folders"
  m_Row___init__ : Meth K (fA K "Row") "__init__" (mA K "Row" "__init__")
  m_Row_told : Meth K (fA K "Row") "told" (mA K "Row" "told")
  mk_Row : Mk K (fA K "Row") (mA K "Row" "__init__")
  s_SIGNS : ∃ t, mg "SIGNS" = some (.str "-.0123456789_abcdefghijklmnopqrstuvwxyz" t)
  fr_len : mg "len" = none
  fr_range : mg "range" = none
  fr_all : mg "all" = none
  fr_set : mg "set" = none
  fr_sorted : mg "sorted" = none
  fr_list : mg "list" = none
  fr_tuple : mg "tuple" = none
  fr_dict : mg "dict" = none
  fr_isinstance : mg "isinstance" = none
  fr_max : mg "max" = none
  fr_ValueError : mg "ValueError" = none
  kx : SL.kxB K [("NoFolder", "ShunError"), ("NoPart", "ShunError"), ("NoPath", "NoPath"), ("NoPath", "ShunError")] [("NoFolder", "NoLeaf", false), ("NoFolder", "NoPart", false), ("NoFolder", "NoPath", false), ("NoFolder", "NoText", false), ("NoFolder", "TooMany", false), ("NoFolder", "NoFolder", true), ("NoPart", "NoLeaf", false), ("NoPart", "NoPart", true), ("NoPart", "NoPath", false), ("NoPart", "NoText", false), ("NoPart", "TooMany", false), ("NoPart", "NoFolder", false), ("NoPath", "NoLeaf", false), ("NoPath", "NoPart", false), ("NoPath", "NoPath", true), ("NoPath", "NoText", false), ("NoPath", "TooMany", false), ("NoPath", "NoFolder", false)] ["NoLeaf", "NoPart", "NoPath", "NoText", "TooMany", "NoFolder"] = true
  mn_Part : MkN K (fA K "Part")
  mn_Any : MkN K (fA K "Any")
  mn_Stars : MkN K (fA K "Stars")
  mn_Step : MkN K (fA K "Step")
  mn_Deep : MkN K (fA K "Deep")
theorem Txt.obj {K : PySem.W.Frag} {mg : Str → Option Value} (T : Txt K mg) : Cls K (fA K "Part") ∧ Cls K (fA K "Any") ∧ Cls K (fA K "One") ∧ Cls K (fA K "Among") ∧ Cls K (fA K "Stars") ∧ Cls K (fA K "Step") ∧ Cls K (fA K "Deep") ∧ Cls K (fA K "Segment") ∧ Cls K (fA K "Row") ∧ NoAttr K (fA K "One") "sign" ∧ NoAttr K (fA K "Among") "signs" ∧ NoAttr K (fA K "Among") "outside" ∧ NoAttr K (fA K "Segment") "parts" ∧ NoAttr K (fA K "Row") "steps" ∧ NoAttr K (fA K "Row") "spares" ∧ NoAttr K (fA K "Row") "folders" := ⟨T.c_Part, T.c_Any, T.c_One, T.c_Among, T.c_Stars, T.c_Step, T.c_Deep, T.c_Segment, T.c_Row, T.n_One_sign, T.n_Among_signs, T.n_Among_outside, T.n_Segment_parts, T.n_Row_steps, T.n_Row_spares, T.n_Row_folders⟩
end SL
namespace SL
open PySem PySem.Spec PyProof.Rows L2
abbrev N__wall : List Str := ["k"]
theorem sc__wall : FnScope ["k"] ["k"] (defScope TX.s__wall) := ⟨rfl, rfl, rfl, by decide +kernel, rfl, by decide +kernel, by decide +kernel⟩
abbrev N_NoText___init__ : List Str := ["self", "row"]
theorem sc_NoText___init__ : FnScope ["self", "row"] ["self", "row"] (defScope TX.s_NoText___init__) := ⟨rfl, rfl, rfl, by decide +kernel, rfl, by decide +kernel, by decide +kernel⟩
abbrev N_is_sign : List Str := ["thing"]
theorem sc_is_sign : FnScope ["thing"] ["thing"] (defScope TX.s_is_sign) := ⟨rfl, rfl, rfl, by decide +kernel, rfl, by decide +kernel, by decide +kernel⟩
abbrev N_Part_fits : List Str := ["self", "sign"]
theorem sc_Part_fits : FnScope ["self", "sign"] ["self", "sign"] (defScope TX.s_Part_fits) := ⟨rfl, rfl, rfl, by decide +kernel, rfl, by decide +kernel, by decide +kernel⟩
abbrev N_Part_many : List Str := ["self"]
theorem sc_Part_many : FnScope ["self"] ["self"] (defScope TX.s_Part_many) := ⟨rfl, rfl, rfl, by decide +kernel, rfl, by decide +kernel, by decide +kernel⟩
abbrev N_Part_told : List Str := ["self"]
theorem sc_Part_told : FnScope ["self"] ["self"] (defScope TX.s_Part_told) := ⟨rfl, rfl, rfl, by decide +kernel, rfl, by decide +kernel, by decide +kernel⟩
abbrev N_One___init__ : List Str := ["self", "sign"]
theorem sc_One___init__ : FnScope ["self", "sign"] ["self", "sign"] (defScope TX.s_One___init__) := ⟨rfl, rfl, rfl, by decide +kernel, rfl, by decide +kernel, by decide +kernel⟩
abbrev N_One_fits : List Str := ["self", "sign"]
theorem sc_One_fits : FnScope ["self", "sign"] ["self", "sign"] (defScope TX.s_One_fits) := ⟨rfl, rfl, rfl, by decide +kernel, rfl, by decide +kernel, by decide +kernel⟩
abbrev N_One_told : List Str := ["self"]
theorem sc_One_told : FnScope ["self"] ["self"] (defScope TX.s_One_told) := ⟨rfl, rfl, rfl, by decide +kernel, rfl, by decide +kernel, by decide +kernel⟩
abbrev N_Among___init__ : List Str := ["self", "signs", "outside", "sign"]
theorem sc_Among___init__ : FnScope ["self", "signs", "outside", "sign"] ["self", "signs", "outside"] (defScope TX.s_Among___init__) := ⟨rfl, rfl, rfl, by decide +kernel, rfl, by decide +kernel, by decide +kernel⟩
abbrev N_Among_fits : List Str := ["self", "sign"]
theorem sc_Among_fits : FnScope ["self", "sign"] ["self", "sign"] (defScope TX.s_Among_fits) := ⟨rfl, rfl, rfl, by decide +kernel, rfl, by decide +kernel, by decide +kernel⟩
abbrev N_Among_told : List Str := ["self"]
theorem sc_Among_told : FnScope ["self"] ["self"] (defScope TX.s_Among_told) := ⟨rfl, rfl, rfl, by decide +kernel, rfl, by decide +kernel, by decide +kernel⟩
abbrev N_Stars_many : List Str := ["self"]
theorem sc_Stars_many : FnScope ["self"] ["self"] (defScope TX.s_Stars_many) := ⟨rfl, rfl, rfl, by decide +kernel, rfl, by decide +kernel, by decide +kernel⟩
abbrev N_Stars_told : List Str := ["self"]
theorem sc_Stars_told : FnScope ["self"] ["self"] (defScope TX.s_Stars_told) := ⟨rfl, rfl, rfl, by decide +kernel, rfl, by decide +kernel, by decide +kernel⟩
abbrev N_Step_deep : List Str := ["self"]
theorem sc_Step_deep : FnScope ["self"] ["self"] (defScope TX.s_Step_deep) := ⟨rfl, rfl, rfl, by decide +kernel, rfl, by decide +kernel, by decide +kernel⟩
abbrev N_Step_fits_name : List Str := ["self", "name"]
theorem sc_Step_fits_name : FnScope ["self", "name"] ["self", "name"] (defScope TX.s_Step_fits_name) := ⟨rfl, rfl, rfl, by decide +kernel, rfl, by decide +kernel, by decide +kernel⟩
abbrev N_Step_told : List Str := ["self"]
theorem sc_Step_told : FnScope ["self"] ["self"] (defScope TX.s_Step_told) := ⟨rfl, rfl, rfl, by decide +kernel, rfl, by decide +kernel, by decide +kernel⟩
abbrev N_Deep_deep : List Str := ["self"]
theorem sc_Deep_deep : FnScope ["self"] ["self"] (defScope TX.s_Deep_deep) := ⟨rfl, rfl, rfl, by decide +kernel, rfl, by decide +kernel, by decide +kernel⟩
abbrev N_Segment___init__ : List Str := ["self", "parts", "found", "part"]
theorem sc_Segment___init__ : FnScope ["self", "parts", "found", "part"] ["self", "parts"] (defScope TX.s_Segment___init__) := ⟨rfl, rfl, rfl, by decide +kernel, rfl, by decide +kernel, by decide +kernel⟩
abbrev N_Segment_fits_name : List Str := ["self", "name"]
theorem sc_Segment_fits_name : FnScope ["self", "name"] ["self", "name"] (defScope TX.s_Segment_fits_name) := ⟨rfl, rfl, rfl, by decide +kernel, rfl, by decide +kernel, by decide +kernel⟩
abbrev N_Segment_told : List Str := ["self", "part"]
theorem sc_Segment_told : FnScope ["self", "part"] ["self"] (defScope TX.s_Segment_told) := ⟨rfl, rfl, rfl, by decide +kernel, rfl, by decide +kernel, by decide +kernel⟩
abbrev N_Row___init__ : List Str := ["self", "steps", "spares", "folders", "found", "step"]
theorem sc_Row___init__ : FnScope ["self", "steps", "spares", "folders", "found", "step"] ["self", "steps", "spares", "folders"] (defScope TX.s_Row___init__) := ⟨rfl, rfl, rfl, by decide +kernel, rfl, by decide +kernel, by decide +kernel⟩
abbrev N_Row_told : List Str := ["self", "step"]
theorem sc_Row_told : FnScope ["self", "step"] ["self"] (defScope TX.s_Row_told) := ⟨rfl, rfl, rfl, by decide +kernel, rfl, by decide +kernel, by decide +kernel⟩
abbrev N_names_of : List Str := ["path", "names", "folder", "name", "sign"]
theorem sc_names_of : FnScope ["path", "names", "folder", "name", "sign"] ["path"] (defScope TX.s_names_of) := ⟨rfl, rfl, rfl, by decide +kernel, rfl, by decide +kernel, by decide +kernel⟩
abbrev N_folder_names : List Str := ["folder", "names", "is_folder"]
theorem sc_folder_names : FnScope ["folder", "names", "is_folder"] ["folder"] (defScope TX.s_folder_names) := ⟨rfl, rfl, rfl, by decide +kernel, rfl, by decide +kernel, by decide +kernel⟩
abbrev N_placed : List Str := ["row", "names", "steps", "step", "name", "sign"]
theorem sc_placed : FnScope ["row", "names", "steps", "step", "name", "sign"] ["row", "names"] (defScope TX.s_placed) := ⟨rfl, rfl, rfl, by decide +kernel, rfl, by decide +kernel, by decide +kernel⟩
abbrev N_gathered : List Str := ["lists", "ranked", "folder", "names", "found", "many", "row"]
theorem sc_gathered : FnScope ["lists", "ranked", "folder", "names", "found", "many", "row"] ["lists"] (defScope TX.s_gathered) := ⟨rfl, rfl, rfl, by decide +kernel, rfl, by decide +kernel, by decide +kernel⟩
abbrev N__law_cell : List Str := ["_law_script", "_law_k", "_law_cell_here", "_law_mark", "_law_high"]
theorem sc__law_cell : FnScope ["_law_script", "_law_k", "_law_cell_here", "_law_mark", "_law_high"] ["_law_script", "_law_k"] (defScope TX.s__law_cell) := ⟨rfl, rfl, rfl, by decide +kernel, rfl, by decide +kernel, by decide +kernel⟩
abbrev N__law_mixed : List Str := ["_law_cell_here", "_law_k", "_law_mark"]
theorem sc__law_mixed : FnScope ["_law_cell_here", "_law_k", "_law_mark"] ["_law_cell_here", "_law_k"] (defScope TX.s__law_mixed) := ⟨rfl, rfl, rfl, by decide +kernel, rfl, by decide +kernel, by decide +kernel⟩
abbrev N__law_signs : List Str := ["_law_cell_here", "_law_all_signs", "_law_step", "_law_k"]
theorem sc__law_signs : FnScope ["_law_cell_here", "_law_all_signs", "_law_step", "_law_k"] ["_law_cell_here"] (defScope TX.s__law_signs) := ⟨rfl, rfl, rfl, by decide +kernel, rfl, by decide +kernel, by decide +kernel⟩
abbrev N__law_part : List Str := ["_law_cell_here", "_law_signs_here", "_law_way", "_law_one", "_law_some"]
theorem sc__law_part : FnScope ["_law_cell_here", "_law_signs_here", "_law_way", "_law_one", "_law_some"] ["_law_cell_here", "_law_signs_here"] (defScope TX.s__law_part) := ⟨rfl, rfl, rfl, by decide +kernel, rfl, by decide +kernel, by decide +kernel⟩
abbrev N__law_segment : List Str := ["_law_cell_here", "_law_signs_here", "_law_parts", "_law_k", "_law_part_here"]
theorem sc__law_segment : FnScope ["_law_cell_here", "_law_signs_here", "_law_parts", "_law_k", "_law_part_here"] ["_law_cell_here", "_law_signs_here"] (defScope TX.s__law_segment) := ⟨rfl, rfl, rfl, by decide +kernel, rfl, by decide +kernel, by decide +kernel⟩
abbrev N__law_row : List Str := ["_law_cell_here", "_law_signs_here", "_law_steps", "_law_k", "_law_mark"]
theorem sc__law_row : FnScope ["_law_cell_here", "_law_signs_here", "_law_steps", "_law_k", "_law_mark"] ["_law_cell_here", "_law_signs_here"] (defScope TX.s__law_row) := ⟨rfl, rfl, rfl, by decide +kernel, rfl, by decide +kernel, by decide +kernel⟩
abbrev N__law_rows : List Str := ["_law_script", "_law_first", "_law_many", "_law_signs_here", "_law_found", "_law_k", "_law_cell_here", "_law_row_here"]
theorem sc__law_rows : FnScope ["_law_script", "_law_first", "_law_many", "_law_signs_here", "_law_found", "_law_k", "_law_cell_here", "_law_row_here"] ["_law_script", "_law_first", "_law_many", "_law_signs_here"] (defScope TX.s__law_rows) := ⟨rfl, rfl, rfl, by decide +kernel, rfl, by decide +kernel, by decide +kernel⟩
abbrev N__law_part_made : List Str := ["_law_form_here"]
theorem sc__law_part_made : FnScope ["_law_form_here"] ["_law_form_here"] (defScope TX.s__law_part_made) := ⟨rfl, rfl, rfl, by decide +kernel, rfl, by decide +kernel, by decide +kernel⟩
abbrev N__law_row_made : List Str := ["_law_form_here", "_law_steps", "_law_step", "_law_part_here"]
theorem sc__law_row_made : FnScope ["_law_form_here", "_law_steps", "_law_step", "_law_part_here"] ["_law_form_here"] (defScope TX.s__law_row_made) := ⟨rfl, rfl, rfl, by decide +kernel, rfl, by decide +kernel, by decide +kernel⟩
abbrev N__law_filled : List Str := ["_law_part_here", "_law_cell_here", "_law_signs_here", "_law_some", "_law_sign"]
theorem sc__law_filled : FnScope ["_law_part_here", "_law_cell_here", "_law_signs_here", "_law_some", "_law_sign"] ["_law_part_here", "_law_cell_here", "_law_signs_here"] (defScope TX.s__law_filled) := ⟨rfl, rfl, rfl, by decide +kernel, rfl, by decide +kernel, by decide +kernel⟩
abbrev N__law_names : List Str := ["_law_form_here", "_law_cell_here", "_law_signs_here", "_law_names_here", "_law_k", "_law_step", "_law_mark", "_law_more", "_law_some", "_law_j", "_law_way", "_law_at"]
theorem sc__law_names : FnScope ["_law_form_here", "_law_cell_here", "_law_signs_here", "_law_names_here", "_law_k", "_law_step", "_law_mark", "_law_more", "_law_some", "_law_j", "_law_way", "_law_at"] ["_law_form_here", "_law_cell_here", "_law_signs_here"] (defScope TX.s__law_names) := ⟨rfl, rfl, rfl, by decide +kernel, rfl, by decide +kernel, by decide +kernel⟩
abbrev N__law_lists : List Str := ["_law_script", "_law_first", "_law_forms", "_law_signs_here", "_law_found", "_law_k", "_law_cell_here", "_law_names_here", "_law_folder", "_law_rows_here", "_law_name", "_law_j"]
theorem sc__law_lists : FnScope ["_law_script", "_law_first", "_law_forms", "_law_signs_here", "_law_found", "_law_k", "_law_cell_here", "_law_names_here", "_law_folder", "_law_rows_here", "_law_name", "_law_j"] ["_law_script", "_law_first", "_law_forms", "_law_signs_here"] (defScope TX.s__law_lists) := ⟨rfl, rfl, rfl, by decide +kernel, rfl, by decide +kernel, by decide +kernel⟩
abbrev N__law_made_lists : List Str := ["_law_lists_here", "_law_found", "_law_folder", "_law_form_here"]
theorem sc__law_made_lists : FnScope ["_law_lists_here", "_law_found", "_law_folder", "_law_form_here"] ["_law_lists_here"] (defScope TX.s__law_made_lists) := ⟨rfl, rfl, rfl, by decide +kernel, rfl, by decide +kernel, by decide +kernel⟩
abbrev N__law_ranked : List Str := ["_law_lists_here", "_law_folder", "_law_many"]
theorem sc__law_ranked : FnScope ["_law_lists_here", "_law_folder", "_law_many"] ["_law_lists_here"] (defScope TX.s__law_ranked) := ⟨rfl, rfl, rfl, by decide +kernel, rfl, by decide +kernel, by decide +kernel⟩
abbrev N__law_form : List Str := ["_law_form_here", "_law_folder", "_law_steps", "_law_more", "_law_name", "_law_sign"]
theorem sc__law_form : FnScope ["_law_form_here", "_law_folder", "_law_steps", "_law_more", "_law_name", "_law_sign"] ["_law_form_here", "_law_folder"] (defScope TX.s__law_form) := ⟨rfl, rfl, rfl, by decide +kernel, rfl, by decide +kernel, by decide +kernel⟩
abbrev N__law_refused : List Str := ["_law_made", "_law_cell_here", "_law_handed", "_law_caught", "e"]
theorem sc__law_refused : FnScope ["_law_made", "_law_cell_here", "_law_handed", "_law_caught", "e"] ["_law_made", "_law_cell_here"] (defScope TX.s__law_refused) := ⟨rfl, rfl, rfl, by decide +kernel, rfl, by decide +kernel, by decide +kernel⟩
abbrev N_law : List Str := ["_law_script", "_law_signs_here", "_law_forms", "_law_lists_here", "_law_made", "_law_due", "_law_folder", "_law_turn", "_law_found", "_law_some", "_law_heads", "_law_form_here", "_law_row_here"]
theorem sc_law : FnScope ["_law_script", "_law_signs_here", "_law_forms", "_law_lists_here", "_law_made", "_law_due", "_law_folder", "_law_turn", "_law_found", "_law_some", "_law_heads", "_law_form_here", "_law_row_here"] ["_law_script"] (defScope TX.s_law) := ⟨rfl, rfl, rfl, by decide +kernel, rfl, by decide +kernel, by decide +kernel⟩
end SL
open PySem PySem.Spec PyProof.Rows L2 SL in
local macro_rules | `(tactic| walk_at "rd") => `(tactic| simp only [tVar, tC, tOp, tUn, tCall, tMeI, tMake, tMakN, tMakK, tMakKr, tCB, tCons, tNil, tTup, tLst, tTest, tB, tAnd, tOr, tNot, tAndV, tOrV, tNotV, tOrT, tAndT, tNotT, tIf, tIfS, tSeq, tAsg, gName, tRet, tRetN, tNext, tDrop, tBreak, tCont, tIsN, tNotN, tFld, sFld, tPart, tNoPart, tSl,
  rI, rI0, rU, rAddU, rMulU, rEqU, rNeU, rCmp, rInU, rNotInU, rIxU, rSlU, rLenU, rLenW, rJoin, rCount, rListU, rRevU, rSetU, rSortedU, NewSet, NewSorted, tBM, tBM0, SL.tyStr, rTupU, rMaxU, rMinU, rInsert, rPop, rSetL, gSub, iEnumU, rIsiU, rAll, rAny, rIsBo, rNotBo, rIntU, rIadd, rIn, flatV, rAppend, tyV, tAug, rRep, rCat, sDPut, tDGet, tDIn, tDNotIn, tDNewK, tDisp, tPairs, tDGet1, tDGet2, rListD, rDClear, iZip, iU, iRng1, iRng2, iRevR, tRg1, wipe, SL.sameT, Int.zero_add, isRef, scal, Bool.or_true, Bool.true_or, Bool.or_false, Bool.false_or, Bool.or_self,
  L2.start, SL.cxK, SL.cxW, SL.cxP, SL.truBl, SL.truInt, SL.truNon, SL.truStr, SL.lenStr, List.map_cons, List.map_nil, List.length_cons, List.length_nil, List.replicate, List.reverse_cons, List.reverse_nil, List.nil_append, List.cons_append, List.append_nil, List.set_cons_zero, List.set_cons_succ, List.getElem?_cons_zero, List.getElem?_cons_succ, Nat.zero_add, Nat.reduceAdd, Nat.reduceSub, Nat.sub_self, Nat.add_sub_cancel,
  List.cons.injEq, V.int.injEq, V.str.injEq, V.bl.injEq, V.ref.injEq, Option.some.injEq, reduceCtorEq, exists_eq_left', exists_eq_left, exists_eq', exists_eq, exists_and_left, exists_and_right, and_true, true_and, false_and, and_false, false_or, or_false, decide_eq_true_eq, Bool.not_eq_true', decide_eq_false_iff_not, SL.ite_tt, SL.ite_ff, ne_eq, not_true_eq_false, not_false_eq_true, forall_eq, forall_eq', Bool.not_true, Bool.not_false, decide_true, decide_false, SL.le_sz, SL.lt_sz, SL.ifT, SL.ifF, SL.strEq, String.reduceEq, SL.manyOne, SL.manyAny, SL.manyAmong, SL.manyStars, Nat.reduceLeDiff, Nat.reduceLT, Int.reduceLT, Int.reduceLE])

local macro_rules | `(tactic| walk_at "sm") => `(tactic| (first | exact L2.Same.refl _ | assumption | (repeat (first | exact L2.Same.refl _ | assumption | refine L2.Same.trans ?_ (SL.same_new (by assumption))))))
open PySem PySem.Spec PyProof.Rows L2 SL in
local macro_rules | `(tactic| walk_at "rdh") => `(tactic| (simp only [tVar, tC, tOp, tUn, tCall, tMeI, tMake, tMakN, tMakK, tMakKr, tCB, tCons, tNil, tTup, tLst, tTest, tB, tAnd, tOr, tNot, tAndV, tOrV, tNotV, tOrT, tAndT, tNotT, tIf, tIfS, tSeq, tAsg, gName, tRet, tRetN, tNext, tDrop, tBreak, tCont, tIsN, tNotN, tFld, sFld, tPart, tNoPart, tSl,
  rI, rI0, rU, rAddU, rMulU, rEqU, rNeU, rCmp, rInU, rNotInU, rIxU, rSlU, rLenU, rLenW, rJoin, rCount, rListU, rRevU, rSetU, rSortedU, NewSet, NewSorted, tBM, tBM0, SL.tyStr, rTupU, rMaxU, rMinU, rInsert, rPop, rSetL, gSub, iEnumU, rIsiU, rAll, rAny, rIsBo, rNotBo, rIntU, rIadd, rIn, flatV, rAppend, tyV, tAug, rRep, rCat, sDPut, tDGet, tDIn, tDNotIn, tDNewK, tDisp, tPairs, tDGet1, tDGet2, rListD, rDClear, iZip, iU, iRng1, iRng2, iRevR, tRg1, wipe, SL.sameT, Int.zero_add, isRef, scal, Bool.or_true, Bool.true_or, Bool.or_false, Bool.false_or, Bool.or_self,
  L2.start, SL.cxK, SL.cxW, SL.cxP, SL.truBl, SL.truInt, SL.truNon, SL.truStr, SL.lenStr, List.map_cons, List.map_nil, List.length_cons, List.length_nil, List.replicate, List.reverse_cons, List.reverse_nil, List.nil_append, List.cons_append, List.append_nil, List.set_cons_zero, List.set_cons_succ, List.getElem?_cons_zero, List.getElem?_cons_succ, Nat.zero_add, Nat.reduceAdd, Nat.reduceSub, Nat.sub_self, Nat.add_sub_cancel,
  List.cons.injEq, V.int.injEq, V.str.injEq, V.bl.injEq, V.ref.injEq, Option.some.injEq, reduceCtorEq, exists_eq_left', exists_eq_left, exists_eq', exists_eq, exists_and_left, exists_and_right, and_true, true_and, false_and, and_false, false_or, or_false, decide_eq_true_eq, Bool.not_eq_true', decide_eq_false_iff_not, SL.ite_tt, SL.ite_ff, ne_eq, not_true_eq_false, not_false_eq_true, forall_eq, forall_eq', Bool.not_true, Bool.not_false, decide_true, decide_false, SL.le_sz, SL.lt_sz, SL.ifT, SL.ifF, SL.strEq, String.reduceEq, SL.manyOne, SL.manyAny, SL.manyAmong, SL.manyStars, Nat.reduceLeDiff, Nat.reduceLT, Int.reduceLT, Int.reduceLE, SL.PartO, SL.lkSign, SL.lkSigns, SL.lkOut, SL.lkParts, SL.lkSteps, SL.lkSpares, SL.lkFolders, SL.pfNil, SL.pfOut, SL.pfSpares, SL.pfFolders, L2.upd_same, L2.upd_upd, HO.ins.injEq, and_assoc, *]))
local macro_rules | `(tactic| walk_at "rdx") => `(tactic| (walk_at "rd"; repeat (refine ⟨_, Or.inr (by assumption), _, rfl, ?_⟩; try walk_at "rd")))
namespace SL
open PySem PySem.Spec PyProof.Rows L2 SX
section
variable {P : Program} {w : World} {K : PySem.W.Frag} {mg : Str → Option Value} {base : Heap}

/-! ### is_sign, the drawn numbers -/
def spIsSign : Sp := fun vs H Q _ => ∃ z, vs = [.str z] ∧ z.length ≤ sizeLine ∧ Q (.bl (decide (∃ c ∈ SIG, z = ⟨#[c]⟩))) H
theorem str_one {z : Str} (h : (z.length : Int) = 1) : ∃ c, z = ⟨#[c]⟩ := by
  obtain ⟨⟨l⟩⟩ := z
  have e : l.length = 1 := by
    have h' : ((l.length : Nat) : Int) = 1 := h
    omega
  match l, e with
  | [c], _ => exact ⟨c, rfl⟩
theorem ok_is_sign (T : Txt K mg) : OkD P w K mg base 1 (fA K "is_sign") ["thing"] [] spIsSign := by
  refine okD T.F_is_sign sc_is_sign (fun _ _ _ _ _ _ us hl => match us, hl with | [_], _ => rfl) ?_ ?_
  · rintro vs H Q E ⟨z, rfl, _⟩
    rfl
  · rintro cdv A outer s H vs Q E hr ⟨z, rfl, hz, q⟩
    refine ⟨_, (pss_one (ps_ret (pe_andK (K := K) (pe_cmpR (o_eq (K := K) (hu64 hr)) (pe_callB (o_lenW (K := K) (w := w)) (by rfl) T.fr_len boot_len (pa_cons (pv 0) pa_nil)) pe_int (nomark _)) (pe_one (pe_cmpR (o_in (K := K) (hu65 hr)) (pv 0) (pe_gstr rfl T.s_SIGNS) (by rfl)))))), ?_⟩
    walk_at "rd"
    rw [sizeLine_eq] at hz
    refine ⟨hz, ite2 (fun h => ?_) (fun h => ?_)⟩
    · obtain ⟨c, rfl⟩ := str_one h
      refine .inl ⟨c, rfl, ?_⟩
      have e : decide (∃ c' ∈ SIG, (⟨#[c]⟩ : Str) = ⟨#[c']⟩) = decide (c ∈ SIG) := by
        refine decide_eq_decide.mpr ⟨fun ⟨c', h1, h2⟩ => ?_, fun h1 => ⟨c, h1, rfl⟩⟩
        injection h2 with h2
        have h3 : c = c' := by simpa using h2
        rw [h3]
        exact h1
      rw [e] at q
      exact q
    · have e : decide (∃ c ∈ SIG, z = ⟨#[c]⟩) = false := decide_eq_false fun ⟨c, _, h2⟩ => h (by rw [h2]; rfl)
      rw [e] at q
      rw [decide_eq_false h]
      exact q
def spCell (K : PySem.W.Frag) : Sp := fun vs H Q _ => ∃ a k, ∃ ns : List Int, vs = [.ref a, .int k] ∧ SqL K H a (ns.map V.int) ∧ ns.length ≤ 63 ∧ 0 ≤ k ∧ k < 64 ∧ ∀ c, Q (.int c) H
theorem ok__law_cell (T : Txt K mg) : OkD P w K mg base 1 (fA K "_law_cell") ["_law_script", "_law_k"] [] (spCell K) := by
  refine okD T.F__law_cell sc__law_cell (fun _ _ _ _ _ _ us hl => match us, hl with | [_, _], _ => rfl) ?_ ?_
  · rintro vs H Q E ⟨a, k, ns, rfl, _⟩
    rfl
  · rintro cdv A outer s H vs Q E hr ⟨a, k, ns, rfl, hs, hn, h0, h1, q⟩
    refine ⟨_, (pss_cons (ps_set (i := 2) sc__law_cell.nd rfl (Or.inl rfl) (pe_mid (pe_ifExp (pt_cmpR o_lt (pv 1) (pe_callB (o_lenW (K := K) (w := w)) (by rfl) T.fr_len boot_len (pa_cons (pv 0) pa_nil)) (nomark _)) (pe_ix (o_ix (K := K)) (pv 0) (pv 1) (fun _ _ => rfl)) pe_int)))
  (pss_cons (ps_set (i := 3) sc__law_cell.nd rfl (Or.inl rfl) (pe_mid (pe_op op_mod (pe_op o_mul (pe_op (o_add (K := K)) (pe_op op_mod (pv 2) pe_int) (pe_op o_mul pe_int (pe_op (o_add (K := K)) (pv 1) pe_int))) pe_int) pe_int)))
  (pss_cons (ps_set (i := 3) sc__law_cell.nd rfl (Or.inl rfl) (pe_mid (pe_op op_mod (pe_op o_mul (pe_op op_mod (pe_op o_mul (pv 3) (pv 3)) pe_int) pe_int) pe_int)))
  (pss_cons (ps_set (i := 4) sc__law_cell.nd rfl (Or.inl rfl) (pe_mid (pe_op (o_add (K := K)) (pe_op o_mul (pe_op op_mod (pe_op op_fdivW (pv 2) pe_int) (pe_op op_pow pe_int pe_int)) pe_int) (pv 3))))
  (pss_one (ps_ret (pe_op (o_add (K := K)) (pe_op o_mul (pv 4) pe_int) (pe_op op_mod (pe_op o_mul (pv 3) (pv 3)) pe_int)))))))), ?_⟩
    have hl : LenV K (V.ref a) H (ns.map V.int).length := .inl ⟨_, hs, rfl⟩
    refine q_mid (fun _ => True) ?_ fun n _ => ?_
    · walk_at "rd"
      refine .inr ⟨_, hl, ite2 (fun hk => ?_) (fun _ => trivial)⟩
      obtain ⟨j, rfl⟩ : ∃ j : Nat, k = (j : Int) := ⟨k.toNat, by omega⟩
      have hj : j < (ns.map V.int).length := by omega
      have hj2 : j < ns.length := by rw [List.length_map] at hj; exact hj
      refine ⟨_, .inl hs, V.int ns[j], atI_nat ?_, _, rfl⟩
      rw [List.getElem?_map, List.getElem?_eq_getElem hj2]
      rfl
    have b : ∀ (x : Int), 0 ≤ x % 2147483647 ∧ x % 2147483647 < 2147483647 := fun x => ⟨Int.emod_nonneg _ (by decide), Int.emod_lt_of_pos _ (by decide)⟩
    have b2 : ∀ (x : Int), 0 ≤ x % 2147483629 ∧ x % 2147483629 < 2147483629 := fun x => ⟨Int.emod_nonneg _ (by decide), Int.emod_lt_of_pos _ (by decide)⟩
    have sm : ∀ (x y : Int), 0 ≤ x → x < 2147483647 → CMul x y := fun x y h1 h2 => .inl ⟨by omega, by omega⟩
    have sm2 : ∀ (x y : Int), 0 ≤ y → y ≤ 2147483647 → CMul x y := fun x y h1 h2 => .inr ⟨by omega, by omega⟩
    refine q_mid (fun m => 0 ≤ m ∧ m < 2147483647) ?_ fun m hm => ?_
    · walk_at "rd"
      exact ⟨sm _ _ (by decide) (by decide), sm2 _ _ (by decide) (by decide), b _⟩
    refine q_mid (fun m => 0 ≤ m ∧ m < 2147483647) ?_ fun m2 hm2 => ?_
    · walk_at "rd"
      exact ⟨sm _ _ hm.1 hm.2, sm2 _ _ (by decide) (by decide), b _⟩
    refine q_mid (fun _ => True) ?_ fun hgh _ => ?_
    · walk_at "rd"
      exact ⟨⟨by decide, by decide⟩, ⟨by decide, by decide, by decide⟩, by decide, sm2 _ _ (by decide) (by decide)⟩
    walk_at "rd"
    exact ⟨sm2 _ _ (by decide) (by decide), sm _ _ hm2.1 hm2.2, q _⟩
/-- four signs -/
def SignV (v : V) : Prop := ∃ c ∈ SIG, v = .str ⟨#[c]⟩
/-- the sign at a place -/
def sgAt (i : Int) : V := .str (S [SIG.getD i.toNat 0])
theorem sig_get {i : Int} (h0 : 0 ≤ i) (h1 : i < 39) : atI SIG i = some (SIG.getD i.toNat 0) ∧ SIG.getD i.toNat 0 ∈ SIG := by
  obtain ⟨j, rfl⟩ : ∃ j : Nat, i = (j : Int) := ⟨i.toNat, by omega⟩
  have hj : j < SIG.length := by rw [sig_len]; omega
  have e : SIG.getD (j : Int).toNat 0 = SIG[j] := by
    rw [Int.toNat_natCast, List.getD_eq_getElem?_getD, List.getElem?_eq_getElem hj]
    rfl
  rw [e]
  exact ⟨atI_nat (List.getElem?_eq_getElem hj), List.getElem_mem hj⟩
theorem sgAt_ne {i j : Int} (h0 : 0 ≤ i) (h1 : i < 39) (g0 : 0 ≤ j) (g1 : j < 39) (h : i ≠ j) : sgAt i ≠ sgAt j := by
  intro e
  obtain ⟨a, rfl⟩ : ∃ a : Nat, i = (a : Int) := ⟨i.toNat, by omega⟩
  obtain ⟨b, rfl⟩ : ∃ b : Nat, j = (b : Int) := ⟨j.toNat, by omega⟩
  have ha : a < SIG.length := by rw [sig_len]; omega
  have hb : b < SIG.length := by rw [sig_len]; omega
  unfold sgAt at e
  rw [Int.toNat_natCast, Int.toNat_natCast, List.getD_eq_getElem?_getD, List.getD_eq_getElem?_getD, List.getElem?_eq_getElem ha, List.getElem?_eq_getElem hb] at e
  have e2 := S1_inj (V.str.inj e)
  rcases Nat.lt_trichotomy a b with q | q | q
  · have := List.pairwise_iff_getElem.mp sig_up a b ha hb q
    have e3 : SIG[a] = SIG[b] := e2
    omega
  · exact h (by rw [q])
  · have := List.pairwise_iff_getElem.mp sig_up b a hb ha q
    have e3 : SIG[a] = SIG[b] := e2
    omega
def spSigns : Sp := fun vs H Q _ => ∃ c, vs = [.int c] ∧ ∀ p l H', l.length = 4 → l.Nodup → (∀ v ∈ l, SignV v) → H p = none → Same H H' → H' p = some (.lst l) → Q (.ref p) H'
theorem ok__law_signs (T : Txt K mg) : OkD P w K mg base 1 (fA K "_law_signs") ["_law_cell_here"] [] spSigns := by
  refine okD T.F__law_signs sc__law_signs (fun _ _ _ _ _ _ us hl => match us, hl with | [_], _ => rfl) ?_ ?_
  · rintro vs H Q E ⟨c, rfl, _⟩
    rfl
  · rintro cdv A outer s H vs Q E hr ⟨c, rfl, q⟩
    refine ⟨_, (pss_cons (ps_set (i := 1) sc__law_signs.nd rfl (Or.inr rfl) pe_str)
  (pss_cons (ps_set (i := 2) sc__law_signs.nd rfl (Or.inr rfl) (pe_op o_mul pe_int (pe_op (o_add (K := K)) pe_int (pe_op op_mod (pe_op op_fdivW (pv 0) pe_int) pe_int))))
  (pss_one (ps_ret (pe_lc (own := [("_law_k", 3)]) (g := (gName 3)) (tt := tYes) rfl sc__law_signs.nd (pi_mid (pi_range1 rfl T.fr_range (pa_cons pe_int pa_nil))) (blkOk_by (N := N__law_signs) (sc := defScope TX.s__law_signs) (by decide +kernel)) (fun _ _ _ _ _ => (pg_name (i := 3) sc__law_signs.nd rfl (Or.inl rfl))) (fun _ _ _ _ _ => pts_nil) (fun _ _ _ _ _ => (pe_mid (pe_ix (o_ix (K := K)) (pv 1) (pe_op op_mod (pe_op (o_add (K := K)) (pv 0) (pe_op o_mul (pv 2) (pv 3))) pe_int) (fun _ _ => rfl))))))))), ?_⟩
    walk_at "rd"
    refine ⟨⟨by decide, by decide⟩, .inl ⟨by decide, by decide⟩, ?_⟩
    refine lc_mid (J0 := Itr 0 4) (H0 := H) ?_ walk_range (by decide) (fun k acc _ => acc = (List.range k).map fun (j : Nat) => sgAt ((c + 7 * (1 + c / 39 % 2) * (j : Int)) % 39)) (fun _ _ _ _ _ h => h) rfl (fun _ _ => trivial) (fun _ _ _ _ y => y_fn y) (fun _ => rfl) ?_ ?_
    · walk_at "rd"
      exact ⟨by decide, by decide, rfl⟩
    · rintro k x acc H' H'' hk sm hc ⟨rfl, rfl⟩
      walk_at "rd"
      refine ⟨.inl ⟨by omega, by omega⟩, by decide +kernel, ?_⟩
      have hg := sig_get (i := (c + 7 * (1 + c / 39 % 2) * k) % 39) (Int.emod_nonneg _ (by decide)) (Int.emod_lt_of_pos _ (by decide))
      refine ⟨_, hg.1, ?_⟩
      rw [List.range_succ, List.map_append, ← hc]
      rfl
    · intro p acc H' hp sm hD hl hc
      have b : ∀ x : Int, 0 ≤ x % 39 ∧ x % 39 < 39 := fun x => ⟨Int.emod_nonneg _ (by decide), Int.emod_lt_of_pos _ (by decide)⟩
      have hx : c / 39 % 2 = 0 ∨ c / 39 % 2 = 1 := by omega
      have hc4 : acc = [sgAt ((c + 7 * (1 + c / 39 % 2) * 0) % 39), sgAt ((c + 7 * (1 + c / 39 % 2) * 1) % 39), sgAt ((c + 7 * (1 + c / 39 % 2) * 2) % 39), sgAt ((c + 7 * (1 + c / 39 % 2) * 3) % 39)] := hc
      refine q p acc H' hl ?_ ?_ hp sm hD
      · rw [hc4]
        have ne : ∀ x y : Int, x % 39 ≠ y % 39 → sgAt (x % 39) ≠ sgAt (y % 39) := fun x y h => sgAt_ne (b x).1 (b x).2 (b y).1 (b y).2 h
        rcases hx with h | h <;> rw [h] <;>
          refine List.nodup_cons.mpr ⟨?_, List.nodup_cons.mpr ⟨?_, List.nodup_cons.mpr ⟨?_, List.nodup_cons.mpr ⟨List.not_mem_nil, .nil⟩⟩⟩⟩ <;>
          simp only [List.mem_cons, List.not_mem_nil, or_false, not_or] <;>
          (try refine ⟨ne _ _ (by omega), ne _ _ (by omega), ne _ _ (by omega)⟩) <;> (try refine ⟨ne _ _ (by omega), ne _ _ (by omega)⟩) <;> exact ne _ _ (by omega)
      · rw [hc4]
        have s : ∀ x : Int, SignV (sgAt (x % 39)) := fun x => ⟨_, (sig_get (b x).1 (b x).2).2, rfl⟩
        intro v hv
        simp only [List.mem_cons, List.not_mem_nil, or_false] at hv
        rcases hv with rfl | rfl | rfl | rfl <;> exact s _

/-! ### lists of signs -/
theorem signs_list : ∀ {ws : List V}, (∀ v ∈ ws, SignV v) → ∃ cs : List Nat, ws = (cs.map fun c => S [c]).map V.str ∧ ∀ c ∈ cs, c ∈ SIG
  | [], _ => ⟨[], rfl, fun _ h => nomatch h⟩
  | v :: r, h => by
    obtain ⟨c, hc, rfl⟩ := h v List.mem_cons_self
    obtain ⟨cs, rfl, hs⟩ := signs_list (ws := r) fun u hu => h u (List.mem_cons_of_mem _ hu)
    exact ⟨c :: cs, rfl, fun d hd => (List.mem_cons.mp hd).elim (fun e => e ▸ hc) (hs d)⟩
theorem q_next {u : TS} {D : Ends} {σ : L2.St} {H : Hp} (h : u D σ H) : tSeq tNext u D σ H := h

def spPart (K : PySem.W.Frag) : Sp := fun vs H Q _ => ∃ c p ws, vs = [.int c, .ref p] ∧ SqL K H p ws ∧ ws.length = 4 ∧ (∀ v ∈ ws, SignV v) ∧ ∀ v f H', PF.Ok f → PF.Low f → Same H H' → Dp K H' v f.d → Q v H'
theorem at4 {ws : List V} (hl : ws.length = 4) (hw : ∀ v ∈ ws, SignV v) (i : Int) : ∃ c ∈ SIG, atI ws (i % 4) = some (.str (S [c])) := by
  have h0 : 0 ≤ i % 4 := Int.emod_nonneg _ (by decide)
  have h1 : i % 4 < 4 := Int.emod_lt_of_pos _ (by decide)
  obtain ⟨j, hj⟩ : ∃ j : Nat, i % 4 = (j : Int) := ⟨(i % 4).toNat, by omega⟩
  have hj2 : j < ws.length := by omega
  obtain ⟨c, hc, e⟩ := hw ws[j] (List.getElem_mem hj2)
  refine ⟨c, hc, ?_⟩
  rw [hj]
  refine atI_nat ?_
  rw [List.getElem?_eq_getElem hj2, e]
theorem at5 {a b c d e : V} {i : Int} {Q : V → Prop} (h0 : 0 ≤ i) (h1 : i < 5) (h : Q a ∧ Q b ∧ Q c ∧ Q d ∧ Q e) : ∃ v, atI [a, b, c, d, e] i = some v ∧ Q v := by
  have : i = 0 ∨ i = 1 ∨ i = 2 ∨ i = 3 ∨ i = 4 := by omega
  rcases this with rfl | rfl | rfl | rfl | rfl
  · exact ⟨a, rfl, h.1⟩
  · exact ⟨b, rfl, h.2.1⟩
  · exact ⟨c, rfl, h.2.2.1⟩
  · exact ⟨d, rfl, h.2.2.2.1⟩
  · exact ⟨e, rfl, h.2.2.2.2⟩
theorem ok__law_part (T : Txt K mg) : OkD P w K mg base 1 (fA K "_law_part") ["_law_cell_here", "_law_signs_here"] [] (spPart K) := by
  refine okD T.F__law_part sc__law_part (fun _ _ _ _ _ _ us hl => match us, hl with | [_, _], _ => rfl) ?_ ?_
  · rintro vs H Q E ⟨c, p, ws, rfl, _⟩
    rfl
  · rintro cdv A outer s H vs Q E hr ⟨c, p, ws, rfl, hs, hl, hw, q⟩
    refine ⟨_, (pss_cons (ps_set (i := 2) sc__law_part.nd rfl (Or.inl rfl) (pe_op op_mod (pv 0) pe_int))
  (pss_cons (ps_set (i := 3) sc__law_part.nd rfl (Or.inl rfl) (pe_ix (o_ix (K := K)) (pv 1) (pe_op op_mod (pe_op op_fdivW (pv 0) pe_int) pe_int) (fun _ _ => rfl)))
  (pss_cons (ps_set (i := 4) sc__law_part.nd rfl (Or.inl rfl) (pe_mid (pe_bmK (K := K) PySem.F.plainAttrs_str PySem.F.slot_str_join PySem.F.type_str_join (mo_join (K := K)) pe_str (pa_cons (pe_callB (o_sorted (K := K) (w := w) rfl) (by rfl) T.fr_sorted (by decide +kernel) (pa_cons (pe_callTy (o_set (K := K) (w := w) rfl) (by rfl) T.fr_set (by decide +kernel) (pa_cons (pe_lst (pa_cons (pv 3) (pa_cons (pe_ix (o_ix (K := K)) (pv 1) (pe_op op_mod (pe_op op_fdivW (pv 0) pe_int) pe_int) (fun _ _ => rfl)) pa_nil))) pa_nil)) pa_nil)) pa_nil))))
  (pss_cons (ps_if (pt_cmpR o_lt (pv 2) pe_int (nomark _)) (pss_one (ps_ret (pe_tup (pa_cons pe_str (pa_cons (pv 3) pa_nil))))) pss_nil)
  (pss_one (ps_ret (pe_ix (o_ix (K := K)) (pe_lst (pa_cons (pe_tup (pa_cons pe_str pa_nil)) (pa_cons (pe_tup (pa_cons pe_str (pa_cons (pv 4) (pa_cons pe_bl pa_nil)))) (pa_cons (pe_tup (pa_cons pe_str (pa_cons (pv 4) (pa_cons pe_bl pa_nil)))) (pa_cons (pe_tup (pa_cons pe_str pa_nil)) (pa_cons (pe_tup (pa_cons pe_str pa_nil)) pa_nil)))))) (pe_op op_sub (pv 2) pe_int) (fun _ _ => rfl)))))))), ?_⟩
    obtain ⟨c1, hc1, e1⟩ := at4 hl hw (c / 11)
    obtain ⟨c2, hc2, e2⟩ := at4 hl hw (c / 44)
    walk_at "rd"
    refine ⟨⟨by decide, by decide⟩, ws, .inl hs, _, e1, ?_⟩
    refine mid_of (fun v H' => ∃ l, (SigSet l ∧ l.length ≤ 2) ∧ v = .str (S l) ∧ Same H H') ?_ ?_
    · walk_at "rd"
      refine ⟨⟨by decide, by decide⟩, ws, .inl hs, _, e2, fun p1 hp1 => ⟨[S [c1], S [c2]], .inl (.inl upd_same), (by show (2 : Nat) < 1000; decide), fun p2 zs hp2 nd hz => .inl ⟨zs, upd_same, ?_, fun ys p3 pm so hp3 => ?_⟩⟩⟩
      · have e : zs.length ≤ 2 := str_nd_len zs [S [c1], S [c2]] nd fun x hx => (hz x).mp hx
        exact Nat.lt_of_le_of_lt e (by decide)
      · obtain ⟨cs, rfl, up, mem⟩ := sorted_signs pm so nd fun z hz' => by
          rcases List.mem_cons.mp ((hz z).mp hz') with rfl | h
          · exact ⟨_, rfl⟩
          · exact ⟨c2, List.mem_singleton.mp h⟩
        have sg : ∀ c ∈ cs, c ∈ SIG := fun c hc => by
          rcases List.mem_cons.mp ((hz _).mp ((mem c).mp hc)) with h | h
          · rw [S1_inj h]; exact hc1
          · rw [S1_inj (List.mem_singleton.mp h)]; exact hc2
        have ne : cs ≠ [] := fun e => by
          have h := (mem c1).mpr ((hz _).mpr List.mem_cons_self)
          rw [e] at h
          cases h
        have ok : SigSet cs := ⟨ne, up, sg⟩
        have l2 : zs.length ≤ 2 := str_nd_len zs [S [c1], S [c2]] nd fun x hx => (hz x).mp hx
        have l3 : cs.length ≤ 2 := by
          have e := pm.length_eq
          rw [List.length_map] at e
          omega
        refine ⟨_, .inl (.inl (.inl upd_same)), ?_, cs, ⟨ok, by omega⟩, join_chars cs, by walk_at "sm"⟩
        have e := len_chars cs
        have e2 := ok.len
        rw [show (Str.ofString "") = S [] from rfl, e]
        omega
    · rintro _ H1 ⟨l, hl, rfl, sm⟩
      refine ite2 (fun h6 => ?_) fun h6 => ?_
      · intro p1 hp1
        exact q _ (.one c1) _ hc1 trivial (by walk_at "sm") (.tup (.inl (.inl upd_same)) (.cons (.str _) (.cons (.str _) .nil)))
      · intro p1 hp1 p2 hp2 p3 hp3 p4 hp4 p5 hp5 p6 hp6
        have h0 : 0 ≤ c % 11 := Int.emod_nonneg _ (by decide)
        have h1 : c % 11 < 11 := Int.emod_lt_of_pos _ (by decide)
        refine ⟨_, .inl (.inl (.inl upd_same)), at5 (by omega) (by omega) ?_⟩
        refine ⟨q _ .any _ trivial trivial (by walk_at "sm") ?_, q _ (.among l false) _ ⟨hl.1, by omega⟩ trivial (by walk_at "sm") ?_, q _ (.among l true) _ ⟨hl.1, by omega⟩ (Nat.le_trans hl.2 (by decide)) (by walk_at "sm") ?_, q _ .stars _ trivial trivial (by walk_at "sm") ?_, q _ .stars _ trivial trivial (by walk_at "sm") ?_⟩
        · exact dp_mono (by walk_at "sm") _ _ (.tup (.inl (.inl (upd_same (H := H1) (a := p1)))) (.cons (.str _) .nil))
        · exact dp_mono (by walk_at "sm") _ _ (.tup (.inl (.inl (upd_same (a := p2)))) (.cons (.str _) (.cons (.str _) (.cons (.bl _) .nil))))
        · exact dp_mono (by walk_at "sm") _ _ (.tup (.inl (.inl (upd_same (a := p3)))) (.cons (.str _) (.cons (.str _) (.cons (.bl _) .nil))))
        · exact dp_mono (by walk_at "sm") _ _ (.tup (.inl (.inl (upd_same (a := p4)))) (.cons (.str _) .nil))
        · exact dp_mono (by walk_at "sm") _ _ (.tup (.inl (.inl (upd_same (a := p5)))) (.cons (.str _) .nil))

/-! ### the parts -/
/-- all but p stays -/
def But (p : Addr) (H H' : Hp) : Prop := ∀ a o, a ≠ p → H a = some o → H' a = some o
theorem but_same {H H' : Hp} {p dx : Addr} {o u : HO} (h0 : H p = none) (h1 : H dx = none) (b : But p (upd (upd H dx u) p o) H') : Same H H' := fun a v e => by
  have n0 : a ≠ p := ne_of_none e h0
  refine b a v n0 ?_
  rw [upd_ne n0, upd_ne (ne_of_none e h1)]
  exact e
theorem But.upd {H : Hp} {p : Addr} {o : HO} : But p H (upd H p o) := fun a u n e => by rw [upd_ne n]; exact e
theorem But.same {H H1 H2 : Hp} {p : Addr} (s : Same H H1) (b : But p H1 H2) : But p H H2 := fun a o n e => b a o n (s a o e)
theorem OkD.mono {k j : Nat} {f : Addr} {ps : List Str} {dvs : List V} {sp : Sp} (h : OkD P w K mg base k f ps dvs sp) (e : k ≤ j) : OkD P w K mg base j f ps dvs sp := by
  obtain ⟨fd, ds, F, r⟩ := h
  exact ⟨fd, ds, F.mono e, r⟩
def spMany (K : PySem.W.Frag) (f : PF) : Sp := fun vs H Q _ => ∃ v, vs = [v] ∧ PartV K f v H ∧ Q (.bl f.many) H
def spToldP (K : PySem.W.Frag) (f : PF) : Sp := fun vs H Q _ => ∃ v, vs = [v] ∧ PartV K f v H ∧ ∀ u H', Same H H' → Dp K H' u f.d → Q u H'
theorem ok_Any_many (T : Txt K mg) : OkD P w K mg base 1 (mA K "Any" "many") ["self"] [] (spMany K .any) := by
  refine okD T.F_Any_many sc_Part_many (fun _ _ _ _ _ _ us hl => match us, hl with | [_], _ => rfl) ?_ ?_
  · rintro vs H Q E ⟨v, rfl, _⟩
    rfl
  · rintro cdv A outer s H vs Q E hr ⟨v, rfl, h, q⟩
    refine ⟨_, (pss_one (ps_ret pe_bl)), ?_⟩
    walk_at "rd"
    exact q
theorem ok_One_many {d : Nat} (T : Txt K mg) : OkD P w K mg base 1 (mA K "One" "many") ["self"] [] (spMany K (.one d)) := by
  refine okD T.F_One_many sc_Part_many (fun _ _ _ _ _ _ us hl => match us, hl with | [_], _ => rfl) ?_ ?_
  · rintro vs H Q E ⟨v, rfl, _⟩
    rfl
  · rintro cdv A outer s H vs Q E hr ⟨v, rfl, h, q⟩
    refine ⟨_, (pss_one (ps_ret pe_bl)), ?_⟩
    walk_at "rd"
    exact q
theorem ok_Among_many {l : List Nat} {o : Bool} (T : Txt K mg) : OkD P w K mg base 1 (mA K "Among" "many") ["self"] [] (spMany K (.among l o)) := by
  refine okD T.F_Among_many sc_Part_many (fun _ _ _ _ _ _ us hl => match us, hl with | [_], _ => rfl) ?_ ?_
  · rintro vs H Q E ⟨v, rfl, _⟩
    rfl
  · rintro cdv A outer s H vs Q E hr ⟨v, rfl, h, q⟩
    refine ⟨_, (pss_one (ps_ret pe_bl)), ?_⟩
    walk_at "rd"
    exact q
theorem ok_Stars_many (T : Txt K mg) : OkD P w K mg base 1 (mA K "Stars" "many") ["self"] [] (spMany K .stars) := by
  refine okD T.F_Stars_many sc_Stars_many (fun _ _ _ _ _ _ us hl => match us, hl with | [_], _ => rfl) ?_ ?_
  · rintro vs H Q E ⟨v, rfl, _⟩
    rfl
  · rintro cdv A outer s H vs Q E hr ⟨v, rfl, h, q⟩
    refine ⟨_, (pss_one (ps_ret pe_bl)), ?_⟩
    walk_at "rd"
    exact q
section
variable {X : Cx}
theorem md_many (T : Txt K mg) (h1 : X.prog = P := by rfl) (h2 : X.w = w := by rfl) (h3 : X.K = K := by rfl) (h4 : X.mg = mg := by rfl) (h5 : X.base = base := by rfl) : MetD X 1 "many" (PartV K) (spMany K) := by
  subst h1 h2 h3 h4 h5
  rintro i x H ⟨p, dx, rfl, hp⟩
  cases i with
  | one c => exact ⟨p, _, dx, _, _, _, rfl, hp, T.c_One, T.m_One_many, rfl, (ok_One_many T).mono (by decide)⟩
  | any => exact ⟨p, _, dx, _, _, _, rfl, hp, T.c_Any, T.m_Any_many, rfl, (ok_Any_many T).mono (by decide)⟩
  | among l o => exact ⟨p, _, dx, _, _, _, rfl, hp, T.c_Among, T.m_Among_many, rfl, (ok_Among_many T).mono (by decide)⟩
  | stars => exact ⟨p, _, dx, _, _, _, rfl, hp, T.c_Stars, T.m_Stars_many, rfl, (ok_Stars_many T).mono (by decide)⟩
end
/-! ### what parts tell -/
theorem ok_Any_told (T : Txt K mg) : OkD P w K mg base 1 (mA K "Any" "told") ["self"] [] (spToldP K .any) := by
  refine okD T.F_Any_told sc_Part_told (fun _ _ _ _ _ _ us hl => match us, hl with | [_], _ => rfl) ?_ ?_
  · rintro vs H Q E ⟨v, rfl, _⟩
    rfl
  · rintro cdv A outer s H vs Q E hr ⟨v, rfl, h, q⟩
    refine ⟨_, (pss_one (ps_ret (pe_tup (pa_cons pe_str pa_nil)))), ?_⟩
    walk_at "rd"
    intro p hp
    exact q _ _ (same_new hp) (.tup (.inl (.inl upd_same)) (.cons (.str _) .nil))
theorem ok_Stars_told (T : Txt K mg) : OkD P w K mg base 1 (mA K "Stars" "told") ["self"] [] (spToldP K .stars) := by
  refine okD T.F_Stars_told sc_Stars_told (fun _ _ _ _ _ _ us hl => match us, hl with | [_], _ => rfl) ?_ ?_
  · rintro vs H Q E ⟨v, rfl, _⟩
    rfl
  · rintro cdv A outer s H vs Q E hr ⟨v, rfl, h, q⟩
    refine ⟨_, (pss_one (ps_ret (pe_tup (pa_cons pe_str pa_nil)))), ?_⟩
    walk_at "rd"
    intro p hp
    exact q _ _ (same_new hp) (.tup (.inl (.inl upd_same)) (.cons (.str _) .nil))
theorem ok_One_told {d : Nat} (T : Txt K mg) : OkD P w K mg base 1 (mA K "One" "told") ["self"] [] (spToldP K (.one d)) := by
  refine okD T.F_One_told sc_One_told (fun _ _ _ _ _ _ us hl => match us, hl with | [_], _ => rfl) ?_ ?_
  · rintro vs H Q E ⟨v, rfl, _⟩
    rfl
  · rintro cdv A outer s H vs Q E hr ⟨v, rfl, ⟨p, dx, rfl, hp⟩, q⟩
    refine ⟨_, (pss_one (ps_ret (pe_tup (pa_cons pe_str (pa_cons (pe_fldK (K := K) (pv 0) rfl) pa_nil))))), ?_⟩
    have tobj := T.obj
    walk_at "rdh"
    intro r hr
    exact q _ _ (same_new hr) (.tup (.inl (.inl upd_same)) (.cons (.str _) (.cons (.str _) .nil)))
theorem ok_Among_told {l : List Nat} {o : Bool} (T : Txt K mg) : OkD P w K mg base 1 (mA K "Among" "told") ["self"] [] (spToldP K (.among l o)) := by
  refine okD T.F_Among_told sc_Among_told (fun _ _ _ _ _ _ us hl => match us, hl with | [_], _ => rfl) ?_ ?_
  · rintro vs H Q E ⟨v, rfl, _⟩
    rfl
  · rintro cdv A outer s H vs Q E hr ⟨v, rfl, ⟨p, dx, rfl, hp⟩, q⟩
    refine ⟨_, (pss_one (ps_ret (pe_tup (pa_cons pe_str (pa_cons (pe_fldK (K := K) (pv 0) rfl) (pa_cons (pe_fldK (K := K) (pv 0) rfl) pa_nil)))))), ?_⟩
    have tobj := T.obj
    walk_at "rdh"
    intro r hr
    exact q _ _ (same_new hr) (.tup (.inl (.inl upd_same)) (.cons (.str _) (.cons (.str _) (.cons (.bl _) .nil))))
section
variable {X : Cx}
theorem md_toldP (T : Txt K mg) (h1 : X.prog = P := by rfl) (h2 : X.w = w := by rfl) (h3 : X.K = K := by rfl) (h4 : X.mg = mg := by rfl) (h5 : X.base = base := by rfl) : MetD X 1 "told" (PartV K) (spToldP K) := by
  subst h1 h2 h3 h4 h5
  rintro i x H ⟨p, dx, rfl, hp⟩
  cases i with
  | one c => exact ⟨p, _, dx, _, _, _, rfl, hp, T.c_One, T.m_One_told, rfl, (ok_One_told T).mono (by decide)⟩
  | any => exact ⟨p, _, dx, _, _, _, rfl, hp, T.c_Any, T.m_Any_told, rfl, (ok_Any_told T).mono (by decide)⟩
  | among l o => exact ⟨p, _, dx, _, _, _, rfl, hp, T.c_Among, T.m_Among_told, rfl, (ok_Among_told T).mono (by decide)⟩
  | stars => exact ⟨p, _, dx, _, _, _, rfl, hp, T.c_Stars, T.m_Stars_told, rfl, (ok_Stars_told T).mono (by decide)⟩
end
/-! ### the parts made -/
def spOne (K : PySem.W.Frag) : Sp := fun vs H Q E => ∃ p dx z, vs = [.ref p, .str z] ∧ H p = some (.ins (fA K "One") dx []) ∧ z.length ≤ 1000 ∧
  (∀ c H', c ∈ SIG → z = S [c] → H' p = some (PartO K dx (.one c)) → But p H H' → Q .non H') ∧ ((¬ ∃ c ∈ SIG, z = S [c]) → E (.ref (fA K "NoPart")) none H)
theorem ok_One___init__ (T : Txt K mg) : OkD P w K mg base 2 (mA K "One" "__init__") ["self", "sign"] [] (spOne K) := by
  refine okD T.F_One___init__ sc_One___init__ (fun _ _ _ _ _ _ us hl => match us, hl with | [_, _], _ => rfl) ?_ ?_
  · rintro vs H Q E ⟨p, dx, z, rfl, _⟩
    rfl
  · rintro cdv A outer s H vs Q E hr ⟨p, dx, z, rfl, hp, hz, q1, q2⟩
    refine ⟨_, (pss_cons (ps_if (pt_not (pt_tru (K := K) (pe_cal (ok_is_sign T) (hr.mono (by decide)) rfl T.g_is_sign (pasE (takes_of rfl rfl rfl rfl) (fun _ _ _ _ h => h)) (pa_cons (pv 1) pa_nil)) (by intro _; rfl))) (pss_one (ps_raise rfl (takes_of rfl rfl rfl rfl) (pmk_own PySem.F.excBase_ValueError T.x_NoPart.1 T.g_NoPart T.x_NoPart.2.1 (raises_own T.x_NoPart.2.2.1 T.x_NoPart.2.2.2) rfl))) pss_nil)
  (pss_one (ps_fld (pv 0) (pv 1) rfl))), ?_⟩
    have tobj := T.obj
    walk_at "rdh"
    refine ⟨z, rfl, by rw [sizeLine_eq]; omega, ?_⟩
    walk_at "rdh"
    refine ite2 (fun h => ?_) fun h => ?_
    · exact q2 h
    · obtain ⟨c, hc, rfl⟩ := Classical.not_not.mp h
      exact q1 c _ hc rfl upd_same But.upd
def spAmong (K : PySem.W.Frag) : Sp := fun vs H Q E => ∃ p dx z o, vs = [.ref p, .str z, .bl o] ∧ H p = some (.ins (fA K "Among") dx []) ∧ z.length < 1000 ∧
  (∀ l H', SigSet l → z.cps.toList.Perm l → H' p = some (PartO K dx (.among l o)) → But p H H' → Q .non H') ∧ ((¬ ∃ l, SigSet l ∧ z.cps.toList.Perm l) → ∀ H', Same H H' → E (.ref (fA K "NoPart")) none H')
theorem bd_Among___init__ (T : Txt K mg) : BodyQ P w K mg base 1 (mA K "Among" "__init__") "Among.__init__" (defBody TX.s_Among___init__) (defScope TX.s_Among___init__) N_Among___init__ (spAmong K) := by
  rintro cdv A outer s H vs Q E hr ⟨p, dx, z, o, rfl, hp, hz, q1, q2⟩
  refine ⟨_, (pss_cons (ps_if (pt_mid (PW.pt (pw_or (pt_cmpR (o_eq (K := K) (hu64 hr)) (pv 1) pe_str (nomark _)) (pw_or (pt_cmpR o_lt (pe_callB (o_lenW (K := K) (w := w)) (by rfl) T.fr_len boot_len (pa_cons (pe_callTy (o_set (K := K) (w := w) rfl) (by rfl) T.fr_set (by decide +kernel) (pa_cons (pv 1) pa_nil)) pa_nil)) (pe_callB (o_lenW (K := K) (w := w)) (by rfl) T.fr_len boot_len (pa_cons (pv 1) pa_nil)) (nomark _)) (pw_or1 (pt_not (pt_tru (K := K) (pe_callB (o_all (K := K) rfl) (by rfl) T.fr_all (by decide +kernel) (pa_cons (pe_lc (own := [("sign", 3)]) (g := (gName 3)) (tt := tYes) rfl sc_Among___init__.nd (pi_mid (o_it (K := K) rfl (pv 1))) (blkOk_by (N := N_Among___init__) (sc := defScope TX.s_Among___init__) (by decide +kernel)) (fun _ _ _ _ _ => (pg_name (i := 3) sc_Among___init__.nd rfl (Or.inl rfl))) (fun _ _ _ _ _ => pts_nil) (fun _ _ _ _ _ => (pe_mid (pe_cal (ok_is_sign T) (hr.mono (by decide)) rfl T.g_is_sign pasN (pa_cons (pv 3) pa_nil))))) pa_nil)) (by intro _; rfl)))))))) (pss_one (ps_raise rfl (takes_of rfl rfl rfl rfl) (pmk_own PySem.F.excBase_ValueError T.x_NoPart.1 T.g_NoPart T.x_NoPart.2.1 (raises_own T.x_NoPart.2.2.1 T.x_NoPart.2.2.2) rfl))) pss_nil)
  (pss_cons (ps_fld (pv 0) (pe_mid (pe_bmK (K := K) PySem.F.plainAttrs_str PySem.F.slot_str_join PySem.F.type_str_join (mo_join (K := K)) pe_str (pa_cons (pe_callB (o_sorted (K := K) (w := w) rfl) (by rfl) T.fr_sorted (by decide +kernel) (pa_cons (pv 1) pa_nil)) pa_nil))) rfl)
  (pss_one (ps_fld (pv 0) (pv 2) rfl)))), ?_⟩
  have tobj := T.obj
  refine q_if (fun b H1 => Same H H1 ∧ (b = true ↔ ¬ Good z)) ?_ (fun H1 ⟨s1, e1⟩ => ?_) fun H1 ⟨s1, e1⟩ => ?_
  · walk_at "rd"
    refine ite2 (fun h => ?_) fun h => ?_
    · exact ⟨fun _ g => (good_iff.mp g).1 h, fun _ => trivial⟩
    have hch : (chars z).length = z.length := by unfold chars; rw [List.length_map, Array.length_toList]; rfl
    refine ⟨by rw [hch]; exact hz, fun a l ha nd hm => .inl ⟨l, upd_same, by omega, ?_⟩⟩
    have sa := same_new (o := SetS w a l) ha
    have el : ((l.length : Int) < (z.length : Int)) = ¬ (chars z).Nodup := by
      rw [← set_len nd hm, hch]
      exact propext Int.ofNat_lt
    refine ite2 (fun hn => ?_) fun hn => ?_
    · exact ⟨sa, fun _ g => (el ▸ hn) (good_iff.mp g).2.1, fun _ => trivial⟩
    rw [el] at hn
    refine lc_text (z := z) (H0 := upd H a (SetS w a l)) (fun c => .bl (decide (c ∈ SIG))) ?_ (by omega) (fun _ => rfl) ?_ ?_
    · walk_at "rd"
    · intro c H' hc s2
      walk_at "rd"
      refine ⟨⟨#[c]⟩, rfl, (by rw [sizeLine_eq]; show 1 ≤ 16777216; decide), ?_⟩
      walk_at "rd"
      refine decide_eq_decide.mpr ⟨fun ⟨d, hd, e⟩ => ?_, fun hd => ⟨c, hd, rfl⟩⟩
      rw [S1_inj e]
      exact hd
    · intro p' H' hp' s2 hH'
      walk_at "rd"
      refine ⟨z.cps.toList.map fun c => decide (c ∈ SIG), .inl (.inl (by rw [hH', List.map_map]; rfl)), ?_⟩
      refine ⟨sa.trans s2, ?_⟩
      have e : (z.cps.toList.map fun c => decide (c ∈ SIG)).all id = decide (∀ c ∈ z.cps.toList, c ∈ SIG) := by
        rw [List.all_map]
        refine Bool.eq_iff_iff.mpr ?_
        rw [List.all_eq_true, decide_eq_true_eq]
        exact ⟨fun h c hc => of_decide_eq_true (h c hc), fun h c hc => decide_eq_true (h c hc)⟩
      rw [e]
      rw [decide_eq_false_iff_not]
      exact ⟨fun hs g => hs (good_iff.mp g).2.2, fun hg hs => hg (good_iff.mpr ⟨h, Classical.not_not.mp hn, hs⟩)⟩
  · walk_at "rd"
    exact q2 (e1.mp rfl) _ s1
  · have g : Good z := Classical.not_not.mp fun n => nomatch e1.mpr n
    obtain ⟨g1, g2, g3⟩ := good_iff.mp g
    obtain ⟨l, ok, pm⟩ := g
    have hp1 := s1 _ _ hp
    have c1 := T.c_Among
    walk_at "rd"
    refine mid_of (fun v H' => v = .str (S l) ∧ Same H1 H') ?_ ?_
    · walk_at "rd"
      have el := pm.length_eq
      have e39 := ok.len
      have hch : (chars z).length = l.length := by unfold chars; rw [List.length_map, el]
      refine ⟨by omega, fun ys p' p1 so hp' => ?_⟩
      obtain ⟨cs, rfl, up, mem⟩ := sorted_signs p1 so g2 fun x hx => by
        obtain ⟨c, _, rfl⟩ := List.mem_map.mp hx
        exact ⟨c, rfl⟩
      have ec : cs = l := up_eq up ok.up fun c => by rw [mem, ← pm.mem_iff]; exact map1_mem
      subst ec
      refine ⟨_, .inl (.inl (.inl upd_same)), ?_, join_chars cs, same_new hp'⟩
      have e := len_chars cs
      rw [show (Str.ofString "") = S [] from rfl, e]
      omega
    · rintro _ H2 ⟨rfl, s2⟩
      have hp2 := s2 _ _ hp1
      walk_at "rdh"
      exact q1 l _ ok pm upd_same (.same (s1.trans s2) .upd)
theorem ok_Among___init___1 (T : Txt K mg) : OkD P w K mg base 2 (mA K "Among" "__init__") ["self", "signs", "outside"] [V.bl false] (spAmong K) := okDd T.F_Among___init__ sc_Among___init__ 2 0 (fun q => nomatch q) rfl (fun _ _ _ _ _ _ _ us its hl hi => match us, hl, its, hi with | [_, _], _, [_], _ => ⟨_, rfl, rfl⟩) (by rintro vs H Q E ⟨p, dx, z, o, rfl, _⟩; rfl) (bd_Among___init__ T)
theorem ok_Among___init__ (T : Txt K mg) : OkD P w K mg base 2 (mA K "Among" "__init__") ["self", "signs", "outside"] [] (spAmong K) := okDd T.F_Among___init__ sc_Among___init__ 3 1 (fun q => nomatch q) rfl (fun _ _ _ _ _ _ _ us its hl hi => match us, hl, its, hi with | [_, _, _], _, [_], _ => ⟨_, rfl, rfl⟩) (by rintro vs H Q E ⟨p, dx, z, o, rfl, _⟩; rfl) (bd_Among___init__ T)
theorem okk_Among___init___outside (T : Txt K mg) : OkK P w K mg base 2 (mA K "Among" "__init__") ["self", "signs", "outside"] 2 ["outside"] (spAmong K) := okK T.F_Among___init__ sc_Among___init__ 2 ["outside"] (fun q => nomatch q) (fun _ _ _ _ _ _ _ us its ws hl hi hw => match us, hl, its, hi, ws, hw with | [_, _], _, [_], _, [_], _ => ⟨_, rfl, rfl⟩) (by rintro vs H Q E ⟨p, dx, z, o, rfl, _⟩; rfl) (bd_Among___init__ T)

def PF.vs : PF → List V
  | .one c => [.str "one", .str (S [c])]
  | .any => [.str "any"]
  | .among l o => [.str "among", .str (S l), .bl o]
  | .stars => [.str "stars"]
theorem PF.inv {f : PF} {v : V} {H : Hp} (h : Dp K H v f.d) : ∃ a, v = .ref a ∧ SqT K H a f.vs := by
  cases f with
  | one c =>
    cases h with
    | tup hs ha => cases ha with | cons h1 ha => cases ha with | cons h2 ha => cases ha; cases h1; cases h2; exact ⟨_, rfl, hs⟩
  | any =>
    cases h with
    | tup hs ha => cases ha with | cons h1 ha => cases ha; cases h1; exact ⟨_, rfl, hs⟩
  | among l o =>
    cases h with
    | tup hs ha => cases ha with | cons h1 ha => cases ha with | cons h2 ha => cases ha with | cons h3 ha => cases ha; cases h1; cases h2; cases h3; exact ⟨_, rfl, hs⟩
  | stars =>
    cases h with
    | tup hs ha => cases ha with | cons h1 ha => cases ha; cases h1; exact ⟨_, rfl, hs⟩
def spMade (K : PySem.W.Frag) : Sp := fun vs H Q _ => ∃ v f, vs = [v] ∧ Dp K H v f.d ∧ PF.Ok f ∧ ∀ u H', Same H H' → PartV K f u H' → Q u H'
theorem ok__law_part_made (T : Txt K mg) : OkD P w K mg base 4 (fA K "_law_part_made") ["_law_form_here"] [] (spMade K) := by
  refine okD T.F__law_part_made sc__law_part_made (fun _ _ _ _ _ _ us hl => match us, hl with | [_], _ => rfl) ?_ ?_
  · rintro vs H Q E ⟨v, f, rfl, _⟩
    rfl
  · rintro cdv A outer s H vs Q E hr ⟨v, f, rfl, hd, ok, q⟩
    refine ⟨_, (pss_cons (ps_if (pt_mid (pt_cmpR (o_eq (K := K) (hu64 hr)) (pe_ix (o_ix (K := K)) (pv 0) pe_int (fun _ _ => rfl)) pe_str (nomark _))) (pss_one (ps_ret (pe_mak T.mk_One (ok_One___init__ T) (hr.mono (by decide)) rfl T.g_One (pasE (takes_of rfl rfl rfl rfl) (fun _ _ _ _ h => h)) (pa_cons (pe_ix (o_ix (K := K)) (pv 0) pe_int (fun _ _ => rfl)) pa_nil)))) pss_nil)
  (pss_cons (ps_if (pt_mid (pt_cmpR (o_eq (K := K) (hu64 hr)) (pe_ix (o_ix (K := K)) (pv 0) pe_int (fun _ _ => rfl)) pe_str (nomark _))) (pss_one (ps_ret (pe_makN T.mn_Any rfl T.g_Any))) pss_nil)
  (pss_cons (ps_if (pt_mid (pt_cmpR (o_eq (K := K) (hu64 hr)) (pe_ix (o_ix (K := K)) (pv 0) pe_int (fun _ _ => rfl)) pe_str (nomark _))) (pss_one (ps_ret (pe_mak T.mk_Among (ok_Among___init__ T) (hr.mono (by decide)) rfl T.g_Among (pasE (takes_of rfl rfl rfl rfl) (fun _ _ _ _ h => h)) (pa_cons (pe_ix (o_ix (K := K)) (pv 0) pe_int (fun _ _ => rfl)) (pa_cons (pe_ix (o_ix (K := K)) (pv 0) pe_int (fun _ _ => rfl)) pa_nil))))) pss_nil)
  (pss_one (ps_ret (pe_makN T.mn_Stars rfl T.g_Stars)))))), ?_⟩
    have tobj := T.obj
    obtain ⟨a, rfl, hs⟩ := PF.inv hd
    cases f with
    | one c =>
      refine q_if (fun b H1 => b = true ∧ H1 = H) (by walk_at "rdx") (fun H1 h => ?_) (fun H1 h => nomatch h.1)
      obtain ⟨_, rfl⟩ := h
      walk_at "rdx"
      intro x dx hx hdx hne
      refine ⟨x, dx, S [c], rfl, upd_same, (by show 1 ≤ 1000; decide), fun c' H' _ e h1 h2 => ⟨rfl, ?_⟩, fun n => absurd ⟨c, ok, rfl⟩ n⟩
      rw [← S1_inj e] at h1
      exact q _ _ (but_same hx hdx h2) ⟨x, dx, rfl, h1⟩
    | any =>
      refine q_if (fun b H1 => b = false ∧ H1 = H) (by walk_at "rdx") (fun H1 h => nomatch h.1) (fun H1 h => ?_)
      obtain ⟨_, rfl⟩ := h
      refine q_if (fun b H1' => b = true ∧ H1' = H1) (by walk_at "rdx") (fun H2 h => ?_) (fun H1 h => nomatch h.1)
      obtain ⟨_, rfl⟩ := h
      walk_at "rdx"
      intro x dx hx hdx hne
      exact q _ _ (but_same hx hdx (fun _ _ _ e => e)) ⟨x, dx, rfl, upd_same⟩
    | among l o =>
      refine q_if (fun b H1 => b = false ∧ H1 = H) (by walk_at "rdx") (fun H1 h => nomatch h.1) (fun H1 h => ?_)
      obtain ⟨_, rfl⟩ := h
      refine q_if (fun b H1' => b = false ∧ H1' = H1) (by walk_at "rdx") (fun H1 h => nomatch h.1) (fun H2 h => ?_)
      obtain ⟨_, rfl⟩ := h
      refine q_if (fun b H1' => b = true ∧ H1' = H2) (by walk_at "rdx") (fun H3 h => ?_) (fun H1 h => nomatch h.1)
      obtain ⟨_, rfl⟩ := h
      walk_at "rdx"
      intro x dx hx hdx hne
      refine ⟨x, dx, S l, o, rfl, upd_same, ?_, fun m H' ok' pm h1 h2 => ⟨rfl, ?_⟩, fun n => absurd ⟨l, ok.1, .refl _⟩ n⟩
      · rw [S_len]
        have := ok.1.len
        omega
      · have e : m = l := up_eq ok'.up ok.1.up fun c => pm.mem_iff.symm
        rw [e] at h1
        exact q _ _ (but_same hx hdx h2) ⟨x, dx, rfl, h1⟩
    | stars =>
      refine q_if (fun b H1 => b = false ∧ H1 = H) (by walk_at "rdx") (fun H1 h => nomatch h.1) (fun H1 h => ?_)
      obtain ⟨_, rfl⟩ := h
      refine q_if (fun b H1' => b = false ∧ H1' = H1) (by walk_at "rdx") (fun H1 h => nomatch h.1) (fun H2 h => ?_)
      obtain ⟨_, rfl⟩ := h
      refine q_if (fun b H1' => b = false ∧ H1' = H2) (by walk_at "rdx") (fun H1 h => nomatch h.1) (fun H3 h => ?_)
      obtain ⟨_, rfl⟩ := h
      walk_at "rdx"
      intro x dx hx hdx hne
      exact q _ _ (but_same hx hdx (fun _ _ _ e => e)) ⟨x, dx, rfl, upd_same⟩

/-! ### steps -/
theorem q_new {i : Nat} {u : TS} {D : Ends} {σ : L2.St} {H : Hp} (h : ∀ p, H p = none → u D (σ.set i (some (.ref p))) (upd H p (.lst []))) : tSeq (tAsg (tLst tNil) (gName i)) u D σ H := by
  unfold tSeq tAsg tLst tNil gName
  exact ⟨Nat.zero_le _, fun p hp => h p hp⟩
theorem l_app {i : Nat} {te : TE} {D : Ends} {σ : L2.St} {H : Hp} {F : Addr} {xs : List V} (e : σ[i]? = some (some (.ref F))) (hl : H F = some (.lst xs))
    (h : te σ H fun y H1 => ∃ ys, H1 F = some (.lst ys) ∧ ys.length < sizeLine ∧ D.nx σ (upd H1 F (.lst (ys ++ [y])))) : tDrop (tBM K "list" rAppend (tVar i) (tCons (tMid te) tNil)) D σ H := by
  unfold tDrop tBM tVar tCons tNil
  exact ⟨_, e, .inl ⟨rfl, xs, .inl (.inl hl)⟩, _, h, fun y H1 ⟨ys, h1, h2, h3⟩ => ⟨F, ys, y, rfl, rfl, h1, h2, h3⟩⟩
theorem l_appV {i j : Nat} {D : Ends} {σ : L2.St} {H : Hp} {F : Addr} {xs : List V} {y : V} (e : σ[i]? = some (some (.ref F))) (e2 : σ[j]? = some (some y)) (hl : H F = some (.lst xs)) (hn : xs.length < 16777216)
    (h : D.nx σ (upd H F (.lst (xs ++ [y])))) : tDrop (tBM K "list" rAppend (tVar i) (tCons (tMid (tVar j)) tNil)) D σ H := l_app e hl ⟨y, e2, xs, hl, by rw [sizeLine_eq]; exact hn, h⟩
theorem l_midG {i : Nat} {te : TE} {D : Ends} {σ : L2.St} {H : Hp} (C : V → Hp → Prop) (h : te σ H C) (k : ∀ v H1, C v H1 → D.nx (σ.set i (some v)) H1) : tAsg (tMid te) (gName i) D σ H := ⟨C, h, k⟩
theorem drop_le {α : Type} (k : Nat) (l : List α) : (l.drop k).length ≤ l.length := by rw [List.length_drop]; exact Nat.sub_le _ _
theorem atI_zero {α : Type} {x : α} {r : List α} : atI (x :: r) 0 = some x := by
  show atI (x :: r) ((0 : Nat) : Int) = some x
  exact atI_nat rfl
/-! ### segments -/
theorem PartsV.at' {fs : List PF} {us : List V} {H : Hp} {i : Nat} {x : V} (h : PartsV K fs us H) (e : us[i]? = some x) : ∃ f, fs[i]? = some f ∧ PartV K f x H := by
  have hl : i < us.length := (List.getElem?_eq_some_iff.mp e).1
  rw [h.1] at hl
  obtain ⟨u, e2, g⟩ := h.2 i fs[i] (List.getElem?_eq_getElem hl)
  rw [e2] at e
  cases e
  exact ⟨_, List.getElem?_eq_getElem hl, g⟩
theorem atI_last {xs : List V} {u : V} (h : xs.getLast? = some u) : atI xs (-1) = some u := by
  unfold atI ixN
  have hne : xs ≠ [] := fun e => by rw [e] at h; cases h
  have hl : 0 < xs.length := List.length_pos_iff.mpr hne
  rw [if_neg (by decide), if_pos (by omega)]
  have e : ((-1 : Int) + (xs.length : Int)).toNat = xs.length - 1 := by omega
  show xs[((-1 : Int) + (xs.length : Int)).toNat]? = some u
  rw [e, ← List.getLast?_eq_getElem?]
  exact h
theorem PartsV.last {fs : List PF} {us : List V} {H : Hp} {f : PF} (h : PartsV K fs us H) (e : fs.getLast? = some f) : ∃ u, us.getLast? = some u ∧ PartV K f u H := by
  rw [List.getLast?_eq_getElem?] at e
  obtain ⟨u, e2, g⟩ := h.2 _ f e
  refine ⟨u, ?_, g⟩
  rw [List.getLast?_eq_getElem?, h.1]
  exact e2
def addB (acc : List PF) (f : PF) : Bool := decide (acc = []) || (!f.many || match acc.getLast? with
  | some g => !g.many
  | none => true)
theorem normOne_eq (acc : List PF) (f : PF) : normOne acc f = if addB acc f = true then acc ++ [f] else acc := by
  unfold normOne addB
  rcases List.eq_nil_or_concat acc with rfl | ⟨r, g, rfl⟩
  · simp
  · rw [List.concat_eq_append]
    simp only [List.getLast?_append, List.getLast?_singleton, Option.some_or]
    cases f.many <;> cases h : g.many <;> simp [h]
def spSeg (K : PySem.W.Frag) : Sp := fun vs H Q E => ∃ p dx t us fs, vs = [.ref p, .ref t] ∧ (SqT K H t us ∨ SqL K H t us) ∧ PartsV K fs us H ∧ fs.length ≤ 1000 ∧ H p = some (.ins (fA K "Segment") dx []) ∧ (∀ u ∈ us, u ≠ .ref p) ∧
  (fs ≠ [] → ∀ H' tt us', But p H H' → H' p = some (.ins (fA K "Segment") dx [("parts", .ref tt)]) → H' tt = some (.tup us') → PartsV K (normP fs) us' H' → Q .non H') ∧ (fs = [] → E (.ref (fA K "NoPart")) none H)
theorem seq_walk {t : Addr} {us : List V} {H : Hp} (h : SqT K H t us ∨ SqL K H t us) : ∃ J0 G, (∀ (σ : L2.St) (H' : Hp) (i : Nat), σ[i]? = some (some (.ref t)) → Same H H' → iU K (tVar i) σ H' fun J H1 => J = J0 ∧ H1 = H') ∧ Walk J0 us.length G (YAt us) ∧ ∀ H', Same H H' → G H' := by
  rcases h with h | h
  · exact ⟨_, _, fun σ H' i e s => ⟨_, e, .inr ⟨⟨us, same_t s h⟩, rfl, rfl⟩⟩, walk_tup (K := K) (a := t) (xs := us), fun H' s => same_t s h⟩
  · exact ⟨_, _, fun σ H' i e s => ⟨_, e, .inl ⟨⟨us, same_l s h⟩, rfl, rfl⟩⟩, walk_list (K := K) (a := t) (xs := us), fun H' s => same_l s h⟩
theorem len_seq {t : Addr} {us : List V} {H : Hp} (h : SqT K H t us ∨ SqL K H t us) : LenV K (.ref t) H us.length := h.elim (fun h => .inr ⟨us, h, rfl⟩) fun h => .inl ⟨us, h, rfl⟩
theorem ok_Segment___init__ (T : Txt K mg) : OkD P w K mg base 2 (mA K "Segment" "__init__") ["self", "parts"] [] (spSeg K) := by
  refine okD T.F_Segment___init__ sc_Segment___init__ (fun _ _ _ _ _ _ us hl => match us, hl with | [_, _], _ => rfl) ?_ ?_
  · rintro vs H Q E ⟨p, dx, t, us, fs, rfl, _⟩
    rfl
  · rintro cdv A outer s H vs Q E hr ⟨p, dx, t, us, fs, rfl, ht, hp, hn, ho, hup, q1, q2⟩
    refine ⟨_, (pss_cons (ps_if (pt_mid (pt_cmpR (o_eq (K := K) (hu64 hr)) (pe_callB (o_lenW (K := K) (w := w)) (by rfl) T.fr_len boot_len (pa_cons (pv 1) pa_nil)) pe_int (nomark _))) (pss_one (ps_raise rfl (takes_of rfl rfl rfl rfl) (pmk_own PySem.F.excBase_ValueError T.x_NoPart.1 T.g_NoPart T.x_NoPart.2.1 (raises_own T.x_NoPart.2.2.1 T.x_NoPart.2.2.2) rfl))) pss_nil)
  (pss_cons (ps_set (i := 2) sc_Segment___init__.nd rfl (Or.inl rfl) (pe_lst pa_nil))
  (pss_cons (ps_mid (ps_for (passes_of rfl) rfl (pi_mid (o_it (K := K) rfl (pv 1))) (pg_name (i := 3) sc_Segment___init__.nd rfl (Or.inl rfl)) (pss_one (ps_if (pt_mid (PW.pt (pw_or (pt_cmpR (o_eq (K := K) (hu64 hr)) (pv 2) (pe_lst pa_nil) (nomark _)) (pw_or (pt_not (pt_tru (K := K) (pe_metI0 (md_many T) (pv 3) (hr.mono (by decide)) (pasE (takes_of rfl rfl rfl rfl) (fun _ _ _ _ h => h))) (by intro _; rfl))) (pw_or1 (pt_not (pt_tru (K := K) (pe_metI0 (md_many T) (pe_ix (o_ix (K := K)) (pv 2) (pe_un un_neg pe_int) (fun _ _ => rfl)) (hr.mono (by decide)) (pasE (takes_of rfl rfl rfl rfl) (fun _ _ _ _ h => h))) (by intro _; rfl)))))))) (pss_one (ps_expr (pe_bmK (K := K) PySem.F.plainAttrs_list PySem.F.slot_list_append PySem.F.type_list_append mt_append (pv 2) (pa_cons (pe_mid (pv 3)) pa_nil)))) pss_nil))))
  (pss_one (ps_fld (pv 0) (pe_mid (pe_callTy (o_tuple (K := K)) (by rfl) T.fr_tuple (by decide +kernel) (pa_cons (pv 2) pa_nil))) rfl))))), ?_⟩
    have tobj := T.obj
    refine q_if (fun b H' => H' = H ∧ b = decide (fs = [])) ?_ ?_ ?_
    · walk_at "rd"
      refine .inr ⟨_, len_seq ht, ?_⟩
      rw [hp.1]
      refine decide_eq_decide.mpr ⟨fun h => List.length_eq_zero_iff.mp (by omega), fun h => by rw [h]; rfl⟩
    · rintro _ ⟨rfl, hb⟩
      walk_at "rd"
      exact q2 (of_decide_eq_true hb.symm)
    rintro _ ⟨rfl, hb⟩
    have hne : fs ≠ [] := of_decide_eq_false hb.symm
    rename_i H
    refine q_new fun F hF => ?_
    have hFp : F ≠ p := fun e => by rw [e, ho] at hF; cases hF
    obtain ⟨J0, G, hw, wk, hG⟩ := seq_walk ht
    have sF : Same H (upd H F (.lst [])) := same_new hF
    refine q_stm (fun σ H' => ∃ acc x, σ = [some (.ref p), some (.ref t), some (.ref F), x] ∧ Same H H' ∧ H' F = some (.lst acc) ∧ PartsV K (normP fs) acc H' ∧ ∀ u ∈ acc, u ≠ .ref p) ?_ ?_
    · refine for_mid (J0 := J0) (H0 := upd H F (.lst [])) (hw _ _ _ rfl sF) wk
        (fun k σ H' => ∃ acc x, σ = [some (.ref p), some (.ref t), some (.ref F), x] ∧ Same H H' ∧ H' F = some (.lst acc) ∧ PartsV K ((fs.take k).foldl normOne []) acc H' ∧ ∀ u ∈ acc, u ≠ .ref p)
        ⟨[], none, rfl, sF, upd_same, .nil, fun _ h => nomatch h⟩ (fun k σ H' _ ⟨_, _, _, s, _⟩ => hG H' s) ?_ (fun σ H' h => ?_)
      · rintro k x σ H1 H1' hk ⟨acc, x0, rfl, sm, hl, pv, nup⟩ ⟨rfl, hx⟩
        obtain ⟨f, hf, hu⟩ := hp.at' hx
        have hu1 := hu.mono sm
        have len : acc.length ≤ fs.length := by
          rw [pv.1]
          have key : ∀ (l : List PF), (l.foldl normOne []).length ≤ l.length := fun l => by
            have g : ∀ (l a : List PF), (l.foldl normOne a).length ≤ a.length + l.length := by
              intro l
              induction l with
              | nil => exact fun a => Nat.le_refl _
              | cons y r ih =>
                intro a
                refine Nat.le_trans (ih (normOne a y)) ?_
                have e : (normOne a y).length ≤ a.length + 1 := by
                  unfold normOne
                  split
                  · rw [List.length_append]; exact Nat.le_refl _
                  · exact Nat.le_succ _
                rw [List.length_cons]
                omega
            have := g l []
            simpa using this
          have a := key (fs.take k)
          have b := List.length_take_le' k fs
          omega
        refine l_if (fun b H' => Same H1' H' ∧ b = addB ((fs.take k).foldl normOne []) f) ?_ ?_ ?_
        · walk_at "rd"
          intro n hn0
          have sn : Same H1' (upd H1' n (.lst [])) := same_new hn0
          have hln := sn _ _ hl
          have hun := hu1.mono sn
          have eacc : acc = [] ↔ (fs.take k).foldl normOne [] = [] := by
            rw [← List.length_eq_zero_iff, ← List.length_eq_zero_iff, pv.1]
          generalize ha0 : (fs.take k).foldl normOne [] = a0 at *
          refine eq_nil (.inl (.inl hln)) (.inl (.inl upd_same)) ⟨_, rfl, ite2 (fun h => ?_) fun h => ?_⟩
          · refine ⟨sn, ?_⟩
            unfold addB
            rw [decide_eq_true (eacc.mp (of_decide_eq_true h))]
            rfl
          have hna : a0 ≠ [] := fun e => h (decide_eq_true (eacc.mpr e))
          have e0 : addB a0 f = (!f.many || match a0.getLast? with
            | some g => !g.many
            | none => true) := by
            unfold addB
            rw [decide_eq_false hna]
            rfl
          refine ⟨f, hun, x, rfl, hun, _, rfl, ite2 (fun hm => ⟨sn, ?_⟩) fun hm => ?_⟩
          · rw [e0, hm]; rfl
          obtain ⟨g, hg⟩ : ∃ g, a0.getLast? = some g := by
            cases e : a0.getLast? with
            | none => exact absurd (List.getLast?_eq_none_iff.mp e) hna
            | some g => exact ⟨g, rfl⟩
          obtain ⟨u, h1, h2⟩ := pv.last hg
          have h2n := h2.mono sn
          refine ⟨acc, .inl (.inl (.inl hln)), u, atI_last h1, g, h2n, u, rfl, h2n, _, rfl, sn, ?_⟩
          have hm' : f.many = true := by simpa using hm
          rw [e0, hm', hg]
          rfl
        · rintro H2 ⟨s2, hb⟩
          have hl2 := s2 _ _ hl
          refine l_appV rfl rfl hl2 (by omega) ⟨acc ++ [x], _, rfl, same_mut (sm.trans s2) hF, upd_same, ?_, fun u hu => (List.mem_append.mp hu).elim (nup u) fun h => by rw [List.mem_singleton.mp h]; exact hup x (List.mem_of_getElem? hx)⟩
          rw [norm_take hf, normOne_eq, if_pos hb.symm]
          exact ((pv.mono s2).nl (nl_upd hl2)).snoc ((hu1.mono s2).nl (nl_upd hl2))
        · rintro H2 ⟨s2, hb⟩
          refine ⟨acc, _, rfl, sm.trans s2, s2 _ _ hl, ?_, nup⟩
          rw [norm_take hf, normOne_eq, if_neg (by rw [← hb]; exact Bool.false_ne_true)]
          exact pv.mono s2
      · obtain ⟨acc, x, e, sm, hl, pv, nup⟩ := h
        rw [List.take_of_length_le (by rw [hp.1]; exact Nat.le_refl _)] at pv
        exact ⟨acc, x, e, sm, hl, pv, nup⟩
    · rintro σ H1 ⟨acc, x, rfl, sm, hl, pv, nup⟩
      have ho1 := sm _ _ ho
      walk_at "rd"
      refine mid_of (fun v H' => ∃ tt, v = .ref tt ∧ H1 tt = none ∧ H' = upd H1 tt (.tup acc)) ?_ ?_
      · walk_at "rd"
        exact ⟨acc, .inl ⟨.inl (.inl hl), fun l h => ⟨h, rfl⟩⟩⟩
      · rintro _ _ ⟨tt, rfl, htt, rfl⟩
        have st : Same H1 (upd H1 tt (.tup acc)) := same_new htt
        have ho2 := st _ _ ho1
        have ntp : tt ≠ p := fun e => by rw [e, ho1] at htt; cases htt
        have nF : p ≠ F := fun e => hFp e.symm
        have sp : NL (upd H1 tt (.tup acc)) (upd (upd H1 tt (.tup acc)) p (.ins (fA K "Segment") dx [("parts", .ref tt)])) → True := fun _ => trivial
        walk_at "rdh"
        refine q1 hne _ tt acc (But.same (sm.trans st) .upd) upd_same ?_ ?_
        · rw [upd_ne ntp]; exact upd_same
        · have pvt := pv.mono st
          refine ⟨pvt.1, fun i f hf => ?_⟩
          obtain ⟨u, e1, pu, dx', e2, e3⟩ := pvt.2 i f hf
          refine ⟨u, e1, pu, dx', e2, ?_⟩
          rw [upd_ne fun e => nup u (List.mem_of_getElem? e1) (by rw [e2, e])]
          exact e3

/-! ### what steps tell -/
mutual
def tupB : PyData → Bool
  | .none => true
  | .bool _ => true
  | .int _ => true
  | .str _ => true
  | .tuple ds => tupBs ds
  | _ => false
def tupBs : List PyData → Bool
  | [] => true
  | d :: r => tupB d && tupBs r
end
theorem sqT_nl {H H' : Hp} {a : Addr} {xs : List V} (h : SqT K H a xs) (e : NL H H') : SqT K H' a xs := by
  rcases h with (h | ⟨o, h⟩) | h
  · exact .inl (.inl (e _ _ h fun _ z => nomatch z))
  · exact .inl (.inr ⟨o, e _ _ h fun _ z => nomatch z⟩)
  · exact .inr h
mutual
theorem dp_nl {H H' : Hp} (e : NL H H') : ∀ (d : PyData) (v : V), tupB d = true → Dp K H v d → Dp K H' v d
  | .none, _, _, .non => .non
  | .bool _, _, _, .bl b => .bl b
  | .int _, _, _, .int i => .int i
  | .str _, _, _, .str x => .str x
  | .tuple ds, _, t, .tup h a => .tup (sqT_nl h e) (dpAll_nl e ds _ (by simpa only [tupB] using t) a)
  | .list ds, _, t, _ => by simp [tupB] at t
theorem dpAll_nl {H H' : Hp} (e : NL H H') : ∀ (ds : List PyData) (vs : List V), tupBs ds = true → DpAll K H vs ds → DpAll K H' vs ds
  | [], _, _, .nil => .nil
  | d :: ds, _, t, .cons h a => by
    have t' : tupB d = true ∧ tupBs ds = true := by simpa only [tupBs, Bool.and_eq_true] using t
    exact .cons (dp_nl e d _ t'.1 h) (dpAll_nl e ds _ t'.2 a)
end
theorem tupBs_map {α : Type} (d : α → PyData) (h : ∀ x, tupB (d x) = true) : ∀ l : List α, tupBs (l.map d) = true
  | [] => by simp only [List.map_nil, tupBs]
  | x :: r => by simp only [List.map_cons, tupBs, h x, tupBs_map d h r, Bool.and_self]
theorem PF.tup (f : PF) : tupB f.d = true := by cases f <;> simp [PF.d, tupB, tupBs]
theorem SF.tup (f : SF) : tupB f.d = true := by
  cases f with
  | deep => simp [SF.d, tupB, tupBs]
  | seg fs => simp [SF.d, tupB, tupBs, tupBs_map PF.d PF.tup fs]
/-- us are the things fs, one by one -/
def Each {α : Type} (R : α → V → Hp → Prop) (fs : List α) (us : List V) (H : Hp) : Prop := us.length = fs.length ∧ ∀ (i : Nat) (f : α), fs[i]? = some f → ∃ u, us[i]? = some u ∧ R f u H
section
variable {α : Type} {R : α → V → Hp → Prop} {fs : List α} {us : List V} {H H' : Hp}
theorem Each.imp {R' : α → V → Hp → Prop} (h : Each R fs us H) (i : ∀ f u, R f u H → R' f u H') : Each R' fs us H' := ⟨h.1, fun j f hf => let ⟨u, a, b⟩ := h.2 j f hf; ⟨u, a, i f u b⟩⟩
theorem Each.nil : Each R [] [] H := ⟨rfl, fun i f h => by simp at h⟩
theorem Each.snoc {f : α} {u : V} (h : Each R fs us H) (g : R f u H) : Each R (fs ++ [f]) (us ++ [u]) H := by
  refine ⟨by rw [List.length_append, List.length_append, h.1]; rfl, fun i f' hf => ?_⟩
  rcases Nat.lt_trichotomy i fs.length with e | e | e
  · rw [List.getElem?_append_left e] at hf
    obtain ⟨w, a, b⟩ := h.2 i f' hf
    exact ⟨w, by rw [List.getElem?_append_left (by rw [h.1]; exact e)]; exact a, b⟩
  · subst e
    rw [List.getElem?_append_right (Nat.le_refl _), Nat.sub_self] at hf
    have ef : f = f' := Option.some.inj hf
    subst ef
    exact ⟨u, by rw [← h.1, List.getElem?_append_right (Nat.le_refl _), Nat.sub_self]; rfl, g⟩
  · rw [List.getElem?_eq_none (by rw [List.length_append]; exact e)] at hf
    cases hf
theorem Each.at' {i : Nat} {x : V} (h : Each R fs us H) (e : us[i]? = some x) : ∃ f, fs[i]? = some f ∧ R f x H := by
  have hl : i < us.length := (List.getElem?_eq_some_iff.mp e).1
  rw [h.1] at hl
  obtain ⟨u, e2, g⟩ := h.2 i fs[i] (List.getElem?_eq_getElem hl)
  rw [e2] at e
  cases e
  exact ⟨_, List.getElem?_eq_getElem hl, g⟩
theorem each_dp {d : α → PyData} : ∀ {fs : List α} {us : List V}, Each (fun f u H => Dp K H u (d f)) fs us H → DpAll K H us (fs.map d)
  | [], [], _ => .nil
  | [], _ :: _, h => absurd h.1 (by simp)
  | f :: r, [], h => absurd h.1 (by simp)
  | f :: r, u :: us, h => by
    obtain ⟨u', e, g⟩ := h.2 0 f rfl
    cases e
    exact .cons g (each_dp ⟨by simpa using h.1, fun i f' hf => h.2 (i + 1) f' hf⟩)
theorem dp_each {d : α → PyData} : ∀ {fs : List α} {us : List V}, DpAll K H us (fs.map d) → Each (fun f u H => Dp K H u (d f)) fs us H
  | [], _, .nil => .nil
  | f :: r, _, .cons h a => by
    have ih := dp_each (fs := r) a
    refine ⟨by simp [ih.1], fun i f' hf => ?_⟩
    cases i with
    | zero =>
      cases (show some f = some f' from hf)
      exact ⟨_, rfl, h⟩
    | succ i => exact ih.2 i f' hf
end
theorem parts_each {fs : List PF} {us : List V} {H : Hp} : PartsV K fs us H ↔ Each (PartV K) fs us H := Iff.rfl
def spToldS (K : PySem.W.Frag) (f : SF) : Sp := fun vs H Q _ => ∃ v, vs = [v] ∧ StepV K f v H ∧ (∀ fs, f = .seg fs → fs.length ≤ 1000) ∧ ∀ u H', Same H H' → Dp K H' u f.d → Q u H'
def spDeep (K : PySem.W.Frag) (f : SF) : Sp := fun vs H Q _ => ∃ v, vs = [v] ∧ StepV K f v H ∧ Q (.bl f.deepB) H
theorem ok_Deep_deep (T : Txt K mg) : OkD P w K mg base 1 (mA K "Deep" "deep") ["self"] [] (spDeep K .deep) := by
  refine okD T.F_Deep_deep sc_Deep_deep (fun _ _ _ _ _ _ us hl => match us, hl with | [_], _ => rfl) ?_ ?_
  · rintro vs H Q E ⟨v, rfl, _⟩
    rfl
  · rintro cdv A outer s H vs Q E hr ⟨v, rfl, h, q⟩
    refine ⟨_, (pss_one (ps_ret pe_bl)), ?_⟩
    walk_at "rd"
    exact q
theorem ok_Segment_deep {fs : List PF} (T : Txt K mg) : OkD P w K mg base 1 (mA K "Segment" "deep") ["self"] [] (spDeep K (.seg fs)) := by
  refine okD T.F_Segment_deep sc_Step_deep (fun _ _ _ _ _ _ us hl => match us, hl with | [_], _ => rfl) ?_ ?_
  · rintro vs H Q E ⟨v, rfl, _⟩
    rfl
  · rintro cdv A outer s H vs Q E hr ⟨v, rfl, h, q⟩
    refine ⟨_, (pss_one (ps_ret pe_bl)), ?_⟩
    walk_at "rd"
    exact q
section
variable {X : Cx}
theorem md_deep (T : Txt K mg) (h1 : X.prog = P := by rfl) (h2 : X.w = w := by rfl) (h3 : X.K = K := by rfl) (h4 : X.mg = mg := by rfl) (h5 : X.base = base := by rfl) : MetD X 1 "deep" (StepV K) (spDeep K) := by
  subst h1 h2 h3 h4 h5
  intro i x H h
  cases i with
  | deep => obtain ⟨p, dx, rfl, hp⟩ := id h; exact ⟨p, _, dx, _, _, _, rfl, hp, T.c_Deep, T.m_Deep_deep, rfl, (ok_Deep_deep T).mono (by decide)⟩
  | seg fs => obtain ⟨p, dx, t, us, rfl, hp, _⟩ := id h; exact ⟨p, _, dx, _, _, _, rfl, hp, T.c_Segment, T.m_Segment_deep, rfl, (ok_Segment_deep T).mono (by decide)⟩
end
/-! ### what steps tell -/
theorem ok_Deep_told (T : Txt K mg) : OkD P w K mg base 1 (mA K "Deep" "told") ["self"] [] (spToldS K .deep) := by
  refine okD T.F_Deep_told sc_Step_told (fun _ _ _ _ _ _ us hl => match us, hl with | [_], _ => rfl) ?_ ?_
  · rintro vs H Q E ⟨v, rfl, _⟩
    rfl
  · rintro cdv A outer s H vs Q E hr ⟨v, rfl, h, _, q⟩
    refine ⟨_, (pss_one (ps_ret (pe_tup (pa_cons pe_str pa_nil)))), ?_⟩
    walk_at "rd"
    intro p hp
    exact q _ _ (same_new hp) (.tup (.inl (.inl upd_same)) (.cons (.str _) .nil))
theorem ok_Segment_told {fs : List PF} (T : Txt K mg) : OkD P w K mg base 2 (mA K "Segment" "told") ["self"] [] (spToldS K (.seg fs)) := by
  refine okD T.F_Segment_told sc_Segment_told (fun _ _ _ _ _ _ us hl => match us, hl with | [_], _ => rfl) ?_ ?_
  · rintro vs H Q E ⟨v, rfl, _⟩
    rfl
  · rintro cdv A outer s H vs Q E hr ⟨v, rfl, ⟨p, dx, t, us, rfl, ho, ht, hp, hne⟩, hn0, q⟩
    have hn := hn0 fs rfl
    refine ⟨_, (pss_one (ps_ret (pe_tup (pa_cons pe_str (pa_cons (pe_callTy (o_tuple (K := K)) (by rfl) T.fr_tuple (by decide +kernel) (pa_cons (pe_lc (own := [("part", 1)]) (g := (gName 1)) (tt := tYes) rfl sc_Segment_told.nd (pi_mid (o_it (K := K) rfl (pe_fldK (K := K) (pv 0) rfl))) (blkOk_by (N := N_Segment_told) (sc := defScope TX.s_Segment_told) (by decide +kernel)) (fun _ _ _ _ _ => (pg_name (i := 1) sc_Segment_told.nd rfl (Or.inl rfl))) (fun _ _ _ _ _ => pts_nil) (fun _ _ _ _ _ => (pe_mid (pe_metI0 (md_toldP T) (pv 1) (hr.mono (by decide)) pasN)))) pa_nil)) pa_nil))))), ?_⟩
    have tobj := T.obj
    walk_at "rdh"
    refine lc_midM (J0 := Itt K t) (H0 := H) ?_ (walk_tup (K := K) (a := t) (xs := us)) (by rw [hp.1]; omega) (fun k acc H' => Each (fun f u H => Dp K H u (PF.d f)) (fs.take k) acc H') (fun k acc Ha Hb e h => h.imp fun f u d => dp_nl e _ _ f.tup d) .nil (fun H' s => same_t s (.inl (.inl ht))) (fun _ _ _ _ y => y_at y) (fun _ => rfl) ?_ ?_
    · walk_at "rdh"
      exact .inr ⟨us, .inl (.inl ht)⟩
    · rintro k x acc H' H'' hk sm hc ⟨rfl, hx⟩
      obtain ⟨f, hf, pu⟩ := parts_each.mp hp |>.at' hx
      have pu' := pu.mono sm
      refine mid_of (fun u H4 => Same H'' H4 ∧ Dp K H4 u f.d) ?_ ?_
      · walk_at "rd"
        exact ⟨f, pu', x, rfl, pu', fun u H4 s d => ⟨s, d⟩⟩
      · rintro u H4 ⟨s4, d⟩
        refine ⟨s4, ?_⟩
        rw [List.take_succ, hf]
        exact (hc.imp fun f u d => dp_mono s4 _ _ d).snoc d
    · intro l acc H' hl sm hD hlen hc
      rw [List.take_of_length_le (by rw [hp.1]; exact Nat.le_refl _)] at hc
      walk_at "rd"
      refine ⟨acc, .inl ⟨.inl (.inl hD), fun l2 hl2 p2 hp2 => ?_⟩⟩
      have s2 := same_new (o := .tup acc) hl2
      have s3 := same_new (o := .tup [V.str (Str.ofString "segment"), V.ref l2]) hp2
      exact q _ _ ((sm.trans s2).trans s3) (.tup (.inl (.inl upd_same)) (.cons (.str _) (.cons (.tup (.inl (.inl (s3 _ _ upd_same))) (each_dp (hc.imp fun f u d => dp_mono (s2.trans s3) _ _ d))) .nil)))
section
variable {X : Cx}
theorem md_toldS (T : Txt K mg) (h1 : X.prog = P := by rfl) (h2 : X.w = w := by rfl) (h3 : X.K = K := by rfl) (h4 : X.mg = mg := by rfl) (h5 : X.base = base := by rfl) : MetD X 2 "told" (StepV K) (spToldS K) := by
  subst h1 h2 h3 h4 h5
  intro i x H h
  cases i with
  | deep => obtain ⟨p, dx, rfl, hp⟩ := id h; exact ⟨p, _, dx, _, _, _, rfl, hp, T.c_Deep, T.m_Deep_told, rfl, (ok_Deep_told T).mono (by decide)⟩
  | seg fs => obtain ⟨p, dx, t, us, rfl, hp, _⟩ := id h; exact ⟨p, _, dx, _, _, _, rfl, hp, T.c_Segment, T.m_Segment_told, rfl, (ok_Segment_told T).mono (by decide)⟩
end
/-! ### spots -/
/-! ### a segment fits a name -/
section
variable {X : Cx}
end
/-! ### drawn segments -/
def spMixed : Sp := fun vs H Q _ => ∃ c k, vs = [.int c, .int k] ∧ ∀ m, 0 ≤ m → m < 2147483647 → Q (.int m) H
theorem ok__law_mixed (T : Txt K mg) : OkD P w K mg base 1 (fA K "_law_mixed") ["_law_cell_here", "_law_k"] [] spMixed := by
  refine okD T.F__law_mixed sc__law_mixed (fun _ _ _ _ _ _ us hl => match us, hl with | [_, _], _ => rfl) ?_ ?_
  · rintro vs H Q E ⟨c, k, rfl, _⟩
    rfl
  · rintro cdv A outer s H vs Q E hr ⟨c, k, rfl, q⟩
    refine ⟨_, (pss_cons (ps_set (i := 2) sc__law_mixed.nd rfl (Or.inl rfl) (pe_mid (pe_op op_mod (pe_op o_mul (pe_op (o_add (K := K)) (pe_op op_mod (pv 0) pe_int) (pe_op o_mul pe_int (pe_op (o_add (K := K)) (pv 1) pe_int))) pe_int) pe_int)))
  (pss_one (ps_ret (pe_op op_mod (pe_op o_mul (pe_op op_mod (pe_op o_mul (pv 2) (pv 2)) pe_int) pe_int) pe_int)))), ?_⟩
    have b : ∀ (x : Int), 0 ≤ x % 2147483647 ∧ x % 2147483647 < 2147483647 := fun x => ⟨Int.emod_nonneg _ (by decide), Int.emod_lt_of_pos _ (by decide)⟩
    have sm : ∀ (x y : Int), 0 ≤ x → x < 2147483647 → CMul x y := fun x y h1 h2 => .inl ⟨by omega, by omega⟩
    have sm2 : ∀ (x y : Int), 0 ≤ y → y ≤ 2147483647 → CMul x y := fun x y h1 h2 => .inr ⟨by omega, by omega⟩
    refine q_mid (fun m => 0 ≤ m ∧ m < 2147483647) ?_ fun m hm => ?_
    · walk_at "rd"
      exact ⟨sm _ _ (by decide) (by decide), sm2 _ _ (by decide) (by decide), b _⟩
    walk_at "rd"
    exact ⟨sm _ _ hm.1 hm.2, sm2 _ _ (by decide) (by decide), q _ (b _).1 (b _).2⟩
theorem eqv_stars (f : PF) : PyData.eqv f.d (.tuple [.str "stars"]) = f.many := by
  have e1 : ((Str.ofString "one") == (Str.ofString "stars")) = false := by decide +kernel
  have e2 : ((Str.ofString "any") == (Str.ofString "stars")) = false := by decide +kernel
  have e3 : ((Str.ofString "among") == (Str.ofString "stars")) = false := by decide +kernel
  cases f <;> simp [PF.d, PF.many, PyData.eqv, PyData.eqvAll, e1, e2, e3]
theorem two_snoc : ∀ {acc : List PF} {f : PF}, NoTwo acc → addB acc f = true → NoTwo (acc ++ [f])
  | [], _, _, _ => trivial
  | [g], f, _, h => by
    refine ⟨fun ⟨h1, h2⟩ => ?_, trivial⟩
    unfold addB at h
    simp [h1, h2] at h
  | g :: g2 :: r, f, n, h => by
    refine ⟨n.1, two_snoc (acc := g2 :: r) n.2 ?_⟩
    unfold addB at h ⊢
    have e : (g :: g2 :: r).getLast? = (g2 :: r).getLast? := by simp [List.getLast?_cons_cons]
    rw [e] at h
    simpa using h
/-- the list acc of forms at F -/
def FormsL (K : PySem.W.Frag) (acc : List PF) (F : Addr) (H : Hp) : Prop := ∃ us, H F = some (.lst us) ∧ Each (fun f u H => Dp K H u (PF.d f)) acc us H
theorem FormsL.mono {acc : List PF} {F : Addr} {H H' : Hp} (h : FormsL K acc F H) (s : Same H H') : FormsL K acc F H' := let ⟨us, a, b⟩ := h; ⟨us, s _ _ a, b.imp fun f u d => dp_mono s _ _ d⟩
theorem FormsL.len {acc : List PF} {F : Addr} {H : Hp} {us : List V} (h : Each (fun f u H => Dp K H u (PF.d f)) acc us H) : us = [] ↔ acc = [] := by rw [← List.length_eq_zero_iff, ← List.length_eq_zero_iff, h.1]
/-- the test ahead of an append -/
theorem add_test {acc : List PF} {f : PF} {F p : Addr} {v : V} {H : Hp} {us : List V} (hf : H F = some (.lst us)) (hu : Each (fun f u H => Dp K H u (PF.d f)) acc us H) (hv : Dp K H v f.d) (ok : f.Ok) (hok : ∀ g ∈ acc, g.Ok) {Q : Bool → Hp → Prop} (q : ∀ H', Same H H' → Q (addB acc f) H') : ∀ p, H p = none →
    rEqR K (.ref F) (.ref p) (upd H p (.lst [])) fun x H1 => ∃ k, x = .bl k ∧ if k = true then Q true H1 else ∀ r, H1 r = none → rNeR K v (.ref r) (upd H1 r (.tup [.str "stars"])) fun x H2 => ∃ k, x = .bl k ∧ if k = true then Q true H2 else
      ∃ xs, (SqL K H2 F xs ∨ SqT K H2 F xs) ∧ ∃ y, atI xs (-1) = some y ∧ rNeR K y v H2 fun x H3 => ∃ k, x = .bl k ∧ Q k H3 := by
  intro p hp
  have sp := same_new (o := .lst []) hp
  refine eq_nil (.inl (.inl (sp _ _ hf))) (.inl (.inl upd_same)) ⟨_, rfl, ite2 (fun h => ?_) fun h => ?_⟩
  · have e : acc = [] := (FormsL.len (F := F) hu).mp (of_decide_eq_true h)
    have q' := q _ sp
    unfold addB at q'
    rw [decide_eq_true e] at q'
    exact q'
  have hne : acc ≠ [] := fun e => h (decide_eq_true ((FormsL.len (F := F) hu).mpr e))
  intro r hr
  have sr := same_new (o := .tup [.str "stars"]) hr
  have s2 := sp.trans sr
  have dst : Dp K (upd (upd H p (.lst [])) r (.tup [.str "stars"])) (.ref r) (.tuple [.str "stars"]) := .tup (.inl (.inl upd_same)) (.cons (.str _) .nil)
  have dok : DOk 1 (.tuple [.str "stars"]) := PF.dok (f := .stars) trivial
  refine .inl ⟨f.d, _, dp_mono s2 _ _ hv, dst, (PF.dok ok).shaped (by decide), dok.shaped (by decide), ?_⟩
  rw [eqv_stars]
  refine ⟨_, rfl, ite2 (fun hm => ?_) fun hm => ?_⟩
  · have q' := q _ s2
    unfold addB at q'
    rw [decide_eq_false hne, hm] at q'
    exact q'
  have hm' : f.many = true := by simpa using hm
  have ef : f = .stars := by cases f <;> first | rfl | cases hm'
  obtain ⟨g, hg⟩ : ∃ g, acc.getLast? = some g := by
    cases e : acc.getLast? with
    | none => exact absurd (List.getLast?_eq_none_iff.mp e) hne
    | some g => exact ⟨g, rfl⟩
  have hg' := hg
  rw [List.getLast?_eq_getElem?] at hg'
  obtain ⟨y, e2, dy⟩ := hu.2 _ g hg'
  have hy : us.getLast? = some y := by rw [List.getLast?_eq_getElem?, hu.1]; exact e2
  have okg : g.Ok := hok g (List.mem_of_getElem? hg')
  refine ⟨us, .inl (.inl (.inl (s2 _ _ hf))), y, atI_last hy, .inl ⟨g.d, f.d, dp_mono s2 _ _ dy, dp_mono s2 _ _ hv, (PF.dok okg).shaped (by decide), (PF.dok ok).shaped (by decide), ?_⟩⟩
  have q' := q _ s2
  unfold addB at q'
  rw [decide_eq_false hne, hm', hg] at q'
  refine ⟨_, rfl, ?_⟩
  rw [ef]
  show Q (!PyData.eqv g.d (.tuple [.str "stars"])) _
  rw [eqv_stars]
  exact q'
def spSegm (K : PySem.W.Frag) : Sp := fun vs H Q _ => ∃ c p ws, vs = [.int c, .ref p] ∧ SqL K H p ws ∧ ws.length = 4 ∧ (∀ v ∈ ws, SignV v) ∧ ∀ v fs H', PartsOk fs → fs.length ≤ 3 → (∀ f ∈ fs, f.Low) → Same H H' → Dp K H' v (SF.seg fs).d → Q v H'
theorem ok__law_segment (T : Txt K mg) : OkD P w K mg base 2 (fA K "_law_segment") ["_law_cell_here", "_law_signs_here"] [] (spSegm K) := by
  refine okD T.F__law_segment sc__law_segment (fun _ _ _ _ _ _ us hl => match us, hl with | [_, _], _ => rfl) ?_ ?_
  · rintro vs H Q E ⟨c, p, ws, rfl, _⟩
    rfl
  · rintro cdv A outer s H vs Q E hr ⟨c, p, ws, rfl, hs, hl, hw, q⟩
    refine ⟨_, (pss_cons (ps_set (i := 2) sc__law_segment.nd rfl (Or.inl rfl) (pe_lst pa_nil))
  (pss_cons (ps_mid (ps_for (passes_of rfl) rfl (pi_mid (pi_range1 rfl T.fr_range (pa_cons (pe_op (o_add (K := K)) pe_int (pe_op op_mod (pv 0) pe_int)) pa_nil))) (pg_name (i := 3) sc__law_segment.nd rfl (Or.inl rfl)) (pss_cons (ps_set (i := 4) sc__law_segment.nd rfl (Or.inl rfl) (pe_mid (pe_cal (ok__law_part T) (hr.mono (by decide)) rfl T.g__law_part (pasE (takes_of rfl rfl rfl rfl) (fun _ _ _ _ h => h)) (pa_cons (pe_cal (ok__law_mixed T) (hr.mono (by decide)) rfl T.g__law_mixed (pasE (takes_of rfl rfl rfl rfl) (fun _ _ _ _ h => h)) (pa_cons (pv 0) (pa_cons (pv 3) pa_nil))) (pa_cons (pv 1) pa_nil)))))
  (pss_one (ps_if (pt_mid (PW.pt (pw_or (pt_cmpR (o_eq (K := K) (hu64 hr)) (pv 2) (pe_lst pa_nil) (nomark _)) (pw_or (pt_cmpR (o_ne (K := K) (hu64 hr)) (pv 4) (pe_tup (pa_cons pe_str pa_nil)) (nomark _)) (pw_or1 (pt_cmpR (o_ne (K := K) (hu64 hr)) (pe_ix (o_ix (K := K)) (pv 2) (pe_un un_neg pe_int) (fun _ _ => rfl)) (pv 4) (nomark _))))))) (pss_one (ps_expr (pe_bmK (K := K) PySem.F.plainAttrs_list PySem.F.slot_list_append PySem.F.type_list_append mt_append (pv 2) (pa_cons (pe_mid (pv 4)) pa_nil)))) pss_nil)))))
  (pss_one (ps_ret (pe_tup (pa_cons pe_str (pa_cons (pe_callTy (o_tuple (K := K)) (by rfl) T.fr_tuple (by decide +kernel) (pa_cons (pv 2) pa_nil)) pa_nil))))))), ?_⟩
    have tobj := T.obj
    refine q_new fun F hF => ?_
    have sF := same_new (o := .lst []) hF
    have hm0 : 0 ≤ c % 3 := Int.emod_nonneg _ (by decide)
    have hm1 : c % 3 < 3 := Int.emod_lt_of_pos _ (by decide)
    obtain ⟨n, hn, hn1, hn3⟩ : ∃ n : Nat, 1 + c % 3 = (n : Int) ∧ 1 ≤ n ∧ n ≤ 3 := ⟨(1 + c % 3).toNat, by omega, by omega, by omega⟩
    refine q_stm (fun σ H' => ∃ acc us x y, σ = [some (.int c), some (.ref p), some (.ref F), x, y] ∧ Same H H' ∧ H' F = some (.lst us) ∧ Each (fun f u H => Dp K H u (PF.d f)) acc us H' ∧ PartsOk acc ∧ acc.length ≤ 3 ∧ ∀ f ∈ acc, f.Low) ?_ ?_
    · refine for_mid (J0 := Itr 0 n) (H0 := upd H F (.lst [])) ?_ walk_range
        (fun k σ H' => ∃ acc us x y, σ = [some (.int c), some (.ref p), some (.ref F), x, y] ∧ Same H H' ∧ H' F = some (.lst us) ∧ Each (fun f u H => Dp K H u (PF.d f)) acc us H' ∧ (0 < k → acc ≠ []) ∧ (∀ f ∈ acc, f.Ok ∧ f.Low) ∧ NoTwo acc ∧ acc.length ≤ k)
        ⟨[], [], none, none, rfl, sF, upd_same, .nil, fun h => absurd h (by decide), fun _ h => (nomatch h), trivial, Nat.le_refl _⟩ (fun _ _ _ _ _ => trivial) ?_ (fun σ H' h => ?_)
      · walk_at "rd"
        rw [hn]
        exact ⟨by omega, by omega, rfl⟩
      · rintro k x σ H1 H1' hk ⟨acc, us, x0, y0, rfl, sm, hl1, each, ne, oks, two, len⟩ ⟨rfl, rfl⟩
        refine q_midG (fun v H' => Same H1' H' ∧ ∃ f, (PF.Ok f ∧ PF.Low f) ∧ Dp K H' v f.d) ?_ ?_
        · walk_at "rd"
          exact ⟨c, _, rfl, fun m _ _ => ⟨m, p, ws, rfl, same_l sm hs, hl, hw, fun v f H'' ok lo s hd => ⟨s, f, ⟨ok, lo⟩, hd⟩⟩⟩
        · rintro v H2 ⟨s2, f, ⟨ok, lo⟩, hd⟩
          obtain ⟨va, rfl, _⟩ := PF.inv hd
          have hl2 := s2 _ _ hl1
          have each2 : Each (fun f u H => Dp K H u (PF.d f)) acc us H2 := each.imp fun f u d => dp_mono s2 _ _ d
          refine l_if (fun b H' => Same H2 H' ∧ b = addB acc f) ?_ ?_ ?_
          · walk_at "rd"
            exact add_test (p := va) (Q := fun b H' => Same H2 H' ∧ b = addB acc f) hl2 each2 hd ok (fun g h => (oks g h).1) fun H' s => ⟨s, rfl⟩
          · rintro H3 ⟨s3, hb⟩
            have hl3 := s3 _ _ hl2
            have s13 := (sm.trans s2).trans s3
            refine l_appV rfl rfl hl3 (by rw [each.1]; omega) ⟨acc ++ [f], us ++ [.ref va], _, _, rfl, same_mut s13 hF, upd_same, ?_, fun _ e => ?_, fun g hg => ?_, two_snoc two hb.symm, ?_⟩
            · exact Each.snoc (each2.imp fun f u d => dp_nl (NL.trans (.of s3) (nl_upd hl3)) _ _ f.tup d) (dp_nl (NL.trans (.of s3) (nl_upd hl3)) _ _ f.tup hd)
            · exact absurd e (by simp)
            · exact (List.mem_append.mp hg).elim (oks g) fun h => by rw [List.mem_singleton.mp h]; exact ⟨ok, lo⟩
            · rw [List.length_append]; exact Nat.succ_le_succ len
          · rintro H3 ⟨s3, hb⟩
            refine ⟨acc, us, _, _, rfl, (sm.trans s2).trans s3, s3 _ _ hl2, each2.imp fun f u d => dp_mono s3 _ _ d, fun _ e => ?_, oks, two, by omega⟩
            rw [e] at hb
            cases hb
      · obtain ⟨acc, us, x, y, e, s1, h1, h2, h3, h4, h5, h6⟩ := h
        exact ⟨acc, us, x, y, e, s1, h1, h2, ⟨h3 (by omega), fun f hf => (h4 f hf).1, h5, by omega⟩, by omega, fun f hf => (h4 f hf).2⟩
    · rintro σ H1 ⟨acc, us, x, y, rfl, s1, h1, h2, h3, h4, h5⟩
      walk_at "rd"
      refine ⟨us, .inl ⟨.inl (.inl h1), fun l2 hl2 p2 hp2 => ?_⟩⟩
      have s2 := same_new (o := .tup us) hl2
      have s3 := same_new (o := .tup [V.str (Str.ofString "segment"), V.ref l2]) hp2
      exact q _ acc _ h3 h4 h5 ((s1.trans s2).trans s3) (.tup (.inl (.inl upd_same)) (.cons (.str _) (.cons (.tup (.inl (.inl (s3 _ _ upd_same))) (each_dp (h2.imp fun f u d => dp_mono (s2.trans s3) _ _ d))) .nil)))

/-! ### stars twice, rows and segments made -/
theorem ne_dat {n : Nat} {d : PyData} {u v : V} {H : Hp} {Q : VK} (ok : DOk n d) (hn : n ≤ 64) (h1 : Dp K H u d) (h2 : Dp K H v d) (q : Q (.bl false) H) : rNeR K u v H Q := by
  refine .inl ⟨d, d, h1, h2, ok.shaped hn, ok.shaped hn, ?_⟩
  rw [ok.eqv]
  exact q
/-- each star m times more -/
def dbl (m : Nat) (fs : List PF) : List PF := fs.flatMap fun f => List.replicate (1 + if f.many = true then m else 0) f
theorem norm_rep {acc : List PF} {f : PF} (hm : f.many = true) (hl : acc.getLast? = some f) : ∀ n, (List.replicate n f).foldl normOne acc = acc
  | 0 => rfl
  | n + 1 => by
    have e : normOne acc f = acc := by
      rw [normOne_eq, if_neg]
      unfold addB
      rw [hl, hm]
      have : acc ≠ [] := fun e => by rw [e] at hl; cases hl
      simp [this, hm]
    show (List.replicate n f).foldl normOne (normOne acc f) = acc
    rw [e]
    exact norm_rep hm hl n
theorem norm_dbl {m : Nat} : ∀ (fs acc : List PF), NoTwo (acc ++ fs) → (dbl m fs).foldl normOne acc = acc ++ fs
  | [], acc, _ => (List.append_nil acc).symm
  | f :: fs, acc, h => by
    have e1 : dbl m (f :: fs) = List.replicate (1 + if f.many = true then m else 0) f ++ dbl m fs := rfl
    have e2 : normOne acc f = acc ++ [f] := by
      rw [normOne_eq, if_pos]
      rcases List.eq_nil_or_concat acc with rfl | ⟨r, g, rfl⟩
      · rfl
      · have key : ∀ r : List PF, NoTwo (r ++ g :: f :: fs) → ¬ (g.many = true ∧ f.many = true) := by
          intro r
          induction r with
          | nil => exact fun h => h.1
          | cons x r ih =>
            intro h
            cases r with
            | nil => exact ih h.2
            | cons y r => exact ih h.2
        have k := key r (by simpa using h)
        unfold addB
        rw [List.concat_eq_append, List.getLast?_append]
        cases h1 : f.many <;> cases h2 : g.many <;> simp [h1, h2] at k ⊢
    have e3 : (acc ++ [f]) ++ fs = acc ++ f :: fs := by simp
    rw [e1, List.foldl_append, Nat.add_comm, List.replicate_succ, List.foldl_cons, e2]
    cases hm : f.many with
    | true => rw [norm_rep hm (by simp) _, norm_dbl fs (acc ++ [f]) (by rw [e3]; exact h), e3]
    | false => rw [if_neg Bool.false_ne_true]; show (dbl m fs).foldl normOne (acc ++ [f]) = _; rw [norm_dbl fs (acc ++ [f]) (by rw [e3]; exact h), e3]
theorem normP_dbl {m : Nat} {fs : List PF} (h : NoTwo fs) : normP (dbl m fs) = fs := norm_dbl fs [] h
theorem same_none {H H' : Hp} {a : Addr} (s : Same H H') (h : H' a = none) : H a = none := by
  cases e : H a with
  | none => rfl
  | some o => rw [s _ _ e] at h; cases h
theorem dbl_zero : ∀ fs : List PF, dbl 0 fs = fs
  | [] => rfl
  | f :: r => by
    have e : dbl 0 (f :: r) = List.replicate (1 + if f.many = true then 0 else 0) f ++ dbl 0 r := rfl
    rw [e, dbl_zero r]
    simp
theorem normP_id {fs : List PF} (h : NoTwo fs) : normP fs = fs := by
  have e := normP_dbl (m := 0) h
  rwa [dbl_zero] at e
theorem norm_ne : ∀ (l acc : List PF), acc ≠ [] → l.foldl normOne acc ≠ []
  | [], _, h => h
  | f :: r, acc, h => norm_ne r (normOne acc f) (by
      unfold normOne
      split
      · simp
      · exact h)
theorem normP_ne {fs : List PF} (h : fs ≠ []) : normP fs ≠ [] := by
  cases fs with
  | nil => exact absurd rfl h
  | cons f r => exact norm_ne r (normOne [] f) (by unfold normOne; simp)
theorem new_two {H1 : Hp} {x dx : Addr} {o o' : HO} (hx : H1 x = none) (hdx : H1 dx = none) (hne : ¬ dx = x) : Same H1 (upd (upd H1 dx o) x o') :=
  (same_new hdx).trans (same_new (by rw [upd_ne fun e => hne e.symm]; exact hx))
theorem seg_make {H1 : Hp} {l : Addr} {us : List V} {fs : List PF} {R : Addr → Hp → Prop} {E : XK} (ht : SqT K H1 l us ∨ SqL K H1 l us) (hp : PartsV K fs us H1) (hn : fs.length ≤ 1000) (hne : fs ≠ []) (q : ∀ x H', Same H1 H' → StepV K (.seg (normP fs)) (.ref x) H' → R x H') :
    ∀ x dx, H1 x = none → H1 dx = none → ¬ dx = x → spSeg K [.ref x, .ref l] (upd (upd H1 dx (.own x)) x (.ins (fA K "Segment") dx [])) (fun v H3 => v = .non ∧ R x H3) E := by
  intro x dx hx hdx hxd
  have s2 : Same H1 (upd (upd H1 dx (.own x)) x (.ins (fA K "Segment") dx [])) := new_two hx hdx hxd
  refine ⟨x, dx, l, us, fs, rfl, ht.imp (same_t s2) (same_l s2), hp.mono s2, hn, upd_same, fun u hu e => ?_, fun _ H' tt us' b h1 h2 h3 => ⟨rfl, q _ H' (but_same hx hdx b) ⟨x, dx, tt, us', rfl, h1, h2, h3, normP_ne hne⟩⟩, fun e => absurd e hne⟩
  obtain ⟨i, hi⟩ := List.mem_iff_getElem?.mp hu
  obtain ⟨f, _, p, dx', e2, e3⟩ := parts_each.mp hp |>.at' hi
  rw [e2] at e
  cases e
  rw [hx] at e3
  cases e3

/-! ### forms of rows, rows drawn large -/
structure RF where
  steps : List SF
  spares : Bool
  folders : Bool
def RF.d (r : RF) : PyData := .tuple [.tuple (r.steps.map SF.d), .bool r.spares, .bool r.folders]
def NoTwoD : List SF → Prop
  | a :: b :: r => ¬ (a = .deep ∧ b = .deep) ∧ NoTwoD (b :: r)
  | _ => True
structure RF.Ok (r : RF) : Prop where
  ne : r.steps ≠ []
  ok : ∀ s ∈ r.steps, s.Ok
  two : NoTwoD r.steps
  len : r.steps.length ≤ 12
theorem twoD_snoc : ∀ {acc : List SF} {f : SF}, NoTwoD acc → (f = .deep → acc.getLast? ≠ some .deep) → NoTwoD (acc ++ [f])
  | [], _, _, _ => trivial
  | [g], f, _, h => ⟨fun ⟨h1, h2⟩ => h h2 (by rw [h1]; rfl), trivial⟩
  | g :: g2 :: r, f, n, h => ⟨n.1, twoD_snoc (acc := g2 :: r) n.2 fun e => by
      have h' := h e
      rwa [List.getLast?_cons_cons] at h'⟩
theorem eqv_deep (s : SF) : PyData.eqv s.d (.tuple [.str "deep"]) = s.deepB := by
  have e1 : ((Str.ofString "segment") == (Str.ofString "deep")) = false := by decide +kernel
  cases s <;> simp [SF.d, SF.deepB, PyData.eqv, PyData.eqvAll, e1]
theorem cutV_last {us : List V} : cutV us (some (-1)) none = us.drop (us.length - 1) := by
  unfold cutV
  have e : HT.sIx us.length 0 (some (-1)) = us.length - 1 := by
    unfold HT.sIx
    simp
    omega
  rw [e, HT.sIx_none]
  refine List.take_of_length_le ?_
  rw [List.length_drop]
  exact Nat.le_refl _
theorem Each.drop {α : Type} {R : α → V → Hp → Prop} {fs : List α} {us : List V} {H : Hp} (h : Each R fs us H) (k : Nat) : Each R (fs.drop k) (us.drop k) H :=
  ⟨by rw [List.length_drop, List.length_drop, h.1], fun i f hf => by
    rw [List.getElem?_drop] at hf
    obtain ⟨u, e, g⟩ := h.2 _ f hf
    exact ⟨u, by rw [List.getElem?_drop]; exact e, g⟩⟩
theorem last_drop {α : Type} {ss : List α} {x : α} (h : ss.getLast? = some x) : ss.drop (ss.length - 1) = [x] := by
  rcases List.eq_nil_or_concat ss with rfl | ⟨r, y, rfl⟩
  · cases h
  · rw [List.concat_eq_append] at h ⊢
    rw [List.getLast?_append] at h
    cases (show some y = some x from h)
    rw [List.length_append, List.length_singleton, Nat.add_sub_cancel, List.drop_left]
/-- ("deep",) not in steps[-1:] -/
theorem deep_test {ss : List SF} {us : List V} {L : Addr} {H : Hp} {B : Addr → Prop} {R : Bool → Hp → Prop} (hl : H L = some (.lst us)) (e : Each (fun f u H => Dp K H u (SF.d f)) ss us H) (oks : ∀ s ∈ ss, s.Ok) (r : ∀ b H', Same H H' → (b = true → ss.getLast? ≠ some .deep) → R b H') : ∀ p, H p = none →
    (∃ xs, SqL K (upd H p (.tup [.str "deep"])) L xs ∧ ∀ p1, upd H p (.tup [.str "deep"]) p1 = none → rNotInD K (.ref p) (.ref p1) (upd (upd H p (.tup [.str "deep"])) p1 (.lst (cutV xs (some (-1)) none))) fun x H' => ∃ k, x = .bl k ∧ R k H') ∨ B p := by
  intro p hp
  have sp := same_new (o := .tup [V.str (Str.ofString "deep")]) hp
  refine .inl ⟨us, .inl (.inl (sp _ _ hl)), fun p1 hp1 => ?_⟩
  have s1 := same_new (o := .lst (cutV us (some (-1)) none)) hp1
  have e1 : Each (fun f u H => Dp K H u (SF.d f)) ss us (upd (upd H p (.tup [V.str (Str.ofString "deep")])) p1 (.lst (cutV us (some (-1)) none))) := e.imp fun f u d => dp_mono (sp.trans s1) _ _ d
  have e2 := e1.drop (ss.length - 1)
  have eq : us.drop (ss.length - 1) = cutV us (some (-1)) none := by rw [cutV_last, e.1]
  rw [eq] at e2
  have dl : DOk 4 (.list ((ss.drop (ss.length - 1)).map SF.d)) := dok_lst fun d hd => by
    obtain ⟨f, hf, rfl⟩ := List.mem_map.mp hd
    exact SF.dok (oks f (List.mem_of_mem_drop hf))
  have dd : DOk 3 (.tuple [.str "deep"]) := SF.dok (f := .deep) trivial
  refine ⟨.tuple [.str "deep"], (ss.drop (ss.length - 1)).map SF.d, .tup (.inl (.inl (s1 _ _ upd_same))) (.cons (.str _) .nil), .lst (.inl (.inl upd_same)) (each_dp e2), dd.shaped (by decide), dl.shaped (by decide), _, rfl, r _ _ (sp.trans s1) fun hb hlast => ?_⟩
  rw [last_drop hlast] at hb
  simp [eqv_deep, SF.deepB] at hb
theorem forms_snoc {ss : List SF} {us : List V} {s : SF} {y : V} {L : Addr} {H : Hp} (hl : H L = some (.lst us)) (e : Each (fun f u H => Dp K H u (SF.d f)) ss us H) (d : Dp K H y s.d) : Each (fun f u H => Dp K H u (SF.d f)) (ss ++ [s]) (us ++ [y]) (upd H L (.lst (us ++ [y]))) :=
  Each.snoc (e.imp fun f u d => dp_nl (nl_upd hl) _ _ f.tup d) (dp_nl (nl_upd hl) _ _ s.tup d)
theorem row_d {r : RF} {us : List V} {l p : Addr} {H : Hp} (e : Each (fun f u H => Dp K H u (SF.d f)) r.steps us H) (hl : H l = none) (hp : upd H l (.tup us) p = none) : Dp K (upd (upd H l (.tup us)) p (.tup [.ref l, .bl r.spares, .bl r.folders])) (.ref p) r.d := by
  have s2 := same_new (o := .tup us) hl
  have s3 := same_new (o := .tup [V.ref l, V.bl r.spares, V.bl r.folders]) hp
  exact .tup (.inl (.inl upd_same)) (.cons (.tup (.inl (.inl (s3 _ _ upd_same))) (each_dp (e.imp fun f u d => dp_mono (s2.trans s3) _ _ d))) (.cons (.bl _) (.cons (.bl _) .nil)))
theorem SF.seg_inv {fs : List PF} {v : V} {H : Hp} (h : Dp K H v (SF.seg fs).d) : ∃ a t us, v = .ref a ∧ SqT K H a [.str "segment", .ref t] ∧ SqT K H t us ∧ Each (fun f u H => Dp K H u (PF.d f)) fs us H := by
  cases h with
  | tup hs ha => cases ha with | cons h1 ha => cases ha with | cons h2 ha =>
    cases ha; cases h1
    cases h2 with
    | tup ht hu => exact ⟨_, _, _, rfl, hs, ht, dp_each hu⟩
theorem SF.deep_inv {v : V} {H : Hp} (h : Dp K H v SF.deep.d) : ∃ a, v = .ref a ∧ SqT K H a [.str "deep"] := by
  cases h with | tup hs ha => cases ha with | cons h1 ha => cases ha; cases h1; exact ⟨_, rfl, hs⟩
theorem RF.inv {r : RF} {v : V} {H : Hp} (h : Dp K H v r.d) : ∃ a t us, v = .ref a ∧ SqT K H a [.ref t, .bl r.spares, .bl r.folders] ∧ SqT K H t us ∧ Each (fun f u H => Dp K H u (SF.d f)) r.steps us H := by
  cases h with
  | tup hs ha => cases ha with | cons h1 ha => cases ha with | cons h2 ha => cases ha with | cons h3 ha =>
    cases ha; cases h2; cases h3
    cases h1 with
    | tup ht hu => exact ⟨_, _, _, rfl, hs, ht, dp_each hu⟩
theorem RF.dok {r : RF} (h : r.Ok) : DOk 5 r.d := dok_tup (all_cons (dok_tup fun d hd => by
  obtain ⟨s, hs, rfl⟩ := List.mem_map.mp hd
  exact SF.dok (h.ok s hs)) (all_cons dok_bl (all_cons dok_bl all_nil)))
theorem RF.len1 {r : RF} (h : r.Ok) : r.steps.length ≤ 1000 := Nat.le_trans h.len (by decide)
theorem RF.len2 {r : RF} (h : r.Ok) (fs : List PF) (e : SF.seg fs ∈ r.steps) : fs.length ≤ 1000 := by
  have o : PartsOk fs := h.ok _ e
  exact Nat.le_trans o.len (by decide)

/-! ### rows as objects -/
theorem deep_iff {s : SF} : s.deepB = true ↔ s = .deep := by cases s <;> simp [SF.deepB]
def addS (acc : List SF) (f : SF) : Bool := decide (acc = []) || (!f.deepB || match acc.getLast? with
  | some g => !g.deepB
  | none => true)
def stepOne (acc : List SF) (f : SF) : List SF := if addS acc f = true then acc ++ [f] else acc
def normS (fs : List SF) : List SF := fs.foldl stepOne []
def dblS (m : Nat) (fs : List SF) : List SF := fs.flatMap fun f => List.replicate (1 + if f.deepB = true then m else 0) f
theorem stepOne_t {acc : List SF} {f : SF} (h : addS acc f = true) : stepOne acc f = acc ++ [f] := if_pos h
theorem stepOne_f {acc : List SF} {f : SF} (h : ¬ addS acc f = true) : stepOne acc f = acc := if_neg h
theorem stepS_take {fs : List SF} {k : Nat} {f : SF} (h : fs[k]? = some f) : (fs.take (k + 1)).foldl stepOne [] = stepOne ((fs.take k).foldl stepOne []) f := by
  rw [List.take_succ, h, List.foldl_append]
  rfl
theorem normS_rep {acc : List SF} {f : SF} (hm : f.deepB = true) (hl : acc.getLast? = some f) : ∀ n, (List.replicate n f).foldl stepOne acc = acc
  | 0 => rfl
  | n + 1 => by
    have e : stepOne acc f = acc := by
      unfold stepOne
      rw [if_neg]
      unfold addS
      rw [hl, hm]
      have : acc ≠ [] := fun e => by rw [e] at hl; cases hl
      simp [this, hm]
    show (List.replicate n f).foldl stepOne (stepOne acc f) = acc
    rw [e]
    exact normS_rep hm hl n
theorem normS_app {m : Nat} : ∀ (fs acc : List SF), NoTwoD (acc ++ fs) → (dblS m fs).foldl stepOne acc = acc ++ fs
  | [], acc, _ => (List.append_nil acc).symm
  | f :: fs, acc, h => by
    have e1 : dblS m (f :: fs) = List.replicate (1 + if f.deepB = true then m else 0) f ++ dblS m fs := rfl
    have e2 : stepOne acc f = acc ++ [f] := by
      unfold stepOne
      rw [if_pos]
      rcases List.eq_nil_or_concat acc with rfl | ⟨r, g, rfl⟩
      · rfl
      · have key : ∀ r : List SF, NoTwoD (r ++ g :: f :: fs) → ¬ (g = .deep ∧ f = .deep) := by
          intro r
          induction r with
          | nil => exact fun h => h.1
          | cons x r ih =>
            intro h
            cases r with
            | nil => exact ih h.2
            | cons y r => exact ih h.2
        have k := key r (by simpa using h)
        rw [← deep_iff, ← deep_iff] at k
        unfold addS
        rw [List.concat_eq_append, List.getLast?_append]
        cases h1 : f.deepB <;> cases h2 : g.deepB <;> simp [h1, h2] at k ⊢
    have e3 : (acc ++ [f]) ++ fs = acc ++ f :: fs := by simp
    rw [e1, List.foldl_append, Nat.add_comm, List.replicate_succ, List.foldl_cons, e2]
    cases hm : f.deepB with
    | true => rw [normS_rep hm (by simp) _, normS_app fs (acc ++ [f]) (by rw [e3]; exact h), e3]
    | false => rw [if_neg Bool.false_ne_true]; show (dblS m fs).foldl stepOne (acc ++ [f]) = _; rw [normS_app fs (acc ++ [f]) (by rw [e3]; exact h), e3]
theorem normS_dbl {m : Nat} {fs : List SF} (h : NoTwoD fs) : normS (dblS m fs) = fs := normS_app fs [] h
theorem dblS_zero : ∀ fs : List SF, dblS 0 fs = fs
  | [] => rfl
  | f :: r => by
    have e : dblS 0 (f :: r) = List.replicate (1 + if f.deepB = true then 0 else 0) f ++ dblS 0 r := rfl
    rw [e, dblS_zero r]
    simp
theorem normS_id {fs : List SF} (h : NoTwoD fs) : normS fs = fs := by
  have e := normS_dbl (m := 0) h
  rwa [dblS_zero] at e
theorem stepS_len : ∀ (l a : List SF), (l.foldl stepOne a).length ≤ a.length + l.length
  | [], a => Nat.le_refl _
  | y :: r, a => by
    refine Nat.le_trans (stepS_len r (stepOne a y)) ?_
    have e : (stepOne a y).length ≤ a.length + 1 := by
      unfold stepOne
      split
      · rw [List.length_append]; exact Nat.le_refl _
      · exact Nat.le_succ _
    rw [List.length_cons]
    omega
abbrev rowO (K : PySem.W.Frag) (dx t : Addr) (a b : Bool) : HO := .ins (fA K "Row") dx [("steps", .ref t), ("spares", .bl a), ("folders", .bl b)]
def RowV (K : PySem.W.Frag) (r : RF) (v : V) (H : Hp) : Prop := ∃ p dx t us, v = .ref p ∧ H p = some (rowO K dx t r.spares r.folders) ∧ H t = some (.tup us) ∧ Each (StepV K) r.steps us H ∧ r.steps ≠ []
theorem Each.nl {us : List V} {ss : List SF} {H H' : Hp} (h : Each (StepV K) ss us H) (e : NL H H') : Each (StepV K) ss us H' := h.imp fun _ _ s => s.nl e
theorem Each.mono {us : List V} {ss : List SF} {H H' : Hp} (h : Each (StepV K) ss us H) (e : Same H H') : Each (StepV K) ss us H' := h.nl (.of e)
theorem RowV.nl {r : RF} {v : V} {H H' : Hp} (h : RowV K r v H) (e : NL H H') : RowV K r v H' := by
  obtain ⟨p, dx, t, us, a, b, c, d, z⟩ := h
  exact ⟨p, dx, t, us, a, e _ _ b (fun _ z => nomatch z), e _ _ c (fun _ z => nomatch z), d.nl e, z⟩
theorem RowV.mono {r : RF} {v : V} {H H' : Hp} (h : RowV K r v H) (e : Same H H') : RowV K r v H' := h.nl (.of e)
def spRow (K : PySem.W.Frag) : Sp := fun vs H Q E => ∃ H0 p dx t us ss a b, vs = [.ref p, .ref t, .bl a, .bl b] ∧ H0 p = none ∧ Same H0 H ∧ (SqT K H0 t us ∨ SqL K H0 t us) ∧ Each (StepV K) ss us H0 ∧ ss.length ≤ 1000 ∧ H p = some (.ins (fA K "Row") dx []) ∧
  (ss ≠ [] → ∀ H' tt us', Same H0 H' → H' p = some (rowO K dx tt a b) → H' tt = some (.tup us') → Each (StepV K) (normS ss) us' H' → Q .non H') ∧ (ss = [] → E (.ref (fA K "NoPart")) none H)
theorem bd_Row___init__ (T : Txt K mg) : BodyQ P w K mg base 1 (mA K "Row" "__init__") "Row.__init__" (defBody TX.s_Row___init__) (defScope TX.s_Row___init__) N_Row___init__ (spRow K) := by
  rintro cdv A outer s H vs Q E hr ⟨H0, p, dx, t, us, ss, a, b, rfl, h0p, s0, ht, hp, hn, ho, q1, q2⟩
  refine ⟨_, (pss_cons (ps_if (pt_mid (pt_cmpR (o_eq (K := K) (hu64 hr)) (pe_callB (o_lenW (K := K) (w := w)) (by rfl) T.fr_len boot_len (pa_cons (pv 1) pa_nil)) pe_int (nomark _))) (pss_one (ps_raise rfl (takes_of rfl rfl rfl rfl) (pmk_own PySem.F.excBase_ValueError T.x_NoPart.1 T.g_NoPart T.x_NoPart.2.1 (raises_own T.x_NoPart.2.2.1 T.x_NoPart.2.2.2) rfl))) pss_nil)
  (pss_cons (ps_set (i := 4) sc_Row___init__.nd rfl (Or.inl rfl) (pe_lst pa_nil))
  (pss_cons (ps_mid (ps_for (passes_of rfl) rfl (pi_mid (o_it (K := K) rfl (pv 1))) (pg_name (i := 5) sc_Row___init__.nd rfl (Or.inl rfl)) (pss_one (ps_if (pt_mid (PW.pt (pw_or (pt_cmpR (o_eq (K := K) (hu64 hr)) (pv 4) (pe_lst pa_nil) (nomark _)) (pw_or (pt_not (pt_tru (K := K) (pe_metI0 (md_deep T) (pv 5) (hr.mono (by decide)) (pasE (takes_of rfl rfl rfl rfl) (fun _ _ _ _ h => h))) (by intro _; rfl))) (pw_or1 (pt_not (pt_tru (K := K) (pe_metI0 (md_deep T) (pe_ix (o_ix (K := K)) (pv 4) (pe_un un_neg pe_int) (fun _ _ => rfl)) (hr.mono (by decide)) (pasE (takes_of rfl rfl rfl rfl) (fun _ _ _ _ h => h))) (by intro _; rfl)))))))) (pss_one (ps_expr (pe_bmK (K := K) PySem.F.plainAttrs_list PySem.F.slot_list_append PySem.F.type_list_append mt_append (pv 4) (pa_cons (pe_mid (pv 5)) pa_nil)))) pss_nil))))
  (pss_cons (ps_fld (pv 0) (pe_mid (pe_callTy (o_tuple (K := K)) (by rfl) T.fr_tuple (by decide +kernel) (pa_cons (pv 4) pa_nil))) rfl)
  (pss_cons (ps_fld (pv 0) (pv 2) rfl)
  (pss_one (ps_fld (pv 0) (pv 3) rfl))))))), ?_⟩
  have tobj := T.obj
  have ht1 : SqT K H t us ∨ SqL K H t us := ht.imp (same_t s0) (same_l s0)
  refine q_if (fun b H' => H' = H ∧ b = decide (ss = [])) ?_ ?_ ?_
  · walk_at "rd"
    refine .inr ⟨_, len_seq ht1, ?_⟩
    rw [hp.1]
    refine decide_eq_decide.mpr ⟨fun h => List.length_eq_zero_iff.mp (by omega), fun h => by rw [h]; rfl⟩
  · rintro _ ⟨rfl, hb⟩
    walk_at "rd"
    exact q2 (of_decide_eq_true hb.symm)
  rintro _ ⟨rfl, hb⟩
  have hne : ss ≠ [] := of_decide_eq_false hb.symm
  rename_i H
  refine q_new fun F hF => ?_
  have hF0 : H0 F = none := by
    cases e : H0 F with
    | none => rfl
    | some o => rw [s0 _ _ e] at hF; cases hF
  have hFp : F ≠ p := fun e => by rw [e, ho] at hF; cases hF
  obtain ⟨J0, G, hw, wk, hG⟩ := seq_walk ht
  have sF : Same H (upd H F (.lst [])) := same_new hF
  refine q_stm (fun σ H' => ∃ acc x, σ = [some (.ref p), some (.ref t), some (.bl a), some (.bl b), some (.ref F), x] ∧ Same H0 H' ∧ H' p = some (.ins (fA K "Row") dx []) ∧ H' F = some (.lst acc) ∧ Each (StepV K) (normS ss) acc H0) ?_ ?_
  · refine for_mid (J0 := J0) (H0 := upd H F (.lst [])) (hw _ _ _ rfl (s0.trans sF)) wk
      (fun k σ H' => ∃ acc x, σ = [some (.ref p), some (.ref t), some (.bl a), some (.bl b), some (.ref F), x] ∧ Same H0 H' ∧ H' p = some (.ins (fA K "Row") dx []) ∧ H' F = some (.lst acc) ∧ Each (StepV K) ((ss.take k).foldl stepOne []) acc H0)
      ⟨[], none, rfl, s0.trans sF, sF _ _ ho, upd_same, .nil⟩ (fun k σ H' _ ⟨_, _, _, s, _⟩ => hG H' s) ?_ (fun σ H' h => ?_)
    · rintro k x σ H1 H1' hk ⟨acc, x0, rfl, sm, ho1, hl, pv⟩ ⟨rfl, hx⟩
      obtain ⟨f, hf, hu⟩ := hp.at' hx
      have hu1 := hu.mono sm
      have len : acc.length ≤ ss.length := by
        rw [pv.1]
        have a := stepS_len (ss.take k) []
        have b := List.length_take_le' k ss
        simp only [List.length_nil, Nat.zero_add] at a
        omega
      refine l_if (fun b H' => Same H1' H' ∧ b = addS ((ss.take k).foldl stepOne []) f) ?_ ?_ ?_
      · walk_at "rd"
        intro n hn0
        have sn : Same H1' (upd H1' n (.lst [])) := same_new hn0
        have hln := sn _ _ hl
        have hun := hu1.mono sn
        have eacc : acc = [] ↔ (ss.take k).foldl stepOne [] = [] := by
          rw [← List.length_eq_zero_iff, ← List.length_eq_zero_iff, pv.1]
        generalize ha0 : (ss.take k).foldl stepOne [] = a0 at *
        refine eq_nil (.inl (.inl hln)) (.inl (.inl upd_same)) ⟨_, rfl, ite2 (fun h => ?_) fun h => ?_⟩
        · refine ⟨sn, ?_⟩
          unfold addS
          rw [decide_eq_true (eacc.mp (of_decide_eq_true h))]
          rfl
        have hna : a0 ≠ [] := fun e => h (decide_eq_true (eacc.mpr e))
        have e0 : addS a0 f = (!f.deepB || match a0.getLast? with
          | some g => !g.deepB
          | none => true) := by
          unfold addS
          rw [decide_eq_false hna]
          rfl
        refine ⟨f, hun, x, rfl, hun, _, rfl, ite2 (fun hm => ⟨sn, ?_⟩) fun hm => ?_⟩
        · rw [e0, hm]; rfl
        obtain ⟨g, hg⟩ : ∃ g, a0.getLast? = some g := by
          cases e : a0.getLast? with
          | none => exact absurd (List.getLast?_eq_none_iff.mp e) hna
          | some g => exact ⟨g, rfl⟩
        have hg' := hg
        rw [List.getLast?_eq_getElem?] at hg'
        obtain ⟨u, h1, h2⟩ := pv.2 _ g hg'
        have h2n := h2.mono (sm.trans sn)
        have hlast : acc.getLast? = some u := by rw [List.getLast?_eq_getElem?, pv.1]; exact h1
        refine ⟨acc, .inl (.inl (.inl hln)), u, atI_last hlast, g, h2n, u, rfl, h2n, _, rfl, sn, ?_⟩
        have hm' : f.deepB = true := by simpa using hm
        rw [e0, hm', hg]
        rfl
      · rintro H2 ⟨s2, hb⟩
        have hl2 := s2 _ _ hl
        have ne1 : p ≠ F := fun e => hFp e.symm
        refine l_appV rfl rfl hl2 (by omega) ⟨acc ++ [x], _, rfl, same_mut (sm.trans s2) hF0, ?_, upd_same, ?_⟩
        · rw [upd_ne ne1]; exact s2 _ _ ho1
        rw [stepS_take hf, stepOne_t hb.symm]
        exact pv.snoc hu
      · rintro H2 ⟨s2, hb⟩
        refine ⟨acc, _, rfl, sm.trans s2, s2 _ _ ho1, s2 _ _ hl, ?_⟩
        rw [stepS_take hf, stepOne_f (by rw [← hb]; exact Bool.false_ne_true)]
        exact pv
    · obtain ⟨acc, x, e, sm, ho1, hl, pv⟩ := h
      rw [List.take_of_length_le (by rw [hp.1]; exact Nat.le_refl _)] at pv
      exact ⟨acc, x, e, sm, ho1, hl, pv⟩
  · rintro σ H1 ⟨acc, x, rfl, sm, ho1, hl, pv⟩
    walk_at "rd"
    refine mid_of (fun v H' => ∃ tt, v = .ref tt ∧ H1 tt = none ∧ H' = upd H1 tt (.tup acc)) ?_ ?_
    · walk_at "rd"
      exact ⟨acc, .inl ⟨.inl (.inl hl), fun l h => ⟨h, rfl⟩⟩⟩
    · rintro _ _ ⟨tt, rfl, htt, rfl⟩
      have st : Same H1 (upd H1 tt (.tup acc)) := same_new htt
      have ho2 := st _ _ ho1
      have ntp : tt ≠ p := fun e => by rw [e, ho1] at htt; cases htt
      walk_at "rdh"
      have s5 : Same H0 (upd (upd H1 tt (.tup acc)) p (rowO K dx tt a b)) := same_mut (sm.trans st) h0p
      refine q1 hne _ tt acc s5 upd_same ?_ (pv.mono s5)
      rw [upd_ne ntp]
      exact upd_same
theorem ok_Row___init___1 (T : Txt K mg) : OkD P w K mg base 2 (mA K "Row" "__init__") ["self", "steps", "spares", "folders"] [V.bl false, V.bl false] (spRow K) := okDd T.F_Row___init__ sc_Row___init__ 2 0 (fun q => nomatch q) rfl (fun _ _ _ _ _ _ _ us its hl hi => match us, hl, its, hi with | [_, _], _, [_, _], _ => ⟨_, rfl, rfl⟩) (by rintro vs H Q E ⟨H0, p, dx, t, us, ss, a, b, rfl, _⟩; rfl) (bd_Row___init__ T)
theorem ok_Row___init___2 (T : Txt K mg) : OkD P w K mg base 2 (mA K "Row" "__init__") ["self", "steps", "spares", "folders"] [V.bl false] (spRow K) := okDd T.F_Row___init__ sc_Row___init__ 3 1 (fun q => nomatch q) rfl (fun _ _ _ _ _ _ _ us its hl hi => match us, hl, its, hi with | [_, _, _], _, [_, _], _ => ⟨_, rfl, rfl⟩) (by rintro vs H Q E ⟨H0, p, dx, t, us, ss, a, b, rfl, _⟩; rfl) (bd_Row___init__ T)
theorem ok_Row___init__ (T : Txt K mg) : OkD P w K mg base 2 (mA K "Row" "__init__") ["self", "steps", "spares", "folders"] [] (spRow K) := okDd T.F_Row___init__ sc_Row___init__ 4 2 (fun q => nomatch q) rfl (fun _ _ _ _ _ _ _ us its hl hi => match us, hl, its, hi with | [_, _, _, _], _, [_, _], _ => ⟨_, rfl, rfl⟩) (by rintro vs H Q E ⟨H0, p, dx, t, us, ss, a, b, rfl, _⟩; rfl) (bd_Row___init__ T)
theorem okk_Row___init___folders_spares (T : Txt K mg) : OkKr P w K mg base 2 (mA K "Row" "__init__") ["self", "steps", "spares", "folders"] 2 ["folders", "spares"] (spRow K) := okKr T.F_Row___init__ sc_Row___init__ 2 ["folders", "spares"] (fun q => nomatch q) (fun _ _ _ _ _ _ _ us its ws hl hi hw => match us, hl, its, hi, ws, hw with | [_, _], _, [_, _], _, [_, _], _ => ⟨_, rfl, rfl⟩) (by rintro vs H Q E ⟨H0, p, dx, t, us, ss, a, b, rfl, _⟩; rfl) (bd_Row___init__ T)
theorem normS_ne {ss : List SF} (h : ss ≠ []) : normS ss ≠ [] := by
  have key : ∀ (l acc : List SF), acc ≠ [] → l.foldl stepOne acc ≠ [] := by
    intro l
    induction l with
    | nil => exact fun _ h => h
    | cons f r ih =>
      intro acc h
      refine ih (stepOne acc f) ?_
      unfold stepOne
      split
      · simp
      · exact h
  cases ss with
  | nil => exact absurd rfl h
  | cons f r => exact key r (stepOne [] f) (by unfold stepOne addS; simp)
theorem row_make {H1 : Hp} {l : Addr} {us : List V} {ss : List SF} {a b : Bool} {R : Addr → Hp → Prop} {E : XK} (ht : SqT K H1 l us ∨ SqL K H1 l us) (hp : Each (StepV K) ss us H1) (hn : ss.length ≤ 1000) (hne : ss ≠ []) (q : ∀ x H', Same H1 H' → RowV K ⟨normS ss, a, b⟩ (.ref x) H' → R x H') :
    ∀ x dx, H1 x = none → H1 dx = none → ¬ dx = x → spRow K [.ref x, .ref l, .bl a, .bl b] (upd (upd H1 dx (.own x)) x (.ins (fA K "Row") dx [])) (fun v H3 => v = .non ∧ R x H3) E :=
  fun x dx hx hdx hxd => ⟨H1, x, dx, l, us, ss, a, b, rfl, hx, new_two hx hdx hxd, ht, hp, hn, upd_same, fun _ H' tt us' s h1 h2 h3 => ⟨rfl, q _ H' s ⟨x, dx, tt, us', rfl, h1, h2, h3, normS_ne hne⟩⟩, fun e => absurd e hne⟩

/-! ### what rows tell -/
def spToldR (K : PySem.W.Frag) (r : RF) : Sp := fun vs H Q _ => ∃ v, vs = [v] ∧ RowV K r v H ∧ r.steps.length ≤ 1000 ∧ (∀ fs, SF.seg fs ∈ r.steps → fs.length ≤ 1000) ∧ ∀ u H', Same H H' → Dp K H' u r.d → Q u H'
theorem ok_Row_told {r : RF} (T : Txt K mg) : OkD P w K mg base 3 (mA K "Row" "told") ["self"] [] (spToldR K r) := by
  refine okD T.F_Row_told sc_Row_told (fun _ _ _ _ _ _ us hl => match us, hl with | [_], _ => rfl) ?_ ?_
  · rintro vs H Q E ⟨v, rfl, _⟩
    rfl
  · rintro cdv A outer s H vs Q E hr ⟨v, rfl, ⟨p, dx, t, us, rfl, ho, ht, hp, hne⟩, hn, hn2, q⟩
    refine ⟨_, (pss_one (ps_ret (pe_tup (pa_cons (pe_callTy (o_tuple (K := K)) (by rfl) T.fr_tuple (by decide +kernel) (pa_cons (pe_lc (own := [("step", 1)]) (g := (gName 1)) (tt := tYes) rfl sc_Row_told.nd (pi_mid (o_it (K := K) rfl (pe_fldK (K := K) (pv 0) rfl))) (blkOk_by (N := N_Row_told) (sc := defScope TX.s_Row_told) (by decide +kernel)) (fun _ _ _ _ _ => (pg_name (i := 1) sc_Row_told.nd rfl (Or.inl rfl))) (fun _ _ _ _ _ => pts_nil) (fun _ _ _ _ _ => (pe_mid (pe_metI0 (md_toldS T) (pv 1) (hr.mono (by decide)) pasN)))) pa_nil)) (pa_cons (pe_fldK (K := K) (pv 0) rfl) (pa_cons (pe_fldK (K := K) (pv 0) rfl) pa_nil)))))), ?_⟩
    have tobj := T.obj
    walk_at "rdh"
    refine lc_midM (J0 := Itt K t) (H0 := H) ?_ (walk_tup (K := K) (a := t) (xs := us)) (by rw [hp.1]; omega) (fun k acc H' => Each (fun f u H => Dp K H u (SF.d f)) (r.steps.take k) acc H') (fun k acc Ha Hb e h => h.imp fun f u d => dp_nl e _ _ f.tup d) .nil (fun H' s => same_t s (.inl (.inl ht))) (fun _ _ _ _ y => y_at y) (fun _ => rfl) ?_ ?_
    · walk_at "rdh"
      exact .inr ⟨us, .inl (.inl ht)⟩
    · rintro k x acc H' H'' hk sm hc ⟨rfl, hx⟩
      obtain ⟨f, hf, pu⟩ := hp.at' hx
      have pu' := pu.mono sm
      refine mid_of (fun u H4 => Same H'' H4 ∧ Dp K H4 u f.d) ?_ ?_
      · walk_at "rd"
        exact ⟨f, pu', x, rfl, pu', fun fs e => hn2 fs (e ▸ List.mem_of_getElem? hf), fun u H4 s d => ⟨s, d⟩⟩
      · rintro u H4 ⟨s4, d⟩
        refine ⟨s4, ?_⟩
        rw [List.take_succ, hf]
        exact (hc.imp fun f u d => dp_mono s4 _ _ d).snoc d
    · intro l acc H' hl sm hD hlen hc
      rw [List.take_of_length_le (by rw [hp.1]; exact Nat.le_refl _)] at hc
      have ho' := sm _ _ ho
      walk_at "rd"
      refine ⟨acc, .inl ⟨.inl (.inl hD), fun l2 hl2 => ?_⟩⟩
      have s2 := same_new (o := .tup acc) hl2
      have ho2 := s2 _ _ ho'
      walk_at "rdh"
      intro p2 hp2
      have s3 := same_new (o := .tup [V.ref l2, V.bl r.spares, V.bl r.folders]) hp2
      exact q _ _ ((sm.trans s2).trans s3) (row_d hc hl2 hp2)
section
variable {X : Cx}
theorem md_toldR (T : Txt K mg) (h1 : X.prog = P := by rfl) (h2 : X.w = w := by rfl) (h3 : X.K = K := by rfl) (h4 : X.mg = mg := by rfl) (h5 : X.base = base := by rfl) : MetD X 3 "told" (RowV K) (spToldR K) := by
  subst h1 h2 h3 h4 h5
  intro r x H h
  obtain ⟨p, dx, t, us, rfl, hp, _⟩ := id h
  exact ⟨p, _, dx, _, _, _, rfl, hp, T.c_Row, T.m_Row_told, rfl, (ok_Row_told T).mono (by decide)⟩
end
/-! ### drawn rows, rows made -/
def RF.Low (r : RF) : Prop := ∀ fs, SF.seg fs ∈ r.steps → ∀ f ∈ fs, f.Low
theorem range4 {i : Int} {Q : V → Prop} (h : ∀ n : Nat, 1 ≤ n → n ≤ 3 → Q (.int n)) : ∃ v, atI [V.int 1, V.int 2, V.int 2, V.int 3] (i % 4) = some v ∧ Q v := by
  have h0 : 0 ≤ i % 4 := Int.emod_nonneg _ (by decide)
  have h1 : i % 4 < 4 := Int.emod_lt_of_pos _ (by decide)
  have : i % 4 = 0 ∨ i % 4 = 1 ∨ i % 4 = 2 ∨ i % 4 = 3 := by omega
  rcases this with e | e | e | e <;> rw [e]
  · exact ⟨_, rfl, h 1 (by decide) (by decide)⟩
  · exact ⟨_, rfl, h 2 (by decide) (by decide)⟩
  · exact ⟨_, rfl, h 2 (by decide) (by decide)⟩
  · exact ⟨_, rfl, h 3 (by decide) (by decide)⟩
def spRowL (K : PySem.W.Frag) : Sp := fun vs H Q _ => ∃ c p ws, vs = [.int c, .ref p] ∧ SqL K H p ws ∧ ws.length = 4 ∧ (∀ v ∈ ws, SignV v) ∧ ∀ v r H', RF.Ok r → r.Low → r.steps.length ≤ 3 → Same H H' → Dp K H' v r.d → Q v H'
theorem ok__law_row (T : Txt K mg) : OkD P w K mg base 3 (fA K "_law_row") ["_law_cell_here", "_law_signs_here"] [] (spRowL K) := by
  refine okD T.F__law_row sc__law_row (fun _ _ _ _ _ _ us hl => match us, hl with | [_, _], _ => rfl) ?_ ?_
  · rintro vs H Q E ⟨c, p, ws, rfl, _⟩
    rfl
  · rintro cdv A outer s H vs Q E hr ⟨c, p, ws, rfl, hs, hl, hw, q⟩
    refine ⟨_, (pss_cons (ps_set (i := 2) sc__law_row.nd rfl (Or.inl rfl) (pe_lst pa_nil))
  (pss_cons (ps_mid (ps_for (passes_of rfl) rfl (pi_mid (pi_range1 rfl T.fr_range (pa_cons (pe_ix (o_ix (K := K)) (pe_lst (pa_cons pe_int (pa_cons pe_int (pa_cons pe_int (pa_cons pe_int pa_nil))))) (pe_op op_mod (pv 0) pe_int) (fun _ _ => rfl)) pa_nil))) (pg_name (i := 3) sc__law_row.nd rfl (Or.inl rfl)) (pss_cons (ps_set (i := 4) sc__law_row.nd rfl (Or.inl rfl) (pe_mid (pe_cal (ok__law_mixed T) (hr.mono (by decide)) rfl T.g__law_mixed (pasE (takes_of rfl rfl rfl rfl) (fun _ _ _ _ h => h)) (pa_cons (pv 0) (pa_cons (pe_op (o_add (K := K)) pe_int (pv 3)) pa_nil)))))
  (pss_one (ps_if (pt_mid (PW.pt (pw_and (pt_cmpR (o_eq (K := K) (hu64 hr)) (pe_op op_mod (pv 4) pe_int) pe_int (nomark _)) (pw_and1 (pt_cmpR (o_notin (K := K) (hu65 hr)) (pe_tup (pa_cons pe_str pa_nil)) (pe_slice (o_sl (K := K)) (pv 2) (po_some (pe_un un_neg pe_int)) po_none) (by rfl)))))) (pss_one (ps_expr (pe_bmK (K := K) PySem.F.plainAttrs_list PySem.F.slot_list_append PySem.F.type_list_append mt_append (pv 2) (pa_cons (pe_mid (pe_tup (pa_cons pe_str pa_nil))) pa_nil)))) (pss_one (ps_expr (pe_bmK (K := K) PySem.F.plainAttrs_list PySem.F.slot_list_append PySem.F.type_list_append mt_append (pv 2) (pa_cons (pe_mid (pe_cal (ok__law_segment T) (hr.mono (by decide)) rfl T.g__law_segment (pasE (takes_of rfl rfl rfl rfl) (fun _ _ _ _ h => h)) (pa_cons (pe_op op_fdivW (pv 4) pe_int) (pa_cons (pv 1) pa_nil)))) pa_nil)))))))))
  (pss_one (ps_ret (pe_tup (pa_cons (pe_callTy (o_tuple (K := K)) (by rfl) T.fr_tuple (by decide +kernel) (pa_cons (pv 2) pa_nil)) (pa_cons (pe_cmpR (o_eq (K := K) (hu64 hr)) (pe_op op_mod (pe_op op_fdivW (pv 0) pe_int) pe_int) pe_int (nomark _)) (pa_cons (pe_cmpR (o_eq (K := K) (hu64 hr)) (pe_op op_mod (pe_op op_fdivW (pv 0) pe_int) pe_int) pe_int (nomark _)) pa_nil)))))))), ?_⟩
    have tobj := T.obj
    refine q_new fun L hL => ?_
    have sL := same_new (o := .lst []) hL
    refine q_stm (fun σ H' => ∃ ss us x1 x2, σ = [some (.int c), some (.ref p), some (.ref L), x1, x2] ∧ Same H H' ∧ H' L = some (.lst us) ∧ Each (fun f u H => Dp K H u (SF.d f)) ss us H' ∧ ss ≠ [] ∧ (∀ s ∈ ss, s.Ok) ∧ NoTwoD ss ∧ ss.length ≤ 3 ∧ ∀ fs, SF.seg fs ∈ ss → ∀ f ∈ fs, f.Low) ?_ ?_
    · refine for_open (fun J H' => ∃ n : Nat, J = Itr 0 n ∧ Same (upd H L (.lst [])) H' ∧ 1 ≤ n ∧ n ≤ 3) ?_ ?_
      · walk_at "rd"
        intro p' hp'
        exact ⟨_, .inl (.inl (.inl upd_same)), range4 (Q := fun v => ∃ j, v = V.int j ∧ _) fun n h1 h3 => ⟨n, rfl, by omega, by omega, n, rfl, same_new hp', h1, h3⟩⟩
      rintro _ H0 ⟨n, rfl, s0, hn1, hn3⟩
      have s00 := sL.trans s0
      refine for_mid (J0 := Itr 0 n) (H0 := H0) ⟨rfl, rfl⟩ walk_range
        (fun k σ H' => ∃ ss us x1 x2, σ = [some (.int c), some (.ref p), some (.ref L), x1, x2] ∧ Same H H' ∧ H' L = some (.lst us) ∧ Each (fun f u H => Dp K H u (SF.d f)) ss us H' ∧ (0 < k → ss ≠ []) ∧ (∀ s ∈ ss, s.Ok) ∧ NoTwoD ss ∧ ss.length ≤ k ∧ ∀ fs, SF.seg fs ∈ ss → ∀ f ∈ fs, f.Low)
        ⟨[], [], none, none, rfl, s00, s0 _ _ upd_same, .nil, fun h => absurd h (by decide), fun _ h => (nomatch h), trivial, Nat.le_refl _, fun _ h => nomatch h⟩ (fun _ _ _ _ _ => trivial) ?_ (fun σ H' h => ?_)
      · rintro k x σ H1 H1' hk ⟨ss, us, x1, x2, rfl, sm, hl1, each, ne, oks, two, len, low⟩ ⟨rfl, rfl⟩
        refine q_mid (fun m => 0 ≤ m ∧ m < 2147483647) ?_ fun mk hmk => ?_
        · walk_at "rd"
          exact ⟨c, _, rfl, fun m h1 h2 => ⟨rfl, m, rfl, h1, h2⟩⟩
        refine l_if (fun b H' => Same H1' H' ∧ (b = true → ss.getLast? ≠ some .deep)) ?_ ?_ ?_
        · walk_at "rd"
          refine ite2 (fun _ => ?_) fun _ h => h.elim
          exact deep_test (R := fun k H' => Same H1' H' ∧ (k = true → ¬ss.getLast? = some SF.deep)) hl1 each oks fun b H' s h => ⟨s, h⟩
        · rintro H3 ⟨s3, hb⟩
          have hL3 := s3 _ _ hl1
          refine l_app rfl hL3 ?_
          walk_at "rd"
          intro p' hp'
          have sp := same_new (o := .tup [V.str (Str.ofString "deep")]) hp'
          have s13 := (sm.trans s3).trans sp
          refine ⟨us, sp _ _ hL3, by rw [each.1]; omega, same_mut s13 hL, ss ++ [.deep], _, upd_same, forms_snoc (sp _ _ hL3) (each.imp fun f u d => dp_mono (s3.trans sp) _ _ d) (.tup (.inl (.inl upd_same)) (.cons (.str _) .nil)), fun _ => by simp, fun s h => ?_, twoD_snoc two fun _ => hb rfl, ?_, fun fs h => ?_⟩
          · exact (List.mem_append.mp h).elim (oks s) fun e => by rw [List.mem_singleton.mp e]; trivial
          · rw [List.length_append]; exact Nat.succ_le_succ len
          · exact (List.mem_append.mp h).elim (low fs) fun e => nomatch (List.mem_singleton.mp e)
        · rintro H3 ⟨s3, hb⟩
          have hL3 := s3 _ _ hl1
          refine l_app rfl hL3 ?_
          walk_at "rd"
          refine ⟨⟨by decide, by decide⟩, mk / 5, p, ws, rfl, same_l (sm.trans s3) hs, hl, hw, fun v fs H4 okf _ lo s4 d => ⟨us, s4 _ _ hL3, by rw [each.1]; omega, same_mut ((sm.trans s3).trans s4) hL, ss ++ [.seg fs], _, upd_same, forms_snoc (s4 _ _ hL3) (each.imp fun f u d => dp_mono (s3.trans s4) _ _ d) d, fun _ => by simp, fun s h => ?_, twoD_snoc two (fun e => nomatch e), ?_, fun gs h => ?_⟩⟩
          · exact (List.mem_append.mp h).elim (oks s) fun e => by rw [List.mem_singleton.mp e]; exact okf
          · rw [List.length_append]; exact Nat.succ_le_succ len
          · exact (List.mem_append.mp h).elim (low gs) fun e => by cases List.mem_singleton.mp e; exact lo
      · obtain ⟨ss, us, x1, x2, e, s1, h1, h2, h3, h4, h5, h6, h7⟩ := h
        exact ⟨ss, us, x1, x2, e, s1, h1, h2, h3 (by omega), h4, h5, by omega, h7⟩
    · rintro σ H1 ⟨ss, us, x1, x2, rfl, s1, h1, h2, h3, h4, h5, h6, h7⟩
      walk_at "rd"
      refine ⟨us, .inl ⟨.inl (.inl h1), fun l hl' => ⟨⟨by decide, by decide⟩, ⟨by decide, by decide⟩, fun p' hp' => ?_⟩⟩⟩
      exact q _ ⟨ss, _, _⟩ _ ⟨h3, h4, h5, Nat.le_trans h6 (by decide)⟩ h7 h6 ((s1.trans (same_new hl')).trans (same_new hp')) (row_d (r := ⟨ss, _, _⟩) h2 hl' hp')
def spRowMade (K : PySem.W.Frag) : Sp := fun vs H Q _ => ∃ v r, vs = [v] ∧ Dp K H v (RF.d r) ∧ RF.Ok r ∧ ∀ u H', Same H H' → RowV K r u H' → Q u H'
theorem ok__law_row_made (T : Txt K mg) : OkD P w K mg base 5 (fA K "_law_row_made") ["_law_form_here"] [] (spRowMade K) := by
  refine okD T.F__law_row_made sc__law_row_made (fun _ _ _ _ _ _ us hl => match us, hl with | [_], _ => rfl) ?_ ?_
  · rintro vs H Q E ⟨v, r, rfl, _⟩
    rfl
  · rintro cdv A outer s H vs Q E hr ⟨v, r, rfl, hd, ok, q⟩
    refine ⟨_, (pss_cons (ps_set (i := 1) sc__law_row_made.nd rfl (Or.inl rfl) (pe_lst pa_nil))
  (pss_cons (ps_mid (ps_for (passes_of rfl) rfl (pi_mid (o_it (K := K) rfl (pe_ix (o_ix (K := K)) (pv 0) pe_int (fun _ _ => rfl)))) (pg_name (i := 2) sc__law_row_made.nd rfl (Or.inl rfl)) (pss_one (ps_if (pt_mid (pt_cmpR (o_eq (K := K) (hu64 hr)) (pe_ix (o_ix (K := K)) (pv 2) pe_int (fun _ _ => rfl)) pe_str (nomark _))) (pss_one (ps_expr (pe_bmK (K := K) PySem.F.plainAttrs_list PySem.F.slot_list_append PySem.F.type_list_append mt_append (pv 1) (pa_cons (pe_mid (pe_makN T.mn_Deep rfl T.g_Deep)) pa_nil)))) (pss_one (ps_expr (pe_bmK (K := K) PySem.F.plainAttrs_list PySem.F.slot_list_append PySem.F.type_list_append mt_append (pv 1) (pa_cons (pe_mid (pe_mak T.mk_Segment (ok_Segment___init__ T) (hr.mono (by decide)) rfl T.g_Segment (pasE (takes_of rfl rfl rfl rfl) (fun _ _ _ _ h => h)) (pa_cons (pe_callTy (o_tuple (K := K)) (by rfl) T.fr_tuple (by decide +kernel) (pa_cons (pe_lc (own := [("_law_part_here", 3)]) (g := (gName 3)) (tt := tYes) rfl sc__law_row_made.nd (pi_mid (o_it (K := K) rfl (pe_ix (o_ix (K := K)) (pv 2) pe_int (fun _ _ => rfl)))) (blkOk_by (N := N__law_row_made) (sc := defScope TX.s__law_row_made) (by decide +kernel)) (fun _ _ _ _ _ => (pg_name (i := 3) sc__law_row_made.nd rfl (Or.inl rfl))) (fun _ _ _ _ _ => pts_nil) (fun _ _ _ _ _ => (pe_mid (pe_cal (ok__law_part_made T) (hr.mono (by decide)) rfl T.g__law_part_made pasN (pa_cons (pv 3) pa_nil))))) pa_nil)) pa_nil))) pa_nil))))))))
  (pss_one (ps_ret (pe_mak T.mk_Row (ok_Row___init__ T) (hr.mono (by decide)) rfl T.g_Row (pasE (takes_of rfl rfl rfl rfl) (fun _ _ _ _ h => h)) (pa_cons (pe_callTy (o_tuple (K := K)) (by rfl) T.fr_tuple (by decide +kernel) (pa_cons (pv 1) pa_nil)) (pa_cons (pe_ix (o_ix (K := K)) (pv 0) pe_int (fun _ _ => rfl)) (pa_cons (pe_ix (o_ix (K := K)) (pv 0) pe_int (fun _ _ => rfl)) pa_nil)))))))), ?_⟩
    have tobj := T.obj
    obtain ⟨a, t, ts, rfl, ha, ht, each⟩ := RF.inv hd
    refine q_new fun L hL => ?_
    have sL := same_new (o := .lst []) hL
    refine q_stm (fun σ H' => ∃ us x2 x3, σ = [some (.ref a), some (.ref L), x2, x3] ∧ Same H H' ∧ H' L = some (.lst us) ∧ Each (StepV K) r.steps us H') ?_ ?_
    · refine for_mid (J0 := Itt K t) (H0 := upd H L (.lst [])) ?_ (walk_tup (K := K) (a := t) (xs := ts))
        (fun k σ H' => ∃ us x2 x3, σ = [some (.ref a), some (.ref L), x2, x3] ∧ Same H H' ∧ H' L = some (.lst us) ∧ Each (StepV K) (r.steps.take k) us H')
        ⟨[], none, none, rfl, sL, upd_same, .nil⟩ (fun k σ H' _ ⟨_, _, _, _, s3, _⟩ => same_t s3 ht) ?_ (fun σ H' h => ?_)
      · have ha1 := same_t sL ha
        have ht1 := same_t sL ht
        walk_at "rdx"
        exact .inr ⟨ts, ht1⟩
      · rintro k x σ H1 H1' hk ⟨us, x2, x3, rfl, sm, hl1, es⟩ ⟨rfl, hx⟩
        obtain ⟨f, hf, hdf⟩ := each.at' hx
        have hd1 := dp_mono sm _ _ hdf
        have hok := ok.ok f (List.mem_of_getElem? hf)
        have hlen : us.length ≤ 12 := by
          rw [es.1]
          have := ok.len
          have := List.length_take_le' k r.steps
          omega
        have tk : r.steps.take (k + 1) = r.steps.take k ++ [f] := by rw [List.take_succ, hf]; rfl
        have fin : ∀ (y : V) (H5 : Hp), Same H1' H5 → StepV K f y H5 → ∃ ys, H5 L = some (.lst ys) ∧ ys.length < 16777216 ∧ Same H (upd H5 L (.lst (ys ++ [y]))) ∧ ∃ us, upd H5 L (.lst (ys ++ [y])) L = some (.lst us) ∧ Each (StepV K) (r.steps.take (k + 1)) us (upd H5 L (.lst (ys ++ [y]))) := by
          intro y H5 s5 hy
          have hl5 := s5 _ _ hl1
          refine ⟨us, hl5, by omega, same_mut (sm.trans s5) hL, us ++ [y], upd_same, ?_⟩
          rw [tk]
          exact ((es.mono s5).nl (nl_upd hl5)).snoc (hy.nl (nl_upd hl5))
        cases f with
        | deep =>
          obtain ⟨va, rfl, hv⟩ := SF.deep_inv hd1
          refine l_if (fun b H' => b = true ∧ H' = H1') (by walk_at "rdx") (fun H5 h => ?_) (fun H1 h => nomatch h.1)
          obtain ⟨_, rfl⟩ := h
          refine l_app rfl hl1 ?_
          walk_at "rd"
          intro x dx hx' hdx hne
          exact fin _ _ (new_two hx' hdx hne) ⟨x, dx, rfl, upd_same⟩
        | seg fs =>
          obtain ⟨va, t1, us1, rfl, hv, ht1, each1⟩ := SF.seg_inv hd1
          have okf : PartsOk fs := hok
          refine l_if (fun b H' => b = false ∧ H' = H1') (by walk_at "rdx") (fun H1 h => nomatch h.1) (fun H5 h => ?_)
          obtain ⟨_, rfl⟩ := h
          refine l_app rfl hl1 ?_
          walk_at "rd"
          refine lc_midM (J0 := Itt K t1) (H0 := H5) ?_ (walk_tup (K := K) (a := t1) (xs := us1)) (by rw [each1.1]; have := okf.len; omega) (fun k acc H' => Each (PartV K) (fs.take k) acc H') (fun k acc Ha Hb e h => h.imp fun f u d => d.nl e) .nil (fun H' s => same_t s ht1) (fun _ _ _ _ y => y_at y) (fun _ => rfl) ?_ ?_
          · walk_at "rdx"
            exact .inr ⟨us1, ht1⟩
          · rintro j x acc H' H'' hj s6 hc ⟨rfl, hx⟩
            obtain ⟨f, hf1, df⟩ := each1.at' hx
            refine mid_of (fun u H4 => Same H'' H4 ∧ PartV K f u H4) ?_ ?_
            · walk_at "rd"
              exact ⟨x, f, rfl, dp_mono s6 _ _ df, okf.ok f (List.mem_of_getElem? hf1), fun u H4 s h => ⟨s, h⟩⟩
            · rintro u H4 ⟨s4, h⟩
              refine ⟨s4, ?_⟩
              rw [List.take_succ, hf1]
              exact (hc.imp fun f u d => d.mono s4).snoc h
          · intro l acc H6 hl6 s6 hD6 hlen6 hc
            rw [List.take_of_length_le (by rw [each1.1]; exact Nat.le_refl _)] at hc
            walk_at "rd"
            refine ⟨acc, .inl ⟨.inl (.inl hD6), fun l' hl' => ?_⟩⟩
            have s7 := same_new (o := .tup acc) hl'
            exact seg_make (.inl (.inl (.inl upd_same))) ((parts_each.mpr hc).mono s7) (Nat.le_trans okf.len (by decide)) okf.ne fun v H' s h => fin _ H' ((s6.trans s7).trans s) (by rw [normP_id okf.two] at h; exact h)
      · obtain ⟨us, x2, x3, e, s1, h1, h2⟩ := h
        rw [List.take_of_length_le (by rw [each.1]; exact Nat.le_refl _)] at h2
        exact ⟨us, x2, x3, e, s1, h1, h2⟩
    · rintro σ H1 ⟨us, x2, x3, rfl, s1, h1, h2⟩
      have ha1 := same_t s1 ha
      walk_at "rdx"
      refine ⟨us, .inl ⟨.inl (.inl h1), fun l hl' => ?_⟩⟩
      have s2 := same_new (o := .tup us) hl'
      have ha2 := same_t s2 ha1
      refine ⟨_, .inr ha2, _, rfl, _, .inr ha2, _, rfl, ?_⟩
      refine row_make (.inl (.inl (.inl upd_same))) (h2.mono s2) (Nat.le_trans ok.len (by decide)) ok.ne fun v H' s h => ?_
      rw [normS_id ok.two] at h
      exact q _ H' ((s1.trans s2).trans s) h

/-! ### signs that a part fits -/
def FOk (f : PF) : Prop := f.Ok ∧ f.Low
def WsOk (ws : List V) : Prop := ws.Nodup
theorem ws_out {cs l : List Nat} (hc : cs.length = 4) (hn : cs.Nodup) (h : l.length ≤ 3) : ∃ c ∈ cs, c ∉ l := by
  refine Classical.byContradiction fun n => ?_
  have a : ∀ c ∈ cs, c ∈ l := fun c hc => Classical.byContradiction fun q => n ⟨c, hc, q⟩
  have e := nat_nodup_len cs l hn a
  omega
def spFilled (K : PySem.W.Frag) : Sp := fun vs H Q _ => ∃ v c p ws f, vs = [v, .int c, .ref p] ∧ Dp K H v (PF.d f) ∧ FOk f ∧ SqL K H p ws ∧ ws.length = 4 ∧ WsOk ws ∧ (∀ v ∈ ws, SignV v) ∧ ∀ l H', l.length ≤ 2 → (∀ c ∈ l, c ∈ SIG) → Same H H' → Q (.str (S l)) H'
theorem ok__law_filled (T : Txt K mg) : OkD P w K mg base 1 (fA K "_law_filled") ["_law_part_here", "_law_cell_here", "_law_signs_here"] [] (spFilled K) := by
  refine okD T.F__law_filled sc__law_filled (fun _ _ _ _ _ _ us hl => match us, hl with | [_, _, _], _ => rfl) ?_ ?_
  · rintro vs H Q E ⟨v, c, p, ws, f, rfl, _⟩
    rfl
  · rintro cdv A outer s H vs Q E hr ⟨v, c, p, ws, f, rfl, hd, okl, hs, hl, wsd, hw, q⟩
    have ok : f.Ok := okl.1
    have wsd : ws.Nodup := wsd
    refine ⟨_, (pss_cons (ps_if (pt_mid (pt_cmpR (o_eq (K := K) (hu64 hr)) (pe_ix (o_ix (K := K)) (pv 0) pe_int (fun _ _ => rfl)) pe_str (nomark _))) (pss_one (ps_ret (pe_ix (o_ix (K := K)) (pv 0) pe_int (fun _ _ => rfl)))) pss_nil)
  (pss_cons (ps_if (pt_mid (pt_cmpR (o_eq (K := K) (hu64 hr)) (pe_ix (o_ix (K := K)) (pv 0) pe_int (fun _ _ => rfl)) pe_str (nomark _))) (pss_one (ps_ret (pe_ix (o_ix (K := K)) (pv 2) (pe_op op_mod (pv 1) pe_int) (fun _ _ => rfl)))) pss_nil)
  (pss_cons (ps_if (pt_mid (pt_cmpR (o_eq (K := K) (hu64 hr)) (pe_ix (o_ix (K := K)) (pv 0) pe_int (fun _ _ => rfl)) pe_str (nomark _))) (pss_cons (ps_set (i := 3) sc__law_filled.nd rfl (Or.inl rfl) (pe_mid (pe_op (o_add (K := K)) (pe_ix (o_ix (K := K)) (pv 2) (pe_op op_mod (pv 1) pe_int) (fun _ _ => rfl)) (pe_ix (o_ix (K := K)) (pv 2) (pe_op op_mod (pe_op op_fdivW (pv 1) pe_int) pe_int) (fun _ _ => rfl)))))
  (pss_one (ps_ret (pe_slice (o_sl (K := K)) (pv 3) po_none (po_some (pe_op op_mod (pe_op op_fdivW (pv 1) pe_int) pe_int)))))) pss_nil)
  (pss_cons (ps_if (pt_mid (pt_tru (K := K) (pe_ix (o_ix (K := K)) (pv 0) pe_int (fun _ _ => rfl)) (by intro _; rfl))) (pss_cons (ps_setLc (own := [("_law_sign", 4)]) (g := (gName 4)) (i := 3) rfl sc__law_filled.nd rfl rfl (sw_true rfl rfl rfl (by decide +kernel)) (pi_mid (o_it (K := K) rfl (pv 2))) (blkOk_by (N := N__law_filled) (sc := defScope TX.s__law_filled) (by decide +kernel)) (fun _ _ _ _ _ => (pg_name (i := 4) sc__law_filled.nd rfl (Or.inl rfl))) (fun _ _ _ _ _ => (pts_one (pt_mid (pt_cmpR (o_notin (K := K) (hu65 hr)) (pv 4) (pe_ix (o_ix (K := K)) (pv 0) pe_int (fun _ _ => rfl)) (by rfl))))) (fun _ _ _ _ _ => (pe_mid (pv 4))))
  (pss_one (ps_ret (pe_ix (o_ix (K := K)) (pv 3) pe_int (fun _ _ => rfl))))) pss_nil)
  (pss_one (ps_ret (pe_ix (o_ix (K := K)) (pe_ix (o_ix (K := K)) (pv 0) pe_int (fun _ _ => rfl)) (pe_op op_mod (pv 1) (pe_callB (o_lenW (K := K) (w := w)) (by rfl) T.fr_len boot_len (pa_cons (pe_ix (o_ix (K := K)) (pv 0) pe_int (fun _ _ => rfl)) pa_nil))) (fun _ _ => rfl)))))))), ?_⟩
    have tobj := T.obj
    obtain ⟨a, rfl, hv⟩ := PF.inv hd
    obtain ⟨c1, hc1, e1⟩ := at4 hl hw c
    obtain ⟨c2, hc2, e2⟩ := at4 hl hw (c / 4)
    cases f with
    | one d =>
      refine q_if (fun b H1 => b = true ∧ H1 = H) (by walk_at "rdx") (fun H1 h => ?_) (fun H1 h => nomatch h.1)
      obtain ⟨_, rfl⟩ := h
      walk_at "rdx"
      exact q [d] _ (by simp) (fun c hc => by rw [List.mem_singleton.mp hc]; exact ok) (Same.refl _)
    | any =>
      refine q_if (fun b H1 => b = false ∧ H1 = H) (by walk_at "rdx") (fun H1 h => nomatch h.1) (fun H1 h => ?_)
      obtain ⟨_, rfl⟩ := h
      refine q_if (fun b H1' => b = true ∧ H1' = H1) (by walk_at "rdx") (fun H2 h => ?_) (fun H1 h => nomatch h.1)
      obtain ⟨_, rfl⟩ := h
      walk_at "rd"
      exact ⟨ws, .inl hs, _, e1, q [c1] _ (by simp) (fun c hc => by rw [List.mem_singleton.mp hc]; exact hc1) (Same.refl _)⟩
    | stars =>
      refine q_if (fun b H1 => b = false ∧ H1 = H) (by walk_at "rdx") (fun H1 h => nomatch h.1) (fun H1 h => ?_)
      obtain ⟨_, rfl⟩ := h
      refine q_if (fun b H1' => b = false ∧ H1' = H1) (by walk_at "rdx") (fun H1 h => nomatch h.1) (fun H2 h => ?_)
      obtain ⟨_, rfl⟩ := h
      refine q_if (fun b H1' => b = true ∧ H1' = H2) (by walk_at "rdx") (fun H3 h => ?_) (fun H1 h => nomatch h.1)
      obtain ⟨_, rfl⟩ := h
      refine q_midG (fun v H' => v = .str (S [c1, c2]) ∧ H' = H3) ?_ ?_
      · walk_at "rd"
        refine ⟨ws, .inl hs, _, e1, ⟨by decide, by decide⟩, ws, .inl hs, _, e2, ?_⟩
        show (S [c1]).length + (S [c2]).length ≤ 16777216 ∧ S [c1] ++ S [c2] = S [c1, c2]
        rw [S_cat]
        exact ⟨by rw [S_len, S_len]; simp, rfl⟩
      rintro _ _ ⟨rfl, rfl⟩
      rename_i H4
      walk_at "rd"
      refine ⟨⟨by decide, by decide⟩, by rw [S_len]; simp, ?_⟩
      refine q _ _ ?_ (fun c hc => ?_) (Same.refl _)
      · exact Nat.le_trans (List.length_take_le' _ _) (Nat.le_trans (drop_le _ _) (Nat.le_refl 2))
      · have h := List.mem_of_mem_drop (List.mem_of_mem_take hc)
        rcases List.mem_cons.mp h with rfl | h
        · exact hc1
        · rw [List.mem_singleton.mp h]; exact hc2
    | among l o =>
      refine q_if (fun b H1 => b = false ∧ H1 = H) (by walk_at "rdx") (fun H1 h => nomatch h.1) (fun H1 h => ?_)
      obtain ⟨_, rfl⟩ := h
      refine q_if (fun b H1' => b = false ∧ H1' = H1) (by walk_at "rdx") (fun H1 h => nomatch h.1) (fun H2 h => ?_)
      obtain ⟨_, rfl⟩ := h
      refine q_if (fun b H1' => b = false ∧ H1' = H2) (by walk_at "rdx") (fun H1 h => nomatch h.1) (fun H3 h => ?_)
      obtain ⟨_, rfl⟩ := h
      refine q_next ?_
      refine q_if (fun b H1' => o = b ∧ H1' = H3) ?_ (fun H4 h => ?_) (fun H4 h => ?_)
      · walk_at "rdx"
      · obtain ⟨rfl, rfl⟩ := h
        obtain ⟨cs, rfl, hcs⟩ := signs_list hw
        have lcs : cs.length = 4 := by simpa using hl
        have ncs : cs.Nodup := by
          have h : ((cs.map fun c => S [c]).map V.str).Nodup := wsd
          have h2 : (cs.map fun c => S [c]).Nodup := (List.pairwise_map.mp h).imp fun q e => q (by rw [e])
          exact nd_unmap h2
        have hs4 : (List.map V.str (List.map (fun c => S [c]) cs)).length = 4 := hl
        refine q_val ?_
        refine lc_midT (J0 := Itl K p) (H0 := H4) ?_ (walk_list (K := K) (a := p) (xs := (cs.map fun c => S [c]).map V.str)) (by rw [hs4]; decide) (fun k acc _ => acc = ((cs.take k).filter fun c => !decide (c ∈ l)).map fun c => V.str (S [c])) (fun _ _ _ _ _ e => e) rfl (fun H' s => same_l s hs) (fun _ _ _ _ y => y_at y) (fun _ => rfl) ?_ ?_
        · walk_at "rd"
          exact .inl ⟨_, hs⟩
        · rintro k x acc H' H'' hk sm ha ⟨rfl, hx⟩
          obtain ⟨c, hc', rfl⟩ : ∃ c, cs[k]? = some c ∧ x = .str (S [c]) := by
            rw [List.getElem?_map, List.getElem?_map] at hx
            cases e : cs[k]? with
            | none => rw [e] at hx; cases hx
            | some c => rw [e] at hx; exact ⟨c, rfl, (Option.some.inj hx).symm⟩
          have hv' := same_t sm hv
          have tk : cs.take (k + 1) = cs.take k ++ [c] := by rw [List.take_succ, hc']; rfl
          walk_at "rdx"
          refine .inl ⟨c, rfl, ?_⟩
          rw [tk, List.filter_append, List.map_append, ← ha]
          by_cases h : c ∈ l <;> simp [h]
        · rintro r acc H' hp0 sm hD hle ha
          rw [List.take_of_length_le (by rw [hs4, lcs]; exact Nat.le_refl _)] at ha
          obtain ⟨d, hd1, hd2⟩ := ws_out lcs ncs (okl.2)
          have hmem : d ∈ cs.filter fun c => !decide (c ∈ l) := List.mem_filter.mpr ⟨hd1, by simp [hd2]⟩
          cases hf : cs.filter fun c => !decide (c ∈ l) with
          | nil => rw [hf] at hmem; cases hmem
          | cons y r' =>
            rw [hf] at ha
            have hy : y ∈ cs := (List.mem_filter.mp (by rw [hf]; exact List.mem_cons_self)).1
            walk_at "rd"
            refine ⟨acc, .inl (.inl (.inl hD)), V.str (S [y]), ?_, ?_⟩
            · rw [ha]; exact atI_zero
            · exact q [y] _ (by simp) (fun c hc => by rw [List.mem_singleton.mp hc]; exact hcs y hy) sm
      · obtain ⟨_, rfl⟩ := h
        have hl0 : 0 < l.length := List.length_pos_iff.mpr ok.1.ne
        obtain ⟨j, hj⟩ : ∃ j : Nat, c % (l.length : Int) = (j : Int) := ⟨(c % (l.length : Int)).toNat, by have := Int.emod_nonneg c (b := (l.length : Int)) (by omega); omega⟩
        have hj2 : j < l.length := by
          have := Int.emod_lt_of_pos c (b := (l.length : Int)) (by omega)
          omega
        have h12 := ok.2
        walk_at "rdx"
        rw [S_len, hj]
        exact ⟨by omega, by omega, by omega, l[j], atI_nat (List.getElem?_eq_getElem hj2), q [l[j]] _ (by simp) (fun c hc => by rw [List.mem_singleton.mp hc]; exact ok.1.sg _ (List.getElem_mem hj2)) (Same.refl _)⟩

/-! ### names about a row -/
/-- a name: signs, one at least -/
def NmV (b : Nat) (v : V) : Prop := ∃ l : List Nat, v = .str (S l) ∧ l ≠ [] ∧ l.length ≤ b ∧ ∀ c ∈ l, c ∈ SIG
theorem NmV.up {b b' : Nat} {v : V} (h : NmV b v) (e : b ≤ b') : NmV b' v := let ⟨l, a, c, d, f⟩ := h; ⟨l, a, c, Nat.le_trans d e, f⟩
def NmL (H : Hp) (F : Addr) (b : Nat) (us : List V) (n : Nat) (H' : Hp) : Prop := Same H H' ∧ H F = none ∧ H' F = some (.lst us) ∧ (∀ u ∈ us, NmV b u) ∧ us.length ≤ n
theorem nm_one {c b : Nat} (h : c ∈ SIG) : NmV (b + 2) (.str (S [c])) := ⟨[c], rfl, by simp, by simp, fun d hd => by rw [List.mem_singleton.mp hd]; exact h⟩
theorem nm_two {c d b : Nat} (h : c ∈ SIG) (g : d ∈ SIG) : NmV (b + 2) (.str (S [c, d])) := ⟨[c, d], rfl, by simp, by simp, fun e he => (List.mem_cons.mp he).elim (fun q => q ▸ h) fun q => by rw [List.mem_singleton.mp q]; exact g⟩
theorem all_snoc {p : V → Prop} {us : List V} {u : V} (h : ∀ v ∈ us, p v) (g : p u) : ∀ v ∈ us ++ [u], p v := fun v hv => (List.mem_append.mp hv).elim (h v) fun e => by rw [List.mem_singleton.mp e]; exact g
theorem all_app {p : V → Prop} {us ws : List V} (h : ∀ v ∈ us, p v) (g : ∀ v ∈ ws, p v) : ∀ v ∈ us ++ ws, p v := fun v hv => (List.mem_append.mp hv).elim (h v) (g v)
theorem cut_mem {us : List V} {lo hi : Option Int} {v : V} (h : v ∈ cutV us lo hi) : v ∈ us := List.mem_of_mem_drop (List.mem_of_mem_take h)
theorem cut_len {us : List V} {lo hi : Option Int} : (cutV us lo hi).length ≤ us.length := Nat.le_trans (List.length_take_le' _ _) (drop_le _ _)
theorem ix_nat {n j : Nat} (h : j < n) : ixN n (j : Int) = some j := by
  unfold ixN
  rw [if_pos (Int.natCast_nonneg _), if_pos (by omega), Int.toNat_natCast]
theorem at_name {us : List V} {i : Int} (hne : us ≠ []) (h0 : 0 ≤ i) (h1 : i < max 1 (us.length : Int)) {b : Nat} (h : ∀ u ∈ us, NmV b u) : ∃ (j : Nat), i = (j : Int) ∧ j < us.length ∧ ∃ l : List Nat, atI us i = some (.str (S l)) ∧ l ≠ [] ∧ l.length ≤ b ∧ ∀ c ∈ l, c ∈ SIG := by
  have hl : 0 < us.length := List.length_pos_iff.mpr hne
  obtain ⟨j, rfl⟩ : ∃ j : Nat, i = (j : Int) := ⟨i.toNat, by omega⟩
  have hj : j < us.length := by omega
  obtain ⟨l, e, a, b, c⟩ := h us[j] (List.getElem_mem hj)
  refine ⟨j, rfl, hj, l, atI_nat ?_, a, b, c⟩
  rw [List.getElem?_eq_getElem hj, e]
theorem cutS_sub (l : List Nat) (lo hi : Option Int) : ∃ m : List Nat, cutS (S l) lo hi = S m ∧ m.length ≤ l.length ∧ ∀ c ∈ m, c ∈ l :=
  ⟨_, rfl, Nat.le_trans (List.length_take_le' _ _) (drop_le _ _), fun _ h => List.mem_of_mem_drop (List.mem_of_mem_take h)⟩
def spNames (K : PySem.W.Frag) : Sp := fun vs H Q _ => ∃ v c p ws r, vs = [v, .int c, .ref p] ∧ Dp K H v (RF.d r) ∧ RF.Ok r ∧ (∀ fs, SF.seg fs ∈ r.steps → ∀ f ∈ fs, FOk f) ∧ SqL K H p ws ∧ ws.length = 4 ∧ WsOk ws ∧ (∀ v ∈ ws, SignV v) ∧
  ∀ F us H', us ≠ [] → (∀ u ∈ us, NmV 400 u) → us.length ≤ 50 → Same H H' → H' F = some (.lst us) → Q (.ref F) H'
theorem ok__law_names (T : Txt K mg) : OkD P w K mg base 2 (fA K "_law_names") ["_law_form_here", "_law_cell_here", "_law_signs_here"] [] (spNames K) := by
  refine okD T.F__law_names sc__law_names (fun _ _ _ _ _ _ us hl => match us, hl with | [_, _, _], _ => rfl) ?_ ?_
  · rintro vs H Q E ⟨v, c, p, ws, r, rfl, _⟩
    rfl
  · rintro cdv A outer s H vs Q E hr ⟨v, c, p, ws, r, rfl, hd, okr, okp, hs, hl, wok, hw, q⟩
    refine ⟨_, (pss_cons (ps_set (i := 3) sc__law_names.nd rfl (Or.inl rfl) (pe_mid (pe_lst pa_nil)))
  (pss_cons (ps_mid (ps_for (passes_of rfl) rfl (pi_mid (pi_range1 rfl T.fr_range (pa_cons (pe_callB (o_lenW (K := K) (w := w)) (by rfl) T.fr_len boot_len (pa_cons (pe_ix (o_ix (K := K)) (pv 0) pe_int (fun _ _ => rfl)) pa_nil)) pa_nil))) (pg_name (i := 4) sc__law_names.nd rfl (Or.inl rfl)) (pss_cons (ps_set (i := 5) sc__law_names.nd rfl (Or.inl rfl) (pe_mid (pe_ix (o_ix (K := K)) (pe_ix (o_ix (K := K)) (pv 0) pe_int (fun _ _ => rfl)) (pv 4) (fun _ _ => rfl))))
  (pss_cons (ps_set (i := 6) sc__law_names.nd rfl (Or.inl rfl) (pe_mid (pe_cal (ok__law_mixed T) (hr.mono (by decide)) rfl T.g__law_mixed (pasE (takes_of rfl rfl rfl rfl) (fun _ _ _ _ h => h)) (pa_cons (pv 1) (pa_cons (pe_op (o_add (K := K)) pe_int (pv 4)) pa_nil)))))
  (pss_one (ps_if (pt_mid (pt_cmpR (o_eq (K := K) (hu64 hr)) (pe_ix (o_ix (K := K)) (pv 5) pe_int (fun _ _ => rfl)) pe_str (nomark _))) (pss_cons (ps_set (i := 7) sc__law_names.nd rfl (Or.inl rfl) (pe_mid (pe_lst (pa_cons (pe_ix (o_ix (K := K)) (pv 2) (pe_op op_mod (pe_op op_fdivW (pv 6) pe_int) pe_int) (fun _ _ => rfl)) (pa_cons (pe_op (o_add (K := K)) (pe_ix (o_ix (K := K)) (pv 2) (pe_op op_mod (pe_op op_fdivW (pv 6) pe_int) pe_int) (fun _ _ => rfl)) (pe_ix (o_ix (K := K)) (pv 2) (pe_op op_mod (pe_op op_fdivW (pv 6) pe_int) pe_int) (fun _ _ => rfl))) pa_nil)))))
  (pss_one (ps_set (i := 3) sc__law_names.nd rfl (Or.inl rfl) (pe_mid (pe_op (o_add (K := K)) (pv 3) (pe_slice (o_sl (K := K)) (pv 7) po_none (po_some (pe_op op_mod (pv 6) pe_int)))))))) (pss_cons (ps_set (i := 8) sc__law_names.nd rfl (Or.inl rfl) (pe_mid pe_str))
  (pss_cons (ps_mid (ps_for (passes_of rfl) rfl (pi_mid (pi_range1 rfl T.fr_range (pa_cons (pe_callB (o_lenW (K := K) (w := w)) (by rfl) T.fr_len boot_len (pa_cons (pe_ix (o_ix (K := K)) (pv 5) pe_int (fun _ _ => rfl)) pa_nil)) pa_nil))) (pg_name (i := 9) sc__law_names.nd rfl (Or.inl rfl)) (pss_one (ps_set (i := 8) sc__law_names.nd rfl (Or.inl rfl) (pe_mid (pe_op (o_add (K := K)) (pv 8) (pe_cal (ok__law_filled T) (hr.mono (by decide)) rfl T.g__law_filled (pasE (takes_of rfl rfl rfl rfl) (fun _ _ _ _ h => h)) (pa_cons (pe_ix (o_ix (K := K)) (pe_ix (o_ix (K := K)) (pv 5) pe_int (fun _ _ => rfl)) (pv 9) (fun _ _ => rfl)) (pa_cons (pe_cal (ok__law_mixed T) (hr.mono (by decide)) rfl T.g__law_mixed (pasE (takes_of rfl rfl rfl rfl) (fun _ _ _ _ h => h)) (pa_cons (pv 6) (pa_cons (pv 9) pa_nil))) (pa_cons (pv 2) pa_nil))))))))))
  (pss_one (ps_expr (pe_bmK (K := K) PySem.F.plainAttrs_list PySem.F.slot_list_append PySem.F.type_list_append mt_append (pv 3) (pa_cons (pe_mid (pe_orK (K := K) (pv 8) (pe_one (pe_ix (o_ix (K := K)) (pv 2) pe_int (fun _ _ => rfl))))) pa_nil))))))))))))
  (pss_cons (ps_set (i := 10) sc__law_names.nd rfl (Or.inl rfl) (pe_mid (pe_op op_mod (pe_op op_fdivW (pv 1) pe_int) pe_int)))
  (pss_cons (ps_set (i := 11) sc__law_names.nd rfl (Or.inl rfl) (pe_mid (pe_op op_mod (pe_op op_fdivW (pv 1) pe_int) (pe_callB (o_max (K := K) rfl) (by rfl) T.fr_max (by decide +kernel) (pa_cons pe_int (pa_cons (pe_callB (o_lenW (K := K) (w := w)) (by rfl) T.fr_len boot_len (pa_cons (pv 3) pa_nil)) pa_nil))))))
  (pss_cons (ps_mid (ps_if (pt_mid (pt_cmpR (o_eq (K := K) (hu64 hr)) (pv 10) pe_int (nomark _))) (pss_one (ps_set (i := 3) sc__law_names.nd rfl (Or.inl rfl) (pe_mid (pe_op (o_add (K := K)) (pv 3) (pe_lst (pa_cons (pe_ix (o_ix (K := K)) (pv 2) (pe_op op_mod (pe_op op_fdivW (pv 1) pe_int) pe_int) (fun _ _ => rfl)) pa_nil)))))) pss_nil))
  (pss_cons (ps_mid (ps_if (pt_mid (pt_cmpR (o_eq (K := K) (hu64 hr)) (pv 10) pe_int (nomark _))) (pss_one (ps_set (i := 3) sc__law_names.nd rfl (Or.inl rfl) (pe_mid (pe_op (o_add (K := K)) (pe_slice (o_sl (K := K)) (pv 3) po_none (po_some (pv 11))) (pe_slice (o_sl (K := K)) (pv 3) (po_some (pe_op (o_add (K := K)) (pv 11) pe_int)) po_none))))) pss_nil))
  (pss_cons (ps_mid (ps_if (pt_mid (PW.pt (pw_and (pt_cmpR (o_eq (K := K) (hu64 hr)) (pv 10) pe_int (nomark _)) (pw_and1 (pt_cmpR (o_ne (K := K) (hu64 hr)) (pv 3) (pe_lst pa_nil) (nomark _)))))) (pss_one (ps_asg (pe_op (o_add (K := K)) (pe_ix (o_ix (K := K)) (pv 3) (pv 11) (fun _ _ => rfl)) (pe_ix (o_ix (K := K)) (pv 2) (pe_op op_mod (pe_op op_fdivW (pv 1) pe_int) pe_int) (fun _ _ => rfl))) (pg_sub (pv 3) (pv 11) set_list))) pss_nil))
  (pss_cons (ps_mid (ps_if (pt_mid (PW.pt (pw_and (pt_cmpR (o_eq (K := K) (hu64 hr)) (pv 10) pe_int (nomark _)) (pw_and1 (pt_cmpR (o_ne (K := K) (hu64 hr)) (pv 3) (pe_lst pa_nil) (nomark _)))))) (pss_one (ps_asg (pe_op (o_add (K := K)) (pe_ix (o_ix (K := K)) (pv 2) (pe_op op_mod (pe_op op_fdivW (pv 1) pe_int) pe_int) (fun _ _ => rfl)) (pe_slice (o_sl (K := K)) (pe_ix (o_ix (K := K)) (pv 3) (pv 11) (fun _ _ => rfl)) (po_some pe_int) po_none)) (pg_sub (pv 3) (pv 11) set_list))) pss_nil))
  (pss_one (ps_ret (pe_orK (K := K) (pv 3) (pe_one (pe_lst (pa_cons (pe_ix (o_ix (K := K)) (pv 2) (pe_op op_mod (pe_op op_fdivW (pv 1) pe_int) pe_int) (fun _ _ => rfl)) pa_nil)))))))))))))), ?_⟩
    have tobj := T.obj
    obtain ⟨a, t, ts, rfl, ha, ht, each⟩ := RF.inv hd
    obtain ⟨c0, hc0, e0⟩ := at4 hl hw 0
    have e0' : atI ws 0 = some (.str (S [c0])) := e0
    obtain ⟨cx, hcx, ex⟩ := at4 hl hw (c / 100)
    refine q_midG (fun v H' => ∃ F, v = .ref F ∧ NmL H F 398 [] 0 H') ?_ ?_
    · walk_at "rd"
      exact fun p hp => ⟨same_new hp, hp, upd_same, fun _ h => (nomatch h), Nat.le_refl _⟩
    rintro _ H0 ⟨F0, rfl, n0⟩
    refine q_stm (fun σ H' => ∃ F us x4 x5 x6 x7 x8 x9 x10 x11, σ = [some (.ref a), some (.int c), some (.ref p), some (.ref F), x4, x5, x6, x7, x8, x9, x10, x11] ∧ NmL H F 398 us 24 H') ?_ ?_
    · refine for_mid (J0 := Itr 0 r.steps.length) (H0 := H0) ?_ walk_range
        (fun k σ H' => ∃ F us x4 x5 x6 x7 x8 x9 x10 x11, σ = [some (.ref a), some (.int c), some (.ref p), some (.ref F), x4, x5, x6, x7, x8, x9, x10, x11] ∧ NmL H F 398 us (2 * k) H')
        ⟨F0, [], none, none, none, none, none, none, none, none, rfl, n0⟩ (fun _ _ _ _ _ => trivial) ?_ (fun σ H' h => ?_)
      · have ha1 := same_t n0.1 ha
        have ht1 := same_t n0.1 ht
        walk_at "rdx"
        refine .inr ⟨_, .inr ⟨ts, ht1, rfl⟩, ?_⟩
        have := okr.len
        rw [each.1]
        exact ⟨by omega, by omega, rfl⟩
      · rintro k x σ H1 H1' hk ⟨F, us, x4, x5, x6, x7, x8, x9, x10, x11, rfl, sm, hF0, hF, nus, lus⟩ ⟨rfl, rfl⟩
        have hfk : r.steps[k]? = some r.steps[k] := List.getElem?_eq_getElem hk
        have okk := okr.ok _ (List.getElem_mem hk)
        have okpk : ∀ fs, r.steps[k] = SF.seg fs → ∀ f ∈ fs, FOk f := fun fs e => okp fs (e ▸ List.getElem_mem hk)
        generalize r.steps[k] = sf at hfk okk okpk
        obtain ⟨u, hu, du⟩ := each.2 k sf hfk
        have ha1 := same_t sm ha
        have ht1 := same_t sm ht
        have hs1 := same_l sm hs
        have du1 := dp_mono sm _ _ du
        refine q_midG (fun v H' => v = u ∧ H' = H1') ?_ ?_
        · walk_at "rdx"
          exact ⟨ts, .inr ht1, u, atI_nat hu, rfl⟩
        rintro _ _ ⟨rfl, rfl⟩
        rename_i v H2
        refine q_mid (fun m => 0 ≤ m ∧ m < 2147483647) ?_ fun mk hmk => ?_
        · walk_at "rd"
          exact ⟨c, _, rfl, fun m h1 h2 => ⟨rfl, m, rfl, h1, h2⟩⟩
        cases sf with
        | deep =>
          obtain ⟨va, rfl, hv⟩ := SF.deep_inv du1
          refine l_if (fun b H' => b = true ∧ H' = H2) (by walk_at "rdx") (fun H5 h => ?_) (fun H1 h => nomatch h.1)
          obtain ⟨_, rfl⟩ := h
          obtain ⟨c1, hc1, e1⟩ := at4 hl hw (mk / 3)
          obtain ⟨c2, hc2, e2⟩ := at4 hl hw (mk / 12)
          obtain ⟨c3, hc3, e3⟩ := at4 hl hw (mk / 48)
          refine q_midG (fun v H' => ∃ G, v = .ref G ∧ Same H5 H' ∧ H' G = some (.lst [.str (S [c1]), .str (S [c2, c3])])) ?_ ?_
          · walk_at "rd"
            refine ⟨⟨by decide, by decide⟩, ws, .inl hs1, _, e1, ⟨by decide, by decide⟩, ws, .inl hs1, _, e2, ⟨by decide, by decide⟩, ws, .inl hs1, _, e3, ?_⟩
            show (S [c2]).length + (S [c3]).length ≤ 16777216 ∧ _
            rw [S_cat, S_len, S_len]
            exact ⟨by simp, fun p hp => ⟨same_new hp, upd_same⟩⟩
          rintro _ H6 ⟨G, rfl, s6, hG⟩
          have hF6 := s6 _ _ hF
          refine l_midG (fun v H' => ∃ F us', v = .ref F ∧ NmL H F 398 us' (2 * (k + 1)) H') ?_ ?_
          · walk_at "rd"
            refine .inl ⟨_, .inl (.inl hG), fun p1 hp1 => .inl ⟨us, (same_new hp1) _ _ hF6, _, upd_same, ?_, fun p2 hp2 => ⟨us ++ cutV [.str (S [c1]), .str (S [c2, c3])] none (some (mk % 3)), ?_⟩⟩⟩
            · have hcl := cut_len (us := [V.str (S [c1]), V.str (S [c2, c3])]) (lo := none) (hi := some (mk % 3))
              have := okr.len
              simp only [List.length_cons, List.length_nil] at hcl
              omega
            · have sx := ((sm.trans s6).trans (same_new hp1)).trans (same_new (o := .lst (us ++ cutV [.str (S [c1]), .str (S [c2, c3])] none (some (mk % 3)))) hp2)
              refine ⟨sx, same_none ((sm.trans s6).trans (same_new hp1)) hp2, upd_same, all_app nus fun v hv => ?_, ?_⟩
              · have h := cut_mem hv
                rcases List.mem_cons.mp h with rfl | h
                · exact nm_one hc1
                · rw [List.mem_singleton.mp h]; exact nm_two hc2 hc3
              · have := cut_len (us := [V.str (S [c1]), V.str (S [c2, c3])]) (lo := none) (hi := some (mk % 3))
                simp only [List.length_cons, List.length_nil] at this
                rw [List.length_append]
                omega
          · rintro _ H7 ⟨F, us', rfl, n7⟩
            exact ⟨F, us', _, _, _, _, _, _, _, _, rfl, n7⟩
        | seg fs =>
          obtain ⟨va, t1, us1, rfl, hv, ht1', each1⟩ := SF.seg_inv du1
          have okf : PartsOk fs := okk
          refine l_if (fun b H' => b = false ∧ H' = H2) (by walk_at "rdx") (fun H1 h => nomatch h.1) (fun H5 h => ?_)
          obtain ⟨_, rfl⟩ := h
          refine q_midG (fun v H' => v = .str (S []) ∧ H' = H5) (by walk_at "rd"; rfl) ?_
          rintro _ _ ⟨rfl, rfl⟩
          rename_i H6
          refine q_stm (fun σ H' => Same H6 H' ∧ ∃ l x9, σ = [some (.ref a), some (.int c), some (.ref p), some (.ref F), some (.int (0 + k)), some (.ref va), some (.int mk), x7, some (.str (S l)), x9, x10, x11] ∧ l.length ≤ 120 ∧ ∀ c ∈ l, c ∈ SIG) ?_ ?_
          · refine for_mid (J0 := Itr 0 fs.length) (H0 := H6) ?_ walk_range (fun j σ H' => Same H6 H' ∧ ∃ l x9, σ = [some (.ref a), some (.int c), some (.ref p), some (.ref F), some (.int (0 + k)), some (.ref va), some (.int mk), x7, some (.str (S l)), x9, x10, x11] ∧ l.length ≤ 2 * j ∧ ∀ c ∈ l, c ∈ SIG)
              ⟨Same.refl _, [], x9, rfl, Nat.le_refl _, fun _ h => nomatch h⟩ (fun _ _ _ _ _ => trivial) ?_ (fun σ H' h => ?_)
            · walk_at "rdx"
              refine .inr ⟨_, .inr ⟨us1, ht1', rfl⟩, ?_⟩
              have := okf.len
              rw [each1.1]
              exact ⟨by omega, by omega, rfl⟩
            · rintro j x σ H7 H7' hj ⟨s7, l, x9, rfl, ll, hlc⟩ ⟨rfl, rfl⟩
              have hfj : fs[j]? = some fs[j] := List.getElem?_eq_getElem hj
              have okj := okpk fs rfl _ (List.getElem_mem hj)
              generalize fs[j] = f at hfj okj
              obtain ⟨u, hu, du⟩ := each1.2 j f hfj
              have hv7 := same_t s7 hv
              have ht7 := same_t s7 ht1'
              have hs7 := same_l s7 hs1
              have := okf.len
              refine l_midG (fun v H' => Same H7' H' ∧ ∃ m : List Nat, v = .str (S (l ++ m)) ∧ m.length ≤ 2 ∧ ∀ c ∈ m, c ∈ SIG) ?_ ?_
              · walk_at "rdx"
                refine ⟨us1, .inr ht7, u, atI_nat hu, mk, _, rfl, fun m _ _ => ⟨u, m, p, ws, f, rfl, dp_mono s7 _ _ du, okj, hs7, hl, wok, hw, fun l2 H8 ll2 lc2 s8 => ?_⟩⟩
                show (S l).length + (S l2).length ≤ 16777216 ∧ _
                rw [S_cat, S_len, S_len]
                exact ⟨by omega, s8, l2, rfl, ll2, lc2⟩
              · rintro _ H8 ⟨s8, m, rfl, lm, hm⟩
                refine ⟨s7.trans s8, l ++ m, _, rfl, by rw [List.length_append]; omega, fun c hc => (List.mem_append.mp hc).elim (hlc c) (hm c)⟩
            · obtain ⟨s7, l, x9, e, h1, h2⟩ := h
              have := okf.len
              exact ⟨s7, l, x9, e, by omega, h2⟩
          · rintro σ H7 ⟨s7, l, x9, rfl, ll, hlc⟩
            have hF7 := s7 _ _ hF
            have hs7 := same_l s7 hs1
            refine l_app rfl hF7 ?_
            walk_at "rd"
            have := okr.len
            refine ⟨_, ⟨by rw [S_len]; omega, rfl⟩, ite2 (fun hne => ?_) fun _ => ?_⟩
            · exact ⟨us, hF7, by omega, us ++ [.str (S l)], same_mut (sm.trans s7) hF0, hF0, upd_same, all_snoc nus ⟨l, rfl, fun e => by rw [e] at hne; simp [S_len] at hne, by omega, hlc⟩, by rw [List.length_append, List.length_singleton]; omega⟩
            · exact ⟨ws, .inl hs7, _, e0', us, hF7, by omega, _, same_mut (sm.trans s7) hF0, hF0, upd_same, all_snoc nus (nm_one hc0), by rw [List.length_append, List.length_singleton]; omega⟩
      · obtain ⟨F, us, x4, x5, x6, x7, x8, x9, x10, x11, e, h1, h2, h3, h4, h5⟩ := h
        have := okr.len
        exact ⟨F, us, x4, x5, x6, x7, x8, x9, x10, x11, e, h1, h2, h3, h4, by omega⟩
    rintro σ H1 ⟨F, us, x4, x5, x6, x7, x8, x9, x10, x11, rfl, n1⟩
    refine q_mid (fun _ => True) (by walk_at "rd"; exact ⟨by decide, by decide⟩) fun way _ => ?_
    refine q_mid (fun i => 0 ≤ i ∧ i < max 1 (us.length : Int)) ?_ fun at' hat => ?_
    · have h3 := n1.2.2.1
      walk_at "rd"
      refine ⟨⟨by decide, by decide⟩, .inr ⟨_, .inl ⟨us, .inl (.inl h3), rfl⟩, ?_⟩⟩
      have e : (if (us.length : Int) > 1 then (us.length : Int) else 1) = max 1 (us.length : Int) := by split <;> omega
      rw [e]
      exact ⟨by omega, Int.emod_nonneg _ (by omega), Int.emod_lt_of_pos _ (by omega)⟩
    refine q_stm (fun σ H' => ∃ F us, σ = [some (.ref a), some (.int c), some (.ref p), some (.ref F), x4, x5, x6, x7, x8, x9, some (.int way), some (.int at')] ∧ NmL H F 398 us 25 H' ∧ (way ≠ 0 → at' < max 1 (us.length : Int))) ?_ ?_
    · refine l_if (fun b H' => H' = H1 ∧ (b = true → way = 0)) (by walk_at "rd"; exact id) (fun H2 h => ?_) (fun H2 h => ?_)
      · obtain ⟨rfl, hw0⟩ := h
        refine l_midG (fun v H' => ∃ F us', v = .ref F ∧ NmL H F 398 us' 25 H') ?_ ?_
        · have h3 := n1.2.2.1
          have hs1 := same_l n1.1 hs
          walk_at "rd"
          have hl24 := n1.2.2.2.2
          refine ⟨⟨by decide, by decide⟩, ws, .inl hs1, _, ex, fun p1 hp1 => .inl ⟨us, (same_new hp1) _ _ h3, _, upd_same, ?_, fun p2 hp2 => ⟨us ++ [.str (S [cx])], ?_⟩⟩⟩
          · rw [List.length_singleton]; omega
          · exact ⟨(n1.1.trans (same_new hp1)).trans (same_new hp2), same_none (n1.1.trans (same_new hp1)) hp2, upd_same, all_snoc n1.2.2.2.1 (nm_one hcx), by rw [List.length_append, List.length_singleton]; omega⟩
        · rintro _ H3 ⟨F, us', rfl, n3⟩
          exact ⟨F, us', rfl, n3, fun h => absurd (hw0 rfl) h⟩
      · obtain ⟨rfl, _⟩ := h
        exact ⟨F, us, rfl, ⟨n1.1, n1.2.1, n1.2.2.1, n1.2.2.2.1, by have := n1.2.2.2.2; omega⟩, fun _ => hat.2⟩
    rintro σ H2 ⟨F, us, rfl, n2, hlt⟩
    refine q_stm (fun σ H' => ∃ F us, σ = [some (.ref a), some (.int c), some (.ref p), some (.ref F), x4, x5, x6, x7, x8, x9, some (.int way), some (.int at')] ∧ NmL H F 398 us 50 H' ∧ ((way = 2 ∨ way = 3) → at' < max 1 (us.length : Int))) ?_ ?_
    · refine l_if (fun b H' => H' = H2 ∧ (b = true → way = 1)) (by walk_at "rd"; exact id) (fun H3 h => ?_) (fun H3 h => ?_)
      · obtain ⟨rfl, hw0⟩ := h
        have hw1 := hw0 rfl
        refine l_midG (fun v H' => ∃ F us', v = .ref F ∧ NmL H F 398 us' 50 H') ?_ ?_
        · have h3 := n2.2.2.1
          walk_at "rd"
          have hl25 := n2.2.2.2.2
          have l1 := cut_len (us := us) (lo := none) (hi := some at')
          have l2 := cut_len (us := us) (lo := some (at' + 1)) (hi := none)
          refine .inl ⟨us, .inl (.inl h3), fun p1 hp1 => .inl ⟨us, .inl (.inl ((same_new hp1) _ _ h3)), fun p2 hp2 => .inl ⟨_, (same_new hp2) _ _ upd_same, _, upd_same, by omega, fun p3 hp3 => ⟨cutV us none (some at') ++ cutV us (some (at' + 1)) none, ?_⟩⟩⟩⟩
          have sx := (n2.1.trans (same_new hp1)).trans (same_new (o := .lst (cutV us (some (at' + 1)) none)) hp2)
          exact ⟨sx.trans (same_new hp3), same_none sx hp3, upd_same, all_app (fun v h => n2.2.2.2.1 v (cut_mem h)) (fun v h => n2.2.2.2.1 v (cut_mem h)), by rw [List.length_append]; omega⟩
        · rintro _ H4 ⟨F, us', rfl, n4⟩
          exact ⟨F, us', rfl, n4, fun h => by omega⟩
      · obtain ⟨rfl, _⟩ := h
        exact ⟨F, us, rfl, ⟨n2.1, n2.2.1, n2.2.2.1, n2.2.2.2.1, by have := n2.2.2.2.2; omega⟩, fun h => hlt (by omega)⟩
    rintro σ H3 ⟨F, us, rfl, n3, hlt⟩
    refine q_stm (fun σ H' => ∃ us, σ = [some (.ref a), some (.int c), some (.ref p), some (.ref F), x4, x5, x6, x7, x8, x9, some (.int way), some (.int at')] ∧ NmL H F 399 us 50 H' ∧ ((way = 2 ∨ way = 3) → at' < max 1 (us.length : Int))) ?_ ?_
    · refine l_if (fun b H' => Same H3 H' ∧ (b = true → way = 2 ∧ us ≠ [])) ?_ (fun H4 h => ?_) (fun H4 h => ?_)
      · have h3 := n3.2.2.1
        walk_at "rd"
        refine ite2 (fun hw2 p hp => ?_) fun _ h => h.elim
        have sp := same_new (o := .lst []) hp
        exact ne_nil (.inl (.inl (sp _ _ h3))) (.inl (.inl upd_same)) ⟨_, rfl, sp, fun h => ⟨hw2, by simpa using h⟩⟩
      · obtain ⟨s4, hw0⟩ := h
        obtain ⟨hw2, hne⟩ := hw0 rfl
        have h4 := s4 _ _ n3.2.2.1
        have hs4 := same_l (n3.1.trans s4) hs
        walk_at "rd"
        obtain ⟨j, hj, hj2, l, ej, l1, l2, l3⟩ := at_name hne hat.1 (hlt (.inl hw2)) n3.2.2.2.1
        refine ⟨us, .inl (.inl (.inl h4)), _, ej, ⟨by decide, by decide⟩, ws, .inl hs4, _, ex, ?_⟩
        show (S l).length + (S [cx]).length ≤ 16777216 ∧ _
        rw [S_cat, S_len, S_len]
        refine ⟨by rw [List.length_singleton]; omega, ?_⟩
        subst hj
        refine ⟨us, h4, j, ix_nat hj2, us.set j (.str (S (l ++ [cx]))), ⟨same_mut (n3.1.trans s4) n3.2.1, n3.2.1, upd_same, fun u hu => ?_, by rw [List.length_set]; exact n3.2.2.2.2⟩, fun h => by rw [List.length_set]; exact hlt h⟩
        rcases List.mem_or_eq_of_mem_set hu with h | rfl
        · exact (n3.2.2.2.1 u h).up (by decide)
        · refine ⟨l ++ [cx], rfl, by simp, ?_, fun d hd => (List.mem_append.mp hd).elim (l3 d) fun e => by rw [List.mem_singleton.mp e]; exact hcx⟩
          rw [List.length_append, List.length_singleton]
          omega
      · obtain ⟨s4, _⟩ := h
        exact ⟨us, rfl, ⟨n3.1.trans s4, n3.2.1, s4 _ _ n3.2.2.1, fun u hu => (n3.2.2.2.1 u hu).up (by decide), n3.2.2.2.2⟩, hlt⟩
    rintro σ H4 ⟨us, rfl, n4, hlt⟩
    refine q_stm (fun σ H' => ∃ us, σ = [some (.ref a), some (.int c), some (.ref p), some (.ref F), x4, x5, x6, x7, x8, x9, some (.int way), some (.int at')] ∧ NmL H F 400 us 50 H') ?_ ?_
    · refine l_if (fun b H' => Same H4 H' ∧ (b = true → way = 3 ∧ us ≠ [])) ?_ (fun H5 h => ?_) (fun H5 h => ?_)
      · have h3 := n4.2.2.1
        walk_at "rd"
        refine ite2 (fun hw2 p hp => ?_) fun _ h => h.elim
        have sp := same_new (o := .lst []) hp
        exact ne_nil (.inl (.inl (sp _ _ h3))) (.inl (.inl upd_same)) ⟨_, rfl, sp, fun h => ⟨hw2, by simpa using h⟩⟩
      · obtain ⟨s5, hw0⟩ := h
        obtain ⟨hw3, hne⟩ := hw0 rfl
        have h4 := s5 _ _ n4.2.2.1
        have hs5 := same_l (n4.1.trans s5) hs
        walk_at "rd"
        obtain ⟨j, hj, hj2, l, ej, l1, l2, l3⟩ := at_name hne hat.1 (hlt (.inr hw3)) n4.2.2.2.1
        refine ⟨⟨by decide, by decide⟩, ws, .inl hs5, _, ex, us, .inl (.inl (.inl h4)), _, ej, by rw [S_len]; omega, ?_⟩
        obtain ⟨m, em, lm, hm⟩ := cutS_sub l (some 1) none
        rw [em]
        show (S [cx]).length + (S m).length ≤ 16777216 ∧ _
        rw [S_cat, S_len, S_len]
        refine ⟨by rw [List.length_singleton]; omega, ?_⟩
        subst hj
        refine ⟨us, h4, j, ix_nat hj2, us.set j (.str (S ([cx] ++ m))), ⟨same_mut (n4.1.trans s5) n4.2.1, n4.2.1, upd_same, fun u hu => ?_, by rw [List.length_set]; exact n4.2.2.2.2⟩⟩
        rcases List.mem_or_eq_of_mem_set hu with h | rfl
        · exact (n4.2.2.2.1 u h).up (by decide)
        · refine ⟨[cx] ++ m, rfl, by simp, ?_, fun d hd => (List.mem_append.mp hd).elim (fun e => by rw [List.mem_singleton.mp e]; exact hcx) fun h => l3 d (hm d h)⟩
          rw [List.length_append, List.length_singleton]
          omega
      · obtain ⟨s5, _⟩ := h
        exact ⟨us, rfl, n4.1.trans s5, n4.2.1, s5 _ _ n4.2.2.1, fun u hu => (n4.2.2.2.1 u hu).up (by decide), n4.2.2.2.2⟩
    rintro σ H5 ⟨us, rfl, n5⟩
    have h5 := n5.2.2.1
    have hs5 := same_l n5.1 hs
    walk_at "rd"
    have hl50 := n5.2.2.2.2
    refine ⟨_, .inl ⟨us, .inl (.inl h5), rfl⟩, ite2 (fun h => ?_) fun h => ?_⟩
    · exact q F us H5 (fun e => by rw [e] at h; simp at h) n5.2.2.2.1 hl50 n5.1 h5
    · exact ⟨⟨by decide, by decide⟩, ws, .inl hs5, _, ex, fun p1 hp1 => q p1 [.str (S [cx])] _ (by simp) (fun u hu => by rw [List.mem_singleton.mp hu]; exact nm_one hcx) (by simp) (n5.1.trans (same_new hp1)) upd_same⟩

/-! ### the law's own fitting of a name, from its end on -/
/-- p of each end of a list -/
def ends {β : Type} (p : List β → Bool) : List β → List Bool
  | [] => [p []]
  | c :: w => p (c :: w) :: ends p w
def fitB : List PF → List Nat → Bool
  | [], w => w.isEmpty
  | f :: fs, w => if f.many = true then (ends (fitB fs) w).any id else match w with
    | [] => false
    | c :: v => f.fits c && fitB fs v
/-! ### things laid along a row of other things -/
section
variable {α β : Type} {m : α → Bool} {ft : α → β → Bool}
def starG (m : α → Bool) (fs : List α) (j : Nat) : Bool := match fs[j]? with
  | some f => m f
  | none => false
/-- from s on by stars alone -/
def ClosG (m : α → Bool) (fs : List α) (s i : Nat) : Prop := s ≤ i ∧ ∀ k, s ≤ k → k < i → starG m fs k = true
theorem ClosG.refl {fs : List α} {s : Nat} : ClosG m fs s s := ⟨Nat.le_refl _, fun k a b => absurd b (by omega)⟩
theorem ClosG.trans {fs : List α} {a b c : Nat} (h : ClosG m fs a b) (g : ClosG m fs b c) : ClosG m fs a c := ⟨Nat.le_trans h.1 g.1, fun k h1 h2 => by
  rcases Nat.lt_or_ge k b with e | e
  · exact h.2 k h1 e
  · exact g.2 k e h2⟩
theorem ClosG.snoc {fs : List α} {a b : Nat} (h : ClosG m fs a b) (g : starG m fs b = true) : ClosG m fs a (b + 1) := h.trans ⟨Nat.le_succ _, fun k h1 h2 => by
  have e : k = b := by omega
  rw [e]
  exact g⟩
def fitGB (m : α → Bool) (ft : α → β → Bool) : List α → List β → Bool
  | [], w => w.isEmpty
  | f :: fs, w => if m f = true then (ends (fitGB m ft fs) w).any id else match w with
    | [] => false
    | c :: v => ft f c && fitGB m ft fs v
end
/-- from where on something good comes -/
def behind : List Bool → List Bool
  | [] => []
  | b :: r => (b || r.any id) :: behind r
/-! ### places -/
/-! ### a row fits names -/
def SF.fitB (s : SF) (nm : List Nat) : Bool := match s with
  | .deep => true
  | .seg fs => SL.fitB fs nm
def nmsV (nms : List (List Nat)) : List V := (nms.map S).map V.str
theorem nms_at {nms : List (List Nat)} {k : Nat} {x : V} (h : (nmsV nms)[k]? = some x) : ∃ nm, nms[k]? = some nm ∧ x = .str (S nm) := by
  unfold nmsV at h
  rw [List.getElem?_map, List.getElem?_map] at h
  cases e : nms[k]? with
  | none => rw [e] at h; cases h
  | some nm => rw [e] at h; exact ⟨nm, rfl, (Option.some.inj h).symm⟩
theorem nms_len {nms : List (List Nat)} : (nmsV nms).length = nms.length := by unfold nmsV; rw [List.length_map, List.length_map]
structure RowSz (r : RF) : Prop where
  len : r.steps.length ≤ 1000
  parts : ∀ fs, SF.seg fs ∈ r.steps → fs.length ≤ 1000
/-! ### the law's own fitting of a name -/
/-! ### names that parts fit, or nearly fit -/
/-! ### the law's own fitting -/
/-! ### rows near the bounds -/
/-! ### lists of rows -/
theorem RF.tup (r : RF) : tupB r.d = true := by simp [RF.d, tupB, tupBs, tupBs_map SF.d SF.tup r.steps]
abbrev RowsE (K : PySem.W.Frag) (rs : List RF) (us : List V) (H : Hp) : Prop := Each (fun f u H => Dp K H u (RF.d f)) rs us H
def RowsL (K : PySem.W.Frag) (rs : List RF) (F : Addr) (H : Hp) : Prop := ∃ us, H F = some (.lst us) ∧ RowsE K rs us H ∧ ∀ r ∈ rs, r.Ok ∧ r.Low
theorem RowsL.mono {rs : List RF} {F : Addr} {H H' : Hp} (h : RowsL K rs F H) (s : Same H H') : RowsL K rs F H' := let ⟨us, a, b, c⟩ := h; ⟨us, s _ _ a, b.imp fun _ _ d => dp_mono s _ _ d, c⟩
theorem rows_snoc {rs : List RF} {us : List V} {r : RF} {y : V} {L : Addr} {H : Hp} (hl : H L = some (.lst us)) (e : RowsE K rs us H) (d : Dp K H y r.d) : RowsE K (rs ++ [r]) (us ++ [y]) (upd H L (.lst (us ++ [y]))) :=
  Each.snoc (e.imp fun f u d => dp_nl (nl_upd hl) _ _ f.tup d) (dp_nl (nl_upd hl) _ _ r.tup d)
def spRows (K : PySem.W.Frag) : Sp := fun vs H Q _ => ∃ a ns p ws, ∃ first many : Nat, vs = [.ref a, .int first, .int many, .ref p] ∧ SqL K H a (List.map V.int ns) ∧ ns.length ≤ 63 ∧ first + many ≤ 64 ∧ SqL K H p ws ∧ ws.length = 4 ∧ (∀ v ∈ ws, SignV v) ∧
  ∀ F rs H', Same H H' → H F = none → RowsL K rs F H' → rs.length = many → Q (.ref F) H'
theorem ok__law_rows (T : Txt K mg) : OkD P w K mg base 4 (fA K "_law_rows") ["_law_script", "_law_first", "_law_many", "_law_signs_here"] [] (spRows K) := by
  refine okD T.F__law_rows sc__law_rows (fun _ _ _ _ _ _ us hl => match us, hl with | [_, _, _, _], _ => rfl) ?_ ?_
  · rintro vs H Q E ⟨a, ns, p, ws, first, many, rfl, _⟩
    rfl
  · rintro cdv A outer s H vs Q E hr ⟨a, ns, p, ws, first, many, rfl, ha, hn, hfm, hs, hl, hw, q⟩
    refine ⟨_, (pss_cons (ps_set (i := 4) sc__law_rows.nd rfl (Or.inl rfl) (pe_lst pa_nil))
  (pss_cons (ps_mid (ps_for (passes_of rfl) rfl (pi_mid (pi_range1 rfl T.fr_range (pa_cons (pv 2) pa_nil))) (pg_name (i := 5) sc__law_rows.nd rfl (Or.inl rfl)) (pss_cons (ps_set (i := 6) sc__law_rows.nd rfl (Or.inl rfl) (pe_mid (pe_cal (ok__law_cell T) (hr.mono (by decide)) rfl T.g__law_cell (pasE (takes_of rfl rfl rfl rfl) (fun _ _ _ _ h => h)) (pa_cons (pv 0) (pa_cons (pe_op (o_add (K := K)) (pv 1) (pv 5)) pa_nil)))))
  (pss_cons (ps_set (i := 7) sc__law_rows.nd rfl (Or.inl rfl) (pe_mid (pe_cal (ok__law_row T) (hr.mono (by decide)) rfl T.g__law_row (pasE (takes_of rfl rfl rfl rfl) (fun _ _ _ _ h => h)) (pa_cons (pv 6) (pa_cons (pv 3) pa_nil)))))
  (pss_cons (ps_mid (ps_if (pt_mid (PW.pt (pw_and (pt_cmpR (o_ne (K := K) (hu64 hr)) (pv 4) (pe_lst pa_nil) (nomark _)) (pw_and1 (pt_cmpR (o_eq (K := K) (hu64 hr)) (pe_op op_mod (pe_op op_fdivW (pv 6) pe_int) pe_int) pe_int (nomark _)))))) (pss_one (ps_set (i := 7) sc__law_rows.nd rfl (Or.inl rfl) (pe_mid (pe_tup (pa_cons (pe_ix (o_ix (K := K)) (pe_ix (o_ix (K := K)) (pv 4) (pe_un un_neg pe_int) (fun _ _ => rfl)) pe_int (fun _ _ => rfl)) (pa_cons (pe_notK (K := K) (pe_ix (o_ix (K := K)) (pe_ix (o_ix (K := K)) (pv 4) (pe_un un_neg pe_int) (fun _ _ => rfl)) pe_int (fun _ _ => rfl))) (pa_cons (pe_ix (o_ix (K := K)) (pv 7) pe_int (fun _ _ => rfl)) pa_nil))))))) pss_nil))
  (pss_one (ps_expr (pe_bmK (K := K) PySem.F.plainAttrs_list PySem.F.slot_list_append PySem.F.type_list_append mt_append (pv 4) (pa_cons (pe_mid (pv 7)) pa_nil)))))))))
  (pss_one (ps_ret (pv 4))))), ?_⟩
    have tobj := T.obj
    refine q_new fun L hL => ?_
    have sL := same_new (o := .lst []) hL
    refine q_stm (fun σ H' => ∃ rs x5 x6 x7, σ = [some (.ref a), some (.int first), some (.int many), some (.ref p), some (.ref L), x5, x6, x7] ∧ Same H H' ∧ RowsL K rs L H' ∧ rs.length = many) ?_ ?_
    · refine for_mid (J0 := Itr 0 many) (H0 := upd H L (.lst [])) ?_ walk_range
        (fun k σ H' => ∃ rs x5 x6 x7, σ = [some (.ref a), some (.int first), some (.int many), some (.ref p), some (.ref L), x5, x6, x7] ∧ Same H H' ∧ RowsL K rs L H' ∧ rs.length = k)
        ⟨[], none, none, none, rfl, sL, ⟨[], upd_same, .nil, fun _ h => nomatch h⟩, rfl⟩ (fun _ _ _ _ _ => trivial) ?_ (fun _ _ h => h)
      · walk_at "rd"
        exact ⟨by omega, by omega, rfl⟩
      · rintro k x σ H1 H1' hk ⟨rs, x5, x6, x7, rfl, sm, ⟨us, hl1, each, oks⟩, len⟩ ⟨rfl, rfl⟩
        refine q_mid (fun _ => True) ?_ fun cell _ => ?_
        · walk_at "rd"
          exact ⟨a, _, ns, rfl, same_l sm ha, hn, by omega, by omega, fun c => ⟨rfl, c, rfl⟩⟩
        refine q_midG (fun v H' => Same H1' H' ∧ ∃ r, RF.Ok r ∧ r.Low ∧ Dp K H' v r.d) ?_ ?_
        · walk_at "rd"
          exact ⟨cell, p, ws, rfl, same_l sm hs, hl, hw, fun v r H' ok lo _ s d => ⟨s, r, ok, lo, d⟩⟩
        rintro v H2 ⟨s2, r, ok, lo, d⟩
        have hl2 := s2 _ _ hl1
        have each2 : RowsE K rs us H2 := each.imp fun _ _ d => dp_mono s2 _ _ d
        refine q_stm (fun σ H' => Same H2 H' ∧ ∃ v r, σ = [some (.ref a), some (.int first), some (.int many), some (.ref p), some (.ref L), some (.int (0 + k)), some (.int cell), some v] ∧ RF.Ok r ∧ r.Low ∧ Dp K H' v r.d) ?_ ?_
        · refine l_if (fun b H' => Same H2 H' ∧ (b = true → rs ≠ [])) ?_ (fun H3 h => ?_) (fun H3 h => ?_)
          · walk_at "rd"
            intro n hn
            have sn := same_new (o := .lst []) hn
            refine ne_nil (.inl (.inl (sn _ _ hl2))) (.inl (.inl upd_same)) ⟨_, rfl, ite2 (fun h => ?_) fun h => ?_⟩
            · have hne : rs ≠ [] := fun e => by
                have hu : us = [] := List.length_eq_zero_iff.mp (by rw [each.1, e]; rfl)
                simp [hu] at h
              exact ⟨⟨by decide, by decide⟩, sn, fun _ => hne⟩
            · exact ⟨sn, fun h => h.elim⟩
          · obtain ⟨s3, hb⟩ := h
            have hl3 := s3 _ _ hl2
            obtain ⟨g, hg⟩ : ∃ g, rs.getLast? = some g := by
              cases e : rs.getLast? with
              | none => exact absurd (List.getLast?_eq_none_iff.mp e) (hb rfl)
              | some g => exact ⟨g, rfl⟩
            have hg' := hg
            rw [List.getLast?_eq_getElem?] at hg'
            obtain ⟨u, hu, du⟩ := each2.2 _ g hg'
            have hlast : us.getLast? = some u := by rw [List.getLast?_eq_getElem?, each.1]; exact hu
            obtain ⟨okg, log⟩ := oks g (List.mem_of_getElem? hg')
            obtain ⟨ga, gt, gus, rfl, hga, hgt, geach⟩ := RF.inv (dp_mono s3 _ _ du)
            obtain ⟨va, vt, vus, rfl, hva, hvt, veach⟩ := RF.inv (dp_mono s3 _ _ d)
            refine l_midG (fun v H' => Same H3 H' ∧ ∃ r, RF.Ok r ∧ r.Low ∧ Dp K H' v r.d) ?_ ?_
            · walk_at "rd"
              refine ⟨us, .inl (.inl (.inl hl3)), _, atI_last hlast, _, .inr hga, _, rfl, us, .inl (.inl (.inl hl3)), _, atI_last hlast, _, .inr hga, _, rfl, g.spares, rfl, _, .inr hva, _, rfl, fun p' hp' => ⟨same_new hp', ⟨g.steps, !g.spares, r.folders⟩, ⟨okg.ne, okg.ok, okg.two, okg.len⟩, log, ?_⟩⟩
              exact .tup (.inl (.inl upd_same)) (.cons (.tup (same_t (same_new hp') hgt) (each_dp (geach.imp fun f u d => dp_mono (same_new hp') _ _ d))) (.cons (.bl _) (.cons (.bl _) .nil)))
            · rintro v' H4 ⟨s4, r', ok', lo', d'⟩
              exact ⟨s3.trans s4, v', r', rfl, ok', lo', d'⟩
          · obtain ⟨s3, _⟩ := h
            exact ⟨s3, v, r, rfl, ok, lo, dp_mono s3 _ _ d⟩
        · rintro σ H3 ⟨s3, v', r', rfl, ok', lo', d'⟩
          have hl3 := s3 _ _ hl2
          refine l_appV rfl rfl hl3 (by rw [each.1]; omega) ⟨rs ++ [r'], _, _, _, rfl, same_mut ((sm.trans s2).trans s3) hL, ⟨_, upd_same, rows_snoc hl3 (each2.imp fun _ _ d => dp_mono s3 _ _ d) d', fun g hg => ?_⟩, by rw [List.length_append, len]; rfl⟩
          exact (List.mem_append.mp hg).elim (oks g) fun e => by rw [List.mem_singleton.mp e]; exact ⟨ok', lo'⟩
    · rintro σ H1 ⟨rs, x5, x6, x7, rfl, s1, h1, h2⟩
      walk_at "rd"
      exact q L rs H1 s1 hL h1 h2

/-! ### the last row that fits -/
def rfit (nms : List (List Nat)) (fo : Bool) (r : RF) : Bool := (!r.folders || fo) && fitGB SF.deepB SF.fitB r.steps nms
def optV : Option Nat → V
  | some i => .int i
  | none => .non
def IsLast (p : RF → Bool) (rs : List RF) (o : Option Nat) : Prop := (∀ i, o = some i → ∃ r, rs[i]? = some r ∧ p r = true) ∧ ∀ j r, rs[j]? = some r → p r = true → ∃ i, o = some i ∧ j ≤ i
theorem IsLast.uniq {p : RF → Bool} {rs : List RF} {a b : Option Nat} (h : IsLast p rs a) (g : IsLast p rs b) : a = b := by
  cases a with
  | none =>
    cases b with
    | none => rfl
    | some j =>
      obtain ⟨r, e, f⟩ := g.1 j rfl
      obtain ⟨i, e2, _⟩ := h.2 j r e f
      cases e2
  | some i =>
    obtain ⟨r, e, f⟩ := h.1 i rfl
    obtain ⟨j, rfl, hj⟩ := g.2 i r e f
    obtain ⟨r', e', f'⟩ := g.1 j rfl
    obtain ⟨i', e2, hi⟩ := h.2 j r' e' f'
    cases e2
    rw [Nat.le_antisymm hj hi]
/-! ### long rows -/
theorem notwo_of : ∀ {fs : List PF}, (∀ f ∈ fs, f.many = false) → NoTwo fs
  | [], _ => trivial
  | [_], _ => trivial
  | f :: g :: r, h => ⟨fun ⟨h1, _⟩ => (by rw [h f List.mem_cons_self] at h1; cases h1), notwo_of (fs := g :: r) fun x hx => h x (List.mem_cons_of_mem _ hx)⟩
theorem cut_butlast {us : List V} : cutV us none (some (-1)) = us.take (us.length - 1) := by
  unfold cutV
  have e : HT.sIx us.length us.length (some (-1)) = us.length - 1 := by
    unfold HT.sIx
    simp
    omega
  rw [e, HT.sIx_none, List.drop_zero, Nat.sub_zero]
theorem Each.take {α : Type} {R : α → V → Hp → Prop} {fs : List α} {us : List V} {H : Hp} (h : Each R fs us H) (k : Nat) : Each R (fs.take k) (us.take k) H :=
  ⟨by rw [List.length_take, List.length_take, h.1], fun i f hf => by
    rw [List.getElem?_take] at hf
    split at hf
    · obtain ⟨u, e, g⟩ := h.2 i f hf
      exact ⟨u, by rw [List.getElem?_take, if_pos (by assumption)]; exact e, g⟩
    · cases hf⟩
/-! ### names as texts -/
theorem names_list : ∀ {us : List V}, (∀ u ∈ us, NmV 400 u) → ∃ nms : List (List Nat), us = nmsV nms ∧ ∀ nm ∈ nms, nm ≠ [] ∧ nm.length ≤ 400 ∧ ∀ c ∈ nm, c ∈ SIG
  | [], _ => ⟨[], rfl, fun _ h => nomatch h⟩
  | u :: r, h => by
    obtain ⟨l, rfl, h1, h2, h3⟩ := h u List.mem_cons_self
    obtain ⟨nms, rfl, hs⟩ := names_list (us := r) fun v hv => h v (List.mem_cons_of_mem _ hv)
    exact ⟨l :: nms, rfl, fun nm hnm => (List.mem_cons.mp hnm).elim (fun e => e ▸ ⟨h1, h2, h3⟩) (hs nm)⟩
/-! ### the numbers of the rows that fit -/
def hitsN (p : RF → Bool) (rs : List RF) (k : Nat) : List Nat := (List.range k).filter fun i => match rs[i]? with
  | some r => p r
  | none => false
/-! ### split, startswith, endswith -/
section
variable {X : Cx}
def rSplit : V → List V → Hp → VK → Prop := fun x xs H Q => match x, xs with
  | .str a, [.str b] => (b.length == 0) = false ∧ a.length + 2 ≤ sizeLine ∧ rNewStrs (Txt.split a b) H Q
  | _, _ => False
theorem mo_split : MtR X "str.split" rSplit := by
  refine MtR.imp mt_split fun x xs H Q h => ?_
  match x, xs, h with
  | .str a, [.str b], ⟨h1, h2, q⟩ => exact ⟨a, b, rfl, rfl, h1, h2, q⟩
end
/-! ### the names of a path -/
def splW (w : List Nat) : List (List Nat) := TL.spl [47] 0 [] w
def folderW (ps : List (List Nat)) : Bool := decide (1 < ps.length) && decide (ps.getLast? = some [])
def nmOk (l : List Nat) : Bool := !decide (l = []) && l.all fun c => decide (c ∈ SIG)
def pathN (w : List Nat) : Option (List (List Nat) × Bool) :=
  let ps := splW w
  let ns := if folderW ps = true then ps.dropLast else ps
  if ns.all nmOk = true then some (ns, folderW ps) else none
theorem pathN_def (w : List Nat) : pathN w = if (if folderW (splW w) = true then (splW w).dropLast else splW w).all nmOk = true then some ((if folderW (splW w) = true then (splW w).dropLast else splW w), folderW (splW w)) else none := rfl
theorem nmOk_iff {l : List Nat} : nmOk l = true ↔ l ≠ [] ∧ ∀ c ∈ l, c ∈ SIG := by
  unfold nmOk
  rw [Bool.and_eq_true, List.all_eq_true]
  simp
theorem spl_ne : ∀ (w acc : List Nat) (k : Nat), TL.spl [47] k acc w ≠ []
  | [], _, _ => by simp [TL.spl]
  | c :: r, acc, 0 => by
    show (if TL.pre [47] (c :: r) = true then acc :: TL.spl [47] 0 [] r else TL.spl [47] 0 (acc ++ [c]) r) ≠ []
    split
    · simp
    · exact spl_ne r _ 0
  | _ :: r, acc, k + 1 => spl_ne r acc k
theorem spl_len : ∀ (w acc : List Nat) (k : Nat), ∀ p ∈ TL.spl [47] k acc w, p.length ≤ acc.length + w.length
  | [], acc, k, p, h => by
    have h' : p ∈ [acc] := by cases k <;> exact h
    rw [List.mem_singleton.mp h']
    exact Nat.le_add_right _ _
  | c :: r, acc, 0, p, h => by
    have h' : p ∈ (if TL.pre [47] (c :: r) = true then acc :: TL.spl [47] 0 [] r else TL.spl [47] 0 (acc ++ [c]) r) := h
    split at h'
    · rcases List.mem_cons.mp h' with rfl | h2
      · exact Nat.le_add_right _ _
      · have := spl_len r [] 0 p h2
        simp only [List.length_nil, List.length_cons] at this ⊢
        omega
    · have := spl_len r (acc ++ [c]) 0 p h'
      rw [List.length_append, List.length_singleton] at this
      rw [List.length_cons]
      omega
  | c :: r, acc, k + 1, p, h => by
    have := spl_len r acc k p h
    rw [List.length_cons]
    omega
theorem path_sub {w : List Nat} {nm : List Nat} (h : nm ∈ (if folderW (splW w) = true then (splW w).dropLast else splW w)) : nm.length ≤ w.length := by
  have hm : nm ∈ splW w := by
    split at h
    · exact List.dropLast_subset _ h
    · exact h
  have := spl_len w [] 0 nm hm
  simp only [List.length_nil] at this
  omega
theorem slash_sig {l : List Nat} (h : ∀ c ∈ l, c ∈ SIG) : 47 ∉ l := fun hm => absurd (h 47 hm) (by decide +kernel)
/-- good names joined -/
theorem pathN_join {nms : List (List Nat)} {fo : Bool} (hne : nms ≠ []) (h : ∀ nm ∈ nms, nm ≠ [] ∧ ∀ c ∈ nm, c ∈ SIG) : pathN (TL.joinL [47] nms ++ (if fo = true then [47] else [])) = some (nms, fo) := by
  have hall : nms.all nmOk = true := List.all_eq_true.mpr fun nm hn => nmOk_iff.mpr (h nm hn)
  cases fo with
  | false =>
    rw [if_neg Bool.false_ne_true, List.append_nil]
    have e : splW (TL.joinL [47] nms) = nms := TL.spl_join hne fun p hp => slash_sig (h p hp).2
    have ef : folderW nms = false := by
      unfold folderW
      rw [Bool.and_eq_false_iff]
      refine .inr (decide_eq_false fun hl => ?_)
      exact (h [] (List.mem_of_getLast? hl)).1 rfl
    rw [pathN_def, e, ef, if_neg Bool.false_ne_true, hall]
    rfl
  | true =>
    rw [if_pos rfl]
    have j : ∀ l : List (List Nat), l ≠ [] → TL.joinL [47] (l ++ [[]]) = TL.joinL [47] l ++ [47] := by
      intro l
      induction l with
      | nil => exact fun h => absurd rfl h
      | cons p r ih =>
        intro _
        cases r with
        | nil => rfl
        | cons q r =>
          show p ++ ([47] ++ TL.joinL [47] ((q :: r) ++ [[]])) = (p ++ ([47] ++ TL.joinL [47] (q :: r))) ++ [47]
          rw [ih (by simp)]
          simp
    have e : splW (TL.joinL [47] nms ++ [47]) = nms ++ [[]] := by
      rw [← j nms hne]
      refine TL.spl_join (by simp) fun p hp => ?_
      exact (List.mem_append.mp hp).elim (fun hp => slash_sig (h p hp).2) fun hp => by rw [List.mem_singleton.mp hp]; exact List.not_mem_nil
    have ef : folderW (nms ++ [[]]) = true := by
      unfold folderW
      rw [Bool.and_eq_true]
      refine ⟨decide_eq_true ?_, decide_eq_true (by simp)⟩
      have := List.length_pos_iff.mpr hne
      rw [List.length_append, List.length_singleton]
      omega
    rw [pathN_def, e, ef, if_pos rfl, List.dropLast_concat, hall]
    rfl

/-! ### names_of -/
def spNamesOf (K : PySem.W.Frag) : Sp := fun vs H Q E => ∃ wd : List Nat, vs = [.str (S wd)] ∧ wd.length ≤ 1000000 ∧
  (∀ ns fo p F H', pathN wd = some (ns, fo) → Same H H' → H' p = some (.tup [.ref F, .bl fo]) → H' F = some (.lst (nmsV ns)) → H F = none → Q (.ref p) H') ∧ (pathN wd = none → ∀ H', Same H H' → E (.ref (fA K "NoPath")) none H')
theorem ok_names_of (T : Txt K mg) : OkD P w K mg base 2 (fA K "names_of") ["path"] [] (spNamesOf K) := by
  refine okD T.F_names_of sc_names_of (fun _ _ _ _ _ _ us hl => match us, hl with | [_], _ => rfl) ?_ ?_
  · rintro vs H Q E ⟨wd, rfl, _⟩
    rfl
  · rintro cdv A outer s H vs Q E hr ⟨wd, rfl, hw, q1, q2⟩
    refine ⟨_, (pss_cons (ps_set (i := 1) sc_names_of.nd rfl (Or.inl rfl) (pe_mid (pe_bmK (K := K) PySem.F.plainAttrs_str PySem.F.slot_str_split PySem.F.type_str_split mo_split (pv 0) (pa_cons pe_str pa_nil))))
  (pss_cons (ps_set (i := 2) sc_names_of.nd rfl (Or.inl rfl) (pe_mid (pe_andK (K := K) (pe_cmpR o_gt (pe_callB (o_lenW (K := K) (w := w)) (by rfl) T.fr_len boot_len (pa_cons (pv 1) pa_nil)) pe_int (nomark _)) (pe_one (pe_cmpR (o_eq (K := K) (hu64 hr)) (pe_ix (o_ix (K := K)) (pv 1) (pe_un un_neg pe_int) (fun _ _ => rfl)) pe_str (nomark _))))))
  (pss_cons (ps_mid (ps_if (pt_mid (pt_tru (K := K) (pv 2) (by intro _; rfl))) (pss_one (ps_expr (pe_bm0K' (K := K) PySem.F.plainAttrs_list PySem.F.slot_list_pop PySem.F.type_list_pop mt_pop (pv 1)))) pss_nil))
  (pss_cons (ps_mid (ps_for (passes_of rfl) rfl (pi_mid (o_it (K := K) rfl (pv 1))) (pg_name (i := 3) sc_names_of.nd rfl (Or.inl rfl)) (pss_one (ps_if (pt_mid (PW.pt (pw_or (pt_cmpR (o_eq (K := K) (hu64 hr)) (pv 3) pe_str (nomark _)) (pw_or1 (pt_not (pt_tru (K := K) (pe_callB (o_all (K := K) rfl) (by rfl) T.fr_all (by decide +kernel) (pa_cons (pe_lc (own := [("sign", 4)]) (g := (gName 4)) (tt := tYes) rfl sc_names_of.nd (pi_mid (o_it (K := K) rfl (pv 3))) (blkOk_by (N := N_names_of) (sc := defScope TX.s_names_of) (by decide +kernel)) (fun _ _ _ _ _ => (pg_name (i := 4) sc_names_of.nd rfl (Or.inl rfl))) (fun _ _ _ _ _ => pts_nil) (fun _ _ _ _ _ => (pe_mid (pe_cal (ok_is_sign T) (hr.mono (by decide)) rfl T.g_is_sign pasN (pa_cons (pv 4) pa_nil))))) pa_nil)) (by intro _; rfl))))))) (pss_one (ps_raise rfl (takes_of rfl rfl rfl rfl) (pmk_own PySem.F.excBase_ValueError T.x_NoPath.1 T.g_NoPath T.x_NoPath.2.1 (raises_own T.x_NoPath.2.2.1 T.x_NoPath.2.2.2) rfl))) pss_nil))))
  (pss_one (ps_ret (pe_tup (pa_cons (pv 1) (pa_cons (pv 2) pa_nil))))))))), ?_⟩
    have tobj := T.obj
    refine q_midG (fun v H' => ∃ F, v = .ref F ∧ Same H H' ∧ H F = none ∧ H' F = some (.lst (nmsV (splW wd)))) ?_ ?_
    · walk_at "rd"
      have e : Txt.split (S wd) (S [47]) = (splW wd).map S := split_S (b := [47]) (by simp) (by decide)
      refine ⟨by decide, by rw [S_len, sizeLine_eq]; omega, fun p hp => ⟨p, rfl, same_new hp, hp, ?_⟩⟩
      rw [upd_same]
      show some (HO.lst ((Txt.split (S wd) (S [47])).map V.str)) = _
      rw [e]
      rfl
    rintro _ H1 ⟨F, rfl, s1, hFn, hF⟩
    have lsp : (nmsV (splW wd)).length = (splW wd).length := nms_len
    have nsp : splW wd ≠ [] := spl_ne wd [] 0
    refine q_midG (fun v H' => H' = H1 ∧ v = .bl (folderW (splW wd))) ?_ ?_
    · walk_at "rd"
      refine .inr ⟨_, .inl ⟨_, .inl (.inl hF), rfl⟩, ?_⟩
      rw [lsp]
      refine ite2 (fun h => ?_) fun h => ?_
      · obtain ⟨nm, hnm⟩ : ∃ nm, (splW wd).getLast? = some nm := by
          cases e : (splW wd).getLast? with
          | none => exact absurd (List.getLast?_eq_none_iff.mp e) nsp
          | some nm => exact ⟨nm, rfl⟩
        have hlast : (nmsV (splW wd)).getLast? = some (.str (S nm)) := by
          unfold nmsV
          rw [List.getLast?_map, List.getLast?_map, hnm]
          rfl
        refine ⟨_, .inl (.inl (.inl hF)), _, atI_last hlast, ?_⟩
        walk_at "rd"
        have e1 : decide (S nm = Str.ofString "") = decide (nm = []) := decide_eq_decide.mpr ⟨fun h => S_inj h, fun h => by rw [h]; rfl⟩
        have e2 : folderW (splW wd) = decide (nm = []) := by
          unfold folderW
          rw [decide_eq_true (show 1 < (splW wd).length from by omega), hnm]
          simp
        rw [e1, e2]
      · have e2 : folderW (splW wd) = false := by
          unfold folderW
          rw [decide_eq_false (show ¬ 1 < (splW wd).length from by omega)]
          rfl
        rw [e2]
        simp
        omega
    rintro _ _ ⟨rfl, rfl⟩
    rename_i H1
    generalize hns : (if folderW (splW wd) = true then (splW wd).dropLast else splW wd) = ns
    have hpn : pathN wd = if ns.all nmOk = true then some (ns, folderW (splW wd)) else none := by rw [← hns]; rfl
    refine q_stm (fun σ H' => Same H H' ∧ H' F = some (.lst (nmsV ns)) ∧ ∃ x3 x4, σ = [some (.str (S wd)), some (.ref F), some (.bl (folderW (splW wd))), x3, x4]) ?_ ?_
    · refine l_if (fun b H' => H' = H1 ∧ b = folderW (splW wd)) (by walk_at "rd") (fun H2 h => ?_) (fun H2 h => ?_)
      · obtain ⟨rfl, hb⟩ := h
        rw [← hb, if_pos rfl] at hns
        walk_at "rd"
        have hl0 : 0 < (nmsV (splW wd)).length := by rw [lsp]; exact List.length_pos_iff.mpr nsp
        refine ⟨⟨_, .inl (.inl hF)⟩, _, hF, ⟨_, List.getElem?_eq_getElem (by omega)⟩, same_mut s1 hFn, ?_⟩
        rw [upd_same, ← hns]
        simp [nmsV]
      · obtain ⟨rfl, hb⟩ := h
        rw [← hb, if_neg Bool.false_ne_true] at hns
        subst hns
        exact ⟨s1, hF, _, _, rfl⟩
    rintro σ H2 ⟨s2, hF2, x3, x4, rfl⟩
    refine q_stm (fun σ H' => Same H H' ∧ H' F = some (.lst (nmsV ns)) ∧ ns.all nmOk = true ∧ ∃ x3 x4, σ = [some (.str (S wd)), some (.ref F), some (.bl (folderW (splW wd))), x3, x4]) ?_ ?_
    · refine for_mid (J0 := Itl K F) (H0 := H2) ?_ (walk_list (K := K) (a := F) (xs := nmsV ns)) (fun k σ H' => Same H2 H' ∧ (ns.take k).all nmOk = true ∧ ∃ x3 x4, σ = [some (.str (S wd)), some (.ref F), some (.bl (folderW (splW wd))), x3, x4]) ⟨Same.refl _, rfl, _, _, rfl⟩ (fun _ _ _ _ h => .inl (.inl (h.1 _ _ hF2))) ?_ (fun σ H' h => ?_)
      · walk_at "rd"
        exact .inl ⟨_, .inl (.inl hF2)⟩
      · rintro k x σ H3 H3' hk ⟨s3, hall, x3, x4, rfl⟩ ⟨rfl, hx⟩
        obtain ⟨nm, hnm, rfl⟩ := nms_at hx
        refine l_if (fun b H' => Same H3' H' ∧ b = !nmOk nm) ?_ (fun H4 h => ?_) (fun H4 h => ?_)
        · walk_at "rd"
          refine ite2 (fun h => ?_) fun h => ?_
          · have e : nm = [] := S_inj h
            rw [e]
            rfl
          have hne : nm ≠ [] := fun e => h (by rw [e]; rfl)
          have hnl : nm.length < 16777216 := by
            have := path_sub (w := wd) (by rw [hns]; exact List.mem_of_getElem? hnm)
            omega
          refine lc_text (z := S nm) (H0 := H3') (fun c => .bl (decide (c ∈ SIG))) ?_ (by rw [S_len]; exact hnl) (fun _ => rfl) ?_ ?_
          · walk_at "rd"
          · intro c H' hc s2
            walk_at "rd"
            refine ⟨⟨#[c]⟩, rfl, (by rw [sizeLine_eq]; show 1 ≤ 16777216; decide), ?_⟩
            walk_at "rd"
            refine decide_eq_decide.mpr ⟨fun ⟨d, hd, e⟩ => ?_, fun hd => ⟨c, hd, rfl⟩⟩
            rw [S1_inj e]
            exact hd
          · intro p' H' hp' s2 hH'
            walk_at "rd"
            refine ⟨nm.map fun c => decide (c ∈ SIG), .inl (.inl (by rw [hH', List.map_map]; rfl)), s2, ?_⟩
            unfold nmOk
            rw [decide_eq_false hne, List.all_map]
            rfl
        · obtain ⟨s4, hb⟩ := h
          have hbad : ¬ ns.all nmOk = true := fun h => by
            have := List.all_eq_true.mp h nm (List.mem_of_getElem? hnm)
            rw [this] at hb
            cases hb
          exact q2 (by rw [hpn, if_neg hbad]) H4 ((s2.trans s3).trans s4)
        · obtain ⟨s4, hb⟩ := h
          have hok : nmOk nm = true := by cases h : nmOk nm <;> simp [h] at hb ⊢
          refine ⟨s3.trans s4, ?_, _, _, rfl⟩
          rw [List.take_succ, hnm, List.all_append, hall]
          simp [hok]
      · obtain ⟨s3, hall, h⟩ := h
        rw [List.take_of_length_le (by rw [nms_len]; exact Nat.le_refl _)] at hall
        exact ⟨s2.trans s3, s3 _ _ hF2, hall, h⟩
    · rintro σ H3 ⟨s3, hF3, hall, x3, x4, rfl⟩
      walk_at "rd"
      intro p hp
      have sp := same_new (o := .tup [V.ref F, V.bl (folderW (splW wd))]) hp
      refine q1 ns _ p F _ ?_ (s3.trans sp) upd_same (sp _ _ hF3) hFn
      rw [hpn, if_pos hall]

/-! ### a path, sign by sign (plain) -/
/-! ### going down -/
def lastN (p : RF → Bool) (rs : List RF) : Option Nat := (hitsN p rs rs.length).getLast?
def stepN (rs : List RF) (nms : List (List Nat)) (fo : Bool) (m : Nat) : Option Nat := lastN (rfit (nms.take m) (fo || decide (m < nms.length))) rs
def stops (rs : List RF) (o : Option Nat) : Bool := match o with
  | some i => match rs[i]? with
    | some r => !r.spares
    | none => false
  | none => false
def IsDown (rs : List RF) (nms : List (List Nat)) (fo : Bool) (b : Bool) (o : Option Nat) : Prop :=
  (b = true ∧ ∃ k, k < nms.length ∧ o = stepN rs nms fo (k + 1) ∧ stops rs o = true ∧ ∀ j, j < k → stops rs (stepN rs nms fo (j + 1)) = false) ∨
  (b = false ∧ o = stepN rs nms fo nms.length ∧ ∀ j, j < nms.length → stops rs (stepN rs nms fo (j + 1)) = false)
theorem IsDown.uniq {rs : List RF} {nms : List (List Nat)} {fo b b' : Bool} {o o' : Option Nat} (h : IsDown rs nms fo b o) (g : IsDown rs nms fo b' o') : b = b' ∧ o = o' := by
  rcases h with ⟨rfl, k, hk, rfl, hs, hj⟩ | ⟨rfl, rfl, hj⟩ <;> rcases g with ⟨rfl, k', hk', rfl, hs', hj'⟩ | ⟨rfl, rfl, hj'⟩
  · rcases Nat.lt_trichotomy k k' with q | q | q
    · rw [hj' k q] at hs; cases hs
    · rw [q]; exact ⟨rfl, rfl⟩
    · rw [hj k' q] at hs'; cases hs'
  · rw [hj' k hk] at hs; cases hs
  · rw [hj k' hk'] at hs'; cases hs'
  · exact ⟨rfl, rfl⟩
def RowsO (K : PySem.W.Frag) (rs : List RF) (l : Addr) (H : Hp) : Prop := ∃ us, SqL K H l us ∧ Each (RowV K) rs us H ∧ (∀ r ∈ rs, RowSz r) ∧ rs.length ≤ 1000
theorem RowsO.mono {rs : List RF} {l : Addr} {H H' : Hp} (h : RowsO K rs l H) (s : Same H H') : RowsO K rs l H' := let ⟨us, a, b, c⟩ := h; ⟨us, same_l s a, b.imp fun _ _ d => d.mono s, c⟩
/-! ### the law's own going down -/
def pairD (b : Bool) (o : Option Nat) : PyData := .tuple [.bool b, match o with
  | some i => .int i
  | none => .none]
theorem pair_dp {H : Hp} {b : Bool} {o : Option Nat} {p : Addr} (h : SqT K H p [.bl b, optV o]) : Dp K H (.ref p) (pairD b o) := by
  cases o with
  | none => exact .tup h (.cons (.bl _) (.cons .non .nil))
  | some i => exact .tup h (.cons (.bl _) (.cons (.int _) .nil))
theorem pair_ok {b : Bool} {o : Option Nat} : DOk 1 (pairD b o) := dok_tup (all_cons dok_bl (all_cons (by cases o <;> first | exact dok_non | exact dok_int) all_nil))
/-! ### a text, several times -/
/-! ### dicts: their data compared; zip -/
/-- dicts of like data -/
def SameDD (K : PySem.W.Frag) (H : Hp) (ks ls : List (Key × V)) : Prop := ks.length = ls.length ∧ ∀ p ∈ ks, ∃ u d, valV ls p.1 = some u ∧ Dp K H p.2 d ∧ Dp K H u d ∧ DOk 50 d
section
variable {X : Cx}
end
/-- a key's value by the text -/
theorem dget_s {H : Hp} {a : Addr} {kvs : List (Key × V)} {z : Str} {v : V} (h : H a = some (.dK kvs)) (e : valV kvs (.inr z) = some v) : DGet H a (.str z) (some v) := e ▸ DGet.k (k := .inr z) h
theorem dput_s {H : Hp} {a : Addr} {kvs : List (Key × V)} {z : Str} {v : V} (h : H a = some (.dK kvs)) (hl : kvs.length < 16777216) : DPut H a (.str z) v (upd H a (.dK (putK kvs (.inr z) v))) := DPut.k (k := .inr z) h (by rw [sizeLine_eq]; exact hl)
theorem q_newM {i : Nat} {u : TS} {D : Ends} {σ : L2.St} {H : Hp} (h : ∀ p, H p = none → u D (σ.set i (some (.ref p))) (upd H p (.lst []))) : tSeq (tAsg (tMid (tLst tNil)) (gName i)) u D σ H := by
  refine q_midG (fun v H' => ∃ p, v = .ref p ∧ H p = none ∧ H' = upd H p (.lst [])) ?_ ?_
  · unfold tLst tNil
    exact ⟨Nat.zero_le _, fun p hp => ⟨p, rfl, hp, rfl⟩⟩
  · rintro _ _ ⟨p, rfl, hp, rfl⟩
    exact h p hp
/-! ### all_told: a dict of what told tells -/
def addN (acc : List (List Nat)) (w : List Nat) : List (List Nat) := if w ∈ acc then acc else acc ++ [w]
def onceN (ws : List (List Nat)) : List (List Nat) := ws.foldl addN []
theorem once_take {ws : List (List Nat)} {k : Nat} {w : List Nat} (h : ws[k]? = some w) : onceN (ws.take (k + 1)) = addN (onceN (ws.take k)) w := by
  unfold onceN
  rw [List.take_succ, h, List.foldl_append]
  rfl
def ToldV (rs : List RF) (w : List Nat) (v : V) (H : Hp) : Prop := ∃ t nms fo b o, v = .ref t ∧ H t = some (.tup [.bl b, optV o]) ∧ pathN w = some (nms, fo) ∧ IsDown rs nms fo b o
theorem ToldV.nl {rs : List RF} {w : List Nat} {v : V} {H H' : Hp} (h : ToldV rs w v H) (s : ∀ a t, H a = some (.tup t) → H' a = some (.tup t)) : ToldV rs w v H' := let ⟨t, a, b, c, d, e, f, g⟩ := h; ⟨t, a, b, c, d, e, s _ _ f, g⟩
theorem ToldV.mono {rs : List RF} {w : List Nat} {v : V} {H H' : Hp} (h : ToldV rs w v H) (s : Same H H') : ToldV rs w v H' := h.nl fun _ _ e => s _ _ e
/-- a dict of what is told of each of these paths -/
structure ToldD (rs : List RF) (ws : List (List Nat)) (kvs : List (Key × V)) (H : Hp) : Prop where
  keys : kvs.map (·.1) = (onceN ws).map fun w => (Sum.inr (S w) : Key)
  each : ∀ q ∈ kvs, ∃ w, q.1 = .inr (S w) ∧ ToldV rs w q.2 H
theorem valV_pair {kvs : List (Key × V)} {k : Key} {v : V} (h : valV kvs k = some v) : (k, v) ∈ kvs := by
  unfold valV at h
  cases e : kvs.find? (fun kv => decide (kv.1 = k)) with
  | none => rw [e] at h; cases h
  | some q =>
    rw [e] at h
    have h1 := List.mem_of_find?_eq_some e
    have h3 : decide (q.1 = k) = true := List.find?_some (p := fun kv : Key × V => decide (kv.1 = k)) e
    have h2 := of_decide_eq_true h3
    obtain ⟨a, b⟩ := q
    cases (show some b = some v from h)
    cases (show a = k from h2)
    exact h1
theorem ToldD.vals {rs : List RF} {ws : List (List Nat)} {kvs : List (Key × V)} {H : Hp} (h : ToldD rs ws kvs H) (w : List Nat) (v : V) (e : valV kvs (.inr (S w)) = some v) : ToldV rs w v H := by
  obtain ⟨w', e1, e2⟩ := h.each _ (valV_pair e)
  have e3 : S w = S w' := Sum.inr.inj e1
  rw [S_inj e3]
  exact e2
theorem putK_mem {kvs : List (Key × V)} {k : Key} {v : V} {q : Key × V} (h : q ∈ putK kvs k v) : q ∈ kvs ∨ q = (k, v) := by
  unfold putK at h
  split at h
  · obtain ⟨x, hx, e⟩ := List.mem_map.mp h
    split at e
    · rename_i e2
      rw [e2] at e
      exact .inr e.symm
    · exact .inl (e ▸ hx)
  · exact (List.mem_append.mp h).imp id List.mem_singleton.mp
theorem ToldD.mono {rs : List RF} {ws : List (List Nat)} {kvs : List (Key × V)} {H H' : Hp} (h : ToldD rs ws kvs H) (s : Same H H') : ToldD rs ws kvs H' := ⟨h.keys, fun q hq => let ⟨w, a, b⟩ := h.each q hq; ⟨w, a, b.mono s⟩⟩
theorem valV_some {kvs : List (Key × V)} {k : Key} (h : k ∈ kvs.map (·.1)) : ∃ v, valV kvs k = some v := by
  cases e : valV kvs k with
  | some v => exact ⟨v, rfl⟩
  | none => exact absurd h (valV_not e)
theorem key_mem {ws : List (List Nat)} {w : List Nat} : (Sum.inr (S w) : Key) ∈ ws.map (fun w => (Sum.inr (S w) : Key)) ↔ w ∈ ws := by
  rw [List.mem_map]
  refine ⟨fun ⟨x, hx, e⟩ => ?_, fun h => ⟨w, h, rfl⟩⟩
  have e2 : S x = S w := Sum.inr.inj e
  rw [← S_inj e2]
  exact hx
theorem ToldD.put {rs : List RF} {ws : List (List Nat)} {kvs : List (Key × V)} {H : Hp} (h : ToldD rs ws kvs H) {k : Nat} {w : List Nat} {v : V} (hw : ToldV rs w v H) {us : List (List Nat)} (hu : ws = us.take k) (hk : us[k]? = some w) : ToldD rs (us.take (k + 1)) (putK kvs (.inr (S w)) v) H := by
  subst hu
  refine ⟨?_, fun q hq => ?_⟩
  · rw [once_take hk]
    unfold addN
    by_cases hm : w ∈ onceN (us.take k)
    · rw [if_pos hm, ← h.keys]
      have hany : (kvs.any fun kv => decide (kv.1 = (Sum.inr (S w) : Key))) = true := by
        rw [valV_any]
        have : (Sum.inr (S w) : Key) ∈ kvs.map (·.1) := by rw [h.keys]; exact key_mem.mpr hm
        obtain ⟨v0, e⟩ := valV_some this
        rw [e]; rfl
      unfold putK
      rw [if_pos hany, List.map_map]
      refine List.map_congr_left fun p _ => ?_
      show (if p.1 = Sum.inr (S w) then (p.1, v) else p).1 = p.1
      split <;> rfl
    · rw [if_neg hm, List.map_append, ← h.keys]
      have hn : valV kvs (Sum.inr (S w) : Key) = none := by
        cases e : valV kvs (Sum.inr (S w) : Key) with
        | none => rfl
        | some v0 =>
          have := valV_in e
          rw [h.keys] at this
          exact absurd (key_mem.mp this) hm
      rw [putK_new v hn, List.map_append]
      rfl
  · rcases putK_mem hq with h1 | rfl
    · exact h.each q h1
    · exact ⟨w, rfl, hw⟩
/-- two dicts of the same paths tell alike -/
theorem ToldD.same {rs : List RF} {ws : List (List Nat)} {ks ls : List (Key × V)} {H : Hp} (h : ToldD rs ws ks H) (g : ToldD rs ws ls H) : SameDD K H ks ls := by
  refine ⟨?_, fun q hq => ?_⟩
  · have := congrArg List.length (h.keys.trans g.keys.symm)
    rwa [List.length_map, List.length_map] at this
  · obtain ⟨w, e, t, nms, fo, b, o, e1, e2, e3, e4⟩ := h.each q hq
    have hm : q.1 ∈ ls.map (·.1) := by
      rw [g.keys, ← h.keys]
      exact List.mem_map.mpr ⟨q, hq, rfl⟩
    obtain ⟨v, hv⟩ := valV_some hm
    have hv' := hv
    rw [e] at hv'
    obtain ⟨t', nms', fo', b', o', f1, f2, f3, f4⟩ := g.vals w v hv'
    rw [e3] at f3
    cases f3
    obtain ⟨rfl, rfl⟩ := f4.uniq e4
    refine ⟨v, pairD b' o', hv, ?_, ?_, pair_ok.up (by decide)⟩
    · rw [e1]; exact pair_dp (.inl (.inl e2))
    · rw [f1]; exact pair_dp (.inl (.inl f2))
/-! ### plain: going down, one name more -/
theorem join_len {b : Nat} : ∀ {ls : List (List Nat)}, (∀ l ∈ ls, l.length ≤ b) → (TL.joinL [47] ls).length ≤ (b + 1) * ls.length
  | [], _ => Nat.zero_le _
  | [p], h => by
    have := h p List.mem_cons_self
    show p.length ≤ _
    simp only [List.length_cons, List.length_nil]
    omega
  | p :: q :: r, h => by
    have h1 := h p List.mem_cons_self
    have h2 := join_len (ls := q :: r) fun l hl => h l (List.mem_cons_of_mem _ hl)
    show (p ++ ([47] ++ TL.joinL [47] (q :: r))).length ≤ _
    rw [List.length_append, List.length_append, List.length_cons (as := q :: r), Nat.mul_succ]
    simp only [List.length_cons, List.length_nil] at h2 ⊢
    omega
theorem sum_len {b : Nat} : ∀ {ls : List (List Nat)}, (∀ l ∈ ls, l.length ≤ b) → ((ls.map S).map (·.length)).sum ≤ b * ls.length
  | [], _ => Nat.zero_le _
  | p :: r, h => by
    have h1 := h p List.mem_cons_self
    have h2 := sum_len (ls := r) fun l hl => h l (List.mem_cons_of_mem _ hl)
    rw [List.map_cons, List.map_cons, List.sum_cons, S_len, List.length_cons, Nat.mul_succ]
    omega
theorem Each.app {α : Type} {R : α → V → Hp → Prop} {as bs : List α} {us vs : List V} {H : Hp} (h : Each R as us H) (g : Each R bs vs H) : Each R (as ++ bs) (us ++ vs) H := by
  refine ⟨by rw [List.length_append, List.length_append, h.1, g.1], fun i f hf => ?_⟩
  rcases Nat.lt_or_ge i as.length with e | e
  · rw [List.getElem?_append_left e] at hf
    obtain ⟨u, a, b⟩ := h.2 i f hf
    exact ⟨u, by rw [List.getElem?_append_left (by rw [h.1]; exact e)]; exact a, b⟩
  · rw [List.getElem?_append_right e] at hf
    obtain ⟨u, a, b⟩ := g.2 _ f hf
    exact ⟨u, by rw [List.getElem?_append_right (by rw [h.1]; exact e), h.1]; exact a, b⟩
theorem join_mem {c : Nat} : ∀ {ls : List (List Nat)}, c ∈ TL.joinL [47] ls → c = 47 ∨ ∃ l ∈ ls, c ∈ l
  | [], h => nomatch h
  | [p], h => .inr ⟨p, List.mem_cons_self, h⟩
  | p :: q :: r, h => by
    have h' : c ∈ p ++ ([47] ++ TL.joinL [47] (q :: r)) := h
    rcases List.mem_append.mp h' with h | h
    · exact .inr ⟨p, List.mem_cons_self, h⟩
    · rcases List.mem_append.mp h with h | h
      · exact .inl (List.mem_singleton.mp h)
      · exact (join_mem h).imp id fun ⟨l, hl, hc⟩ => ⟨l, List.mem_cons_of_mem _ hl, hc⟩
/-- a good path by its names -/
structure GoodP (w : List Nat) (nms : List (List Nat)) (fo : Bool) : Prop where
  eq : w = TL.joinL [47] nms ++ (if fo = true then [47] else [])
  ne : nms ≠ []
  len : nms.length ≤ 60
  nm : ∀ nm ∈ nms, nm ≠ [] ∧ nm.length ≤ 400 ∧ ∀ c ∈ nm, c ∈ SIG
theorem GoodP.size {w : List Nat} {nms : List (List Nat)} {fo : Bool} (h : GoodP w nms fo) : w.length ≤ 30000 := by
  have lj := join_len (b := 400) fun nm hm => (h.nm nm hm).2.1
  have := h.len
  rw [h.eq, List.length_append]
  split <;> simp <;> omega
theorem GoodP.sg {w : List Nat} {nms : List (List Nat)} {fo : Bool} (h : GoodP w nms fo) : ∀ c ∈ w, c = 47 ∨ c ∈ SIG := fun c hc => by
  rw [h.eq] at hc
  rcases List.mem_append.mp hc with hc | hc
  · exact (join_mem hc).imp id fun ⟨l, hl, hc⟩ => (h.nm l hl).2.2 c hc
  · split at hc
    · exact .inl (List.mem_singleton.mp hc)
    · cases hc
theorem GoodP.dok {w : List Nat} {nms : List (List Nat)} {fo : Bool} (h : GoodP w nms fo) : PyData.strOk (S w) = true := by
  have k : ∀ c ∈ SIG, c < 128 := by decide +kernel
  unfold PyData.strOk
  rw [← Array.all_toList, List.all_eq_true]
  exact fun c hc => decide_eq_true ((h.sg c hc).elim (fun e => by omega) fun h => Nat.lt_trans (k c h) (by decide))
theorem txts_dp {H : Hp} {p : Addr} {ws : List (List Nat)} (h : SqL K H p (nmsV ws)) : Dp K H (.ref p) (.list (ws.map fun w => .str (S w))) := .lst h (by
  unfold nmsV
  rw [List.map_map]
  exact dp_map (fun w => V.str (S w)) (fun w => PyData.str (S w)) (fun w => .str _) ws)
theorem txts_ok {ws : List (List Nat)} (h : ∀ w ∈ ws, PyData.strOk (S w) = true) : DOk 1 (.list (ws.map fun w => .str (S w))) := dok_lst fun d hd => by
  obtain ⟨w, hw, rfl⟩ := List.mem_map.mp hd
  exact dok_str (h w hw)
theorem txt_ok {w : List Nat} (h : ∀ c ∈ w, c = 47 ∨ c ∈ SIG) : PyData.strOk (S w) = true := by
  have k : ∀ c ∈ SIG, c < 128 := by decide +kernel
  unfold PyData.strOk
  rw [← Array.all_toList, List.all_eq_true]
  exact fun c hc => decide_eq_true ((h c hc).elim (fun e => by omega) fun h => Nat.lt_trans (k c h) (by decide))
theorem eq_dat {n : Nat} {d : PyData} {u v : V} {H : Hp} {Q : VK} (ok : DOk n d) (hn : n ≤ 64) (h1 : Dp K H u d) (h2 : Dp K H v d) (q : Q (.bl true) H) : rEqR K u v H Q := by
  refine .inl ⟨d, d, h1, h2, ok.shaped hn, ok.shaped hn, ?_⟩
  rw [ok.eqv]
  exact q

/-! ### texts put in order: the one list -/
section
variable {X : Cx}
end
/-! ### trees as dicts -/
/-- a name of a tree: signs of names, one at least -/
def NmOk (nm : List Nat) : Prop := nm ≠ [] ∧ nm.length ≤ 1000 ∧ ∀ c ∈ nm, c ∈ SIG
abbrev Names := List (List Nat)
/-- what stands in a folder, in the dict's order -/
def kidE (al : Names → Addr) (e : Names × Bool) : Key × V := (.inr (S (e.1.getLastD [])), if e.2 = true then .ref (al e.1) else .non)
def inF (p : Names) (e : Names × Bool) : Bool := decide (e.1.dropLast = p)
def kids (E : List (Names × Bool)) (al : Names → Addr) (p : Names) : List (Key × V) := (E.filter (inF p)).map (kidE al)
def kidN (E : List (Names × Bool)) (p : Names) : List (List Nat) := (E.filter (inF p)).map fun e => e.1.getLastD []
/-- the entries of a tree: each once, folders ahead, names of signs -/
structure EOk (E : List (Names × Bool)) : Prop where
  nd : (E.map (·.1)).Nodup
  ne : ∀ e ∈ E, e.1 ≠ []
  up : ∀ e ∈ E, e.1.dropLast = [] ∨ (e.1.dropLast, true) ∈ E
  nm : ∀ e ∈ E, ∀ nm ∈ e.1, NmOk nm
  deep : ∀ e ∈ E, e.1.length ≤ 9
def Fold (E : List (Names × Bool)) (p : Names) : Prop := p = [] ∨ (p, true) ∈ E
structure TreeE (E : List (Names × Bool)) (al : Names → Addr) (H : Hp) : Prop where
  ok : EOk E
  at_ : ∀ p, Fold E p → H (al p) = some (.dK (kids E al p))
  inj : ∀ p q, Fold E p → Fold E q → al p = al q → p = q
theorem TreeE.mono {E : List (Names × Bool)} {al : Names → Addr} {H H' : Hp} (h : TreeE E al H) (s : Same H H') : TreeE E al H' := ⟨h.ok, fun p hp => s _ _ (h.at_ p hp), h.inj⟩
/-! how many there are -/
/-! ### the paths within a folder, by the program and by the law -/
/-! ### a tree that grows -/
theorem kidN_snoc {E : List (Names × Bool)} {e : Names × Bool} {q : Names} : kidN (E ++ [e]) q = kidN E q ++ (if e.1.dropLast = q then [e.1.getLastD []] else []) := by
  unfold kidN
  rw [List.filter_append, List.map_append]
  congr 1
  unfold inF
  by_cases h : e.1.dropLast = q <;> simp [h]
theorem Fold.more {E E' : List (Names × Bool)} {p : Names} (h : Fold E p) (s : ∀ e ∈ E, e ∈ E') : Fold E' p := h.imp id (s _)
structure Grow (E E' : List (Names × Bool)) (nms : Names) (k : Nat) : Prop where
  sub : ∀ e ∈ E, e ∈ E'
  new : ∀ e ∈ E', e ∈ E ∨ ∃ i, 0 < i ∧ i ≤ k ∧ e.1 = nms.take i ∧ (i < nms.length → e.2 = true)
  len : E'.length ≤ E.length + k
  kid : ∀ p, (kidN E' p).length ≤ (kidN E p).length + if p.length < k then 1 else 0
theorem Grow.refl {E : List (Names × Bool)} {nms : Names} : Grow E E nms 0 := ⟨fun _ h => h, fun _ h => .inl h, Nat.le_refl _, fun p => Nat.le_add_right _ _⟩
theorem Grow.same {E E' : List (Names × Bool)} {nms : Names} {k : Nat} (g : Grow E E' nms k) : Grow E E' nms (k + 1) :=
  ⟨g.sub, fun e he => (g.new e he).imp id fun ⟨i, a, b, c⟩ => ⟨i, a, by omega, c⟩, by have := g.len; omega, fun p => by have := g.kid p; split at this <;> split <;> omega⟩
theorem Grow.snoc {E E' : List (Names × Bool)} {nms : Names} {k : Nat} {nm : List Nat} {fo : Bool} (g : Grow E E' nms k) (hk : nms[k]? = some nm) (hf : k + 1 < nms.length → fo = true) : Grow E (E' ++ [(nms.take k ++ [nm], fo)]) nms (k + 1) := by
  have tk : nms.take (k + 1) = nms.take k ++ [nm] := by rw [List.take_succ, hk]; rfl
  have hl : k < nms.length := (List.getElem?_eq_some_iff.mp hk).1
  refine ⟨fun e he => List.mem_append_left _ (g.sub e he), fun e he => ?_, by rw [List.length_append, List.length_singleton]; have := g.len; omega, fun p => ?_⟩
  · rcases List.mem_append.mp he with h | h
    · exact (g.new e h).imp id fun ⟨i, a, b, c⟩ => ⟨i, a, by omega, c⟩
    · rw [List.mem_singleton.mp h]
      exact .inr ⟨k + 1, by omega, Nat.le_refl _, tk.symm, hf⟩
  · have h := g.kid p
    rw [kidN_snoc, List.length_append]
    by_cases e : nms.take k = p
    · rw [if_pos (by simpa using e)]
      have lp : p.length = k := by rw [← e, List.length_take]; omega
      rw [if_neg (by omega)] at h
      rw [if_pos (by omega)]
      simp only [List.length_singleton]
      omega
    · rw [if_neg (by simpa using e)]
      split at h <;> split <;> simp only [List.length_nil] <;> omega
/-! ### trees drawn -/
/-! ### what every law here promises -/
def spLaw (K : PySem.W.Frag) : Sp := fun vs H Q _ => ∃ a, ∃ ns : List Int, vs = [.ref a] ∧ SqL K H a (ns.map V.int) ∧ ns.length ≤ 63 ∧ ∀ H', Q (.bl true) H'
theorem law_len {vs : List V} {H : Hp} {Q : VK} {E : XK} (h : spLaw K vs H Q E) : vs.length = ["_law_script"].length := by
  obtain ⟨a, ns, rfl, _⟩ := h
  rfl
theorem law_sp {a : Addr} {ns : List Int} {H : Hp} (hs : SqL K H a (ns.map V.int)) (hl : ns.length ≤ 63) (hb : ∀ z ∈ ns, Builtin.Int.intBits z ≤ 1048576) : spLaw K [.ref a] H (fun v _ => v = .bl true) fun _ _ _ => False := ⟨a, ns, rfl, hs, hl, fun _ => rfl⟩

/-! ### what is written of parts, steps and rows -/
/-! ### the place of a sign in a text; blanks cut off -/
section
variable {X : Cx}
end
/-! ### the signs of a set's text -/
/-! ### a set's text, a step's text -/
/-! ### a step's text, a row's text -/
/-! ### lists written, lists read -/
section
variable {X : Cx}
end
/-! ### reading gives what was written -/
/-! ### a row's text, a list's text read -/
/-! ### the law's own texts -/
/-! ### kept but for lists and dicts; dicts of lists -/
def ND (H H' : Hp) : Prop := ∀ a o, H a = some o → (∀ l, o ≠ .lst l) → (∀ ks, o ≠ .dK ks) → (∀ q ks, o ≠ .frz q (.dK ks)) → H' a = some o
theorem ND.of {H H' : Hp} (e : Same H H') : ND H H' := fun a o h _ _ _ => e a o h
theorem ND.nl {H H' : Hp} (e : NL H H') : ND H H' := fun a o h n _ _ => e a o h n
theorem ND.trans {H H1 H2 : Hp} (a : ND H H1) (b : ND H1 H2) : ND H H2 := fun c o h n m w => b c o (a c o h n m w) n m w
theorem ND.dict {H : Hp} {d : Addr} {ks : List (Key × V)} {o : HO} (h : H d = some (.dK ks)) : ND H (upd H d o) := fun a u e _ m _ => by
  have q : a ≠ d := fun z => by
    rw [z, h] at e
    exact m ks (Option.some.inj e).symm
  rw [upd_ne q]
  exact e
theorem ND.frz {H : Hp} {d : Addr} {q : Obj} {ks : List (Key × V)} {o : HO} (h : H d = some (.frz q (.dK ks))) : ND H (upd H d o) := fun a u e _ _ m => by
  have n : a ≠ d := fun z => by
    rw [z, h] at e
    exact m q ks (Option.some.inj e).symm
  rw [upd_ne n]
  exact e
theorem ND.lst {H : Hp} {d : Addr} {l : List V} {o : HO} (h : H d = some (.lst l)) : ND H (upd H d o) := .nl (nl_upd h)
theorem sqT_nd {K : PySem.W.Frag} {H H' : Hp} {a : Addr} {xs : List V} (h : SqT K H a xs) (e : ND H H') : SqT K H' a xs := by
  rcases h with (h | ⟨o, h⟩) | h
  · exact .inl (.inl (e _ _ h (fun _ z => nomatch z) (fun _ z => nomatch z) fun _ _ z => nomatch z))
  · exact .inl (.inr ⟨o, e _ _ h (fun _ z => nomatch z) (fun _ z => nomatch z) fun _ _ z => nomatch z⟩)
  · exact .inr h
mutual
theorem dp_nd {K : PySem.W.Frag} {H H' : Hp} (e : ND H H') : ∀ (d : PyData) (v : V), tupB d = true → Dp K H v d → Dp K H' v d
  | .none, _, _, .non => .non
  | .bool _, _, _, .bl b => .bl b
  | .int _, _, _, .int i => .int i
  | .str _, _, _, .str x => .str x
  | .tuple ds, _, t, .tup h a => .tup (sqT_nd h e) (dpAll_nd e ds _ (by simpa only [tupB] using t) a)
  | .list ds, _, t, _ => by simp [tupB] at t
theorem dpAll_nd {K : PySem.W.Frag} {H H' : Hp} (e : ND H H') : ∀ (ds : List PyData) (vs : List V), tupBs ds = true → DpAll K H vs ds → DpAll K H' vs ds
  | [], _, _, .nil => .nil
  | d :: ds, _, t, .cons h a => by
    have t' : tupB d = true ∧ tupBs ds = true := by simpa only [tupBs, Bool.and_eq_true] using t
    exact .cons (dp_nd e d _ t'.1 h) (dpAll_nd e ds _ t'.2 a)
end
theorem PartO.nd {K : PySem.W.Frag} {dx : Addr} {f : PF} (l : List (Key × V)) : PartO K dx f ≠ .dK l := by cases f <;> exact fun h => nomatch h
theorem PartO.nf {K : PySem.W.Frag} {dx : Addr} {f : PF} (q : Obj) (l : List (Key × V)) : PartO K dx f ≠ .frz q (.dK l) := by cases f <;> exact fun h => nomatch h
theorem PartV.nd {K : PySem.W.Frag} {f : PF} {v : V} {H H' : Hp} (h : PartV K f v H) (e : ND H H') : PartV K f v H' := let ⟨p, dx, ev, hp⟩ := h; ⟨p, dx, ev, e _ _ hp PartO.nl PartO.nd PartO.nf⟩
theorem PartsV.nd {K : PySem.W.Frag} {fs : List PF} {us : List V} {H H' : Hp} (h : PartsV K fs us H) (e : ND H H') : PartsV K fs us H' := ⟨h.1, fun i f hf => let ⟨u, a, b⟩ := h.2 i f hf; ⟨u, a, b.nd e⟩⟩
theorem StepV.nd {K : PySem.W.Frag} {f : SF} {v : V} {H H' : Hp} (h : StepV K f v H) (e : ND H H') : StepV K f v H' := by
  cases f with
  | deep => obtain ⟨p, dx, a, b⟩ := h; exact ⟨p, dx, a, e _ _ b (fun _ z => nomatch z) (fun _ z => nomatch z) fun _ _ z => nomatch z⟩
  | seg fs => obtain ⟨p, dx, t, us, a, b, c, d, z⟩ := h; exact ⟨p, dx, t, us, a, e _ _ b (fun _ z => nomatch z) (fun _ z => nomatch z) (fun _ _ z => nomatch z), e _ _ c (fun _ z => nomatch z) (fun _ z => nomatch z) (fun _ _ z => nomatch z), d.nd e, z⟩
theorem RowV.nd {K : PySem.W.Frag} {r : RF} {v : V} {H H' : Hp} (h : RowV K r v H) (e : ND H H') : RowV K r v H' := by
  obtain ⟨p, dx, t, us, a, b, c, d, z⟩ := h
  exact ⟨p, dx, t, us, a, e _ _ b (fun _ z => nomatch z) (fun _ z => nomatch z) (fun _ _ z => nomatch z), e _ _ c (fun _ z => nomatch z) (fun _ z => nomatch z) (fun _ _ z => nomatch z), d.imp fun _ _ s => s.nd e, z⟩
/-- behind a lock on a dict -/
theorem same_unlock {H H2 : Hp} {d : Addr} {o u : HO} (h : H d = some u) (s : Same (upd H d o) H2) : Same H (upd H2 d u) := fun a v e => by
  by_cases hd : a = d
  · subst hd
    rw [upd_same]
    exact (h.symm.trans e)
  · rw [upd_ne hd]
    exact s a v (by rw [upd_ne hd]; exact e)
/-- what a dict of lists holds -/
abbrev LE := List Nat × List RF
structure Lsts (R : RF → V → Hp → Prop) (es : List LE) (kvs : List (Key × V)) (H : Hp) : Prop where
  keys : kvs.map (·.1) = es.map fun e => (Sum.inr (S e.1) : Key)
  vals : Each (fun (e : LE) u H => ∃ L us, u = .ref L ∧ H L = some (.lst us) ∧ Each R e.2 us H) es (kvs.map (·.2)) H
section
variable {R : RF → V → Hp → Prop} {es : List LE} {kvs : List (Key × V)} {H H' : Hp}
theorem Lsts.len (h : Lsts R es kvs H) : kvs.length = es.length := by
  have := congrArg List.length h.keys
  rwa [List.length_map, List.length_map] at this
theorem Lsts.mono (h : Lsts R es kvs H) (s : Same H H') (r : ∀ f u, R f u H → R f u H') : Lsts R es kvs H' :=
  ⟨h.keys, h.vals.imp fun _ _ ⟨L, us, e, l, x⟩ => ⟨L, us, e, s _ _ l, x.imp fun f u => r f u⟩⟩
/-- a dict that is no list changes -/
theorem Lsts.dict {d : Addr} {ks : List (Key × V)} {o : HO} (h : Lsts R es kvs H) (hd : H d = some (.dK ks)) (r : ∀ f u, R f u H → R f u (upd H d o)) : Lsts R es kvs (upd H d o) :=
  ⟨h.keys, h.vals.imp fun _ _ ⟨L, us, e, l, x⟩ => ⟨L, us, e, by
    rw [upd_ne (fun z => by rw [z, hd] at l; cases l)]
    exact l, x.imp fun f u => r f u⟩⟩
theorem Lsts.unlock {d : Addr} {q : Obj} {ks : List (Key × V)} {o : HO} (h : Lsts R es kvs H) (hd : H d = some (.frz q (.dK ks))) (r : ∀ f u, R f u H → R f u (upd H d o)) : Lsts R es kvs (upd H d o) :=
  ⟨h.keys, h.vals.imp fun _ _ ⟨L, us, e, l, x⟩ => ⟨L, us, e, by
    rw [upd_ne (fun z => by rw [z, hd] at l; cases l)]
    exact l, x.imp fun f u => r f u⟩⟩
theorem Lsts.nil : Lsts R [] [] H := ⟨rfl, .nil⟩
theorem Lsts.at_ (h : Lsts R es kvs H) {i : Nat} {k : Key} {v : V} (hk : kvs[i]? = some (k, v)) : ∃ e L us, es[i]? = some e ∧ k = .inr (S e.1) ∧ v = .ref L ∧ H L = some (.lst us) ∧ Each R e.2 us H := by
  have h1 : (kvs.map (·.1))[i]? = some k := by rw [List.getElem?_map, hk]; rfl
  have h2 : (kvs.map (·.2))[i]? = some v := by rw [List.getElem?_map, hk]; rfl
  obtain ⟨e, he, L, us, ev, hl, hr⟩ := h.vals.at' h2
  rw [h.keys, List.getElem?_map, he] at h1
  exact ⟨e, L, us, he, (Option.some.inj h1).symm, ev, hl, hr⟩
theorem val_get : ∀ {es : List LE} {kvs : List (Key × V)} {i : Nat} {e : LE} {v : V}, kvs.map (·.1) = es.map (fun e => (Sum.inr (S e.1) : Key)) → (es.map (·.1)).Nodup → es[i]? = some e → (kvs.map (·.2))[i]? = some v → valV kvs (.inr (S e.1)) = some v
  | [], _, i, e, v, _, _, h, _ => by simp at h
  | x :: r, [], i, e, v, hk, _, _, _ => by simp at hk
  | x :: r, (k, u) :: t, 0, e, v, hk, _, h, hv => by
    have e1 : x = e := by simpa using h
    subst e1
    have e2 : u = v := by simpa using hv
    subst e2
    have e3 : k = .inr (S x.1) := by
      have := List.head_eq_of_cons_eq hk
      exact this
    exact valV_pos (p := (k, u)) e3
  | x :: r, (k, u) :: t, i + 1, e, v, hk, nd, h, hv => by
    have e3 : k = .inr (S x.1) := List.head_eq_of_cons_eq hk
    have nd' := List.nodup_cons.mp nd
    have hr : r[i]? = some e := by simpa using h
    have hne : ¬ k = .inr (S e.1) := fun z => by
      rw [e3] at z
      have z2 := S_inj (Sum.inr.inj z)
      exact nd'.1 (List.mem_map.mpr ⟨e, List.mem_of_getElem? hr, z2.symm⟩)
    rw [valV_neg (p := (k, u)) hne]
    exact val_get (List.tail_eq_of_cons_eq hk) nd'.2 hr (by simpa using hv)
theorem Lsts.get (h : Lsts R es kvs H) (nd : (es.map (·.1)).Nodup) {i : Nat} {e : LE} (he : es[i]? = some e) : ∃ L us, valV kvs (.inr (S e.1)) = some (.ref L) ∧ H L = some (.lst us) ∧ Each R e.2 us H := by
  obtain ⟨u, hu, L, us, rfl, hl, hr⟩ := h.vals.2 i e he
  exact ⟨L, us, val_get h.keys nd he hu, hl, hr⟩
def putE (es : List LE) (f : List Nat) (rs : List RF) : List LE := if (es.any fun e => decide (e.1 = f)) = true then es.map (fun e => if e.1 = f then (e.1, rs) else e) else es ++ [(f, rs)]
theorem putE_new {f : List Nat} {rs : List RF} (h : ∀ e ∈ es, e.1 ≠ f) : putE es f rs = es ++ [(f, rs)] := by
  unfold putE
  refine if_neg fun z => ?_
  obtain ⟨e, he, e2⟩ := List.any_eq_true.mp z
  exact h e he (of_decide_eq_true e2)
theorem putE_keys {f : List Nat} {rs : List RF} (nd : (es.map (·.1)).Nodup) : ((putE es f rs).map (·.1)).Nodup := by
  unfold putE
  split
  · have e : (es.map (fun e => if e.1 = f then (e.1, rs) else e)).map (·.1) = es.map (·.1) := by
      rw [List.map_map]
      refine List.map_congr_left fun e _ => ?_
      show (if e.1 = f then (e.1, rs) else e).1 = e.1
      split <;> rfl
    rw [e]
    exact nd
  · rename_i h
    rw [List.map_append]
    refine List.nodup_append.mpr ⟨nd, by simp, fun a ha b hb z => ?_⟩
    have hb' : b = f := by simpa using hb
    obtain ⟨e, he, e2⟩ := List.mem_map.mp ha
    exact h (List.any_eq_true.mpr ⟨e, he, decide_eq_true (by rw [e2, z, hb'])⟩)
theorem putE_mem {f : List Nat} {rs : List RF} {e : LE} (h : e ∈ putE es f rs) : e ∈ es ∨ (e.1 = f ∧ e.2 = rs) := by
  unfold putE at h
  split at h
  · obtain ⟨e', he, e2⟩ := List.mem_map.mp h
    split at e2
    · rename_i h'
      rw [← e2]
      exact .inr ⟨h', rfl⟩
    · rw [← e2]
      exact .inl he
  · rcases List.mem_append.mp h with h | h
    · exact .inl h
    · rw [List.mem_singleton.mp h]
      exact .inr ⟨rfl, rfl⟩
theorem putE_len {f : List Nat} {rs : List RF} : (putE es f rs).length ≤ es.length + 1 := by
  unfold putE
  split
  · rw [List.length_map]; omega
  · rw [List.length_append]; exact Nat.le_refl _
theorem any_same {f : List Nat} : ∀ {es : List LE} {kvs : List (Key × V)}, kvs.map (·.1) = es.map (fun e => (Sum.inr (S e.1) : Key)) → (kvs.any fun kv => decide (kv.1 = (.inr (S f) : Key))) = es.any fun e => decide (e.1 = f)
  | [], [], _ => rfl
  | [], _ :: _, h => by simp at h
  | _ :: _, [], h => by simp at h
  | x :: r, (k, u) :: t, h => by
    have e3 : k = .inr (S x.1) := List.head_eq_of_cons_eq h
    rw [List.any_cons, List.any_cons, any_same (List.tail_eq_of_cons_eq h)]
    congr 1
    exact decide_eq_decide.mpr ⟨fun z => S_inj (Sum.inr.inj (e3.symm.trans z)), fun z => by rw [e3, z]⟩
/-- a list put at a text -/
theorem Lsts.put {d : Addr} {f : List Nat} {rs : List RF} {L : Addr} {us : List V} (h : Lsts R es kvs H) (hd : H d = some (.dK kvs)) (hL : H L = some (.lst us)) (hr : Each R rs us H) (r : ∀ g u, R g u H → R g u (upd H d (.dK (putK kvs (.inr (S f)) (.ref L))))) :
    Lsts R (putE es f rs) (putK kvs (.inr (S f)) (.ref L)) (upd H d (.dK (putK kvs (.inr (S f)) (.ref L)))) := by
  have h' := h.dict (o := .dK (putK kvs (.inr (S f)) (.ref L))) hd r
  have hL' : upd H d (.dK (putK kvs (.inr (S f)) (.ref L))) L = some (.lst us) := by
    rw [upd_ne (fun z => by rw [z, hd] at hL; cases hL)]
    exact hL
  have hr' : Each R rs us (upd H d (.dK (putK kvs (.inr (S f)) (.ref L)))) := hr.imp fun g u => r g u
  generalize upd H d (.dK (putK kvs (.inr (S f)) (.ref L))) = H1 at *
  have ha := any_same (f := f) h.keys
  unfold putE putK
  by_cases hany : (es.any fun e => decide (e.1 = f)) = true
  · rw [if_pos hany, if_pos (ha.trans hany)]
    have hk := h'.keys
    refine ⟨?_, ?_, fun i e he => ?_⟩
    · rw [List.map_map, List.map_map]
      have e1 : kvs.map ((fun x => x.1) ∘ fun kv => if kv.1 = (Sum.inr (S f) : Key) then (kv.1, V.ref L) else kv) = kvs.map (·.1) := List.map_congr_left fun kv _ => by
        show (if kv.1 = _ then (kv.1, V.ref L) else kv).1 = kv.1
        split <;> rfl
      have e2 : es.map ((fun e => (Sum.inr (S e.1) : Key)) ∘ fun e => if e.1 = f then (e.1, rs) else e) = es.map fun e => (Sum.inr (S e.1) : Key) := List.map_congr_left fun e _ => by
        show (Sum.inr (S (if e.1 = f then (e.1, rs) else e).1) : Key) = _
        split <;> rfl
      rw [e1, e2]
      exact hk
    · simp [h.len]
    · rw [List.getElem?_map] at he
      obtain ⟨e0, he0, e1⟩ := Option.map_eq_some_iff.mp he
      obtain ⟨u, hu, L0, us0, rfl, hl0, hr0⟩ := h'.vals.2 i e0 he0
      rw [List.getElem?_map] at hu
      obtain ⟨kv, hkv, ekv⟩ := Option.map_eq_some_iff.mp hu
      have hk1 : kv.1 = .inr (S e0.1) := by
        have h3 : (kvs.map (·.1))[i]? = some kv.1 := by rw [List.getElem?_map, hkv]; rfl
        rw [hk, List.getElem?_map, he0] at h3
        exact (Option.some.inj h3).symm
      by_cases hf : e0.1 = f
      · have e2 : e = (e0.1, rs) := by rw [← e1, if_pos hf]
        refine ⟨.ref L, ?_, L, us, rfl, hL', by rw [e2]; exact hr'⟩
        rw [List.getElem?_map, List.getElem?_map, hkv]
        show some (if kv.1 = _ then (kv.1, V.ref L) else kv).2 = _
        rw [if_pos (by rw [hk1, hf])]
      · have e2 : e = e0 := by rw [← e1, if_neg hf]
        refine ⟨.ref L0, ?_, L0, us0, rfl, hl0, by rw [e2]; exact hr0⟩
        rw [List.getElem?_map, List.getElem?_map, hkv]
        show some (if kv.1 = _ then (kv.1, V.ref L) else kv).2 = _
        rw [if_neg (by rw [hk1]; exact fun z => hf (S_inj (Sum.inr.inj z))), ekv]
  · rw [if_neg hany, if_neg (by rw [ha]; exact hany)]
    refine ⟨by rw [List.map_append, List.map_append, h.keys]; rfl, ?_⟩
    rw [List.map_append]
    exact h'.vals.snoc ⟨L, us, rfl, hL', hr'⟩
end
/-! ### targets in a try, a comprehension in another -/
theorem pg_tupK {X : Cx} {K : PySem.W.Frag} {es : List Expr} {k n : Nat} {pos : Pos} {t : TGs} (hc : X.calm = true) (h : PGs X es t) (hK : X.K = K := by rfl) (hn : (assignEach es X.env).length = n := by rfl) (hst : (assignEach es X.env).findIdx? (·.1) = none := by rfl) : PG X (.Tuple es k pos) (gTup K n t) := by
  subst hK
  exact pg_tup hc h hn hst
theorem blkOk_blk {N : List Str} {bs scope : Scope} {cl : List (Str × Addr)} {C : Addr} {env : Env} {own : List (Str × Nat)} (h : blkC N (relS bs env.scope) scope own = true) : BlkOk N (compEnvC bs cl C env).scope scope own := blkOk_by h

/-! ### folders, rows placed, lists gathered -/
def folderN (w : List Nat) : Option (List (List Nat)) := if w = [] then some [] else match pathN w with
  | some (ns, true) => some ns
  | _ => none
def spFolderN (K : PySem.W.Frag) : Sp := fun vs H Q E => ∃ w : List Nat, vs = [.str (S w)] ∧ w.length ≤ 1000000 ∧ (∀ ns F H', folderN w = some ns → Same H H' → H F = none → H' F = some (.lst (nmsV ns)) → Q (.ref F) H') ∧ (folderN w = none → ∀ H', Same H H' → E (.ref (fA K "NoFolder")) none H')
theorem ok_folder_names (T : Txt K mg) : OkD P w K mg base 3 (fA K "folder_names") ["folder"] [] (spFolderN K) := by
  refine okD T.F_folder_names sc_folder_names (fun _ _ _ _ _ _ us hl => match us, hl with | [_], _ => rfl) ?_ ?_
  · rintro vs H Q E ⟨w, rfl, _⟩
    rfl
  · rintro cdv A outer s H vs Q E hr ⟨w, rfl, hw, q1, q2⟩
    refine ⟨_, (pss_cons (ps_if (pt_mid (pt_cmpR (o_eq (K := K) (hu64 hr)) (pv 0) pe_str (nomark _))) (pss_one (ps_ret (pe_lst pa_nil))) pss_nil)
  (pss_cons (ps_mid (ps_try_only rfl rfl ⟨rfl, rfl, Or.inl T.g_NoPath⟩ (takes_of rfl rfl rfl rfl) (fun W pn xe tkW pxW => (pss_one (ps_asg (pe_calT (ok_names_of T) (hr.mono (by decide)) rfl T.g_names_of tkW (pa_cons (pv 0) pa_nil)) (pg_tupK (K := K) (n := 2) rfl (pgs_cons (pg_name (i := 1) sc_folder_names.nd rfl (Or.inl rfl)) (pgs_cons (pg_name (i := 2) sc_folder_names.nd rfl (Or.inl rfl)) pgs_nil)))))) (fun _ _ _ _ _ _ _ => (pss_one (ps_set (i := 2) sc_folder_names.nd rfl (Or.inl rfl) pe_bl)))))
  (pss_cons (ps_if (pt_mid (pt_not (pt_tru (K := K) (pv 2) (by intro _; rfl)))) (pss_one (ps_raise rfl (takes_of rfl rfl rfl rfl) (pmk_own PySem.F.excBase_ValueError T.x_NoFolder.1 T.g_NoFolder T.x_NoFolder.2.1 (raises_own T.x_NoFolder.2.2.1 T.x_NoFolder.2.2.2) rfl))) pss_nil)
  (pss_one (ps_ret (pv 1)))))), ?_⟩
    have tobj := T.obj
    refine q_if (fun b H' => H' = H ∧ b = decide (w = [])) ?_ (fun H1 h => ?_) fun H1 h => q_next ?_
    · walk_at "rd"
      exact decide_eq_decide.mpr ⟨fun h => S_inj h, fun h => by rw [h]; rfl⟩
    · obtain ⟨rfl, hb⟩ := h
      have e := of_decide_eq_true hb.symm
      walk_at "rd"
      exact fun p hp => q1 [] p _ (if_pos e) (same_new hp) hp upd_same
    obtain ⟨rfl, hb⟩ := h
    have e := of_decide_eq_false hb.symm
    refine q_stm (fun σ H' => Same H1 H' ∧ ((∃ ns F, pathN w = some (ns, true) ∧ H1 F = none ∧ H' F = some (.lst (nmsV ns)) ∧ σ = [some (.str (S w)), some (.ref F), some (.bl true)]) ∨ (folderN w = none ∧ ∃ x1, σ = [some (.str (S w)), x1, some (.bl false)]))) ?_ ?_
    · unfold tCallSD
      walk_at "rd"
      refine ⟨w, rfl, hw, fun ns fo p F H' ep s hp hF hn => ?_, fun hn H' s => ?_⟩
      · refine ⟨p, [.ref F, .bl fo], rfl, .inl (.inl hp), rfl, .ref F, [.bl fo], rfl, .bl fo, [], rfl, rfl, s, ?_⟩
        cases fo with
        | true => exact .inl ⟨ns, ep, F, hn, hF, rfl⟩
        | false =>
          refine .inr ⟨?_, _, rfl⟩
          unfold folderN
          rw [if_neg e, ep]
      · refine ⟨true, (kxB_ex T.kx (by decide)).1, fun _ a ha => ⟨s, .inr ⟨?_, _, rfl⟩⟩, fun z => nomatch z⟩
        unfold folderN
        rw [if_neg e, hn]
    rintro σ H2 ⟨s2, h⟩
    rcases h with ⟨ns, F, hp, hF, hF2, rfl⟩ | ⟨hn, x1, rfl⟩
    · refine q_if (fun b H' => H' = H2 ∧ b = false) (by walk_at "rd") (fun _ h => nomatch h.2) fun H3 h => q_next ?_
      obtain ⟨rfl, _⟩ := h
      walk_at "rd"
      refine q1 ns F _ ?_ s2 hF hF2
      unfold folderN
      rw [if_neg e, hp]
    · refine q_if (fun b H' => H' = H2 ∧ b = true) (by walk_at "rd") (fun H3 h => ?_) fun _ h => nomatch h.2
      obtain ⟨rfl, _⟩ := h
      walk_at "rd"
      exact q2 hn _ s2
def oneS (nm : List Nat) : SF := .seg (nm.map .one)
def placedR (nms : List (List Nat)) (r : RF) : RF := ⟨nms.map oneS ++ (r.steps ++ (if nms ≠ [] ∧ r.steps = [SF.deep] then [SF.seg [.stars]] else [])), r.spares, r.folders⟩
theorem oneS_ok {nm : List Nat} (h1 : nm ≠ []) (h2 : nm.length ≤ 400) (h3 : ∀ c ∈ nm, c ∈ SIG) : NoTwo (nm.map PF.one) ∧ nm.map PF.one ≠ [] := by
  refine ⟨notwo_of fun f hf => ?_, fun e => h1 (List.map_eq_nil_iff.mp e)⟩
  obtain ⟨c, _, rfl⟩ := List.mem_map.mp hf
  rfl
theorem twoD_segs : ∀ {nms : List (List Nat)} {ss : List SF}, NoTwoD ss → NoTwoD (nms.map oneS ++ ss)
  | [], _, h => h
  | [nm], [], _ => trivial
  | [nm], s :: r, h => ⟨fun e => (nomatch e.1), h⟩
  | nm :: nm2 :: r, ss, h => ⟨fun e => (nomatch e.1), twoD_segs (nms := nm2 :: r) h⟩
def tailS (nms : List (List Nat)) (ss : List SF) : List SF := if nms ≠ [] ∧ ss = [.deep] then [.seg [.stars]] else []
theorem twoD_placed {nms : List (List Nat)} {r : RF} (h : r.Ok) : NoTwoD (placedR nms r).steps := by
  refine twoD_segs ?_
  split
  · rename_i e
    rw [e.2]
    exact ⟨fun e => (nomatch e.2), trivial⟩
  · rw [List.append_nil]
    exact h.two
def spPlaced (K : PySem.W.Frag) : Sp := fun vs H Q _ => ∃ v F nms r, vs = [v, .ref F] ∧ RowV K r v H ∧ r.Ok ∧ SqL K H F (nmsV nms) ∧ nms.length ≤ 50 ∧ (∀ nm ∈ nms, nm ≠ [] ∧ nm.length ≤ 400 ∧ ∀ c ∈ nm, c ∈ SIG) ∧ ∀ u H', Same H H' → RowV K (placedR nms r) u H' → Q u H'
theorem ok_placed (T : Txt K mg) : OkD P w K mg base 4 (fA K "placed") ["row", "names"] [] (spPlaced K) := by
  refine okD T.F_placed sc_placed (fun _ _ _ _ _ _ us hl => match us, hl with | [_, _], _ => rfl) ?_ ?_
  · rintro vs H Q E ⟨v, F, nms, r, rfl, _⟩
    rfl
  · rintro cdv A outer s H vs Q E hr ⟨v, F, nms, r, rfl, hv, ok, hF, hl, hn, q⟩
    refine ⟨_, (pss_cons (ps_setLc (own := [("name", 4)]) (g := (gName 4)) (tt := tYes) (i := 2) rfl sc_placed.nd rfl rfl (sw_true rfl rfl rfl (by decide +kernel)) (pi_mid (o_it (K := K) rfl (pv 1))) (blkOk_by (N := N_placed) (sc := defScope TX.s_placed) (by decide +kernel)) (fun _ _ _ _ _ => (pg_name (i := 4) sc_placed.nd rfl (Or.inl rfl))) (fun _ _ _ _ _ => pts_nil) (fun _ _ _ _ _ => (pe_mid (pe_mak T.mk_Segment (ok_Segment___init__ T) (hr.mono (by decide)) rfl T.g_Segment pasN (pa_cons (pe_callTy (o_tuple (K := K)) (by rfl) T.fr_tuple (by decide +kernel) (pa_cons (pe_lc (own := [("sign", 5)]) (g := (gName 5)) (tt := tYes) rfl sc_placed.nd (pi_mid (o_it (K := K) rfl (pv 4))) (blkOk_blk (by kernel_rfl)) (fun _ _ _ _ _ => (pg_name (i := 5) sc_placed.nd rfl (Or.inl rfl))) (fun _ _ _ _ _ => pts_nil) (fun _ _ _ _ _ => (pe_mid (pe_mak T.mk_One (ok_One___init__ T) (hr.mono (by decide)) rfl T.g_One pasN (pa_cons (pv 5) pa_nil))))) pa_nil)) pa_nil)))))
  (pss_cons (ps_mid (ps_for (passes_of rfl) rfl (pi_mid (o_it (K := K) rfl (pe_fldK (K := K) (pv 0) rfl))) (pg_name (i := 3) sc_placed.nd rfl (Or.inl rfl)) (pss_one (ps_expr (pe_bmK (K := K) PySem.F.plainAttrs_list PySem.F.slot_list_append PySem.F.type_list_append mt_append (pv 2) (pa_cons (pe_mid (pv 3)) pa_nil))))))
  (pss_cons (ps_mid (ps_if (pt_mid (PW.pt (pw_and (pt_cmpR (o_ne (K := K) (hu64 hr)) (pv 1) (pe_lst pa_nil) (nomark _)) (pw_and (pt_cmpR (o_eq (K := K) (hu64 hr)) (pe_callB (o_lenW (K := K) (w := w)) (by rfl) T.fr_len boot_len (pa_cons (pe_fldK (K := K) (pv 0) rfl) pa_nil)) pe_int (nomark _)) (pw_and1 (pt_tru (K := K) (pe_metI0 (md_deep T) (pe_ix (o_ix (K := K)) (pe_fldK (K := K) (pv 0) rfl) pe_int (fun _ _ => rfl)) (hr.mono (by decide)) (pasE (takes_of rfl rfl rfl rfl) (fun _ _ _ _ h => h))) (by intro _; rfl))))))) (pss_one (ps_expr (pe_bmK (K := K) PySem.F.plainAttrs_list PySem.F.slot_list_append PySem.F.type_list_append mt_append (pv 2) (pa_cons (pe_mid (pe_mak T.mk_Segment (ok_Segment___init__ T) (hr.mono (by decide)) rfl T.g_Segment (pasE (takes_of rfl rfl rfl rfl) (fun _ _ _ _ h => h)) (pa_cons (pe_tup (pa_cons (pe_makN T.mn_Stars rfl T.g_Stars) pa_nil)) pa_nil))) pa_nil)))) pss_nil))
  (pss_one (ps_ret (pe_mak T.mk_Row (ok_Row___init__ T) (hr.mono (by decide)) rfl T.g_Row (pasE (takes_of rfl rfl rfl rfl) (fun _ _ _ _ h => h)) (pa_cons (pe_callTy (o_tuple (K := K)) (by rfl) T.fr_tuple (by decide +kernel) (pa_cons (pv 2) pa_nil)) (pa_cons (pe_fldK (K := K) (pv 0) rfl) (pa_cons (pe_fldK (K := K) (pv 0) rfl) pa_nil))))))))), ?_⟩
    have tobj := T.obj
    obtain ⟨rp, rdx, rt, rus, rfl, hrp, hrt, reach, rne⟩ := hv
    have lr := ok.len
    have lru := reach.1
    refine q_val ?_
    refine lc_midM (J0 := Itl K F) (H0 := H) ?_ (walk_list (K := K) (a := F) (xs := nmsV nms)) (by rw [nms_len]; omega) (fun k acc H' => Each (StepV K) ((nms.take k).map oneS) acc H') (fun _ _ _ _ e h => h.imp fun _ _ d => d.nl e) .nil (fun H' s => same_l s hF) (fun _ _ _ _ y => y_at y) (fun _ => rfl) ?_ ?_
    · walk_at "rd"
      exact .inl ⟨_, hF⟩
    · rintro j x acc H' H'' hj s4 hc ⟨rfl, hx⟩
      obtain ⟨nm, hnm, rfl⟩ := nms_at hx
      obtain ⟨nne, nl, nsg⟩ := hn nm (List.mem_of_getElem? hnm)
      obtain ⟨o1, o2⟩ := oneS_ok nne nl nsg
      refine mid_of (fun v H4 => Same H'' H4 ∧ StepV K (oneS nm) v H4) ?_ ?_
      · walk_at "rd"
        refine lc_midM (J0 := Its (S nm)) (H0 := H'') ?_ walk_str (by show nm.toArray.size < _; simp; omega) (fun k acc H' => PartsV K ((nm.take k).map PF.one) acc H') (fun _ _ _ _ e h => h.nl e) .nil (fun _ _ => trivial) (fun _ _ _ _ y => by rw [y.1]; exact Same.refl _) (fun _ => rfl) ?_ ?_
        · walk_at "rd"
        · rintro i x acc Ha Hb hi sa pa ⟨rfl, c, hc, rfl⟩
          have hc' : nm[i]? = some c := by simpa using hc
          refine mid_of (fun v H4 => Same Hb H4 ∧ PartV K (.one c) v H4) ?_ ?_
          · walk_at "rd"
            intro x dx hx hdx hxd
            refine ⟨x, dx, ⟨#[c]⟩, rfl, upd_same, Nat.le_of_ble_eq_true rfl, fun c2 H' hc2 e hp' b => ⟨rfl, ?_⟩, fun hno => ?_⟩
            · have e2 := S1_inj e
              subst e2
              exact ⟨but_same hx hdx b, x, dx, rfl, hp'⟩
            · exact hno ⟨c, nsg c (List.mem_of_getElem? hc'), rfl⟩
          · rintro v H4 ⟨s5, pv⟩
            refine ⟨s5, ?_⟩
            rw [List.take_succ, hc', List.map_append]
            exact (pa.mono s5).snoc pv
        · intro L pus Hc hLn sc hLl lpus pv
          rw [List.take_of_length_le (by show nm.length ≤ nm.toArray.size; simp)] at pv
          refine ⟨pus, .inl ⟨.inl (.inl hLl), fun l hl' => ?_⟩⟩
          have sl := same_new (o := .tup pus) hl'
          refine seg_make (R := fun x H' => Same H'' H' ∧ StepV K (oneS nm) (.ref x) H') (.inl (.inl (.inl upd_same))) (pv.mono sl) (by rw [List.length_map]; omega) o2 fun y H' s h => ⟨(sc.trans sl).trans s, ?_⟩
          rw [normP_id o1] at h
          exact h
      · rintro v H4 ⟨s5, sv⟩
        refine ⟨s5, ?_⟩
        rw [List.take_succ, hnm, List.map_append]
        exact (hc.imp fun _ _ d => d.mono s5).snoc sv
    intro W acc H1 hWn s1 hW lacc segs
    rw [List.take_of_length_le (by rw [nms_len]; exact Nat.le_refl _)] at segs
    have hrp1 := s1 _ _ hrp
    have hrt1 := s1 _ _ hrt
    have hF1 := same_l s1 hF
    refine q_stm (fun σ H' => Same H H' ∧ ∃ us x3 x4 x5, H' W = some (.lst us) ∧ Each (StepV K) (nms.map oneS ++ r.steps) us H' ∧ σ = [some (.ref rp), some (.ref F), some (.ref W), x3, x4, x5]) ?_ ?_
    · refine for_mid (J0 := Itt K rt) (H0 := H1) ?_ (walk_tup (K := K) (a := rt) (xs := rus)) (fun k σ H' => Same H H' ∧ ∃ us x3 x4 x5, H' W = some (.lst us) ∧ Each (StepV K) (nms.map oneS ++ r.steps.take k) us H' ∧ σ = [some (.ref rp), some (.ref F), some (.ref W), x3, x4, x5])
        ⟨s1, acc, _, _, _, hW, by rw [List.take_zero, List.append_nil]; exact segs, rfl⟩ (fun k σ H' _ h => .inl (.inl (h.1 _ _ hrt))) ?_ (fun σ H' h => ?_)
      · walk_at "rdh"
        exact .inr ⟨_, .inl (.inl hrt1)⟩
      · rintro k x σ H2 H2' hk ⟨s2, us, x3, x4, x5, hW2, each, rfl⟩ ⟨rfl, hx⟩
        obtain ⟨st, hst, sv⟩ := reach.at' hx
        have lu := each.1
        have lt := List.length_take_le' k r.steps
        rw [List.length_append, List.length_map] at lu
        refine l_appV rfl rfl hW2 (by omega) ⟨same_mut s2 hWn, us ++ [x], _, _, _, upd_same, ?_, rfl⟩
        rw [List.take_succ, hst, ← List.append_assoc]
        exact (each.imp fun _ _ d => d.nl (nl_upd hW2)).snoc ((sv.mono s2).nl (nl_upd hW2))
      · obtain ⟨s2, us, x3, x4, x5, hW2, each, e⟩ := h
        rw [List.take_of_length_le (by rw [lru]; exact Nat.le_refl _)] at each
        exact ⟨s2, us, _, _, _, hW2, each, e⟩
    rintro σ H2 ⟨s2, us, x3, x4, x5, hW2, each, rfl⟩
    have hrp2 := s2 _ _ hrp
    have hrt2 := s2 _ _ hrt
    have hF2 := same_l s2 hF
    have reach2 : Each (StepV K) r.steps rus H2 := reach.imp fun _ _ d => d.mono s2
    have lu := each.1
    rw [List.length_append, List.length_map] at lu
    refine q_stm (fun σ H' => Same H H' ∧ ∃ us, H' W = some (.lst us) ∧ Each (StepV K) (placedR nms r).steps us H' ∧ σ = [some (.ref rp), some (.ref F), some (.ref W), x3, x4, x5]) ?_ ?_
    · refine l_if (fun b H' => Same H2 H' ∧ b = decide (nms ≠ [] ∧ r.steps = [.deep])) ?_ (fun H3 h => ?_) (fun H3 h => ?_)
      · walk_at "rdh"
        intro p hp
        have sp := same_new (o := .lst []) hp
        have d0 : DOk 1 (.list []) := dok_lst fun _ h => nomatch h
        have d1 : DOk 1 (.list (nms.map fun w => .str (S w))) := txts_ok fun w hw => txt_ok fun c hc => .inr ((hn w hw).2.2 c hc)
        have e : PyData.eqv (.list (nms.map fun w => .str (S w))) (.list []) = decide (nms = []) := by cases nms <;> rfl
        refine .inl ⟨_, .list [], txts_dp (same_l sp hF2), .lst (.inl (.inl upd_same)) .nil, d1.shaped (by decide), d0.shaped (by decide), _, rfl, ?_⟩
        rw [e]
        have hrp2p := sp _ _ hrp2
        have hrt2p := sp _ _ hrt2
        have reach2p : Each (StepV K) r.steps rus (upd H2 p (.lst [])) := reach2.imp fun _ _ d => d.mono sp
        generalize upd H2 p (.lst []) = H3 at *
        refine ite2 (fun h => ?_) fun h => ?_
        · have hne : nms ≠ [] := by simpa using h
          walk_at "rdh"
          refine .inr ⟨_, .inr ⟨rus, .inl (.inl hrt2p), rfl⟩, ?_⟩
          rw [lru]
          refine ite2 (fun h1 => ?_) fun h1 => ?_
          · have l1 : r.steps.length = 1 := by omega
            obtain ⟨s0, e0⟩ := List.length_eq_one_iff.mp l1
            obtain ⟨u0, hu0, sv0⟩ := reach2p.2 0 s0 (by rw [e0]; rfl)
            refine ⟨rus, .inr (.inl (.inl hrt2p)), u0, (atI_nat hu0 : atI rus ((0 : Nat) : Int) = some u0), s0, sv0, u0, rfl, sv0, _, rfl, sp, ?_⟩
            rw [e0]
            cases s0 <;> simp [SF.deepB]
          · exact (decide_eq_false fun e => h1 (by rw [e]; rfl)).symm
        · have hne : nms = [] := by simpa using h
          exact ⟨sp, (decide_eq_false fun h => h.1 hne).symm⟩
      · obtain ⟨s3, hb⟩ := h
        have hW3 := s3 _ _ hW2
        refine l_app rfl hW3 ?_
        walk_at "rd"
        intro x dx hx hdx hxd p hp y dy hy hdy hyd
        have n1 := new_two (o := .own x) (o' := .ins (fA K "Stars") dx []) hx hdx hxd
        have sp := same_new (o := .tup [V.ref x]) hp
        have hd := of_decide_eq_true hb.symm
        refine seg_make (K := K) (R := fun z H2' => ∃ ys, H2' W = some (.lst ys) ∧ ys.length < 16777216 ∧ Same H (upd H2' W (.lst (ys ++ [.ref z]))) ∧ ∃ us, upd H2' W (.lst (ys ++ [.ref z])) W = some (.lst us) ∧ Each (StepV K) (placedR nms r).steps us (upd H2' W (.lst (ys ++ [.ref z])))) (fs := [.stars]) (us := [.ref x]) (.inl (.inl (.inl upd_same))) ?_ (by decide) (by simp) (fun y H' s h => ?_) y dy hy hdy hyd
        · exact PartsV.nil.snoc ⟨x, dx, rfl, sp _ _ upd_same⟩
        · have s4 := (n1.trans sp).trans s
          have hW4 := s4 _ _ hW3
          refine ⟨us, hW4, by omega, same_mut ((s2.trans s3).trans s4) hWn, us ++ [.ref y], upd_same, ?_⟩
          have e : (placedR nms r).steps = (nms.map oneS ++ r.steps) ++ [.seg [.stars]] := by
            show nms.map oneS ++ (r.steps ++ (if nms ≠ [] ∧ r.steps = [SF.deep] then [SF.seg [.stars]] else [])) = _
            rw [if_pos hd, List.append_assoc]
          rw [e]
          exact (each.imp fun _ _ d => (d.mono (s3.trans s4)).nl (nl_upd hW4)).snoc (h.nl (nl_upd hW4))
      · obtain ⟨s3, hb⟩ := h
        refine ⟨s2.trans s3, us, s3 _ _ hW2, ?_, rfl⟩
        have e : (placedR nms r).steps = nms.map oneS ++ r.steps := by
          show nms.map oneS ++ (r.steps ++ (if nms ≠ [] ∧ r.steps = [SF.deep] then [SF.seg [.stars]] else [])) = _
          rw [if_neg (of_decide_eq_false hb.symm), List.append_nil]
        rw [e]
        exact each.imp fun _ _ d => d.mono s3
    rintro σ H3 ⟨s3, us3, hW3, each3, rfl⟩
    have hrp3 := s3 _ _ hrp
    have lus3 := each3.1
    have plen : (placedR nms r).steps.length ≤ 100 := by
      show (nms.map oneS ++ (r.steps ++ (if nms ≠ [] ∧ r.steps = [SF.deep] then [SF.seg [.stars]] else []))).length ≤ 100
      rw [List.length_append, List.length_append, List.length_map]
      have : (if nms ≠ [] ∧ r.steps = [.deep] then [SF.seg [.stars]] else []).length ≤ 1 := by split <;> simp
      omega
    have pne : (placedR nms r).steps ≠ [] := fun e => by
      have e' : nms.map oneS ++ (r.steps ++ (if nms ≠ [] ∧ r.steps = [SF.deep] then [SF.seg [.stars]] else [])) = [] := e
      exact ok.ne (List.append_eq_nil_iff.mp (List.append_eq_nil_iff.mp e').2).1
    walk_at "rdh"
    refine ⟨us3, .inl ⟨.inl (.inl hW3), fun l hl' => ?_⟩⟩
    have sl := same_new (o := .tup us3) hl'
    have hrpl := sl _ _ hrp3
    walk_at "rdh"
    intro x dx hx hdx hxd
    exact row_make (R := fun x H' => Q (V.ref x) H') (.inl (.inl (.inl upd_same))) (each3.imp fun _ _ d => d.mono sl) (by omega) pne (fun x H' s h => q _ _ ((s3.trans sl).trans s) (by rw [normS_id (twoD_placed ok)] at h; exact h)) x dx hx hdx hxd
def kE (e : LE) : KeyT := ((((folderN e.1).getD []).length : Int), e.1)
def SrtE (es es' : List LE) : Prop := es'.Perm es ∧ es'.Pairwise (fun a b => ltK (kE b) (kE a) = false)
def gathR (es : List LE) : List RF := es.flatMap fun e => e.2.map (placedR ((folderN e.1).getD []))
def NmsOk (ns : List (List Nat)) : Prop := ns.length ≤ 50 ∧ ∀ nm ∈ ns, nm ≠ [] ∧ nm.length ≤ 400 ∧ ∀ c ∈ nm, c ∈ SIG
structure LEok (es : List LE) : Prop where
  nd : (es.map (·.1)).Nodup
  len : es.length ≤ 10
  each : ∀ e ∈ es, e.1.length ≤ 1000000 ∧ e.2.length ≤ 60 ∧ ∀ r ∈ e.2, RF.Ok r
  nms : ∀ e ∈ es, ∀ ns, folderN e.1 = some ns → NmsOk ns
/-- a ranked entry: its tuple, its names -/
def RkV (R F : Addr) (e : LE) (u : V) (H : Hp) : Prop := ∃ t G ns, u = .ref t ∧ folderN e.1 = some ns ∧ H t = some (.tup [.int (ns.length : Nat), .str (S e.1), .ref G]) ∧ H G = some (.lst (nmsV ns)) ∧ G ≠ R ∧ G ≠ F
theorem perm_map_inv {α β : Type} {f : α → β} : ∀ {ys : List β} {zs : List α}, ys.Perm (zs.map f) → ∃ zs' : List α, zs'.Perm zs ∧ zs'.map f = ys
  | [], zs, p => ⟨[], by
      have := List.nil_perm.mp p
      rw [List.map_eq_nil_iff.mp this], rfl⟩
  | y :: r, zs, p => by
    obtain ⟨z, hz, rfl⟩ := List.mem_map.mp (p.mem_iff.mp List.mem_cons_self)
    obtain ⟨a, b, rfl⟩ := List.append_of_mem hz
    have p2 : (f z :: r).Perm (f z :: (a ++ b).map f) := p.trans (by
      rw [List.map_append, List.map_cons, List.map_append]
      exact List.perm_middle)
    obtain ⟨zs', h1, h2⟩ := perm_map_inv p2.cons_inv
    exact ⟨z :: zs', (h1.cons z).trans List.perm_middle.symm, by rw [List.map_cons, h2]⟩
theorem nodup_idx {α : Type} : ∀ {l : List α} {i j : Nat} {x : α}, l.Nodup → l[i]? = some x → l[j]? = some x → i = j
  | y :: r, 0, 0, x, _, _, _ => rfl
  | y :: r, 0, j + 1, x, nd, h1, h2 => by
    have e : y = x := by simpa using h1
    have h3 : r[j]? = some x := by simpa using h2
    exact absurd (List.mem_of_getElem? h3) (e ▸ (List.nodup_cons.mp nd).1)
  | y :: r, i + 1, 0, x, nd, h1, h2 => by
    have e : y = x := by simpa using h2
    have h3 : r[i]? = some x := by simpa using h1
    exact absurd (List.mem_of_getElem? h3) (e ▸ (List.nodup_cons.mp nd).1)
  | y :: r, i + 1, j + 1, x, nd, h1, h2 => by
    have h3 : r[i]? = some x := by simpa using h1
    have h4 : r[j]? = some x := by simpa using h2
    exact congrArg (· + 1) (nodup_idx (List.nodup_cons.mp nd).2 h3 h4)
  | [], i, j, x, _, h, _ => by simp at h
/-- the key that a tuple tells -/
def keyAt (H : Hp) (u : V) : KeyT := match u with
  | .ref t => match H t with
    | some (.tup (.int n :: .str z :: _)) => (n, z.cps.toList)
    | _ => (0, [])
  | _ => (0, [])
theorem RkV.key {R F : Addr} {e : LE} {u : V} {H : Hp} (h : RkV R F e u H) : keyAt H u = kE e := by
  obtain ⟨t, G, ns, rfl, hf, ht, _⟩ := h
  unfold kE
  simp only [keyAt, ht, hf]
  simp
theorem ranked_sort {R F : Addr} {es : List LE} {xs ys : List V} {H : Hp} (h : Each (RkV R F) es xs H) (p : ys.Perm xs) (so : ys.Pairwise (fun x y => ltK (keyAt H y) (keyAt H x) = false)) : ∃ es', SrtE es es' ∧ Each (RkV R F) es' ys H := by
  have hx : xs = (es.zip xs).map (·.2) := by rw [List.map_snd_zip (by rw [h.1]; exact Nat.le_refl _)]
  rw [hx] at p
  obtain ⟨zs, p1, rfl⟩ := perm_map_inv p
  have he : es = (es.zip xs).map (·.1) := by rw [List.map_fst_zip (by rw [h.1]; exact Nat.le_refl _)]
  have mem : ∀ z ∈ zs, RkV R F z.1 z.2 H := fun z hz => by
    obtain ⟨i, hi⟩ := List.mem_iff_getElem?.mp (p1.mem_iff.mp hz)
    obtain ⟨h1, h2⟩ := List.getElem?_zip_eq_some.mp hi
    obtain ⟨u, hu, g⟩ := h.2 i _ h1
    rw [h2] at hu
    cases hu
    exact g
  refine ⟨zs.map (·.1), ⟨?_, ?_⟩, ?_, fun i e hi => ?_⟩
  · have := p1.map (·.1)
    rwa [← he] at this
  · rw [List.pairwise_map] at so ⊢
    refine so.imp_of_mem fun {a b} ha hb h => ?_
    rw [(mem a ha).key, (mem b hb).key] at h
    exact h
  · rw [List.length_map, List.length_map]
  · rw [List.getElem?_map] at hi
    obtain ⟨z, hz, rfl⟩ := Option.map_eq_some_iff.mp hi
    exact ⟨z.2, by rw [List.getElem?_map, hz]; rfl, mem z (List.mem_of_getElem? hz)⟩
theorem flat_le60 : ∀ {es : List LE}, (∀ e ∈ es, e.2.length ≤ 60) → (gathR es).length ≤ 60 * es.length
  | [], _ => Nat.le_refl _
  | e :: r, h => by
    have h1 := h e List.mem_cons_self
    have h2 := flat_le60 (es := r) fun e he => h e (List.mem_cons_of_mem _ he)
    have e1 : gathR (e :: r) = e.2.map (placedR ((folderN e.1).getD [])) ++ gathR r := rfl
    rw [e1, List.length_append, List.length_map, List.length_cons]
    omega
def spGathered (K : PySem.W.Frag) : Sp := fun vs H Q E => ∃ d es kvs, vs = [.ref d] ∧ H d = some (.dK kvs) ∧ Lsts (RowV K) es kvs H ∧ LEok es ∧
  ((∀ e ∈ es, folderN e.1 ≠ none) → ∀ F us es' H', SrtE es es' → Same H H' → H F = none → H' F = some (.lst us) → Each (RowV K) (gathR es') us H' → Q (.ref F) H') ∧
  ((∃ e ∈ es, folderN e.1 = none) → ∀ od H', Same (upd H d (.frz od (.dK kvs))) H' → E (.ref (fA K "NoFolder")) none H')
theorem ok_gathered (T : Txt K mg) : OkD P w K mg base 5 (fA K "gathered") ["lists"] [] (spGathered K) := by
  refine okD T.F_gathered sc_gathered (fun _ _ _ _ _ _ us hl => match us, hl with | [_], _ => rfl) ?_ ?_
  · rintro vs H Q E ⟨d, es, kvs, rfl, _⟩
    rfl
  · rintro cdv A outer s H vs Q E hr ⟨d, es, kvs, rfl, hd, hl, ok, q1, q2⟩
    refine ⟨_, (pss_cons (ps_set (i := 1) sc_gathered.nd rfl (Or.inl rfl) (pe_lst pa_nil))
  (pss_cons (ps_mid (ps_lock (ps_for (passes_of rfl) rfl (pi_mid (pi_keys (pv 0))) (pg_name (i := 2) sc_gathered.nd rfl (Or.inl rfl)) (pss_cons (ps_set (i := 3) sc_gathered.nd rfl (Or.inr rfl) (pe_mid (pe_cal (ok_folder_names T) (hr.mono (by decide)) rfl T.g_folder_names (pasE (takes_of rfl rfl rfl rfl) (fun _ _ _ _ h => h)) (pa_cons (pv 2) pa_nil))))
  (pss_one (ps_expr (pe_bmK (K := K) PySem.F.plainAttrs_list PySem.F.slot_list_append PySem.F.type_list_append mt_append (pv 1) (pa_cons (pe_mid (pe_tup (pa_cons (pe_callB (o_lenW (K := K) (w := w)) (by rfl) T.fr_len boot_len (pa_cons (pv 3) pa_nil)) (pa_cons (pv 2) (pa_cons (pv 3) pa_nil))))) pa_nil))))))))
  (pss_cons (ps_set (i := 4) sc_gathered.nd rfl (Or.inl rfl) (pe_lst pa_nil))
  (pss_cons (ps_mid (ps_for (passes_of rfl) rfl (pi_mid (o_it (K := K) rfl (pe_callB (o_sortedT (K := K)) (by rfl) T.fr_sorted (by decide +kernel) (pa_cons (pv 1) pa_nil)))) (pg_tup rfl (pgs_cons (pg_name (i := 5) sc_gathered.nd rfl (Or.inl rfl)) (pgs_cons (pg_name (i := 2) sc_gathered.nd rfl (Or.inl rfl)) (pgs_cons (pg_name (i := 3) sc_gathered.nd rfl (Or.inr rfl)) pgs_nil)))) (pss_one (ps_aug (i := 4) sc_gathered.nd rfl (Or.inl rfl) (pe_lc (own := [("row", 6)]) (g := (gName 6)) (tt := tYes) rfl sc_gathered.nd (pi_mid (o_it (K := K) rfl (pe_dget (hu_of hr) (pv 0) (pv 2) (fun _ _ => rfl)))) (blkOk_by (N := N_gathered) (sc := defScope TX.s_gathered) (by decide +kernel)) (fun _ _ _ _ _ => (pg_name (i := 6) sc_gathered.nd rfl (Or.inl rfl))) (fun _ _ _ _ _ => pts_nil) (fun _ _ _ _ _ => (pe_mid (pe_cal (ok_placed T) (hr.mono (by decide)) rfl T.g_placed pasN (pa_cons (pv 6) (pa_cons (pv 3) pa_nil)))))) o_iadd))))
  (pss_one (ps_ret (pv 4))))))), ?_⟩
    have tobj := T.obj
    have lk := hl.len
    have lok := ok.len
    refine q_new fun R hR => ?_
    have hRd : R ≠ d := fun e => by rw [e, hd] at hR; cases hR
    have sR := same_new (o := .lst []) hR
    refine q_stm (fun σ H' => Same H H' ∧ (∀ e ∈ es, folderN e.1 ≠ none) ∧ ∃ xs x2 x3 x5 x6, H' R = some (.lst xs) ∧ Each (RkV R R) es xs H' ∧ σ = [some (.ref d), some (.ref R), x2, x3, none, x5, x6]) ?_ ?_
    · refine ⟨d, _, sR _ _ hd, trivial, fun od => ?_⟩
      have hB : Same (upd H d (.frz od (.dK kvs))) (upd (upd H R (.lst [])) d (.frz od (.dK kvs))) := fun a u e => by
        by_cases ha : a = d
        · subst ha
          rw [upd_same] at e ⊢
          exact e
        · rw [upd_ne ha] at e ⊢
          exact sR a u e
      have hRB : upd H d (.frz od (.dK kvs)) R = none := by rw [upd_ne hRd]; exact hR
      refine for_mid (J0 := Itk d od kvs) (H0 := upd (upd H R (.lst [])) d (.frz od (.dK kvs))) ?_ walk_keys (fun k σ H' => Same (upd H d (.frz od (.dK kvs))) H' ∧ (∀ e ∈ es.take k, folderN e.1 ≠ none) ∧ ∃ xs x2 x3 x5 x6, H' R = some (.lst xs) ∧ Each (RkV R R) (es.take k) xs H' ∧ σ = [some (.ref d), some (.ref R), x2, x3, none, x5, x6])
        ⟨hB, (fun _ h => nomatch h), [], _, _, _, _, by rw [upd_ne hRd, upd_same], .nil, rfl⟩ (fun k σ H' _ h => h.1 _ _ upd_same) ?_ (fun σ H' h => ?_)
      · unfold iKeys
        walk_at "rd"
        exact ⟨od, .inl ⟨kvs, upd_same, rfl⟩⟩
      · rintro k x σ H2 H2' hk ⟨s2, hok, xs, x2, x3, x5, x6, hR2, each, rfl⟩ ⟨rfl, kk, v, hkv, rfl⟩
        obtain ⟨e, L, us, he, rfl, rfl, _, _⟩ := hl.at_ hkv
        obtain ⟨el, _, _⟩ := ok.each e (List.mem_of_getElem? he)
        have tk : es.take (k + 1) = es.take k ++ [e] := by rw [List.take_succ, he]; rfl
        have lt := List.length_take_le' k es
        have lx := each.1
        refine q_midG (fun v H' => Same H2' H' ∧ ∃ G ns, v = .ref G ∧ folderN e.1 = some ns ∧ H2' G = none ∧ H' G = some (.lst (nmsV ns))) ?_ ?_
        · walk_at "rd"
          refine ⟨e.1, rfl, el, fun ns G H' hf s hn hG => ⟨s, G, rfl, ns, hf, hn, hG⟩, fun hf H' s => q2 ⟨e, List.mem_of_getElem? he, hf⟩ od H' (s2.trans s)⟩
        rintro _ H3 ⟨s3, G, ns, rfl, hf, hG0, hG⟩
        have hGR : G ≠ R := fun e => by rw [e, hR2] at hG0; cases hG0
        have hR3 := s3 _ _ hR2
        have lenG : LenV K (.ref G) H3 (nmsV ns).length := .inl ⟨_, .inl (.inl hG), rfl⟩
        rw [nms_len] at lenG
        refine l_app rfl hR3 ?_
        walk_at "rd"
        refine .inr ⟨_, lenG, fun t ht => ⟨xs, ?_, by omega, ?_⟩⟩
        · exact (same_new ht) _ _ hR3
        have st := same_new (o := .tup [V.int (ns.length : Nat), V.str (S e.1), V.ref G]) ht
        have htR : t ≠ R := fun z => by rw [z, hR3] at ht; cases ht
        have mv : ∀ {e' : LE} {u : V}, RkV R R e' u H2' → RkV R R e' u (upd (upd H3 t (.tup [V.int (ns.length : Nat), V.str (S e.1), V.ref G])) R (.lst (xs ++ [V.ref t]))) := fun {e' u} ⟨t', G', ns', eu, hf', ht', hG', hGR', _⟩ => by
          have a1 := st _ _ (s3 _ _ ht')
          have a2 := st _ _ (s3 _ _ hG')
          refine ⟨t', G', ns', eu, hf', ?_, by rw [upd_ne hGR']; exact a2, hGR', hGR'⟩
          rw [upd_ne (fun z => by rw [z, hR2] at ht'; cases ht')]
          exact ht'.symm ▸ a1
        refine ⟨same_mut ((s2.trans s3).trans st) hRB, fun e' h' => ?_, _, upd_same, ?_⟩
        · rw [tk] at h'
          rcases List.mem_append.mp h' with h' | h'
          · exact hok e' h'
          · rw [List.mem_singleton.mp h', hf]
            simp
        · rw [tk]
          refine (each.imp fun _ _ d => mv d).snoc ⟨t, G, ns, rfl, hf, ?_, ?_, hGR, hGR⟩
          · rw [upd_ne htR, upd_same]
          · rw [upd_ne hGR]
            exact st _ _ hG
      · obtain ⟨s2, hok, xs, x2, x3, x5, x6, hR2, each, rfl⟩ := h
        rw [List.take_of_length_le (by omega)] at each hok
        refine ⟨s2 _ _ upd_same, same_unlock hd s2, hok, xs, _, _, _, _, by rw [upd_ne hRd]; exact hR2, each.imp fun e u ⟨t, G, ns, eu, hf, ht, hG, hGR, _⟩ => ⟨t, G, ns, eu, hf, ?_, ?_, hGR, hGR⟩, rfl⟩
        · rw [upd_ne (fun z => by rw [z, s2 _ _ upd_same] at ht; cases ht)]
          exact ht
        · rw [upd_ne (fun z => by rw [z, s2 _ _ upd_same] at hG; cases hG)]
          exact hG
    rintro σ H2 ⟨s2, hok, xs, x2, x3, x5, x6, hR2, each, rfl⟩
    refine q_new fun F hF => ?_
    have hF0 : H F = none := same_none s2 hF
    have sF := same_new (o := .lst []) hF
    have hRF : R ≠ F := fun e => by rw [← e, hR2] at hF; cases hF
    have eachF : Each (RkV R F) es xs (upd H2 F (.lst [])) := each.imp fun e u ⟨t, G, ns, eu, hf, ht, hG, hGR, _⟩ => ⟨t, G, ns, eu, hf, sF _ _ ht, sF _ _ hG, hGR, fun z => (by rw [z, hF] at hG; cases hG)⟩
    have hRF2 : upd H2 F (.lst []) R = some (.lst xs) := sF _ _ hR2
    have hFF : upd H2 F (.lst []) F = some (.lst []) := upd_same
    have s02 := s2.trans sF
    generalize upd H2 F (.lst []) = H3 at *
    refine q_stm (fun σ H' => Same H H' ∧ ∃ us es' y2 y3 y5 y6, SrtE es es' ∧ H' F = some (.lst us) ∧ Each (RowV K) (gathR es') us H' ∧ σ = [some (.ref d), some (.ref R), y2, y3, some (.ref F), y5, y6]) ?_ ?_
    · refine for_open (fun J H4 => ∃ p ys, J = Itl K p ∧ H4 = upd H3 p (.lst ys) ∧ H3 p = none ∧ ys.Perm xs ∧ ys.Pairwise (fun x y => ltK (keyAt H3 y) (keyAt H3 x) = false)) ?_ ?_
      · walk_at "rd"
        refine ⟨R, xs, keyAt H3, rfl, .inl (.inl hRF2), fun x hx => ?_, fun x hx y hy e => ?_, fun ys p perm so hp => ?_⟩
        · obtain ⟨i, hi⟩ := List.mem_iff_getElem?.mp hx
          obtain ⟨e, he, rk⟩ := eachF.at' hi
          have hk := rk.key
          obtain ⟨t, G, ns, rfl, hf, ht, _⟩ := rk
          refine ⟨t, [.ref G], rfl, ?_⟩
          rw [hk]
          unfold kE
          rw [hf]
          exact ht
        · obtain ⟨i, hi⟩ := List.mem_iff_getElem?.mp hx
          obtain ⟨j, hj⟩ := List.mem_iff_getElem?.mp hy
          obtain ⟨e1, he1, rk1⟩ := eachF.at' hi
          obtain ⟨e2, he2, rk2⟩ := eachF.at' hj
          rw [rk1.key, rk2.key] at e
          have e12 : e1.1 = e2.1 := congrArg (·.2) e
          have : i = j := nodup_idx ok.nd (x := e1.1) (by rw [List.getElem?_map, he1]; rfl) (by rw [List.getElem?_map, he2, e12]; rfl)
          subst this
          rw [hi] at hj
          exact Option.some.inj hj
        · exact .inl ⟨⟨_, .inl (.inl upd_same)⟩, p, rfl, ys, rfl, hp, perm, so⟩
      rintro _ _ ⟨p, ys, rfl, rfl, hp0, perm, so⟩
      obtain ⟨es', srt, eachS⟩ := ranked_sort eachF perm so
      have sp := same_new (o := .lst ys) hp0
      have hpF : p ≠ F := fun z => by rw [z, hFF] at hp0; cases hp0
      have les : es'.length ≤ 10 := by rw [srt.1.length_eq]; exact lok
      have eachS' : Each (RkV R F) es' ys (upd H3 p (.lst ys)) := eachS.imp fun e u ⟨t, G, ns, eu, hf, ht, hG, h1, h2⟩ => ⟨t, G, ns, eu, hf, sp _ _ ht, sp _ _ hG, h1, h2⟩
      refine for_midg (J0 := Itl K p) (H0 := upd H3 p (.lst ys)) ⟨rfl, rfl⟩ (walk_list (K := K) (a := p) (xs := ys)) (fun k σ H' => Same H H' ∧ H' p = some (.lst ys) ∧ Each (RkV R F) es' ys H' ∧ ∃ us y2 y3 y5 y6, H' F = some (.lst us) ∧ Each (RowV K) (gathR (es'.take k)) us H' ∧ σ = [some (.ref d), some (.ref R), y2, y3, some (.ref F), y5, y6])
        ⟨s02.trans sp, upd_same, eachS', [], _, _, _, _, sp _ _ hFF, .nil, rfl⟩ (fun k σ H' _ h => .inl (.inl h.2.1)) ?_ (fun σ H' h => ?_)
      · rintro k x σ H4 H4' hk ⟨s4, hp4, each4, us, y2, y3, y5, y6, hF4, rows4, rfl⟩ ⟨rfl, hx⟩
        obtain ⟨e, he, t, G, ns, rfl, hf, ht, hG, hGR, hGF⟩ := each4.at' hx
        have hes : e ∈ es := srt.1.mem_iff.mp (List.mem_of_getElem? he)
        obtain ⟨_, er, erok⟩ := ok.each e hes
        obtain ⟨nl, nok⟩ := ok.nms e hes ns hf
        obtain ⟨i, hi⟩ := List.mem_iff_getElem?.mp hes
        have hl4 : Lsts (RowV K) es kvs H4' := hl.mono s4 fun _ _ d => d.mono s4
        obtain ⟨L, lus, hval, hL, lrows⟩ := hl4.get ok.nd hi
        have llu := lrows.1
        have hd4 := s4 _ _ hd
        have tk : gathR (es'.take (k + 1)) = gathR (es'.take k) ++ e.2.map (placedR ns) := by
          rw [List.take_succ, he]
          unfold gathR
          rw [List.flatMap_append]
          simp [hf]
        have lg := rows4.1
        have lg2 : (gathR (es'.take k)).length ≤ 600 := by
          have h1 := flat_le60 (es := es'.take k) fun e he => (ok.each e (srt.1.mem_iff.mp (List.mem_of_mem_take he))).2.1
          have h2 := List.length_take_le' k es'
          omega
        refine ⟨t, [.int (ns.length : Nat), .str (S e.1), .ref G], rfl, .inl (.inl ht), rfl, _, _, rfl, _, _, rfl, _, [], rfl, rfl, ?_⟩
        unfold tAug
        refine ⟨.ref F, rfl, ?_⟩
        refine lc_midM (J0 := Itl K L) (H0 := H4') ?_ (walk_list (K := K) (a := L) (xs := lus)) (by rw [llu]; omega) (fun k acc H' => Each (RowV K) ((e.2.take k).map (placedR ns)) acc H') (fun _ _ _ _ e h => h.imp fun _ _ d => d.nl e) .nil (fun H' s => .inl (.inl (s _ _ hL))) (fun _ _ _ _ y => y_at y) (fun _ => rfl) ?_ ?_
        · walk_at "rd"
          exact ⟨.ref L, dget_s hd4 hval, .inl ⟨⟨_, .inl (.inl hL)⟩, rfl⟩⟩
        · rintro j x acc H' H'' hj s5 hc ⟨rfl, hx⟩
          obtain ⟨r, hr1, rv⟩ := lrows.at' hx
          refine mid_of (fun u H6 => Same H'' H6 ∧ RowV K (placedR ns r) u H6) ?_ ?_
          · walk_at "rd"
            exact ⟨x, G, ns, r, rfl, rv.mono s5, erok r (List.mem_of_getElem? hr1), .inl (.inl (s5 _ _ hG)), nl, nok, fun u H6 s h => ⟨s, h⟩⟩
          · rintro u H6 ⟨s6, h⟩
            refine ⟨s6, ?_⟩
            rw [List.take_succ, hr1, List.map_append]
            exact (hc.imp fun _ _ d => d.mono s6).snoc h
        intro P acc H5 hP s5 hPl lacc prow
        rw [List.take_of_length_le (by rw [llu]; exact Nat.le_refl _)] at prow
        have hF5 := s5 _ _ hF4
        walk_at "rd"
        refine ⟨F, P, us, acc, rfl, rfl, hF5, hPl, by rw [lacc, llu, sizeLine_eq]; omega, ?_⟩
        have hPF : P ≠ F := fun z => by rw [z, hF4] at hP; cases hP
        have nl5 := nl_upd (o := .lst (us ++ acc)) hF5
        refine ⟨same_mut (s4.trans s5) hF0, ?_, ?_, _, upd_same, ?_, rfl⟩
        · rw [upd_ne hpF]
          exact s5 _ _ hp4
        · refine each4.imp fun e u ⟨t, G, ns, eu, hf, ht, hG, h1, h2⟩ => ⟨t, G, ns, eu, hf, ?_, ?_, h1, h2⟩
          · exact nl5 _ _ (s5 _ _ ht) fun _ z => nomatch z
          · rw [upd_ne h2]
            exact s5 _ _ hG
        · rw [tk]
          exact ((rows4.imp fun _ _ d => d.mono s5).app prow).imp fun _ _ d => d.nl nl5
      · obtain ⟨s4, _, each4, us, y2, y3, y5, y6, hF4, rows4, e⟩ := h
        rw [List.take_of_length_le (by rw [each4.1]; exact Nat.le_refl _)] at rows4
        exact ⟨s4, us, es', _, _, _, _, srt, hF4, rows4, e⟩
    rintro σ H4 ⟨s4, us, es', y2, y3, y5, y6, srt, hF4, rows4, rfl⟩
    walk_at "rd"
    exact q1 hok F us es' H4 srt s4 hF0 hF4 rows4

/-! ### the law's own lists in folders -/
def foldT (nms : List (List Nat)) : List Nat := (nms.map (· ++ [47])).flatten
theorem foldT_join : ∀ {nms : List (List Nat)}, nms ≠ [] → foldT nms = TL.joinL [47] nms ++ [47]
  | [], h => absurd rfl h
  | [p], _ => by simp [foldT, TL.joinL]
  | p :: q :: r, _ => by
    have ih := foldT_join (nms := q :: r) (by simp)
    show (p ++ [47]) ++ foldT (q :: r) = p ++ ([47] ++ TL.joinL [47] (q :: r)) ++ [47]
    rw [ih]
    simp
theorem fold_names {nms : List (List Nat)} (h : ∀ nm ∈ nms, nm ≠ [] ∧ ∀ c ∈ nm, c ∈ SIG) : folderN (foldT nms) = some nms := by
  cases nms with
  | nil => rfl
  | cons p r =>
    have e := foldT_join (nms := p :: r) (by simp)
    have hp := pathN_join (fo := true) (by simp) h
    rw [if_pos rfl, ← e] at hp
    have hne : foldT (p :: r) ≠ [] := by rw [e]; simp
    unfold folderN
    rw [if_neg hne, hp]
theorem fold_count : ∀ {nms : List (List Nat)}, (∀ nm ∈ nms, nm ≠ [] ∧ ∀ c ∈ nm, c ∈ SIG) → (foldT nms).count 47 = nms.length
  | [], _ => rfl
  | p :: r, h => by
    have e : foldT (p :: r) = (p ++ [47]) ++ foldT r := rfl
    have h0 : p.count 47 = 0 := List.count_eq_zero.mpr (slash_sig (h p List.mem_cons_self).2)
    rw [e, List.count_append, List.count_append, h0, fold_count fun nm hn => h nm (List.mem_cons_of_mem _ hn), List.length_cons]
    simp
    omega
theorem foldT_len : ∀ {nms : List (List Nat)}, (∀ nm ∈ nms, nm.length ≤ 400) → (foldT nms).length ≤ 401 * nms.length
  | [], _ => Nat.le_refl _
  | p :: r, h => by
    have h1 := h p List.mem_cons_self
    have h2 := foldT_len fun nm hn => h nm (List.mem_cons_of_mem _ hn)
    have e : foldT (p :: r) = (p ++ [47]) ++ foldT r := rfl
    rw [e]
    simp only [List.length_append, List.length_cons, List.length_nil]
    omega
structure LEG (es : List LE) (n : Nat) : Prop where
  nd : (es.map (·.1)).Nodup
  len : es.length ≤ n
  fold : ∀ e ∈ es, ∃ nms, e.1 = foldT nms ∧ nms.length ≤ 3 ∧ ∀ nm ∈ nms, nm ≠ [] ∧ nm.length ≤ 400 ∧ ∀ c ∈ nm, c ∈ SIG
  rows : ∀ e ∈ es, e.2.length ≤ 4 ∧ ∀ r ∈ e.2, RF.Ok r
theorem LEG.nil {n : Nat} : LEG [] n := ⟨.nil, Nat.zero_le _, (fun _ h => nomatch h), (fun _ h => nomatch h)⟩
theorem LEG.put {es : List LE} {n : Nat} {nms : List (List Nat)} {rs : List RF} (h : LEG es n) (h1 : nms.length ≤ 3) (h2 : ∀ nm ∈ nms, nm ≠ [] ∧ nm.length ≤ 400 ∧ ∀ c ∈ nm, c ∈ SIG) (h3 : rs.length ≤ 4) (h4 : ∀ r ∈ rs, RF.Ok r) : LEG (putE es (foldT nms) rs) (n + 1) := by
  refine ⟨putE_keys h.nd, Nat.le_trans putE_len (Nat.succ_le_succ h.len), fun e he => ?_, fun e he => ?_⟩
  · rcases putE_mem he with he | ⟨e1, _⟩
    · exact h.fold e he
    · exact ⟨nms, e1, h1, h2⟩
  · rcases putE_mem he with he | ⟨_, e2⟩
    · exact h.rows e he
    · rw [e2]
      exact ⟨h3, h4⟩
theorem LEG.ok {es : List LE} {n : Nat} (h : LEG es n) (hn : n ≤ 9) : LEok es ∧ ∀ e ∈ es, folderN e.1 ≠ none := by
  refine ⟨⟨h.nd, Nat.le_trans h.len (by omega), fun e he => ?_, fun e he ns hf => ?_⟩, fun e he => ?_⟩
  · obtain ⟨nms, e1, l1, ok⟩ := h.fold e he
    have := foldT_len fun nm hn => (ok nm hn).2.1
    have h401 : 401 * nms.length ≤ 401 * 3 := Nat.mul_le_mul_left _ l1
    obtain ⟨l2, rok⟩ := h.rows e he
    exact ⟨by rw [e1]; omega, by omega, rok⟩
  · obtain ⟨nms, e1, l1, ok⟩ := h.fold e he
    rw [e1, fold_names fun nm hn => ⟨(ok nm hn).1, (ok nm hn).2.2⟩] at hf
    cases hf
    exact ⟨by omega, ok⟩
  · obtain ⟨nms, e1, l1, ok⟩ := h.fold e he
    rw [e1, fold_names fun nm hn => ⟨(ok nm hn).1, (ok nm hn).2.2⟩]
    simp
theorem lc_pairsL {K : PySem.W.Frag} {a : Addr} {xs : List V} {wi : TI} {i j : Nat} {te : TE} {vs : List Nat} {σ : L2.St} {H H0 : Hp} {Q : VK} (h : wi σ H fun J H1 => J = Itl K a ∧ H1 = H0) (ha : H0 a = some (.lst xs)) (hn : xs.length < 16777216) (f g : V → V) (hx : ∀ x ∈ xs, ∃ t, x = .ref t ∧ H0 t = some (.tup [f x, g x])) (C : Nat → List V → Hp → Prop) (hC : ∀ k acc Ha Hb, NL Ha Hb → C k acc Ha → C k acc Hb) (h0 : C 0 [] H0)
    (hw : ∀ x y, wipe (((wipe σ vs).set i (some x)).set j (some y)) vs = wipe σ vs)
    (turn : ∀ k x acc H', xs[k]? = some x → Same H0 H' → C k acc H' → tMid te (((wipe σ vs).set i (some (f x))).set j (some (g x))) H' fun v H4 => Same H' H4 ∧ C (k + 1) (acc ++ [v]) H4)
    (done : ∀ p acc H', H0 p = none → Same H0 H' → H' p = some (.lst acc) → acc.length = xs.length → C xs.length acc H' → Q (.ref p) H') : tLc (iMid wi) (gTup K 2 (gCons (gName i) (gCons (gName j) gNil))) tYes (tMid te) vs σ H Q := by
  refine ⟨_, h, ?_⟩
  rintro J H1 ⟨rfl, rfl⟩ p hp
  refine lc_it (walk_list (K := K) (a := a) (xs := xs)) (fun k H' => ∃ acc, Same H1 H' ∧ H' p = some (.lst acc) ∧ acc.length = k ∧ C k acc H') ⟨[], same_new hp, upd_same, rfl, hC _ _ _ _ (NL.of (same_new hp)) h0⟩ (fun k H' _ ⟨acc, s, _⟩ => .inl (.inl (s _ _ ha))) ?_ fun H' ⟨acc, s, hD, hl, c⟩ => done p acc H' hp s hD hl c
  rintro k v H' H'' hk ⟨acc, s, hD, hl, c⟩ ⟨rfl, hv⟩
  obtain ⟨t, rfl, ht⟩ := hx v (List.mem_of_getElem? hv)
  refine ⟨t, [f (.ref t), g (.ref t)], rfl, .inl (.inl (s _ _ ht)), rfl, _, [g (.ref t)], rfl, _, [], rfl, rfl, hw _ _, ?_⟩
  obtain ⟨R, h1, h2⟩ := turn k (.ref t) acc _ hv s c
  refine ⟨R, h1, ?_⟩
  rintro v H4 hR
  obtain ⟨s3, c'⟩ := h2 v H4 hR
  have hD4 : H4 p = some (.lst acc) := s3 _ _ hD
  refine ⟨acc, hD4, by rw [sizeLine_eq]; omega, acc ++ [v], same_mut (s.trans s3) hp, upd_same, by rw [List.length_append, hl]; rfl, hC _ _ _ _ (nl_upd hD4) c'⟩
theorem ranked_sortG {Rk : LE → V → Hp → Prop} {es : List LE} {xs ys : List V} {H : Hp} (key : ∀ e u, Rk e u H → keyAt H u = kE e) (h : Each Rk es xs H) (p : ys.Perm xs) (so : ys.Pairwise (fun x y => ltK (keyAt H y) (keyAt H x) = false)) : ∃ es', SrtE es es' ∧ Each Rk es' ys H := by
  have hx : xs = (es.zip xs).map (·.2) := by rw [List.map_snd_zip (by rw [h.1]; exact Nat.le_refl _)]
  rw [hx] at p
  obtain ⟨zs, p1, rfl⟩ := perm_map_inv p
  have he : es = (es.zip xs).map (·.1) := by rw [List.map_fst_zip (by rw [h.1]; exact Nat.le_refl _)]
  have mem : ∀ z ∈ zs, Rk z.1 z.2 H := fun z hz => by
    obtain ⟨i, hi⟩ := List.mem_iff_getElem?.mp (p1.mem_iff.mp hz)
    obtain ⟨h1, h2⟩ := List.getElem?_zip_eq_some.mp hi
    obtain ⟨u, hu, g⟩ := h.2 i _ h1
    rw [h2] at hu
    cases hu
    exact g
  refine ⟨zs.map (·.1), ⟨?_, ?_⟩, ?_, fun i e hi => ?_⟩
  · have := p1.map (·.1)
    rwa [← he] at this
  · rw [List.pairwise_map] at so ⊢
    refine so.imp_of_mem fun {a b} ha hb h => ?_
    rw [key _ _ (mem a ha), key _ _ (mem b hb)] at h
    exact h
  · rw [List.length_map, List.length_map]
  · rw [List.getElem?_map] at hi
    obtain ⟨z, hz, rfl⟩ := Option.map_eq_some_iff.mp hi
    exact ⟨z.2, by rw [List.getElem?_map, hz]; rfl, mem z (List.mem_of_getElem? hz)⟩
def RkQ (e : LE) (u : V) (H : Hp) : Prop := ∃ t, u = .ref t ∧ H t = some (.tup [.int (kE e).1, .str (S e.1)])
theorem RkQ.key {e : LE} {u : V} {H : Hp} (h : RkQ e u H) : keyAt H u = kE e := by
  obtain ⟨t, rfl, ht⟩ := h
  simp only [keyAt, ht]
  refine Prod.ext rfl ?_
  simp [kE]
theorem RkQ.nl {e : LE} {u : V} {H H' : Hp} (h : RkQ e u H) (n : NL H H') : RkQ e u H' := let ⟨t, a, b⟩ := h; ⟨t, a, n _ _ b fun _ z => nomatch z⟩
theorem LEG.count {es : List LE} {n : Nat} (h : LEG es n) {e : LE} (he : e ∈ es) : ((e.1.count 47 : Nat) : Int) = (kE e).1 := by
  obtain ⟨nms, e1, _, ok⟩ := h.fold e he
  have ok' : ∀ nm ∈ nms, nm ≠ [] ∧ ∀ c ∈ nm, c ∈ SIG := fun nm hn => ⟨(ok nm hn).1, (ok nm hn).2.2⟩
  unfold kE
  rw [e1, fold_count ok', fold_names ok']
  rfl
theorem splW_fold {nms : List (List Nat)} (h : ∀ nm ∈ nms, nm ≠ [] ∧ ∀ c ∈ nm, c ∈ SIG) : splW (foldT nms) = nms ++ [[]] := by
  have e : foldT nms = TL.joinL [47] (nms ++ [[]]) := by
    clear h
    induction nms with
    | nil => rfl
    | cons p r ih =>
      have e1 : foldT (p :: r) = p ++ ([47] ++ foldT r) := by show (p ++ [47]) ++ foldT r = _; simp
      rw [e1, ih]
      cases r <;> rfl
  rw [e]
  refine TL.spl_join (by simp) fun p hp => ?_
  rcases List.mem_append.mp hp with h1 | h1
  · exact slash_sig (h p h1).2
  · rw [List.mem_singleton.mp h1]
    simp
theorem eqv_deepL (ss : List SF) : PyData.eqv (.list (ss.map SF.d)) (.list [.tuple [.str "deep"]]) = decide (ss = [.deep]) := by
  match ss with
  | [] => rfl
  | [s] =>
    show (PyData.eqv s.d (.tuple [.str "deep"]) && true) = _
    rw [eqv_deep]
    cases s <;> rfl
  | a :: b :: r =>
    show (PyData.eqv a.d (.tuple [.str "deep"]) && false) = _
    simp
theorem count47 (l : List Nat) : Txt.count (S l) (S [47]) = l.count 47 := by
  have e := PyProof.Rows.count_is (S l) 47
  rw [show (S l).cps.toList = l from by simp] at e
  refine (show Txt.count (S l) (S [47]) = _ from e).trans ?_
  clear e
  induction l with
  | nil => rfl
  | cons c r ih =>
    show (if PySem.Spec.same (.str ⟨#[c]⟩) (.str ⟨#[47]⟩) then (1 : Int) else 0) + countIn _ (r.map fun n => PyData.str ⟨#[n]⟩) = _
    have h : PySem.Spec.same (.str ⟨#[c]⟩) (.str ⟨#[47]⟩) = (c == 47) := by
      by_cases hc : c = 47
      · subst hc; rfl
      · have h1 : (c == 47) = false := by simpa using hc
        rw [h1]
        show ((⟨#[c]⟩ : Str) == ⟨#[47]⟩) = false
        have h2 : ¬ (⟨#[c]⟩ : Str) = ⟨#[47]⟩ := fun e => hc (S1_inj e)
        simpa using h2
    rw [ih, h, List.count_cons]
    by_cases hc : (c == 47) = true
    · rw [if_pos hc, if_pos hc]; omega
    · rw [if_neg hc, if_neg hc]; omega
abbrev FmV (K : PySem.W.Frag) : RF → V → Hp → Prop := fun r v H => Dp K H v (RF.d r)
theorem cut_toL {xs : List V} {o : Nat} : cutV xs none (some (o : Int)) = xs.take o := by
  unfold cutV
  rw [HT.sIx_none, HT.sIx_nat, List.drop_zero, Nat.sub_zero]
  rcases Nat.le_total o xs.length with h | h
  · rw [Nat.min_eq_left h]
  · rw [Nat.min_eq_right h, List.take_of_length_le (Nat.le_refl _), List.take_of_length_le h]
theorem nms_take' {nms : List (List Nat)} {o : Nat} : (nmsV nms).take o = nmsV (nms.take o) := by unfold nmsV; rw [List.map_take, List.map_take]
theorem join_nil' : ∀ ls : List (List Nat), TL.joinL [] ls = ls.flatten
  | [] => rfl
  | [p] => by simp [TL.joinL]
  | p :: q :: r => by
    have ih := join_nil' (q :: r)
    show p ++ ([] ++ TL.joinL [] (q :: r)) = _
    rw [ih]
    rfl
def spLists (K : PySem.W.Frag) : Sp := fun vs H Q _ => ∃ a ns F rs p ws, ∃ first : Nat, vs = [.ref a, .int first, .ref F, .ref p] ∧ SqL K H a (List.map V.int ns) ∧ ns.length ≤ 63 ∧ first ≤ 50 ∧ RowsL K rs F H ∧ rs.length = 3 ∧ SqL K H p ws ∧ ws.length = 4 ∧ ws.Nodup ∧ (∀ v ∈ ws, SignV v) ∧
  ∀ d es kvs H', Same H H' → H d = none → H' d = some (.dK kvs) → Lsts (FmV K) es kvs H' → LEG es 4 → Q (.ref d) H'
theorem ok__law_lists (T : Txt K mg) : OkD P w K mg base 4 (fA K "_law_lists") ["_law_script", "_law_first", "_law_forms", "_law_signs_here"] [] (spLists K) := by
  refine okD T.F__law_lists sc__law_lists (fun _ _ _ _ _ _ us hl => match us, hl with | [_, _, _, _], _ => rfl) ?_ ?_
  · rintro vs H Q E ⟨a, ns, F, rs, p, ws, first, rfl, _⟩
    rfl
  · rintro cdv A outer s H vs Q E hr ⟨a, ns, F, rs, p, ws, first, rfl, ha, hn, hf, hF, hrs, hs, hl, nd, hw, q⟩
    refine ⟨_, (pss_cons (ps_set (i := 4) sc__law_lists.nd rfl (Or.inl rfl) (pe_mid pe_dnewK))
  (pss_cons (ps_mid (ps_for (passes_of rfl) rfl (pi_mid (pi_range1 rfl T.fr_range (pa_cons (pe_op op_mod (pe_op op_fdivW (pe_cal (ok__law_cell T) (hr.mono (by decide)) rfl T.g__law_cell (pasE (takes_of rfl rfl rfl rfl) (fun _ _ _ _ h => h)) (pa_cons (pv 0) (pa_cons (pv 1) pa_nil))) pe_int) pe_int) pa_nil))) (pg_name (i := 5) sc__law_lists.nd rfl (Or.inl rfl)) (pss_cons (ps_set (i := 6) sc__law_lists.nd rfl (Or.inr rfl) (pe_mid (pe_cal (ok__law_mixed T) (hr.mono (by decide)) rfl T.g__law_mixed (pasE (takes_of rfl rfl rfl rfl) (fun _ _ _ _ h => h)) (pa_cons (pe_cal (ok__law_cell T) (hr.mono (by decide)) rfl T.g__law_cell (pasE (takes_of rfl rfl rfl rfl) (fun _ _ _ _ h => h)) (pa_cons (pv 0) (pa_cons (pe_op (o_add (K := K)) (pe_op (o_add (K := K)) (pv 1) pe_int) (pv 5)) pa_nil))) (pa_cons pe_int pa_nil)))))
  (pss_cons (ps_set (i := 7) sc__law_lists.nd rfl (Or.inl rfl) (pe_mid (pe_slice (o_sl (K := K)) (pe_cal (ok__law_names T) (hr.mono (by decide)) rfl T.g__law_names (pasE (takes_of rfl rfl rfl rfl) (fun _ _ _ _ h => h)) (pa_cons (pe_ix (o_ix (K := K)) (pv 2) (pe_op op_mod (pv 6) (pe_callB (o_lenW (K := K) (w := w)) (by rfl) T.fr_len boot_len (pa_cons (pv 2) pa_nil))) (fun _ _ => rfl)) (pa_cons (pe_cal (ok__law_mixed T) (hr.mono (by decide)) rfl T.g__law_mixed (pasE (takes_of rfl rfl rfl rfl) (fun _ _ _ _ h => h)) (pa_cons (pv 6) (pa_cons pe_int pa_nil))) (pa_cons (pv 3) pa_nil)))) po_none (po_some (pe_op op_mod (pe_op op_fdivW (pv 6) pe_int) pe_int)))))
  (pss_cons (ps_set (i := 8) sc__law_lists.nd rfl (Or.inl rfl) (pe_mid (pe_bmK (K := K) PySem.F.plainAttrs_str PySem.F.slot_str_join PySem.F.type_str_join (mo_join (K := K)) pe_str (pa_cons (pe_lc (own := [("_law_name", 10)]) (g := (gName 10)) (tt := tYes) rfl sc__law_lists.nd (pi_mid (o_it (K := K) rfl (pv 7))) (blkOk_by (N := N__law_lists) (sc := defScope TX.s__law_lists) (by decide +kernel)) (fun _ _ _ _ _ => (pg_name (i := 10) sc__law_lists.nd rfl (Or.inl rfl))) (fun _ _ _ _ _ => pts_nil) (fun _ _ _ _ _ => (pe_mid (pe_op (o_add (K := K)) (pv 10) pe_str)))) pa_nil))))
  (pss_cons (ps_setLc (own := [("_law_j", 11)]) (g := (gName 11)) (tt := tYes) (i := 9) rfl sc__law_lists.nd rfl rfl (sw_true rfl rfl rfl (by decide +kernel)) (pi_mid (pi_range1 rfl T.fr_range (pa_cons (pe_op (o_add (K := K)) pe_int (pe_op op_mod (pe_op op_fdivW (pv 6) pe_int) pe_int)) pa_nil))) (blkOk_by (N := N__law_lists) (sc := defScope TX.s__law_lists) (by decide +kernel)) (fun _ _ _ _ _ => (pg_name (i := 11) sc__law_lists.nd rfl (Or.inl rfl))) (fun _ _ _ _ _ => pts_nil) (fun _ _ _ _ _ => (pe_mid (pe_cal (ok__law_row T) (hr.mono (by decide)) rfl T.g__law_row pasN (pa_cons (pe_cal (ok__law_mixed T) (hr.mono (by decide)) rfl T.g__law_mixed pasN (pa_cons (pv 6) (pa_cons (pe_op (o_add (K := K)) pe_int (pv 11)) pa_nil))) (pa_cons (pv 3) pa_nil))))))
  (pss_cons (ps_mid (ps_if (pt_mid (pt_cmpR (o_eq (K := K) (hu64 hr)) (pe_op op_mod (pe_op op_fdivW (pv 6) pe_int) pe_int) pe_int (nomark _))) (pss_one (ps_expr (pe_bmK (K := K) PySem.F.plainAttrs_list PySem.F.slot_list_append PySem.F.type_list_append mt_append (pv 9) (pa_cons (pe_mid (pe_tup (pa_cons (pe_tup (pa_cons (pe_tup (pa_cons pe_str pa_nil)) pa_nil)) (pa_cons (pe_cmpR (o_eq (K := K) (hu64 hr)) (pe_op op_mod (pe_op op_fdivW (pv 6) pe_int) pe_int) pe_int (nomark _)) (pa_cons (pe_cmpR (o_eq (K := K) (hu64 hr)) (pe_op op_mod (pe_op op_fdivW (pv 6) pe_int) pe_int) pe_int (nomark _)) pa_nil))))) pa_nil)))) pss_nil))
  (pss_one (ps_dput (hu_of hr) (pv 4) (pv 8) (pv 9) rfl)))))))))
  (pss_one (ps_ret (pv 4))))), ?_⟩
    have tobj := T.obj
    obtain ⟨us0, hF0, each0, oks0⟩ := id hF
    refine q_midG (fun v H' => ∃ d2, v = .ref d2 ∧ H d2 = none ∧ H' = upd H d2 (.dK [])) (fun p hp => ⟨p, rfl, hp, rfl⟩) ?_
    rintro _ _ ⟨d2, rfl, hd2, rfl⟩
    have sD := same_new (o := .dK []) hd2
    refine q_stm (fun σ H' => Same H H' ∧ ∃ es kvs x5 x6 x7 x8 x9 x10 x11, H' d2 = some (.dK kvs) ∧ Lsts (FmV K) es kvs H' ∧ LEG es 4 ∧ σ = [some (.ref a), some (.int (first : Nat)), some (.ref F), some (.ref p), some (.ref d2), x5, x6, x7, x8, x9, x10, x11]) ?_ ?_
    · refine for_open (fun J H' => ∃ n : Nat, J = Itr 0 n ∧ H' = upd H d2 (.dK []) ∧ n ≤ 4) ?_ ?_
      · walk_at "rd"
        refine ⟨a, first, ns, rfl, same_l sD ha, hn, by omega, by omega, fun c => ?_⟩
        have h0 : 0 ≤ c / 7 % 5 := Int.emod_nonneg _ (by decide)
        have h1 : c / 7 % 5 < 5 := Int.emod_lt_of_pos _ (by decide)
        exact ⟨c, rfl, ⟨by decide, by decide⟩, by omega, by omega, (c / 7 % 5).toNat, rfl, rfl, by omega⟩
      rintro _ _ ⟨n, rfl, rfl, hn4⟩
      refine for_mid (J0 := Itr 0 n) (H0 := upd H d2 (.dK [])) ⟨rfl, rfl⟩ walk_range (fun k σ H' => Same H H' ∧ ∃ es kvs x5 x6 x7 x8 x9 x10 x11, H' d2 = some (.dK kvs) ∧ Lsts (FmV K) es kvs H' ∧ LEG es k ∧ σ = [some (.ref a), some (.int (first : Nat)), some (.ref F), some (.ref p), some (.ref d2), x5, x6, x7, x8, x9, x10, x11])
        ⟨sD, [], [], _, _, _, _, _, _, _, upd_same, .nil, .nil, rfl⟩ (fun _ _ _ _ _ => trivial) ?_ (fun σ H' h => ?_)
      · rintro k x σ H1 H1' hk ⟨s1, es, kvs, x5, x6, x7, x8, x9, x10, x11, hd1, hl1, leg, rfl⟩ ⟨rfl, rfl⟩
        have ha1 := same_l s1 ha
        have hp1 := same_l s1 hs
        have hrs1 := hF.mono s1
        obtain ⟨us, hF1, each1, oks1⟩ := id hrs1
        refine q_mid (fun m => 0 ≤ m ∧ m < 2147483647) ?_ fun cell hcell => ?_
        · walk_at "rd"
          exact ⟨a, _, ns, rfl, ha1, hn, by omega, by omega, fun c => ⟨c, 70, rfl, fun m h1 h2 => ⟨rfl, m, rfl, h1, h2⟩⟩⟩
        obtain ⟨j, hj, hjl⟩ : ∃ j : Nat, cell % (rs.length : Int) = (j : Int) ∧ j < rs.length := ⟨(cell % (rs.length : Int)).toNat, by have := Int.emod_nonneg cell (b := (rs.length : Int)) (by omega); omega, by have := Int.emod_nonneg cell (b := (rs.length : Int)) (by omega); have := Int.emod_lt_of_pos cell (b := (rs.length : Int)) (by omega); omega⟩
        obtain ⟨u, hu, du⟩ := each1.2 j _ (List.getElem?_eq_getElem hjl)
        obtain ⟨okr, lor⟩ := oks1 _ (List.getElem_mem hjl)
        have okp : ∀ fs, SF.seg fs ∈ rs[j].steps → ∀ f ∈ fs, FOk f := fun fs h f hf => ⟨(show PartsOk fs from okr.ok _ h).ok f hf, lor fs h f hf⟩
        have h54 : 0 ≤ cell / 5 % 4 := Int.emod_nonneg _ (by decide)
        have h54' : cell / 5 % 4 < 4 := Int.emod_lt_of_pos _ (by decide)
        obtain ⟨i, hi⟩ : ∃ i : Nat, cell / 5 % 4 = (i : Int) := ⟨(cell / 5 % 4).toNat, by omega⟩
        refine q_midG (fun v H' => Same H1' H' ∧ ∃ g nms, v = .ref g ∧ H' g = some (.lst (nmsV nms)) ∧ nms.length ≤ 3 ∧ ∀ nm ∈ nms, nm ≠ [] ∧ nm.length ≤ 400 ∧ ∀ c ∈ nm, c ∈ SIG) ?_ ?_
        · walk_at "rd"
          have lF : LenV K (V.ref F) H1' us.length := .inl ⟨us, .inl (.inl hF1), rfl⟩
          refine .inr ⟨_, lF, by have := each1.1; omega, us, .inl (.inl (.inl hF1)), u, ?_, cell, 45, rfl, fun m _ _ => ⟨u, m, p, ws, rs[j], rfl, du, okr, okp, hp1, hl, nd, hw, fun G gs H' hne hus hlen s h => ?_⟩⟩
          · rw [each1.1, hj]
            exact atI_nat hu
          obtain ⟨nms, rfl, hnm⟩ := names_list hus
          walk_at "rd"
          refine ⟨⟨by decide, by decide⟩, .inl ⟨nmsV nms, .inl (.inl h), fun p1 hp1 => ⟨s.trans (same_new hp1), nms.take i, ?_, Nat.le_trans (by rw [List.length_take]; exact Nat.min_le_left _ _) (show i ≤ 3 by omega), fun nm h => hnm nm (List.mem_of_mem_take h)⟩⟩⟩
          rw [upd_same, hi, cut_toL, nms_take']
        rintro _ H2 ⟨s2, G, nms, rfl, hG, lnm, hnm⟩
        have hnm' : ∀ nm ∈ nms, nm ≠ [] ∧ ∀ c ∈ nm, c ∈ SIG := fun nm h => ⟨(hnm nm h).1, (hnm nm h).2.2⟩
        refine q_midG (fun v H' => Same H2 H' ∧ v = .str (S (foldT nms))) ?_ ?_
        · walk_at "rd"
          refine lc_midM (J0 := Itl K G) (H0 := H2) ?_ (walk_list (K := K) (a := G) (xs := nmsV nms)) (by rw [nms_len]; omega) (fun k acc _ => acc = nmsV ((nms.take k).map (· ++ [47]))) (fun _ _ _ _ _ e => e) rfl (fun H' s => .inl (.inl (s _ _ hG))) (fun _ _ _ _ y => y_at y) (fun _ => rfl) ?_ ?_
          · walk_at "rd"
            exact .inl ⟨_, .inl (.inl hG)⟩
          · rintro jj x acc H' H'' hj s4 rfl ⟨rfl, hx⟩
            obtain ⟨nm, hnm1, rfl⟩ := nms_at hx
            have l400 := (hnm nm (List.mem_of_getElem? hnm1)).2.1
            refine mid_of (fun v H4 => H4 = H'' ∧ v = .str (S (nm ++ [47]))) ?_ ?_
            · walk_at "rd"
              exact ⟨by rw [S_len]; show nm.length + 1 ≤ _; omega, S_cat _ _⟩
            · rintro _ _ ⟨rfl, rfl⟩
              refine ⟨Same.refl _, ?_⟩
              rw [List.take_succ, hnm1]
              simp [nmsV]
          intro W acc H3 hWn s3 hW _ hacc
          rw [List.take_of_length_le (by rw [nms_len]; exact Nat.le_refl _)] at hacc
          subst hacc
          have wl : ∀ w ∈ nms.map (· ++ [47]), w.length ≤ 401 := fun w hw => by
            obtain ⟨nm, h, rfl⟩ := List.mem_map.mp hw
            have := (hnm nm h).2.1
            rw [List.length_append, List.length_singleton]
            omega
          have l1 := sum_len wl
          rw [List.length_map] at l1
          refine ⟨(nms.map (· ++ [47])).map S, .inl (.inl (.inl hW)), ?_, s3, ?_⟩
          · rw [show (Str.ofString "").length = 0 from rfl]
            have : 401 * nms.length ≤ 401 * 3 := Nat.mul_le_mul_left _ lnm
            omega
          · rw [show Str.ofString "" = S [] from rfl, join_S, join_nil']
            rfl
        rintro _ H3 ⟨s3, rfl⟩
        have s13 := s2.trans s3
        have hp3 := same_l s13 hp1
        refine q_val ?_
        refine lc_open (fun J H' => ∃ m : Nat, J = Itr 0 m ∧ H' = H3 ∧ m ≤ 3) ?_ ?_
        · walk_at "rd"
          have h0 : 0 ≤ cell / 21 % 3 := Int.emod_nonneg _ (by decide)
          have h1 : cell / 21 % 3 < 3 := Int.emod_lt_of_pos _ (by decide)
          exact ⟨⟨by decide, by decide⟩, by omega, by omega, (1 + cell / 21 % 3).toNat, rfl, by omega⟩
        rintro _ _ ⟨m, rfl, rfl, hm3⟩
        rename_i H3
        refine lc_midM (J0 := Itr 0 m) (H0 := H3) ⟨rfl, rfl⟩ walk_range (by omega) (fun k acc H' => ∃ rr : List RF, Each (FmV K) rr acc H' ∧ rr.length = k ∧ ∀ r ∈ rr, RF.Ok r) (fun _ _ _ _ e ⟨rr, h1, h2⟩ => ⟨rr, h1.imp fun f _ d => dp_nl e _ _ (RF.tup f) d, h2⟩) ⟨[], .nil, rfl, fun _ h => nomatch h⟩ (fun _ _ => trivial) (fun _ _ _ _ y => y_fn y) (fun _ => rfl) ?_ ?_
        · rintro jj x acc H' H'' hj s' ⟨rr, e1, e2, e3⟩ ⟨rfl, rfl⟩
          refine mid_of (fun v H4 => Same H'' H4 ∧ ∃ r, RF.Ok r ∧ Dp K H4 v (RF.d r)) ?_ ?_
          · walk_at "rd"
            exact ⟨cell, _, rfl, fun mm _ _ => ⟨mm, p, ws, rfl, same_l s' hp3, hl, hw, fun v r H4 okr lo _ s4 d => ⟨s4, r, okr, d⟩⟩⟩
          · rintro v H4 ⟨s4, r, okr, d⟩
            refine ⟨s4, rr ++ [r], (e1.imp fun _ _ d => dp_mono s4 _ _ d).snoc d, by rw [List.length_append, List.length_singleton, e2], fun r' hr => (List.mem_append.mp hr).elim (e3 r') fun e => by rw [List.mem_singleton.mp e]; exact okr⟩
        rintro R rus H4 hR0 s4 hR lrus ⟨rr, rE, lrr, rok⟩
        refine q_stm (fun σ H' => Same H3 H' ∧ ∃ us rr y10 y11, H' R = some (.lst us) ∧ Each (FmV K) rr us H' ∧ rr.length ≤ 4 ∧ (∀ r ∈ rr, RF.Ok r) ∧ σ = [some (.ref a), some (.int (first : Nat)), some (.ref F), some (.ref p), some (.ref d2), some (.int (0 + (k : Int))), some (.int cell), some (.ref G), some (.str (S (foldT nms))), some (.ref R), y10, y11]) ?_ ?_
        · refine l_if (fun b H' => H' = H4) ?_ (fun H5 h => ?_) (fun H5 h => ?_)
          · walk_at "rd"
            exact ⟨by decide, by decide⟩
          · obtain rfl := h
            refine l_app rfl hR ?_
            walk_at "rd"
            intro q1 hq1 q2 hq2
            have t1 := same_new (o := .tup [V.str (Str.ofString "deep")]) hq1
            have t2 := same_new (o := .tup [V.ref q1]) hq2
            refine ⟨⟨by decide, by decide⟩, ⟨by decide, by decide⟩, fun q3 hq3 => ?_⟩
            have t3 := same_new (o := .tup [V.ref q2, V.bl (decide (cell / 252 % 2 = 1)), V.bl (decide (cell / 504 % 2 = 1))]) hq3
            have D0 : Dp K (upd H5 q1 (.tup [V.str (Str.ofString "deep")])) (.ref q1) (SF.d .deep) := .tup (.inl (.inl upd_same)) (.cons (.str _) .nil)
            have D1 := Dp.tup (K := K) (.inl (.inl (upd_same (H := upd H5 q1 (.tup [V.str (Str.ofString "deep")])) (a := q2) (o := .tup [V.ref q1])))) (.cons (dp_mono t2 _ _ D0) .nil)
            have D2 : Dp K (upd (upd (upd H5 q1 (.tup [V.str (Str.ofString "deep")])) q2 (.tup [V.ref q1])) q3 (.tup [V.ref q2, V.bl (decide (cell / 252 % 2 = 1)), V.bl (decide (cell / 504 % 2 = 1))])) (.ref q3) (RF.d ⟨[.deep], decide (cell / 252 % 2 = 1), decide (cell / 504 % 2 = 1)⟩) := .tup (.inl (.inl upd_same)) (.cons (dp_mono t3 _ _ D1) (.cons (.bl _) (.cons (.bl _) .nil)))
            have t13 := (t1.trans t2).trans t3
            generalize upd (upd (upd H5 q1 _) q2 _) q3 _ = H6 at *
            have hR6 := t13 _ _ hR
            have lru := rE.1
            refine ⟨rus, hR6, by omega, same_mut (s4.trans t13) hR0, _, upd_same, rr ++ [⟨[.deep], decide (cell / 252 % 2 = 1), decide (cell / 504 % 2 = 1)⟩], ?_, by rw [List.length_append, List.length_singleton]; omega, fun r hr => ?_⟩
            · have e6 : Each (FmV K) rr rus H6 := rE.imp fun f _ d => dp_mono t13 _ _ d
              exact Each.snoc (e6.imp fun f _ d => dp_nl (nl_upd hR6) _ _ (RF.tup f) d) (dp_nl (nl_upd hR6) _ _ (RF.tup _) D2)
            · rcases List.mem_append.mp hr with hr | hr
              · exact rok r hr
              · rw [List.mem_singleton.mp hr]
                exact ⟨by simp, fun s hs => by rw [List.mem_singleton.mp hs]; trivial, trivial, by show 1 ≤ 12; decide⟩
          · obtain rfl := h
            exact ⟨s4, rus, rr, _, _, hR, rE, by omega, rok, rfl⟩
        rintro σ H5 ⟨s5, us5, rr5, y10, y11, hR5, rE5, lrr5, rok5, rfl⟩
        have s15 := s13.trans s5
        have hd5 := s15 _ _ hd1
        have hl5 := hl1.mono s15 fun f u d => dp_mono s15 _ _ d
        have hlen := hl5.len
        have hput := hl5.put (f := foldT nms) (rs := rr5) hd5 hR5 rE5 fun g u h => dp_nd (.dict hd5) _ _ (RF.tup g) h
        have le := leg.len
        walk_at "rd"
        exact ⟨_, dput_s hd5 (by omega), same_mut (s1.trans s15) hd2, _, _, upd_same, hput, leg.put lnm hnm lrr5 rok5⟩
      · obtain ⟨s1, es, kvs, x5, x6, x7, x8, x9, x10, x11, hd1, hl1, leg, e⟩ := h
        exact ⟨s1, es, kvs, _, _, _, _, _, _, _, hd1, hl1, ⟨leg.nd, by have := leg.len; omega, leg.fold, leg.rows⟩, e⟩
    rintro σ H1 ⟨s1, es, kvs, x5, x6, x7, x8, x9, x10, x11, hd1, hl1, leg, rfl⟩
    walk_at "rd"
    exact q d2 es kvs _ s1 hd2 hd1 hl1 leg
def spMadeL (K : PySem.W.Frag) : Sp := fun vs H Q _ => ∃ d es kvs, vs = [.ref d] ∧ H d = some (.dK kvs) ∧ Lsts (FmV K) es kvs H ∧ LEG es 5 ∧ ∀ d2 kvs2 H', Same H H' → H d2 = none → H' d2 = some (.dK kvs2) → Lsts (RowV K) es kvs2 H' → Q (.ref d2) H'
theorem ok__law_made_lists (T : Txt K mg) : OkD P w K mg base 6 (fA K "_law_made_lists") ["_law_lists_here"] [] (spMadeL K) := by
  refine okD T.F__law_made_lists sc__law_made_lists (fun _ _ _ _ _ _ us hl => match us, hl with | [_], _ => rfl) ?_ ?_
  · rintro vs H Q E ⟨d, es, kvs, rfl, _⟩
    rfl
  · rintro cdv A outer s H vs Q E hr ⟨d, es, kvs, rfl, hd, hl, ok, q⟩
    refine ⟨_, (pss_cons (ps_set (i := 1) sc__law_made_lists.nd rfl (Or.inl rfl) (pe_mid pe_dnewK))
  (pss_cons (ps_mid (ps_lock (ps_for (passes_of rfl) rfl (pi_mid (pi_keys (pv 0))) (pg_name (i := 2) sc__law_made_lists.nd rfl (Or.inl rfl)) (pss_one (ps_dput (hu_of hr) (pv 1) (pv 2) (pe_lc (own := [("_law_form_here", 3)]) (g := (gName 3)) (tt := tYes) rfl sc__law_made_lists.nd (pi_mid (o_it (K := K) rfl (pe_dget (hu_of hr) (pv 0) (pv 2) (fun _ _ => rfl)))) (blkOk_by (N := N__law_made_lists) (sc := defScope TX.s__law_made_lists) (by decide +kernel)) (fun _ _ _ _ _ => (pg_name (i := 3) sc__law_made_lists.nd rfl (Or.inl rfl))) (fun _ _ _ _ _ => pts_nil) (fun _ _ _ _ _ => (pe_mid (pe_cal (ok__law_row_made T) (hr.mono (by decide)) rfl T.g__law_row_made pasN (pa_cons (pv 3) pa_nil))))) rfl)))))
  (pss_one (ps_ret (pv 1))))), ?_⟩
    have tobj := T.obj
    have lk := hl.len
    have lok := ok.len
    refine q_midG (fun v H' => ∃ d2, v = .ref d2 ∧ H d2 = none ∧ H' = upd H d2 (.dK [])) (fun p hp => ⟨p, rfl, hp, rfl⟩) ?_
    rintro _ _ ⟨d2, rfl, hd2, rfl⟩
    have hdd : d2 ≠ d := fun e => by rw [e, hd] at hd2; cases hd2
    have sD := same_new (o := .dK []) hd2
    refine q_stm (fun σ H' => Same H H' ∧ ∃ kvs2 x2 x3, H' d2 = some (.dK kvs2) ∧ Lsts (RowV K) es kvs2 H' ∧ σ = [some (.ref d), some (.ref d2), x2, x3]) ?_ ?_
    · refine ⟨d, _, sD _ _ hd, trivial, fun od => ?_⟩
      have hB : Same (upd H d (.frz od (.dK kvs))) (upd (upd H d2 (.dK [])) d (.frz od (.dK kvs))) := fun a u e => by
        by_cases ha : a = d
        · subst ha
          rw [upd_same] at e ⊢
          exact e
        · rw [upd_ne ha] at e ⊢
          exact sD a u e
      have hdB : upd H d (.frz od (.dK kvs)) d2 = none := by rw [upd_ne hdd]; exact hd2
      have hlB : Lsts (FmV K) es kvs (upd H d (.frz od (.dK kvs))) := hl.dict hd fun f u x => dp_nd (.dict hd) _ _ (RF.tup f) x
      have hfB : upd H d (.frz od (.dK kvs)) d = some (.frz od (.dK kvs)) := upd_same
      refine for_mid (J0 := Itk d od kvs) (H0 := upd (upd H d2 (.dK [])) d (.frz od (.dK kvs))) ?_ walk_keys (fun k σ H' => Same (upd H d (.frz od (.dK kvs))) H' ∧ ∃ kvs2 x2 x3, H' d2 = some (.dK kvs2) ∧ Lsts (RowV K) (es.take k) kvs2 H' ∧ σ = [some (.ref d), some (.ref d2), x2, x3])
        ⟨hB, [], _, _, by rw [upd_ne hdd, upd_same], .nil, rfl⟩ (fun k σ H' _ h => h.1 _ _ upd_same) ?_ (fun σ H' h => ?_)
      · unfold iKeys
        walk_at "rd"
        exact ⟨od, .inl ⟨kvs, upd_same, rfl⟩⟩
      · rintro k x σ H2 H2' hk ⟨s2, kvs2, x2, x3, hd22, hl2, rfl⟩ ⟨rfl, kk, v, hkv, rfl⟩
        have hlk := hlB.mono s2 fun _ _ x => dp_mono s2 _ _ x
        obtain ⟨e, L, us, he, rfl, rfl, hL, rows⟩ := hlk.at_ hkv
        obtain ⟨L', us', hval, hL', rows'⟩ := hlk.get ok.nd he
        have hdk := s2 _ _ hfB
        obtain ⟨er, erok⟩ := ok.rows e (List.mem_of_getElem? he)
        have lus := rows'.1
        unfold sDPut
        refine lc_midM (J0 := Itl K L') (H0 := H2') ?_ (walk_list (K := K) (a := L') (xs := us')) (by rw [lus]; omega) (fun k acc H' => Each (RowV K) (e.2.take k) acc H') (fun _ _ _ _ e h => h.imp fun _ _ d => d.nl e) .nil (fun H' s => .inl (.inl (s _ _ hL'))) (fun _ _ _ _ y => y_at y) (fun _ => rfl) ?_ ?_
        · walk_at "rd"
          exact ⟨.ref L', .inl ⟨kvs, .inr (S e.1), .inr ⟨od, hdk⟩, rfl, hval.symm⟩, .inl ⟨⟨_, .inl (.inl hL')⟩, rfl⟩⟩
        · rintro j x acc H' H'' hj s5 hc ⟨rfl, hx⟩
          obtain ⟨r, hr1, dr⟩ := rows'.at' hx
          refine mid_of (fun u H6 => Same H'' H6 ∧ RowV K r u H6) ?_ ?_
          · walk_at "rd"
            exact ⟨x, r, rfl, dp_mono s5 _ _ dr, erok r (List.mem_of_getElem? hr1), fun u H6 s h => ⟨s, h⟩⟩
          · rintro u H6 ⟨s6, h⟩
            refine ⟨s6, ?_⟩
            rw [List.take_succ, hr1]
            exact (hc.imp fun _ _ d => d.mono s6).snoc h
        intro P acc H5 hP s5 hPl lacc prow
        rw [List.take_of_length_le (by rw [lus]; exact Nat.le_refl _)] at prow
        have hd25 := s5 _ _ hd22
        have hl25 := hl2.mono s5 fun _ _ d => d.mono s5
        walk_at "rd"
        have hlen := hl25.len
        have hlt := List.length_take_le' k es
        have hdP : P ≠ d2 := fun z => by rw [z, hd22] at hP; cases hP
        have hput := hl25.put (f := e.1) (rs := e.2) hd25 hPl prow fun g u h => h.nd (.dict hd25)
        have hnew : ∀ e' ∈ es.take k, e'.1 ≠ e.1 := fun e' he' z => by
          obtain ⟨i, hi⟩ := List.mem_iff_getElem?.mp he'
          have hik : i < k := by
            rcases Nat.lt_or_ge i k with h | h
            · exact h
            · rw [List.getElem?_eq_none (by rw [List.length_take]; omega)] at hi
              cases hi
          rw [List.getElem?_take_of_lt hik] at hi
          have := nodup_idx ok.nd (x := e.1) (i := i) (j := k) (by rw [List.getElem?_map, hi, ← z]; rfl) (by rw [List.getElem?_map, he]; rfl)
          omega
        rw [putE_new hnew] at hput
        have tk : es.take (k + 1) = es.take k ++ [(e.1, e.2)] := by rw [List.take_succ, he]; rfl
        refine ⟨_, dput_s hd25 (by omega), same_mut (s2.trans s5) hdB, _, upd_same, ?_⟩
        rw [tk]
        exact hput
      · obtain ⟨s2, kvs2, x2, x3, hd22, hl2, rfl⟩ := h
        rw [List.take_of_length_le (by omega)] at hl2
        refine ⟨s2 _ _ upd_same, same_unlock hd s2, kvs2, _, _, by rw [upd_ne hdd]; exact hd22, ?_, rfl⟩
        exact hl2.unlock (s2 _ _ upd_same) fun f u x => x.nd (.frz (s2 _ _ upd_same))
    rintro σ H2 ⟨s2, kvs2, x2, x3, hd22, hl2, rfl⟩
    walk_at "rd"
    exact q d2 kvs2 _ s2 hd2 hd22 hl2
def spRanked (K : PySem.W.Frag) : Sp := fun vs H Q _ => ∃ d es kvs, vs = [.ref d] ∧ H d = some (.dK kvs) ∧ Lsts (FmV K) es kvs H ∧ LEG es 5 ∧ ∀ p es' H', SrtE es es' → Same H H' → H p = none → H' p = some (.lst (nmsV (es'.map (·.1)))) → Q (.ref p) H'
theorem ok__law_ranked (T : Txt K mg) : OkD P w K mg base 1 (fA K "_law_ranked") ["_law_lists_here"] [] (spRanked K) := by
  refine okD T.F__law_ranked sc__law_ranked (fun _ _ _ _ _ _ us hl => match us, hl with | [_], _ => rfl) ?_ ?_
  · rintro vs H Q E ⟨d, es, kvs, rfl, _⟩
    rfl
  · rintro cdv A outer s H vs Q E hr ⟨d, es, kvs, rfl, hd, hl, ok, q⟩
    refine ⟨_, (pss_one (ps_ret (pe_lc (own := [("_law_many", 2), ("_law_folder", 1)]) (g := (gTup K 2 (gCons (gName 2) (gCons (gName 1) gNil)))) (tt := tYes) rfl sc__law_ranked.nd (pi_mid (o_it (K := K) rfl (pe_callB (o_sortedT (K := K)) (by rfl) T.fr_sorted (by decide +kernel) (pa_cons (pe_lock (pe_lc (own := [("_law_folder", 1)]) (g := (gName 1)) (tt := tYes) rfl sc__law_ranked.nd (pi_mid (pi_keys (pv 0))) (blkOk_by (N := N__law_ranked) (sc := defScope TX.s__law_ranked) (by decide +kernel)) (fun _ _ _ _ _ => (pg_name (i := 1) sc__law_ranked.nd rfl (Or.inl rfl))) (fun _ _ _ _ _ => pts_nil) (fun _ _ _ _ _ => (pe_mid (pe_tup (pa_cons (pe_bmK (K := K) PySem.F.plainAttrs_str PySem.F.slot_str_count PySem.F.type_str_count mo_count (pv 1) (pa_cons pe_str pa_nil)) (pa_cons (pv 1) pa_nil))))))) pa_nil)))) (blkOk_by (N := N__law_ranked) (sc := defScope TX.s__law_ranked) (by decide +kernel)) (fun _ _ _ _ _ => (pg_tup rfl (pgs_cons (pg_name (i := 2) sc__law_ranked.nd rfl (Or.inl rfl)) (pgs_cons (pg_name (i := 1) sc__law_ranked.nd rfl (Or.inl rfl)) pgs_nil)))) (fun _ _ _ _ _ => pts_nil) (fun _ _ _ _ _ => (pe_mid (pv 1)))))), ?_⟩
    have tobj := T.obj
    have lk := hl.len
    have lok := ok.len
    show tLc _ _ _ _ _ _ _ _
    refine lc_open (fun J H1 => ∃ p ys es', J = Itl K p ∧ Same H H1 ∧ H1 p = some (.lst ys) ∧ SrtE es es' ∧ Each RkQ es' ys H1) ?_ ?_
    · walk_at "rd"
      refine ⟨d, _, hd, trivial, fun od => ?_⟩
      refine lc_midM (J0 := Itk d od kvs) (H0 := upd H d (.frz od (.dK kvs))) ?_ walk_keys (by omega) (fun k acc H' => Each RkQ (es.take k) acc H') (fun _ _ _ _ e h => h.imp fun _ _ d => d.nl e) .nil (fun H' s => s _ _ upd_same) (fun _ _ _ _ y => by rw [y.1]; exact Same.refl _) (fun _ => rfl) ?_ ?_
      · unfold iKeys
        walk_at "rd"
        exact ⟨od, .inl ⟨kvs, upd_same, rfl⟩⟩
      · rintro k x acc H' H'' hk s2 hc ⟨rfl, kk, v, hkv, rfl⟩
        obtain ⟨e, L, us, he, rfl, rfl, _, _⟩ := hl.at_ hkv
        refine mid_of (fun u H4 => Same H'' H4 ∧ RkQ e u H4) ?_ ?_
        · walk_at "rd"
          refine ⟨trivial, fun p hp => ⟨same_new hp, p, rfl, ?_⟩⟩
          rw [upd_same]
          show some (HO.tup [V.int (Txt.count (S e.1) (S [47])), V.str (S e.1)]) = _
          rw [count47, ok.count (List.mem_of_getElem? he)]
        · rintro u H4 ⟨s4, h⟩
          refine ⟨s4, ?_⟩
          rw [List.take_succ, he]
          exact (hc.imp fun _ _ d => d.nl (.of s4)).snoc h
      intro R xs H2 hR s2 hRl lxs each
      rw [List.take_of_length_le (by omega)] at each
      have hfr := s2 _ _ (show upd H d (.frz od (.dK kvs)) d = some (.frz od (.dK kvs)) from upd_same)
      have hRd : R ≠ d := fun z => by rw [z, upd_same] at hR; cases hR
      have s3 := same_unlock hd s2
      have each3 : Each RkQ es xs (upd H2 d (.dK kvs)) := each.imp fun e u ⟨t, a, b⟩ => ⟨t, a, by
        rw [upd_ne (fun z => by rw [z, hfr] at b; cases b)]
        exact b⟩
      have hR3 : upd H2 d (.dK kvs) R = some (.lst xs) := by rw [upd_ne hRd]; exact hRl
      refine ⟨hfr, R, xs, keyAt (upd H2 d (.dK kvs)), rfl, .inl (.inl hR3), fun x hx => ?_, fun x hx y hy e => ?_, fun ys p perm so hp => ?_⟩
      · obtain ⟨i, hi⟩ := List.mem_iff_getElem?.mp hx
        obtain ⟨e, he, rk⟩ := each3.at' hi
        have hk := rk.key
        obtain ⟨t, rfl, ht⟩ := rk
        exact ⟨t, [], rfl, by rw [hk]; exact ht⟩
      · obtain ⟨i, hi⟩ := List.mem_iff_getElem?.mp hx
        obtain ⟨j, hj⟩ := List.mem_iff_getElem?.mp hy
        obtain ⟨e1, he1, rk1⟩ := each3.at' hi
        obtain ⟨e2, he2, rk2⟩ := each3.at' hj
        rw [rk1.key, rk2.key] at e
        have e12 : e1.1 = e2.1 := congrArg (·.2) e
        have : i = j := nodup_idx ok.nd (x := e1.1) (by rw [List.getElem?_map, he1]; rfl) (by rw [List.getElem?_map, he2, e12]; rfl)
        subst this
        rw [hi] at hj
        exact Option.some.inj hj
      · obtain ⟨es', srt, eachS⟩ := ranked_sortG (fun _ _ r => r.key) each3 perm so
        have sp := same_new (o := .lst ys) hp
        exact .inl ⟨⟨_, .inl (.inl upd_same)⟩, p, rfl, s3.trans sp, ys, upd_same, es', srt, eachS.imp fun _ _ r => r.nl (.of sp)⟩
    rintro _ H1 ⟨p, ys, es', rfl, s1, hp, srt, each⟩
    have lys := each.1
    have les : es'.length ≤ 5 := by rw [srt.1.length_eq]; exact lok
    refine lc_pairsL (K := K) (a := p) (xs := ys) (H0 := H1) ⟨rfl, rfl⟩ hp (by omega) (fun x => .int (keyAt H1 x).1) (fun x => .str (S (keyAt H1 x).2)) (fun x hx => ?_) (fun k acc _ => acc = nmsV ((es'.take k).map (·.1))) (fun _ _ _ _ _ e => e) rfl (fun _ _ => rfl) ?_ ?_
    · obtain ⟨i, hi⟩ := List.mem_iff_getElem?.mp hx
      obtain ⟨e, he, rk⟩ := each.at' hi
      have hk := rk.key
      obtain ⟨t, rfl, ht⟩ := rk
      exact ⟨t, rfl, by rw [hk]; exact ht⟩
    · rintro k x acc H' hx s2 rfl
      obtain ⟨e, he, rk⟩ := each.at' hx
      rw [rk.key]
      refine mid_of (fun v H4 => H4 = H' ∧ v = .str (S e.1)) (by walk_at "rd"; rfl) ?_
      rintro _ _ ⟨rfl, rfl⟩
      refine ⟨Same.refl _, ?_⟩
      rw [List.take_succ, he]
      simp [nmsV]
    · intro P acc H2 hP s2 hPl lacc hacc
      rw [List.take_of_length_le (by omega)] at hacc
      subst hacc
      exact q P es' _ srt (s1.trans s2) (same_none s1 hP) hPl
def spFormL (K : PySem.W.Frag) : Sp := fun vs H Q _ => ∃ v r nms, vs = [v, .str (S (foldT nms))] ∧ Dp K H v (RF.d r) ∧ RF.Ok r ∧ nms.length ≤ 3 ∧ (∀ nm ∈ nms, nm ≠ [] ∧ nm.length ≤ 400 ∧ ∀ c ∈ nm, c ∈ SIG) ∧ ∀ u H', Same H H' → Dp K H' u (RF.d (placedR nms r)) → Q u H'
theorem ok__law_form (T : Txt K mg) : OkD P w K mg base 1 (fA K "_law_form") ["_law_form_here", "_law_folder"] [] (spFormL K) := by
  refine okD T.F__law_form sc__law_form (fun _ _ _ _ _ _ us hl => match us, hl with | [_, _], _ => rfl) ?_ ?_
  · rintro vs H Q E ⟨v, r, nms, rfl, _⟩
    rfl
  · rintro cdv A outer s H vs Q E hr ⟨v, r, nms, rfl, hv, ok, hl, hn, q⟩
    refine ⟨_, (pss_cons (ps_setLc (own := [("_law_name", 4)]) (g := (gName 4)) (tt := tYes) (i := 2) rfl sc__law_form.nd rfl rfl (sw_true rfl rfl rfl (by decide +kernel)) (pi_mid (o_it (K := K) rfl (pe_slice (o_sl (K := K)) (pe_bmK (K := K) PySem.F.plainAttrs_str PySem.F.slot_str_split PySem.F.type_str_split mo_split (pv 1) (pa_cons pe_str pa_nil)) po_none (po_some (pe_un un_neg pe_int))))) (blkOk_by (N := N__law_form) (sc := defScope TX.s__law_form) (by decide +kernel)) (fun _ _ _ _ _ => (pg_name (i := 4) sc__law_form.nd rfl (Or.inl rfl))) (fun _ _ _ _ _ => pts_nil) (fun _ _ _ _ _ => (pe_mid (pe_tup (pa_cons pe_str (pa_cons (pe_callTy (o_tuple (K := K)) (by rfl) T.fr_tuple (by decide +kernel) (pa_cons (pe_lc (own := [("_law_sign", 5)]) (g := (gName 5)) (tt := tYes) rfl sc__law_form.nd (pi_mid (o_it (K := K) rfl (pv 4))) (blkOk_blk (by kernel_rfl)) (fun _ _ _ _ _ => (pg_name (i := 5) sc__law_form.nd rfl (Or.inl rfl))) (fun _ _ _ _ _ => pts_nil) (fun _ _ _ _ _ => (pe_mid (pe_tup (pa_cons pe_str (pa_cons (pv 5) pa_nil)))))) pa_nil)) pa_nil))))))
  (pss_cons (ps_set (i := 3) sc__law_form.nd rfl (Or.inl rfl) (pe_mid (pe_callTy (o_list (K := K) rfl) (by rfl) T.fr_list (by decide +kernel) (pa_cons (pe_ix (o_ix (K := K)) (pv 0) pe_int (fun _ _ => rfl)) pa_nil))))
  (pss_cons (ps_mid (ps_if (pt_mid (PW.pt (pw_and (pt_cmpR (o_ne (K := K) (hu64 hr)) (pv 1) pe_str (nomark _)) (pw_and1 (pt_cmpR (o_eq (K := K) (hu64 hr)) (pv 3) (pe_lst (pa_cons (pe_tup (pa_cons pe_str pa_nil)) pa_nil)) (nomark _)))))) (pss_one (ps_expr (pe_bmK (K := K) PySem.F.plainAttrs_list PySem.F.slot_list_append PySem.F.type_list_append mt_append (pv 3) (pa_cons (pe_mid (pe_tup (pa_cons pe_str (pa_cons (pe_tup (pa_cons (pe_tup (pa_cons pe_str pa_nil)) pa_nil)) pa_nil)))) pa_nil)))) pss_nil))
  (pss_one (ps_ret (pe_tup (pa_cons (pe_callTy (o_tuple (K := K)) (by rfl) T.fr_tuple (by decide +kernel) (pa_cons (pe_op (o_add (K := K)) (pv 2) (pv 3)) pa_nil)) (pa_cons (pe_ix (o_ix (K := K)) (pv 0) pe_int (fun _ _ => rfl)) (pa_cons (pe_ix (o_ix (K := K)) (pv 0) pe_int (fun _ _ => rfl)) pa_nil))))))))), ?_⟩
    have tobj := T.obj
    have hn' : ∀ nm ∈ nms, nm ≠ [] ∧ ∀ c ∈ nm, c ∈ SIG := fun nm h => ⟨(hn nm h).1, (hn nm h).2.2⟩
    have lw := foldT_len fun nm h => (hn nm h).2.1
    have l401 : 401 * nms.length ≤ 401 * 3 := Nat.mul_le_mul_left _ hl
    obtain ⟨fa, ft, fts, rfl, hfa, hft, feach⟩ := RF.inv hv
    have lf := feach.1
    have lr := ok.len
    refine q_val ?_
    refine lc_open (fun J H1 => ∃ N, J = Itl K N ∧ Same H H1 ∧ H1 N = some (.lst (nmsV nms))) ?_ ?_
    · walk_at "rd"
      show _ ∧ _ ∧ _
      refine ⟨by decide, by rw [S_len, sizeLine_eq]; omega, fun p hp => ?_⟩
      have sp := same_new (o := .lst ((Txt.split (S (foldT nms)) (S [47])).map V.str)) hp
      have e : (Txt.split (S (foldT nms)) (S [47])).map V.str = nmsV (nms ++ [[]]) := by
        rw [split_S (b := [47]) (by simp) (by decide)]
        show ((splW (foldT nms)).map S).map V.str = _
        rw [splW_fold hn']
        rfl
      have ex : upd H p (.lst ((Txt.split (S (foldT nms)) (S [47])).map V.str)) p = some (.lst (nmsV (nms ++ [[]]))) := by rw [upd_same, e]
      refine .inl ⟨nmsV (nms ++ [[]]), .inl (.inl ex), fun p2 hp2 => .inl ⟨⟨_, .inl (.inl upd_same)⟩, p2, rfl, sp.trans (same_new hp2), ?_⟩⟩
      rw [upd_same, cut_butlast]
      congr 2
      unfold nmsV
      simp
    rintro _ H1 ⟨N, rfl, s1, hN⟩
    refine lc_midM (J0 := Itl K N) (H0 := H1) ⟨rfl, rfl⟩ (walk_list (K := K) (a := N) (xs := nmsV nms)) (by rw [nms_len]; omega) (fun k acc H' => Each (fun f u H => Dp K H u (SF.d f)) ((nms.take k).map oneS) acc H') (fun k acc Ha Hb e h => h.imp fun f _ d => dp_nl e _ _ (SF.tup f) d) .nil (fun H' s => .inl (.inl (s _ _ hN))) (fun _ _ _ _ y => y_at y) (fun _ => rfl) ?_ ?_
    · rintro j x acc H' H'' hj s4 hc ⟨rfl, hx⟩
      obtain ⟨nm, hnm, rfl⟩ := nms_at hx
      obtain ⟨nne, nl, nsg⟩ := hn nm (List.mem_of_getElem? hnm)
      refine mid_of (fun v H4 => Same H'' H4 ∧ Dp K H4 v (SF.d (oneS nm))) ?_ ?_
      · walk_at "rd"
        refine lc_midM (J0 := Its (S nm)) (H0 := H'') ?_ walk_str (by show nm.toArray.size < _; simp; omega) (fun k acc H' => Each (fun f u H => Dp K H u (PF.d f)) ((nm.take k).map PF.one) acc H') (fun k acc Ha Hb e h => h.imp fun f _ d => dp_nl e _ _ (PF.tup f) d) .nil (fun _ _ => trivial) (fun _ _ _ _ y => by rw [y.1]; exact Same.refl _) (fun _ => rfl) ?_ ?_
        · walk_at "rd"
        · rintro i x acc Ha Hb hi sa pa ⟨rfl, c, hc, rfl⟩
          have hc' : nm[i]? = some c := by simpa using hc
          refine mid_of (fun v H4 => Same Hb H4 ∧ Dp K H4 v (PF.d (.one c))) ?_ ?_
          · walk_at "rd"
            exact fun p hp => ⟨same_new hp, .tup (.inl (.inl upd_same)) (.cons (.str _) (.cons (.str _) .nil))⟩
          · rintro v H4 ⟨s5, pv⟩
            refine ⟨s5, ?_⟩
            rw [List.take_succ, hc', List.map_append]
            exact (pa.imp fun _ _ d => dp_mono s5 _ _ d).snoc pv
        · intro L pus Hc hLn sc hLl lpus pv
          rw [List.take_of_length_le (by show nm.length ≤ nm.toArray.size; simp)] at pv
          walk_at "rd"
          refine ⟨pus, .inl ⟨.inl (.inl hLl), fun l hl' p hp => ?_⟩⟩
          have sl := same_new (o := .tup pus) hl'
          have sp := same_new (o := .tup [V.str (Str.ofString "segment"), V.ref l]) hp
          refine ⟨(sc.trans sl).trans sp, .tup (.inl (.inl upd_same)) (.cons (.str _) (.cons (.tup (.inl (.inl (sp _ _ upd_same))) ?_) .nil))⟩
          exact each_dp (pv.imp fun f _ d => dp_mono (sl.trans sp) _ _ d)
      · rintro v H4 ⟨s5, sv⟩
        refine ⟨s5, ?_⟩
        rw [List.take_succ, hnm, List.map_append]
        exact (hc.imp fun _ _ d => dp_mono s5 _ _ d).snoc sv
    intro W acc H2 hWn s2 hW lacc segs
    rw [List.take_of_length_le (by rw [nms_len]; exact Nat.le_refl _)] at segs
    have s02 := s1.trans s2
    have hfa2 := same_t s02 hfa
    have hft2 := same_t s02 hft
    refine q_midG (fun v H' => Same H2 H' ∧ ∃ M, v = .ref M ∧ H2 M = none ∧ H' M = some (.lst fts)) ?_ ?_
    · walk_at "rdx"
      exact ⟨fts, .inr hft2, fun l hl' => ⟨same_new hl', hl', upd_same⟩⟩
    rintro _ H3 ⟨s3, M, rfl, hM0, hM⟩
    have s03 := s02.trans s3
    have hfa3 := same_t s03 hfa
    have feach3 : Each (fun f u H => Dp K H u (SF.d f)) r.steps fts H3 := feach.imp fun _ _ d => dp_mono s03 _ _ d
    have segs3 : Each (fun f u H => Dp K H u (SF.d f)) (nms.map oneS) acc H3 := segs.imp fun _ _ d => dp_mono s3 _ _ d
    have hW3 := s3 _ _ hW
    have hMW : M ≠ W := fun z => by rw [z, hW] at hM0; cases hM0
    refine q_stm (fun σ H' => Same H2 H' ∧ ∃ us x4 x5, H' M = some (.lst us) ∧ Each (fun f u H => Dp K H u (SF.d f)) (r.steps ++ tailS nms r.steps) us H' ∧ σ = [some (.ref fa), some (.str (S (foldT nms))), some (.ref W), some (.ref M), x4, x5]) ?_ ?_
    · refine l_if (fun b H' => Same H3 H' ∧ b = decide (nms ≠ [] ∧ r.steps = [.deep])) ?_ (fun H4 h => ?_) (fun H4 h => ?_)
      · walk_at "rd"
        refine ite2 (fun h => ?_) fun h => ?_
        · have hne : nms ≠ [] := fun e => h (by rw [e]; rfl)
          intro p hp p1 hp1
          have sp := same_new (o := .tup [V.str (Str.ofString "deep")]) hp
          have sp1 := same_new (o := .lst [V.ref p]) hp1
          have d0 : DOk 3 (.tuple [.str "deep"]) := SF.dok (f := .deep) trivial
          have k1 : DOk 4 (.list (r.steps.map SF.d)) := dok_lst fun d hd => by
            obtain ⟨s, hs, rfl⟩ := List.mem_map.mp hd
            exact SF.dok (ok.ok s hs)
          have k2 : DOk 4 (.list [.tuple [.str "deep"]]) := dok_lst fun d hd => by rw [List.mem_singleton.mp hd]; exact d0
          refine .inl ⟨.list (r.steps.map SF.d), .list [.tuple [.str "deep"]], .lst (.inl (.inl ((sp.trans sp1) _ _ hM))) (each_dp (feach3.imp fun _ _ d => dp_mono (sp.trans sp1) _ _ d)), .lst (.inl (.inl upd_same)) (.cons (dp_mono sp1 _ _ (.tup (.inl (.inl upd_same)) (.cons (.str _) .nil))) .nil), k1.shaped (by decide), k2.shaped (by decide), _, rfl, sp.trans sp1, ?_⟩
          rw [eqv_deepL]
          exact decide_eq_decide.mpr ⟨fun h => ⟨hne, h⟩, fun h => h.2⟩
        · have hne : nms = [] := Classical.byContradiction fun hne => h (fun e => by
            have e2 : foldT nms = [] := S_inj e
            rw [foldT_join hne] at e2
            simp at e2)
          exact (decide_eq_false fun h => h.1 hne).symm
      · obtain ⟨s4, hb⟩ := h
        have hM4 := s4 _ _ hM
        refine l_app rfl hM4 ?_
        walk_at "rd"
        intro p hp p1 hp1 p2 hp2
        have t0 := same_new (o := .tup [V.str (Str.ofString "stars")]) hp
        have t1 := same_new (o := .tup [V.ref p]) hp1
        have t2 := same_new (o := .tup [V.str (Str.ofString "segment"), V.ref p1]) hp2
        have D0 : Dp K (upd H4 p (.tup [V.str (Str.ofString "stars")])) (.ref p) (PF.d .stars) := .tup (.inl (.inl upd_same)) (.cons (.str _) .nil)
        have D1 := Dp.tup (K := K) (.inl (.inl (upd_same (H := upd H4 p (.tup [V.str (Str.ofString "stars")])) (a := p1) (o := .tup [V.ref p])))) (.cons (dp_mono t1 _ _ D0) .nil)
        have D2 : Dp K (upd (upd (upd H4 p (.tup [V.str (Str.ofString "stars")])) p1 (.tup [V.ref p])) p2 (.tup [V.str (Str.ofString "segment"), V.ref p1])) (.ref p2) (SF.d (.seg [.stars])) := .tup (.inl (.inl upd_same)) (.cons (.str _) (.cons (dp_mono t2 _ _ D1) .nil))
        have t02 := (t0.trans t1).trans t2
        generalize upd (upd (upd H4 p _) p1 _) p2 _ = H5 at *
        have hM5 := t02 _ _ hM4
        have hd := of_decide_eq_true hb.symm
        refine ⟨fts, hM5, by omega, same_mut ((s3.trans s4).trans t02) hM0, _, upd_same, ?_⟩
        unfold tailS
        rw [if_pos hd]
        have e5 : Each (fun f u H => Dp K H u (SF.d f)) r.steps fts H5 := feach3.imp fun _ _ d => dp_mono (s4.trans t02) _ _ d
        exact Each.snoc (e5.imp fun f _ d => dp_nl (nl_upd hM5) _ _ (SF.tup f) d) (dp_nl (nl_upd hM5) _ _ (SF.tup _) D2)
      · obtain ⟨s4, hb⟩ := h
        refine ⟨s3.trans s4, fts, _, _, s4 _ _ hM, ?_, rfl⟩
        unfold tailS
        rw [if_neg (of_decide_eq_false hb.symm), List.append_nil]
        exact feach3.imp fun _ _ d => dp_mono s4 _ _ d
    rintro σ H4 ⟨s4, us, x4, x5, hM4, each4, rfl⟩
    walk_at "rdx"
    have lus := each4.1
    have lsg := segs3.1
    have l4 : (r.steps ++ tailS nms r.steps).length ≤ 100 := by
      rw [List.length_append]
      unfold tailS
      have : (if nms ≠ [] ∧ r.steps = [SF.deep] then [SF.seg [.stars]] else []).length ≤ 1 := by split <;> simp
      omega
    rw [List.length_map] at lsg
    have hW4 := s4 _ _ hW
    have hfa4 := same_t s4 hfa2
    have segs4 : Each (fun f u H => Dp K H u (SF.d f)) (nms.map oneS) acc H4 := segs.imp fun _ _ d => dp_mono s4 _ _ d
    refine .inl ⟨acc, hW4, us, hM4, by omega, fun p hp => ?_⟩
    have sp := same_new (o := .lst (acc ++ us)) hp
    refine ⟨acc ++ us, .inl ⟨.inl (.inl upd_same), fun l hl' => ?_⟩⟩
    have sl := same_new (o := .tup (acc ++ us)) hl'
    have hfa5 := same_t (sp.trans sl) hfa4
    refine ⟨_, .inr hfa5, _, rfl, _, .inr hfa5, _, rfl, fun p1 hp1 => ?_⟩
    have s1' := same_new (o := .tup [V.ref l, V.bl r.spares, V.bl r.folders]) hp1
    have sAll := (s02.trans s4).trans ((sp.trans sl).trans s1')
    refine q _ _ sAll ?_
    have eAll : Each (fun f u H => Dp K H u (SF.d f)) (placedR nms r).steps (acc ++ us) _ := (segs4.app each4).imp fun f _ d => dp_mono ((sp.trans sl).trans s1') _ _ d
    exact .tup (.inl (.inl upd_same)) (.cons (.tup (.inl (.inl (s1' _ _ upd_same))) (each_dp eAll)) (.cons (.bl _) (.cons (.bl _) .nil)))

/-! ### the law -/
theorem q_abs {t u : TS} {D : Ends} {σ : L2.St} {H : Hp} (C : L2.St → Hp → Prop) (h : ∀ U : TS, (∀ σ' H', C σ' H' → U D σ' H') → tSeq t U D σ H) (k : ∀ σ' H', C σ' H' → u D σ' H') : tSeq t u D σ H := h u k
def badsF : List (List Nat) := [[97], [47], [97, 47, 47], [32], [65, 47], [97, 47, 98], [47, 47], [97, 32, 98, 47], [47, 97, 47], [63, 47]]
theorem bads_none : ∀ b ∈ badsF, folderN b = none ∧ b.length ≤ 10 := by decide +kernel
theorem LEok.put_bad {es : List LE} {n : Nat} {b : List Nat} (h : LEG es n) (hn : n ≤ 9) (hb : folderN b = none) (hl : b.length ≤ 1000) : LEok (putE es b []) := by
  obtain ⟨ok, _⟩ := h.ok hn
  refine ⟨putE_keys h.nd, Nat.le_trans putE_len (by have := h.len; omega), fun e he => ?_, fun e he ns hf => ?_⟩
  · rcases putE_mem he with he | ⟨e1, e2⟩
    · exact ok.each e he
    · rw [e1, e2]
      exact ⟨by omega, by decide, fun _ h => nomatch h⟩
  · rcases putE_mem he with he | ⟨e1, _⟩
    · exact ok.nms e he ns hf
    · rw [e1, hb] at hf
      cases hf
theorem putE_has {es : List LE} {f : List Nat} {rs : List RF} : ∃ e ∈ putE es f rs, e.1 = f := by
  unfold putE
  split
  · rename_i h
    obtain ⟨e, he, e2⟩ := List.any_eq_true.mp h
    have e3 := of_decide_eq_true e2
    exact ⟨_, List.mem_map.mpr ⟨e, he, rfl⟩, by rw [if_pos e3]; exact e3⟩
  · exact ⟨(f, rs), by simp, rfl⟩
theorem one_dok {nm : List Nat} (h : ∀ c ∈ nm, c ∈ SIG) : DOk 3 (oneS nm).d := dok_tup (all_cons (dok_str (by decide +kernel)) (all_cons (dok_tup fun d hd => by
  obtain ⟨f, hf, rfl⟩ := List.mem_map.mp hd
  obtain ⟨c, hc, rfl⟩ := List.mem_map.mp hf
  exact PF.dok (f := .one c) (h c hc)) all_nil))
/-- rows that may be told and compared -/
structure RTk (r : RF) : Prop where
  l1 : r.steps.length ≤ 1000
  l2 : ∀ fs, SF.seg fs ∈ r.steps → fs.length ≤ 1000
  dok : DOk 5 r.d
theorem RTk.of {r : RF} (h : r.Ok) : RTk r := ⟨RF.len1 h, RF.len2 h, RF.dok h⟩
theorem placed_tk {nms : List (List Nat)} {r : RF} (h : r.Ok) (hl : nms.length ≤ 50) (hn : ∀ nm ∈ nms, nm ≠ [] ∧ nm.length ≤ 400 ∧ ∀ c ∈ nm, c ∈ SIG) : RTk (placedR nms r) := by
  have mem : ∀ s ∈ (placedR nms r).steps, (∃ nm ∈ nms, s = oneS nm) ∨ s ∈ r.steps ∨ s = .seg [.stars] := fun s hs => by
    have hs' : s ∈ nms.map oneS ++ (r.steps ++ (if nms ≠ [] ∧ r.steps = [SF.deep] then [SF.seg [.stars]] else [])) := hs
    rcases List.mem_append.mp hs' with h1 | h1
    · obtain ⟨nm, hm, rfl⟩ := List.mem_map.mp h1
      exact .inl ⟨nm, hm, rfl⟩
    · rcases List.mem_append.mp h1 with h1 | h1
      · exact .inr (.inl h1)
      · split at h1
        · exact .inr (.inr (List.mem_singleton.mp h1))
        · cases h1
  refine ⟨?_, fun fs hf => ?_, dok_tup (all_cons (dok_tup fun d hd => ?_) (all_cons dok_bl (all_cons dok_bl all_nil)))⟩
  · show (nms.map oneS ++ (r.steps ++ (if nms ≠ [] ∧ r.steps = [SF.deep] then [SF.seg [.stars]] else []))).length ≤ 1000
    rw [List.length_append, List.length_append, List.length_map]
    have h1 : (if nms ≠ [] ∧ r.steps = [SF.deep] then [SF.seg [.stars]] else []).length ≤ 1 := by split <;> simp
    have := h.len
    omega
  · rcases mem _ hf with ⟨nm, hm, e⟩ | h1 | e
    · have e1 : fs = nm.map .one := SF.seg.inj e
      rw [e1, List.length_map]
      have := (hn nm hm).2.1
      omega
    · exact RF.len2 h fs h1
    · have e1 : fs = [.stars] := SF.seg.inj e
      rw [e1]
      decide
  · obtain ⟨s, hs, rfl⟩ := List.mem_map.mp hd
    rcases mem _ hs with ⟨nm, hm, rfl⟩ | h1 | rfl
    · exact one_dok (hn nm hm).2.2
    · exact SF.dok (h.ok s h1)
    · exact SF.dok (f := .seg [.stars]) (⟨by simp, fun f hf => by rw [List.mem_singleton.mp hf]; trivial, trivial, by decide⟩ : PartsOk [.stars])
theorem gath_tk {es es' : List LE} {n : Nat} (h : LEG es n) (srt : SrtE es es') : ∀ r ∈ gathR es', RTk r := fun r hr => by
  obtain ⟨e, he, hr1⟩ := List.mem_flatMap.mp hr
  obtain ⟨r0, h0, rfl⟩ := List.mem_map.mp hr1
  have hes := srt.1.mem_iff.mp he
  obtain ⟨nms, e1, l1, ok⟩ := h.fold e hes
  have ef : folderN e.1 = some nms := by rw [e1]; exact fold_names fun nm hn => ⟨(ok nm hn).1, (ok nm hn).2.2⟩
  rw [ef]
  exact placed_tk ((h.rows e hes).2 r0 h0) (by show nms.length ≤ 50; omega) ok
theorem tk_dok {rs : List RF} (h : ∀ r ∈ rs, RTk r) : DOk 6 (.list (rs.map RF.d)) := dok_lst fun d hd => by
  obtain ⟨r, hr, rfl⟩ := List.mem_map.mp hd
  exact (h r hr).dok
theorem srtE_uniq {es a b : List LE} (nd : (es.map (·.1)).Nodup) (h : SrtE es a) (g : SrtE es b) : a = b := by
  refine sorted_uniq (h.1.trans g.1.symm) h.2 g.2 fun x hx y hy e => ?_
  have e1 : x.1 = y.1 := congrArg (·.2) e
  obtain ⟨i, hi⟩ := List.mem_iff_getElem?.mp (h.1.mem_iff.mp hx)
  obtain ⟨j, hj⟩ := List.mem_iff_getElem?.mp (h.1.mem_iff.mp hy)
  have : i = j := nodup_idx nd (x := x.1) (by rw [List.getElem?_map, hi]; rfl) (by rw [List.getElem?_map, hj, e1]; rfl)
  subst this
  rw [hi] at hj
  exact Option.some.inj hj
def spRefused (K : PySem.W.Frag) : Sp := fun vs H Q _ => ∃ d es kvs c, vs = [.ref d, .int c] ∧ H d = some (.dK kvs) ∧ Lsts (RowV K) es kvs H ∧ LEG es 5 ∧ ∀ H', Same H H' → Q (.bl true) H'
theorem ok__law_refused (T : Txt K mg) : OkD P w K mg base 6 (fA K "_law_refused") ["_law_made", "_law_cell_here"] [] (spRefused K) := by
  refine okD T.F__law_refused sc__law_refused (fun _ _ _ _ _ _ us hl => match us, hl with | [_, _], _ => rfl) ?_ ?_
  · rintro vs H Q E ⟨d, es, kvs, c, rfl, _⟩
    rfl
  · rintro cdv A outer s H vs Q E hr ⟨d, es, kvs, c, rfl, hd, hl, leg, q⟩
    refine ⟨_, (pss_cons (ps_set (i := 2) sc__law_refused.nd rfl (Or.inl rfl) (pe_mid (pe_callTy call_dictD (by rfl) T.fr_dict (by decide +kernel) (pa_cons (pv 0) pa_nil))))
  (pss_cons (ps_dput (hu_of hr) (pv 2) (pe_ix (o_ix (K := K)) (pe_lst (pa_cons pe_str (pa_cons pe_str (pa_cons pe_str (pa_cons pe_str (pa_cons pe_str (pa_cons pe_str (pa_cons pe_str (pa_cons pe_str (pa_cons pe_str (pa_cons pe_str pa_nil))))))))))) (pe_op op_mod (pv 1) pe_int) (fun _ _ => rfl)) (pe_lst pa_nil) rfl)
  (pss_cons (ps_set (i := 3) sc__law_refused.nd rfl (Or.inl rfl) pe_non)
  (pss_cons (ps_mid (ps_try_keep (i := 4) rfl rfl rfl sc__law_refused.nd rfl rfl ⟨rfl, rfl, Or.inl T.g_ShunError⟩ (takes_of rfl rfl rfl rfl) (fun W pn xe tkW pxW => (pss_one (ps_expr (pe_calT (ok_gathered T) (hr.mono (by decide)) rfl T.g_gathered tkW (pa_cons (pv 2) pa_nil))))) (fun _ _ _ _ _ _ _ => (pss_one (ps_set (i := 3) sc__law_refused.nd rfl (Or.inl rfl) (pv 4))))))
  (pss_cons (ps_if (pt_mid (PW.pt (pw_or (pt_not (pt_tru (K := K) (pe_callB (o_isc (K := K)) (by rfl) T.fr_isinstance (by decide +kernel) (pa_cons (pv 3) (pa_cons (pe_glob (v := .ref (fA K "NoFolder")) rfl T.g_NoFolder rfl) pa_nil))) (by intro _; rfl))) (pw_or1 (pt_not (pt_tru (K := K) (pe_callB (o_isc (K := K)) (by rfl) T.fr_isinstance (by decide +kernel) (pa_cons (pv 3) (pa_cons (pe_bltn (v := .ty "ValueError") rfl T.fr_ValueError (by decide +kernel) rfl) pa_nil))) (by intro _; rfl))))))) (pss_one (ps_ret pe_bl)) pss_nil)
  (pss_one (ps_ret (pe_notK (K := K) (pe_callB (o_isc (K := K)) (by rfl) T.fr_isinstance (by decide +kernel) (pa_cons (pv 3) (pa_cons (pe_tup (pa_cons (pe_glob (v := .ref (fA K "NoLeaf")) rfl T.g_NoLeaf rfl) (pa_cons (pe_glob (v := .ref (fA K "NoPart")) rfl T.g_NoPart rfl) (pa_cons (pe_glob (v := .ref (fA K "NoPath")) rfl T.g_NoPath rfl) (pa_cons (pe_glob (v := .ref (fA K "NoText")) rfl T.g_NoText rfl) (pa_cons (pe_glob (v := .ref (fA K "TooMany")) rfl T.g_TooMany rfl) pa_nil)))))) pa_nil))))))))))), ?_⟩
    have tobj := T.obj
    refine q_midG (fun v H' => ∃ d2, v = .ref d2 ∧ H d2 = none ∧ H' = upd H d2 (.dK kvs)) ?_ ?_
    · walk_at "rd"
      exact ⟨kvs, .inl hd, fun p hp => ⟨hp, rfl⟩⟩
    rintro _ _ ⟨d2, rfl, hd2, rfl⟩
    have sD := same_new (o := .dK kvs) hd2
    have hl2 : Lsts (RowV K) es kvs (upd H d2 (.dK kvs)) := hl.mono sD fun _ _ d => d.mono sD
    have hd2' : upd H d2 (.dK kvs) d2 = some (.dK kvs) := upd_same
    generalize upd H d2 (.dK kvs) = H1 at *
    have c10 : 0 ≤ c % 10 := Int.emod_nonneg _ (by decide)
    have c10' : c % 10 < 10 := Int.emod_lt_of_pos _ (by decide)
    obtain ⟨j, hj⟩ : ∃ j : Nat, c % 10 = (j : Int) := ⟨(c % 10).toNat, by omega⟩
    obtain ⟨b, hb⟩ : ∃ b, badsF[j]? = some b := ⟨_, List.getElem?_eq_getElem (show j < badsF.length by show j < 10; omega)⟩
    obtain ⟨bn, bl⟩ := bads_none b (List.mem_of_getElem? hb)
    have lk := hl2.len
    have lg := leg.len
    refine q_abs (fun σ' H' => σ' = [some (.ref d), some (.int c), some (.ref d2), none, none] ∧ Same H H' ∧ ∃ kvs2, H' d2 = some (.dK kvs2) ∧ Lsts (RowV K) (putE es b []) kvs2 H') (fun U hU => ?_) ?_
    · walk_at "rd"
      intro p0 hp0 p1 hp1
      have t0 := same_new (o := .lst []) hp0
      have t1 := same_new (o := .lst (nmsV badsF)) hp1
      have t01 := t0.trans t1
      have hd3 := t01 _ _ hd2'
      have hl3 : Lsts (RowV K) es kvs _ := hl2.mono t01 fun _ _ d => d.mono t01
      have hL0 := t1 _ _ (show upd H1 p0 (.lst []) p0 = some (.lst []) from upd_same)
      refine ⟨nmsV badsF, .inl (.inl (.inl upd_same)), .str (S b), ?_, ?_⟩
      · rw [hj]
        refine atI_nat ?_
        unfold nmsV
        rw [List.getElem?_map, List.getElem?_map, hb]
        rfl
      have hput := hl3.put (f := b) (rs := []) hd3 hL0 .nil fun g u h => h.nd (.dict hd3)
      exact ⟨_, dput_s hd3 (by omega), hU _ _ ⟨rfl, same_mut (sD.trans t01) hd2, _, upd_same, hput⟩⟩
    rintro _ H2 ⟨rfl, s2, kvs2, hd22, hl22⟩
    refine q_val ?_
    show tSeq _ _ _ _ _
    refine q_stm (fun σ H' => Same H H' ∧ ∃ e, H' e = some (ExF (.ref (fA K "NoFolder")) none e) ∧ σ = [some (.ref d), some (.int c), some (.ref d2), some (.ref e), none]) ?_ ?_
    · unfold tCallSD
      walk_at "rd"
      refine ⟨d2, putE es b [], kvs2, rfl, hd22, hl22, LEok.put_bad leg (by decide) bn (by omega), fun hall => ?_, fun _ od H' sx => ?_⟩
      · obtain ⟨e, he, e1⟩ := putE_has (es := es) (f := b) (rs := [])
        exact absurd (by rw [e1]; exact bn) (hall e he)
      · have sH : Same H H' := fun a u e => sx a u (by
          rw [upd_ne (fun z => by rw [z, hd2] at e; cases e)]
          exact s2 a u e)
        refine ⟨true, (kxB_ex T.kx (by decide)).1, fun _ e he => ?_, fun z => nomatch z⟩
        walk_at "rd"
        exact ⟨sH.trans (same_new he), e, upd_same, rfl⟩
    rintro σ H3 ⟨s3, e, he, rfl⟩
    have ty : ∀ {H'}, Same H3 H' → TyE K H' (.ref e) (.ref (fA K "NoFolder")) := fun s => .exc (s _ _ he) (kxB_ex T.kx (y := "ShunError") (by decide)).2.1
    refine q_if (fun b H' => H' = H3 ∧ b = false) ?_ (fun _ h => nomatch h.2) fun H4 h => q_next ?_
    · walk_at "rd"
      refine isc_one (ty (Same.refl _)) (kxB_is T.kx (b := true) (by decide)) ?_
      walk_at "rd"
      refine isc_ty (ty (Same.refl _)) (kxB_ex T.kx (y := "ShunError") (by decide)).2.2 ?_
      walk_at "rd"
    obtain ⟨rfl, _⟩ := h
    walk_at "rd"
    intro p hp
    have sp := same_new (o := .tup [V.ref (fA K "NoLeaf"), V.ref (fA K "NoPart"), V.ref (fA K "NoPath"), V.ref (fA K "NoText"), V.ref (fA K "TooMany")]) hp
    refine isc_tup [fA K "NoLeaf", fA K "NoPart", fA K "NoPath", fA K "NoText", fA K "TooMany"] (ty sp) upd_same (kx_is T.kx "NoFolder" ["NoLeaf", "NoPart", "NoPath", "NoText", "TooMany"] (by decide)) ?_
    walk_at "rd"
    exact q _ (s3.trans sp)
def handE (r : RF) : List LE := [([97, 47], [r]), ([97, 45, 47], [r])]
def handS (r : RF) : List LE := [([97, 45, 47], [r]), ([97, 47], [r])]
theorem one_ok {r : RF} (h : RF.Ok r) : ∀ x ∈ [r], RF.Ok x := fun x hx => by rw [List.mem_singleton.mp hx]; exact h
theorem hand_leg {r : RF} (h : RF.Ok r) : LEG (handE r) 5 := by
  have e1 : LEG (putE [] (foldT [[97]]) [r]) 1 := LEG.nil.put (by decide) (by decide +kernel) (show 1 ≤ 4 by decide) (one_ok h)
  have e2 : LEG (putE (putE [] (foldT [[97]]) [r]) (foldT [[97, 45]]) [r]) 2 := e1.put (by decide) (by decide +kernel) (show 1 ≤ 4 by decide) (one_ok h)
  exact ⟨e2.nd, show 2 ≤ 5 by decide, e2.fold, e2.rows⟩
theorem hand_srt {r : RF} : SrtE (handE r) (handS r) := ⟨List.Perm.swap _ _ _, .cons (fun e he => by
  rw [List.mem_singleton.mp he]
  show ltK (kE ([97, 47], [])) (kE ([97, 45, 47], [])) = false
  decide +kernel) (.cons (fun _ h => nomatch h) .nil)⟩
theorem hand_gath {r : RF} : gathR (handS r) = [placedR [[97, 45]] r, placedR [[97]] r] := by
  have e1 : folderN [97, 45, 47] = some [[97, 45]] := by decide +kernel
  have e2 : folderN [97, 47] = some [[97]] := by decide +kernel
  show List.flatMap _ [_, _] = _
  simp [e1, e2]
theorem hand_head {r0 r : RF} {j : Nat} (ok : RF.Ok r0) (h : [placedR [[97, 45]] r0, placedR [[97]] r0][j]? = some r) : ∃ f, [oneS [97, 45], oneS [97]][j]? = some f ∧ r.steps[0]? = some f ∧ RTk r := by
  match j, h with
  | 0, h => exact ⟨_, rfl, by rw [← Option.some.inj h]; rfl, by rw [← Option.some.inj h]; exact placed_tk ok (by decide) (by decide +kernel)⟩
  | 1, h => exact ⟨_, rfl, by rw [← Option.some.inj h]; rfl, by rw [← Option.some.inj h]; exact placed_tk ok (by decide) (by decide +kernel)⟩
theorem lsts_keys {R : RF → V → Hp → Prop} {es : List LE} {kvs : List (Key × V)} {H : Hp} (h : Lsts R es kvs H) : kvs.map (fun kv => kV kv.1) = nmsV (es.map (·.1)) := by
  have e : kvs.map (fun kv => kV kv.1) = (kvs.map (·.1)).map kV := by rw [List.map_map]; rfl
  rw [e, h.keys]
  unfold nmsV
  rw [List.map_map, List.map_map, List.map_map]
  rfl
theorem names_dat {K : PySem.W.Frag} {H : Hp} {q : Addr} {ws : List (List Nat)} (h : H q = some (.lst (nmsV ws))) : Dp K H (.ref q) (.list (ws.map fun w => .str (S w))) := .lst (.inl (.inl h)) (by
  unfold nmsV
  rw [List.map_map]
  exact dp_map (fun w => V.str (S w)) (fun w => PyData.str (S w)) (fun x => .str _) _)
theorem fold_ok {es : List LE} {n : Nat} (h : LEG es n) : ∀ w ∈ es.map (·.1), PyData.strOk (S w) = true := fun w hw => by
  obtain ⟨e, he, rfl⟩ := List.mem_map.mp hw
  obtain ⟨nms, e1, _, ok⟩ := h.fold e he
  rw [e1]
  refine txt_ok fun c hc => ?_
  obtain ⟨l, hl, hc⟩ := List.mem_flatten.mp hc
  obtain ⟨nm, hm, rfl⟩ := List.mem_map.mp hl
  rcases List.mem_append.mp hc with h1 | h1
  · exact .inr ((ok nm hm).2.2 c h1)
  · exact .inl (List.mem_singleton.mp h1)
theorem hand_dok : DOk 4 (.list ([oneS [97, 45], oneS [97]].map SF.d)) := dok_lst (n := 3) fun d hd => by
  rcases List.mem_cons.mp hd with rfl | hd
  · exact one_dok (nm := [97, 45]) (by decide +kernel)
  · rw [List.mem_singleton.mp hd]
    exact one_dok (nm := [97]) (by decide +kernel)
theorem hand_lsts {K : PySem.W.Frag} {r : RF} {p1 p2 : Addr} {u1 u2 : V} {H : Hp} (h1 : H p1 = some (.lst [u1])) (h2 : H p2 = some (.lst [u2])) (r1 : RowV K r u1 H) (r2 : RowV K r u2 H) :
    Lsts (RowV K) (handE r) [(.inr (S [97, 47]), .ref p1), (.inr (S [97, 45, 47]), .ref p2)] H :=
  ⟨rfl, (Each.nil.snoc ⟨p1, [u1], rfl, h1, (Each.nil).snoc r1⟩).snoc ⟨p2, [u2], rfl, h2, (Each.nil).snoc r2⟩⟩
theorem bd_law (T : Txt K mg) : BodyQ P w K mg base 6 (fA K "law") "law" (defBody TX.s_law) (defScope TX.s_law) N_law (spLaw K) := by
    rintro cdv A outer s H vs Q E hr ⟨a, ns, rfl, hs, hn, q⟩
    refine ⟨_, (pss_cons (ps_set (i := 1) sc_law.nd rfl (Or.inl rfl) (pe_mid (pe_cal (ok__law_signs T) (hr.mono (by decide)) rfl T.g__law_signs (pasE (takes_of rfl rfl rfl rfl) (fun _ _ _ _ h => h)) (pa_cons (pe_cal (ok__law_cell T) (hr.mono (by decide)) rfl T.g__law_cell (pasE (takes_of rfl rfl rfl rfl) (fun _ _ _ _ h => h)) (pa_cons (pv 0) (pa_cons pe_int pa_nil))) pa_nil))))
  (pss_cons (ps_set (i := 2) sc_law.nd rfl (Or.inl rfl) (pe_mid (pe_cal (ok__law_rows T) (hr.mono (by decide)) rfl T.g__law_rows (pasE (takes_of rfl rfl rfl rfl) (fun _ _ _ _ h => h)) (pa_cons (pv 0) (pa_cons pe_int (pa_cons pe_int (pa_cons (pv 1) pa_nil)))))))
  (pss_cons (ps_set (i := 3) sc_law.nd rfl (Or.inl rfl) (pe_mid (pe_cal (ok__law_lists T) (hr.mono (by decide)) rfl T.g__law_lists (pasE (takes_of rfl rfl rfl rfl) (fun _ _ _ _ h => h)) (pa_cons (pv 0) (pa_cons pe_int (pa_cons (pv 2) (pa_cons (pv 1) pa_nil)))))))
  (pss_cons (ps_mid (ps_if (pt_mid (pt_cmpR (o_eq (K := K) (hu64 hr)) (pe_op op_mod (pe_cal (ok__law_cell T) (hr.mono (by decide)) rfl T.g__law_cell (pasE (takes_of rfl rfl rfl rfl) (fun _ _ _ _ h => h)) (pa_cons (pv 0) (pa_cons pe_int pa_nil))) pe_int) pe_int (nomark _))) (pss_one (ps_dput (hu_of hr) (pv 3) pe_str (pv 2) rfl)) pss_nil))
  (pss_cons (ps_set (i := 4) sc_law.nd rfl (Or.inl rfl) (pe_mid (pe_cal (ok__law_made_lists T) (hr.mono (by decide)) rfl T.g__law_made_lists (pasE (takes_of rfl rfl rfl rfl) (fun _ _ _ _ h => h)) (pa_cons (pv 3) pa_nil))))
  (pss_cons (ps_set (i := 5) sc_law.nd rfl (Or.inl rfl) (pe_mid (pe_lst pa_nil)))
  (pss_cons (ps_mid (ps_for (passes_of rfl) rfl (pi_mid (o_it (K := K) rfl (pe_cal (ok__law_ranked T) (hr.mono (by decide)) rfl T.g__law_ranked (pasE (takes_of rfl rfl rfl rfl) (fun _ _ _ _ h => h)) (pa_cons (pv 3) pa_nil)))) (pg_name (i := 6) sc_law.nd rfl (Or.inr rfl)) (pss_one (ps_set (i := 5) sc_law.nd rfl (Or.inl rfl) (pe_mid (pe_op (o_add (K := K)) (pv 5) (pe_lc (own := [("_law_form_here", 11)]) (g := (gName 11)) (tt := tYes) rfl sc_law.nd (pi_mid (o_it (K := K) rfl (pe_dget (hu_of hr) (pv 3) (pv 6) (fun _ _ => rfl)))) (blkOk_by (N := N_law) (sc := defScope TX.s_law) (by decide +kernel)) (fun _ _ _ _ _ => (pg_name (i := 11) sc_law.nd rfl (Or.inl rfl))) (fun _ _ _ _ _ => pts_nil) (fun _ _ _ _ _ => (pe_mid (pe_cal (ok__law_form T) (hr.mono (by decide)) rfl T.g__law_form pasN (pa_cons (pv 11) (pa_cons (pv 6) pa_nil))))))))))))
  (pss_cons (ps_mid (ps_for (passes_of rfl) rfl (pi_mid (pi_range1 rfl T.fr_range (pa_cons pe_int pa_nil))) (pg_name (i := 7) sc_law.nd rfl (Or.inl rfl)) (pss_cons (ps_set (i := 8) sc_law.nd rfl (Or.inl rfl) (pe_mid (pe_cal (ok_gathered T) (hr.mono (by decide)) rfl T.g_gathered (pasE (takes_of rfl rfl rfl rfl) (fun _ _ _ _ h => h)) (pa_cons (pv 4) pa_nil))))
  (pss_cons (ps_if (pt_mid (PW.pt (pw_or (pt_not (pt_tru (K := K) (pe_callB (o_isi (K := K)) (by rfl) T.fr_isinstance (by decide +kernel) (pa_cons (pv 8) (pa_cons (pe_bltn (v := .ty "list") rfl T.fr_list (by decide +kernel) rfl) pa_nil))) (by intro _; rfl))) (pw_or1 (pt_cmpR (o_ne (K := K) (hu64 hr)) (pe_lc (own := [("_law_row_here", 12)]) (g := (gName 12)) (tt := tYes) rfl sc_law.nd (pi_mid (o_it (K := K) rfl (pv 8))) (blkOk_by (N := N_law) (sc := defScope TX.s_law) (by decide +kernel)) (fun _ _ _ _ _ => (pg_name (i := 12) sc_law.nd rfl (Or.inl rfl))) (fun _ _ _ _ _ => pts_nil) (fun _ _ _ _ _ => (pe_mid (pe_metI0 (md_toldR T) (pv 12) (hr.mono (by decide)) pasN)))) (pv 5) (nomark _)))))) (pss_one (ps_ret pe_bl)) pss_nil)
  (pss_one (ps_expr (pe_bm0K' (K := K) PySem.F.plainAttrs_list PySem.F.slot_list_reverse PySem.F.type_list_reverse mt_reverse (pv 8))))))))
  (pss_cons (ps_mid (ps_lock (ps_for (passes_of rfl) rfl (pi_mid (pi_keys (pv 3))) (pg_name (i := 6) sc_law.nd rfl (Or.inr rfl)) (pss_one (ps_if (pt_mid (pt_cmpR (o_ne (K := K) (hu64 hr)) (pe_lc (own := [("_law_row_here", 12)]) (g := (gName 12)) (tt := tYes) rfl sc_law.nd (pi_mid (o_it (K := K) rfl (pe_dget (hu_of hr) (pv 4) (pv 6) (fun _ _ => rfl)))) (blkOk_by (N := N_law) (sc := defScope TX.s_law) (by decide +kernel)) (fun _ _ _ _ _ => (pg_name (i := 12) sc_law.nd rfl (Or.inl rfl))) (fun _ _ _ _ _ => pts_nil) (fun _ _ _ _ _ => (pe_mid (pe_metI0 (md_toldR T) (pv 12) (hr.mono (by decide)) pasN)))) (pe_dget (hu_of hr) (pv 3) (pv 6) (fun _ _ => rfl)) (nomark _))) (pss_one (ps_ret pe_bl)) pss_nil)))))
  (pss_cons (ps_set (i := 9) sc_law.nd rfl (Or.inl rfl) (pe_mid (pe_cal (ok_gathered T) (hr.mono (by decide)) rfl T.g_gathered (pasE (takes_of rfl rfl rfl rfl) (fun _ _ _ _ h => h)) (pa_cons (pe_disp (pps_cons pe_str (pe_lst (pa_cons (pe_cal (ok__law_row_made T) (hr.mono (by decide)) rfl T.g__law_row_made (pasE (takes_of rfl rfl rfl rfl) (fun _ _ _ _ h => h)) (pa_cons (pe_ix (o_ix (K := K)) (pv 2) pe_int (fun _ _ => rfl)) pa_nil)) pa_nil)) (pps_cons pe_str (pe_lst (pa_cons (pe_cal (ok__law_row_made T) (hr.mono (by decide)) rfl T.g__law_row_made (pasE (takes_of rfl rfl rfl rfl) (fun _ _ _ _ h => h)) (pa_cons (pe_ix (o_ix (K := K)) (pv 2) pe_int (fun _ _ => rfl)) pa_nil)) pa_nil)) pps_nil)) rfl rfl (by decide) (by decide)) pa_nil))))
  (pss_cons (ps_setLc (own := [("_law_row_here", 12)]) (g := (gName 12)) (tt := tYes) (i := 10) rfl sc_law.nd rfl rfl (sw_true rfl rfl rfl (by decide +kernel)) (pi_mid (o_it (K := K) rfl (pv 9))) (blkOk_by (N := N_law) (sc := defScope TX.s_law) (by decide +kernel)) (fun _ _ _ _ _ => (pg_name (i := 12) sc_law.nd rfl (Or.inl rfl))) (fun _ _ _ _ _ => pts_nil) (fun _ _ _ _ _ => (pe_mid (pe_ix (o_ix (K := K)) (pe_ix (o_ix (K := K)) (pe_metI0 (md_toldR T) (pv 12) (hr.mono (by decide)) pasN) pe_int (fun _ _ => rfl)) pe_int (fun _ _ => rfl)))))
  (pss_cons (ps_if (pt_mid (pt_cmpR (o_ne (K := K) (hu64 hr)) (pv 10) (pe_lst (pa_cons (pe_tup (pa_cons pe_str (pa_cons (pe_tup (pa_cons (pe_tup (pa_cons pe_str (pa_cons pe_str pa_nil))) (pa_cons (pe_tup (pa_cons pe_str (pa_cons pe_str pa_nil))) pa_nil))) pa_nil))) (pa_cons (pe_tup (pa_cons pe_str (pa_cons (pe_tup (pa_cons (pe_tup (pa_cons pe_str (pa_cons pe_str pa_nil))) pa_nil)) pa_nil))) pa_nil))) (nomark _))) (pss_one (ps_ret pe_bl)) pss_nil)
  (pss_one (ps_ret (pe_andK (K := K) (pe_cmpR (o_eq (K := K) (hu64 hr)) (pe_mid (pe_callTy (call_list_dK rfl) (by rfl) T.fr_list (by decide +kernel) (pa_cons (pv 4) pa_nil))) (pe_mid (pe_callTy (call_list_dK rfl) (by rfl) T.fr_list (by decide +kernel) (pa_cons (pv 3) pa_nil))) (nomark _)) (pe_andK (K := K) (pe_cmpR (o_eq (K := K) (hu64 hr)) (pe_mid (pe_cal (ok_gathered T) (hr.mono (by decide)) rfl T.g_gathered (pasE (takes_of rfl rfl rfl rfl) (fun _ _ _ _ h => h)) (pa_cons pe_dnewK pa_nil))) (pe_lst pa_nil) (nomark _)) (pe_one (pe_mid (pe_cal (ok__law_refused T) (hr.mono (by decide)) rfl T.g__law_refused (pasE (takes_of rfl rfl rfl rfl) (fun _ _ _ _ h => h)) (pa_cons (pv 4) (pa_cons (pe_cal (ok__law_cell T) (hr.mono (by decide)) rfl T.g__law_cell (pasE (takes_of rfl rfl rfl rfl) (fun _ _ _ _ h => h)) (pa_cons (pv 0) (pa_cons pe_int pa_nil))) pa_nil))))))))))))))))))))), ?_⟩
    have tobj := T.obj
    refine q_midG (fun v H' => Same H H' ∧ ∃ p ws, v = .ref p ∧ H' p = some (.lst ws) ∧ ws.length = 4 ∧ ws.Nodup ∧ ∀ v ∈ ws, SignV v) ?_ ?_
    · walk_at "rd"
      exact ⟨a, 0, ns, rfl, hs, hn, by omega, by omega, fun c => ⟨c, rfl, fun p l H3 hl4 nd hw hp s3 hpl => ⟨s3, p, rfl, l, hpl, hl4, nd, hw⟩⟩⟩
    rintro _ H1 ⟨s1, p, ws, rfl, hp, hl4, nd, hw⟩
    refine q_midG (fun v H' => Same H1 H' ∧ ∃ F rs, v = .ref F ∧ RowsL K rs F H' ∧ rs.length = 3) ?_ ?_
    · walk_at "rd"
      exact ⟨a, ns, p, ws, 1, 3, rfl, same_l s1 hs, hn, by omega, .inl (.inl hp), hl4, hw, fun F rs H' s hn0 hR hlen => ⟨s, F, rfl, rs, hR, hlen⟩⟩
    rintro _ H2 ⟨s2, F, rs, rfl, hF, lrs⟩
    have hs2 := same_l (s1.trans s2) hs
    have hp2 := s2 _ _ hp
    refine q_midG (fun v H' => Same H2 H' ∧ ∃ d es kvs, v = .ref d ∧ H2 d = none ∧ H' d = some (.dK kvs) ∧ Lsts (FmV K) es kvs H' ∧ LEG es 4) ?_ ?_
    · walk_at "rd"
      exact ⟨a, ns, F, rs, p, ws, 4, rfl, hs2, hn, by decide, hF, lrs, .inl (.inl hp2), hl4, nd, hw, fun d es kvs H' s h0 hd hl leg => ⟨s, d, rfl, h0, es, kvs, hd, hl, leg⟩⟩
    rintro _ H3 ⟨s3, d, es0, kvs0, rfl, hd0, hd3, hl3, leg3⟩
    have hF3 := hF.mono s3
    have hs3 := same_l s3 hs2
    refine q_stm (fun σ H' => Same H2 H' ∧ ∃ es kvs, H' d = some (.dK kvs) ∧ Lsts (FmV K) es kvs H' ∧ LEG es 5 ∧ σ = [some (.ref a), some (.ref p), some (.ref F), some (.ref d), none, none, none, none, none, none, none, none, none]) ?_ ?_
    · refine l_if (fun b H' => H' = H3) ?_ (fun H4 h => ?_) (fun H4 h => ?_)
      · walk_at "rd"
        exact ⟨a, 4, ns, rfl, hs3, hn, by omega, by omega, fun c => ⟨⟨c, rfl⟩, rfl⟩⟩
      · obtain rfl := h
        obtain ⟨us, hFl, fE, fok⟩ := id hF3
        have hput := hl3.put (f := foldT []) (rs := rs) hd3 hFl fE fun g u h => dp_nd (.dict hd3) _ _ (RF.tup g) h
        have lk := hl3.len
        have lg := leg3.len
        walk_at "rd"
        exact ⟨_, dput_s (z := S []) hd3 (by omega), same_mut s3 hd0, _, _, upd_same, hput, leg3.put (by decide) (fun _ h => nomatch h) (by omega) fun r hr => (fok r hr).1⟩
      · obtain rfl := h
        exact ⟨s3, es0, kvs0, hd3, hl3, ⟨leg3.nd, by have := leg3.len; omega, leg3.fold, leg3.rows⟩, rfl⟩
    rintro σ H4 ⟨s4, es, kvs, hd4, hl4', leg, rfl⟩
    obtain ⟨lok, lnone⟩ := leg.ok (by decide)
    have lge := leg.len
    have hs4 := same_l s4 hs2
    have hF4 := hF.mono s4
    refine q_midG (fun v H' => Same H4 H' ∧ ∃ d2 kvs2, v = .ref d2 ∧ H' d2 = some (.dK kvs2) ∧ Lsts (RowV K) es kvs2 H' ∧ H4 d2 = none) ?_ ?_
    · walk_at "rd"
      exact ⟨d, es, kvs, rfl, hd4, hl4', leg, fun d2 kvs2 H' s h0 hd2 hl2 => ⟨s, d2, rfl, kvs2, hd2, hl2, h0⟩⟩
    rintro _ H5 ⟨s5, d2, kvs2, rfl, hd25, hl25, hd20⟩
    have hdd : d2 ≠ d := fun z => by rw [z, hd4] at hd20; cases hd20
    have hd5 := s5 _ _ hd4
    have hl5 := hl4'.mono s5 fun _ _ x => dp_mono s5 _ _ x
    have hs5 := same_l s5 hs4
    have hF5 := hF4.mono s5
    refine q_newM fun D0 hD0 => ?_
    have sD := same_new (o := .lst []) hD0
    have hD06 : upd H5 D0 (.lst []) D0 = some (.lst []) := upd_same
    generalize upd H5 D0 (.lst []) = H6 at *
    have hd6 := sD _ _ hd5
    have hl6 := hl5.mono sD fun _ _ x => dp_mono sD _ _ x
    refine q_stm (fun σ H' => Same H5 H' ∧ ∃ D us es' x6 x11, SrtE es es' ∧ H' D = some (.lst us) ∧ Each (FmV K) (gathR es') us H' ∧ σ = [some (.ref a), some (.ref p), some (.ref F), some (.ref d), some (.ref d2), some (.ref D), x6, none, none, none, none, x11, none]) ?_ ?_
    · refine for_open (fun J H' => ∃ R es', J = Itl K R ∧ Same H6 H' ∧ SrtE es es' ∧ H' R = some (.lst (nmsV (es'.map (·.1))))) ?_ ?_
      · walk_at "rd"
        exact ⟨d, es, kvs, rfl, hd6, hl6, leg, fun R es' H' srt s h0 hR => .inl ⟨⟨_, .inl (.inl hR)⟩, R, rfl, s, es', srt, hR⟩⟩
      rintro _ H7 ⟨R, es', rfl, s7, srt, hR⟩
      have les : es'.length ≤ 5 := by rw [srt.1.length_eq]; exact lge
      refine for_mid (J0 := Itl K R) (H0 := H7) ⟨rfl, rfl⟩ (walk_list (K := K) (a := R) (xs := nmsV (es'.map (·.1)))) (fun k σ H' => Same H7 H' ∧ ∃ D us x6 x11, H' D = some (.lst us) ∧ Each (FmV K) (gathR (es'.take k)) us H' ∧ σ = [some (.ref a), some (.ref p), some (.ref F), some (.ref d), some (.ref d2), some (.ref D), x6, none, none, none, none, x11, none])
        ⟨Same.refl _, D0, [], _, _, s7 _ _ hD06, .nil, rfl⟩ (fun _ _ _ _ h => .inl (.inl (h.1 _ _ hR))) ?_ (fun σ H' h => ?_)
      · rintro k x σ H8 H8' hk ⟨s8, D, us, x6, x11, hD8, each8, rfl⟩ ⟨rfl, hx⟩
        obtain ⟨ft, hft, rfl⟩ := nms_at hx
        rw [List.getElem?_map] at hft
        obtain ⟨e, he, rfl⟩ := Option.map_eq_some_iff.mp hft
        have hes := srt.1.mem_iff.mp (List.mem_of_getElem? he)
        obtain ⟨nms, e1, l3, nok⟩ := leg.fold e hes
        obtain ⟨er, erok⟩ := leg.rows e hes
        have ef : folderN e.1 = some nms := by rw [e1]; exact fold_names fun nm hn => ⟨(nok nm hn).1, (nok nm hn).2.2⟩
        have s68 := s7.trans s8
        have hd8 := s68 _ _ hd6
        have hl8 := hl6.mono s68 fun _ _ x => dp_mono s68 _ _ x
        obtain ⟨i, hi⟩ := List.mem_iff_getElem?.mp hes
        obtain ⟨L, lus, hval, hL, lE⟩ := hl8.get leg.nd hi
        have llu := lE.1
        have tk : gathR (es'.take (k + 1)) = gathR (es'.take k) ++ e.2.map (placedR nms) := by
          rw [List.take_succ, he]
          unfold gathR
          rw [List.flatMap_append]
          simp [ef]
        have lg := each8.1
        have lg2 : (gathR (es'.take k)).length ≤ 600 := by
          have h1 := flat_le60 (es := es'.take k) fun e he => Nat.le_trans (leg.rows e (srt.1.mem_iff.mp (List.mem_of_mem_take he))).1 (by decide)
          have h2 := List.length_take_le' k es'
          omega
        refine l_midG (fun v H' => Same H8' H' ∧ ∃ D us, v = .ref D ∧ H' D = some (.lst us) ∧ Each (FmV K) (gathR (es'.take (k + 1))) us H') ?_ ?_
        · walk_at "rd"
          refine lc_midM (J0 := Itl K L) (H0 := H8') ?_ (walk_list (K := K) (a := L) (xs := lus)) (by rw [llu]; omega) (fun k acc H' => Each (FmV K) ((e.2.take k).map (placedR nms)) acc H') (fun _ _ _ _ e h => h.imp fun f _ d => dp_nl e _ _ (RF.tup f) d) .nil (fun H' s => .inl (.inl (s _ _ hL))) (fun _ _ _ _ y => y_at y) (fun _ => rfl) ?_ ?_
          · walk_at "rd"
            exact ⟨.ref L, dget_s hd8 hval, .inl ⟨⟨_, .inl (.inl hL)⟩, rfl⟩⟩
          · rintro j x acc H' H'' hj s9 hc ⟨rfl, hx⟩
            obtain ⟨r, hr1, dr⟩ := lE.at' hx
            refine mid_of (fun u H6 => Same H'' H6 ∧ Dp K H6 u (RF.d (placedR nms r))) ?_ ?_
            · walk_at "rd"
              exact ⟨x, r, nms, by rw [← e1], dp_mono s9 _ _ dr, erok r (List.mem_of_getElem? hr1), l3, nok, fun u H6 s h => ⟨s, h⟩⟩
            · rintro u H6 ⟨s6, h⟩
              refine ⟨s6, ?_⟩
              rw [List.take_succ, hr1, List.map_append]
              exact (hc.imp fun f _ d => dp_mono s6 _ _ d).snoc h
          intro P acc H9 hP s9 hPl lacc prow
          rw [List.take_of_length_le (by rw [llu]; exact Nat.le_refl _)] at prow
          refine .inl ⟨us, s9 _ _ hD8, acc, hPl, by omega, fun p1 hp1 => ?_⟩
          have sp1 := same_new (o := .lst (us ++ acc)) hp1
          refine ⟨s9.trans sp1, _, upd_same, ?_⟩
          rw [tk]
          exact (each8.imp fun _ _ d => dp_mono (s9.trans sp1) _ _ d).app (prow.imp fun _ _ d => dp_mono sp1 _ _ d)
        · rintro _ H9 ⟨s9, D', us', rfl, hD', each'⟩
          exact ⟨s8.trans s9, D', us', _, _, hD', each', rfl⟩
      · obtain ⟨s8, D, us, x6, x11, hD8, each8, e⟩ := h
        rw [List.take_of_length_le (by rw [nms_len, List.length_map]; exact Nat.le_refl _)] at each8
        exact ⟨(sD.trans s7).trans s8, D, us, es', _, _, srt, hD8, each8, e⟩
    rintro σ H7 ⟨s7, D, us, es', x6, x11, srt, hD7, each7, rfl⟩
    have gtk := gath_tk leg srt
    have les : es'.length ≤ 5 := by rw [srt.1.length_eq]; exact lge
    have lgr : (gathR es').length ≤ 600 := by
      have h1 := flat_le60 (es := es') fun e he => Nat.le_trans (leg.rows e (srt.1.mem_iff.mp he)).1 (by decide)
      omega
    have hd27 := s7 _ _ hd25
    have hl27 := hl25.mono s7 fun _ _ x => x.mono s7
    have hd7 := s7 _ _ hd5
    have hl7 := hl5.mono s7 fun _ _ x => dp_mono s7 _ _ x
    refine q_stm (fun σ H' => Same H7 H' ∧ ∃ x7 x8 x12, σ = [some (.ref a), some (.ref p), some (.ref F), some (.ref d), some (.ref d2), some (.ref D), x6, x7, x8, none, none, x11, x12]) ?_ ?_
    · refine for_mid (J0 := Itr 0 2) (H0 := H7) ?_ walk_range (fun k σ H' => Same H7 H' ∧ ∃ x7 x8 x12, σ = [some (.ref a), some (.ref p), some (.ref F), some (.ref d), some (.ref d2), some (.ref D), x6, x7, x8, none, none, x11, x12]) ⟨Same.refl _, _, _, _, rfl⟩ (fun _ _ _ _ _ => trivial) ?_ (fun σ H' h => h)
      · walk_at "rd"
        exact ⟨by decide, by decide, rfl⟩
      · rintro k x σ H8 H8' hk ⟨s8, x7, x8, x12, rfl⟩ ⟨rfl, rfl⟩
        have hd28 := s8 _ _ hd27
        have hl28 := hl27.mono s8 fun _ _ x => x.mono s8
        have hD8 := s8 _ _ hD7
        have each8 : Each (FmV K) (gathR es') us H8' := each7.imp fun _ _ d => dp_mono s8 _ _ d
        refine q_midG (fun v H' => Same H8' H' ∧ ∃ N vs, v = .ref N ∧ H8' N = none ∧ H' N = some (.lst vs) ∧ Each (RowV K) (gathR es') vs H') ?_ ?_
        · walk_at "rd"
          refine ⟨d2, es, kvs2, rfl, hd28, hl28, lok, fun _ N vs es2 H' srt2 s hn0 hN rE => ⟨s, N, rfl, hn0, vs, hN, ?_⟩, fun ⟨e, he, h⟩ => absurd h (lnone e he)⟩
          rw [srtE_uniq leg.nd srt srt2]
          exact rE
        rintro _ H9 ⟨s9, N, vs, rfl, hN0, hN, rows9⟩
        have hD9 := s9 _ _ hD8
        have each9 : Each (FmV K) (gathR es') us H9 := each8.imp fun _ _ d => dp_mono s9 _ _ d
        refine q_if (fun b H' => Same H9 H' ∧ b = false) ?_ (fun _ h => nomatch h.2) fun H10 h => q_next ?_
        · walk_at "rd"
          refine ⟨"list", .base (.lst hN), true, by decide +kernel, ?_⟩
          rw [if_neg (by decide)]
          refine lc_midM (J0 := Itl K N) (H0 := H9) ?_ (walk_list (K := K) (a := N) (xs := vs)) (by rw [rows9.1]; omega) (fun k acc H' => Each (fun f u H => Dp K H u (RF.d f)) ((gathR es').take k) acc H') (fun k acc Ha Hb e h => h.imp fun f _ d => dp_nl e _ _ (RF.tup f) d) .nil (fun H' s => .inl (.inl (s _ _ hN))) (fun _ _ _ _ y => y_at y) (fun _ => rfl) ?_ ?_
          · walk_at "rd"
            exact .inl ⟨vs, .inl (.inl hN)⟩
          · rintro j x acc H' H'' hj s' hc ⟨rfl, hx⟩
            obtain ⟨r, hr1, dr⟩ := rows9.at' hx
            have okr := gtk r (List.mem_of_getElem? hr1)
            refine mid_of (fun u H4 => Same H'' H4 ∧ Dp K H4 u r.d) ?_ ?_
            · walk_at "rd"
              exact ⟨r, dr.mono s', x, rfl, dr.mono s', okr.l1, okr.l2, fun u H4 s d => ⟨s, d⟩⟩
            · rintro u H4 ⟨s5, h⟩
              refine ⟨s5, ?_⟩
              rw [List.take_succ, hr1]
              exact (hc.imp fun _ _ d => dp_mono s5 _ _ d).snoc h
          · intro p1 acc H' hp1 s' hacc _ hc
            rw [List.take_of_length_le (by rw [rows9.1]; exact Nat.le_refl _)] at hc
            exact ne_dat (tk_dok gtk) (by decide) (.lst (.inl (.inl hacc)) (each_dp hc)) (.lst (.inl (.inl (s' _ _ hD9))) (each_dp (each9.imp fun _ _ d => dp_mono s' _ _ d))) ⟨_, rfl, s', rfl⟩
        obtain ⟨s10, _⟩ := h
        walk_at "rd"
        exact ⟨⟨_, .inl (.inl (s10 _ _ hN))⟩, N, vs, rfl, rfl, s10 _ _ hN, fun a u e => by
          have e8 := s8 _ _ e
          rw [upd_ne (fun z => by rw [z, hN0] at e8; cases e8)]
          exact s10 _ _ (s9 _ _ e8)⟩
    rintro σ H8 ⟨s8, x7, x8, x12, rfl⟩
    have hd28 := s8 _ _ hd27
    have hl28 := hl27.mono s8 fun _ _ x => x.mono s8
    have hd8 := s8 _ _ hd7
    have hl8 := hl7.mono s8 fun _ _ x => dp_mono s8 _ _ x
    have lk := hl8.len
    refine q_stm (fun σ H' => Same H8 H' ∧ ∃ x6 x12, σ = [some (.ref a), some (.ref p), some (.ref F), some (.ref d), some (.ref d2), some (.ref D), x6, x7, x8, none, none, x11, x12]) ?_ ?_
    · refine ⟨d, _, hd8, trivial, fun od => ?_⟩
      have hfB : upd H8 d (.frz od (.dK kvs)) d = some (.frz od (.dK kvs)) := upd_same
      have hd2B : upd H8 d (.frz od (.dK kvs)) d2 = some (.dK kvs2) := by rw [upd_ne hdd]; exact hd28
      have hlB : Lsts (FmV K) es kvs (upd H8 d (.frz od (.dK kvs))) := hl8.dict hd8 fun f u x => dp_nd (.dict hd8) _ _ (RF.tup f) x
      have hl2B : Lsts (RowV K) es kvs2 (upd H8 d (.frz od (.dK kvs))) := hl28.dict hd8 fun f u x => x.nd (.dict hd8)
      refine for_mid (J0 := Itk d od kvs) (H0 := upd H8 d (.frz od (.dK kvs))) ?_ walk_keys (fun k σ H' => Same (upd H8 d (.frz od (.dK kvs))) H' ∧ ∃ x6 x12, σ = [some (.ref a), some (.ref p), some (.ref F), some (.ref d), some (.ref d2), some (.ref D), x6, x7, x8, none, none, x11, x12])
        ⟨Same.refl _, _, _, rfl⟩ (fun k σ H' _ h => h.1 _ _ upd_same) ?_ (fun σ H' h => ?_)
      · unfold iKeys
        walk_at "rd"
        exact ⟨od, .inl ⟨kvs, upd_same, rfl⟩⟩
      · rintro k x σ H9 H9' hk ⟨s9, y6, y12, rfl⟩ ⟨rfl, kk, v, hkv, rfl⟩
        have hlk := hlB.mono s9 fun _ _ x => dp_mono s9 _ _ x
        have hl2k := hl2B.mono s9 fun _ _ x => x.mono s9
        obtain ⟨e, L0, us0, he, rfl, rfl, hL0, rows0⟩ := hlk.at_ hkv
        obtain ⟨L, ls, hval, hL, lE⟩ := hlk.get leg.nd he
        obtain ⟨M, ms, hval2, hM, mE⟩ := hl2k.get leg.nd he
        have hdk := s9 _ _ hfB
        have hd2k := s9 _ _ hd2B
        obtain ⟨er, erok⟩ := leg.rows e (List.mem_of_getElem? he)
        have lms := mE.1
        refine l_if (fun b H' => Same H9' H' ∧ b = false) ?_ (fun _ h => nomatch h.2) fun H10 h => ?_
        · walk_at "rd"
          refine lc_midM (J0 := Itl K M) (H0 := H9') ?_ (walk_list (K := K) (a := M) (xs := ms)) (by rw [lms]; omega) (fun k acc H' => Each (fun f u H => Dp K H u (RF.d f)) (e.2.take k) acc H') (fun k acc Ha Hb e h => h.imp fun f _ d => dp_nl e _ _ (RF.tup f) d) .nil (fun H' s => .inl (.inl (s _ _ hM))) (fun _ _ _ _ y => y_at y) (fun _ => rfl) ?_ ?_
          · walk_at "rd"
            exact ⟨.ref M, dget_s hd2k hval2, .inl ⟨⟨_, .inl (.inl hM)⟩, rfl⟩⟩
          · rintro j x acc H' H'' hj s' hc ⟨rfl, hx⟩
            obtain ⟨r, hr1, dr⟩ := mE.at' hx
            have okr := RTk.of (erok r (List.mem_of_getElem? hr1))
            refine mid_of (fun u H4 => Same H'' H4 ∧ Dp K H4 u r.d) ?_ ?_
            · walk_at "rd"
              exact ⟨r, dr.mono s', x, rfl, dr.mono s', okr.l1, okr.l2, fun u H4 s d => ⟨s, d⟩⟩
            · rintro u H4 ⟨s5, h⟩
              refine ⟨s5, ?_⟩
              rw [List.take_succ, hr1]
              exact (hc.imp fun _ _ d => dp_mono s5 _ _ d).snoc h
          · intro p1 acc H' hp1 s' hacc _ hc
            rw [List.take_of_length_le (by rw [lms]; exact Nat.le_refl _)] at hc
            exact ⟨.ref L, .inl ⟨kvs, .inr (S e.1), .inr ⟨od, s' _ _ hdk⟩, rfl, hval.symm⟩, ne_dat (tk_dok fun r hr => RTk.of (erok r hr)) (by decide) (.lst (.inl (.inl hacc)) (each_dp hc)) (.lst (.inl (.inl (s' _ _ hL))) (each_dp (lE.imp fun _ _ d => dp_mono s' _ _ d))) ⟨_, rfl, s', rfl⟩⟩
        obtain ⟨s10, _⟩ := h
        exact ⟨s9.trans s10, _, _, rfl⟩
      · obtain ⟨s9, y6, y12, rfl⟩ := h
        exact ⟨s9 _ _ upd_same, same_unlock hd8 s9, _, _, rfl⟩
    rintro σ H9 ⟨s9, y6, y12, rfl⟩
    have hF9 := hF5.mono (s7.trans (s8.trans s9))
    obtain ⟨fus, hFl, fE, fok⟩ := id hF9
    obtain ⟨r0, hr0⟩ : ∃ r0, rs[0]? = some r0 := ⟨_, List.getElem?_eq_getElem (by omega)⟩
    obtain ⟨v0, hv0, dv0⟩ := fE.2 0 r0 hr0
    have ok0 := (fok r0 (List.mem_of_getElem? hr0)).1
    refine q_midG (fun v H' => Same H9 H' ∧ ∃ G vs, v = .ref G ∧ H' G = some (.lst vs) ∧ Each (RowV K) [placedR [[97, 45]] r0, placedR [[97]] r0] vs H') ?_ ?_
    · walk_at "rd"
      intro p0 hp0
      have t0 := same_new (o := .dK []) hp0
      refine ⟨fus, .inl (.inl (.inl (t0 _ _ hFl))), v0, atI_nat (j := 0) hv0, v0, r0, rfl, dp_mono t0 _ _ dv0, ok0, fun u1 H1' s1' w1 p1 hp1 => ?_⟩
      have t1 := same_new (o := .lst [u1]) hp1
      have t01 := t0.trans (s1'.trans t1)
      refine ⟨fus, .inl (.inl (.inl (t01 _ _ hFl))), v0, atI_nat (j := 0) hv0, v0, r0, rfl, dp_mono t01 _ _ dv0, ok0, fun u2 H2' s2' w2 p2 hp2 => ?_⟩
      have t2 := same_new (o := .lst [u2]) hp2
      have hp0d : upd H2' p2 (.lst [u2]) p0 = some (.dK []) := t2 _ _ (s2' _ _ (t1 _ _ (s1' _ _ upd_same)))
      have t9 := t01.trans (s2'.trans t2)
      refine ⟨hp0d, [(.inr (S [97, 47]), .ref p1), (.inr (S [97, 45, 47]), .ref p2)], rfl, show 2 ≤ 15 by decide, ?_⟩
      have hls := hand_lsts (K := K) (r := r0) (p1 := p1) (p2 := p2) (u1 := u1) (u2 := u2) (H := upd H2' p2 (.lst [u2])) (t2 _ _ (s2' _ _ upd_same)) upd_same (w1.mono (t1.trans (s2'.trans t2))) (w2.mono t2)
      obtain ⟨ok2, no2⟩ := (hand_leg ok0).ok (by decide)
      refine ⟨p0, handE r0, _, rfl, upd_same, hls.dict hp0d fun f u x => x.nd (.dict hp0d), ok2, fun _ G vs es2 H' srt2 s hn0 hN rE => ?_, fun ⟨e, he, h⟩ => absurd h (no2 e he)⟩
      rw [srtE_uniq (hand_leg ok0).nd srt2 hand_srt, hand_gath] at rE
      exact ⟨(same_mut t9 hp0).trans s, G, rfl, vs, hN, rE⟩
    rintro _ H10 ⟨s10, G, vs, rfl, hG, rowsG⟩
    refine q_val ?_
    refine lc_midM (J0 := Itl K G) (H0 := H10) ?_ (walk_list (K := K) (a := G) (xs := vs)) (by rw [rowsG.1]; exact (by decide : 2 < 16777216)) (fun k acc H' => Each (fun f u H => Dp K H u (SF.d f)) ([oneS [97, 45], oneS [97]].take k) acc H') (fun k acc Ha Hb e h => h.imp fun f _ d => dp_nl e _ _ (SF.tup f) d) .nil (fun H' s => .inl (.inl (s _ _ hG))) (fun _ _ _ _ y => y_at y) (fun _ => rfl) ?_ ?_
    · walk_at "rd"
      exact .inl ⟨vs, .inl (.inl hG)⟩
    · rintro j x acc H' H'' hj s' hc ⟨rfl, hx⟩
      obtain ⟨r, hr1, dr⟩ := rowsG.at' hx
      refine mid_of (fun u H4 => Same H'' H4 ∧ ∃ f, [oneS [97, 45], oneS [97]][j]? = some f ∧ Dp K H4 u f.d) ?_ ?_
      · obtain ⟨f, hf, hf0, okr⟩ := hand_head ok0 hr1
        walk_at "rd"
        refine ⟨r, dr.mono s', x, rfl, dr.mono s', okr.l1, okr.l2, fun u H4 s d => ?_⟩
        obtain ⟨fa, ft, fts, rfl, hfa, hft, feach⟩ := RF.inv d
        obtain ⟨u0, hu0, du0⟩ := feach.2 0 f hf0
        refine ⟨_, .inr hfa, _, rfl, ?_⟩
        exact ⟨_, .inr hft, u0, atI_nat (j := 0) hu0, s, f, hf, du0⟩
      · rintro u H4 ⟨s5, f, hf, h⟩
        refine ⟨s5, ?_⟩
        rw [List.take_succ, hf]
        exact (hc.imp fun _ _ d => dp_mono s5 _ _ d).snoc h
    · intro p1 acc H' hp1 s' hacc _ hc
      rw [List.take_of_length_le (by rw [rowsG.1]; exact (by decide : 2 ≤ 2))] at hc
      have s13 := s10.trans s'
      refine q_if (fun b H4 => Same H' H4 ∧ b = false) ?_ (fun _ h => nomatch h.2) fun H11 h => q_next ?_
      · walk_at "rd"
        intro q0 h0 q1 h1 q2 h2 q3 h3 q4 h4 q5 h5 q6 h6 q7 h7
        have t0 := same_new (o := .tup [.str (Str.ofString "one"), .str (Str.ofString "a")]) h0
        have t1 := same_new (o := .tup [.str (Str.ofString "one"), .str (Str.ofString "-")]) h1
        have t2 := same_new (o := .tup [.ref q0, .ref q1]) h2
        have t3 := same_new (o := .tup [.str (Str.ofString "segment"), .ref q2]) h3
        have t4 := same_new (o := .tup [.str (Str.ofString "one"), .str (Str.ofString "a")]) h4
        have t5 := same_new (o := .tup [.ref q4]) h5
        have t6 := same_new (o := .tup [.str (Str.ofString "segment"), .ref q5]) h6
        have t7 := same_new (o := .lst [.ref q3, .ref q6]) h7
        have t67 := t6.trans t7
        have t57 := t5.trans t67
        have t47 := t4.trans t57
        have t37 := t3.trans t47
        have t27 := t2.trans t37
        have t17 := t1.trans t27
        have t07 := t0.trans t17
        refine ne_dat (n := 4) (d := .list ([oneS [97, 45], oneS [97]].map SF.d)) hand_dok (by decide) (.lst (.inl (.inl (t07 _ _ hacc))) (each_dp (hc.imp fun _ _ d => dp_mono t07 _ _ d))) (.lst (.inl (.inl upd_same)) (.cons ?_ (.cons ?_ .nil))) ⟨false, rfl, t07, rfl⟩
        · exact .tup (.inl (.inl (t47 _ _ upd_same))) (.cons (.str _) (.cons (.tup (.inl (.inl (t37 _ _ upd_same))) (.cons (.tup (.inl (.inl (t17 _ _ upd_same))) (.cons (.str _) (.cons (.str _) .nil))) (.cons (.tup (.inl (.inl (t27 _ _ upd_same))) (.cons (.str _) (.cons (.str _) .nil))) .nil))) .nil))
        · exact .tup (.inl (.inl (t7 _ _ upd_same))) (.cons (.str _) (.cons (.tup (.inl (.inl (t67 _ _ upd_same))) (.cons (.tup (.inl (.inl (t57 _ _ upd_same))) (.cons (.str _) (.cons (.str _) .nil))) .nil)) .nil))
      obtain ⟨s11, _⟩ := h
      have s14 := s13.trans s11
      have hd2z := s14 _ _ (s9 _ _ hd28)
      have hdz := s14 _ _ (s9 _ _ hd8)
      have hl2z := hl28.mono (s9.trans s14) fun _ _ x => x.mono (s9.trans s14)
      have hsz := same_l (s7.trans (s8.trans (s9.trans s14))) hs5
      walk_at "rd"
      refine mid_of (fun v H4 => Same H11 H4 ∧ ∃ q, v = .ref q ∧ H4 q = some (.lst (nmsV (es.map (·.1))))) ?_ ?_
      · walk_at "rd"
        refine ⟨kvs2, hd2z, fun q hq => ⟨same_new hq, ?_⟩⟩
        rw [upd_same]
        exact congrArg (fun x => some (HO.lst x)) (lsts_keys hl2z)
      rintro _ H12 ⟨s12, q1, rfl, hq1⟩
      refine mid_of (fun v H4 => Same H12 H4 ∧ ∃ q, v = .ref q ∧ H4 q = some (.lst (nmsV (es.map (·.1))))) ?_ ?_
      · walk_at "rd"
        refine ⟨kvs, s12 _ _ hdz, fun q hq => ⟨same_new hq, ?_⟩⟩
        rw [upd_same]
        exact congrArg (fun x => some (HO.lst x)) (lsts_keys hl8)
      rintro _ H13 ⟨s15, q2, rfl, hq2⟩
      show rEqR K _ _ _ _
      have s16 := s12.trans s15
      refine eq_dat (txts_ok (fold_ok leg)) (by decide) (names_dat (s15 _ _ hq1)) (names_dat hq2) ⟨true, rfl, ?_⟩
      rw [if_pos rfl]
      refine mid_of (fun v H4 => Same H13 H4 ∧ ∃ g, v = .ref g ∧ H4 g = some (.lst [])) ?_ ?_
      · walk_at "rd"
        intro z hz
        have sz := same_new (o := .dK []) hz
        refine ⟨z, [], [], rfl, upd_same, .nil, ((LEG.nil (n := 5)).ok (by decide)).1, fun _ g vs es2 H' srt2 s hn0 hN rE => ?_, fun ⟨e, he, _⟩ => nomatch he⟩
        rw [List.perm_nil.mp srt2.1] at rE
        rw [List.length_eq_zero_iff.mp rE.1] at hN
        exact ⟨sz.trans s, g, rfl, hN⟩
      rintro _ H14 ⟨s17, g, rfl, hg⟩
      intro z hz
      have sz := same_new (o := .lst []) hz
      refine eq_dat (n := 1) (d := .list []) (dok_lst (n := 0) fun d h => nomatch h) (by decide) (.lst (.inl (.inl (sz _ _ hg))) .nil) (.lst (.inl (.inl upd_same)) .nil) ⟨true, rfl, ?_⟩
      rw [if_pos rfl]
      have s18 := s16.trans (s17.trans sz)
      refine mid_of (fun v H4 => v = .bl true) ?_ ?_
      · walk_at "rd"
        exact ⟨a, 2, ns, rfl, same_l s18 hsz, hn, by omega, by omega, fun c => ⟨d2, es, kvs2, c, rfl, s18 _ _ hd2z, hl2z.mono s18 fun _ _ x => x.mono s18, leg, fun H' s => rfl⟩⟩
      rintro _ H15 rfl
      exact q _

end
end SL
namespace HD
open PySem PySem.Spec PyProof.Rows L2
def fn : List He.DefD := [
  ⟨("_wall", none), "_wall", "_wall", defArgs TX.s__wall, defBody TX.s__wall, defScope TX.s__wall, [], []⟩,
  ⟨("is_sign", none), "is_sign", "is_sign", defArgs TX.s_is_sign, defBody TX.s_is_sign, defScope TX.s_is_sign, [], []⟩,
  ⟨("names_of", none), "names_of", "names_of", defArgs TX.s_names_of, defBody TX.s_names_of, defScope TX.s_names_of, [], []⟩,
  ⟨("folder_names", none), "folder_names", "folder_names", defArgs TX.s_folder_names, defBody TX.s_folder_names, defScope TX.s_folder_names, [], []⟩,
  ⟨("placed", none), "placed", "placed", defArgs TX.s_placed, defBody TX.s_placed, defScope TX.s_placed, [], []⟩,
  ⟨("gathered", none), "gathered", "gathered", defArgs TX.s_gathered, defBody TX.s_gathered, defScope TX.s_gathered, [], []⟩,
  ⟨("_law_cell", none), "_law_cell", "_law_cell", defArgs TX.s__law_cell, defBody TX.s__law_cell, defScope TX.s__law_cell, [], []⟩,
  ⟨("_law_mixed", none), "_law_mixed", "_law_mixed", defArgs TX.s__law_mixed, defBody TX.s__law_mixed, defScope TX.s__law_mixed, [], []⟩,
  ⟨("_law_signs", none), "_law_signs", "_law_signs", defArgs TX.s__law_signs, defBody TX.s__law_signs, defScope TX.s__law_signs, [], []⟩,
  ⟨("_law_part", none), "_law_part", "_law_part", defArgs TX.s__law_part, defBody TX.s__law_part, defScope TX.s__law_part, [], []⟩,
  ⟨("_law_segment", none), "_law_segment", "_law_segment", defArgs TX.s__law_segment, defBody TX.s__law_segment, defScope TX.s__law_segment, [], []⟩,
  ⟨("_law_row", none), "_law_row", "_law_row", defArgs TX.s__law_row, defBody TX.s__law_row, defScope TX.s__law_row, [], []⟩,
  ⟨("_law_rows", none), "_law_rows", "_law_rows", defArgs TX.s__law_rows, defBody TX.s__law_rows, defScope TX.s__law_rows, [], []⟩,
  ⟨("_law_part_made", none), "_law_part_made", "_law_part_made", defArgs TX.s__law_part_made, defBody TX.s__law_part_made, defScope TX.s__law_part_made, [], []⟩,
  ⟨("_law_row_made", none), "_law_row_made", "_law_row_made", defArgs TX.s__law_row_made, defBody TX.s__law_row_made, defScope TX.s__law_row_made, [], []⟩,
  ⟨("_law_filled", none), "_law_filled", "_law_filled", defArgs TX.s__law_filled, defBody TX.s__law_filled, defScope TX.s__law_filled, [], []⟩,
  ⟨("_law_names", none), "_law_names", "_law_names", defArgs TX.s__law_names, defBody TX.s__law_names, defScope TX.s__law_names, [], []⟩,
  ⟨("_law_lists", none), "_law_lists", "_law_lists", defArgs TX.s__law_lists, defBody TX.s__law_lists, defScope TX.s__law_lists, [], []⟩,
  ⟨("_law_made_lists", none), "_law_made_lists", "_law_made_lists", defArgs TX.s__law_made_lists, defBody TX.s__law_made_lists, defScope TX.s__law_made_lists, [], []⟩,
  ⟨("_law_ranked", none), "_law_ranked", "_law_ranked", defArgs TX.s__law_ranked, defBody TX.s__law_ranked, defScope TX.s__law_ranked, [], []⟩,
  ⟨("_law_form", none), "_law_form", "_law_form", defArgs TX.s__law_form, defBody TX.s__law_form, defScope TX.s__law_form, [], []⟩,
  ⟨("_law_refused", none), "_law_refused", "_law_refused", defArgs TX.s__law_refused, defBody TX.s__law_refused, defScope TX.s__law_refused, [], []⟩,
  ⟨("law", none), "law", "law", defArgs TX.s_law, defBody TX.s_law, defScope TX.s_law, [], []⟩,
  ⟨("NoText", some "__init__"), "__init__", "NoText.__init__", defArgs TX.s_NoText___init__, defBody TX.s_NoText___init__, defScope TX.s_NoText___init__, [], []⟩,
  ⟨("Part", some "fits"), "fits", "Part.fits", defArgs TX.s_Part_fits, defBody TX.s_Part_fits, defScope TX.s_Part_fits, [], []⟩,
  ⟨("Part", some "many"), "many", "Part.many", defArgs TX.s_Part_many, defBody TX.s_Part_many, defScope TX.s_Part_many, [], []⟩,
  ⟨("Part", some "told"), "told", "Part.told", defArgs TX.s_Part_told, defBody TX.s_Part_told, defScope TX.s_Part_told, [], []⟩,
  ⟨("Any", some "fits"), "fits", "Part.fits", defArgs TX.s_Part_fits, defBody TX.s_Part_fits, defScope TX.s_Part_fits, [], []⟩,
  ⟨("Any", some "many"), "many", "Part.many", defArgs TX.s_Part_many, defBody TX.s_Part_many, defScope TX.s_Part_many, [], []⟩,
  ⟨("Any", some "told"), "told", "Part.told", defArgs TX.s_Part_told, defBody TX.s_Part_told, defScope TX.s_Part_told, [], []⟩,
  ⟨("One", some "fits"), "fits", "One.fits", defArgs TX.s_One_fits, defBody TX.s_One_fits, defScope TX.s_One_fits, [], []⟩,
  ⟨("One", some "many"), "many", "Part.many", defArgs TX.s_Part_many, defBody TX.s_Part_many, defScope TX.s_Part_many, [], []⟩,
  ⟨("One", some "told"), "told", "One.told", defArgs TX.s_One_told, defBody TX.s_One_told, defScope TX.s_One_told, [], []⟩,
  ⟨("One", some "__init__"), "__init__", "One.__init__", defArgs TX.s_One___init__, defBody TX.s_One___init__, defScope TX.s_One___init__, [], []⟩,
  ⟨("Among", some "fits"), "fits", "Among.fits", defArgs TX.s_Among_fits, defBody TX.s_Among_fits, defScope TX.s_Among_fits, [], []⟩,
  ⟨("Among", some "many"), "many", "Part.many", defArgs TX.s_Part_many, defBody TX.s_Part_many, defScope TX.s_Part_many, [], []⟩,
  ⟨("Among", some "told"), "told", "Among.told", defArgs TX.s_Among_told, defBody TX.s_Among_told, defScope TX.s_Among_told, [], []⟩,
  ⟨("Among", some "__init__"), "__init__", "Among.__init__", defArgs TX.s_Among___init__, defBody TX.s_Among___init__, defScope TX.s_Among___init__, [.bl false], []⟩,
  ⟨("Stars", some "fits"), "fits", "Part.fits", defArgs TX.s_Part_fits, defBody TX.s_Part_fits, defScope TX.s_Part_fits, [], []⟩,
  ⟨("Stars", some "many"), "many", "Stars.many", defArgs TX.s_Stars_many, defBody TX.s_Stars_many, defScope TX.s_Stars_many, [], []⟩,
  ⟨("Stars", some "told"), "told", "Stars.told", defArgs TX.s_Stars_told, defBody TX.s_Stars_told, defScope TX.s_Stars_told, [], []⟩,
  ⟨("Step", some "deep"), "deep", "Step.deep", defArgs TX.s_Step_deep, defBody TX.s_Step_deep, defScope TX.s_Step_deep, [], []⟩,
  ⟨("Step", some "fits_name"), "fits_name", "Step.fits_name", defArgs TX.s_Step_fits_name, defBody TX.s_Step_fits_name, defScope TX.s_Step_fits_name, [], []⟩,
  ⟨("Step", some "told"), "told", "Step.told", defArgs TX.s_Step_told, defBody TX.s_Step_told, defScope TX.s_Step_told, [], []⟩,
  ⟨("Deep", some "deep"), "deep", "Deep.deep", defArgs TX.s_Deep_deep, defBody TX.s_Deep_deep, defScope TX.s_Deep_deep, [], []⟩,
  ⟨("Deep", some "fits_name"), "fits_name", "Step.fits_name", defArgs TX.s_Step_fits_name, defBody TX.s_Step_fits_name, defScope TX.s_Step_fits_name, [], []⟩,
  ⟨("Deep", some "told"), "told", "Step.told", defArgs TX.s_Step_told, defBody TX.s_Step_told, defScope TX.s_Step_told, [], []⟩,
  ⟨("Segment", some "deep"), "deep", "Step.deep", defArgs TX.s_Step_deep, defBody TX.s_Step_deep, defScope TX.s_Step_deep, [], []⟩,
  ⟨("Segment", some "fits_name"), "fits_name", "Segment.fits_name", defArgs TX.s_Segment_fits_name, defBody TX.s_Segment_fits_name, defScope TX.s_Segment_fits_name, [], []⟩,
  ⟨("Segment", some "told"), "told", "Segment.told", defArgs TX.s_Segment_told, defBody TX.s_Segment_told, defScope TX.s_Segment_told, [], []⟩,
  ⟨("Segment", some "__init__"), "__init__", "Segment.__init__", defArgs TX.s_Segment___init__, defBody TX.s_Segment___init__, defScope TX.s_Segment___init__, [], []⟩,
  ⟨("Row", some "__init__"), "__init__", "Row.__init__", defArgs TX.s_Row___init__, defBody TX.s_Row___init__, defScope TX.s_Row___init__, [.bl false, .bl false], []⟩,
  ⟨("Row", some "told"), "told", "Row.told", defArgs TX.s_Row_told, defBody TX.s_Row_told, defScope TX.s_Row_told, [], []⟩]
def fa : List He.Fa := [.glo "_wall", .glo "is_sign", .glo "names_of", .glo "folder_names", .glo "placed", .glo "gathered", .glo "_law_cell", .glo "_law_mixed", .glo "_law_signs", .glo "_law_part", .glo "_law_segment", .glo "_law_row", .glo "_law_rows", .glo "_law_part_made", .glo "_law_row_made", .glo "_law_filled", .glo "_law_names", .glo "_law_lists", .glo "_law_made_lists", .glo "_law_ranked", .glo "_law_form", .glo "_law_refused", .glo "law", .glo "ShunError", .keep "ShunError", .exc "ShunError", .glo "NoPart", .keep "NoPart", .exc "NoPart", .glo "NoPath", .keep "NoPath", .exc "NoPath", .glo "NoText", .keep "NoText", .glo "TooMany", .keep "TooMany", .exc "TooMany", .glo "NoFolder", .keep "NoFolder", .exc "NoFolder", .glo "NoLeaf", .keep "NoLeaf", .exc "NoLeaf", .glo "Part", .keep "Part", .cls "Part", .meth "Part" "fits", .meth "Part" "many", .meth "Part" "told", .glo "Any", .keep "Any", .cls "Any", .meth "Any" "fits", .meth "Any" "many", .meth "Any" "told", .glo "One", .keep "One", .cls "One", .noat "One" "sign", .meth "One" "fits", .meth "One" "many", .meth "One" "told", .meth "One" "__init__", .mkr "One", .glo "Among", .keep "Among", .cls "Among", .noat "Among" "signs", .noat "Among" "outside", .meth "Among" "fits", .meth "Among" "many", .meth "Among" "told", .meth "Among" "__init__", .mkr "Among", .glo "Stars", .keep "Stars", .cls "Stars", .meth "Stars" "fits", .meth "Stars" "many", .meth "Stars" "told", .glo "Step", .keep "Step", .cls "Step", .meth "Step" "deep", .meth "Step" "fits_name", .meth "Step" "told", .glo "Deep", .keep "Deep", .cls "Deep", .meth "Deep" "deep", .meth "Deep" "fits_name", .meth "Deep" "told", .glo "Segment", .keep "Segment", .cls "Segment", .noat "Segment" "parts", .meth "Segment" "deep", .meth "Segment" "fits_name", .meth "Segment" "told", .meth "Segment" "__init__", .mkr "Segment", .glo "Row", .keep "Row", .cls "Row", .noat "Row" "steps", .noat "Row" "spares", .noat "Row" "folders", .meth "Row" "__init__", .meth "Row" "told", .mkr "Row", .str "SIGNS" "-.0123456789_abcdefghijklmnopqrstuvwxyz", .free "len", .free "range", .free "all", .free "set", .free "sorted", .free "list", .free "tuple", .free "dict", .free "isinstance", .free "max", .free "ValueError"]
def mkn (K : PySem.W.Frag) (x : Str) : Bool := PySem.W.makesIn K (He.ga K x) && (He.eqO (PySem.W.findIn K (.ref (He.ga K x)) "__init__") (some (some (.builtin "object.__init__"))) && PySem.W.keepIn K (.ref (He.ga K x)))
def kx (K : PySem.W.Frag) : Bool := SL.kxB K [("NoFolder", "ShunError"), ("NoPart", "ShunError"), ("NoPath", "NoPath"), ("NoPath", "ShunError")] [("NoFolder", "NoLeaf", false), ("NoFolder", "NoPart", false), ("NoFolder", "NoPath", false), ("NoFolder", "NoText", false), ("NoFolder", "TooMany", false), ("NoFolder", "NoFolder", true), ("NoPart", "NoLeaf", false), ("NoPart", "NoPart", true), ("NoPart", "NoPath", false), ("NoPart", "NoText", false), ("NoPart", "TooMany", false), ("NoPart", "NoFolder", false), ("NoPath", "NoLeaf", false), ("NoPath", "NoPart", false), ("NoPath", "NoPath", true), ("NoPath", "NoText", false), ("NoPath", "TooMany", false), ("NoPath", "NoFolder", false)] ["NoLeaf", "NoPart", "NoPath", "NoText", "TooMany", "NoFolder"]
def ex (K : PySem.W.Frag) : Bool := (["Part", "Any", "Stars", "Step", "Deep"] : List Str).all (mkn K) && kx K
theorem kx_ok {K : PySem.W.Frag} (h : ex K = true) : SL.kxB K [("NoFolder", "ShunError"), ("NoPart", "ShunError"), ("NoPath", "NoPath"), ("NoPath", "ShunError")] [("NoFolder", "NoLeaf", false), ("NoFolder", "NoPart", false), ("NoFolder", "NoPath", false), ("NoFolder", "NoText", false), ("NoFolder", "TooMany", false), ("NoFolder", "NoFolder", true), ("NoPart", "NoLeaf", false), ("NoPart", "NoPart", true), ("NoPart", "NoPath", false), ("NoPart", "NoText", false), ("NoPart", "TooMany", false), ("NoPart", "NoFolder", false), ("NoPath", "NoLeaf", false), ("NoPath", "NoPart", false), ("NoPath", "NoPath", true), ("NoPath", "NoText", false), ("NoPath", "TooMany", false), ("NoPath", "NoFolder", false)] ["NoLeaf", "NoPart", "NoPath", "NoText", "TooMany", "NoFolder"] = true := (Bool.and_eq_true _ _ ▸ h).2
theorem mkn_ok {K : PySem.W.Frag} {x : Str} (h : ex K = true) (m : x ∈ (["Part", "Any", "Stars", "Step", "Deep"] : List Str)) : SL.MkN K (He.ga K x) := by
  have e := List.all_eq_true.mp (Bool.and_eq_true _ _ ▸ h).1 x m
  unfold mkn at e
  rw [Bool.and_eq_true, Bool.and_eq_true] at e
  exact ⟨e.1, He.eqO_ok e.2.1, e.2.2⟩
abbrev R : PySem.W.OpenRow := PySem.W.OpenLaw.row PySem.Challenge.rw_shunlist_k81_gathered
abbrev hk : PySem.W.Hook := He.hookX 5 fa fn [] [] ex
def ob (s : PySem.W.SharedT) : He.AlX := He.obsX 5 fa fn [] [] ex (HandSHeadRun.getT s)
theorem ob_eq (s : PySem.W.SharedT) : ob s = hk.obs s.abs := He.obsX_eq (HandSHeadRun.getT_eq s)
def loose : List Str := (["_wall", "ShunError", "NoPart", "NoPath", "NoText", "TooMany", "NoFolder", "NoLeaf", "SIGNS", "is_sign", "Part", "Any", "One", "Among", "Stars", "Step", "Deep", "Segment", "Row", "names_of", "folder_names", "placed", "gathered", "_law_cell", "_law_mixed"] : List Str) ++ (["_law_signs", "_law_part", "_law_segment", "_law_row", "_law_rows", "_law_part_made", "_law_row_made", "_law_filled", "_law_names", "_law_lists", "_law_made_lists", "_law_ranked", "_law_form", "_law_refused"] : List Str)
theorem run (w : World) : HandSHeadRun.RunEq R (PySem.W.view R.prog [44]) hk ob 6000 loose w := by
  intro os
  kernel_rfl
end HD
namespace SL
open PySem PySem.Spec PyProof.Rows L2
theorem txt_of {w : World} {K : PySem.W.Frag} {h : Heap} {mg : Str → Option Value} (X : K.In h) (G : h.Ns mainGlobals mg) (c : He.SaysX HD.fa HD.fn [] [] HD.ex w h K) : Txt K mg where
  F__wall := c.t.d.def_ 0 rfl
  F_is_sign := c.t.d.def_ 1 rfl
  F_names_of := c.t.d.def_ 2 rfl
  F_folder_names := c.t.d.def_ 3 rfl
  F_placed := c.t.d.def_ 4 rfl
  F_gathered := c.t.d.def_ 5 rfl
  F__law_cell := c.t.d.def_ 6 rfl
  F__law_mixed := c.t.d.def_ 7 rfl
  F__law_signs := c.t.d.def_ 8 rfl
  F__law_part := c.t.d.def_ 9 rfl
  F__law_segment := c.t.d.def_ 10 rfl
  F__law_row := c.t.d.def_ 11 rfl
  F__law_rows := c.t.d.def_ 12 rfl
  F__law_part_made := c.t.d.def_ 13 rfl
  F__law_row_made := c.t.d.def_ 14 rfl
  F__law_filled := c.t.d.def_ 15 rfl
  F__law_names := c.t.d.def_ 16 rfl
  F__law_lists := c.t.d.def_ 17 rfl
  F__law_made_lists := c.t.d.def_ 18 rfl
  F__law_ranked := c.t.d.def_ 19 rfl
  F__law_form := c.t.d.def_ 20 rfl
  F__law_refused := c.t.d.def_ 21 rfl
  F_law := c.t.d.def_ 22 rfl
  F_NoText___init__ := c.t.d.def_ 23 rfl
  F_Part_fits := c.t.d.def_ 24 rfl
  F_Part_many := c.t.d.def_ 25 rfl
  F_Part_told := c.t.d.def_ 26 rfl
  F_Any_fits := c.t.d.def_ 27 rfl
  F_Any_many := c.t.d.def_ 28 rfl
  F_Any_told := c.t.d.def_ 29 rfl
  F_One_fits := c.t.d.def_ 30 rfl
  F_One_many := c.t.d.def_ 31 rfl
  F_One_told := c.t.d.def_ 32 rfl
  F_One___init__ := c.t.d.def_ 33 rfl
  F_Among_fits := c.t.d.def_ 34 rfl
  F_Among_many := c.t.d.def_ 35 rfl
  F_Among_told := c.t.d.def_ 36 rfl
  F_Among___init__ := c.t.d.def_ 37 rfl
  F_Stars_fits := c.t.d.def_ 38 rfl
  F_Stars_many := c.t.d.def_ 39 rfl
  F_Stars_told := c.t.d.def_ 40 rfl
  F_Step_deep := c.t.d.def_ 41 rfl
  F_Step_fits_name := c.t.d.def_ 42 rfl
  F_Step_told := c.t.d.def_ 43 rfl
  F_Deep_deep := c.t.d.def_ 44 rfl
  F_Deep_fits_name := c.t.d.def_ 45 rfl
  F_Deep_told := c.t.d.def_ 46 rfl
  F_Segment_deep := c.t.d.def_ 47 rfl
  F_Segment_fits_name := c.t.d.def_ 48 rfl
  F_Segment_told := c.t.d.def_ 49 rfl
  F_Segment___init__ := c.t.d.def_ 50 rfl
  F_Row___init__ := c.t.d.def_ 51 rfl
  F_Row_told := c.t.d.def_ 52 rfl
  g__wall := He.glo_ok X G (c.t.d.fact 0 (f := .glo "_wall") rfl)
  g_is_sign := He.glo_ok X G (c.t.d.fact 1 (f := .glo "is_sign") rfl)
  g_names_of := He.glo_ok X G (c.t.d.fact 2 (f := .glo "names_of") rfl)
  g_folder_names := He.glo_ok X G (c.t.d.fact 3 (f := .glo "folder_names") rfl)
  g_placed := He.glo_ok X G (c.t.d.fact 4 (f := .glo "placed") rfl)
  g_gathered := He.glo_ok X G (c.t.d.fact 5 (f := .glo "gathered") rfl)
  g__law_cell := He.glo_ok X G (c.t.d.fact 6 (f := .glo "_law_cell") rfl)
  g__law_mixed := He.glo_ok X G (c.t.d.fact 7 (f := .glo "_law_mixed") rfl)
  g__law_signs := He.glo_ok X G (c.t.d.fact 8 (f := .glo "_law_signs") rfl)
  g__law_part := He.glo_ok X G (c.t.d.fact 9 (f := .glo "_law_part") rfl)
  g__law_segment := He.glo_ok X G (c.t.d.fact 10 (f := .glo "_law_segment") rfl)
  g__law_row := He.glo_ok X G (c.t.d.fact 11 (f := .glo "_law_row") rfl)
  g__law_rows := He.glo_ok X G (c.t.d.fact 12 (f := .glo "_law_rows") rfl)
  g__law_part_made := He.glo_ok X G (c.t.d.fact 13 (f := .glo "_law_part_made") rfl)
  g__law_row_made := He.glo_ok X G (c.t.d.fact 14 (f := .glo "_law_row_made") rfl)
  g__law_filled := He.glo_ok X G (c.t.d.fact 15 (f := .glo "_law_filled") rfl)
  g__law_names := He.glo_ok X G (c.t.d.fact 16 (f := .glo "_law_names") rfl)
  g__law_lists := He.glo_ok X G (c.t.d.fact 17 (f := .glo "_law_lists") rfl)
  g__law_made_lists := He.glo_ok X G (c.t.d.fact 18 (f := .glo "_law_made_lists") rfl)
  g__law_ranked := He.glo_ok X G (c.t.d.fact 19 (f := .glo "_law_ranked") rfl)
  g__law_form := He.glo_ok X G (c.t.d.fact 20 (f := .glo "_law_form") rfl)
  g__law_refused := He.glo_ok X G (c.t.d.fact 21 (f := .glo "_law_refused") rfl)
  g_law := He.glo_ok X G (c.t.d.fact 22 (f := .glo "law") rfl)
  g_ShunError := He.glo_ok X G (c.t.d.fact 23 (f := .glo "ShunError") rfl)
  k_ShunError := He.keep_ok (c.t.d.fact 24 (f := .keep "ShunError") rfl)
  x_ShunError := He.exc_ok (c.t.d.fact 25 (f := .exc "ShunError") rfl)
  g_NoPart := He.glo_ok X G (c.t.d.fact 26 (f := .glo "NoPart") rfl)
  k_NoPart := He.keep_ok (c.t.d.fact 27 (f := .keep "NoPart") rfl)
  x_NoPart := He.exc_ok (c.t.d.fact 28 (f := .exc "NoPart") rfl)
  g_NoPath := He.glo_ok X G (c.t.d.fact 29 (f := .glo "NoPath") rfl)
  k_NoPath := He.keep_ok (c.t.d.fact 30 (f := .keep "NoPath") rfl)
  x_NoPath := He.exc_ok (c.t.d.fact 31 (f := .exc "NoPath") rfl)
  g_NoText := He.glo_ok X G (c.t.d.fact 32 (f := .glo "NoText") rfl)
  k_NoText := He.keep_ok (c.t.d.fact 33 (f := .keep "NoText") rfl)
  g_TooMany := He.glo_ok X G (c.t.d.fact 34 (f := .glo "TooMany") rfl)
  k_TooMany := He.keep_ok (c.t.d.fact 35 (f := .keep "TooMany") rfl)
  x_TooMany := He.exc_ok (c.t.d.fact 36 (f := .exc "TooMany") rfl)
  g_NoFolder := He.glo_ok X G (c.t.d.fact 37 (f := .glo "NoFolder") rfl)
  k_NoFolder := He.keep_ok (c.t.d.fact 38 (f := .keep "NoFolder") rfl)
  x_NoFolder := He.exc_ok (c.t.d.fact 39 (f := .exc "NoFolder") rfl)
  g_NoLeaf := He.glo_ok X G (c.t.d.fact 40 (f := .glo "NoLeaf") rfl)
  k_NoLeaf := He.keep_ok (c.t.d.fact 41 (f := .keep "NoLeaf") rfl)
  x_NoLeaf := He.exc_ok (c.t.d.fact 42 (f := .exc "NoLeaf") rfl)
  g_Part := He.glo_ok X G (c.t.d.fact 43 (f := .glo "Part") rfl)
  k_Part := He.keep_ok (c.t.d.fact 44 (f := .keep "Part") rfl)
  c_Part := He.cls_ok (c.t.d.fact 45 (f := .cls "Part") rfl)
  m_Part_fits := He.meth_ok (c.t.d.fact 46 (f := .meth "Part" "fits") rfl)
  m_Part_many := He.meth_ok (c.t.d.fact 47 (f := .meth "Part" "many") rfl)
  m_Part_told := He.meth_ok (c.t.d.fact 48 (f := .meth "Part" "told") rfl)
  g_Any := He.glo_ok X G (c.t.d.fact 49 (f := .glo "Any") rfl)
  k_Any := He.keep_ok (c.t.d.fact 50 (f := .keep "Any") rfl)
  c_Any := He.cls_ok (c.t.d.fact 51 (f := .cls "Any") rfl)
  m_Any_fits := He.meth_ok (c.t.d.fact 52 (f := .meth "Any" "fits") rfl)
  m_Any_many := He.meth_ok (c.t.d.fact 53 (f := .meth "Any" "many") rfl)
  m_Any_told := He.meth_ok (c.t.d.fact 54 (f := .meth "Any" "told") rfl)
  g_One := He.glo_ok X G (c.t.d.fact 55 (f := .glo "One") rfl)
  k_One := He.keep_ok (c.t.d.fact 56 (f := .keep "One") rfl)
  c_One := He.cls_ok (c.t.d.fact 57 (f := .cls "One") rfl)
  n_One_sign := He.noat_ok (c.t.d.fact 58 (f := .noat "One" "sign") rfl)
  m_One_fits := He.meth_ok (c.t.d.fact 59 (f := .meth "One" "fits") rfl)
  m_One_many := He.meth_ok (c.t.d.fact 60 (f := .meth "One" "many") rfl)
  m_One_told := He.meth_ok (c.t.d.fact 61 (f := .meth "One" "told") rfl)
  m_One___init__ := He.meth_ok (c.t.d.fact 62 (f := .meth "One" "__init__") rfl)
  mk_One := He.mkr_ok (c.t.d.fact 63 (f := .mkr "One") rfl)
  g_Among := He.glo_ok X G (c.t.d.fact 64 (f := .glo "Among") rfl)
  k_Among := He.keep_ok (c.t.d.fact 65 (f := .keep "Among") rfl)
  c_Among := He.cls_ok (c.t.d.fact 66 (f := .cls "Among") rfl)
  n_Among_signs := He.noat_ok (c.t.d.fact 67 (f := .noat "Among" "signs") rfl)
  n_Among_outside := He.noat_ok (c.t.d.fact 68 (f := .noat "Among" "outside") rfl)
  m_Among_fits := He.meth_ok (c.t.d.fact 69 (f := .meth "Among" "fits") rfl)
  m_Among_many := He.meth_ok (c.t.d.fact 70 (f := .meth "Among" "many") rfl)
  m_Among_told := He.meth_ok (c.t.d.fact 71 (f := .meth "Among" "told") rfl)
  m_Among___init__ := He.meth_ok (c.t.d.fact 72 (f := .meth "Among" "__init__") rfl)
  mk_Among := He.mkr_ok (c.t.d.fact 73 (f := .mkr "Among") rfl)
  g_Stars := He.glo_ok X G (c.t.d.fact 74 (f := .glo "Stars") rfl)
  k_Stars := He.keep_ok (c.t.d.fact 75 (f := .keep "Stars") rfl)
  c_Stars := He.cls_ok (c.t.d.fact 76 (f := .cls "Stars") rfl)
  m_Stars_fits := He.meth_ok (c.t.d.fact 77 (f := .meth "Stars" "fits") rfl)
  m_Stars_many := He.meth_ok (c.t.d.fact 78 (f := .meth "Stars" "many") rfl)
  m_Stars_told := He.meth_ok (c.t.d.fact 79 (f := .meth "Stars" "told") rfl)
  g_Step := He.glo_ok X G (c.t.d.fact 80 (f := .glo "Step") rfl)
  k_Step := He.keep_ok (c.t.d.fact 81 (f := .keep "Step") rfl)
  c_Step := He.cls_ok (c.t.d.fact 82 (f := .cls "Step") rfl)
  m_Step_deep := He.meth_ok (c.t.d.fact 83 (f := .meth "Step" "deep") rfl)
  m_Step_fits_name := He.meth_ok (c.t.d.fact 84 (f := .meth "Step" "fits_name") rfl)
  m_Step_told := He.meth_ok (c.t.d.fact 85 (f := .meth "Step" "told") rfl)
  g_Deep := He.glo_ok X G (c.t.d.fact 86 (f := .glo "Deep") rfl)
  k_Deep := He.keep_ok (c.t.d.fact 87 (f := .keep "Deep") rfl)
  c_Deep := He.cls_ok (c.t.d.fact 88 (f := .cls "Deep") rfl)
  m_Deep_deep := He.meth_ok (c.t.d.fact 89 (f := .meth "Deep" "deep") rfl)
  m_Deep_fits_name := He.meth_ok (c.t.d.fact 90 (f := .meth "Deep" "fits_name") rfl)
  m_Deep_told := He.meth_ok (c.t.d.fact 91 (f := .meth "Deep" "told") rfl)
  g_Segment := He.glo_ok X G (c.t.d.fact 92 (f := .glo "Segment") rfl)
  k_Segment := He.keep_ok (c.t.d.fact 93 (f := .keep "Segment") rfl)
  c_Segment := He.cls_ok (c.t.d.fact 94 (f := .cls "Segment") rfl)
  n_Segment_parts := He.noat_ok (c.t.d.fact 95 (f := .noat "Segment" "parts") rfl)
  m_Segment_deep := He.meth_ok (c.t.d.fact 96 (f := .meth "Segment" "deep") rfl)
  m_Segment_fits_name := He.meth_ok (c.t.d.fact 97 (f := .meth "Segment" "fits_name") rfl)
  m_Segment_told := He.meth_ok (c.t.d.fact 98 (f := .meth "Segment" "told") rfl)
  m_Segment___init__ := He.meth_ok (c.t.d.fact 99 (f := .meth "Segment" "__init__") rfl)
  mk_Segment := He.mkr_ok (c.t.d.fact 100 (f := .mkr "Segment") rfl)
  g_Row := He.glo_ok X G (c.t.d.fact 101 (f := .glo "Row") rfl)
  k_Row := He.keep_ok (c.t.d.fact 102 (f := .keep "Row") rfl)
  c_Row := He.cls_ok (c.t.d.fact 103 (f := .cls "Row") rfl)
  n_Row_steps := He.noat_ok (c.t.d.fact 104 (f := .noat "Row" "steps") rfl)
  n_Row_spares := He.noat_ok (c.t.d.fact 105 (f := .noat "Row" "spares") rfl)
  n_Row_folders := He.noat_ok (c.t.d.fact 106 (f := .noat "Row" "folders") rfl)
  m_Row___init__ := He.meth_ok (c.t.d.fact 107 (f := .meth "Row" "__init__") rfl)
  m_Row_told := He.meth_ok (c.t.d.fact 108 (f := .meth "Row" "told") rfl)
  mk_Row := He.mkr_ok (c.t.d.fact 109 (f := .mkr "Row") rfl)
  s_SIGNS := He.str_ok X G (c.t.d.fact 110 (f := .str "SIGNS" "-.0123456789_abcdefghijklmnopqrstuvwxyz") rfl)
  fr_len := He.free_ok X G (c.t.d.fact 111 (f := .free "len") rfl)
  fr_range := He.free_ok X G (c.t.d.fact 112 (f := .free "range") rfl)
  fr_all := He.free_ok X G (c.t.d.fact 113 (f := .free "all") rfl)
  fr_set := He.free_ok X G (c.t.d.fact 114 (f := .free "set") rfl)
  fr_sorted := He.free_ok X G (c.t.d.fact 115 (f := .free "sorted") rfl)
  fr_list := He.free_ok X G (c.t.d.fact 116 (f := .free "list") rfl)
  fr_tuple := He.free_ok X G (c.t.d.fact 117 (f := .free "tuple") rfl)
  fr_dict := He.free_ok X G (c.t.d.fact 118 (f := .free "dict") rfl)
  fr_isinstance := He.free_ok X G (c.t.d.fact 119 (f := .free "isinstance") rfl)
  fr_max := He.free_ok X G (c.t.d.fact 120 (f := .free "max") rfl)
  fr_ValueError := He.free_ok X G (c.t.d.fact 121 (f := .free "ValueError") rfl)
  kx := HD.kx_ok c.more
  mn_Part := HD.mkn_ok c.more (by decide)
  mn_Any := HD.mkn_ok c.more (by decide)
  mn_Stars := HD.mkn_ok c.more (by decide)
  mn_Step := HD.mkn_ok c.more (by decide)
  mn_Deep := HD.mkn_ok c.more (by decide)
end SL
open PySem PySem.W PySem.Calls PyProof.Rows
theorem PySem.Challenge.cw_shunlist_k81_gathered_holds : PySem.Challenge.rw_shunlist_k81_gathered.Holds := by
  w_on; o_law
  refine HandSHeadRun.head_any (r := (PySem.W.OpenLaw.row PySem.Challenge.rw_shunlist_k81_gathered)) (q := view (PySem.W.OpenLaw.row PySem.Challenge.rw_shunlist_k81_gathered).prog [44]) (H := HD.hk) (ob := HD.ob) (M := 6000) (loose := HD.loose) (d := HandSHeadRun.topDef (PySem.W.OpenLaw.row PySem.Challenge.rw_shunlist_k81_gathered).prog 44) (kwd := []) HD.ob_eq
    (by kernel_rfl) (fun s => by kernel_rfl) HD.run (by kernel_rfl) (by kernel_rfl) (by kernel_rfl) (by rfl) (by first | assumption | decide +kernel) (by decide +kernel) ⟨rfl, rfl, rfl, rfl, rfl, by decide +kernel⟩ ?hw ?hc
  case hw => w_witness2
  case hc =>
    refine LamX.walk_ofTsE (l := PySem.Challenge.rw_shunlist_k81_gathered) (n := 63) (k := 7) (x := "_law_script") (CX := fun w => L2.CX (PySem.Challenge.rw_shunlist_k81_gathered).prog w) rfl (by decide) (by kernel_rfl) ⟨rfl, by decide, by decide⟩ ?F (fun _ _ _ _ _ ⟨_, _, _, _, _, _, _, _, _, _, _, _, z⟩ => z)
    intro w mg fa h Y G hmg0
    obtain ⟨K, KX, c⟩ := Y
    have T := SL.txt_of KX G c
    have hmg : mg ("law" : PySem.Str) = some (.ref fa) := by
      have e : (HandSHeadRun.topDef (PySem.W.OpenLaw.row PySem.Challenge.rw_shunlist_k81_gathered).prog 44).name = ("law" : PySem.Str) := by kernel_rfl
      rw [← e]
      exact hmg0
    have e := hmg.symm.trans T.g_law
    cases e
    obtain ⟨fd, F⟩ := T.F_law
    have b := L2.FunD.bindsA (ps := ["_law_script"]) F fun _ _ _ _ _ _ us hl => match us, hl with | [_], _ => rfl
    exact ⟨K, KX, fd, [], SL.spLaw K, (fun _ h => nomatch h), (fun _ h => nomatch h), (fun _ h => nomatch h), fun s v => b s [v] rfl, fun H a ns hl hb _ hS => SL.law_sp hS hl hb, fun base _ _ _ => F.ok SL.sc_law (fun vs H Q E h => SL.law_len h) (SL.bd_law T)⟩
