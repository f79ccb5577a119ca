import PyProof.Rows.All
import Wide.All
import OpenK.AllK
import Wide.FinOn
import KE.KStateDown
import HandS.Base
import HandS.Call
import HandS.List
import HandS.Comp
import HandS.Dict
import HandS.Iter
import HandS.Text
import HandS.Ends
import HandS.More
import HandS.Words
import HandS.WordsExc
import HandS.Defaults
import HandS.MakeKw
import HandS.Exc
import HandS.ExcOwn
import HandS.TryOnly
import HandS.Head0
import HandS.Head1
import HandS.Head2
import HandS.HeadHook1
import HandS.HeadHook2
import HandS.HeadHook3
import HandS.HeadHook4
import HandS.HeadWalk
import HandS.Flow
import HandS.Style
import HandS.Wide
import HandS.MakeKw
import HandS.Steps
import HandS.Strs
import HandS.SetKeys
import HandS.Set
import HandS.WordsDict
import HandS.WordsList
import HandS.Walk
import HandS.Iter
import HandS.SetFor
import HandS.Strs
import HandS.Zip
import HandS.SortInts
import HandS.Codes
import HandS.TupSets
import PySem.Challenge.RW_shunlist_k11_parts
set_option Elab.async false
set_option linter.all false
set_option maxRecDepth 100000
set_option maxHeartbeats 4000000

/-! the layer of this proof: calls by promise, readings -/
namespace SL
open PySem PySem.Spec PyProof.Rows L2
/-- a def keeps the promise sp at level k; dvs: its last defaults, filled in -/
def OkD (P : Program) (w : World) (K : PySem.W.Frag) (mg : Str → Option Value) (base : Heap) (k : Nat) (f : Addr) (ps : List Str) (dvs : List V) (sp : Sp) : Prop :=
  ∃ (fd : FuncData) (ds : List Value), FnOk P w K mg base (L2.CX P w) k f fd ps sp ∧ Binds K fd ps ds ∧ Vals dvs ds ∧ PySem.W.keepIn K (.ref f) = true
/-- what the top tells of an error's class -/
def ExcK (K : PySem.W.Frag) (C : Addr) : Prop := PySem.W.excIn K C He.veBase "ValueError.__new__" = true ∧ PySem.W.keepIn K (.ref C) = true ∧ PySem.W.subIn K (.ref C) (.type "BaseException") = some true ∧ PySem.W.typeIn K (.ref C) = some (.type "type")
section
variable {P : Program} {w : World} {K : PySem.W.Frag} {mg : Str → Option Value} {base : Heap} {f : Addr} {name qual : Str} {params : Arguments} {body : List Stmt} {scope : Scope} {dvs : List V} {N ps : List Str} {k : Nat} {sp : Sp}
/-- the body's question of a def -/
abbrev BodyQ (P : Program) (w : World) (K : PySem.W.Frag) (mg : Str → Option Value) (base : Heap) (k : Nat) (f : Addr) (qual : Str) (body : List Stmt) (scope : Scope) (N : List Str) (sp : Sp) : Prop :=
  ∀ (cdv : Value) (A : Around) (outer : List Env) (s : Shared) (H : Hp) (vs : List V) (Q : VK) (E : XK), Room k (A.deeper (envOfC qual scope s.heap.objs.size f cdv)) → sp vs H Q E →
      ∃ t, PSs (cxOf (L2.CX P w) P w K mg base N qual scope f cdv A outer s H E) body t ∧ t { nx := fun _ H' => Q .non H', rt := Q } (start N vs) H
theorem okD (F : ∃ fd, FunD K name qual params body scope [] [] f fd) (S : FnScope N ps scope)
    (hb : ∀ (kV doc pm : Value) (an : Option Addr) (cdv ct : Value) (us : List Value), us.length = ps.length → bindArgs (PySem.W.fnOf name qual params body scope .none kV doc pm an cdv ct) ⟨us, []⟩ = pure (ps.zip us))
    (len : ∀ vs H Q E, sp vs H Q E → vs.length = ps.length) (h : BodyQ P w K mg base k f qual body scope N sp) : OkD P w K mg base (k + 1) f ps [] sp := by
  obtain ⟨fd, F⟩ := F
  exact ⟨fd, [], F.ok S len h, F.bindsN hb, .nil, F.kp⟩
/-- a def with defaults, called with all but the last dvs.drop j -/
theorem okDd (F : ∃ fd, FunD K name qual params body scope dvs [] f fd) (S : FnScope N ps scope) (n j : Nat) (hd : dvs ≠ []) (hn : n + (dvs.length - j) = ps.length)
    (hb : ∀ (T : Addr) (kV doc pm : Value) (an : Option Addr) (cdv ct : Value) (us its : List Value), us.length = n → its.length = dvs.length →
      ∃ k, bindArgs (PySem.W.fnOf name qual params body scope (.ref T) kV doc pm an cdv ct) ⟨us, []⟩ = seqItems? (.ref T) >>= k ∧ k (some its.toArray) = pure (ps.zip (us ++ its.drop j)))
    (len : ∀ vs H Q E, sp vs H Q E → vs.length = ps.length) (h : BodyQ P w K mg base k f qual body scope N sp) : OkD P w K mg base (k + 1) f ps (dvs.drop j) sp := by
  obtain ⟨fd, F⟩ := F
  obtain ⟨ds, h1, h2⟩ := F.binds1 n j hd hn hb
  exact ⟨fd, ds, F.ok S len h, h2, h1, F.kp⟩
end
section
variable {X : Cx} {k : Nat} {f : Addr} {ps : List Str} {dvs : List V} {sp : Sp} {E : XK} {x : Str} {p pos : Pos} {e : Expr} {es : List Expr} {t : TA}
theorem pe_cal (o : OkD X.prog X.w X.K X.mg X.base k f ps dvs sp) (hr : Room k X.A) (hg : Gl X x) (hm : X.mg x = some (.ref f)) (hx : Passes (L2.CX X.prog X.w) X E)
    (ha : PA X (e :: es) t) (hdb : (x == ("__debug__" : Str)) = false := by decide) (he : starEach (e :: es) X.env = (false, eval e X.env) :: starEach es X.env := by rfl) (hpl : (backTo pos (starEach es X.env)).any (·.1) = false := by rfl) :
    PE X (.Call (.Name x p) (e :: es) [] pos) (tCall sp dvs E t) := by
  obtain ⟨fd, ds, F, hb, hd, hk⟩ := o
  exact pe_call F hr hg hm hk hb hd hx ha hdb he hpl
/-- a module's text, a module's number -/
theorem pe_gstr {z : Str} (hg : Gl X x) (hm : ∃ t, X.mg x = some (.str z t)) (hd : (x == ("__debug__" : Str)) = false := by decide) : PE X (.Name x pos) (tC (.str z)) := by
  obtain ⟨t, hm⟩ := hm
  exact pe_glob hg hm ⟨t, rfl⟩ hd
theorem pe_gint {z : Int} (hg : Gl X x) (hm : ∃ t, X.mg x = some (.int z t)) (hd : (x == ("__debug__" : Str)) = false := by decide) : PE X (.Name x pos) (tC (.int z)) := by
  obtain ⟨t, hm⟩ := hm
  exact pe_glob hg hm ⟨t, rfl⟩ hd
/-- no error leaves the callee -/
theorem pasN : Passes (L2.CX X.prog X.w) X (fun _ _ _ => False) := fun _ _ _ _ _ _ _ ⟨_, _, _, _, _, _, _, _, _, _, _, _, h⟩ => h.elim
/-- an error of a callee leaves here, too -/
theorem pasE {W : WX} (tk : Takes X W) {E : XK} (h : ∀ c d σ H, E c d H → W c d σ H) : Passes (L2.CX X.prog X.w) X E := fun pins σ H s e s' I c => passes_call tk h pins σ H s e s' I c
end
end SL

namespace SL
open PySem PySem.Spec PyProof.Rows L2
section
variable {X : Cx} {k : Nat} {f C : Addr} {ps : List Str} {dvs : List V} {sp : Sp} {E : XK} {x m : Str} {p pos apos : Pos} {o e : Expr} {es : List Expr} {ta : TE} {t : TA}
/-- o.m(..), the class told by what stands there: i says it -/
def tMeI {ι : Type} (D : ι → V → Hp → Prop) (spI : ι → Sp) (E : XK) (ta : TE) (t : TA) : TE := fun σ H Q => ta σ H fun x H1 => ∃ i, D i x H1 ∧ t σ H1 fun vs H2 => spI i (x :: vs) H2 Q E
/-- what a value must be for a method m of promise spI i -/
def MetD {ι : Type} (X : Cx) (k : Nat) (m : Str) (D : ι → V → Hp → Prop) (spI : ι → Sp) : Prop :=
  ∀ i x H, D i x H → ∃ a C dx fs g ps, x = .ref a ∧ H a = some (.ins C dx fs) ∧ Cls X.K C ∧ Meth X.K C m g ∧ fs.lookup m = none ∧ OkD X.prog X.w X.K X.mg X.base k g ps [] (spI i)
theorem pe_metI {ι : Type} {D : ι → V → Hp → Prop} {spI : ι → Sp} {pl : Sem Bool} (hD : MetD X k m D spI) (he : PE X o ta) (hr : Room k X.A) (hx : Passes (L2.CX X.prog X.w) X E) (ha : PA X (e :: es) t)
    (hst : starEach (e :: es) X.env = (false, eval e X.env) :: starEach es X.env := by rfl) (hpl : (backTo pos (starEach es X.env)).any (·.1) = false := by rfl)
    (ht : eval (.Call (.Attribute o m apos) (e :: es) [] pos) X.env = (do
      let ov ← eval o X.env
      standAt apos.atName
      let (f, first) ← holding [ov] (getMethod ov m pl)
      callWith pos f first (backTo pos (starEach (e :: es) X.env)) (backToKw pos (keywordEach [] X.env))) := by rfl) :
    PE X (.Call (.Attribute o m apos) (e :: es) [] pos) (tMeI D spI E ta t) := by
  refine ⟨fun pins s σ H Q I h => ?_⟩
  refine PySem.W.methodCall_KW (pl := pl) (thn (he.run pins s σ H _ I h) fun u s1 ⟨x, H1, I1, rx, i, hi, q⟩ => ?_) ht
  obtain ⟨a, C, dx, fs, g, ps, rfl, ea, c, hm, l, fd, ds, F, hb, hd, hk⟩ := hD i x H1 hi
  obtain rfl : u = Value.ref a := rx
  cases hd
  refine getmeth_ok I1 ea c hm l (PySem.W.callWith_K (first := [.ref a]) (h₀ := X.base) I.ok.mod.kin hm.kp (thn (ha.run pos pins s1 σ H1 _ I1 q) fun us s2 ⟨vs, H2, I2, r, q2⟩ => ⟨I2.kIn, ?_⟩) hst hpl)
  have q3 : spI i (.ref a :: vs ++ []) H2 Q E := by rw [List.append_nil]; exact q2
  exact run_fn (us := .ref a :: us) (vs := .ref a :: vs) F hr hb .nil hx I2 (.cons rfl r) q3
theorem pe_metI0 {ι : Type} {D : ι → V → Hp → Prop} {spI : ι → Sp} {pl : Sem Bool} (hD : MetD X k m D spI) (he : PE X o ta) (hr : Room k X.A) (hx : Passes (L2.CX X.prog X.w) X E)
    (ht : eval (.Call (.Attribute o m apos) [] [] pos) X.env = (do
      let ov ← eval o X.env
      standAt apos.atName
      let (f, first) ← holding [ov] (getMethod ov m pl)
      callWith pos f first (backTo pos (starEach [] X.env)) (backToKw pos (keywordEach [] X.env))) := by rfl) :
    PE X (.Call (.Attribute o m apos) [] [] pos) (tMeI D spI E ta tNil) := by
  refine ⟨fun pins s σ H Q I h => ?_⟩
  refine PySem.W.methodCall_KW (pl := pl) (thn (he.run pins s σ H _ I h) fun u s1 ⟨x, H1, I1, rx, i, hi, q⟩ => ?_) ht
  obtain ⟨a, C, dx, fs, g, ps, rfl, ea, c, hm, l, fd, ds, F, hb, hd, hk⟩ := hD i x H1 hi
  obtain rfl : u = Value.ref a := rx
  cases hd
  refine getmeth_ok I1 ea c hm l (PySem.W.callWith_K0 (first := [.ref a]) I1.kIn hm.kp ?_)
  exact run_fn (us := [.ref a]) (vs := [.ref a]) F hr hb .nil hx I1 (.cons rfl .nil) q
/-- C(e, ..) by its __init__ -/
theorem pe_mak (M : Mk X.K C f) (o : OkD X.prog X.w X.K X.mg X.base k f ps dvs sp) (hr : Room (k + 1) X.A) (hg : Gl X x) (hm : X.mg x = some (.ref C)) (hx : Passes (L2.CX X.prog X.w) X E)
    (ha : PA X (e :: es) t) (hdb : (x == ("__debug__" : Str)) = false := by decide) (he : starEach (e :: es) X.env = (false, eval e X.env) :: starEach es X.env := by rfl) (hpl : (backTo pos (starEach es X.env)).any (·.1) = false := by rfl) :
    PE X (.Call (.Name x p) (e :: es) [] pos) (tMake C sp dvs E t) := by
  obtain ⟨fd, ds, F, hb, hd, _⟩ := o
  exact pe_make M F hr hg hm hb hd hx ha hdb he hpl
theorem pe_mak0 (M : Mk X.K C f) (o : OkD X.prog X.w X.K X.mg X.base k f ps dvs sp) (hr : Room (k + 1) X.A) (hg : Gl X x) (hm : X.mg x = some (.ref C)) (hx : Passes (L2.CX X.prog X.w) X E)
    (hdb : (x == ("__debug__" : Str)) = false := by decide) : PE X (.Call (.Name x p) [] [] pos) (tMake C sp dvs E tNil) := by
  obtain ⟨fd, ds, F, hb, hd, _⟩ := o
  exact pe_make0 M F hr hg hm hb hd hx hdb
/-- C() of a class that has no __init__ of its own -/
structure MkN (K : PySem.W.Frag) (C : Addr) : Prop where
  makes : PySem.W.makesIn K C = true
  init : PySem.W.findIn K (.ref C) "__init__" = some (some (.builtin "object.__init__"))
  kp : PySem.W.keepIn K (.ref C) = true
def tMakN (C : Addr) : TE := fun _ H Q => ∀ x dx, H x = none → H dx = none → dx ≠ x → Q (.ref x) (upd (upd H dx (.own x)) x (.ins C dx []))
theorem pe_makN (M : MkN X.K C) (hg : Gl X x) (hm : X.mg x = some (.ref C)) (hdb : (x == ("__debug__" : Str)) = false := by decide) : PE X (.Call (.Name x p) [] [] pos) (tMakN C) := by
  refine ⟨fun pins s σ H Q I h => ?_⟩
  refine wpAny_Call_Name_kw (ld_glob I hg hm ?_ hdb)
  refine PySem.W.callWith_K0 I.kIn M.kp (wpAny_call ?_)
  have I2 := Inv.made (C := C) I
  have hq := h (s.heap.objs.size + 1) s.heap.objs.size (I.hok.fresh (Nat.le_succ _)) (I.hok.fresh (Nat.le_refl _)) (Nat.ne_of_lt (Nat.lt_succ_self _))
  refine make_map0 I.kIn M.makes M.init (fun self => PySem.W.Looks.of_pure (PySem.W.oi_bind self)) ?_
  have Y := PySem.W.makes_of (M := model X.prog X.w) I.kIn M.makes
  have hx : ((s.heap.push PySem.W.emptyDict).push (PySem.W.instObj C s.heap.objs.size)).get? (s.heap.objs.size + 1) = some (PySem.W.instObj C s.heap.objs.size) := by
    have e := Heap.get?_push_size (s.heap.push PySem.W.emptyDict) (show (PySem.W.instObj C s.heap.objs.size).isFreed = false from rfl)
    rw [Heap.size_push] at e
    exact e
  have t1 : PySem.W.Looks (model X.prog X.w) ((s.heap.push PySem.W.emptyDict).push (PySem.W.instObj C s.heap.objs.size)) (isInstance (.ref (s.heap.objs.size + 1)) (.type "object")) true :=
    ((PySem.W.Looks.ld hx).andThen .now).andThen (Y.top.keeps fun b o e => Heap.get?_push_of_some _ (Heap.get?_push_of_some _ e))
  refine codeAny_call_builtin PySem.W.oi_plain PySem.W.entry_oi (@PySem.W.check_slot (model X.prog X.w) _ _ _ "object.__init__" "object" "__init__" (.ref (s.heap.objs.size + 1)) [] [] _ PySem.W.oi_kind PySem.W.oi_split t1 (PySem.W.oi_args (.ref (s.heap.objs.size + 1))) ?_)
  rw [PySem.W.oi_run]
  exact wpAny_pure ⟨rfl, .ref (s.heap.objs.size + 1), _, I2, rfl, hq⟩
end
/-- a def that keeps sp, called with n values and the keywords ks, in the order of its parameters -/
def OkK (P : Program) (w : World) (K : PySem.W.Frag) (mg : Str → Option Value) (base : Heap) (k : Nat) (f : Addr) (ps : List Str) (n : Nat) (ks : List Str) (sp : Sp) : Prop :=
  ∃ (fd : FuncData) (g : List Value → List Value → List Value) (gV : List V → List V → List V), FnOk P w K mg base (L2.CX P w) k f fd ps sp ∧ KBn K fd ps n ks g gV ∧ ∀ vs zs, gV vs zs = vs ++ zs
theorem okK {P : Program} {w : World} {K : PySem.W.Frag} {mg : Str → Option Value} {base : Heap} {f : Addr} {name qual : Str} {params : Arguments} {body : List Stmt} {scope : Scope} {dvs : List V} {N ps : List Str} {k : Nat} {sp : Sp}
    (F : ∃ fd, FunD K name qual params body scope dvs [] f fd) (S : FnScope N ps scope) (n : Nat) (ks : List Str) (hd : dvs ≠ [])
    (hb : ∀ (T : Addr) (kV doc pm : Value) (an : Option Addr) (cdv ct : Value) (us its ws : List Value), us.length = n → its.length = dvs.length → ws.length = ks.length →
      ∃ k, bindArgs (PySem.W.fnOf name qual params body scope (.ref T) kV doc pm an cdv ct) ⟨us, ks.zip ws⟩ = seqItems? (.ref T) >>= k ∧ k (some its.toArray) = pure (ps.zip (us ++ ws)))
    (len : ∀ vs H Q E, sp vs H Q E → vs.length = ps.length) (h : BodyQ P w K mg base k f qual body scope N sp) : OkK P w K mg base (k + 1) f ps n ks sp := by
  obtain ⟨fd, F⟩ := F
  obtain ⟨its, hk⟩ := F.kbindsD n ks (fun us _ ws => us ++ ws) hd (fun a _ c => a.append c) hb
  exact ⟨fd, _, _, F.ok S len h, hk, fun _ _ => rfl⟩
def tMakK (C : Addr) (n m : Nat) (sp : Sp) (E : XK) (t tk : TA) : TE := fun σ H Q => t σ H fun vs H1 => tk σ H1 fun zs H2 => vs.length = n ∧ zs.length = m ∧
  ∀ x dx, H2 x = none → H2 dx = none → dx ≠ x → sp (.ref x :: (vs ++ zs)) (upd (upd H2 dx (.own x)) x (.ins C dx [])) (fun v H3 => v = .non ∧ Q (.ref x) H3) E
theorem pe_makK {X : Cx} {k n : Nat} {f C : Addr} {ps ks : List Str} {sp : Sp} {E : XK} {x : Str} {p pos : Pos} {e : Expr} {es : List Expr} {kws : List Keyword} {t tk : TA} (M : Mk X.K C f) (o : OkK X.prog X.w X.K X.mg X.base k f ps (n + 1) ks sp) (hr : Room (k + 1) X.A) (hg : Gl X x) (hm : X.mg x = some (.ref C)) (hx : Passes (L2.CX X.prog X.w) X E)
    (ha : PA X (e :: es) t) (hkw : PK X kws tk) (hall : (backToKw pos (keywordEach kws X.env)).all (·.1.isSome) = true := by rfl) (hks : (backToKw pos (keywordEach kws X.env)).filterMap (·.1) = ks := by rfl)
    (hdb : (x == ("__debug__" : Str)) = false := by decide) (he : starEach (e :: es) X.env = (false, eval e X.env) :: starEach es X.env := by rfl)
    (hpl : ((backTo pos (starEach (e :: es) X.env)).any (·.1) || (backToKw pos (keywordEach kws X.env)).any (·.1.isNone)) = false := by rfl) :
    PE X (.Call (.Name x p) (e :: es) kws pos) (tMakK C n ks.length sp E t tk) := by
  obtain ⟨fd, g, gV, F, hb, hgv⟩ := o
  refine ⟨fun pins s σ H Q I h => (pe_makeN M F hr hg hm hb hx ha hkw hall hks hdb he hpl).run pins s σ H Q I ?_⟩
  unfold tMakeN
  unfold tMakK at h
  simp only [hgv]
  exact h
end SL

namespace SL
open PySem PySem.Spec PyProof.Rows L2
theorem hu64 {k : Nat} {A : Around} (hr : Room k A) : A.units + 64 < cLine := hr.units
section
variable {X : Cx}
theorem OpR.imp {f : Value → Value → Sem Value} {r r' : R2} (h : OpR X f r) (i : ∀ x y H Q, r' x y H Q → r x y H Q) : OpR X f r' := fun pins s σ H x y v u Q I rx ry q => h pins s σ H x y v u Q I rx ry (i _ _ _ _ q)
theorem IxR.imp {r r' : R2} (h : IxR X r) (i : ∀ x y H Q, r' x y H Q → r x y H Q) : IxR X r' := fun value slice pins s σ H x y v u Q I rx ry q hs => h value slice pins s σ H x y v u Q I rx ry (i _ _ _ _ q) hs
theorem CallR.imp {f : Value} {r r' : List V → Hp → VK → Prop} (h : CallR X f r) (i : ∀ xs H Q, r' xs H Q → r xs H Q) : CallR X f r' := fun pins s σ H xs us Q I rx q => h pins s σ H xs us Q I rx (i _ _ _ q)
/-! ### + and * -/
def rAddU (K : PySem.W.Frag) : R2 := fun x y H Q => match x, y with
  | .int i, .int j => Q (.int (i + j)) H
  | .int i, .bl b => Q (.int (i + b2i b)) H
  | .str a, .str b => a.length + b.length ≤ sizeLine ∧ Q (.str (a ++ b)) H
  | .ref a, .ref b => rCat (.ref a) (.ref b) H Q ∨ rCatT K (.ref a) (.ref b) H Q
  | _, _ => False
theorem o_add {K : PySem.W.Frag} (hK : X.K = K := by rfl) : OpR X (binaryOp .Add) (rAddU K) := by
  subst hK
  refine OpR.imp (op_add.or (op_add_ib.or (op_add_str.or (op_cat.or op_catT)))) fun x y H Q h => ?_
  cases x <;> cases y <;> first
    | exact absurd h id
    | exact .inl ⟨_, _, rfl, rfl, h⟩
    | exact .inr (.inl ⟨_, _, rfl, rfl, h⟩)
    | exact .inr (.inr (.inl ⟨_, _, rfl, rfl, h.1, h.2⟩))
    | exact .inr (.inr (.inr h))
def rMulU : R2 := fun x y H Q => match x, y with
  | .int i, .int j => CMul i j ∧ Q (.int (i * j)) H
  | .ref a, .int j => rRep (.ref a) (.int j) H Q
  | _, _ => False
theorem o_mul : OpR X (binaryOp .Mult) rMulU := by
  refine OpR.imp (op_mul.or op_rep) fun x y H Q h => ?_
  cases x <;> cases y <;> first
    | exact absurd h id
    | exact .inl ⟨_, _, rfl, rfl, h.1, h.2⟩
    | exact .inr h
/-! ### comparisons -/
def isRef : V → Bool
  | .ref _ => true
  | _ => false
def rEqU (K : PySem.W.Frag) : R2 := fun x y H Q => match isRef x || isRef y with
  | true => rEqD K x y H Q
  | false => scal x y = true ∧ Q (.bl (decide (x = y))) H
def rNeU (K : PySem.W.Frag) : R2 := fun x y H Q => match isRef x || isRef y with
  | true => rNeD K x y H Q
  | false => scal x y = true ∧ Q (.bl (!decide (x = y))) H
theorem o_eq {K : PySem.W.Frag} (hu : X.A.units + 64 < cLine) (hK : X.K = K := by rfl) : OpR X (compareOp .Eq) (rEqU K) := by
  subst hK
  refine OpR.imp (op_eq.or (op_eqD hu)) fun x y H Q h => ?_
  unfold rEqU at h
  split at h
  · exact .inr h
  · exact .inl h
theorem o_ne {K : PySem.W.Frag} (hu : X.A.units + 64 < cLine) (hK : X.K = K := by rfl) : OpR X (compareOp .NotEq) (rNeU K) := by
  subst hK
  refine OpR.imp (op_ne.or (op_neD hu)) fun x y H Q h => ?_
  unfold rNeU at h
  split at h
  · exact .inr h
  · exact .inl h
def rCmp (f : Int → Int → Bool) (g : List Nat → List Nat → Bool) : R2 := fun x y H Q => match x, y with
  | .int i, .int j => Q (.bl (f i j)) H
  | .str a, .str b => Q (.bl (g a.cps.toList b.cps.toList)) H
  | _, _ => False
theorem o_lt : OpR X (compareOp .Lt) (rCmp (fun i j => decide (i < j)) (fun a b => decide (a < b))) := by
  refine OpR.imp (op_lt.or op_lt_str) fun x y H Q h => ?_
  cases x <;> cases y <;> first
    | exact absurd h id
    | exact .inl ⟨_, _, rfl, rfl, h⟩
    | exact .inr ⟨_, _, rfl, rfl, h⟩
theorem o_le : OpR X (compareOp .LtE) (rCmp (fun i j => decide (i ≤ j)) (fun a b => !decide (b < a))) := by
  refine OpR.imp (op_le.or op_le_str) fun x y H Q h => ?_
  cases x <;> cases y <;> first
    | exact absurd h id
    | exact .inl ⟨_, _, rfl, rfl, h⟩
    | exact .inr ⟨_, _, rfl, rfl, h⟩
theorem o_gt : OpR X (compareOp .Gt) (rCmp (fun i j => decide (j < i)) (fun a b => decide (b < a))) := by
  refine OpR.imp (op_gt.or op_gt_str) fun x y H Q h => ?_
  cases x <;> cases y <;> first
    | exact absurd h id
    | exact .inl ⟨_, _, rfl, rfl, h⟩
    | exact .inr ⟨_, _, rfl, rfl, h⟩
theorem o_ge : OpR X (compareOp .GtE) (rCmp (fun i j => decide (j ≤ i)) (fun a b => !decide (a < b))) := by
  refine OpR.imp (op_ge.or op_ge_str) fun x y H Q h => ?_
  cases x <;> cases y <;> first
    | exact absurd h id
    | exact .inl ⟨_, _, rfl, rfl, h⟩
    | exact .inr ⟨_, _, rfl, rfl, h⟩
/-- in: a sign in a text, a text in a text, a flat thing in a list or a tuple -/
def rInU (K : PySem.W.Frag) : R2 := fun x y H Q => match x, y with
  | .str a, .str b => (∃ c, a = ⟨#[c]⟩ ∧ Q (.bl (decide (c ∈ b.cps.toList))) H) ∨ Q (.bl (!(Builtin.Str.occurrences b a 0 b.length 1).isEmpty)) H
  | x, .ref b => rIn K false x (.ref b) H Q
  | _, _ => False
theorem o_in {K : PySem.W.Frag} (hK : X.K = K := by rfl) : OpR X (compareOp .In) (rInU K) := by
  subst hK
  refine OpR.imp (op_in_sign.or (op_in_str.or op_in_seq)) fun x y H Q h => ?_
  cases y with
  | ref b => exact .inr (.inr (by cases x <;> exact h))
  | str b =>
    cases x with
    | str a =>
      rcases h with ⟨c, rfl, q⟩ | q
      · exact .inl ⟨c, b, rfl, rfl, q⟩
      · exact .inr (.inl ⟨a, b, rfl, rfl, q⟩)
    | _ => exact absurd h id
  | _ => cases x <;> exact absurd h id
def rNotInU (K : PySem.W.Frag) : R2 := fun x y H Q => match x, y with
  | .str a, .str b => (∃ c, a = ⟨#[c]⟩ ∧ Q (.bl (!decide (c ∈ b.cps.toList))) H) ∨ Q (.bl (!(!(Builtin.Str.occurrences b a 0 b.length 1).isEmpty))) H
  | x, .ref b => rIn K true x (.ref b) H Q
  | _, _ => False
theorem o_notin {K : PySem.W.Frag} (hK : X.K = K := by rfl) : OpR X (compareOp .NotIn) (rNotInU K) := by
  subst hK
  refine OpR.imp (op_notIn_sign.or (op_notIn_str.or op_notIn_seq)) fun x y H Q h => ?_
  cases y with
  | ref b => exact .inr (.inr (by cases x <;> exact h))
  | str b =>
    cases x with
    | str a =>
      rcases h with ⟨c, rfl, q⟩ | q
      · exact .inl ⟨c, b, rfl, rfl, q⟩
      · exact .inr (.inl ⟨a, b, rfl, rfl, q⟩)
    | _ => exact absurd h id
  | _ => cases x <;> exact absurd h id
/-! ### items, slices, walks -/
def rIxU (K : PySem.W.Frag) : R2 := fun x y H Q => match x, y with
  | .ref p, .int i => ∃ xs v, (SqL K H p xs ∨ SqT K H p xs) ∧ atI xs i = some v ∧ Q v H
  | .str z, .int i => z.length ≤ sizeLine ∧ ∃ c, atI z.cps.toList i = some c ∧ Q (.str ⟨#[c]⟩) H
  | _, _ => False
theorem o_ix {K : PySem.W.Frag} (hK : X.K = K := by rfl) : IxR X (rIxU K) := by
  subst hK
  refine IxR.imp ix_seq fun x y H Q h => ?_
  cases y with
  | int i =>
    cases x with
    | ref p =>
      obtain ⟨xs, v, h1 | h1, h2, q⟩ := h
      · exact .inl ⟨p, xs, i, v, rfl, rfl, h1, h2, q⟩
      · exact .inr (.inl ⟨p, xs, i, v, rfl, rfl, h1, h2, q⟩)
    | str z =>
      obtain ⟨h0, c, h2, q⟩ := h
      exact .inr (.inr ⟨z, i, c, rfl, rfl, h0, h2, q⟩)
    | _ => exact absurd h id
  | _ => cases x <;> exact absurd h id
def iU (K : PySem.W.Frag) (te : TE) : TI := fun σ H R => te σ H fun x H1 => match x with
  | .ref a => ((∃ xs, SqL K H1 a xs) ∧ R (Itl K a) H1) ∨ ((∃ xs, SqT K H1 a xs) ∧ R (Itt K a) H1)
  | .str z => R (Its z) H1
  | _ => False
theorem o_it {K : PySem.W.Frag} {tg e : Expr} {te : TE} (hc : X.calm = true) (he : PE X e te) (hK : X.K = K := by rfl) : PI X tg e (iU K te) := by
  subst hK
  refine ⟨fun pins s σ H R I h => ?_⟩
  refine thn (he.run pins s σ H _ I h) fun v s1 ⟨x, H1, I1, r1, q1⟩ => ?_
  cases x with
  | ref a =>
    cases r1
    rcases q1 with ⟨⟨xs, hq⟩, q⟩ | ⟨⟨xs, hq⟩, q⟩
    · obtain ⟨its, rv, p, hz⟩ := I1.list hq
      exact wpAny_pyIter_list p.isList (pi_one (tk := s1.toks) I1 _ (turn_list a _) ⟨_, Heap.get?_push_size _ rfl, rfl, rfl⟩ q)
    · obtain ⟨its, rv, p, hz⟩ := I1.tuple hq
      exact wpAny_pyIter_tuple (show s1.heap.IsTuple a its.toArray from p) (pi_one (tk := s1.toks) I1 _ (turn_tuple a _) ⟨_, Heap.get?_push_size _ rfl, rfl, rfl⟩ q)
  | str z =>
    obtain ⟨t, rfl⟩ := r1
    cases ha : z.cps.all (· < 128)
    · exact wpAny_pyIter_wide ha (pi_one (tk := s1.toks) I1 _ (turn_str _ z t "str_iterator" (.inr rfl)) ⟨_, Heap.get?_push_size _ rfl, rfl, rfl⟩ q1)
    · exact wpAny_pyIter_ascii ha (pi_one (tk := s1.toks) I1 _ (turn_str _ z t "str_ascii_iterator" (.inl rfl)) ⟨_, Heap.get?_push_size _ rfl, rfl, rfl⟩ q1)
  | _ => exact absurd q1 id
/-! ### slices, len, list, the truth of a value -/
def rSlU (K : PySem.W.Frag) : V → Option Int → Option Int → Hp → VK → Prop := fun x lo hi H Q => rSlL K x lo hi H Q ∨ rSlT K x lo hi H Q ∨ rSlS x lo hi H Q
theorem o_sl {K : PySem.W.Frag} (hK : X.K = K := by rfl) : SlR X (rSlU K) := by
  subst hK
  exact sl_list.or (sl_tup.or sl_str)
def rLenU (K : PySem.W.Frag) : List V → Hp → VK → Prop := fun xs H Q => match xs with
  | [x] => ∃ n, LenV K x H n ∧ Q (.int n) H
  | _ => False
theorem o_len {K : PySem.W.Frag} (hK : X.K = K := by rfl) : CallR X (.builtin "len") (rLenU K) := by
  subst hK
  refine CallR.imp call_len fun xs H Q h => ?_
  match xs, h with
  | [x], ⟨n, h, q⟩ => exact ⟨x, n, rfl, h, q⟩
theorem pt_tru {K : PySem.W.Frag} {a : Expr} {ta : TE} (ha : PE X a ta) (he : ∀ whole, isTrue a X.env whole = (do let v ← whole; standAt a.pos; holding [v] (truthy v))) (hK : X.K = K := by rfl) : PT X a (fun σ H Q => ta σ H fun x H1 => ∃ k, TruV K x H1 k ∧ Q k H1) := by
  subst hK
  exact pt_truth ha he
theorem pe_notK {K : PySem.W.Frag} {a : Expr} {ta : TE} {pos : Pos} (ha : PE X a ta) (hK : X.K = K := by rfl) : PE X (.UnaryOp .Not a pos) (tNotT K ta) := by
  subst hK
  exact pe_notT ha
theorem pe_orK {K : PySem.W.Frag} {a b : Expr} {rest : List Expr} {ta tb : TE} {pos : Pos} (ha : PE X a ta) (hb : PE X (.BoolOp .Or (b :: rest) pos) tb) (hK : X.K = K := by rfl) : PE X (.BoolOp .Or (a :: b :: rest) pos) (tOrT K ta tb) := by
  subst hK
  exact pe_orT ha hb
theorem pe_andK {K : PySem.W.Frag} {a b : Expr} {rest : List Expr} {ta tb : TE} {pos : Pos} (ha : PE X a ta) (hb : PE X (.BoolOp .And (b :: rest) pos) tb) (hK : X.K = K := by rfl) : PE X (.BoolOp .And (a :: b :: rest) pos) (tAndT K ta tb) := by
  subst hK
  exact pe_andT ha hb
theorem pe_fldK {K : PySem.W.Frag} {e : Expr} {f : Str} {ta : TE} {pos : Pos} (he : PE X e ta) (hb : attributeBase e f X.env (eval e X.env) = eval e X.env) (hK : X.K = K := by rfl) : PE X (.Attribute e f pos) (tFld K ta f) := by
  subst hK
  exact pe_fld he hb
theorem o_all {K : PySem.W.Frag} (hc : X.calm = true) (hK : X.K = K := by rfl) : CallR X (.builtin "all") (rAll K) := by
  subst hK
  exact cr_all hc
theorem o_any {K : PySem.W.Frag} (hc : X.calm = true) (hK : X.K = K := by rfl) : CallR X (.builtin "any") (rAny K) := by
  subst hK
  exact cr_any hc
def rTupU (K : PySem.W.Frag) : List V → Hp → VK → Prop := fun xs H Q => match xs with
  | [.ref p] => ∃ ys, (SqL K H p ys ∧ ∀ l, H l = none → Q (.ref l) (upd H l (.tup ys))) ∨ (SqT K H p ys ∧ Q (.ref p) H)
  | _ => False
theorem o_tuple {K : PySem.W.Frag} (hK : X.K = K := by rfl) : CallR X (.type "tuple") (rTupU K) := by
  subst hK
  refine CallR.imp call_tuple_of fun xs H Q h => ?_
  match xs, h with
  | [.ref p], ⟨ys, h⟩ => exact ⟨p, ys, rfl, h⟩
end
end SL

namespace SL
open PySem PySem.Spec PyProof.Rows L2
section
variable {K : PySem.W.Frag} {H H' : Hp}
theorem same_new {p : Addr} {o : HO} (h : H p = none) : Same H (upd H p o) := fun a u e => by
  rw [upd_ne (ne_of_none e h)]
  exact e
/-- an object that H does not know may change -/
theorem same_mut {p : Addr} {o : HO} (e : Same H H') (h : H p = none) : Same H (upd H' p o) := fun a u ha => by
  rw [upd_ne (ne_of_none ha h)]
  exact e a u ha
theorem same_rd {a : Addr} {u : HO} (e : Same H H') (h : Rd H a u) : Rd H' a u := by
  rcases h with h | ⟨o, h⟩
  · exact .inl (e a _ h)
  · exact .inr ⟨o, e a _ h⟩
theorem same_l {a : Addr} {xs : List V} (e : Same H H') (h : SqL K H a xs) : SqL K H' a xs := e.seq h
theorem same_t {a : Addr} {xs : List V} (e : Same H H') (h : SqT K H a xs) : SqT K H' a xs := by
  rcases h with h | h
  · exact .inl (same_rd e h)
  · exact .inr h
mutual
theorem dp_mono (e : Same H H') : ∀ (d : PyData) (v : V), Dp K H v d → Dp K H' v d
  | .none, _, .non => .non
  | .bool _, _, .bl b => .bl b
  | .int _, _, .int i => .int i
  | .str _, _, .str x => .str x
  | .list ds, _, .lst h a => .lst (same_l e h) (dpAll_mono e ds _ a)
  | .tuple ds, _, .tup h a => .tup (same_t e h) (dpAll_mono e ds _ a)
theorem dpAll_mono (e : Same H H') : ∀ (ds : List PyData) (vs : List V), DpAll K H vs ds → DpAll K H' vs ds
  | [], _, .nil => .nil
  | d :: ds, _, .cons h t => .cons (dp_mono e d _ h) (dpAll_mono e ds _ t)
end
end
section
variable {CX : CXT} {P : Program} {w : World} {K : PySem.W.Frag} {mg : Str → Option Value} {base : Heap} {N : List Str} {qual : Str} {scope : Scope} {f : Addr} {cd : Value} {A : Around} {outer : List Env} {s : Shared} {H : Hp} {E : XK}
theorem cxK : (cxOf CX P w K mg base N qual scope f cd A outer s H E).K = K := rfl
theorem cxW : (cxOf CX P w K mg base N qual scope f cd A outer s H E).w = w := rfl
theorem cxP : (cxOf CX P w K mg base N qual scope f cd A outer s H E).prog = P := rfl
end
section
variable {K : PySem.W.Frag} {H : Hp} {k : Bool} {n : Nat}
theorem truBl {b : Bool} : TruV K (.bl b) H k = (k = b) := rfl
theorem truInt {i : Int} : TruV K (.int i) H k = (k = (i != 0)) := rfl
theorem truNon : TruV K .non H k = (k = false) := rfl
theorem truStr {y : Str} : TruV K (.str y) H k = (y.length ≤ sizeLine ∧ k = ((y.length : Int) != 0)) := rfl
theorem lenStr {z : Str} {R : Nat → Prop} : (∃ n, LenV K (.str z) H n ∧ R n) = (z.length ≤ sizeLine ∧ R z.length) := by
  refine propext ⟨fun ⟨n, ⟨h1, h2⟩, h⟩ => ?_, fun ⟨h1, h⟩ => ⟨_, ⟨h1, rfl⟩, h⟩⟩
  subst h2
  exact ⟨h1, h⟩
end
theorem sameT {H : Hp} : Same H H = True := propext ⟨fun _ => trivial, fun _ => Same.refl H⟩
theorem start_nil (N : List Str) : start N [] = List.replicate N.length none := rfl
theorem ite_tt {A B : Prop} : (if true = true then A else B) = A := by simp
theorem ite_ff {A B : Prop} : (if false = true then A else B) = B := by simp
theorem le_sz {n : Nat} : (n ≤ sizeLine) = (n ≤ 16777216) := by rw [sizeLine_eq]
theorem lt_sz {n : Nat} : (n < sizeLine) = (n < 16777216) := by rw [sizeLine_eq]
/-- a value by what is wanted of it alone -/
def tMid (te : TE) : TE := fun σ H Q => ∃ Q' : VK, te σ H Q' ∧ ∀ v H1, Q' v H1 → Q v H1
theorem pe_mid {X : Cx} {e : Expr} {te : TE} (h : PE X e te) : PE X e (tMid te) := ⟨fun pins s σ H Q I ⟨_, h1, h2⟩ => thn (h.run pins s σ H _ I h1) fun _ _ ⟨v, H1, I1, r, q⟩ => ⟨v, H1, I1, r, h2 v H1 q⟩⟩
theorem mid_int {te : TE} {σ : L2.St} {H : Hp} {Q : VK} (C : Int → Prop) (h : te σ H fun v H1 => H1 = H ∧ ∃ n, v = .int n ∧ C n) (k : ∀ n, C n → Q (.int n) H) : tMid te σ H Q :=
  ⟨_, h, fun v H1 ⟨e, n, ev, c⟩ => by rw [e, ev]; exact k n c⟩
theorem q_mid {i : Nat} {te : TE} {u : TS} {D : Ends} {σ : L2.St} {H : Hp} (C : Int → Prop) (h : te σ H fun v H1 => H1 = H ∧ ∃ n, v = .int n ∧ C n) (k : ∀ n, C n → u D (σ.set i (some (.int n))) H) : tSeq (tAsg (tMid te) (gName i)) u D σ H :=
  ⟨_, h, fun v H1 ⟨e, n, ev, c⟩ => by rw [e, ev]; exact k n c⟩
/-- a for over what is walked, the walk told -/
theorem tFor_it {wi : TI} {g : TG} {tb : TS} {D : Ends} {σ : L2.St} {H : Hp} (h : wi σ H fun J H1 => ∃ W : Nat → Nat → L2.St → Hp → Prop, (∃ m, W 0 m σ H1) ∧ ∀ i m σ H, W i m σ H →
  (J.stop i H ∧ D.nx σ H) ∨ (J.go i H ∧ ∃ N : L2.St → Hp → Prop, (∀ σ' H', N σ' H' → ∃ m', m' < m ∧ W (i + 1) m' σ' H') ∧ ∀ x H', J.yld i H x H' → g x σ H' fun σ2 H2 => tb { D with nx := N, ct := N, bk := D.nx } σ2 H2)) : tFor wi g tb D σ H := h
end SL

namespace SL
open PySem PySem.Spec PyProof.Rows L2
/-- all but the lists stay -/
def NL (H H' : Hp) : Prop := ∀ a o, H a = some o → (∀ l, o ≠ .lst l) → H' a = some o
theorem NL.of {H H' : Hp} (e : Same H H') : NL H H' := fun a o h _ => e a o h
theorem NL.refl {H : Hp} : NL H H := fun _ _ h _ => h
theorem NL.trans {H H1 H2 : Hp} (a : NL H H1) (b : NL H1 H2) : NL H H2 := fun c o h n => b c o (a c o h n) n
theorem nl_upd {H : Hp} {D : Addr} {l : List V} {o : HO} (h : H D = some (.lst l)) : NL H (upd H D o) := fun a u e n => by
  have q : a ≠ D := fun z => by
    rw [z, h] at e
    exact n l (Option.some.inj e).symm
  rw [upd_ne q]
  exact e
/-! ### walked things, by what is wanted of them alone -/
def iMid (wi : TI) : TI := fun σ H R => ∃ R' : It → Hp → Prop, wi σ H R' ∧ ∀ J H1, R' J H1 → R J H1
theorem pi_mid {X : Cx} {tg it : Expr} {wi : TI} (h : PI X tg it wi) : PI X tg it (iMid wi) := ⟨fun pins s σ H R I ⟨_, h1, h2⟩ => thn (h.run pins s σ H _ I h1) fun _ s1 q => thn q fun _ _ ⟨it, fp, tn, J, H', e, I', T, st, f, r⟩ => ⟨it, fp, tn, J, H', e, I', T, st, f, h2 J H' r⟩⟩
def tMidT (tt : TT) : TT := fun σ H Q => ∃ Q' : Bool → Hp → Prop, tt σ H Q' ∧ ∀ b H1, Q' b H1 → Q b H1
theorem pt_mid {X : Cx} {e : Expr} {tt : TT} (h : PT X e tt) : PT X e (tMidT tt) := ⟨fun pins s σ H Q I ⟨_, h1, h2⟩ => thn (h.run pins s σ H _ I h1) fun _ _ ⟨H1, I1, q⟩ => ⟨H1, I1, h2 _ H1 q⟩⟩
section
variable {J0 : It} {n : Nat} {G : Hp → Prop} {Y : Nat → Hp → V → Hp → Prop} {wi : TI} {i : Nat} {tb : TS} {D : Ends} {σ : L2.St} {H H0 : Hp}
theorem for_mid (h : wi σ H fun J H1 => J = J0 ∧ H1 = H0) (w : Walk J0 n G Y) (Pv : Nat → L2.St → Hp → Prop) (h0 : Pv 0 σ H0) (hG : ∀ i σ H, i ≤ n → Pv i σ H → G H)
    (hs : ∀ k x σ H H', k < n → Pv k σ H → Y k H x H' → tb { D with nx := Pv (k + 1), ct := Pv (k + 1), bk := D.nx } (σ.set i (some x)) H') (hd : ∀ σ H, Pv n σ H → D.nx σ H) : tFor (iMid wi) (gName i) tb D σ H := by
  refine ⟨_, h, ?_⟩
  rintro J H1 ⟨rfl, rfl⟩
  exact for_it w Pv h0 hG (fun k x σ H H' hk p y => hs k x σ H H' hk p y) hd
theorem for_midg {g : TG} (h : wi σ H fun J H1 => J = J0 ∧ H1 = H0) (w : Walk J0 n G Y) (Pv : Nat → L2.St → Hp → Prop) (h0 : Pv 0 σ H0) (hG : ∀ i σ H, i ≤ n → Pv i σ H → G H)
    (hs : ∀ k x σ H H', k < n → Pv k σ H → Y k H x H' → g x σ H' fun σ2 H2 => tb { D with nx := Pv (k + 1), ct := Pv (k + 1), bk := D.nx } σ2 H2) (hd : ∀ σ H, Pv n σ H → D.nx σ H) : tFor (iMid wi) g tb D σ H := by
  refine ⟨_, h, ?_⟩
  rintro J H1 ⟨rfl, rfl⟩
  exact for_it w Pv h0 hG (fun k x σ H H' hk p y => hs k x σ H H' hk p y) hd
/-- a comprehension: C by the turn, what is made so far, the heap (all but lists stay) -/
theorem lc_midM {vs : List Nat} {te : TE} {Q : VK} (h : wi σ H fun J H1 => J = J0 ∧ H1 = H0) (w : Walk J0 n G Y) (hn : n < 16777216) (C : Nat → List V → Hp → Prop) (hC : ∀ k acc Ha Hb, NL Ha Hb → C k acc Ha → C k acc Hb) (h0 : C 0 [] H0)
    (hG : ∀ H', Same H0 H' → G H') (hY : ∀ k H x H', Y k H x H' → Same H H') (hw : ∀ x, wipe ((wipe σ vs).set i (some x)) vs = wipe σ vs)
    (turn : ∀ k x acc H' H'', k < n → Same H0 H' → C k acc H' → Y k H' x H'' → tMid te ((wipe σ vs).set i (some x)) H'' fun y H4 => Same H'' H4 ∧ C (k + 1) (acc ++ [y]) H4)
    (done : ∀ p acc H', H0 p = none → Same H0 H' → H' p = some (.lst acc) → acc.length = n → C n acc H' → Q (.ref p) H') : tLc (iMid wi) (gName i) tYes (tMid te) vs σ H Q := by
  refine ⟨_, h, ?_⟩
  rintro J H1 ⟨rfl, rfl⟩ p hp
  refine lc_it w (fun k H' => ∃ acc, Same H1 H' ∧ H' p = some (.lst acc) ∧ acc.length = k ∧ C k acc H') ⟨[], same_new hp, upd_same, rfl, hC _ _ _ _ (NL.of (same_new hp)) h0⟩ (fun k H' _ ⟨acc, s, _⟩ => hG H' s) ?_ fun H' ⟨acc, s, hD, hl, c⟩ => done p acc H' hp s hD hl c
  rintro k x H' H'' hk ⟨acc, s, hD, hl, c⟩ y
  have s2 := hY k H' x H'' y
  refine ⟨hw x, ?_⟩
  obtain ⟨R, h1, h2⟩ := turn k x acc H' H'' hk s c y
  refine ⟨R, h1, ?_⟩
  rintro v H4 hR
  obtain ⟨s3, c'⟩ := h2 v H4 hR
  have hD4 : H4 p = some (.lst acc) := s3 _ _ (s2 _ _ hD)
  refine ⟨acc, hD4, by rw [sizeLine_eq]; omega, acc ++ [v], same_mut ((s.trans s2).trans s3) hp, upd_same, by rw [List.length_append, hl]; rfl, hC _ _ _ _ (nl_upd hD4) c'⟩
/-- a comprehension: C by the turn, what is made so far, the heap (all but lists stay) -/
theorem lc_mid {vs : List Nat} {te : TE} {Q : VK} (h : wi σ H fun J H1 => J = J0 ∧ H1 = H0) (w : Walk J0 n G Y) (hn : n < 16777216) (C : Nat → List V → Hp → Prop) (hC : ∀ k acc Ha Hb, NL Ha Hb → C k acc Ha → C k acc Hb) (h0 : C 0 [] H0)
    (hG : ∀ H', Same H0 H' → G H') (hY : ∀ k H x H', Y k H x H' → Same H H') (hw : ∀ x, wipe ((wipe σ vs).set i (some x)) vs = wipe σ vs)
    (turn : ∀ k x acc H' H'', k < n → Same H0 H' → C k acc H' → Y k H' x H'' → te ((wipe σ vs).set i (some x)) H'' fun y H4 => Same H'' H4 ∧ C (k + 1) (acc ++ [y]) H4)
    (done : ∀ p acc H', H0 p = none → Same H0 H' → H' p = some (.lst acc) → acc.length = n → C n acc H' → Q (.ref p) H') : tLc (iMid wi) (gName i) tYes (tMid te) vs σ H Q :=
  lc_midM h w hn C hC h0 hG hY hw (fun k x acc H' H'' a b c d => ⟨_, turn k x acc H' H'' a b c d, fun _ _ q => q⟩) done
/-- with a test -/
theorem lc_midT {vs : List Nat} {te : TE} {tt : TT} {Q : VK} (h : wi σ H fun J H1 => J = J0 ∧ H1 = H0) (w : Walk J0 n G Y) (hn : n < 16777216) (C : Nat → List V → Hp → Prop) (hC : ∀ k acc Ha Hb, NL Ha Hb → C k acc Ha → C k acc Hb) (h0 : C 0 [] H0)
    (hG : ∀ H', Same H0 H' → G H') (hY : ∀ k H x H', Y k H x H' → Same H H') (hw : ∀ x, wipe ((wipe σ vs).set i (some x)) vs = wipe σ vs)
    (turn : ∀ k x acc H' H'', k < n → Same H0 H' → C k acc H' → Y k H' x H'' → tt ((wipe σ vs).set i (some x)) H'' fun b H3 => Same H'' H3 ∧ if b = true then te ((wipe σ vs).set i (some x)) H3 fun y H4 => Same H3 H4 ∧ C (k + 1) (acc ++ [y]) H4 else C (k + 1) acc H3)
    (done : ∀ p acc H', H0 p = none → Same H0 H' → H' p = some (.lst acc) → acc.length ≤ n → C n acc H' → Q (.ref p) H') : tLc (iMid wi) (gName i) (tMidT tt) (tMid te) vs σ H Q := by
  refine ⟨_, h, ?_⟩
  rintro J H1 ⟨rfl, rfl⟩ p hp
  refine lc_it w (fun k H' => ∃ acc, Same H1 H' ∧ H' p = some (.lst acc) ∧ acc.length ≤ k ∧ C k acc H') ⟨[], same_new hp, upd_same, Nat.le_refl _, hC _ _ _ _ (NL.of (same_new hp)) h0⟩ (fun k H' _ ⟨acc, s, _⟩ => hG H' s) ?_ fun H' ⟨acc, s, hD, hl, c⟩ => done p acc H' hp s hD hl c
  rintro k x H' H'' hk ⟨acc, s, hD, hl, c⟩ y
  have s2 := hY k H' x H'' y
  refine ⟨hw x, _, turn k x acc H' H'' hk s c y, ?_⟩
  rintro b H3 ⟨s3, z⟩
  have hD3 : H3 p = some (.lst acc) := s3 _ _ (s2 _ _ hD)
  cases b with
  | false =>
    have z' : C (k + 1) acc H3 := z
    exact ⟨acc, (s.trans s2).trans s3, hD3, by omega, z'⟩
  | true =>
    have z' : te ((wipe σ vs).set i (some x)) H3 fun y H4 => Same H3 H4 ∧ C (k + 1) (acc ++ [y]) H4 := z
    refine ⟨_, z', ?_⟩
    rintro v H4 ⟨s4, c'⟩
    have hD4 : H4 p = some (.lst acc) := s4 _ _ hD3
    refine ⟨acc, hD4, by rw [sizeLine_eq]; omega, acc ++ [v], same_mut (((s.trans s2).trans s3).trans s4) hp, upd_same, by rw [List.length_append]; show acc.length + 1 ≤ k + 1; omega, hC _ _ _ _ (nl_upd hD4) c'⟩
end
theorem y_at {xs : List V} {k : Nat} {H : Hp} {x : V} {H' : Hp} (y : YAt xs k H x H') : Same H H' := by
  rw [y.1]
  exact Same.refl H
theorem y_fn {f : Nat → V} {k : Nat} {H : Hp} {x : V} {H' : Hp} (y : YFn f k H x H') : Same H H' := by
  rw [y.1]
  exact Same.refl H
/-- an assignment by what is wanted of its value -/
theorem q_midG {i : Nat} {te : TE} {u : TS} {D : Ends} {σ : L2.St} {H : Hp} (C : V → Hp → Prop) (h : te σ H C) (k : ∀ v H1, C v H1 → u D (σ.set i (some v)) H1) : tSeq (tAsg (tMid te) (gName i)) u D σ H := ⟨C, h, k⟩
theorem mid_of {te : TE} {σ : L2.St} {H : Hp} {Q : VK} (C : VK) (h : te σ H C) (k : ∀ v H1, C v H1 → Q v H1) : tMid te σ H Q := ⟨C, h, k⟩
/-- an if by what is wanted of its test -/
theorem q_if {tt : TT} {a b u : TS} {D : Ends} {σ : L2.St} {H : Hp} (C : Bool → Hp → Prop) (h : tt σ H C) (t : ∀ H1, C true H1 → tSeq a u D σ H1) (f : ∀ H1, C false H1 → tSeq b u D σ H1) : tSeq (tIfS (tMidT tt) a b) u D σ H :=
  ⟨C, h, fun c H1 hc => by
    cases c with
    | true => exact t H1 hc
    | false => exact f H1 hc⟩
theorem l_if {tt : TT} {a b : TS} {D : Ends} {σ : L2.St} {H : Hp} (C : Bool → Hp → Prop) (h : tt σ H C) (t : ∀ H1, C true H1 → a D σ H1) (f : ∀ H1, C false H1 → b D σ H1) : tIfS (tMidT tt) a b D σ H :=
  ⟨C, h, fun c H1 hc => by
    cases c with
    | true => exact t H1 hc
    | false => exact f H1 hc⟩
/-- a comprehension over a text, each sign by itself -/
theorem lc_text {z : Str} {wi : TI} {i : Nat} {te : TE} {vs : List Nat} {σ : L2.St} {H H0 : Hp} {Q : VK} (f : Nat → V) (h : wi σ H fun J H1 => J = Its z ∧ H1 = H0) (hn : z.length < 16777216) (hw : ∀ x, wipe ((wipe σ vs).set i (some x)) vs = wipe σ vs)
    (turn : ∀ c H', c ∈ z.cps.toList → Same H0 H' → te ((wipe σ vs).set i (some (.str ⟨#[c]⟩))) H' fun y H4 => Same H' H4 ∧ y = f c)
    (done : ∀ p H', H0 p = none → Same H0 H' → H' p = some (.lst (z.cps.toList.map f)) → Q (.ref p) H') : tLc (iMid wi) (gName i) tYes (tMid te) vs σ H Q := by
  refine lc_midM h walk_str hn (fun k acc _ => acc = (z.cps.toList.take k).map f) (fun _ _ _ _ _ e => e) rfl (fun _ _ => trivial) (fun _ _ _ _ y => by rw [y.1]; exact Same.refl _) hw ?_ ?_
  · rintro k x acc H' H'' hk sm ha ⟨rfl, c, hc, rfl⟩
    have hc' : z.cps.toList[k]? = some c := by rw [Array.getElem?_toList]; exact hc
    have r := turn c H'' (List.mem_of_getElem? hc') sm
    refine ⟨_, r, ?_⟩
    rintro y H4 ⟨s4, rfl⟩
    refine ⟨s4, ?_⟩
    have e : z.cps.toList.take (k + 1) = z.cps.toList.take k ++ [c] := by
      rw [List.take_succ, hc']
      rfl
    rw [e, List.map_append, ha]
    rfl
  · intro p acc H' hp sm hD hl ha
    rw [List.take_of_length_le (by rw [Array.length_toList]; exact Nat.le_refl _)] at ha
    rw [ha] at hD
    exact done p H' hp sm hD
end SL

/-! the text by places -/
namespace TX
open PySem PySem.Spec PyProof.Rows L2
def topS (i : Nat) : Stmt := PySem.Challenge.pw_shunlist_k11_parts.main.body.getD i (.Pass ⟨0, 0, 0, 0⟩)
abbrev s_is_sign : Stmt := (topS 5)
abbrev s_Part_fits : Stmt := (inClass (topS 6) 0)
abbrev s_Part_many : Stmt := (inClass (topS 6) 1)
abbrev s_Part_told : Stmt := (inClass (topS 6) 2)
abbrev s_One___init__ : Stmt := (inClass (topS 8) 0)
abbrev s_One_fits : Stmt := (inClass (topS 8) 1)
abbrev s_One_told : Stmt := (inClass (topS 8) 2)
abbrev s_Among___init__ : Stmt := (inClass (topS 9) 0)
abbrev s_Among_fits : Stmt := (inClass (topS 9) 1)
abbrev s_Among_told : Stmt := (inClass (topS 9) 2)
abbrev s_Stars_many : Stmt := (inClass (topS 10) 0)
abbrev s_Stars_told : Stmt := (inClass (topS 10) 1)
abbrev s__law_cell : Stmt := (topS 12)
abbrev s__law_signs : Stmt := (topS 13)
abbrev s__law_part : Stmt := (topS 14)
abbrev s__law_part_made : Stmt := (topS 15)
abbrev s__law_fits : Stmt := (topS 16)
abbrev s_law : Stmt := (topS 17)
end TX
/-! ### sets of texts: made of a text or of a list of texts, counted, sorted -/
namespace SL
open PySem PySem.Spec PyProof.Rows L2
/-- the text of a set's entry -/
def txOf (e : Int × Value) : Str := match e.2 with
  | .str x _ => x
  | _ => Str.empty
def TxE (w : World) (e : Int × Value) : Prop := ∃ x tk, e.2 = Value.str x tk ∧ e.1 = hashStr w x
/-- the set at a holds just the texts l, each once, and can be walked -/
def TxSet (w : World) (h : Heap) (a : Addr) (l : List Str) : Prop :=
  ∃ o es ep t, h.get? a = some o ∧ o.ExactSet ∧ o.data = .set es ep t ∧ (∀ e ∈ es.toList, TxE w e) ∧ (es.toList.map txOf).Perm l ∧ l.Nodup ∧
    (es.size < scanBound ∧ t.fits es.size = true) ∧ (Ris t.place.toList ∧ (w.params.followText "set-order" = true ∨ t.led = true))
section
variable {P : Program} {w : World} {h h' : Heap} {a : Addr} {l : List Str}
theorem TxSet.at (R : TxSet w h a l) (k : ∀ o, h.get? a = some o → h'.get? a = some o) : TxSet w h' a l :=
  let ⟨o, es, ep, t, ho, r⟩ := R
  ⟨o, es, ep, t, k o ho, r⟩
theorem TxSet.perm {l' : List Str} (R : TxSet w h a l) (p : l.Perm l') : TxSet w h a l' :=
  let ⟨o, es, ep, t, ho, hx, hd, g, pm, nd, r⟩ := R
  ⟨o, es, ep, t, ho, hx, hd, g, pm.trans p, p.nodup_iff.mp nd, r⟩
theorem txE_elems {l : List (Int × Value)} (g : ∀ e ∈ l, TxE w e) : ElemsOf (strKind P w) l := by
  intro e he
  obtain ⟨x, tk, e1, e2⟩ := g e he
  refine ⟨⟨x, ?_, e2⟩, ?_⟩
  · rw [e1]
    show Value.isStrOf x (.str x tk) = true
    simp [Value.isStrOf]
  · rw [e1]
    rfl
theorem txE_is {e : Int × Value} (g : TxE w e) (x : Str) : (strKind P w).is x e.2 = true ↔ txOf e = x := by
  obtain ⟨y, tk, e1, _⟩ := g
  unfold txOf
  rw [e1]
  show Value.isStrOf x (.str y tk) = true ↔ y = x
  simp [Value.isStrOf]
theorem txE_mem {l : List (Int × Value)} (g : ∀ e ∈ l, TxE w e) (x : Str) : x ∈ l.map txOf ↔ ∃ e ∈ l, (strKind P w).is x e.2 = true := by
  rw [List.mem_map]
  exact ⟨fun ⟨e, he, q⟩ => ⟨e, he, (txE_is (g e he) x).2 q⟩, fun ⟨e, he, q⟩ => ⟨e, he, (txE_is (g e he) x).1 q⟩⟩
end
section
variable {P : Program} {w : World} {A : Around} {E : Value → Shared → Prop} {s : Shared} {a : Addr} {l : List Str}
theorem tx_tail {gv : Bool → Sem Unit} (hg : ∀ (b : Bool) (s₁ : Shared) (Q' : Unit → Shared → Prop), Q' () s₁ → wpAny (model P w) A (gv b) Q' E s₁)
    {o : Obj} {es : Array (Int × Value)} {ep : Nat} {t : SetTable} (ho : s.heap.get? a = some o) (hx : o.ExactSet) (hd : o.data = .set es ep t) {e1 : Array (Int × Value)} {t2 : SetTable} (g1 : ∀ e ∈ e1.toList, TxE w e)
    (p1 : (e1.toList.map txOf).Perm l) (nd : l.Nodup) (hb : e1.size < scanBound) (hf : t2.fits e1.size = true) (hr : Ris t2.place.toList) (hl : w.params.followText "set-order" = true ∨ t2.led = true) {dummy : Bool} {R : Option Bool → Shared → Prop}
    (hR : ∀ h', Heap.SameBut a s.heap h' → TxSet w h' a l → R (some true) { s with heap := h' }) :
    wpAny (model P w) A (do
        storeSet a e1 t2
        if (!dummy && t2.tooFull) = true then do
            gv (relayAll t2 e1 (SetTable.grown e1.size)).2.2
            storeSet a (relayAll t2 e1 (SetTable.grown e1.size)).1 (relayAll t2 e1 (SetTable.grown e1.size)).2.1
            pure (some true)
          else pure (some true)) R E s := by
  refine wpAny_bind (wpAny_storeSet_of ho hd ?_ (fits_of_scanBound hb))
  have o1 := store_at (es' := e1) (t' := t2) ho hd
  have b1 := Heap.SameBut.update s.heap a (Obj.putSet e1 t2)
  split
  · have pm := relayAll_perm t2 e1 (SetTable.grown e1.size)
    have f3 := relayAll_fits t2 e1 (SetTable.grown e1.size)
    have r3 := relayAll_ris t2 e1 (SetTable.grown e1.size)
    have l3 := relayAll_led t2 e1 (SetTable.grown e1.size)
    generalize relayAll t2 e1 (SetTable.grown e1.size) = Z at pm f3 r3 l3 ⊢
    obtain ⟨e2, t3, gave⟩ := Z
    dsimp only at pm f3 r3 l3 ⊢
    have sz : e2.size < scanBound := by
      have q := pm.length_eq
      rw [Array.length_toList, Array.length_toList] at q
      omega
    refine wpAny_bind (hg _ _ _ (wpAny_bind (wpAny_storeSet_of o1 rfl ?_ (fits_of_scanBound sz))))
    refine wpAny_pure (hR _ (b1.trans (Heap.SameBut.update _ a _)) ⟨_, e2, _, t3, store_at o1 rfl, hx, rfl, fun e he => g1 e (pm.mem_iff.mp he), (pm.map txOf).trans p1, nd, ⟨sz, f3⟩, r3, ?_⟩)
    rw [l3]
    exact hl
  · exact wpAny_pure (hR _ b1 ⟨_, e1, _, t2, o1, hx, rfl, g1, p1, nd, ⟨hb, hf⟩, hr, hl⟩)
/-- a text is added -/
theorem tx_add {x : Str} {tk : Tok} {Q : Bool → Shared → Prop} (R : TxSet w s.heap a l) (room : l.length + 1 < scanBound)
    (hQ : ∀ h', Heap.SameBut a s.heap h' → TxSet w h' a (if x ∈ l then l else x :: l) → Q (!decide (x ∈ l)) { s with heap := h' }) :
    wpAny (model P w) A (setAddHashed a (.str x tk) ((strKind P w).hash x)) Q E s := by
  obtain ⟨o, es, ep, t, ho, hx, hd, g, pm, nd, ⟨hb, hf⟩, hr, hl⟩ := R
  have key : (strKind P w).is x (.str x tk) = true := by
    show Value.isStrOf x (.str x tk) = true
    simp [Value.isStrOf]
  have sc : (Value.str x tk).scannable = true := rfl
  have el : ElemsOf (strKind P w) es.toList := txE_elems g
  unfold setAddHashed
  unfold setAddHashedIn
  refine wpAny_holding (wpAny_bind (wpAny_setState_of ho hd hf ?_))
  dsimp only
  rw [byScan_of sc hb el]
  simp only [if_true]
  unfold setAddByScan
  refine wpAny_bind (wpAny_bind (wpAny_rule (wpAny_bind (wpAny_setScan_of key ho hd hf el ?_))))
  cases fi : List.findIdx? (fun e => (strKind P w).is x e.2) es.toList with
  | some j =>
    dsimp only
    obtain ⟨hj, pj, _⟩ := List.findIdx?_eq_some_iff_getElem.mp fi
    have hm : x ∈ l := pm.mem_iff.mp ((txE_mem (P := P) g x).2 ⟨_, List.getElem_mem hj, pj⟩)
    have q := hQ s.heap (Heap.SameBut.refl a s.heap) (by
      rw [if_pos hm]
      exact ⟨o, es, ep, t, ho, hx, hd, g, pm, nd, ⟨hb, hf⟩, hr, hl⟩)
    rw [decide_eq_true hm] at q
    exact wpAny_pure (wpAny_pure q)
  | none =>
    dsimp only
    have hn : x ∉ l := fun z => by
      obtain ⟨e, he, q⟩ := (txE_mem (P := P) g x).1 (pm.mem_iff.mpr z)
      have c := List.findIdx?_eq_none_iff.mp fi e he
      rw [q] at c
      cases c
    have q0 : ∀ h', Heap.SameBut a s.heap h' → TxSet w h' a (x :: l) → Q true { s with heap := h' } := fun h' sb r => by
      have q := hQ h' sb (by rw [if_neg hn]; exact r)
      rw [decide_eq_false hn] at q
      exact q
    have tl : ∀ (b : Bool) {s₁ : Shared} {Q' : Unit → Shared → Prop}, Q' () s₁ → wpAny (model P w) A (match b with | true => rule "set.scan.the-table-gave-way" | false => pure ()) Q' E s₁ := by
      intro b s₁ Q' z
      cases b
      · exact wpAny_pure z
      · exact wpAny_rule z
    have p0 := layNew_perm t es ((strKind P w).hash x) (.str x tk)
    have f0 := layNew_fits t es ((strKind P w).hash x) (.str x tk)
    have r0 := layNew_ris t es ((strKind P w).hash x) (.str x tk) hr
    have l0 := layNew_led t es ((strKind P w).hash x) (.str x tk)
    generalize layNew t es ((strKind P w).hash x) (.str x tk) = Z at p0 f0 r0 l0 ⊢
    obtain ⟨e1, t1, dummy, gave⟩ := Z
    dsimp only at p0 f0 r0 l0 ⊢
    rw [Array.toList_push] at p0
    have pc : e1.toList.Perm (((strKind P w).hash x, Value.str x tk) :: es.toList) := p0.trans (List.perm_append_singleton _ _)
    have g1 : ∀ e ∈ e1.toList, TxE w e := by
      intro e he
      rcases List.mem_cons.mp (pc.mem_iff.mp he) with z | z
      · exact ⟨x, tk, by rw [z], by rw [z]; rfl⟩
      · exact g e z
    have pk : (e1.toList.map txOf).Perm (x :: l) := (pc.map txOf).trans (List.Perm.cons _ pm)
    have nd1 : (x :: l).Nodup := List.nodup_cons.mpr ⟨hn, nd⟩
    have sz : e1.size < scanBound := by
      have q := pk.length_eq
      rw [List.length_map, Array.length_toList, List.length_cons] at q
      omega
    have hl1 : w.params.followText "set-order" = true ∨ t1.led = true := by rw [l0]; exact hl
    refine wpAny_bind (tl _ ?_)
    split
    · refine wpAny_bind ?_
      rw [hashByValue_scannable 8 sc]
      refine wpAny_pure (tx_tail ?_ ho hx hd g1 pk nd1 sz ?_ ?_ ?_ fun h' sb r => ?_)
      · intro b s₁ Q' z
        exact tl b z
      · first | (split <;> first | exact f0 | exact SetTable.fits_plain_off f0) | exact f0
      · first | (split <;> exact r0) | exact r0
      · first | (split <;> exact hl1) | exact hl1
      · exact wpAny_pure (q0 h' sb r)
    · refine wpAny_bind (wpAny_pure ?_)
      simp only [if_true]
      exact tx_tail (fun b s₁ Q' z => tl b z) ho hx hd g1 pk nd1 sz f0 r0 hl1 fun h' sb r => wpAny_pure (q0 h' sb r)
/-- the distinct ones of texts -/
def dist (l : List Str) (x : Str) : List Str := if x ∈ l then l else x :: l
theorem dist_len (l : List Str) (x : Str) : (dist l x).length ≤ l.length + 1 := by
  unfold dist
  split <;> simp
theorem fold_len : ∀ (zs l : List Str), (zs.foldl dist l).length ≤ l.length + zs.length
  | [], l => by simp
  | x :: r, l => by
    have h1 := fold_len r (dist l x)
    have h2 := dist_len l x
    simp only [List.foldl_cons, List.length_cons]
    omega
theorem fold_mem : ∀ (zs l : List Str) (y : Str), y ∈ zs.foldl dist l ↔ y ∈ l ∨ y ∈ zs
  | [], l, y => by simp
  | x :: r, l, y => by
    rw [List.foldl_cons, fold_mem r (dist l x) y]
    unfold dist
    split
    · rename_i h
      constructor
      · rintro (h1 | h1)
        · exact .inl h1
        · exact .inr (List.mem_cons_of_mem _ h1)
      · rintro (h1 | h1)
        · exact .inl h1
        · rcases List.mem_cons.mp h1 with rfl | h1
          · exact .inl h
          · exact .inr h1
    · simp only [List.mem_cons]
      constructor
      · rintro ((h1 | h1) | h1) <;> simp [h1]
      · rintro (h1 | h1 | h1) <;> simp [h1]
theorem tx_loop {I : Addr} {fp wr : List Addr} {G : Array GenState → Array GenState → Prop} {n : Nat} {Pv : Nat → Value → Prop} {St : Nat → Shared → Prop} {R : Result → Shared → Prop}
    (W : WalksS P w A.in1 I fp wr G n Pv St) (S : Addr) (hSf : S ∉ fp) (zs : List Str) (hn : n = zs.length) (hb : zs.length + 1 < scanBound) (hv : ∀ i v, Pv i v → ∃ x t, zs[i]? = some x ∧ v = .str x t) :
    ∀ (k i : Nat) (s : Shared), n - i = k → i ≤ n → St i s → TxSet w s.heap S ((zs.take i).foldl dist []) →
      (∀ s', Moved (S :: wr) G s s' → TxSet w s'.heap S (zs.foldl dist []) → R (.ok (.ret .none)) s') → codeAny (model P w) A (.builtin "set.update.loop" ⟨[.ref S, .ref I], []⟩) R s := by
  have nw : S ∉ wr := fun z => hSf (W.sub _ z)
  have sub : ∀ b ∈ wr, b ∈ S :: wr := fun b z => List.mem_cons_of_mem _ z
  intro k
  induction k with
  | zero =>
    intro i s hk hi st hS hR
    refine codeAny_builtin PyProof.Rows.F.entry_set_update_loop ?_
    rw [Around.under_plainId PyProof.Rows.F.plain_set_update_loop]
    have hin : i = n := by omega
    subst hin
    show wpAny _ A.in1 (pyNext (.ref I) >>= fun _ => _) _ _ s
    refine wpAny_bind (W.done s _ _ st fun s' hm => wpAny_pure (hR s' (hm.mono sub) ?_))
    rw [List.take_of_length_le (by omega)] at hS
    exact hS.at fun o e => hm.heap S o nw e
  | succ k ih =>
    intro i s hk hi st hS hR
    have lt : i < n := by omega
    refine codeAny_builtin PyProof.Rows.F.entry_set_update_loop ?_
    rw [Around.under_plainId PyProof.Rows.F.plain_set_update_loop]
    show wpAny _ A.in1 (pyNext (.ref I) >>= fun _ => _) _ _ s
    refine wpAny_bind (W.item i s _ _ lt st fun v s' hP st' hm => ?_)
    obtain ⟨x, t, hz, rfl⟩ := hv i v hP
    have hS' : TxSet w s'.heap S ((zs.take i).foldl dist []) := hS.at fun o e => hm.heap S o nw e
    show wpAny _ A.in1 (holding [Value.str x t] (setAdd S (.str x t)) >>= fun _ => _) _ _ s'
    refine wpAny_bind (wpAny_holding ?_)
    unfold setAdd
    have hk2 : (strKind P w).is x (.str x t) = true := by
      show Value.isStrOf x (.str x t) = true
      simp [Value.isStrOf]
    refine wpAny_holding (wpAny_bind ((strKind P w).pyHash (k := x) hk2 ?_))
    have room : ((zs.take i).foldl dist []).length + 1 < scanBound := by
      have q := fold_len (zs.take i) []
      rw [List.length_take, List.length_nil] at q
      omega
    refine tx_add (s := { s' with toks := s'.toks + 1 }) hS' room fun h' sb r => ?_
    have r' : TxSet w h' S ((zs.take (i + 1)).foldl dist []) := by
      rw [List.take_add_one, hz, List.foldl_append]
      exact r
    refine wpAny_pure ⟨plainId_quiet PyProof.Rows.F.plain_set_update_loop _, ih (i + 1) _ (by omega) lt (W.frame _ s' _ _ st' (Nat.le_succ _) fun b z o e => ?_) r' fun s'' hm2 hS2 => ?_⟩
    · rw [sb.2 b fun q => hSf (q ▸ z)]
      exact e
    · refine hR s'' (Moved.trans W.gtrans ((hm.mono sub).then_heap (Nat.le_succ _) fun b o z e => ?_) hm2) hS2
      rw [sb.2 b fun q => z (by rw [q]; exact List.mem_cons_self)]
      exact e
end
end SL

namespace SL
open PySem PySem.Spec PyProof.Rows L2
/-- a value that gives the texts zs when it is walked: a text by its signs, a list of texts -/
structure Src (P : Program) (w : World) (h : Heap) (v : Value) (T : String) (zs : List Str) : Prop where
  ty : ∀ (s : Shared), (∀ b o, h.get? b = some o → s.heap.get? b = some o) → s.TypeIs v T
  s1 : isSubtype (.type T) (.type "set") = pure false
  s2 : isSubtype (.type T) (.type "frozenset") = pure false
  nd : (Value.type T == Value.type "dict") = false
  it : ∀ (A : Around) (Q : Value → Shared → Prop) (E : Value → Shared → Prop) (s : Shared), (∀ b o, h.get? b = some o → s.heap.get? b = some o) → h.objs.size ≤ s.heap.objs.size → A.handled = none →
    (∀ (o : Obj) (fp : List Addr) (St : Nat → Heap → Prop) (Pv : Nat → Value → Prop), (∀ A' : Around, A'.handled = none → Walks P w A' s.heap.objs.size fp [s.heap.objs.size] zs.length Pv St) → St 0 (s.heap.push o) →
      (∀ b ∈ fp, b = s.heap.objs.size ∨ b < h.objs.size) → (∀ i u, Pv i u → ∃ x t, zs[i]? = some x ∧ u = .str x t) → Q (.ref s.heap.objs.size) { s with heap := s.heap.push o }) → wpAny (model P w) A (pyIter v) Q E s
section
variable {P : Program} {w : World} {A : Around} {E : Value → Shared → Prop} {s : Shared}
theorem src_text {h : Heap} (x : Str) (t : Tok) : Src P w h (.str x t) "str" (x.cps.toList.map fun c => ⟨#[c]⟩) where
  ty := fun s _ => rfl
  s1 := PySem.F.sub_str_set
  s2 := PySem.F.sub_str_frozenset
  nd := by decide
  it := fun A Q E s _ _ _ k => by
    refine wpAny_pyIter_str fun o St W st => ?_
    have e : (x.cps.toList.map fun c => (⟨#[c]⟩ : Str)).length = x.cps.size := by rw [List.length_map, Array.length_toList]
    refine k o [s.heap.objs.size] St (SignAt x) (fun A' hA => by rw [e]; exact W A' hA) st (fun b hb => .inl (List.mem_singleton.mp hb)) fun i u hu => ?_
    obtain ⟨c, t', hc, rfl⟩ : ∃ c t', x.cps[i]? = some c ∧ u = .str ⟨#[c]⟩ t' := by
      first
        | exact hu
        | (obtain ⟨c, hc, t', e'⟩ := hu; exact ⟨c, t', hc, e'⟩)
    refine ⟨_, t', ?_, rfl⟩
    rw [List.getElem?_map, Array.getElem?_toList, hc]
    rfl
theorem src_list {h : Heap} {l : Addr} {items : Array Value} {zs : List Str} (hl : h.IsList l items) (hi : PyProof.Rows.StrsAre items.toList zs) : Src P w h (.ref l) "list" zs := by
  obtain ⟨ol, hol, hcl, nl, hdl⟩ := id hl
  have hz : items.size = zs.length := by
    have q := PyProof.Rows.StrsAre.length hi
    rw [Array.length_toList] at q
    exact q
  refine ⟨fun s k => ⟨ol, k _ _ hol, hcl⟩, PySem.F.sub_list_set, PySem.F.sub_list_frozenset, by decide, fun A Q E s k le hh c => ?_⟩
  have hl' : s.heap.IsList l items := ⟨ol, k _ _ hol, hcl, nl, hdl⟩
  have lt : l < h.objs.size := Heap.lt_size hol
  have ne : l ≠ s.heap.objs.size := Nat.ne_of_lt (Nat.lt_of_lt_of_le lt le)
  refine wpAny_pyIter_list hl' (c _ [s.heap.objs.size, l] _ (fun i v => items[i]? = some v) (fun A' hA => by rw [← hz]; exact Walks.list hA _ l ne items) (show Heap.IsListIter _ _ _ _ ∧ Heap.IsList _ _ _ from ⟨⟨_, Heap.get?_push_size _ rfl, rfl, rfl⟩, hl'.push _⟩) (fun b hb => ?_) fun i u hu => ?_)
  · rcases List.mem_cons.mp hb with e | e
    · exact .inl e
    · exact .inr (by rw [List.mem_singleton.mp e]; exact lt)
  · have hi2 : i < zs.length := by rw [← hz]; exact (Array.getElem?_eq_some_iff.mp hu).1
    obtain ⟨t, e⟩ := SS.strs_at hi i u (by rw [Array.getElem?_toList]; exact hu)
    refine ⟨zs[i], t, List.getElem?_eq_getElem hi2, ?_⟩
    rw [e, List.getD_eq_getElem?_getD, List.getElem?_eq_getElem hi2]
    rfl
/-- an empty set object, as set() lays it -/
def set0 (w : World) : Obj := { cls := .type "set", dict := none, data := .set #[] 0 (.fresh 0 0 (!w.params.followText "set-order")) }
theorem tx_empty {h : Heap} {a : Addr} (ho : h.get? a = some (set0 w)) : TxSet w h a [] := by
  refine ⟨_, #[], 0, _, ho, ⟨rfl, rfl, rfl⟩, rfl, fun e he => (nomatch he), by simp, by simp, ⟨by decide, rfl⟩, List.Pairwise.nil, ?_⟩
  show _ ∨ (!w.params.followText "set-order") = true
  cases w.params.followText "set-order"
  · exact .inr rfl
  · exact .inl rfl
set_option maxHeartbeats 8000000 in
theorem call_set_tx {v : Value} {T : String} {zs : List Str} {Q : Value → Shared → Prop} (hh : A.handled = none) (Z : Src P w s.heap v T zs) (hb : zs.length + 1 < scanBound)
    (k : ∀ (h' : Heap) (tk : Nat), TxSet w h' s.heap.objs.size (zs.foldl dist []) → (∀ b o, s.heap.get? b = some o → h'.get? b = some o) → Q (.ref s.heap.objs.size) { s with heap := h', toks := tk }) :
    wpAny (model P w) A (call (.type "set") [v]) Q E s := by
  obtain ⟨c, tl, hmro⟩ := PySem.F.called_set.mro
  have hmade := PySem.F.called_set.made
  have hsub := PySem.F.called_set.sub
  refine wpAny_call (codeAny_of_tree ?_)
  show wpAny _ _ (callAny (.type "set") _) _ _ _
  refine wpAny_pure ⟨Code.quiet_builtin _ (by decide +kernel), codeAny_builtin PySem.F.entry_type_call ?_⟩
  rw [Around.under_plain (weight_type_call_type "set" [v] []) rfl]
  have h1 := PySem.F.called_set.notType
  have h2 := PySem.F.called_set.canCreate
  have hct := PySem.F.typeCall_set_1 v
  repeat (any_goals (first | assumption | wp_step))
  refine codeAny_mono (code_set_led1 v (E := E) (Q₁ := fun obj s₁ => obj = .ref s.heap.objs.size ∧ s₁ = { s with heap := s.heap.push (set0 w) }) ⟨rfl, rfl⟩) fun r s₁ hr => ?_
  cases r with
  | error e => exact hr
  | ok fl =>
    cases fl with
    | ret obj =>
      obtain ⟨rfl, rfl⟩ := hr
      have hS : (s.heap.push (set0 w)).get? s.heap.objs.size = some (set0 w) := Heap.get?_push_size _ rfl
      have hT : Shared.TypeIs { s with heap := s.heap.push (set0 w) } (.ref s.heap.objs.size) "set" := ⟨_, hS, rfl⟩
      have hli := PySem.F.called_set.init.lookup
      have hbi := PySem.F.called_set.init.bind (.ref s.heap.objs.size)
      repeat (any_goals (first | assumption | wp_step))
      refine codeAny_mono (codeAny_call_builtin (R := wants (fun r s₂ => r = .none ∧ ∃ h' tk, s₂ = { s with heap := h', toks := tk } ∧ TxSet w h' s.heap.objs.size (zs.foldl dist []) ∧
          (∀ b o, s.heap.get? b = some o → h'.get? b = some o)) E) PySem.F.called_set.init.plain PySem.F.entry_set_init (check_set_init_1 hT ?_)) fun r₂ s₂ hr₂ => ?_
      · have kp : ∀ b o, s.heap.get? b = some o → (s.heap.push (set0 w)).get? b = some o := fun b o e => Heap.get?_push_of_some _ e
        have tv := Z.ty { s with heap := s.heap.push (set0 w) } kp
        have z1 := Z.s1
        have z2 := Z.s2
        have z3 := Z.nd
        unfold Builtin.«set.__init__» noKeywords
        unfold Builtin.Frozenset.updateFrom
        generalize hPI : pyIter = PI
        wp_walk
        subst hPI
        have hh2 : A.in1.in1.handled = none := by simp [hh]
        have hh3 : A.in1.in1.in1.handled = none := by simp [hh]
        have sz : (s.heap.push (set0 w)).objs.size = s.heap.objs.size + 1 := Heap.size_push ..
        refine Z.it _ _ _ _ kp (by rw [sz]; exact Nat.le_succ _) hh2 fun o fp St Pv W st hf hv => ?_
        have nS : s.heap.objs.size ∉ fp := fun z => by
          rcases hf _ z with e | e
          · rw [sz] at e
            exact absurd e (Nat.ne_of_lt (Nat.lt_succ_self _))
          · exact absurd e (Nat.lt_irrefl _)
        refine wpAny_bind (wpAny_runValue (tx_loop ((W _ hh3).toS) s.heap.objs.size nS zs rfl hb hv (zs.length - 0) 0 _ (by omega) (Nat.zero_le _) st ?_ fun s' hm hS' => ?_))
        · exact tx_empty (Heap.get?_push_of_some _ hS)
        · obtain ⟨h', g2, d', tk', os'⟩ := s'
          obtain rfl : g2 = s.gens := hm.gens
          obtain rfl : d' = s.drawn := hm.drawn
          obtain rfl : os' = s.os := hm.os
          refine wpAny_pure (wpAny_pure ⟨rfl, h', tk', rfl, hS', fun b u e => hm.heap b u (fun z => ?_) (Heap.get?_push_of_some _ (kp b u e))⟩)
          have lt := Heap.lt_size e
          rcases List.mem_cons.mp z with e2 | e2
          · exact absurd lt (by rw [e2]; exact Nat.lt_irrefl _)
          · rw [List.mem_singleton.mp e2] at lt
            rw [sz] at lt
            exact absurd lt (Nat.not_lt.mpr (Nat.le_succ _))
      · cases r₂ with
        | error e => exact hr₂
        | ok fl₂ =>
          cases fl₂ with
          | ret r =>
            obtain ⟨rfl, h', tk, rfl, hS', hk'⟩ := hr₂
            repeat (any_goals (first | assumption | wp_step))
            exact k _ _ hS' hk'
          | _ => exact hr₂.elim
    | _ => exact hr.elim
end
end SL

namespace SL
open PySem PySem.Spec PyProof.Rows L2
theorem fold_nd : ∀ (zs l : List Str), l.Nodup → (zs.foldl dist l).Nodup
  | [], l, h => h
  | x :: r, l, h => by
    refine fold_nd r _ ?_
    unfold dist
    split
    · exact h
    · rename_i n
      exact List.nodup_cons.mpr ⟨n, h⟩
/-- the set of texts at a -/
def SetS (w : World) (a : Addr) (l : List Str) : HO := .ext fun h => TxSet w h a l
def chars (z : Str) : List Str := z.cps.toList.map fun c => ⟨#[c]⟩
section
variable {X : Cx}
theorem setS_new {w : World} {P : Program} {H : Hp} {h : Heap} {a : Addr} {l : List Str} (R : TxSet w h a l) : ObjOk P w H h a (SetS w a l) := by
  have ⟨o, _, _, _, ho, _⟩ := R
  exact ⟨R, ⟨o, ho⟩, fun h1 h2 p k => TxSet.at p k⟩
theorem setS_get {pins : List (Addr × Obj)} {σ : L2.St} {H : Hp} {s : Shared} {a : Addr} {l : List Str} (I : Inv X pins σ H s) (ha : H a = some (SetS X.w a l)) : TxSet X.w s.heap a l := (I.hok a _ ha).1
/-- what set(x) gives, x with the texts zs -/
def NewSet (w : World) (zs : List Str) (H : Hp) (Q : VK) : Prop := zs.length < 1000 ∧ ∀ a l, H a = none → l.Nodup → (∀ x, x ∈ l ↔ x ∈ zs) → Q (.ref a) (upd H a (SetS w a l))
def rSetU (K : PySem.W.Frag) (w : World) : List V → Hp → VK → Prop := fun xs H Q => match xs with
  | [.str z] => NewSet w (chars z) H Q
  | [.ref p] => ∃ zs : List Str, SqL K H p (zs.map V.str) ∧ NewSet w zs H Q
  | _ => False
theorem new_set {pins : List (Addr × Obj)} {σ : L2.St} {H : Hp} {s : Shared} {Q : VK} {v : Value} {T : String} {zs : List Str} (hc : X.calm = true) (I : Inv X pins σ H s) (Z : Src X.prog X.w s.heap v T zs) (q : NewSet X.w zs H Q) :
    wpAny (model X.prog X.w) X.A (call (.type "set") [v]) (EP X pins σ Q) X.xe s := by
  have sb : zs.length + 1 < scanBound := Nat.lt_of_lt_of_le (Nat.succ_lt_succ q.1) (by decide)
  refine call_set_tx (I.ok.hd hc) Z sb fun h' tk R k => ?_
  have fr := I.hok.fresh (Nat.le_refl s.heap.objs.size)
  exact ⟨.ref s.heap.objs.size, _, I.laid (t' := tk) k (Nat.le_refl _) (setS_new R), rfl, q.2 _ _ fr (fold_nd zs [] .nil) fun x => by rw [fold_mem]; simp⟩
theorem o_set {K : PySem.W.Frag} {w : World} (hc : X.calm = true) (hK : X.K = K := by rfl) (hw : X.w = w := by rfl) : CallR X (.type "set") (rSetU K w) := by
  subst hK
  subst hw
  intro pins s σ H xs us Q I r h
  match xs, h with
  | [.str z], q =>
    obtain ⟨u, rfl, t, rfl⟩ := vals1 r
    exact new_set hc I (src_text z t) q
  | [.ref p], ⟨zs, hs, q⟩ =>
    obtain ⟨u, rfl, hu⟩ := vals1 r
    obtain rfl : u = Value.ref p := hu
    obtain ⟨its, rv, pl, _⟩ := I.list hs
    exact new_set hc I (src_list pl.isList (by simpa using strsAre_of rv)) q
/-- len of a set of texts -/
def rLenS (w : World) : List V → Hp → VK → Prop := fun xs H Q => match xs with
  | [.ref p] => ∃ l, H p = some (SetS w p l) ∧ Q (.int (l.length : Int)) H
  | _ => False
theorem len_setS {w : World} (hw : X.w = w := by rfl) : CallR X (.builtin "len") (rLenS w) := by
  subst hw
  intro pins s σ H xs us Q I r h
  match xs, h with
  | [.ref p], ⟨l, hp, q⟩ =>
    obtain ⟨u, rfl, hu⟩ := vals1 r
    obtain rfl : u = Value.ref p := hu
    obtain ⟨o, es, ep, t, ho, hx, hd, g, pm, nd, ⟨hb, hf⟩, _⟩ := setS_get I hp
    have hn : es.size = l.length := by
      have e := pm.length_eq
      rw [List.length_map, Array.length_toList] at e
      exact e
    refine call_len_set ho hx hd hf ?_ ?_
    · have e : scanBound < 2 ^ 63 := by decide
      omega
    · rw [hn]
      exact ⟨.int l.length, H, I.tok _, ⟨_, rfl⟩, q⟩
/-! ### sorted -/
theorem un_laid {fs ex : List Addr} {H : Hp} {h h' : Heap} {a : Addr} {o : HO} (k : ∀ b u, h.get? b = some u → h'.get? b = some u) (na : ∀ b u, h.get? b = some u → b ≠ a) (hn : H a = none) : Un fs ex H (upd H a o) h h' :=
  ⟨fun b u q _ _ _ => k b u q, fun b u q _ _ _ => ⟨u.slots, k b u q⟩, fun b u q n _ => by rw [upd_ne (na b u q)]; exact n, fun b u q _ => ⟨u, k b u q⟩, fun b xs q => by rw [upd_ne (ne_of_none q hn)]; exact q,
    fun b u xs q => by rw [upd_ne (ne_of_none q hn)]; exact q, fun b ps q => ⟨#[], by rw [upd_ne (ne_of_none q hn), q]; simp⟩⟩
theorem hok_laid {P : Program} {w : World} {H : Hp} {h h' : Heap} {a : Addr} {o : HO} (x : HOk P w H h) (k : ∀ b u, h.get? b = some u → h'.get? b = some u) (hn : H a = none) (new : ObjOk P w (upd H a o) h' a o) : HOk P w (upd H a o) h' := fun b u e => by
  by_cases hb : b = a
  · subst hb
    rw [upd_same] at e
    cases e
    exact new
  · rw [upd_ne hb] at e
    exact (x b u e).stay (fun c v _ q => k c v q) (fun c q => by rw [upd_ne (ne_of_none q hn)]; exact q) fun c xs q => by rw [upd_ne (ne_of_none q hn)]; exact q
theorem sorted_of {P : Program} {w : World} {A : Around} {E : Value → Shared → Prop} {s : Shared} {v : Value} {zs : List Str} {Q : Value → Shared → Prop} (h64 : zs.length < 64)
    (col : ∀ (A : Around) (Q' : List Value → Shared → Prop), A.handled = none → (∀ s' vs zs', (∀ b o, s.heap.get? b = some o → s'.heap.get? b = some o) → s'.gens = s.gens → s'.os = s.os → PyProof.Rows.StrsAre vs zs' → zs'.Perm zs → Q' vs s') → wpAny (model P w) A (collect v) Q' E s)
    (hh : A.handled = none)
    (hQ : ∀ s' p (out : Array Value) (c : Nat) (ys : List Str), (∀ b o, s.heap.get? b = some o → s'.heap.get? b = some o) → s'.gens = s.gens → s'.os = s.os → (∀ b o, s.heap.get? b = some o → b ≠ p) → s'.heap.get? p = some (seqObj "list" out c) → PyProof.Rows.StrsAre out.toList ys → ys.Perm zs → sortedS ys = true → Q (.ref p) s') :
    wpAny (model P w) A (call (.builtin "sorted") [v]) Q E s := by
  refine Calls.call_function_entry kind_sorted plain_sorted entry_sorted (args_sorted1 _) ?_
  unfold Builtin.«sorted»
  refine wpAny_bind (m := checkCount "sorted" 1 1 _) (wpAny_pure (wpAny_bind (col A.in1 _ (by simp [hh]) fun s1 vs zs' k1 g1 o1 hs pm => ?_)))
  have hl : vs.length = zs.length := by rw [PyProof.Rows.StrsAre.length hs, pm.length_eq]
  refine wpAny_bind (wpAny_newList ?_ (by rw [hl, sizeLine_eq]; omega))
  have oL : (s1.heap.push (seqObj "list" vs.toArray 0)).get? s1.heap.objs.size = some (seqObj "list" vs.toArray 0) := Heap.get?_push_size _ rfl
  refine wpAny_bind (wpAny_holding (wpAny_call_entry slot_list_sort ⟨_, oL, rfl⟩ entry_list_sort (list_sort_treeK strKind_oneLt oL hs.keysOf (fun v₁ v₂ rest e => keyKind_strs (by rw [← e]; exact hs)) (by rw [hl]; exact h64) fun st' a1 a2 => ⟨_, rfl, ?_⟩) (args_list_sort _)))
  obtain ⟨ys, b1, b2, b3⟩ := sorted_out_str hs a1 a2
  obtain ⟨c, hc⟩ := sortedHeap_at (vs := vs) (out := (arrOf st').map (·.2)) oL
  refine wpAny_pure ⟨_, rfl, hQ _ s1.heap.objs.size _ c ys (fun b u e => ?_) g1 o1 (fun b u e => Nat.ne_of_lt (Heap.lt_size (k1 b u e))) hc b1 (b2.trans pm) b3⟩
  have q := k1 b u e
  have lt := Heap.lt_size q
  show (sortedHeap (s1.heap.push (seqObj "list" vs.toArray 0)) s1.heap.objs.size vs ((arrOf st').map (·.2))).get? b = some u
  rw [sortedHeap_old (Nat.ne_of_lt lt) (by rw [size_push']; exact Nat.lt_succ_of_lt lt)]
  exact Heap.get?_push_of_some _ q
theorem items_strs {z : Str} {acc : Array Value} (h : ItemsOf (SignAt z) acc z.cps.size) : PyProof.Rows.StrsAre acc.toList (chars z) := by
  have key : ∀ (l : List Value) (cs : List Nat), l.length = cs.length → (∀ (j : Nat) (v : Value), l[j]? = some v → ∃ (c : Nat) (u : Tok), cs[j]? = some c ∧ v = Value.str ⟨#[c]⟩ u) → PyProof.Rows.StrsAre l (cs.map fun c => ⟨#[c]⟩) := by
    intro l
    induction l with
    | nil =>
      intro cs hl _
      cases cs with
      | nil => exact .nil
      | cons c r => simp at hl
    | cons v r ih =>
      intro cs hl hv
      cases cs with
      | nil => simp at hl
      | cons c cs =>
        obtain ⟨c', u, e1, rfl⟩ := hv 0 v rfl
        have e2 : c = c' := by simpa using e1
        subst e2
        exact .cons _ u (ih cs (by simpa using hl) fun j v hj => by simpa using hv (j + 1) v (by simpa using hj))
  refine key acc.toList z.cps.toList (by rw [Array.length_toList, Array.length_toList]; exact h.1) fun j v hj => ?_
  obtain ⟨c, u, e1, e2⟩ := h.2 j v (by rw [← Array.getElem?_toList]; exact hj)
  exact ⟨c, u, by rw [Array.getElem?_toList]; exact e1, e2⟩
/-- what sorted(x) gives, x with the texts zs -/
def NewSorted (zs : List Str) (H : Hp) (Q : VK) : Prop := zs.length < 64 ∧ ∀ ys p, ys.Perm zs → sortedS ys = true → H p = none → Q (.ref p) (upd H p (.lst (ys.map V.str)))
theorem new_sorted {pins : List (Addr × Obj)} {σ : L2.St} {H : Hp} {s : Shared} {Q : VK} {v : Value} {zs : List Str} (hc : X.calm = true) (I : Inv X pins σ H s) (q : NewSorted zs H Q)
    (col : ∀ (A : Around) (Q' : List Value → Shared → Prop), A.handled = none → (∀ s' vs zs', (∀ b o, s.heap.get? b = some o → s'.heap.get? b = some o) → s'.gens = s.gens → s'.os = s.os → PyProof.Rows.StrsAre vs zs' → zs'.Perm zs → Q' vs s') → wpAny (model X.prog X.w) A (collect v) Q' X.xe s) :
    wpAny (model X.prog X.w) X.A (call (.builtin "sorted") [v]) (EP X pins σ Q) X.xe s := by
  refine sorted_of q.1 col (I.ok.hd hc) fun s' p out c ys k g o hp hg hi pm so => ?_
  have fr : H p = none := by
    cases e : H p with
    | none => rfl
    | some u =>
      obtain ⟨ob, hob⟩ := objOk_get (I.hok p u e)
      exact absurd rfl (hp p ob hob)
  have hlen : (ys.map V.str).length ≤ sizeLine := by
    have h1 := q.1
    rw [List.length_map, pm.length_eq, sizeLine_eq]
    omega
  have J : Inv X pins σ (upd H p (.lst (ys.map V.str))) { s with heap := s'.heap, gens := s'.gens, drawn := s'.drawn, toks := s'.toks } :=
    I.call (ch := []) (un_laid k hp fr) (hok_laid I.hok k fr ⟨hlen, out.toList, c, vals_of_strs hi, hg⟩) (by rw [g]; exact I.bare) fun _ z => nomatch z
  obtain ⟨h2, g2, d2, t2, o2⟩ := s'
  obtain rfl : o2 = s.os := o
  exact ⟨.ref p, _, J, rfl, q.2 ys p pm so fr⟩
def rSortedU (K : PySem.W.Frag) (w : World) : List V → Hp → VK → Prop := fun xs H Q => match xs with
  | [.str z] => NewSorted (chars z) H Q
  | [.ref p] => (∃ l, H p = some (SetS w p l) ∧ NewSorted l H Q) ∨ (rSortedS K [.ref p] H Q ∨ rSortedI K [.ref p] H Q)
  | _ => False
theorem o_sorted {K : PySem.W.Frag} {w : World} (hc : X.calm = true) (hK : X.K = K := by rfl) (hw : X.w = w := by rfl) : CallR X (.builtin "sorted") (rSortedU K w) := by
  subst hK
  subst hw
  intro pins s σ H xs us Q I r h
  match xs, h with
  | [.str z], q =>
    obtain ⟨u, rfl, t, rfl⟩ := vals1 r
    have h64 : z.cps.size < 64 := by
      have e := q.1
      unfold chars at e
      rw [List.length_map, Array.length_toList] at e
      exact e
    refine new_sorted hc I q fun A Q' hA k => wpAny_collect_str hA z t (fun s' acc kp g d o it => k s' acc.toList (chars z) kp g o (items_strs it) (.refl _)) (by rw [sizeLine_eq]; omega)
  | [.ref p], .inl ⟨l, hp, q⟩ =>
    obtain ⟨u, rfl, hu⟩ := vals1 r
    obtain rfl : u = Value.ref p := hu
    obtain ⟨o, es, ep, t, ho, hx, hd, g, pm, nd, ⟨hb, hf⟩, hr, hl⟩ := setS_get I hp
    refine new_sorted hc I q fun A Q' hA k => collect_set hA ⟨o, ho, hx.1, hd⟩ hf hb hr hl fun s1 vs k1 _ g1 o1 p1 => ?_
    have key : ∀ (us : List Value), (∀ v ∈ us, ∃ x t, v = Value.str x t) → PyProof.Rows.StrsAre us (us.map fun v => txOf (0, v)) := by
      intro us
      induction us with
      | nil => exact fun _ => .nil
      | cons v r ih =>
        intro hv
        obtain ⟨x, t, rfl⟩ := hv v List.mem_cons_self
        exact .cons x t (ih fun u hu => hv u (List.mem_cons_of_mem _ hu))
    refine k s1 vs (vs.map fun v => txOf (0, v)) k1 g1 o1 (key vs fun v hv => ?_) ?_
    · obtain ⟨e, he, rfl⟩ := List.mem_map.mp (p1.mem_iff.mp hv)
      obtain ⟨x, tk, e1, _⟩ := g e he
      exact ⟨x, tk, e1⟩
    · have p2 := p1.map fun v => txOf (0, v)
      rw [List.map_map] at p2
      exact p2.trans pm
  | [.ref p], .inr h => exact (cr_sortedS.or cr_sortedI) pins s σ H [.ref p] us Q I r h
end
end SL

namespace SL
open PySem PySem.Spec PyProof.Rows L2 SX
theorem tyStr {K : PySem.W.Frag} {H : Hp} {z : Str} : tyV K "str" (.str z) H = True := propext ⟨fun _ => trivial, fun _ => rfl⟩
theorem tyLst {K : PySem.W.Frag} {H : Hp} {p : Addr} {xs : List V} (h : SqL K H p xs) : tyV K "list" (.ref p) H := .inl ⟨rfl, xs, h⟩
section
variable {X : Cx} {o e : Expr} {es : List Expr} {to : TE} {t : TA} {name : Str} {apos cpos : Pos} {T id : String} {r : V → List V → Hp → VK → Prop}
theorem pe_bmK {K : PySem.W.Frag} (pa : PlainAttrs T) (slot : Slot T name id) (hty : typeOf (.builtin id) = pure (.type "method_descriptor")) (hm : MtR X id r) (ho : PE X o to) (ha : PA X (e :: es) t)
    (hK : X.K = K := by rfl) (hbase : attributeBase o name X.env (eval o X.env) = eval o X.env := by rfl)
    (hfew : ((backTo cpos (starEach (e :: es) X.env)).all (fun x => !x.1) && (backToKw cpos (keywordEach [] X.env)).all (fun x => x.1.isSome)
      && decide ((e :: es).length + ([] : List Keyword).length + (if ([] : List Keyword).isEmpty then 0 else 1) < 30)) = true := by rfl)
    (hline : (apos.endLine == cpos.line) = true := by rfl) (hs : starEach (e :: es) X.env = (false, eval e X.env) :: starEach es X.env := by rfl) (hplain : (backTo cpos (starEach es X.env)).any (·.1) = false := by rfl) :
    PE X (.Call (.Attribute o name apos) (e :: es) [] cpos) (tBM K T r to t) := by
  subst hK
  exact pe_bm pa slot hty hm ho ha hbase hfew hline hs hplain
theorem pe_bm0K' {K : PySem.W.Frag} (pa : PlainAttrs T) (slot : Slot T name id) (hty : typeOf (.builtin id) = pure (.type "method_descriptor")) (hm : MtR X id r) (ho : PE X o to)
    (hK : X.K = K := by rfl) (hbase : attributeBase o name X.env (eval o X.env) = eval o X.env := by rfl) (hline : (apos.endLine == cpos.line) = true := by rfl) : PE X (.Call (.Attribute o name apos) [] [] cpos) (tBM0 K T r to) := by
  subst hK
  exact pe_bm0 pa slot hty hm ho hbase hline
theorem MtR.imp {r r' : V → List V → Hp → VK → Prop} (h : MtR X id r) (i : ∀ x xs H Q, r' x xs H Q → r x xs H Q) : MtR X id r' := fun pins s σ H x xs v us Q I rx rs q => h pins s σ H x xs v us Q I rx rs (i _ _ _ _ q)
def rJoin (K : PySem.W.Frag) : V → List V → Hp → VK → Prop := fun x xs H Q => match x, xs with
  | .str a, [.ref p] => ∃ ys : List Str, (SqL K H p (ys.map V.str) ∨ SqT K H p (ys.map V.str)) ∧ (ys.map (·.length)).sum + ys.length * a.length ≤ 16777216 ∧ Q (.str (Txt.join a ys)) H
  | _, _ => False
theorem mo_join {K : PySem.W.Frag} (hK : X.K = K := by rfl) : MtR X "str.join" (rJoin K) := by
  subst hK
  refine MtR.imp mt_join fun x xs H Q h => ?_
  match x, xs, h with
  | .str a, [.ref p], ⟨ys, h1, h2, q⟩ => exact ⟨a, p, ys, rfl, rfl, h1, h2, q⟩
def rCount : V → List V → Hp → VK → Prop := fun x xs H Q => match x, xs with
  | .str a, [.str b] => Q (.int (Txt.count a b)) H
  | _, _ => False
theorem mo_count : MtR X "str.count" rCount := by
  refine MtR.imp mt_count fun x xs H Q h => ?_
  match x, xs, h with
  | .str a, [.str b], q => exact ⟨a, b, rfl, rfl, q⟩
/-! ### len of anything -/
def rLenW (K : PySem.W.Frag) (w : World) : List V → Hp → VK → Prop := fun xs H Q => match xs with
  | [.str z] => z.length ≤ sizeLine ∧ Q (.int z.length) H
  | [.ref p] => (∃ l, H p = some (SetS w p l) ∧ Q (.int (l.length : Int)) H) ∨ ∃ n, LenV K (.ref p) H n ∧ Q (.int n) H
  | _ => False
theorem o_lenW {K : PySem.W.Frag} {w : World} (hK : X.K = K := by rfl) (hw : X.w = w := by rfl) : CallR X (.builtin "len") (rLenW K w) := by
  subst hK hw
  refine CallR.imp (CallR.or len_setS o_len) fun xs H Q h => ?_
  match xs, h with
  | [.str z], ⟨h1, h2⟩ => exact .inr ⟨_, ⟨h1, rfl⟩, h2⟩
  | [.ref p], .inl h => exact .inl h
  | [.ref p], .inr h => exact .inr h
/-! ### list of a text, a list, a tuple -/
def rListU (K : PySem.W.Frag) : List V → Hp → VK → Prop := fun xs H Q => match xs with
  | [.str z] => z.length ≤ sizeLine ∧ ∀ p, H p = none → Q (.ref p) (upd H p (.lst ((chars z).map V.str)))
  | [.ref p] => ∃ ys, (SqL K H p ys ∨ SqT K H p ys) ∧ ∀ l, H l = none → Q (.ref l) (upd H l (.lst ys))
  | _ => False
theorem o_list {K : PySem.W.Frag} (hc : X.calm = true) (hK : X.K = K := by rfl) : CallR X (.type "list") (rListU K) := by
  subst hK
  intro pins s σ H xs us Q I r h
  match xs, h with
  | [.str z], ⟨hz, q⟩ =>
    obtain ⟨u, rfl, t, rfl⟩ := vals1 r
    refine call_list_str (hn := hz) (I.ok.hd hc) z t fun h' tk acc' c' k e it => ?_
    have sa := items_strs it
    have fr := I.hok.fresh (Nat.le_refl s.heap.objs.size)
    have hl : ((chars z).map V.str).length ≤ sizeLine := by
      unfold chars
      rw [List.length_map, List.length_map, Array.length_toList]
      exact hz
    exact ⟨.ref s.heap.objs.size, _, I.laid (t' := tk) k (Nat.le_refl _) (show ObjOk X.prog X.w _ h' _ (.lst ((chars z).map V.str)) from ⟨hl, acc'.toList, c', vals_of_strs sa, e⟩), rfl, q _ fr⟩
  | [.ref p], ⟨ys, h1, q⟩ => exact call_list_of pins s σ H [.ref p] us Q I r ⟨p, ys, rfl, h1, q⟩
/-! ### x[::-1] -/
def rRevU (K : PySem.W.Frag) : V → Hp → VK → Prop := fun x H Q => match x with
  | .str z => z.length ≤ sizeLine ∧ Q (.str (S z.cps.toList.reverse)) H
  | .ref a => ∃ xs, SqL K H a xs ∧ ∀ p, H p = none → Q (.ref p) (upd H p (.lst xs.reverse))
  | _ => False
theorem pe_rev {K : PySem.W.Frag} {e : Expr} {te : TE} {k : Nat} {p1 p2 p3 pos : Pos} (he : PE X e te) (hK : X.K = K := by rfl) : PE X (.Subscript e (.Slice none none (some (.UnaryOp .USub (.Constant (.int 1) k p1) p2)) p3) pos) (fun σ H Q => te σ H fun x H1 => rRevU K x H1 Q) := by
  subst hK
  refine ⟨fun pins s σ H Q I h => ?_⟩
  refine Subscript_ (thn (he.run pins s σ H _ I h) fun v s1 ⟨x, H1, I1, r1, q1⟩ => ?_)
  have hst : PO X (some (.UnaryOp .USub (.Constant (.int 1) k p1) p2)) (tPart (tUn (rU fun i => .int (-i)) (tC (.int 1)))) := po_some (pe_un un_neg pe_int)
  refine wpAny_Slice (thn (po_none.run pins s1 σ H1 (fun o H2 => o = none ∧ H2 = H1) I1 ⟨rfl, rfl⟩) fun vl s2 ⟨l, H2, I2, pl, el, e2⟩ => ?_)
  subst el e2
  refine thn (po_none.run pins s2 σ H2 (fun o H3 => o = none ∧ H3 = H2) I2 ⟨rfl, rfl⟩) fun vu s3 ⟨u, H3, I3, pu, eu, e3⟩ => ?_
  subst eu e3
  refine thn (hst.run pins s3 σ H3 (fun o H4 => o = some (-1) ∧ H4 = H3) I3 ⟨1, rfl, -1, rfl, rfl, rfl⟩) fun vs s4 ⟨o, H4, I4, ps, eo, e4⟩ => ?_
  subst eo e4
  have I5 : Inv X pins σ H4 { s4 with heap := s4.heap.push { cls := .type "slice", data := .fields #[vl, vu, vs] } } := I4.kept (t' := s4.toks) fun b ob q => Heap.get?_push_of_some _ q
  cases x with
  | ref a =>
    obtain ⟨xs, hx, q⟩ := q1
    cases r1
    obtain ⟨its, r, ht, hz⟩ := I5.list hx
    have hlen := r.length
    refine tail_any (ops := [.ref a, .ref s4.heap.objs.size]) ht.isList.typeIs (PySem.slot_list_getitem.lookup) ?_ (by with_unfolding_all rfl)
    refine wpAny_getItem_list_slice ht.isList (Heap.IsSliceOf.new _ vl vu vs) pl pu ps (by decide) ?_ (by rw [List.size_toArray]; omega)
    rw [PySem.W.krv_pick]
    refine ⟨.ref _, _, I5.laid (t' := s4.toks) (o := .lst xs.reverse) (fun b ob q => Heap.get?_push_of_some _ q) (Nat.le_refl _) ?_, rfl, q _ (I5.hok.fresh (Nat.le_refl _))⟩
    exact ⟨by rw [List.length_reverse]; exact hz, _, 0, r.reverse, Heap.get?_push_size _ rfl⟩
  | str z =>
    obtain ⟨hz, q⟩ := q1
    obtain ⟨t, rfl⟩ := r1
    obtain ⟨l, rfl, hl⟩ := IsPart.raw pl
    obtain ⟨u, rfl, hu⟩ := IsPart.raw pu
    obtain ⟨st, rfl, hs⟩ := IsPart.raw ps
    refine tail_any (ops := [.str z t, .ref s4.heap.objs.size]) (typeIs_str _ _ _) (F.slot_str_getitem.lookup) ?_ (by with_unfolding_all rfl)
    refine wpAny_getItem_str_slice (l := l) (u := u) (st := st) ⟨_, Heap.get?_push_size _ rfl, rfl, rfl⟩ (by rw [hs]; rfl) ?_
    have hp : slicePicked z l u st = (List.range z.length).reverse := by
      unfold slicePicked
      rw [hl, hu, hs]
      show Builtin.Str.strSliceIndices none none (-1) z.length = _
      show sliceRange ((z.length : Int) - 1) (-1) (-1) = _
      rw [PySem.W.krv_sliceRange, PySem.W.krv_range]
    have ht : (List.range z.length).reverse.filterMap (z.cps[·]?) = z.cps.toList.reverse := by
      rw [List.filterMap_reverse, show z.length = z.cps.size from rfl, PySem.W.krv_all]
    unfold sliceMade
    rw [hs, hp, ht]
    show Made.post (if ((-1 : Int) == 1 && _) = true then _ else _) _ _
    rw [if_neg (by simp)]
    refine ⟨?_, .str _, H4, I5.tok _, ⟨_, rfl⟩, q⟩
    show (S z.cps.toList.reverse).length ≤ sizeLine
    rw [S_len, List.length_reverse, Array.length_toList]
    exact hz
  | _ => exact absurd q1 id
end
/-! ### texts by their signs -/
theorem cnt_one (a : List Nat) (c : Nat) : (0 < Txt.count (S a) (S [c])) = (c ∈ a) := by
  obtain ⟨f, h1, h2⟩ := StrLaws.occ_tight (S a) (S [c]) (Nat.le_refl 1)
  have e : Txt.count (S a) (S [c]) = ((Builtin.Str.occurrences (S a) (S [c]) 0 (S a).length ((S a).length + 1)).length : Nat) := rfl
  rw [e]
  refine propext ⟨fun h => ?_, fun h => ?_⟩
  · cases ho : Builtin.Str.occurrences (S a) (S [c]) 0 (S a).length ((S a).length + 1) with
    | nil => rw [ho] at h; exact absurd h (by decide)
    | cons i r =>
      rw [ho] at h1
      exact List.mem_of_getElem? ((StrLaws.subAt_one (S a) c i).mp h1.2.1)
  · obtain ⟨i, hi⟩ := List.mem_iff_getElem?.mp h
    cases ho : Builtin.Str.occurrences (S a) (S [c]) 0 (S a).length ((S a).length + 1) with
    | nil =>
      rw [ho] at h1
      cases (show f = 0 from h1)
      exact absurd ((StrLaws.subAt_one (S a) c i).mpr hi) (h2 i (Nat.zero_le _))
    | cons i r => exact Int.natCast_pos.mpr (Nat.succ_pos _)
theorem chars_S (a : List Nat) : chars (S a) = a.map fun c => S [c] := rfl
theorem join_chars : ∀ a : List Nat, Txt.join (S []) (a.map fun c => S [c]) = S a := by
  intro a
  have h : ∀ a : List Nat, TL.joinL [] (a.map fun c => [c]) = a := by
    intro a
    induction a with
    | nil => rfl
    | cons c r ih =>
      cases r with
      | nil => rfl
      | cons d r => exact congrArg (c :: ·) ih
  have e := SX.join_S [] (a.map fun c => [c])
  rw [h a, List.map_map] at e
  exact e
theorem len_chars (a : List Nat) : ((a.map fun c => S [c]).map (·.length)).sum + (a.map fun c => S [c]).length * (S []).length = a.length := by
  rw [S_len, List.length_nil, Nat.mul_zero, Nat.add_zero]
  induction a with
  | nil => rfl
  | cons c r ih =>
    rw [List.map_cons, List.map_cons, List.sum_cons, ih, S_len]
    simp; omega
end SL

namespace SL
open PySem PySem.Spec PyProof.Rows L2 SX
/-- a statement by what is wanted behind it -/
def sMid (t : TS) : TS := fun D σ H => ∃ D' : Ends, t D' σ H ∧ (∀ σ H, D'.nx σ H → D.nx σ H) ∧ (∀ v H, D'.rt v H → D.rt v H) ∧ (∀ σ H, D'.bk σ H → D.bk σ H) ∧ ∀ σ H, D'.ct σ H → D.ct σ H
theorem ps_mid {X : Cx} {st : Stmt} {t : TS} (h : PS X st t) : PS X st (sMid t) := ⟨fun pins s σ H D I ⟨D', h1, n, r, b, c⟩ => thn (h.run pins s σ H D' I h1) fun f s' q => by
  cases f with
  | next => obtain ⟨σ', H', J, k⟩ := q; exact ⟨σ', H', J, n _ _ k⟩
  | brk => obtain ⟨σ', H', J, k⟩ := q; exact ⟨σ', H', J, b _ _ k⟩
  | cont => obtain ⟨σ', H', J, k⟩ := q; exact ⟨σ', H', J, c _ _ k⟩
  | ret u => obtain ⟨v, σ', H', J, e, k⟩ := q; exact ⟨v, σ', H', J, e, r _ _ k⟩⟩
/-- a statement, then the rest: Pm stands between -/
theorem q_stm {t u : TS} {D : Ends} {σ : L2.St} {H : Hp} (Pm : L2.St → Hp → Prop) (h : t { D with nx := Pm } σ H) (k : ∀ σ H, Pm σ H → u D σ H) : tSeq (sMid t) u D σ H :=
  ⟨{ D with nx := Pm }, h, k, fun _ _ q => q, fun _ _ q => q, fun _ _ q => q⟩
/-! ### forms of parts, as the laws write them -/
inductive PF where
  | one (c : Nat)
  | any
  | among (l : List Nat) (o : Bool)
  | stars
deriving DecidableEq
def SIG : List Nat := (Str.ofString "-.0123456789_abcdefghijklmnopqrstuvwxyz").cps.toList
theorem sig_str : Str.ofString "-.0123456789_abcdefghijklmnopqrstuvwxyz" = S SIG := rfl
theorem sig_len : SIG.length = 39 := by decide +kernel
theorem sig_nd : SIG.Nodup := by decide +kernel
theorem sig_up : SIG.Pairwise (· < ·) := by decide +kernel
def PF.d : PF → PyData
  | .one c => .tuple [.str "one", .str (S [c])]
  | .any => .tuple [.str "any"]
  | .among l o => .tuple [.str "among", .str (S l), .bool o]
  | .stars => .tuple [.str "stars"]
/-- a set of signs, rising -/
structure SigSet (l : List Nat) : Prop where
  ne : l ≠ []
  up : l.Pairwise (· < ·)
  sg : ∀ c ∈ l, c ∈ SIG
def PF.Ok : PF → Prop
  | .one c => c ∈ SIG
  | .among l _ => SigSet l
  | _ => True
def PF.fits (f : PF) (c : Nat) : Bool := match f with
  | .one d => decide (c = d)
  | .among l o => (decide (c ∈ l)) != o
  | _ => true
def PF.many : PF → Bool
  | .stars => true
  | _ => false
theorem nd_up {l : List Nat} (h : l.Pairwise (· < ·)) : l.Nodup := h.imp fun h => Nat.ne_of_lt h
theorem str_nd_len : ∀ (l D : List Str), l.Nodup → (∀ x ∈ l, x ∈ D) → l.length ≤ D.length
  | [], _, _, _ => Nat.zero_le _
  | x :: l, D, hn, hs => by
    obtain ⟨h1, h2⟩ := List.nodup_cons.mp hn
    have hx : x ∈ D := hs x List.mem_cons_self
    have ih := str_nd_len l (D.erase x) h2 fun y hy => by
      have hne : y ≠ x := fun e => h1 (e ▸ hy)
      exact (List.mem_erase_of_ne hne).2 (hs y (List.mem_cons_of_mem _ hy))
    have e := List.length_erase_of_mem hx
    have hp : 0 < D.length := List.length_pos_of_mem hx
    rw [List.length_cons]
    omega
theorem nd_len {l : List Nat} (h : l.Nodup) (s : ∀ c ∈ l, c ∈ SIG) : l.length ≤ 39 := by
  have e := nat_nodup_len l SIG h s
  rw [sig_len] at e
  exact e
theorem SigSet.len {l : List Nat} (h : SigSet l) : l.length ≤ 39 := nd_len (nd_up h.up) h.sg
/-- data that may be compared, at most n deep -/
def DOk (n : Nat) (d : PyData) : Prop := d.canLay0 = true ∧ d.depth ≤ n
theorem DOk.up {n m : Nat} {d : PyData} (h : DOk n d) (e : n ≤ m) : DOk m d := ⟨h.1, Nat.le_trans h.2 e⟩
theorem dok_str {x : Str} {n : Nat} (h : PyData.strOk x = true) : DOk n (.str x) := ⟨by simp only [PyData.canLay0]; exact h, by simp only [PyData.depth]; omega⟩
theorem dok_bl {b : Bool} {n : Nat} : DOk n (.bool b) := ⟨by simp only [PyData.canLay0], by simp only [PyData.depth]; omega⟩
theorem dok_int {i : Int} {n : Nat} : DOk n (.int i) := ⟨by simp only [PyData.canLay0], by simp only [PyData.depth]; omega⟩
theorem dok_non {n : Nat} : DOk n .none := ⟨by simp only [PyData.canLay0], by simp only [PyData.depth]; omega⟩
theorem dok_all {n : Nat} : ∀ {ds : List PyData}, (∀ d ∈ ds, DOk n d) → PyData.canLayAll0 ds = true ∧ PyData.depthAll ds ≤ n
  | [], _ => ⟨by simp only [PyData.canLayAll0], by simp only [PyData.depthAll]; omega⟩
  | d :: r, h => by
    have h1 := h d List.mem_cons_self
    have h2 := dok_all (ds := r) fun e he => h e (List.mem_cons_of_mem _ he)
    refine ⟨by simp only [PyData.canLayAll0, h1.1, h2.1]; rfl, ?_⟩
    simp only [PyData.depthAll]
    have := h1.2
    have := h2.2
    omega
theorem dok_tup {n : Nat} {ds : List PyData} (h : ∀ d ∈ ds, DOk n d) : DOk (n + 1) (.tuple ds) := by
  have e := dok_all h
  exact ⟨by simp only [PyData.canLay0]; exact e.1, by simp only [PyData.depth]; omega⟩
theorem dok_lst {n : Nat} {ds : List PyData} (h : ∀ d ∈ ds, DOk n d) : DOk (n + 1) (.list ds) := by
  have e := dok_all h
  exact ⟨by simp only [PyData.canLay0]; exact e.1, by simp only [PyData.depth]; omega⟩
theorem DOk.shaped {n : Nat} {d : PyData} (h : DOk n d) (e : n ≤ 64) : SeqAt.shaped d = true := by
  show (d.canLay0 && decide (d.depth ≤ 64)) = true
  rw [Bool.and_eq_true]
  exact ⟨h.1, decide_eq_true (Nat.le_trans h.2 e)⟩
theorem DOk.eqv {n : Nat} {d : PyData} (h : DOk n d) : PyData.eqv d d = true := SeqAt.eqv_refl _ h.1
theorem all_nil {p : PyData → Prop} : ∀ d ∈ ([] : List PyData), p d := fun _ h => nomatch h
theorem all_cons {p : PyData → Prop} {x : PyData} {l : List PyData} (h : p x) (t : ∀ d ∈ l, p d) : ∀ d ∈ x :: l, p d := fun d h' => (List.mem_cons.mp h').elim (fun e => e ▸ h) (t d)
theorem ok_signs {l : List Nat} (h : ∀ c ∈ l, c ∈ SIG) : PyData.strOk (S l) = true := by
  have k : ∀ c ∈ SIG, c < 128 := by decide +kernel
  unfold PyData.strOk
  rw [← Array.all_toList, List.all_eq_true]
  exact fun c hc => decide_eq_true (Nat.lt_trans (k c (h c hc)) (by decide))
theorem PF.dok {f : PF} (h : f.Ok) : DOk 1 f.d := by
  cases f with
  | one c => exact dok_tup (all_cons (dok_str (by decide +kernel)) (all_cons (dok_str (ok_signs fun d hd => by rw [List.mem_singleton.mp hd]; exact h)) all_nil))
  | any => exact dok_tup (all_cons (dok_str (by decide +kernel)) all_nil)
  | among l o => exact dok_tup (all_cons (dok_str (by decide +kernel)) (all_cons (dok_str (ok_signs h.sg)) (all_cons dok_bl all_nil)))
  | stars => exact dok_tup (all_cons (dok_str (by decide +kernel)) all_nil)
/-! ### signs put in order -/
theorem S1_inj {a b : Nat} (h : S [a] = S [b]) : a = b := List.head_eq_of_cons_eq (S_inj h)
theorem map1_mem {cs : List Nat} {c : Nat} : S [c] ∈ (cs.map fun c => S [c]) ↔ c ∈ cs := by
  rw [List.mem_map]
  exact ⟨fun ⟨d, hd, e⟩ => by rw [← S1_inj e]; exact hd, fun h => ⟨c, h, rfl⟩⟩
theorem signs_of : ∀ {ys : List Str}, (∀ y ∈ ys, ∃ c, y = S [c]) → ∃ cs : List Nat, ys = cs.map fun c => S [c]
  | [], _ => ⟨[], rfl⟩
  | y :: r, h => by
    obtain ⟨c, rfl⟩ := h y List.mem_cons_self
    obtain ⟨cs, rfl⟩ := signs_of (ys := r) fun z hz => h z (List.mem_cons_of_mem _ hz)
    exact ⟨c :: cs, rfl⟩
theorem rising_codes : ∀ (cs : List Nat) (p : Nat), risingS (S [p]) (cs.map fun c => S [c]) = true → (p :: cs).Pairwise (· ≤ ·)
  | [], p, _ => by simp
  | c :: r, p, h => by
    have h' : (!ltCps [c] [p] && risingS (S [c]) (r.map fun c => S [c])) = true := h
    rw [Bool.and_eq_true] at h'
    have h1 : p ≤ c := by
      have e := h'.1
      unfold ltCps at e
      simp [ltCps] at e
      exact e
    have h2 := rising_codes r c h'.2
    refine List.pairwise_cons.mpr ⟨fun d hd => ?_, h2⟩
    rcases List.mem_cons.mp hd with rfl | hd
    · exact h1
    · exact Nat.le_trans h1 ((List.pairwise_cons.mp h2).1 d hd)
theorem sorted_codes : ∀ (cs : List Nat), sortedS (cs.map fun c => S [c]) = true → cs.Pairwise (· ≤ ·)
  | [], _ => .nil
  | c :: r, h => rising_codes r c h
theorem le_lt_nd : ∀ {l : List Nat}, l.Pairwise (· ≤ ·) → l.Nodup → l.Pairwise (· < ·)
  | [], _, _ => .nil
  | a :: r, h, n => by
    have h' := List.pairwise_cons.mp h
    have n' := List.nodup_cons.mp n
    refine List.pairwise_cons.mpr ⟨fun b hb => ?_, le_lt_nd h'.2 n'.2⟩
    have e := h'.1 b hb
    have q : a ≠ b := fun z => n'.1 (z ▸ hb)
    omega
theorem nd_unmap : ∀ {cs : List Nat}, (cs.map fun c => S [c]).Nodup → cs.Nodup
  | [], _ => .nil
  | c :: r, h => by
    have h' := List.nodup_cons.mp h
    exact List.nodup_cons.mpr ⟨fun q => h'.1 (map1_mem.mpr q), nd_unmap h'.2⟩
/-- sorted signs, each once -/
theorem sorted_signs {ys zs : List Str} (pm : ys.Perm zs) (so : sortedS ys = true) (nd : zs.Nodup) (h : ∀ z ∈ zs, ∃ c, z = S [c]) : ∃ cs : List Nat, ys = cs.map (fun c => S [c]) ∧ cs.Pairwise (· < ·) ∧ ∀ c, c ∈ cs ↔ S [c] ∈ zs := by
  obtain ⟨cs, rfl⟩ := signs_of (ys := ys) fun y hy => h y (pm.mem_iff.mp hy)
  exact ⟨cs, rfl, le_lt_nd (sorted_codes cs so) (nd_unmap (pm.nodup_iff.mpr nd)), fun c => by rw [← pm.mem_iff, map1_mem]⟩
/-- a text of different signs, one at least -/
def Good (z : Str) : Prop := ∃ l, SigSet l ∧ z.cps.toList.Perm l
theorem not_nd : ∀ {zs : List Str}, ¬ zs.Nodup → ∃ x ∈ zs, ∀ y ∈ zs, y ∈ zs.erase x
  | [], h => absurd .nil h
  | a :: r, h => by
    by_cases ha : a ∈ r
    · refine ⟨a, List.mem_cons_self, fun y hy => ?_⟩
      rw [List.erase_cons_head]
      exact (List.mem_cons.mp hy).elim (fun e => e ▸ ha) id
    · obtain ⟨x, hx, hs⟩ := not_nd (zs := r) fun n => h (List.nodup_cons.mpr ⟨ha, n⟩)
      have hne : a ≠ x := fun e => ha (e ▸ hx)
      refine ⟨x, List.mem_cons_of_mem _ hx, fun y hy => ?_⟩
      rw [List.erase_cons_tail (by simpa using hne)]
      exact (List.mem_cons.mp hy).elim (fun e => e ▸ List.mem_cons_self) fun q => List.mem_cons_of_mem _ (hs y q)
/-- how many different texts there are tells whether each is there once -/
theorem set_len {l zs : List Str} (nd : l.Nodup) (h : ∀ x, x ∈ l ↔ x ∈ zs) : (l.length < zs.length) = ¬ zs.Nodup := by
  refine propext ⟨fun hl n => ?_, fun hn => ?_⟩
  · have := str_nd_len zs l n fun x hx => (h x).mpr hx
    omega
  · obtain ⟨x, hx, hs⟩ := not_nd hn
    have a := str_nd_len l (zs.erase x) nd fun y hy => hs y ((h y).mp hy)
    have b := List.length_erase_of_mem hx
    have c := List.length_pos_of_mem hx
    omega
theorem nd_map1 : ∀ {cs : List Nat}, cs.Nodup → (cs.map fun c => S [c]).Nodup
  | [], _ => .nil
  | c :: r, h => by
    have h' := List.nodup_cons.mp h
    exact List.nodup_cons.mpr ⟨fun q => h'.1 (map1_mem.mp q), nd_map1 h'.2⟩
theorem insU_up (a : Nat) : ∀ (l : List Nat), l.Pairwise (· < ·) → a ∉ l → ∃ m : List Nat, m.Pairwise (· < ·) ∧ (a :: l).Perm m
  | [], _, _ => ⟨[a], List.pairwise_singleton _ _, .refl _⟩
  | b :: r, h, n => by
    have h' := List.pairwise_cons.mp h
    rcases Nat.lt_trichotomy a b with q | q | q
    · exact ⟨a :: b :: r, List.pairwise_cons.mpr ⟨fun c hc => (List.mem_cons.mp hc).elim (fun e => e ▸ q) fun e => Nat.lt_trans q (h'.1 c e), h⟩, .refl _⟩
    · exact absurd (q ▸ List.mem_cons_self) n
    · obtain ⟨m, m1, m2⟩ := insU_up a r h'.2 fun e => n (List.mem_cons_of_mem _ e)
      refine ⟨b :: m, List.pairwise_cons.mpr ⟨fun c hc => ?_, m1⟩, (List.Perm.swap b a r).trans (m2.cons b)⟩
      exact (List.mem_cons.mp (m2.mem_iff.mpr hc)).elim (fun e => e ▸ q) (h'.1 c)
theorem up_of : ∀ {l : List Nat}, l.Nodup → ∃ m : List Nat, m.Pairwise (· < ·) ∧ l.Perm m
  | [], _ => ⟨[], .nil, .refl _⟩
  | a :: r, h => by
    have h' := List.nodup_cons.mp h
    obtain ⟨m, m1, m2⟩ := up_of h'.2
    obtain ⟨k, k1, k2⟩ := insU_up a m m1 fun e => h'.1 (m2.mem_iff.mpr e)
    exact ⟨k, k1, (m2.cons a).trans k2⟩
theorem good_iff {z : Str} : Good z ↔ z ≠ S [] ∧ (chars z).Nodup ∧ ∀ c ∈ z.cps.toList, c ∈ SIG := by
  refine ⟨fun ⟨l, ok, pm⟩ => ⟨fun e => ?_, nd_map1 (pm.nodup_iff.mpr (nd_up ok.up)), fun c hc => ok.sg c (pm.mem_iff.mp hc)⟩, fun ⟨ne, nd, sg⟩ => ?_⟩
  · rw [e] at pm
    exact ok.ne (List.nil_perm.mp pm)
  · obtain ⟨m, m1, m2⟩ := up_of (nd_unmap nd)
    refine ⟨m, ⟨fun e => ne ?_, m1, fun c hc => sg c (m2.mem_iff.mpr hc)⟩, m2⟩
    rw [e] at m2
    have e2 := m2.eq_nil
    exact (S_tl z).symm.trans (congrArg S e2)
/-- two rising lists with the same members are one -/
theorem up_eq {a b : List Nat} (ha : a.Pairwise (· < ·)) (hb : b.Pairwise (· < ·)) (h : ∀ c, c ∈ a ↔ c ∈ b) : a = b := by
  have p : a.Perm b := (List.perm_ext_iff_of_nodup (nd_up ha) (nd_up hb)).mpr h
  exact p.eq_of_pairwise (fun x y _ _ h1 h2 => absurd h1 (Nat.lt_asymm h2)) ha hb
theorem lkSign {a : V} : List.lookup (Str.ofString "sign") [(Str.ofString "sign", a)] = some a := rfl
theorem lkSigns {a b : V} : List.lookup (Str.ofString "signs") [(Str.ofString "signs", a), (Str.ofString "outside", b)] = some a := rfl
theorem lkOut {a b : V} : List.lookup (Str.ofString "outside") [(Str.ofString "signs", a), (Str.ofString "outside", b)] = some b := rfl
theorem pfNil {f : Str} {y : V} : putF f y [] = [(f, y)] := rfl
theorem pfOut {a y : V} : putF (Str.ofString "outside") y [(Str.ofString "signs", a)] = [(Str.ofString "signs", a), (Str.ofString "outside", y)] := rfl
theorem pfSign : True := trivial
theorem strEq {a b : String} : (Str.ofString a = Str.ofString b) = (a = b) := by
  refine propext ⟨fun h => ?_, fun h => by rw [h]⟩
  rw [Str.ofString_eq_toList, Str.ofString_eq_toList] at h
  have h1 : a.toList.map Char.toNat = b.toList.map Char.toNat := by
    have e := congrArg (fun x : Str => x.cps.toList) h
    exact e
  have h2 : a.toList = b.toList := by
    generalize a.toList = l at h1
    generalize b.toList = m at h1
    induction l generalizing m with
    | nil => cases m with
      | nil => rfl
      | cons d t => exact absurd h1 (by simp)
    | cons c r ih => cases m with
      | nil => exact absurd h1 (by simp)
      | cons d t =>
        rw [List.map_cons, List.map_cons] at h1
        injection h1 with h3 h4
        have e : c = d := Char.ext (UInt32.toNat_inj.mp h3)
        rw [e, ih t h4]
  exact String.toList_inj.mp h2
/-- lists of data, one of each -/
theorem dp_map {K : PySem.W.Frag} {H : Hp} {α : Type} (f : α → V) (d : α → PyData) (h : ∀ x, Dp K H (f x) (d x)) : ∀ l : List α, DpAll K H (l.map f) (l.map d)
  | [] => .nil
  | x :: r => .cons (h x) (dp_map f d h r)
/-! ### parts as objects -/
section
variable {K : PySem.W.Frag}
def PartO (K : PySem.W.Frag) (dx : Addr) : PF → HO
  | .one c => .ins (He.ga K "One") dx [("sign", .str (S [c]))]
  | .any => .ins (He.ga K "Any") dx []
  | .among l o => .ins (He.ga K "Among") dx [("signs", .str (S l)), ("outside", .bl o)]
  | .stars => .ins (He.ga K "Stars") dx []
def PartV (K : PySem.W.Frag) (f : PF) (v : V) (H : Hp) : Prop := ∃ p dx, v = .ref p ∧ H p = some (PartO K dx f)
theorem PartO.nl {dx : Addr} {f : PF} (l : List V) : PartO K dx f ≠ .lst l := by cases f <;> exact fun h => nomatch h
theorem PartV.nl {f : PF} {v : V} {H H' : Hp} (h : PartV K f v H) (e : NL H H') : PartV K f v H' := let ⟨p, dx, ev, hp⟩ := h; ⟨p, dx, ev, e _ _ hp PartO.nl⟩
theorem PartV.mono {f : PF} {v : V} {H H' : Hp} (h : PartV K f v H) (e : Same H H') : PartV K f v H' := h.nl (.of e)
end
theorem OkD.imp {P : Program} {w : World} {K : PySem.W.Frag} {mg : Str → Option Value} {base : Heap} {k : Nat} {f : Addr} {ps : List Str} {dvs : List V} {sp sp' : Sp} (h : OkD P w K mg base k f ps dvs sp) (i : ∀ vs H Q E, sp' vs H Q E → sp vs H Q E) : OkD P w K mg base k f ps dvs sp' := by
  obtain ⟨fd, ds, F, r⟩ := h
  exact ⟨fd, ds, F.imp i, r⟩
end SL

namespace SL
open PySem PySem.Spec PyProof.Rows L2
abbrev fA (K : PySem.W.Frag) (x : Str) : Addr := He.ga K x
abbrev mA (K : PySem.W.Frag) (C m : Str) : Addr := He.ma K (He.ga K C) m
structure Txt (K : PySem.W.Frag) (mg : Str → Option Value) : Prop where
  F_is_sign : ∃ fd, FunD K "is_sign" "is_sign" (defArgs TX.s_is_sign) (defBody TX.s_is_sign) (defScope TX.s_is_sign) [] [] (fA K "is_sign") fd
  F__law_cell : ∃ fd, FunD K "_law_cell" "_law_cell" (defArgs TX.s__law_cell) (defBody TX.s__law_cell) (defScope TX.s__law_cell) [] [] (fA K "_law_cell") fd
  F__law_signs : ∃ fd, FunD K "_law_signs" "_law_signs" (defArgs TX.s__law_signs) (defBody TX.s__law_signs) (defScope TX.s__law_signs) [] [] (fA K "_law_signs") fd
  F__law_part : ∃ fd, FunD K "_law_part" "_law_part" (defArgs TX.s__law_part) (defBody TX.s__law_part) (defScope TX.s__law_part) [] [] (fA K "_law_part") fd
  F__law_part_made : ∃ fd, FunD K "_law_part_made" "_law_part_made" (defArgs TX.s__law_part_made) (defBody TX.s__law_part_made) (defScope TX.s__law_part_made) [] [] (fA K "_law_part_made") fd
  F__law_fits : ∃ fd, FunD K "_law_fits" "_law_fits" (defArgs TX.s__law_fits) (defBody TX.s__law_fits) (defScope TX.s__law_fits) [] [] (fA K "_law_fits") fd
  F_law : ∃ fd, FunD K "law" "law" (defArgs TX.s_law) (defBody TX.s_law) (defScope TX.s_law) [] [] (fA K "law") fd
  F_Part_fits : ∃ fd, FunD K "fits" "Part.fits" (defArgs TX.s_Part_fits) (defBody TX.s_Part_fits) (defScope TX.s_Part_fits) [] [] (mA K "Part" "fits") fd
  F_Part_many : ∃ fd, FunD K "many" "Part.many" (defArgs TX.s_Part_many) (defBody TX.s_Part_many) (defScope TX.s_Part_many) [] [] (mA K "Part" "many") fd
  F_Part_told : ∃ fd, FunD K "told" "Part.told" (defArgs TX.s_Part_told) (defBody TX.s_Part_told) (defScope TX.s_Part_told) [] [] (mA K "Part" "told") fd
  F_Any_fits : ∃ fd, FunD K "fits" "Part.fits" (defArgs TX.s_Part_fits) (defBody TX.s_Part_fits) (defScope TX.s_Part_fits) [] [] (mA K "Any" "fits") fd
  F_Any_many : ∃ fd, FunD K "many" "Part.many" (defArgs TX.s_Part_many) (defBody TX.s_Part_many) (defScope TX.s_Part_many) [] [] (mA K "Any" "many") fd
  F_Any_told : ∃ fd, FunD K "told" "Part.told" (defArgs TX.s_Part_told) (defBody TX.s_Part_told) (defScope TX.s_Part_told) [] [] (mA K "Any" "told") fd
  F_One_fits : ∃ fd, FunD K "fits" "One.fits" (defArgs TX.s_One_fits) (defBody TX.s_One_fits) (defScope TX.s_One_fits) [] [] (mA K "One" "fits") fd
  F_One_many : ∃ fd, FunD K "many" "Part.many" (defArgs TX.s_Part_many) (defBody TX.s_Part_many) (defScope TX.s_Part_many) [] [] (mA K "One" "many") fd
  F_One_told : ∃ fd, FunD K "told" "One.told" (defArgs TX.s_One_told) (defBody TX.s_One_told) (defScope TX.s_One_told) [] [] (mA K "One" "told") fd
  F_One___init__ : ∃ fd, FunD K "__init__" "One.__init__" (defArgs TX.s_One___init__) (defBody TX.s_One___init__) (defScope TX.s_One___init__) [] [] (mA K "One" "__init__") fd
  F_Among_fits : ∃ fd, FunD K "fits" "Among.fits" (defArgs TX.s_Among_fits) (defBody TX.s_Among_fits) (defScope TX.s_Among_fits) [] [] (mA K "Among" "fits") fd
  F_Among_many : ∃ fd, FunD K "many" "Part.many" (defArgs TX.s_Part_many) (defBody TX.s_Part_many) (defScope TX.s_Part_many) [] [] (mA K "Among" "many") fd
  F_Among_told : ∃ fd, FunD K "told" "Among.told" (defArgs TX.s_Among_told) (defBody TX.s_Among_told) (defScope TX.s_Among_told) [] [] (mA K "Among" "told") fd
  F_Among___init__ : ∃ fd, FunD K "__init__" "Among.__init__" (defArgs TX.s_Among___init__) (defBody TX.s_Among___init__) (defScope TX.s_Among___init__) [V.bl false] [] (mA K "Among" "__init__") fd
  F_Stars_fits : ∃ fd, FunD K "fits" "Part.fits" (defArgs TX.s_Part_fits) (defBody TX.s_Part_fits) (defScope TX.s_Part_fits) [] [] (mA K "Stars" "fits") fd
  F_Stars_many : ∃ fd, FunD K "many" "Stars.many" (defArgs TX.s_Stars_many) (defBody TX.s_Stars_many) (defScope TX.s_Stars_many) [] [] (mA K "Stars" "many") fd
  F_Stars_told : ∃ fd, FunD K "told" "Stars.told" (defArgs TX.s_Stars_told) (defBody TX.s_Stars_told) (defScope TX.s_Stars_told) [] [] (mA K "Stars" "told") fd
  g_is_sign : mg "is_sign" = some (.ref (fA K "is_sign"))
  g__law_cell : mg "_law_cell" = some (.ref (fA K "_law_cell"))
  g__law_signs : mg "_law_signs" = some (.ref (fA K "_law_signs"))
  g__law_part : mg "_law_part" = some (.ref (fA K "_law_part"))
  g__law_part_made : mg "_law_part_made" = some (.ref (fA K "_law_part_made"))
  g__law_fits : mg "_law_fits" = some (.ref (fA K "_law_fits"))
  g_law : mg "law" = some (.ref (fA K "law"))
  g_ShunError : mg "ShunError" = some (.ref (fA K "ShunError"))
  k_ShunError : PySem.W.keepIn K (.ref (fA K "ShunError")) = true
  x_ShunError : ExcK K (fA K "ShunError")
  g_NoPart : mg "NoPart" = some (.ref (fA K "NoPart"))
  k_NoPart : PySem.W.keepIn K (.ref (fA K "NoPart")) = true
  x_NoPart : ExcK K (fA K "NoPart")
  g_Part : mg "Part" = some (.ref (fA K "Part"))
  k_Part : PySem.W.keepIn K (.ref (fA K "Part")) = true
  c_Part : Cls K (fA K "Part")
  m_Part_fits : Meth K (fA K "Part") "fits" (mA K "Part" "fits")
  m_Part_many : Meth K (fA K "Part") "many" (mA K "Part" "many")
  m_Part_told : Meth K (fA K "Part") "told" (mA K "Part" "told")
  g_Any : mg "Any" = some (.ref (fA K "Any"))
  k_Any : PySem.W.keepIn K (.ref (fA K "Any")) = true
  c_Any : Cls K (fA K "Any")
  m_Any_fits : Meth K (fA K "Any") "fits" (mA K "Any" "fits")
  m_Any_many : Meth K (fA K "Any") "many" (mA K "Any" "many")
  m_Any_told : Meth K (fA K "Any") "told" (mA K "Any" "told")
  g_One : mg "One" = some (.ref (fA K "One"))
  k_One : PySem.W.keepIn K (.ref (fA K "One")) = true
  c_One : Cls K (fA K "One")
  n_One_sign : NoAttr K (fA K "One") "sign"
  m_One_fits : Meth K (fA K "One") "fits" (mA K "One" "fits")
  m_One_many : Meth K (fA K "One") "many" (mA K "One" "many")
  m_One_told : Meth K (fA K "One") "told" (mA K "One" "told")
  m_One___init__ : Meth K (fA K "One") "__init__" (mA K "One" "__init__")
  mk_One : Mk K (fA K "One") (mA K "One" "__init__")
  g_Among : mg "Among" = some (.ref (fA K "Among"))
  k_Among : PySem.W.keepIn K (.ref (fA K "Among")) = true
  c_Among : Cls K (fA K "Among")
  n_Among_signs : NoAttr K (fA K "Among") "signs"
  n_Among_outside : NoAttr K (fA K "Among") "outside"
  m_Among_fits : Meth K (fA K "Among") "fits" (mA K "Among" "fits")
  m_Among_many : Meth K (fA K "Among") "many" (mA K "Among" "many")
  m_Among_told : Meth K (fA K "Among") "told" (mA K "Among" "told")
  m_Among___init__ : Meth K (fA K "Among") "__init__" (mA K "Among" "__init__")
  mk_Among : Mk K (fA K "Among") (mA K "Among" "__init__")
  g_Stars : mg "Stars" = some (.ref (fA K "Stars"))
  k_Stars : PySem.W.keepIn K (.ref (fA K "Stars")) = true
  c_Stars : Cls K (fA K "Stars")
  m_Stars_fits : Meth K (fA K "Stars") "fits" (mA K "Stars" "fits")
  m_Stars_many : Meth K (fA K "Stars") "many" (mA K "Stars" "many")
  m_Stars_told : Meth K (fA K "Stars") "told" (mA K "Stars" "told")
  s_SIGNS : ∃ t, mg "SIGNS" = some (.str "-.0123456789_abcdefghijklmnopqrstuvwxyz" t)
  fr_len : mg "len" = none
  fr_range : mg "range" = none
  fr_all : mg "all" = none
  fr_set : mg "set" = none
  fr_sorted : mg "sorted" = none
  fr_list : mg "list" = none
  mn_Part : MkN K (fA K "Part")
  mn_Any : MkN K (fA K "Any")
  mn_Stars : MkN K (fA K "Stars")
theorem Txt.obj {K : PySem.W.Frag} {mg : Str → Option Value} (T : Txt K mg) : Cls K (fA K "Part") ∧ Cls K (fA K "Any") ∧ Cls K (fA K "One") ∧ Cls K (fA K "Among") ∧ Cls K (fA K "Stars") ∧ NoAttr K (fA K "One") "sign" ∧ NoAttr K (fA K "Among") "signs" ∧ NoAttr K (fA K "Among") "outside" := ⟨T.c_Part, T.c_Any, T.c_One, T.c_Among, T.c_Stars, T.n_One_sign, T.n_Among_signs, T.n_Among_outside⟩
end SL
namespace SL
open PySem PySem.Spec PyProof.Rows L2
abbrev N_is_sign : List Str := ["thing"]
theorem sc_is_sign : FnScope ["thing"] ["thing"] (defScope TX.s_is_sign) := ⟨rfl, rfl, rfl, by decide +kernel, rfl, by decide +kernel, by decide +kernel⟩
abbrev N_Part_fits : List Str := ["self", "sign"]
theorem sc_Part_fits : FnScope ["self", "sign"] ["self", "sign"] (defScope TX.s_Part_fits) := ⟨rfl, rfl, rfl, by decide +kernel, rfl, by decide +kernel, by decide +kernel⟩
abbrev N_Part_many : List Str := ["self"]
theorem sc_Part_many : FnScope ["self"] ["self"] (defScope TX.s_Part_many) := ⟨rfl, rfl, rfl, by decide +kernel, rfl, by decide +kernel, by decide +kernel⟩
abbrev N_Part_told : List Str := ["self"]
theorem sc_Part_told : FnScope ["self"] ["self"] (defScope TX.s_Part_told) := ⟨rfl, rfl, rfl, by decide +kernel, rfl, by decide +kernel, by decide +kernel⟩
abbrev N_One___init__ : List Str := ["self", "sign"]
theorem sc_One___init__ : FnScope ["self", "sign"] ["self", "sign"] (defScope TX.s_One___init__) := ⟨rfl, rfl, rfl, by decide +kernel, rfl, by decide +kernel, by decide +kernel⟩
abbrev N_One_fits : List Str := ["self", "sign"]
theorem sc_One_fits : FnScope ["self", "sign"] ["self", "sign"] (defScope TX.s_One_fits) := ⟨rfl, rfl, rfl, by decide +kernel, rfl, by decide +kernel, by decide +kernel⟩
abbrev N_One_told : List Str := ["self"]
theorem sc_One_told : FnScope ["self"] ["self"] (defScope TX.s_One_told) := ⟨rfl, rfl, rfl, by decide +kernel, rfl, by decide +kernel, by decide +kernel⟩
abbrev N_Among___init__ : List Str := ["self", "signs", "outside", "sign"]
theorem sc_Among___init__ : FnScope ["self", "signs", "outside", "sign"] ["self", "signs", "outside"] (defScope TX.s_Among___init__) := ⟨rfl, rfl, rfl, by decide +kernel, rfl, by decide +kernel, by decide +kernel⟩
abbrev N_Among_fits : List Str := ["self", "sign"]
theorem sc_Among_fits : FnScope ["self", "sign"] ["self", "sign"] (defScope TX.s_Among_fits) := ⟨rfl, rfl, rfl, by decide +kernel, rfl, by decide +kernel, by decide +kernel⟩
abbrev N_Among_told : List Str := ["self"]
theorem sc_Among_told : FnScope ["self"] ["self"] (defScope TX.s_Among_told) := ⟨rfl, rfl, rfl, by decide +kernel, rfl, by decide +kernel, by decide +kernel⟩
abbrev N_Stars_many : List Str := ["self"]
theorem sc_Stars_many : FnScope ["self"] ["self"] (defScope TX.s_Stars_many) := ⟨rfl, rfl, rfl, by decide +kernel, rfl, by decide +kernel, by decide +kernel⟩
abbrev N_Stars_told : List Str := ["self"]
theorem sc_Stars_told : FnScope ["self"] ["self"] (defScope TX.s_Stars_told) := ⟨rfl, rfl, rfl, by decide +kernel, rfl, by decide +kernel, by decide +kernel⟩
abbrev N__law_cell : List Str := ["_law_script", "_law_k", "_law_cell_here", "_law_mark", "_law_high"]
theorem sc__law_cell : FnScope ["_law_script", "_law_k", "_law_cell_here", "_law_mark", "_law_high"] ["_law_script", "_law_k"] (defScope TX.s__law_cell) := ⟨rfl, rfl, rfl, by decide +kernel, rfl, by decide +kernel, by decide +kernel⟩
abbrev N__law_signs : List Str := ["_law_cell_here", "_law_all_signs", "_law_step", "_law_k"]
theorem sc__law_signs : FnScope ["_law_cell_here", "_law_all_signs", "_law_step", "_law_k"] ["_law_cell_here"] (defScope TX.s__law_signs) := ⟨rfl, rfl, rfl, by decide +kernel, rfl, by decide +kernel, by decide +kernel⟩
abbrev N__law_part : List Str := ["_law_cell_here", "_law_signs_here", "_law_way", "_law_one", "_law_some"]
theorem sc__law_part : FnScope ["_law_cell_here", "_law_signs_here", "_law_way", "_law_one", "_law_some"] ["_law_cell_here", "_law_signs_here"] (defScope TX.s__law_part) := ⟨rfl, rfl, rfl, by decide +kernel, rfl, by decide +kernel, by decide +kernel⟩
abbrev N__law_part_made : List Str := ["_law_form"]
theorem sc__law_part_made : FnScope ["_law_form"] ["_law_form"] (defScope TX.s__law_part_made) := ⟨rfl, rfl, rfl, by decide +kernel, rfl, by decide +kernel, by decide +kernel⟩
abbrev N__law_fits : List Str := ["_law_form", "_law_sign"]
theorem sc__law_fits : FnScope ["_law_form", "_law_sign"] ["_law_form", "_law_sign"] (defScope TX.s__law_fits) := ⟨rfl, rfl, rfl, by decide +kernel, rfl, by decide +kernel, by decide +kernel⟩
abbrev N_law : List Str := ["_law_script", "_law_k", "_law_cell_here", "_law_form", "_law_part_here", "_law_signs_here", "_law_sign"]
theorem sc_law : FnScope ["_law_script", "_law_k", "_law_cell_here", "_law_form", "_law_part_here", "_law_signs_here", "_law_sign"] ["_law_script"] (defScope TX.s_law) := ⟨rfl, rfl, rfl, by decide +kernel, rfl, by decide +kernel, by decide +kernel⟩
end SL
open PySem PySem.Spec PyProof.Rows L2 SL in
local macro_rules | `(tactic| walk_at "rd") => `(tactic| simp only [tVar, tC, tOp, tUn, tCall, tMeI, tMake, tMakN, tMakK, tCB, tCons, tNil, tTup, tLst, tTest, tB, tAnd, tOr, tNot, tAndV, tOrV, tNotV, tOrT, tAndT, tNotT, tIf, tIfS, tSeq, tAsg, gName, tRet, tRetN, tNext, tDrop, tBreak, tCont, tIsN, tNotN, tFld, sFld, tPart, tNoPart, tSl,
  rI, rI0, rU, rAddU, rMulU, rEqU, rNeU, rCmp, rInU, rNotInU, rIxU, rLenU, rLenW, rJoin, rCount, rListU, rRevU, rSetU, rSortedU, NewSet, NewSorted, tBM, SL.tyStr, rTupU, rAll, rAny, iU, iRng1, iRng2, wipe, SL.sameT, Int.zero_add, isRef, scal, Bool.or_true, Bool.true_or, Bool.or_false, Bool.false_or, Bool.or_self,
  L2.start, SL.cxK, SL.cxW, SL.cxP, SL.truBl, SL.truInt, SL.truNon, SL.truStr, SL.lenStr, List.map_cons, List.map_nil, List.length_cons, List.length_nil, List.replicate, List.nil_append, List.cons_append, List.append_nil, List.set_cons_zero, List.set_cons_succ, List.getElem?_cons_zero, List.getElem?_cons_succ, Nat.zero_add, Nat.reduceAdd, Nat.reduceSub, Nat.sub_self, Nat.add_sub_cancel,
  List.cons.injEq, V.int.injEq, V.str.injEq, V.bl.injEq, V.ref.injEq, Option.some.injEq, reduceCtorEq, exists_eq_left', exists_eq_left, exists_eq', exists_eq, exists_and_left, exists_and_right, and_true, true_and, false_and, and_false, false_or, or_false, decide_eq_true_eq, Bool.not_eq_true', decide_eq_false_iff_not, SL.ite_tt, SL.ite_ff, ne_eq, not_true_eq_false, not_false_eq_true, forall_eq, forall_eq', Bool.not_true, Bool.not_false, decide_true, decide_false, SL.le_sz, SL.lt_sz, SL.strEq, String.reduceEq, SL.PF.many, Nat.reduceLeDiff, Nat.reduceLT, Int.reduceLT, Int.reduceLE])

local macro_rules | `(tactic| walk_at "sm") => `(tactic| (first | exact L2.Same.refl _ | assumption | (repeat (first | exact L2.Same.refl _ | assumption | refine L2.Same.trans ?_ (SL.same_new (by assumption))))))
open PySem PySem.Spec PyProof.Rows L2 SL in
local macro_rules | `(tactic| walk_at "rdh") => `(tactic| (simp only [tVar, tC, tOp, tUn, tCall, tMeI, tMake, tMakN, tMakK, tCB, tCons, tNil, tTup, tLst, tTest, tB, tAnd, tOr, tNot, tAndV, tOrV, tNotV, tOrT, tAndT, tNotT, tIf, tIfS, tSeq, tAsg, gName, tRet, tRetN, tNext, tDrop, tBreak, tCont, tIsN, tNotN, tFld, sFld, tPart, tNoPart, tSl,
  rI, rI0, rU, rAddU, rMulU, rEqU, rNeU, rCmp, rInU, rNotInU, rIxU, rLenU, rLenW, rJoin, rCount, rListU, rRevU, rSetU, rSortedU, NewSet, NewSorted, tBM, SL.tyStr, rTupU, rAll, rAny, iU, iRng1, iRng2, wipe, SL.sameT, Int.zero_add, isRef, scal, Bool.or_true, Bool.true_or, Bool.or_false, Bool.false_or, Bool.or_self,
  L2.start, SL.cxK, SL.cxW, SL.cxP, SL.truBl, SL.truInt, SL.truNon, SL.truStr, SL.lenStr, List.map_cons, List.map_nil, List.length_cons, List.length_nil, List.replicate, List.nil_append, List.cons_append, List.append_nil, List.set_cons_zero, List.set_cons_succ, List.getElem?_cons_zero, List.getElem?_cons_succ, Nat.zero_add, Nat.reduceAdd, Nat.reduceSub, Nat.sub_self, Nat.add_sub_cancel,
  List.cons.injEq, V.int.injEq, V.str.injEq, V.bl.injEq, V.ref.injEq, Option.some.injEq, reduceCtorEq, exists_eq_left', exists_eq_left, exists_eq', exists_eq, exists_and_left, exists_and_right, and_true, true_and, false_and, and_false, false_or, or_false, decide_eq_true_eq, Bool.not_eq_true', decide_eq_false_iff_not, SL.ite_tt, SL.ite_ff, ne_eq, not_true_eq_false, not_false_eq_true, forall_eq, forall_eq', Bool.not_true, Bool.not_false, decide_true, decide_false, SL.le_sz, SL.lt_sz, SL.strEq, String.reduceEq, SL.PF.many, Nat.reduceLeDiff, Nat.reduceLT, Int.reduceLT, Int.reduceLE, SL.PartO, SL.lkSign, SL.lkSigns, SL.lkOut, SL.pfNil, SL.pfOut, L2.upd_same, L2.upd_upd, HO.ins.injEq, and_assoc, *]))
local macro_rules | `(tactic| walk_at "rdx") => `(tactic| (walk_at "rd"; repeat (refine ⟨_, Or.inr (by assumption), _, rfl, ?_⟩; try walk_at "rd")))
namespace SL
open PySem PySem.Spec PyProof.Rows L2 SX
section
variable {P : Program} {w : World} {K : PySem.W.Frag} {mg : Str → Option Value} {base : Heap}

/-! ### is_sign, the drawn numbers -/
def spIsSign : Sp := fun vs H Q _ => ∃ z, vs = [.str z] ∧ z.length ≤ sizeLine ∧ Q (.bl (decide (∃ c ∈ SIG, z = ⟨#[c]⟩))) H
theorem str_one {z : Str} (h : (z.length : Int) = 1) : ∃ c, z = ⟨#[c]⟩ := by
  obtain ⟨⟨l⟩⟩ := z
  have e : l.length = 1 := by
    have h' : ((l.length : Nat) : Int) = 1 := h
    omega
  match l, e with
  | [c], _ => exact ⟨c, rfl⟩
theorem ok_is_sign (T : Txt K mg) : OkD P w K mg base 1 (fA K "is_sign") ["thing"] [] spIsSign := by
  refine okD T.F_is_sign sc_is_sign (fun _ _ _ _ _ _ us hl => match us, hl with | [_], _ => rfl) ?_ ?_
  · rintro vs H Q E ⟨z, rfl, _⟩
    rfl
  · rintro cdv A outer s H vs Q E hr ⟨z, rfl, hz, q⟩
    refine ⟨_, (pss_one (ps_ret (pe_andK (K := K) (pe_cmpR (o_eq (K := K) (hu64 hr)) (pe_callB (o_lenW (K := K) (w := w)) (by rfl) T.fr_len boot_len (pa_cons (pv 0) pa_nil)) pe_int (nomark _)) (pe_one (pe_cmpR (o_in (K := K)) (pv 0) (pe_gstr rfl T.s_SIGNS) (by rfl)))))), ?_⟩
    walk_at "rd"
    rw [sizeLine_eq] at hz
    refine ⟨hz, ite2 (fun h => ?_) (fun h => ?_)⟩
    · obtain ⟨c, rfl⟩ := str_one h
      refine .inl ⟨c, rfl, ?_⟩
      have e : decide (∃ c' ∈ SIG, (⟨#[c]⟩ : Str) = ⟨#[c']⟩) = decide (c ∈ SIG) := by
        refine decide_eq_decide.mpr ⟨fun ⟨c', h1, h2⟩ => ?_, fun h1 => ⟨c, h1, rfl⟩⟩
        injection h2 with h2
        have h3 : c = c' := by simpa using h2
        rw [h3]
        exact h1
      rw [e] at q
      exact q
    · have e : decide (∃ c ∈ SIG, z = ⟨#[c]⟩) = false := decide_eq_false fun ⟨c, _, h2⟩ => h (by rw [h2]; rfl)
      rw [e] at q
      rw [decide_eq_false h]
      exact q
def spCell (K : PySem.W.Frag) : Sp := fun vs H Q _ => ∃ a k, ∃ ns : List Int, vs = [.ref a, .int k] ∧ SqL K H a (ns.map V.int) ∧ ns.length ≤ 63 ∧ 0 ≤ k ∧ k < 64 ∧ ∀ c, Q (.int c) H
theorem ok__law_cell (T : Txt K mg) : OkD P w K mg base 1 (fA K "_law_cell") ["_law_script", "_law_k"] [] (spCell K) := by
  refine okD T.F__law_cell sc__law_cell (fun _ _ _ _ _ _ us hl => match us, hl with | [_, _], _ => rfl) ?_ ?_
  · rintro vs H Q E ⟨a, k, ns, rfl, _⟩
    rfl
  · rintro cdv A outer s H vs Q E hr ⟨a, k, ns, rfl, hs, hn, h0, h1, q⟩
    refine ⟨_, (pss_cons (ps_set (i := 2) sc__law_cell.nd rfl (Or.inl rfl) (pe_mid (pe_ifExp (pt_cmpR o_lt (pv 1) (pe_callB (o_lenW (K := K) (w := w)) (by rfl) T.fr_len boot_len (pa_cons (pv 0) pa_nil)) (nomark _)) (pe_ix (o_ix (K := K)) (pv 0) (pv 1) (fun _ _ => rfl)) pe_int)))
  (pss_cons (ps_set (i := 3) sc__law_cell.nd rfl (Or.inl rfl) (pe_mid (pe_op op_mod (pe_op o_mul (pe_op (o_add (K := K)) (pe_op op_mod (pv 2) pe_int) (pe_op o_mul pe_int (pe_op (o_add (K := K)) (pv 1) pe_int))) pe_int) pe_int)))
  (pss_cons (ps_set (i := 3) sc__law_cell.nd rfl (Or.inl rfl) (pe_mid (pe_op op_mod (pe_op o_mul (pe_op op_mod (pe_op o_mul (pv 3) (pv 3)) pe_int) pe_int) pe_int)))
  (pss_cons (ps_set (i := 4) sc__law_cell.nd rfl (Or.inl rfl) (pe_mid (pe_op (o_add (K := K)) (pe_op o_mul (pe_op op_mod (pe_op op_fdivW (pv 2) pe_int) (pe_op op_pow pe_int pe_int)) pe_int) (pv 3))))
  (pss_one (ps_ret (pe_op (o_add (K := K)) (pe_op o_mul (pv 4) pe_int) (pe_op op_mod (pe_op o_mul (pv 3) (pv 3)) pe_int)))))))), ?_⟩
    have hl : LenV K (V.ref a) H (ns.map V.int).length := .inl ⟨_, hs, rfl⟩
    refine q_mid (fun _ => True) ?_ fun n _ => ?_
    · walk_at "rd"
      refine .inr ⟨_, hl, ite2 (fun hk => ?_) (fun _ => trivial)⟩
      obtain ⟨j, rfl⟩ : ∃ j : Nat, k = (j : Int) := ⟨k.toNat, by omega⟩
      have hj : j < (ns.map V.int).length := by omega
      have hj2 : j < ns.length := by rw [List.length_map] at hj; exact hj
      refine ⟨_, .inl hs, V.int ns[j], atI_nat ?_, _, rfl⟩
      rw [List.getElem?_map, List.getElem?_eq_getElem hj2]
      rfl
    have b : ∀ (x : Int), 0 ≤ x % 2147483647 ∧ x % 2147483647 < 2147483647 := fun x => ⟨Int.emod_nonneg _ (by decide), Int.emod_lt_of_pos _ (by decide)⟩
    have b2 : ∀ (x : Int), 0 ≤ x % 2147483629 ∧ x % 2147483629 < 2147483629 := fun x => ⟨Int.emod_nonneg _ (by decide), Int.emod_lt_of_pos _ (by decide)⟩
    have sm : ∀ (x y : Int), 0 ≤ x → x < 2147483647 → CMul x y := fun x y h1 h2 => .inl ⟨by omega, by omega⟩
    have sm2 : ∀ (x y : Int), 0 ≤ y → y ≤ 2147483647 → CMul x y := fun x y h1 h2 => .inr ⟨by omega, by omega⟩
    refine q_mid (fun m => 0 ≤ m ∧ m < 2147483647) ?_ fun m hm => ?_
    · walk_at "rd"
      exact ⟨sm _ _ (by decide) (by decide), sm2 _ _ (by decide) (by decide), b _⟩
    refine q_mid (fun m => 0 ≤ m ∧ m < 2147483647) ?_ fun m2 hm2 => ?_
    · walk_at "rd"
      exact ⟨sm _ _ hm.1 hm.2, sm2 _ _ (by decide) (by decide), b _⟩
    refine q_mid (fun _ => True) ?_ fun hgh _ => ?_
    · walk_at "rd"
      exact ⟨⟨by decide, by decide⟩, ⟨by decide, by decide, by decide⟩, by decide, sm2 _ _ (by decide) (by decide)⟩
    walk_at "rd"
    exact ⟨sm2 _ _ (by decide) (by decide), sm _ _ hm2.1 hm2.2, q _⟩
/-- four signs -/
def SignV (v : V) : Prop := ∃ c ∈ SIG, v = .str ⟨#[c]⟩
theorem sig_at {i : Int} (h0 : 0 ≤ i) (h1 : i < 39) : ∃ c ∈ SIG, atI SIG i = some c := by
  have hl : SIG.length = 39 := by decide +kernel
  obtain ⟨j, rfl⟩ : ∃ j : Nat, i = (j : Int) := ⟨i.toNat, by omega⟩
  have hj : j < SIG.length := by omega
  exact ⟨SIG[j], List.getElem_mem hj, atI_nat (List.getElem?_eq_getElem hj)⟩
def spSigns : Sp := fun vs H Q _ => ∃ c, vs = [.int c] ∧ ∀ p l H', l.length = 4 → (∀ v ∈ l, SignV v) → H p = none → Same H H' → H' p = some (.lst l) → Q (.ref p) H'
theorem ok__law_signs (T : Txt K mg) : OkD P w K mg base 1 (fA K "_law_signs") ["_law_cell_here"] [] spSigns := by
  refine okD T.F__law_signs sc__law_signs (fun _ _ _ _ _ _ us hl => match us, hl with | [_], _ => rfl) ?_ ?_
  · rintro vs H Q E ⟨c, rfl, _⟩
    rfl
  · rintro cdv A outer s H vs Q E hr ⟨c, rfl, q⟩
    refine ⟨_, (pss_cons (ps_set (i := 1) sc__law_signs.nd rfl (Or.inr rfl) pe_str)
  (pss_cons (ps_set (i := 2) sc__law_signs.nd rfl (Or.inr rfl) (pe_op o_mul pe_int (pe_op (o_add (K := K)) pe_int (pe_op op_mod (pe_op op_fdivW (pv 0) pe_int) pe_int))))
  (pss_one (ps_ret (pe_lc (own := [("_law_k", 3)]) (g := (gName 3)) (tt := tYes) rfl sc__law_signs.nd (pi_mid (pi_range1 rfl T.fr_range (pa_cons pe_int pa_nil))) (blkOk_by (N := N__law_signs) (sc := defScope TX.s__law_signs) (by decide +kernel)) (fun _ _ _ _ _ => (pg_name (i := 3) sc__law_signs.nd rfl (Or.inl rfl))) (fun _ _ _ _ _ => pts_nil) (fun _ _ _ _ _ => (pe_mid (pe_ix (o_ix (K := K)) (pv 1) (pe_op op_mod (pe_op (o_add (K := K)) (pv 0) (pe_op o_mul (pv 2) (pv 3))) pe_int) (fun _ _ => rfl))))))))), ?_⟩
    walk_at "rd"
    refine ⟨⟨by decide, by decide⟩, .inl ⟨by decide, by decide⟩, ?_⟩
    refine lc_mid (J0 := Itr 0 4) (H0 := H) ?_ walk_range (by decide) (fun _ acc _ => ∀ v ∈ acc, SignV v) (fun _ _ _ _ _ h => h) (fun _ h => nomatch h) (fun _ _ => trivial) (fun _ _ _ _ y => y_fn y) (fun _ => rfl) ?_ ?_
    · walk_at "rd"
      exact ⟨by decide, by decide, rfl⟩
    · rintro k x acc H' H'' hk sm hc ⟨rfl, rfl⟩
      walk_at "rd"
      refine ⟨.inl ⟨by omega, by omega⟩, by decide +kernel, ?_⟩
      obtain ⟨d, hd, e⟩ := sig_at (i := (c + 7 * (1 + c / 39 % 2) * k) % 39) (Int.emod_nonneg _ (by decide)) (Int.emod_lt_of_pos _ (by decide))
      refine ⟨d, e, fun v hv => ?_⟩
      rcases List.mem_append.mp hv with hv | hv
      · exact hc v hv
      · rw [List.mem_singleton.mp hv]
        exact ⟨d, hd, rfl⟩
    · intro p acc H' hp sm hD hl hc
      exact q p acc H' hl hc hp sm hD

def spPart (K : PySem.W.Frag) : Sp := fun vs H Q _ => ∃ c p ws, vs = [.int c, .ref p] ∧ SqL K H p ws ∧ ws.length = 4 ∧ (∀ v ∈ ws, SignV v) ∧ ∀ v f H', PF.Ok f → Same H H' → Dp K H' v f.d → Q v H'
theorem at4 {ws : List V} (hl : ws.length = 4) (hw : ∀ v ∈ ws, SignV v) (i : Int) : ∃ c ∈ SIG, atI ws (i % 4) = some (.str (S [c])) := by
  have h0 : 0 ≤ i % 4 := Int.emod_nonneg _ (by decide)
  have h1 : i % 4 < 4 := Int.emod_lt_of_pos _ (by decide)
  obtain ⟨j, hj⟩ : ∃ j : Nat, i % 4 = (j : Int) := ⟨(i % 4).toNat, by omega⟩
  have hj2 : j < ws.length := by omega
  obtain ⟨c, hc, e⟩ := hw ws[j] (List.getElem_mem hj2)
  refine ⟨c, hc, ?_⟩
  rw [hj]
  refine atI_nat ?_
  rw [List.getElem?_eq_getElem hj2, e]
theorem at5 {a b c d e : V} {i : Int} {Q : V → Prop} (h0 : 0 ≤ i) (h1 : i < 5) (h : Q a ∧ Q b ∧ Q c ∧ Q d ∧ Q e) : ∃ v, atI [a, b, c, d, e] i = some v ∧ Q v := by
  have : i = 0 ∨ i = 1 ∨ i = 2 ∨ i = 3 ∨ i = 4 := by omega
  rcases this with rfl | rfl | rfl | rfl | rfl
  · exact ⟨a, rfl, h.1⟩
  · exact ⟨b, rfl, h.2.1⟩
  · exact ⟨c, rfl, h.2.2.1⟩
  · exact ⟨d, rfl, h.2.2.2.1⟩
  · exact ⟨e, rfl, h.2.2.2.2⟩
theorem ok__law_part (T : Txt K mg) : OkD P w K mg base 1 (fA K "_law_part") ["_law_cell_here", "_law_signs_here"] [] (spPart K) := by
  refine okD T.F__law_part sc__law_part (fun _ _ _ _ _ _ us hl => match us, hl with | [_, _], _ => rfl) ?_ ?_
  · rintro vs H Q E ⟨c, p, ws, rfl, _⟩
    rfl
  · rintro cdv A outer s H vs Q E hr ⟨c, p, ws, rfl, hs, hl, hw, q⟩
    refine ⟨_, (pss_cons (ps_set (i := 2) sc__law_part.nd rfl (Or.inl rfl) (pe_op op_mod (pv 0) pe_int))
  (pss_cons (ps_set (i := 3) sc__law_part.nd rfl (Or.inl rfl) (pe_ix (o_ix (K := K)) (pv 1) (pe_op op_mod (pe_op op_fdivW (pv 0) pe_int) pe_int) (fun _ _ => rfl)))
  (pss_cons (ps_set (i := 4) sc__law_part.nd rfl (Or.inl rfl) (pe_mid (pe_bmK (K := K) PySem.F.plainAttrs_str PySem.F.slot_str_join PySem.F.type_str_join (mo_join (K := K)) pe_str (pa_cons (pe_callB (o_sorted (K := K) (w := w) rfl) (by rfl) T.fr_sorted (by decide +kernel) (pa_cons (pe_callTy (o_set (K := K) (w := w) rfl) (by rfl) T.fr_set (by decide +kernel) (pa_cons (pe_lst (pa_cons (pv 3) (pa_cons (pe_ix (o_ix (K := K)) (pv 1) (pe_op op_mod (pe_op op_fdivW (pv 0) pe_int) pe_int) (fun _ _ => rfl)) pa_nil))) pa_nil)) pa_nil)) pa_nil))))
  (pss_cons (ps_if (pt_cmpR o_lt (pv 2) pe_int (nomark _)) (pss_one (ps_ret (pe_tup (pa_cons pe_str (pa_cons (pv 3) pa_nil))))) pss_nil)
  (pss_one (ps_ret (pe_ix (o_ix (K := K)) (pe_lst (pa_cons (pe_tup (pa_cons pe_str pa_nil)) (pa_cons (pe_tup (pa_cons pe_str (pa_cons (pv 4) (pa_cons pe_bl pa_nil)))) (pa_cons (pe_tup (pa_cons pe_str (pa_cons (pv 4) (pa_cons pe_bl pa_nil)))) (pa_cons (pe_tup (pa_cons pe_str pa_nil)) (pa_cons (pe_tup (pa_cons pe_str pa_nil)) pa_nil)))))) (pe_op op_sub (pv 2) pe_int) (fun _ _ => rfl)))))))), ?_⟩
    obtain ⟨c1, hc1, e1⟩ := at4 hl hw (c / 11)
    obtain ⟨c2, hc2, e2⟩ := at4 hl hw (c / 44)
    walk_at "rd"
    refine ⟨⟨by decide, by decide⟩, ws, .inl hs, _, e1, ?_⟩
    refine mid_of (fun v H' => ∃ l, SigSet l ∧ v = .str (S l) ∧ Same H H') ?_ ?_
    · walk_at "rd"
      refine ⟨⟨by decide, by decide⟩, ws, .inl hs, _, e2, fun p1 hp1 => ⟨[S [c1], S [c2]], .inl (.inl upd_same), (by show (2 : Nat) < 1000; decide), fun p2 zs hp2 nd hz => .inl ⟨zs, upd_same, ?_, fun ys p3 pm so hp3 => ?_⟩⟩⟩
      · have e : zs.length ≤ 2 := str_nd_len zs [S [c1], S [c2]] nd fun x hx => (hz x).mp hx
        exact Nat.lt_of_le_of_lt e (by decide)
      · obtain ⟨cs, rfl, up, mem⟩ := sorted_signs pm so nd fun z hz' => by
          rcases List.mem_cons.mp ((hz z).mp hz') with rfl | h
          · exact ⟨_, rfl⟩
          · exact ⟨c2, List.mem_singleton.mp h⟩
        have sg : ∀ c ∈ cs, c ∈ SIG := fun c hc => by
          rcases List.mem_cons.mp ((hz _).mp ((mem c).mp hc)) with h | h
          · rw [S1_inj h]; exact hc1
          · rw [S1_inj (List.mem_singleton.mp h)]; exact hc2
        have ne : cs ≠ [] := fun e => by
          have h := (mem c1).mpr ((hz _).mpr List.mem_cons_self)
          rw [e] at h
          cases h
        have ok : SigSet cs := ⟨ne, up, sg⟩
        refine ⟨_, .inl (.inl (.inl upd_same)), ?_, cs, ok, join_chars cs, by walk_at "sm"⟩
        have e := len_chars cs
        have e2 := ok.len
        rw [show (Str.ofString "") = S [] from rfl, e]
        omega
    · rintro _ H1 ⟨l, hl, rfl, sm⟩
      refine ite2 (fun h6 => ?_) fun h6 => ?_
      · intro p1 hp1
        exact q _ (.one c1) _ hc1 (by walk_at "sm") (.tup (.inl (.inl upd_same)) (.cons (.str _) (.cons (.str _) .nil)))
      · intro p1 hp1 p2 hp2 p3 hp3 p4 hp4 p5 hp5 p6 hp6
        have h0 : 0 ≤ c % 11 := Int.emod_nonneg _ (by decide)
        have h1 : c % 11 < 11 := Int.emod_lt_of_pos _ (by decide)
        refine ⟨_, .inl (.inl (.inl upd_same)), at5 (by omega) (by omega) ?_⟩
        refine ⟨q _ .any _ trivial (by walk_at "sm") ?_, q _ (.among l false) _ hl (by walk_at "sm") ?_, q _ (.among l true) _ hl (by walk_at "sm") ?_, q _ .stars _ trivial (by walk_at "sm") ?_, q _ .stars _ trivial (by walk_at "sm") ?_⟩
        · exact dp_mono (by walk_at "sm") _ _ (.tup (.inl (.inl (upd_same (H := H1) (a := p1)))) (.cons (.str _) .nil))
        · exact dp_mono (by walk_at "sm") _ _ (.tup (.inl (.inl (upd_same (a := p2)))) (.cons (.str _) (.cons (.str _) (.cons (.bl _) .nil))))
        · exact dp_mono (by walk_at "sm") _ _ (.tup (.inl (.inl (upd_same (a := p3)))) (.cons (.str _) (.cons (.str _) (.cons (.bl _) .nil))))
        · exact dp_mono (by walk_at "sm") _ _ (.tup (.inl (.inl (upd_same (a := p4)))) (.cons (.str _) .nil))
        · exact dp_mono (by walk_at "sm") _ _ (.tup (.inl (.inl (upd_same (a := p5)))) (.cons (.str _) .nil))

/-! ### the parts -/
/-- all but p stays -/
def But (p : Addr) (H H' : Hp) : Prop := ∀ a o, a ≠ p → H a = some o → H' a = some o
theorem but_same {H H' : Hp} {p dx : Addr} {o u : HO} (h0 : H p = none) (h1 : H dx = none) (b : But p (upd (upd H dx u) p o) H') : Same H H' := fun a v e => by
  have n0 : a ≠ p := ne_of_none e h0
  refine b a v n0 ?_
  rw [upd_ne n0, upd_ne (ne_of_none e h1)]
  exact e
theorem But.upd {H : Hp} {p : Addr} {o : HO} : But p H (upd H p o) := fun a u n e => by rw [upd_ne n]; exact e
theorem But.same {H H1 H2 : Hp} {p : Addr} (s : Same H H1) (b : But p H1 H2) : But p H H2 := fun a o n e => b a o n (s a o e)
theorem OkD.mono {k j : Nat} {f : Addr} {ps : List Str} {dvs : List V} {sp : Sp} (h : OkD P w K mg base k f ps dvs sp) (e : k ≤ j) : OkD P w K mg base j f ps dvs sp := by
  obtain ⟨fd, ds, F, r⟩ := h
  exact ⟨fd, ds, F.mono e, r⟩
def spFits (K : PySem.W.Frag) (f : PF) : Sp := fun vs H Q _ => ∃ v c, vs = [v, .str (S [c])] ∧ PartV K f v H ∧ Q (.bl (f.fits c)) H
def spMany (K : PySem.W.Frag) (f : PF) : Sp := fun vs H Q _ => ∃ v, vs = [v] ∧ PartV K f v H ∧ Q (.bl f.many) H
def spToldP (K : PySem.W.Frag) (f : PF) : Sp := fun vs H Q _ => ∃ v, vs = [v] ∧ PartV K f v H ∧ ∀ u H', Same H H' → Dp K H' u f.d → Q u H'
theorem ok_Any_fits (T : Txt K mg) : OkD P w K mg base 1 (mA K "Any" "fits") ["self", "sign"] [] (spFits K .any) := by
  refine okD T.F_Any_fits sc_Part_fits (fun _ _ _ _ _ _ us hl => match us, hl with | [_, _], _ => rfl) ?_ ?_
  · rintro vs H Q E ⟨v, c, rfl, _⟩
    rfl
  · rintro cdv A outer s H vs Q E hr ⟨v, c, rfl, h, q⟩
    refine ⟨_, (pss_one (ps_ret pe_bl)), ?_⟩
    walk_at "rd"
    exact q
theorem ok_Stars_fits (T : Txt K mg) : OkD P w K mg base 1 (mA K "Stars" "fits") ["self", "sign"] [] (spFits K .stars) := by
  refine okD T.F_Stars_fits sc_Part_fits (fun _ _ _ _ _ _ us hl => match us, hl with | [_, _], _ => rfl) ?_ ?_
  · rintro vs H Q E ⟨v, c, rfl, _⟩
    rfl
  · rintro cdv A outer s H vs Q E hr ⟨v, c, rfl, h, q⟩
    refine ⟨_, (pss_one (ps_ret pe_bl)), ?_⟩
    walk_at "rd"
    exact q
theorem ok_One_fits {d : Nat} (T : Txt K mg) : OkD P w K mg base 1 (mA K "One" "fits") ["self", "sign"] [] (spFits K (.one d)) := by
  refine okD T.F_One_fits sc_One_fits (fun _ _ _ _ _ _ us hl => match us, hl with | [_, _], _ => rfl) ?_ ?_
  · rintro vs H Q E ⟨v, c, rfl, _⟩
    rfl
  · rintro cdv A outer s H vs Q E hr ⟨v, c, rfl, ⟨p, dx, rfl, hp⟩, q⟩
    refine ⟨_, (pss_one (ps_ret (pe_cmpR (o_eq (K := K) (hu64 hr)) (pv 1) (pe_fldK (K := K) (pv 0) rfl) (nomark _)))), ?_⟩
    have tobj := T.obj
    walk_at "rdh"
    have e : decide (S [c] = S [d]) = decide (c = d) := decide_eq_decide.mpr ⟨S1_inj, fun h => by rw [h]⟩
    rw [e]
    exact q
theorem b_ne (a b : Bool) : (!decide (a = b)) = (a != b) := by cases a <;> cases b <;> rfl
theorem ok_Among_fits {l : List Nat} {o : Bool} (T : Txt K mg) : OkD P w K mg base 1 (mA K "Among" "fits") ["self", "sign"] [] (spFits K (.among l o)) := by
  refine okD T.F_Among_fits sc_Among_fits (fun _ _ _ _ _ _ us hl => match us, hl with | [_, _], _ => rfl) ?_ ?_
  · rintro vs H Q E ⟨v, c, rfl, _⟩
    rfl
  · rintro cdv A outer s H vs Q E hr ⟨v, c, rfl, ⟨p, dx, rfl, hp⟩, q⟩
    refine ⟨_, (pss_one (ps_ret (pe_cmpR (o_ne (K := K) (hu64 hr)) (pe_cmpR (o_in (K := K)) (pv 1) (pe_fldK (K := K) (pv 0) rfl) (by rfl)) (pe_fldK (K := K) (pv 0) rfl) (nomark _)))), ?_⟩
    have tobj := T.obj
    walk_at "rdh"
    refine .inl ⟨c, rfl, ?_⟩
    rw [b_ne]
    exact q
theorem ok_Any_many (T : Txt K mg) : OkD P w K mg base 1 (mA K "Any" "many") ["self"] [] (spMany K .any) := by
  refine okD T.F_Any_many sc_Part_many (fun _ _ _ _ _ _ us hl => match us, hl with | [_], _ => rfl) ?_ ?_
  · rintro vs H Q E ⟨v, rfl, _⟩
    rfl
  · rintro cdv A outer s H vs Q E hr ⟨v, rfl, h, q⟩
    refine ⟨_, (pss_one (ps_ret pe_bl)), ?_⟩
    walk_at "rd"
    exact q
theorem ok_One_many {d : Nat} (T : Txt K mg) : OkD P w K mg base 1 (mA K "One" "many") ["self"] [] (spMany K (.one d)) := by
  refine okD T.F_One_many sc_Part_many (fun _ _ _ _ _ _ us hl => match us, hl with | [_], _ => rfl) ?_ ?_
  · rintro vs H Q E ⟨v, rfl, _⟩
    rfl
  · rintro cdv A outer s H vs Q E hr ⟨v, rfl, h, q⟩
    refine ⟨_, (pss_one (ps_ret pe_bl)), ?_⟩
    walk_at "rd"
    exact q
theorem ok_Among_many {l : List Nat} {o : Bool} (T : Txt K mg) : OkD P w K mg base 1 (mA K "Among" "many") ["self"] [] (spMany K (.among l o)) := by
  refine okD T.F_Among_many sc_Part_many (fun _ _ _ _ _ _ us hl => match us, hl with | [_], _ => rfl) ?_ ?_
  · rintro vs H Q E ⟨v, rfl, _⟩
    rfl
  · rintro cdv A outer s H vs Q E hr ⟨v, rfl, h, q⟩
    refine ⟨_, (pss_one (ps_ret pe_bl)), ?_⟩
    walk_at "rd"
    exact q
theorem ok_Stars_many (T : Txt K mg) : OkD P w K mg base 1 (mA K "Stars" "many") ["self"] [] (spMany K .stars) := by
  refine okD T.F_Stars_many sc_Stars_many (fun _ _ _ _ _ _ us hl => match us, hl with | [_], _ => rfl) ?_ ?_
  · rintro vs H Q E ⟨v, rfl, _⟩
    rfl
  · rintro cdv A outer s H vs Q E hr ⟨v, rfl, h, q⟩
    refine ⟨_, (pss_one (ps_ret pe_bl)), ?_⟩
    walk_at "rd"
    exact q
theorem ok_Any_told (T : Txt K mg) : OkD P w K mg base 1 (mA K "Any" "told") ["self"] [] (spToldP K .any) := by
  refine okD T.F_Any_told sc_Part_told (fun _ _ _ _ _ _ us hl => match us, hl with | [_], _ => rfl) ?_ ?_
  · rintro vs H Q E ⟨v, rfl, _⟩
    rfl
  · rintro cdv A outer s H vs Q E hr ⟨v, rfl, h, q⟩
    refine ⟨_, (pss_one (ps_ret (pe_tup (pa_cons pe_str pa_nil)))), ?_⟩
    walk_at "rd"
    intro p hp
    exact q _ _ (same_new hp) (.tup (.inl (.inl upd_same)) (.cons (.str _) .nil))
theorem ok_Stars_told (T : Txt K mg) : OkD P w K mg base 1 (mA K "Stars" "told") ["self"] [] (spToldP K .stars) := by
  refine okD T.F_Stars_told sc_Stars_told (fun _ _ _ _ _ _ us hl => match us, hl with | [_], _ => rfl) ?_ ?_
  · rintro vs H Q E ⟨v, rfl, _⟩
    rfl
  · rintro cdv A outer s H vs Q E hr ⟨v, rfl, h, q⟩
    refine ⟨_, (pss_one (ps_ret (pe_tup (pa_cons pe_str pa_nil)))), ?_⟩
    walk_at "rd"
    intro p hp
    exact q _ _ (same_new hp) (.tup (.inl (.inl upd_same)) (.cons (.str _) .nil))
theorem ok_One_told {d : Nat} (T : Txt K mg) : OkD P w K mg base 1 (mA K "One" "told") ["self"] [] (spToldP K (.one d)) := by
  refine okD T.F_One_told sc_One_told (fun _ _ _ _ _ _ us hl => match us, hl with | [_], _ => rfl) ?_ ?_
  · rintro vs H Q E ⟨v, rfl, _⟩
    rfl
  · rintro cdv A outer s H vs Q E hr ⟨v, rfl, ⟨p, dx, rfl, hp⟩, q⟩
    refine ⟨_, (pss_one (ps_ret (pe_tup (pa_cons pe_str (pa_cons (pe_fldK (K := K) (pv 0) rfl) pa_nil))))), ?_⟩
    have tobj := T.obj
    walk_at "rdh"
    intro r hr
    exact q _ _ (same_new hr) (.tup (.inl (.inl upd_same)) (.cons (.str _) (.cons (.str _) .nil)))
theorem ok_Among_told {l : List Nat} {o : Bool} (T : Txt K mg) : OkD P w K mg base 1 (mA K "Among" "told") ["self"] [] (spToldP K (.among l o)) := by
  refine okD T.F_Among_told sc_Among_told (fun _ _ _ _ _ _ us hl => match us, hl with | [_], _ => rfl) ?_ ?_
  · rintro vs H Q E ⟨v, rfl, _⟩
    rfl
  · rintro cdv A outer s H vs Q E hr ⟨v, rfl, ⟨p, dx, rfl, hp⟩, q⟩
    refine ⟨_, (pss_one (ps_ret (pe_tup (pa_cons pe_str (pa_cons (pe_fldK (K := K) (pv 0) rfl) (pa_cons (pe_fldK (K := K) (pv 0) rfl) pa_nil)))))), ?_⟩
    have tobj := T.obj
    walk_at "rdh"
    intro r hr
    exact q _ _ (same_new hr) (.tup (.inl (.inl upd_same)) (.cons (.str _) (.cons (.str _) (.cons (.bl _) .nil))))
section
variable {X : Cx}
theorem md_fits (T : Txt K mg) (h1 : X.prog = P := by rfl) (h2 : X.w = w := by rfl) (h3 : X.K = K := by rfl) (h4 : X.mg = mg := by rfl) (h5 : X.base = base := by rfl) : MetD X 2 "fits" (PartV K) (spFits K) := by
  subst h1 h2 h3 h4 h5
  rintro i x H ⟨p, dx, rfl, hp⟩
  cases i with
  | one c => exact ⟨p, _, dx, _, _, _, rfl, hp, T.c_One, T.m_One_fits, rfl, (ok_One_fits T).mono (by decide)⟩
  | any => exact ⟨p, _, dx, _, _, _, rfl, hp, T.c_Any, T.m_Any_fits, rfl, (ok_Any_fits T).mono (by decide)⟩
  | among l o => exact ⟨p, _, dx, _, _, _, rfl, hp, T.c_Among, T.m_Among_fits, rfl, (ok_Among_fits T).mono (by decide)⟩
  | stars => exact ⟨p, _, dx, _, _, _, rfl, hp, T.c_Stars, T.m_Stars_fits, rfl, (ok_Stars_fits T).mono (by decide)⟩
theorem md_many (T : Txt K mg) (h1 : X.prog = P := by rfl) (h2 : X.w = w := by rfl) (h3 : X.K = K := by rfl) (h4 : X.mg = mg := by rfl) (h5 : X.base = base := by rfl) : MetD X 2 "many" (PartV K) (spMany K) := by
  subst h1 h2 h3 h4 h5
  rintro i x H ⟨p, dx, rfl, hp⟩
  cases i with
  | one c => exact ⟨p, _, dx, _, _, _, rfl, hp, T.c_One, T.m_One_many, rfl, (ok_One_many T).mono (by decide)⟩
  | any => exact ⟨p, _, dx, _, _, _, rfl, hp, T.c_Any, T.m_Any_many, rfl, (ok_Any_many T).mono (by decide)⟩
  | among l o => exact ⟨p, _, dx, _, _, _, rfl, hp, T.c_Among, T.m_Among_many, rfl, (ok_Among_many T).mono (by decide)⟩
  | stars => exact ⟨p, _, dx, _, _, _, rfl, hp, T.c_Stars, T.m_Stars_many, rfl, (ok_Stars_many T).mono (by decide)⟩
theorem md_toldP (T : Txt K mg) (h1 : X.prog = P := by rfl) (h2 : X.w = w := by rfl) (h3 : X.K = K := by rfl) (h4 : X.mg = mg := by rfl) (h5 : X.base = base := by rfl) : MetD X 2 "told" (PartV K) (spToldP K) := by
  subst h1 h2 h3 h4 h5
  rintro i x H ⟨p, dx, rfl, hp⟩
  cases i with
  | one c => exact ⟨p, _, dx, _, _, _, rfl, hp, T.c_One, T.m_One_told, rfl, (ok_One_told T).mono (by decide)⟩
  | any => exact ⟨p, _, dx, _, _, _, rfl, hp, T.c_Any, T.m_Any_told, rfl, (ok_Any_told T).mono (by decide)⟩
  | among l o => exact ⟨p, _, dx, _, _, _, rfl, hp, T.c_Among, T.m_Among_told, rfl, (ok_Among_told T).mono (by decide)⟩
  | stars => exact ⟨p, _, dx, _, _, _, rfl, hp, T.c_Stars, T.m_Stars_told, rfl, (ok_Stars_told T).mono (by decide)⟩
end

/-! ### the parts made -/
def spOne (K : PySem.W.Frag) : Sp := fun vs H Q E => ∃ p dx z, vs = [.ref p, .str z] ∧ H p = some (.ins (fA K "One") dx []) ∧ z.length ≤ 1000 ∧
  (∀ c H', c ∈ SIG → z = S [c] → H' p = some (PartO K dx (.one c)) → But p H H' → Q .non H') ∧ ((¬ ∃ c ∈ SIG, z = S [c]) → E (.ref (fA K "NoPart")) none H)
theorem ok_One___init__ (T : Txt K mg) : OkD P w K mg base 2 (mA K "One" "__init__") ["self", "sign"] [] (spOne K) := by
  refine okD T.F_One___init__ sc_One___init__ (fun _ _ _ _ _ _ us hl => match us, hl with | [_, _], _ => rfl) ?_ ?_
  · rintro vs H Q E ⟨p, dx, z, rfl, _⟩
    rfl
  · rintro cdv A outer s H vs Q E hr ⟨p, dx, z, rfl, hp, hz, q1, q2⟩
    refine ⟨_, (pss_cons (ps_if (pt_not (pt_tru (K := K) (pe_cal (ok_is_sign T) (hr.mono (by decide)) rfl T.g_is_sign (pasE (takes_of rfl rfl rfl rfl) (fun _ _ _ _ h => h)) (pa_cons (pv 1) pa_nil)) (by intro _; rfl))) (pss_one (ps_raise rfl (takes_of rfl rfl rfl rfl) (pmk_own PySem.F.excBase_ValueError T.x_NoPart.1 T.g_NoPart T.x_NoPart.2.1 (raises_own T.x_NoPart.2.2.1 T.x_NoPart.2.2.2) rfl))) pss_nil)
  (pss_one (ps_fld (pv 0) (pv 1) rfl))), ?_⟩
    have tobj := T.obj
    walk_at "rdh"
    refine ⟨z, rfl, by rw [sizeLine_eq]; omega, ?_⟩
    walk_at "rdh"
    refine ite2 (fun h => ?_) fun h => ?_
    · exact q2 h
    · obtain ⟨c, hc, rfl⟩ := Classical.not_not.mp h
      exact q1 c _ hc rfl upd_same But.upd
def spAmong (K : PySem.W.Frag) : Sp := fun vs H Q E => ∃ p dx z o, vs = [.ref p, .str z, .bl o] ∧ H p = some (.ins (fA K "Among") dx []) ∧ z.length < 1000 ∧
  (∀ l H', SigSet l → z.cps.toList.Perm l → H' p = some (PartO K dx (.among l o)) → But p H H' → Q .non H') ∧ ((¬ ∃ l, SigSet l ∧ z.cps.toList.Perm l) → ∀ H', Same H H' → E (.ref (fA K "NoPart")) none H')
theorem bd_Among___init__ (T : Txt K mg) : BodyQ P w K mg base 1 (mA K "Among" "__init__") "Among.__init__" (defBody TX.s_Among___init__) (defScope TX.s_Among___init__) N_Among___init__ (spAmong K) := by
  rintro cdv A outer s H vs Q E hr ⟨p, dx, z, o, rfl, hp, hz, q1, q2⟩
  refine ⟨_, (pss_cons (ps_if (pt_mid (PW.pt (pw_or (pt_cmpR (o_eq (K := K) (hu64 hr)) (pv 1) pe_str (nomark _)) (pw_or (pt_cmpR o_lt (pe_callB (o_lenW (K := K) (w := w)) (by rfl) T.fr_len boot_len (pa_cons (pe_callTy (o_set (K := K) (w := w) rfl) (by rfl) T.fr_set (by decide +kernel) (pa_cons (pv 1) pa_nil)) pa_nil)) (pe_callB (o_lenW (K := K) (w := w)) (by rfl) T.fr_len boot_len (pa_cons (pv 1) pa_nil)) (nomark _)) (pw_or1 (pt_not (pt_tru (K := K) (pe_callB (o_all (K := K) rfl) (by rfl) T.fr_all (by decide +kernel) (pa_cons (pe_lc (own := [("sign", 3)]) (g := (gName 3)) (tt := tYes) rfl sc_Among___init__.nd (pi_mid (o_it (K := K) rfl (pv 1))) (blkOk_by (N := N_Among___init__) (sc := defScope TX.s_Among___init__) (by decide +kernel)) (fun _ _ _ _ _ => (pg_name (i := 3) sc_Among___init__.nd rfl (Or.inl rfl))) (fun _ _ _ _ _ => pts_nil) (fun _ _ _ _ _ => (pe_mid (pe_cal (ok_is_sign T) (hr.mono (by decide)) rfl T.g_is_sign pasN (pa_cons (pv 3) pa_nil))))) pa_nil)) (by intro _; rfl)))))))) (pss_one (ps_raise rfl (takes_of rfl rfl rfl rfl) (pmk_own PySem.F.excBase_ValueError T.x_NoPart.1 T.g_NoPart T.x_NoPart.2.1 (raises_own T.x_NoPart.2.2.1 T.x_NoPart.2.2.2) rfl))) pss_nil)
  (pss_cons (ps_fld (pv 0) (pe_mid (pe_bmK (K := K) PySem.F.plainAttrs_str PySem.F.slot_str_join PySem.F.type_str_join (mo_join (K := K)) pe_str (pa_cons (pe_callB (o_sorted (K := K) (w := w) rfl) (by rfl) T.fr_sorted (by decide +kernel) (pa_cons (pv 1) pa_nil)) pa_nil))) rfl)
  (pss_one (ps_fld (pv 0) (pv 2) rfl)))), ?_⟩
  have tobj := T.obj
  refine q_if (fun b H1 => Same H H1 ∧ (b = true ↔ ¬ Good z)) ?_ (fun H1 ⟨s1, e1⟩ => ?_) fun H1 ⟨s1, e1⟩ => ?_
  · walk_at "rd"
    refine ite2 (fun h => ?_) fun h => ?_
    · exact ⟨fun _ g => (good_iff.mp g).1 h, fun _ => trivial⟩
    have hch : (chars z).length = z.length := by unfold chars; rw [List.length_map, Array.length_toList]; rfl
    refine ⟨by rw [hch]; exact hz, fun a l ha nd hm => .inl ⟨l, upd_same, by omega, ?_⟩⟩
    have sa := same_new (o := SetS w a l) ha
    have el : ((l.length : Int) < (z.length : Int)) = ¬ (chars z).Nodup := by
      rw [← set_len nd hm, hch]
      exact propext Int.ofNat_lt
    refine ite2 (fun hn => ?_) fun hn => ?_
    · exact ⟨sa, fun _ g => (el ▸ hn) (good_iff.mp g).2.1, fun _ => trivial⟩
    rw [el] at hn
    refine lc_text (z := z) (H0 := upd H a (SetS w a l)) (fun c => .bl (decide (c ∈ SIG))) ?_ (by omega) (fun _ => rfl) ?_ ?_
    · walk_at "rd"
    · intro c H' hc s2
      walk_at "rd"
      refine ⟨⟨#[c]⟩, rfl, (by rw [sizeLine_eq]; show 1 ≤ 16777216; decide), ?_⟩
      walk_at "rd"
      refine decide_eq_decide.mpr ⟨fun ⟨d, hd, e⟩ => ?_, fun hd => ⟨c, hd, rfl⟩⟩
      rw [S1_inj e]
      exact hd
    · intro p' H' hp' s2 hH'
      walk_at "rd"
      refine ⟨z.cps.toList.map fun c => decide (c ∈ SIG), .inl (.inl (by rw [hH', List.map_map]; rfl)), ?_⟩
      refine ⟨sa.trans s2, ?_⟩
      have e : (z.cps.toList.map fun c => decide (c ∈ SIG)).all id = decide (∀ c ∈ z.cps.toList, c ∈ SIG) := by
        rw [List.all_map]
        refine Bool.eq_iff_iff.mpr ?_
        rw [List.all_eq_true, decide_eq_true_eq]
        exact ⟨fun h c hc => of_decide_eq_true (h c hc), fun h c hc => decide_eq_true (h c hc)⟩
      rw [e]
      rw [decide_eq_false_iff_not]
      exact ⟨fun hs g => hs (good_iff.mp g).2.2, fun hg hs => hg (good_iff.mpr ⟨h, Classical.not_not.mp hn, hs⟩)⟩
  · walk_at "rd"
    exact q2 (e1.mp rfl) _ s1
  · have g : Good z := Classical.not_not.mp fun n => nomatch e1.mpr n
    obtain ⟨g1, g2, g3⟩ := good_iff.mp g
    obtain ⟨l, ok, pm⟩ := g
    have hp1 := s1 _ _ hp
    have c1 := T.c_Among
    walk_at "rd"
    refine mid_of (fun v H' => v = .str (S l) ∧ Same H1 H') ?_ ?_
    · walk_at "rd"
      have el := pm.length_eq
      have e39 := ok.len
      have hch : (chars z).length = l.length := by unfold chars; rw [List.length_map, el]
      refine ⟨by omega, fun ys p' p1 so hp' => ?_⟩
      obtain ⟨cs, rfl, up, mem⟩ := sorted_signs p1 so g2 fun x hx => by
        obtain ⟨c, _, rfl⟩ := List.mem_map.mp hx
        exact ⟨c, rfl⟩
      have ec : cs = l := up_eq up ok.up fun c => by rw [mem, ← pm.mem_iff]; exact map1_mem
      subst ec
      refine ⟨_, .inl (.inl (.inl upd_same)), ?_, join_chars cs, same_new hp'⟩
      have e := len_chars cs
      rw [show (Str.ofString "") = S [] from rfl, e]
      omega
    · rintro _ H2 ⟨rfl, s2⟩
      have hp2 := s2 _ _ hp1
      walk_at "rdh"
      exact q1 l _ ok pm upd_same (.same (s1.trans s2) .upd)
theorem ok_Among___init___1 (T : Txt K mg) : OkD P w K mg base 2 (mA K "Among" "__init__") ["self", "signs", "outside"] [V.bl false] (spAmong K) := okDd T.F_Among___init__ sc_Among___init__ 2 0 (fun q => nomatch q) rfl (fun _ _ _ _ _ _ _ us its hl hi => match us, hl, its, hi with | [_, _], _, [_], _ => ⟨_, rfl, rfl⟩) (by rintro vs H Q E ⟨p, dx, z, o, rfl, _⟩; rfl) (bd_Among___init__ T)
theorem ok_Among___init__ (T : Txt K mg) : OkD P w K mg base 2 (mA K "Among" "__init__") ["self", "signs", "outside"] [] (spAmong K) := okDd T.F_Among___init__ sc_Among___init__ 3 1 (fun q => nomatch q) rfl (fun _ _ _ _ _ _ _ us its hl hi => match us, hl, its, hi with | [_, _, _], _, [_], _ => ⟨_, rfl, rfl⟩) (by rintro vs H Q E ⟨p, dx, z, o, rfl, _⟩; rfl) (bd_Among___init__ T)
theorem okk_Among___init___outside (T : Txt K mg) : OkK P w K mg base 2 (mA K "Among" "__init__") ["self", "signs", "outside"] 2 ["outside"] (spAmong K) := okK T.F_Among___init__ sc_Among___init__ 2 ["outside"] (fun q => nomatch q) (fun _ _ _ _ _ _ _ us its ws hl hi hw => match us, hl, its, hi, ws, hw with | [_, _], _, [_], _, [_], _ => ⟨_, rfl, rfl⟩) (by rintro vs H Q E ⟨p, dx, z, o, rfl, _⟩; rfl) (bd_Among___init__ T)

def PF.vs : PF → List V
  | .one c => [.str "one", .str (S [c])]
  | .any => [.str "any"]
  | .among l o => [.str "among", .str (S l), .bl o]
  | .stars => [.str "stars"]
theorem PF.inv {f : PF} {v : V} {H : Hp} (h : Dp K H v f.d) : ∃ a, v = .ref a ∧ SqT K H a f.vs := by
  cases f with
  | one c =>
    cases h with
    | tup hs ha => cases ha with | cons h1 ha => cases ha with | cons h2 ha => cases ha; cases h1; cases h2; exact ⟨_, rfl, hs⟩
  | any =>
    cases h with
    | tup hs ha => cases ha with | cons h1 ha => cases ha; cases h1; exact ⟨_, rfl, hs⟩
  | among l o =>
    cases h with
    | tup hs ha => cases ha with | cons h1 ha => cases ha with | cons h2 ha => cases ha with | cons h3 ha => cases ha; cases h1; cases h2; cases h3; exact ⟨_, rfl, hs⟩
  | stars =>
    cases h with
    | tup hs ha => cases ha with | cons h1 ha => cases ha; cases h1; exact ⟨_, rfl, hs⟩
def spMade (K : PySem.W.Frag) : Sp := fun vs H Q _ => ∃ v f, vs = [v] ∧ Dp K H v f.d ∧ PF.Ok f ∧ ∀ u H', Same H H' → PartV K f u H' → Q u H'
theorem ok__law_part_made (T : Txt K mg) : OkD P w K mg base 4 (fA K "_law_part_made") ["_law_form"] [] (spMade K) := by
  refine okD T.F__law_part_made sc__law_part_made (fun _ _ _ _ _ _ us hl => match us, hl with | [_], _ => rfl) ?_ ?_
  · rintro vs H Q E ⟨v, f, rfl, _⟩
    rfl
  · rintro cdv A outer s H vs Q E hr ⟨v, f, rfl, hd, ok, q⟩
    refine ⟨_, (pss_cons (ps_if (pt_mid (pt_cmpR (o_eq (K := K) (hu64 hr)) (pe_ix (o_ix (K := K)) (pv 0) pe_int (fun _ _ => rfl)) pe_str (nomark _))) (pss_one (ps_ret (pe_mak T.mk_One (ok_One___init__ T) (hr.mono (by decide)) rfl T.g_One (pasE (takes_of rfl rfl rfl rfl) (fun _ _ _ _ h => h)) (pa_cons (pe_ix (o_ix (K := K)) (pv 0) pe_int (fun _ _ => rfl)) pa_nil)))) pss_nil)
  (pss_cons (ps_if (pt_mid (pt_cmpR (o_eq (K := K) (hu64 hr)) (pe_ix (o_ix (K := K)) (pv 0) pe_int (fun _ _ => rfl)) pe_str (nomark _))) (pss_one (ps_ret (pe_makN T.mn_Any rfl T.g_Any))) pss_nil)
  (pss_cons (ps_if (pt_mid (pt_cmpR (o_eq (K := K) (hu64 hr)) (pe_ix (o_ix (K := K)) (pv 0) pe_int (fun _ _ => rfl)) pe_str (nomark _))) (pss_one (ps_ret (pe_mak T.mk_Among (ok_Among___init__ T) (hr.mono (by decide)) rfl T.g_Among (pasE (takes_of rfl rfl rfl rfl) (fun _ _ _ _ h => h)) (pa_cons (pe_ix (o_ix (K := K)) (pv 0) pe_int (fun _ _ => rfl)) (pa_cons (pe_ix (o_ix (K := K)) (pv 0) pe_int (fun _ _ => rfl)) pa_nil))))) pss_nil)
  (pss_one (ps_ret (pe_makN T.mn_Stars rfl T.g_Stars)))))), ?_⟩
    have tobj := T.obj
    obtain ⟨a, rfl, hs⟩ := PF.inv hd
    cases f with
    | one c =>
      refine q_if (fun b H1 => b = true ∧ H1 = H) (by walk_at "rdx") (fun H1 h => ?_) (fun H1 h => nomatch h.1)
      obtain ⟨_, rfl⟩ := h
      walk_at "rdx"
      intro x dx hx hdx hne
      refine ⟨x, dx, S [c], rfl, upd_same, (by show 1 ≤ 1000; decide), fun c' H' _ e h1 h2 => ⟨rfl, ?_⟩, fun n => absurd ⟨c, ok, rfl⟩ n⟩
      rw [← S1_inj e] at h1
      exact q _ _ (but_same hx hdx h2) ⟨x, dx, rfl, h1⟩
    | any =>
      refine q_if (fun b H1 => b = false ∧ H1 = H) (by walk_at "rdx") (fun H1 h => nomatch h.1) (fun H1 h => ?_)
      obtain ⟨_, rfl⟩ := h
      refine q_if (fun b H1' => b = true ∧ H1' = H1) (by walk_at "rdx") (fun H2 h => ?_) (fun H1 h => nomatch h.1)
      obtain ⟨_, rfl⟩ := h
      walk_at "rdx"
      intro x dx hx hdx hne
      exact q _ _ (but_same hx hdx (fun _ _ _ e => e)) ⟨x, dx, rfl, upd_same⟩
    | among l o =>
      refine q_if (fun b H1 => b = false ∧ H1 = H) (by walk_at "rdx") (fun H1 h => nomatch h.1) (fun H1 h => ?_)
      obtain ⟨_, rfl⟩ := h
      refine q_if (fun b H1' => b = false ∧ H1' = H1) (by walk_at "rdx") (fun H1 h => nomatch h.1) (fun H2 h => ?_)
      obtain ⟨_, rfl⟩ := h
      refine q_if (fun b H1' => b = true ∧ H1' = H2) (by walk_at "rdx") (fun H3 h => ?_) (fun H1 h => nomatch h.1)
      obtain ⟨_, rfl⟩ := h
      walk_at "rdx"
      intro x dx hx hdx hne
      refine ⟨x, dx, S l, o, rfl, upd_same, ?_, fun m H' ok' pm h1 h2 => ⟨rfl, ?_⟩, fun n => absurd ⟨l, ok, .refl _⟩ n⟩
      · rw [S_len]
        have := ok.len
        omega
      · have e : m = l := up_eq ok'.up ok.up fun c => pm.mem_iff.symm
        rw [e] at h1
        exact q _ _ (but_same hx hdx h2) ⟨x, dx, rfl, h1⟩
    | stars =>
      refine q_if (fun b H1 => b = false ∧ H1 = H) (by walk_at "rdx") (fun H1 h => nomatch h.1) (fun H1 h => ?_)
      obtain ⟨_, rfl⟩ := h
      refine q_if (fun b H1' => b = false ∧ H1' = H1) (by walk_at "rdx") (fun H1 h => nomatch h.1) (fun H2 h => ?_)
      obtain ⟨_, rfl⟩ := h
      refine q_if (fun b H1' => b = false ∧ H1' = H2) (by walk_at "rdx") (fun H1 h => nomatch h.1) (fun H3 h => ?_)
      obtain ⟨_, rfl⟩ := h
      walk_at "rdx"
      intro x dx hx hdx hne
      exact q _ _ (but_same hx hdx (fun _ _ _ e => e)) ⟨x, dx, rfl, upd_same⟩
def spFitsL (K : PySem.W.Frag) : Sp := fun vs H Q _ => ∃ v f c, vs = [v, .str (S [c])] ∧ Dp K H v f.d ∧ Q (.bl (PF.fits f c)) H
theorem ok__law_fits (T : Txt K mg) : OkD P w K mg base 1 (fA K "_law_fits") ["_law_form", "_law_sign"] [] (spFitsL K) := by
  refine okD T.F__law_fits sc__law_fits (fun _ _ _ _ _ _ us hl => match us, hl with | [_, _], _ => rfl) ?_ ?_
  · rintro vs H Q E ⟨v, f, c, rfl, _⟩
    rfl
  · rintro cdv A outer s H vs Q E hr ⟨v, f, c, rfl, hd, q⟩
    refine ⟨_, (pss_cons (ps_if (pt_mid (pt_cmpR (o_eq (K := K) (hu64 hr)) (pe_ix (o_ix (K := K)) (pv 0) pe_int (fun _ _ => rfl)) pe_str (nomark _))) (pss_one (ps_ret (pe_cmpR (o_eq (K := K) (hu64 hr)) (pv 1) (pe_ix (o_ix (K := K)) (pv 0) pe_int (fun _ _ => rfl)) (nomark _)))) pss_nil)
  (pss_cons (ps_if (pt_mid (pt_cmpR (o_eq (K := K) (hu64 hr)) (pe_ix (o_ix (K := K)) (pv 0) pe_int (fun _ _ => rfl)) pe_str (nomark _))) (pss_one (ps_ret (pe_cmpR (o_ne (K := K) (hu64 hr)) (pe_cmpR o_gt (pe_bmK (K := K) PySem.F.plainAttrs_str PySem.F.slot_str_count PySem.F.type_str_count mo_count (pe_ix (o_ix (K := K)) (pv 0) pe_int (fun _ _ => rfl)) (pa_cons (pv 1) pa_nil)) pe_int (nomark _)) (pe_ix (o_ix (K := K)) (pv 0) pe_int (fun _ _ => rfl)) (nomark _)))) pss_nil)
  (pss_one (ps_ret pe_bl)))), ?_⟩
    have tobj := T.obj
    obtain ⟨a, rfl, hs⟩ := PF.inv hd
    cases f with
    | one d =>
      refine q_if (fun b H1 => b = true ∧ H1 = H) (by walk_at "rdx") (fun H1 h => ?_) (fun H1 h => nomatch h.1)
      obtain ⟨_, rfl⟩ := h
      walk_at "rdx"
      have e : decide (S [c] = S [d]) = decide (c = d) := decide_eq_decide.mpr ⟨S1_inj, fun h => by rw [h]⟩
      rw [e]
      exact q
    | any =>
      refine q_if (fun b H1 => b = false ∧ H1 = H) (by walk_at "rdx") (fun H1 h => nomatch h.1) (fun H1 h => ?_)
      obtain ⟨_, rfl⟩ := h
      refine q_if (fun b H1' => b = false ∧ H1' = H1) (by walk_at "rdx") (fun H1 h => nomatch h.1) (fun H2 h => ?_)
      obtain ⟨_, rfl⟩ := h
      walk_at "rdx"
      exact q
    | among l o =>
      refine q_if (fun b H1 => b = false ∧ H1 = H) (by walk_at "rdx") (fun H1 h => nomatch h.1) (fun H1 h => ?_)
      obtain ⟨_, rfl⟩ := h
      refine q_if (fun b H1' => b = true ∧ H1' = H1) (by walk_at "rdx") (fun H3 h => ?_) (fun H1 h => nomatch h.1)
      obtain ⟨_, rfl⟩ := h
      walk_at "rdx"
      rw [show decide (0 < Txt.count (S l) (S [c])) = decide (c ∈ l) from decide_eq_decide.mpr (iff_of_eq (cnt_one l c)), b_ne]
      exact q
    | stars =>
      refine q_if (fun b H1 => b = false ∧ H1 = H) (by walk_at "rdx") (fun H1 h => nomatch h.1) (fun H1 h => ?_)
      obtain ⟨_, rfl⟩ := h
      refine q_if (fun b H1' => b = false ∧ H1' = H1) (by walk_at "rdx") (fun H1 h => nomatch h.1) (fun H2 h => ?_)
      obtain ⟨_, rfl⟩ := h
      walk_at "rdx"
      exact q

def spLaw (K : PySem.W.Frag) : Sp := fun vs H Q _ => ∃ a, ∃ ns : List Int, vs = [.ref a] ∧ SqL K H a (ns.map V.int) ∧ ns.length ≤ 63 ∧ ∀ H', Q (.bl true) H'
theorem ne_false {f : PF} (ok : f.Ok) : (!PyData.eqv f.d f.d) = false := by rw [(PF.dok ok).eqv]; rfl
/-- what is told of a part against its form -/
theorem ne_told {f : PF} {u v : V} {H : Hp} {Q : VK} (ok : f.Ok) (h1 : Dp K H u f.d) (h2 : Dp K H v f.d) (q : Q (.bl false) H) : rNeD K u v H Q := by
  refine ⟨f.d, f.d, h1, h2, (PF.dok ok).shaped (by decide), (PF.dok ok).shaped (by decide), ?_⟩
  rw [ne_false ok]
  exact q
theorem amk {H : Hp} {R : Addr → Hp → Prop} {E : XK} {l : List Nat} {z : Str} {o : Bool} (ok : SigSet l) (pm : z.cps.toList.Perm l) (q : ∀ u H', Same H H' → PartV K (.among l o) (.ref u) H' → R u H') :
    ∀ x dx, H x = none → H dx = none → ¬ dx = x → spAmong K [.ref x, .str z, .bl o] (upd (upd H dx (.own x)) x (.ins (fA K "Among") dx [])) (fun v H2 => v = .non ∧ R x H2) E := by
  intro x dx hx hdx hne
  refine ⟨x, dx, z, o, rfl, upd_same, ?_, fun m H' ok' pm' h1 h2 => ⟨rfl, ?_⟩, fun n => absurd ⟨l, ok, pm⟩ n⟩
  · have e : z.length = l.length := by rw [← pm.length_eq, Array.length_toList]; rfl
    have := ok.len
    omega
  · have e : m = l := up_eq ok'.up ok.up fun c => by rw [← pm'.mem_iff, pm.mem_iff]
    rw [e] at h1
    exact q _ _ (but_same hx hdx h2) ⟨x, dx, rfl, h1⟩
theorem sig_all : ∀ d ∈ (chars (S SIG)).map PyData.str, DOk 0 d := fun d hd => by
  obtain ⟨x, hx, rfl⟩ := List.mem_map.mp hd
  obtain ⟨c, hc, rfl⟩ := List.mem_map.mp hx
  exact dok_str (ok_signs fun d hd => by rw [List.mem_singleton.mp hd]; exact hc)
theorem law_len {vs : List V} {H : Hp} {Q : VK} {E : XK} (h : spLaw K vs H Q E) : vs.length = ["_law_script"].length := by
  obtain ⟨a, ns, rfl, _⟩ := h
  rfl
theorem law_sp {a : Addr} {ns : List Int} {H : Hp} (hs : SqL K H a (ns.map V.int)) (hl : ns.length ≤ 63) (hb : ∀ z ∈ ns, Builtin.Int.intBits z ≤ 1048576) : spLaw K [.ref a] H (fun v _ => v = .bl true) fun _ _ _ => False := ⟨a, ns, rfl, hs, hl, fun _ => rfl⟩
theorem bd_law (T : Txt K mg) : BodyQ P w K mg base 4 (fA K "law") "law" (defBody TX.s_law) (defScope TX.s_law) N_law (spLaw K) := by
    rintro cdv A outer s H vs Q E hr ⟨a, ns, rfl, hs, hn, q⟩
    refine ⟨_, (pss_cons (ps_if (pt_mid (PW.pt (pw_or (pt_cmpR (o_ne (K := K) (hu64 hr)) (pe_gstr rfl T.s_SIGNS) pe_str (nomark _)) (pw_or1 (pt_cmpR (o_ne (K := K) (hu64 hr)) (pe_callTy (o_list (K := K) rfl) (by rfl) T.fr_list (by decide +kernel) (pa_cons (pe_gstr rfl T.s_SIGNS) pa_nil)) (pe_callB (o_sorted (K := K) (w := w) rfl) (by rfl) T.fr_sorted (by decide +kernel) (pa_cons (pe_gstr rfl T.s_SIGNS) pa_nil)) (nomark _)))))) (pss_one (ps_ret pe_bl)) pss_nil)
  (pss_cons (ps_mid (ps_for (passes_of rfl) rfl (pi_mid (pi_range1 rfl T.fr_range (pa_cons (pe_callB (o_lenW (K := K) (w := w)) (by rfl) T.fr_len boot_len (pa_cons (pv 0) pa_nil)) pa_nil))) (pg_name (i := 1) sc_law.nd rfl (Or.inl rfl)) (pss_cons (ps_set (i := 2) sc_law.nd rfl (Or.inl rfl) (pe_mid (pe_cal (ok__law_cell T) (hr.mono (by decide)) rfl T.g__law_cell (pasE (takes_of rfl rfl rfl rfl) (fun _ _ _ _ h => h)) (pa_cons (pv 0) (pa_cons (pv 1) pa_nil)))))
  (pss_cons (ps_set (i := 3) sc_law.nd rfl (Or.inl rfl) (pe_mid (pe_cal (ok__law_part T) (hr.mono (by decide)) rfl T.g__law_part (pasE (takes_of rfl rfl rfl rfl) (fun _ _ _ _ h => h)) (pa_cons (pe_op op_fdivW (pv 2) pe_int) (pa_cons (pe_cal (ok__law_signs T) (hr.mono (by decide)) rfl T.g__law_signs (pasE (takes_of rfl rfl rfl rfl) (fun _ _ _ _ h => h)) (pa_cons (pv 2) pa_nil)) pa_nil)))))
  (pss_cons (ps_set (i := 4) sc_law.nd rfl (Or.inl rfl) (pe_mid (pe_cal (ok__law_part_made T) (hr.mono (by decide)) rfl T.g__law_part_made (pasE (takes_of rfl rfl rfl rfl) (fun _ _ _ _ h => h)) (pa_cons (pv 3) pa_nil))))
  (pss_cons (ps_mid (ps_if (pt_mid (pt_cmpR (o_eq (K := K) (hu64 hr)) (pe_ix (o_ix (K := K)) (pv 3) pe_int (fun _ _ => rfl)) pe_str (nomark _))) (pss_cons (ps_set (i := 5) sc_law.nd rfl (Or.inl rfl) (pe_mid (pe_rev (K := K) (pe_ix (o_ix (K := K)) (pv 3) pe_int (fun _ _ => rfl)))))
  (pss_cons (ps_set (i := 4) sc_law.nd rfl (Or.inl rfl) (pe_mid (pe_mak T.mk_Among (ok_Among___init__ T) (hr.mono (by decide)) rfl T.g_Among (pasE (takes_of rfl rfl rfl rfl) (fun _ _ _ _ h => h)) (pa_cons (pv 5) (pa_cons (pe_ix (o_ix (K := K)) (pv 3) pe_int (fun _ _ => rfl)) pa_nil)))))
  (pss_cons (ps_if (pt_mid (PW.pt (pw_and (pt_not (pt_tru (K := K) (pe_ix (o_ix (K := K)) (pv 3) pe_int (fun _ _ => rfl)) (by intro _; rfl))) (pw_and1 (pt_cmpR (o_ne (K := K) (hu64 hr)) (pe_metI0 (md_toldP T) (pe_mak T.mk_Among (ok_Among___init___1 T) (hr.mono (by decide)) rfl T.g_Among (pasE (takes_of rfl rfl rfl rfl) (fun _ _ _ _ h => h)) (pa_cons (pv 5) pa_nil)) (hr.mono (by decide)) (pasE (takes_of rfl rfl rfl rfl) (fun _ _ _ _ h => h))) (pv 3) (nomark _)))))) (pss_one (ps_ret pe_bl)) pss_nil)
  (pss_one (ps_if (pt_mid (pt_cmpR (o_ne (K := K) (hu64 hr)) (pe_metI0 (md_toldP T) (pe_makK T.mk_Among (okk_Among___init___outside T) (hr.mono (by decide)) rfl T.g_Among (pasE (takes_of rfl rfl rfl rfl) (fun _ _ _ _ h => h)) (pa_cons (pv 5) pa_nil) (pk_cons (pe_ix (o_ix (K := K)) (pv 3) pe_int (fun _ _ => rfl)) pk_nil)) (hr.mono (by decide)) (pasE (takes_of rfl rfl rfl rfl) (fun _ _ _ _ h => h))) (pv 3) (nomark _))) (pss_one (ps_ret pe_bl)) pss_nil))))) pss_nil))
  (pss_cons (ps_if (pt_mid (PW.pt (pw_or (pt_cmpR (o_ne (K := K) (hu64 hr)) (pe_metI0 (md_toldP T) (pv 4) (hr.mono (by decide)) (pasE (takes_of rfl rfl rfl rfl) (fun _ _ _ _ h => h))) (pv 3) (nomark _)) (pw_or1 (pt_cmpR (o_ne (K := K) (hu64 hr)) (pe_metI0 (md_many T) (pv 4) (hr.mono (by decide)) (pasE (takes_of rfl rfl rfl rfl) (fun _ _ _ _ h => h))) (pe_cmpR (o_eq (K := K) (hu64 hr)) (pe_ix (o_ix (K := K)) (pv 3) pe_int (fun _ _ => rfl)) pe_str (nomark _)) (nomark _)))))) (pss_one (ps_ret pe_bl)) pss_nil)
  (pss_one (ps_for (passes_of rfl) rfl (pi_mid (o_it (K := K) rfl (pe_gstr rfl T.s_SIGNS))) (pg_name (i := 6) sc_law.nd rfl (Or.inl rfl)) (pss_one (ps_if (pt_mid (pt_cmpR (o_ne (K := K) (hu64 hr)) (pe_metI (md_fits T) (pv 4) (hr.mono (by decide)) (pasE (takes_of rfl rfl rfl rfl) (fun _ _ _ _ h => h)) (pa_cons (pv 6) pa_nil)) (pe_cal (ok__law_fits T) (hr.mono (by decide)) rfl T.g__law_fits (pasE (takes_of rfl rfl rfl rfl) (fun _ _ _ _ h => h)) (pa_cons (pv 3) (pa_cons (pv 6) pa_nil))) (nomark _))) (pss_one (ps_ret pe_bl)) pss_nil)))))))))))
  (pss_one (ps_ret pe_bl)))), ?_⟩
    have tobj := T.obj
    refine q_if (fun b H1 => b = false ∧ Same H H1) ?_ (fun H1 h => nomatch h.1) (fun H1 h => ?_)
    · walk_at "rd"
      refine ite2 (fun h => h.elim) fun _ => ⟨by decide +kernel, fun p hp => ⟨by decide +kernel, fun ys p1 pm so hp1 => ?_⟩⟩
      obtain ⟨cs, rfl, up, mem⟩ := sorted_signs (zs := chars (S SIG)) pm so (nd_map1 sig_nd) fun z hz => by
        obtain ⟨c, _, rfl⟩ := List.mem_map.mp hz
        exact ⟨c, rfl⟩
      have ec : cs = SIG := up_eq up sig_up fun c => (mem c).trans map1_mem
      subst ec
      have dl := dok_lst sig_all
      refine ⟨.list ((chars (S SIG)).map PyData.str), .list ((chars (S SIG)).map PyData.str), .lst (.inl (.inl ?_)) (dp_map _ _ (fun x => .str x) _), .lst (.inl (.inl upd_same)) (dp_map _ _ (fun x => .str x) _), dl.shaped (by decide), dl.shaped (by decide), ?_⟩
      · exact (same_new hp1) _ _ upd_same
      · rw [dl.eqv]
        exact ⟨_, rfl, rfl, Same.trans (same_new hp) (same_new hp1)⟩
    obtain ⟨_, s1⟩ := h
    have hs1 := same_l s1 hs
    have hl : LenV K (V.ref a) H1 (ns.map V.int).length := .inl ⟨_, hs1, rfl⟩
    refine q_stm (fun σ H2 => Same H1 H2 ∧ ∃ x1 x2 x3 x4 x5 x6, σ = [some (.ref a), x1, x2, x3, x4, x5, x6]) ?_ ?_
    · refine for_mid (J0 := Itr 0 ns.length) (H0 := H1) ?_ walk_range (fun _ σ H2 => Same H1 H2 ∧ ∃ x1 x2 x3 x4 x5 x6, σ = [some (.ref a), x1, x2, x3, x4, x5, x6]) ⟨Same.refl _, _, _, _, _, _, _, rfl⟩ (fun _ _ _ _ _ => trivial) ?_ (fun _ _ h => h)
      · walk_at "rd"
        refine .inr ⟨_, hl, by omega, ?_, ?_⟩
        · rw [List.length_map]; omega
        · rw [List.length_map]; rfl
      rintro k x σ H2 H3 hk ⟨s2, x1, x2, x3, x4, x5, x6, rfl⟩ ⟨rfl, rfl⟩
      refine q_mid (fun _ => True) ?_ fun cell _ => ?_
      · walk_at "rd"
        exact ⟨a, _, ns, rfl, same_l s2 hs1, hn, by omega, by omega, fun c => ⟨rfl, c, rfl⟩⟩
      refine q_midG (fun v H' => Same H3 H' ∧ ∃ f, PF.Ok f ∧ Dp K H' v f.d) ?_ ?_
      · walk_at "rd"
        exact ⟨⟨by decide, by decide⟩, cell, rfl, fun p l H' hl4 hw hp sm hp' => ⟨_, p, l, rfl, .inl (.inl hp'), hl4, hw, fun v f H'' ok s hd => ⟨sm.trans s, f, ok, hd⟩⟩⟩
      rintro v H4 ⟨s4, f, ok, hd⟩
      refine q_midG (fun u H' => Same H4 H' ∧ PartV K f u H') ?_ ?_
      · walk_at "rd"
        exact ⟨v, f, rfl, hd, ok, fun u H' s h => ⟨s, h⟩⟩
      rintro u H5 ⟨s5, hu⟩
      have hd5 := dp_mono s5 _ _ hd
      obtain ⟨va, rfl, hv⟩ := PF.inv hd5
      refine q_stm (fun σ H' => Same H5 H' ∧ ∃ u' x, PartV K f u' H' ∧ σ = [some (.ref a), some (.int (0 + k)), some (.int cell), some (.ref va), some u', x, x6]) ?_ ?_
      · cases f with
        | one c =>
          refine l_if (fun b H1' => b = false ∧ H1' = H5) (by walk_at "rdx") (fun H1 h => nomatch h.1) (fun H1 h => ?_)
          obtain ⟨_, rfl⟩ := h
          exact ⟨Same.refl _, u, x5, hu, rfl⟩
        | any =>
          refine l_if (fun b H1' => b = false ∧ H1' = H5) (by walk_at "rdx") (fun H1 h => nomatch h.1) (fun H1 h => ?_)
          obtain ⟨_, rfl⟩ := h
          exact ⟨Same.refl _, u, x5, hu, rfl⟩
        | stars =>
          refine l_if (fun b H1' => b = false ∧ H1' = H5) (by walk_at "rdx") (fun H1 h => nomatch h.1) (fun H1 h => ?_)
          obtain ⟨_, rfl⟩ := h
          exact ⟨Same.refl _, u, x5, hu, rfl⟩
        | among l o =>
          refine l_if (fun b H1' => b = true ∧ H1' = H5) (by walk_at "rdx") (fun H6 h => ?_) (fun H1 h => nomatch h.1)
          obtain ⟨_, rfl⟩ := h
          have okl : SigSet l := ok
          have pmr : (S l.reverse).cps.toList.Perm l := List.reverse_perm l
          refine q_midG (fun v H' => v = .str (S l.reverse) ∧ H' = H6) ?_ ?_
          · walk_at "rdx"
            have := okl.len
            rw [S_len]
            omega
          rintro _ _ ⟨rfl, rfl⟩
          rename_i H6
          refine q_midG (fun u H' => Same H6 H' ∧ PartV K (.among l o) u H') ?_ ?_
          · walk_at "rdx"
            exact amk okl pmr fun u H' s h => ⟨s, h⟩
          rintro u' H7 ⟨s7, hu'⟩
          have hd7 := dp_mono s7 _ _ hd5
          have hv7 := same_t s7 hv
          refine q_if (fun b H' => b = false ∧ Same H7 H') ?_ (fun H1 h => nomatch h.1) (fun H8 h => ?_)
          · walk_at "rdx"
            refine ite2 (fun ho => ?_) fun _ => trivial
            subst ho
            exact amk okl pmr fun p H' sp hp => ⟨_, hp, _, rfl, hp, fun t H2 st ht => ne_told ok ht (dp_mono (sp.trans st) _ _ hd7) ⟨false, rfl, rfl, sp.trans st⟩⟩
          obtain ⟨_, s8⟩ := h
          have hd8 := dp_mono s8 _ _ hd7
          have hv8 := same_t s8 hv7
          refine l_if (fun b H' => b = false ∧ Same H8 H') ?_ (fun H1 h => nomatch h.1) (fun H9 h => ?_)
          · walk_at "rdx"
            exact amk okl pmr fun p H' sp hp => ⟨_, hp, _, rfl, hp, fun t H2 st ht => ne_told ok ht (dp_mono (sp.trans st) _ _ hd8) ⟨false, rfl, rfl, sp.trans st⟩⟩
          obtain ⟨_, s9⟩ := h
          exact ⟨(s7.trans s8).trans s9, u', some (.str (S l.reverse)), (hu'.mono s8).mono s9, rfl⟩
      · rintro σ H6 ⟨s6, u', x, hu', rfl⟩
        have hd6 := dp_mono s6 _ _ hd5
        have hv6 := same_t s6 hv
        refine q_if (fun b H' => b = false ∧ Same H6 H') ?_ (fun H1 h => nomatch h.1) (fun H7 h => ?_)
        · walk_at "rd"
          refine ⟨f, hu', u', rfl, hu', fun t H' st ht => ne_told ok ht (dp_mono st _ _ hd6) ⟨false, rfl, ?_⟩⟩
          have hv' := same_t st hv6
          walk_at "rd"
          refine ⟨f, hu'.mono st, u', rfl, hu'.mono st, ?_⟩
          cases f <;> walk_at "rdx" <;> exact st
        obtain ⟨_, s7⟩ := h
        have hd7 := dp_mono s7 _ _ hd6
        have hu7 := hu'.mono s7
        refine for_mid (J0 := Its (S SIG)) (H0 := H7) (by walk_at "rd"; rfl) walk_str (fun _ σ H' => Same H7 H' ∧ ∃ y, σ = [some (.ref a), some (.int (0 + k)), some (.int cell), some (.ref va), some u', x, y]) ⟨Same.refl _, _, rfl⟩ (fun _ _ _ _ _ => trivial) ?_ (fun σ H' h => ?_)
        · rintro j y σ H8 H9 hj ⟨s8, y', rfl⟩ ⟨rfl, c, hc, rfl⟩
          refine l_if (fun b H' => b = false ∧ H' = H9) ?_ (fun H1 h => nomatch h.1) (fun H10 h => ?_)
          · walk_at "rd"
            refine ⟨f, hu7.mono s8, u', c, rfl, hu7.mono s8, _, f, c, rfl, dp_mono s8 _ _ hd7, ?_⟩
            walk_at "rd"
          obtain ⟨_, rfl⟩ := h
          exact ⟨s8, _, rfl⟩
        · obtain ⟨s8, y, rfl⟩ := h
          exact ⟨((((s2.trans s4).trans s5).trans s6).trans s7).trans s8, _, _, _, _, _, _, rfl⟩
    · rintro σ H2 ⟨s2, x1, x2, x3, x4, x5, x6, rfl⟩
      walk_at "rd"
      exact q _

end
end SL
namespace HD
open PySem PySem.Spec PyProof.Rows L2
def fn : List He.DefD := [
  ⟨("is_sign", none), "is_sign", "is_sign", defArgs TX.s_is_sign, defBody TX.s_is_sign, defScope TX.s_is_sign, [], []⟩,
  ⟨("_law_cell", none), "_law_cell", "_law_cell", defArgs TX.s__law_cell, defBody TX.s__law_cell, defScope TX.s__law_cell, [], []⟩,
  ⟨("_law_signs", none), "_law_signs", "_law_signs", defArgs TX.s__law_signs, defBody TX.s__law_signs, defScope TX.s__law_signs, [], []⟩,
  ⟨("_law_part", none), "_law_part", "_law_part", defArgs TX.s__law_part, defBody TX.s__law_part, defScope TX.s__law_part, [], []⟩,
  ⟨("_law_part_made", none), "_law_part_made", "_law_part_made", defArgs TX.s__law_part_made, defBody TX.s__law_part_made, defScope TX.s__law_part_made, [], []⟩,
  ⟨("_law_fits", none), "_law_fits", "_law_fits", defArgs TX.s__law_fits, defBody TX.s__law_fits, defScope TX.s__law_fits, [], []⟩,
  ⟨("law", none), "law", "law", defArgs TX.s_law, defBody TX.s_law, defScope TX.s_law, [], []⟩,
  ⟨("Part", some "fits"), "fits", "Part.fits", defArgs TX.s_Part_fits, defBody TX.s_Part_fits, defScope TX.s_Part_fits, [], []⟩,
  ⟨("Part", some "many"), "many", "Part.many", defArgs TX.s_Part_many, defBody TX.s_Part_many, defScope TX.s_Part_many, [], []⟩,
  ⟨("Part", some "told"), "told", "Part.told", defArgs TX.s_Part_told, defBody TX.s_Part_told, defScope TX.s_Part_told, [], []⟩,
  ⟨("Any", some "fits"), "fits", "Part.fits", defArgs TX.s_Part_fits, defBody TX.s_Part_fits, defScope TX.s_Part_fits, [], []⟩,
  ⟨("Any", some "many"), "many", "Part.many", defArgs TX.s_Part_many, defBody TX.s_Part_many, defScope TX.s_Part_many, [], []⟩,
  ⟨("Any", some "told"), "told", "Part.told", defArgs TX.s_Part_told, defBody TX.s_Part_told, defScope TX.s_Part_told, [], []⟩,
  ⟨("One", some "fits"), "fits", "One.fits", defArgs TX.s_One_fits, defBody TX.s_One_fits, defScope TX.s_One_fits, [], []⟩,
  ⟨("One", some "many"), "many", "Part.many", defArgs TX.s_Part_many, defBody TX.s_Part_many, defScope TX.s_Part_many, [], []⟩,
  ⟨("One", some "told"), "told", "One.told", defArgs TX.s_One_told, defBody TX.s_One_told, defScope TX.s_One_told, [], []⟩,
  ⟨("One", some "__init__"), "__init__", "One.__init__", defArgs TX.s_One___init__, defBody TX.s_One___init__, defScope TX.s_One___init__, [], []⟩,
  ⟨("Among", some "fits"), "fits", "Among.fits", defArgs TX.s_Among_fits, defBody TX.s_Among_fits, defScope TX.s_Among_fits, [], []⟩,
  ⟨("Among", some "many"), "many", "Part.many", defArgs TX.s_Part_many, defBody TX.s_Part_many, defScope TX.s_Part_many, [], []⟩,
  ⟨("Among", some "told"), "told", "Among.told", defArgs TX.s_Among_told, defBody TX.s_Among_told, defScope TX.s_Among_told, [], []⟩,
  ⟨("Among", some "__init__"), "__init__", "Among.__init__", defArgs TX.s_Among___init__, defBody TX.s_Among___init__, defScope TX.s_Among___init__, [.bl false], []⟩,
  ⟨("Stars", some "fits"), "fits", "Part.fits", defArgs TX.s_Part_fits, defBody TX.s_Part_fits, defScope TX.s_Part_fits, [], []⟩,
  ⟨("Stars", some "many"), "many", "Stars.many", defArgs TX.s_Stars_many, defBody TX.s_Stars_many, defScope TX.s_Stars_many, [], []⟩,
  ⟨("Stars", some "told"), "told", "Stars.told", defArgs TX.s_Stars_told, defBody TX.s_Stars_told, defScope TX.s_Stars_told, [], []⟩]
def fa : List He.Fa := [.glo "is_sign", .glo "_law_cell", .glo "_law_signs", .glo "_law_part", .glo "_law_part_made", .glo "_law_fits", .glo "law", .glo "ShunError", .keep "ShunError", .exc "ShunError", .glo "NoPart", .keep "NoPart", .exc "NoPart", .glo "Part", .keep "Part", .cls "Part", .meth "Part" "fits", .meth "Part" "many", .meth "Part" "told", .glo "Any", .keep "Any", .cls "Any", .meth "Any" "fits", .meth "Any" "many", .meth "Any" "told", .glo "One", .keep "One", .cls "One", .noat "One" "sign", .meth "One" "fits", .meth "One" "many", .meth "One" "told", .meth "One" "__init__", .mkr "One", .glo "Among", .keep "Among", .cls "Among", .noat "Among" "signs", .noat "Among" "outside", .meth "Among" "fits", .meth "Among" "many", .meth "Among" "told", .meth "Among" "__init__", .mkr "Among", .glo "Stars", .keep "Stars", .cls "Stars", .meth "Stars" "fits", .meth "Stars" "many", .meth "Stars" "told", .str "SIGNS" "-.0123456789_abcdefghijklmnopqrstuvwxyz", .free "len", .free "range", .free "all", .free "set", .free "sorted", .free "list"]
def mkn (K : PySem.W.Frag) (x : Str) : Bool := PySem.W.makesIn K (He.ga K x) && (He.eqO (PySem.W.findIn K (.ref (He.ga K x)) "__init__") (some (some (.builtin "object.__init__"))) && PySem.W.keepIn K (.ref (He.ga K x)))
def ex (K : PySem.W.Frag) : Bool := (["Part", "Any", "Stars"] : List Str).all (mkn K)
theorem mkn_ok {K : PySem.W.Frag} {x : Str} (h : ex K = true) (m : x ∈ (["Part", "Any", "Stars"] : List Str)) : SL.MkN K (He.ga K x) := by
  have e := List.all_eq_true.mp h x m
  unfold mkn at e
  rw [Bool.and_eq_true, Bool.and_eq_true] at e
  exact ⟨e.1, He.eqO_ok e.2.1, e.2.2⟩
abbrev R : PySem.W.OpenRow := PySem.W.OpenLaw.row PySem.Challenge.rw_shunlist_k11_parts
abbrev hk : PySem.W.Hook := He.hookX 5 fa fn [] [] ex
def ob (s : PySem.W.SharedT) : He.AlX := He.obsX 5 fa fn [] [] ex (HandSHeadRun.getT s)
theorem ob_eq (s : PySem.W.SharedT) : ob s = hk.obs s.abs := He.obsX_eq (HandSHeadRun.getT_eq s)
def loose : List Str := (["ShunError", "NoPart", "SIGNS", "is_sign", "Part", "Any", "One", "Among", "Stars", "_law_cell", "_law_signs", "_law_part", "_law_part_made", "_law_fits"] : List Str)
theorem run (w : World) : HandSHeadRun.RunEq R (PySem.W.view R.prog [17]) hk ob 3000 loose w := by
  intro os
  kernel_rfl
end HD
namespace SL
open PySem PySem.Spec PyProof.Rows L2
theorem txt_of {w : World} {K : PySem.W.Frag} {h : Heap} {mg : Str → Option Value} (X : K.In h) (G : h.Ns mainGlobals mg) (c : He.SaysX HD.fa HD.fn [] [] HD.ex w h K) : Txt K mg where
  F_is_sign := c.t.d.def_ 0 rfl
  F__law_cell := c.t.d.def_ 1 rfl
  F__law_signs := c.t.d.def_ 2 rfl
  F__law_part := c.t.d.def_ 3 rfl
  F__law_part_made := c.t.d.def_ 4 rfl
  F__law_fits := c.t.d.def_ 5 rfl
  F_law := c.t.d.def_ 6 rfl
  F_Part_fits := c.t.d.def_ 7 rfl
  F_Part_many := c.t.d.def_ 8 rfl
  F_Part_told := c.t.d.def_ 9 rfl
  F_Any_fits := c.t.d.def_ 10 rfl
  F_Any_many := c.t.d.def_ 11 rfl
  F_Any_told := c.t.d.def_ 12 rfl
  F_One_fits := c.t.d.def_ 13 rfl
  F_One_many := c.t.d.def_ 14 rfl
  F_One_told := c.t.d.def_ 15 rfl
  F_One___init__ := c.t.d.def_ 16 rfl
  F_Among_fits := c.t.d.def_ 17 rfl
  F_Among_many := c.t.d.def_ 18 rfl
  F_Among_told := c.t.d.def_ 19 rfl
  F_Among___init__ := c.t.d.def_ 20 rfl
  F_Stars_fits := c.t.d.def_ 21 rfl
  F_Stars_many := c.t.d.def_ 22 rfl
  F_Stars_told := c.t.d.def_ 23 rfl
  g_is_sign := He.glo_ok X G (c.t.d.fact 0 (f := .glo "is_sign") rfl)
  g__law_cell := He.glo_ok X G (c.t.d.fact 1 (f := .glo "_law_cell") rfl)
  g__law_signs := He.glo_ok X G (c.t.d.fact 2 (f := .glo "_law_signs") rfl)
  g__law_part := He.glo_ok X G (c.t.d.fact 3 (f := .glo "_law_part") rfl)
  g__law_part_made := He.glo_ok X G (c.t.d.fact 4 (f := .glo "_law_part_made") rfl)
  g__law_fits := He.glo_ok X G (c.t.d.fact 5 (f := .glo "_law_fits") rfl)
  g_law := He.glo_ok X G (c.t.d.fact 6 (f := .glo "law") rfl)
  g_ShunError := He.glo_ok X G (c.t.d.fact 7 (f := .glo "ShunError") rfl)
  k_ShunError := He.keep_ok (c.t.d.fact 8 (f := .keep "ShunError") rfl)
  x_ShunError := He.exc_ok (c.t.d.fact 9 (f := .exc "ShunError") rfl)
  g_NoPart := He.glo_ok X G (c.t.d.fact 10 (f := .glo "NoPart") rfl)
  k_NoPart := He.keep_ok (c.t.d.fact 11 (f := .keep "NoPart") rfl)
  x_NoPart := He.exc_ok (c.t.d.fact 12 (f := .exc "NoPart") rfl)
  g_Part := He.glo_ok X G (c.t.d.fact 13 (f := .glo "Part") rfl)
  k_Part := He.keep_ok (c.t.d.fact 14 (f := .keep "Part") rfl)
  c_Part := He.cls_ok (c.t.d.fact 15 (f := .cls "Part") rfl)
  m_Part_fits := He.meth_ok (c.t.d.fact 16 (f := .meth "Part" "fits") rfl)
  m_Part_many := He.meth_ok (c.t.d.fact 17 (f := .meth "Part" "many") rfl)
  m_Part_told := He.meth_ok (c.t.d.fact 18 (f := .meth "Part" "told") rfl)
  g_Any := He.glo_ok X G (c.t.d.fact 19 (f := .glo "Any") rfl)
  k_Any := He.keep_ok (c.t.d.fact 20 (f := .keep "Any") rfl)
  c_Any := He.cls_ok (c.t.d.fact 21 (f := .cls "Any") rfl)
  m_Any_fits := He.meth_ok (c.t.d.fact 22 (f := .meth "Any" "fits") rfl)
  m_Any_many := He.meth_ok (c.t.d.fact 23 (f := .meth "Any" "many") rfl)
  m_Any_told := He.meth_ok (c.t.d.fact 24 (f := .meth "Any" "told") rfl)
  g_One := He.glo_ok X G (c.t.d.fact 25 (f := .glo "One") rfl)
  k_One := He.keep_ok (c.t.d.fact 26 (f := .keep "One") rfl)
  c_One := He.cls_ok (c.t.d.fact 27 (f := .cls "One") rfl)
  n_One_sign := He.noat_ok (c.t.d.fact 28 (f := .noat "One" "sign") rfl)
  m_One_fits := He.meth_ok (c.t.d.fact 29 (f := .meth "One" "fits") rfl)
  m_One_many := He.meth_ok (c.t.d.fact 30 (f := .meth "One" "many") rfl)
  m_One_told := He.meth_ok (c.t.d.fact 31 (f := .meth "One" "told") rfl)
  m_One___init__ := He.meth_ok (c.t.d.fact 32 (f := .meth "One" "__init__") rfl)
  mk_One := He.mkr_ok (c.t.d.fact 33 (f := .mkr "One") rfl)
  g_Among := He.glo_ok X G (c.t.d.fact 34 (f := .glo "Among") rfl)
  k_Among := He.keep_ok (c.t.d.fact 35 (f := .keep "Among") rfl)
  c_Among := He.cls_ok (c.t.d.fact 36 (f := .cls "Among") rfl)
  n_Among_signs := He.noat_ok (c.t.d.fact 37 (f := .noat "Among" "signs") rfl)
  n_Among_outside := He.noat_ok (c.t.d.fact 38 (f := .noat "Among" "outside") rfl)
  m_Among_fits := He.meth_ok (c.t.d.fact 39 (f := .meth "Among" "fits") rfl)
  m_Among_many := He.meth_ok (c.t.d.fact 40 (f := .meth "Among" "many") rfl)
  m_Among_told := He.meth_ok (c.t.d.fact 41 (f := .meth "Among" "told") rfl)
  m_Among___init__ := He.meth_ok (c.t.d.fact 42 (f := .meth "Among" "__init__") rfl)
  mk_Among := He.mkr_ok (c.t.d.fact 43 (f := .mkr "Among") rfl)
  g_Stars := He.glo_ok X G (c.t.d.fact 44 (f := .glo "Stars") rfl)
  k_Stars := He.keep_ok (c.t.d.fact 45 (f := .keep "Stars") rfl)
  c_Stars := He.cls_ok (c.t.d.fact 46 (f := .cls "Stars") rfl)
  m_Stars_fits := He.meth_ok (c.t.d.fact 47 (f := .meth "Stars" "fits") rfl)
  m_Stars_many := He.meth_ok (c.t.d.fact 48 (f := .meth "Stars" "many") rfl)
  m_Stars_told := He.meth_ok (c.t.d.fact 49 (f := .meth "Stars" "told") rfl)
  s_SIGNS := He.str_ok X G (c.t.d.fact 50 (f := .str "SIGNS" "-.0123456789_abcdefghijklmnopqrstuvwxyz") rfl)
  fr_len := He.free_ok X G (c.t.d.fact 51 (f := .free "len") rfl)
  fr_range := He.free_ok X G (c.t.d.fact 52 (f := .free "range") rfl)
  fr_all := He.free_ok X G (c.t.d.fact 53 (f := .free "all") rfl)
  fr_set := He.free_ok X G (c.t.d.fact 54 (f := .free "set") rfl)
  fr_sorted := He.free_ok X G (c.t.d.fact 55 (f := .free "sorted") rfl)
  fr_list := He.free_ok X G (c.t.d.fact 56 (f := .free "list") rfl)
  mn_Part := HD.mkn_ok c.more (by decide)
  mn_Any := HD.mkn_ok c.more (by decide)
  mn_Stars := HD.mkn_ok c.more (by decide)
end SL
open PySem PySem.W PySem.Calls PyProof.Rows
theorem PySem.Challenge.cw_shunlist_k11_parts_holds : PySem.Challenge.rw_shunlist_k11_parts.Holds := by
  w_on; o_law
  refine HandSHeadRun.head_any (r := (PySem.W.OpenLaw.row PySem.Challenge.rw_shunlist_k11_parts)) (q := view (PySem.W.OpenLaw.row PySem.Challenge.rw_shunlist_k11_parts).prog [17]) (H := HD.hk) (ob := HD.ob) (M := 3000) (loose := HD.loose) (d := HandSHeadRun.topDef (PySem.W.OpenLaw.row PySem.Challenge.rw_shunlist_k11_parts).prog 17) (kwd := []) HD.ob_eq
    (by kernel_rfl) (fun s => by kernel_rfl) HD.run (by kernel_rfl) (by kernel_rfl) (by kernel_rfl) (by rfl) (by first | assumption | decide +kernel) (by decide +kernel) ⟨rfl, rfl, rfl, rfl, rfl, by decide +kernel⟩ ?hw ?hc
  case hw => w_witness2
  case hc =>
    refine LamX.walk_ofTsE (l := PySem.Challenge.rw_shunlist_k11_parts) (n := 63) (k := 5) (x := "_law_script") (CX := fun w => L2.CX (PySem.Challenge.rw_shunlist_k11_parts).prog w) rfl (by decide) (by kernel_rfl) ⟨rfl, by decide, by decide⟩ ?F (fun _ _ _ _ _ ⟨_, _, _, _, _, _, _, _, _, _, _, _, z⟩ => z)
    intro w mg fa h Y G hmg0
    obtain ⟨K, KX, c⟩ := Y
    have T := SL.txt_of KX G c
    have hmg : mg ("law" : PySem.Str) = some (.ref fa) := by
      have e : (HandSHeadRun.topDef (PySem.W.OpenLaw.row PySem.Challenge.rw_shunlist_k11_parts).prog 17).name = ("law" : PySem.Str) := by kernel_rfl
      rw [← e]
      exact hmg0
    have e := hmg.symm.trans T.g_law
    cases e
    obtain ⟨fd, F⟩ := T.F_law
    have b := L2.FunD.bindsA (ps := ["_law_script"]) F fun _ _ _ _ _ _ us hl => match us, hl with | [_], _ => rfl
    exact ⟨K, KX, fd, [], SL.spLaw K, (fun _ h => nomatch h), (fun _ h => nomatch h), (fun _ h => nomatch h), fun s v => b s [v] rfl, fun H a ns hl hb _ hS => SL.law_sp hS hl hb, fun base _ _ _ => F.ok SL.sc_law (fun vs H Q E h => SL.law_len h) (SL.bd_law T)⟩
