import PyProof.Rows.All
import Wide.All
import OpenK.AllK
import Wide.FinOn
import KE.KStateDown
import HandS.Base
import HandS.Call
import HandS.List
import HandS.Comp
import HandS.Dict
import HandS.Iter
import HandS.Text
import HandS.Ends
import HandS.More
import HandS.Words
import HandS.WordsExc
import HandS.Defaults
import HandS.MakeKw
import HandS.Exc
import HandS.ExcOwn
import HandS.TryOnly
import HandS.Deep
import HandS.TupAny
import HandS.Head0
import HandS.Head1
import HandS.Head2
import HandS.HeadHook1
import HandS.HeadHook2
import HandS.HeadHook3
import HandS.HeadHook4
import HandS.HeadWalk
import HandS.Flow
import HandS.Style
import HandS.Wide
import HandS.MakeKw
import HandS.Steps
import HandS.Strs
import HandS.IsInst
import HandS.Zip
import HandS.SetKeys
import HandS.Set
import HandS.WordsDict
import HandS.WordsList
import HandS.Walk
import HandS.Iter
import PyProof.Draws
import PyProof.EnumMake
import HandS.Conv
import HandS.RevRange
import HandS.SetFor
import HandS.Strs
import HandS.Zip
import HandS.SortInts
import HandS.Codes
import HandS.TupSets
import HandS.StrMore
import HandS.Replace
import PyProof.StrLawsFirst
import PyProof.Rows.SortShellAny
import KE.KxAffix
import HandS.DictComp
import HandS.Finally
import HandS.SortRule
import KE.KSortTupAny
import HandS.SortKw
import KE.SortKeyHeap
import HandS.Nested
import HandS.CallLocal
import HandS.ExcValue
import HandS.ExcIs
import HandS.HeadHook1
import PyProof.StrOps2
import HandS.CallSlots
import HandS.ExcOwn
import PySem.Challenge.RW_shunlist_k86_whole_walks
set_option Elab.async false
set_option linter.all false
set_option maxRecDepth 100000
set_option maxHeartbeats 4000000

/-! the layer of this proof: calls by promise, readings -/
namespace SL
open PySem PySem.Spec PyProof.Rows L2
/-- a def keeps the promise sp at level k; dvs: its last defaults, filled in -/
def OkD (P : Program) (w : World) (K : PySem.W.Frag) (mg : Str → Option Value) (base : Heap) (k : Nat) (f : Addr) (ps : List Str) (dvs : List V) (sp : Sp) : Prop :=
  ∃ (fd : FuncData) (ds : List Value), FnOk P w K mg base (L2.CX P w) k f fd ps sp ∧ Binds K fd ps ds ∧ Vals dvs ds ∧ PySem.W.keepIn K (.ref f) = true
/-- what the top tells of an error's class -/
def ExcK (K : PySem.W.Frag) (C : Addr) : Prop := PySem.W.excIn K C He.veBase "ValueError.__new__" = true ∧ PySem.W.keepIn K (.ref C) = true ∧ PySem.W.subIn K (.ref C) (.type "BaseException") = some true ∧ PySem.W.typeIn K (.ref C) = some (.type "type")
section
variable {P : Program} {w : World} {K : PySem.W.Frag} {mg : Str → Option Value} {base : Heap} {f : Addr} {name qual : Str} {params : Arguments} {body : List Stmt} {scope : Scope} {dvs : List V} {N ps : List Str} {k : Nat} {sp : Sp}
/-- the body's question of a def -/
abbrev BodyQ (P : Program) (w : World) (K : PySem.W.Frag) (mg : Str → Option Value) (base : Heap) (k : Nat) (f : Addr) (qual : Str) (body : List Stmt) (scope : Scope) (N : List Str) (sp : Sp) : Prop :=
  ∀ (cdv : Value) (A : Around) (outer : List Env) (s : Shared) (H : Hp) (vs : List V) (Q : VK) (E : XK), Room k (A.deeper (envOfC qual scope s.heap.objs.size f cdv)) → sp vs H Q E →
      ∃ t, PSs (cxOf (L2.CX P w) P w K mg base N qual scope f cdv A outer s H E) body t ∧ t { nx := fun _ H' => Q .non H', rt := Q } (start N vs) H
theorem okD (F : ∃ fd, FunD K name qual params body scope [] [] f fd) (S : FnScope N ps scope)
    (hb : ∀ (kV doc pm : Value) (an : Option Addr) (cdv ct : Value) (us : List Value), us.length = ps.length → bindArgs (PySem.W.fnOf name qual params body scope .none kV doc pm an cdv ct) ⟨us, []⟩ = pure (ps.zip us))
    (len : ∀ vs H Q E, sp vs H Q E → vs.length = ps.length) (h : BodyQ P w K mg base k f qual body scope N sp) : OkD P w K mg base (k + 1) f ps [] sp := by
  obtain ⟨fd, F⟩ := F
  exact ⟨fd, [], F.ok S len h, F.bindsN hb, .nil, F.kp⟩
/-- a def with defaults, called with all but the last dvs.drop j -/
theorem okDd (F : ∃ fd, FunD K name qual params body scope dvs [] f fd) (S : FnScope N ps scope) (n j : Nat) (hd : dvs ≠ []) (hn : n + (dvs.length - j) = ps.length)
    (hb : ∀ (T : Addr) (kV doc pm : Value) (an : Option Addr) (cdv ct : Value) (us its : List Value), us.length = n → its.length = dvs.length →
      ∃ k, bindArgs (PySem.W.fnOf name qual params body scope (.ref T) kV doc pm an cdv ct) ⟨us, []⟩ = seqItems? (.ref T) >>= k ∧ k (some its.toArray) = pure (ps.zip (us ++ its.drop j)))
    (len : ∀ vs H Q E, sp vs H Q E → vs.length = ps.length) (h : BodyQ P w K mg base k f qual body scope N sp) : OkD P w K mg base (k + 1) f ps (dvs.drop j) sp := by
  obtain ⟨fd, F⟩ := F
  obtain ⟨ds, h1, h2⟩ := F.binds1 n j hd hn hb
  exact ⟨fd, ds, F.ok S len h, h2, h1, F.kp⟩
end
section
variable {X : Cx} {k : Nat} {f : Addr} {ps : List Str} {dvs : List V} {sp : Sp} {E : XK} {x : Str} {p pos : Pos} {e : Expr} {es : List Expr} {t : TA}
theorem pe_cal (o : OkD X.prog X.w X.K X.mg X.base k f ps dvs sp) (hr : Room k X.A) (hg : Gl X x) (hm : X.mg x = some (.ref f)) (hx : Passes (L2.CX X.prog X.w) X E)
    (ha : PA X (e :: es) t) (hdb : (x == ("__debug__" : Str)) = false := by decide) (he : starEach (e :: es) X.env = (false, eval e X.env) :: starEach es X.env := by rfl) (hpl : (backTo pos (starEach es X.env)).any (·.1) = false := by rfl) :
    PE X (.Call (.Name x p) (e :: es) [] pos) (tCall sp dvs E t) := by
  obtain ⟨fd, ds, F, hb, hd, hk⟩ := o
  exact pe_call F hr hg hm hk hb hd hx ha hdb he hpl
/-- a module's text, a module's number -/
theorem pe_gstr {z : Str} (hg : Gl X x) (hm : ∃ t, X.mg x = some (.str z t)) (hd : (x == ("__debug__" : Str)) = false := by decide) : PE X (.Name x pos) (tC (.str z)) := by
  obtain ⟨t, hm⟩ := hm
  exact pe_glob hg hm ⟨t, rfl⟩ hd
/-- no error leaves the callee -/
theorem pasN : Passes (L2.CX X.prog X.w) X (fun _ _ _ => False) := fun _ _ _ _ _ _ _ ⟨_, _, _, _, _, _, _, _, _, _, _, _, h⟩ => h.elim
/-- an error of a callee leaves here, too -/
theorem pasE {W : WX} (tk : Takes X W) {E : XK} (h : ∀ c d σ H, E c d H → W c d σ H) : Passes (L2.CX X.prog X.w) X E := fun pins σ H s e s' I c => passes_call tk h pins σ H s e s' I c
end
end SL
namespace SL
open PySem PySem.Spec PyProof.Rows L2
section
variable {X : Cx} {k : Nat} {f C : Addr} {ps : List Str} {dvs : List V} {sp : Sp} {E : XK} {x m : Str} {p pos apos : Pos} {o e : Expr} {es : List Expr} {ta : TE} {t : TA}
/-- o.m(..), the class told by what stands there: i says it -/
def tMeI {ι : Type} (D : ι → V → Hp → Prop) (spI : ι → Sp) (E : XK) (ta : TE) (t : TA) : TE := fun σ H Q => ta σ H fun x H1 => ∃ i, D i x H1 ∧ t σ H1 fun vs H2 => spI i (x :: vs) H2 Q E
/-- what a value must be for a method m of promise spI i -/
def MetD {ι : Type} (X : Cx) (k : Nat) (m : Str) (D : ι → V → Hp → Prop) (spI : ι → Sp) : Prop :=
  ∀ i x H, D i x H → ∃ a C dx fs g ps, x = .ref a ∧ H a = some (.ins C dx fs) ∧ Cls X.K C ∧ Meth X.K C m g ∧ fs.lookup m = none ∧ OkD X.prog X.w X.K X.mg X.base k g ps [] (spI i)
theorem pe_metI {ι : Type} {D : ι → V → Hp → Prop} {spI : ι → Sp} {pl : Sem Bool} (hD : MetD X k m D spI) (he : PE X o ta) (hr : Room k X.A) (hx : Passes (L2.CX X.prog X.w) X E) (ha : PA X (e :: es) t)
    (hst : starEach (e :: es) X.env = (false, eval e X.env) :: starEach es X.env := by rfl) (hpl : (backTo pos (starEach es X.env)).any (·.1) = false := by rfl)
    (ht : eval (.Call (.Attribute o m apos) (e :: es) [] pos) X.env = (do
      let ov ← eval o X.env
      standAt apos.atName
      let (f, first) ← holding [ov] (getMethod ov m pl)
      callWith pos f first (backTo pos (starEach (e :: es) X.env)) (backToKw pos (keywordEach [] X.env))) := by rfl) :
    PE X (.Call (.Attribute o m apos) (e :: es) [] pos) (tMeI D spI E ta t) := by
  refine ⟨fun pins s σ H Q I h => ?_⟩
  refine PySem.W.methodCall_KW (pl := pl) (thn (he.run pins s σ H _ I h) fun u s1 ⟨x, H1, I1, rx, i, hi, q⟩ => ?_) ht
  obtain ⟨a, C, dx, fs, g, ps, rfl, ea, c, hm, l, fd, ds, F, hb, hd, hk⟩ := hD i x H1 hi
  obtain rfl : u = Value.ref a := rx
  cases hd
  refine getmeth_ok I1 ea c hm l (PySem.W.callWith_K (first := [.ref a]) (h₀ := X.base) I.ok.mod.kin hm.kp (thn (ha.run pos pins s1 σ H1 _ I1 q) fun us s2 ⟨vs, H2, I2, r, q2⟩ => ⟨I2.kIn, ?_⟩) hst hpl)
  have q3 : spI i (.ref a :: vs ++ []) H2 Q E := by rw [List.append_nil]; exact q2
  exact run_fn (us := .ref a :: us) (vs := .ref a :: vs) F hr hb .nil hx I2 (.cons rfl r) q3
theorem pe_metI0 {ι : Type} {D : ι → V → Hp → Prop} {spI : ι → Sp} {pl : Sem Bool} (hD : MetD X k m D spI) (he : PE X o ta) (hr : Room k X.A) (hx : Passes (L2.CX X.prog X.w) X E)
    (ht : eval (.Call (.Attribute o m apos) [] [] pos) X.env = (do
      let ov ← eval o X.env
      standAt apos.atName
      let (f, first) ← holding [ov] (getMethod ov m pl)
      callWith pos f first (backTo pos (starEach [] X.env)) (backToKw pos (keywordEach [] X.env))) := by rfl) :
    PE X (.Call (.Attribute o m apos) [] [] pos) (tMeI D spI E ta tNil) := by
  refine ⟨fun pins s σ H Q I h => ?_⟩
  refine PySem.W.methodCall_KW (pl := pl) (thn (he.run pins s σ H _ I h) fun u s1 ⟨x, H1, I1, rx, i, hi, q⟩ => ?_) ht
  obtain ⟨a, C, dx, fs, g, ps, rfl, ea, c, hm, l, fd, ds, F, hb, hd, hk⟩ := hD i x H1 hi
  obtain rfl : u = Value.ref a := rx
  cases hd
  refine getmeth_ok I1 ea c hm l (PySem.W.callWith_K0 (first := [.ref a]) I1.kIn hm.kp ?_)
  exact run_fn (us := [.ref a]) (vs := [.ref a]) F hr hb .nil hx I1 (.cons rfl .nil) q
/-- C(e, ..) by its __init__ -/
theorem pe_mak (M : Mk X.K C f) (o : OkD X.prog X.w X.K X.mg X.base k f ps dvs sp) (hr : Room (k + 1) X.A) (hg : Gl X x) (hm : X.mg x = some (.ref C)) (hx : Passes (L2.CX X.prog X.w) X E)
    (ha : PA X (e :: es) t) (hdb : (x == ("__debug__" : Str)) = false := by decide) (he : starEach (e :: es) X.env = (false, eval e X.env) :: starEach es X.env := by rfl) (hpl : (backTo pos (starEach es X.env)).any (·.1) = false := by rfl) :
    PE X (.Call (.Name x p) (e :: es) [] pos) (tMake C sp dvs E t) := by
  obtain ⟨fd, ds, F, hb, hd, _⟩ := o
  exact pe_make M F hr hg hm hb hd hx ha hdb he hpl
/-- C() of a class that has no __init__ of its own -/
structure MkN (K : PySem.W.Frag) (C : Addr) : Prop where
  makes : PySem.W.makesIn K C = true
  init : PySem.W.findIn K (.ref C) "__init__" = some (some (.builtin "object.__init__"))
  kp : PySem.W.keepIn K (.ref C) = true
def tMakN (C : Addr) : TE := fun _ H Q => ∀ x dx, H x = none → H dx = none → dx ≠ x → Q (.ref x) (upd (upd H dx (.own x)) x (.ins C dx []))
theorem pe_makN (M : MkN X.K C) (hg : Gl X x) (hm : X.mg x = some (.ref C)) (hdb : (x == ("__debug__" : Str)) = false := by decide) : PE X (.Call (.Name x p) [] [] pos) (tMakN C) := by
  refine ⟨fun pins s σ H Q I h => ?_⟩
  refine wpAny_Call_Name_kw (ld_glob I hg hm ?_ hdb)
  refine PySem.W.callWith_K0 I.kIn M.kp (wpAny_call ?_)
  have I2 := Inv.made (C := C) I
  have hq := h (s.heap.objs.size + 1) s.heap.objs.size (I.hok.fresh (Nat.le_succ _)) (I.hok.fresh (Nat.le_refl _)) (Nat.ne_of_lt (Nat.lt_succ_self _))
  refine make_map0 I.kIn M.makes M.init (fun self => PySem.W.Looks.of_pure (PySem.W.oi_bind self)) ?_
  have Y := PySem.W.makes_of (M := model X.prog X.w) I.kIn M.makes
  have hx : ((s.heap.push PySem.W.emptyDict).push (PySem.W.instObj C s.heap.objs.size)).get? (s.heap.objs.size + 1) = some (PySem.W.instObj C s.heap.objs.size) := by
    have e := Heap.get?_push_size (s.heap.push PySem.W.emptyDict) (show (PySem.W.instObj C s.heap.objs.size).isFreed = false from rfl)
    rw [Heap.size_push] at e
    exact e
  have t1 : PySem.W.Looks (model X.prog X.w) ((s.heap.push PySem.W.emptyDict).push (PySem.W.instObj C s.heap.objs.size)) (isInstance (.ref (s.heap.objs.size + 1)) (.type "object")) true :=
    ((PySem.W.Looks.ld hx).andThen .now).andThen (Y.top.keeps fun b o e => Heap.get?_push_of_some _ (Heap.get?_push_of_some _ e))
  refine codeAny_call_builtin PySem.W.oi_plain PySem.W.entry_oi (@PySem.W.check_slot (model X.prog X.w) _ _ _ "object.__init__" "object" "__init__" (.ref (s.heap.objs.size + 1)) [] [] _ PySem.W.oi_kind PySem.W.oi_split t1 (PySem.W.oi_args (.ref (s.heap.objs.size + 1))) ?_)
  rw [PySem.W.oi_run]
  exact wpAny_pure ⟨rfl, .ref (s.heap.objs.size + 1), _, I2, rfl, hq⟩
end
/-- a def that keeps sp, called with n values and the keywords ks, in the order of its parameters -/
def OkK (P : Program) (w : World) (K : PySem.W.Frag) (mg : Str → Option Value) (base : Heap) (k : Nat) (f : Addr) (ps : List Str) (n : Nat) (ks : List Str) (sp : Sp) : Prop :=
  ∃ (fd : FuncData) (g : List Value → List Value → List Value) (gV : List V → List V → List V), FnOk P w K mg base (L2.CX P w) k f fd ps sp ∧ KBn K fd ps n ks g gV ∧ ∀ vs zs, gV vs zs = vs ++ zs
theorem okK {P : Program} {w : World} {K : PySem.W.Frag} {mg : Str → Option Value} {base : Heap} {f : Addr} {name qual : Str} {params : Arguments} {body : List Stmt} {scope : Scope} {dvs : List V} {N ps : List Str} {k : Nat} {sp : Sp}
    (F : ∃ fd, FunD K name qual params body scope dvs [] f fd) (S : FnScope N ps scope) (n : Nat) (ks : List Str) (hd : dvs ≠ [])
    (hb : ∀ (T : Addr) (kV doc pm : Value) (an : Option Addr) (cdv ct : Value) (us its ws : List Value), us.length = n → its.length = dvs.length → ws.length = ks.length →
      ∃ k, bindArgs (PySem.W.fnOf name qual params body scope (.ref T) kV doc pm an cdv ct) ⟨us, ks.zip ws⟩ = seqItems? (.ref T) >>= k ∧ k (some its.toArray) = pure (ps.zip (us ++ ws)))
    (len : ∀ vs H Q E, sp vs H Q E → vs.length = ps.length) (h : BodyQ P w K mg base k f qual body scope N sp) : OkK P w K mg base (k + 1) f ps n ks sp := by
  obtain ⟨fd, F⟩ := F
  obtain ⟨its, hk⟩ := F.kbindsD n ks (fun us _ ws => us ++ ws) hd (fun a _ c => a.append c) hb
  exact ⟨fd, _, _, F.ok S len h, hk, fun _ _ => rfl⟩
def tMakK (C : Addr) (n m : Nat) (sp : Sp) (E : XK) (t tk : TA) : TE := fun σ H Q => t σ H fun vs H1 => tk σ H1 fun zs H2 => vs.length = n ∧ zs.length = m ∧
  ∀ x dx, H2 x = none → H2 dx = none → dx ≠ x → sp (.ref x :: (vs ++ zs)) (upd (upd H2 dx (.own x)) x (.ins C dx [])) (fun v H3 => v = .non ∧ Q (.ref x) H3) E
/-- keywords turned about -/
def OkKr (P : Program) (w : World) (K : PySem.W.Frag) (mg : Str → Option Value) (base : Heap) (k : Nat) (f : Addr) (ps : List Str) (n : Nat) (ks : List Str) (sp : Sp) : Prop :=
  ∃ (fd : FuncData) (g : List Value → List Value → List Value) (gV : List V → List V → List V), FnOk P w K mg base (L2.CX P w) k f fd ps sp ∧ KBn K fd ps n ks g gV ∧ ∀ vs zs, gV vs zs = vs ++ zs.reverse
theorem okKr {P : Program} {w : World} {K : PySem.W.Frag} {mg : Str → Option Value} {base : Heap} {f : Addr} {name qual : Str} {params : Arguments} {body : List Stmt} {scope : Scope} {dvs : List V} {N ps : List Str} {k : Nat} {sp : Sp}
    (F : ∃ fd, FunD K name qual params body scope dvs [] f fd) (S : FnScope N ps scope) (n : Nat) (ks : List Str) (hd : dvs ≠ [])
    (hb : ∀ (T : Addr) (kV doc pm : Value) (an : Option Addr) (cdv ct : Value) (us its ws : List Value), us.length = n → its.length = dvs.length → ws.length = ks.length →
      ∃ k, bindArgs (PySem.W.fnOf name qual params body scope (.ref T) kV doc pm an cdv ct) ⟨us, ks.zip ws⟩ = seqItems? (.ref T) >>= k ∧ k (some its.toArray) = pure (ps.zip (us ++ ws.reverse)))
    (len : ∀ vs H Q E, sp vs H Q E → vs.length = ps.length) (h : BodyQ P w K mg base k f qual body scope N sp) : OkKr P w K mg base (k + 1) f ps n ks sp := by
  obtain ⟨fd, F⟩ := F
  obtain ⟨its, hk⟩ := F.kbindsD n ks (fun us _ ws => us ++ ws.reverse) hd (fun a _ c => a.append c.reverse) hb
  exact ⟨fd, _, _, F.ok S len h, hk, fun _ _ => rfl⟩
def tMakKr (C : Addr) (n m : Nat) (sp : Sp) (E : XK) (t tk : TA) : TE := fun σ H Q => t σ H fun vs H1 => tk σ H1 fun zs H2 => vs.length = n ∧ zs.length = m ∧
  ∀ x dx, H2 x = none → H2 dx = none → dx ≠ x → sp (.ref x :: (vs ++ zs.reverse)) (upd (upd H2 dx (.own x)) x (.ins C dx [])) (fun v H3 => v = .non ∧ Q (.ref x) H3) E
end SL
namespace SL
open PySem PySem.Spec PyProof.Rows L2
theorem hu64 {k : Nat} {A : Around} (hr : Room k A) : A.units + 64 < cLine := hr.units
section
variable {X : Cx}
theorem OpR.imp {f : Value → Value → Sem Value} {r r' : R2} (h : OpR X f r) (i : ∀ x y H Q, r' x y H Q → r x y H Q) : OpR X f r' := fun pins s σ H x y v u Q I rx ry q => h pins s σ H x y v u Q I rx ry (i _ _ _ _ q)
theorem IxR.imp {r r' : R2} (h : IxR X r) (i : ∀ x y H Q, r' x y H Q → r x y H Q) : IxR X r' := fun value slice pins s σ H x y v u Q I rx ry q hs => h value slice pins s σ H x y v u Q I rx ry (i _ _ _ _ q) hs
theorem CallR.imp {f : Value} {r r' : List V → Hp → VK → Prop} (h : CallR X f r) (i : ∀ xs H Q, r' xs H Q → r xs H Q) : CallR X f r' := fun pins s σ H xs us Q I rx q => h pins s σ H xs us Q I rx (i _ _ _ q)
/-! ### + and * -/
def rAddU (K : PySem.W.Frag) : R2 := fun x y H Q => match x, y with
  | .int i, .int j => Q (.int (i + j)) H
  | .int i, .bl b => Q (.int (i + b2i b)) H
  | .str a, .str b => a.length + b.length ≤ sizeLine ∧ Q (.str (a ++ b)) H
  | .ref a, .ref b => rCat (.ref a) (.ref b) H Q ∨ rCatT K (.ref a) (.ref b) H Q
  | _, _ => False
theorem o_add {K : PySem.W.Frag} (hK : X.K = K := by rfl) : OpR X (binaryOp .Add) (rAddU K) := by
  subst hK
  refine OpR.imp (op_add.or (op_add_ib.or (op_add_str.or (op_cat.or op_catT)))) fun x y H Q h => ?_
  cases x <;> cases y <;> first
    | exact absurd h id
    | exact .inl ⟨_, _, rfl, rfl, h⟩
    | exact .inr (.inl ⟨_, _, rfl, rfl, h⟩)
    | exact .inr (.inr (.inl ⟨_, _, rfl, rfl, h.1, h.2⟩))
    | exact .inr (.inr (.inr h))
def rMulU : R2 := fun x y H Q => match x, y with
  | .int i, .int j => CMul i j ∧ Q (.int (i * j)) H
  | .ref a, .int j => rRep (.ref a) (.int j) H Q
  | _, _ => False
theorem o_mul : OpR X (binaryOp .Mult) rMulU := by
  refine OpR.imp (op_mul.or op_rep) fun x y H Q h => ?_
  cases x <;> cases y <;> first
    | exact absurd h id
    | exact .inl ⟨_, _, rfl, rfl, h.1, h.2⟩
    | exact .inr h
/-! ### comparisons -/
def isRef : V → Bool
  | .ref _ => true
  | _ => false
/-- lists of different lengths -/
def lenNe (K : PySem.W.Frag) (b : Bool) : R2 := fun x y H Q => ∃ p q xs ys, x = .ref p ∧ y = .ref q ∧ SqL K H p xs ∧ SqL K H q ys ∧ xs.length ≠ ys.length ∧ Q (.bl b) H
theorem op_eqLen (hu : X.A.units + 64 < cLine) : OpR X (compareOp .Eq) (lenNe X.K false) := by
  intro pins s σ H x y v u Q I rx ry h
  obtain ⟨p, q, xs, ys, rfl, rfl, h1, h2, hn, k⟩ := h
  cases rx
  cases ry
  obtain ⟨its, r, pl, _⟩ := I.list h1
  obtain ⟨its2, r2, pl2, _⟩ := I.list h2
  have e1 := r.length
  have e2 := r2.length
  exact SeqAt.RcAt.lists_lengths pl.isList pl2.isList (by simp; omega) (by omega) _ _ _ _ ⟨.bl _, H, I, rfl, k⟩
theorem op_neLen (hu : X.A.units + 64 < cLine) : OpR X (compareOp .NotEq) (lenNe X.K true) := by
  intro pins s σ H x y v u Q I rx ry h
  obtain ⟨p, q, xs, ys, rfl, rfl, h1, h2, hn, k⟩ := h
  cases rx
  cases ry
  obtain ⟨its, r, pl, _⟩ := I.list h1
  obtain ⟨its2, r2, pl2, _⟩ := I.list h2
  have e1 := r.length
  have e2 := r2.length
  exact SeqAt.RcNeAt.lists_lengths pl.isList pl2.isList (by simp; omega) (by omega) _ _ _ _ ⟨.bl _, H, I, rfl, k⟩
def rEqR (K : PySem.W.Frag) : R2 := fun x y H Q => rEqD K x y H Q ∨ lenNe K false x y H Q
def rNeR (K : PySem.W.Frag) : R2 := fun x y H Q => rNeD K x y H Q ∨ lenNe K true x y H Q
def rEqU (K : PySem.W.Frag) : R2 := fun x y H Q => match isRef x || isRef y with
  | true => rEqR K x y H Q
  | false => scal x y = true ∧ Q (.bl (decide (x = y))) H
def rNeU (K : PySem.W.Frag) : R2 := fun x y H Q => match isRef x || isRef y with
  | true => rNeR K x y H Q
  | false => scal x y = true ∧ Q (.bl (!decide (x = y))) H
theorem o_eq {K : PySem.W.Frag} (hu : X.A.units + 64 < cLine) (hK : X.K = K := by rfl) : OpR X (compareOp .Eq) (rEqU K) := by
  subst hK
  refine OpR.imp (op_eq.or ((op_eqD hu).or (op_eqLen hu))) fun x y H Q h => ?_
  unfold rEqU at h
  split at h
  · exact .inr h
  · exact .inl h
theorem o_ne {K : PySem.W.Frag} (hu : X.A.units + 64 < cLine) (hK : X.K = K := by rfl) : OpR X (compareOp .NotEq) (rNeU K) := by
  subst hK
  refine OpR.imp (op_ne.or ((op_neD hu).or (op_neLen hu))) fun x y H Q h => ?_
  unfold rNeU at h
  split at h
  · exact .inr h
  · exact .inl h
/-- a list against the empty list -/
theorem eq_nil {K : PySem.W.Frag} {p q : Addr} {xs : List V} {H : Hp} {Q : VK} (h1 : SqL K H p xs) (h2 : SqL K H q []) (k : Q (.bl (decide (xs = []))) H) : rEqR K (.ref p) (.ref q) H Q := by
  cases xs with
  | nil => exact .inl ⟨.list [], .list [], .lst h1 .nil, .lst h2 .nil, rfl, rfl, k⟩
  | cons x r => exact .inr ⟨p, q, _, _, rfl, rfl, h1, h2, by simp, k⟩
theorem ne_nil {K : PySem.W.Frag} {p q : Addr} {xs : List V} {H : Hp} {Q : VK} (h1 : SqL K H p xs) (h2 : SqL K H q []) (k : Q (.bl (!decide (xs = []))) H) : rNeR K (.ref p) (.ref q) H Q := by
  cases xs with
  | nil => exact .inl ⟨.list [], .list [], .lst h1 .nil, .lst h2 .nil, rfl, rfl, k⟩
  | cons x r => exact .inr ⟨p, q, _, _, rfl, rfl, h1, h2, by simp, k⟩
/-! ### is, of truths and None -/
def rIsBo : R2 := fun x y H Q => match x, y with
  | .bl a, .bl b => Q (.bl (a == b)) H
  | _, _ => False
def rNotBo : R2 := fun x y H Q => match x, y with
  | .bl a, .bl b => Q (.bl (!(a == b))) H
  | _, _ => False
/-! ### int of a number or a truth -/
def rIntU : List V → Hp → VK → Prop := fun xs H Q => match xs with
  | [.int i] => Q (.int i) H
  | [.bl k] => Q (.int (if k then 1 else 0)) H
  | _ => False
theorem o_int : CallR X (.type "int") rIntU := CallR.imp call_int1 fun xs H Q h => match xs, h with
  | [.int i], q => .inl ⟨i, rfl, q⟩
  | [.bl k], q => .inr ⟨k, rfl, q⟩
/-! ### x += y -/
def rIadd : TIp := fun x y H Q => match x, y with
  | .int i, .int j => Q (.int (i + j)) H
  | .str a, .str b => a.length + b.length ≤ sizeLine ∧ Q (.str (a ++ b)) H
  | .ref a, .ref b => rExt2 (.ref a) (.ref b) H Q
  | _, _ => False
theorem o_iadd : PIp X .Add rIadd := fun pins s σ H x y v u Q I rx ry h => match x, y, h with
  | .int i, .int j, q => ip_add pins s σ H _ _ v u Q I rx ry ⟨i, j, rfl, rfl, q⟩
  | .str a, .str b, q => iop_add_str pins s σ H _ _ v u Q I rx ry ⟨a, b, rfl, rfl, q⟩
  | .ref a, .ref b, q => iop_ext pins s σ H _ _ v u Q I rx ry q
def rCmp (f : Int → Int → Bool) (g : List Nat → List Nat → Bool) : R2 := fun x y H Q => match x, y with
  | .int i, .int j => Q (.bl (f i j)) H
  | .str a, .str b => Q (.bl (g a.cps.toList b.cps.toList)) H
  | _, _ => False
theorem o_lt : OpR X (compareOp .Lt) (rCmp (fun i j => decide (i < j)) (fun a b => decide (a < b))) := by
  refine OpR.imp (op_lt.or op_lt_str) fun x y H Q h => ?_
  cases x <;> cases y <;> first
    | exact absurd h id
    | exact .inl ⟨_, _, rfl, rfl, h⟩
    | exact .inr ⟨_, _, rfl, rfl, h⟩
theorem o_gt : OpR X (compareOp .Gt) (rCmp (fun i j => decide (j < i)) (fun a b => decide (b < a))) := by
  refine OpR.imp (op_gt.or op_gt_str) fun x y H Q h => ?_
  cases x <;> cases y <;> first
    | exact absurd h id
    | exact .inl ⟨_, _, rfl, rfl, h⟩
    | exact .inr ⟨_, _, rfl, rfl, h⟩
/-- in: a sign in a text, a text in a text, data in a list of data, a flat thing in a list or a tuple -/
def rInU (K : PySem.W.Frag) : R2 := fun x y H Q => match x, y with
  | .str a, .str b => (∃ c, a = ⟨#[c]⟩ ∧ Q (.bl (decide (c ∈ b.cps.toList))) H) ∨ Q (.bl (!(Builtin.Str.occurrences b a 0 b.length 1).isEmpty)) H
  | .ref a, .ref b => rInD K (.ref a) (.ref b) H Q
  | x, .ref b => rIn K false x (.ref b) H Q
  | _, _ => False
theorem hu65 {k : Nat} {A : Around} (hr : Room k A) : A.units + 65 < cLine := by
  have := hr.un
  omega
theorem o_in {K : PySem.W.Frag} (hu : X.A.units + 65 < cLine) (hK : X.K = K := by rfl) : OpR X (compareOp .In) (rInU K) := by
  subst hK
  refine OpR.imp (op_in_sign.or (op_in_str.or (op_in_seq.or (op_inD hu)))) fun x y H Q h => ?_
  cases y with
  | ref b => cases x with
    | ref a => exact .inr (.inr (.inr h))
    | _ => exact .inr (.inr (.inl h))
  | str b =>
    cases x with
    | str a =>
      rcases h with ⟨c, rfl, q⟩ | q
      · exact .inl ⟨c, b, rfl, rfl, q⟩
      · exact .inr (.inl ⟨a, b, rfl, rfl, q⟩)
    | _ => exact absurd h id
  | _ => cases x <;> exact absurd h id
def rNotInU (K : PySem.W.Frag) : R2 := fun x y H Q => match x, y with
  | .str a, .str b => (∃ c, a = ⟨#[c]⟩ ∧ Q (.bl (!decide (c ∈ b.cps.toList))) H) ∨ Q (.bl (!(!(Builtin.Str.occurrences b a 0 b.length 1).isEmpty))) H
  | .ref a, .ref b => rNotInD K (.ref a) (.ref b) H Q
  | x, .ref b => rIn K true x (.ref b) H Q
  | _, _ => False
theorem o_notin {K : PySem.W.Frag} (hu : X.A.units + 65 < cLine) (hK : X.K = K := by rfl) : OpR X (compareOp .NotIn) (rNotInU K) := by
  subst hK
  refine OpR.imp (op_notIn_sign.or (op_notIn_str.or (op_notIn_seq.or (op_notInD hu)))) fun x y H Q h => ?_
  cases y with
  | ref b => cases x with
    | ref a => exact .inr (.inr (.inr h))
    | _ => exact .inr (.inr (.inl h))
  | str b =>
    cases x with
    | str a =>
      rcases h with ⟨c, rfl, q⟩ | q
      · exact .inl ⟨c, b, rfl, rfl, q⟩
      · exact .inr (.inl ⟨a, b, rfl, rfl, q⟩)
    | _ => exact absurd h id
  | _ => cases x <;> exact absurd h id
/-! ### items, slices, walks -/
def rIxU (K : PySem.W.Frag) : R2 := fun x y H Q => match x, y with
  | .ref p, .int i => ∃ xs v, (SqL K H p xs ∨ SqT K H p xs) ∧ atI xs i = some v ∧ Q v H
  | .str z, .int i => z.length ≤ sizeLine ∧ ∃ c, atI z.cps.toList i = some c ∧ Q (.str ⟨#[c]⟩) H
  | _, _ => False
theorem o_ix {K : PySem.W.Frag} (hK : X.K = K := by rfl) : IxR X (rIxU K) := by
  subst hK
  refine IxR.imp ix_seq fun x y H Q h => ?_
  cases y with
  | int i =>
    cases x with
    | ref p =>
      obtain ⟨xs, v, h1 | h1, h2, q⟩ := h
      · exact .inl ⟨p, xs, i, v, rfl, rfl, h1, h2, q⟩
      · exact .inr (.inl ⟨p, xs, i, v, rfl, rfl, h1, h2, q⟩)
    | str z =>
      obtain ⟨h0, c, h2, q⟩ := h
      exact .inr (.inr ⟨z, i, c, rfl, rfl, h0, h2, q⟩)
    | _ => exact absurd h id
  | _ => cases x <;> exact absurd h id
def iU (K : PySem.W.Frag) (te : TE) : TI := fun σ H R => te σ H fun x H1 => match x with
  | .ref a => ((∃ xs, SqL K H1 a xs) ∧ R (Itl K a) H1) ∨ ((∃ xs, SqT K H1 a xs) ∧ R (Itt K a) H1)
  | .str z => R (Its z) H1
  | _ => False
theorem o_it {K : PySem.W.Frag} {tg e : Expr} {te : TE} (hc : X.calm = true) (he : PE X e te) (hK : X.K = K := by rfl) : PI X tg e (iU K te) := by
  subst hK
  refine ⟨fun pins s σ H R I h => ?_⟩
  refine thn (he.run pins s σ H _ I h) fun v s1 ⟨x, H1, I1, r1, q1⟩ => ?_
  cases x with
  | ref a =>
    cases r1
    rcases q1 with ⟨⟨xs, hq⟩, q⟩ | ⟨⟨xs, hq⟩, q⟩
    · obtain ⟨its, rv, p, hz⟩ := I1.list hq
      exact wpAny_pyIter_list p.isList (pi_one (tk := s1.toks) I1 _ (turn_list a _) ⟨_, Heap.get?_push_size _ rfl, rfl, rfl⟩ q)
    · obtain ⟨its, rv, p, hz⟩ := I1.tuple hq
      exact wpAny_pyIter_tuple (show s1.heap.IsTuple a its.toArray from p) (pi_one (tk := s1.toks) I1 _ (turn_tuple a _) ⟨_, Heap.get?_push_size _ rfl, rfl, rfl⟩ q)
  | str z =>
    obtain ⟨t, rfl⟩ := r1
    cases ha : z.cps.all (· < 128)
    · exact wpAny_pyIter_wide ha (pi_one (tk := s1.toks) I1 _ (turn_str _ z t "str_iterator" (.inr rfl)) ⟨_, Heap.get?_push_size _ rfl, rfl, rfl⟩ q1)
    · exact wpAny_pyIter_ascii ha (pi_one (tk := s1.toks) I1 _ (turn_str _ z t "str_ascii_iterator" (.inl rfl)) ⟨_, Heap.get?_push_size _ rfl, rfl, rfl⟩ q1)
  | _ => exact absurd q1 id
/-! ### slices, len, list, the truth of a value -/
def rSlU (K : PySem.W.Frag) : V → Option Int → Option Int → Hp → VK → Prop := fun x lo hi H Q => match x with
  | .str z => z.length ≤ sizeLine ∧ Q (.str (cutS z lo hi)) H
  | .ref a => (∃ xs, SqL K H a xs ∧ ∀ p, H p = none → Q (.ref p) (upd H p (.lst (cutV xs lo hi)))) ∨
    ∃ xs, SqT K H a xs ∧ (HT.sIx xs.length 0 lo = 0 ∧ HT.sIx xs.length xs.length hi = xs.length → Q (.ref a) H) ∧
      (¬ (HT.sIx xs.length 0 lo = 0 ∧ HT.sIx xs.length xs.length hi = xs.length) → ∀ p, H p = none → Q (.ref p) (upd H p (.tup (cutV xs lo hi))))
  | _ => False
theorem SlR.imp {r r' : V → Option Int → Option Int → Hp → VK → Prop} (h : SlR X r) (i : ∀ x lo hi H Q, r' x lo hi H Q → r x lo hi H Q) : SlR X r' := fun pins s σ H x v vl vu lo hi sl Q I rx hs pl pu q => h pins s σ H x v vl vu lo hi sl Q I rx hs pl pu (i _ _ _ _ _ q)
theorem o_sl {K : PySem.W.Frag} (hK : X.K = K := by rfl) : SlR X (rSlU K) := by
  subst hK
  refine SlR.imp (sl_list.or (sl_tupA.or sl_str)) fun x lo hi H Q h => ?_
  match x, h with
  | .str z, ⟨h1, h2⟩ => exact .inr (.inr ⟨z, rfl, h1, h2⟩)
  | .ref a, .inl ⟨xs, h1, h2⟩ => exact .inl ⟨a, xs, rfl, h1, h2⟩
  | .ref a, .inr ⟨xs, h1, h2, h3⟩ => exact .inr (.inl ⟨a, xs, rfl, h1, h2, h3⟩)
def rLenU (K : PySem.W.Frag) : List V → Hp → VK → Prop := fun xs H Q => match xs with
  | [x] => ∃ n, LenV K x H n ∧ Q (.int n) H
  | _ => False
theorem o_len {K : PySem.W.Frag} (hK : X.K = K := by rfl) : CallR X (.builtin "len") (rLenU K) := by
  subst hK
  refine CallR.imp call_len fun xs H Q h => ?_
  match xs, h with
  | [x], ⟨n, h, q⟩ => exact ⟨x, n, rfl, h, q⟩
theorem pt_tru {K : PySem.W.Frag} {a : Expr} {ta : TE} (ha : PE X a ta) (he : ∀ whole, isTrue a X.env whole = (do let v ← whole; standAt a.pos; holding [v] (truthy v))) (hK : X.K = K := by rfl) : PT X a (fun σ H Q => ta σ H fun x H1 => ∃ k, TruV K x H1 k ∧ Q k H1) := by
  subst hK
  exact pt_truth ha he
theorem pe_notK {K : PySem.W.Frag} {a : Expr} {ta : TE} {pos : Pos} (ha : PE X a ta) (hK : X.K = K := by rfl) : PE X (.UnaryOp .Not a pos) (tNotT K ta) := by
  subst hK
  exact pe_notT ha
theorem pe_orK {K : PySem.W.Frag} {a b : Expr} {rest : List Expr} {ta tb : TE} {pos : Pos} (ha : PE X a ta) (hb : PE X (.BoolOp .Or (b :: rest) pos) tb) (hK : X.K = K := by rfl) : PE X (.BoolOp .Or (a :: b :: rest) pos) (tOrT K ta tb) := by
  subst hK
  exact pe_orT ha hb
theorem pe_andK {K : PySem.W.Frag} {a b : Expr} {rest : List Expr} {ta tb : TE} {pos : Pos} (ha : PE X a ta) (hb : PE X (.BoolOp .And (b :: rest) pos) tb) (hK : X.K = K := by rfl) : PE X (.BoolOp .And (a :: b :: rest) pos) (tAndT K ta tb) := by
  subst hK
  exact pe_andT ha hb
theorem pe_fldK {K : PySem.W.Frag} {e : Expr} {f : Str} {ta : TE} {pos : Pos} (he : PE X e ta) (hb : attributeBase e f X.env (eval e X.env) = eval e X.env) (hK : X.K = K := by rfl) : PE X (.Attribute e f pos) (tFld K ta f) := by
  subst hK
  exact pe_fld he hb
theorem o_all {K : PySem.W.Frag} (hc : X.calm = true) (hK : X.K = K := by rfl) : CallR X (.builtin "all") (rAll K) := by
  subst hK
  exact cr_all hc
/-- isinstance(x, T), T built in -/
def rIsiU (K : PySem.W.Frag) : List V → Hp → VK → Prop := fun xs H Q => match xs with
  | [x, .ty n] => ∃ (t : String) (b : Bool), TyX K H x (.type t) ∧ kitB t n = some b ∧ Q (.bl b) H
  | _ => False
def rTupU (K : PySem.W.Frag) : List V → Hp → VK → Prop := fun xs H Q => match xs with
  | [.ref p] => ∃ ys, (SqL K H p ys ∧ ∀ l, H l = none → Q (.ref l) (upd H l (.tup ys))) ∨ (SqT K H p ys ∧ Q (.ref p) H)
  | _ => False
theorem o_tuple {K : PySem.W.Frag} (hK : X.K = K := by rfl) : CallR X (.type "tuple") (rTupU K) := by
  subst hK
  refine CallR.imp call_tuple_of fun xs H Q h => ?_
  match xs, h with
  | [.ref p], ⟨ys, h⟩ => exact ⟨p, ys, rfl, h⟩
end
end SL
namespace SL
open PySem PySem.Spec PyProof.Rows L2
section
variable {K : PySem.W.Frag} {H H' : Hp}
theorem same_new {p : Addr} {o : HO} (h : H p = none) : Same H (upd H p o) := fun a u e => by
  rw [upd_ne (ne_of_none e h)]
  exact e
/-- an object that H does not know may change -/
theorem same_mut {p : Addr} {o : HO} (e : Same H H') (h : H p = none) : Same H (upd H' p o) := fun a u ha => by
  rw [upd_ne (ne_of_none ha h)]
  exact e a u ha
theorem same_rd {a : Addr} {u : HO} (e : Same H H') (h : Rd H a u) : Rd H' a u := by
  rcases h with h | ⟨o, h⟩
  · exact .inl (e a _ h)
  · exact .inr ⟨o, e a _ h⟩
theorem same_l {a : Addr} {xs : List V} (e : Same H H') (h : SqL K H a xs) : SqL K H' a xs := e.seq h
theorem same_t {a : Addr} {xs : List V} (e : Same H H') (h : SqT K H a xs) : SqT K H' a xs := by
  rcases h with h | h
  · exact .inl (same_rd e h)
  · exact .inr h
mutual
theorem dp_mono (e : Same H H') : ∀ (d : PyData) (v : V), Dp K H v d → Dp K H' v d
  | .none, _, .non => .non
  | .bool _, _, .bl b => .bl b
  | .int _, _, .int i => .int i
  | .str _, _, .str x => .str x
  | .list ds, _, .lst h a => .lst (same_l e h) (dpAll_mono e ds _ a)
  | .tuple ds, _, .tup h a => .tup (same_t e h) (dpAll_mono e ds _ a)
theorem dpAll_mono (e : Same H H') : ∀ (ds : List PyData) (vs : List V), DpAll K H vs ds → DpAll K H' vs ds
  | [], _, .nil => .nil
  | d :: ds, _, .cons h t => .cons (dp_mono e d _ h) (dpAll_mono e ds _ t)
end
end
section
variable {CX : CXT} {P : Program} {w : World} {K : PySem.W.Frag} {mg : Str → Option Value} {base : Heap} {N : List Str} {qual : Str} {scope : Scope} {f : Addr} {cd : Value} {A : Around} {outer : List Env} {s : Shared} {H : Hp} {E : XK}
theorem cxK : (cxOf CX P w K mg base N qual scope f cd A outer s H E).K = K := rfl
theorem cxW : (cxOf CX P w K mg base N qual scope f cd A outer s H E).w = w := rfl
theorem cxP : (cxOf CX P w K mg base N qual scope f cd A outer s H E).prog = P := rfl
end
section
variable {K : PySem.W.Frag} {H : Hp} {k : Bool} {n : Nat}
theorem truBl {b : Bool} : TruV K (.bl b) H k = (k = b) := rfl
theorem truInt {i : Int} : TruV K (.int i) H k = (k = (i != 0)) := rfl
theorem truNon : TruV K .non H k = (k = false) := rfl
theorem truStr {y : Str} : TruV K (.str y) H k = (y.length ≤ sizeLine ∧ k = ((y.length : Int) != 0)) := rfl
theorem lenStr {z : Str} {R : Nat → Prop} : (∃ n, LenV K (.str z) H n ∧ R n) = (z.length ≤ sizeLine ∧ R z.length) := by
  refine propext ⟨fun ⟨n, ⟨h1, h2⟩, h⟩ => ?_, fun ⟨h1, h⟩ => ⟨_, ⟨h1, rfl⟩, h⟩⟩
  subst h2
  exact ⟨h1, h⟩
end
theorem sameT {H : Hp} : Same H H = True := propext ⟨fun _ => trivial, fun _ => Same.refl H⟩
theorem ite_tt {A B : Prop} : (if true = true then A else B) = A := by simp
theorem ite_ff {A B : Prop} : (if false = true then A else B) = B := by simp
theorem le_sz {n : Nat} : (n ≤ sizeLine) = (n ≤ 16777216) := by rw [sizeLine_eq]
theorem lt_sz {n : Nat} : (n < sizeLine) = (n < 16777216) := by rw [sizeLine_eq]
/-- a value by what is wanted of it alone -/
def tMid (te : TE) : TE := fun σ H Q => ∃ Q' : VK, te σ H Q' ∧ ∀ v H1, Q' v H1 → Q v H1
theorem pe_mid {X : Cx} {e : Expr} {te : TE} (h : PE X e te) : PE X e (tMid te) := ⟨fun pins s σ H Q I ⟨_, h1, h2⟩ => thn (h.run pins s σ H _ I h1) fun _ _ ⟨v, H1, I1, r, q⟩ => ⟨v, H1, I1, r, h2 v H1 q⟩⟩
theorem q_mid {i : Nat} {te : TE} {u : TS} {D : Ends} {σ : L2.St} {H : Hp} (C : Int → Prop) (h : te σ H fun v H1 => H1 = H ∧ ∃ n, v = .int n ∧ C n) (k : ∀ n, C n → u D (σ.set i (some (.int n))) H) : tSeq (tAsg (tMid te) (gName i)) u D σ H :=
  ⟨_, h, fun v H1 ⟨e, n, ev, c⟩ => by rw [e, ev]; exact k n c⟩
end SL
namespace SL
open PySem PySem.Spec PyProof.Rows L2
/-- all but the lists stay -/
def NL (H H' : Hp) : Prop := ∀ a o, H a = some o → (∀ l, o ≠ .lst l) → H' a = some o
theorem NL.of {H H' : Hp} (e : Same H H') : NL H H' := fun a o h _ => e a o h
theorem NL.refl {H : Hp} : NL H H := fun _ _ h _ => h
theorem NL.trans {H H1 H2 : Hp} (a : NL H H1) (b : NL H1 H2) : NL H H2 := fun c o h n => b c o (a c o h n) n
theorem nl_upd {H : Hp} {D : Addr} {l : List V} {o : HO} (h : H D = some (.lst l)) : NL H (upd H D o) := fun a u e n => by
  have q : a ≠ D := fun z => by
    rw [z, h] at e
    exact n l (Option.some.inj e).symm
  rw [upd_ne q]
  exact e
/-! ### walked things, by what is wanted of them alone -/
def iMid (wi : TI) : TI := fun σ H R => ∃ R' : It → Hp → Prop, wi σ H R' ∧ ∀ J H1, R' J H1 → R J H1
theorem pi_mid {X : Cx} {tg it : Expr} {wi : TI} (h : PI X tg it wi) : PI X tg it (iMid wi) := ⟨fun pins s σ H R I ⟨_, h1, h2⟩ => thn (h.run pins s σ H _ I h1) fun _ s1 q => thn q fun _ _ ⟨it, fp, tn, J, H', e, I', T, st, f, r⟩ => ⟨it, fp, tn, J, H', e, I', T, st, f, h2 J H' r⟩⟩
def tMidT (tt : TT) : TT := fun σ H Q => ∃ Q' : Bool → Hp → Prop, tt σ H Q' ∧ ∀ b H1, Q' b H1 → Q b H1
theorem pt_mid {X : Cx} {e : Expr} {tt : TT} (h : PT X e tt) : PT X e (tMidT tt) := ⟨fun pins s σ H Q I ⟨_, h1, h2⟩ => thn (h.run pins s σ H _ I h1) fun _ _ ⟨H1, I1, q⟩ => ⟨H1, I1, h2 _ H1 q⟩⟩
section
variable {J0 : It} {n : Nat} {G : Hp → Prop} {Y : Nat → Hp → V → Hp → Prop} {wi : TI} {i : Nat} {tb : TS} {D : Ends} {σ : L2.St} {H H0 : Hp}
theorem for_mid (h : wi σ H fun J H1 => J = J0 ∧ H1 = H0) (w : Walk J0 n G Y) (Pv : Nat → L2.St → Hp → Prop) (h0 : Pv 0 σ H0) (hG : ∀ i σ H, i ≤ n → Pv i σ H → G H)
    (hs : ∀ k x σ H H', k < n → Pv k σ H → Y k H x H' → tb { D with nx := Pv (k + 1), ct := Pv (k + 1), bk := D.nx } (σ.set i (some x)) H') (hd : ∀ σ H, Pv n σ H → D.nx σ H) : tFor (iMid wi) (gName i) tb D σ H := by
  refine ⟨_, h, ?_⟩
  rintro J H1 ⟨rfl, rfl⟩
  exact for_it w Pv h0 hG (fun k x σ H H' hk p y => hs k x σ H H' hk p y) hd
theorem for_midg {g : TG} (h : wi σ H fun J H1 => J = J0 ∧ H1 = H0) (w : Walk J0 n G Y) (Pv : Nat → L2.St → Hp → Prop) (h0 : Pv 0 σ H0) (hG : ∀ i σ H, i ≤ n → Pv i σ H → G H)
    (hs : ∀ k x σ H H', k < n → Pv k σ H → Y k H x H' → g x σ H' fun σ2 H2 => tb { D with nx := Pv (k + 1), ct := Pv (k + 1), bk := D.nx } σ2 H2) (hd : ∀ σ H, Pv n σ H → D.nx σ H) : tFor (iMid wi) g tb D σ H := by
  refine ⟨_, h, ?_⟩
  rintro J H1 ⟨rfl, rfl⟩
  exact for_it w Pv h0 hG (fun k x σ H H' hk p y => hs k x σ H H' hk p y) hd
/-- a comprehension: C by the turn, what is made so far, the heap (all but lists stay) -/
theorem lc_midM {vs : List Nat} {te : TE} {Q : VK} (h : wi σ H fun J H1 => J = J0 ∧ H1 = H0) (w : Walk J0 n G Y) (hn : n < 16777216) (C : Nat → List V → Hp → Prop) (hC : ∀ k acc Ha Hb, NL Ha Hb → C k acc Ha → C k acc Hb) (h0 : C 0 [] H0)
    (hG : ∀ H', Same H0 H' → G H') (hY : ∀ k H x H', Y k H x H' → Same H H') (hw : ∀ x, wipe ((wipe σ vs).set i (some x)) vs = wipe σ vs)
    (turn : ∀ k x acc H' H'', k < n → Same H0 H' → C k acc H' → Y k H' x H'' → tMid te ((wipe σ vs).set i (some x)) H'' fun y H4 => Same H'' H4 ∧ C (k + 1) (acc ++ [y]) H4)
    (done : ∀ p acc H', H0 p = none → Same H0 H' → H' p = some (.lst acc) → acc.length = n → C n acc H' → Q (.ref p) H') : tLc (iMid wi) (gName i) tYes (tMid te) vs σ H Q := by
  refine ⟨_, h, ?_⟩
  rintro J H1 ⟨rfl, rfl⟩ p hp
  refine lc_it w (fun k H' => ∃ acc, Same H1 H' ∧ H' p = some (.lst acc) ∧ acc.length = k ∧ C k acc H') ⟨[], same_new hp, upd_same, rfl, hC _ _ _ _ (NL.of (same_new hp)) h0⟩ (fun k H' _ ⟨acc, s, _⟩ => hG H' s) ?_ fun H' ⟨acc, s, hD, hl, c⟩ => done p acc H' hp s hD hl c
  rintro k x H' H'' hk ⟨acc, s, hD, hl, c⟩ y
  have s2 := hY k H' x H'' y
  refine ⟨hw x, ?_⟩
  obtain ⟨R, h1, h2⟩ := turn k x acc H' H'' hk s c y
  refine ⟨R, h1, ?_⟩
  rintro v H4 hR
  obtain ⟨s3, c'⟩ := h2 v H4 hR
  have hD4 : H4 p = some (.lst acc) := s3 _ _ (s2 _ _ hD)
  refine ⟨acc, hD4, by rw [sizeLine_eq]; omega, acc ++ [v], same_mut ((s.trans s2).trans s3) hp, upd_same, by rw [List.length_append, hl]; rfl, hC _ _ _ _ (nl_upd hD4) c'⟩
/-- a comprehension: C by the turn, what is made so far, the heap (all but lists stay) -/
theorem lc_mid {vs : List Nat} {te : TE} {Q : VK} (h : wi σ H fun J H1 => J = J0 ∧ H1 = H0) (w : Walk J0 n G Y) (hn : n < 16777216) (C : Nat → List V → Hp → Prop) (hC : ∀ k acc Ha Hb, NL Ha Hb → C k acc Ha → C k acc Hb) (h0 : C 0 [] H0)
    (hG : ∀ H', Same H0 H' → G H') (hY : ∀ k H x H', Y k H x H' → Same H H') (hw : ∀ x, wipe ((wipe σ vs).set i (some x)) vs = wipe σ vs)
    (turn : ∀ k x acc H' H'', k < n → Same H0 H' → C k acc H' → Y k H' x H'' → te ((wipe σ vs).set i (some x)) H'' fun y H4 => Same H'' H4 ∧ C (k + 1) (acc ++ [y]) H4)
    (done : ∀ p acc H', H0 p = none → Same H0 H' → H' p = some (.lst acc) → acc.length = n → C n acc H' → Q (.ref p) H') : tLc (iMid wi) (gName i) tYes (tMid te) vs σ H Q :=
  lc_midM h w hn C hC h0 hG hY hw (fun k x acc H' H'' a b c d => ⟨_, turn k x acc H' H'' a b c d, fun _ _ q => q⟩) done
/-- with a test -/
theorem lc_midT {vs : List Nat} {te : TE} {tt : TT} {Q : VK} (h : wi σ H fun J H1 => J = J0 ∧ H1 = H0) (w : Walk J0 n G Y) (hn : n < 16777216) (C : Nat → List V → Hp → Prop) (hC : ∀ k acc Ha Hb, NL Ha Hb → C k acc Ha → C k acc Hb) (h0 : C 0 [] H0)
    (hG : ∀ H', Same H0 H' → G H') (hY : ∀ k H x H', Y k H x H' → Same H H') (hw : ∀ x, wipe ((wipe σ vs).set i (some x)) vs = wipe σ vs)
    (turn : ∀ k x acc H' H'', k < n → Same H0 H' → C k acc H' → Y k H' x H'' → tt ((wipe σ vs).set i (some x)) H'' fun b H3 => Same H'' H3 ∧ if b = true then te ((wipe σ vs).set i (some x)) H3 fun y H4 => Same H3 H4 ∧ C (k + 1) (acc ++ [y]) H4 else C (k + 1) acc H3)
    (done : ∀ p acc H', H0 p = none → Same H0 H' → H' p = some (.lst acc) → acc.length ≤ n → C n acc H' → Q (.ref p) H') : tLc (iMid wi) (gName i) (tMidT tt) (tMid te) vs σ H Q := by
  refine ⟨_, h, ?_⟩
  rintro J H1 ⟨rfl, rfl⟩ p hp
  refine lc_it w (fun k H' => ∃ acc, Same H1 H' ∧ H' p = some (.lst acc) ∧ acc.length ≤ k ∧ C k acc H') ⟨[], same_new hp, upd_same, Nat.le_refl _, hC _ _ _ _ (NL.of (same_new hp)) h0⟩ (fun k H' _ ⟨acc, s, _⟩ => hG H' s) ?_ fun H' ⟨acc, s, hD, hl, c⟩ => done p acc H' hp s hD hl c
  rintro k x H' H'' hk ⟨acc, s, hD, hl, c⟩ y
  have s2 := hY k H' x H'' y
  refine ⟨hw x, _, turn k x acc H' H'' hk s c y, ?_⟩
  rintro b H3 ⟨s3, z⟩
  have hD3 : H3 p = some (.lst acc) := s3 _ _ (s2 _ _ hD)
  cases b with
  | false =>
    have z' : C (k + 1) acc H3 := z
    exact ⟨acc, (s.trans s2).trans s3, hD3, by omega, z'⟩
  | true =>
    have z' : te ((wipe σ vs).set i (some x)) H3 fun y H4 => Same H3 H4 ∧ C (k + 1) (acc ++ [y]) H4 := z
    refine ⟨_, z', ?_⟩
    rintro v H4 ⟨s4, c'⟩
    have hD4 : H4 p = some (.lst acc) := s4 _ _ hD3
    refine ⟨acc, hD4, by rw [sizeLine_eq]; omega, acc ++ [v], same_mut (((s.trans s2).trans s3).trans s4) hp, upd_same, by rw [List.length_append]; show acc.length + 1 ≤ k + 1; omega, hC _ _ _ _ (nl_upd hD4) c'⟩
end
theorem y_at {xs : List V} {k : Nat} {H : Hp} {x : V} {H' : Hp} (y : YAt xs k H x H') : Same H H' := by
  rw [y.1]
  exact Same.refl H
theorem y_fn {f : Nat → V} {k : Nat} {H : Hp} {x : V} {H' : Hp} (y : YFn f k H x H') : Same H H' := by
  rw [y.1]
  exact Same.refl H
/-- an assignment by what is wanted of its value -/
theorem q_midG {i : Nat} {te : TE} {u : TS} {D : Ends} {σ : L2.St} {H : Hp} (C : V → Hp → Prop) (h : te σ H C) (k : ∀ v H1, C v H1 → u D (σ.set i (some v)) H1) : tSeq (tAsg (tMid te) (gName i)) u D σ H := ⟨C, h, k⟩
theorem mid_of {te : TE} {σ : L2.St} {H : Hp} {Q : VK} (C : VK) (h : te σ H C) (k : ∀ v H1, C v H1 → Q v H1) : tMid te σ H Q := ⟨C, h, k⟩
/-- an if by what is wanted of its test -/
theorem q_if {tt : TT} {a b u : TS} {D : Ends} {σ : L2.St} {H : Hp} (C : Bool → Hp → Prop) (h : tt σ H C) (t : ∀ H1, C true H1 → tSeq a u D σ H1) (f : ∀ H1, C false H1 → tSeq b u D σ H1) : tSeq (tIfS (tMidT tt) a b) u D σ H :=
  ⟨C, h, fun c H1 hc => by
    cases c with
    | true => exact t H1 hc
    | false => exact f H1 hc⟩
theorem l_if {tt : TT} {a b : TS} {D : Ends} {σ : L2.St} {H : Hp} (C : Bool → Hp → Prop) (h : tt σ H C) (t : ∀ H1, C true H1 → a D σ H1) (f : ∀ H1, C false H1 → b D σ H1) : tIfS (tMidT tt) a b D σ H :=
  ⟨C, h, fun c H1 hc => by
    cases c with
    | true => exact t H1 hc
    | false => exact f H1 hc⟩
/-- a comprehension over a text, each sign by itself -/
theorem lc_text {z : Str} {wi : TI} {i : Nat} {te : TE} {vs : List Nat} {σ : L2.St} {H H0 : Hp} {Q : VK} (f : Nat → V) (h : wi σ H fun J H1 => J = Its z ∧ H1 = H0) (hn : z.length < 16777216) (hw : ∀ x, wipe ((wipe σ vs).set i (some x)) vs = wipe σ vs)
    (turn : ∀ c H', c ∈ z.cps.toList → Same H0 H' → te ((wipe σ vs).set i (some (.str ⟨#[c]⟩))) H' fun y H4 => Same H' H4 ∧ y = f c)
    (done : ∀ p H', H0 p = none → Same H0 H' → H' p = some (.lst (z.cps.toList.map f)) → Q (.ref p) H') : tLc (iMid wi) (gName i) tYes (tMid te) vs σ H Q := by
  refine lc_midM h walk_str hn (fun k acc _ => acc = (z.cps.toList.take k).map f) (fun _ _ _ _ _ e => e) rfl (fun _ _ => trivial) (fun _ _ _ _ y => by rw [y.1]; exact Same.refl _) hw ?_ ?_
  · rintro k x acc H' H'' hk sm ha ⟨rfl, c, hc, rfl⟩
    have hc' : z.cps.toList[k]? = some c := by rw [Array.getElem?_toList]; exact hc
    have r := turn c H'' (List.mem_of_getElem? hc') sm
    refine ⟨_, r, ?_⟩
    rintro y H4 ⟨s4, rfl⟩
    refine ⟨s4, ?_⟩
    have e : z.cps.toList.take (k + 1) = z.cps.toList.take k ++ [c] := by
      rw [List.take_succ, hc']
      rfl
    rw [e, List.map_append, ha]
    rfl
  · intro p acc H' hp sm hD hl ha
    rw [List.take_of_length_le (by rw [Array.length_toList]; exact Nat.le_refl _)] at ha
    rw [ha] at hD
    exact done p H' hp sm hD
/-- a walk that is told -/
theorem for_open {wi : TI} {g : TG} {tb : TS} {D : Ends} {σ : L2.St} {H : Hp} (C : It → Hp → Prop) (h : wi σ H C) (k : ∀ J H1, C J H1 → tFor (iMid (fun _ _ R => R J H1)) g tb D σ H) : tFor (iMid wi) g tb D σ H := ⟨C, h, fun J H1 c => let ⟨_, r, k'⟩ := k J H1 c; k' J H1 r⟩
theorem lc_open {wi : TI} {g : TG} {tt : TT} {te : TE} {vs : List Nat} {σ : L2.St} {H : Hp} {Q : VK} (C : It → Hp → Prop) (h : wi σ H C) (k : ∀ J H1, C J H1 → tLc (iMid (fun _ _ R => R J H1)) g tt te vs σ H Q) : tLc (iMid wi) g tt te vs σ H Q := ⟨C, h, fun J H1 c => let ⟨_, r, k'⟩ := k J H1 c; k' J H1 r⟩
theorem q_val {i : Nat} {te : TE} {u : TS} {D : Ends} {σ : L2.St} {H : Hp} (h : te σ H fun v H1 => u D (σ.set i (some v)) H1) : tSeq (tAsg te (gName i)) u D σ H := h
end SL
/-! the text by places -/
namespace TX
open PySem PySem.Spec PyProof.Rows L2
def topS (i : Nat) : Stmt := PySem.Challenge.pw_shunlist_k86_whole_walks.main.body.getD i (.Pass ⟨0, 0, 0, 0⟩)
abbrev s__wall : Stmt := (topS 0)
abbrev s_with_deeps : Stmt := (topS 2)
abbrev s_fits : Stmt := (topS 3)
abbrev s_last_fit : Stmt := (topS 4)
abbrev s_is_sign : Stmt := (topS 12)
abbrev s_Part_fits : Stmt := (inClass (topS 13) 0)
abbrev s_Part_many : Stmt := (inClass (topS 13) 1)
abbrev s_Part_told : Stmt := (inClass (topS 13) 2)
abbrev s_One___init__ : Stmt := (inClass (topS 15) 0)
abbrev s_One_fits : Stmt := (inClass (topS 15) 1)
abbrev s_One_told : Stmt := (inClass (topS 15) 2)
abbrev s_Among___init__ : Stmt := (inClass (topS 16) 0)
abbrev s_Among_fits : Stmt := (inClass (topS 16) 1)
abbrev s_Among_told : Stmt := (inClass (topS 16) 2)
abbrev s_Stars_many : Stmt := (inClass (topS 17) 0)
abbrev s_Stars_told : Stmt := (inClass (topS 17) 1)
abbrev s_spots_behind : Stmt := (topS 19)
abbrev s_Step_deep : Stmt := (inClass (topS 20) 0)
abbrev s_Step_fits_name : Stmt := (inClass (topS 20) 1)
abbrev s_Step_told : Stmt := (inClass (topS 20) 2)
abbrev s_Deep_deep : Stmt := (inClass (topS 21) 0)
abbrev s_Segment___init__ : Stmt := (inClass (topS 22) 0)
abbrev s_Segment_fits_name : Stmt := (inClass (topS 22) 1)
abbrev s_Segment_told : Stmt := (inClass (topS 22) 2)
abbrev s_Row___init__ : Stmt := (inClass (topS 23) 0)
abbrev s_Row_told : Stmt := (inClass (topS 23) 1)
abbrev s_names_of : Stmt := (topS 24)
abbrev s_told : Stmt := (topS 26)
abbrev s_paths_within : Stmt := (topS 28)
abbrev s_paths_of : Stmt := (topS 29)
abbrev s_walked : Stmt := (topS 30)
abbrev s_spared : Stmt := (topS 31)
abbrev s_tops : Stmt := (topS 32)
abbrev s_folder_names : Stmt := (topS 34)
abbrev s_placed : Stmt := (topS 35)
abbrev s_gathered : Stmt := (topS 36)
abbrev s__law_cell : Stmt := (topS 38)
abbrev s__law_mixed : Stmt := (topS 39)
abbrev s__law_signs : Stmt := (topS 40)
abbrev s__law_part : Stmt := (topS 41)
abbrev s__law_segment : Stmt := (topS 42)
abbrev s__law_row : Stmt := (topS 43)
abbrev s__law_rows : Stmt := (topS 44)
abbrev s__law_part_made : Stmt := (topS 45)
abbrev s__law_row_made : Stmt := (topS 46)
abbrev s__law_long_row : Stmt := (topS 47)
abbrev s__law_with_long : Stmt := (topS 48)
abbrev s__law_filled : Stmt := (topS 49)
abbrev s__law_names : Stmt := (topS 50)
abbrev s__law_free : Stmt := (topS 51)
abbrev s__law_put_in : Stmt := (topS 52)
abbrev s__law_paths : Stmt := (topS 53)
abbrev s__law_cut : Stmt := (topS 54)
abbrev s__law_lists : Stmt := (topS 55)
abbrev s__law_made_lists : Stmt := (topS 56)
abbrev s__law_ranked : Stmt := (topS 57)
abbrev s__law_wide_tree : Stmt := (topS 58)
abbrev s_law : Stmt := (topS 59)
end TX
/-! ### sets of texts: made of a text or of a list of texts, counted, sorted -/
namespace SL
open PySem PySem.Spec PyProof.Rows L2
/-- the text of a set's entry -/
def txOf (e : Int × Value) : Str := match e.2 with
  | .str x _ => x
  | _ => Str.empty
def TxE (w : World) (e : Int × Value) : Prop := ∃ x tk, e.2 = Value.str x tk ∧ e.1 = hashStr w x
/-- the set at a holds just the texts l, each once, and can be walked -/
def TxSet (w : World) (h : Heap) (a : Addr) (l : List Str) : Prop :=
  ∃ o es ep t, h.get? a = some o ∧ o.ExactSet ∧ o.data = .set es ep t ∧ (∀ e ∈ es.toList, TxE w e) ∧ (es.toList.map txOf).Perm l ∧ l.Nodup ∧
    (es.size < scanBound ∧ t.fits es.size = true) ∧ (Ris t.place.toList ∧ (w.params.followText "set-order" = true ∨ t.led = true))
section
variable {P : Program} {w : World} {h h' : Heap} {a : Addr} {l : List Str}
theorem TxSet.at (R : TxSet w h a l) (k : ∀ o, h.get? a = some o → h'.get? a = some o) : TxSet w h' a l :=
  let ⟨o, es, ep, t, ho, r⟩ := R
  ⟨o, es, ep, t, k o ho, r⟩
theorem TxSet.perm {l' : List Str} (R : TxSet w h a l) (p : l.Perm l') : TxSet w h a l' :=
  let ⟨o, es, ep, t, ho, hx, hd, g, pm, nd, r⟩ := R
  ⟨o, es, ep, t, ho, hx, hd, g, pm.trans p, p.nodup_iff.mp nd, r⟩
theorem txE_elems {l : List (Int × Value)} (g : ∀ e ∈ l, TxE w e) : ElemsOf (strKind P w) l := by
  intro e he
  obtain ⟨x, tk, e1, e2⟩ := g e he
  refine ⟨⟨x, ?_, e2⟩, ?_⟩
  · rw [e1]
    show Value.isStrOf x (.str x tk) = true
    simp [Value.isStrOf]
  · rw [e1]
    rfl
theorem txE_is {e : Int × Value} (g : TxE w e) (x : Str) : (strKind P w).is x e.2 = true ↔ txOf e = x := by
  obtain ⟨y, tk, e1, _⟩ := g
  unfold txOf
  rw [e1]
  show Value.isStrOf x (.str y tk) = true ↔ y = x
  simp [Value.isStrOf]
theorem txE_mem {l : List (Int × Value)} (g : ∀ e ∈ l, TxE w e) (x : Str) : x ∈ l.map txOf ↔ ∃ e ∈ l, (strKind P w).is x e.2 = true := by
  rw [List.mem_map]
  exact ⟨fun ⟨e, he, q⟩ => ⟨e, he, (txE_is (g e he) x).2 q⟩, fun ⟨e, he, q⟩ => ⟨e, he, (txE_is (g e he) x).1 q⟩⟩
end
section
variable {P : Program} {w : World} {A : Around} {E : Value → Shared → Prop} {s : Shared} {a : Addr} {l : List Str}
theorem tx_tail {gv : Bool → Sem Unit} (hg : ∀ (b : Bool) (s₁ : Shared) (Q' : Unit → Shared → Prop), Q' () s₁ → wpAny (model P w) A (gv b) Q' E s₁)
    {o : Obj} {es : Array (Int × Value)} {ep : Nat} {t : SetTable} (ho : s.heap.get? a = some o) (hx : o.ExactSet) (hd : o.data = .set es ep t) {e1 : Array (Int × Value)} {t2 : SetTable} (g1 : ∀ e ∈ e1.toList, TxE w e)
    (p1 : (e1.toList.map txOf).Perm l) (nd : l.Nodup) (hb : e1.size < scanBound) (hf : t2.fits e1.size = true) (hr : Ris t2.place.toList) (hl : w.params.followText "set-order" = true ∨ t2.led = true) {dummy : Bool} {R : Option Bool → Shared → Prop}
    (hR : ∀ h', Heap.SameBut a s.heap h' → TxSet w h' a l → R (some true) { s with heap := h' }) :
    wpAny (model P w) A (do
        storeSet a e1 t2
        if (!dummy && t2.tooFull) = true then do
            gv (relayAll t2 e1 (SetTable.grown e1.size)).2.2
            storeSet a (relayAll t2 e1 (SetTable.grown e1.size)).1 (relayAll t2 e1 (SetTable.grown e1.size)).2.1
            pure (some true)
          else pure (some true)) R E s := by
  refine wpAny_bind (wpAny_storeSet_of ho hd ?_ (fits_of_scanBound hb))
  have o1 := store_at (es' := e1) (t' := t2) ho hd
  have b1 := Heap.SameBut.update s.heap a (Obj.putSet e1 t2)
  split
  · have pm := relayAll_perm t2 e1 (SetTable.grown e1.size)
    have f3 := relayAll_fits t2 e1 (SetTable.grown e1.size)
    have r3 := relayAll_ris t2 e1 (SetTable.grown e1.size)
    have l3 := relayAll_led t2 e1 (SetTable.grown e1.size)
    generalize relayAll t2 e1 (SetTable.grown e1.size) = Z at pm f3 r3 l3 ⊢
    obtain ⟨e2, t3, gave⟩ := Z
    dsimp only at pm f3 r3 l3 ⊢
    have sz : e2.size < scanBound := by
      have q := pm.length_eq
      rw [Array.length_toList, Array.length_toList] at q
      omega
    refine wpAny_bind (hg _ _ _ (wpAny_bind (wpAny_storeSet_of o1 rfl ?_ (fits_of_scanBound sz))))
    refine wpAny_pure (hR _ (b1.trans (Heap.SameBut.update _ a _)) ⟨_, e2, _, t3, store_at o1 rfl, hx, rfl, fun e he => g1 e (pm.mem_iff.mp he), (pm.map txOf).trans p1, nd, ⟨sz, f3⟩, r3, ?_⟩)
    rw [l3]
    exact hl
  · exact wpAny_pure (hR _ b1 ⟨_, e1, _, t2, o1, hx, rfl, g1, p1, nd, ⟨hb, hf⟩, hr, hl⟩)
/-- a text is added -/
theorem tx_add {x : Str} {tk : Tok} {Q : Bool → Shared → Prop} (R : TxSet w s.heap a l) (room : l.length + 1 < scanBound)
    (hQ : ∀ h', Heap.SameBut a s.heap h' → TxSet w h' a (if x ∈ l then l else x :: l) → Q (!decide (x ∈ l)) { s with heap := h' }) :
    wpAny (model P w) A (setAddHashed a (.str x tk) ((strKind P w).hash x)) Q E s := by
  obtain ⟨o, es, ep, t, ho, hx, hd, g, pm, nd, ⟨hb, hf⟩, hr, hl⟩ := R
  have key : (strKind P w).is x (.str x tk) = true := by
    show Value.isStrOf x (.str x tk) = true
    simp [Value.isStrOf]
  have sc : (Value.str x tk).scannable = true := rfl
  have el : ElemsOf (strKind P w) es.toList := txE_elems g
  unfold setAddHashed
  unfold setAddHashedIn
  refine wpAny_holding (wpAny_bind (wpAny_setState_of ho hd hf ?_))
  dsimp only
  rw [byScan_of sc hb el]
  simp only [if_true]
  unfold setAddByScan
  refine wpAny_bind (wpAny_bind (wpAny_rule (wpAny_bind (wpAny_setScan_of key ho hd hf el ?_))))
  cases fi : List.findIdx? (fun e => (strKind P w).is x e.2) es.toList with
  | some j =>
    dsimp only
    obtain ⟨hj, pj, _⟩ := List.findIdx?_eq_some_iff_getElem.mp fi
    have hm : x ∈ l := pm.mem_iff.mp ((txE_mem (P := P) g x).2 ⟨_, List.getElem_mem hj, pj⟩)
    have q := hQ s.heap (Heap.SameBut.refl a s.heap) (by
      rw [if_pos hm]
      exact ⟨o, es, ep, t, ho, hx, hd, g, pm, nd, ⟨hb, hf⟩, hr, hl⟩)
    rw [decide_eq_true hm] at q
    exact wpAny_pure (wpAny_pure q)
  | none =>
    dsimp only
    have hn : x ∉ l := fun z => by
      obtain ⟨e, he, q⟩ := (txE_mem (P := P) g x).1 (pm.mem_iff.mpr z)
      have c := List.findIdx?_eq_none_iff.mp fi e he
      rw [q] at c
      cases c
    have q0 : ∀ h', Heap.SameBut a s.heap h' → TxSet w h' a (x :: l) → Q true { s with heap := h' } := fun h' sb r => by
      have q := hQ h' sb (by rw [if_neg hn]; exact r)
      rw [decide_eq_false hn] at q
      exact q
    have tl : ∀ (b : Bool) {s₁ : Shared} {Q' : Unit → Shared → Prop}, Q' () s₁ → wpAny (model P w) A (match b with | true => rule "set.scan.the-table-gave-way" | false => pure ()) Q' E s₁ := by
      intro b s₁ Q' z
      cases b
      · exact wpAny_pure z
      · exact wpAny_rule z
    have p0 := layNew_perm t es ((strKind P w).hash x) (.str x tk)
    have f0 := layNew_fits t es ((strKind P w).hash x) (.str x tk)
    have r0 := layNew_ris t es ((strKind P w).hash x) (.str x tk) hr
    have l0 := layNew_led t es ((strKind P w).hash x) (.str x tk)
    generalize layNew t es ((strKind P w).hash x) (.str x tk) = Z at p0 f0 r0 l0 ⊢
    obtain ⟨e1, t1, dummy, gave⟩ := Z
    dsimp only at p0 f0 r0 l0 ⊢
    rw [Array.toList_push] at p0
    have pc : e1.toList.Perm (((strKind P w).hash x, Value.str x tk) :: es.toList) := p0.trans (List.perm_append_singleton _ _)
    have g1 : ∀ e ∈ e1.toList, TxE w e := by
      intro e he
      rcases List.mem_cons.mp (pc.mem_iff.mp he) with z | z
      · exact ⟨x, tk, by rw [z], by rw [z]; rfl⟩
      · exact g e z
    have pk : (e1.toList.map txOf).Perm (x :: l) := (pc.map txOf).trans (List.Perm.cons _ pm)
    have nd1 : (x :: l).Nodup := List.nodup_cons.mpr ⟨hn, nd⟩
    have sz : e1.size < scanBound := by
      have q := pk.length_eq
      rw [List.length_map, Array.length_toList, List.length_cons] at q
      omega
    have hl1 : w.params.followText "set-order" = true ∨ t1.led = true := by rw [l0]; exact hl
    refine wpAny_bind (tl _ ?_)
    split
    · refine wpAny_bind ?_
      rw [hashByValue_scannable 8 sc]
      refine wpAny_pure (tx_tail ?_ ho hx hd g1 pk nd1 sz ?_ ?_ ?_ fun h' sb r => ?_)
      · intro b s₁ Q' z
        exact tl b z
      · first | (split <;> first | exact f0 | exact SetTable.fits_plain_off f0) | exact f0
      · first | (split <;> exact r0) | exact r0
      · first | (split <;> exact hl1) | exact hl1
      · exact wpAny_pure (q0 h' sb r)
    · refine wpAny_bind (wpAny_pure ?_)
      simp only [if_true]
      exact tx_tail (fun b s₁ Q' z => tl b z) ho hx hd g1 pk nd1 sz f0 r0 hl1 fun h' sb r => wpAny_pure (q0 h' sb r)
/-- the distinct ones of texts -/
def dist (l : List Str) (x : Str) : List Str := if x ∈ l then l else x :: l
theorem dist_len (l : List Str) (x : Str) : (dist l x).length ≤ l.length + 1 := by
  unfold dist
  split <;> simp
theorem fold_len : ∀ (zs l : List Str), (zs.foldl dist l).length ≤ l.length + zs.length
  | [], l => by simp
  | x :: r, l => by
    have h1 := fold_len r (dist l x)
    have h2 := dist_len l x
    simp only [List.foldl_cons, List.length_cons]
    omega
theorem fold_mem : ∀ (zs l : List Str) (y : Str), y ∈ zs.foldl dist l ↔ y ∈ l ∨ y ∈ zs
  | [], l, y => by simp
  | x :: r, l, y => by
    rw [List.foldl_cons, fold_mem r (dist l x) y]
    unfold dist
    split
    · rename_i h
      constructor
      · rintro (h1 | h1)
        · exact .inl h1
        · exact .inr (List.mem_cons_of_mem _ h1)
      · rintro (h1 | h1)
        · exact .inl h1
        · rcases List.mem_cons.mp h1 with rfl | h1
          · exact .inl h
          · exact .inr h1
    · simp only [List.mem_cons]
      constructor
      · rintro ((h1 | h1) | h1) <;> simp [h1]
      · rintro (h1 | h1 | h1) <;> simp [h1]
theorem tx_loop {I : Addr} {fp wr : List Addr} {G : Array GenState → Array GenState → Prop} {n : Nat} {Pv : Nat → Value → Prop} {St : Nat → Shared → Prop} {R : Result → Shared → Prop}
    (W : WalksS P w A.in1 I fp wr G n Pv St) (S : Addr) (hSf : S ∉ fp) (zs : List Str) (hn : n = zs.length) (hb : zs.length + 1 < scanBound) (hv : ∀ i v, Pv i v → ∃ x t, zs[i]? = some x ∧ v = .str x t) :
    ∀ (k i : Nat) (s : Shared), n - i = k → i ≤ n → St i s → TxSet w s.heap S ((zs.take i).foldl dist []) →
      (∀ s', Moved (S :: wr) G s s' → TxSet w s'.heap S (zs.foldl dist []) → R (.ok (.ret .none)) s') → codeAny (model P w) A (.builtin "set.update.loop" ⟨[.ref S, .ref I], []⟩) R s := by
  have nw : S ∉ wr := fun z => hSf (W.sub _ z)
  have sub : ∀ b ∈ wr, b ∈ S :: wr := fun b z => List.mem_cons_of_mem _ z
  intro k
  induction k with
  | zero =>
    intro i s hk hi st hS hR
    refine codeAny_builtin PyProof.Rows.F.entry_set_update_loop ?_
    rw [Around.under_plainId PyProof.Rows.F.plain_set_update_loop]
    have hin : i = n := by omega
    subst hin
    show wpAny _ A.in1 (pyNext (.ref I) >>= fun _ => _) _ _ s
    refine wpAny_bind (W.done s _ _ st fun s' hm => wpAny_pure (hR s' (hm.mono sub) ?_))
    rw [List.take_of_length_le (by omega)] at hS
    exact hS.at fun o e => hm.heap S o nw e
  | succ k ih =>
    intro i s hk hi st hS hR
    have lt : i < n := by omega
    refine codeAny_builtin PyProof.Rows.F.entry_set_update_loop ?_
    rw [Around.under_plainId PyProof.Rows.F.plain_set_update_loop]
    show wpAny _ A.in1 (pyNext (.ref I) >>= fun _ => _) _ _ s
    refine wpAny_bind (W.item i s _ _ lt st fun v s' hP st' hm => ?_)
    obtain ⟨x, t, hz, rfl⟩ := hv i v hP
    have hS' : TxSet w s'.heap S ((zs.take i).foldl dist []) := hS.at fun o e => hm.heap S o nw e
    show wpAny _ A.in1 (holding [Value.str x t] (setAdd S (.str x t)) >>= fun _ => _) _ _ s'
    refine wpAny_bind (wpAny_holding ?_)
    unfold setAdd
    have hk2 : (strKind P w).is x (.str x t) = true := by
      show Value.isStrOf x (.str x t) = true
      simp [Value.isStrOf]
    refine wpAny_holding (wpAny_bind ((strKind P w).pyHash (k := x) hk2 ?_))
    have room : ((zs.take i).foldl dist []).length + 1 < scanBound := by
      have q := fold_len (zs.take i) []
      rw [List.length_take, List.length_nil] at q
      omega
    refine tx_add (s := { s' with toks := s'.toks + 1 }) hS' room fun h' sb r => ?_
    have r' : TxSet w h' S ((zs.take (i + 1)).foldl dist []) := by
      rw [List.take_add_one, hz, List.foldl_append]
      exact r
    refine wpAny_pure ⟨plainId_quiet PyProof.Rows.F.plain_set_update_loop _, ih (i + 1) _ (by omega) lt (W.frame _ s' _ _ st' (Nat.le_succ _) fun b z o e => ?_) r' fun s'' hm2 hS2 => ?_⟩
    · rw [sb.2 b fun q => hSf (q ▸ z)]
      exact e
    · refine hR s'' (Moved.trans W.gtrans ((hm.mono sub).then_heap (Nat.le_succ _) fun b o z e => ?_) hm2) hS2
      rw [sb.2 b fun q => z (by rw [q]; exact List.mem_cons_self)]
      exact e
end
end SL
namespace SL
open PySem PySem.Spec PyProof.Rows L2
/-- a value that gives the texts zs when it is walked: a text by its signs, a list of texts -/
structure Src (P : Program) (w : World) (h : Heap) (v : Value) (T : String) (zs : List Str) : Prop where
  ty : ∀ (s : Shared), (∀ b o, h.get? b = some o → s.heap.get? b = some o) → s.TypeIs v T
  s1 : isSubtype (.type T) (.type "set") = pure false
  s2 : isSubtype (.type T) (.type "frozenset") = pure false
  nd : (Value.type T == Value.type "dict") = false
  it : ∀ (A : Around) (Q : Value → Shared → Prop) (E : Value → Shared → Prop) (s : Shared), (∀ b o, h.get? b = some o → s.heap.get? b = some o) → h.objs.size ≤ s.heap.objs.size → A.handled = none →
    (∀ (o : Obj) (fp : List Addr) (St : Nat → Heap → Prop) (Pv : Nat → Value → Prop), (∀ A' : Around, A'.handled = none → Walks P w A' s.heap.objs.size fp [s.heap.objs.size] zs.length Pv St) → St 0 (s.heap.push o) →
      (∀ b ∈ fp, b = s.heap.objs.size ∨ b < h.objs.size) → (∀ i u, Pv i u → ∃ x t, zs[i]? = some x ∧ u = .str x t) → Q (.ref s.heap.objs.size) { s with heap := s.heap.push o }) → wpAny (model P w) A (pyIter v) Q E s
section
variable {P : Program} {w : World} {A : Around} {E : Value → Shared → Prop} {s : Shared}
theorem src_text {h : Heap} (x : Str) (t : Tok) : Src P w h (.str x t) "str" (x.cps.toList.map fun c => ⟨#[c]⟩) where
  ty := fun s _ => rfl
  s1 := PySem.F.sub_str_set
  s2 := PySem.F.sub_str_frozenset
  nd := by decide
  it := fun A Q E s _ _ _ k => by
    refine wpAny_pyIter_str fun o St W st => ?_
    have e : (x.cps.toList.map fun c => (⟨#[c]⟩ : Str)).length = x.cps.size := by rw [List.length_map, Array.length_toList]
    refine k o [s.heap.objs.size] St (SignAt x) (fun A' hA => by rw [e]; exact W A' hA) st (fun b hb => .inl (List.mem_singleton.mp hb)) fun i u hu => ?_
    obtain ⟨c, t', hc, rfl⟩ : ∃ c t', x.cps[i]? = some c ∧ u = .str ⟨#[c]⟩ t' := by
      first
        | exact hu
        | (obtain ⟨c, hc, t', e'⟩ := hu; exact ⟨c, t', hc, e'⟩)
    refine ⟨_, t', ?_, rfl⟩
    rw [List.getElem?_map, Array.getElem?_toList, hc]
    rfl
theorem src_list {h : Heap} {l : Addr} {items : Array Value} {zs : List Str} (hl : h.IsList l items) (hi : PyProof.Rows.StrsAre items.toList zs) : Src P w h (.ref l) "list" zs := by
  obtain ⟨ol, hol, hcl, nl, hdl⟩ := id hl
  have hz : items.size = zs.length := by
    have q := PyProof.Rows.StrsAre.length hi
    rw [Array.length_toList] at q
    exact q
  refine ⟨fun s k => ⟨ol, k _ _ hol, hcl⟩, PySem.F.sub_list_set, PySem.F.sub_list_frozenset, by decide, fun A Q E s k le hh c => ?_⟩
  have hl' : s.heap.IsList l items := ⟨ol, k _ _ hol, hcl, nl, hdl⟩
  have lt : l < h.objs.size := Heap.lt_size hol
  have ne : l ≠ s.heap.objs.size := Nat.ne_of_lt (Nat.lt_of_lt_of_le lt le)
  refine wpAny_pyIter_list hl' (c _ [s.heap.objs.size, l] _ (fun i v => items[i]? = some v) (fun A' hA => by rw [← hz]; exact Walks.list hA _ l ne items) (show Heap.IsListIter _ _ _ _ ∧ Heap.IsList _ _ _ from ⟨⟨_, Heap.get?_push_size _ rfl, rfl, rfl⟩, hl'.push _⟩) (fun b hb => ?_) fun i u hu => ?_)
  · rcases List.mem_cons.mp hb with e | e
    · exact .inl e
    · exact .inr (by rw [List.mem_singleton.mp e]; exact lt)
  · have hi2 : i < zs.length := by rw [← hz]; exact (Array.getElem?_eq_some_iff.mp hu).1
    obtain ⟨t, e⟩ := SS.strs_at hi i u (by rw [Array.getElem?_toList]; exact hu)
    refine ⟨zs[i], t, List.getElem?_eq_getElem hi2, ?_⟩
    rw [e, List.getD_eq_getElem?_getD, List.getElem?_eq_getElem hi2]
    rfl
/-- an empty set object, as set() lays it -/
def set0 (w : World) : Obj := { cls := .type "set", dict := none, data := .set #[] 0 (.fresh 0 0 (!w.params.followText "set-order")) }
theorem tx_empty {h : Heap} {a : Addr} (ho : h.get? a = some (set0 w)) : TxSet w h a [] := by
  refine ⟨_, #[], 0, _, ho, ⟨rfl, rfl, rfl⟩, rfl, fun e he => (nomatch he), by simp, by simp, ⟨by decide, rfl⟩, List.Pairwise.nil, ?_⟩
  show _ ∨ (!w.params.followText "set-order") = true
  cases w.params.followText "set-order"
  · exact .inr rfl
  · exact .inl rfl
set_option maxHeartbeats 8000000 in
theorem call_set_tx {v : Value} {T : String} {zs : List Str} {Q : Value → Shared → Prop} (hh : A.handled = none) (Z : Src P w s.heap v T zs) (hb : zs.length + 1 < scanBound)
    (k : ∀ (h' : Heap) (tk : Nat), TxSet w h' s.heap.objs.size (zs.foldl dist []) → (∀ b o, s.heap.get? b = some o → h'.get? b = some o) → Q (.ref s.heap.objs.size) { s with heap := h', toks := tk }) :
    wpAny (model P w) A (call (.type "set") [v]) Q E s := by
  obtain ⟨c, tl, hmro⟩ := PySem.F.called_set.mro
  have hmade := PySem.F.called_set.made
  have hsub := PySem.F.called_set.sub
  refine wpAny_call (codeAny_of_tree ?_)
  show wpAny _ _ (callAny (.type "set") _) _ _ _
  refine wpAny_pure ⟨Code.quiet_builtin _ (by decide +kernel), codeAny_builtin PySem.F.entry_type_call ?_⟩
  rw [Around.under_plain (weight_type_call_type "set" [v] []) rfl]
  have h1 := PySem.F.called_set.notType
  have h2 := PySem.F.called_set.canCreate
  have hct := PySem.F.typeCall_set_1 v
  repeat (any_goals (first | assumption | wp_step))
  refine codeAny_mono (code_set_led1 v (E := E) (Q₁ := fun obj s₁ => obj = .ref s.heap.objs.size ∧ s₁ = { s with heap := s.heap.push (set0 w) }) ⟨rfl, rfl⟩) fun r s₁ hr => ?_
  cases r with
  | error e => exact hr
  | ok fl =>
    cases fl with
    | ret obj =>
      obtain ⟨rfl, rfl⟩ := hr
      have hS : (s.heap.push (set0 w)).get? s.heap.objs.size = some (set0 w) := Heap.get?_push_size _ rfl
      have hT : Shared.TypeIs { s with heap := s.heap.push (set0 w) } (.ref s.heap.objs.size) "set" := ⟨_, hS, rfl⟩
      have hli := PySem.F.called_set.init.lookup
      have hbi := PySem.F.called_set.init.bind (.ref s.heap.objs.size)
      repeat (any_goals (first | assumption | wp_step))
      refine codeAny_mono (codeAny_call_builtin (R := wants (fun r s₂ => r = .none ∧ ∃ h' tk, s₂ = { s with heap := h', toks := tk } ∧ TxSet w h' s.heap.objs.size (zs.foldl dist []) ∧
          (∀ b o, s.heap.get? b = some o → h'.get? b = some o)) E) PySem.F.called_set.init.plain PySem.F.entry_set_init (check_set_init_1 hT ?_)) fun r₂ s₂ hr₂ => ?_
      · have kp : ∀ b o, s.heap.get? b = some o → (s.heap.push (set0 w)).get? b = some o := fun b o e => Heap.get?_push_of_some _ e
        have tv := Z.ty { s with heap := s.heap.push (set0 w) } kp
        have z1 := Z.s1
        have z2 := Z.s2
        have z3 := Z.nd
        unfold Builtin.«set.__init__» noKeywords
        unfold Builtin.Frozenset.updateFrom
        generalize hPI : pyIter = PI
        wp_walk
        subst hPI
        have hh2 : A.in1.in1.handled = none := by simp [hh]
        have hh3 : A.in1.in1.in1.handled = none := by simp [hh]
        have sz : (s.heap.push (set0 w)).objs.size = s.heap.objs.size + 1 := Heap.size_push ..
        refine Z.it _ _ _ _ kp (by rw [sz]; exact Nat.le_succ _) hh2 fun o fp St Pv W st hf hv => ?_
        have nS : s.heap.objs.size ∉ fp := fun z => by
          rcases hf _ z with e | e
          · rw [sz] at e
            exact absurd e (Nat.ne_of_lt (Nat.lt_succ_self _))
          · exact absurd e (Nat.lt_irrefl _)
        refine wpAny_bind (wpAny_runValue (tx_loop ((W _ hh3).toS) s.heap.objs.size nS zs rfl hb hv (zs.length - 0) 0 _ (by omega) (Nat.zero_le _) st ?_ fun s' hm hS' => ?_))
        · exact tx_empty (Heap.get?_push_of_some _ hS)
        · obtain ⟨h', g2, d', tk', os'⟩ := s'
          obtain rfl : g2 = s.gens := hm.gens
          obtain rfl : d' = s.drawn := hm.drawn
          obtain rfl : os' = s.os := hm.os
          refine wpAny_pure (wpAny_pure ⟨rfl, h', tk', rfl, hS', fun b u e => hm.heap b u (fun z => ?_) (Heap.get?_push_of_some _ (kp b u e))⟩)
          have lt := Heap.lt_size e
          rcases List.mem_cons.mp z with e2 | e2
          · exact absurd lt (by rw [e2]; exact Nat.lt_irrefl _)
          · rw [List.mem_singleton.mp e2] at lt
            rw [sz] at lt
            exact absurd lt (Nat.not_lt.mpr (Nat.le_succ _))
      · cases r₂ with
        | error e => exact hr₂
        | ok fl₂ =>
          cases fl₂ with
          | ret r =>
            obtain ⟨rfl, h', tk, rfl, hS', hk'⟩ := hr₂
            repeat (any_goals (first | assumption | wp_step))
            exact k _ _ hS' hk'
          | _ => exact hr₂.elim
    | _ => exact hr.elim
end
end SL
namespace SL
open PySem PySem.Spec PyProof.Rows L2
theorem fold_nd : ∀ (zs l : List Str), l.Nodup → (zs.foldl dist l).Nodup
  | [], l, h => h
  | x :: r, l, h => by
    refine fold_nd r _ ?_
    unfold dist
    split
    · exact h
    · rename_i n
      exact List.nodup_cons.mpr ⟨n, h⟩
/-- the set of texts at a -/
def SetS (w : World) (a : Addr) (l : List Str) : HO := .ext fun h => TxSet w h a l
def chars (z : Str) : List Str := z.cps.toList.map fun c => ⟨#[c]⟩
section
variable {X : Cx}
theorem setS_new {w : World} {P : Program} {H : Hp} {h : Heap} {a : Addr} {l : List Str} (R : TxSet w h a l) : ObjOk P w H h a (SetS w a l) := by
  have ⟨o, _, _, _, ho, _⟩ := R
  exact ⟨R, ⟨o, ho⟩, fun h1 h2 p k => TxSet.at p k⟩
theorem setS_get {pins : List (Addr × Obj)} {σ : L2.St} {H : Hp} {s : Shared} {a : Addr} {l : List Str} (I : Inv X pins σ H s) (ha : H a = some (SetS X.w a l)) : TxSet X.w s.heap a l := (I.hok a _ ha).1
/-- what set(x) gives, x with the texts zs -/
def NewSet (w : World) (zs : List Str) (H : Hp) (Q : VK) : Prop := zs.length < 1000 ∧ ∀ a l, H a = none → l.Nodup → (∀ x, x ∈ l ↔ x ∈ zs) → Q (.ref a) (upd H a (SetS w a l))
def rSetU (K : PySem.W.Frag) (w : World) : List V → Hp → VK → Prop := fun xs H Q => match xs with
  | [.str z] => NewSet w (chars z) H Q
  | [.ref p] => ∃ zs : List Str, SqL K H p (zs.map V.str) ∧ NewSet w zs H Q
  | _ => False
theorem new_set {pins : List (Addr × Obj)} {σ : L2.St} {H : Hp} {s : Shared} {Q : VK} {v : Value} {T : String} {zs : List Str} (hc : X.calm = true) (I : Inv X pins σ H s) (Z : Src X.prog X.w s.heap v T zs) (q : NewSet X.w zs H Q) :
    wpAny (model X.prog X.w) X.A (call (.type "set") [v]) (EP X pins σ Q) X.xe s := by
  have sb : zs.length + 1 < scanBound := Nat.lt_of_lt_of_le (Nat.succ_lt_succ q.1) (by decide)
  refine call_set_tx (I.ok.hd hc) Z sb fun h' tk R k => ?_
  have fr := I.hok.fresh (Nat.le_refl s.heap.objs.size)
  exact ⟨.ref s.heap.objs.size, _, I.laid (t' := tk) k (Nat.le_refl _) (setS_new R), rfl, q.2 _ _ fr (fold_nd zs [] .nil) fun x => by rw [fold_mem]; simp⟩
theorem o_set {K : PySem.W.Frag} {w : World} (hc : X.calm = true) (hK : X.K = K := by rfl) (hw : X.w = w := by rfl) : CallR X (.type "set") (rSetU K w) := by
  subst hK
  subst hw
  intro pins s σ H xs us Q I r h
  match xs, h with
  | [.str z], q =>
    obtain ⟨u, rfl, t, rfl⟩ := vals1 r
    exact new_set hc I (src_text z t) q
  | [.ref p], ⟨zs, hs, q⟩ =>
    obtain ⟨u, rfl, hu⟩ := vals1 r
    obtain rfl : u = Value.ref p := hu
    obtain ⟨its, rv, pl, _⟩ := I.list hs
    exact new_set hc I (src_list pl.isList (by simpa using strsAre_of rv)) q
/-- len of a set of texts -/
def rLenS (w : World) : List V → Hp → VK → Prop := fun xs H Q => match xs with
  | [.ref p] => ∃ l, H p = some (SetS w p l) ∧ Q (.int (l.length : Int)) H
  | _ => False
theorem len_setS {w : World} (hw : X.w = w := by rfl) : CallR X (.builtin "len") (rLenS w) := by
  subst hw
  intro pins s σ H xs us Q I r h
  match xs, h with
  | [.ref p], ⟨l, hp, q⟩ =>
    obtain ⟨u, rfl, hu⟩ := vals1 r
    obtain rfl : u = Value.ref p := hu
    obtain ⟨o, es, ep, t, ho, hx, hd, g, pm, nd, ⟨hb, hf⟩, _⟩ := setS_get I hp
    have hn : es.size = l.length := by
      have e := pm.length_eq
      rw [List.length_map, Array.length_toList] at e
      exact e
    refine call_len_set ho hx hd hf ?_ ?_
    · have e : scanBound < 2 ^ 63 := by decide
      omega
    · rw [hn]
      exact ⟨.int l.length, H, I.tok _, ⟨_, rfl⟩, q⟩
/-! ### sorted -/
theorem un_laid {fs ex : List Addr} {H : Hp} {h h' : Heap} {a : Addr} {o : HO} (k : ∀ b u, h.get? b = some u → h'.get? b = some u) (na : ∀ b u, h.get? b = some u → b ≠ a) (hn : H a = none) : Un fs ex H (upd H a o) h h' :=
  ⟨fun b u q _ _ _ => k b u q, fun b u q _ _ _ => ⟨u.slots, k b u q⟩, fun b u q n _ => by rw [upd_ne (na b u q)]; exact n, fun b u q _ => ⟨u, k b u q⟩, fun b xs q => by rw [upd_ne (ne_of_none q hn)]; exact q,
    fun b u xs q => by rw [upd_ne (ne_of_none q hn)]; exact q, fun b ps q => ⟨#[], by rw [upd_ne (ne_of_none q hn), q]; simp⟩⟩
theorem hok_laid {P : Program} {w : World} {H : Hp} {h h' : Heap} {a : Addr} {o : HO} (x : HOk P w H h) (k : ∀ b u, h.get? b = some u → h'.get? b = some u) (hn : H a = none) (new : ObjOk P w (upd H a o) h' a o) : HOk P w (upd H a o) h' := fun b u e => by
  by_cases hb : b = a
  · subst hb
    rw [upd_same] at e
    cases e
    exact new
  · rw [upd_ne hb] at e
    exact (x b u e).stay (fun c v _ q => k c v q) (fun c q => by rw [upd_ne (ne_of_none q hn)]; exact q) fun c xs q => by rw [upd_ne (ne_of_none q hn)]; exact q
theorem sorted_of {P : Program} {w : World} {A : Around} {E : Value → Shared → Prop} {s : Shared} {v : Value} {zs : List Str} {Q : Value → Shared → Prop} (h64 : zs.length < 64)
    (col : ∀ (A : Around) (Q' : List Value → Shared → Prop), A.handled = none → (∀ s' vs zs', (∀ b o, s.heap.get? b = some o → s'.heap.get? b = some o) → s'.gens = s.gens → s'.os = s.os → PyProof.Rows.StrsAre vs zs' → zs'.Perm zs → Q' vs s') → wpAny (model P w) A (collect v) Q' E s)
    (hh : A.handled = none)
    (hQ : ∀ s' p (out : Array Value) (c : Nat) (ys : List Str), (∀ b o, s.heap.get? b = some o → s'.heap.get? b = some o) → s'.gens = s.gens → s'.os = s.os → (∀ b o, s.heap.get? b = some o → b ≠ p) → s'.heap.get? p = some (seqObj "list" out c) → PyProof.Rows.StrsAre out.toList ys → ys.Perm zs → sortedS ys = true → Q (.ref p) s') :
    wpAny (model P w) A (call (.builtin "sorted") [v]) Q E s := by
  refine Calls.call_function_entry kind_sorted plain_sorted entry_sorted (args_sorted1 _) ?_
  unfold Builtin.«sorted»
  refine wpAny_bind (m := checkCount "sorted" 1 1 _) (wpAny_pure (wpAny_bind (col A.in1 _ (by simp [hh]) fun s1 vs zs' k1 g1 o1 hs pm => ?_)))
  have hl : vs.length = zs.length := by rw [PyProof.Rows.StrsAre.length hs, pm.length_eq]
  refine wpAny_bind (wpAny_newList ?_ (by rw [hl, sizeLine_eq]; omega))
  have oL : (s1.heap.push (seqObj "list" vs.toArray 0)).get? s1.heap.objs.size = some (seqObj "list" vs.toArray 0) := Heap.get?_push_size _ rfl
  refine wpAny_bind (wpAny_holding (wpAny_call_entry slot_list_sort ⟨_, oL, rfl⟩ entry_list_sort (list_sort_treeK strKind_oneLt oL hs.keysOf (fun v₁ v₂ rest e => keyKind_strs (by rw [← e]; exact hs)) (by rw [hl]; exact h64) fun st' a1 a2 => ⟨_, rfl, ?_⟩) (args_list_sort _)))
  obtain ⟨ys, b1, b2, b3⟩ := sorted_out_str hs a1 a2
  obtain ⟨c, hc⟩ := sortedHeap_at (vs := vs) (out := (arrOf st').map (·.2)) oL
  refine wpAny_pure ⟨_, rfl, hQ _ s1.heap.objs.size _ c ys (fun b u e => ?_) g1 o1 (fun b u e => Nat.ne_of_lt (Heap.lt_size (k1 b u e))) hc b1 (b2.trans pm) b3⟩
  have q := k1 b u e
  have lt := Heap.lt_size q
  show (sortedHeap (s1.heap.push (seqObj "list" vs.toArray 0)) s1.heap.objs.size vs ((arrOf st').map (·.2))).get? b = some u
  rw [sortedHeap_old (Nat.ne_of_lt lt) (by rw [size_push']; exact Nat.lt_succ_of_lt lt)]
  exact Heap.get?_push_of_some _ q
theorem items_strs {z : Str} {acc : Array Value} (h : ItemsOf (SignAt z) acc z.cps.size) : PyProof.Rows.StrsAre acc.toList (chars z) := by
  have key : ∀ (l : List Value) (cs : List Nat), l.length = cs.length → (∀ (j : Nat) (v : Value), l[j]? = some v → ∃ (c : Nat) (u : Tok), cs[j]? = some c ∧ v = Value.str ⟨#[c]⟩ u) → PyProof.Rows.StrsAre l (cs.map fun c => ⟨#[c]⟩) := by
    intro l
    induction l with
    | nil =>
      intro cs hl _
      cases cs with
      | nil => exact .nil
      | cons c r => simp at hl
    | cons v r ih =>
      intro cs hl hv
      cases cs with
      | nil => simp at hl
      | cons c cs =>
        obtain ⟨c', u, e1, rfl⟩ := hv 0 v rfl
        have e2 : c = c' := by simpa using e1
        subst e2
        exact .cons _ u (ih cs (by simpa using hl) fun j v hj => by simpa using hv (j + 1) v (by simpa using hj))
  refine key acc.toList z.cps.toList (by rw [Array.length_toList, Array.length_toList]; exact h.1) fun j v hj => ?_
  obtain ⟨c, u, e1, e2⟩ := h.2 j v (by rw [← Array.getElem?_toList]; exact hj)
  exact ⟨c, u, by rw [Array.getElem?_toList]; exact e1, e2⟩
/-- what sorted(x) gives, x with the texts zs -/
def NewSorted (zs : List Str) (H : Hp) (Q : VK) : Prop := zs.length < 64 ∧ ∀ ys p, ys.Perm zs → sortedS ys = true → H p = none → Q (.ref p) (upd H p (.lst (ys.map V.str)))
theorem new_sorted {pins : List (Addr × Obj)} {σ : L2.St} {H : Hp} {s : Shared} {Q : VK} {v : Value} {zs : List Str} (hc : X.calm = true) (I : Inv X pins σ H s) (q : NewSorted zs H Q)
    (col : ∀ (A : Around) (Q' : List Value → Shared → Prop), A.handled = none → (∀ s' vs zs', (∀ b o, s.heap.get? b = some o → s'.heap.get? b = some o) → s'.gens = s.gens → s'.os = s.os → PyProof.Rows.StrsAre vs zs' → zs'.Perm zs → Q' vs s') → wpAny (model X.prog X.w) A (collect v) Q' X.xe s) :
    wpAny (model X.prog X.w) X.A (call (.builtin "sorted") [v]) (EP X pins σ Q) X.xe s := by
  refine sorted_of q.1 col (I.ok.hd hc) fun s' p out c ys k g o hp hg hi pm so => ?_
  have fr : H p = none := by
    cases e : H p with
    | none => rfl
    | some u =>
      obtain ⟨ob, hob⟩ := objOk_get (I.hok p u e)
      exact absurd rfl (hp p ob hob)
  have hlen : (ys.map V.str).length ≤ sizeLine := by
    have h1 := q.1
    rw [List.length_map, pm.length_eq, sizeLine_eq]
    omega
  have J : Inv X pins σ (upd H p (.lst (ys.map V.str))) { s with heap := s'.heap, gens := s'.gens, drawn := s'.drawn, toks := s'.toks } :=
    I.call (ch := []) (un_laid k hp fr) (hok_laid I.hok k fr ⟨hlen, out.toList, c, vals_of_strs hi, hg⟩) (by rw [g]; exact I.bare) fun _ z => nomatch z
  obtain ⟨h2, g2, d2, t2, o2⟩ := s'
  obtain rfl : o2 = s.os := o
  exact ⟨.ref p, _, J, rfl, q.2 ys p pm so fr⟩
def rSortedU (K : PySem.W.Frag) (w : World) : List V → Hp → VK → Prop := fun xs H Q => match xs with
  | [.str z] => NewSorted (chars z) H Q
  | [.ref p] => (∃ l, H p = some (SetS w p l) ∧ NewSorted l H Q) ∨ (rSortedS K [.ref p] H Q ∨ rSortedI K [.ref p] H Q)
  | _ => False
theorem o_sorted {K : PySem.W.Frag} {w : World} (hc : X.calm = true) (hK : X.K = K := by rfl) (hw : X.w = w := by rfl) : CallR X (.builtin "sorted") (rSortedU K w) := by
  subst hK
  subst hw
  intro pins s σ H xs us Q I r h
  match xs, h with
  | [.str z], q =>
    obtain ⟨u, rfl, t, rfl⟩ := vals1 r
    have h64 : z.cps.size < 64 := by
      have e := q.1
      unfold chars at e
      rw [List.length_map, Array.length_toList] at e
      exact e
    refine new_sorted hc I q fun A Q' hA k => wpAny_collect_str hA z t (fun s' acc kp g d o it => k s' acc.toList (chars z) kp g o (items_strs it) (.refl _)) (by rw [sizeLine_eq]; omega)
  | [.ref p], .inl ⟨l, hp, q⟩ =>
    obtain ⟨u, rfl, hu⟩ := vals1 r
    obtain rfl : u = Value.ref p := hu
    obtain ⟨o, es, ep, t, ho, hx, hd, g, pm, nd, ⟨hb, hf⟩, hr, hl⟩ := setS_get I hp
    refine new_sorted hc I q fun A Q' hA k => collect_set hA ⟨o, ho, hx.1, hd⟩ hf hb hr hl fun s1 vs k1 _ g1 o1 p1 => ?_
    have key : ∀ (us : List Value), (∀ v ∈ us, ∃ x t, v = Value.str x t) → PyProof.Rows.StrsAre us (us.map fun v => txOf (0, v)) := by
      intro us
      induction us with
      | nil => exact fun _ => .nil
      | cons v r ih =>
        intro hv
        obtain ⟨x, t, rfl⟩ := hv v List.mem_cons_self
        exact .cons x t (ih fun u hu => hv u (List.mem_cons_of_mem _ hu))
    refine k s1 vs (vs.map fun v => txOf (0, v)) k1 g1 o1 (key vs fun v hv => ?_) ?_
    · obtain ⟨e, he, rfl⟩ := List.mem_map.mp (p1.mem_iff.mp hv)
      obtain ⟨x, tk, e1, _⟩ := g e he
      exact ⟨x, tk, e1⟩
    · have p2 := p1.map fun v => txOf (0, v)
      rw [List.map_map] at p2
      exact p2.trans pm
  | [.ref p], .inr h => exact (cr_sortedS.or cr_sortedI) pins s σ H [.ref p] us Q I r h
end
end SL
namespace SL
open PySem PySem.Spec PyProof.Rows L2 SX HT
section
variable {prog : Program} {w : World} {A : Around} {E : Value → Shared → Prop} {s : Shared}
end
end SL
namespace SL
open PySem PySem.Spec PyProof.Rows L2 SX
theorem tyStr {K : PySem.W.Frag} {H : Hp} {z : Str} : tyV K "str" (.str z) H = True := propext ⟨fun _ => trivial, fun _ => rfl⟩
section
variable {X : Cx} {o e : Expr} {es : List Expr} {to : TE} {t : TA} {name : Str} {apos cpos : Pos} {T id : String} {r : V → List V → Hp → VK → Prop}
theorem pe_bmK {K : PySem.W.Frag} (pa : PlainAttrs T) (slot : Slot T name id) (hty : typeOf (.builtin id) = pure (.type "method_descriptor")) (hm : MtR X id r) (ho : PE X o to) (ha : PA X (e :: es) t)
    (hK : X.K = K := by rfl) (hbase : attributeBase o name X.env (eval o X.env) = eval o X.env := by rfl)
    (hfew : ((backTo cpos (starEach (e :: es) X.env)).all (fun x => !x.1) && (backToKw cpos (keywordEach [] X.env)).all (fun x => x.1.isSome)
      && decide ((e :: es).length + ([] : List Keyword).length + (if ([] : List Keyword).isEmpty then 0 else 1) < 30)) = true := by rfl)
    (hline : (apos.endLine == cpos.line) = true := by rfl) (hs : starEach (e :: es) X.env = (false, eval e X.env) :: starEach es X.env := by rfl) (hplain : (backTo cpos (starEach es X.env)).any (·.1) = false := by rfl) :
    PE X (.Call (.Attribute o name apos) (e :: es) [] cpos) (tBM K T r to t) := by
  subst hK
  exact pe_bm pa slot hty hm ho ha hbase hfew hline hs hplain
theorem pe_bm0K' {K : PySem.W.Frag} (pa : PlainAttrs T) (slot : Slot T name id) (hty : typeOf (.builtin id) = pure (.type "method_descriptor")) (hm : MtR X id r) (ho : PE X o to)
    (hK : X.K = K := by rfl) (hbase : attributeBase o name X.env (eval o X.env) = eval o X.env := by rfl) (hline : (apos.endLine == cpos.line) = true := by rfl) : PE X (.Call (.Attribute o name apos) [] [] cpos) (tBM0 K T r to) := by
  subst hK
  exact pe_bm0 pa slot hty hm ho hbase hline
theorem MtR.imp {r r' : V → List V → Hp → VK → Prop} (h : MtR X id r) (i : ∀ x xs H Q, r' x xs H Q → r x xs H Q) : MtR X id r' := fun pins s σ H x xs v us Q I rx rs q => h pins s σ H x xs v us Q I rx rs (i _ _ _ _ q)
def rJoin (K : PySem.W.Frag) : V → List V → Hp → VK → Prop := fun x xs H Q => match x, xs with
  | .str a, [.ref p] => ∃ ys : List Str, (SqL K H p (ys.map V.str) ∨ SqT K H p (ys.map V.str)) ∧ (ys.map (·.length)).sum + ys.length * a.length ≤ 16777216 ∧ Q (.str (Txt.join a ys)) H
  | _, _ => False
theorem mo_join {K : PySem.W.Frag} (hK : X.K = K := by rfl) : MtR X "str.join" (rJoin K) := by
  subst hK
  refine MtR.imp mt_join fun x xs H Q h => ?_
  match x, xs, h with
  | .str a, [.ref p], ⟨ys, h1, h2, q⟩ => exact ⟨a, p, ys, rfl, rfl, h1, h2, q⟩
def rCount : V → List V → Hp → VK → Prop := fun x xs H Q => match x, xs with
  | .str a, [.str b] => Q (.int (Txt.count a b)) H
  | _, _ => False
theorem mo_count : MtR X "str.count" rCount := by
  refine MtR.imp mt_count fun x xs H Q h => ?_
  match x, xs, h with
  | .str a, [.str b], q => exact ⟨a, b, rfl, rfl, q⟩
/-! ### len of anything -/
def rLenW (K : PySem.W.Frag) (w : World) : List V → Hp → VK → Prop := fun xs H Q => match xs with
  | [.str z] => z.length ≤ sizeLine ∧ Q (.int z.length) H
  | [.ref p] => (∃ l, H p = some (SetS w p l) ∧ Q (.int (l.length : Int)) H) ∨ ∃ n, LenV K (.ref p) H n ∧ Q (.int n) H
  | _ => False
theorem o_lenW {K : PySem.W.Frag} {w : World} (hK : X.K = K := by rfl) (hw : X.w = w := by rfl) : CallR X (.builtin "len") (rLenW K w) := by
  subst hK hw
  refine CallR.imp (CallR.or len_setS o_len) fun xs H Q h => ?_
  match xs, h with
  | [.str z], ⟨h1, h2⟩ => exact .inr ⟨_, ⟨h1, rfl⟩, h2⟩
  | [.ref p], .inl h => exact .inl h
  | [.ref p], .inr h => exact .inr h
/-! ### list of a text, a list, a tuple -/
def rListU (K : PySem.W.Frag) : List V → Hp → VK → Prop := fun xs H Q => match xs with
  | [.str z] => z.length ≤ sizeLine ∧ ∀ p, H p = none → Q (.ref p) (upd H p (.lst ((chars z).map V.str)))
  | [.ref p] => ∃ ys, (SqL K H p ys ∨ SqT K H p ys) ∧ ∀ l, H l = none → Q (.ref l) (upd H l (.lst ys))
  | _ => False
/-! ### x[::-1] -/
def rRevU (K : PySem.W.Frag) : V → Hp → VK → Prop := fun x H Q => match x with
  | .str z => z.length ≤ sizeLine ∧ Q (.str (S z.cps.toList.reverse)) H
  | .ref a => (∃ xs, SqT K H a xs ∧ ∀ p, H p = none → Q (.ref p) (upd H p (.tup xs.reverse))) ∨ ∃ xs, SqL K H a xs ∧ ∀ p, H p = none → Q (.ref p) (upd H p (.lst xs.reverse))
  | _ => False
end
/-! ### texts by their signs -/
theorem join_chars : ∀ a : List Nat, Txt.join (S []) (a.map fun c => S [c]) = S a := by
  intro a
  have h : ∀ a : List Nat, TL.joinL [] (a.map fun c => [c]) = a := by
    intro a
    induction a with
    | nil => rfl
    | cons c r ih =>
      cases r with
      | nil => rfl
      | cons d r => exact congrArg (c :: ·) ih
  have e := SX.join_S [] (a.map fun c => [c])
  rw [h a, List.map_map] at e
  exact e
theorem len_chars (a : List Nat) : ((a.map fun c => S [c]).map (·.length)).sum + (a.map fun c => S [c]).length * (S []).length = a.length := by
  rw [S_len, List.length_nil, Nat.mul_zero, Nat.add_zero]
  induction a with
  | nil => rfl
  | cons c r ih =>
    rw [List.map_cons, List.map_cons, List.sum_cons, ih, S_len]
    simp; omega
end SL
namespace SL
open PySem PySem.Spec PyProof.Rows L2 SX
/-! ### enumerate of a text or a list -/
def Ites (z : Str) : It := ⟨fun i _ => i < z.cps.size, fun i H v H' => ∃ T c, v = .ref T ∧ H T = none ∧ H' = upd H T (.tup [.int (i : Nat), .str ⟨#[c]⟩]) ∧ z.cps[i]? = some c, fun i _ => z.cps.size ≤ i⟩
theorem turn_enumS {P : Program} {w : World} {K : PySem.W.Frag} {elts : List Expr} {kk : Nat} {tpos : Pos} (e it : Addr) (z : Str) (t : Tok) :
    Turn P w K (.Tuple elts kk tpos) (Ites z) [e, it] e (fun i h => (∃ old, IsEnum h e it ((i : Nat) : Int) old) ∧ h.IsStrIter it (strIterType z) z t i ∧ e ≠ it ∧ i ≤ z.cps.size) where
  mem := by simp
  obj := fun i h st b hb => by
    obtain ⟨⟨old, he⟩, ⟨o, ho, hc, hd⟩, _⟩ := st
    have e' : b = e ∨ b = it := by simpa using hb
    rcases e' with z | z
    · rw [z]; exact ⟨_, he, fun v q => nomatch q⟩
    · rw [z]; exact ⟨o, ho, fun v q => by rw [hd] at q; cases q⟩
  keep := fun i h h' st k => let ⟨⟨old, he⟩, ⟨o, ho, r⟩, hne, hi⟩ := st; ⟨⟨old, k e (by simp) _ he⟩, ⟨o, k it (by simp) o ho, r⟩, hne, hi⟩
  item := by
    intro X hP hw hK hc i pins s σ H E I hf st hg
    subst hP hw hK
    obtain ⟨⟨old, he⟩, hit, hne, hi⟩ := st
    have hg' : i < z.cps.size := hg
    have hel : e < s.heap.objs.size := Heap.lt_size he
    have hil : it < s.heap.objs.size := by obtain ⟨_, q, _⟩ := hit; exact Heap.lt_size q
    have D : Draws X.prog X.w X.A.in1 it [it] z.cps.size (fun i v => ∃ c u, z.cps[i]? = some c ∧ v = .str ⟨#[c]⟩ u) (fun i h => h.IsStrIter it (strIterType z) z t i) := by
      unfold strIterType
      split
      · exact Draws.strAscii (A := X.A.in1) (I.ok.hd hc) it z t
      · exact Draws.strWide (A := X.A.in1) (I.ok.hd hc) it z t
    refine wpAny_pyNext_enum_itemD D he hit hg' hne (by simpa using hne) fun x h' tk hPx ho hit' hT hsz hk => ?_
    obtain ⟨c, u, hcx, rfl⟩ := hPx
    refine ⟨_, rfl, wpAny_letOwnedTupleGo_enum (s := { s with heap := h', toks := tk + 1 }) ho fun h'' he' sb => ?_⟩
    have hT2 : h''.get? s.heap.objs.size = some { cls := .type "tuple", data := .seq #[.int i tk, .str ⟨#[c]⟩ u] } := (sb.2 _ (Nat.ne_of_gt hel)).trans hT
    have new : ObjOk X.prog X.w (upd H s.heap.objs.size (.tup [.int (i : Nat), .str ⟨#[c]⟩])) h'' s.heap.objs.size (.tup [.int (i : Nat), .str ⟨#[c]⟩]) :=
      ⟨by show 2 ≤ sizeLine; decide, [.int i tk, .str ⟨#[c]⟩ u], .cons ⟨_, rfl⟩ (.cons ⟨_, rfl⟩ .nil), ⟨_, hT2, rfl, _, rfl⟩⟩
    have I1 : Inv X pins σ (upd H s.heap.objs.size (.tup [.int (i : Nat), .str ⟨#[c]⟩])) { s with heap := h'', toks := tk + 1 } :=
      I.turnedNew (ch := [e, it]) (fun b ob hb q => (sb.2 b (fun z => hb (by simp [z]))).trans (hk b ob (fun z => hb (by simp [z])) (fun z => hb (by simp [z])) q)) hf (Nat.le_refl _) new
    refine ⟨.ref s.heap.objs.size, _, I1, rfl, ⟨_, c, rfl, I.hok.fresh (Nat.le_refl _), rfl, hcx⟩, ⟨⟨.str ⟨#[c]⟩ u, ?_⟩, ?_, hne, hg'⟩, fun b hb => ?_⟩
    · have e1 : ((i + 1 : Nat) : Int) = (i : Int) + 1 := by omega
      rw [e1]; exact he'
    · obtain ⟨o, ho', r⟩ := hit'
      exact ⟨o, (sb.2 it (Ne.symm hne)).trans ho', r⟩
    · have hb' : b < s.heap.objs.size := by
        have e' : b = e ∨ b = it := by simpa using hb
        rcases e' with z | z
        · rw [z]; exact hel
        · rw [z]; exact hil
      rw [upd_ne (Nat.ne_of_lt hb')]
      exact (hf b hb).1
  done := by
    intro X hP hw hK hc i pins s σ H E I hf st hg
    subst hP hw hK
    obtain ⟨⟨old, he⟩, hit, hne, hi⟩ := st
    have hg' : z.cps.size ≤ i := hg
    have ei : i = z.cps.size := by omega
    subst ei
    obtain ⟨f0, f1, f2, f3, f4, f5⟩ := hf it (by simp)
    have D : Draws X.prog X.w X.A.in1 it [it] z.cps.size (fun i v => ∃ c u, z.cps[i]? = some c ∧ v = .str ⟨#[c]⟩ u) (fun i h => h.IsStrIter it (strIterType z) z t i) := by
      unfold strIterType
      split
      · exact Draws.strAscii (A := X.A.in1) (I.ok.hd hc) it z t
      · exact Draws.strWide (A := X.A.in1) (I.ok.hd hc) it z t
    exact wpAny_pyNext_enum_endD D he hit fun h' eb => ⟨rfl, I.turned (t' := s.toks) (fun b o hb q => eb b o hb q) f0 f1 f3 f4 f5⟩
  self := fun A i s Q E st h => let ⟨⟨_, he⟩, _⟩ := st; wpAny_pyIter_enum he h
def iEnumU (K : PySem.W.Frag) (ta : TA) : TI := fun σ H R => ta σ H fun vs H1 => match vs with
  | [.ref a] => (∃ xs, SqL K H1 a xs) ∧ R (Ite K a) H1
  | [.str z] => R (Ites z) H1
  | _ => False
theorem o_enum {X : Cx} {K : PySem.W.Frag} {e : Expr} {te : TE} {p pos tpos : Pos} {elts : List Expr} {kk : Nat} (hg : Gl X "enumerate") (hm : X.mg "enumerate" = none) (he : PE X e te) (hs : starEach [e] X.env = (false, eval e X.env) :: starEach [] X.env := by rfl) (hK : X.K = K := by rfl) :
    PI X (.Tuple elts kk tpos) (.Call (.Name "enumerate" p) [e] [] pos) (iEnumU K (tCons te tNil)) := by
  subst hK
  refine ⟨fun pins s σ H R I h => ?_⟩
  refine Call_ (ld_blt I hg hm boot_enumerate (PyProof.Rows.callWith_type1 (args_cons (thn (he.run pins s σ H _ I h) fun u s1 ⟨v, H1, I1, r1, q1⟩ => args_nil ?_) hs) hs rfl))
  have q2 : (match [v] with
    | [.ref a] => (∃ xs, SqL X.K H1 a xs) ∧ R (Ite X.K a) H1
    | [.str z] => R (Ites z) H1
    | _ => False) := q1
  cases v with
  | ref a =>
    obtain ⟨⟨xs, hq⟩, q⟩ := q2
    cases r1
    obtain ⟨its, rv, p', hz⟩ := I1.list hq
    refine call_enumerate_list p'.isList fun h' he hit hsz hk => wpAny_pyIter_enum he ?_
    have I2 : Inv X pins σ H1 { s1 with heap := h' } := I1.kept (t' := s1.toks) hk
    refine ⟨s1.heap.objs.size + 1, [s1.heap.objs.size + 1, s1.heap.objs.size], _, _, H1, rfl, I2, turn_enum a (s1.heap.objs.size + 1) s1.heap.objs.size, ⟨⟨.none, he⟩, hit, Nat.succ_ne_self _⟩, fun b hb => ?_, q⟩
    have e' : b = s1.heap.objs.size + 1 ∨ b = s1.heap.objs.size := by simpa using hb
    have hle : s1.heap.objs.size ≤ b := by
      rcases e' with z | z
      · rw [z]; exact Nat.le_add_right _ _
      · rw [z]; exact Nat.le_refl _
    exact I1.fpOk hle (I1.hok.fresh hle)
  | str z =>
    obtain ⟨t, rfl⟩ := r1
    refine call_enumerate_str fun h' he hit hsz hk => wpAny_pyIter_enum he ?_
    have I2 : Inv X pins σ H1 { s1 with heap := h' } := I1.kept (t' := s1.toks) hk
    refine ⟨s1.heap.objs.size + 1, [s1.heap.objs.size + 1, s1.heap.objs.size], _, _, H1, rfl, I2, turn_enumS (s1.heap.objs.size + 1) s1.heap.objs.size z t, ⟨⟨.none, he⟩, hit, Nat.succ_ne_self _, Nat.zero_le _⟩, fun b hb => ?_, q2⟩
    have e' : b = s1.heap.objs.size + 1 ∨ b = s1.heap.objs.size := by simpa using hb
    have hle : s1.heap.objs.size ≤ b := by
      rcases e' with z | z
      · rw [z]; exact Nat.le_add_right _ _
      · rw [z]; exact Nat.le_refl _
    exact I1.fpOk hle (I1.hok.fresh hle)
  | _ => exact absurd q2 id
/-! ### max, min, insert -/
section
variable {X : Cx}
def rMaxU (K : PySem.W.Frag) : List V → Hp → VK → Prop := fun xs H Q => match xs with
  | [.int i, .int j] => Q (.int (if j > i then j else i)) H
  | [.ref a] => rMax K [.ref a] H Q
  | _ => False
theorem o_max {K : PySem.W.Frag} (hc : X.calm = true) (hK : X.K = K := by rfl) : CallR X (.builtin "max") (rMaxU K) := by
  subst hK
  refine CallR.imp (CallR.or (call_max2 hc) (cr_max hc)) fun xs H Q h => ?_
  match xs, h with
  | [.int i, .int j], q => exact .inl ⟨i, j, rfl, q⟩
  | [.ref a], q => exact .inr q
def rMinU (K : PySem.W.Frag) : List V → Hp → VK → Prop := fun xs H Q => match xs with
  | [.int i, .int j] => Q (.int (if j < i then j else i)) H
  | [.ref a] => rMin K [.ref a] H Q
  | _ => False
theorem o_min {K : PySem.W.Frag} (hc : X.calm = true) (hK : X.K = K := by rfl) : CallR X (.builtin "min") (rMinU K) := by
  subst hK
  refine CallR.imp (CallR.or (call_min2 hc) (cr_min hc)) fun xs H Q h => ?_
  match xs, h with
  | [.int i, .int j], q => exact .inl ⟨i, j, rfl, q⟩
  | [.ref a], q => exact .inr q
def rInsert : V → List V → Hp → VK → Prop := fun x vs H Q => match x, vs with
  | .ref l, [.int i, y] => ∃ xs, H l = some (.lst xs) ∧ xs.length < sizeLine ∧ 0 ≤ i ∧ i < 2 ^ 63 ∧ Q .non (upd H l (.lst (xs.take i.toNat ++ [y] ++ xs.drop i.toNat)))
  | _, _ => False
end
end SL
namespace SL
open PySem PySem.Spec PyProof.Rows L2 SX SrtO
open PySem.W (KatLex kat_nil kat_cons kat_yes kat_no kat_go kat_lt)
/-! ### sorted lists of tuples: a number, then a text, then more -/
abbrev KeyT := Int × List Nat
def ltK (a b : KeyT) : Bool := lexLt itemOrd [.inl a.1, .inr a.2] [.inl b.1, .inr b.2]
theorem ltK_irr (a : KeyT) : ltK a a = false := lex_irrefl _
theorem swo_ltK {α : Type} (k : α → KeyT) : Swo fun v u => ltK (k v) (k u) := by
  refine ⟨fun x y h => ?_, fun x y z h1 h2 => ?_⟩
  · cases e : ltK (k y) (k x) with
    | false => rfl
    | true =>
      have := lex_trans (O := itemOrd) _ _ _ h e
      rw [show lexLt itemOrd [.inl (k x).1, .inr (k x).2] [.inl (k x).1, .inr (k x).2] = false from lex_irrefl _] at this
      cases this
  · cases e : ltK (k z) (k x) with
    | false => rfl
    | true =>
      rcases lex_negTrans (O := itemOrd) _ [.inl (k y).1, .inr (k y).2] _ e with h | h
      · exact absurd (h2.symm.trans h) Bool.false_ne_true
      · exact absurd (h1.symm.trans h) Bool.false_ne_true
section
variable {prog : Program} {w : World} {A : Around} {E : Value → Shared → Prop} {s : Shared}
def TupAt (h : Heap) (v : Value) (kk : KeyT) : Prop := ∃ a o x t y u r n, v = .ref a ∧ h.get? a = some o ∧ o.cls = .type "tuple" ∧ o.data = .seq (Value.int x t :: Value.str y u :: r).toArray n ∧ kk = (x, y.cps.toList)
theorem TupAt.keeps {h h' : Heap} {v : Value} {kk : KeyT} (q : TupAt h v kk) (k : ∀ b o, h.get? b = some o → o.cls = .type "tuple" → h'.get? b = some o) : TupAt h' v kk := by
  obtain ⟨a, o, x, t, y, u, r, n, e, ho, hc, hd, hk⟩ := q
  exact ⟨a, o, x, t, y, u, r, n, e, k a o ho hc, hc, hd, hk⟩
theorem kat_self {b : Bool} {Q : Bool → Shared → Prop} : ∀ (l : List Value) (i : Nat), Q false s → KatLex prog w A b false Q (l.zip l) i s
  | [], _, h => kat_nil h
  | v :: r, i, h => by
    refine kat_cons (SeqAt.EqAt.same v prog w _ _ ?_)
    exact kat_yes (kat_self r (i + 1) h)
theorem katT {b fin : Bool} {Q : Bool → Shared → Prop} {x x' : Int} {t t' u u' : Tok} {y y' : Str} {rs : List (Value × Value)} (hne : ¬ (x = x' ∧ y = y')) (h : Q (ltK (x, y.cps.toList) (x', y'.cps.toList)) s) : KatLex prog w A b fin Q ((.int x t, .int x' t') :: (.str y u, .str y' u') :: rs) 0 s := by
  unfold ltK at h
  refine kat_cons (wpAny_eqBool_int ?_)
  refine kat_go (fun e => kat_yes ?_) (fun e => kat_no ?_)
  · have hx : x = x' := by simpa using e
    subst hx
    rw [lex_self] at h
    refine kat_cons (wpAny_eqBool_str ?_)
    refine kat_go (fun e => ?_) (fun e => kat_no ?_)
    · exact absurd ⟨rfl, of_decide_eq_true e⟩ hne
    · have hxy : ¬ y = y' := of_decide_eq_false e
      have hn : y.cps.toList ≠ y'.cps.toList := fun hl => hxy (by
        have hc : y.cps = y'.cps := Array.toList_inj.mp hl
        cases y; cases y'
        simp only [Str.mk.injEq]
        exact hc)
      rw [lex_diff (fun z => hn (Sum.inr.inj z))] at h
      exact oneLt_any_str h
  · have hx : ¬ x = x' := by simpa using e
    rw [lex_diff (fun z => hx (Sum.inl.inj z))] at h
    exact oneLt_any_int h
theorem keyT_cmp {vs : List Value} {k : Value → KeyT} (hp : ∀ v ∈ vs, TupAt s.heap v (k v)) (inj : ∀ v ∈ vs, ∀ u ∈ vs, k v = k u → v = u) : Cmp prog w A s (tuples' true) (fun p => p.1 ∈ vs) (lt2 fun v u => ltK (k v) (k u)) := by
  intro p q hm hm'
  show wpAny (model prog w) A (keyLt' (tuples' true) p.1 q.1) (fun r s' => s' = s ∧ r = ltK (k p.1) (k q.1)) (fun _ _ => False) s
  obtain ⟨a, o, x, t, y, u, r, n, e, ho, hc, hd, hk⟩ := hp _ hm
  obtain ⟨a', o', x', t', y', u', r', n', e', ho', hc', hd', hk'⟩ := hp _ hm'
  by_cases hkk : k p.1 = k q.1
  · have ev := inj _ hm _ hm' hkk
    rw [← ev, e]
    refine kat_lt ho hd ho hd ?_
    have ef : decide ((Value.int x t :: Value.str y u :: r).toArray.size < (Value.int x t :: Value.str y u :: r).toArray.size) = false := decide_eq_false (Nat.lt_irrefl _)
    rw [ef]
    exact kat_self _ 0 ⟨rfl, (ltK_irr _).symm⟩
  · rw [e, e']
    rw [e] at hk
    rw [e'] at hk'
    refine kat_lt ho hd ho' hd' ?_
    rw [hk, hk']
    refine katT (fun h => hkk ?_) ⟨rfl, rfl⟩
    rw [e, e', hk, hk', h.1, h.2]
theorem keyT_sortable {a : Addr} {vs : List Value} {k : Value → KeyT} (h0 : 0 < vs.length) (hp : ∀ v ∈ vs, TupAt s.heap v (k v)) (inj : ∀ v ∈ vs, ∀ u ∈ vs, k v = k u → v = u) (ha : ∀ o, s.heap.get? a = some o → o.cls ≠ .type "tuple") : SortableO prog w A s a vs fun v u => ltK (k v) (k u) := by
  intro h' keep
  have hp' : ∀ v ∈ vs, TupAt h' v (k v) := fun v hm => (hp v hm).keeps fun b o e c => keep b o (fun z => by subst z; exact ha o e c) e
  have key : ∀ l : List Value, (∀ v ∈ l, TupAt h' v (k v)) → ∃ fs, TupsOf h' (fun _ => false) l fs ∧ fs.length = l.length := by
    intro l
    induction l with
    | nil => exact fun _ => ⟨[], .nil, rfl⟩
    | cons v r ih =>
      intro hl
      obtain ⟨fs, h1, h2⟩ := ih fun u hu => hl u (List.mem_cons_of_mem _ hu)
      obtain ⟨a, o, x, t, y, u, r', n, e, ho, hc, hd, _⟩ := hl v List.mem_cons_self
      exact ⟨.int x t :: fs, .cons ⟨a, o, _, n, e, ho, hc, hd, rfl, fun _ => ⟨x, t, rfl⟩, fun z => nomatch z⟩ h1, by rw [List.length_cons, List.length_cons, h2]⟩
  obtain ⟨fs, h1, h2⟩ := key vs hp'
  exact ⟨tuples' true, fun Q E hq => tup_kind (by omega) h1 hq, keyT_cmp (s := { s with heap := h' }) hp' inj⟩
end
def rSortT (K : PySem.W.Frag) : List V → Hp → VK → Prop := fun vs H Q => ∃ (a : Addr) (xs : List V) (k : V → KeyT), vs = [V.ref a] ∧ SqL K H a xs ∧ (∀ x ∈ xs, ∃ t more, x = V.ref t ∧ H t = some (.tup (.int (k x).1 :: .str (S (k x).2) :: more))) ∧ (∀ x ∈ xs, ∀ y ∈ xs, k x = k y → x = y) ∧
  ∀ ys p, ys.Perm xs → ys.Pairwise (fun x y => ltK (k y) (k x) = false) → H p = none → Q (.ref p) (upd H p (.lst ys))
section
variable {X : Cx}
theorem o_sortedT {K : PySem.W.Frag} (hK : X.K = K := by rfl) : CallR X (.builtin "sorted") (rSortT K) := by
  subst hK
  intro pins s σ H vs us Q I r h
  obtain ⟨a, xs, k, rfl, hs, hx, inj, q⟩ := h
  obtain ⟨its, rv, hl, hz⟩ := I.list hs
  obtain ⟨u, rfl, ru⟩ := vals1 r
  obtain rfl : u = Value.ref a := ru
  obtain ⟨e1, e2⟩ := refs_back rv fun x m => by
    obtain ⟨t, _, e, _⟩ := hx x m
    exact ⟨t, e⟩
  have mem : ∀ v ∈ its, backV v ∈ xs := fun v hv => by rw [e1]; exact List.mem_map.mpr ⟨_, hv, rfl⟩
  have tup : ∀ v ∈ its, TupAt s.heap v (k (backV v)) := fun v hv => by
    obtain ⟨t, rfl⟩ := e2 v hv
    obtain ⟨t', more, e, ht⟩ := hx _ (mem _ hv)
    cases e
    obtain ⟨_, its2, r2, o, ho, hc, n, hd⟩ := I.hok _ _ ht
    cases r2 with
    | cons ri r2 => cases r2 with
      | cons rj r2 =>
        obtain ⟨t1, rfl⟩ := ri
        obtain ⟨t2, rfl⟩ := rj
        refine ⟨t, o, _, t1, _, t2, _, n, rfl, ho, hc, hd, ?_⟩
        refine Prod.ext rfl ?_
        simp
  have inj' : ∀ v ∈ its, ∀ u ∈ its, k (backV v) = k (backV u) → v = u := fun v hv u hu e => by
    have e' := inj _ (mem v hv) _ (mem u hu) e
    obtain ⟨t, rfl⟩ := e2 v hv
    obtain ⟨t', rfl⟩ := e2 u hu
    have e3 : V.ref t = V.ref t' := e'
    cases e3
    rfl
  refine sorted_ord (swo_ltK fun u => k (backV u)) hl.isList (by rw [← rv.length]; exact hz) (fun h2 h₁ a' ha kk => ?_) fun out h1 h2 => ?_
  · refine keyT_sortable (s := { s with heap := h₁ }) (by omega) (fun v hm => (tup v hm).keeps fun b o e _ => (kk b o e).2) inj' fun o e => ?_
    have e' : some o = some (seqObj "list" its.toArray 0) := e.symm.trans ha
    cases e'
    intro c
    exact absurd (Value.type.inj c) (by decide)
  · have h3 : ∀ u ∈ out, ∃ a, u = Value.ref a := fun u hu => e2 u (h2.perm.mem_iff.mp hu)
    obtain ⟨n, hn⟩ := sortedAll_at s.heap its out.toArray
    have hb : (out.map backV).Perm xs := by
      rw [e1]
      exact h2.perm.map _
    have hsz : s.heap.objs.size ≤ s.heap.objs.size + 1 := Nat.le_succ _
    refine ⟨.ref _, upd H (s.heap.objs.size + 1) (.lst (out.map backV)), I.laid (t' := s.toks) (fun _ _ => sortedAll_old) hsz ⟨?_, out, n, vals_back h3, hn⟩, rfl, q _ _ hb (srtd_map h1) (I.hok.fresh hsz)⟩
    rw [hb.length_eq]
    exact hz
end
end SL
namespace SL
open PySem PySem.Spec PyProof.Rows L2 NdefX LamX
/-! ### defs that are handed closures -/
theorem fn_ofS {CX : CXT} {P : Program} {w : World} {K : PySem.W.Frag} {mg : Str → Option Value} {base : Heap} {k : Nat} {f : Addr} {name qual : Str} {params : Arguments} {body : List Stmt} {scope : Scope} {dV kV doc pm cdv ct oc : Value} {an od : Option Addr} {osl : Array (Option Value)} {N ps : List Str} {sp : List Env → Heap → Sp}
    (lk : K.lookup f = some { cls := oc, dict := od, data := .func (PySem.W.fnOf name qual params body scope dV kV doc pm an cdv ct), slots := osl }) (hcd : PySem.W.codeIn K cdv qual = true) (S : FnScope N ps scope)
    (len : ∀ outer h vs H Q E, sp outer h vs H Q E → vs.length = ps.length)
    (hbody : ∀ (A : Around) (outer : List Env) (s : Shared) (H : Hp) (vs : List V) (Q : VK) (E : XK), Room k (A.deeper (envOfC qual scope s.heap.objs.size f cdv)) → sp outer s.heap vs H Q E →
      ∃ t, PSs (cxOf CX P w K mg base N qual scope f cdv A outer s H E) body t ∧ t { nx := fun _ H' => Q .non H', rt := Q } (start N vs) H)
    (A : Around) (outer : List Env) (s : Shared) (H : Hp) (args : Args) (us : List Value) (vs : List V) (Q : VK) (E : XK) (hr : Room (k + 1) A) (e0 : Env0 P w K mg base A outer s H)
    (hb : BindsTo s (PySem.W.fnOf name qual params body scope dV kV doc pm an cdv ct) args (ps.zip us)) (r : Vals vs us) (hsp : sp outer s.heap vs H Q E) :
    codeAny (model P w) A (.call (.ref f) args) (CR CX outer P w H s Q E) s := by
  have hl := len _ _ _ _ _ _ hsp
  have KX := PySem.W.Frag.In.keeps e0.mod.kin fun b o e => (e0.bs b o e).1
  have lim := PySem.Heap.NoLimit.keeps e0.mod.nolimit fun b o e => (e0.bs b o e).1
  refine PySem.codeAny_call_function (Room.depth hr) (KX f _ lk) rfl S.co S.gen rfl (PySem.W.codeRec_of KX hcd) ?_
  refine hb (model P w) A.in1 _ _ ?_
  refine PySem.wpAny_newFunctionEnv_cells S.kind (fun x hy => ?_) fun env he s1 x => ?_
  · obtain ⟨n, v⟩ := x
    exact (S.par n (List.of_mem_zip hy).1).imp (fun q => q) fun q => ⟨q, PySem.W.cellsFrom_some scope.names (s.heap.objs.size + 1) [] (Or.inl q)⟩
  subst he
  refine ⟨PySem.Heap.NoLimit.keeps lim x.toInCall.keep, PySem.codeAny_func ?_⟩
  obtain ⟨t, ht, hq⟩ := hbody A outer s H vs Q E (Room.deeper hr _) hsp
  have I : L2.Inv (cxOf CX P w K mg base N qual scope f cdv A outer s H E) [] (start N vs) H s1 := inv_start S hr.hd e0 hl r x
  refine PySem.wpAny_mono (ht.run [] s1 (start N vs) H _ I hq) (fun fl s' hs => ?_) fun e s' hs => hs
  have fin : ∀ {σ' : L2.St} {H' : Hp} {v : V} {u : Value}, L2.Inv (cxOf CX P w K mg base N qual scope f cdv A outer s H E) [] σ' H' s' → RelV v u → Q v H' → CE outer P w H s Q u s' := fun J rv q => ⟨_, _, J.os, J.bare, J.base, J.hok, rv, q⟩
  cases fl with
  | next =>
    obtain ⟨σ', H', J, q⟩ := hs
    exact fin (v := .non) J rfl q
  | ret u =>
    obtain ⟨v, σ', H', J, rv, q⟩ := hs
    exact fin J rv q
  | _ =>
    obtain ⟨_, _, _, q⟩ := hs
    exact q.elim
/-- a def whose promise may speak of the heap -/
def OkDS (P : Program) (w : World) (K : PySem.W.Frag) (mg : Str → Option Value) (base : Heap) (k : Nat) (f : Addr) (ps : List Str) (sp : List Env → Heap → Sp) : Prop :=
  ∃ fd, (∀ outer h vs H Q E, sp outer h vs H Q E → vs.length = ps.length) ∧
    (∀ (A : Around) (outer : List Env) (s : Shared) (H : Hp) (args : Args) (us : List Value) (vs : List V) (Q : VK) (E : XK), Room k A → Env0 P w K mg base A outer s H → BindsTo s fd args (ps.zip us) → Vals vs us → sp outer s.heap vs H Q E → codeAny (model P w) A (.call (.ref f) args) (CR (L2.CX P w) outer P w H s Q E) s) ∧
    Binds K fd ps [] ∧ PySem.W.keepIn K (.ref f) = true
section
variable {P : Program} {w : World} {K : PySem.W.Frag} {mg : Str → Option Value} {base : Heap} {k : Nat} {f : Addr} {name qual : Str} {params : Arguments} {body : List Stmt} {scope : Scope} {N ps : List Str} {sp : List Env → Heap → Sp}
/-- the code of a def -/
def codeOf (K : PySem.W.Frag) (f : Addr) : Value := match K.lookup f with
  | some { data := .func fd, .. } => fd.code
  | _ => .none
theorem okDS (F : ∃ fd, FunD K name qual params body scope [] [] f fd) (S : FnScope N ps scope)
    (hb : ∀ (kV doc pm : Value) (an : Option Addr) (cdv ct : Value) (us : List Value), us.length = ps.length → bindArgs (PySem.W.fnOf name qual params body scope .none kV doc pm an cdv ct) ⟨us, []⟩ = pure (ps.zip us))
    (len : ∀ outer h vs H Q E, sp outer h vs H Q E → vs.length = ps.length)
    (h : ∀ (A : Around) (outer : List Env) (s : Shared) (H : Hp) (vs : List V) (Q : VK) (E : XK), Room k (A.deeper (envOfC qual scope s.heap.objs.size f (codeOf K f))) → sp outer s.heap vs H Q E →
      ∃ t, PSs (cxOf (L2.CX P w) P w K mg base N qual scope f (codeOf K f) A outer s H E) body t ∧ t { nx := fun _ H' => Q .non H', rt := Q } (start N vs) H) : OkDS P w K mg base (k + 1) f ps sp := by
  obtain ⟨fd, F⟩ := F
  obtain ⟨oc, od, dV, kV, doc, pm, an, cdv, ct, osl, rfl, lk, hcd, hd, hk⟩ := F.ex
  have e : codeOf K f = cdv := by
    unfold codeOf
    rw [lk]
  rw [e] at h
  exact ⟨_, len, fun A outer s H args us vs Q E hr e0 hb r hsp => fn_ofS lk hcd S len h A outer s H args us vs Q E hr e0 hb r hsp, F.bindsN hb, F.kp⟩
end
section
variable {X : Cx} {k i : Nat} {f : Addr} {ps : List Str} {sp : List Env → Heap → Sp} {E : XK} {x : Str} {p pos : Pos} {e : Expr} {es : List Expr} {t : TA} {pins : List (Addr × Obj)} {σ : L2.St} {H : Hp} {s : Shared} {Q : VK} {us : List Value} {vs : List V}
theorem run_fnS (o : OkDS X.prog X.w X.K X.mg X.base k f ps sp) (hr : Room k X.A) (hx : Passes (L2.CX X.prog X.w) X E) (I : L2.Inv X pins σ H s) (r : Vals vs us) (h : sp X.stack s.heap vs H Q E) : wpAny (model X.prog X.w) X.A (call (.ref f) us) (EP X pins σ Q) X.xe s := by
  obtain ⟨fd, len, run, hb, hk⟩ := o
  have hl : (us ++ []).length = ps.length := by rw [List.append_nil, ← r.length]; exact len _ _ _ _ _ _ h
  have hb' := hb s us (Inv.kIn I) hl
  rw [List.append_nil] at hb'
  refine wpAny_call (codeAny_mono (run X.A X.stack s H { pos := us } us vs Q E hr (Inv.env0 I) hb' r h) fun r s' hq => ?_)
  cases r with
  | error e => exact hx pins σ H s e s' I hq
  | ok fl =>
    cases fl with
    | ret u => exact Inv.after I hq
    | _ => exact hq.elim
theorem frames_there {h b : Heap} {a : Addr} : ∀ {l : List Env}, h.FunFrames b l → a ∈ frs l → ∃ o, h.get? a = some o
  | [], _, m => by simp [frs] at m
  | e :: l, hf, m => by
    unfold Heap.FunFrames at hf
    obtain ⟨_, ⟨L, o, e1, _, e2, _⟩, hl⟩ := hf
    unfold frs at m
    rw [List.filterMap_cons_some e1] at m
    rcases List.mem_cons.mp m with rfl | m
    · exact ⟨o, e2⟩
    · exact frames_there hl m
theorem cells_stack {cl : List (Str × Addr)} {fr : List Str} {js : List Nat} (I : L2.Inv X pins σ H s) (c : Caps X cl fr js) (hfn : ∀ y, X.fn y = true) : CellsAt cl fr (js.map (slotAt σ)) s.heap H ∧ ∀ y a, cl.lookup y = some a → a ∉ frs X.stack := by
  refine ⟨cells_of I c, fun y a e m => ?_⟩
  have e2 := c.sub y a e
  obtain ⟨v, hv⟩ := I.cell y a e2
  rcases List.mem_cons.mp (I.stkSub a m) with rfl | m
  · obtain ⟨mm, hn, _⟩ := I.loc
    obtain ⟨o, es, ep, h1, h2, _⟩ := hn
    obtain ⟨o', g1, g2⟩ := hv
    rw [h1] at g1
    cases g1
    rw [h2] at g2
    cases g2
  · have h1 := I.ok.cab y a (hfn y) e2
    obtain ⟨o, ho⟩ := frames_there I.ok.funs m
    exact absurd (PySem.Heap.lt_size ho) (Nat.not_lt.mpr h1)
def tCallSH (G : L2.St → List Env → Heap → Hp → Prop) (sp : List Env → Heap → Sp) (E : XK) (t : TA) : TE := fun σ H Q => t σ H fun vs H1 => ∀ outer h, G σ outer h H1 → sp outer h vs H1 Q E
theorem pe_calS {G : L2.St → List Env → Heap → Hp → Prop} (o : OkDS X.prog X.w X.K X.mg X.base k f ps sp) (hr : Room k X.A) (hg : Gl X x) (hm : X.mg x = some (.ref f)) (hx : Passes (L2.CX X.prog X.w) X E) (hG : ∀ pins σ H s, L2.Inv X pins σ H s → G σ X.stack s.heap H)
    (ha : PA X (e :: es) t) (hdb : (x == ("__debug__" : Str)) = false := by decide) (he : starEach (e :: es) X.env = (false, eval e X.env) :: starEach es X.env := by rfl) (hpl : (backTo pos (starEach es X.env)).any (·.1) = false := by rfl) :
    PE X (.Call (.Name x p) (e :: es) [] pos) (tCallSH G sp E t) :=
  ⟨fun pins s σ H Q I h => PySem.wpAny_Call_Name_kw (ld_glob I hg hm (PySem.W.callWith_K I.ok.mod.kin (let ⟨_, _, _, _, hk⟩ := o; hk) (thn (ha.run pos pins s σ H _ I h) fun us s1 z => by
      obtain ⟨vs, H1, I1, r, q⟩ := z
      exact ⟨Inv.kIn I1, run_fnS o hr hx I1 r (q _ _ (hG _ _ _ _ I1))⟩) he hpl) hdb)⟩
def GCells (cl : List (Str × Addr)) (fr : List Str) (js : List Nat) : L2.St → List Env → Heap → Hp → Prop := fun σ outer h H => CellsAt cl fr (js.map (slotAt σ)) h H ∧ ∀ y a, cl.lookup y = some a → a ∉ frs outer
theorem pe_calW {cl : List (Str × Addr)} {fr : List Str} {js : List Nat} (o : OkDS X.prog X.w X.K X.mg X.base k f ps sp) (hr : Room k X.A) (hg : Gl X x) (hm : X.mg x = some (.ref f)) (hx : Passes (L2.CX X.prog X.w) X E) (cp : X.Ok → Caps X cl fr js) (hfn : ∀ y, X.fn y = true)
    (ha : PA X (e :: es) t) (hdb : (x == ("__debug__" : Str)) = false := by decide) (he : starEach (e :: es) X.env = (false, eval e X.env) :: starEach es X.env := by rfl) (hpl : (backTo pos (starEach es X.env)).any (·.1) = false := by rfl) :
    PE X (.Call (.Name x p) (e :: es) [] pos) (tCallSH (GCells cl fr js) sp E t) := pe_calS o hr hg hm hx (fun _ _ _ _ I => cells_stack I (cp I.ok) hfn) ha hdb he hpl
/-- a closure that was handed in -/
def tCallC (i : Nat) (f : Addr) (F : NF) (ws : List (Option V)) (sp : List (Option V) → Sp) (E : XK) (t : TA) : TE := fun σ H Q => σ[i]? = some (some (.ref f)) ∧ H f = some (FnO f F) ∧ H F.c = some (CodeO F.c F.qual) ∧ t σ H fun vs H1 => H1 f = some (FnO f F) ∧ H1 F.c = some (CodeO F.c F.qual) ∧ sp ws vs H1 Q E
theorem pe_callC {F : NF} {fr : List Str} {ws : List (Option V)} {sp : List (Option V) → Sp} {CX : CXT} {fps : List Str} (Fn : NOk X.prog X.w X.K X.mg X.base CX k f F fps fr sp) (hc : CellsAt F.cl fr ws X.s_0.heap X.H_0) (nf : ∀ y c, F.cl.lookup y = some c → c ∉ X.fs) (nx : X.ex = [])
    (hr : Room k X.A) (hx : Passes CX X E) (hN : X.N[i]? = some x) (hv : Vis X.env.scope x) (ha : PA X (e :: es) t)
    (hd : (x == ("__debug__" : Str)) = false := by decide) (hcd : (x == ("__classdict__" : Str)) = false := by decide) (he : starEach (e :: es) X.env = (false, eval e X.env) :: starEach es X.env := by rfl) (hpl : (backTo pos (starEach es X.env)).any (·.1) = false := by rfl) :
    PE X (.Call (.Name x p) (e :: es) [] pos) (tCallC i f F ws sp E t) := by
  refine ⟨fun pins s σ H Q I h => ?_⟩
  obtain ⟨hs, hf, _, ht⟩ := h
  refine PySem.wpAny_Call_Name_kw (thn ((pe_var hN hv hd hcd).run pins s σ H (fun v H1 => v = V.ref f ∧ H1 = H) I ⟨_, hs, rfl, rfl⟩) fun u s1 z => ?_)
  obtain ⟨v, H1, I1, r1, rfl, rfl⟩ := z
  cases r1
  refine PySem.W.callWith_F (fnAt_of I1 hf) (thn (ha.run pos pins s1 σ H1 _ I1 ht) fun us s2 z => ?_) he hpl
  obtain ⟨vs, H2, I2, r, h1, h2, q⟩ := z
  refine ⟨fnAt_of I2 h1, ?_⟩
  refine wpAny_call (codeAny_mono (Fn.run X.A X.stack s2 H2 us vs ws Q E hr (Inv.env0 I2) h1 h2 (hc.later nf (fun y c _ m => by rw [nx] at m; cases m) I2) r q) fun r s' hq => ?_)
  cases r with
  | error e => exact hx pins σ H2 s2 e s' I2 hq
  | ok fl =>
    cases fl with
    | ret u => exact Inv.after I2 hq
    | _ => exact hq.elim
end
theorem OkDS.toD {P : Program} {w : World} {K : PySem.W.Frag} {mg : Str → Option Value} {base : Heap} {k : Nat} {f : Addr} {ps : List Str} {sp : Sp} (o : OkDS P w K mg base k f ps fun _ _ => sp) : OkD P w K mg base k f ps [] sp := by
  obtain ⟨fd, len, run, hb, hk⟩ := o
  exact ⟨fd, [], ⟨fun vs H Q E h => len [] base vs H Q E h, run⟩, hb, .nil, hk⟩
/-- the code of a def, by the head's facts -/
theorem code_of {K : PySem.W.Frag} {q qual : Str} {params : Arguments} {body : List Stmt} {scope : Scope} (F : ∃ fd, FunD K q qual params body scope [] [] (He.ga K q) fd) : codeOf K (He.ga K q) = .ref (He.codeOf K (q, none)) := by
  obtain ⟨fd, F⟩ := F
  obtain ⟨oc, od, dV, kV, doc, pm, an, cdv, ct, osl, rfl, lk, hcd, _, _⟩ := F.ex
  unfold codeOf He.codeOf
  rw [show He.fAd K (q, none) = He.ga K q from rfl, lk]
  cases cdv with
  | ref c => rfl
  | _ => cases hcd
/-- a def that makes defs: its code is known -/
def BodyC (P : Program) (w : World) (K : PySem.W.Frag) (mg : Str → Option Value) (base : Heap) (k : Nat) (f : Addr) (qual : Str) (body : List Stmt) (scope : Scope) (N : List Str) (sp : Sp) : Prop :=
  ∀ (A : Around) (outer : List Env) (s : Shared) (H : Hp) (vs : List V) (Q : VK) (E : XK), Room k (A.deeper (envOfC qual scope s.heap.objs.size f (codeOf K f))) → sp vs H Q E →
    ∃ t, PSs (cxOf (L2.CX P w) P w K mg base N qual scope f (codeOf K f) A outer s H E) body t ∧ t { nx := fun _ H' => Q .non H', rt := Q } (start N vs) H
theorem fnOkC {P : Program} {w : World} {K : PySem.W.Frag} {mg : Str → Option Value} {base : Heap} {k : Nat} {f : Addr} {name qual : Str} {params : Arguments} {body : List Stmt} {scope : Scope} {N ps : List Str} {sp : Sp} {fd : FuncData} (F : FunD K name qual params body scope [] [] f fd) (S : FnScope N ps scope)
    (len : ∀ vs H Q E, sp vs H Q E → vs.length = ps.length) (h : BodyC P w K mg base k f qual body scope N sp) : FnOk P w K mg base (L2.CX P w) (k + 1) f fd ps sp := by
  obtain ⟨oc, od, dV, kV, doc, pm, an, cdv, ct, osl, rfl, lk, hcd, hd, hk⟩ := F.ex
  have e : codeOf K f = cdv := by
    unfold codeOf
    rw [lk]
  unfold BodyC at h
  rw [e] at h
  exact fn_of lk hcd S len h
end SL
namespace SL
open PySem PySem.Spec PyProof.Rows L2 SX
theorem ifT {α : Sort _} {d : Decidable True} {a b : α} : @ite α True d a b = a := if_pos trivial
theorem ifF {α : Sort _} {d : Decidable False} {a b : α} : @ite α False d a b = b := if_neg id
/-- a statement by what is wanted behind it -/
def sMid (t : TS) : TS := fun D σ H => ∃ D' : Ends, t D' σ H ∧ (∀ σ H, D'.nx σ H → D.nx σ H) ∧ (∀ v H, D'.rt v H → D.rt v H) ∧ (∀ σ H, D'.bk σ H → D.bk σ H) ∧ ∀ σ H, D'.ct σ H → D.ct σ H
theorem ps_mid {X : Cx} {st : Stmt} {t : TS} (h : PS X st t) : PS X st (sMid t) := ⟨fun pins s σ H D I ⟨D', h1, n, r, b, c⟩ => thn (h.run pins s σ H D' I h1) fun f s' q => by
  cases f with
  | next => obtain ⟨σ', H', J, k⟩ := q; exact ⟨σ', H', J, n _ _ k⟩
  | brk => obtain ⟨σ', H', J, k⟩ := q; exact ⟨σ', H', J, b _ _ k⟩
  | cont => obtain ⟨σ', H', J, k⟩ := q; exact ⟨σ', H', J, c _ _ k⟩
  | ret u => obtain ⟨v, σ', H', J, e, k⟩ := q; exact ⟨v, σ', H', J, e, r _ _ k⟩⟩
/-- a statement, then the rest: Pm stands between -/
theorem q_stm {t u : TS} {D : Ends} {σ : L2.St} {H : Hp} (Pm : L2.St → Hp → Prop) (h : t { D with nx := Pm } σ H) (k : ∀ σ H, Pm σ H → u D σ H) : tSeq (sMid t) u D σ H :=
  ⟨{ D with nx := Pm }, h, k, fun _ _ q => q, fun _ _ q => q, fun _ _ q => q⟩
/-! ### forms of parts, as the laws write them -/
inductive PF where
  | one (c : Nat)
  | any
  | among (l : List Nat) (o : Bool)
  | stars
deriving DecidableEq
def SIG : List Nat := (Str.ofString "-.0123456789_abcdefghijklmnopqrstuvwxyz").cps.toList
theorem sig_len : SIG.length = 39 := by decide +kernel
theorem sig_up : SIG.Pairwise (· < ·) := by decide +kernel
def PF.d : PF → PyData
  | .one c => .tuple [.str "one", .str (S [c])]
  | .any => .tuple [.str "any"]
  | .among l o => .tuple [.str "among", .str (S l), .bool o]
  | .stars => .tuple [.str "stars"]
/-- a set of signs, rising -/
structure SigSet (l : List Nat) : Prop where
  ne : l ≠ []
  up : l.Pairwise (· < ·)
  sg : ∀ c ∈ l, c ∈ SIG
def PF.Ok : PF → Prop
  | .one c => c ∈ SIG
  | .among l _ => SigSet l ∧ l.length ≤ 12
  | _ => True
def PF.fits (f : PF) (c : Nat) : Bool := match f with
  | .one d => decide (c = d)
  | .among l o => (decide (c ∈ l)) != o
  | _ => true
def PF.many : PF → Bool
  | .stars => true
  | _ => false
/-- sets outside are of three signs at most -/
def PF.Low : PF → Prop
  | .among l true => l.length ≤ 3
  | _ => True
theorem manyOne {c : Nat} : (PF.one c).many = false := rfl
theorem manyAny : PF.any.many = false := rfl
theorem manyAmong {l : List Nat} {o : Bool} : (PF.among l o).many = false := rfl
theorem manyStars : PF.stars.many = true := rfl
theorem nd_up {l : List Nat} (h : l.Pairwise (· < ·)) : l.Nodup := h.imp fun h => Nat.ne_of_lt h
theorem str_nd_len : ∀ (l D : List Str), l.Nodup → (∀ x ∈ l, x ∈ D) → l.length ≤ D.length
  | [], _, _, _ => Nat.zero_le _
  | x :: l, D, hn, hs => by
    obtain ⟨h1, h2⟩ := List.nodup_cons.mp hn
    have hx : x ∈ D := hs x List.mem_cons_self
    have ih := str_nd_len l (D.erase x) h2 fun y hy => by
      have hne : y ≠ x := fun e => h1 (e ▸ hy)
      exact (List.mem_erase_of_ne hne).2 (hs y (List.mem_cons_of_mem _ hy))
    have e := List.length_erase_of_mem hx
    have hp : 0 < D.length := List.length_pos_of_mem hx
    rw [List.length_cons]
    omega
theorem nd_len {l : List Nat} (h : l.Nodup) (s : ∀ c ∈ l, c ∈ SIG) : l.length ≤ 39 := by
  have e := nat_nodup_len l SIG h s
  rw [sig_len] at e
  exact e
theorem SigSet.len {l : List Nat} (h : SigSet l) : l.length ≤ 39 := nd_len (nd_up h.up) h.sg
/-- data that may be compared, at most n deep -/
def DOk (n : Nat) (d : PyData) : Prop := d.canLay0 = true ∧ d.depth ≤ n
theorem DOk.up {n m : Nat} {d : PyData} (h : DOk n d) (e : n ≤ m) : DOk m d := ⟨h.1, Nat.le_trans h.2 e⟩
theorem dok_str {x : Str} {n : Nat} (h : PyData.strOk x = true) : DOk n (.str x) := ⟨by simp only [PyData.canLay0]; exact h, by simp only [PyData.depth]; omega⟩
theorem dok_bl {b : Bool} {n : Nat} : DOk n (.bool b) := ⟨by simp only [PyData.canLay0], by simp only [PyData.depth]; omega⟩
theorem dok_int {i : Int} {n : Nat} : DOk n (.int i) := ⟨by simp only [PyData.canLay0], by simp only [PyData.depth]; omega⟩
theorem dok_non {n : Nat} : DOk n .none := ⟨by simp only [PyData.canLay0], by simp only [PyData.depth]; omega⟩
theorem dok_all {n : Nat} : ∀ {ds : List PyData}, (∀ d ∈ ds, DOk n d) → PyData.canLayAll0 ds = true ∧ PyData.depthAll ds ≤ n
  | [], _ => ⟨by simp only [PyData.canLayAll0], by simp only [PyData.depthAll]; omega⟩
  | d :: r, h => by
    have h1 := h d List.mem_cons_self
    have h2 := dok_all (ds := r) fun e he => h e (List.mem_cons_of_mem _ he)
    refine ⟨by simp only [PyData.canLayAll0, h1.1, h2.1]; rfl, ?_⟩
    simp only [PyData.depthAll]
    have := h1.2
    have := h2.2
    omega
theorem dok_tup {n : Nat} {ds : List PyData} (h : ∀ d ∈ ds, DOk n d) : DOk (n + 1) (.tuple ds) := by
  have e := dok_all h
  exact ⟨by simp only [PyData.canLay0]; exact e.1, by simp only [PyData.depth]; omega⟩
theorem dok_lst {n : Nat} {ds : List PyData} (h : ∀ d ∈ ds, DOk n d) : DOk (n + 1) (.list ds) := by
  have e := dok_all h
  exact ⟨by simp only [PyData.canLay0]; exact e.1, by simp only [PyData.depth]; omega⟩
theorem DOk.shaped {n : Nat} {d : PyData} (h : DOk n d) (e : n ≤ 64) : SeqAt.shaped d = true := by
  show (d.canLay0 && decide (d.depth ≤ 64)) = true
  rw [Bool.and_eq_true]
  exact ⟨h.1, decide_eq_true (Nat.le_trans h.2 e)⟩
theorem DOk.eqv {n : Nat} {d : PyData} (h : DOk n d) : PyData.eqv d d = true := SeqAt.eqv_refl _ h.1
theorem all_nil {p : PyData → Prop} : ∀ d ∈ ([] : List PyData), p d := fun _ h => nomatch h
theorem all_cons {p : PyData → Prop} {x : PyData} {l : List PyData} (h : p x) (t : ∀ d ∈ l, p d) : ∀ d ∈ x :: l, p d := fun d h' => (List.mem_cons.mp h').elim (fun e => e ▸ h) (t d)
theorem ok_signs {l : List Nat} (h : ∀ c ∈ l, c ∈ SIG) : PyData.strOk (S l) = true := by
  have k : ∀ c ∈ SIG, c < 128 := by decide +kernel
  unfold PyData.strOk
  rw [← Array.all_toList, List.all_eq_true]
  exact fun c hc => decide_eq_true (Nat.lt_trans (k c (h c hc)) (by decide))
theorem PF.dok {f : PF} (h : f.Ok) : DOk 1 f.d := by
  cases f with
  | one c => exact dok_tup (all_cons (dok_str (by decide +kernel)) (all_cons (dok_str (ok_signs fun d hd => by rw [List.mem_singleton.mp hd]; exact h)) all_nil))
  | any => exact dok_tup (all_cons (dok_str (by decide +kernel)) all_nil)
  | among l o => exact dok_tup (all_cons (dok_str (by decide +kernel)) (all_cons (dok_str (ok_signs h.1.sg)) (all_cons dok_bl all_nil)))
  | stars => exact dok_tup (all_cons (dok_str (by decide +kernel)) all_nil)
/-! ### signs put in order -/
theorem S1_inj {a b : Nat} (h : S [a] = S [b]) : a = b := List.head_eq_of_cons_eq (S_inj h)
theorem map1_mem {cs : List Nat} {c : Nat} : S [c] ∈ (cs.map fun c => S [c]) ↔ c ∈ cs := by
  rw [List.mem_map]
  exact ⟨fun ⟨d, hd, e⟩ => by rw [← S1_inj e]; exact hd, fun h => ⟨c, h, rfl⟩⟩
theorem signs_of : ∀ {ys : List Str}, (∀ y ∈ ys, ∃ c, y = S [c]) → ∃ cs : List Nat, ys = cs.map fun c => S [c]
  | [], _ => ⟨[], rfl⟩
  | y :: r, h => by
    obtain ⟨c, rfl⟩ := h y List.mem_cons_self
    obtain ⟨cs, rfl⟩ := signs_of (ys := r) fun z hz => h z (List.mem_cons_of_mem _ hz)
    exact ⟨c :: cs, rfl⟩
theorem rising_codes : ∀ (cs : List Nat) (p : Nat), risingS (S [p]) (cs.map fun c => S [c]) = true → (p :: cs).Pairwise (· ≤ ·)
  | [], p, _ => by simp
  | c :: r, p, h => by
    have h' : (!ltCps [c] [p] && risingS (S [c]) (r.map fun c => S [c])) = true := h
    rw [Bool.and_eq_true] at h'
    have h1 : p ≤ c := by
      have e := h'.1
      unfold ltCps at e
      simp [ltCps] at e
      exact e
    have h2 := rising_codes r c h'.2
    refine List.pairwise_cons.mpr ⟨fun d hd => ?_, h2⟩
    rcases List.mem_cons.mp hd with rfl | hd
    · exact h1
    · exact Nat.le_trans h1 ((List.pairwise_cons.mp h2).1 d hd)
theorem sorted_codes : ∀ (cs : List Nat), sortedS (cs.map fun c => S [c]) = true → cs.Pairwise (· ≤ ·)
  | [], _ => .nil
  | c :: r, h => rising_codes r c h
theorem le_lt_nd : ∀ {l : List Nat}, l.Pairwise (· ≤ ·) → l.Nodup → l.Pairwise (· < ·)
  | [], _, _ => .nil
  | a :: r, h, n => by
    have h' := List.pairwise_cons.mp h
    have n' := List.nodup_cons.mp n
    refine List.pairwise_cons.mpr ⟨fun b hb => ?_, le_lt_nd h'.2 n'.2⟩
    have e := h'.1 b hb
    have q : a ≠ b := fun z => n'.1 (z ▸ hb)
    omega
theorem nd_unmap : ∀ {cs : List Nat}, (cs.map fun c => S [c]).Nodup → cs.Nodup
  | [], _ => .nil
  | c :: r, h => by
    have h' := List.nodup_cons.mp h
    exact List.nodup_cons.mpr ⟨fun q => h'.1 (map1_mem.mpr q), nd_unmap h'.2⟩
/-- sorted signs, each once -/
theorem sorted_signs {ys zs : List Str} (pm : ys.Perm zs) (so : sortedS ys = true) (nd : zs.Nodup) (h : ∀ z ∈ zs, ∃ c, z = S [c]) : ∃ cs : List Nat, ys = cs.map (fun c => S [c]) ∧ cs.Pairwise (· < ·) ∧ ∀ c, c ∈ cs ↔ S [c] ∈ zs := by
  obtain ⟨cs, rfl⟩ := signs_of (ys := ys) fun y hy => h y (pm.mem_iff.mp hy)
  exact ⟨cs, rfl, le_lt_nd (sorted_codes cs so) (nd_unmap (pm.nodup_iff.mpr nd)), fun c => by rw [← pm.mem_iff, map1_mem]⟩
/-- a text of different signs, one at least -/
def Good (z : Str) : Prop := ∃ l, SigSet l ∧ z.cps.toList.Perm l
theorem not_nd : ∀ {zs : List Str}, ¬ zs.Nodup → ∃ x ∈ zs, ∀ y ∈ zs, y ∈ zs.erase x
  | [], h => absurd .nil h
  | a :: r, h => by
    by_cases ha : a ∈ r
    · refine ⟨a, List.mem_cons_self, fun y hy => ?_⟩
      rw [List.erase_cons_head]
      exact (List.mem_cons.mp hy).elim (fun e => e ▸ ha) id
    · obtain ⟨x, hx, hs⟩ := not_nd (zs := r) fun n => h (List.nodup_cons.mpr ⟨ha, n⟩)
      have hne : a ≠ x := fun e => ha (e ▸ hx)
      refine ⟨x, List.mem_cons_of_mem _ hx, fun y hy => ?_⟩
      rw [List.erase_cons_tail (by simpa using hne)]
      exact (List.mem_cons.mp hy).elim (fun e => e ▸ List.mem_cons_self) fun q => List.mem_cons_of_mem _ (hs y q)
/-- how many different texts there are tells whether each is there once -/
theorem set_len {l zs : List Str} (nd : l.Nodup) (h : ∀ x, x ∈ l ↔ x ∈ zs) : (l.length < zs.length) = ¬ zs.Nodup := by
  refine propext ⟨fun hl n => ?_, fun hn => ?_⟩
  · have := str_nd_len zs l n fun x hx => (h x).mpr hx
    omega
  · obtain ⟨x, hx, hs⟩ := not_nd hn
    have a := str_nd_len l (zs.erase x) nd fun y hy => hs y ((h y).mp hy)
    have b := List.length_erase_of_mem hx
    have c := List.length_pos_of_mem hx
    omega
theorem nd_map1 : ∀ {cs : List Nat}, cs.Nodup → (cs.map fun c => S [c]).Nodup
  | [], _ => .nil
  | c :: r, h => by
    have h' := List.nodup_cons.mp h
    exact List.nodup_cons.mpr ⟨fun q => h'.1 (map1_mem.mp q), nd_map1 h'.2⟩
theorem insU_up (a : Nat) : ∀ (l : List Nat), l.Pairwise (· < ·) → a ∉ l → ∃ m : List Nat, m.Pairwise (· < ·) ∧ (a :: l).Perm m
  | [], _, _ => ⟨[a], List.pairwise_singleton _ _, .refl _⟩
  | b :: r, h, n => by
    have h' := List.pairwise_cons.mp h
    rcases Nat.lt_trichotomy a b with q | q | q
    · exact ⟨a :: b :: r, List.pairwise_cons.mpr ⟨fun c hc => (List.mem_cons.mp hc).elim (fun e => e ▸ q) fun e => Nat.lt_trans q (h'.1 c e), h⟩, .refl _⟩
    · exact absurd (q ▸ List.mem_cons_self) n
    · obtain ⟨m, m1, m2⟩ := insU_up a r h'.2 fun e => n (List.mem_cons_of_mem _ e)
      refine ⟨b :: m, List.pairwise_cons.mpr ⟨fun c hc => ?_, m1⟩, (List.Perm.swap b a r).trans (m2.cons b)⟩
      exact (List.mem_cons.mp (m2.mem_iff.mpr hc)).elim (fun e => e ▸ q) (h'.1 c)
theorem up_of : ∀ {l : List Nat}, l.Nodup → ∃ m : List Nat, m.Pairwise (· < ·) ∧ l.Perm m
  | [], _ => ⟨[], .nil, .refl _⟩
  | a :: r, h => by
    have h' := List.nodup_cons.mp h
    obtain ⟨m, m1, m2⟩ := up_of h'.2
    obtain ⟨k, k1, k2⟩ := insU_up a m m1 fun e => h'.1 (m2.mem_iff.mpr e)
    exact ⟨k, k1, (m2.cons a).trans k2⟩
theorem good_iff {z : Str} : Good z ↔ z ≠ S [] ∧ (chars z).Nodup ∧ ∀ c ∈ z.cps.toList, c ∈ SIG := by
  refine ⟨fun ⟨l, ok, pm⟩ => ⟨fun e => ?_, nd_map1 (pm.nodup_iff.mpr (nd_up ok.up)), fun c hc => ok.sg c (pm.mem_iff.mp hc)⟩, fun ⟨ne, nd, sg⟩ => ?_⟩
  · rw [e] at pm
    exact ok.ne (List.nil_perm.mp pm)
  · obtain ⟨m, m1, m2⟩ := up_of (nd_unmap nd)
    refine ⟨m, ⟨fun e => ne ?_, m1, fun c hc => sg c (m2.mem_iff.mpr hc)⟩, m2⟩
    rw [e] at m2
    have e2 := m2.eq_nil
    exact (S_tl z).symm.trans (congrArg S e2)
/-- two rising lists with the same members are one -/
theorem up_eq {a b : List Nat} (ha : a.Pairwise (· < ·)) (hb : b.Pairwise (· < ·)) (h : ∀ c, c ∈ a ↔ c ∈ b) : a = b := by
  have p : a.Perm b := (List.perm_ext_iff_of_nodup (nd_up ha) (nd_up hb)).mpr h
  exact p.eq_of_pairwise (fun x y _ _ h1 h2 => absurd h1 (Nat.lt_asymm h2)) ha hb
theorem lkSign {a : V} : List.lookup (Str.ofString "sign") [(Str.ofString "sign", a)] = some a := rfl
theorem lkSigns {a b : V} : List.lookup (Str.ofString "signs") [(Str.ofString "signs", a), (Str.ofString "outside", b)] = some a := rfl
theorem lkParts {a : V} : List.lookup (Str.ofString "parts") [(Str.ofString "parts", a)] = some a := rfl
theorem lkOut {a b : V} : List.lookup (Str.ofString "outside") [(Str.ofString "signs", a), (Str.ofString "outside", b)] = some b := rfl
theorem pfNil {f : Str} {y : V} : putF f y [] = [(f, y)] := rfl
theorem pfOut {a y : V} : putF (Str.ofString "outside") y [(Str.ofString "signs", a)] = [(Str.ofString "signs", a), (Str.ofString "outside", y)] := rfl
theorem lkSteps {a b c : V} : List.lookup (Str.ofString "steps") [(Str.ofString "steps", a), (Str.ofString "spares", b), (Str.ofString "folders", c)] = some a := rfl
theorem lkSpares {a b c : V} : List.lookup (Str.ofString "spares") [(Str.ofString "steps", a), (Str.ofString "spares", b), (Str.ofString "folders", c)] = some b := rfl
theorem lkFolders {a b c : V} : List.lookup (Str.ofString "folders") [(Str.ofString "steps", a), (Str.ofString "spares", b), (Str.ofString "folders", c)] = some c := rfl
theorem pfSpares {a y : V} : putF (Str.ofString "spares") y [(Str.ofString "steps", a)] = [(Str.ofString "steps", a), (Str.ofString "spares", y)] := rfl
theorem pfFolders {a b y : V} : putF (Str.ofString "folders") y [(Str.ofString "steps", a), (Str.ofString "spares", b)] = [(Str.ofString "steps", a), (Str.ofString "spares", b), (Str.ofString "folders", y)] := rfl
theorem strEq {a b : String} : (Str.ofString a = Str.ofString b) = (a = b) := by
  refine propext ⟨fun h => ?_, fun h => by rw [h]⟩
  rw [Str.ofString_eq_toList, Str.ofString_eq_toList] at h
  have h1 : a.toList.map Char.toNat = b.toList.map Char.toNat := by
    have e := congrArg (fun x : Str => x.cps.toList) h
    exact e
  have h2 : a.toList = b.toList := by
    generalize a.toList = l at h1
    generalize b.toList = m at h1
    induction l generalizing m with
    | nil => cases m with
      | nil => rfl
      | cons d t => exact absurd h1 (by simp)
    | cons c r ih => cases m with
      | nil => exact absurd h1 (by simp)
      | cons d t =>
        rw [List.map_cons, List.map_cons] at h1
        injection h1 with h3 h4
        have e : c = d := Char.ext (UInt32.toNat_inj.mp h3)
        rw [e, ih t h4]
  exact String.toList_inj.mp h2
/-- lists of data, one of each -/
theorem dp_map {K : PySem.W.Frag} {H : Hp} {α : Type} (f : α → V) (d : α → PyData) (h : ∀ x, Dp K H (f x) (d x)) : ∀ l : List α, DpAll K H (l.map f) (l.map d)
  | [] => .nil
  | x :: r => .cons (h x) (dp_map f d h r)
/-! ### parts as objects -/
section
variable {K : PySem.W.Frag}
def PartO (K : PySem.W.Frag) (dx : Addr) : PF → HO
  | .one c => .ins (He.ga K "One") dx [("sign", .str (S [c]))]
  | .any => .ins (He.ga K "Any") dx []
  | .among l o => .ins (He.ga K "Among") dx [("signs", .str (S l)), ("outside", .bl o)]
  | .stars => .ins (He.ga K "Stars") dx []
def PartV (K : PySem.W.Frag) (f : PF) (v : V) (H : Hp) : Prop := ∃ p dx, v = .ref p ∧ H p = some (PartO K dx f)
theorem PartO.nl {dx : Addr} {f : PF} (l : List V) : PartO K dx f ≠ .lst l := by cases f <;> exact fun h => nomatch h
theorem PartV.nl {f : PF} {v : V} {H H' : Hp} (h : PartV K f v H) (e : NL H H') : PartV K f v H' := let ⟨p, dx, ev, hp⟩ := h; ⟨p, dx, ev, e _ _ hp PartO.nl⟩
theorem PartV.mono {f : PF} {v : V} {H H' : Hp} (h : PartV K f v H) (e : Same H H') : PartV K f v H' := h.nl (.of e)
end
theorem OkD.imp {P : Program} {w : World} {K : PySem.W.Frag} {mg : Str → Option Value} {base : Heap} {k : Nat} {f : Addr} {ps : List Str} {dvs : List V} {sp sp' : Sp} (h : OkD P w K mg base k f ps dvs sp) (i : ∀ vs H Q E, sp' vs H Q E → sp vs H Q E) : OkD P w K mg base k f ps dvs sp' := by
  obtain ⟨fd, ds, F, r⟩ := h
  exact ⟨fd, ds, F.imp i, r⟩
end SL
namespace SL
open PySem PySem.Spec PyProof.Rows L2 SX
/-! ### names along parts -/
/-- the parts laid along the name -/
def Fit : List PF → List Nat → Prop
  | [], w => w = []
  | f :: fs, w => if f.many = true then ∃ u v, w = u ++ v ∧ Fit fs v else ∃ c v, w = c :: v ∧ f.fits c = true ∧ Fit fs v
theorem fit_star {f : PF} {fs : List PF} {w : List Nat} (h : f.many = true) : Fit (f :: fs) w ↔ ∃ u v, w = u ++ v ∧ Fit fs v := by
  show (if f.many = true then _ else _) ↔ _
  rw [if_pos h]
theorem fit_one {f : PF} {fs : List PF} {w : List Nat} (h : f.many = false) : Fit (f :: fs) w ↔ ∃ c v, w = c :: v ∧ f.fits c = true ∧ Fit fs v := by
  show (if f.many = true then _ else _) ↔ _
  rw [if_neg (by rw [h]; exact Bool.false_ne_true)]
theorem fit_app : ∀ (fs gs : List PF) (w : List Nat), Fit (fs ++ gs) w ↔ ∃ u v, w = u ++ v ∧ Fit fs u ∧ Fit gs v
  | [], gs, w => ⟨fun h => ⟨[], w, rfl, rfl, h⟩, fun ⟨u, v, e, h1, h2⟩ => by
    cases (show u = [] from h1)
    rw [e]
    exact h2⟩
  | f :: fs, gs, w => by
    rw [List.cons_append]
    cases h : f.many with
    | true =>
      rw [fit_star h]
      constructor
      · rintro ⟨u, v, rfl, hv⟩
        obtain ⟨a, b, rfl, ha, hb⟩ := (fit_app fs gs v).mp hv
        exact ⟨u ++ a, b, by rw [List.append_assoc], (fit_star h).mpr ⟨u, a, rfl, ha⟩, hb⟩
      · rintro ⟨a, b, rfl, ha, hb⟩
        obtain ⟨u, v, rfl, hv⟩ := (fit_star h).mp ha
        exact ⟨u, v ++ b, by rw [List.append_assoc], (fit_app fs gs _).mpr ⟨v, b, rfl, hv, hb⟩⟩
    | false =>
      rw [fit_one h]
      constructor
      · rintro ⟨c, v, rfl, hc, hv⟩
        obtain ⟨a, b, rfl, ha, hb⟩ := (fit_app fs gs v).mp hv
        exact ⟨c :: a, b, rfl, (fit_one h).mpr ⟨c, a, rfl, hc, ha⟩, hb⟩
      · rintro ⟨a, b, rfl, ha, hb⟩
        obtain ⟨c, v, rfl, hc, hv⟩ := (fit_one h).mp ha
        exact ⟨c, v ++ b, rfl, hc, (fit_app fs gs _).mpr ⟨v, b, rfl, hv, hb⟩⟩
def starAt (fs : List PF) (j : Nat) : Bool := match fs[j]? with
  | some f => f.many
  | none => false
theorem starAt_lt {fs : List PF} {j : Nat} (h : starAt fs j = true) : j < fs.length := by
  unfold starAt at h
  rcases Nat.lt_or_ge j fs.length with e | e
  · exact e
  · rw [List.getElem?_eq_none e] at h
    cases h
theorem starAt_eq {fs : List PF} {j : Nat} {f : PF} (h : fs[j]? = some f) : starAt fs j = f.many := by
  unfold starAt
  rw [h]
theorem take_succ' {fs : List PF} {j : Nat} {f : PF} (h : fs[j]? = some f) : fs.take (j + 1) = fs.take j ++ [f] := by
  rw [List.take_succ, h]
  rfl
theorem fit_take_star {fs : List PF} {j : Nat} {w : List Nat} (h : starAt fs j = true) : Fit (fs.take (j + 1)) w ↔ ∃ u v, w = u ++ v ∧ Fit (fs.take j) u := by
  have hl := starAt_lt h
  have hf : fs[j]? = some fs[j] := List.getElem?_eq_getElem hl
  rw [starAt_eq hf] at h
  rw [take_succ' hf, fit_app]
  constructor
  · rintro ⟨u, v, e, h1, _⟩
    exact ⟨u, v, e, h1⟩
  · rintro ⟨u, v, e, h1⟩
    exact ⟨u, v, e, h1, (fit_star h).mpr ⟨v, [], by rw [List.append_nil], rfl⟩⟩
theorem fit_take_one {fs : List PF} {j : Nat} {w : List Nat} {f : PF} (hf : fs[j]? = some f) (h : f.many = false) : Fit (fs.take (j + 1)) w ↔ ∃ u c, w = u ++ [c] ∧ Fit (fs.take j) u ∧ f.fits c = true := by
  rw [take_succ' hf, fit_app]
  constructor
  · rintro ⟨u, v, rfl, h1, h2⟩
    obtain ⟨c, v', rfl, hc, hv⟩ := (fit_one h).mp h2
    cases (show v' = [] from hv)
    exact ⟨u, c, rfl, h1, hc⟩
  · rintro ⟨u, c, rfl, h1, hc⟩
    exact ⟨u, [c], rfl, h1, (fit_one h).mpr ⟨c, [], rfl, hc, rfl⟩⟩
/-- from s on by stars alone -/
def Clos (fs : List PF) (s i : Nat) : Prop := s ≤ i ∧ ∀ k, s ≤ k → k < i → starAt fs k = true
theorem Clos.refl {fs : List PF} {s : Nat} : Clos fs s s := ⟨Nat.le_refl _, fun k a b => absurd b (by omega)⟩
theorem Clos.trans {fs : List PF} {a b c : Nat} (h : Clos fs a b) (g : Clos fs b c) : Clos fs a c := ⟨Nat.le_trans h.1 g.1, fun k h1 h2 => by
  rcases Nat.lt_or_ge k b with e | e
  · exact h.2 k h1 e
  · exact g.2 k e h2⟩
theorem Clos.snoc {fs : List PF} {a b : Nat} (h : Clos fs a b) (g : starAt fs b = true) : Clos fs a (b + 1) := h.trans ⟨Nat.le_succ _, fun k h1 h2 => by
  have e : k = b := by omega
  rw [e]
  exact g⟩
theorem Clos.le {fs : List PF} {s i n : Nat} (h : Clos fs s i) (hs : s ≤ fs.length) : i ≤ fs.length := by
  rcases Nat.eq_or_lt_of_le h.1 with e | e
  · omega
  · have := starAt_lt (h.2 (i - 1) (by omega) (by omega))
    omega
/-- spot i behind the signs w -/
def At (fs : List PF) (w : List Nat) (i : Nat) : Prop := i ≤ fs.length ∧ (Fit (fs.take i) w ∨ starAt fs i = true ∧ Fit (fs.take (i + 1)) w)
theorem fit_more {fs : List PF} {i : Nat} {w : List Nat} (h : starAt fs i = true) (g : Fit (fs.take i) w) : Fit (fs.take (i + 1)) w := (fit_take_star h).mpr ⟨w, [], by rw [List.append_nil], g⟩
theorem at_clos {fs : List PF} {w : List Nat} {s : Nat} (hs : s ≤ fs.length) (h : Fit (fs.take s) w) : ∀ i, Clos fs s i → Fit (fs.take i) w := by
  intro i hc
  obtain ⟨h1, h2⟩ := hc
  induction i with
  | zero =>
    have e : s = 0 := by omega
    rw [← e]
    exact h
  | succ i ih =>
    rcases Nat.eq_or_lt_of_le h1 with e | e
    · rw [← e]; exact h
    · exact fit_more (h2 i (by omega) (by omega)) (ih (by omega) fun k a b => h2 k a (by omega))
theorem at_nil {fs : List PF} {i : Nat} : At fs [] i ↔ Clos fs 0 i := by
  have key : ∀ j, Fit (fs.take j) [] → j ≤ fs.length → Clos fs 0 j := by
    intro j
    induction j with
    | zero => exact fun _ _ => Clos.refl
    | succ j ih =>
      intro h hl
      have hf : fs[j]? = some fs[j] := List.getElem?_eq_getElem hl
      cases hm : fs[j].many with
      | true =>
        have hst : starAt fs j = true := by rw [starAt_eq hf]; exact hm
        obtain ⟨u, v, e, hu⟩ := (fit_take_star hst).mp h
        have e2 := List.append_eq_nil_iff.mp e.symm
        rw [e2.1] at hu
        exact (ih hu (by omega)).snoc hst
      | false =>
        obtain ⟨u, c, e, _⟩ := (fit_take_one hf hm).mp h
        exact absurd e.symm (by simp)
  constructor
  · rintro ⟨hl, h | ⟨hs, h⟩⟩
    · exact key i h hl
    · have hlt := starAt_lt hs
      have := key (i + 1) h (by omega)
      exact ⟨Nat.zero_le _, fun k a b => this.2 k a (by omega)⟩
  · intro h
    exact ⟨h.le (n := 0) (Nat.zero_le _), .inl (at_clos (Nat.zero_le _) (by simp [Fit]) i h)⟩
/-- one sign on -/
theorem at_snoc {fs : List PF} {w : List Nat} {c i : Nat} : At fs (w ++ [c]) i ↔ ∃ s f, At fs w s ∧ fs[s]? = some f ∧ f.fits c = true ∧ Clos fs (if f.many = true then s else s + 1) i := by
  have key : ∀ j, j ≤ fs.length → Fit (fs.take j) (w ++ [c]) → ∃ s f, At fs w s ∧ fs[s]? = some f ∧ f.fits c = true ∧ Clos fs (if f.many = true then s else s + 1) j := by
    intro j
    induction j with
    | zero => exact fun _ h => absurd (show w ++ [c] = [] from by simpa [Fit] using h) (by simp)
    | succ j ih =>
      intro hl h
      have hf : fs[j]? = some fs[j] := List.getElem?_eq_getElem hl
      cases hm : fs[j].many with
      | true =>
        have hst : starAt fs j = true := by rw [starAt_eq hf]; exact hm
        obtain ⟨u, v, e, hu⟩ := (fit_take_star hst).mp h
        rcases List.eq_nil_or_concat v with rfl | ⟨v', d, rfl⟩
        · rw [List.append_nil] at e
          rw [← e] at hu
          obtain ⟨s, f, a1, a2, a3, a4⟩ := ih (by omega) hu
          exact ⟨s, f, a1, a2, a3, a4.snoc hst⟩
        · rw [List.concat_eq_append, ← List.append_assoc] at e
          obtain ⟨e1, e2⟩ := List.append_inj' e rfl
          refine ⟨j, fs[j], ⟨by omega, .inr ⟨hst, (fit_take_star hst).mpr ⟨u, v', e1, hu⟩⟩⟩, hf, ?_, ?_⟩
          · cases hq : fs[j] with
            | stars => rfl
            | _ => rw [hq] at hm; cases hm
          · rw [if_pos hm]
            exact Clos.refl.snoc hst
      | false =>
        obtain ⟨u, d, e, hu, hd⟩ := (fit_take_one hf hm).mp h
        obtain ⟨e1, e2⟩ := List.append_inj' e rfl
        injection e2 with e3
        subst e1 e3
        exact ⟨j, fs[j], ⟨by omega, .inl hu⟩, hf, hd, by rw [if_neg (by rw [hm]; exact Bool.false_ne_true)]; exact Clos.refl⟩
  constructor
  · rintro ⟨hl, h | ⟨hs, h⟩⟩
    · exact key i hl h
    · have hlt := starAt_lt hs
      obtain ⟨u, v, e, hu⟩ := (fit_take_star hs).mp h
      have hf : fs[i]? = some fs[i] := List.getElem?_eq_getElem hlt
      have hm : fs[i].many = true := by rw [← starAt_eq hf]; exact hs
      rcases List.eq_nil_or_concat v with rfl | ⟨v', d, rfl⟩
      · rw [List.append_nil] at e
        rw [← e] at hu
        exact key i hl hu
      · rw [List.concat_eq_append, ← List.append_assoc] at e
        obtain ⟨e1, e2⟩ := List.append_inj' e rfl
        refine ⟨i, fs[i], ⟨hl, .inr ⟨hs, (fit_take_star hs).mpr ⟨u, v', e1, hu⟩⟩⟩, hf, ?_, ?_⟩
        · cases hq : fs[i] with
          | stars => rfl
          | _ => rw [hq] at hm; cases hm
        · rw [if_pos hm]
          exact Clos.refl
  · rintro ⟨s, f, ⟨hl, ha⟩, hf, hc, hcl⟩
    have hlt : s < fs.length := (List.getElem?_eq_some_iff.mp hf).1
    cases hm : f.many with
    | true =>
      rw [if_pos hm] at hcl
      have hst : starAt fs s = true := by rw [starAt_eq hf]; exact hm
      have h1 : Fit (fs.take (s + 1)) (w ++ [c]) := by
        rcases ha with h | ⟨_, h⟩
        · exact (fit_take_star hst).mpr ⟨w, [c], rfl, h⟩
        · obtain ⟨u, v, rfl, hu⟩ := (fit_take_star hst).mp h
          exact (fit_take_star hst).mpr ⟨u, v ++ [c], by rw [List.append_assoc], hu⟩
      rcases Nat.eq_or_lt_of_le hcl.1 with e | e
      · rw [← e]
        exact ⟨hl, .inr ⟨hst, h1⟩⟩
      · have h2 := at_clos hlt h1 i ⟨e, fun k a b => hcl.2 k (by omega) b⟩
        exact ⟨hcl.le (n := 0) hl, .inl h2⟩
    | false =>
      rw [if_neg (by rw [hm]; exact Bool.false_ne_true)] at hcl
      have h0 : Fit (fs.take s) w := by
        rcases ha with h | ⟨h, _⟩
        · exact h
        · rw [starAt_eq hf, hm] at h
          cases h
      have h1 : Fit (fs.take (s + 1)) (w ++ [c]) := (fit_take_one hf hm).mpr ⟨w, c, rfl, h0, hc⟩
      exact ⟨hcl.le (n := 0) hlt, .inl (at_clos hlt h1 i hcl)⟩
theorem at_end {fs : List PF} {w : List Nat} : At fs w fs.length ↔ Fit fs w := by
  unfold At
  rw [List.take_length]
  constructor
  · rintro ⟨_, h | ⟨h, _⟩⟩
    · exact h
    · exact absurd (starAt_lt h) (Nat.lt_irrefl _)
  · exact fun h => ⟨Nat.le_refl _, .inl h⟩
/-! ### forms of steps, steps as objects -/
inductive SF where
  | deep
  | seg (fs : List PF)
deriving DecidableEq
def SF.d : SF → PyData
  | .deep => .tuple [.str "deep"]
  | .seg fs => .tuple [.str "segment", .tuple (fs.map PF.d)]
/-- no two stars next to one another -/
def NoTwo : List PF → Prop
  | f :: g :: r => ¬ (f.many = true ∧ g.many = true) ∧ NoTwo (g :: r)
  | _ => True
structure PartsOk (fs : List PF) : Prop where
  ne : fs ≠ []
  ok : ∀ f ∈ fs, f.Ok
  two : NoTwo fs
  len : fs.length ≤ 60
def SF.Ok : SF → Prop
  | .deep => True
  | .seg fs => PartsOk fs
def SF.deepB : SF → Bool
  | .deep => true
  | _ => false
def SF.fits : SF → List Nat → Prop
  | .deep, _ => True
  | .seg fs, w => Fit fs w
theorem SF.dok {f : SF} (h : f.Ok) : DOk 3 f.d := by
  cases f with
  | deep => exact (dok_tup (n := 0) (all_cons (dok_str (by decide +kernel)) all_nil)).up (by decide)
  | seg fs => exact dok_tup (all_cons (dok_str (by decide +kernel)) (all_cons (dok_tup fun d hd => by
      obtain ⟨f, hf, rfl⟩ := List.mem_map.mp hd
      exact PF.dok (h.ok f hf)) all_nil))
section
variable {K : PySem.W.Frag}
/-- us are the parts fs -/
def PartsV (K : PySem.W.Frag) (fs : List PF) (us : List V) (H : Hp) : Prop := us.length = fs.length ∧ ∀ (i : Nat) (f : PF), fs[i]? = some f → ∃ u, us[i]? = some u ∧ PartV K f u H
theorem PartsV.nl {fs : List PF} {us : List V} {H H' : Hp} (h : PartsV K fs us H) (e : NL H H') : PartsV K fs us H' := ⟨h.1, fun i f hf => let ⟨u, a, b⟩ := h.2 i f hf; ⟨u, a, b.nl e⟩⟩
theorem PartsV.mono {fs : List PF} {us : List V} {H H' : Hp} (h : PartsV K fs us H) (e : Same H H') : PartsV K fs us H' := h.nl (.of e)
theorem PartsV.nil {H : Hp} : PartsV K [] [] H := ⟨rfl, fun i f h => by simp at h⟩
theorem PartsV.snoc {fs : List PF} {us : List V} {H : Hp} {f : PF} {u : V} (h : PartsV K fs us H) (g : PartV K f u H) : PartsV K (fs ++ [f]) (us ++ [u]) H := by
  refine ⟨by rw [List.length_append, List.length_append, h.1]; rfl, fun i f' hf => ?_⟩
  rcases Nat.lt_trichotomy i fs.length with e | e | e
  · rw [List.getElem?_append_left e] at hf
    obtain ⟨w, a, b⟩ := h.2 i f' hf
    exact ⟨w, by rw [List.getElem?_append_left (by rw [h.1]; exact e)]; exact a, b⟩
  · subst e
    rw [List.getElem?_append_right (Nat.le_refl _), Nat.sub_self] at hf
    have ef : f = f' := Option.some.inj hf
    subst ef
    exact ⟨u, by rw [← h.1, List.getElem?_append_right (Nat.le_refl _), Nat.sub_self]; rfl, g⟩
  · rw [List.getElem?_eq_none (by rw [List.length_append]; exact e)] at hf
    cases hf
def StepV (K : PySem.W.Frag) (f : SF) (v : V) (H : Hp) : Prop := match f with
  | .deep => ∃ p dx, v = .ref p ∧ H p = some (.ins (He.ga K "Deep") dx [])
  | .seg fs => ∃ p dx t us, v = .ref p ∧ H p = some (.ins (He.ga K "Segment") dx [("parts", .ref t)]) ∧ H t = some (.tup us) ∧ PartsV K fs us H ∧ fs ≠ []
theorem StepV.nl {f : SF} {v : V} {H H' : Hp} (h : StepV K f v H) (e : NL H H') : StepV K f v H' := by
  cases f with
  | deep => obtain ⟨p, dx, a, b⟩ := h; exact ⟨p, dx, a, e _ _ b fun _ z => nomatch z⟩
  | seg fs => obtain ⟨p, dx, t, us, a, b, c, d, z⟩ := h; exact ⟨p, dx, t, us, a, e _ _ b fun _ z => (nomatch z), e _ _ c fun _ z => (nomatch z), d.nl e, z⟩
theorem StepV.mono {f : SF} {v : V} {H H' : Hp} (h : StepV K f v H) (e : Same H H') : StepV K f v H' := h.nl (.of e)
end
/-- parts with the second of two stars left out -/
def normP (fs : List PF) : List PF := fs.foldl (fun acc f => if acc = [] ∨ f.many = false ∨ acc.getLast?.map PF.many = some false then acc ++ [f] else acc) []
def normOne (acc : List PF) (f : PF) : List PF := if acc = [] ∨ f.many = false ∨ acc.getLast?.map PF.many = some false then acc ++ [f] else acc
theorem norm_take {fs : List PF} {k : Nat} {f : PF} (h : fs[k]? = some f) : (fs.take (k + 1)).foldl normOne [] = normOne ((fs.take k).foldl normOne []) f := by
  rw [take_succ' h, List.foldl_append]
  rfl
end SL
namespace SL
open PySem PySem.Spec PyProof.Rows L2
/-! ### a caught error that stays at hand behind its clause -/
section
variable {X : Cx} {nm var : Str} {c : Value} {i : Nat} {body rest : List Stmt} {st0 : Stmt} {p1 p2 p3 : Pos} {tb : WX → TS} {ts : Addr → Value → Option Addr → TS} {Wout : WX}
end
/-! ### isinstance of what may be a caught error -/
/-- what isinstance asks of the class D of errors -/
def excCB (K : PySem.W.Frag) (D : Addr) : Bool :=
  decide (PySem.W.findIn K (.ref D) "__getattribute__" = some (some (.builtin "BaseException.__getattribute__"))) && (decide (PySem.W.findIn K (.ref D) "__getattr__" = some none) &&
  (decide (PySem.W.subIn K (.ref D) (.type "BaseException") = some true) && (PySem.W.hasDictIn K D && (decide (PySem.W.findIn K (.ref D) "__class__" = some (some (.builtin "object.__class__"))) &&
  (decide (PySem.W.specialIn K (.builtin "object.__class__") "__get__" = some (some (.builtin "getset_descriptor.__get__"))) && (decide (PySem.W.takesIn K (.builtin "object.__class__") = some true) && decide (PySem.W.mroIn K D (.type "object") = some true)))))))
theorem excCB_ok {K : PySem.W.Frag} {D : Addr} (h : excCB K D = true) : ExcC K D := by
  unfold excCB at h
  simp only [Bool.and_eq_true, decide_eq_true_eq] at h
  obtain ⟨a, b, c, d, e, f, g, i⟩ := h
  exact ⟨a, b, c, d, e, f, g, i⟩
/-- an error of class x: caught by "except y", and of which classes it is -/
def kxB (K : PySem.W.Frag) (ex : List (Str × Str)) (is_ : List (Str × Str × Bool)) (no : List Str) : Bool :=
  ex.all (fun q => decide (PySem.W.exmOne K (.ref (He.ga K q.1)) (.ref (He.ga K q.2)) = some true) && (excCB K (He.ga K q.1) && decide (PySem.W.kitOne K (.ref (He.ga K q.1)) (.type "ValueError") = some true))) &&
  (is_.all (fun q => decide (PySem.W.kitOne K (.ref (He.ga K q.1)) (.ref (He.ga K q.2.1)) = some q.2.2)) && no.all fun y => decide (PySem.W.kitOne K (.type "NoneType") (.ref (He.ga K y)) = some false))
theorem kxB_ex {K : PySem.W.Frag} {ex : List (Str × Str)} {is_ : List (Str × Str × Bool)} {no : List Str} (h : kxB K ex is_ no = true) {x y : Str} (m : (x, y) ∈ ex) :
    PySem.W.exmOne K (.ref (He.ga K x)) (.ref (He.ga K y)) = some true ∧ ExcC K (He.ga K x) ∧ PySem.W.kitOne K (.ref (He.ga K x)) (.type "ValueError") = some true := by
  unfold kxB at h
  rw [Bool.and_eq_true] at h
  have e := List.all_eq_true.mp h.1 (x, y) m
  simp only [Bool.and_eq_true, decide_eq_true_eq] at e
  exact ⟨e.1, excCB_ok e.2.1, e.2.2⟩
/-! ### calls within a try: what the error finds is wished for at the slots that stand -/
section
variable {X : Cx} {k : Nat} {f C : Addr} {ps : List Str} {sp : Sp} {dvs : List V} {W : WX} {x : Str} {p pos : Pos} {e : Expr} {es : List Expr} {t : TA}
theorem pe_calT (o : OkD X.prog X.w X.K X.mg X.base k f ps dvs sp) (hr : Room k X.A) (hg : Gl X x) (hm : X.mg x = some (.ref f)) (tk : Takes X W)
    (ha : PA X (e :: es) t) (hdb : (x == ("__debug__" : Str)) = false := by decide) (he : starEach (e :: es) X.env = (false, eval e X.env) :: starEach es X.env := by rfl) (hpl : (backTo pos (starEach es X.env)).any (·.1) = false := by rfl) :
    PE X (.Call (.Name x p) (e :: es) [] pos) (tCallSD sp dvs (WE W) t) := by
  obtain ⟨fd, ds, F, hb, hd, hk⟩ := o
  exact pe_callSD F hr hg hm hk hb hd (passAt tk) ha hdb he hpl
end
end SL
namespace SL
open PySem PySem.Spec PyProof.Rows L2
abbrev fA (K : PySem.W.Frag) (x : Str) : Addr := He.ga K x
abbrev mA (K : PySem.W.Frag) (C m : Str) : Addr := He.ma K (He.ga K C) m
structure Txt (K : PySem.W.Frag) (mg : Str → Option Value) : Prop where
  F__wall : ∃ fd, FunD K "_wall" "_wall" (defArgs TX.s__wall) (defBody TX.s__wall) (defScope TX.s__wall) [] [] (fA K "_wall") fd
  F_with_deeps : ∃ fd, FunD K "with_deeps" "with_deeps" (defArgs TX.s_with_deeps) (defBody TX.s_with_deeps) (defScope TX.s_with_deeps) [] [] (fA K "with_deeps") fd
  F_fits : ∃ fd, FunD K "fits" "fits" (defArgs TX.s_fits) (defBody TX.s_fits) (defScope TX.s_fits) [] [] (fA K "fits") fd
  F_last_fit : ∃ fd, FunD K "last_fit" "last_fit" (defArgs TX.s_last_fit) (defBody TX.s_last_fit) (defScope TX.s_last_fit) [] [] (fA K "last_fit") fd
  F_is_sign : ∃ fd, FunD K "is_sign" "is_sign" (defArgs TX.s_is_sign) (defBody TX.s_is_sign) (defScope TX.s_is_sign) [] [] (fA K "is_sign") fd
  F_spots_behind : ∃ fd, FunD K "spots_behind" "spots_behind" (defArgs TX.s_spots_behind) (defBody TX.s_spots_behind) (defScope TX.s_spots_behind) [] [] (fA K "spots_behind") fd
  F_names_of : ∃ fd, FunD K "names_of" "names_of" (defArgs TX.s_names_of) (defBody TX.s_names_of) (defScope TX.s_names_of) [] [] (fA K "names_of") fd
  F_told : ∃ fd, FunD K "told" "told" (defArgs TX.s_told) (defBody TX.s_told) (defScope TX.s_told) [] [] (fA K "told") fd
  F_paths_within : ∃ fd, FunD K "paths_within" "paths_within" (defArgs TX.s_paths_within) (defBody TX.s_paths_within) (defScope TX.s_paths_within) [] [] (fA K "paths_within") fd
  F_paths_of : ∃ fd, FunD K "paths_of" "paths_of" (defArgs TX.s_paths_of) (defBody TX.s_paths_of) (defScope TX.s_paths_of) [] [] (fA K "paths_of") fd
  F_walked : ∃ fd, FunD K "walked" "walked" (defArgs TX.s_walked) (defBody TX.s_walked) (defScope TX.s_walked) [] [] (fA K "walked") fd
  F_spared : ∃ fd, FunD K "spared" "spared" (defArgs TX.s_spared) (defBody TX.s_spared) (defScope TX.s_spared) [] [] (fA K "spared") fd
  F_tops : ∃ fd, FunD K "tops" "tops" (defArgs TX.s_tops) (defBody TX.s_tops) (defScope TX.s_tops) [] [] (fA K "tops") fd
  F_folder_names : ∃ fd, FunD K "folder_names" "folder_names" (defArgs TX.s_folder_names) (defBody TX.s_folder_names) (defScope TX.s_folder_names) [] [] (fA K "folder_names") fd
  F_placed : ∃ fd, FunD K "placed" "placed" (defArgs TX.s_placed) (defBody TX.s_placed) (defScope TX.s_placed) [] [] (fA K "placed") fd
  F_gathered : ∃ fd, FunD K "gathered" "gathered" (defArgs TX.s_gathered) (defBody TX.s_gathered) (defScope TX.s_gathered) [] [] (fA K "gathered") fd
  F__law_cell : ∃ fd, FunD K "_law_cell" "_law_cell" (defArgs TX.s__law_cell) (defBody TX.s__law_cell) (defScope TX.s__law_cell) [] [] (fA K "_law_cell") fd
  F__law_mixed : ∃ fd, FunD K "_law_mixed" "_law_mixed" (defArgs TX.s__law_mixed) (defBody TX.s__law_mixed) (defScope TX.s__law_mixed) [] [] (fA K "_law_mixed") fd
  F__law_signs : ∃ fd, FunD K "_law_signs" "_law_signs" (defArgs TX.s__law_signs) (defBody TX.s__law_signs) (defScope TX.s__law_signs) [] [] (fA K "_law_signs") fd
  F__law_part : ∃ fd, FunD K "_law_part" "_law_part" (defArgs TX.s__law_part) (defBody TX.s__law_part) (defScope TX.s__law_part) [] [] (fA K "_law_part") fd
  F__law_segment : ∃ fd, FunD K "_law_segment" "_law_segment" (defArgs TX.s__law_segment) (defBody TX.s__law_segment) (defScope TX.s__law_segment) [] [] (fA K "_law_segment") fd
  F__law_row : ∃ fd, FunD K "_law_row" "_law_row" (defArgs TX.s__law_row) (defBody TX.s__law_row) (defScope TX.s__law_row) [] [] (fA K "_law_row") fd
  F__law_rows : ∃ fd, FunD K "_law_rows" "_law_rows" (defArgs TX.s__law_rows) (defBody TX.s__law_rows) (defScope TX.s__law_rows) [] [] (fA K "_law_rows") fd
  F__law_part_made : ∃ fd, FunD K "_law_part_made" "_law_part_made" (defArgs TX.s__law_part_made) (defBody TX.s__law_part_made) (defScope TX.s__law_part_made) [] [] (fA K "_law_part_made") fd
  F__law_row_made : ∃ fd, FunD K "_law_row_made" "_law_row_made" (defArgs TX.s__law_row_made) (defBody TX.s__law_row_made) (defScope TX.s__law_row_made) [] [] (fA K "_law_row_made") fd
  F__law_long_row : ∃ fd, FunD K "_law_long_row" "_law_long_row" (defArgs TX.s__law_long_row) (defBody TX.s__law_long_row) (defScope TX.s__law_long_row) [] [] (fA K "_law_long_row") fd
  F__law_with_long : ∃ fd, FunD K "_law_with_long" "_law_with_long" (defArgs TX.s__law_with_long) (defBody TX.s__law_with_long) (defScope TX.s__law_with_long) [] [] (fA K "_law_with_long") fd
  F__law_filled : ∃ fd, FunD K "_law_filled" "_law_filled" (defArgs TX.s__law_filled) (defBody TX.s__law_filled) (defScope TX.s__law_filled) [] [] (fA K "_law_filled") fd
  F__law_names : ∃ fd, FunD K "_law_names" "_law_names" (defArgs TX.s__law_names) (defBody TX.s__law_names) (defScope TX.s__law_names) [] [] (fA K "_law_names") fd
  F__law_free : ∃ fd, FunD K "_law_free" "_law_free" (defArgs TX.s__law_free) (defBody TX.s__law_free) (defScope TX.s__law_free) [] [] (fA K "_law_free") fd
  F__law_put_in : ∃ fd, FunD K "_law_put_in" "_law_put_in" (defArgs TX.s__law_put_in) (defBody TX.s__law_put_in) (defScope TX.s__law_put_in) [] [] (fA K "_law_put_in") fd
  F__law_paths : ∃ fd, FunD K "_law_paths" "_law_paths" (defArgs TX.s__law_paths) (defBody TX.s__law_paths) (defScope TX.s__law_paths) [] [] (fA K "_law_paths") fd
  F__law_cut : ∃ fd, FunD K "_law_cut" "_law_cut" (defArgs TX.s__law_cut) (defBody TX.s__law_cut) (defScope TX.s__law_cut) [] [] (fA K "_law_cut") fd
  F__law_lists : ∃ fd, FunD K "_law_lists" "_law_lists" (defArgs TX.s__law_lists) (defBody TX.s__law_lists) (defScope TX.s__law_lists) [] [] (fA K "_law_lists") fd
  F__law_made_lists : ∃ fd, FunD K "_law_made_lists" "_law_made_lists" (defArgs TX.s__law_made_lists) (defBody TX.s__law_made_lists) (defScope TX.s__law_made_lists) [] [] (fA K "_law_made_lists") fd
  F__law_ranked : ∃ fd, FunD K "_law_ranked" "_law_ranked" (defArgs TX.s__law_ranked) (defBody TX.s__law_ranked) (defScope TX.s__law_ranked) [] [] (fA K "_law_ranked") fd
  F__law_wide_tree : ∃ fd, FunD K "_law_wide_tree" "_law_wide_tree" (defArgs TX.s__law_wide_tree) (defBody TX.s__law_wide_tree) (defScope TX.s__law_wide_tree) [] [] (fA K "_law_wide_tree") fd
  F_law : ∃ fd, FunD K "law" "law" (defArgs TX.s_law) (defBody TX.s_law) (defScope TX.s_law) [] [] (fA K "law") fd
  F_Part_fits : ∃ fd, FunD K "fits" "Part.fits" (defArgs TX.s_Part_fits) (defBody TX.s_Part_fits) (defScope TX.s_Part_fits) [] [] (mA K "Part" "fits") fd
  F_Part_many : ∃ fd, FunD K "many" "Part.many" (defArgs TX.s_Part_many) (defBody TX.s_Part_many) (defScope TX.s_Part_many) [] [] (mA K "Part" "many") fd
  F_Part_told : ∃ fd, FunD K "told" "Part.told" (defArgs TX.s_Part_told) (defBody TX.s_Part_told) (defScope TX.s_Part_told) [] [] (mA K "Part" "told") fd
  F_Any_fits : ∃ fd, FunD K "fits" "Part.fits" (defArgs TX.s_Part_fits) (defBody TX.s_Part_fits) (defScope TX.s_Part_fits) [] [] (mA K "Any" "fits") fd
  F_Any_many : ∃ fd, FunD K "many" "Part.many" (defArgs TX.s_Part_many) (defBody TX.s_Part_many) (defScope TX.s_Part_many) [] [] (mA K "Any" "many") fd
  F_Any_told : ∃ fd, FunD K "told" "Part.told" (defArgs TX.s_Part_told) (defBody TX.s_Part_told) (defScope TX.s_Part_told) [] [] (mA K "Any" "told") fd
  F_One_fits : ∃ fd, FunD K "fits" "One.fits" (defArgs TX.s_One_fits) (defBody TX.s_One_fits) (defScope TX.s_One_fits) [] [] (mA K "One" "fits") fd
  F_One_many : ∃ fd, FunD K "many" "Part.many" (defArgs TX.s_Part_many) (defBody TX.s_Part_many) (defScope TX.s_Part_many) [] [] (mA K "One" "many") fd
  F_One_told : ∃ fd, FunD K "told" "One.told" (defArgs TX.s_One_told) (defBody TX.s_One_told) (defScope TX.s_One_told) [] [] (mA K "One" "told") fd
  F_One___init__ : ∃ fd, FunD K "__init__" "One.__init__" (defArgs TX.s_One___init__) (defBody TX.s_One___init__) (defScope TX.s_One___init__) [] [] (mA K "One" "__init__") fd
  F_Among_fits : ∃ fd, FunD K "fits" "Among.fits" (defArgs TX.s_Among_fits) (defBody TX.s_Among_fits) (defScope TX.s_Among_fits) [] [] (mA K "Among" "fits") fd
  F_Among_many : ∃ fd, FunD K "many" "Part.many" (defArgs TX.s_Part_many) (defBody TX.s_Part_many) (defScope TX.s_Part_many) [] [] (mA K "Among" "many") fd
  F_Among_told : ∃ fd, FunD K "told" "Among.told" (defArgs TX.s_Among_told) (defBody TX.s_Among_told) (defScope TX.s_Among_told) [] [] (mA K "Among" "told") fd
  F_Among___init__ : ∃ fd, FunD K "__init__" "Among.__init__" (defArgs TX.s_Among___init__) (defBody TX.s_Among___init__) (defScope TX.s_Among___init__) [V.bl false] [] (mA K "Among" "__init__") fd
  F_Stars_fits : ∃ fd, FunD K "fits" "Part.fits" (defArgs TX.s_Part_fits) (defBody TX.s_Part_fits) (defScope TX.s_Part_fits) [] [] (mA K "Stars" "fits") fd
  F_Stars_many : ∃ fd, FunD K "many" "Stars.many" (defArgs TX.s_Stars_many) (defBody TX.s_Stars_many) (defScope TX.s_Stars_many) [] [] (mA K "Stars" "many") fd
  F_Stars_told : ∃ fd, FunD K "told" "Stars.told" (defArgs TX.s_Stars_told) (defBody TX.s_Stars_told) (defScope TX.s_Stars_told) [] [] (mA K "Stars" "told") fd
  F_Step_deep : ∃ fd, FunD K "deep" "Step.deep" (defArgs TX.s_Step_deep) (defBody TX.s_Step_deep) (defScope TX.s_Step_deep) [] [] (mA K "Step" "deep") fd
  F_Step_fits_name : ∃ fd, FunD K "fits_name" "Step.fits_name" (defArgs TX.s_Step_fits_name) (defBody TX.s_Step_fits_name) (defScope TX.s_Step_fits_name) [] [] (mA K "Step" "fits_name") fd
  F_Step_told : ∃ fd, FunD K "told" "Step.told" (defArgs TX.s_Step_told) (defBody TX.s_Step_told) (defScope TX.s_Step_told) [] [] (mA K "Step" "told") fd
  F_Deep_deep : ∃ fd, FunD K "deep" "Deep.deep" (defArgs TX.s_Deep_deep) (defBody TX.s_Deep_deep) (defScope TX.s_Deep_deep) [] [] (mA K "Deep" "deep") fd
  F_Deep_fits_name : ∃ fd, FunD K "fits_name" "Step.fits_name" (defArgs TX.s_Step_fits_name) (defBody TX.s_Step_fits_name) (defScope TX.s_Step_fits_name) [] [] (mA K "Deep" "fits_name") fd
  F_Deep_told : ∃ fd, FunD K "told" "Step.told" (defArgs TX.s_Step_told) (defBody TX.s_Step_told) (defScope TX.s_Step_told) [] [] (mA K "Deep" "told") fd
  F_Segment_deep : ∃ fd, FunD K "deep" "Step.deep" (defArgs TX.s_Step_deep) (defBody TX.s_Step_deep) (defScope TX.s_Step_deep) [] [] (mA K "Segment" "deep") fd
  F_Segment_fits_name : ∃ fd, FunD K "fits_name" "Segment.fits_name" (defArgs TX.s_Segment_fits_name) (defBody TX.s_Segment_fits_name) (defScope TX.s_Segment_fits_name) [] [] (mA K "Segment" "fits_name") fd
  F_Segment_told : ∃ fd, FunD K "told" "Segment.told" (defArgs TX.s_Segment_told) (defBody TX.s_Segment_told) (defScope TX.s_Segment_told) [] [] (mA K "Segment" "told") fd
  F_Segment___init__ : ∃ fd, FunD K "__init__" "Segment.__init__" (defArgs TX.s_Segment___init__) (defBody TX.s_Segment___init__) (defScope TX.s_Segment___init__) [] [] (mA K "Segment" "__init__") fd
  F_Row___init__ : ∃ fd, FunD K "__init__" "Row.__init__" (defArgs TX.s_Row___init__) (defBody TX.s_Row___init__) (defScope TX.s_Row___init__) [V.bl false, V.bl false] [] (mA K "Row" "__init__") fd
  F_Row_told : ∃ fd, FunD K "told" "Row.told" (defArgs TX.s_Row_told) (defBody TX.s_Row_told) (defScope TX.s_Row_told) [] [] (mA K "Row" "told") fd
  g__wall : mg "_wall" = some (.ref (fA K "_wall"))
  g_with_deeps : mg "with_deeps" = some (.ref (fA K "with_deeps"))
  g_fits : mg "fits" = some (.ref (fA K "fits"))
  g_last_fit : mg "last_fit" = some (.ref (fA K "last_fit"))
  g_is_sign : mg "is_sign" = some (.ref (fA K "is_sign"))
  g_spots_behind : mg "spots_behind" = some (.ref (fA K "spots_behind"))
  g_names_of : mg "names_of" = some (.ref (fA K "names_of"))
  g_told : mg "told" = some (.ref (fA K "told"))
  g_paths_within : mg "paths_within" = some (.ref (fA K "paths_within"))
  g_paths_of : mg "paths_of" = some (.ref (fA K "paths_of"))
  g_walked : mg "walked" = some (.ref (fA K "walked"))
  g_spared : mg "spared" = some (.ref (fA K "spared"))
  g_tops : mg "tops" = some (.ref (fA K "tops"))
  g_folder_names : mg "folder_names" = some (.ref (fA K "folder_names"))
  g_placed : mg "placed" = some (.ref (fA K "placed"))
  g_gathered : mg "gathered" = some (.ref (fA K "gathered"))
  g__law_cell : mg "_law_cell" = some (.ref (fA K "_law_cell"))
  g__law_mixed : mg "_law_mixed" = some (.ref (fA K "_law_mixed"))
  g__law_signs : mg "_law_signs" = some (.ref (fA K "_law_signs"))
  g__law_part : mg "_law_part" = some (.ref (fA K "_law_part"))
  g__law_segment : mg "_law_segment" = some (.ref (fA K "_law_segment"))
  g__law_row : mg "_law_row" = some (.ref (fA K "_law_row"))
  g__law_rows : mg "_law_rows" = some (.ref (fA K "_law_rows"))
  g__law_part_made : mg "_law_part_made" = some (.ref (fA K "_law_part_made"))
  g__law_row_made : mg "_law_row_made" = some (.ref (fA K "_law_row_made"))
  g__law_long_row : mg "_law_long_row" = some (.ref (fA K "_law_long_row"))
  g__law_with_long : mg "_law_with_long" = some (.ref (fA K "_law_with_long"))
  g__law_filled : mg "_law_filled" = some (.ref (fA K "_law_filled"))
  g__law_names : mg "_law_names" = some (.ref (fA K "_law_names"))
  g__law_free : mg "_law_free" = some (.ref (fA K "_law_free"))
  g__law_put_in : mg "_law_put_in" = some (.ref (fA K "_law_put_in"))
  g__law_paths : mg "_law_paths" = some (.ref (fA K "_law_paths"))
  g__law_cut : mg "_law_cut" = some (.ref (fA K "_law_cut"))
  g__law_lists : mg "_law_lists" = some (.ref (fA K "_law_lists"))
  g__law_made_lists : mg "_law_made_lists" = some (.ref (fA K "_law_made_lists"))
  g__law_ranked : mg "_law_ranked" = some (.ref (fA K "_law_ranked"))
  g__law_wide_tree : mg "_law_wide_tree" = some (.ref (fA K "_law_wide_tree"))
  g_law : mg "law" = some (.ref (fA K "law"))
  g_ShunError : mg "ShunError" = some (.ref (fA K "ShunError"))
  k_ShunError : PySem.W.keepIn K (.ref (fA K "ShunError")) = true
  x_ShunError : ExcK K (fA K "ShunError")
  g_NoPart : mg "NoPart" = some (.ref (fA K "NoPart"))
  k_NoPart : PySem.W.keepIn K (.ref (fA K "NoPart")) = true
  x_NoPart : ExcK K (fA K "NoPart")
  g_NoPath : mg "NoPath" = some (.ref (fA K "NoPath"))
  k_NoPath : PySem.W.keepIn K (.ref (fA K "NoPath")) = true
  x_NoPath : ExcK K (fA K "NoPath")
  g_NoFolder : mg "NoFolder" = some (.ref (fA K "NoFolder"))
  k_NoFolder : PySem.W.keepIn K (.ref (fA K "NoFolder")) = true
  x_NoFolder : ExcK K (fA K "NoFolder")
  g_Part : mg "Part" = some (.ref (fA K "Part"))
  k_Part : PySem.W.keepIn K (.ref (fA K "Part")) = true
  c_Part : Cls K (fA K "Part")
  m_Part_fits : Meth K (fA K "Part") "fits" (mA K "Part" "fits")
  m_Part_many : Meth K (fA K "Part") "many" (mA K "Part" "many")
  m_Part_told : Meth K (fA K "Part") "told" (mA K "Part" "told")
  g_Any : mg "Any" = some (.ref (fA K "Any"))
  k_Any : PySem.W.keepIn K (.ref (fA K "Any")) = true
  c_Any : Cls K (fA K "Any")
  m_Any_fits : Meth K (fA K "Any") "fits" (mA K "Any" "fits")
  m_Any_many : Meth K (fA K "Any") "many" (mA K "Any" "many")
  m_Any_told : Meth K (fA K "Any") "told" (mA K "Any" "told")
  g_One : mg "One" = some (.ref (fA K "One"))
  k_One : PySem.W.keepIn K (.ref (fA K "One")) = true
  c_One : Cls K (fA K "One")
  n_One_sign : NoAttr K (fA K "One") "sign"
  m_One_fits : Meth K (fA K "One") "fits" (mA K "One" "fits")
  m_One_many : Meth K (fA K "One") "many" (mA K "One" "many")
  m_One_told : Meth K (fA K "One") "told" (mA K "One" "told")
  m_One___init__ : Meth K (fA K "One") "__init__" (mA K "One" "__init__")
  mk_One : Mk K (fA K "One") (mA K "One" "__init__")
  g_Among : mg "Among" = some (.ref (fA K "Among"))
  k_Among : PySem.W.keepIn K (.ref (fA K "Among")) = true
  c_Among : Cls K (fA K "Among")
  n_Among_signs : NoAttr K (fA K "Among") "signs"
  n_Among_outside : NoAttr K (fA K "Among") "outside"
  m_Among_fits : Meth K (fA K "Among") "fits" (mA K "Among" "fits")
  m_Among_many : Meth K (fA K "Among") "many" (mA K "Among" "many")
  m_Among_told : Meth K (fA K "Among") "told" (mA K "Among" "told")
  m_Among___init__ : Meth K (fA K "Among") "__init__" (mA K "Among" "__init__")
  mk_Among : Mk K (fA K "Among") (mA K "Among" "__init__")
  g_Stars : mg "Stars" = some (.ref (fA K "Stars"))
  k_Stars : PySem.W.keepIn K (.ref (fA K "Stars")) = true
  c_Stars : Cls K (fA K "Stars")
  m_Stars_fits : Meth K (fA K "Stars") "fits" (mA K "Stars" "fits")
  m_Stars_many : Meth K (fA K "Stars") "many" (mA K "Stars" "many")
  m_Stars_told : Meth K (fA K "Stars") "told" (mA K "Stars" "told")
  g_Step : mg "Step" = some (.ref (fA K "Step"))
  k_Step : PySem.W.keepIn K (.ref (fA K "Step")) = true
  c_Step : Cls K (fA K "Step")
  m_Step_deep : Meth K (fA K "Step") "deep" (mA K "Step" "deep")
  m_Step_fits_name : Meth K (fA K "Step") "fits_name" (mA K "Step" "fits_name")
  m_Step_told : Meth K (fA K "Step") "told" (mA K "Step" "told")
  g_Deep : mg "Deep" = some (.ref (fA K "Deep"))
  k_Deep : PySem.W.keepIn K (.ref (fA K "Deep")) = true
  c_Deep : Cls K (fA K "Deep")
  m_Deep_deep : Meth K (fA K "Deep") "deep" (mA K "Deep" "deep")
  m_Deep_fits_name : Meth K (fA K "Deep") "fits_name" (mA K "Deep" "fits_name")
  m_Deep_told : Meth K (fA K "Deep") "told" (mA K "Deep" "told")
  g_Segment : mg "Segment" = some (.ref (fA K "Segment"))
  k_Segment : PySem.W.keepIn K (.ref (fA K "Segment")) = true
  c_Segment : Cls K (fA K "Segment")
  n_Segment_parts : NoAttr K (fA K "Segment") "parts"
  m_Segment_deep : Meth K (fA K "Segment") "deep" (mA K "Segment" "deep")
  m_Segment_fits_name : Meth K (fA K "Segment") "fits_name" (mA K "Segment" "fits_name")
  m_Segment_told : Meth K (fA K "Segment") "told" (mA K "Segment" "told")
  m_Segment___init__ : Meth K (fA K "Segment") "__init__" (mA K "Segment" "__init__")
  mk_Segment : Mk K (fA K "Segment") (mA K "Segment" "__init__")
  g_Row : mg "Row" = some (.ref (fA K "Row"))
  k_Row : PySem.W.keepIn K (.ref (fA K "Row")) = true
  c_Row : Cls K (fA K "Row")
  n_Row_steps : NoAttr K (fA K "Row") "steps"
  n_Row_spares : NoAttr K (fA K "Row") "spares"
  n_Row_folders : NoAttr K (fA K "Row") "folders"
  m_Row___init__ : Meth K (fA K "Row") "__init__" (mA K "Row" "__init__")
  m_Row_told : Meth K (fA K "Row") "told" (mA K "Row" "told")
  mk_Row : Mk K (fA K "Row") (mA K "Row" "__init__")
  s_SIGNS : ∃ t, mg "SIGNS" = some (.str "-.0123456789_abcdefghijklmnopqrstuvwxyz" t)
  fr_len : mg "len" = none
  fr_range : mg "range" = none
  fr_all : mg "all" = none
  fr_set : mg "set" = none
  fr_sorted : mg "sorted" = none
  fr_tuple : mg "tuple" = none
  fr_int : mg "int" = none
  fr_enumerate : mg "enumerate" = none
  fr_reversed : mg "reversed" = none
  fr_max : mg "max" = none
  fr_min : mg "min" = none
  kx : SL.kxB K [("NoPath", "NoPath")] [] [] = true
  mn_Part : MkN K (fA K "Part")
  mn_Any : MkN K (fA K "Any")
  mn_Stars : MkN K (fA K "Stars")
  mn_Step : MkN K (fA K "Step")
  mn_Deep : MkN K (fA K "Deep")
theorem Txt.obj {K : PySem.W.Frag} {mg : Str → Option Value} (T : Txt K mg) : Cls K (fA K "Part") ∧ Cls K (fA K "Any") ∧ Cls K (fA K "One") ∧ Cls K (fA K "Among") ∧ Cls K (fA K "Stars") ∧ Cls K (fA K "Step") ∧ Cls K (fA K "Deep") ∧ Cls K (fA K "Segment") ∧ Cls K (fA K "Row") ∧ NoAttr K (fA K "One") "sign" ∧ NoAttr K (fA K "Among") "signs" ∧ NoAttr K (fA K "Among") "outside" ∧ NoAttr K (fA K "Segment") "parts" ∧ NoAttr K (fA K "Row") "steps" ∧ NoAttr K (fA K "Row") "spares" ∧ NoAttr K (fA K "Row") "folders" := ⟨T.c_Part, T.c_Any, T.c_One, T.c_Among, T.c_Stars, T.c_Step, T.c_Deep, T.c_Segment, T.c_Row, T.n_One_sign, T.n_Among_signs, T.n_Among_outside, T.n_Segment_parts, T.n_Row_steps, T.n_Row_spares, T.n_Row_folders⟩
abbrev cdP (K : PySem.W.Frag) (q : Str) : Addr := He.codeOf K (q, none)
abbrev tbP (K : PySem.W.Frag) (q : Str) : Addr := He.tabOf K (cdP K q)
structure Txb (K : PySem.W.Frag) (mg : Str → Option Value) (base : Heap) : Prop where
  tb_spared : LamX.TabB base mg (cdP K "spared") (tbP K "spared")
  tb_tops : LamX.TabB base mg (cdP K "tops") (tbP K "tops")
  tb_law : LamX.TabB base mg (cdP K "law") (tbP K "law")
def nmQ (l c : Nat) : Str := if l = 192 then "spared.<locals>.act" else if l = 200 then "tops.<locals>.act" else if l = 411 then "law.<locals>._law_act" else ""
abbrev tabsT (K : PySem.W.Frag) : List NdefX.NTab := [(tbP K "spared", nmQ), (tbP K "tops", nmQ), (tbP K "law", nmQ)]
theorem tabsT_nm {K : PySem.W.Frag} : ∀ p ∈ tabsT K, p.2 = nmQ := by intro p hp; simp [tabsT] at hp; rcases hp with rfl | rfl | rfl <;> rfl
def forB : Stmt → List Stmt
  | .For _ _ b _ _ => b
  | _ => []
abbrev s_spared_act : Stmt := (defBody TX.s_spared).getD 1 (.Pass ⟨0, 0, 0, 0⟩)
abbrev s_tops_act : Stmt := (defBody TX.s_tops).getD 1 (.Pass ⟨0, 0, 0, 0⟩)
abbrev s_law__law_act : Stmt := (defBody TX.s_law).getD 8 (.Pass ⟨0, 0, 0, 0⟩)
end SL
namespace SL
open PySem PySem.Spec PyProof.Rows L2
abbrev N__wall : List Str := ["k"]
theorem sc__wall : FnScope ["k"] ["k"] (defScope TX.s__wall) := ⟨rfl, rfl, rfl, by decide +kernel, rfl, by decide +kernel, by decide +kernel⟩
abbrev N_with_deeps : List Str := ["steps", "places", "found", "place"]
theorem sc_with_deeps : FnScope ["steps", "places", "found", "place"] ["steps", "places"] (defScope TX.s_with_deeps) := ⟨rfl, rfl, rfl, by decide +kernel, rfl, by decide +kernel, by decide +kernel⟩
abbrev N_fits : List Str := ["row", "names", "folder", "places", "name", "later", "place"]
theorem sc_fits : FnScope ["row", "names", "folder", "places", "name", "later", "place"] ["row", "names", "folder"] (defScope TX.s_fits) := ⟨rfl, rfl, rfl, by decide +kernel, rfl, by decide +kernel, by decide +kernel⟩
abbrev N_last_fit : List Str := ["rows", "names", "folder", "number"]
theorem sc_last_fit : FnScope ["rows", "names", "folder", "number"] ["rows", "names", "folder"] (defScope TX.s_last_fit) := ⟨rfl, rfl, rfl, by decide +kernel, rfl, by decide +kernel, by decide +kernel⟩
abbrev N_is_sign : List Str := ["thing"]
theorem sc_is_sign : FnScope ["thing"] ["thing"] (defScope TX.s_is_sign) := ⟨rfl, rfl, rfl, by decide +kernel, rfl, by decide +kernel, by decide +kernel⟩
abbrev N_Part_fits : List Str := ["self", "sign"]
theorem sc_Part_fits : FnScope ["self", "sign"] ["self", "sign"] (defScope TX.s_Part_fits) := ⟨rfl, rfl, rfl, by decide +kernel, rfl, by decide +kernel, by decide +kernel⟩
abbrev N_Part_many : List Str := ["self"]
theorem sc_Part_many : FnScope ["self"] ["self"] (defScope TX.s_Part_many) := ⟨rfl, rfl, rfl, by decide +kernel, rfl, by decide +kernel, by decide +kernel⟩
abbrev N_Part_told : List Str := ["self"]
theorem sc_Part_told : FnScope ["self"] ["self"] (defScope TX.s_Part_told) := ⟨rfl, rfl, rfl, by decide +kernel, rfl, by decide +kernel, by decide +kernel⟩
abbrev N_One___init__ : List Str := ["self", "sign"]
theorem sc_One___init__ : FnScope ["self", "sign"] ["self", "sign"] (defScope TX.s_One___init__) := ⟨rfl, rfl, rfl, by decide +kernel, rfl, by decide +kernel, by decide +kernel⟩
abbrev N_One_fits : List Str := ["self", "sign"]
theorem sc_One_fits : FnScope ["self", "sign"] ["self", "sign"] (defScope TX.s_One_fits) := ⟨rfl, rfl, rfl, by decide +kernel, rfl, by decide +kernel, by decide +kernel⟩
abbrev N_One_told : List Str := ["self"]
theorem sc_One_told : FnScope ["self"] ["self"] (defScope TX.s_One_told) := ⟨rfl, rfl, rfl, by decide +kernel, rfl, by decide +kernel, by decide +kernel⟩
abbrev N_Among___init__ : List Str := ["self", "signs", "outside", "sign"]
theorem sc_Among___init__ : FnScope ["self", "signs", "outside", "sign"] ["self", "signs", "outside"] (defScope TX.s_Among___init__) := ⟨rfl, rfl, rfl, by decide +kernel, rfl, by decide +kernel, by decide +kernel⟩
abbrev N_Among_fits : List Str := ["self", "sign"]
theorem sc_Among_fits : FnScope ["self", "sign"] ["self", "sign"] (defScope TX.s_Among_fits) := ⟨rfl, rfl, rfl, by decide +kernel, rfl, by decide +kernel, by decide +kernel⟩
abbrev N_Among_told : List Str := ["self"]
theorem sc_Among_told : FnScope ["self"] ["self"] (defScope TX.s_Among_told) := ⟨rfl, rfl, rfl, by decide +kernel, rfl, by decide +kernel, by decide +kernel⟩
abbrev N_Stars_many : List Str := ["self"]
theorem sc_Stars_many : FnScope ["self"] ["self"] (defScope TX.s_Stars_many) := ⟨rfl, rfl, rfl, by decide +kernel, rfl, by decide +kernel, by decide +kernel⟩
abbrev N_Stars_told : List Str := ["self"]
theorem sc_Stars_told : FnScope ["self"] ["self"] (defScope TX.s_Stars_told) := ⟨rfl, rfl, rfl, by decide +kernel, rfl, by decide +kernel, by decide +kernel⟩
abbrev N_spots_behind : List Str := ["parts", "spots", "found", "spot"]
theorem sc_spots_behind : FnScope ["parts", "spots", "found", "spot"] ["parts", "spots"] (defScope TX.s_spots_behind) := ⟨rfl, rfl, rfl, by decide +kernel, rfl, by decide +kernel, by decide +kernel⟩
abbrev N_Step_deep : List Str := ["self"]
theorem sc_Step_deep : FnScope ["self"] ["self"] (defScope TX.s_Step_deep) := ⟨rfl, rfl, rfl, by decide +kernel, rfl, by decide +kernel, by decide +kernel⟩
abbrev N_Step_fits_name : List Str := ["self", "name"]
theorem sc_Step_fits_name : FnScope ["self", "name"] ["self", "name"] (defScope TX.s_Step_fits_name) := ⟨rfl, rfl, rfl, by decide +kernel, rfl, by decide +kernel, by decide +kernel⟩
abbrev N_Step_told : List Str := ["self"]
theorem sc_Step_told : FnScope ["self"] ["self"] (defScope TX.s_Step_told) := ⟨rfl, rfl, rfl, by decide +kernel, rfl, by decide +kernel, by decide +kernel⟩
abbrev N_Deep_deep : List Str := ["self"]
theorem sc_Deep_deep : FnScope ["self"] ["self"] (defScope TX.s_Deep_deep) := ⟨rfl, rfl, rfl, by decide +kernel, rfl, by decide +kernel, by decide +kernel⟩
abbrev N_Segment___init__ : List Str := ["self", "parts", "found", "part"]
theorem sc_Segment___init__ : FnScope ["self", "parts", "found", "part"] ["self", "parts"] (defScope TX.s_Segment___init__) := ⟨rfl, rfl, rfl, by decide +kernel, rfl, by decide +kernel, by decide +kernel⟩
abbrev N_Segment_fits_name : List Str := ["self", "name", "spots", "sign", "later", "spot"]
theorem sc_Segment_fits_name : FnScope ["self", "name", "spots", "sign", "later", "spot"] ["self", "name"] (defScope TX.s_Segment_fits_name) := ⟨rfl, rfl, rfl, by decide +kernel, rfl, by decide +kernel, by decide +kernel⟩
abbrev N_Segment_told : List Str := ["self"]
theorem sc_Segment_told : FnScope ["self"] ["self"] (defScope TX.s_Segment_told) := ⟨rfl, rfl, rfl, by decide +kernel, rfl, by decide +kernel, by decide +kernel⟩
abbrev N_Row___init__ : List Str := ["self", "steps", "spares", "folders", "found", "step"]
theorem sc_Row___init__ : FnScope ["self", "steps", "spares", "folders", "found", "step"] ["self", "steps", "spares", "folders"] (defScope TX.s_Row___init__) := ⟨rfl, rfl, rfl, by decide +kernel, rfl, by decide +kernel, by decide +kernel⟩
abbrev N_Row_told : List Str := ["self"]
theorem sc_Row_told : FnScope ["self"] ["self"] (defScope TX.s_Row_told) := ⟨rfl, rfl, rfl, by decide +kernel, rfl, by decide +kernel, by decide +kernel⟩
abbrev N_names_of : List Str := ["path", "names", "folder", "name", "sign"]
theorem sc_names_of : FnScope ["path", "names", "folder", "name", "sign"] ["path"] (defScope TX.s_names_of) := ⟨rfl, rfl, rfl, by decide +kernel, rfl, by decide +kernel, by decide +kernel⟩
abbrev N_told : List Str := ["rows", "path", "names", "folder", "decides", "many"]
theorem sc_told : FnScope ["rows", "path", "names", "folder", "decides", "many"] ["rows", "path"] (defScope TX.s_told) := ⟨rfl, rfl, rfl, by decide +kernel, rfl, by decide +kernel, by decide +kernel⟩
abbrev N_paths_within : List Str := ["tree", "ahead", "found", "name"]
theorem sc_paths_within : FnScope ["tree", "ahead", "found", "name"] ["tree", "ahead"] (defScope TX.s_paths_within) := ⟨rfl, rfl, rfl, by decide +kernel, rfl, by decide +kernel, by decide +kernel⟩
abbrev N_paths_of : List Str := ["tree"]
theorem sc_paths_of : FnScope ["tree"] ["tree"] (defScope TX.s_paths_of) := ⟨rfl, rfl, rfl, by decide +kernel, rfl, by decide +kernel, by decide +kernel⟩
abbrev N_walked : List Str := ["tree", "rows", "act", "many", "shut", "path", "shunned", "row"]
theorem sc_walked : FnScope ["tree", "rows", "act", "many", "shut", "path", "shunned", "row"] ["tree", "rows", "act"] (defScope TX.s_walked) := ⟨rfl, rfl, rfl, by decide +kernel, rfl, by decide +kernel, by decide +kernel⟩
abbrev N_spared : List Str := ["tree", "rows", "found", "act"]
theorem sc_spared : FnScope ["tree", "rows", "found", "act"] ["tree", "rows"] (defScope TX.s_spared) := ⟨rfl, rfl, rfl, by decide +kernel, rfl, by decide +kernel, by decide +kernel⟩
abbrev N_tops : List Str := ["tree", "rows", "found", "act"]
theorem sc_tops : FnScope ["tree", "rows", "found", "act"] ["tree", "rows"] (defScope TX.s_tops) := ⟨rfl, rfl, rfl, by decide +kernel, rfl, by decide +kernel, by decide +kernel⟩
abbrev N_folder_names : List Str := ["folder", "names", "is_folder"]
theorem sc_folder_names : FnScope ["folder", "names", "is_folder"] ["folder"] (defScope TX.s_folder_names) := ⟨rfl, rfl, rfl, by decide +kernel, rfl, by decide +kernel, by decide +kernel⟩
abbrev N_placed : List Str := ["row", "names", "steps", "step", "name", "sign"]
theorem sc_placed : FnScope ["row", "names", "steps", "step", "name", "sign"] ["row", "names"] (defScope TX.s_placed) := ⟨rfl, rfl, rfl, by decide +kernel, rfl, by decide +kernel, by decide +kernel⟩
abbrev N_gathered : List Str := ["lists", "ranked", "folder", "names", "found", "many", "row"]
theorem sc_gathered : FnScope ["lists", "ranked", "folder", "names", "found", "many", "row"] ["lists"] (defScope TX.s_gathered) := ⟨rfl, rfl, rfl, by decide +kernel, rfl, by decide +kernel, by decide +kernel⟩
abbrev N__law_cell : List Str := ["_law_script", "_law_k", "_law_cell_here", "_law_mark", "_law_high"]
theorem sc__law_cell : FnScope ["_law_script", "_law_k", "_law_cell_here", "_law_mark", "_law_high"] ["_law_script", "_law_k"] (defScope TX.s__law_cell) := ⟨rfl, rfl, rfl, by decide +kernel, rfl, by decide +kernel, by decide +kernel⟩
abbrev N__law_mixed : List Str := ["_law_cell_here", "_law_k", "_law_mark"]
theorem sc__law_mixed : FnScope ["_law_cell_here", "_law_k", "_law_mark"] ["_law_cell_here", "_law_k"] (defScope TX.s__law_mixed) := ⟨rfl, rfl, rfl, by decide +kernel, rfl, by decide +kernel, by decide +kernel⟩
abbrev N__law_signs : List Str := ["_law_cell_here", "_law_all_signs", "_law_step", "_law_k"]
theorem sc__law_signs : FnScope ["_law_cell_here", "_law_all_signs", "_law_step", "_law_k"] ["_law_cell_here"] (defScope TX.s__law_signs) := ⟨rfl, rfl, rfl, by decide +kernel, rfl, by decide +kernel, by decide +kernel⟩
abbrev N__law_part : List Str := ["_law_cell_here", "_law_signs_here", "_law_way", "_law_one", "_law_some"]
theorem sc__law_part : FnScope ["_law_cell_here", "_law_signs_here", "_law_way", "_law_one", "_law_some"] ["_law_cell_here", "_law_signs_here"] (defScope TX.s__law_part) := ⟨rfl, rfl, rfl, by decide +kernel, rfl, by decide +kernel, by decide +kernel⟩
abbrev N__law_segment : List Str := ["_law_cell_here", "_law_signs_here", "_law_parts", "_law_k", "_law_part_here"]
theorem sc__law_segment : FnScope ["_law_cell_here", "_law_signs_here", "_law_parts", "_law_k", "_law_part_here"] ["_law_cell_here", "_law_signs_here"] (defScope TX.s__law_segment) := ⟨rfl, rfl, rfl, by decide +kernel, rfl, by decide +kernel, by decide +kernel⟩
abbrev N__law_row : List Str := ["_law_cell_here", "_law_signs_here", "_law_steps", "_law_k", "_law_mark"]
theorem sc__law_row : FnScope ["_law_cell_here", "_law_signs_here", "_law_steps", "_law_k", "_law_mark"] ["_law_cell_here", "_law_signs_here"] (defScope TX.s__law_row) := ⟨rfl, rfl, rfl, by decide +kernel, rfl, by decide +kernel, by decide +kernel⟩
abbrev N__law_rows : List Str := ["_law_script", "_law_first", "_law_many", "_law_signs_here", "_law_found", "_law_k", "_law_cell_here", "_law_row_here"]
theorem sc__law_rows : FnScope ["_law_script", "_law_first", "_law_many", "_law_signs_here", "_law_found", "_law_k", "_law_cell_here", "_law_row_here"] ["_law_script", "_law_first", "_law_many", "_law_signs_here"] (defScope TX.s__law_rows) := ⟨rfl, rfl, rfl, by decide +kernel, rfl, by decide +kernel, by decide +kernel⟩
abbrev N__law_part_made : List Str := ["_law_form"]
theorem sc__law_part_made : FnScope ["_law_form"] ["_law_form"] (defScope TX.s__law_part_made) := ⟨rfl, rfl, rfl, by decide +kernel, rfl, by decide +kernel, by decide +kernel⟩
abbrev N__law_row_made : List Str := ["_law_form", "_law_steps", "_law_step", "_law_part_here"]
theorem sc__law_row_made : FnScope ["_law_form", "_law_steps", "_law_step", "_law_part_here"] ["_law_form"] (defScope TX.s__law_row_made) := ⟨rfl, rfl, rfl, by decide +kernel, rfl, by decide +kernel, by decide +kernel⟩
abbrev N__law_long_row : List Str := ["_law_cell_here", "_law_signs_here", "_law_steps", "_law_k", "_law_mark", "_law_parts", "_law_outside", "_law_j"]
theorem sc__law_long_row : FnScope ["_law_cell_here", "_law_signs_here", "_law_steps", "_law_k", "_law_mark", "_law_parts", "_law_outside", "_law_j"] ["_law_cell_here", "_law_signs_here"] (defScope TX.s__law_long_row) := ⟨rfl, rfl, rfl, by decide +kernel, rfl, by decide +kernel, by decide +kernel⟩
abbrev N__law_with_long : List Str := ["_law_forms", "_law_cell_here", "_law_signs_here"]
theorem sc__law_with_long : FnScope ["_law_forms", "_law_cell_here", "_law_signs_here"] ["_law_forms", "_law_cell_here", "_law_signs_here"] (defScope TX.s__law_with_long) := ⟨rfl, rfl, rfl, by decide +kernel, rfl, by decide +kernel, by decide +kernel⟩
abbrev N__law_filled : List Str := ["_law_part_here", "_law_cell_here", "_law_signs_here", "_law_some", "_law_sign"]
theorem sc__law_filled : FnScope ["_law_part_here", "_law_cell_here", "_law_signs_here", "_law_some", "_law_sign"] ["_law_part_here", "_law_cell_here", "_law_signs_here"] (defScope TX.s__law_filled) := ⟨rfl, rfl, rfl, by decide +kernel, rfl, by decide +kernel, by decide +kernel⟩
abbrev N__law_names : List Str := ["_law_form", "_law_cell_here", "_law_signs_here", "_law_names_here", "_law_k", "_law_step", "_law_mark", "_law_more", "_law_some", "_law_j", "_law_way", "_law_at"]
theorem sc__law_names : FnScope ["_law_form", "_law_cell_here", "_law_signs_here", "_law_names_here", "_law_k", "_law_step", "_law_mark", "_law_more", "_law_some", "_law_j", "_law_way", "_law_at"] ["_law_form", "_law_cell_here", "_law_signs_here"] (defScope TX.s__law_names) := ⟨rfl, rfl, rfl, by decide +kernel, rfl, by decide +kernel, by decide +kernel⟩
abbrev N__law_free : List Str := ["_law_root", "_law_names_here", "_law_folder", "_law_here", "_law_place", "_law_name", "_law_last"]
theorem sc__law_free : FnScope ["_law_root", "_law_names_here", "_law_folder", "_law_here", "_law_place", "_law_name", "_law_last"] ["_law_root", "_law_names_here", "_law_folder"] (defScope TX.s__law_free) := ⟨rfl, rfl, rfl, by decide +kernel, rfl, by decide +kernel, by decide +kernel⟩
abbrev N__law_put_in : List Str := ["_law_root", "_law_names_here", "_law_folder", "_law_here", "_law_name"]
theorem sc__law_put_in : FnScope ["_law_root", "_law_names_here", "_law_folder", "_law_here", "_law_name"] ["_law_root", "_law_names_here", "_law_folder"] (defScope TX.s__law_put_in) := ⟨rfl, rfl, rfl, by decide +kernel, rfl, by decide +kernel, by decide +kernel⟩
abbrev N__law_paths : List Str := ["_law_tree", "_law_ahead", "_law_found", "_law_name", "_law_inner"]
theorem sc__law_paths : FnScope ["_law_tree", "_law_ahead", "_law_found", "_law_name", "_law_inner"] ["_law_tree", "_law_ahead"] (defScope TX.s__law_paths) := ⟨rfl, rfl, rfl, by decide +kernel, rfl, by decide +kernel, by decide +kernel⟩
abbrev N__law_cut : List Str := ["_law_path", "_law_names_here", "_law_name"]
theorem sc__law_cut : FnScope ["_law_path", "_law_names_here", "_law_name"] ["_law_path"] (defScope TX.s__law_cut) := ⟨rfl, rfl, rfl, by decide +kernel, rfl, by decide +kernel, by decide +kernel⟩
abbrev N__law_lists : List Str := ["_law_script", "_law_first", "_law_forms", "_law_signs_here", "_law_found", "_law_k", "_law_cell_here", "_law_names_here", "_law_folder", "_law_rows_here", "_law_name", "_law_j"]
theorem sc__law_lists : FnScope ["_law_script", "_law_first", "_law_forms", "_law_signs_here", "_law_found", "_law_k", "_law_cell_here", "_law_names_here", "_law_folder", "_law_rows_here", "_law_name", "_law_j"] ["_law_script", "_law_first", "_law_forms", "_law_signs_here"] (defScope TX.s__law_lists) := ⟨rfl, rfl, rfl, by decide +kernel, rfl, by decide +kernel, by decide +kernel⟩
abbrev N__law_made_lists : List Str := ["_law_lists_here", "_law_found", "_law_folder", "_law_form"]
theorem sc__law_made_lists : FnScope ["_law_lists_here", "_law_found", "_law_folder", "_law_form"] ["_law_lists_here"] (defScope TX.s__law_made_lists) := ⟨rfl, rfl, rfl, by decide +kernel, rfl, by decide +kernel, by decide +kernel⟩
abbrev N__law_ranked : List Str := ["_law_lists_here", "_law_folder", "_law_many"]
theorem sc__law_ranked : FnScope ["_law_lists_here", "_law_folder", "_law_many"] ["_law_lists_here"] (defScope TX.s__law_ranked) := ⟨rfl, rfl, rfl, by decide +kernel, rfl, by decide +kernel, by decide +kernel⟩
abbrev N__law_wide_tree : List Str := ["_law_script", "_law_forms", "_law_lists_here", "_law_signs_here", "_law_tree", "_law_k", "_law_cell_here", "_law_names_here", "_law_place"]
theorem sc__law_wide_tree : FnScope ["_law_script", "_law_forms", "_law_lists_here", "_law_signs_here", "_law_tree", "_law_k", "_law_cell_here", "_law_names_here", "_law_place"] ["_law_script", "_law_forms", "_law_lists_here", "_law_signs_here"] (defScope TX.s__law_wide_tree) := ⟨rfl, rfl, rfl, by decide +kernel, rfl, by decide +kernel, by decide +kernel⟩
abbrev N_law : List Str := ["_law_script", "_law_signs_here", "_law_forms", "_law_lists_here", "_law_rows_here", "_law_tree", "_law_come", "_law_act", "_law_shunned", "_law_paths_here", "_law_path", "_law_found", "_law_shut", "_law_above", "_law_leaves", "_law_place"]
theorem sc_law : FnScope ["_law_script", "_law_signs_here", "_law_forms", "_law_lists_here", "_law_rows_here", "_law_tree", "_law_come", "_law_act", "_law_shunned", "_law_paths_here", "_law_path", "_law_found", "_law_shut", "_law_above", "_law_leaves", "_law_place"] ["_law_script"] (defScope TX.s_law) := ⟨rfl, rfl, rfl, by decide +kernel, rfl, by decide +kernel, by decide +kernel⟩
end SL
open PySem PySem.Spec PyProof.Rows L2 SL in
local macro_rules | `(tactic| walk_at "rd") => `(tactic| simp only [tVar, tC, tOp, tUn, tCall, tMeI, tMake, tMakN, tMakK, tMakKr, tCB, tCons, tNil, tTup, tLst, tTest, tB, tAnd, tOr, tNot, tAndV, tOrV, tNotV, tOrT, tAndT, tNotT, tIf, tIfS, tSeq, tAsg, gName, tRet, tRetN, tNext, tDrop, tBreak, tCont, tIsN, tNotN, tFld, sFld, tPart, tNoPart, tCKw, tSl,
  rI, rI0, rU, rAddU, rMulU, rEqU, rNeU, rCmp, rInU, rNotInU, rIxU, rSlU, rLenU, rLenW, rJoin, rCount, rListU, rRevU, rSetU, rSortedU, NewSet, NewSorted, tBM, tBM0, SL.tyStr, rTupU, rMaxU, rMinU, rInsert, rPop, rSetL, gSub, iEnumU, rIsiU, rAll, rAny, rIsBo, rNotBo, rIntU, rIadd, rIn, flatV, rAppend, tyV, tAug, rRep, rCat, sDPut, tDGet, tDIn, tDNotIn, tDNewK, tDisp, tPairs, tDGet1, tDGet2, rListD, rDClear, iZip, iU, iRng1, iRng2, iRevR, tRg1, wipe, SL.sameT, Int.zero_add, isRef, scal, Bool.or_true, Bool.true_or, Bool.or_false, Bool.false_or, Bool.or_self,
  L2.start, SL.cxK, SL.cxW, SL.cxP, SL.truBl, SL.truInt, SL.truNon, SL.truStr, SL.lenStr, List.map_cons, List.map_nil, List.length_cons, List.length_nil, List.replicate, List.reverse_cons, List.reverse_nil, List.nil_append, List.cons_append, List.append_nil, List.set_cons_zero, List.set_cons_succ, List.getElem?_cons_zero, List.getElem?_cons_succ, Nat.zero_add, Nat.reduceAdd, Nat.reduceSub, Nat.sub_self, Nat.add_sub_cancel,
  List.cons.injEq, V.int.injEq, V.str.injEq, V.bl.injEq, V.ref.injEq, Option.some.injEq, reduceCtorEq, exists_eq_left', exists_eq_left, exists_eq', exists_eq, exists_and_left, exists_and_right, and_true, true_and, false_and, and_false, false_or, or_false, decide_eq_true_eq, Bool.not_eq_true', decide_eq_false_iff_not, SL.ite_tt, SL.ite_ff, ne_eq, not_true_eq_false, not_false_eq_true, forall_eq, forall_eq', Bool.not_true, Bool.not_false, decide_true, decide_false, SL.le_sz, SL.lt_sz, SL.ifT, SL.ifF, SL.strEq, String.reduceEq, SL.manyOne, SL.manyAny, SL.manyAmong, SL.manyStars, Nat.reduceLeDiff, Nat.reduceLT, Int.reduceLT, Int.reduceLE])

local macro_rules | `(tactic| walk_at "sm") => `(tactic| (first | exact L2.Same.refl _ | assumption | (repeat (first | exact L2.Same.refl _ | assumption | refine L2.Same.trans ?_ (SL.same_new (by assumption))))))
open PySem PySem.Spec PyProof.Rows L2 SL in
local macro_rules | `(tactic| walk_at "rdh") => `(tactic| (simp only [tVar, tC, tOp, tUn, tCall, tMeI, tMake, tMakN, tMakK, tMakKr, tCB, tCons, tNil, tTup, tLst, tTest, tB, tAnd, tOr, tNot, tAndV, tOrV, tNotV, tOrT, tAndT, tNotT, tIf, tIfS, tSeq, tAsg, gName, tRet, tRetN, tNext, tDrop, tBreak, tCont, tIsN, tNotN, tFld, sFld, tPart, tNoPart, tCKw, tSl,
  rI, rI0, rU, rAddU, rMulU, rEqU, rNeU, rCmp, rInU, rNotInU, rIxU, rSlU, rLenU, rLenW, rJoin, rCount, rListU, rRevU, rSetU, rSortedU, NewSet, NewSorted, tBM, tBM0, SL.tyStr, rTupU, rMaxU, rMinU, rInsert, rPop, rSetL, gSub, iEnumU, rIsiU, rAll, rAny, rIsBo, rNotBo, rIntU, rIadd, rIn, flatV, rAppend, tyV, tAug, rRep, rCat, sDPut, tDGet, tDIn, tDNotIn, tDNewK, tDisp, tPairs, tDGet1, tDGet2, rListD, rDClear, iZip, iU, iRng1, iRng2, iRevR, tRg1, wipe, SL.sameT, Int.zero_add, isRef, scal, Bool.or_true, Bool.true_or, Bool.or_false, Bool.false_or, Bool.or_self,
  L2.start, SL.cxK, SL.cxW, SL.cxP, SL.truBl, SL.truInt, SL.truNon, SL.truStr, SL.lenStr, List.map_cons, List.map_nil, List.length_cons, List.length_nil, List.replicate, List.reverse_cons, List.reverse_nil, List.nil_append, List.cons_append, List.append_nil, List.set_cons_zero, List.set_cons_succ, List.getElem?_cons_zero, List.getElem?_cons_succ, Nat.zero_add, Nat.reduceAdd, Nat.reduceSub, Nat.sub_self, Nat.add_sub_cancel,
  List.cons.injEq, V.int.injEq, V.str.injEq, V.bl.injEq, V.ref.injEq, Option.some.injEq, reduceCtorEq, exists_eq_left', exists_eq_left, exists_eq', exists_eq, exists_and_left, exists_and_right, and_true, true_and, false_and, and_false, false_or, or_false, decide_eq_true_eq, Bool.not_eq_true', decide_eq_false_iff_not, SL.ite_tt, SL.ite_ff, ne_eq, not_true_eq_false, not_false_eq_true, forall_eq, forall_eq', Bool.not_true, Bool.not_false, decide_true, decide_false, SL.le_sz, SL.lt_sz, SL.ifT, SL.ifF, SL.strEq, String.reduceEq, SL.manyOne, SL.manyAny, SL.manyAmong, SL.manyStars, Nat.reduceLeDiff, Nat.reduceLT, Int.reduceLT, Int.reduceLE, SL.PartO, SL.lkSign, SL.lkSigns, SL.lkOut, SL.lkParts, SL.lkSteps, SL.lkSpares, SL.lkFolders, SL.pfNil, SL.pfOut, SL.pfSpares, SL.pfFolders, L2.upd_same, L2.upd_upd, HO.ins.injEq, and_assoc, *]))
local macro_rules | `(tactic| walk_at "rdx") => `(tactic| (walk_at "rd"; repeat (refine ⟨_, Or.inr (by assumption), _, rfl, ?_⟩; try walk_at "rd")))
namespace SL
open PySem PySem.Spec PyProof.Rows L2 SX
section
variable {P : Program} {w : World} {K : PySem.W.Frag} {mg : Str → Option Value} {base : Heap}

/-! ### is_sign, the drawn numbers -/
def spIsSign : Sp := fun vs H Q _ => ∃ z, vs = [.str z] ∧ z.length ≤ sizeLine ∧ Q (.bl (decide (∃ c ∈ SIG, z = ⟨#[c]⟩))) H
theorem str_one {z : Str} (h : (z.length : Int) = 1) : ∃ c, z = ⟨#[c]⟩ := by
  obtain ⟨⟨l⟩⟩ := z
  have e : l.length = 1 := by
    have h' : ((l.length : Nat) : Int) = 1 := h
    omega
  match l, e with
  | [c], _ => exact ⟨c, rfl⟩
theorem ok_is_sign (T : Txt K mg) : OkD P w K mg base 1 (fA K "is_sign") ["thing"] [] spIsSign := by
  refine okD T.F_is_sign sc_is_sign (fun _ _ _ _ _ _ us hl => match us, hl with | [_], _ => rfl) ?_ ?_
  · rintro vs H Q E ⟨z, rfl, _⟩
    rfl
  · rintro cdv A outer s H vs Q E hr ⟨z, rfl, hz, q⟩
    refine ⟨_, (pss_one (ps_ret (pe_andK (K := K) (pe_cmpR (o_eq (K := K) (hu64 hr)) (pe_callB (o_lenW (K := K) (w := w)) (by rfl) T.fr_len boot_len (pa_cons (pv 0) pa_nil)) pe_int (nomark _)) (pe_one (pe_cmpR (o_in (K := K) (hu65 hr)) (pv 0) (pe_gstr rfl T.s_SIGNS) (by rfl)))))), ?_⟩
    walk_at "rd"
    rw [sizeLine_eq] at hz
    refine ⟨hz, ite2 (fun h => ?_) (fun h => ?_)⟩
    · obtain ⟨c, rfl⟩ := str_one h
      refine .inl ⟨c, rfl, ?_⟩
      have e : decide (∃ c' ∈ SIG, (⟨#[c]⟩ : Str) = ⟨#[c']⟩) = decide (c ∈ SIG) := by
        refine decide_eq_decide.mpr ⟨fun ⟨c', h1, h2⟩ => ?_, fun h1 => ⟨c, h1, rfl⟩⟩
        injection h2 with h2
        have h3 : c = c' := by simpa using h2
        rw [h3]
        exact h1
      rw [e] at q
      exact q
    · have e : decide (∃ c ∈ SIG, z = ⟨#[c]⟩) = false := decide_eq_false fun ⟨c, _, h2⟩ => h (by rw [h2]; rfl)
      rw [e] at q
      rw [decide_eq_false h]
      exact q
def spCell (K : PySem.W.Frag) : Sp := fun vs H Q _ => ∃ a k, ∃ ns : List Int, vs = [.ref a, .int k] ∧ SqL K H a (ns.map V.int) ∧ ns.length ≤ 63 ∧ 0 ≤ k ∧ k < 64 ∧ ∀ c, Q (.int c) H
theorem ok__law_cell (T : Txt K mg) : OkD P w K mg base 1 (fA K "_law_cell") ["_law_script", "_law_k"] [] (spCell K) := by
  refine okD T.F__law_cell sc__law_cell (fun _ _ _ _ _ _ us hl => match us, hl with | [_, _], _ => rfl) ?_ ?_
  · rintro vs H Q E ⟨a, k, ns, rfl, _⟩
    rfl
  · rintro cdv A outer s H vs Q E hr ⟨a, k, ns, rfl, hs, hn, h0, h1, q⟩
    refine ⟨_, (pss_cons (ps_set (i := 2) sc__law_cell.nd rfl (Or.inl rfl) (pe_mid (pe_ifExp (pt_cmpR o_lt (pv 1) (pe_callB (o_lenW (K := K) (w := w)) (by rfl) T.fr_len boot_len (pa_cons (pv 0) pa_nil)) (nomark _)) (pe_ix (o_ix (K := K)) (pv 0) (pv 1) (fun _ _ => rfl)) pe_int)))
  (pss_cons (ps_set (i := 3) sc__law_cell.nd rfl (Or.inl rfl) (pe_mid (pe_op op_mod (pe_op o_mul (pe_op (o_add (K := K)) (pe_op op_mod (pv 2) pe_int) (pe_op o_mul pe_int (pe_op (o_add (K := K)) (pv 1) pe_int))) pe_int) pe_int)))
  (pss_cons (ps_set (i := 3) sc__law_cell.nd rfl (Or.inl rfl) (pe_mid (pe_op op_mod (pe_op o_mul (pe_op op_mod (pe_op o_mul (pv 3) (pv 3)) pe_int) pe_int) pe_int)))
  (pss_cons (ps_set (i := 4) sc__law_cell.nd rfl (Or.inl rfl) (pe_mid (pe_op (o_add (K := K)) (pe_op o_mul (pe_op op_mod (pe_op op_fdivW (pv 2) pe_int) (pe_op op_pow pe_int pe_int)) pe_int) (pv 3))))
  (pss_one (ps_ret (pe_op (o_add (K := K)) (pe_op o_mul (pv 4) pe_int) (pe_op op_mod (pe_op o_mul (pv 3) (pv 3)) pe_int)))))))), ?_⟩
    have hl : LenV K (V.ref a) H (ns.map V.int).length := .inl ⟨_, hs, rfl⟩
    refine q_mid (fun _ => True) ?_ fun n _ => ?_
    · walk_at "rd"
      refine .inr ⟨_, hl, ite2 (fun hk => ?_) (fun _ => trivial)⟩
      obtain ⟨j, rfl⟩ : ∃ j : Nat, k = (j : Int) := ⟨k.toNat, by omega⟩
      have hj : j < (ns.map V.int).length := by omega
      have hj2 : j < ns.length := by rw [List.length_map] at hj; exact hj
      refine ⟨_, .inl hs, V.int ns[j], atI_nat ?_, _, rfl⟩
      rw [List.getElem?_map, List.getElem?_eq_getElem hj2]
      rfl
    have b : ∀ (x : Int), 0 ≤ x % 2147483647 ∧ x % 2147483647 < 2147483647 := fun x => ⟨Int.emod_nonneg _ (by decide), Int.emod_lt_of_pos _ (by decide)⟩
    have b2 : ∀ (x : Int), 0 ≤ x % 2147483629 ∧ x % 2147483629 < 2147483629 := fun x => ⟨Int.emod_nonneg _ (by decide), Int.emod_lt_of_pos _ (by decide)⟩
    have sm : ∀ (x y : Int), 0 ≤ x → x < 2147483647 → CMul x y := fun x y h1 h2 => .inl ⟨by omega, by omega⟩
    have sm2 : ∀ (x y : Int), 0 ≤ y → y ≤ 2147483647 → CMul x y := fun x y h1 h2 => .inr ⟨by omega, by omega⟩
    refine q_mid (fun m => 0 ≤ m ∧ m < 2147483647) ?_ fun m hm => ?_
    · walk_at "rd"
      exact ⟨sm _ _ (by decide) (by decide), sm2 _ _ (by decide) (by decide), b _⟩
    refine q_mid (fun m => 0 ≤ m ∧ m < 2147483647) ?_ fun m2 hm2 => ?_
    · walk_at "rd"
      exact ⟨sm _ _ hm.1 hm.2, sm2 _ _ (by decide) (by decide), b _⟩
    refine q_mid (fun _ => True) ?_ fun hgh _ => ?_
    · walk_at "rd"
      exact ⟨⟨by decide, by decide⟩, ⟨by decide, by decide, by decide⟩, by decide, sm2 _ _ (by decide) (by decide)⟩
    walk_at "rd"
    exact ⟨sm2 _ _ (by decide) (by decide), sm _ _ hm2.1 hm2.2, q _⟩
/-- four signs -/
def SignV (v : V) : Prop := ∃ c ∈ SIG, v = .str ⟨#[c]⟩
/-- the sign at a place -/
def sgAt (i : Int) : V := .str (S [SIG.getD i.toNat 0])
theorem sig_get {i : Int} (h0 : 0 ≤ i) (h1 : i < 39) : atI SIG i = some (SIG.getD i.toNat 0) ∧ SIG.getD i.toNat 0 ∈ SIG := by
  obtain ⟨j, rfl⟩ : ∃ j : Nat, i = (j : Int) := ⟨i.toNat, by omega⟩
  have hj : j < SIG.length := by rw [sig_len]; omega
  have e : SIG.getD (j : Int).toNat 0 = SIG[j] := by
    rw [Int.toNat_natCast, List.getD_eq_getElem?_getD, List.getElem?_eq_getElem hj]
    rfl
  rw [e]
  exact ⟨atI_nat (List.getElem?_eq_getElem hj), List.getElem_mem hj⟩
theorem sgAt_ne {i j : Int} (h0 : 0 ≤ i) (h1 : i < 39) (g0 : 0 ≤ j) (g1 : j < 39) (h : i ≠ j) : sgAt i ≠ sgAt j := by
  intro e
  obtain ⟨a, rfl⟩ : ∃ a : Nat, i = (a : Int) := ⟨i.toNat, by omega⟩
  obtain ⟨b, rfl⟩ : ∃ b : Nat, j = (b : Int) := ⟨j.toNat, by omega⟩
  have ha : a < SIG.length := by rw [sig_len]; omega
  have hb : b < SIG.length := by rw [sig_len]; omega
  unfold sgAt at e
  rw [Int.toNat_natCast, Int.toNat_natCast, List.getD_eq_getElem?_getD, List.getD_eq_getElem?_getD, List.getElem?_eq_getElem ha, List.getElem?_eq_getElem hb] at e
  have e2 := S1_inj (V.str.inj e)
  rcases Nat.lt_trichotomy a b with q | q | q
  · have := List.pairwise_iff_getElem.mp sig_up a b ha hb q
    have e3 : SIG[a] = SIG[b] := e2
    omega
  · exact h (by rw [q])
  · have := List.pairwise_iff_getElem.mp sig_up b a hb ha q
    have e3 : SIG[a] = SIG[b] := e2
    omega
def spSigns : Sp := fun vs H Q _ => ∃ c, vs = [.int c] ∧ ∀ p l H', l.length = 4 → l.Nodup → (∀ v ∈ l, SignV v) → H p = none → Same H H' → H' p = some (.lst l) → Q (.ref p) H'
theorem ok__law_signs (T : Txt K mg) : OkD P w K mg base 1 (fA K "_law_signs") ["_law_cell_here"] [] spSigns := by
  refine okD T.F__law_signs sc__law_signs (fun _ _ _ _ _ _ us hl => match us, hl with | [_], _ => rfl) ?_ ?_
  · rintro vs H Q E ⟨c, rfl, _⟩
    rfl
  · rintro cdv A outer s H vs Q E hr ⟨c, rfl, q⟩
    refine ⟨_, (pss_cons (ps_set (i := 1) sc__law_signs.nd rfl (Or.inr rfl) pe_str)
  (pss_cons (ps_set (i := 2) sc__law_signs.nd rfl (Or.inr rfl) (pe_op o_mul pe_int (pe_op (o_add (K := K)) pe_int (pe_op op_mod (pe_op op_fdivW (pv 0) pe_int) pe_int))))
  (pss_one (ps_ret (pe_lc (own := [("_law_k", 3)]) (g := (gName 3)) (tt := tYes) rfl sc__law_signs.nd (pi_mid (pi_range1 rfl T.fr_range (pa_cons pe_int pa_nil))) (blkOk_by (N := N__law_signs) (sc := defScope TX.s__law_signs) (by decide +kernel)) (fun _ _ _ _ _ => (pg_name (i := 3) sc__law_signs.nd rfl (Or.inl rfl))) (fun _ _ _ _ _ => pts_nil) (fun _ _ _ _ _ => (pe_mid (pe_ix (o_ix (K := K)) (pv 1) (pe_op op_mod (pe_op (o_add (K := K)) (pv 0) (pe_op o_mul (pv 2) (pv 3))) pe_int) (fun _ _ => rfl))))))))), ?_⟩
    walk_at "rd"
    refine ⟨⟨by decide, by decide⟩, .inl ⟨by decide, by decide⟩, ?_⟩
    refine lc_mid (J0 := Itr 0 4) (H0 := H) ?_ walk_range (by decide) (fun k acc _ => acc = (List.range k).map fun (j : Nat) => sgAt ((c + 7 * (1 + c / 39 % 2) * (j : Int)) % 39)) (fun _ _ _ _ _ h => h) rfl (fun _ _ => trivial) (fun _ _ _ _ y => y_fn y) (fun _ => rfl) ?_ ?_
    · walk_at "rd"
      exact ⟨by decide, by decide, rfl⟩
    · rintro k x acc H' H'' hk sm hc ⟨rfl, rfl⟩
      walk_at "rd"
      refine ⟨.inl ⟨by omega, by omega⟩, by decide +kernel, ?_⟩
      have hg := sig_get (i := (c + 7 * (1 + c / 39 % 2) * k) % 39) (Int.emod_nonneg _ (by decide)) (Int.emod_lt_of_pos _ (by decide))
      refine ⟨_, hg.1, ?_⟩
      rw [List.range_succ, List.map_append, ← hc]
      rfl
    · intro p acc H' hp sm hD hl hc
      have b : ∀ x : Int, 0 ≤ x % 39 ∧ x % 39 < 39 := fun x => ⟨Int.emod_nonneg _ (by decide), Int.emod_lt_of_pos _ (by decide)⟩
      have hx : c / 39 % 2 = 0 ∨ c / 39 % 2 = 1 := by omega
      have hc4 : acc = [sgAt ((c + 7 * (1 + c / 39 % 2) * 0) % 39), sgAt ((c + 7 * (1 + c / 39 % 2) * 1) % 39), sgAt ((c + 7 * (1 + c / 39 % 2) * 2) % 39), sgAt ((c + 7 * (1 + c / 39 % 2) * 3) % 39)] := hc
      refine q p acc H' hl ?_ ?_ hp sm hD
      · rw [hc4]
        have ne : ∀ x y : Int, x % 39 ≠ y % 39 → sgAt (x % 39) ≠ sgAt (y % 39) := fun x y h => sgAt_ne (b x).1 (b x).2 (b y).1 (b y).2 h
        rcases hx with h | h <;> rw [h] <;>
          refine List.nodup_cons.mpr ⟨?_, List.nodup_cons.mpr ⟨?_, List.nodup_cons.mpr ⟨?_, List.nodup_cons.mpr ⟨List.not_mem_nil, .nil⟩⟩⟩⟩ <;>
          simp only [List.mem_cons, List.not_mem_nil, or_false, not_or] <;>
          (try refine ⟨ne _ _ (by omega), ne _ _ (by omega), ne _ _ (by omega)⟩) <;> (try refine ⟨ne _ _ (by omega), ne _ _ (by omega)⟩) <;> exact ne _ _ (by omega)
      · rw [hc4]
        have s : ∀ x : Int, SignV (sgAt (x % 39)) := fun x => ⟨_, (sig_get (b x).1 (b x).2).2, rfl⟩
        intro v hv
        simp only [List.mem_cons, List.not_mem_nil, or_false] at hv
        rcases hv with rfl | rfl | rfl | rfl <;> exact s _

/-! ### lists of signs -/
theorem signs_list : ∀ {ws : List V}, (∀ v ∈ ws, SignV v) → ∃ cs : List Nat, ws = (cs.map fun c => S [c]).map V.str ∧ ∀ c ∈ cs, c ∈ SIG
  | [], _ => ⟨[], rfl, fun _ h => nomatch h⟩
  | v :: r, h => by
    obtain ⟨c, hc, rfl⟩ := h v List.mem_cons_self
    obtain ⟨cs, rfl, hs⟩ := signs_list (ws := r) fun u hu => h u (List.mem_cons_of_mem _ hu)
    exact ⟨c :: cs, rfl, fun d hd => (List.mem_cons.mp hd).elim (fun e => e ▸ hc) (hs d)⟩
theorem q_next {u : TS} {D : Ends} {σ : L2.St} {H : Hp} (h : u D σ H) : tSeq tNext u D σ H := h

def spPart (K : PySem.W.Frag) : Sp := fun vs H Q _ => ∃ c p ws, vs = [.int c, .ref p] ∧ SqL K H p ws ∧ ws.length = 4 ∧ (∀ v ∈ ws, SignV v) ∧ ∀ v f H', PF.Ok f → PF.Low f → Same H H' → Dp K H' v f.d → Q v H'
theorem at4 {ws : List V} (hl : ws.length = 4) (hw : ∀ v ∈ ws, SignV v) (i : Int) : ∃ c ∈ SIG, atI ws (i % 4) = some (.str (S [c])) := by
  have h0 : 0 ≤ i % 4 := Int.emod_nonneg _ (by decide)
  have h1 : i % 4 < 4 := Int.emod_lt_of_pos _ (by decide)
  obtain ⟨j, hj⟩ : ∃ j : Nat, i % 4 = (j : Int) := ⟨(i % 4).toNat, by omega⟩
  have hj2 : j < ws.length := by omega
  obtain ⟨c, hc, e⟩ := hw ws[j] (List.getElem_mem hj2)
  refine ⟨c, hc, ?_⟩
  rw [hj]
  refine atI_nat ?_
  rw [List.getElem?_eq_getElem hj2, e]
theorem at5 {a b c d e : V} {i : Int} {Q : V → Prop} (h0 : 0 ≤ i) (h1 : i < 5) (h : Q a ∧ Q b ∧ Q c ∧ Q d ∧ Q e) : ∃ v, atI [a, b, c, d, e] i = some v ∧ Q v := by
  have : i = 0 ∨ i = 1 ∨ i = 2 ∨ i = 3 ∨ i = 4 := by omega
  rcases this with rfl | rfl | rfl | rfl | rfl
  · exact ⟨a, rfl, h.1⟩
  · exact ⟨b, rfl, h.2.1⟩
  · exact ⟨c, rfl, h.2.2.1⟩
  · exact ⟨d, rfl, h.2.2.2.1⟩
  · exact ⟨e, rfl, h.2.2.2.2⟩
theorem ok__law_part (T : Txt K mg) : OkD P w K mg base 1 (fA K "_law_part") ["_law_cell_here", "_law_signs_here"] [] (spPart K) := by
  refine okD T.F__law_part sc__law_part (fun _ _ _ _ _ _ us hl => match us, hl with | [_, _], _ => rfl) ?_ ?_
  · rintro vs H Q E ⟨c, p, ws, rfl, _⟩
    rfl
  · rintro cdv A outer s H vs Q E hr ⟨c, p, ws, rfl, hs, hl, hw, q⟩
    refine ⟨_, (pss_cons (ps_set (i := 2) sc__law_part.nd rfl (Or.inl rfl) (pe_op op_mod (pv 0) pe_int))
  (pss_cons (ps_set (i := 3) sc__law_part.nd rfl (Or.inl rfl) (pe_ix (o_ix (K := K)) (pv 1) (pe_op op_mod (pe_op op_fdivW (pv 0) pe_int) pe_int) (fun _ _ => rfl)))
  (pss_cons (ps_set (i := 4) sc__law_part.nd rfl (Or.inl rfl) (pe_mid (pe_bmK (K := K) PySem.F.plainAttrs_str PySem.F.slot_str_join PySem.F.type_str_join (mo_join (K := K)) pe_str (pa_cons (pe_callB (o_sorted (K := K) (w := w) rfl) (by rfl) T.fr_sorted (by decide +kernel) (pa_cons (pe_callTy (o_set (K := K) (w := w) rfl) (by rfl) T.fr_set (by decide +kernel) (pa_cons (pe_lst (pa_cons (pv 3) (pa_cons (pe_ix (o_ix (K := K)) (pv 1) (pe_op op_mod (pe_op op_fdivW (pv 0) pe_int) pe_int) (fun _ _ => rfl)) pa_nil))) pa_nil)) pa_nil)) pa_nil))))
  (pss_cons (ps_if (pt_cmpR o_lt (pv 2) pe_int (nomark _)) (pss_one (ps_ret (pe_tup (pa_cons pe_str (pa_cons (pv 3) pa_nil))))) pss_nil)
  (pss_one (ps_ret (pe_ix (o_ix (K := K)) (pe_lst (pa_cons (pe_tup (pa_cons pe_str pa_nil)) (pa_cons (pe_tup (pa_cons pe_str (pa_cons (pv 4) (pa_cons pe_bl pa_nil)))) (pa_cons (pe_tup (pa_cons pe_str (pa_cons (pv 4) (pa_cons pe_bl pa_nil)))) (pa_cons (pe_tup (pa_cons pe_str pa_nil)) (pa_cons (pe_tup (pa_cons pe_str pa_nil)) pa_nil)))))) (pe_op op_sub (pv 2) pe_int) (fun _ _ => rfl)))))))), ?_⟩
    obtain ⟨c1, hc1, e1⟩ := at4 hl hw (c / 11)
    obtain ⟨c2, hc2, e2⟩ := at4 hl hw (c / 44)
    walk_at "rd"
    refine ⟨⟨by decide, by decide⟩, ws, .inl hs, _, e1, ?_⟩
    refine mid_of (fun v H' => ∃ l, (SigSet l ∧ l.length ≤ 2) ∧ v = .str (S l) ∧ Same H H') ?_ ?_
    · walk_at "rd"
      refine ⟨⟨by decide, by decide⟩, ws, .inl hs, _, e2, fun p1 hp1 => ⟨[S [c1], S [c2]], .inl (.inl upd_same), (by show (2 : Nat) < 1000; decide), fun p2 zs hp2 nd hz => .inl ⟨zs, upd_same, ?_, fun ys p3 pm so hp3 => ?_⟩⟩⟩
      · have e : zs.length ≤ 2 := str_nd_len zs [S [c1], S [c2]] nd fun x hx => (hz x).mp hx
        exact Nat.lt_of_le_of_lt e (by decide)
      · obtain ⟨cs, rfl, up, mem⟩ := sorted_signs pm so nd fun z hz' => by
          rcases List.mem_cons.mp ((hz z).mp hz') with rfl | h
          · exact ⟨_, rfl⟩
          · exact ⟨c2, List.mem_singleton.mp h⟩
        have sg : ∀ c ∈ cs, c ∈ SIG := fun c hc => by
          rcases List.mem_cons.mp ((hz _).mp ((mem c).mp hc)) with h | h
          · rw [S1_inj h]; exact hc1
          · rw [S1_inj (List.mem_singleton.mp h)]; exact hc2
        have ne : cs ≠ [] := fun e => by
          have h := (mem c1).mpr ((hz _).mpr List.mem_cons_self)
          rw [e] at h
          cases h
        have ok : SigSet cs := ⟨ne, up, sg⟩
        have l2 : zs.length ≤ 2 := str_nd_len zs [S [c1], S [c2]] nd fun x hx => (hz x).mp hx
        have l3 : cs.length ≤ 2 := by
          have e := pm.length_eq
          rw [List.length_map] at e
          omega
        refine ⟨_, .inl (.inl (.inl upd_same)), ?_, cs, ⟨ok, by omega⟩, join_chars cs, by walk_at "sm"⟩
        have e := len_chars cs
        have e2 := ok.len
        rw [show (Str.ofString "") = S [] from rfl, e]
        omega
    · rintro _ H1 ⟨l, hl, rfl, sm⟩
      refine ite2 (fun h6 => ?_) fun h6 => ?_
      · intro p1 hp1
        exact q _ (.one c1) _ hc1 trivial (by walk_at "sm") (.tup (.inl (.inl upd_same)) (.cons (.str _) (.cons (.str _) .nil)))
      · intro p1 hp1 p2 hp2 p3 hp3 p4 hp4 p5 hp5 p6 hp6
        have h0 : 0 ≤ c % 11 := Int.emod_nonneg _ (by decide)
        have h1 : c % 11 < 11 := Int.emod_lt_of_pos _ (by decide)
        refine ⟨_, .inl (.inl (.inl upd_same)), at5 (by omega) (by omega) ?_⟩
        refine ⟨q _ .any _ trivial trivial (by walk_at "sm") ?_, q _ (.among l false) _ ⟨hl.1, by omega⟩ trivial (by walk_at "sm") ?_, q _ (.among l true) _ ⟨hl.1, by omega⟩ (Nat.le_trans hl.2 (by decide)) (by walk_at "sm") ?_, q _ .stars _ trivial trivial (by walk_at "sm") ?_, q _ .stars _ trivial trivial (by walk_at "sm") ?_⟩
        · exact dp_mono (by walk_at "sm") _ _ (.tup (.inl (.inl (upd_same (H := H1) (a := p1)))) (.cons (.str _) .nil))
        · exact dp_mono (by walk_at "sm") _ _ (.tup (.inl (.inl (upd_same (a := p2)))) (.cons (.str _) (.cons (.str _) (.cons (.bl _) .nil))))
        · exact dp_mono (by walk_at "sm") _ _ (.tup (.inl (.inl (upd_same (a := p3)))) (.cons (.str _) (.cons (.str _) (.cons (.bl _) .nil))))
        · exact dp_mono (by walk_at "sm") _ _ (.tup (.inl (.inl (upd_same (a := p4)))) (.cons (.str _) .nil))
        · exact dp_mono (by walk_at "sm") _ _ (.tup (.inl (.inl (upd_same (a := p5)))) (.cons (.str _) .nil))

/-! ### the parts -/
/-- all but p stays -/
def But (p : Addr) (H H' : Hp) : Prop := ∀ a o, a ≠ p → H a = some o → H' a = some o
theorem but_same {H H' : Hp} {p dx : Addr} {o u : HO} (h0 : H p = none) (h1 : H dx = none) (b : But p (upd (upd H dx u) p o) H') : Same H H' := fun a v e => by
  have n0 : a ≠ p := ne_of_none e h0
  refine b a v n0 ?_
  rw [upd_ne n0, upd_ne (ne_of_none e h1)]
  exact e
theorem But.upd {H : Hp} {p : Addr} {o : HO} : But p H (upd H p o) := fun a u n e => by rw [upd_ne n]; exact e
theorem But.same {H H1 H2 : Hp} {p : Addr} (s : Same H H1) (b : But p H1 H2) : But p H H2 := fun a o n e => b a o n (s a o e)
theorem OkD.mono {k j : Nat} {f : Addr} {ps : List Str} {dvs : List V} {sp : Sp} (h : OkD P w K mg base k f ps dvs sp) (e : k ≤ j) : OkD P w K mg base j f ps dvs sp := by
  obtain ⟨fd, ds, F, r⟩ := h
  exact ⟨fd, ds, F.mono e, r⟩
def spFits (K : PySem.W.Frag) (f : PF) : Sp := fun vs H Q _ => ∃ v c, vs = [v, .str (S [c])] ∧ PartV K f v H ∧ Q (.bl (f.fits c)) H
def spMany (K : PySem.W.Frag) (f : PF) : Sp := fun vs H Q _ => ∃ v, vs = [v] ∧ PartV K f v H ∧ Q (.bl f.many) H
theorem ok_Any_fits (T : Txt K mg) : OkD P w K mg base 1 (mA K "Any" "fits") ["self", "sign"] [] (spFits K .any) := by
  refine okD T.F_Any_fits sc_Part_fits (fun _ _ _ _ _ _ us hl => match us, hl with | [_, _], _ => rfl) ?_ ?_
  · rintro vs H Q E ⟨v, c, rfl, _⟩
    rfl
  · rintro cdv A outer s H vs Q E hr ⟨v, c, rfl, h, q⟩
    refine ⟨_, (pss_one (ps_ret pe_bl)), ?_⟩
    walk_at "rd"
    exact q
theorem ok_Stars_fits (T : Txt K mg) : OkD P w K mg base 1 (mA K "Stars" "fits") ["self", "sign"] [] (spFits K .stars) := by
  refine okD T.F_Stars_fits sc_Part_fits (fun _ _ _ _ _ _ us hl => match us, hl with | [_, _], _ => rfl) ?_ ?_
  · rintro vs H Q E ⟨v, c, rfl, _⟩
    rfl
  · rintro cdv A outer s H vs Q E hr ⟨v, c, rfl, h, q⟩
    refine ⟨_, (pss_one (ps_ret pe_bl)), ?_⟩
    walk_at "rd"
    exact q
theorem ok_One_fits {d : Nat} (T : Txt K mg) : OkD P w K mg base 1 (mA K "One" "fits") ["self", "sign"] [] (spFits K (.one d)) := by
  refine okD T.F_One_fits sc_One_fits (fun _ _ _ _ _ _ us hl => match us, hl with | [_, _], _ => rfl) ?_ ?_
  · rintro vs H Q E ⟨v, c, rfl, _⟩
    rfl
  · rintro cdv A outer s H vs Q E hr ⟨v, c, rfl, ⟨p, dx, rfl, hp⟩, q⟩
    refine ⟨_, (pss_one (ps_ret (pe_cmpR (o_eq (K := K) (hu64 hr)) (pv 1) (pe_fldK (K := K) (pv 0) rfl) (nomark _)))), ?_⟩
    have tobj := T.obj
    walk_at "rdh"
    have e : decide (S [c] = S [d]) = decide (c = d) := decide_eq_decide.mpr ⟨S1_inj, fun h => by rw [h]⟩
    rw [e]
    exact q
theorem b_ne (a b : Bool) : (!decide (a = b)) = (a != b) := by cases a <;> cases b <;> rfl
theorem ok_Among_fits {l : List Nat} {o : Bool} (T : Txt K mg) : OkD P w K mg base 1 (mA K "Among" "fits") ["self", "sign"] [] (spFits K (.among l o)) := by
  refine okD T.F_Among_fits sc_Among_fits (fun _ _ _ _ _ _ us hl => match us, hl with | [_, _], _ => rfl) ?_ ?_
  · rintro vs H Q E ⟨v, c, rfl, _⟩
    rfl
  · rintro cdv A outer s H vs Q E hr ⟨v, c, rfl, ⟨p, dx, rfl, hp⟩, q⟩
    refine ⟨_, (pss_one (ps_ret (pe_cmpR (o_ne (K := K) (hu64 hr)) (pe_cmpR (o_in (K := K) (hu65 hr)) (pv 1) (pe_fldK (K := K) (pv 0) rfl) (by rfl)) (pe_fldK (K := K) (pv 0) rfl) (nomark _)))), ?_⟩
    have tobj := T.obj
    walk_at "rdh"
    refine .inl ⟨c, rfl, ?_⟩
    rw [b_ne]
    exact q
theorem ok_Any_many (T : Txt K mg) : OkD P w K mg base 1 (mA K "Any" "many") ["self"] [] (spMany K .any) := by
  refine okD T.F_Any_many sc_Part_many (fun _ _ _ _ _ _ us hl => match us, hl with | [_], _ => rfl) ?_ ?_
  · rintro vs H Q E ⟨v, rfl, _⟩
    rfl
  · rintro cdv A outer s H vs Q E hr ⟨v, rfl, h, q⟩
    refine ⟨_, (pss_one (ps_ret pe_bl)), ?_⟩
    walk_at "rd"
    exact q
theorem ok_One_many {d : Nat} (T : Txt K mg) : OkD P w K mg base 1 (mA K "One" "many") ["self"] [] (spMany K (.one d)) := by
  refine okD T.F_One_many sc_Part_many (fun _ _ _ _ _ _ us hl => match us, hl with | [_], _ => rfl) ?_ ?_
  · rintro vs H Q E ⟨v, rfl, _⟩
    rfl
  · rintro cdv A outer s H vs Q E hr ⟨v, rfl, h, q⟩
    refine ⟨_, (pss_one (ps_ret pe_bl)), ?_⟩
    walk_at "rd"
    exact q
theorem ok_Among_many {l : List Nat} {o : Bool} (T : Txt K mg) : OkD P w K mg base 1 (mA K "Among" "many") ["self"] [] (spMany K (.among l o)) := by
  refine okD T.F_Among_many sc_Part_many (fun _ _ _ _ _ _ us hl => match us, hl with | [_], _ => rfl) ?_ ?_
  · rintro vs H Q E ⟨v, rfl, _⟩
    rfl
  · rintro cdv A outer s H vs Q E hr ⟨v, rfl, h, q⟩
    refine ⟨_, (pss_one (ps_ret pe_bl)), ?_⟩
    walk_at "rd"
    exact q
theorem ok_Stars_many (T : Txt K mg) : OkD P w K mg base 1 (mA K "Stars" "many") ["self"] [] (spMany K .stars) := by
  refine okD T.F_Stars_many sc_Stars_many (fun _ _ _ _ _ _ us hl => match us, hl with | [_], _ => rfl) ?_ ?_
  · rintro vs H Q E ⟨v, rfl, _⟩
    rfl
  · rintro cdv A outer s H vs Q E hr ⟨v, rfl, h, q⟩
    refine ⟨_, (pss_one (ps_ret pe_bl)), ?_⟩
    walk_at "rd"
    exact q
section
variable {X : Cx}
theorem md_fits (T : Txt K mg) (h1 : X.prog = P := by rfl) (h2 : X.w = w := by rfl) (h3 : X.K = K := by rfl) (h4 : X.mg = mg := by rfl) (h5 : X.base = base := by rfl) : MetD X 1 "fits" (PartV K) (spFits K) := by
  subst h1 h2 h3 h4 h5
  rintro i x H ⟨p, dx, rfl, hp⟩
  cases i with
  | one c => exact ⟨p, _, dx, _, _, _, rfl, hp, T.c_One, T.m_One_fits, rfl, (ok_One_fits T).mono (by decide)⟩
  | any => exact ⟨p, _, dx, _, _, _, rfl, hp, T.c_Any, T.m_Any_fits, rfl, (ok_Any_fits T).mono (by decide)⟩
  | among l o => exact ⟨p, _, dx, _, _, _, rfl, hp, T.c_Among, T.m_Among_fits, rfl, (ok_Among_fits T).mono (by decide)⟩
  | stars => exact ⟨p, _, dx, _, _, _, rfl, hp, T.c_Stars, T.m_Stars_fits, rfl, (ok_Stars_fits T).mono (by decide)⟩
theorem md_many (T : Txt K mg) (h1 : X.prog = P := by rfl) (h2 : X.w = w := by rfl) (h3 : X.K = K := by rfl) (h4 : X.mg = mg := by rfl) (h5 : X.base = base := by rfl) : MetD X 1 "many" (PartV K) (spMany K) := by
  subst h1 h2 h3 h4 h5
  rintro i x H ⟨p, dx, rfl, hp⟩
  cases i with
  | one c => exact ⟨p, _, dx, _, _, _, rfl, hp, T.c_One, T.m_One_many, rfl, (ok_One_many T).mono (by decide)⟩
  | any => exact ⟨p, _, dx, _, _, _, rfl, hp, T.c_Any, T.m_Any_many, rfl, (ok_Any_many T).mono (by decide)⟩
  | among l o => exact ⟨p, _, dx, _, _, _, rfl, hp, T.c_Among, T.m_Among_many, rfl, (ok_Among_many T).mono (by decide)⟩
  | stars => exact ⟨p, _, dx, _, _, _, rfl, hp, T.c_Stars, T.m_Stars_many, rfl, (ok_Stars_many T).mono (by decide)⟩
end
/-! ### what parts tell -/
section
variable {X : Cx}
end
/-! ### the parts made -/
def spOne (K : PySem.W.Frag) : Sp := fun vs H Q E => ∃ p dx z, vs = [.ref p, .str z] ∧ H p = some (.ins (fA K "One") dx []) ∧ z.length ≤ 1000 ∧
  (∀ c H', c ∈ SIG → z = S [c] → H' p = some (PartO K dx (.one c)) → But p H H' → Q .non H') ∧ ((¬ ∃ c ∈ SIG, z = S [c]) → E (.ref (fA K "NoPart")) none H)
theorem ok_One___init__ (T : Txt K mg) : OkD P w K mg base 2 (mA K "One" "__init__") ["self", "sign"] [] (spOne K) := by
  refine okD T.F_One___init__ sc_One___init__ (fun _ _ _ _ _ _ us hl => match us, hl with | [_, _], _ => rfl) ?_ ?_
  · rintro vs H Q E ⟨p, dx, z, rfl, _⟩
    rfl
  · rintro cdv A outer s H vs Q E hr ⟨p, dx, z, rfl, hp, hz, q1, q2⟩
    refine ⟨_, (pss_cons (ps_if (pt_not (pt_tru (K := K) (pe_cal (ok_is_sign T) (hr.mono (by decide)) rfl T.g_is_sign (pasE (takes_of rfl rfl rfl rfl) (fun _ _ _ _ h => h)) (pa_cons (pv 1) pa_nil)) (by intro _; rfl))) (pss_one (ps_raise rfl (takes_of rfl rfl rfl rfl) (pmk_own PySem.F.excBase_ValueError T.x_NoPart.1 T.g_NoPart T.x_NoPart.2.1 (raises_own T.x_NoPart.2.2.1 T.x_NoPart.2.2.2) rfl))) pss_nil)
  (pss_one (ps_fld (pv 0) (pv 1) rfl))), ?_⟩
    have tobj := T.obj
    walk_at "rdh"
    refine ⟨z, rfl, by rw [sizeLine_eq]; omega, ?_⟩
    walk_at "rdh"
    refine ite2 (fun h => ?_) fun h => ?_
    · exact q2 h
    · obtain ⟨c, hc, rfl⟩ := Classical.not_not.mp h
      exact q1 c _ hc rfl upd_same But.upd
def spAmong (K : PySem.W.Frag) : Sp := fun vs H Q E => ∃ p dx z o, vs = [.ref p, .str z, .bl o] ∧ H p = some (.ins (fA K "Among") dx []) ∧ z.length < 1000 ∧
  (∀ l H', SigSet l → z.cps.toList.Perm l → H' p = some (PartO K dx (.among l o)) → But p H H' → Q .non H') ∧ ((¬ ∃ l, SigSet l ∧ z.cps.toList.Perm l) → ∀ H', Same H H' → E (.ref (fA K "NoPart")) none H')
theorem bd_Among___init__ (T : Txt K mg) : BodyQ P w K mg base 1 (mA K "Among" "__init__") "Among.__init__" (defBody TX.s_Among___init__) (defScope TX.s_Among___init__) N_Among___init__ (spAmong K) := by
  rintro cdv A outer s H vs Q E hr ⟨p, dx, z, o, rfl, hp, hz, q1, q2⟩
  refine ⟨_, (pss_cons (ps_if (pt_mid (PW.pt (pw_or (pt_cmpR (o_eq (K := K) (hu64 hr)) (pv 1) pe_str (nomark _)) (pw_or (pt_cmpR o_lt (pe_callB (o_lenW (K := K) (w := w)) (by rfl) T.fr_len boot_len (pa_cons (pe_callTy (o_set (K := K) (w := w) rfl) (by rfl) T.fr_set (by decide +kernel) (pa_cons (pv 1) pa_nil)) pa_nil)) (pe_callB (o_lenW (K := K) (w := w)) (by rfl) T.fr_len boot_len (pa_cons (pv 1) pa_nil)) (nomark _)) (pw_or1 (pt_not (pt_tru (K := K) (pe_callB (o_all (K := K) rfl) (by rfl) T.fr_all (by decide +kernel) (pa_cons (pe_lc (own := [("sign", 3)]) (g := (gName 3)) (tt := tYes) rfl sc_Among___init__.nd (pi_mid (o_it (K := K) rfl (pv 1))) (blkOk_by (N := N_Among___init__) (sc := defScope TX.s_Among___init__) (by decide +kernel)) (fun _ _ _ _ _ => (pg_name (i := 3) sc_Among___init__.nd rfl (Or.inl rfl))) (fun _ _ _ _ _ => pts_nil) (fun _ _ _ _ _ => (pe_mid (pe_cal (ok_is_sign T) (hr.mono (by decide)) rfl T.g_is_sign pasN (pa_cons (pv 3) pa_nil))))) pa_nil)) (by intro _; rfl)))))))) (pss_one (ps_raise rfl (takes_of rfl rfl rfl rfl) (pmk_own PySem.F.excBase_ValueError T.x_NoPart.1 T.g_NoPart T.x_NoPart.2.1 (raises_own T.x_NoPart.2.2.1 T.x_NoPart.2.2.2) rfl))) pss_nil)
  (pss_cons (ps_fld (pv 0) (pe_mid (pe_bmK (K := K) PySem.F.plainAttrs_str PySem.F.slot_str_join PySem.F.type_str_join (mo_join (K := K)) pe_str (pa_cons (pe_callB (o_sorted (K := K) (w := w) rfl) (by rfl) T.fr_sorted (by decide +kernel) (pa_cons (pv 1) pa_nil)) pa_nil))) rfl)
  (pss_one (ps_fld (pv 0) (pv 2) rfl)))), ?_⟩
  have tobj := T.obj
  refine q_if (fun b H1 => Same H H1 ∧ (b = true ↔ ¬ Good z)) ?_ (fun H1 ⟨s1, e1⟩ => ?_) fun H1 ⟨s1, e1⟩ => ?_
  · walk_at "rd"
    refine ite2 (fun h => ?_) fun h => ?_
    · exact ⟨fun _ g => (good_iff.mp g).1 h, fun _ => trivial⟩
    have hch : (chars z).length = z.length := by unfold chars; rw [List.length_map, Array.length_toList]; rfl
    refine ⟨by rw [hch]; exact hz, fun a l ha nd hm => .inl ⟨l, upd_same, by omega, ?_⟩⟩
    have sa := same_new (o := SetS w a l) ha
    have el : ((l.length : Int) < (z.length : Int)) = ¬ (chars z).Nodup := by
      rw [← set_len nd hm, hch]
      exact propext Int.ofNat_lt
    refine ite2 (fun hn => ?_) fun hn => ?_
    · exact ⟨sa, fun _ g => (el ▸ hn) (good_iff.mp g).2.1, fun _ => trivial⟩
    rw [el] at hn
    refine lc_text (z := z) (H0 := upd H a (SetS w a l)) (fun c => .bl (decide (c ∈ SIG))) ?_ (by omega) (fun _ => rfl) ?_ ?_
    · walk_at "rd"
    · intro c H' hc s2
      walk_at "rd"
      refine ⟨⟨#[c]⟩, rfl, (by rw [sizeLine_eq]; show 1 ≤ 16777216; decide), ?_⟩
      walk_at "rd"
      refine decide_eq_decide.mpr ⟨fun ⟨d, hd, e⟩ => ?_, fun hd => ⟨c, hd, rfl⟩⟩
      rw [S1_inj e]
      exact hd
    · intro p' H' hp' s2 hH'
      walk_at "rd"
      refine ⟨z.cps.toList.map fun c => decide (c ∈ SIG), .inl (.inl (by rw [hH', List.map_map]; rfl)), ?_⟩
      refine ⟨sa.trans s2, ?_⟩
      have e : (z.cps.toList.map fun c => decide (c ∈ SIG)).all id = decide (∀ c ∈ z.cps.toList, c ∈ SIG) := by
        rw [List.all_map]
        refine Bool.eq_iff_iff.mpr ?_
        rw [List.all_eq_true, decide_eq_true_eq]
        exact ⟨fun h c hc => of_decide_eq_true (h c hc), fun h c hc => decide_eq_true (h c hc)⟩
      rw [e]
      rw [decide_eq_false_iff_not]
      exact ⟨fun hs g => hs (good_iff.mp g).2.2, fun hg hs => hg (good_iff.mpr ⟨h, Classical.not_not.mp hn, hs⟩)⟩
  · walk_at "rd"
    exact q2 (e1.mp rfl) _ s1
  · have g : Good z := Classical.not_not.mp fun n => nomatch e1.mpr n
    obtain ⟨g1, g2, g3⟩ := good_iff.mp g
    obtain ⟨l, ok, pm⟩ := g
    have hp1 := s1 _ _ hp
    have c1 := T.c_Among
    walk_at "rd"
    refine mid_of (fun v H' => v = .str (S l) ∧ Same H1 H') ?_ ?_
    · walk_at "rd"
      have el := pm.length_eq
      have e39 := ok.len
      have hch : (chars z).length = l.length := by unfold chars; rw [List.length_map, el]
      refine ⟨by omega, fun ys p' p1 so hp' => ?_⟩
      obtain ⟨cs, rfl, up, mem⟩ := sorted_signs p1 so g2 fun x hx => by
        obtain ⟨c, _, rfl⟩ := List.mem_map.mp hx
        exact ⟨c, rfl⟩
      have ec : cs = l := up_eq up ok.up fun c => by rw [mem, ← pm.mem_iff]; exact map1_mem
      subst ec
      refine ⟨_, .inl (.inl (.inl upd_same)), ?_, join_chars cs, same_new hp'⟩
      have e := len_chars cs
      rw [show (Str.ofString "") = S [] from rfl, e]
      omega
    · rintro _ H2 ⟨rfl, s2⟩
      have hp2 := s2 _ _ hp1
      walk_at "rdh"
      exact q1 l _ ok pm upd_same (.same (s1.trans s2) .upd)
theorem ok_Among___init___1 (T : Txt K mg) : OkD P w K mg base 2 (mA K "Among" "__init__") ["self", "signs", "outside"] [V.bl false] (spAmong K) := okDd T.F_Among___init__ sc_Among___init__ 2 0 (fun q => nomatch q) rfl (fun _ _ _ _ _ _ _ us its hl hi => match us, hl, its, hi with | [_, _], _, [_], _ => ⟨_, rfl, rfl⟩) (by rintro vs H Q E ⟨p, dx, z, o, rfl, _⟩; rfl) (bd_Among___init__ T)
theorem ok_Among___init__ (T : Txt K mg) : OkD P w K mg base 2 (mA K "Among" "__init__") ["self", "signs", "outside"] [] (spAmong K) := okDd T.F_Among___init__ sc_Among___init__ 3 1 (fun q => nomatch q) rfl (fun _ _ _ _ _ _ _ us its hl hi => match us, hl, its, hi with | [_, _, _], _, [_], _ => ⟨_, rfl, rfl⟩) (by rintro vs H Q E ⟨p, dx, z, o, rfl, _⟩; rfl) (bd_Among___init__ T)
theorem okk_Among___init___outside (T : Txt K mg) : OkK P w K mg base 2 (mA K "Among" "__init__") ["self", "signs", "outside"] 2 ["outside"] (spAmong K) := okK T.F_Among___init__ sc_Among___init__ 2 ["outside"] (fun q => nomatch q) (fun _ _ _ _ _ _ _ us its ws hl hi hw => match us, hl, its, hi, ws, hw with | [_, _], _, [_], _, [_], _ => ⟨_, rfl, rfl⟩) (by rintro vs H Q E ⟨p, dx, z, o, rfl, _⟩; rfl) (bd_Among___init__ T)

def PF.vs : PF → List V
  | .one c => [.str "one", .str (S [c])]
  | .any => [.str "any"]
  | .among l o => [.str "among", .str (S l), .bl o]
  | .stars => [.str "stars"]
theorem PF.inv {f : PF} {v : V} {H : Hp} (h : Dp K H v f.d) : ∃ a, v = .ref a ∧ SqT K H a f.vs := by
  cases f with
  | one c =>
    cases h with
    | tup hs ha => cases ha with | cons h1 ha => cases ha with | cons h2 ha => cases ha; cases h1; cases h2; exact ⟨_, rfl, hs⟩
  | any =>
    cases h with
    | tup hs ha => cases ha with | cons h1 ha => cases ha; cases h1; exact ⟨_, rfl, hs⟩
  | among l o =>
    cases h with
    | tup hs ha => cases ha with | cons h1 ha => cases ha with | cons h2 ha => cases ha with | cons h3 ha => cases ha; cases h1; cases h2; cases h3; exact ⟨_, rfl, hs⟩
  | stars =>
    cases h with
    | tup hs ha => cases ha with | cons h1 ha => cases ha; cases h1; exact ⟨_, rfl, hs⟩
def spMade (K : PySem.W.Frag) : Sp := fun vs H Q _ => ∃ v f, vs = [v] ∧ Dp K H v f.d ∧ PF.Ok f ∧ ∀ u H', Same H H' → PartV K f u H' → Q u H'
theorem ok__law_part_made (T : Txt K mg) : OkD P w K mg base 4 (fA K "_law_part_made") ["_law_form"] [] (spMade K) := by
  refine okD T.F__law_part_made sc__law_part_made (fun _ _ _ _ _ _ us hl => match us, hl with | [_], _ => rfl) ?_ ?_
  · rintro vs H Q E ⟨v, f, rfl, _⟩
    rfl
  · rintro cdv A outer s H vs Q E hr ⟨v, f, rfl, hd, ok, q⟩
    refine ⟨_, (pss_cons (ps_if (pt_mid (pt_cmpR (o_eq (K := K) (hu64 hr)) (pe_ix (o_ix (K := K)) (pv 0) pe_int (fun _ _ => rfl)) pe_str (nomark _))) (pss_one (ps_ret (pe_mak T.mk_One (ok_One___init__ T) (hr.mono (by decide)) rfl T.g_One (pasE (takes_of rfl rfl rfl rfl) (fun _ _ _ _ h => h)) (pa_cons (pe_ix (o_ix (K := K)) (pv 0) pe_int (fun _ _ => rfl)) pa_nil)))) pss_nil)
  (pss_cons (ps_if (pt_mid (pt_cmpR (o_eq (K := K) (hu64 hr)) (pe_ix (o_ix (K := K)) (pv 0) pe_int (fun _ _ => rfl)) pe_str (nomark _))) (pss_one (ps_ret (pe_makN T.mn_Any rfl T.g_Any))) pss_nil)
  (pss_cons (ps_if (pt_mid (pt_cmpR (o_eq (K := K) (hu64 hr)) (pe_ix (o_ix (K := K)) (pv 0) pe_int (fun _ _ => rfl)) pe_str (nomark _))) (pss_one (ps_ret (pe_mak T.mk_Among (ok_Among___init__ T) (hr.mono (by decide)) rfl T.g_Among (pasE (takes_of rfl rfl rfl rfl) (fun _ _ _ _ h => h)) (pa_cons (pe_ix (o_ix (K := K)) (pv 0) pe_int (fun _ _ => rfl)) (pa_cons (pe_ix (o_ix (K := K)) (pv 0) pe_int (fun _ _ => rfl)) pa_nil))))) pss_nil)
  (pss_one (ps_ret (pe_makN T.mn_Stars rfl T.g_Stars)))))), ?_⟩
    have tobj := T.obj
    obtain ⟨a, rfl, hs⟩ := PF.inv hd
    cases f with
    | one c =>
      refine q_if (fun b H1 => b = true ∧ H1 = H) (by walk_at "rdx") (fun H1 h => ?_) (fun H1 h => nomatch h.1)
      obtain ⟨_, rfl⟩ := h
      walk_at "rdx"
      intro x dx hx hdx hne
      refine ⟨x, dx, S [c], rfl, upd_same, (by show 1 ≤ 1000; decide), fun c' H' _ e h1 h2 => ⟨rfl, ?_⟩, fun n => absurd ⟨c, ok, rfl⟩ n⟩
      rw [← S1_inj e] at h1
      exact q _ _ (but_same hx hdx h2) ⟨x, dx, rfl, h1⟩
    | any =>
      refine q_if (fun b H1 => b = false ∧ H1 = H) (by walk_at "rdx") (fun H1 h => nomatch h.1) (fun H1 h => ?_)
      obtain ⟨_, rfl⟩ := h
      refine q_if (fun b H1' => b = true ∧ H1' = H1) (by walk_at "rdx") (fun H2 h => ?_) (fun H1 h => nomatch h.1)
      obtain ⟨_, rfl⟩ := h
      walk_at "rdx"
      intro x dx hx hdx hne
      exact q _ _ (but_same hx hdx (fun _ _ _ e => e)) ⟨x, dx, rfl, upd_same⟩
    | among l o =>
      refine q_if (fun b H1 => b = false ∧ H1 = H) (by walk_at "rdx") (fun H1 h => nomatch h.1) (fun H1 h => ?_)
      obtain ⟨_, rfl⟩ := h
      refine q_if (fun b H1' => b = false ∧ H1' = H1) (by walk_at "rdx") (fun H1 h => nomatch h.1) (fun H2 h => ?_)
      obtain ⟨_, rfl⟩ := h
      refine q_if (fun b H1' => b = true ∧ H1' = H2) (by walk_at "rdx") (fun H3 h => ?_) (fun H1 h => nomatch h.1)
      obtain ⟨_, rfl⟩ := h
      walk_at "rdx"
      intro x dx hx hdx hne
      refine ⟨x, dx, S l, o, rfl, upd_same, ?_, fun m H' ok' pm h1 h2 => ⟨rfl, ?_⟩, fun n => absurd ⟨l, ok.1, .refl _⟩ n⟩
      · rw [S_len]
        have := ok.1.len
        omega
      · have e : m = l := up_eq ok'.up ok.1.up fun c => pm.mem_iff.symm
        rw [e] at h1
        exact q _ _ (but_same hx hdx h2) ⟨x, dx, rfl, h1⟩
    | stars =>
      refine q_if (fun b H1 => b = false ∧ H1 = H) (by walk_at "rdx") (fun H1 h => nomatch h.1) (fun H1 h => ?_)
      obtain ⟨_, rfl⟩ := h
      refine q_if (fun b H1' => b = false ∧ H1' = H1) (by walk_at "rdx") (fun H1 h => nomatch h.1) (fun H2 h => ?_)
      obtain ⟨_, rfl⟩ := h
      refine q_if (fun b H1' => b = false ∧ H1' = H2) (by walk_at "rdx") (fun H1 h => nomatch h.1) (fun H3 h => ?_)
      obtain ⟨_, rfl⟩ := h
      walk_at "rdx"
      intro x dx hx hdx hne
      exact q _ _ (but_same hx hdx (fun _ _ _ e => e)) ⟨x, dx, rfl, upd_same⟩

/-! ### steps -/
theorem while_mid {c : TT} {tb : TS} {D : Ends} {σ : L2.St} {H : Hp} (W : Nat → L2.St → Hp → Prop) (m : Nat) (w0 : W m σ H)
    (turn : ∀ m σ H, W m σ H → ∃ C : Bool → Hp → Prop, c σ H C ∧ (∀ H1, C true H1 → tb { D with nx := fun σ' H' => ∃ m', m' < m ∧ W m' σ' H', ct := fun σ' H' => ∃ m', m' < m ∧ W m' σ' H', bk := D.nx } σ H1) ∧ ∀ H1, C false H1 → D.nx σ H1) :
    tWhile (tMidT c) tb D σ H := by
  refine ⟨W, ⟨m, w0⟩, fun m σ H w => ?_⟩
  obtain ⟨C, h1, h2, h3⟩ := turn m σ H w
  refine ⟨C, h1, fun b H1 hb => ?_⟩
  cases b with
  | true => exact ⟨_, fun _ _ h => h, h2 H1 hb⟩
  | false => exact h3 H1 hb
theorem q_new {i : Nat} {u : TS} {D : Ends} {σ : L2.St} {H : Hp} (h : ∀ p, H p = none → u D (σ.set i (some (.ref p))) (upd H p (.lst []))) : tSeq (tAsg (tLst tNil) (gName i)) u D σ H := by
  unfold tSeq tAsg tLst tNil gName
  exact ⟨Nat.zero_le _, fun p hp => h p hp⟩
theorem q_app {i : Nat} {te : TE} {u : TS} {D : Ends} {σ : L2.St} {H : Hp} {F : Addr} {xs : List V} (e : σ[i]? = some (some (.ref F))) (hl : H F = some (.lst xs))
    (h : te σ H fun y H1 => ∃ ys, H1 F = some (.lst ys) ∧ ys.length < sizeLine ∧ u D σ (upd H1 F (.lst (ys ++ [y])))) : tSeq (tDrop (tBM K "list" rAppend (tVar i) (tCons (tMid te) tNil))) u D σ H := by
  unfold tSeq tDrop tBM tVar tCons tNil
  exact ⟨_, e, .inl ⟨rfl, xs, .inl (.inl hl)⟩, _, h, fun y H1 ⟨ys, h1, h2, h3⟩ => ⟨F, ys, y, rfl, rfl, h1, h2, h3⟩⟩
theorem l_app {i : Nat} {te : TE} {D : Ends} {σ : L2.St} {H : Hp} {F : Addr} {xs : List V} (e : σ[i]? = some (some (.ref F))) (hl : H F = some (.lst xs))
    (h : te σ H fun y H1 => ∃ ys, H1 F = some (.lst ys) ∧ ys.length < sizeLine ∧ D.nx σ (upd H1 F (.lst (ys ++ [y])))) : tDrop (tBM K "list" rAppend (tVar i) (tCons (tMid te) tNil)) D σ H := by
  unfold tDrop tBM tVar tCons tNil
  exact ⟨_, e, .inl ⟨rfl, xs, .inl (.inl hl)⟩, _, h, fun y H1 ⟨ys, h1, h2, h3⟩ => ⟨F, ys, y, rfl, rfl, h1, h2, h3⟩⟩
theorem q_appV {i j : Nat} {u : TS} {D : Ends} {σ : L2.St} {H : Hp} {F : Addr} {xs : List V} {y : V} (e : σ[i]? = some (some (.ref F))) (e2 : σ[j]? = some (some y)) (hl : H F = some (.lst xs)) (hn : xs.length < 16777216)
    (h : u D σ (upd H F (.lst (xs ++ [y])))) : tSeq (tDrop (tBM K "list" rAppend (tVar i) (tCons (tMid (tVar j)) tNil))) u D σ H := q_app e hl ⟨y, e2, xs, hl, by rw [sizeLine_eq]; exact hn, h⟩
theorem l_appV {i j : Nat} {D : Ends} {σ : L2.St} {H : Hp} {F : Addr} {xs : List V} {y : V} (e : σ[i]? = some (some (.ref F))) (e2 : σ[j]? = some (some y)) (hl : H F = some (.lst xs)) (hn : xs.length < 16777216)
    (h : D.nx σ (upd H F (.lst (xs ++ [y])))) : tDrop (tBM K "list" rAppend (tVar i) (tCons (tMid (tVar j)) tNil)) D σ H := l_app e hl ⟨y, e2, xs, hl, by rw [sizeLine_eq]; exact hn, h⟩
def intsV (l : List Nat) : List V := l.map fun (i : Nat) => V.int (i : Int)
theorem inV_ints {j : Nat} : ∀ {l : List Nat}, inV (.int j) (intsV l) = decide (j ∈ l)
  | [] => rfl
  | i :: r => by
    have ih := inV_ints (j := j) (l := r)
    have e : inV (.int j) (intsV (i :: r)) = (decide ((i : Int) = (j : Int)) || inV (.int j) (intsV r)) := rfl
    rw [e, ih, ← Bool.decide_or]
    refine decide_eq_decide.mpr ?_
    rw [List.mem_cons, Int.natCast_inj]
    exact ⟨fun h => h.imp Eq.symm id, fun h => h.imp Eq.symm id⟩
theorem flat_ints : ∀ (l : List Nat), (intsV l).all flatV = true
  | [] => rfl
  | _ :: r => flat_ints r
theorem l_midG {i : Nat} {te : TE} {D : Ends} {σ : L2.St} {H : Hp} (C : V → Hp → Prop) (h : te σ H C) (k : ∀ v H1, C v H1 → D.nx (σ.set i (some v)) H1) : tAsg (tMid te) (gName i) D σ H := ⟨C, h, k⟩
theorem drop_le {α : Type} (k : Nat) (l : List α) : (l.drop k).length ≤ l.length := by rw [List.length_drop]; exact Nat.sub_le _ _
theorem atI_zero {α : Type} {x : α} {r : List α} : atI (x :: r) 0 = some x := by
  show atI (x :: r) ((0 : Nat) : Int) = some x
  exact atI_nat rfl
/-! ### segments -/
theorem PartsV.at' {fs : List PF} {us : List V} {H : Hp} {i : Nat} {x : V} (h : PartsV K fs us H) (e : us[i]? = some x) : ∃ f, fs[i]? = some f ∧ PartV K f x H := by
  have hl : i < us.length := (List.getElem?_eq_some_iff.mp e).1
  rw [h.1] at hl
  obtain ⟨u, e2, g⟩ := h.2 i fs[i] (List.getElem?_eq_getElem hl)
  rw [e2] at e
  cases e
  exact ⟨_, List.getElem?_eq_getElem hl, g⟩
theorem atI_last {xs : List V} {u : V} (h : xs.getLast? = some u) : atI xs (-1) = some u := by
  unfold atI ixN
  have hne : xs ≠ [] := fun e => by rw [e] at h; cases h
  have hl : 0 < xs.length := List.length_pos_iff.mpr hne
  rw [if_neg (by decide), if_pos (by omega)]
  have e : ((-1 : Int) + (xs.length : Int)).toNat = xs.length - 1 := by omega
  show xs[((-1 : Int) + (xs.length : Int)).toNat]? = some u
  rw [e, ← List.getLast?_eq_getElem?]
  exact h
theorem PartsV.last {fs : List PF} {us : List V} {H : Hp} {f : PF} (h : PartsV K fs us H) (e : fs.getLast? = some f) : ∃ u, us.getLast? = some u ∧ PartV K f u H := by
  rw [List.getLast?_eq_getElem?] at e
  obtain ⟨u, e2, g⟩ := h.2 _ f e
  refine ⟨u, ?_, g⟩
  rw [List.getLast?_eq_getElem?, h.1]
  exact e2
def addB (acc : List PF) (f : PF) : Bool := decide (acc = []) || (!f.many || match acc.getLast? with
  | some g => !g.many
  | none => true)
theorem normOne_eq (acc : List PF) (f : PF) : normOne acc f = if addB acc f = true then acc ++ [f] else acc := by
  unfold normOne addB
  rcases List.eq_nil_or_concat acc with rfl | ⟨r, g, rfl⟩
  · simp
  · rw [List.concat_eq_append]
    simp only [List.getLast?_append, List.getLast?_singleton, Option.some_or]
    cases f.many <;> cases h : g.many <;> simp [h]
def spSeg (K : PySem.W.Frag) : Sp := fun vs H Q E => ∃ p dx t us fs, vs = [.ref p, .ref t] ∧ (SqT K H t us ∨ SqL K H t us) ∧ PartsV K fs us H ∧ fs.length ≤ 1000 ∧ H p = some (.ins (fA K "Segment") dx []) ∧ (∀ u ∈ us, u ≠ .ref p) ∧
  (fs ≠ [] → ∀ H' tt us', But p H H' → H' p = some (.ins (fA K "Segment") dx [("parts", .ref tt)]) → H' tt = some (.tup us') → PartsV K (normP fs) us' H' → Q .non H') ∧ (fs = [] → E (.ref (fA K "NoPart")) none H)
theorem seq_walk {t : Addr} {us : List V} {H : Hp} (h : SqT K H t us ∨ SqL K H t us) : ∃ J0 G, (∀ (σ : L2.St) (H' : Hp) (i : Nat), σ[i]? = some (some (.ref t)) → Same H H' → iU K (tVar i) σ H' fun J H1 => J = J0 ∧ H1 = H') ∧ Walk J0 us.length G (YAt us) ∧ ∀ H', Same H H' → G H' := by
  rcases h with h | h
  · exact ⟨_, _, fun σ H' i e s => ⟨_, e, .inr ⟨⟨us, same_t s h⟩, rfl, rfl⟩⟩, walk_tup (K := K) (a := t) (xs := us), fun H' s => same_t s h⟩
  · exact ⟨_, _, fun σ H' i e s => ⟨_, e, .inl ⟨⟨us, same_l s h⟩, rfl, rfl⟩⟩, walk_list (K := K) (a := t) (xs := us), fun H' s => same_l s h⟩
theorem len_seq {t : Addr} {us : List V} {H : Hp} (h : SqT K H t us ∨ SqL K H t us) : LenV K (.ref t) H us.length := h.elim (fun h => .inr ⟨us, h, rfl⟩) fun h => .inl ⟨us, h, rfl⟩
theorem ok_Segment___init__ (T : Txt K mg) : OkD P w K mg base 2 (mA K "Segment" "__init__") ["self", "parts"] [] (spSeg K) := by
  refine okD T.F_Segment___init__ sc_Segment___init__ (fun _ _ _ _ _ _ us hl => match us, hl with | [_, _], _ => rfl) ?_ ?_
  · rintro vs H Q E ⟨p, dx, t, us, fs, rfl, _⟩
    rfl
  · rintro cdv A outer s H vs Q E hr ⟨p, dx, t, us, fs, rfl, ht, hp, hn, ho, hup, q1, q2⟩
    refine ⟨_, (pss_cons (ps_if (pt_mid (pt_cmpR (o_eq (K := K) (hu64 hr)) (pe_callB (o_lenW (K := K) (w := w)) (by rfl) T.fr_len boot_len (pa_cons (pv 1) pa_nil)) pe_int (nomark _))) (pss_one (ps_raise rfl (takes_of rfl rfl rfl rfl) (pmk_own PySem.F.excBase_ValueError T.x_NoPart.1 T.g_NoPart T.x_NoPart.2.1 (raises_own T.x_NoPart.2.2.1 T.x_NoPart.2.2.2) rfl))) pss_nil)
  (pss_cons (ps_set (i := 2) sc_Segment___init__.nd rfl (Or.inl rfl) (pe_lst pa_nil))
  (pss_cons (ps_mid (ps_for (passes_of rfl) rfl (pi_mid (o_it (K := K) rfl (pv 1))) (pg_name (i := 3) sc_Segment___init__.nd rfl (Or.inl rfl)) (pss_one (ps_if (pt_mid (PW.pt (pw_or (pt_cmpR (o_eq (K := K) (hu64 hr)) (pv 2) (pe_lst pa_nil) (nomark _)) (pw_or (pt_not (pt_tru (K := K) (pe_metI0 (md_many T) (pv 3) (hr.mono (by decide)) (pasE (takes_of rfl rfl rfl rfl) (fun _ _ _ _ h => h))) (by intro _; rfl))) (pw_or1 (pt_not (pt_tru (K := K) (pe_metI0 (md_many T) (pe_ix (o_ix (K := K)) (pv 2) (pe_un un_neg pe_int) (fun _ _ => rfl)) (hr.mono (by decide)) (pasE (takes_of rfl rfl rfl rfl) (fun _ _ _ _ h => h))) (by intro _; rfl)))))))) (pss_one (ps_expr (pe_bmK (K := K) PySem.F.plainAttrs_list PySem.F.slot_list_append PySem.F.type_list_append mt_append (pv 2) (pa_cons (pe_mid (pv 3)) pa_nil)))) pss_nil))))
  (pss_one (ps_fld (pv 0) (pe_mid (pe_callTy (o_tuple (K := K)) (by rfl) T.fr_tuple (by decide +kernel) (pa_cons (pv 2) pa_nil))) rfl))))), ?_⟩
    have tobj := T.obj
    refine q_if (fun b H' => H' = H ∧ b = decide (fs = [])) ?_ ?_ ?_
    · walk_at "rd"
      refine .inr ⟨_, len_seq ht, ?_⟩
      rw [hp.1]
      refine decide_eq_decide.mpr ⟨fun h => List.length_eq_zero_iff.mp (by omega), fun h => by rw [h]; rfl⟩
    · rintro _ ⟨rfl, hb⟩
      walk_at "rd"
      exact q2 (of_decide_eq_true hb.symm)
    rintro _ ⟨rfl, hb⟩
    have hne : fs ≠ [] := of_decide_eq_false hb.symm
    rename_i H
    refine q_new fun F hF => ?_
    have hFp : F ≠ p := fun e => by rw [e, ho] at hF; cases hF
    obtain ⟨J0, G, hw, wk, hG⟩ := seq_walk ht
    have sF : Same H (upd H F (.lst [])) := same_new hF
    refine q_stm (fun σ H' => ∃ acc x, σ = [some (.ref p), some (.ref t), some (.ref F), x] ∧ Same H H' ∧ H' F = some (.lst acc) ∧ PartsV K (normP fs) acc H' ∧ ∀ u ∈ acc, u ≠ .ref p) ?_ ?_
    · refine for_mid (J0 := J0) (H0 := upd H F (.lst [])) (hw _ _ _ rfl sF) wk
        (fun k σ H' => ∃ acc x, σ = [some (.ref p), some (.ref t), some (.ref F), x] ∧ Same H H' ∧ H' F = some (.lst acc) ∧ PartsV K ((fs.take k).foldl normOne []) acc H' ∧ ∀ u ∈ acc, u ≠ .ref p)
        ⟨[], none, rfl, sF, upd_same, .nil, fun _ h => nomatch h⟩ (fun k σ H' _ ⟨_, _, _, s, _⟩ => hG H' s) ?_ (fun σ H' h => ?_)
      · rintro k x σ H1 H1' hk ⟨acc, x0, rfl, sm, hl, pv, nup⟩ ⟨rfl, hx⟩
        obtain ⟨f, hf, hu⟩ := hp.at' hx
        have hu1 := hu.mono sm
        have len : acc.length ≤ fs.length := by
          rw [pv.1]
          have key : ∀ (l : List PF), (l.foldl normOne []).length ≤ l.length := fun l => by
            have g : ∀ (l a : List PF), (l.foldl normOne a).length ≤ a.length + l.length := by
              intro l
              induction l with
              | nil => exact fun a => Nat.le_refl _
              | cons y r ih =>
                intro a
                refine Nat.le_trans (ih (normOne a y)) ?_
                have e : (normOne a y).length ≤ a.length + 1 := by
                  unfold normOne
                  split
                  · rw [List.length_append]; exact Nat.le_refl _
                  · exact Nat.le_succ _
                rw [List.length_cons]
                omega
            have := g l []
            simpa using this
          have a := key (fs.take k)
          have b := List.length_take_le' k fs
          omega
        refine l_if (fun b H' => Same H1' H' ∧ b = addB ((fs.take k).foldl normOne []) f) ?_ ?_ ?_
        · walk_at "rd"
          intro n hn0
          have sn : Same H1' (upd H1' n (.lst [])) := same_new hn0
          have hln := sn _ _ hl
          have hun := hu1.mono sn
          have eacc : acc = [] ↔ (fs.take k).foldl normOne [] = [] := by
            rw [← List.length_eq_zero_iff, ← List.length_eq_zero_iff, pv.1]
          generalize ha0 : (fs.take k).foldl normOne [] = a0 at *
          refine eq_nil (.inl (.inl hln)) (.inl (.inl upd_same)) ⟨_, rfl, ite2 (fun h => ?_) fun h => ?_⟩
          · refine ⟨sn, ?_⟩
            unfold addB
            rw [decide_eq_true (eacc.mp (of_decide_eq_true h))]
            rfl
          have hna : a0 ≠ [] := fun e => h (decide_eq_true (eacc.mpr e))
          have e0 : addB a0 f = (!f.many || match a0.getLast? with
            | some g => !g.many
            | none => true) := by
            unfold addB
            rw [decide_eq_false hna]
            rfl
          refine ⟨f, hun, x, rfl, hun, _, rfl, ite2 (fun hm => ⟨sn, ?_⟩) fun hm => ?_⟩
          · rw [e0, hm]; rfl
          obtain ⟨g, hg⟩ : ∃ g, a0.getLast? = some g := by
            cases e : a0.getLast? with
            | none => exact absurd (List.getLast?_eq_none_iff.mp e) hna
            | some g => exact ⟨g, rfl⟩
          obtain ⟨u, h1, h2⟩ := pv.last hg
          have h2n := h2.mono sn
          refine ⟨acc, .inl (.inl (.inl hln)), u, atI_last h1, g, h2n, u, rfl, h2n, _, rfl, sn, ?_⟩
          have hm' : f.many = true := by simpa using hm
          rw [e0, hm', hg]
          rfl
        · rintro H2 ⟨s2, hb⟩
          have hl2 := s2 _ _ hl
          refine l_appV rfl rfl hl2 (by omega) ⟨acc ++ [x], _, rfl, same_mut (sm.trans s2) hF, upd_same, ?_, fun u hu => (List.mem_append.mp hu).elim (nup u) fun h => by rw [List.mem_singleton.mp h]; exact hup x (List.mem_of_getElem? hx)⟩
          rw [norm_take hf, normOne_eq, if_pos hb.symm]
          exact ((pv.mono s2).nl (nl_upd hl2)).snoc ((hu1.mono s2).nl (nl_upd hl2))
        · rintro H2 ⟨s2, hb⟩
          refine ⟨acc, _, rfl, sm.trans s2, s2 _ _ hl, ?_, nup⟩
          rw [norm_take hf, normOne_eq, if_neg (by rw [← hb]; exact Bool.false_ne_true)]
          exact pv.mono s2
      · obtain ⟨acc, x, e, sm, hl, pv, nup⟩ := h
        rw [List.take_of_length_le (by rw [hp.1]; exact Nat.le_refl _)] at pv
        exact ⟨acc, x, e, sm, hl, pv, nup⟩
    · rintro σ H1 ⟨acc, x, rfl, sm, hl, pv, nup⟩
      have ho1 := sm _ _ ho
      walk_at "rd"
      refine mid_of (fun v H' => ∃ tt, v = .ref tt ∧ H1 tt = none ∧ H' = upd H1 tt (.tup acc)) ?_ ?_
      · walk_at "rd"
        exact ⟨acc, .inl ⟨.inl (.inl hl), fun l h => ⟨h, rfl⟩⟩⟩
      · rintro _ _ ⟨tt, rfl, htt, rfl⟩
        have st : Same H1 (upd H1 tt (.tup acc)) := same_new htt
        have ho2 := st _ _ ho1
        have ntp : tt ≠ p := fun e => by rw [e, ho1] at htt; cases htt
        have nF : p ≠ F := fun e => hFp e.symm
        have sp : NL (upd H1 tt (.tup acc)) (upd (upd H1 tt (.tup acc)) p (.ins (fA K "Segment") dx [("parts", .ref tt)])) → True := fun _ => trivial
        walk_at "rdh"
        refine q1 hne _ tt acc (But.same (sm.trans st) .upd) upd_same ?_ ?_
        · rw [upd_ne ntp]; exact upd_same
        · have pvt := pv.mono st
          refine ⟨pvt.1, fun i f hf => ?_⟩
          obtain ⟨u, e1, pu, dx', e2, e3⟩ := pvt.2 i f hf
          refine ⟨u, e1, pu, dx', e2, ?_⟩
          rw [upd_ne fun e => nup u (List.mem_of_getElem? e1) (by rw [e2, e])]
          exact e3

/-! ### what steps tell -/
mutual
def tupB : PyData → Bool
  | .none => true
  | .bool _ => true
  | .int _ => true
  | .str _ => true
  | .tuple ds => tupBs ds
  | _ => false
def tupBs : List PyData → Bool
  | [] => true
  | d :: r => tupB d && tupBs r
end
theorem sqT_nl {H H' : Hp} {a : Addr} {xs : List V} (h : SqT K H a xs) (e : NL H H') : SqT K H' a xs := by
  rcases h with (h | ⟨o, h⟩) | h
  · exact .inl (.inl (e _ _ h fun _ z => nomatch z))
  · exact .inl (.inr ⟨o, e _ _ h fun _ z => nomatch z⟩)
  · exact .inr h
mutual
theorem dp_nl {H H' : Hp} (e : NL H H') : ∀ (d : PyData) (v : V), tupB d = true → Dp K H v d → Dp K H' v d
  | .none, _, _, .non => .non
  | .bool _, _, _, .bl b => .bl b
  | .int _, _, _, .int i => .int i
  | .str _, _, _, .str x => .str x
  | .tuple ds, _, t, .tup h a => .tup (sqT_nl h e) (dpAll_nl e ds _ (by simpa only [tupB] using t) a)
  | .list ds, _, t, _ => by simp [tupB] at t
theorem dpAll_nl {H H' : Hp} (e : NL H H') : ∀ (ds : List PyData) (vs : List V), tupBs ds = true → DpAll K H vs ds → DpAll K H' vs ds
  | [], _, _, .nil => .nil
  | d :: ds, _, t, .cons h a => by
    have t' : tupB d = true ∧ tupBs ds = true := by simpa only [tupBs, Bool.and_eq_true] using t
    exact .cons (dp_nl e d _ t'.1 h) (dpAll_nl e ds _ t'.2 a)
end
theorem tupBs_map {α : Type} (d : α → PyData) (h : ∀ x, tupB (d x) = true) : ∀ l : List α, tupBs (l.map d) = true
  | [] => by simp only [List.map_nil, tupBs]
  | x :: r => by simp only [List.map_cons, tupBs, h x, tupBs_map d h r, Bool.and_self]
theorem PF.tup (f : PF) : tupB f.d = true := by cases f <;> simp [PF.d, tupB, tupBs]
theorem SF.tup (f : SF) : tupB f.d = true := by
  cases f with
  | deep => simp [SF.d, tupB, tupBs]
  | seg fs => simp [SF.d, tupB, tupBs, tupBs_map PF.d PF.tup fs]
/-- us are the things fs, one by one -/
def Each {α : Type} (R : α → V → Hp → Prop) (fs : List α) (us : List V) (H : Hp) : Prop := us.length = fs.length ∧ ∀ (i : Nat) (f : α), fs[i]? = some f → ∃ u, us[i]? = some u ∧ R f u H
section
variable {α : Type} {R : α → V → Hp → Prop} {fs : List α} {us : List V} {H H' : Hp}
theorem Each.imp {R' : α → V → Hp → Prop} (h : Each R fs us H) (i : ∀ f u, R f u H → R' f u H') : Each R' fs us H' := ⟨h.1, fun j f hf => let ⟨u, a, b⟩ := h.2 j f hf; ⟨u, a, i f u b⟩⟩
theorem Each.nil : Each R [] [] H := ⟨rfl, fun i f h => by simp at h⟩
theorem Each.snoc {f : α} {u : V} (h : Each R fs us H) (g : R f u H) : Each R (fs ++ [f]) (us ++ [u]) H := by
  refine ⟨by rw [List.length_append, List.length_append, h.1]; rfl, fun i f' hf => ?_⟩
  rcases Nat.lt_trichotomy i fs.length with e | e | e
  · rw [List.getElem?_append_left e] at hf
    obtain ⟨w, a, b⟩ := h.2 i f' hf
    exact ⟨w, by rw [List.getElem?_append_left (by rw [h.1]; exact e)]; exact a, b⟩
  · subst e
    rw [List.getElem?_append_right (Nat.le_refl _), Nat.sub_self] at hf
    have ef : f = f' := Option.some.inj hf
    subst ef
    exact ⟨u, by rw [← h.1, List.getElem?_append_right (Nat.le_refl _), Nat.sub_self]; rfl, g⟩
  · rw [List.getElem?_eq_none (by rw [List.length_append]; exact e)] at hf
    cases hf
theorem Each.at' {i : Nat} {x : V} (h : Each R fs us H) (e : us[i]? = some x) : ∃ f, fs[i]? = some f ∧ R f x H := by
  have hl : i < us.length := (List.getElem?_eq_some_iff.mp e).1
  rw [h.1] at hl
  obtain ⟨u, e2, g⟩ := h.2 i fs[i] (List.getElem?_eq_getElem hl)
  rw [e2] at e
  cases e
  exact ⟨_, List.getElem?_eq_getElem hl, g⟩
theorem each_dp {d : α → PyData} : ∀ {fs : List α} {us : List V}, Each (fun f u H => Dp K H u (d f)) fs us H → DpAll K H us (fs.map d)
  | [], [], _ => .nil
  | [], _ :: _, h => absurd h.1 (by simp)
  | f :: r, [], h => absurd h.1 (by simp)
  | f :: r, u :: us, h => by
    obtain ⟨u', e, g⟩ := h.2 0 f rfl
    cases e
    exact .cons g (each_dp ⟨by simpa using h.1, fun i f' hf => h.2 (i + 1) f' hf⟩)
theorem dp_each {d : α → PyData} : ∀ {fs : List α} {us : List V}, DpAll K H us (fs.map d) → Each (fun f u H => Dp K H u (d f)) fs us H
  | [], _, .nil => .nil
  | f :: r, _, .cons h a => by
    have ih := dp_each (fs := r) a
    refine ⟨by simp [ih.1], fun i f' hf => ?_⟩
    cases i with
    | zero =>
      cases (show some f = some f' from hf)
      exact ⟨_, rfl, h⟩
    | succ i => exact ih.2 i f' hf
end
theorem parts_each {fs : List PF} {us : List V} {H : Hp} : PartsV K fs us H ↔ Each (PartV K) fs us H := Iff.rfl
def spDeep (K : PySem.W.Frag) (f : SF) : Sp := fun vs H Q _ => ∃ v, vs = [v] ∧ StepV K f v H ∧ Q (.bl f.deepB) H
theorem ok_Deep_deep (T : Txt K mg) : OkD P w K mg base 1 (mA K "Deep" "deep") ["self"] [] (spDeep K .deep) := by
  refine okD T.F_Deep_deep sc_Deep_deep (fun _ _ _ _ _ _ us hl => match us, hl with | [_], _ => rfl) ?_ ?_
  · rintro vs H Q E ⟨v, rfl, _⟩
    rfl
  · rintro cdv A outer s H vs Q E hr ⟨v, rfl, h, q⟩
    refine ⟨_, (pss_one (ps_ret pe_bl)), ?_⟩
    walk_at "rd"
    exact q
theorem ok_Segment_deep {fs : List PF} (T : Txt K mg) : OkD P w K mg base 1 (mA K "Segment" "deep") ["self"] [] (spDeep K (.seg fs)) := by
  refine okD T.F_Segment_deep sc_Step_deep (fun _ _ _ _ _ _ us hl => match us, hl with | [_], _ => rfl) ?_ ?_
  · rintro vs H Q E ⟨v, rfl, _⟩
    rfl
  · rintro cdv A outer s H vs Q E hr ⟨v, rfl, h, q⟩
    refine ⟨_, (pss_one (ps_ret pe_bl)), ?_⟩
    walk_at "rd"
    exact q
section
variable {X : Cx}
theorem md_deep (T : Txt K mg) (h1 : X.prog = P := by rfl) (h2 : X.w = w := by rfl) (h3 : X.K = K := by rfl) (h4 : X.mg = mg := by rfl) (h5 : X.base = base := by rfl) : MetD X 1 "deep" (StepV K) (spDeep K) := by
  subst h1 h2 h3 h4 h5
  intro i x H h
  cases i with
  | deep => obtain ⟨p, dx, rfl, hp⟩ := id h; exact ⟨p, _, dx, _, _, _, rfl, hp, T.c_Deep, T.m_Deep_deep, rfl, (ok_Deep_deep T).mono (by decide)⟩
  | seg fs => obtain ⟨p, dx, t, us, rfl, hp, _⟩ := id h; exact ⟨p, _, dx, _, _, _, rfl, hp, T.c_Segment, T.m_Segment_deep, rfl, (ok_Segment_deep T).mono (by decide)⟩
end
/-! ### what steps tell -/
section
variable {X : Cx}
end
/-! ### spots -/
def spBehind (K : PySem.W.Frag) : Sp := fun vs H Q _ => ∃ t sl us fs ss, vs = [.ref t, .ref sl] ∧ SqT K H t us ∧ PartsV K fs us H ∧ SqL K H sl (intsV ss) ∧ (∀ s ∈ ss, s ≤ fs.length) ∧ fs.length ≤ 1000 ∧
  ∀ p l H', H p = none → Same H H' → H' p = some (.lst (intsV l)) → l.Nodup → (∀ i, i ∈ l ↔ ∃ s ∈ ss, Clos fs s i) → Q (.ref p) H'
theorem ok_spots_behind (T : Txt K mg) : OkD P w K mg base 2 (fA K "spots_behind") ["parts", "spots"] [] (spBehind K) := by
  refine okD T.F_spots_behind sc_spots_behind (fun _ _ _ _ _ _ us hl => match us, hl with | [_, _], _ => rfl) ?_ ?_
  · rintro vs H Q E ⟨t, sl, us, fs, ss, rfl, _⟩
    rfl
  · rintro cdv A outer s H vs Q E hr ⟨t, sl, us, fs, ss, rfl, ht, hp, hs, hle, hn, q⟩
    refine ⟨_, (pss_cons (ps_set (i := 2) sc_spots_behind.nd rfl (Or.inl rfl) (pe_lst pa_nil))
  (pss_cons (ps_mid (ps_for (passes_of rfl) rfl (pi_mid (o_it (K := K) rfl (pv 1))) (pg_name (i := 3) sc_spots_behind.nd rfl (Or.inl rfl)) (pss_one (ps_while (passes_of rfl) (pt_mid (pt_cmpR (o_notin (K := K) (hu65 hr)) (pv 3) (pv 2) (by rfl))) (pss_cons (ps_expr (pe_bmK (K := K) PySem.F.plainAttrs_list PySem.F.slot_list_append PySem.F.type_list_append mt_append (pv 2) (pa_cons (pe_mid (pv 3)) pa_nil)))
  (pss_one (ps_if (pt_mid (PW.pt (pw_and (pt_cmpR o_lt (pv 3) (pe_callB (o_lenW (K := K) (w := w)) (by rfl) T.fr_len boot_len (pa_cons (pv 0) pa_nil)) (nomark _)) (pw_and1 (pt_tru (K := K) (pe_metI0 (md_many T) (pe_ix (o_ix (K := K)) (pv 0) (pv 3) (fun _ _ => rfl)) (hr.mono (by decide)) (pasE (takes_of rfl rfl rfl rfl) (fun _ _ _ _ h => h))) (by intro _; rfl)))))) (pss_one (ps_aug (i := 3) sc_spots_behind.nd rfl (Or.inl rfl) pe_int o_iadd)) pss_nil)))))))
  (pss_one (ps_ret (pv 2))))), ?_⟩
    have tobj := T.obj
    refine q_new fun F hF => ?_
    have sF : Same H (upd H F (.lst [])) := same_new hF
    refine q_stm (fun σ H' => ∃ l x, σ = [some (.ref t), some (.ref sl), some (.ref F), x] ∧ Same H H' ∧ H' F = some (.lst (intsV l)) ∧ l.Nodup ∧ ∀ i, i ∈ l ↔ ∃ s ∈ ss, Clos fs s i) ?_ ?_
    · refine for_mid (J0 := Itl K sl) (H0 := upd H F (.lst [])) ?_ (walk_list (K := K) (a := sl) (xs := intsV ss))
        (fun k σ H' => ∃ l x, σ = [some (.ref t), some (.ref sl), some (.ref F), x] ∧ Same H H' ∧ H' F = some (.lst (intsV l)) ∧ l.Nodup ∧ ∀ i, i ∈ l ↔ ∃ s ∈ ss.take k, Clos fs s i)
        ⟨[], none, rfl, sF, upd_same, .nil, fun i => by simp⟩ (fun k σ H' _ h => ?_) ?_ (fun σ H' h => ?_)
      · walk_at "rd"
        exact .inl ⟨_, same_l sF hs⟩
      · obtain ⟨l, x, _, sm, _⟩ := h
        exact same_l sm hs
      · rintro k x σ H1 H1' hk ⟨l, x0, rfl, sm, hl, nd, mem⟩ ⟨rfl, hx⟩
        obtain ⟨s0, hs0, rfl⟩ : ∃ s0, ss[k]? = some s0 ∧ x = .int (s0 : Int) := by
          unfold intsV at hx
          rw [List.getElem?_map] at hx
          cases e : ss[k]? with
          | none => rw [e] at hx; cases hx
          | some s0 => rw [e] at hx; exact ⟨s0, rfl, (Option.some.inj hx).symm⟩
        have hs0l : s0 ≤ fs.length := hle s0 (List.mem_of_getElem? hs0)
        have clU : ∀ i, i ∈ l → ∀ i', Clos fs i i' → i' ∈ l := fun i hi i' hc => by
          obtain ⟨s', h1, h2⟩ := (mem i).mp hi
          exact (mem i').mpr ⟨s', h1, h2.trans hc⟩
        have leU : ∀ i, i ∈ l → i ≤ fs.length := fun i hi => by
          obtain ⟨s', h1, h2⟩ := (mem i).mp hi
          exact h2.le (n := 0) (hle s' (List.mem_of_mem_take h1))
        have tk : ss.take (k + 1) = ss.take k ++ [s0] := by rw [List.take_succ, hs0]; rfl
        have memk : ∀ i, (∃ s ∈ ss.take (k + 1), Clos fs s i) ↔ (i ∈ l ∨ Clos fs s0 i) := fun i => by
          rw [tk]
          constructor
          · rintro ⟨s', h1, h2⟩
            rcases List.mem_append.mp h1 with h | h
            · exact .inl ((mem i).mpr ⟨s', h, h2⟩)
            · rw [List.mem_singleton.mp h] at h2
              exact .inr h2
          · rintro (h | h)
            · obtain ⟨s', h1, h2⟩ := (mem i).mp h
              exact ⟨s', List.mem_append_left _ h1, h2⟩
            · exact ⟨s0, List.mem_append_right _ List.mem_cons_self, h⟩
        refine while_mid (fun m σ H' => ∃ l' j, σ = [some (.ref t), some (.ref sl), some (.ref F), some (.int (j : Nat))] ∧ Same H H' ∧ H' F = some (.lst (intsV l')) ∧ l'.Nodup ∧ Clos fs s0 j ∧ j ≤ fs.length ∧
          ((m = 2 * (fs.length + 1 - j) + 1 ∧ ∀ i, i ∈ l' ↔ i ∈ l ∨ (s0 ≤ i ∧ i < j)) ∨ (m = 2 * (fs.length + 1 - j) ∧ starAt fs j = false ∧ ∀ i, i ∈ l' ↔ i ∈ l ∨ (s0 ≤ i ∧ i ≤ j)))) _
          ⟨l, s0, rfl, sm, hl, nd, Clos.refl, hs0l, .inl ⟨rfl, fun i => ⟨.inl, fun h => h.elim id fun h => absurd h (by omega)⟩⟩⟩ ?_
        rintro m σ H2 ⟨l', j, rfl, sm2, hl2, nd2, cl, hj, hab⟩
        refine ⟨fun b H' => H' = H2 ∧ b = !decide (j ∈ l'), ?_, ?_, ?_⟩
        · walk_at "rd"
          exact ⟨_, .inl (.inl (.inl hl2)), flat_ints l', by rw [inV_ints]⟩
        · rintro H3 ⟨rfl, hb⟩
          have hj' : j ∉ l' := by simpa using hb
          have hm : m = 2 * (fs.length + 1 - j) + 1 ∧ ∀ i, i ∈ l' ↔ i ∈ l ∨ (s0 ≤ i ∧ i < j) := by
            rcases hab with h | ⟨_, _, h⟩
            · exact h
            · exact absurd ((h j).mpr (.inr ⟨cl.1, Nat.le_refl _⟩)) hj'
          have le' : l'.length ≤ 1001 := by
            have h := nat_nodup_len l' (List.range (fs.length + 1)) nd2 fun i hi => List.mem_range.mpr (by
              rcases (hm.2 i).mp hi with h | h
              · have := leU i h; omega
              · omega)
            rw [List.length_range] at h
            omega
          refine q_appV rfl rfl hl2 (by unfold intsV; rw [List.length_map]; omega) ?_
          have ev : intsV l' ++ [V.int (j : Int)] = intsV (l' ++ [j]) := by unfold intsV; rw [List.map_append]; rfl
          rw [ev]
          have sm4 : Same H (upd H3 F (.lst (intsV (l' ++ [j])))) := same_mut sm2 hF
          have nd4 : (l' ++ [j]).Nodup := by
            rw [List.nodup_append]
            exact ⟨nd2, List.nodup_cons.mpr ⟨List.not_mem_nil, .nil⟩, fun a ha b hb => by rw [List.mem_singleton.mp hb]; exact fun e => hj' (e ▸ ha)⟩
          have mem4 : ∀ i, i ∈ l' ++ [j] ↔ i ∈ l ∨ (s0 ≤ i ∧ i ≤ j) := fun i => by
            rw [List.mem_append, hm.2, List.mem_singleton]
            have := cl.1
            constructor
            · rintro ((h | h) | h)
              · exact .inl h
              · exact .inr ⟨h.1, by omega⟩
              · exact .inr ⟨by omega, by omega⟩
            · rintro (h | h)
              · exact .inl (.inl h)
              · rcases Nat.lt_or_ge i j with e | e
                · exact .inl (.inr ⟨h.1, e⟩)
                · exact .inr (by omega)
          refine l_if (fun b H' => H' = upd H3 F (.lst (intsV (l' ++ [j]))) ∧ b = starAt fs j) ?_ ?_ ?_
          · have ht4 := same_t sm4 ht
            have hp4 := hp.mono sm4
            walk_at "rd"
            refine .inr ⟨_, .inr ⟨us, ht4, rfl⟩, ?_⟩
            rw [hp4.1]
            refine ite2 (fun hlt => ?_) fun hge => ?_
            · have hlt' : j < fs.length := Int.ofNat_lt.mp hlt
              obtain ⟨u, hu, pu⟩ := hp4.2 j fs[j] (List.getElem?_eq_getElem hlt')
              refine ⟨us, .inr ht4, u, atI_nat hu, fs[j], pu, u, rfl, pu, ?_⟩
              rw [starAt_eq (List.getElem?_eq_getElem hlt')]
              exact ⟨_, rfl, rfl, rfl⟩
            · have e : starAt fs j = false := by
                cases hq : starAt fs j with
                | false => rfl
                | true => exact absurd (Int.ofNat_lt.mpr (starAt_lt hq)) hge
              rw [e]
          · rintro H4 ⟨rfl, hb⟩
            have hst : starAt fs j = true := hb.symm
            have hlt := starAt_lt hst
            walk_at "rd"
            refine ⟨_, ?_, l' ++ [j], j + 1, rfl, sm4, upd_same, nd4, cl.snoc hst, hlt, .inl ⟨rfl, fun i => by rw [mem4]; exact ⟨fun h => h.imp id fun h => ⟨h.1, by omega⟩, fun h => h.imp id fun h => ⟨h.1, by omega⟩⟩⟩⟩
            omega
          · rintro H4 ⟨rfl, hb⟩
            refine ⟨_, ?_, l' ++ [j], j, rfl, sm4, upd_same, nd4, cl, hj, .inr ⟨rfl, hb.symm, mem4⟩⟩
            omega
        · rintro H3 ⟨rfl, hb⟩
          have hj' : j ∈ l' := by simpa using hb
          refine ⟨l', _, rfl, sm2, hl2, nd2, fun i => ?_⟩
          rw [memk]
          rcases hab with ⟨_, h⟩ | ⟨_, hst, h⟩
          · rw [h]
            have hjl : j ∈ l := ((h j).mp hj').elim id fun h => absurd h.2 (Nat.lt_irrefl _)
            constructor
            · rintro (h1 | h1)
              · exact .inl h1
              · exact .inr ⟨h1.1, fun k a b => cl.2 k a (by omega)⟩
            · rintro (h1 | h1)
              · exact .inl h1
              · rcases Nat.lt_or_ge i j with e | e
                · exact .inr ⟨h1.1, e⟩
                · exact .inl (clU j hjl i ⟨e, fun k a b => h1.2 k (by have := cl.1; omega) b⟩)
          · rw [h]
            constructor
            · rintro (h1 | h1)
              · exact .inl h1
              · exact .inr ⟨h1.1, fun k a b => cl.2 k a (by omega)⟩
            · rintro (h1 | h1)
              · exact .inl h1
              · refine .inr ⟨h1.1, ?_⟩
                rcases Nat.lt_or_ge j i with e | e
                · have := h1.2 j cl.1 e
                  rw [hst] at this
                  cases this
                · exact e
      · obtain ⟨l, x, e, sm, hl, nd, mem⟩ := h
        refine ⟨l, x, e, sm, hl, nd, ?_⟩
        rw [List.take_of_length_le (by unfold intsV; rw [List.length_map]; exact Nat.le_refl _)] at mem
        exact mem
    · rintro σ H1 ⟨l, x, rfl, sm, hl, nd, mem⟩
      walk_at "rd"
      exact q F l H1 hF sm hl nd mem

/-! ### a segment fits a name -/
def spFitsN (K : PySem.W.Frag) (f : SF) : Sp := fun vs H Q _ => ∃ v w, vs = [v, .str (S w)] ∧ StepV K f v H ∧ (∀ fs, f = .seg fs → fs.length ≤ 1000) ∧ ∀ b H', Same H H' → (b = true ↔ f.fits w) → Q (.bl b) H'
theorem ok_Deep_fits_name (T : Txt K mg) : OkD P w K mg base 1 (mA K "Deep" "fits_name") ["self", "name"] [] (spFitsN K .deep) := by
  refine okD T.F_Deep_fits_name sc_Step_fits_name (fun _ _ _ _ _ _ us hl => match us, hl with | [_, _], _ => rfl) ?_ ?_
  · rintro vs H Q E ⟨v, w, rfl, _⟩
    rfl
  · rintro cdv A outer s H vs Q E hr ⟨v, w, rfl, h, _, q⟩
    refine ⟨_, (pss_one (ps_ret pe_bl)), ?_⟩
    walk_at "rd"
    exact q true H (Same.refl _) ⟨fun _ => trivial, fun _ => rfl⟩
theorem ok_Segment_fits_name {fs : List PF} (T : Txt K mg) : OkD P w K mg base 3 (mA K "Segment" "fits_name") ["self", "name"] [] (spFitsN K (.seg fs)) := by
  refine okD T.F_Segment_fits_name sc_Segment_fits_name (fun _ _ _ _ _ _ us hl => match us, hl with | [_, _], _ => rfl) ?_ ?_
  · rintro vs H Q E ⟨v, w, rfl, _⟩
    rfl
  · rintro cdv A outer s H vs Q E hr ⟨v, nm, rfl, ⟨p, dx, t, us, rfl, ho, ht, hp, hne⟩, hn0, q⟩
    have hn := hn0 fs rfl
    refine ⟨_, (pss_cons (ps_set (i := 2) sc_Segment_fits_name.nd rfl (Or.inl rfl) (pe_mid (pe_cal (ok_spots_behind T) (hr.mono (by decide)) rfl T.g_spots_behind (pasE (takes_of rfl rfl rfl rfl) (fun _ _ _ _ h => h)) (pa_cons (pe_fldK (K := K) (pv 0) rfl) (pa_cons (pe_lst (pa_cons pe_int pa_nil)) pa_nil)))))
  (pss_cons (ps_mid (ps_for (passes_of rfl) rfl (pi_mid (o_it (K := K) rfl (pv 1))) (pg_name (i := 3) sc_Segment_fits_name.nd rfl (Or.inl rfl)) (pss_cons (ps_set (i := 4) sc_Segment_fits_name.nd rfl (Or.inl rfl) (pe_lst pa_nil))
  (pss_cons (ps_mid (ps_for (passes_of rfl) rfl (pi_mid (o_it (K := K) rfl (pv 2))) (pg_name (i := 5) sc_Segment_fits_name.nd rfl (Or.inl rfl)) (pss_one (ps_if (pt_mid (PW.pt (pw_and (pt_cmpR o_lt (pv 5) (pe_callB (o_lenW (K := K) (w := w)) (by rfl) T.fr_len boot_len (pa_cons (pe_fldK (K := K) (pv 0) rfl) pa_nil)) (nomark _)) (pw_and1 (pt_tru (K := K) (pe_metI (md_fits T) (pe_ix (o_ix (K := K)) (pe_fldK (K := K) (pv 0) rfl) (pv 5) (fun _ _ => rfl)) (hr.mono (by decide)) (pasE (takes_of rfl rfl rfl rfl) (fun _ _ _ _ h => h)) (pa_cons (pv 3) pa_nil)) (by intro _; rfl)))))) (pss_one (ps_expr (pe_bmK (K := K) PySem.F.plainAttrs_list PySem.F.slot_list_append PySem.F.type_list_append mt_append (pv 4) (pa_cons (pe_mid (pe_op (o_add (K := K)) (pv 5) (pe_callTy o_int (by rfl) T.fr_int (by decide +kernel) (pa_cons (pe_notK (K := K) (pe_metI0 (md_many T) (pe_ix (o_ix (K := K)) (pe_fldK (K := K) (pv 0) rfl) (pv 5) (fun _ _ => rfl)) (hr.mono (by decide)) (pasE (takes_of rfl rfl rfl rfl) (fun _ _ _ _ h => h)))) pa_nil)))) pa_nil)))) pss_nil))))
  (pss_one (ps_set (i := 2) sc_Segment_fits_name.nd rfl (Or.inl rfl) (pe_mid (pe_cal (ok_spots_behind T) (hr.mono (by decide)) rfl T.g_spots_behind (pasE (takes_of rfl rfl rfl rfl) (fun _ _ _ _ h => h)) (pa_cons (pe_fldK (K := K) (pv 0) rfl) (pa_cons (pv 4) pa_nil))))))))))
  (pss_one (ps_ret (pe_cmpR (o_in (K := K) (hu65 hr)) (pe_callB (o_lenW (K := K) (w := w)) (by rfl) T.fr_len boot_len (pa_cons (pe_fldK (K := K) (pv 0) rfl) pa_nil)) (pv 2) (by rfl)))))), ?_⟩
    have tobj := T.obj
    refine q_midG (fun v H' => ∃ sp l, v = .ref sp ∧ Same H H' ∧ H' sp = some (.lst (intsV l)) ∧ l.Nodup ∧ ∀ i, i ∈ l ↔ At fs [] i) ?_ ?_
    · walk_at "rdh"
      intro n hn0
      have sn := same_new (o := .lst [.int 0]) hn0
      refine ⟨t, n, us, fs, [0], rfl, .inl (.inl (sn _ _ ht)), hp.mono sn, .inl (.inl upd_same), fun s hs => by rw [List.mem_singleton.mp hs]; exact Nat.zero_le _, hn, fun sp l H' hs0 s2 hl nd mem => ⟨sp, rfl, sn.trans s2, l, hl, nd, fun i => ?_⟩⟩
      rw [mem, at_nil]
      simp
    · rintro _ H1 ⟨sp, l, rfl, s1, hl, nd, mem⟩
      refine q_stm (fun σ H' => ∃ sp l x y z, σ = [some (.ref p), some (.str (S nm)), some (.ref sp), x, y, z] ∧ Same H H' ∧ H' sp = some (.lst (intsV l)) ∧ l.Nodup ∧ ∀ i, i ∈ l ↔ At fs nm i) ?_ ?_
      · refine for_mid (J0 := Its (S nm)) (H0 := H1) ?_ walk_str
          (fun k σ H' => ∃ sp l x y z, σ = [some (.ref p), some (.str (S nm)), some (.ref sp), x, y, z] ∧ Same H H' ∧ H' sp = some (.lst (intsV l)) ∧ l.Nodup ∧ ∀ i, i ∈ l ↔ At fs (nm.take k) i)
          ⟨sp, l, none, none, none, rfl, s1, hl, nd, mem⟩ (fun _ _ _ _ _ => trivial) ?_ (fun σ H' h => ?_)
        · walk_at "rd"
        · rintro k x σ H2 H2' hk ⟨sp, l, x0, y0, z0, rfl, s2, hl, nd, mem⟩ ⟨rfl, c, hc, rfl⟩
          have hc' : nm[k]? = some c := by
            have e : (S nm).cps[k]? = nm[k]? := by simp
            rw [← e]; exact hc
          have tk : nm.take (k + 1) = nm.take k ++ [c] := by rw [List.take_succ, hc']; rfl
          have lel : l.length ≤ 1001 := by
            have h := nat_nodup_len l (List.range (fs.length + 1)) nd fun i hi => List.mem_range.mpr (by have := ((mem i).mp hi).1; omega)
            rw [List.length_range] at h
            omega
          refine q_new fun F hF => ?_
          have hFH : H F = none := by
            cases e : H F with
            | none => rfl
            | some o => rw [s2 _ _ e] at hF; cases hF
          have sF := same_new (o := .lst []) hF
          refine q_stm (fun σ H' => ∃ m x, σ = [some (.ref p), some (.str (S nm)), some (.ref sp), some (.str ⟨#[c]⟩), some (.ref F), x] ∧ Same H2' H' ∧ H' F = some (.lst (intsV m)) ∧ m.length ≤ 1001 ∧ ∀ i, i ∈ m ↔ ∃ s ∈ l, ∃ f, fs[s]? = some f ∧ f.fits c = true ∧ i = (if f.many = true then s else s + 1)) ?_ ?_
          · refine for_mid (J0 := Itl K sp) (H0 := upd H2' F (.lst [])) ?_ (walk_list (K := K) (a := sp) (xs := intsV l))
              (fun j σ H' => ∃ m x, σ = [some (.ref p), some (.str (S nm)), some (.ref sp), some (.str ⟨#[c]⟩), some (.ref F), x] ∧ Same H2' H' ∧ H' F = some (.lst (intsV m)) ∧ m.length ≤ j ∧ ∀ i, i ∈ m ↔ ∃ s ∈ l.take j, ∃ f, fs[s]? = some f ∧ f.fits c = true ∧ i = (if f.many = true then s else s + 1))
              ⟨[], _, rfl, sF, upd_same, Nat.le_refl _, fun i => by simp⟩ (fun j σ H' _ ⟨_, _, _, s3, _⟩ => .inl (.inl (s3 _ _ hl))) ?_ (fun σ H' h => ?_)
            · walk_at "rd"
              exact .inl ⟨_, .inl (.inl (sF _ _ hl))⟩
            · rintro j x σ H3 H3' hj ⟨m, x1, rfl, s3, hm, lm, memm⟩ ⟨rfl, hx⟩
              obtain ⟨s0, hs0, rfl⟩ : ∃ s0, l[j]? = some s0 ∧ x = .int (s0 : Int) := by
                unfold intsV at hx
                rw [List.getElem?_map] at hx
                cases e : l[j]? with
                | none => rw [e] at hx; cases hx
                | some s0 => rw [e] at hx; exact ⟨s0, rfl, (Option.some.inj hx).symm⟩
              have tj : l.take (j + 1) = l.take j ++ [s0] := by rw [List.take_succ, hs0]; rfl
              have s13 : Same H H3' := s2.trans s3
              have ho3 := s13 _ _ ho
              have ht3 := s13 _ _ ht
              have hp3 := hp.mono s13
              refine l_if (fun b H' => H' = H3' ∧ (b = true ↔ ∃ f, fs[s0]? = some f ∧ f.fits c = true)) ?_ ?_ ?_
              · walk_at "rdh"
                refine .inr ⟨_, .inr ⟨us, .inl (.inl ht3), rfl⟩, ?_⟩
                rw [hp3.1]
                refine ite2 (fun hlt => ?_) fun hge => ?_
                · have hlt' : s0 < fs.length := Int.ofNat_lt.mp hlt
                  obtain ⟨u, hu, pu⟩ := hp3.2 s0 fs[s0] (List.getElem?_eq_getElem hlt')
                  refine ⟨us, .inr (.inl (.inl ht3)), u, atI_nat hu, fs[s0], pu, u, c, rfl, pu, ?_⟩
                  exact ⟨_, rfl, rfl, fun h => ⟨fs[s0], List.getElem?_eq_getElem hlt', h⟩, fun ⟨f, h1, h2⟩ => by
                    rw [List.getElem?_eq_getElem hlt'] at h1
                    rw [Option.some.inj h1]
                    exact h2⟩
                · exact ⟨fun h => (nomatch h), fun ⟨f, h1, _⟩ => absurd (Int.ofNat_lt.mpr (List.getElem?_eq_some_iff.mp h1).1) hge⟩
              · rintro H4 ⟨e4, hb⟩
                subst e4
                obtain ⟨f, hf, hfc⟩ := hb.mp rfl
                obtain ⟨u, hu, pu⟩ := hp3.2 s0 f hf
                refine l_app rfl hm ?_
                walk_at "rdh"
                refine ⟨us, .inr (.inl (.inl ht3)), u, atI_nat hu, f, pu, u, rfl, pu, ?_⟩
                walk_at "rd"
                have memn : ∀ i, i ∈ m ++ [if f.many = true then s0 else s0 + 1] ↔ ∃ s ∈ l.take (j + 1), ∃ f, fs[s]? = some f ∧ f.fits c = true ∧ i = (if f.many = true then s else s + 1) := fun i => by
                  rw [List.mem_append, memm, tj, List.mem_singleton]
                  constructor
                  · rintro (⟨a, h1, h2⟩ | h)
                    · exact ⟨a, List.mem_append_left _ h1, h2⟩
                    · exact ⟨s0, List.mem_append_right _ List.mem_cons_self, f, hf, hfc, h⟩
                  · rintro ⟨a, h1, f', h2, h3, h4⟩
                    rcases List.mem_append.mp h1 with h | h
                    · exact .inl ⟨a, h, f', h2, h3, h4⟩
                    · have ea := List.mem_singleton.mp h
                      subst ea
                      rw [hf] at h2
                      cases h2
                      exact .inr h4
                refine ⟨intsV m, hm, ?_, same_mut s3 hF, m ++ [if f.many = true then s0 else s0 + 1], ?_, ?_, fun i => by have h := memn i; rwa [tj] at h⟩
                · have hj2 : j < l.length := by unfold intsV at hj; rwa [List.length_map] at hj
                  unfold intsV; rw [List.length_map]; omega
                · unfold intsV
                  rw [List.map_append]
                  cases f.many <;> rfl
                · rw [List.length_append, List.length_singleton]; omega
              · rintro _ ⟨rfl, hb⟩
                refine ⟨m, _, rfl, s3, hm, by omega, fun i => ?_⟩
                rw [memm, tj]
                constructor
                · rintro ⟨a, h1, h2⟩
                  exact ⟨a, List.mem_append_left _ h1, h2⟩
                · rintro ⟨a, h1, f, h2, h3, h4⟩
                  rcases List.mem_append.mp h1 with h | h
                  · exact ⟨a, h, f, h2, h3, h4⟩
                  · rw [List.mem_singleton.mp h] at h2
                    exact absurd (hb.mpr ⟨f, h2, h3⟩) Bool.false_ne_true
            · obtain ⟨m, x, e, s3, hm, lm, memm⟩ := h
              have hl2 : (intsV l).length = l.length := by unfold intsV; rw [List.length_map]
              rw [List.take_of_length_le (by rw [hl2]; exact Nat.le_refl _)] at memm
              exact ⟨m, x, e, s3, hm, by omega, memm⟩
          · rintro σ H3 ⟨m, x, rfl, s3, hm, lm, memm⟩
            have s13 : Same H H3 := s2.trans s3
            have ho3 := s13 _ _ ho
            have ht3 := s13 _ _ ht
            refine l_midG (fun v H' => ∃ sp l, v = .ref sp ∧ Same H3 H' ∧ H' sp = some (.lst (intsV l)) ∧ l.Nodup ∧ ∀ i, i ∈ l ↔ At fs (nm.take (k + 1)) i) ?_ ?_
            · rw [tk]
              walk_at "rdh"
              refine ⟨t, F, us, fs, m, rfl, .inl (.inl ht3), hp.mono s13, .inl (.inl hm), fun i hi => ?_, hn, fun sp' l' H' _ s4 hl' nd' mem' => ⟨sp', rfl, s4, l', hl', nd', fun i => ?_⟩⟩
              · obtain ⟨a, _, f, h2, _, h4⟩ := (memm i).mp hi
                have := (List.getElem?_eq_some_iff.mp h2).1
                split at h4 <;> omega
              · rw [mem', at_snoc]
                constructor
                · rintro ⟨a, ha, hcl⟩
                  obtain ⟨b, hb, f, h2, h3, h4⟩ := (memm a).mp ha
                  rw [h4] at hcl
                  exact ⟨b, f, (mem b).mp hb, h2, h3, hcl⟩
                · rintro ⟨b, f, hb, h2, h3, hcl⟩
                  exact ⟨_, (memm _).mpr ⟨b, (mem b).mpr hb, f, h2, h3, rfl⟩, hcl⟩
            · rintro _ H4 ⟨sp', l', rfl, s4, hl', nd', mem'⟩
              exact ⟨sp', l', _, _, _, rfl, (s13.trans s4), hl', nd', mem'⟩
        · obtain ⟨sp, l, x, y, z, e, s1, hl, nd, mem⟩ := h
          rw [List.take_of_length_le (by rw [List.size_toArray]; exact Nat.le_refl _)] at mem
          exact ⟨sp, l, x, y, z, e, s1, hl, nd, mem⟩
      · rintro σ H2 ⟨sp, l, x, y, z, rfl, s2, hl, nd, mem⟩
        have ho2 := s2 _ _ ho
        have ht2 := s2 _ _ ht
        walk_at "rdh"
        refine .inr ⟨_, .inr ⟨us, .inl (.inl ht2), rfl⟩, _, .inl (.inl (.inl hl)), flat_ints l, ?_⟩
        rw [hp.1, inV_ints]
        refine q _ H2 s2 ?_
        rw [decide_eq_true_eq, mem]
        exact at_end
section
variable {X : Cx}
theorem md_fits_name (T : Txt K mg) (h1 : X.prog = P := by rfl) (h2 : X.w = w := by rfl) (h3 : X.K = K := by rfl) (h4 : X.mg = mg := by rfl) (h5 : X.base = base := by rfl) : MetD X 3 "fits_name" (StepV K) (spFitsN K) := by
  subst h1 h2 h3 h4 h5
  intro i x H h
  cases i with
  | deep => obtain ⟨p, dx, rfl, hp⟩ := id h; exact ⟨p, _, dx, _, _, _, rfl, hp, T.c_Deep, T.m_Deep_fits_name, rfl, (ok_Deep_fits_name T).mono (by decide)⟩
  | seg fs => obtain ⟨p, dx, t, us, rfl, hp, _⟩ := id h; exact ⟨p, _, dx, _, _, _, rfl, hp, T.c_Segment, T.m_Segment_fits_name, rfl, (ok_Segment_fits_name T).mono (by decide)⟩
end
/-! ### drawn segments -/
def spMixed : Sp := fun vs H Q _ => ∃ c k, vs = [.int c, .int k] ∧ ∀ m, 0 ≤ m → m < 2147483647 → Q (.int m) H
theorem ok__law_mixed (T : Txt K mg) : OkD P w K mg base 1 (fA K "_law_mixed") ["_law_cell_here", "_law_k"] [] spMixed := by
  refine okD T.F__law_mixed sc__law_mixed (fun _ _ _ _ _ _ us hl => match us, hl with | [_, _], _ => rfl) ?_ ?_
  · rintro vs H Q E ⟨c, k, rfl, _⟩
    rfl
  · rintro cdv A outer s H vs Q E hr ⟨c, k, rfl, q⟩
    refine ⟨_, (pss_cons (ps_set (i := 2) sc__law_mixed.nd rfl (Or.inl rfl) (pe_mid (pe_op op_mod (pe_op o_mul (pe_op (o_add (K := K)) (pe_op op_mod (pv 0) pe_int) (pe_op o_mul pe_int (pe_op (o_add (K := K)) (pv 1) pe_int))) pe_int) pe_int)))
  (pss_one (ps_ret (pe_op op_mod (pe_op o_mul (pe_op op_mod (pe_op o_mul (pv 2) (pv 2)) pe_int) pe_int) pe_int)))), ?_⟩
    have b : ∀ (x : Int), 0 ≤ x % 2147483647 ∧ x % 2147483647 < 2147483647 := fun x => ⟨Int.emod_nonneg _ (by decide), Int.emod_lt_of_pos _ (by decide)⟩
    have sm : ∀ (x y : Int), 0 ≤ x → x < 2147483647 → CMul x y := fun x y h1 h2 => .inl ⟨by omega, by omega⟩
    have sm2 : ∀ (x y : Int), 0 ≤ y → y ≤ 2147483647 → CMul x y := fun x y h1 h2 => .inr ⟨by omega, by omega⟩
    refine q_mid (fun m => 0 ≤ m ∧ m < 2147483647) ?_ fun m hm => ?_
    · walk_at "rd"
      exact ⟨sm _ _ (by decide) (by decide), sm2 _ _ (by decide) (by decide), b _⟩
    walk_at "rd"
    exact ⟨sm _ _ hm.1 hm.2, sm2 _ _ (by decide) (by decide), q _ (b _).1 (b _).2⟩
theorem eqv_stars (f : PF) : PyData.eqv f.d (.tuple [.str "stars"]) = f.many := by
  have e1 : ((Str.ofString "one") == (Str.ofString "stars")) = false := by decide +kernel
  have e2 : ((Str.ofString "any") == (Str.ofString "stars")) = false := by decide +kernel
  have e3 : ((Str.ofString "among") == (Str.ofString "stars")) = false := by decide +kernel
  cases f <;> simp [PF.d, PF.many, PyData.eqv, PyData.eqvAll, e1, e2, e3]
theorem two_snoc : ∀ {acc : List PF} {f : PF}, NoTwo acc → addB acc f = true → NoTwo (acc ++ [f])
  | [], _, _, _ => trivial
  | [g], f, _, h => by
    refine ⟨fun ⟨h1, h2⟩ => ?_, trivial⟩
    unfold addB at h
    simp [h1, h2] at h
  | g :: g2 :: r, f, n, h => by
    refine ⟨n.1, two_snoc (acc := g2 :: r) n.2 ?_⟩
    unfold addB at h ⊢
    have e : (g :: g2 :: r).getLast? = (g2 :: r).getLast? := by simp [List.getLast?_cons_cons]
    rw [e] at h
    simpa using h
/-- the list acc of forms at F -/
def FormsL (K : PySem.W.Frag) (acc : List PF) (F : Addr) (H : Hp) : Prop := ∃ us, H F = some (.lst us) ∧ Each (fun f u H => Dp K H u (PF.d f)) acc us H
theorem FormsL.mono {acc : List PF} {F : Addr} {H H' : Hp} (h : FormsL K acc F H) (s : Same H H') : FormsL K acc F H' := let ⟨us, a, b⟩ := h; ⟨us, s _ _ a, b.imp fun f u d => dp_mono s _ _ d⟩
theorem FormsL.len {acc : List PF} {F : Addr} {H : Hp} {us : List V} (h : Each (fun f u H => Dp K H u (PF.d f)) acc us H) : us = [] ↔ acc = [] := by rw [← List.length_eq_zero_iff, ← List.length_eq_zero_iff, h.1]
/-- the test ahead of an append -/
theorem add_test {acc : List PF} {f : PF} {F p : Addr} {v : V} {H : Hp} {us : List V} (hf : H F = some (.lst us)) (hu : Each (fun f u H => Dp K H u (PF.d f)) acc us H) (hv : Dp K H v f.d) (ok : f.Ok) (hok : ∀ g ∈ acc, g.Ok) {Q : Bool → Hp → Prop} (q : ∀ H', Same H H' → Q (addB acc f) H') : ∀ p, H p = none →
    rEqR K (.ref F) (.ref p) (upd H p (.lst [])) fun x H1 => ∃ k, x = .bl k ∧ if k = true then Q true H1 else ∀ r, H1 r = none → rNeR K v (.ref r) (upd H1 r (.tup [.str "stars"])) fun x H2 => ∃ k, x = .bl k ∧ if k = true then Q true H2 else
      ∃ xs, (SqL K H2 F xs ∨ SqT K H2 F xs) ∧ ∃ y, atI xs (-1) = some y ∧ rNeR K y v H2 fun x H3 => ∃ k, x = .bl k ∧ Q k H3 := by
  intro p hp
  have sp := same_new (o := .lst []) hp
  refine eq_nil (.inl (.inl (sp _ _ hf))) (.inl (.inl upd_same)) ⟨_, rfl, ite2 (fun h => ?_) fun h => ?_⟩
  · have e : acc = [] := (FormsL.len (F := F) hu).mp (of_decide_eq_true h)
    have q' := q _ sp
    unfold addB at q'
    rw [decide_eq_true e] at q'
    exact q'
  have hne : acc ≠ [] := fun e => h (decide_eq_true ((FormsL.len (F := F) hu).mpr e))
  intro r hr
  have sr := same_new (o := .tup [.str "stars"]) hr
  have s2 := sp.trans sr
  have dst : Dp K (upd (upd H p (.lst [])) r (.tup [.str "stars"])) (.ref r) (.tuple [.str "stars"]) := .tup (.inl (.inl upd_same)) (.cons (.str _) .nil)
  have dok : DOk 1 (.tuple [.str "stars"]) := PF.dok (f := .stars) trivial
  refine .inl ⟨f.d, _, dp_mono s2 _ _ hv, dst, (PF.dok ok).shaped (by decide), dok.shaped (by decide), ?_⟩
  rw [eqv_stars]
  refine ⟨_, rfl, ite2 (fun hm => ?_) fun hm => ?_⟩
  · have q' := q _ s2
    unfold addB at q'
    rw [decide_eq_false hne, hm] at q'
    exact q'
  have hm' : f.many = true := by simpa using hm
  have ef : f = .stars := by cases f <;> first | rfl | cases hm'
  obtain ⟨g, hg⟩ : ∃ g, acc.getLast? = some g := by
    cases e : acc.getLast? with
    | none => exact absurd (List.getLast?_eq_none_iff.mp e) hne
    | some g => exact ⟨g, rfl⟩
  have hg' := hg
  rw [List.getLast?_eq_getElem?] at hg'
  obtain ⟨y, e2, dy⟩ := hu.2 _ g hg'
  have hy : us.getLast? = some y := by rw [List.getLast?_eq_getElem?, hu.1]; exact e2
  have okg : g.Ok := hok g (List.mem_of_getElem? hg')
  refine ⟨us, .inl (.inl (.inl (s2 _ _ hf))), y, atI_last hy, .inl ⟨g.d, f.d, dp_mono s2 _ _ dy, dp_mono s2 _ _ hv, (PF.dok okg).shaped (by decide), (PF.dok ok).shaped (by decide), ?_⟩⟩
  have q' := q _ s2
  unfold addB at q'
  rw [decide_eq_false hne, hm', hg] at q'
  refine ⟨_, rfl, ?_⟩
  rw [ef]
  show Q (!PyData.eqv g.d (.tuple [.str "stars"])) _
  rw [eqv_stars]
  exact q'
def spSegm (K : PySem.W.Frag) : Sp := fun vs H Q _ => ∃ c p ws, vs = [.int c, .ref p] ∧ SqL K H p ws ∧ ws.length = 4 ∧ (∀ v ∈ ws, SignV v) ∧ ∀ v fs H', PartsOk fs → fs.length ≤ 3 → (∀ f ∈ fs, f.Low) → Same H H' → Dp K H' v (SF.seg fs).d → Q v H'
theorem ok__law_segment (T : Txt K mg) : OkD P w K mg base 2 (fA K "_law_segment") ["_law_cell_here", "_law_signs_here"] [] (spSegm K) := by
  refine okD T.F__law_segment sc__law_segment (fun _ _ _ _ _ _ us hl => match us, hl with | [_, _], _ => rfl) ?_ ?_
  · rintro vs H Q E ⟨c, p, ws, rfl, _⟩
    rfl
  · rintro cdv A outer s H vs Q E hr ⟨c, p, ws, rfl, hs, hl, hw, q⟩
    refine ⟨_, (pss_cons (ps_set (i := 2) sc__law_segment.nd rfl (Or.inl rfl) (pe_lst pa_nil))
  (pss_cons (ps_mid (ps_for (passes_of rfl) rfl (pi_mid (pi_range1 rfl T.fr_range (pa_cons (pe_op (o_add (K := K)) pe_int (pe_op op_mod (pv 0) pe_int)) pa_nil))) (pg_name (i := 3) sc__law_segment.nd rfl (Or.inl rfl)) (pss_cons (ps_set (i := 4) sc__law_segment.nd rfl (Or.inl rfl) (pe_mid (pe_cal (ok__law_part T) (hr.mono (by decide)) rfl T.g__law_part (pasE (takes_of rfl rfl rfl rfl) (fun _ _ _ _ h => h)) (pa_cons (pe_cal (ok__law_mixed T) (hr.mono (by decide)) rfl T.g__law_mixed (pasE (takes_of rfl rfl rfl rfl) (fun _ _ _ _ h => h)) (pa_cons (pv 0) (pa_cons (pv 3) pa_nil))) (pa_cons (pv 1) pa_nil)))))
  (pss_one (ps_if (pt_mid (PW.pt (pw_or (pt_cmpR (o_eq (K := K) (hu64 hr)) (pv 2) (pe_lst pa_nil) (nomark _)) (pw_or (pt_cmpR (o_ne (K := K) (hu64 hr)) (pv 4) (pe_tup (pa_cons pe_str pa_nil)) (nomark _)) (pw_or1 (pt_cmpR (o_ne (K := K) (hu64 hr)) (pe_ix (o_ix (K := K)) (pv 2) (pe_un un_neg pe_int) (fun _ _ => rfl)) (pv 4) (nomark _))))))) (pss_one (ps_expr (pe_bmK (K := K) PySem.F.plainAttrs_list PySem.F.slot_list_append PySem.F.type_list_append mt_append (pv 2) (pa_cons (pe_mid (pv 4)) pa_nil)))) pss_nil)))))
  (pss_one (ps_ret (pe_tup (pa_cons pe_str (pa_cons (pe_callTy (o_tuple (K := K)) (by rfl) T.fr_tuple (by decide +kernel) (pa_cons (pv 2) pa_nil)) pa_nil))))))), ?_⟩
    have tobj := T.obj
    refine q_new fun F hF => ?_
    have sF := same_new (o := .lst []) hF
    have hm0 : 0 ≤ c % 3 := Int.emod_nonneg _ (by decide)
    have hm1 : c % 3 < 3 := Int.emod_lt_of_pos _ (by decide)
    obtain ⟨n, hn, hn1, hn3⟩ : ∃ n : Nat, 1 + c % 3 = (n : Int) ∧ 1 ≤ n ∧ n ≤ 3 := ⟨(1 + c % 3).toNat, by omega, by omega, by omega⟩
    refine q_stm (fun σ H' => ∃ acc us x y, σ = [some (.int c), some (.ref p), some (.ref F), x, y] ∧ Same H H' ∧ H' F = some (.lst us) ∧ Each (fun f u H => Dp K H u (PF.d f)) acc us H' ∧ PartsOk acc ∧ acc.length ≤ 3 ∧ ∀ f ∈ acc, f.Low) ?_ ?_
    · refine for_mid (J0 := Itr 0 n) (H0 := upd H F (.lst [])) ?_ walk_range
        (fun k σ H' => ∃ acc us x y, σ = [some (.int c), some (.ref p), some (.ref F), x, y] ∧ Same H H' ∧ H' F = some (.lst us) ∧ Each (fun f u H => Dp K H u (PF.d f)) acc us H' ∧ (0 < k → acc ≠ []) ∧ (∀ f ∈ acc, f.Ok ∧ f.Low) ∧ NoTwo acc ∧ acc.length ≤ k)
        ⟨[], [], none, none, rfl, sF, upd_same, .nil, fun h => absurd h (by decide), fun _ h => (nomatch h), trivial, Nat.le_refl _⟩ (fun _ _ _ _ _ => trivial) ?_ (fun σ H' h => ?_)
      · walk_at "rd"
        rw [hn]
        exact ⟨by omega, by omega, rfl⟩
      · rintro k x σ H1 H1' hk ⟨acc, us, x0, y0, rfl, sm, hl1, each, ne, oks, two, len⟩ ⟨rfl, rfl⟩
        refine q_midG (fun v H' => Same H1' H' ∧ ∃ f, (PF.Ok f ∧ PF.Low f) ∧ Dp K H' v f.d) ?_ ?_
        · walk_at "rd"
          exact ⟨c, _, rfl, fun m _ _ => ⟨m, p, ws, rfl, same_l sm hs, hl, hw, fun v f H'' ok lo s hd => ⟨s, f, ⟨ok, lo⟩, hd⟩⟩⟩
        · rintro v H2 ⟨s2, f, ⟨ok, lo⟩, hd⟩
          obtain ⟨va, rfl, _⟩ := PF.inv hd
          have hl2 := s2 _ _ hl1
          have each2 : Each (fun f u H => Dp K H u (PF.d f)) acc us H2 := each.imp fun f u d => dp_mono s2 _ _ d
          refine l_if (fun b H' => Same H2 H' ∧ b = addB acc f) ?_ ?_ ?_
          · walk_at "rd"
            exact add_test (p := va) (Q := fun b H' => Same H2 H' ∧ b = addB acc f) hl2 each2 hd ok (fun g h => (oks g h).1) fun H' s => ⟨s, rfl⟩
          · rintro H3 ⟨s3, hb⟩
            have hl3 := s3 _ _ hl2
            have s13 := (sm.trans s2).trans s3
            refine l_appV rfl rfl hl3 (by rw [each.1]; omega) ⟨acc ++ [f], us ++ [.ref va], _, _, rfl, same_mut s13 hF, upd_same, ?_, fun _ e => ?_, fun g hg => ?_, two_snoc two hb.symm, ?_⟩
            · exact Each.snoc (each2.imp fun f u d => dp_nl (NL.trans (.of s3) (nl_upd hl3)) _ _ f.tup d) (dp_nl (NL.trans (.of s3) (nl_upd hl3)) _ _ f.tup hd)
            · exact absurd e (by simp)
            · exact (List.mem_append.mp hg).elim (oks g) fun h => by rw [List.mem_singleton.mp h]; exact ⟨ok, lo⟩
            · rw [List.length_append]; exact Nat.succ_le_succ len
          · rintro H3 ⟨s3, hb⟩
            refine ⟨acc, us, _, _, rfl, (sm.trans s2).trans s3, s3 _ _ hl2, each2.imp fun f u d => dp_mono s3 _ _ d, fun _ e => ?_, oks, two, by omega⟩
            rw [e] at hb
            cases hb
      · obtain ⟨acc, us, x, y, e, s1, h1, h2, h3, h4, h5, h6⟩ := h
        exact ⟨acc, us, x, y, e, s1, h1, h2, ⟨h3 (by omega), fun f hf => (h4 f hf).1, h5, by omega⟩, by omega, fun f hf => (h4 f hf).2⟩
    · rintro σ H1 ⟨acc, us, x, y, rfl, s1, h1, h2, h3, h4, h5⟩
      walk_at "rd"
      refine ⟨us, .inl ⟨.inl (.inl h1), fun l2 hl2 p2 hp2 => ?_⟩⟩
      have s2 := same_new (o := .tup us) hl2
      have s3 := same_new (o := .tup [V.str (Str.ofString "segment"), V.ref l2]) hp2
      exact q _ acc _ h3 h4 h5 ((s1.trans s2).trans s3) (.tup (.inl (.inl upd_same)) (.cons (.str _) (.cons (.tup (.inl (.inl (s3 _ _ upd_same))) (each_dp (h2.imp fun f u d => dp_mono (s2.trans s3) _ _ d))) .nil)))

/-! ### stars twice, rows and segments made -/
theorem ne_dat {n : Nat} {d : PyData} {u v : V} {H : Hp} {Q : VK} (ok : DOk n d) (hn : n ≤ 64) (h1 : Dp K H u d) (h2 : Dp K H v d) (q : Q (.bl false) H) : rNeR K u v H Q := by
  refine .inl ⟨d, d, h1, h2, ok.shaped hn, ok.shaped hn, ?_⟩
  rw [ok.eqv]
  exact q
/-- each star m times more -/
def dbl (m : Nat) (fs : List PF) : List PF := fs.flatMap fun f => List.replicate (1 + if f.many = true then m else 0) f
theorem norm_rep {acc : List PF} {f : PF} (hm : f.many = true) (hl : acc.getLast? = some f) : ∀ n, (List.replicate n f).foldl normOne acc = acc
  | 0 => rfl
  | n + 1 => by
    have e : normOne acc f = acc := by
      rw [normOne_eq, if_neg]
      unfold addB
      rw [hl, hm]
      have : acc ≠ [] := fun e => by rw [e] at hl; cases hl
      simp [this, hm]
    show (List.replicate n f).foldl normOne (normOne acc f) = acc
    rw [e]
    exact norm_rep hm hl n
theorem norm_dbl {m : Nat} : ∀ (fs acc : List PF), NoTwo (acc ++ fs) → (dbl m fs).foldl normOne acc = acc ++ fs
  | [], acc, _ => (List.append_nil acc).symm
  | f :: fs, acc, h => by
    have e1 : dbl m (f :: fs) = List.replicate (1 + if f.many = true then m else 0) f ++ dbl m fs := rfl
    have e2 : normOne acc f = acc ++ [f] := by
      rw [normOne_eq, if_pos]
      rcases List.eq_nil_or_concat acc with rfl | ⟨r, g, rfl⟩
      · rfl
      · have key : ∀ r : List PF, NoTwo (r ++ g :: f :: fs) → ¬ (g.many = true ∧ f.many = true) := by
          intro r
          induction r with
          | nil => exact fun h => h.1
          | cons x r ih =>
            intro h
            cases r with
            | nil => exact ih h.2
            | cons y r => exact ih h.2
        have k := key r (by simpa using h)
        unfold addB
        rw [List.concat_eq_append, List.getLast?_append]
        cases h1 : f.many <;> cases h2 : g.many <;> simp [h1, h2] at k ⊢
    have e3 : (acc ++ [f]) ++ fs = acc ++ f :: fs := by simp
    rw [e1, List.foldl_append, Nat.add_comm, List.replicate_succ, List.foldl_cons, e2]
    cases hm : f.many with
    | true => rw [norm_rep hm (by simp) _, norm_dbl fs (acc ++ [f]) (by rw [e3]; exact h), e3]
    | false => rw [if_neg Bool.false_ne_true]; show (dbl m fs).foldl normOne (acc ++ [f]) = _; rw [norm_dbl fs (acc ++ [f]) (by rw [e3]; exact h), e3]
theorem normP_dbl {m : Nat} {fs : List PF} (h : NoTwo fs) : normP (dbl m fs) = fs := norm_dbl fs [] h
theorem same_none {H H' : Hp} {a : Addr} (s : Same H H') (h : H' a = none) : H a = none := by
  cases e : H a with
  | none => rfl
  | some o => rw [s _ _ e] at h; cases h
theorem dbl_zero : ∀ fs : List PF, dbl 0 fs = fs
  | [] => rfl
  | f :: r => by
    have e : dbl 0 (f :: r) = List.replicate (1 + if f.many = true then 0 else 0) f ++ dbl 0 r := rfl
    rw [e, dbl_zero r]
    simp
theorem normP_id {fs : List PF} (h : NoTwo fs) : normP fs = fs := by
  have e := normP_dbl (m := 0) h
  rwa [dbl_zero] at e
theorem norm_ne : ∀ (l acc : List PF), acc ≠ [] → l.foldl normOne acc ≠ []
  | [], _, h => h
  | f :: r, acc, h => norm_ne r (normOne acc f) (by
      unfold normOne
      split
      · simp
      · exact h)
theorem normP_ne {fs : List PF} (h : fs ≠ []) : normP fs ≠ [] := by
  cases fs with
  | nil => exact absurd rfl h
  | cons f r => exact norm_ne r (normOne [] f) (by unfold normOne; simp)
theorem new_two {H1 : Hp} {x dx : Addr} {o o' : HO} (hx : H1 x = none) (hdx : H1 dx = none) (hne : ¬ dx = x) : Same H1 (upd (upd H1 dx o) x o') :=
  (same_new hdx).trans (same_new (by rw [upd_ne fun e => hne e.symm]; exact hx))
theorem seg_make {H1 : Hp} {l : Addr} {us : List V} {fs : List PF} {R : Addr → Hp → Prop} {E : XK} (ht : SqT K H1 l us ∨ SqL K H1 l us) (hp : PartsV K fs us H1) (hn : fs.length ≤ 1000) (hne : fs ≠ []) (q : ∀ x H', Same H1 H' → StepV K (.seg (normP fs)) (.ref x) H' → R x H') :
    ∀ x dx, H1 x = none → H1 dx = none → ¬ dx = x → spSeg K [.ref x, .ref l] (upd (upd H1 dx (.own x)) x (.ins (fA K "Segment") dx [])) (fun v H3 => v = .non ∧ R x H3) E := by
  intro x dx hx hdx hxd
  have s2 : Same H1 (upd (upd H1 dx (.own x)) x (.ins (fA K "Segment") dx [])) := new_two hx hdx hxd
  refine ⟨x, dx, l, us, fs, rfl, ht.imp (same_t s2) (same_l s2), hp.mono s2, hn, upd_same, fun u hu e => ?_, fun _ H' tt us' b h1 h2 h3 => ⟨rfl, q _ H' (but_same hx hdx b) ⟨x, dx, tt, us', rfl, h1, h2, h3, normP_ne hne⟩⟩, fun e => absurd e hne⟩
  obtain ⟨i, hi⟩ := List.mem_iff_getElem?.mp hu
  obtain ⟨f, _, p, dx', e2, e3⟩ := parts_each.mp hp |>.at' hi
  rw [e2] at e
  cases e
  rw [hx] at e3
  cases e3

/-! ### forms of rows, rows drawn large -/
structure RF where
  steps : List SF
  spares : Bool
  folders : Bool
def RF.d (r : RF) : PyData := .tuple [.tuple (r.steps.map SF.d), .bool r.spares, .bool r.folders]
def NoTwoD : List SF → Prop
  | a :: b :: r => ¬ (a = .deep ∧ b = .deep) ∧ NoTwoD (b :: r)
  | _ => True
structure RF.Ok (r : RF) : Prop where
  ne : r.steps ≠ []
  ok : ∀ s ∈ r.steps, s.Ok
  two : NoTwoD r.steps
  len : r.steps.length ≤ 12
theorem twoD_snoc : ∀ {acc : List SF} {f : SF}, NoTwoD acc → (f = .deep → acc.getLast? ≠ some .deep) → NoTwoD (acc ++ [f])
  | [], _, _, _ => trivial
  | [g], f, _, h => ⟨fun ⟨h1, h2⟩ => h h2 (by rw [h1]; rfl), trivial⟩
  | g :: g2 :: r, f, n, h => ⟨n.1, twoD_snoc (acc := g2 :: r) n.2 fun e => by
      have h' := h e
      rwa [List.getLast?_cons_cons] at h'⟩
theorem eqv_deep (s : SF) : PyData.eqv s.d (.tuple [.str "deep"]) = s.deepB := by
  have e1 : ((Str.ofString "segment") == (Str.ofString "deep")) = false := by decide +kernel
  cases s <;> simp [SF.d, SF.deepB, PyData.eqv, PyData.eqvAll, e1]
theorem cutV_last {us : List V} : cutV us (some (-1)) none = us.drop (us.length - 1) := by
  unfold cutV
  have e : HT.sIx us.length 0 (some (-1)) = us.length - 1 := by
    unfold HT.sIx
    simp
    omega
  rw [e, HT.sIx_none]
  refine List.take_of_length_le ?_
  rw [List.length_drop]
  exact Nat.le_refl _
theorem Each.drop {α : Type} {R : α → V → Hp → Prop} {fs : List α} {us : List V} {H : Hp} (h : Each R fs us H) (k : Nat) : Each R (fs.drop k) (us.drop k) H :=
  ⟨by rw [List.length_drop, List.length_drop, h.1], fun i f hf => by
    rw [List.getElem?_drop] at hf
    obtain ⟨u, e, g⟩ := h.2 _ f hf
    exact ⟨u, by rw [List.getElem?_drop]; exact e, g⟩⟩
theorem last_drop {α : Type} {ss : List α} {x : α} (h : ss.getLast? = some x) : ss.drop (ss.length - 1) = [x] := by
  rcases List.eq_nil_or_concat ss with rfl | ⟨r, y, rfl⟩
  · cases h
  · rw [List.concat_eq_append] at h ⊢
    rw [List.getLast?_append] at h
    cases (show some y = some x from h)
    rw [List.length_append, List.length_singleton, Nat.add_sub_cancel, List.drop_left]
/-- ("deep",) not in steps[-1:] -/
theorem deep_test {ss : List SF} {us : List V} {L : Addr} {H : Hp} {B : Addr → Prop} {R : Bool → Hp → Prop} (hl : H L = some (.lst us)) (e : Each (fun f u H => Dp K H u (SF.d f)) ss us H) (oks : ∀ s ∈ ss, s.Ok) (r : ∀ b H', Same H H' → (b = true → ss.getLast? ≠ some .deep) → R b H') : ∀ p, H p = none →
    (∃ xs, SqL K (upd H p (.tup [.str "deep"])) L xs ∧ ∀ p1, upd H p (.tup [.str "deep"]) p1 = none → rNotInD K (.ref p) (.ref p1) (upd (upd H p (.tup [.str "deep"])) p1 (.lst (cutV xs (some (-1)) none))) fun x H' => ∃ k, x = .bl k ∧ R k H') ∨ B p := by
  intro p hp
  have sp := same_new (o := .tup [V.str (Str.ofString "deep")]) hp
  refine .inl ⟨us, .inl (.inl (sp _ _ hl)), fun p1 hp1 => ?_⟩
  have s1 := same_new (o := .lst (cutV us (some (-1)) none)) hp1
  have e1 : Each (fun f u H => Dp K H u (SF.d f)) ss us (upd (upd H p (.tup [V.str (Str.ofString "deep")])) p1 (.lst (cutV us (some (-1)) none))) := e.imp fun f u d => dp_mono (sp.trans s1) _ _ d
  have e2 := e1.drop (ss.length - 1)
  have eq : us.drop (ss.length - 1) = cutV us (some (-1)) none := by rw [cutV_last, e.1]
  rw [eq] at e2
  have dl : DOk 4 (.list ((ss.drop (ss.length - 1)).map SF.d)) := dok_lst fun d hd => by
    obtain ⟨f, hf, rfl⟩ := List.mem_map.mp hd
    exact SF.dok (oks f (List.mem_of_mem_drop hf))
  have dd : DOk 3 (.tuple [.str "deep"]) := SF.dok (f := .deep) trivial
  refine ⟨.tuple [.str "deep"], (ss.drop (ss.length - 1)).map SF.d, .tup (.inl (.inl (s1 _ _ upd_same))) (.cons (.str _) .nil), .lst (.inl (.inl upd_same)) (each_dp e2), dd.shaped (by decide), dl.shaped (by decide), _, rfl, r _ _ (sp.trans s1) fun hb hlast => ?_⟩
  rw [last_drop hlast] at hb
  simp [eqv_deep, SF.deepB] at hb
theorem forms_snoc {ss : List SF} {us : List V} {s : SF} {y : V} {L : Addr} {H : Hp} (hl : H L = some (.lst us)) (e : Each (fun f u H => Dp K H u (SF.d f)) ss us H) (d : Dp K H y s.d) : Each (fun f u H => Dp K H u (SF.d f)) (ss ++ [s]) (us ++ [y]) (upd H L (.lst (us ++ [y]))) :=
  Each.snoc (e.imp fun f u d => dp_nl (nl_upd hl) _ _ f.tup d) (dp_nl (nl_upd hl) _ _ s.tup d)
theorem row_d {r : RF} {us : List V} {l p : Addr} {H : Hp} (e : Each (fun f u H => Dp K H u (SF.d f)) r.steps us H) (hl : H l = none) (hp : upd H l (.tup us) p = none) : Dp K (upd (upd H l (.tup us)) p (.tup [.ref l, .bl r.spares, .bl r.folders])) (.ref p) r.d := by
  have s2 := same_new (o := .tup us) hl
  have s3 := same_new (o := .tup [V.ref l, V.bl r.spares, V.bl r.folders]) hp
  exact .tup (.inl (.inl upd_same)) (.cons (.tup (.inl (.inl (s3 _ _ upd_same))) (each_dp (e.imp fun f u d => dp_mono (s2.trans s3) _ _ d))) (.cons (.bl _) (.cons (.bl _) .nil)))
theorem seg_d {fs : List PF} {us : List V} {l p : Addr} {H : Hp} (e : Each (fun f u H => Dp K H u (PF.d f)) fs us H) (hl : H l = none) (hp : upd H l (.tup us) p = none) : Dp K (upd (upd H l (.tup us)) p (.tup [.str "segment", .ref l])) (.ref p) (SF.seg fs).d := by
  have s2 := same_new (o := .tup us) hl
  have s3 := same_new (o := .tup [V.str (Str.ofString "segment"), V.ref l]) hp
  exact .tup (.inl (.inl upd_same)) (.cons (.str _) (.cons (.tup (.inl (.inl (s3 _ _ upd_same))) (each_dp (e.imp fun f u d => dp_mono (s2.trans s3) _ _ d))) .nil))
theorem SF.seg_inv {fs : List PF} {v : V} {H : Hp} (h : Dp K H v (SF.seg fs).d) : ∃ a t us, v = .ref a ∧ SqT K H a [.str "segment", .ref t] ∧ SqT K H t us ∧ Each (fun f u H => Dp K H u (PF.d f)) fs us H := by
  cases h with
  | tup hs ha => cases ha with | cons h1 ha => cases ha with | cons h2 ha =>
    cases ha; cases h1
    cases h2 with
    | tup ht hu => exact ⟨_, _, _, rfl, hs, ht, dp_each hu⟩
theorem SF.deep_inv {v : V} {H : Hp} (h : Dp K H v SF.deep.d) : ∃ a, v = .ref a ∧ SqT K H a [.str "deep"] := by
  cases h with | tup hs ha => cases ha with | cons h1 ha => cases ha; cases h1; exact ⟨_, rfl, hs⟩
theorem RF.inv {r : RF} {v : V} {H : Hp} (h : Dp K H v r.d) : ∃ a t us, v = .ref a ∧ SqT K H a [.ref t, .bl r.spares, .bl r.folders] ∧ SqT K H t us ∧ Each (fun f u H => Dp K H u (SF.d f)) r.steps us H := by
  cases h with
  | tup hs ha => cases ha with | cons h1 ha => cases ha with | cons h2 ha => cases ha with | cons h3 ha =>
    cases ha; cases h2; cases h3
    cases h1 with
    | tup ht hu => exact ⟨_, _, _, rfl, hs, ht, dp_each hu⟩
theorem RF.dok {r : RF} (h : r.Ok) : DOk 5 r.d := dok_tup (all_cons (dok_tup fun d hd => by
  obtain ⟨s, hs, rfl⟩ := List.mem_map.mp hd
  exact SF.dok (h.ok s hs)) (all_cons dok_bl (all_cons dok_bl all_nil)))
theorem RF.len1 {r : RF} (h : r.Ok) : r.steps.length ≤ 1000 := Nat.le_trans h.len (by decide)
theorem RF.len2 {r : RF} (h : r.Ok) (fs : List PF) (e : SF.seg fs ∈ r.steps) : fs.length ≤ 1000 := by
  have o : PartsOk fs := h.ok _ e
  exact Nat.le_trans o.len (by decide)

/-! ### rows as objects -/
theorem deep_iff {s : SF} : s.deepB = true ↔ s = .deep := by cases s <;> simp [SF.deepB]
def addS (acc : List SF) (f : SF) : Bool := decide (acc = []) || (!f.deepB || match acc.getLast? with
  | some g => !g.deepB
  | none => true)
def stepOne (acc : List SF) (f : SF) : List SF := if addS acc f = true then acc ++ [f] else acc
def normS (fs : List SF) : List SF := fs.foldl stepOne []
def dblS (m : Nat) (fs : List SF) : List SF := fs.flatMap fun f => List.replicate (1 + if f.deepB = true then m else 0) f
theorem stepOne_t {acc : List SF} {f : SF} (h : addS acc f = true) : stepOne acc f = acc ++ [f] := if_pos h
theorem stepOne_f {acc : List SF} {f : SF} (h : ¬ addS acc f = true) : stepOne acc f = acc := if_neg h
theorem stepS_take {fs : List SF} {k : Nat} {f : SF} (h : fs[k]? = some f) : (fs.take (k + 1)).foldl stepOne [] = stepOne ((fs.take k).foldl stepOne []) f := by
  rw [List.take_succ, h, List.foldl_append]
  rfl
theorem normS_rep {acc : List SF} {f : SF} (hm : f.deepB = true) (hl : acc.getLast? = some f) : ∀ n, (List.replicate n f).foldl stepOne acc = acc
  | 0 => rfl
  | n + 1 => by
    have e : stepOne acc f = acc := by
      unfold stepOne
      rw [if_neg]
      unfold addS
      rw [hl, hm]
      have : acc ≠ [] := fun e => by rw [e] at hl; cases hl
      simp [this, hm]
    show (List.replicate n f).foldl stepOne (stepOne acc f) = acc
    rw [e]
    exact normS_rep hm hl n
theorem normS_app {m : Nat} : ∀ (fs acc : List SF), NoTwoD (acc ++ fs) → (dblS m fs).foldl stepOne acc = acc ++ fs
  | [], acc, _ => (List.append_nil acc).symm
  | f :: fs, acc, h => by
    have e1 : dblS m (f :: fs) = List.replicate (1 + if f.deepB = true then m else 0) f ++ dblS m fs := rfl
    have e2 : stepOne acc f = acc ++ [f] := by
      unfold stepOne
      rw [if_pos]
      rcases List.eq_nil_or_concat acc with rfl | ⟨r, g, rfl⟩
      · rfl
      · have key : ∀ r : List SF, NoTwoD (r ++ g :: f :: fs) → ¬ (g = .deep ∧ f = .deep) := by
          intro r
          induction r with
          | nil => exact fun h => h.1
          | cons x r ih =>
            intro h
            cases r with
            | nil => exact ih h.2
            | cons y r => exact ih h.2
        have k := key r (by simpa using h)
        rw [← deep_iff, ← deep_iff] at k
        unfold addS
        rw [List.concat_eq_append, List.getLast?_append]
        cases h1 : f.deepB <;> cases h2 : g.deepB <;> simp [h1, h2] at k ⊢
    have e3 : (acc ++ [f]) ++ fs = acc ++ f :: fs := by simp
    rw [e1, List.foldl_append, Nat.add_comm, List.replicate_succ, List.foldl_cons, e2]
    cases hm : f.deepB with
    | true => rw [normS_rep hm (by simp) _, normS_app fs (acc ++ [f]) (by rw [e3]; exact h), e3]
    | false => rw [if_neg Bool.false_ne_true]; show (dblS m fs).foldl stepOne (acc ++ [f]) = _; rw [normS_app fs (acc ++ [f]) (by rw [e3]; exact h), e3]
theorem normS_dbl {m : Nat} {fs : List SF} (h : NoTwoD fs) : normS (dblS m fs) = fs := normS_app fs [] h
theorem dblS_zero : ∀ fs : List SF, dblS 0 fs = fs
  | [] => rfl
  | f :: r => by
    have e : dblS 0 (f :: r) = List.replicate (1 + if f.deepB = true then 0 else 0) f ++ dblS 0 r := rfl
    rw [e, dblS_zero r]
    simp
theorem normS_id {fs : List SF} (h : NoTwoD fs) : normS fs = fs := by
  have e := normS_dbl (m := 0) h
  rwa [dblS_zero] at e
theorem stepS_len : ∀ (l a : List SF), (l.foldl stepOne a).length ≤ a.length + l.length
  | [], a => Nat.le_refl _
  | y :: r, a => by
    refine Nat.le_trans (stepS_len r (stepOne a y)) ?_
    have e : (stepOne a y).length ≤ a.length + 1 := by
      unfold stepOne
      split
      · rw [List.length_append]; exact Nat.le_refl _
      · exact Nat.le_succ _
    rw [List.length_cons]
    omega
abbrev rowO (K : PySem.W.Frag) (dx t : Addr) (a b : Bool) : HO := .ins (fA K "Row") dx [("steps", .ref t), ("spares", .bl a), ("folders", .bl b)]
def RowV (K : PySem.W.Frag) (r : RF) (v : V) (H : Hp) : Prop := ∃ p dx t us, v = .ref p ∧ H p = some (rowO K dx t r.spares r.folders) ∧ H t = some (.tup us) ∧ Each (StepV K) r.steps us H ∧ r.steps ≠ []
theorem Each.nl {us : List V} {ss : List SF} {H H' : Hp} (h : Each (StepV K) ss us H) (e : NL H H') : Each (StepV K) ss us H' := h.imp fun _ _ s => s.nl e
theorem Each.mono {us : List V} {ss : List SF} {H H' : Hp} (h : Each (StepV K) ss us H) (e : Same H H') : Each (StepV K) ss us H' := h.nl (.of e)
theorem RowV.nl {r : RF} {v : V} {H H' : Hp} (h : RowV K r v H) (e : NL H H') : RowV K r v H' := by
  obtain ⟨p, dx, t, us, a, b, c, d, z⟩ := h
  exact ⟨p, dx, t, us, a, e _ _ b (fun _ z => nomatch z), e _ _ c (fun _ z => nomatch z), d.nl e, z⟩
theorem RowV.mono {r : RF} {v : V} {H H' : Hp} (h : RowV K r v H) (e : Same H H') : RowV K r v H' := h.nl (.of e)
def spRow (K : PySem.W.Frag) : Sp := fun vs H Q E => ∃ H0 p dx t us ss a b, vs = [.ref p, .ref t, .bl a, .bl b] ∧ H0 p = none ∧ Same H0 H ∧ (SqT K H0 t us ∨ SqL K H0 t us) ∧ Each (StepV K) ss us H0 ∧ ss.length ≤ 1000 ∧ H p = some (.ins (fA K "Row") dx []) ∧
  (ss ≠ [] → ∀ H' tt us', Same H0 H' → H' p = some (rowO K dx tt a b) → H' tt = some (.tup us') → Each (StepV K) (normS ss) us' H' → Q .non H') ∧ (ss = [] → E (.ref (fA K "NoPart")) none H)
theorem bd_Row___init__ (T : Txt K mg) : BodyQ P w K mg base 1 (mA K "Row" "__init__") "Row.__init__" (defBody TX.s_Row___init__) (defScope TX.s_Row___init__) N_Row___init__ (spRow K) := by
  rintro cdv A outer s H vs Q E hr ⟨H0, p, dx, t, us, ss, a, b, rfl, h0p, s0, ht, hp, hn, ho, q1, q2⟩
  refine ⟨_, (pss_cons (ps_if (pt_mid (pt_cmpR (o_eq (K := K) (hu64 hr)) (pe_callB (o_lenW (K := K) (w := w)) (by rfl) T.fr_len boot_len (pa_cons (pv 1) pa_nil)) pe_int (nomark _))) (pss_one (ps_raise rfl (takes_of rfl rfl rfl rfl) (pmk_own PySem.F.excBase_ValueError T.x_NoPart.1 T.g_NoPart T.x_NoPart.2.1 (raises_own T.x_NoPart.2.2.1 T.x_NoPart.2.2.2) rfl))) pss_nil)
  (pss_cons (ps_set (i := 4) sc_Row___init__.nd rfl (Or.inl rfl) (pe_lst pa_nil))
  (pss_cons (ps_mid (ps_for (passes_of rfl) rfl (pi_mid (o_it (K := K) rfl (pv 1))) (pg_name (i := 5) sc_Row___init__.nd rfl (Or.inl rfl)) (pss_one (ps_if (pt_mid (PW.pt (pw_or (pt_cmpR (o_eq (K := K) (hu64 hr)) (pv 4) (pe_lst pa_nil) (nomark _)) (pw_or (pt_not (pt_tru (K := K) (pe_metI0 (md_deep T) (pv 5) (hr.mono (by decide)) (pasE (takes_of rfl rfl rfl rfl) (fun _ _ _ _ h => h))) (by intro _; rfl))) (pw_or1 (pt_not (pt_tru (K := K) (pe_metI0 (md_deep T) (pe_ix (o_ix (K := K)) (pv 4) (pe_un un_neg pe_int) (fun _ _ => rfl)) (hr.mono (by decide)) (pasE (takes_of rfl rfl rfl rfl) (fun _ _ _ _ h => h))) (by intro _; rfl)))))))) (pss_one (ps_expr (pe_bmK (K := K) PySem.F.plainAttrs_list PySem.F.slot_list_append PySem.F.type_list_append mt_append (pv 4) (pa_cons (pe_mid (pv 5)) pa_nil)))) pss_nil))))
  (pss_cons (ps_fld (pv 0) (pe_mid (pe_callTy (o_tuple (K := K)) (by rfl) T.fr_tuple (by decide +kernel) (pa_cons (pv 4) pa_nil))) rfl)
  (pss_cons (ps_fld (pv 0) (pv 2) rfl)
  (pss_one (ps_fld (pv 0) (pv 3) rfl))))))), ?_⟩
  have tobj := T.obj
  have ht1 : SqT K H t us ∨ SqL K H t us := ht.imp (same_t s0) (same_l s0)
  refine q_if (fun b H' => H' = H ∧ b = decide (ss = [])) ?_ ?_ ?_
  · walk_at "rd"
    refine .inr ⟨_, len_seq ht1, ?_⟩
    rw [hp.1]
    refine decide_eq_decide.mpr ⟨fun h => List.length_eq_zero_iff.mp (by omega), fun h => by rw [h]; rfl⟩
  · rintro _ ⟨rfl, hb⟩
    walk_at "rd"
    exact q2 (of_decide_eq_true hb.symm)
  rintro _ ⟨rfl, hb⟩
  have hne : ss ≠ [] := of_decide_eq_false hb.symm
  rename_i H
  refine q_new fun F hF => ?_
  have hF0 : H0 F = none := by
    cases e : H0 F with
    | none => rfl
    | some o => rw [s0 _ _ e] at hF; cases hF
  have hFp : F ≠ p := fun e => by rw [e, ho] at hF; cases hF
  obtain ⟨J0, G, hw, wk, hG⟩ := seq_walk ht
  have sF : Same H (upd H F (.lst [])) := same_new hF
  refine q_stm (fun σ H' => ∃ acc x, σ = [some (.ref p), some (.ref t), some (.bl a), some (.bl b), some (.ref F), x] ∧ Same H0 H' ∧ H' p = some (.ins (fA K "Row") dx []) ∧ H' F = some (.lst acc) ∧ Each (StepV K) (normS ss) acc H0) ?_ ?_
  · refine for_mid (J0 := J0) (H0 := upd H F (.lst [])) (hw _ _ _ rfl (s0.trans sF)) wk
      (fun k σ H' => ∃ acc x, σ = [some (.ref p), some (.ref t), some (.bl a), some (.bl b), some (.ref F), x] ∧ Same H0 H' ∧ H' p = some (.ins (fA K "Row") dx []) ∧ H' F = some (.lst acc) ∧ Each (StepV K) ((ss.take k).foldl stepOne []) acc H0)
      ⟨[], none, rfl, s0.trans sF, sF _ _ ho, upd_same, .nil⟩ (fun k σ H' _ ⟨_, _, _, s, _⟩ => hG H' s) ?_ (fun σ H' h => ?_)
    · rintro k x σ H1 H1' hk ⟨acc, x0, rfl, sm, ho1, hl, pv⟩ ⟨rfl, hx⟩
      obtain ⟨f, hf, hu⟩ := hp.at' hx
      have hu1 := hu.mono sm
      have len : acc.length ≤ ss.length := by
        rw [pv.1]
        have a := stepS_len (ss.take k) []
        have b := List.length_take_le' k ss
        simp only [List.length_nil, Nat.zero_add] at a
        omega
      refine l_if (fun b H' => Same H1' H' ∧ b = addS ((ss.take k).foldl stepOne []) f) ?_ ?_ ?_
      · walk_at "rd"
        intro n hn0
        have sn : Same H1' (upd H1' n (.lst [])) := same_new hn0
        have hln := sn _ _ hl
        have hun := hu1.mono sn
        have eacc : acc = [] ↔ (ss.take k).foldl stepOne [] = [] := by
          rw [← List.length_eq_zero_iff, ← List.length_eq_zero_iff, pv.1]
        generalize ha0 : (ss.take k).foldl stepOne [] = a0 at *
        refine eq_nil (.inl (.inl hln)) (.inl (.inl upd_same)) ⟨_, rfl, ite2 (fun h => ?_) fun h => ?_⟩
        · refine ⟨sn, ?_⟩
          unfold addS
          rw [decide_eq_true (eacc.mp (of_decide_eq_true h))]
          rfl
        have hna : a0 ≠ [] := fun e => h (decide_eq_true (eacc.mpr e))
        have e0 : addS a0 f = (!f.deepB || match a0.getLast? with
          | some g => !g.deepB
          | none => true) := by
          unfold addS
          rw [decide_eq_false hna]
          rfl
        refine ⟨f, hun, x, rfl, hun, _, rfl, ite2 (fun hm => ⟨sn, ?_⟩) fun hm => ?_⟩
        · rw [e0, hm]; rfl
        obtain ⟨g, hg⟩ : ∃ g, a0.getLast? = some g := by
          cases e : a0.getLast? with
          | none => exact absurd (List.getLast?_eq_none_iff.mp e) hna
          | some g => exact ⟨g, rfl⟩
        have hg' := hg
        rw [List.getLast?_eq_getElem?] at hg'
        obtain ⟨u, h1, h2⟩ := pv.2 _ g hg'
        have h2n := h2.mono (sm.trans sn)
        have hlast : acc.getLast? = some u := by rw [List.getLast?_eq_getElem?, pv.1]; exact h1
        refine ⟨acc, .inl (.inl (.inl hln)), u, atI_last hlast, g, h2n, u, rfl, h2n, _, rfl, sn, ?_⟩
        have hm' : f.deepB = true := by simpa using hm
        rw [e0, hm', hg]
        rfl
      · rintro H2 ⟨s2, hb⟩
        have hl2 := s2 _ _ hl
        have ne1 : p ≠ F := fun e => hFp e.symm
        refine l_appV rfl rfl hl2 (by omega) ⟨acc ++ [x], _, rfl, same_mut (sm.trans s2) hF0, ?_, upd_same, ?_⟩
        · rw [upd_ne ne1]; exact s2 _ _ ho1
        rw [stepS_take hf, stepOne_t hb.symm]
        exact pv.snoc hu
      · rintro H2 ⟨s2, hb⟩
        refine ⟨acc, _, rfl, sm.trans s2, s2 _ _ ho1, s2 _ _ hl, ?_⟩
        rw [stepS_take hf, stepOne_f (by rw [← hb]; exact Bool.false_ne_true)]
        exact pv
    · obtain ⟨acc, x, e, sm, ho1, hl, pv⟩ := h
      rw [List.take_of_length_le (by rw [hp.1]; exact Nat.le_refl _)] at pv
      exact ⟨acc, x, e, sm, ho1, hl, pv⟩
  · rintro σ H1 ⟨acc, x, rfl, sm, ho1, hl, pv⟩
    walk_at "rd"
    refine mid_of (fun v H' => ∃ tt, v = .ref tt ∧ H1 tt = none ∧ H' = upd H1 tt (.tup acc)) ?_ ?_
    · walk_at "rd"
      exact ⟨acc, .inl ⟨.inl (.inl hl), fun l h => ⟨h, rfl⟩⟩⟩
    · rintro _ _ ⟨tt, rfl, htt, rfl⟩
      have st : Same H1 (upd H1 tt (.tup acc)) := same_new htt
      have ho2 := st _ _ ho1
      have ntp : tt ≠ p := fun e => by rw [e, ho1] at htt; cases htt
      walk_at "rdh"
      have s5 : Same H0 (upd (upd H1 tt (.tup acc)) p (rowO K dx tt a b)) := same_mut (sm.trans st) h0p
      refine q1 hne _ tt acc s5 upd_same ?_ (pv.mono s5)
      rw [upd_ne ntp]
      exact upd_same
theorem ok_Row___init___1 (T : Txt K mg) : OkD P w K mg base 2 (mA K "Row" "__init__") ["self", "steps", "spares", "folders"] [V.bl false, V.bl false] (spRow K) := okDd T.F_Row___init__ sc_Row___init__ 2 0 (fun q => nomatch q) rfl (fun _ _ _ _ _ _ _ us its hl hi => match us, hl, its, hi with | [_, _], _, [_, _], _ => ⟨_, rfl, rfl⟩) (by rintro vs H Q E ⟨H0, p, dx, t, us, ss, a, b, rfl, _⟩; rfl) (bd_Row___init__ T)
theorem ok_Row___init___2 (T : Txt K mg) : OkD P w K mg base 2 (mA K "Row" "__init__") ["self", "steps", "spares", "folders"] [V.bl false] (spRow K) := okDd T.F_Row___init__ sc_Row___init__ 3 1 (fun q => nomatch q) rfl (fun _ _ _ _ _ _ _ us its hl hi => match us, hl, its, hi with | [_, _, _], _, [_, _], _ => ⟨_, rfl, rfl⟩) (by rintro vs H Q E ⟨H0, p, dx, t, us, ss, a, b, rfl, _⟩; rfl) (bd_Row___init__ T)
theorem ok_Row___init__ (T : Txt K mg) : OkD P w K mg base 2 (mA K "Row" "__init__") ["self", "steps", "spares", "folders"] [] (spRow K) := okDd T.F_Row___init__ sc_Row___init__ 4 2 (fun q => nomatch q) rfl (fun _ _ _ _ _ _ _ us its hl hi => match us, hl, its, hi with | [_, _, _, _], _, [_, _], _ => ⟨_, rfl, rfl⟩) (by rintro vs H Q E ⟨H0, p, dx, t, us, ss, a, b, rfl, _⟩; rfl) (bd_Row___init__ T)
theorem okk_Row___init___folders_spares (T : Txt K mg) : OkKr P w K mg base 2 (mA K "Row" "__init__") ["self", "steps", "spares", "folders"] 2 ["folders", "spares"] (spRow K) := okKr T.F_Row___init__ sc_Row___init__ 2 ["folders", "spares"] (fun q => nomatch q) (fun _ _ _ _ _ _ _ us its ws hl hi hw => match us, hl, its, hi, ws, hw with | [_, _], _, [_, _], _, [_, _], _ => ⟨_, rfl, rfl⟩) (by rintro vs H Q E ⟨H0, p, dx, t, us, ss, a, b, rfl, _⟩; rfl) (bd_Row___init__ T)
theorem normS_ne {ss : List SF} (h : ss ≠ []) : normS ss ≠ [] := by
  have key : ∀ (l acc : List SF), acc ≠ [] → l.foldl stepOne acc ≠ [] := by
    intro l
    induction l with
    | nil => exact fun _ h => h
    | cons f r ih =>
      intro acc h
      refine ih (stepOne acc f) ?_
      unfold stepOne
      split
      · simp
      · exact h
  cases ss with
  | nil => exact absurd rfl h
  | cons f r => exact key r (stepOne [] f) (by unfold stepOne addS; simp)
theorem row_make {H1 : Hp} {l : Addr} {us : List V} {ss : List SF} {a b : Bool} {R : Addr → Hp → Prop} {E : XK} (ht : SqT K H1 l us ∨ SqL K H1 l us) (hp : Each (StepV K) ss us H1) (hn : ss.length ≤ 1000) (hne : ss ≠ []) (q : ∀ x H', Same H1 H' → RowV K ⟨normS ss, a, b⟩ (.ref x) H' → R x H') :
    ∀ x dx, H1 x = none → H1 dx = none → ¬ dx = x → spRow K [.ref x, .ref l, .bl a, .bl b] (upd (upd H1 dx (.own x)) x (.ins (fA K "Row") dx [])) (fun v H3 => v = .non ∧ R x H3) E :=
  fun x dx hx hdx hxd => ⟨H1, x, dx, l, us, ss, a, b, rfl, hx, new_two hx hdx hxd, ht, hp, hn, upd_same, fun _ H' tt us' s h1 h2 h3 => ⟨rfl, q _ H' s ⟨x, dx, tt, us', rfl, h1, h2, h3, normS_ne hne⟩⟩, fun e => absurd e hne⟩

/-! ### what rows tell -/
section
variable {X : Cx}
end
/-! ### drawn rows, rows made -/
def RF.Low (r : RF) : Prop := ∀ fs, SF.seg fs ∈ r.steps → ∀ f ∈ fs, f.Low
theorem range4 {i : Int} {Q : V → Prop} (h : ∀ n : Nat, 1 ≤ n → n ≤ 3 → Q (.int n)) : ∃ v, atI [V.int 1, V.int 2, V.int 2, V.int 3] (i % 4) = some v ∧ Q v := by
  have h0 : 0 ≤ i % 4 := Int.emod_nonneg _ (by decide)
  have h1 : i % 4 < 4 := Int.emod_lt_of_pos _ (by decide)
  have : i % 4 = 0 ∨ i % 4 = 1 ∨ i % 4 = 2 ∨ i % 4 = 3 := by omega
  rcases this with e | e | e | e <;> rw [e]
  · exact ⟨_, rfl, h 1 (by decide) (by decide)⟩
  · exact ⟨_, rfl, h 2 (by decide) (by decide)⟩
  · exact ⟨_, rfl, h 2 (by decide) (by decide)⟩
  · exact ⟨_, rfl, h 3 (by decide) (by decide)⟩
def spRowL (K : PySem.W.Frag) : Sp := fun vs H Q _ => ∃ c p ws, vs = [.int c, .ref p] ∧ SqL K H p ws ∧ ws.length = 4 ∧ (∀ v ∈ ws, SignV v) ∧ ∀ v r H', RF.Ok r → r.Low → r.steps.length ≤ 3 → Same H H' → Dp K H' v r.d → Q v H'
theorem ok__law_row (T : Txt K mg) : OkD P w K mg base 3 (fA K "_law_row") ["_law_cell_here", "_law_signs_here"] [] (spRowL K) := by
  refine okD T.F__law_row sc__law_row (fun _ _ _ _ _ _ us hl => match us, hl with | [_, _], _ => rfl) ?_ ?_
  · rintro vs H Q E ⟨c, p, ws, rfl, _⟩
    rfl
  · rintro cdv A outer s H vs Q E hr ⟨c, p, ws, rfl, hs, hl, hw, q⟩
    refine ⟨_, (pss_cons (ps_set (i := 2) sc__law_row.nd rfl (Or.inl rfl) (pe_lst pa_nil))
  (pss_cons (ps_mid (ps_for (passes_of rfl) rfl (pi_mid (pi_range1 rfl T.fr_range (pa_cons (pe_ix (o_ix (K := K)) (pe_lst (pa_cons pe_int (pa_cons pe_int (pa_cons pe_int (pa_cons pe_int pa_nil))))) (pe_op op_mod (pv 0) pe_int) (fun _ _ => rfl)) pa_nil))) (pg_name (i := 3) sc__law_row.nd rfl (Or.inl rfl)) (pss_cons (ps_set (i := 4) sc__law_row.nd rfl (Or.inl rfl) (pe_mid (pe_cal (ok__law_mixed T) (hr.mono (by decide)) rfl T.g__law_mixed (pasE (takes_of rfl rfl rfl rfl) (fun _ _ _ _ h => h)) (pa_cons (pv 0) (pa_cons (pe_op (o_add (K := K)) pe_int (pv 3)) pa_nil)))))
  (pss_one (ps_if (pt_mid (PW.pt (pw_and (pt_cmpR (o_eq (K := K) (hu64 hr)) (pe_op op_mod (pv 4) pe_int) pe_int (nomark _)) (pw_and1 (pt_cmpR (o_notin (K := K) (hu65 hr)) (pe_tup (pa_cons pe_str pa_nil)) (pe_slice (o_sl (K := K)) (pv 2) (po_some (pe_un un_neg pe_int)) po_none) (by rfl)))))) (pss_one (ps_expr (pe_bmK (K := K) PySem.F.plainAttrs_list PySem.F.slot_list_append PySem.F.type_list_append mt_append (pv 2) (pa_cons (pe_mid (pe_tup (pa_cons pe_str pa_nil))) pa_nil)))) (pss_one (ps_expr (pe_bmK (K := K) PySem.F.plainAttrs_list PySem.F.slot_list_append PySem.F.type_list_append mt_append (pv 2) (pa_cons (pe_mid (pe_cal (ok__law_segment T) (hr.mono (by decide)) rfl T.g__law_segment (pasE (takes_of rfl rfl rfl rfl) (fun _ _ _ _ h => h)) (pa_cons (pe_op op_fdivW (pv 4) pe_int) (pa_cons (pv 1) pa_nil)))) pa_nil)))))))))
  (pss_one (ps_ret (pe_tup (pa_cons (pe_callTy (o_tuple (K := K)) (by rfl) T.fr_tuple (by decide +kernel) (pa_cons (pv 2) pa_nil)) (pa_cons (pe_cmpR (o_eq (K := K) (hu64 hr)) (pe_op op_mod (pe_op op_fdivW (pv 0) pe_int) pe_int) pe_int (nomark _)) (pa_cons (pe_cmpR (o_eq (K := K) (hu64 hr)) (pe_op op_mod (pe_op op_fdivW (pv 0) pe_int) pe_int) pe_int (nomark _)) pa_nil)))))))), ?_⟩
    have tobj := T.obj
    refine q_new fun L hL => ?_
    have sL := same_new (o := .lst []) hL
    refine q_stm (fun σ H' => ∃ ss us x1 x2, σ = [some (.int c), some (.ref p), some (.ref L), x1, x2] ∧ Same H H' ∧ H' L = some (.lst us) ∧ Each (fun f u H => Dp K H u (SF.d f)) ss us H' ∧ ss ≠ [] ∧ (∀ s ∈ ss, s.Ok) ∧ NoTwoD ss ∧ ss.length ≤ 3 ∧ ∀ fs, SF.seg fs ∈ ss → ∀ f ∈ fs, f.Low) ?_ ?_
    · refine for_open (fun J H' => ∃ n : Nat, J = Itr 0 n ∧ Same (upd H L (.lst [])) H' ∧ 1 ≤ n ∧ n ≤ 3) ?_ ?_
      · walk_at "rd"
        intro p' hp'
        exact ⟨_, .inl (.inl (.inl upd_same)), range4 (Q := fun v => ∃ j, v = V.int j ∧ _) fun n h1 h3 => ⟨n, rfl, by omega, by omega, n, rfl, same_new hp', h1, h3⟩⟩
      rintro _ H0 ⟨n, rfl, s0, hn1, hn3⟩
      have s00 := sL.trans s0
      refine for_mid (J0 := Itr 0 n) (H0 := H0) ⟨rfl, rfl⟩ walk_range
        (fun k σ H' => ∃ ss us x1 x2, σ = [some (.int c), some (.ref p), some (.ref L), x1, x2] ∧ Same H H' ∧ H' L = some (.lst us) ∧ Each (fun f u H => Dp K H u (SF.d f)) ss us H' ∧ (0 < k → ss ≠ []) ∧ (∀ s ∈ ss, s.Ok) ∧ NoTwoD ss ∧ ss.length ≤ k ∧ ∀ fs, SF.seg fs ∈ ss → ∀ f ∈ fs, f.Low)
        ⟨[], [], none, none, rfl, s00, s0 _ _ upd_same, .nil, fun h => absurd h (by decide), fun _ h => (nomatch h), trivial, Nat.le_refl _, fun _ h => nomatch h⟩ (fun _ _ _ _ _ => trivial) ?_ (fun σ H' h => ?_)
      · rintro k x σ H1 H1' hk ⟨ss, us, x1, x2, rfl, sm, hl1, each, ne, oks, two, len, low⟩ ⟨rfl, rfl⟩
        refine q_mid (fun m => 0 ≤ m ∧ m < 2147483647) ?_ fun mk hmk => ?_
        · walk_at "rd"
          exact ⟨c, _, rfl, fun m h1 h2 => ⟨rfl, m, rfl, h1, h2⟩⟩
        refine l_if (fun b H' => Same H1' H' ∧ (b = true → ss.getLast? ≠ some .deep)) ?_ ?_ ?_
        · walk_at "rd"
          refine ite2 (fun _ => ?_) fun _ h => h.elim
          exact deep_test (R := fun k H' => Same H1' H' ∧ (k = true → ¬ss.getLast? = some SF.deep)) hl1 each oks fun b H' s h => ⟨s, h⟩
        · rintro H3 ⟨s3, hb⟩
          have hL3 := s3 _ _ hl1
          refine l_app rfl hL3 ?_
          walk_at "rd"
          intro p' hp'
          have sp := same_new (o := .tup [V.str (Str.ofString "deep")]) hp'
          have s13 := (sm.trans s3).trans sp
          refine ⟨us, sp _ _ hL3, by rw [each.1]; omega, same_mut s13 hL, ss ++ [.deep], _, upd_same, forms_snoc (sp _ _ hL3) (each.imp fun f u d => dp_mono (s3.trans sp) _ _ d) (.tup (.inl (.inl upd_same)) (.cons (.str _) .nil)), fun _ => by simp, fun s h => ?_, twoD_snoc two fun _ => hb rfl, ?_, fun fs h => ?_⟩
          · exact (List.mem_append.mp h).elim (oks s) fun e => by rw [List.mem_singleton.mp e]; trivial
          · rw [List.length_append]; exact Nat.succ_le_succ len
          · exact (List.mem_append.mp h).elim (low fs) fun e => nomatch (List.mem_singleton.mp e)
        · rintro H3 ⟨s3, hb⟩
          have hL3 := s3 _ _ hl1
          refine l_app rfl hL3 ?_
          walk_at "rd"
          refine ⟨⟨by decide, by decide⟩, mk / 5, p, ws, rfl, same_l (sm.trans s3) hs, hl, hw, fun v fs H4 okf _ lo s4 d => ⟨us, s4 _ _ hL3, by rw [each.1]; omega, same_mut ((sm.trans s3).trans s4) hL, ss ++ [.seg fs], _, upd_same, forms_snoc (s4 _ _ hL3) (each.imp fun f u d => dp_mono (s3.trans s4) _ _ d) d, fun _ => by simp, fun s h => ?_, twoD_snoc two (fun e => nomatch e), ?_, fun gs h => ?_⟩⟩
          · exact (List.mem_append.mp h).elim (oks s) fun e => by rw [List.mem_singleton.mp e]; exact okf
          · rw [List.length_append]; exact Nat.succ_le_succ len
          · exact (List.mem_append.mp h).elim (low gs) fun e => by cases List.mem_singleton.mp e; exact lo
      · obtain ⟨ss, us, x1, x2, e, s1, h1, h2, h3, h4, h5, h6, h7⟩ := h
        exact ⟨ss, us, x1, x2, e, s1, h1, h2, h3 (by omega), h4, h5, by omega, h7⟩
    · rintro σ H1 ⟨ss, us, x1, x2, rfl, s1, h1, h2, h3, h4, h5, h6, h7⟩
      walk_at "rd"
      refine ⟨us, .inl ⟨.inl (.inl h1), fun l hl' => ⟨⟨by decide, by decide⟩, ⟨by decide, by decide⟩, fun p' hp' => ?_⟩⟩⟩
      exact q _ ⟨ss, _, _⟩ _ ⟨h3, h4, h5, Nat.le_trans h6 (by decide)⟩ h7 h6 ((s1.trans (same_new hl')).trans (same_new hp')) (row_d (r := ⟨ss, _, _⟩) h2 hl' hp')
def spRowMade (K : PySem.W.Frag) : Sp := fun vs H Q _ => ∃ v r, vs = [v] ∧ Dp K H v (RF.d r) ∧ RF.Ok r ∧ ∀ u H', Same H H' → RowV K r u H' → Q u H'
theorem ok__law_row_made (T : Txt K mg) : OkD P w K mg base 5 (fA K "_law_row_made") ["_law_form"] [] (spRowMade K) := by
  refine okD T.F__law_row_made sc__law_row_made (fun _ _ _ _ _ _ us hl => match us, hl with | [_], _ => rfl) ?_ ?_
  · rintro vs H Q E ⟨v, r, rfl, _⟩
    rfl
  · rintro cdv A outer s H vs Q E hr ⟨v, r, rfl, hd, ok, q⟩
    refine ⟨_, (pss_cons (ps_set (i := 1) sc__law_row_made.nd rfl (Or.inl rfl) (pe_lst pa_nil))
  (pss_cons (ps_mid (ps_for (passes_of rfl) rfl (pi_mid (o_it (K := K) rfl (pe_ix (o_ix (K := K)) (pv 0) pe_int (fun _ _ => rfl)))) (pg_name (i := 2) sc__law_row_made.nd rfl (Or.inl rfl)) (pss_one (ps_if (pt_mid (pt_cmpR (o_eq (K := K) (hu64 hr)) (pe_ix (o_ix (K := K)) (pv 2) pe_int (fun _ _ => rfl)) pe_str (nomark _))) (pss_one (ps_expr (pe_bmK (K := K) PySem.F.plainAttrs_list PySem.F.slot_list_append PySem.F.type_list_append mt_append (pv 1) (pa_cons (pe_mid (pe_makN T.mn_Deep rfl T.g_Deep)) pa_nil)))) (pss_one (ps_expr (pe_bmK (K := K) PySem.F.plainAttrs_list PySem.F.slot_list_append PySem.F.type_list_append mt_append (pv 1) (pa_cons (pe_mid (pe_mak T.mk_Segment (ok_Segment___init__ T) (hr.mono (by decide)) rfl T.g_Segment (pasE (takes_of rfl rfl rfl rfl) (fun _ _ _ _ h => h)) (pa_cons (pe_callTy (o_tuple (K := K)) (by rfl) T.fr_tuple (by decide +kernel) (pa_cons (pe_lc (own := [("_law_part_here", 3)]) (g := (gName 3)) (tt := tYes) rfl sc__law_row_made.nd (pi_mid (o_it (K := K) rfl (pe_ix (o_ix (K := K)) (pv 2) pe_int (fun _ _ => rfl)))) (blkOk_by (N := N__law_row_made) (sc := defScope TX.s__law_row_made) (by decide +kernel)) (fun _ _ _ _ _ => (pg_name (i := 3) sc__law_row_made.nd rfl (Or.inl rfl))) (fun _ _ _ _ _ => pts_nil) (fun _ _ _ _ _ => (pe_mid (pe_cal (ok__law_part_made T) (hr.mono (by decide)) rfl T.g__law_part_made pasN (pa_cons (pv 3) pa_nil))))) pa_nil)) pa_nil))) pa_nil))))))))
  (pss_one (ps_ret (pe_mak T.mk_Row (ok_Row___init__ T) (hr.mono (by decide)) rfl T.g_Row (pasE (takes_of rfl rfl rfl rfl) (fun _ _ _ _ h => h)) (pa_cons (pe_callTy (o_tuple (K := K)) (by rfl) T.fr_tuple (by decide +kernel) (pa_cons (pv 1) pa_nil)) (pa_cons (pe_ix (o_ix (K := K)) (pv 0) pe_int (fun _ _ => rfl)) (pa_cons (pe_ix (o_ix (K := K)) (pv 0) pe_int (fun _ _ => rfl)) pa_nil)))))))), ?_⟩
    have tobj := T.obj
    obtain ⟨a, t, ts, rfl, ha, ht, each⟩ := RF.inv hd
    refine q_new fun L hL => ?_
    have sL := same_new (o := .lst []) hL
    refine q_stm (fun σ H' => ∃ us x2 x3, σ = [some (.ref a), some (.ref L), x2, x3] ∧ Same H H' ∧ H' L = some (.lst us) ∧ Each (StepV K) r.steps us H') ?_ ?_
    · refine for_mid (J0 := Itt K t) (H0 := upd H L (.lst [])) ?_ (walk_tup (K := K) (a := t) (xs := ts))
        (fun k σ H' => ∃ us x2 x3, σ = [some (.ref a), some (.ref L), x2, x3] ∧ Same H H' ∧ H' L = some (.lst us) ∧ Each (StepV K) (r.steps.take k) us H')
        ⟨[], none, none, rfl, sL, upd_same, .nil⟩ (fun k σ H' _ ⟨_, _, _, _, s3, _⟩ => same_t s3 ht) ?_ (fun σ H' h => ?_)
      · have ha1 := same_t sL ha
        have ht1 := same_t sL ht
        walk_at "rdx"
        exact .inr ⟨ts, ht1⟩
      · rintro k x σ H1 H1' hk ⟨us, x2, x3, rfl, sm, hl1, es⟩ ⟨rfl, hx⟩
        obtain ⟨f, hf, hdf⟩ := each.at' hx
        have hd1 := dp_mono sm _ _ hdf
        have hok := ok.ok f (List.mem_of_getElem? hf)
        have hlen : us.length ≤ 12 := by
          rw [es.1]
          have := ok.len
          have := List.length_take_le' k r.steps
          omega
        have tk : r.steps.take (k + 1) = r.steps.take k ++ [f] := by rw [List.take_succ, hf]; rfl
        have fin : ∀ (y : V) (H5 : Hp), Same H1' H5 → StepV K f y H5 → ∃ ys, H5 L = some (.lst ys) ∧ ys.length < 16777216 ∧ Same H (upd H5 L (.lst (ys ++ [y]))) ∧ ∃ us, upd H5 L (.lst (ys ++ [y])) L = some (.lst us) ∧ Each (StepV K) (r.steps.take (k + 1)) us (upd H5 L (.lst (ys ++ [y]))) := by
          intro y H5 s5 hy
          have hl5 := s5 _ _ hl1
          refine ⟨us, hl5, by omega, same_mut (sm.trans s5) hL, us ++ [y], upd_same, ?_⟩
          rw [tk]
          exact ((es.mono s5).nl (nl_upd hl5)).snoc (hy.nl (nl_upd hl5))
        cases f with
        | deep =>
          obtain ⟨va, rfl, hv⟩ := SF.deep_inv hd1
          refine l_if (fun b H' => b = true ∧ H' = H1') (by walk_at "rdx") (fun H5 h => ?_) (fun H1 h => nomatch h.1)
          obtain ⟨_, rfl⟩ := h
          refine l_app rfl hl1 ?_
          walk_at "rd"
          intro x dx hx' hdx hne
          exact fin _ _ (new_two hx' hdx hne) ⟨x, dx, rfl, upd_same⟩
        | seg fs =>
          obtain ⟨va, t1, us1, rfl, hv, ht1, each1⟩ := SF.seg_inv hd1
          have okf : PartsOk fs := hok
          refine l_if (fun b H' => b = false ∧ H' = H1') (by walk_at "rdx") (fun H1 h => nomatch h.1) (fun H5 h => ?_)
          obtain ⟨_, rfl⟩ := h
          refine l_app rfl hl1 ?_
          walk_at "rd"
          refine lc_midM (J0 := Itt K t1) (H0 := H5) ?_ (walk_tup (K := K) (a := t1) (xs := us1)) (by rw [each1.1]; have := okf.len; omega) (fun k acc H' => Each (PartV K) (fs.take k) acc H') (fun k acc Ha Hb e h => h.imp fun f u d => d.nl e) .nil (fun H' s => same_t s ht1) (fun _ _ _ _ y => y_at y) (fun _ => rfl) ?_ ?_
          · walk_at "rdx"
            exact .inr ⟨us1, ht1⟩
          · rintro j x acc H' H'' hj s6 hc ⟨rfl, hx⟩
            obtain ⟨f, hf1, df⟩ := each1.at' hx
            refine mid_of (fun u H4 => Same H'' H4 ∧ PartV K f u H4) ?_ ?_
            · walk_at "rd"
              exact ⟨x, f, rfl, dp_mono s6 _ _ df, okf.ok f (List.mem_of_getElem? hf1), fun u H4 s h => ⟨s, h⟩⟩
            · rintro u H4 ⟨s4, h⟩
              refine ⟨s4, ?_⟩
              rw [List.take_succ, hf1]
              exact (hc.imp fun f u d => d.mono s4).snoc h
          · intro l acc H6 hl6 s6 hD6 hlen6 hc
            rw [List.take_of_length_le (by rw [each1.1]; exact Nat.le_refl _)] at hc
            walk_at "rd"
            refine ⟨acc, .inl ⟨.inl (.inl hD6), fun l' hl' => ?_⟩⟩
            have s7 := same_new (o := .tup acc) hl'
            exact seg_make (.inl (.inl (.inl upd_same))) ((parts_each.mpr hc).mono s7) (Nat.le_trans okf.len (by decide)) okf.ne fun v H' s h => fin _ H' ((s6.trans s7).trans s) (by rw [normP_id okf.two] at h; exact h)
      · obtain ⟨us, x2, x3, e, s1, h1, h2⟩ := h
        rw [List.take_of_length_le (by rw [each.1]; exact Nat.le_refl _)] at h2
        exact ⟨us, x2, x3, e, s1, h1, h2⟩
    · rintro σ H1 ⟨us, x2, x3, rfl, s1, h1, h2⟩
      have ha1 := same_t s1 ha
      walk_at "rdx"
      refine ⟨us, .inl ⟨.inl (.inl h1), fun l hl' => ?_⟩⟩
      have s2 := same_new (o := .tup us) hl'
      have ha2 := same_t s2 ha1
      refine ⟨_, .inr ha2, _, rfl, _, .inr ha2, _, rfl, ?_⟩
      refine row_make (.inl (.inl (.inl upd_same))) (h2.mono s2) (Nat.le_trans ok.len (by decide)) ok.ne fun v H' s h => ?_
      rw [normS_id ok.two] at h
      exact q _ H' ((s1.trans s2).trans s) h

/-! ### signs that a part fits -/
def FOk (f : PF) : Prop := f.Ok ∧ f.Low
def WsOk (ws : List V) : Prop := ws.Nodup
theorem ws_out {cs l : List Nat} (hc : cs.length = 4) (hn : cs.Nodup) (h : l.length ≤ 3) : ∃ c ∈ cs, c ∉ l := by
  refine Classical.byContradiction fun n => ?_
  have a : ∀ c ∈ cs, c ∈ l := fun c hc => Classical.byContradiction fun q => n ⟨c, hc, q⟩
  have e := nat_nodup_len cs l hn a
  omega
def spFilled (K : PySem.W.Frag) : Sp := fun vs H Q _ => ∃ v c p ws f, vs = [v, .int c, .ref p] ∧ Dp K H v (PF.d f) ∧ FOk f ∧ SqL K H p ws ∧ ws.length = 4 ∧ WsOk ws ∧ (∀ v ∈ ws, SignV v) ∧ ∀ l H', l.length ≤ 2 → (∀ c ∈ l, c ∈ SIG) → Same H H' → Q (.str (S l)) H'
theorem ok__law_filled (T : Txt K mg) : OkD P w K mg base 1 (fA K "_law_filled") ["_law_part_here", "_law_cell_here", "_law_signs_here"] [] (spFilled K) := by
  refine okD T.F__law_filled sc__law_filled (fun _ _ _ _ _ _ us hl => match us, hl with | [_, _, _], _ => rfl) ?_ ?_
  · rintro vs H Q E ⟨v, c, p, ws, f, rfl, _⟩
    rfl
  · rintro cdv A outer s H vs Q E hr ⟨v, c, p, ws, f, rfl, hd, okl, hs, hl, wsd, hw, q⟩
    have ok : f.Ok := okl.1
    have wsd : ws.Nodup := wsd
    refine ⟨_, (pss_cons (ps_if (pt_mid (pt_cmpR (o_eq (K := K) (hu64 hr)) (pe_ix (o_ix (K := K)) (pv 0) pe_int (fun _ _ => rfl)) pe_str (nomark _))) (pss_one (ps_ret (pe_ix (o_ix (K := K)) (pv 0) pe_int (fun _ _ => rfl)))) pss_nil)
  (pss_cons (ps_if (pt_mid (pt_cmpR (o_eq (K := K) (hu64 hr)) (pe_ix (o_ix (K := K)) (pv 0) pe_int (fun _ _ => rfl)) pe_str (nomark _))) (pss_one (ps_ret (pe_ix (o_ix (K := K)) (pv 2) (pe_op op_mod (pv 1) pe_int) (fun _ _ => rfl)))) pss_nil)
  (pss_cons (ps_if (pt_mid (pt_cmpR (o_eq (K := K) (hu64 hr)) (pe_ix (o_ix (K := K)) (pv 0) pe_int (fun _ _ => rfl)) pe_str (nomark _))) (pss_cons (ps_set (i := 3) sc__law_filled.nd rfl (Or.inl rfl) (pe_mid (pe_op (o_add (K := K)) (pe_ix (o_ix (K := K)) (pv 2) (pe_op op_mod (pv 1) pe_int) (fun _ _ => rfl)) (pe_ix (o_ix (K := K)) (pv 2) (pe_op op_mod (pe_op op_fdivW (pv 1) pe_int) pe_int) (fun _ _ => rfl)))))
  (pss_one (ps_ret (pe_slice (o_sl (K := K)) (pv 3) po_none (po_some (pe_op op_mod (pe_op op_fdivW (pv 1) pe_int) pe_int)))))) pss_nil)
  (pss_cons (ps_if (pt_mid (pt_tru (K := K) (pe_ix (o_ix (K := K)) (pv 0) pe_int (fun _ _ => rfl)) (by intro _; rfl))) (pss_cons (ps_setLc (own := [("_law_sign", 4)]) (g := (gName 4)) (i := 3) rfl sc__law_filled.nd rfl rfl (sw_true rfl rfl rfl (by decide +kernel)) (pi_mid (o_it (K := K) rfl (pv 2))) (blkOk_by (N := N__law_filled) (sc := defScope TX.s__law_filled) (by decide +kernel)) (fun _ _ _ _ _ => (pg_name (i := 4) sc__law_filled.nd rfl (Or.inl rfl))) (fun _ _ _ _ _ => (pts_one (pt_mid (pt_cmpR (o_notin (K := K) (hu65 hr)) (pv 4) (pe_ix (o_ix (K := K)) (pv 0) pe_int (fun _ _ => rfl)) (by rfl))))) (fun _ _ _ _ _ => (pe_mid (pv 4))))
  (pss_one (ps_ret (pe_ix (o_ix (K := K)) (pv 3) pe_int (fun _ _ => rfl))))) pss_nil)
  (pss_one (ps_ret (pe_ix (o_ix (K := K)) (pe_ix (o_ix (K := K)) (pv 0) pe_int (fun _ _ => rfl)) (pe_op op_mod (pv 1) (pe_callB (o_lenW (K := K) (w := w)) (by rfl) T.fr_len boot_len (pa_cons (pe_ix (o_ix (K := K)) (pv 0) pe_int (fun _ _ => rfl)) pa_nil))) (fun _ _ => rfl)))))))), ?_⟩
    have tobj := T.obj
    obtain ⟨a, rfl, hv⟩ := PF.inv hd
    obtain ⟨c1, hc1, e1⟩ := at4 hl hw c
    obtain ⟨c2, hc2, e2⟩ := at4 hl hw (c / 4)
    cases f with
    | one d =>
      refine q_if (fun b H1 => b = true ∧ H1 = H) (by walk_at "rdx") (fun H1 h => ?_) (fun H1 h => nomatch h.1)
      obtain ⟨_, rfl⟩ := h
      walk_at "rdx"
      exact q [d] _ (by simp) (fun c hc => by rw [List.mem_singleton.mp hc]; exact ok) (Same.refl _)
    | any =>
      refine q_if (fun b H1 => b = false ∧ H1 = H) (by walk_at "rdx") (fun H1 h => nomatch h.1) (fun H1 h => ?_)
      obtain ⟨_, rfl⟩ := h
      refine q_if (fun b H1' => b = true ∧ H1' = H1) (by walk_at "rdx") (fun H2 h => ?_) (fun H1 h => nomatch h.1)
      obtain ⟨_, rfl⟩ := h
      walk_at "rd"
      exact ⟨ws, .inl hs, _, e1, q [c1] _ (by simp) (fun c hc => by rw [List.mem_singleton.mp hc]; exact hc1) (Same.refl _)⟩
    | stars =>
      refine q_if (fun b H1 => b = false ∧ H1 = H) (by walk_at "rdx") (fun H1 h => nomatch h.1) (fun H1 h => ?_)
      obtain ⟨_, rfl⟩ := h
      refine q_if (fun b H1' => b = false ∧ H1' = H1) (by walk_at "rdx") (fun H1 h => nomatch h.1) (fun H2 h => ?_)
      obtain ⟨_, rfl⟩ := h
      refine q_if (fun b H1' => b = true ∧ H1' = H2) (by walk_at "rdx") (fun H3 h => ?_) (fun H1 h => nomatch h.1)
      obtain ⟨_, rfl⟩ := h
      refine q_midG (fun v H' => v = .str (S [c1, c2]) ∧ H' = H3) ?_ ?_
      · walk_at "rd"
        refine ⟨ws, .inl hs, _, e1, ⟨by decide, by decide⟩, ws, .inl hs, _, e2, ?_⟩
        show (S [c1]).length + (S [c2]).length ≤ 16777216 ∧ S [c1] ++ S [c2] = S [c1, c2]
        rw [S_cat]
        exact ⟨by rw [S_len, S_len]; simp, rfl⟩
      rintro _ _ ⟨rfl, rfl⟩
      rename_i H4
      walk_at "rd"
      refine ⟨⟨by decide, by decide⟩, by rw [S_len]; simp, ?_⟩
      refine q _ _ ?_ (fun c hc => ?_) (Same.refl _)
      · exact Nat.le_trans (List.length_take_le' _ _) (Nat.le_trans (drop_le _ _) (Nat.le_refl 2))
      · have h := List.mem_of_mem_drop (List.mem_of_mem_take hc)
        rcases List.mem_cons.mp h with rfl | h
        · exact hc1
        · rw [List.mem_singleton.mp h]; exact hc2
    | among l o =>
      refine q_if (fun b H1 => b = false ∧ H1 = H) (by walk_at "rdx") (fun H1 h => nomatch h.1) (fun H1 h => ?_)
      obtain ⟨_, rfl⟩ := h
      refine q_if (fun b H1' => b = false ∧ H1' = H1) (by walk_at "rdx") (fun H1 h => nomatch h.1) (fun H2 h => ?_)
      obtain ⟨_, rfl⟩ := h
      refine q_if (fun b H1' => b = false ∧ H1' = H2) (by walk_at "rdx") (fun H1 h => nomatch h.1) (fun H3 h => ?_)
      obtain ⟨_, rfl⟩ := h
      refine q_next ?_
      refine q_if (fun b H1' => o = b ∧ H1' = H3) ?_ (fun H4 h => ?_) (fun H4 h => ?_)
      · walk_at "rdx"
      · obtain ⟨rfl, rfl⟩ := h
        obtain ⟨cs, rfl, hcs⟩ := signs_list hw
        have lcs : cs.length = 4 := by simpa using hl
        have ncs : cs.Nodup := by
          have h : ((cs.map fun c => S [c]).map V.str).Nodup := wsd
          have h2 : (cs.map fun c => S [c]).Nodup := (List.pairwise_map.mp h).imp fun q e => q (by rw [e])
          exact nd_unmap h2
        have hs4 : (List.map V.str (List.map (fun c => S [c]) cs)).length = 4 := hl
        refine q_val ?_
        refine lc_midT (J0 := Itl K p) (H0 := H4) ?_ (walk_list (K := K) (a := p) (xs := (cs.map fun c => S [c]).map V.str)) (by rw [hs4]; decide) (fun k acc _ => acc = ((cs.take k).filter fun c => !decide (c ∈ l)).map fun c => V.str (S [c])) (fun _ _ _ _ _ e => e) rfl (fun H' s => same_l s hs) (fun _ _ _ _ y => y_at y) (fun _ => rfl) ?_ ?_
        · walk_at "rd"
          exact .inl ⟨_, hs⟩
        · rintro k x acc H' H'' hk sm ha ⟨rfl, hx⟩
          obtain ⟨c, hc', rfl⟩ : ∃ c, cs[k]? = some c ∧ x = .str (S [c]) := by
            rw [List.getElem?_map, List.getElem?_map] at hx
            cases e : cs[k]? with
            | none => rw [e] at hx; cases hx
            | some c => rw [e] at hx; exact ⟨c, rfl, (Option.some.inj hx).symm⟩
          have hv' := same_t sm hv
          have tk : cs.take (k + 1) = cs.take k ++ [c] := by rw [List.take_succ, hc']; rfl
          walk_at "rdx"
          refine .inl ⟨c, rfl, ?_⟩
          rw [tk, List.filter_append, List.map_append, ← ha]
          by_cases h : c ∈ l <;> simp [h]
        · rintro r acc H' hp0 sm hD hle ha
          rw [List.take_of_length_le (by rw [hs4, lcs]; exact Nat.le_refl _)] at ha
          obtain ⟨d, hd1, hd2⟩ := ws_out lcs ncs (okl.2)
          have hmem : d ∈ cs.filter fun c => !decide (c ∈ l) := List.mem_filter.mpr ⟨hd1, by simp [hd2]⟩
          cases hf : cs.filter fun c => !decide (c ∈ l) with
          | nil => rw [hf] at hmem; cases hmem
          | cons y r' =>
            rw [hf] at ha
            have hy : y ∈ cs := (List.mem_filter.mp (by rw [hf]; exact List.mem_cons_self)).1
            walk_at "rd"
            refine ⟨acc, .inl (.inl (.inl hD)), V.str (S [y]), ?_, ?_⟩
            · rw [ha]; exact atI_zero
            · exact q [y] _ (by simp) (fun c hc => by rw [List.mem_singleton.mp hc]; exact hcs y hy) sm
      · obtain ⟨_, rfl⟩ := h
        have hl0 : 0 < l.length := List.length_pos_iff.mpr ok.1.ne
        obtain ⟨j, hj⟩ : ∃ j : Nat, c % (l.length : Int) = (j : Int) := ⟨(c % (l.length : Int)).toNat, by have := Int.emod_nonneg c (b := (l.length : Int)) (by omega); omega⟩
        have hj2 : j < l.length := by
          have := Int.emod_lt_of_pos c (b := (l.length : Int)) (by omega)
          omega
        have h12 := ok.2
        walk_at "rdx"
        rw [S_len, hj]
        exact ⟨by omega, by omega, by omega, l[j], atI_nat (List.getElem?_eq_getElem hj2), q [l[j]] _ (by simp) (fun c hc => by rw [List.mem_singleton.mp hc]; exact ok.1.sg _ (List.getElem_mem hj2)) (Same.refl _)⟩

/-! ### names about a row -/
/-- a name: signs, one at least -/
def NmV (b : Nat) (v : V) : Prop := ∃ l : List Nat, v = .str (S l) ∧ l ≠ [] ∧ l.length ≤ b ∧ ∀ c ∈ l, c ∈ SIG
theorem NmV.up {b b' : Nat} {v : V} (h : NmV b v) (e : b ≤ b') : NmV b' v := let ⟨l, a, c, d, f⟩ := h; ⟨l, a, c, Nat.le_trans d e, f⟩
def NmL (H : Hp) (F : Addr) (b : Nat) (us : List V) (n : Nat) (H' : Hp) : Prop := Same H H' ∧ H F = none ∧ H' F = some (.lst us) ∧ (∀ u ∈ us, NmV b u) ∧ us.length ≤ n
theorem nm_one {c b : Nat} (h : c ∈ SIG) : NmV (b + 2) (.str (S [c])) := ⟨[c], rfl, by simp, by simp, fun d hd => by rw [List.mem_singleton.mp hd]; exact h⟩
theorem nm_two {c d b : Nat} (h : c ∈ SIG) (g : d ∈ SIG) : NmV (b + 2) (.str (S [c, d])) := ⟨[c, d], rfl, by simp, by simp, fun e he => (List.mem_cons.mp he).elim (fun q => q ▸ h) fun q => by rw [List.mem_singleton.mp q]; exact g⟩
theorem all_snoc {p : V → Prop} {us : List V} {u : V} (h : ∀ v ∈ us, p v) (g : p u) : ∀ v ∈ us ++ [u], p v := fun v hv => (List.mem_append.mp hv).elim (h v) fun e => by rw [List.mem_singleton.mp e]; exact g
theorem all_app {p : V → Prop} {us ws : List V} (h : ∀ v ∈ us, p v) (g : ∀ v ∈ ws, p v) : ∀ v ∈ us ++ ws, p v := fun v hv => (List.mem_append.mp hv).elim (h v) (g v)
theorem cut_mem {us : List V} {lo hi : Option Int} {v : V} (h : v ∈ cutV us lo hi) : v ∈ us := List.mem_of_mem_drop (List.mem_of_mem_take h)
theorem cut_len {us : List V} {lo hi : Option Int} : (cutV us lo hi).length ≤ us.length := Nat.le_trans (List.length_take_le' _ _) (drop_le _ _)
theorem ix_nat {n j : Nat} (h : j < n) : ixN n (j : Int) = some j := by
  unfold ixN
  rw [if_pos (Int.natCast_nonneg _), if_pos (by omega), Int.toNat_natCast]
theorem at_name {us : List V} {i : Int} (hne : us ≠ []) (h0 : 0 ≤ i) (h1 : i < max 1 (us.length : Int)) {b : Nat} (h : ∀ u ∈ us, NmV b u) : ∃ (j : Nat), i = (j : Int) ∧ j < us.length ∧ ∃ l : List Nat, atI us i = some (.str (S l)) ∧ l ≠ [] ∧ l.length ≤ b ∧ ∀ c ∈ l, c ∈ SIG := by
  have hl : 0 < us.length := List.length_pos_iff.mpr hne
  obtain ⟨j, rfl⟩ : ∃ j : Nat, i = (j : Int) := ⟨i.toNat, by omega⟩
  have hj : j < us.length := by omega
  obtain ⟨l, e, a, b, c⟩ := h us[j] (List.getElem_mem hj)
  refine ⟨j, rfl, hj, l, atI_nat ?_, a, b, c⟩
  rw [List.getElem?_eq_getElem hj, e]
theorem cutS_sub (l : List Nat) (lo hi : Option Int) : ∃ m : List Nat, cutS (S l) lo hi = S m ∧ m.length ≤ l.length ∧ ∀ c ∈ m, c ∈ l :=
  ⟨_, rfl, Nat.le_trans (List.length_take_le' _ _) (drop_le _ _), fun _ h => List.mem_of_mem_drop (List.mem_of_mem_take h)⟩
def spNames (K : PySem.W.Frag) : Sp := fun vs H Q _ => ∃ v c p ws r, vs = [v, .int c, .ref p] ∧ Dp K H v (RF.d r) ∧ RF.Ok r ∧ (∀ fs, SF.seg fs ∈ r.steps → ∀ f ∈ fs, FOk f) ∧ SqL K H p ws ∧ ws.length = 4 ∧ WsOk ws ∧ (∀ v ∈ ws, SignV v) ∧
  ∀ F us H', us ≠ [] → (∀ u ∈ us, NmV 400 u) → us.length ≤ 50 → Same H H' → H' F = some (.lst us) → Q (.ref F) H'
theorem ok__law_names (T : Txt K mg) : OkD P w K mg base 2 (fA K "_law_names") ["_law_form", "_law_cell_here", "_law_signs_here"] [] (spNames K) := by
  refine okD T.F__law_names sc__law_names (fun _ _ _ _ _ _ us hl => match us, hl with | [_, _, _], _ => rfl) ?_ ?_
  · rintro vs H Q E ⟨v, c, p, ws, r, rfl, _⟩
    rfl
  · rintro cdv A outer s H vs Q E hr ⟨v, c, p, ws, r, rfl, hd, okr, okp, hs, hl, wok, hw, q⟩
    refine ⟨_, (pss_cons (ps_set (i := 3) sc__law_names.nd rfl (Or.inl rfl) (pe_mid (pe_lst pa_nil)))
  (pss_cons (ps_mid (ps_for (passes_of rfl) rfl (pi_mid (pi_range1 rfl T.fr_range (pa_cons (pe_callB (o_lenW (K := K) (w := w)) (by rfl) T.fr_len boot_len (pa_cons (pe_ix (o_ix (K := K)) (pv 0) pe_int (fun _ _ => rfl)) pa_nil)) pa_nil))) (pg_name (i := 4) sc__law_names.nd rfl (Or.inl rfl)) (pss_cons (ps_set (i := 5) sc__law_names.nd rfl (Or.inl rfl) (pe_mid (pe_ix (o_ix (K := K)) (pe_ix (o_ix (K := K)) (pv 0) pe_int (fun _ _ => rfl)) (pv 4) (fun _ _ => rfl))))
  (pss_cons (ps_set (i := 6) sc__law_names.nd rfl (Or.inl rfl) (pe_mid (pe_cal (ok__law_mixed T) (hr.mono (by decide)) rfl T.g__law_mixed (pasE (takes_of rfl rfl rfl rfl) (fun _ _ _ _ h => h)) (pa_cons (pv 1) (pa_cons (pe_op (o_add (K := K)) pe_int (pv 4)) pa_nil)))))
  (pss_one (ps_if (pt_mid (pt_cmpR (o_eq (K := K) (hu64 hr)) (pe_ix (o_ix (K := K)) (pv 5) pe_int (fun _ _ => rfl)) pe_str (nomark _))) (pss_cons (ps_set (i := 7) sc__law_names.nd rfl (Or.inl rfl) (pe_mid (pe_lst (pa_cons (pe_ix (o_ix (K := K)) (pv 2) (pe_op op_mod (pe_op op_fdivW (pv 6) pe_int) pe_int) (fun _ _ => rfl)) (pa_cons (pe_op (o_add (K := K)) (pe_ix (o_ix (K := K)) (pv 2) (pe_op op_mod (pe_op op_fdivW (pv 6) pe_int) pe_int) (fun _ _ => rfl)) (pe_ix (o_ix (K := K)) (pv 2) (pe_op op_mod (pe_op op_fdivW (pv 6) pe_int) pe_int) (fun _ _ => rfl))) pa_nil)))))
  (pss_one (ps_set (i := 3) sc__law_names.nd rfl (Or.inl rfl) (pe_mid (pe_op (o_add (K := K)) (pv 3) (pe_slice (o_sl (K := K)) (pv 7) po_none (po_some (pe_op op_mod (pv 6) pe_int)))))))) (pss_cons (ps_set (i := 8) sc__law_names.nd rfl (Or.inl rfl) (pe_mid pe_str))
  (pss_cons (ps_mid (ps_for (passes_of rfl) rfl (pi_mid (pi_range1 rfl T.fr_range (pa_cons (pe_callB (o_lenW (K := K) (w := w)) (by rfl) T.fr_len boot_len (pa_cons (pe_ix (o_ix (K := K)) (pv 5) pe_int (fun _ _ => rfl)) pa_nil)) pa_nil))) (pg_name (i := 9) sc__law_names.nd rfl (Or.inl rfl)) (pss_one (ps_set (i := 8) sc__law_names.nd rfl (Or.inl rfl) (pe_mid (pe_op (o_add (K := K)) (pv 8) (pe_cal (ok__law_filled T) (hr.mono (by decide)) rfl T.g__law_filled (pasE (takes_of rfl rfl rfl rfl) (fun _ _ _ _ h => h)) (pa_cons (pe_ix (o_ix (K := K)) (pe_ix (o_ix (K := K)) (pv 5) pe_int (fun _ _ => rfl)) (pv 9) (fun _ _ => rfl)) (pa_cons (pe_cal (ok__law_mixed T) (hr.mono (by decide)) rfl T.g__law_mixed (pasE (takes_of rfl rfl rfl rfl) (fun _ _ _ _ h => h)) (pa_cons (pv 6) (pa_cons (pv 9) pa_nil))) (pa_cons (pv 2) pa_nil))))))))))
  (pss_one (ps_expr (pe_bmK (K := K) PySem.F.plainAttrs_list PySem.F.slot_list_append PySem.F.type_list_append mt_append (pv 3) (pa_cons (pe_mid (pe_orK (K := K) (pv 8) (pe_one (pe_ix (o_ix (K := K)) (pv 2) pe_int (fun _ _ => rfl))))) pa_nil))))))))))))
  (pss_cons (ps_set (i := 10) sc__law_names.nd rfl (Or.inl rfl) (pe_mid (pe_op op_mod (pe_op op_fdivW (pv 1) pe_int) pe_int)))
  (pss_cons (ps_set (i := 11) sc__law_names.nd rfl (Or.inl rfl) (pe_mid (pe_op op_mod (pe_op op_fdivW (pv 1) pe_int) (pe_callB (o_max (K := K) rfl) (by rfl) T.fr_max (by decide +kernel) (pa_cons pe_int (pa_cons (pe_callB (o_lenW (K := K) (w := w)) (by rfl) T.fr_len boot_len (pa_cons (pv 3) pa_nil)) pa_nil))))))
  (pss_cons (ps_mid (ps_if (pt_mid (pt_cmpR (o_eq (K := K) (hu64 hr)) (pv 10) pe_int (nomark _))) (pss_one (ps_set (i := 3) sc__law_names.nd rfl (Or.inl rfl) (pe_mid (pe_op (o_add (K := K)) (pv 3) (pe_lst (pa_cons (pe_ix (o_ix (K := K)) (pv 2) (pe_op op_mod (pe_op op_fdivW (pv 1) pe_int) pe_int) (fun _ _ => rfl)) pa_nil)))))) pss_nil))
  (pss_cons (ps_mid (ps_if (pt_mid (pt_cmpR (o_eq (K := K) (hu64 hr)) (pv 10) pe_int (nomark _))) (pss_one (ps_set (i := 3) sc__law_names.nd rfl (Or.inl rfl) (pe_mid (pe_op (o_add (K := K)) (pe_slice (o_sl (K := K)) (pv 3) po_none (po_some (pv 11))) (pe_slice (o_sl (K := K)) (pv 3) (po_some (pe_op (o_add (K := K)) (pv 11) pe_int)) po_none))))) pss_nil))
  (pss_cons (ps_mid (ps_if (pt_mid (PW.pt (pw_and (pt_cmpR (o_eq (K := K) (hu64 hr)) (pv 10) pe_int (nomark _)) (pw_and1 (pt_cmpR (o_ne (K := K) (hu64 hr)) (pv 3) (pe_lst pa_nil) (nomark _)))))) (pss_one (ps_asg (pe_op (o_add (K := K)) (pe_ix (o_ix (K := K)) (pv 3) (pv 11) (fun _ _ => rfl)) (pe_ix (o_ix (K := K)) (pv 2) (pe_op op_mod (pe_op op_fdivW (pv 1) pe_int) pe_int) (fun _ _ => rfl))) (pg_sub (pv 3) (pv 11) set_list))) pss_nil))
  (pss_cons (ps_mid (ps_if (pt_mid (PW.pt (pw_and (pt_cmpR (o_eq (K := K) (hu64 hr)) (pv 10) pe_int (nomark _)) (pw_and1 (pt_cmpR (o_ne (K := K) (hu64 hr)) (pv 3) (pe_lst pa_nil) (nomark _)))))) (pss_one (ps_asg (pe_op (o_add (K := K)) (pe_ix (o_ix (K := K)) (pv 2) (pe_op op_mod (pe_op op_fdivW (pv 1) pe_int) pe_int) (fun _ _ => rfl)) (pe_slice (o_sl (K := K)) (pe_ix (o_ix (K := K)) (pv 3) (pv 11) (fun _ _ => rfl)) (po_some pe_int) po_none)) (pg_sub (pv 3) (pv 11) set_list))) pss_nil))
  (pss_one (ps_ret (pe_orK (K := K) (pv 3) (pe_one (pe_lst (pa_cons (pe_ix (o_ix (K := K)) (pv 2) (pe_op op_mod (pe_op op_fdivW (pv 1) pe_int) pe_int) (fun _ _ => rfl)) pa_nil)))))))))))))), ?_⟩
    have tobj := T.obj
    obtain ⟨a, t, ts, rfl, ha, ht, each⟩ := RF.inv hd
    obtain ⟨c0, hc0, e0⟩ := at4 hl hw 0
    have e0' : atI ws 0 = some (.str (S [c0])) := e0
    obtain ⟨cx, hcx, ex⟩ := at4 hl hw (c / 100)
    refine q_midG (fun v H' => ∃ F, v = .ref F ∧ NmL H F 398 [] 0 H') ?_ ?_
    · walk_at "rd"
      exact fun p hp => ⟨same_new hp, hp, upd_same, fun _ h => (nomatch h), Nat.le_refl _⟩
    rintro _ H0 ⟨F0, rfl, n0⟩
    refine q_stm (fun σ H' => ∃ F us x4 x5 x6 x7 x8 x9 x10 x11, σ = [some (.ref a), some (.int c), some (.ref p), some (.ref F), x4, x5, x6, x7, x8, x9, x10, x11] ∧ NmL H F 398 us 24 H') ?_ ?_
    · refine for_mid (J0 := Itr 0 r.steps.length) (H0 := H0) ?_ walk_range
        (fun k σ H' => ∃ F us x4 x5 x6 x7 x8 x9 x10 x11, σ = [some (.ref a), some (.int c), some (.ref p), some (.ref F), x4, x5, x6, x7, x8, x9, x10, x11] ∧ NmL H F 398 us (2 * k) H')
        ⟨F0, [], none, none, none, none, none, none, none, none, rfl, n0⟩ (fun _ _ _ _ _ => trivial) ?_ (fun σ H' h => ?_)
      · have ha1 := same_t n0.1 ha
        have ht1 := same_t n0.1 ht
        walk_at "rdx"
        refine .inr ⟨_, .inr ⟨ts, ht1, rfl⟩, ?_⟩
        have := okr.len
        rw [each.1]
        exact ⟨by omega, by omega, rfl⟩
      · rintro k x σ H1 H1' hk ⟨F, us, x4, x5, x6, x7, x8, x9, x10, x11, rfl, sm, hF0, hF, nus, lus⟩ ⟨rfl, rfl⟩
        have hfk : r.steps[k]? = some r.steps[k] := List.getElem?_eq_getElem hk
        have okk := okr.ok _ (List.getElem_mem hk)
        have okpk : ∀ fs, r.steps[k] = SF.seg fs → ∀ f ∈ fs, FOk f := fun fs e => okp fs (e ▸ List.getElem_mem hk)
        generalize r.steps[k] = sf at hfk okk okpk
        obtain ⟨u, hu, du⟩ := each.2 k sf hfk
        have ha1 := same_t sm ha
        have ht1 := same_t sm ht
        have hs1 := same_l sm hs
        have du1 := dp_mono sm _ _ du
        refine q_midG (fun v H' => v = u ∧ H' = H1') ?_ ?_
        · walk_at "rdx"
          exact ⟨ts, .inr ht1, u, atI_nat hu, rfl⟩
        rintro _ _ ⟨rfl, rfl⟩
        rename_i v H2
        refine q_mid (fun m => 0 ≤ m ∧ m < 2147483647) ?_ fun mk hmk => ?_
        · walk_at "rd"
          exact ⟨c, _, rfl, fun m h1 h2 => ⟨rfl, m, rfl, h1, h2⟩⟩
        cases sf with
        | deep =>
          obtain ⟨va, rfl, hv⟩ := SF.deep_inv du1
          refine l_if (fun b H' => b = true ∧ H' = H2) (by walk_at "rdx") (fun H5 h => ?_) (fun H1 h => nomatch h.1)
          obtain ⟨_, rfl⟩ := h
          obtain ⟨c1, hc1, e1⟩ := at4 hl hw (mk / 3)
          obtain ⟨c2, hc2, e2⟩ := at4 hl hw (mk / 12)
          obtain ⟨c3, hc3, e3⟩ := at4 hl hw (mk / 48)
          refine q_midG (fun v H' => ∃ G, v = .ref G ∧ Same H5 H' ∧ H' G = some (.lst [.str (S [c1]), .str (S [c2, c3])])) ?_ ?_
          · walk_at "rd"
            refine ⟨⟨by decide, by decide⟩, ws, .inl hs1, _, e1, ⟨by decide, by decide⟩, ws, .inl hs1, _, e2, ⟨by decide, by decide⟩, ws, .inl hs1, _, e3, ?_⟩
            show (S [c2]).length + (S [c3]).length ≤ 16777216 ∧ _
            rw [S_cat, S_len, S_len]
            exact ⟨by simp, fun p hp => ⟨same_new hp, upd_same⟩⟩
          rintro _ H6 ⟨G, rfl, s6, hG⟩
          have hF6 := s6 _ _ hF
          refine l_midG (fun v H' => ∃ F us', v = .ref F ∧ NmL H F 398 us' (2 * (k + 1)) H') ?_ ?_
          · walk_at "rd"
            refine .inl ⟨_, .inl (.inl hG), fun p1 hp1 => .inl ⟨us, (same_new hp1) _ _ hF6, _, upd_same, ?_, fun p2 hp2 => ⟨us ++ cutV [.str (S [c1]), .str (S [c2, c3])] none (some (mk % 3)), ?_⟩⟩⟩
            · have hcl := cut_len (us := [V.str (S [c1]), V.str (S [c2, c3])]) (lo := none) (hi := some (mk % 3))
              have := okr.len
              simp only [List.length_cons, List.length_nil] at hcl
              omega
            · have sx := ((sm.trans s6).trans (same_new hp1)).trans (same_new (o := .lst (us ++ cutV [.str (S [c1]), .str (S [c2, c3])] none (some (mk % 3)))) hp2)
              refine ⟨sx, same_none ((sm.trans s6).trans (same_new hp1)) hp2, upd_same, all_app nus fun v hv => ?_, ?_⟩
              · have h := cut_mem hv
                rcases List.mem_cons.mp h with rfl | h
                · exact nm_one hc1
                · rw [List.mem_singleton.mp h]; exact nm_two hc2 hc3
              · have := cut_len (us := [V.str (S [c1]), V.str (S [c2, c3])]) (lo := none) (hi := some (mk % 3))
                simp only [List.length_cons, List.length_nil] at this
                rw [List.length_append]
                omega
          · rintro _ H7 ⟨F, us', rfl, n7⟩
            exact ⟨F, us', _, _, _, _, _, _, _, _, rfl, n7⟩
        | seg fs =>
          obtain ⟨va, t1, us1, rfl, hv, ht1', each1⟩ := SF.seg_inv du1
          have okf : PartsOk fs := okk
          refine l_if (fun b H' => b = false ∧ H' = H2) (by walk_at "rdx") (fun H1 h => nomatch h.1) (fun H5 h => ?_)
          obtain ⟨_, rfl⟩ := h
          refine q_midG (fun v H' => v = .str (S []) ∧ H' = H5) (by walk_at "rd"; rfl) ?_
          rintro _ _ ⟨rfl, rfl⟩
          rename_i H6
          refine q_stm (fun σ H' => Same H6 H' ∧ ∃ l x9, σ = [some (.ref a), some (.int c), some (.ref p), some (.ref F), some (.int (0 + k)), some (.ref va), some (.int mk), x7, some (.str (S l)), x9, x10, x11] ∧ l.length ≤ 120 ∧ ∀ c ∈ l, c ∈ SIG) ?_ ?_
          · refine for_mid (J0 := Itr 0 fs.length) (H0 := H6) ?_ walk_range (fun j σ H' => Same H6 H' ∧ ∃ l x9, σ = [some (.ref a), some (.int c), some (.ref p), some (.ref F), some (.int (0 + k)), some (.ref va), some (.int mk), x7, some (.str (S l)), x9, x10, x11] ∧ l.length ≤ 2 * j ∧ ∀ c ∈ l, c ∈ SIG)
              ⟨Same.refl _, [], x9, rfl, Nat.le_refl _, fun _ h => nomatch h⟩ (fun _ _ _ _ _ => trivial) ?_ (fun σ H' h => ?_)
            · walk_at "rdx"
              refine .inr ⟨_, .inr ⟨us1, ht1', rfl⟩, ?_⟩
              have := okf.len
              rw [each1.1]
              exact ⟨by omega, by omega, rfl⟩
            · rintro j x σ H7 H7' hj ⟨s7, l, x9, rfl, ll, hlc⟩ ⟨rfl, rfl⟩
              have hfj : fs[j]? = some fs[j] := List.getElem?_eq_getElem hj
              have okj := okpk fs rfl _ (List.getElem_mem hj)
              generalize fs[j] = f at hfj okj
              obtain ⟨u, hu, du⟩ := each1.2 j f hfj
              have hv7 := same_t s7 hv
              have ht7 := same_t s7 ht1'
              have hs7 := same_l s7 hs1
              have := okf.len
              refine l_midG (fun v H' => Same H7' H' ∧ ∃ m : List Nat, v = .str (S (l ++ m)) ∧ m.length ≤ 2 ∧ ∀ c ∈ m, c ∈ SIG) ?_ ?_
              · walk_at "rdx"
                refine ⟨us1, .inr ht7, u, atI_nat hu, mk, _, rfl, fun m _ _ => ⟨u, m, p, ws, f, rfl, dp_mono s7 _ _ du, okj, hs7, hl, wok, hw, fun l2 H8 ll2 lc2 s8 => ?_⟩⟩
                show (S l).length + (S l2).length ≤ 16777216 ∧ _
                rw [S_cat, S_len, S_len]
                exact ⟨by omega, s8, l2, rfl, ll2, lc2⟩
              · rintro _ H8 ⟨s8, m, rfl, lm, hm⟩
                refine ⟨s7.trans s8, l ++ m, _, rfl, by rw [List.length_append]; omega, fun c hc => (List.mem_append.mp hc).elim (hlc c) (hm c)⟩
            · obtain ⟨s7, l, x9, e, h1, h2⟩ := h
              have := okf.len
              exact ⟨s7, l, x9, e, by omega, h2⟩
          · rintro σ H7 ⟨s7, l, x9, rfl, ll, hlc⟩
            have hF7 := s7 _ _ hF
            have hs7 := same_l s7 hs1
            refine l_app rfl hF7 ?_
            walk_at "rd"
            have := okr.len
            refine ⟨_, ⟨by rw [S_len]; omega, rfl⟩, ite2 (fun hne => ?_) fun _ => ?_⟩
            · exact ⟨us, hF7, by omega, us ++ [.str (S l)], same_mut (sm.trans s7) hF0, hF0, upd_same, all_snoc nus ⟨l, rfl, fun e => by rw [e] at hne; simp [S_len] at hne, by omega, hlc⟩, by rw [List.length_append, List.length_singleton]; omega⟩
            · exact ⟨ws, .inl hs7, _, e0', us, hF7, by omega, _, same_mut (sm.trans s7) hF0, hF0, upd_same, all_snoc nus (nm_one hc0), by rw [List.length_append, List.length_singleton]; omega⟩
      · obtain ⟨F, us, x4, x5, x6, x7, x8, x9, x10, x11, e, h1, h2, h3, h4, h5⟩ := h
        have := okr.len
        exact ⟨F, us, x4, x5, x6, x7, x8, x9, x10, x11, e, h1, h2, h3, h4, by omega⟩
    rintro σ H1 ⟨F, us, x4, x5, x6, x7, x8, x9, x10, x11, rfl, n1⟩
    refine q_mid (fun _ => True) (by walk_at "rd"; exact ⟨by decide, by decide⟩) fun way _ => ?_
    refine q_mid (fun i => 0 ≤ i ∧ i < max 1 (us.length : Int)) ?_ fun at' hat => ?_
    · have h3 := n1.2.2.1
      walk_at "rd"
      refine ⟨⟨by decide, by decide⟩, .inr ⟨_, .inl ⟨us, .inl (.inl h3), rfl⟩, ?_⟩⟩
      have e : (if (us.length : Int) > 1 then (us.length : Int) else 1) = max 1 (us.length : Int) := by split <;> omega
      rw [e]
      exact ⟨by omega, Int.emod_nonneg _ (by omega), Int.emod_lt_of_pos _ (by omega)⟩
    refine q_stm (fun σ H' => ∃ F us, σ = [some (.ref a), some (.int c), some (.ref p), some (.ref F), x4, x5, x6, x7, x8, x9, some (.int way), some (.int at')] ∧ NmL H F 398 us 25 H' ∧ (way ≠ 0 → at' < max 1 (us.length : Int))) ?_ ?_
    · refine l_if (fun b H' => H' = H1 ∧ (b = true → way = 0)) (by walk_at "rd"; exact id) (fun H2 h => ?_) (fun H2 h => ?_)
      · obtain ⟨rfl, hw0⟩ := h
        refine l_midG (fun v H' => ∃ F us', v = .ref F ∧ NmL H F 398 us' 25 H') ?_ ?_
        · have h3 := n1.2.2.1
          have hs1 := same_l n1.1 hs
          walk_at "rd"
          have hl24 := n1.2.2.2.2
          refine ⟨⟨by decide, by decide⟩, ws, .inl hs1, _, ex, fun p1 hp1 => .inl ⟨us, (same_new hp1) _ _ h3, _, upd_same, ?_, fun p2 hp2 => ⟨us ++ [.str (S [cx])], ?_⟩⟩⟩
          · rw [List.length_singleton]; omega
          · exact ⟨(n1.1.trans (same_new hp1)).trans (same_new hp2), same_none (n1.1.trans (same_new hp1)) hp2, upd_same, all_snoc n1.2.2.2.1 (nm_one hcx), by rw [List.length_append, List.length_singleton]; omega⟩
        · rintro _ H3 ⟨F, us', rfl, n3⟩
          exact ⟨F, us', rfl, n3, fun h => absurd (hw0 rfl) h⟩
      · obtain ⟨rfl, _⟩ := h
        exact ⟨F, us, rfl, ⟨n1.1, n1.2.1, n1.2.2.1, n1.2.2.2.1, by have := n1.2.2.2.2; omega⟩, fun _ => hat.2⟩
    rintro σ H2 ⟨F, us, rfl, n2, hlt⟩
    refine q_stm (fun σ H' => ∃ F us, σ = [some (.ref a), some (.int c), some (.ref p), some (.ref F), x4, x5, x6, x7, x8, x9, some (.int way), some (.int at')] ∧ NmL H F 398 us 50 H' ∧ ((way = 2 ∨ way = 3) → at' < max 1 (us.length : Int))) ?_ ?_
    · refine l_if (fun b H' => H' = H2 ∧ (b = true → way = 1)) (by walk_at "rd"; exact id) (fun H3 h => ?_) (fun H3 h => ?_)
      · obtain ⟨rfl, hw0⟩ := h
        have hw1 := hw0 rfl
        refine l_midG (fun v H' => ∃ F us', v = .ref F ∧ NmL H F 398 us' 50 H') ?_ ?_
        · have h3 := n2.2.2.1
          walk_at "rd"
          have hl25 := n2.2.2.2.2
          have l1 := cut_len (us := us) (lo := none) (hi := some at')
          have l2 := cut_len (us := us) (lo := some (at' + 1)) (hi := none)
          refine .inl ⟨us, .inl (.inl h3), fun p1 hp1 => .inl ⟨us, .inl (.inl ((same_new hp1) _ _ h3)), fun p2 hp2 => .inl ⟨_, (same_new hp2) _ _ upd_same, _, upd_same, by omega, fun p3 hp3 => ⟨cutV us none (some at') ++ cutV us (some (at' + 1)) none, ?_⟩⟩⟩⟩
          have sx := (n2.1.trans (same_new hp1)).trans (same_new (o := .lst (cutV us (some (at' + 1)) none)) hp2)
          exact ⟨sx.trans (same_new hp3), same_none sx hp3, upd_same, all_app (fun v h => n2.2.2.2.1 v (cut_mem h)) (fun v h => n2.2.2.2.1 v (cut_mem h)), by rw [List.length_append]; omega⟩
        · rintro _ H4 ⟨F, us', rfl, n4⟩
          exact ⟨F, us', rfl, n4, fun h => by omega⟩
      · obtain ⟨rfl, _⟩ := h
        exact ⟨F, us, rfl, ⟨n2.1, n2.2.1, n2.2.2.1, n2.2.2.2.1, by have := n2.2.2.2.2; omega⟩, fun h => hlt (by omega)⟩
    rintro σ H3 ⟨F, us, rfl, n3, hlt⟩
    refine q_stm (fun σ H' => ∃ us, σ = [some (.ref a), some (.int c), some (.ref p), some (.ref F), x4, x5, x6, x7, x8, x9, some (.int way), some (.int at')] ∧ NmL H F 399 us 50 H' ∧ ((way = 2 ∨ way = 3) → at' < max 1 (us.length : Int))) ?_ ?_
    · refine l_if (fun b H' => Same H3 H' ∧ (b = true → way = 2 ∧ us ≠ [])) ?_ (fun H4 h => ?_) (fun H4 h => ?_)
      · have h3 := n3.2.2.1
        walk_at "rd"
        refine ite2 (fun hw2 p hp => ?_) fun _ h => h.elim
        have sp := same_new (o := .lst []) hp
        exact ne_nil (.inl (.inl (sp _ _ h3))) (.inl (.inl upd_same)) ⟨_, rfl, sp, fun h => ⟨hw2, by simpa using h⟩⟩
      · obtain ⟨s4, hw0⟩ := h
        obtain ⟨hw2, hne⟩ := hw0 rfl
        have h4 := s4 _ _ n3.2.2.1
        have hs4 := same_l (n3.1.trans s4) hs
        walk_at "rd"
        obtain ⟨j, hj, hj2, l, ej, l1, l2, l3⟩ := at_name hne hat.1 (hlt (.inl hw2)) n3.2.2.2.1
        refine ⟨us, .inl (.inl (.inl h4)), _, ej, ⟨by decide, by decide⟩, ws, .inl hs4, _, ex, ?_⟩
        show (S l).length + (S [cx]).length ≤ 16777216 ∧ _
        rw [S_cat, S_len, S_len]
        refine ⟨by rw [List.length_singleton]; omega, ?_⟩
        subst hj
        refine ⟨us, h4, j, ix_nat hj2, us.set j (.str (S (l ++ [cx]))), ⟨same_mut (n3.1.trans s4) n3.2.1, n3.2.1, upd_same, fun u hu => ?_, by rw [List.length_set]; exact n3.2.2.2.2⟩, fun h => by rw [List.length_set]; exact hlt h⟩
        rcases List.mem_or_eq_of_mem_set hu with h | rfl
        · exact (n3.2.2.2.1 u h).up (by decide)
        · refine ⟨l ++ [cx], rfl, by simp, ?_, fun d hd => (List.mem_append.mp hd).elim (l3 d) fun e => by rw [List.mem_singleton.mp e]; exact hcx⟩
          rw [List.length_append, List.length_singleton]
          omega
      · obtain ⟨s4, _⟩ := h
        exact ⟨us, rfl, ⟨n3.1.trans s4, n3.2.1, s4 _ _ n3.2.2.1, fun u hu => (n3.2.2.2.1 u hu).up (by decide), n3.2.2.2.2⟩, hlt⟩
    rintro σ H4 ⟨us, rfl, n4, hlt⟩
    refine q_stm (fun σ H' => ∃ us, σ = [some (.ref a), some (.int c), some (.ref p), some (.ref F), x4, x5, x6, x7, x8, x9, some (.int way), some (.int at')] ∧ NmL H F 400 us 50 H') ?_ ?_
    · refine l_if (fun b H' => Same H4 H' ∧ (b = true → way = 3 ∧ us ≠ [])) ?_ (fun H5 h => ?_) (fun H5 h => ?_)
      · have h3 := n4.2.2.1
        walk_at "rd"
        refine ite2 (fun hw2 p hp => ?_) fun _ h => h.elim
        have sp := same_new (o := .lst []) hp
        exact ne_nil (.inl (.inl (sp _ _ h3))) (.inl (.inl upd_same)) ⟨_, rfl, sp, fun h => ⟨hw2, by simpa using h⟩⟩
      · obtain ⟨s5, hw0⟩ := h
        obtain ⟨hw3, hne⟩ := hw0 rfl
        have h4 := s5 _ _ n4.2.2.1
        have hs5 := same_l (n4.1.trans s5) hs
        walk_at "rd"
        obtain ⟨j, hj, hj2, l, ej, l1, l2, l3⟩ := at_name hne hat.1 (hlt (.inr hw3)) n4.2.2.2.1
        refine ⟨⟨by decide, by decide⟩, ws, .inl hs5, _, ex, us, .inl (.inl (.inl h4)), _, ej, by rw [S_len]; omega, ?_⟩
        obtain ⟨m, em, lm, hm⟩ := cutS_sub l (some 1) none
        rw [em]
        show (S [cx]).length + (S m).length ≤ 16777216 ∧ _
        rw [S_cat, S_len, S_len]
        refine ⟨by rw [List.length_singleton]; omega, ?_⟩
        subst hj
        refine ⟨us, h4, j, ix_nat hj2, us.set j (.str (S ([cx] ++ m))), ⟨same_mut (n4.1.trans s5) n4.2.1, n4.2.1, upd_same, fun u hu => ?_, by rw [List.length_set]; exact n4.2.2.2.2⟩⟩
        rcases List.mem_or_eq_of_mem_set hu with h | rfl
        · exact (n4.2.2.2.1 u h).up (by decide)
        · refine ⟨[cx] ++ m, rfl, by simp, ?_, fun d hd => (List.mem_append.mp hd).elim (fun e => by rw [List.mem_singleton.mp e]; exact hcx) fun h => l3 d (hm d h)⟩
          rw [List.length_append, List.length_singleton]
          omega
      · obtain ⟨s5, _⟩ := h
        exact ⟨us, rfl, n4.1.trans s5, n4.2.1, s5 _ _ n4.2.2.1, fun u hu => (n4.2.2.2.1 u hu).up (by decide), n4.2.2.2.2⟩
    rintro σ H5 ⟨us, rfl, n5⟩
    have h5 := n5.2.2.1
    have hs5 := same_l n5.1 hs
    walk_at "rd"
    have hl50 := n5.2.2.2.2
    refine ⟨_, .inl ⟨us, .inl (.inl h5), rfl⟩, ite2 (fun h => ?_) fun h => ?_⟩
    · exact q F us H5 (fun e => by rw [e] at h; simp at h) n5.2.2.2.1 hl50 n5.1 h5
    · exact ⟨⟨by decide, by decide⟩, ws, .inl hs5, _, ex, fun p1 hp1 => q p1 [.str (S [cx])] _ (by simp) (fun u hu => by rw [List.mem_singleton.mp hu]; exact nm_one hcx) (by simp) (n5.1.trans (same_new hp1)) upd_same⟩

/-! ### the law's own fitting of a name, from its end on -/
/-- p of each end of a list -/
def ends {β : Type} (p : List β → Bool) : List β → List Bool
  | [] => [p []]
  | c :: w => p (c :: w) :: ends p w
def fitB : List PF → List Nat → Bool
  | [], w => w.isEmpty
  | f :: fs, w => if f.many = true then (ends (fitB fs) w).any id else match w with
    | [] => false
    | c :: v => f.fits c && fitB fs v
theorem ends_any {β : Type} {p : List β → Bool} : ∀ {w : List β}, (ends p w).any id = true ↔ ∃ u v, w = u ++ v ∧ p v = true
  | [] => by
    constructor
    · intro h
      exact ⟨[], [], rfl, by simpa [ends] using h⟩
    · rintro ⟨u, v, e, h⟩
      obtain ⟨_, rfl⟩ := List.append_eq_nil_iff.mp e.symm
      simpa [ends] using h
  | c :: w => by
    have ih := ends_any (p := p) (w := w)
    show (p (c :: w) || (ends p w).any id) = true ↔ _
    rw [Bool.or_eq_true, ih]
    constructor
    · rintro (h | ⟨u, v, rfl, h⟩)
      · exact ⟨[], c :: w, rfl, h⟩
      · exact ⟨c :: u, v, rfl, h⟩
    · rintro ⟨u, v, e, h⟩
      cases u with
      | nil => exact .inl (by rw [e]; exact h)
      | cons d u =>
        injection e with e1 e2
        exact .inr ⟨u, v, e2, h⟩
theorem fitB_star {f : PF} {fs : List PF} {w : List Nat} (h : f.many = true) : fitB (f :: fs) w = (ends (fitB fs) w).any id := by
  show (if f.many = true then _ else _) = _
  rw [if_pos h]
theorem fitB_cons {f : PF} {fs : List PF} {c : Nat} {v : List Nat} (h : f.many = false) : fitB (f :: fs) (c :: v) = (f.fits c && fitB fs v) := by
  show (if f.many = true then _ else _) = _
  rw [if_neg (by rw [h]; exact Bool.false_ne_true)]
theorem fitB_nil {f : PF} {fs : List PF} (h : f.many = false) : fitB (f :: fs) [] = false := by
  show (if f.many = true then _ else _) = _
  rw [if_neg (by rw [h]; exact Bool.false_ne_true)]
theorem fitB_iff : ∀ {fs : List PF} {w : List Nat}, fitB fs w = true ↔ Fit fs w
  | [], w => by
    show w.isEmpty = true ↔ w = []
    exact List.isEmpty_iff
  | f :: fs, w => by
    cases h : f.many with
    | true =>
      rw [fit_star h, fitB_star h, ends_any]
      exact exists_congr fun u => exists_congr fun v => and_congr_right fun _ => fitB_iff
    | false =>
      rw [fit_one h]
      cases w with
      | nil =>
        rw [fitB_nil h]
        exact ⟨fun h => absurd h Bool.false_ne_true, fun ⟨_, _, e, _⟩ => nomatch e⟩
      | cons c v =>
        rw [fitB_cons h, Bool.and_eq_true, fitB_iff]
        constructor
        · rintro ⟨h1, h2⟩
          exact ⟨c, v, rfl, h1, h2⟩
        · rintro ⟨c', v', e, h1, h2⟩
          injection e with e1 e2
          subst e1 e2
          exact ⟨h1, h2⟩
/-! ### things laid along a row of other things -/
section
variable {α β : Type} {m : α → Bool} {ft : α → β → Bool}
/-- the parts laid along the name -/
def FitG (m : α → Bool) (ft : α → β → Bool) : List α → List β → Prop
  | [], w => w = []
  | f :: fs, w => if m f = true then ∃ u v, w = u ++ v ∧ FitG m ft fs v else ∃ c v, w = c :: v ∧ ft f c = true ∧ FitG m ft fs v
theorem fitG_star {f : α} {fs : List α} {w : List β} (h : m f = true) : FitG m ft (f :: fs) w ↔ ∃ u v, w = u ++ v ∧ FitG m ft fs v := by
  show (if m f = true then _ else _) ↔ _
  rw [if_pos h]
theorem fitG_one {f : α} {fs : List α} {w : List β} (h : m f = false) : FitG m ft (f :: fs) w ↔ ∃ c v, w = c :: v ∧ ft f c = true ∧ FitG m ft fs v := by
  show (if m f = true then _ else _) ↔ _
  rw [if_neg (by rw [h]; exact Bool.false_ne_true)]
theorem fitG_app : ∀ (fs gs : List α) (w : List β), FitG m ft (fs ++ gs) w ↔ ∃ u v, w = u ++ v ∧ FitG m ft fs u ∧ FitG m ft gs v
  | [], gs, w => ⟨fun h => ⟨[], w, rfl, rfl, h⟩, fun ⟨u, v, e, h1, h2⟩ => by
    cases (show u = [] from h1)
    rw [e]
    exact h2⟩
  | f :: fs, gs, w => by
    rw [List.cons_append]
    cases h : m f with
    | true =>
      rw [fitG_star h]
      constructor
      · rintro ⟨u, v, rfl, hv⟩
        obtain ⟨a, b, rfl, ha, hb⟩ := (fitG_app fs gs v).mp hv
        exact ⟨u ++ a, b, by rw [List.append_assoc], (fitG_star h).mpr ⟨u, a, rfl, ha⟩, hb⟩
      · rintro ⟨a, b, rfl, ha, hb⟩
        obtain ⟨u, v, rfl, hv⟩ := (fitG_star h).mp ha
        exact ⟨u, v ++ b, by rw [List.append_assoc], (fitG_app fs gs _).mpr ⟨v, b, rfl, hv, hb⟩⟩
    | false =>
      rw [fitG_one h]
      constructor
      · rintro ⟨c, v, rfl, hc, hv⟩
        obtain ⟨a, b, rfl, ha, hb⟩ := (fitG_app fs gs v).mp hv
        exact ⟨c :: a, b, rfl, (fitG_one h).mpr ⟨c, a, rfl, hc, ha⟩, hb⟩
      · rintro ⟨a, b, rfl, ha, hb⟩
        obtain ⟨c, v, rfl, hc, hv⟩ := (fitG_one h).mp ha
        exact ⟨c, v ++ b, rfl, hc, (fitG_app fs gs _).mpr ⟨v, b, rfl, hv, hb⟩⟩
def starG (m : α → Bool) (fs : List α) (j : Nat) : Bool := match fs[j]? with
  | some f => m f
  | none => false
theorem starG_lt {fs : List α} {j : Nat} (h : starG m fs j = true) : j < fs.length := by
  unfold starG at h
  rcases Nat.lt_or_ge j fs.length with e | e
  · exact e
  · rw [List.getElem?_eq_none e] at h
    cases h
theorem starG_eq {fs : List α} {j : Nat} {f : α} (h : fs[j]? = some f) : starG m fs j = m f := by
  unfold starG
  rw [h]
theorem takeG_succ {fs : List α} {j : Nat} {f : α} (h : fs[j]? = some f) : fs.take (j + 1) = fs.take j ++ [f] := by
  rw [List.take_succ, h]
  rfl
theorem fitG_take_star {fs : List α} {j : Nat} {w : List β} (h : starG m fs j = true) : FitG m ft (fs.take (j + 1)) w ↔ ∃ u v, w = u ++ v ∧ FitG m ft (fs.take j) u := by
  have hl := starG_lt h
  have hf : fs[j]? = some fs[j] := List.getElem?_eq_getElem hl
  rw [starG_eq hf] at h
  rw [takeG_succ hf, fitG_app]
  constructor
  · rintro ⟨u, v, e, h1, _⟩
    exact ⟨u, v, e, h1⟩
  · rintro ⟨u, v, e, h1⟩
    exact ⟨u, v, e, h1, (fitG_star h).mpr ⟨v, [], by rw [List.append_nil], rfl⟩⟩
theorem fitG_take_one {fs : List α} {j : Nat} {w : List β} {f : α} (hf : fs[j]? = some f) (h : m f = false) : FitG m ft (fs.take (j + 1)) w ↔ ∃ u c, w = u ++ [c] ∧ FitG m ft (fs.take j) u ∧ ft f c = true := by
  rw [takeG_succ hf, fitG_app]
  constructor
  · rintro ⟨u, v, rfl, h1, h2⟩
    obtain ⟨c, v', rfl, hc, hv⟩ := (fitG_one h).mp h2
    cases (show v' = [] from hv)
    exact ⟨u, c, rfl, h1, hc⟩
  · rintro ⟨u, c, rfl, h1, hc⟩
    exact ⟨u, [c], rfl, h1, (fitG_one h).mpr ⟨c, [], rfl, hc, rfl⟩⟩
/-- from s on by stars alone -/
def ClosG (m : α → Bool) (fs : List α) (s i : Nat) : Prop := s ≤ i ∧ ∀ k, s ≤ k → k < i → starG m fs k = true
theorem ClosG.refl {fs : List α} {s : Nat} : ClosG m fs s s := ⟨Nat.le_refl _, fun k a b => absurd b (by omega)⟩
theorem ClosG.trans {fs : List α} {a b c : Nat} (h : ClosG m fs a b) (g : ClosG m fs b c) : ClosG m fs a c := ⟨Nat.le_trans h.1 g.1, fun k h1 h2 => by
  rcases Nat.lt_or_ge k b with e | e
  · exact h.2 k h1 e
  · exact g.2 k e h2⟩
theorem ClosG.snoc {fs : List α} {a b : Nat} (h : ClosG m fs a b) (g : starG m fs b = true) : ClosG m fs a (b + 1) := h.trans ⟨Nat.le_succ _, fun k h1 h2 => by
  have e : k = b := by omega
  rw [e]
  exact g⟩
theorem ClosG.le {fs : List α} {s i n : Nat} (h : ClosG m fs s i) (hs : s ≤ fs.length) : i ≤ fs.length := by
  rcases Nat.eq_or_lt_of_le h.1 with e | e
  · omega
  · have := starG_lt (h.2 (i - 1) (by omega) (by omega))
    omega
/-- spot i behind the signs w -/
def AtG (m : α → Bool) (ft : α → β → Bool) (fs : List α) (w : List β) (i : Nat) : Prop := i ≤ fs.length ∧ (FitG m ft (fs.take i) w ∨ starG m fs i = true ∧ FitG m ft (fs.take (i + 1)) w)
theorem fitG_more {fs : List α} {i : Nat} {w : List β} (h : starG m fs i = true) (g : FitG m ft (fs.take i) w) : FitG m ft (fs.take (i + 1)) w := (fitG_take_star h).mpr ⟨w, [], by rw [List.append_nil], g⟩
theorem atG_clos {fs : List α} {w : List β} {s : Nat} (hs : s ≤ fs.length) (h : FitG m ft (fs.take s) w) : ∀ i, ClosG m fs s i → FitG m ft (fs.take i) w := by
  intro i hc
  obtain ⟨h1, h2⟩ := hc
  induction i with
  | zero =>
    have e : s = 0 := by omega
    rw [← e]
    exact h
  | succ i ih =>
    rcases Nat.eq_or_lt_of_le h1 with e | e
    · rw [← e]; exact h
    · exact fitG_more (h2 i (by omega) (by omega)) (ih (by omega) fun k a b => h2 k a (by omega))
theorem atG_nil {fs : List α} {i : Nat} : AtG m ft fs [] i ↔ ClosG m fs 0 i := by
  have key : ∀ j, FitG m ft (fs.take j) [] → j ≤ fs.length → ClosG m fs 0 j := by
    intro j
    induction j with
    | zero => exact fun _ _ => ClosG.refl
    | succ j ih =>
      intro h hl
      have hf : fs[j]? = some fs[j] := List.getElem?_eq_getElem hl
      cases hm : m fs[j] with
      | true =>
        have hst : starG m fs j = true := by rw [starG_eq hf]; exact hm
        obtain ⟨u, v, e, hu⟩ := (fitG_take_star hst).mp h
        have e2 := List.append_eq_nil_iff.mp e.symm
        rw [e2.1] at hu
        exact (ih hu (by omega)).snoc hst
      | false =>
        obtain ⟨u, c, e, _⟩ := (fitG_take_one hf hm).mp h
        exact absurd e.symm (by simp)
  constructor
  · rintro ⟨hl, h | ⟨hs, h⟩⟩
    · exact key i h hl
    · have hlt := starG_lt hs
      have := key (i + 1) h (by omega)
      exact ⟨Nat.zero_le _, fun k a b => this.2 k a (by omega)⟩
  · intro h
    exact ⟨h.le (n := 0) (Nat.zero_le _), .inl (atG_clos (Nat.zero_le _) (by simp [FitG]) i h)⟩
/-- one sign on -/
theorem atG_snoc {fs : List α} {w : List β} {c : β} {i : Nat} (hmf : ∀ f c, m f = true → ft f c = true) : AtG m ft fs (w ++ [c]) i ↔ ∃ s f, AtG m ft fs w s ∧ fs[s]? = some f ∧ ft f c = true ∧ ClosG m fs (if m f = true then s else s + 1) i := by
  have key : ∀ j, j ≤ fs.length → FitG m ft (fs.take j) (w ++ [c]) → ∃ s f, AtG m ft fs w s ∧ fs[s]? = some f ∧ ft f c = true ∧ ClosG m fs (if m f = true then s else s + 1) j := by
    intro j
    induction j with
    | zero => exact fun _ h => absurd (show w ++ [c] = [] from by simpa [FitG] using h) (by simp)
    | succ j ih =>
      intro hl h
      have hf : fs[j]? = some fs[j] := List.getElem?_eq_getElem hl
      cases hm : m fs[j] with
      | true =>
        have hst : starG m fs j = true := by rw [starG_eq hf]; exact hm
        obtain ⟨u, v, e, hu⟩ := (fitG_take_star hst).mp h
        rcases List.eq_nil_or_concat v with rfl | ⟨v', d, rfl⟩
        · rw [List.append_nil] at e
          rw [← e] at hu
          obtain ⟨s, f, a1, a2, a3, a4⟩ := ih (by omega) hu
          exact ⟨s, f, a1, a2, a3, a4.snoc hst⟩
        · rw [List.concat_eq_append, ← List.append_assoc] at e
          obtain ⟨e1, e2⟩ := List.append_inj' e rfl
          refine ⟨j, fs[j], ⟨by omega, .inr ⟨hst, (fitG_take_star hst).mpr ⟨u, v', e1, hu⟩⟩⟩, hf, ?_, ?_⟩
          · exact hmf _ _ hm
          · rw [if_pos hm]
            exact ClosG.refl.snoc hst
      | false =>
        obtain ⟨u, d, e, hu, hd⟩ := (fitG_take_one hf hm).mp h
        obtain ⟨e1, e2⟩ := List.append_inj' e rfl
        injection e2 with e3
        subst e1 e3
        exact ⟨j, fs[j], ⟨by omega, .inl hu⟩, hf, hd, by rw [if_neg (by rw [hm]; exact Bool.false_ne_true)]; exact ClosG.refl⟩
  constructor
  · rintro ⟨hl, h | ⟨hs, h⟩⟩
    · exact key i hl h
    · have hlt := starG_lt hs
      obtain ⟨u, v, e, hu⟩ := (fitG_take_star hs).mp h
      have hf : fs[i]? = some fs[i] := List.getElem?_eq_getElem hlt
      have hm : m fs[i] = true := by rw [← starG_eq (m := m) hf]; exact hs
      rcases List.eq_nil_or_concat v with rfl | ⟨v', d, rfl⟩
      · rw [List.append_nil] at e
        rw [← e] at hu
        exact key i hl hu
      · rw [List.concat_eq_append, ← List.append_assoc] at e
        obtain ⟨e1, e2⟩ := List.append_inj' e rfl
        refine ⟨i, fs[i], ⟨hl, .inr ⟨hs, (fitG_take_star hs).mpr ⟨u, v', e1, hu⟩⟩⟩, hf, ?_, ?_⟩
        · exact hmf _ _ hm
        · rw [if_pos hm]
          exact ClosG.refl
  · rintro ⟨s, f, ⟨hl, ha⟩, hf, hc, hcl⟩
    have hlt : s < fs.length := (List.getElem?_eq_some_iff.mp hf).1
    cases hm : m f with
    | true =>
      rw [if_pos hm] at hcl
      have hst : starG m fs s = true := by rw [starG_eq hf]; exact hm
      have h1 : FitG m ft (fs.take (s + 1)) (w ++ [c]) := by
        rcases ha with h | ⟨_, h⟩
        · exact (fitG_take_star hst).mpr ⟨w, [c], rfl, h⟩
        · obtain ⟨u, v, rfl, hu⟩ := (fitG_take_star hst).mp h
          exact (fitG_take_star hst).mpr ⟨u, v ++ [c], by rw [List.append_assoc], hu⟩
      rcases Nat.eq_or_lt_of_le hcl.1 with e | e
      · rw [← e]
        exact ⟨hl, .inr ⟨hst, h1⟩⟩
      · have h2 := atG_clos hlt h1 i ⟨e, fun k a b => hcl.2 k (by omega) b⟩
        exact ⟨hcl.le (n := 0) hl, .inl h2⟩
    | false =>
      rw [if_neg (by rw [hm]; exact Bool.false_ne_true)] at hcl
      have h0 : FitG m ft (fs.take s) w := by
        rcases ha with h | ⟨h, _⟩
        · exact h
        · rw [starG_eq hf, hm] at h
          cases h
      have h1 : FitG m ft (fs.take (s + 1)) (w ++ [c]) := (fitG_take_one hf hm).mpr ⟨w, c, rfl, h0, hc⟩
      exact ⟨hcl.le (n := 0) hlt, .inl (atG_clos hlt h1 i hcl)⟩
theorem atG_end {fs : List α} {w : List β} : AtG m ft fs w fs.length ↔ FitG m ft fs w := by
  unfold AtG
  rw [List.take_length]
  constructor
  · rintro ⟨_, h | ⟨h, _⟩⟩
    · exact h
    · exact absurd (starG_lt h) (Nat.lt_irrefl _)
  · exact fun h => ⟨Nat.le_refl _, .inl h⟩
def fitGB (m : α → Bool) (ft : α → β → Bool) : List α → List β → Bool
  | [], w => w.isEmpty
  | f :: fs, w => if m f = true then (ends (fitGB m ft fs) w).any id else match w with
    | [] => false
    | c :: v => ft f c && fitGB m ft fs v
theorem fitGB_star {f : α} {fs : List α} {w : List β} (h : m f = true) : fitGB m ft (f :: fs) w = (ends (fitGB m ft fs) w).any id := by
  show (if m f = true then _ else _) = _
  rw [if_pos h]
theorem fitGB_cons {f : α} {fs : List α} {c : β} {v : List β} (h : m f = false) : fitGB m ft (f :: fs) (c :: v) = (ft f c && fitGB m ft fs v) := by
  show (if m f = true then _ else _) = _
  rw [if_neg (by rw [h]; exact Bool.false_ne_true)]
theorem fitGB_nil {f : α} {fs : List α} (h : m f = false) : fitGB m ft (f :: fs) [] = false := by
  show (if m f = true then _ else _) = _
  rw [if_neg (by rw [h]; exact Bool.false_ne_true)]
theorem fitGB_iff : ∀ {fs : List α} {w : List β}, fitGB m ft fs w = true ↔ FitG m ft fs w
  | [], w => by
    show w.isEmpty = true ↔ w = []
    exact List.isEmpty_iff
  | f :: fs, w => by
    cases h : m f with
    | true =>
      rw [fitG_star h, fitGB_star h, ends_any]
      exact exists_congr fun u => exists_congr fun v => and_congr_right fun _ => fitGB_iff
    | false =>
      rw [fitG_one h]
      cases w with
      | nil =>
        rw [fitGB_nil h]
        exact ⟨fun h => absurd h Bool.false_ne_true, fun ⟨_, _, e, _⟩ => nomatch e⟩
      | cons c v =>
        rw [fitGB_cons h, Bool.and_eq_true, fitGB_iff]
        constructor
        · rintro ⟨h1, h2⟩
          exact ⟨c, v, rfl, h1, h2⟩
        · rintro ⟨c', v', e, h1, h2⟩
          injection e with e1 e2
          subst e1 e2
          exact ⟨h1, h2⟩
end
/-- from where on something good comes -/
def behind : List Bool → List Bool
  | [] => []
  | b :: r => (b || r.any id) :: behind r
/-! ### places -/
def spWith (K : PySem.W.Frag) : Sp := fun vs H Q _ => ∃ t sl us fs ss, vs = [.ref t, .ref sl] ∧ SqT K H t us ∧ Each (StepV K) fs us H ∧ SqL K H sl (intsV ss) ∧ (∀ s ∈ ss, s ≤ fs.length) ∧ fs.length ≤ 1000 ∧
  ∀ p l H', H p = none → Same H H' → H' p = some (.lst (intsV l)) → l.Nodup → (∀ i, i ∈ l ↔ ∃ s ∈ ss, ClosG SF.deepB fs s i) → Q (.ref p) H'
theorem ok_with_deeps (T : Txt K mg) : OkD P w K mg base 2 (fA K "with_deeps") ["steps", "places"] [] (spWith K) := by
  refine okD T.F_with_deeps sc_with_deeps (fun _ _ _ _ _ _ us hl => match us, hl with | [_, _], _ => rfl) ?_ ?_
  · rintro vs H Q E ⟨t, sl, us, fs, ss, rfl, _⟩
    rfl
  · rintro cdv A outer s H vs Q E hr ⟨t, sl, us, fs, ss, rfl, ht, hp, hs, hle, hn, q⟩
    refine ⟨_, (pss_cons (ps_set (i := 2) sc_with_deeps.nd rfl (Or.inl rfl) (pe_lst pa_nil))
  (pss_cons (ps_mid (ps_for (passes_of rfl) rfl (pi_mid (o_it (K := K) rfl (pv 1))) (pg_name (i := 3) sc_with_deeps.nd rfl (Or.inl rfl)) (pss_one (ps_while (passes_of rfl) (pt_mid (pt_cmpR (o_notin (K := K) (hu65 hr)) (pv 3) (pv 2) (by rfl))) (pss_cons (ps_expr (pe_bmK (K := K) PySem.F.plainAttrs_list PySem.F.slot_list_append PySem.F.type_list_append mt_append (pv 2) (pa_cons (pe_mid (pv 3)) pa_nil)))
  (pss_one (ps_if (pt_mid (PW.pt (pw_and (pt_cmpR o_lt (pv 3) (pe_callB (o_lenW (K := K) (w := w)) (by rfl) T.fr_len boot_len (pa_cons (pv 0) pa_nil)) (nomark _)) (pw_and1 (pt_tru (K := K) (pe_metI0 (md_deep T) (pe_ix (o_ix (K := K)) (pv 0) (pv 3) (fun _ _ => rfl)) (hr.mono (by decide)) (pasE (takes_of rfl rfl rfl rfl) (fun _ _ _ _ h => h))) (by intro _; rfl)))))) (pss_one (ps_aug (i := 3) sc_with_deeps.nd rfl (Or.inl rfl) pe_int o_iadd)) pss_nil)))))))
  (pss_one (ps_ret (pv 2))))), ?_⟩
    have tobj := T.obj
    refine q_new fun F hF => ?_
    have sF : Same H (upd H F (.lst [])) := same_new hF
    refine q_stm (fun σ H' => ∃ l x, σ = [some (.ref t), some (.ref sl), some (.ref F), x] ∧ Same H H' ∧ H' F = some (.lst (intsV l)) ∧ l.Nodup ∧ ∀ i, i ∈ l ↔ ∃ s ∈ ss, ClosG SF.deepB fs s i) ?_ ?_
    · refine for_mid (J0 := Itl K sl) (H0 := upd H F (.lst [])) ?_ (walk_list (K := K) (a := sl) (xs := intsV ss))
        (fun k σ H' => ∃ l x, σ = [some (.ref t), some (.ref sl), some (.ref F), x] ∧ Same H H' ∧ H' F = some (.lst (intsV l)) ∧ l.Nodup ∧ ∀ i, i ∈ l ↔ ∃ s ∈ ss.take k, ClosG SF.deepB fs s i)
        ⟨[], none, rfl, sF, upd_same, .nil, fun i => by simp⟩ (fun k σ H' _ h => ?_) ?_ (fun σ H' h => ?_)
      · walk_at "rd"
        exact .inl ⟨_, same_l sF hs⟩
      · obtain ⟨l, x, _, sm, _⟩ := h
        exact same_l sm hs
      · rintro k x σ H1 H1' hk ⟨l, x0, rfl, sm, hl, nd, mem⟩ ⟨rfl, hx⟩
        obtain ⟨s0, hs0, rfl⟩ : ∃ s0, ss[k]? = some s0 ∧ x = .int (s0 : Int) := by
          unfold intsV at hx
          rw [List.getElem?_map] at hx
          cases e : ss[k]? with
          | none => rw [e] at hx; cases hx
          | some s0 => rw [e] at hx; exact ⟨s0, rfl, (Option.some.inj hx).symm⟩
        have hs0l : s0 ≤ fs.length := hle s0 (List.mem_of_getElem? hs0)
        have clU : ∀ i, i ∈ l → ∀ i', ClosG SF.deepB fs i i' → i' ∈ l := fun i hi i' hc => by
          obtain ⟨s', h1, h2⟩ := (mem i).mp hi
          exact (mem i').mpr ⟨s', h1, h2.trans hc⟩
        have leU : ∀ i, i ∈ l → i ≤ fs.length := fun i hi => by
          obtain ⟨s', h1, h2⟩ := (mem i).mp hi
          exact h2.le (n := 0) (hle s' (List.mem_of_mem_take h1))
        have tk : ss.take (k + 1) = ss.take k ++ [s0] := by rw [List.take_succ, hs0]; rfl
        have memk : ∀ i, (∃ s ∈ ss.take (k + 1), ClosG SF.deepB fs s i) ↔ (i ∈ l ∨ ClosG SF.deepB fs s0 i) := fun i => by
          rw [tk]
          constructor
          · rintro ⟨s', h1, h2⟩
            rcases List.mem_append.mp h1 with h | h
            · exact .inl ((mem i).mpr ⟨s', h, h2⟩)
            · rw [List.mem_singleton.mp h] at h2
              exact .inr h2
          · rintro (h | h)
            · obtain ⟨s', h1, h2⟩ := (mem i).mp h
              exact ⟨s', List.mem_append_left _ h1, h2⟩
            · exact ⟨s0, List.mem_append_right _ List.mem_cons_self, h⟩
        refine while_mid (fun m σ H' => ∃ l' j, σ = [some (.ref t), some (.ref sl), some (.ref F), some (.int (j : Nat))] ∧ Same H H' ∧ H' F = some (.lst (intsV l')) ∧ l'.Nodup ∧ ClosG SF.deepB fs s0 j ∧ j ≤ fs.length ∧
          ((m = 2 * (fs.length + 1 - j) + 1 ∧ ∀ i, i ∈ l' ↔ i ∈ l ∨ (s0 ≤ i ∧ i < j)) ∨ (m = 2 * (fs.length + 1 - j) ∧ starG SF.deepB fs j = false ∧ ∀ i, i ∈ l' ↔ i ∈ l ∨ (s0 ≤ i ∧ i ≤ j)))) _
          ⟨l, s0, rfl, sm, hl, nd, ClosG.refl, hs0l, .inl ⟨rfl, fun i => ⟨.inl, fun h => h.elim id fun h => absurd h (by omega)⟩⟩⟩ ?_
        rintro m σ H2 ⟨l', j, rfl, sm2, hl2, nd2, cl, hj, hab⟩
        refine ⟨fun b H' => H' = H2 ∧ b = !decide (j ∈ l'), ?_, ?_, ?_⟩
        · walk_at "rd"
          exact ⟨_, .inl (.inl (.inl hl2)), flat_ints l', by rw [inV_ints]⟩
        · rintro H3 ⟨rfl, hb⟩
          have hj' : j ∉ l' := by simpa using hb
          have hm : m = 2 * (fs.length + 1 - j) + 1 ∧ ∀ i, i ∈ l' ↔ i ∈ l ∨ (s0 ≤ i ∧ i < j) := by
            rcases hab with h | ⟨_, _, h⟩
            · exact h
            · exact absurd ((h j).mpr (.inr ⟨cl.1, Nat.le_refl _⟩)) hj'
          have le' : l'.length ≤ 1001 := by
            have h := nat_nodup_len l' (List.range (fs.length + 1)) nd2 fun i hi => List.mem_range.mpr (by
              rcases (hm.2 i).mp hi with h | h
              · have := leU i h; omega
              · omega)
            rw [List.length_range] at h
            omega
          refine q_appV rfl rfl hl2 (by unfold intsV; rw [List.length_map]; omega) ?_
          have ev : intsV l' ++ [V.int (j : Int)] = intsV (l' ++ [j]) := by unfold intsV; rw [List.map_append]; rfl
          rw [ev]
          have sm4 : Same H (upd H3 F (.lst (intsV (l' ++ [j])))) := same_mut sm2 hF
          have nd4 : (l' ++ [j]).Nodup := by
            rw [List.nodup_append]
            exact ⟨nd2, List.nodup_cons.mpr ⟨List.not_mem_nil, .nil⟩, fun a ha b hb => by rw [List.mem_singleton.mp hb]; exact fun e => hj' (e ▸ ha)⟩
          have mem4 : ∀ i, i ∈ l' ++ [j] ↔ i ∈ l ∨ (s0 ≤ i ∧ i ≤ j) := fun i => by
            rw [List.mem_append, hm.2, List.mem_singleton]
            have := cl.1
            constructor
            · rintro ((h | h) | h)
              · exact .inl h
              · exact .inr ⟨h.1, by omega⟩
              · exact .inr ⟨by omega, by omega⟩
            · rintro (h | h)
              · exact .inl (.inl h)
              · rcases Nat.lt_or_ge i j with e | e
                · exact .inl (.inr ⟨h.1, e⟩)
                · exact .inr (by omega)
          refine l_if (fun b H' => H' = upd H3 F (.lst (intsV (l' ++ [j]))) ∧ b = starG SF.deepB fs j) ?_ ?_ ?_
          · have ht4 := same_t sm4 ht
            have hp4 := hp.mono sm4
            walk_at "rd"
            refine .inr ⟨_, .inr ⟨us, ht4, rfl⟩, ?_⟩
            rw [hp4.1]
            refine ite2 (fun hlt => ?_) fun hge => ?_
            · have hlt' : j < fs.length := Int.ofNat_lt.mp hlt
              obtain ⟨u, hu, pu⟩ := hp4.2 j fs[j] (List.getElem?_eq_getElem hlt')
              refine ⟨us, .inr ht4, u, atI_nat hu, fs[j], pu, u, rfl, pu, ?_⟩
              rw [starG_eq (List.getElem?_eq_getElem hlt')]
              exact ⟨_, rfl, rfl, rfl⟩
            · have e : starG SF.deepB fs j = false := by
                cases hq : starG SF.deepB fs j with
                | false => rfl
                | true => exact absurd (Int.ofNat_lt.mpr (starG_lt hq)) hge
              rw [e]
          · rintro H4 ⟨rfl, hb⟩
            have hst : starG SF.deepB fs j = true := hb.symm
            have hlt := starG_lt hst
            walk_at "rd"
            refine ⟨_, ?_, l' ++ [j], j + 1, rfl, sm4, upd_same, nd4, cl.snoc hst, hlt, .inl ⟨rfl, fun i => by rw [mem4]; exact ⟨fun h => h.imp id fun h => ⟨h.1, by omega⟩, fun h => h.imp id fun h => ⟨h.1, by omega⟩⟩⟩⟩
            omega
          · rintro H4 ⟨rfl, hb⟩
            refine ⟨_, ?_, l' ++ [j], j, rfl, sm4, upd_same, nd4, cl, hj, .inr ⟨rfl, hb.symm, mem4⟩⟩
            omega
        · rintro H3 ⟨rfl, hb⟩
          have hj' : j ∈ l' := by simpa using hb
          refine ⟨l', _, rfl, sm2, hl2, nd2, fun i => ?_⟩
          rw [memk]
          rcases hab with ⟨_, h⟩ | ⟨_, hst, h⟩
          · rw [h]
            have hjl : j ∈ l := ((h j).mp hj').elim id fun h => absurd h.2 (Nat.lt_irrefl _)
            constructor
            · rintro (h1 | h1)
              · exact .inl h1
              · exact .inr ⟨h1.1, fun k a b => cl.2 k a (by omega)⟩
            · rintro (h1 | h1)
              · exact .inl h1
              · rcases Nat.lt_or_ge i j with e | e
                · exact .inr ⟨h1.1, e⟩
                · exact .inl (clU j hjl i ⟨e, fun k a b => h1.2 k (by have := cl.1; omega) b⟩)
          · rw [h]
            constructor
            · rintro (h1 | h1)
              · exact .inl h1
              · exact .inr ⟨h1.1, fun k a b => cl.2 k a (by omega)⟩
            · rintro (h1 | h1)
              · exact .inl h1
              · refine .inr ⟨h1.1, ?_⟩
                rcases Nat.lt_or_ge j i with e | e
                · have := h1.2 j cl.1 e
                  rw [hst] at this
                  cases this
                · exact e
      · obtain ⟨l, x, e, sm, hl, nd, mem⟩ := h
        refine ⟨l, x, e, sm, hl, nd, ?_⟩
        rw [List.take_of_length_le (by unfold intsV; rw [List.length_map]; exact Nat.le_refl _)] at mem
        exact mem
    · rintro σ H1 ⟨l, x, rfl, sm, hl, nd, mem⟩
      walk_at "rd"
      exact q F l H1 hF sm hl nd mem
/-! ### a row fits names -/
def SF.fitB (s : SF) (nm : List Nat) : Bool := match s with
  | .deep => true
  | .seg fs => SL.fitB fs nm
theorem SF.fits_iff {s : SF} {nm : List Nat} : s.fitB nm = true ↔ s.fits nm := by
  cases s with
  | deep => exact ⟨fun _ => trivial, fun _ => rfl⟩
  | seg fs => exact SL.fitB_iff
theorem SF.deep_fits (s : SF) (nm : List Nat) (h : s.deepB = true) : s.fitB nm = true := by
  cases s with
  | deep => rfl
  | seg fs => cases h
abbrev RFit (ss : List SF) (nms : List (List Nat)) : Prop := FitG SF.deepB SF.fitB ss nms
def nmsV (nms : List (List Nat)) : List V := (nms.map S).map V.str
theorem nms_at {nms : List (List Nat)} {k : Nat} {x : V} (h : (nmsV nms)[k]? = some x) : ∃ nm, nms[k]? = some nm ∧ x = .str (S nm) := by
  unfold nmsV at h
  rw [List.getElem?_map, List.getElem?_map] at h
  cases e : nms[k]? with
  | none => rw [e] at h; cases h
  | some nm => rw [e] at h; exact ⟨nm, rfl, (Option.some.inj h).symm⟩
theorem nms_len {nms : List (List Nat)} : (nmsV nms).length = nms.length := by unfold nmsV; rw [List.length_map, List.length_map]
structure RowSz (r : RF) : Prop where
  len : r.steps.length ≤ 1000
  parts : ∀ fs, SF.seg fs ∈ r.steps → fs.length ≤ 1000
def spFitsR (K : PySem.W.Frag) : Sp := fun vs H Q _ => ∃ v n fo r nms, vs = [v, .ref n, .bl fo] ∧ RowV K r v H ∧ RowSz r ∧ SqL K H n (nmsV nms) ∧
  ∀ b H', Same H H' → (b = true ↔ (r.folders = true → fo = true) ∧ RFit r.steps nms) → Q (.bl b) H'
theorem ok_fits (T : Txt K mg) : OkD P w K mg base 4 (fA K "fits") ["row", "names", "folder"] [] (spFitsR K) := by
  refine okD T.F_fits sc_fits (fun _ _ _ _ _ _ us hl => match us, hl with | [_, _, _], _ => rfl) ?_ ?_
  · rintro vs H Q E ⟨v, n, fo, r, nms, rfl, _⟩
    rfl
  · rintro cdv A outer s H vs Q E hr ⟨v, n, fo, r, nms, rfl, ⟨p, dx, t, us, rfl, ho, ht, hp, hne⟩, sz, hnm, q⟩
    have hn := sz.len
    refine ⟨_, (pss_cons (ps_if (pt_mid (PW.pt (pw_and (pt_tru (K := K) (pe_fldK (K := K) (pv 0) rfl) (by intro _; rfl)) (pw_and1 (pt_not (pt_tru (K := K) (pv 2) (by intro _; rfl))))))) (pss_one (ps_ret pe_bl)) pss_nil)
  (pss_cons (ps_set (i := 3) sc_fits.nd rfl (Or.inl rfl) (pe_mid (pe_cal (ok_with_deeps T) (hr.mono (by decide)) rfl T.g_with_deeps (pasE (takes_of rfl rfl rfl rfl) (fun _ _ _ _ h => h)) (pa_cons (pe_fldK (K := K) (pv 0) rfl) (pa_cons (pe_lst (pa_cons pe_int pa_nil)) pa_nil)))))
  (pss_cons (ps_mid (ps_for (passes_of rfl) rfl (pi_mid (o_it (K := K) rfl (pv 1))) (pg_name (i := 4) sc_fits.nd rfl (Or.inl rfl)) (pss_cons (ps_set (i := 5) sc_fits.nd rfl (Or.inl rfl) (pe_lst pa_nil))
  (pss_cons (ps_mid (ps_for (passes_of rfl) rfl (pi_mid (o_it (K := K) rfl (pv 3))) (pg_name (i := 6) sc_fits.nd rfl (Or.inl rfl)) (pss_one (ps_if (pt_mid (PW.pt (pw_and (pt_cmpR o_lt (pv 6) (pe_callB (o_lenW (K := K) (w := w)) (by rfl) T.fr_len boot_len (pa_cons (pe_fldK (K := K) (pv 0) rfl) pa_nil)) (nomark _)) (pw_and1 (pt_tru (K := K) (pe_metI (md_fits_name T) (pe_ix (o_ix (K := K)) (pe_fldK (K := K) (pv 0) rfl) (pv 6) (fun _ _ => rfl)) (hr.mono (by decide)) (pasE (takes_of rfl rfl rfl rfl) (fun _ _ _ _ h => h)) (pa_cons (pv 4) pa_nil)) (by intro _; rfl)))))) (pss_one (ps_expr (pe_bmK (K := K) PySem.F.plainAttrs_list PySem.F.slot_list_append PySem.F.type_list_append mt_append (pv 5) (pa_cons (pe_mid (pe_ifExp (pt_tru (K := K) (pe_metI0 (md_deep T) (pe_ix (o_ix (K := K)) (pe_fldK (K := K) (pv 0) rfl) (pv 6) (fun _ _ => rfl)) (hr.mono (by decide)) (pasE (takes_of rfl rfl rfl rfl) (fun _ _ _ _ h => h))) (by intro _; rfl)) (pv 6) (pe_op (o_add (K := K)) (pv 6) pe_int))) pa_nil)))) pss_nil))))
  (pss_one (ps_set (i := 3) sc_fits.nd rfl (Or.inl rfl) (pe_mid (pe_cal (ok_with_deeps T) (hr.mono (by decide)) rfl T.g_with_deeps (pasE (takes_of rfl rfl rfl rfl) (fun _ _ _ _ h => h)) (pa_cons (pe_fldK (K := K) (pv 0) rfl) (pa_cons (pv 5) pa_nil))))))))))
  (pss_one (ps_ret (pe_cmpR (o_in (K := K) (hu65 hr)) (pe_callB (o_lenW (K := K) (w := w)) (by rfl) T.fr_len boot_len (pa_cons (pe_fldK (K := K) (pv 0) rfl) pa_nil)) (pv 3) (by rfl))))))), ?_⟩
    have tobj := T.obj
    refine q_if (fun b H' => H' = H ∧ b = (r.folders && !fo)) ?_ (fun H1 h => ?_) (fun H1 h => ?_)
    · walk_at "rdh"
      cases r.folders <;> simp
    · obtain ⟨rfl, hb⟩ := h
      rw [eq_comm, Bool.and_eq_true] at hb
      walk_at "rd"
      refine q false H1 (Same.refl _) ⟨fun h => (nomatch h), fun h => ?_⟩
      have h2 := h.1 hb.1
      rw [h2] at hb
      exact nomatch hb.2
    obtain ⟨rfl, hb⟩ := h
    have hfo : r.folders = true → fo = true := fun h => by
      rw [h] at hb
      cases fo with
      | true => rfl
      | false => cases hb
    clear hb
    refine q_midG (fun v H' => ∃ sp l, v = .ref sp ∧ Same H1 H' ∧ H' sp = some (.lst (intsV l)) ∧ l.Nodup ∧ ∀ i, i ∈ l ↔ AtG SF.deepB SF.fitB r.steps ([] : List (List Nat)) i) ?_ ?_
    · walk_at "rdh"
      intro n' hn0
      have sn := same_new (o := .lst [.int 0]) hn0
      refine ⟨t, n', us, r.steps, [0], rfl, .inl (.inl (sn _ _ ht)), hp.mono sn, .inl (.inl upd_same), fun s hs => by rw [List.mem_singleton.mp hs]; exact Nat.zero_le _, hn, fun sp l H' hs0 s2 hl nd mem => ⟨sp, rfl, sn.trans s2, l, hl, nd, fun i => ?_⟩⟩
      rw [mem, atG_nil]
      simp
    · rintro _ H2 ⟨sp, l, rfl, s1, hl, nd, mem⟩
      refine q_stm (fun σ H' => ∃ sp l x y z, σ = [some (.ref p), some (.ref n), some (.bl fo), some (.ref sp), x, y, z] ∧ Same H1 H' ∧ H' sp = some (.lst (intsV l)) ∧ l.Nodup ∧ ∀ i, i ∈ l ↔ AtG SF.deepB SF.fitB r.steps nms i) ?_ ?_
      · refine for_mid (J0 := Itl K n) (H0 := H2) ?_ (walk_list (K := K) (a := n) (xs := nmsV nms))
          (fun k σ H' => ∃ sp l x y z, σ = [some (.ref p), some (.ref n), some (.bl fo), some (.ref sp), x, y, z] ∧ Same H1 H' ∧ H' sp = some (.lst (intsV l)) ∧ l.Nodup ∧ ∀ i, i ∈ l ↔ AtG SF.deepB SF.fitB r.steps (nms.take k) i)
          ⟨sp, l, none, none, none, rfl, s1, hl, nd, mem⟩ (fun _ _ _ _ ⟨_, _, _, _, _, _, s2, _⟩ => same_l s2 hnm) ?_ (fun σ H' h => ?_)
        · walk_at "rd"
          exact .inl ⟨_, same_l s1 hnm⟩
        · rintro k x σ H2 H2' hk ⟨sp, l, x0, y0, z0, rfl, s2, hl, nd, mem⟩ ⟨rfl, hx⟩
          obtain ⟨nm, hc', rfl⟩ := nms_at hx
          have tk : nms.take (k + 1) = nms.take k ++ [nm] := by rw [List.take_succ, hc']; rfl
          have lel : l.length ≤ 1001 := by
            have h := nat_nodup_len l (List.range (r.steps.length + 1)) nd fun i hi => List.mem_range.mpr (by have := ((mem i).mp hi).1; omega)
            rw [List.length_range] at h
            omega
          refine q_new fun F hF => ?_
          have hFH : H1 F = none := by
            cases e : H1 F with
            | none => rfl
            | some o => rw [s2 _ _ e] at hF; cases hF
          have sF := same_new (o := .lst []) hF
          refine q_stm (fun σ H' => ∃ m x, σ = [some (.ref p), some (.ref n), some (.bl fo), some (.ref sp), some (.str (S nm)), some (.ref F), x] ∧ Same H2' H' ∧ H' F = some (.lst (intsV m)) ∧ m.length ≤ 1001 ∧ ∀ i, i ∈ m ↔ ∃ s ∈ l, ∃ f, r.steps[s]? = some f ∧ f.fitB nm = true ∧ i = (if f.deepB = true then s else s + 1)) ?_ ?_
          · refine for_mid (J0 := Itl K sp) (H0 := upd H2' F (.lst [])) ?_ (walk_list (K := K) (a := sp) (xs := intsV l))
              (fun j σ H' => ∃ m x, σ = [some (.ref p), some (.ref n), some (.bl fo), some (.ref sp), some (.str (S nm)), some (.ref F), x] ∧ Same H2' H' ∧ H' F = some (.lst (intsV m)) ∧ m.length ≤ j ∧ ∀ i, i ∈ m ↔ ∃ s ∈ l.take j, ∃ f, r.steps[s]? = some f ∧ f.fitB nm = true ∧ i = (if f.deepB = true then s else s + 1))
              ⟨[], _, rfl, sF, upd_same, Nat.le_refl _, fun i => by simp⟩ (fun j σ H' _ ⟨_, _, _, s3, _⟩ => .inl (.inl (s3 _ _ hl))) ?_ (fun σ H' h => ?_)
            · walk_at "rd"
              exact .inl ⟨_, .inl (.inl (sF _ _ hl))⟩
            · rintro j x σ H3 H3' hj ⟨m, x1, rfl, s3, hm, lm, memm⟩ ⟨rfl, hx⟩
              obtain ⟨s0, hs0, rfl⟩ : ∃ s0, l[j]? = some s0 ∧ x = .int (s0 : Int) := by
                unfold intsV at hx
                rw [List.getElem?_map] at hx
                cases e : l[j]? with
                | none => rw [e] at hx; cases hx
                | some s0 => rw [e] at hx; exact ⟨s0, rfl, (Option.some.inj hx).symm⟩
              have tj : l.take (j + 1) = l.take j ++ [s0] := by rw [List.take_succ, hs0]; rfl
              have s13 : Same H1 H3' := s2.trans s3
              have ho3 := s13 _ _ ho
              have ht3 := s13 _ _ ht
              have hp3 := hp.mono s13
              refine l_if (fun b H' => Same H3' H' ∧ (b = true ↔ ∃ f, r.steps[s0]? = some f ∧ f.fitB nm = true)) ?_ ?_ ?_
              · walk_at "rdh"
                refine .inr ⟨_, .inr ⟨us, .inl (.inl ht3), rfl⟩, ?_⟩
                rw [hp3.1]
                refine ite2 (fun hlt => ?_) fun hge => ?_
                · have hlt' : s0 < r.steps.length := Int.ofNat_lt.mp hlt
                  obtain ⟨u, hu, pu⟩ := hp3.2 s0 r.steps[s0] (List.getElem?_eq_getElem hlt')
                  refine ⟨us, .inr (.inl (.inl ht3)), u, atI_nat hu, r.steps[s0], pu, u, nm, rfl, pu, fun gs e => sz.parts gs (e ▸ List.getElem_mem hlt'), fun b H' s h => ?_⟩
                  exact ⟨_, rfl, s, fun hb => ⟨r.steps[s0], List.getElem?_eq_getElem hlt', SF.fits_iff.mpr (h.mp hb)⟩, fun ⟨f, h1, h2⟩ => by
                    rw [List.getElem?_eq_getElem hlt'] at h1
                    rw [← Option.some.inj h1] at h2
                    exact h.mpr (SF.fits_iff.mp h2)⟩
                · exact ⟨fun h => h.elim, fun ⟨f, h1, _⟩ => absurd (Int.ofNat_lt.mpr (List.getElem?_eq_some_iff.mp h1).1) hge⟩
              · rintro H4 ⟨s34, hb⟩
                obtain ⟨f, hf, hfc⟩ := hb.mp rfl
                have hp4 := hp3.mono s34
                have ho4 := s34 _ _ ho3
                have ht4 := s34 _ _ ht3
                have hm4 := s34 _ _ hm
                obtain ⟨u, hu, pu⟩ := hp4.2 s0 f hf
                refine l_app rfl hm4 ?_
                walk_at "rdh"
                refine ⟨us, .inr (.inl (.inl ht4)), u, atI_nat hu, f, pu, u, rfl, pu, ?_⟩
                have memn : ∀ i, i ∈ m ++ [if f.deepB = true then s0 else s0 + 1] ↔ ∃ s ∈ l.take (j + 1), ∃ f, r.steps[s]? = some f ∧ f.fitB nm = true ∧ i = (if f.deepB = true then s else s + 1) := fun i => by
                  rw [List.mem_append, memm, tj, List.mem_singleton]
                  constructor
                  · rintro (⟨a, h1, h2⟩ | h)
                    · exact ⟨a, List.mem_append_left _ h1, h2⟩
                    · exact ⟨s0, List.mem_append_right _ List.mem_cons_self, f, hf, hfc, h⟩
                  · rintro ⟨a, h1, f', h2, h3, h4⟩
                    rcases List.mem_append.mp h1 with h | h
                    · exact .inl ⟨a, h, f', h2, h3, h4⟩
                    · have ea := List.mem_singleton.mp h
                      subst ea
                      rw [hf] at h2
                      cases h2
                      exact .inr h4
                refine ⟨_, rfl, ?_⟩
                have hlm : (intsV m).length < 16777216 := by
                  have hj2 : j < l.length := by unfold intsV at hj; rwa [List.length_map] at hj
                  unfold intsV; rw [List.length_map]; omega
                have ev : ∀ i : Nat, intsV m ++ [V.int (i : Int)] = intsV (m ++ [i]) := fun i => by unfold intsV; rw [List.map_append]; rfl
                cases hdb : f.deepB with
                | true =>
                  rw [if_pos rfl]
                  rw [hdb, if_pos rfl] at memn
                  refine ⟨intsV m, hm4, hlm, same_mut (s3.trans s34) hF, m ++ [s0], by rw [ev], by rw [List.length_append, List.length_singleton]; omega, fun i => by have h := memn i; rwa [tj] at h⟩
                | false =>
                  rw [if_neg Bool.false_ne_true]
                  rw [hdb, if_neg Bool.false_ne_true] at memn
                  refine ⟨intsV m, hm4, hlm, same_mut (s3.trans s34) hF, m ++ [s0 + 1], by rw [← ev]; rfl, by rw [List.length_append, List.length_singleton]; omega, fun i => by have h := memn i; rwa [tj] at h⟩
              · rintro H4 ⟨s34, hb⟩
                refine ⟨m, _, rfl, s3.trans s34, s34 _ _ hm, by omega, fun i => ?_⟩
                rw [memm, tj]
                constructor
                · rintro ⟨a, h1, h2⟩
                  exact ⟨a, List.mem_append_left _ h1, h2⟩
                · rintro ⟨a, h1, f, h2, h3, h4⟩
                  rcases List.mem_append.mp h1 with h | h
                  · exact ⟨a, h, f, h2, h3, h4⟩
                  · rw [List.mem_singleton.mp h] at h2
                    exact absurd (hb.mpr ⟨f, h2, h3⟩) Bool.false_ne_true
            · obtain ⟨m, x, e, s3, hm, lm, memm⟩ := h
              have hl2 : (intsV l).length = l.length := by unfold intsV; rw [List.length_map]
              rw [List.take_of_length_le (by rw [hl2]; exact Nat.le_refl _)] at memm
              exact ⟨m, x, e, s3, hm, by omega, memm⟩
          · rintro σ H3 ⟨m, x, rfl, s3, hm, lm, memm⟩
            have s13 : Same H1 H3 := s2.trans s3
            have ho3 := s13 _ _ ho
            have ht3 := s13 _ _ ht
            refine l_midG (fun v H' => ∃ sp l, v = .ref sp ∧ Same H3 H' ∧ H' sp = some (.lst (intsV l)) ∧ l.Nodup ∧ ∀ i, i ∈ l ↔ AtG SF.deepB SF.fitB r.steps (nms.take (k + 1)) i) ?_ ?_
            · rw [tk]
              walk_at "rdh"
              refine ⟨t, F, us, r.steps, m, rfl, .inl (.inl ht3), hp.mono s13, .inl (.inl hm), fun i hi => ?_, hn, fun sp' l' H' _ s4 hl' nd' mem' => ⟨sp', rfl, s4, l', hl', nd', fun i => ?_⟩⟩
              · obtain ⟨a, _, f, h2, _, h4⟩ := (memm i).mp hi
                have := (List.getElem?_eq_some_iff.mp h2).1
                split at h4 <;> omega
              · rw [mem', atG_snoc SF.deep_fits]
                constructor
                · rintro ⟨a, ha, hcl⟩
                  obtain ⟨b, hb, f, h2, h3, h4⟩ := (memm a).mp ha
                  rw [h4] at hcl
                  exact ⟨b, f, (mem b).mp hb, h2, h3, hcl⟩
                · rintro ⟨b, f, hb, h2, h3, hcl⟩
                  exact ⟨_, (memm _).mpr ⟨b, (mem b).mpr hb, f, h2, h3, rfl⟩, hcl⟩
            · rintro _ H4 ⟨sp', l', rfl, s4, hl', nd', mem'⟩
              exact ⟨sp', l', _, _, _, rfl, (s13.trans s4), hl', nd', mem'⟩
        · obtain ⟨sp, l, x, y, z, e, s1, hl, nd, mem⟩ := h
          rw [List.take_of_length_le (by rw [nms_len]; exact Nat.le_refl _)] at mem
          exact ⟨sp, l, x, y, z, e, s1, hl, nd, mem⟩
      · rintro σ H2 ⟨sp, l, x, y, z, rfl, s2, hl, nd, mem⟩
        have ho2 := s2 _ _ ho
        have ht2 := s2 _ _ ht
        walk_at "rdh"
        refine .inr ⟨_, .inr ⟨us, .inl (.inl ht2), rfl⟩, _, .inl (.inl (.inl hl)), flat_ints l, ?_⟩
        rw [hp.1, inV_ints]
        refine q _ H2 s2 ?_
        rw [decide_eq_true_eq, mem, atG_end]
        exact ⟨fun h => ⟨hfo, h⟩, fun h => h.2⟩

/-! ### the law's own fitting of a name -/
/-! ### names that parts fit, or nearly fit -/
/-! ### the law's own fitting -/
/-! ### rows near the bounds -/
/-! ### lists of rows -/
theorem RF.tup (r : RF) : tupB r.d = true := by simp [RF.d, tupB, tupBs, tupBs_map SF.d SF.tup r.steps]
abbrev RowsE (K : PySem.W.Frag) (rs : List RF) (us : List V) (H : Hp) : Prop := Each (fun f u H => Dp K H u (RF.d f)) rs us H
def RowsL (K : PySem.W.Frag) (rs : List RF) (F : Addr) (H : Hp) : Prop := ∃ us, H F = some (.lst us) ∧ RowsE K rs us H ∧ ∀ r ∈ rs, r.Ok ∧ r.Low
theorem RowsL.mono {rs : List RF} {F : Addr} {H H' : Hp} (h : RowsL K rs F H) (s : Same H H') : RowsL K rs F H' := let ⟨us, a, b, c⟩ := h; ⟨us, s _ _ a, b.imp fun _ _ d => dp_mono s _ _ d, c⟩
theorem rows_snoc {rs : List RF} {us : List V} {r : RF} {y : V} {L : Addr} {H : Hp} (hl : H L = some (.lst us)) (e : RowsE K rs us H) (d : Dp K H y r.d) : RowsE K (rs ++ [r]) (us ++ [y]) (upd H L (.lst (us ++ [y]))) :=
  Each.snoc (e.imp fun f u d => dp_nl (nl_upd hl) _ _ f.tup d) (dp_nl (nl_upd hl) _ _ r.tup d)
def spRows (K : PySem.W.Frag) : Sp := fun vs H Q _ => ∃ a ns p ws, ∃ first many : Nat, vs = [.ref a, .int first, .int many, .ref p] ∧ SqL K H a (List.map V.int ns) ∧ ns.length ≤ 63 ∧ first + many ≤ 64 ∧ SqL K H p ws ∧ ws.length = 4 ∧ (∀ v ∈ ws, SignV v) ∧
  ∀ F rs H', Same H H' → H F = none → RowsL K rs F H' → rs.length = many → Q (.ref F) H'
theorem ok__law_rows (T : Txt K mg) : OkD P w K mg base 4 (fA K "_law_rows") ["_law_script", "_law_first", "_law_many", "_law_signs_here"] [] (spRows K) := by
  refine okD T.F__law_rows sc__law_rows (fun _ _ _ _ _ _ us hl => match us, hl with | [_, _, _, _], _ => rfl) ?_ ?_
  · rintro vs H Q E ⟨a, ns, p, ws, first, many, rfl, _⟩
    rfl
  · rintro cdv A outer s H vs Q E hr ⟨a, ns, p, ws, first, many, rfl, ha, hn, hfm, hs, hl, hw, q⟩
    refine ⟨_, (pss_cons (ps_set (i := 4) sc__law_rows.nd rfl (Or.inl rfl) (pe_lst pa_nil))
  (pss_cons (ps_mid (ps_for (passes_of rfl) rfl (pi_mid (pi_range1 rfl T.fr_range (pa_cons (pv 2) pa_nil))) (pg_name (i := 5) sc__law_rows.nd rfl (Or.inl rfl)) (pss_cons (ps_set (i := 6) sc__law_rows.nd rfl (Or.inl rfl) (pe_mid (pe_cal (ok__law_cell T) (hr.mono (by decide)) rfl T.g__law_cell (pasE (takes_of rfl rfl rfl rfl) (fun _ _ _ _ h => h)) (pa_cons (pv 0) (pa_cons (pe_op (o_add (K := K)) (pv 1) (pv 5)) pa_nil)))))
  (pss_cons (ps_set (i := 7) sc__law_rows.nd rfl (Or.inl rfl) (pe_mid (pe_cal (ok__law_row T) (hr.mono (by decide)) rfl T.g__law_row (pasE (takes_of rfl rfl rfl rfl) (fun _ _ _ _ h => h)) (pa_cons (pv 6) (pa_cons (pv 3) pa_nil)))))
  (pss_cons (ps_mid (ps_if (pt_mid (PW.pt (pw_and (pt_cmpR (o_ne (K := K) (hu64 hr)) (pv 4) (pe_lst pa_nil) (nomark _)) (pw_and1 (pt_cmpR (o_eq (K := K) (hu64 hr)) (pe_op op_mod (pe_op op_fdivW (pv 6) pe_int) pe_int) pe_int (nomark _)))))) (pss_one (ps_set (i := 7) sc__law_rows.nd rfl (Or.inl rfl) (pe_mid (pe_tup (pa_cons (pe_ix (o_ix (K := K)) (pe_ix (o_ix (K := K)) (pv 4) (pe_un un_neg pe_int) (fun _ _ => rfl)) pe_int (fun _ _ => rfl)) (pa_cons (pe_notK (K := K) (pe_ix (o_ix (K := K)) (pe_ix (o_ix (K := K)) (pv 4) (pe_un un_neg pe_int) (fun _ _ => rfl)) pe_int (fun _ _ => rfl))) (pa_cons (pe_ix (o_ix (K := K)) (pv 7) pe_int (fun _ _ => rfl)) pa_nil))))))) pss_nil))
  (pss_one (ps_expr (pe_bmK (K := K) PySem.F.plainAttrs_list PySem.F.slot_list_append PySem.F.type_list_append mt_append (pv 4) (pa_cons (pe_mid (pv 7)) pa_nil)))))))))
  (pss_one (ps_ret (pv 4))))), ?_⟩
    have tobj := T.obj
    refine q_new fun L hL => ?_
    have sL := same_new (o := .lst []) hL
    refine q_stm (fun σ H' => ∃ rs x5 x6 x7, σ = [some (.ref a), some (.int first), some (.int many), some (.ref p), some (.ref L), x5, x6, x7] ∧ Same H H' ∧ RowsL K rs L H' ∧ rs.length = many) ?_ ?_
    · refine for_mid (J0 := Itr 0 many) (H0 := upd H L (.lst [])) ?_ walk_range
        (fun k σ H' => ∃ rs x5 x6 x7, σ = [some (.ref a), some (.int first), some (.int many), some (.ref p), some (.ref L), x5, x6, x7] ∧ Same H H' ∧ RowsL K rs L H' ∧ rs.length = k)
        ⟨[], none, none, none, rfl, sL, ⟨[], upd_same, .nil, fun _ h => nomatch h⟩, rfl⟩ (fun _ _ _ _ _ => trivial) ?_ (fun _ _ h => h)
      · walk_at "rd"
        exact ⟨by omega, by omega, rfl⟩
      · rintro k x σ H1 H1' hk ⟨rs, x5, x6, x7, rfl, sm, ⟨us, hl1, each, oks⟩, len⟩ ⟨rfl, rfl⟩
        refine q_mid (fun _ => True) ?_ fun cell _ => ?_
        · walk_at "rd"
          exact ⟨a, _, ns, rfl, same_l sm ha, hn, by omega, by omega, fun c => ⟨rfl, c, rfl⟩⟩
        refine q_midG (fun v H' => Same H1' H' ∧ ∃ r, RF.Ok r ∧ r.Low ∧ Dp K H' v r.d) ?_ ?_
        · walk_at "rd"
          exact ⟨cell, p, ws, rfl, same_l sm hs, hl, hw, fun v r H' ok lo _ s d => ⟨s, r, ok, lo, d⟩⟩
        rintro v H2 ⟨s2, r, ok, lo, d⟩
        have hl2 := s2 _ _ hl1
        have each2 : RowsE K rs us H2 := each.imp fun _ _ d => dp_mono s2 _ _ d
        refine q_stm (fun σ H' => Same H2 H' ∧ ∃ v r, σ = [some (.ref a), some (.int first), some (.int many), some (.ref p), some (.ref L), some (.int (0 + k)), some (.int cell), some v] ∧ RF.Ok r ∧ r.Low ∧ Dp K H' v r.d) ?_ ?_
        · refine l_if (fun b H' => Same H2 H' ∧ (b = true → rs ≠ [])) ?_ (fun H3 h => ?_) (fun H3 h => ?_)
          · walk_at "rd"
            intro n hn
            have sn := same_new (o := .lst []) hn
            refine ne_nil (.inl (.inl (sn _ _ hl2))) (.inl (.inl upd_same)) ⟨_, rfl, ite2 (fun h => ?_) fun h => ?_⟩
            · have hne : rs ≠ [] := fun e => by
                have hu : us = [] := List.length_eq_zero_iff.mp (by rw [each.1, e]; rfl)
                simp [hu] at h
              exact ⟨⟨by decide, by decide⟩, sn, fun _ => hne⟩
            · exact ⟨sn, fun h => h.elim⟩
          · obtain ⟨s3, hb⟩ := h
            have hl3 := s3 _ _ hl2
            obtain ⟨g, hg⟩ : ∃ g, rs.getLast? = some g := by
              cases e : rs.getLast? with
              | none => exact absurd (List.getLast?_eq_none_iff.mp e) (hb rfl)
              | some g => exact ⟨g, rfl⟩
            have hg' := hg
            rw [List.getLast?_eq_getElem?] at hg'
            obtain ⟨u, hu, du⟩ := each2.2 _ g hg'
            have hlast : us.getLast? = some u := by rw [List.getLast?_eq_getElem?, each.1]; exact hu
            obtain ⟨okg, log⟩ := oks g (List.mem_of_getElem? hg')
            obtain ⟨ga, gt, gus, rfl, hga, hgt, geach⟩ := RF.inv (dp_mono s3 _ _ du)
            obtain ⟨va, vt, vus, rfl, hva, hvt, veach⟩ := RF.inv (dp_mono s3 _ _ d)
            refine l_midG (fun v H' => Same H3 H' ∧ ∃ r, RF.Ok r ∧ r.Low ∧ Dp K H' v r.d) ?_ ?_
            · walk_at "rd"
              refine ⟨us, .inl (.inl (.inl hl3)), _, atI_last hlast, _, .inr hga, _, rfl, us, .inl (.inl (.inl hl3)), _, atI_last hlast, _, .inr hga, _, rfl, g.spares, rfl, _, .inr hva, _, rfl, fun p' hp' => ⟨same_new hp', ⟨g.steps, !g.spares, r.folders⟩, ⟨okg.ne, okg.ok, okg.two, okg.len⟩, log, ?_⟩⟩
              exact .tup (.inl (.inl upd_same)) (.cons (.tup (same_t (same_new hp') hgt) (each_dp (geach.imp fun f u d => dp_mono (same_new hp') _ _ d))) (.cons (.bl _) (.cons (.bl _) .nil)))
            · rintro v' H4 ⟨s4, r', ok', lo', d'⟩
              exact ⟨s3.trans s4, v', r', rfl, ok', lo', d'⟩
          · obtain ⟨s3, _⟩ := h
            exact ⟨s3, v, r, rfl, ok, lo, dp_mono s3 _ _ d⟩
        · rintro σ H3 ⟨s3, v', r', rfl, ok', lo', d'⟩
          have hl3 := s3 _ _ hl2
          refine l_appV rfl rfl hl3 (by rw [each.1]; omega) ⟨rs ++ [r'], _, _, _, rfl, same_mut ((sm.trans s2).trans s3) hL, ⟨_, upd_same, rows_snoc hl3 (each2.imp fun _ _ d => dp_mono s3 _ _ d) d', fun g hg => ?_⟩, by rw [List.length_append, len]; rfl⟩
          exact (List.mem_append.mp hg).elim (oks g) fun e => by rw [List.mem_singleton.mp e]; exact ⟨ok', lo'⟩
    · rintro σ H1 ⟨rs, x5, x6, x7, rfl, s1, h1, h2⟩
      walk_at "rd"
      exact q L rs H1 s1 hL h1 h2

/-! ### the last row that fits -/
def rfit (nms : List (List Nat)) (fo : Bool) (r : RF) : Bool := (!r.folders || fo) && fitGB SF.deepB SF.fitB r.steps nms
theorem rfit_eq {b fo : Bool} {r : RF} {nms : List (List Nat)} (h : b = true ↔ (r.folders = true → fo = true) ∧ RFit r.steps nms) : b = rfit nms fo r := by
  have e : fitGB SF.deepB SF.fitB r.steps nms = true ↔ RFit r.steps nms := fitGB_iff
  unfold rfit
  refine Bool.eq_iff_iff.mpr ?_
  rw [h, Bool.and_eq_true, e]
  refine and_congr_left fun _ => ?_
  cases r.folders <;> cases fo <;> simp
def optV : Option Nat → V
  | some i => .int i
  | none => .non
def IsLast (p : RF → Bool) (rs : List RF) (o : Option Nat) : Prop := (∀ i, o = some i → ∃ r, rs[i]? = some r ∧ p r = true) ∧ ∀ j r, rs[j]? = some r → p r = true → ∃ i, o = some i ∧ j ≤ i
theorem IsLast.uniq {p : RF → Bool} {rs : List RF} {a b : Option Nat} (h : IsLast p rs a) (g : IsLast p rs b) : a = b := by
  cases a with
  | none =>
    cases b with
    | none => rfl
    | some j =>
      obtain ⟨r, e, f⟩ := g.1 j rfl
      obtain ⟨i, e2, _⟩ := h.2 j r e f
      cases e2
  | some i =>
    obtain ⟨r, e, f⟩ := h.1 i rfl
    obtain ⟨j, rfl, hj⟩ := g.2 i r e f
    obtain ⟨r', e', f'⟩ := g.1 j rfl
    obtain ⟨i', e2, hi⟩ := h.2 j r' e' f'
    cases e2
    rw [Nat.le_antisymm hj hi]
def spLast (K : PySem.W.Frag) : Sp := fun vs H Q _ => ∃ l n fo us rs nms, vs = [.ref l, .ref n, .bl fo] ∧ SqL K H l us ∧ Each (RowV K) rs us H ∧ (∀ r ∈ rs, RowSz r) ∧ rs.length ≤ 1000 ∧ SqL K H n (nmsV nms) ∧ ∀ o H', Same H H' → IsLast (rfit nms fo) rs o → Q (optV o) H'
theorem ok_last_fit (T : Txt K mg) : OkD P w K mg base 5 (fA K "last_fit") ["rows", "names", "folder"] [] (spLast K) := by
  refine okD T.F_last_fit sc_last_fit (fun _ _ _ _ _ _ us hl => match us, hl with | [_, _, _], _ => rfl) ?_ ?_
  · rintro vs H Q E ⟨l, n, fo, us, rs, nms, rfl, _⟩
    rfl
  · rintro cdv A outer s H vs Q E hr ⟨l, n, fo, us, rs, nms, rfl, hus, each, sz, hn, hnm, q⟩
    refine ⟨_, (pss_cons (ps_mid (ps_for (passes_of rfl) rfl (pi_mid (pi_revR rfl T.fr_reversed (prg_1 rfl T.fr_range (pe_callB (o_lenW (K := K) (w := w)) (by rfl) T.fr_len boot_len (pa_cons (pv 0) pa_nil))))) (pg_name (i := 3) sc_last_fit.nd rfl (Or.inl rfl)) (pss_one (ps_if (pt_mid (pt_tru (K := K) (pe_cal (ok_fits T) (hr.mono (by decide)) rfl T.g_fits (pasE (takes_of rfl rfl rfl rfl) (fun _ _ _ _ h => h)) (pa_cons (pe_ix (o_ix (K := K)) (pv 0) (pv 3) (fun _ _ => rfl)) (pa_cons (pv 1) (pa_cons (pv 2) pa_nil)))) (by intro _; rfl))) (pss_one (ps_ret (pv 3))) pss_nil))))
  (pss_one (ps_ret pe_non))), ?_⟩
    have tobj := T.obj
    have hlu : LenV K (.ref l) H us.length := .inl ⟨us, hus, rfl⟩
    refine q_stm (fun σ H' => ∃ x, σ = [some (.ref l), some (.ref n), some (.bl fo), x] ∧ Same H H' ∧ ∀ (j : Nat) (r : RF), rs[j]? = some r → rfit nms fo r = false) ?_ ?_
    · refine for_mid (J0 := Itc ((rs.length : Int) - 1) (-1) rs.length) (H0 := H) ?_ walk_rangeC
        (fun k σ H' => ∃ x, σ = [some (.ref l), some (.ref n), some (.bl fo), x] ∧ Same H H' ∧ ∀ (j : Nat) (r : RF), rs.length - k ≤ j → rs[j]? = some r → rfit nms fo r = false)
        ⟨none, rfl, Same.refl _, fun j r hj e => absurd (List.getElem?_eq_some_iff.mp e).1 (by omega)⟩ (fun _ _ _ _ _ => trivial) ?_ (fun σ H' h => ?_)
      · walk_at "rd"
        refine .inr ⟨_, hlu, by decide, by decide, by rw [each.1]; omega, by rw [each.1]; omega, ?_⟩
        rw [each.1, show ((rs.length : Int) - 0).toNat = rs.length from by omega]
      · rintro k x σ H1 H1' hk ⟨x3, rfl, s1, hj⟩ ⟨rfl, rfl⟩
        obtain ⟨i, hi⟩ : ∃ i : Nat, (rs.length : Int) - 1 + (k : Nat) * (-1) = (i : Int) := ⟨rs.length - 1 - k, by omega⟩
        have hi2 : i = rs.length - 1 - k := by omega
        have hil : i < rs.length := by omega
        obtain ⟨u, hu, ru⟩ := each.2 i rs[i] (List.getElem?_eq_getElem hil)
        have ru1 := ru.mono s1
        refine l_if (fun b H' => Same H1' H' ∧ b = rfit nms fo rs[i]) ?_ (fun H2 h => ?_) (fun H2 h => ?_)
        · walk_at "rd"
          rw [hi]
          exact ⟨us, .inl (same_l s1 hus), u, atI_nat hu, u, n, fo, rs[i], nms, rfl, ru1, sz _ (List.getElem_mem hil), same_l s1 hnm, fun b H' s h => ⟨_, rfl, s, rfit_eq h⟩⟩
        · obtain ⟨s2, hb⟩ := h
          walk_at "rd"
          rw [hi]
          refine q (some i) H2 (s1.trans s2) ⟨fun j e => ?_, fun j r e f => ⟨i, rfl, ?_⟩⟩
          · cases e
            exact ⟨_, List.getElem?_eq_getElem hil, hb.symm⟩
          · rcases Nat.lt_or_ge i j with h | h
            · rw [hj j r (by omega) e] at f
              cases f
            · exact h
        · obtain ⟨s2, hb⟩ := h
          refine ⟨_, rfl, s1.trans s2, fun j r h e => ?_⟩
          rcases Nat.lt_or_ge i j with h2 | h2
          · exact hj j r (by omega) e
          · have ej : j = i := by omega
            subst ej
            rw [List.getElem?_eq_getElem hil] at e
            rw [← Option.some.inj e]
            exact hb.symm
      · obtain ⟨x, e, s1, hj⟩ := h
        exact ⟨x, e, s1, fun j r e => hj j r (by omega) e⟩
    · rintro σ H1 ⟨x, rfl, s1, hj⟩
      walk_at "rd"
      exact q none H1 s1 ⟨fun i e => (nomatch e), fun j r e f => by rw [hj j r e] at f; cases f⟩

/-! ### long rows -/
theorem notwo_of : ∀ {fs : List PF}, (∀ f ∈ fs, f.many = false) → NoTwo fs
  | [], _ => trivial
  | [_], _ => trivial
  | f :: g :: r, h => ⟨fun ⟨h1, _⟩ => (by rw [h f List.mem_cons_self] at h1; cases h1), notwo_of (fs := g :: r) fun x hx => h x (List.mem_cons_of_mem _ hx)⟩
/-- the set of the signs behind a place -/
theorem long_set {cs : List Nat} {o : Nat} (ho : o ≤ 1) (lc : cs.length = 4) (nd : cs.Nodup) (hc : ∀ c ∈ cs, c ∈ SIG) {ys : List Str} (pm : ys.Perm ((cs.drop o).map fun c => S [c])) (so : sortedS ys = true) :
    ∃ l : List Nat, ys = l.map (fun c => S [c]) ∧ SigSet l ∧ l.length = 4 - o := by
  have nd2 : (cs.drop o).Nodup := nd.sublist (List.drop_sublist _ _)
  obtain ⟨l, rfl, up, mem⟩ := sorted_signs pm so (nd_map1 nd2) fun z hz => by
    obtain ⟨c, _, rfl⟩ := List.mem_map.mp hz
    exact ⟨c, rfl⟩
  have hl : l.length = 4 - o := by
    have e := pm.length_eq
    rw [List.length_map, List.length_map, List.length_drop, lc] at e
    exact e
  exact ⟨l, rfl, ⟨fun e => by rw [e] at hl; simp at hl; omega, up, fun c h => hc c (List.mem_of_mem_drop (map1_mem.mp ((mem c).mp h)))⟩, hl⟩
theorem cut_from {xs : List V} {o : Nat} (h : o ≤ xs.length) : cutV xs (some (o : Int)) none = xs.drop o := by
  unfold cutV
  rw [HT.sIx_nat, HT.sIx_none, Nat.min_eq_left h]
  refine List.take_of_length_le ?_
  rw [List.length_drop]
  exact Nat.le_refl _
theorem cut_butlast {us : List V} : cutV us none (some (-1)) = us.take (us.length - 1) := by
  unfold cutV
  have e : HT.sIx us.length us.length (some (-1)) = us.length - 1 := by
    unfold HT.sIx
    simp
    omega
  rw [e, HT.sIx_none, List.drop_zero, Nat.sub_zero]
theorem Each.take {α : Type} {R : α → V → Hp → Prop} {fs : List α} {us : List V} {H : Hp} (h : Each R fs us H) (k : Nat) : Each R (fs.take k) (us.take k) H :=
  ⟨by rw [List.length_take, List.length_take, h.1], fun i f hf => by
    rw [List.getElem?_take] at hf
    split at hf
    · obtain ⟨u, e, g⟩ := h.2 i f hf
      exact ⟨u, by rw [List.getElem?_take, if_pos (by assumption)]; exact e, g⟩
    · cases hf⟩
def spLongR (K : PySem.W.Frag) : Sp := fun vs H Q _ => ∃ c p ws, vs = [.int c, .ref p] ∧ SqL K H p ws ∧ ws.length = 4 ∧ ws.Nodup ∧ (∀ v ∈ ws, SignV v) ∧ ∀ v r H', RF.Ok r → r.Low → Same H H' → Dp K H' v r.d → Q v H'
theorem ok__law_long_row (T : Txt K mg) : OkD P w K mg base 2 (fA K "_law_long_row") ["_law_cell_here", "_law_signs_here"] [] (spLongR K) := by
  refine okD T.F__law_long_row sc__law_long_row (fun _ _ _ _ _ _ us hl => match us, hl with | [_, _], _ => rfl) ?_ ?_
  · rintro vs H Q E ⟨c, p, ws, rfl, _⟩
    rfl
  · rintro cdv A outer s H vs Q E hr ⟨c, p, ws, rfl, hs, hl, hnd, hw, q⟩
    refine ⟨_, (pss_cons (ps_set (i := 2) sc__law_long_row.nd rfl (Or.inl rfl) (pe_lst pa_nil))
  (pss_cons (ps_mid (ps_for (passes_of rfl) rfl (pi_mid (pi_range1 rfl T.fr_range (pa_cons (pe_op (o_add (K := K)) pe_int (pe_op op_mod (pv 0) pe_int)) pa_nil))) (pg_name (i := 3) sc__law_long_row.nd rfl (Or.inl rfl)) (pss_cons (ps_set (i := 4) sc__law_long_row.nd rfl (Or.inr rfl) (pe_mid (pe_cal (ok__law_mixed T) (hr.mono (by decide)) rfl T.g__law_mixed (pasE (takes_of rfl rfl rfl rfl) (fun _ _ _ _ h => h)) (pa_cons (pv 0) (pa_cons (pe_op (o_add (K := K)) pe_int (pv 3)) pa_nil)))))
  (pss_cons (ps_setLc (own := [("_law_j", 7)]) (g := (gName 7)) (tt := tYes) (i := 5) rfl sc__law_long_row.nd rfl rfl (sw_true rfl rfl rfl (by decide +kernel)) (pi_mid (pi_range1 rfl T.fr_range (pa_cons (pe_op (o_add (K := K)) pe_int (pe_op op_mod (pv 4) pe_int)) pa_nil))) (blkOk_by (N := N__law_long_row) (sc := defScope TX.s__law_long_row) (by decide +kernel)) (fun _ _ _ _ _ => (pg_name (i := 7) sc__law_long_row.nd rfl (Or.inl rfl))) (fun _ _ _ _ _ => pts_nil) (fun _ _ _ _ _ => (pe_mid (pe_tup (pa_cons pe_str (pa_cons (pe_ix (o_ix (K := K)) (pv 1) (pe_op op_mod (pe_cal (ok__law_mixed T) (hr.mono (by decide)) rfl T.g__law_mixed pasN (pa_cons (pv 4) (pa_cons (pv 7) pa_nil))) pe_int) (fun _ _ => rfl)) pa_nil))))))
  (pss_cons (ps_set (i := 6) sc__law_long_row.nd rfl (Or.inl rfl) (pe_mid (pe_op op_mod (pe_op op_fdivW (pv 4) pe_int) pe_int)))
  (pss_cons (ps_mid (ps_if (pt_mid (pt_cmpR (o_eq (K := K) (hu64 hr)) (pe_op op_mod (pe_op op_fdivW (pv 4) pe_int) pe_int) pe_int (nomark _))) (pss_one (ps_expr (pe_bmK (K := K) PySem.F.plainAttrs_list PySem.F.slot_list_append PySem.F.type_list_append mt_append (pv 5) (pa_cons (pe_mid (pe_tup (pa_cons pe_str (pa_cons (pe_mid (pe_bmK (K := K) PySem.F.plainAttrs_str PySem.F.slot_str_join PySem.F.type_str_join (mo_join (K := K)) pe_str (pa_cons (pe_callB (o_sorted (K := K) (w := w) rfl) (by rfl) T.fr_sorted (by decide +kernel) (pa_cons (pe_slice (o_sl (K := K)) (pv 1) (po_some (pv 6)) po_none) pa_nil)) pa_nil))) (pa_cons (pe_cmpR (o_eq (K := K) (hu64 hr)) (pv 6) pe_int (nomark _)) pa_nil))))) pa_nil)))) pss_nil))
  (pss_one (ps_expr (pe_bmK (K := K) PySem.F.plainAttrs_list PySem.F.slot_list_append PySem.F.type_list_append mt_append (pv 2) (pa_cons (pe_mid (pe_tup (pa_cons pe_str (pa_cons (pe_callTy (o_tuple (K := K)) (by rfl) T.fr_tuple (by decide +kernel) (pa_cons (pv 5) pa_nil)) pa_nil)))) pa_nil))))))))))
  (pss_one (ps_ret (pe_tup (pa_cons (pe_callTy (o_tuple (K := K)) (by rfl) T.fr_tuple (by decide +kernel) (pa_cons (pv 2) pa_nil)) (pa_cons (pe_cmpR (o_eq (K := K) (hu64 hr)) (pe_op op_mod (pe_op op_fdivW (pv 0) pe_int) pe_int) pe_int (nomark _)) (pa_cons (pe_cmpR (o_eq (K := K) (hu64 hr)) (pe_op op_mod (pe_op op_fdivW (pv 0) pe_int) pe_int) pe_int (nomark _)) pa_nil)))))))), ?_⟩
    have tobj := T.obj
    obtain ⟨cs, rfl, hcs⟩ := signs_list hw
    have lcs : cs.length = 4 := by simpa using hl
    have ncs : cs.Nodup := by
      have h : ((cs.map fun c => S [c]).map V.str).Nodup := hnd
      have h2 : (cs.map fun c => S [c]).Nodup := (List.pairwise_map.mp h).imp fun q e => q (by rw [e])
      exact nd_unmap h2
    refine q_new fun L hL => ?_
    have sL := same_new (o := .lst []) hL
    have hm0 : 0 ≤ c % 5 := Int.emod_nonneg _ (by decide)
    have hm1 : c % 5 < 5 := Int.emod_lt_of_pos _ (by decide)
    obtain ⟨n, hn, hn1, hn3⟩ : ∃ n : Nat, 1 + c % 5 = (n : Int) ∧ 1 ≤ n ∧ n ≤ 5 := ⟨(1 + c % 5).toNat, by omega, by omega, by omega⟩
    refine q_stm (fun σ H' => ∃ ss us x3 x4 x5 x6 x7, σ = [some (.int c), some (.ref p), some (.ref L), x3, x4, x5, x6, x7] ∧ Same H H' ∧ H' L = some (.lst us) ∧ Each (fun f u H => Dp K H u (SF.d f)) ss us H' ∧ ss ≠ [] ∧ (∀ s ∈ ss, s.Ok) ∧ NoTwoD ss ∧ ss.length ≤ 5 ∧ ∀ fs, SF.seg fs ∈ ss → ∀ f ∈ fs, f.Low) ?_ ?_
    · refine for_mid (J0 := Itr 0 n) (H0 := upd H L (.lst [])) ?_ walk_range
        (fun k σ H' => ∃ ss us x3 x4 x5 x6 x7, σ = [some (.int c), some (.ref p), some (.ref L), x3, x4, x5, x6, x7] ∧ Same H H' ∧ H' L = some (.lst us) ∧ Each (fun f u H => Dp K H u (SF.d f)) ss us H' ∧ (0 < k → ss ≠ []) ∧ (∀ s ∈ ss, s.Ok) ∧ NoTwoD ss ∧ ss.length ≤ k ∧ ∀ fs, SF.seg fs ∈ ss → ∀ f ∈ fs, f.Low)
        ⟨[], [], none, none, none, none, none, rfl, sL, upd_same, .nil, fun h => absurd h (by decide), fun _ h => (nomatch h), trivial, Nat.le_refl _, fun _ h => nomatch h⟩ (fun _ _ _ _ _ => trivial) ?_ (fun σ H' h => ?_)
      · walk_at "rd"
        rw [hn]
        exact ⟨by omega, by omega, rfl⟩
      · rintro k x σ H1 H1' hk ⟨ss, us, x3, x4, x5, x6, x7, rfl, sm, hl1, each, ne, oks, two, len, low⟩ ⟨rfl, rfl⟩
        refine q_mid (fun m => 0 ≤ m ∧ m < 2147483647) ?_ fun mk hmk => ?_
        · walk_at "rd"
          exact ⟨c, _, rfl, fun m h1 h2 => ⟨rfl, m, rfl, h1, h2⟩⟩
        have hs1 := same_l sm hs
        have hm9 : 0 ≤ mk % 9 := Int.emod_nonneg _ (by decide)
        have hm8 : mk % 9 < 9 := Int.emod_lt_of_pos _ (by decide)
        obtain ⟨n2, hn2, hn21, hn22⟩ : ∃ n : Nat, 1 + mk % 9 = (n : Int) ∧ 1 ≤ n ∧ n ≤ 9 := ⟨(1 + mk % 9).toNat, by omega, by omega, by omega⟩
        refine q_val ?_
        refine lc_midM (J0 := Itr 0 n2) (H0 := H1') ?_ walk_range (by omega) (fun k acc H' => ∃ fs : List PF, Each (fun f u H => Dp K H u (PF.d f)) fs acc H' ∧ ∀ f ∈ fs, f.Ok ∧ f.Low ∧ f.many = false) (fun k acc Ha Hb e ⟨fs, a, b⟩ => ⟨fs, a.imp fun f u d => dp_nl e _ _ f.tup d, b⟩) ⟨[], .nil, fun _ h => nomatch h⟩ (fun _ _ => trivial) (fun _ _ _ _ y => y_fn y) (fun _ => rfl) ?_ ?_
        · walk_at "rd"
          rw [hn2]
          exact ⟨by omega, by omega, rfl⟩
        · rintro j x acc H' H'' hj s2 ⟨fs, ef, of⟩ ⟨rfl, rfl⟩
          refine mid_of (fun u H4 => Same H'' H4 ∧ ∃ d ∈ SIG, Dp K H4 u (PF.d (.one d))) ?_ ?_
          · walk_at "rd"
            refine ⟨mk, _, rfl, fun m _ _ => ?_⟩
            obtain ⟨d, hd1, e1⟩ := at4 hl hw m
            exact ⟨m, rfl, _, .inl (same_l s2 hs1), _, e1, fun p' hp' => ⟨same_new hp', d, hd1, .tup (.inl (.inl upd_same)) (.cons (.str _) (.cons (.str _) .nil))⟩⟩
          · rintro u H4 ⟨s4, d, hd, du⟩
            refine ⟨s4, fs ++ [.one d], (ef.imp fun f u d => dp_mono s4 _ _ d).snoc du, fun f hf => ?_⟩
            exact (List.mem_append.mp hf).elim (of f) fun e => by rw [List.mem_singleton.mp e]; exact ⟨hd, trivial, rfl⟩
        intro F vs0 H2 hF sF hF2 lvs ⟨fs0, ef0, of0⟩
        have hFH : H F = none := same_none sm hF
        have hFL : F ≠ L := fun e => by rw [e, hl1] at hF; cases hF
        have lf0 : fs0.length = n2 := by rw [← ef0.1, lvs]
        refine q_mid (fun o => o = 0 ∨ o = 1) ?_ fun o ho => ?_
        · walk_at "rd"
          exact ⟨⟨by decide, by decide⟩, by omega⟩
        have hl2 := sF _ _ hl1
        have hs2 := same_l sF hs1
        refine q_stm (fun σ H' => ∃ fs vs, σ = [some (.int c), some (.ref p), some (.ref L), some (.int (0 + k)), some (.int mk), some (.ref F), some (.int o), x7] ∧ Same H1' H' ∧ H' F = some (.lst vs) ∧ Each (fun f u H => Dp K H u (PF.d f)) fs vs H' ∧ (∀ f ∈ fs, f.Ok ∧ f.Low ∧ f.many = false) ∧ fs ≠ [] ∧ fs.length ≤ 10) ?_ ?_
        · have hne0 : fs0 ≠ [] := fun e => by rw [e] at lf0; simp at lf0; omega
          refine l_if (fun b H' => H' = H2) ?_ (fun H3 h => ?_) (fun H3 h => ?_)
          · walk_at "rd"
            exact ⟨by decide, by decide⟩
          · subst h
            refine l_app rfl hF2 ?_
            walk_at "rd"
            obtain ⟨oN, ho1, rfl⟩ : ∃ oN : Nat, oN ≤ 1 ∧ o = (oN : Int) := ⟨o.toNat, by omega, by omega⟩
            refine mid_of (fun v H' => Same H3 H' ∧ ∃ l, v = .str (S l) ∧ SigSet l ∧ l.length = 4 - oN) ?_ ?_
            · walk_at "rd"
              refine .inl ⟨_, hs2, fun p1 hp1 => .inr (.inl ⟨p1, (cs.drop oN).map fun c => S [c], rfl, .inl (.inl ?_), ?_, fun ys p2 pm so hp2 => ?_⟩)⟩
              · rw [upd_same, cut_from (by rw [hl]; omega), List.map_drop, List.map_drop]
              · rw [List.length_map, List.length_drop, lcs]; omega
              · obtain ⟨l, rfl, okl, ll⟩ := long_set ho1 lcs ncs hcs pm so
                refine ⟨_, .inl (.inl (.inl upd_same)), ?_, (same_new hp1).trans (same_new hp2), l, join_chars l, okl, ll⟩
                have e := len_chars l
                rw [show (Str.ofString "") = S [] from rfl, e]
                omega
            · rintro _ H4 ⟨s4, l, rfl, okl, ll⟩ p' hp'
              have sp := same_new (o := .tup [V.str (Str.ofString "among"), V.str (S l), V.bl (decide ((oN : Int) = 1))]) hp'
              have s34 := s4.trans sp
              have hF4 := s34 _ _ hF2
              refine ⟨vs0, hF4, by rw [lvs]; omega, same_mut (sF.trans s34) hF, fs0 ++ [.among l (decide ((oN : Int) = 1))], _, upd_same, ?_, fun f hf => ?_, by simp, by rw [List.length_append, List.length_singleton]; omega⟩
              · exact Each.snoc (ef0.imp fun f u d => dp_nl (NL.trans (.of s34) (nl_upd hF4)) _ _ f.tup d) (dp_nl (nl_upd hF4) _ _ (PF.tup _) (.tup (.inl (.inl upd_same)) (.cons (.str _) (.cons (.str _) (.cons (.bl _) .nil)))))
              · refine (List.mem_append.mp hf).elim (of0 f) fun e => ?_
                rw [List.mem_singleton.mp e]
                refine ⟨⟨okl, by omega⟩, ?_, rfl⟩
                rcases (by omega : oN = 0 ∨ oN = 1) with rfl | rfl
                · have e : decide (((0 : Nat) : Int) = 1) = false := rfl
                  rw [e]
                  trivial
                · have e : decide (((1 : Nat) : Int) = 1) = true := rfl
                  rw [e]
                  show l.length ≤ 3
                  omega
          · subst h
            exact ⟨fs0, vs0, rfl, sF, hF2, ef0, of0, hne0, by omega⟩
        · rintro σ H3 ⟨fs, vs, rfl, s3, hF3, ef, of, hne, hlf⟩
          have hL3 := s3 _ _ hl1
          have eachS : Each (fun f u H => Dp K H u (SF.d f)) ss us H3 := each.imp fun f u d => dp_mono s3 _ _ d
          have okP : PartsOk fs := ⟨hne, fun f hf => (of f hf).1, notwo_of fun f hf => (of f hf).2.2, by omega⟩
          refine l_app rfl hL3 ?_
          walk_at "rd"
          refine ⟨vs, .inl ⟨.inl (.inl hF3), fun l hl' p' hp' => ?_⟩⟩
          have sl := same_new (o := .tup vs) hl'
          have sp := same_new (o := .tup [V.str (Str.ofString "segment"), V.ref l]) hp'
          have s5 := sl.trans sp
          refine ⟨us, s5 _ _ hL3, by rw [each.1]; omega, same_mut ((sm.trans s3).trans s5) hL, ss ++ [.seg fs], _, upd_same, forms_snoc (s5 _ _ hL3) (eachS.imp fun f u d => dp_mono s5 _ _ d) (seg_d ef hl' hp'), fun _ => by simp, fun s h => ?_, twoD_snoc two (fun e => nomatch e), ?_, fun gs h => ?_⟩
          · exact (List.mem_append.mp h).elim (oks s) fun e => by rw [List.mem_singleton.mp e]; exact okP
          · rw [List.length_append]; exact Nat.succ_le_succ len
          · exact (List.mem_append.mp h).elim (low gs) fun e => by cases List.mem_singleton.mp e; exact fun f hf => (of f hf).2.1
      · obtain ⟨ss, us, x3, x4, x5, x6, x7, e, s1, h1, h2, h3, h4, h5, h6, h7⟩ := h
        exact ⟨ss, us, x3, x4, x5, x6, x7, e, s1, h1, h2, h3 (by omega), h4, h5, by omega, h7⟩
    · rintro σ H1 ⟨ss, us, x3, x4, x5, x6, x7, rfl, s1, h1, h2, h3, h4, h5, h6, h7⟩
      walk_at "rd"
      refine ⟨us, .inl ⟨.inl (.inl h1), fun l hl' => ⟨⟨by decide, by decide⟩, ⟨by decide, by decide⟩, fun p' hp' => ?_⟩⟩⟩
      exact q _ ⟨ss, _, _⟩ _ ⟨h3, h4, h5, Nat.le_trans h6 (by decide)⟩ h7 ((s1.trans (same_new hl')).trans (same_new hp')) (row_d (r := ⟨ss, _, _⟩) h2 hl' hp')
def spWithL (K : PySem.W.Frag) : Sp := fun vs H Q _ => ∃ F c p ws rs, vs = [.ref F, .int c, .ref p] ∧ RowsL K rs F H ∧ rs.length ≤ 1000 ∧ SqL K H p ws ∧ ws.length = 4 ∧ ws.Nodup ∧ (∀ v ∈ ws, SignV v) ∧ ∀ G rs' H', Same H H' → RowsL K rs' G H' → rs'.length = rs.length → Q (.ref G) H'
theorem ok__law_with_long (T : Txt K mg) : OkD P w K mg base 3 (fA K "_law_with_long") ["_law_forms", "_law_cell_here", "_law_signs_here"] [] (spWithL K) := by
  refine okD T.F__law_with_long sc__law_with_long (fun _ _ _ _ _ _ us hl => match us, hl with | [_, _, _], _ => rfl) ?_ ?_
  · rintro vs H Q E ⟨F, c, p, ws, rs, rfl, _⟩
    rfl
  · rintro cdv A outer s H vs Q E hr ⟨F, c, p, ws, rs, rfl, ⟨us, hF, each, oks⟩, hn, hs, hl, hnd, hw, q⟩
    refine ⟨_, (pss_cons (ps_if (pt_mid (PW.pt (pw_or (pt_cmpR (o_eq (K := K) (hu64 hr)) (pv 0) (pe_lst pa_nil) (nomark _)) (pw_or1 (pt_cmpR o_gt (pe_op op_mod (pe_op op_fdivW (pv 1) pe_int) pe_int) pe_int (nomark _)))))) (pss_one (ps_ret (pv 0))) pss_nil)
  (pss_one (ps_ret (pe_op (o_add (K := K)) (pe_slice (o_sl (K := K)) (pv 0) po_none (po_some (pe_un un_neg pe_int))) (pe_lst (pa_cons (pe_cal (ok__law_long_row T) (hr.mono (by decide)) rfl T.g__law_long_row (pasE (takes_of rfl rfl rfl rfl) (fun _ _ _ _ h => h)) (pa_cons (pe_op op_fdivW (pv 1) pe_int) (pa_cons (pv 2) pa_nil))) pa_nil)))))), ?_⟩
    have tobj := T.obj
    refine q_if (fun b H' => Same H H' ∧ (b = false → rs ≠ [])) ?_ (fun H1 h => ?_) (fun H1 h => ?_)
    · walk_at "rd"
      intro n hn
      have sn := same_new (o := .lst []) hn
      refine eq_nil (.inl (.inl (sn _ _ hF))) (.inl (.inl upd_same)) ⟨_, rfl, ite2 (fun h => ?_) fun h => ?_⟩
      · exact ⟨sn, fun h => h.elim⟩
      · have hne : rs ≠ [] := fun e => by
          have hu : us = [] := List.length_eq_zero_iff.mp (by rw [each.1, e]; rfl)
          simp [hu] at h
        exact ⟨⟨by decide, by decide⟩, sn, fun _ => hne⟩
    · obtain ⟨s1, _⟩ := h
      walk_at "rd"
      exact q F rs H1 s1 (RowsL.mono (show RowsL K rs F H from ⟨us, hF, each, oks⟩) s1) rfl
    · obtain ⟨s1, hb⟩ := h
      have hne := hb rfl
      have hF1 := s1 _ _ hF
      have hs1 := same_l s1 hs
      walk_at "rd"
      have hrl : 0 < rs.length := List.length_pos_iff.mpr hne
      have lc := cut_len (us := us) (lo := none) (hi := some (-1))
      refine .inl ⟨us, .inl (.inl hF1), fun p1 hp1 => ⟨⟨by decide, by decide⟩, _, p, ws, rfl, same_l (same_new hp1) hs1, hl, hnd, hw, fun v r H2 ok lo s2 d p2 hp2 => .inl ⟨_, (same_new hp2) _ _ (s2 _ _ upd_same), _, upd_same, ?_, fun p3 hp3 => ?_⟩⟩⟩
      · rw [List.length_singleton]; have := each.1; omega
      · have sx : Same H1 (upd (upd H2 p2 (.lst [v])) p3 (.lst (cutV us none (some (-1)) ++ [v]))) := (((same_new hp1).trans s2).trans (same_new hp2)).trans (same_new hp3)
        have s23 : Same H2 (upd (upd H2 p2 (.lst [v])) p3 (.lst (cutV us none (some (-1)) ++ [v]))) := (same_new hp2).trans (same_new hp3)
        refine q p3 (rs.take (rs.length - 1) ++ [r]) _ (s1.trans sx) ⟨_, upd_same, ?_, fun g hg => ?_⟩ ?_
        · have e3 : cutV us none (some (-1)) = us.take (rs.length - 1) := by rw [cut_butlast, each.1]
          have hx : RowsE K rs us (upd (upd H2 p2 (.lst [v])) p3 (.lst (cutV us none (some (-1)) ++ [v]))) := each.imp fun _ _ d => dp_mono (s1.trans sx) _ _ d
          have hd : Dp K (upd (upd H2 p2 (.lst [v])) p3 (.lst (cutV us none (some (-1)) ++ [v]))) v r.d := dp_mono s23 _ _ d
          have h := (Each.take hx (rs.length - 1)).snoc (f := r) hd
          rw [← e3] at h
          exact h
        · exact (List.mem_append.mp hg).elim (fun h => oks g (List.mem_of_mem_take h)) fun e => by rw [List.mem_singleton.mp e]; exact ⟨ok, lo⟩
        · rw [List.length_append, List.length_take, List.length_singleton]; omega

/-! ### names as texts -/
theorem names_list : ∀ {us : List V}, (∀ u ∈ us, NmV 400 u) → ∃ nms : List (List Nat), us = nmsV nms ∧ ∀ nm ∈ nms, nm ≠ [] ∧ nm.length ≤ 400 ∧ ∀ c ∈ nm, c ∈ SIG
  | [], _ => ⟨[], rfl, fun _ h => nomatch h⟩
  | u :: r, h => by
    obtain ⟨l, rfl, h1, h2, h3⟩ := h u List.mem_cons_self
    obtain ⟨nms, rfl, hs⟩ := names_list (us := r) fun v hv => h v (List.mem_cons_of_mem _ hv)
    exact ⟨l :: nms, rfl, fun nm hnm => (List.mem_cons.mp hnm).elim (fun e => e ▸ ⟨h1, h2, h3⟩) (hs nm)⟩
/-! ### the numbers of the rows that fit -/
def hitsN (p : RF → Bool) (rs : List RF) (k : Nat) : List Nat := (List.range k).filter fun i => match rs[i]? with
  | some r => p r
  | none => false
theorem hits_mem {p : RF → Bool} {rs : List RF} {k i : Nat} : i ∈ hitsN p rs k ↔ i < k ∧ ∃ r, rs[i]? = some r ∧ p r = true := by
  unfold hitsN
  rw [List.mem_filter, List.mem_range]
  refine and_congr_right fun _ => ?_
  cases rs[i]? with
  | none => simp
  | some r => simp
theorem hits_up {p : RF → Bool} {rs : List RF} {k : Nat} : (hitsN p rs k).Pairwise (· < ·) := List.pairwise_lt_range.filter _
theorem last_max : ∀ {l : List Nat} {x j : Nat}, l.Pairwise (· < ·) → l.getLast? = some x → j ∈ l → j ≤ x
  | [], _, _, _, h, _ => nomatch h
  | [a], x, j, _, h, hj => by
    cases (show some a = some x from h)
    rw [List.mem_singleton.mp hj]
    exact Nat.le_refl _
  | a :: b :: r, x, j, hp, h, hj => by
    rw [List.getLast?_cons_cons] at h
    have hp' := List.pairwise_cons.mp hp
    rcases List.mem_cons.mp hj with rfl | hj
    · exact Nat.le_of_lt (hp'.1 x (List.mem_of_getLast? h))
    · exact last_max hp'.2 h hj
theorem hits_last {p : RF → Bool} {rs : List RF} : IsLast p rs (hitsN p rs rs.length).getLast? := by
  refine ⟨fun i e => ?_, fun j r e f => ?_⟩
  · have h := hits_mem.mp (List.mem_of_getLast? e)
    exact h.2
  · have hm : j ∈ hitsN p rs rs.length := hits_mem.mpr ⟨(List.getElem?_eq_some_iff.mp e).1, r, e, f⟩
    cases hl : (hitsN p rs rs.length).getLast? with
    | none =>
      rw [List.getLast?_eq_none_iff] at hl
      rw [hl] at hm
      cases hm
    | some x => exact ⟨x, rfl, last_max hits_up hl hm⟩

/-! ### split, startswith, endswith -/
section
variable {X : Cx}
def rSplit : V → List V → Hp → VK → Prop := fun x xs H Q => match x, xs with
  | .str a, [.str b] => (b.length == 0) = false ∧ a.length + 2 ≤ sizeLine ∧ rNewStrs (Txt.split a b) H Q
  | _, _ => False
theorem mo_split : MtR X "str.split" rSplit := by
  refine MtR.imp mt_split fun x xs H Q h => ?_
  match x, xs, h with
  | .str a, [.str b], ⟨h1, h2, q⟩ => exact ⟨a, b, rfl, rfl, h1, h2, q⟩
def rStrB (f : Str → Str → Bool) : V → List V → Hp → VK → Prop := fun x xs H Q => match x, xs with
  | .str a, [.str b] => Q (.bl (f a b)) H
  | _, _ => False
theorem mo_startswith : MtR X "str.startswith" (rStrB Txt.startswith) := by
  refine MtR.imp mt_startswith fun x xs H Q h => ?_
  match x, xs, h with
  | .str a, [.str b], q => exact ⟨a, b, rfl, rfl, q⟩
theorem mo_endswith : MtR X "str.endswith" (rStrB Txt.endswith) := by
  refine MtR.imp mt_endswith fun x xs H Q h => ?_
  match x, xs, h with
  | .str a, [.str b], q => exact ⟨a, b, rfl, rfl, q⟩
end
/-! ### the names of a path -/
def splW (w : List Nat) : List (List Nat) := TL.spl [47] 0 [] w
def folderW (ps : List (List Nat)) : Bool := decide (1 < ps.length) && decide (ps.getLast? = some [])
def nmOk (l : List Nat) : Bool := !decide (l = []) && l.all fun c => decide (c ∈ SIG)
def pathN (w : List Nat) : Option (List (List Nat) × Bool) :=
  let ps := splW w
  let ns := if folderW ps = true then ps.dropLast else ps
  if ns.all nmOk = true then some (ns, folderW ps) else none
theorem pathN_def (w : List Nat) : pathN w = if (if folderW (splW w) = true then (splW w).dropLast else splW w).all nmOk = true then some ((if folderW (splW w) = true then (splW w).dropLast else splW w), folderW (splW w)) else none := rfl
theorem nmOk_iff {l : List Nat} : nmOk l = true ↔ l ≠ [] ∧ ∀ c ∈ l, c ∈ SIG := by
  unfold nmOk
  rw [Bool.and_eq_true, List.all_eq_true]
  simp
theorem spl_ne : ∀ (w acc : List Nat) (k : Nat), TL.spl [47] k acc w ≠ []
  | [], _, _ => by simp [TL.spl]
  | c :: r, acc, 0 => by
    show (if TL.pre [47] (c :: r) = true then acc :: TL.spl [47] 0 [] r else TL.spl [47] 0 (acc ++ [c]) r) ≠ []
    split
    · simp
    · exact spl_ne r _ 0
  | _ :: r, acc, k + 1 => spl_ne r acc k
theorem spl_len : ∀ (w acc : List Nat) (k : Nat), ∀ p ∈ TL.spl [47] k acc w, p.length ≤ acc.length + w.length
  | [], acc, k, p, h => by
    have h' : p ∈ [acc] := by cases k <;> exact h
    rw [List.mem_singleton.mp h']
    exact Nat.le_add_right _ _
  | c :: r, acc, 0, p, h => by
    have h' : p ∈ (if TL.pre [47] (c :: r) = true then acc :: TL.spl [47] 0 [] r else TL.spl [47] 0 (acc ++ [c]) r) := h
    split at h'
    · rcases List.mem_cons.mp h' with rfl | h2
      · exact Nat.le_add_right _ _
      · have := spl_len r [] 0 p h2
        simp only [List.length_nil, List.length_cons] at this ⊢
        omega
    · have := spl_len r (acc ++ [c]) 0 p h'
      rw [List.length_append, List.length_singleton] at this
      rw [List.length_cons]
      omega
  | c :: r, acc, k + 1, p, h => by
    have := spl_len r acc k p h
    rw [List.length_cons]
    omega
theorem spl_cnt : ∀ (w acc : List Nat) (k : Nat), (TL.spl [47] k acc w).length ≤ w.length + 1
  | [], acc, k => by cases k <;> exact Nat.le_refl 1
  | c :: r, acc, 0 => by
    show (if TL.pre [47] (c :: r) = true then acc :: TL.spl [47] 0 [] r else TL.spl [47] 0 (acc ++ [c]) r).length ≤ _
    split
    · have := spl_cnt r [] 0
      simp only [List.length_cons] at this ⊢
      omega
    · have := spl_cnt r (acc ++ [c]) 0
      rw [List.length_cons]
      omega
  | c :: r, acc, k + 1 => by
    have := spl_cnt r acc k
    rw [List.length_cons]
    exact Nat.le_succ_of_le this
theorem path_sub {w : List Nat} {nm : List Nat} (h : nm ∈ (if folderW (splW w) = true then (splW w).dropLast else splW w)) : nm.length ≤ w.length := by
  have hm : nm ∈ splW w := by
    split at h
    · exact List.dropLast_subset _ h
    · exact h
  have := spl_len w [] 0 nm hm
  simp only [List.length_nil] at this
  omega
theorem path_cnt {w : List Nat} {ns : List (List Nat)} {fo : Bool} (h : pathN w = some (ns, fo)) : ns.length ≤ w.length + 1 := by
  have hc : (splW w).length ≤ w.length + 1 := spl_cnt w [] 0
  rw [pathN_def] at h
  generalize hns : (if folderW (splW w) = true then (splW w).dropLast else splW w) = ns' at h
  by_cases ha : ns'.all nmOk = true
  · rw [if_pos ha] at h
    have e : ns' = ns := congrArg Prod.fst (Option.some.inj h)
    rw [← e, ← hns]
    split
    · rw [List.length_dropLast]; omega
    · exact hc
  · rw [if_neg ha] at h
    cases h
theorem slash_sig {l : List Nat} (h : ∀ c ∈ l, c ∈ SIG) : 47 ∉ l := fun hm => absurd (h 47 hm) (by decide +kernel)
/-- good names joined -/
theorem pathN_join {nms : List (List Nat)} {fo : Bool} (hne : nms ≠ []) (h : ∀ nm ∈ nms, nm ≠ [] ∧ ∀ c ∈ nm, c ∈ SIG) : pathN (TL.joinL [47] nms ++ (if fo = true then [47] else [])) = some (nms, fo) := by
  have hall : nms.all nmOk = true := List.all_eq_true.mpr fun nm hn => nmOk_iff.mpr (h nm hn)
  cases fo with
  | false =>
    rw [if_neg Bool.false_ne_true, List.append_nil]
    have e : splW (TL.joinL [47] nms) = nms := TL.spl_join hne fun p hp => slash_sig (h p hp).2
    have ef : folderW nms = false := by
      unfold folderW
      rw [Bool.and_eq_false_iff]
      refine .inr (decide_eq_false fun hl => ?_)
      exact (h [] (List.mem_of_getLast? hl)).1 rfl
    rw [pathN_def, e, ef, if_neg Bool.false_ne_true, hall]
    rfl
  | true =>
    rw [if_pos rfl]
    have j : ∀ l : List (List Nat), l ≠ [] → TL.joinL [47] (l ++ [[]]) = TL.joinL [47] l ++ [47] := by
      intro l
      induction l with
      | nil => exact fun h => absurd rfl h
      | cons p r ih =>
        intro _
        cases r with
        | nil => rfl
        | cons q r =>
          show p ++ ([47] ++ TL.joinL [47] ((q :: r) ++ [[]])) = (p ++ ([47] ++ TL.joinL [47] (q :: r))) ++ [47]
          rw [ih (by simp)]
          simp
    have e : splW (TL.joinL [47] nms ++ [47]) = nms ++ [[]] := by
      rw [← j nms hne]
      refine TL.spl_join (by simp) fun p hp => ?_
      exact (List.mem_append.mp hp).elim (fun hp => slash_sig (h p hp).2) fun hp => by rw [List.mem_singleton.mp hp]; exact List.not_mem_nil
    have ef : folderW (nms ++ [[]]) = true := by
      unfold folderW
      rw [Bool.and_eq_true]
      refine ⟨decide_eq_true ?_, decide_eq_true (by simp)⟩
      have := List.length_pos_iff.mpr hne
      rw [List.length_append, List.length_singleton]
      omega
    rw [pathN_def, e, ef, if_pos rfl, List.dropLast_concat, hall]
    rfl

/-! ### names_of -/
def spNamesOf (K : PySem.W.Frag) : Sp := fun vs H Q E => ∃ wd : List Nat, vs = [.str (S wd)] ∧ wd.length ≤ 1000000 ∧
  (∀ ns fo p F H', pathN wd = some (ns, fo) → Same H H' → H' p = some (.tup [.ref F, .bl fo]) → H' F = some (.lst (nmsV ns)) → H F = none → Q (.ref p) H') ∧ (pathN wd = none → ∀ H', Same H H' → E (.ref (fA K "NoPath")) none H')
theorem ok_names_of (T : Txt K mg) : OkD P w K mg base 2 (fA K "names_of") ["path"] [] (spNamesOf K) := by
  refine okD T.F_names_of sc_names_of (fun _ _ _ _ _ _ us hl => match us, hl with | [_], _ => rfl) ?_ ?_
  · rintro vs H Q E ⟨wd, rfl, _⟩
    rfl
  · rintro cdv A outer s H vs Q E hr ⟨wd, rfl, hw, q1, q2⟩
    refine ⟨_, (pss_cons (ps_set (i := 1) sc_names_of.nd rfl (Or.inl rfl) (pe_mid (pe_bmK (K := K) PySem.F.plainAttrs_str PySem.F.slot_str_split PySem.F.type_str_split mo_split (pv 0) (pa_cons pe_str pa_nil))))
  (pss_cons (ps_set (i := 2) sc_names_of.nd rfl (Or.inl rfl) (pe_mid (pe_andK (K := K) (pe_cmpR o_gt (pe_callB (o_lenW (K := K) (w := w)) (by rfl) T.fr_len boot_len (pa_cons (pv 1) pa_nil)) pe_int (nomark _)) (pe_one (pe_cmpR (o_eq (K := K) (hu64 hr)) (pe_ix (o_ix (K := K)) (pv 1) (pe_un un_neg pe_int) (fun _ _ => rfl)) pe_str (nomark _))))))
  (pss_cons (ps_mid (ps_if (pt_mid (pt_tru (K := K) (pv 2) (by intro _; rfl))) (pss_one (ps_expr (pe_bm0K' (K := K) PySem.F.plainAttrs_list PySem.F.slot_list_pop PySem.F.type_list_pop mt_pop (pv 1)))) pss_nil))
  (pss_cons (ps_mid (ps_for (passes_of rfl) rfl (pi_mid (o_it (K := K) rfl (pv 1))) (pg_name (i := 3) sc_names_of.nd rfl (Or.inl rfl)) (pss_one (ps_if (pt_mid (PW.pt (pw_or (pt_cmpR (o_eq (K := K) (hu64 hr)) (pv 3) pe_str (nomark _)) (pw_or1 (pt_not (pt_tru (K := K) (pe_callB (o_all (K := K) rfl) (by rfl) T.fr_all (by decide +kernel) (pa_cons (pe_lc (own := [("sign", 4)]) (g := (gName 4)) (tt := tYes) rfl sc_names_of.nd (pi_mid (o_it (K := K) rfl (pv 3))) (blkOk_by (N := N_names_of) (sc := defScope TX.s_names_of) (by decide +kernel)) (fun _ _ _ _ _ => (pg_name (i := 4) sc_names_of.nd rfl (Or.inl rfl))) (fun _ _ _ _ _ => pts_nil) (fun _ _ _ _ _ => (pe_mid (pe_cal (ok_is_sign T) (hr.mono (by decide)) rfl T.g_is_sign pasN (pa_cons (pv 4) pa_nil))))) pa_nil)) (by intro _; rfl))))))) (pss_one (ps_raise rfl (takes_of rfl rfl rfl rfl) (pmk_own PySem.F.excBase_ValueError T.x_NoPath.1 T.g_NoPath T.x_NoPath.2.1 (raises_own T.x_NoPath.2.2.1 T.x_NoPath.2.2.2) rfl))) pss_nil))))
  (pss_one (ps_ret (pe_tup (pa_cons (pv 1) (pa_cons (pv 2) pa_nil))))))))), ?_⟩
    have tobj := T.obj
    refine q_midG (fun v H' => ∃ F, v = .ref F ∧ Same H H' ∧ H F = none ∧ H' F = some (.lst (nmsV (splW wd)))) ?_ ?_
    · walk_at "rd"
      have e : Txt.split (S wd) (S [47]) = (splW wd).map S := split_S (b := [47]) (by simp) (by decide)
      refine ⟨by decide, by rw [S_len, sizeLine_eq]; omega, fun p hp => ⟨p, rfl, same_new hp, hp, ?_⟩⟩
      rw [upd_same]
      show some (HO.lst ((Txt.split (S wd) (S [47])).map V.str)) = _
      rw [e]
      rfl
    rintro _ H1 ⟨F, rfl, s1, hFn, hF⟩
    have lsp : (nmsV (splW wd)).length = (splW wd).length := nms_len
    have nsp : splW wd ≠ [] := spl_ne wd [] 0
    refine q_midG (fun v H' => H' = H1 ∧ v = .bl (folderW (splW wd))) ?_ ?_
    · walk_at "rd"
      refine .inr ⟨_, .inl ⟨_, .inl (.inl hF), rfl⟩, ?_⟩
      rw [lsp]
      refine ite2 (fun h => ?_) fun h => ?_
      · obtain ⟨nm, hnm⟩ : ∃ nm, (splW wd).getLast? = some nm := by
          cases e : (splW wd).getLast? with
          | none => exact absurd (List.getLast?_eq_none_iff.mp e) nsp
          | some nm => exact ⟨nm, rfl⟩
        have hlast : (nmsV (splW wd)).getLast? = some (.str (S nm)) := by
          unfold nmsV
          rw [List.getLast?_map, List.getLast?_map, hnm]
          rfl
        refine ⟨_, .inl (.inl (.inl hF)), _, atI_last hlast, ?_⟩
        walk_at "rd"
        have e1 : decide (S nm = Str.ofString "") = decide (nm = []) := decide_eq_decide.mpr ⟨fun h => S_inj h, fun h => by rw [h]; rfl⟩
        have e2 : folderW (splW wd) = decide (nm = []) := by
          unfold folderW
          rw [decide_eq_true (show 1 < (splW wd).length from by omega), hnm]
          simp
        rw [e1, e2]
      · have e2 : folderW (splW wd) = false := by
          unfold folderW
          rw [decide_eq_false (show ¬ 1 < (splW wd).length from by omega)]
          rfl
        rw [e2]
        simp
        omega
    rintro _ _ ⟨rfl, rfl⟩
    rename_i H1
    generalize hns : (if folderW (splW wd) = true then (splW wd).dropLast else splW wd) = ns
    have hpn : pathN wd = if ns.all nmOk = true then some (ns, folderW (splW wd)) else none := by rw [← hns]; rfl
    refine q_stm (fun σ H' => Same H H' ∧ H' F = some (.lst (nmsV ns)) ∧ ∃ x3 x4, σ = [some (.str (S wd)), some (.ref F), some (.bl (folderW (splW wd))), x3, x4]) ?_ ?_
    · refine l_if (fun b H' => H' = H1 ∧ b = folderW (splW wd)) (by walk_at "rd") (fun H2 h => ?_) (fun H2 h => ?_)
      · obtain ⟨rfl, hb⟩ := h
        rw [← hb, if_pos rfl] at hns
        walk_at "rd"
        have hl0 : 0 < (nmsV (splW wd)).length := by rw [lsp]; exact List.length_pos_iff.mpr nsp
        refine ⟨⟨_, .inl (.inl hF)⟩, _, hF, ⟨_, List.getElem?_eq_getElem (by omega)⟩, same_mut s1 hFn, ?_⟩
        rw [upd_same, ← hns]
        simp [nmsV]
      · obtain ⟨rfl, hb⟩ := h
        rw [← hb, if_neg Bool.false_ne_true] at hns
        subst hns
        exact ⟨s1, hF, _, _, rfl⟩
    rintro σ H2 ⟨s2, hF2, x3, x4, rfl⟩
    refine q_stm (fun σ H' => Same H H' ∧ H' F = some (.lst (nmsV ns)) ∧ ns.all nmOk = true ∧ ∃ x3 x4, σ = [some (.str (S wd)), some (.ref F), some (.bl (folderW (splW wd))), x3, x4]) ?_ ?_
    · refine for_mid (J0 := Itl K F) (H0 := H2) ?_ (walk_list (K := K) (a := F) (xs := nmsV ns)) (fun k σ H' => Same H2 H' ∧ (ns.take k).all nmOk = true ∧ ∃ x3 x4, σ = [some (.str (S wd)), some (.ref F), some (.bl (folderW (splW wd))), x3, x4]) ⟨Same.refl _, rfl, _, _, rfl⟩ (fun _ _ _ _ h => .inl (.inl (h.1 _ _ hF2))) ?_ (fun σ H' h => ?_)
      · walk_at "rd"
        exact .inl ⟨_, .inl (.inl hF2)⟩
      · rintro k x σ H3 H3' hk ⟨s3, hall, x3, x4, rfl⟩ ⟨rfl, hx⟩
        obtain ⟨nm, hnm, rfl⟩ := nms_at hx
        refine l_if (fun b H' => Same H3' H' ∧ b = !nmOk nm) ?_ (fun H4 h => ?_) (fun H4 h => ?_)
        · walk_at "rd"
          refine ite2 (fun h => ?_) fun h => ?_
          · have e : nm = [] := S_inj h
            rw [e]
            rfl
          have hne : nm ≠ [] := fun e => h (by rw [e]; rfl)
          have hnl : nm.length < 16777216 := by
            have := path_sub (w := wd) (by rw [hns]; exact List.mem_of_getElem? hnm)
            omega
          refine lc_text (z := S nm) (H0 := H3') (fun c => .bl (decide (c ∈ SIG))) ?_ (by rw [S_len]; exact hnl) (fun _ => rfl) ?_ ?_
          · walk_at "rd"
          · intro c H' hc s2
            walk_at "rd"
            refine ⟨⟨#[c]⟩, rfl, (by rw [sizeLine_eq]; show 1 ≤ 16777216; decide), ?_⟩
            walk_at "rd"
            refine decide_eq_decide.mpr ⟨fun ⟨d, hd, e⟩ => ?_, fun hd => ⟨c, hd, rfl⟩⟩
            rw [S1_inj e]
            exact hd
          · intro p' H' hp' s2 hH'
            walk_at "rd"
            refine ⟨nm.map fun c => decide (c ∈ SIG), .inl (.inl (by rw [hH', List.map_map]; rfl)), s2, ?_⟩
            unfold nmOk
            rw [decide_eq_false hne, List.all_map]
            rfl
        · obtain ⟨s4, hb⟩ := h
          have hbad : ¬ ns.all nmOk = true := fun h => by
            have := List.all_eq_true.mp h nm (List.mem_of_getElem? hnm)
            rw [this] at hb
            cases hb
          exact q2 (by rw [hpn, if_neg hbad]) H4 ((s2.trans s3).trans s4)
        · obtain ⟨s4, hb⟩ := h
          have hok : nmOk nm = true := by cases h : nmOk nm <;> simp [h] at hb ⊢
          refine ⟨s3.trans s4, ?_, _, _, rfl⟩
          rw [List.take_succ, hnm, List.all_append, hall]
          simp [hok]
      · obtain ⟨s3, hall, h⟩ := h
        rw [List.take_of_length_le (by rw [nms_len]; exact Nat.le_refl _)] at hall
        exact ⟨s2.trans s3, s3 _ _ hF2, hall, h⟩
    · rintro σ H3 ⟨s3, hF3, hall, x3, x4, rfl⟩
      walk_at "rd"
      intro p hp
      have sp := same_new (o := .tup [V.ref F, V.bl (folderW (splW wd))]) hp
      refine q1 ns _ p F _ ?_ (s3.trans sp) upd_same (sp _ _ hF3) hFn
      rw [hpn, if_pos hall]

/-! ### a path, sign by sign (plain) -/
/-! ### going down -/
theorem q_pair {i j : Nat} {te : TE} {u : TS} {D : Ends} {σ : L2.St} {H : Hp} (C : V → V → Hp → Prop) (h : te σ H fun v H1 => ∃ p x y, v = .ref p ∧ SqT K H1 p [x, y] ∧ C x y H1) (k : ∀ x y H1, C x y H1 → u D ((σ.set i (some x)).set j (some y)) H1) :
    tSeq (tAsg (tMid te) (gTup K 2 (gCons (gName i) (gCons (gName j) gNil)))) u D σ H :=
  ⟨_, h, fun v H1 ⟨p, x, y, e, hp, c⟩ => ⟨p, [x, y], e, hp, rfl, x, [y], rfl, y, [], rfl, rfl, k x y H1 c⟩⟩
theorem for_pair {J0 : It} {n : Nat} {G : Hp → Prop} {f g : Nat → Option V} {wi : TI} {i j : Nat} {tb : TS} {D : Ends} {σ : L2.St} {H H0 : Hp} (h : wi σ H fun J H1 => J = J0 ∧ H1 = H0) (wk : Walk J0 n G (YPair f g)) (Pv : Nat → L2.St → Hp → Prop) (h0 : Pv 0 σ H0) (hG : ∀ i σ H, i ≤ n → Pv i σ H → G H)
    (hs : ∀ k x y σ H H', k < n → Pv k σ H → Same H H' → f k = some x → g k = some y → tb { D with nx := Pv (k + 1), ct := Pv (k + 1), bk := D.nx } ((σ.set i (some x)).set j (some y)) H') (hd : ∀ σ H, Pv n σ H → D.nx σ H) :
    tFor (iMid wi) (gTup K 2 (gCons (gName i) (gCons (gName j) gNil))) tb D σ H := by
  refine for_midg h wk Pv h0 hG ?_ hd
  rintro k v σ H1 H2 hk p ⟨T, x, y, rfl, hT, rfl, hx, hy⟩
  exact ⟨T, [x, y], rfl, .inl (.inl upd_same), rfl, x, [y], rfl, y, [], rfl, rfl, hs k x y σ H1 _ hk p (same_new hT) hx hy⟩
def lastN (p : RF → Bool) (rs : List RF) : Option Nat := (hitsN p rs rs.length).getLast?
theorem last_is {p : RF → Bool} {rs : List RF} {o : Option Nat} (h : IsLast p rs o) : o = lastN p rs := h.uniq hits_last
def stepN (rs : List RF) (nms : List (List Nat)) (fo : Bool) (m : Nat) : Option Nat := lastN (rfit (nms.take m) (fo || decide (m < nms.length))) rs
def stops (rs : List RF) (o : Option Nat) : Bool := match o with
  | some i => match rs[i]? with
    | some r => !r.spares
    | none => false
  | none => false
def IsDown (rs : List RF) (nms : List (List Nat)) (fo : Bool) (b : Bool) (o : Option Nat) : Prop :=
  (b = true ∧ ∃ k, k < nms.length ∧ o = stepN rs nms fo (k + 1) ∧ stops rs o = true ∧ ∀ j, j < k → stops rs (stepN rs nms fo (j + 1)) = false) ∨
  (b = false ∧ o = stepN rs nms fo nms.length ∧ ∀ j, j < nms.length → stops rs (stepN rs nms fo (j + 1)) = false)
theorem IsDown.uniq {rs : List RF} {nms : List (List Nat)} {fo b b' : Bool} {o o' : Option Nat} (h : IsDown rs nms fo b o) (g : IsDown rs nms fo b' o') : b = b' ∧ o = o' := by
  rcases h with ⟨rfl, k, hk, rfl, hs, hj⟩ | ⟨rfl, rfl, hj⟩ <;> rcases g with ⟨rfl, k', hk', rfl, hs', hj'⟩ | ⟨rfl, rfl, hj'⟩
  · rcases Nat.lt_trichotomy k k' with q | q | q
    · rw [hj' k q] at hs; cases hs
    · rw [q]; exact ⟨rfl, rfl⟩
    · rw [hj k' q] at hs'; cases hs'
  · rw [hj' k hk] at hs; cases hs
  · rw [hj k' hk'] at hs'; cases hs'
  · exact ⟨rfl, rfl⟩
theorem nms_cut {nms : List (List Nat)} {m : Nat} (h : m ≤ nms.length) : cutV (nmsV nms) none (some (m : Int)) = nmsV (nms.take m) := by
  unfold cutV
  rw [HT.sIx_none, HT.sIx_nat, nms_len, Nat.min_eq_left h, List.drop_zero, Nat.sub_zero]
  unfold nmsV
  rw [List.map_take, List.map_take]
theorem pathN_ne {wd : List Nat} {ns : List (List Nat)} {fo : Bool} (h : pathN wd = some (ns, fo)) : ns ≠ [] := by
  intro e0
  subst e0
  have hne : splW wd ≠ [] := spl_ne wd [] 0
  rw [pathN_def] at h
  generalize hns : (if folderW (splW wd) = true then (splW wd).dropLast else splW wd) = ns' at h
  by_cases ha : ns'.all nmOk = true
  · rw [if_pos ha] at h
    have e : ns' = [] := congrArg Prod.fst (Option.some.inj h)
    subst e
    split at hns
    · rename_i hf
      unfold folderW at hf
      rw [Bool.and_eq_true, decide_eq_true_eq] at hf
      have hl := congrArg List.length hns
      rw [List.length_dropLast, List.length_nil] at hl
      omega
    · exact hne hns
  · rw [if_neg ha] at h
    cases h
def RowsO (K : PySem.W.Frag) (rs : List RF) (l : Addr) (H : Hp) : Prop := ∃ us, SqL K H l us ∧ Each (RowV K) rs us H ∧ (∀ r ∈ rs, RowSz r) ∧ rs.length ≤ 1000
theorem RowsO.mono {rs : List RF} {l : Addr} {H H' : Hp} (h : RowsO K rs l H) (s : Same H H') : RowsO K rs l H' := let ⟨us, a, b, c⟩ := h; ⟨us, same_l s a, b.imp fun _ _ d => d.mono s, c⟩
def spTold (K : PySem.W.Frag) : Sp := fun vs H Q E => ∃ l wd rs, vs = [.ref l, .str (S wd)] ∧ wd.length ≤ 1000000 ∧ RowsO K rs l H ∧
  (∀ nms fo, pathN wd = some (nms, fo) → ∀ b o p H', Same H H' → H' p = some (.tup [.bl b, optV o]) → IsDown rs nms fo b o → Q (.ref p) H') ∧ (pathN wd = none → ∀ H', Same H H' → E (.ref (fA K "NoPath")) none H')
theorem ok_told (T : Txt K mg) : OkD P w K mg base 6 (fA K "told") ["rows", "path"] [] (spTold K) := by
  refine okD T.F_told sc_told (fun _ _ _ _ _ _ us hl => match us, hl with | [_, _], _ => rfl) ?_ ?_
  · rintro vs H Q E ⟨l, wd, rs, rfl, _⟩
    rfl
  · rintro cdv A outer s H vs Q E hr ⟨l, wd, rs, rfl, hw, hrs, q1, q2⟩
    refine ⟨_, (pss_cons (ps_asg (pe_mid (pe_cal (ok_names_of T) (hr.mono (by decide)) rfl T.g_names_of (pasE (takes_of rfl rfl rfl rfl) (fun _ _ _ _ h => h)) (pa_cons (pv 1) pa_nil))) (pg_tup rfl (pgs_cons (pg_name (i := 2) sc_told.nd rfl (Or.inl rfl)) (pgs_cons (pg_name (i := 3) sc_told.nd rfl (Or.inl rfl)) pgs_nil))))
  (pss_cons (ps_set (i := 4) sc_told.nd rfl (Or.inl rfl) (pe_mid pe_non))
  (pss_cons (ps_mid (ps_for (passes_of rfl) rfl (pi_mid (pi_range2 rfl T.fr_range (pa_cons pe_int (pa_cons (pe_op (o_add (K := K)) (pe_callB (o_lenW (K := K) (w := w)) (by rfl) T.fr_len boot_len (pa_cons (pv 2) pa_nil)) pe_int) pa_nil)))) (pg_name (i := 5) sc_told.nd rfl (Or.inl rfl)) (pss_cons (ps_set (i := 4) sc_told.nd rfl (Or.inl rfl) (pe_mid (pe_cal (ok_last_fit T) (hr.mono (by decide)) rfl T.g_last_fit (pasE (takes_of rfl rfl rfl rfl) (fun _ _ _ _ h => h)) (pa_cons (pv 0) (pa_cons (pe_slice (o_sl (K := K)) (pv 2) po_none (po_some (pv 5))) (pa_cons (pe_orK (K := K) (pv 3) (pe_one (pe_cmpR o_lt (pv 5) (pe_callB (o_lenW (K := K) (w := w)) (by rfl) T.fr_len boot_len (pa_cons (pv 2) pa_nil)) (nomark _)))) pa_nil))))))
  (pss_one (ps_if (pt_mid (PW.pt (pw_and (pt_cmp (pc_notN (pv 4)) rfl) (pw_and1 (pt_not (pt_tru (K := K) (pe_fldK (K := K) (pe_ix (o_ix (K := K)) (pv 0) (pv 4) (fun _ _ => rfl)) rfl) (by intro _; rfl))))))) (pss_one (ps_ret (pe_tup (pa_cons pe_bl (pa_cons (pv 4) pa_nil))))) pss_nil)))))
  (pss_one (ps_ret (pe_tup (pa_cons pe_bl (pa_cons (pv 4) pa_nil)))))))), ?_⟩
    have tobj := T.obj
    refine q_pair (fun x y H' => Same H H' ∧ ∃ F nms fo, x = .ref F ∧ y = .bl fo ∧ H' F = some (.lst (nmsV nms)) ∧ pathN wd = some (nms, fo)) ?_ ?_
    · walk_at "rd"
      exact ⟨wd, rfl, hw, fun ns fo p F H' e s hp hF _ => ⟨p, rfl, _, _, .inl (.inl hp), s, F, rfl, ns, fo, rfl, hF, e⟩, fun e H' s => q2 e H' s⟩
    rintro _ _ H1 ⟨s1, F, nms, fo, rfl, rfl, hF, hpn⟩
    have nne := pathN_ne hpn
    have hw1 : nms.length ≤ 1000001 := Nat.le_trans (path_cnt hpn) (by omega)
    have hrs1 := hrs.mono s1
    refine q_midG (fun v H' => v = .non ∧ H' = H1) (by walk_at "rd") ?_
    rintro _ _ ⟨rfl, rfl⟩
    rename_i H1
    refine q_stm (fun σ H' => Same H1 H' ∧ ∃ o x5, σ = [some (.ref l), some (.str (S wd)), some (.ref F), some (.bl fo), some (optV o), x5] ∧ o = stepN rs nms fo nms.length ∧ ∀ j, j < nms.length → stops rs (stepN rs nms fo (j + 1)) = false) ?_ ?_
    · refine for_mid (J0 := Itr 1 nms.length) (H0 := H1) ?_ walk_range
        (fun k σ H' => Same H1 H' ∧ ∃ o x5, σ = [some (.ref l), some (.str (S wd)), some (.ref F), some (.bl fo), some (optV o), x5] ∧ (0 < k → o = stepN rs nms fo k) ∧ ∀ j, j < k → stops rs (stepN rs nms fo (j + 1)) = false)
        ⟨Same.refl _, none, none, rfl, fun h => absurd h (by decide), fun j h => absurd h (by omega)⟩ (fun _ _ _ _ _ => trivial) ?_ (fun σ H' h => ?_)
      · walk_at "rd"
        refine .inr ⟨_, .inl ⟨_, .inl (.inl hF), rfl⟩, 1, _, ⟨rfl, rfl⟩, ?_⟩
        rw [nms_len]
        refine ⟨⟨by decide, by decide, by omega, by omega⟩, ?_⟩
        rw [show ((nms.length : Int) + 1 - 1).toNat = nms.length from by omega]
      · rintro k x σ H2 H2' hk ⟨s2, o, x5, rfl, ho, hj⟩ ⟨rfl, rfl⟩
        have hF2 := s2 _ _ hF
        obtain ⟨us, hus, each, szs, hn⟩ := hrs1.mono s2
        have ek : ((1 : Int) + (k : Nat)) = ((k + 1 : Nat) : Int) := by omega
        refine q_midG (fun v H' => Same H2' H' ∧ v = optV (stepN rs nms fo (k + 1))) ?_ ?_
        · walk_at "rd"
          have hk1 : k + 1 ≤ nms.length := hk
          have fin : ∀ p1, H2' p1 = none → ∀ b, b = (fo || decide (k + 1 < nms.length)) → spLast K [.ref l, .ref p1, .bl b] (upd H2' p1 (.lst (cutV (nmsV nms) none (some (1 + (k : Int)))))) (fun v H' => Same H2' H' ∧ v = optV (stepN rs nms fo (k + 1))) E := by
            rintro p1 hp1 b rfl
            have sp := same_new (o := .lst (cutV (nmsV nms) none (some (1 + (k : Int))))) hp1
            refine ⟨l, p1, _, us, rs, nms.take (k + 1), rfl, same_l sp hus, each.imp fun _ _ d => d.mono sp, szs, hn, .inl (.inl ?_), fun o H' s ho => ⟨sp.trans s, by rw [last_is ho]; rfl⟩⟩
            rw [upd_same, ek, nms_cut hk1]
          refine .inl ⟨_, .inl (.inl hF2), fun p1 hp1 => ite2 (fun h => fin p1 hp1 fo (by rw [h]; rfl)) fun h => .inr ⟨_, .inl ⟨_, .inl (.inl ((same_new hp1) _ _ hF2)), rfl⟩, fin p1 hp1 _ ?_⟩⟩
          have hf : fo = false := by simpa using h
          rw [hf, Bool.false_or, nms_len]
          exact decide_eq_decide.mpr ⟨fun h => by omega, fun h => by omega⟩
        rintro _ H3 ⟨s3, rfl⟩
        have hus3 := same_l s3 hus
        have each3 : Each (RowV K) rs us H3 := each.imp fun _ _ d => d.mono s3
        refine l_if (fun b H' => H' = H3 ∧ b = stops rs (stepN rs nms fo (k + 1))) ?_ (fun H4 h => ?_) (fun H4 h => ?_)
        · cases hst : stepN rs nms fo (k + 1) with
          | none =>
            rw [show optV none = V.non from rfl]
            walk_at "rd"
            rfl
          | some i =>
            rw [show optV (some i) = V.int (i : Int) from rfl]
            walk_at "rd"
            have hil : ∃ r, rs[i]? = some r ∧ _ := hits_last.1 i hst
            obtain ⟨r, hri, _⟩ := hil
            obtain ⟨u, hu, ⟨rp, rdx, rt, rus, rfl, ho3, _⟩⟩ := each3.2 i r hri
            refine ⟨us, hus3.elim (fun h => .inl (.inl h)) (fun h => .inl (.inr h)), _, atI_nat hu, _, rfl, ?_⟩
            walk_at "rdh"
            unfold stops
            simp [hri]
        · obtain ⟨rfl, hb⟩ := h
          walk_at "rd"
          intro p hp
          have sp := same_new (o := .tup [V.bl true, optV (stepN rs nms fo (k + 1))]) hp
          exact q1 nms fo hpn true _ p _ (((s1.trans s2).trans s3).trans sp) upd_same (.inl ⟨rfl, k, hk, rfl, hb.symm, hj⟩)
        · obtain ⟨rfl, hb⟩ := h
          refine ⟨s2.trans s3, _, _, rfl, fun _ => rfl, fun j h => ?_⟩
          rcases Nat.lt_or_ge j k with h2 | h2
          · exact hj j h2
          · rw [show j = k from by omega]; exact hb.symm
      · obtain ⟨s2, o, x5, e, ho, hj⟩ := h
        exact ⟨s2, o, x5, e, ho (List.length_pos_iff.mpr nne), hj⟩
    · rintro σ H2 ⟨s2, o, x5, rfl, rfl, hj⟩
      walk_at "rd"
      intro p hp
      have sp := same_new (o := .tup [V.bl false, optV (stepN rs nms fo nms.length)]) hp
      exact q1 nms fo hpn false _ p _ ((s1.trans s2).trans sp) upd_same (.inr ⟨rfl, rfl, hj⟩)

/-! ### the law's own going down -/
def pairD (b : Bool) (o : Option Nat) : PyData := .tuple [.bool b, match o with
  | some i => .int i
  | none => .none]
theorem pair_dp {H : Hp} {b : Bool} {o : Option Nat} {p : Addr} (h : SqT K H p [.bl b, optV o]) : Dp K H (.ref p) (pairD b o) := by
  cases o with
  | none => exact .tup h (.cons (.bl _) (.cons .non .nil))
  | some i => exact .tup h (.cons (.bl _) (.cons (.int _) .nil))
theorem pair_ok {b : Bool} {o : Option Nat} : DOk 1 (pairD b o) := dok_tup (all_cons dok_bl (all_cons (by cases o <;> first | exact dok_non | exact dok_int) all_nil))
/-! ### a text, several times -/
theorem foldl_rep (a : Array Nat) : ∀ (n : Nat) (b : Array Nat), ((List.replicate n a).foldl (· ++ ·) b).toList = b.toList ++ (List.replicate n a.toList).flatten
  | 0, b => by simp
  | n + 1, b => by
    rw [List.replicate_succ, List.replicate_succ, List.foldl_cons, foldl_rep a n, Array.toList_append, List.flatten_cons, List.append_assoc]
def repS (z : Str) (n : Nat) : Str := ⟨(List.replicate n z.cps.toList).flatten.toArray⟩
theorem repS_eq (z : Str) (n : Nat) : (⟨(List.replicate n z.cps).foldl (· ++ ·) #[]⟩ : Str) = repS z n := by
  have h := foldl_rep z.cps n #[]
  unfold repS
  congr 1
  refine Array.ext' ?_
  rw [h]
  simp
theorem repS_len (z : Str) (n : Nat) : (repS z n).length = n * z.length := by
  show (List.toArray _).size = n * z.cps.size
  simp
def rMulStr : R2 := fun x y H Q => ∃ (z : Str) (n : Int), x = .str z ∧ y = .int n ∧ 0 ≤ n ∧ n ≤ 1000 ∧ z.length ≤ 1000 ∧ Q (.str (repS z n.toNat)) H
theorem o_mulStr {X : Cx} : OpR X (binaryOp .Mult) rMulStr := by
  intro pins s σ H x y v u Q I rx ry h
  obtain ⟨z, n, rfl, rfl, h0, h1, h2, q⟩ := h
  obtain ⟨t, rfl⟩ := rx
  obtain ⟨t', rfl⟩ := ry
  refine P.mul_str ?_ (fun a b => ?_) (fun a b => ?_) ?_
  · rw [decide_eq_false (by omega), decide_eq_false (by omega)]; rfl
  · have h3 : (1000 : Int) ≤ (2 ^ 63 - 1) / n := Int.le_ediv_of_mul_le (by omega) (by omega)
    omega
  · have h3 : z.length * n.toNat ≤ 1000 * 1000 := Nat.mul_le_mul h2 (by omega)
    unfold Builtin.Str.tooLong
    rw [decide_eq_false (by rw [sizeLine_eq]; omega)]
  · split
    · rename_i hn
      have e : repS z n.toNat = Str.empty := by
        rw [show n.toNat = 0 from by omega]
        rfl
      exact ⟨by decide, .str (repS z n.toNat), H, I.tok _, ⟨_, by rw [e]⟩, q⟩
    · rename_i hn
      split
      · rename_i hc
        have e : repS z n.toNat = z := by
          rw [Bool.or_eq_true] at hc
          rcases hc with hc | hc
          · rw [show n.toNat = 1 from by have := eq_of_beq hc; omega]
            unfold repS
            simp
          · have hz : z.cps = #[] := Array.eq_empty_of_size_eq_zero (eq_of_beq hc)
            unfold repS
            rw [hz]
            obtain ⟨c⟩ := z
            cases hz
            simp
        exact ⟨.str (repS z n.toNat), H, I, ⟨t, by rw [e]⟩, q⟩
      · rw [repS_eq]
        refine ⟨?_, .str (repS z n.toNat), H, I.tok _, ⟨_, rfl⟩, q⟩
        rw [repS_len, sizeLine_eq]
        have h3 : n.toNat * z.length ≤ 1000 * 1000 := Nat.mul_le_mul (by omega) h2
        omega

/-! ### dicts: their data compared; zip -/
/-- dicts of like data -/
def SameDD (K : PySem.W.Frag) (H : Hp) (ks ls : List (Key × V)) : Prop := ks.length = ls.length ∧ ∀ p ∈ ks, ∃ u d, valV ls p.1 = some u ∧ Dp K H p.2 d ∧ Dp K H u d ∧ DOk 50 d
section
variable {X : Cx}
end
/-- a key's value by the text -/
theorem dget_s {H : Hp} {a : Addr} {kvs : List (Key × V)} {z : Str} {v : V} (h : H a = some (.dK kvs)) (e : valV kvs (.inr z) = some v) : DGet H a (.str z) (some v) := e ▸ DGet.k (k := .inr z) h
theorem dput_s {H : Hp} {a : Addr} {kvs : List (Key × V)} {z : Str} {v : V} (h : H a = some (.dK kvs)) (hl : kvs.length < 16777216) : DPut H a (.str z) v (upd H a (.dK (putK kvs (.inr z) v))) := DPut.k (k := .inr z) h (by rw [sizeLine_eq]; exact hl)
theorem putK_len {kvs : List (Key × V)} {k : Key} {v : V} : (putK kvs k v).length ≤ kvs.length + 1 := by
  unfold putK
  split
  · rw [List.length_map]; omega
  · rw [List.length_append]; exact Nat.le_refl _
/-! ### all_told: a dict of what told tells -/
def addN (acc : List (List Nat)) (w : List Nat) : List (List Nat) := if w ∈ acc then acc else acc ++ [w]
def onceN (ws : List (List Nat)) : List (List Nat) := ws.foldl addN []
theorem once_take {ws : List (List Nat)} {k : Nat} {w : List Nat} (h : ws[k]? = some w) : onceN (ws.take (k + 1)) = addN (onceN (ws.take k)) w := by
  unfold onceN
  rw [List.take_succ, h, List.foldl_append]
  rfl
theorem foldN_mem : ∀ (ws acc : List (List Nat)) {w : List Nat}, w ∈ ws.foldl addN acc ↔ w ∈ acc ∨ w ∈ ws
  | [], acc, w => by simp
  | x :: r, acc, w => by
    rw [List.foldl_cons, foldN_mem r (addN acc x), List.mem_cons]
    unfold addN
    by_cases h : x ∈ acc
    · rw [if_pos h]
      exact ⟨fun h' => h'.elim .inl fun h' => .inr (.inr h'), fun h' => h'.elim .inl fun h' => h'.elim (fun e => .inl (e ▸ h)) .inr⟩
    · rw [if_neg h, List.mem_append, List.mem_singleton]
      exact ⟨fun h' => h'.elim (fun h' => h'.elim .inl fun h' => .inr (.inl h')) fun h' => .inr (.inr h'), fun h' => h'.elim (fun h' => .inl (.inl h')) fun h' => h'.elim (fun h' => .inl (.inr h')) .inr⟩
theorem once_mem {ws : List (List Nat)} {w : List Nat} : w ∈ onceN ws ↔ w ∈ ws := by
  unfold onceN
  rw [foldN_mem]
  simp
def ToldV (rs : List RF) (w : List Nat) (v : V) (H : Hp) : Prop := ∃ t nms fo b o, v = .ref t ∧ H t = some (.tup [.bl b, optV o]) ∧ pathN w = some (nms, fo) ∧ IsDown rs nms fo b o
theorem ToldV.nl {rs : List RF} {w : List Nat} {v : V} {H H' : Hp} (h : ToldV rs w v H) (s : ∀ a t, H a = some (.tup t) → H' a = some (.tup t)) : ToldV rs w v H' := let ⟨t, a, b, c, d, e, f, g⟩ := h; ⟨t, a, b, c, d, e, s _ _ f, g⟩
theorem ToldV.mono {rs : List RF} {w : List Nat} {v : V} {H H' : Hp} (h : ToldV rs w v H) (s : Same H H') : ToldV rs w v H' := h.nl fun _ _ e => s _ _ e
/-- a dict of what is told of each of these paths -/
structure ToldD (rs : List RF) (ws : List (List Nat)) (kvs : List (Key × V)) (H : Hp) : Prop where
  keys : kvs.map (·.1) = (onceN ws).map fun w => (Sum.inr (S w) : Key)
  each : ∀ q ∈ kvs, ∃ w, q.1 = .inr (S w) ∧ ToldV rs w q.2 H
theorem valV_pair {kvs : List (Key × V)} {k : Key} {v : V} (h : valV kvs k = some v) : (k, v) ∈ kvs := by
  unfold valV at h
  cases e : kvs.find? (fun kv => decide (kv.1 = k)) with
  | none => rw [e] at h; cases h
  | some q =>
    rw [e] at h
    have h1 := List.mem_of_find?_eq_some e
    have h3 : decide (q.1 = k) = true := List.find?_some (p := fun kv : Key × V => decide (kv.1 = k)) e
    have h2 := of_decide_eq_true h3
    obtain ⟨a, b⟩ := q
    cases (show some b = some v from h)
    cases (show a = k from h2)
    exact h1
theorem ToldD.vals {rs : List RF} {ws : List (List Nat)} {kvs : List (Key × V)} {H : Hp} (h : ToldD rs ws kvs H) (w : List Nat) (v : V) (e : valV kvs (.inr (S w)) = some v) : ToldV rs w v H := by
  obtain ⟨w', e1, e2⟩ := h.each _ (valV_pair e)
  have e3 : S w = S w' := Sum.inr.inj e1
  rw [S_inj e3]
  exact e2
theorem putK_mem {kvs : List (Key × V)} {k : Key} {v : V} {q : Key × V} (h : q ∈ putK kvs k v) : q ∈ kvs ∨ q = (k, v) := by
  unfold putK at h
  split at h
  · obtain ⟨x, hx, e⟩ := List.mem_map.mp h
    split at e
    · rename_i e2
      rw [e2] at e
      exact .inr e.symm
    · exact .inl (e ▸ hx)
  · exact (List.mem_append.mp h).imp id List.mem_singleton.mp
theorem ToldD.mono {rs : List RF} {ws : List (List Nat)} {kvs : List (Key × V)} {H H' : Hp} (h : ToldD rs ws kvs H) (s : Same H H') : ToldD rs ws kvs H' := ⟨h.keys, fun q hq => let ⟨w, a, b⟩ := h.each q hq; ⟨w, a, b.mono s⟩⟩
theorem valV_some {kvs : List (Key × V)} {k : Key} (h : k ∈ kvs.map (·.1)) : ∃ v, valV kvs k = some v := by
  cases e : valV kvs k with
  | some v => exact ⟨v, rfl⟩
  | none => exact absurd h (valV_not e)
theorem ToldD.at {rs : List RF} {ws : List (List Nat)} {kvs : List (Key × V)} {H : Hp} (h : ToldD rs ws kvs H) {w : List Nat} (m : w ∈ ws) : ∃ v, valV kvs (.inr (S w)) = some v ∧ ToldV rs w v H := by
  have hm : (Sum.inr (S w) : Key) ∈ kvs.map (·.1) := by rw [h.keys]; exact List.mem_map.mpr ⟨w, once_mem.mpr m, rfl⟩
  obtain ⟨v, e⟩ := valV_some hm
  exact ⟨v, e, h.vals w v e⟩
theorem key_mem {ws : List (List Nat)} {w : List Nat} : (Sum.inr (S w) : Key) ∈ ws.map (fun w => (Sum.inr (S w) : Key)) ↔ w ∈ ws := by
  rw [List.mem_map]
  refine ⟨fun ⟨x, hx, e⟩ => ?_, fun h => ⟨w, h, rfl⟩⟩
  have e2 : S x = S w := Sum.inr.inj e
  rw [← S_inj e2]
  exact hx
theorem ToldD.put {rs : List RF} {ws : List (List Nat)} {kvs : List (Key × V)} {H : Hp} (h : ToldD rs ws kvs H) {k : Nat} {w : List Nat} {v : V} (hw : ToldV rs w v H) {us : List (List Nat)} (hu : ws = us.take k) (hk : us[k]? = some w) : ToldD rs (us.take (k + 1)) (putK kvs (.inr (S w)) v) H := by
  subst hu
  refine ⟨?_, fun q hq => ?_⟩
  · rw [once_take hk]
    unfold addN
    by_cases hm : w ∈ onceN (us.take k)
    · rw [if_pos hm, ← h.keys]
      have hany : (kvs.any fun kv => decide (kv.1 = (Sum.inr (S w) : Key))) = true := by
        rw [valV_any]
        have : (Sum.inr (S w) : Key) ∈ kvs.map (·.1) := by rw [h.keys]; exact key_mem.mpr hm
        obtain ⟨v0, e⟩ := valV_some this
        rw [e]; rfl
      unfold putK
      rw [if_pos hany, List.map_map]
      refine List.map_congr_left fun p _ => ?_
      show (if p.1 = Sum.inr (S w) then (p.1, v) else p).1 = p.1
      split <;> rfl
    · rw [if_neg hm, List.map_append, ← h.keys]
      have hn : valV kvs (Sum.inr (S w) : Key) = none := by
        cases e : valV kvs (Sum.inr (S w) : Key) with
        | none => rfl
        | some v0 =>
          have := valV_in e
          rw [h.keys] at this
          exact absurd (key_mem.mp this) hm
      rw [putK_new v hn, List.map_append]
      rfl
  · rcases putK_mem hq with h1 | rfl
    · exact h.each q h1
    · exact ⟨w, rfl, hw⟩
/-- two dicts of the same paths tell alike -/
theorem ToldD.same {rs : List RF} {ws : List (List Nat)} {ks ls : List (Key × V)} {H : Hp} (h : ToldD rs ws ks H) (g : ToldD rs ws ls H) : SameDD K H ks ls := by
  refine ⟨?_, fun q hq => ?_⟩
  · have := congrArg List.length (h.keys.trans g.keys.symm)
    rwa [List.length_map, List.length_map] at this
  · obtain ⟨w, e, t, nms, fo, b, o, e1, e2, e3, e4⟩ := h.each q hq
    have hm : q.1 ∈ ls.map (·.1) := by
      rw [g.keys, ← h.keys]
      exact List.mem_map.mpr ⟨q, hq, rfl⟩
    obtain ⟨v, hv⟩ := valV_some hm
    have hv' := hv
    rw [e] at hv'
    obtain ⟨t', nms', fo', b', o', f1, f2, f3, f4⟩ := g.vals w v hv'
    rw [e3] at f3
    cases f3
    obtain ⟨rfl, rfl⟩ := f4.uniq e4
    refine ⟨v, pairD b' o', hv, ?_, ?_, pair_ok.up (by decide)⟩
    · rw [e1]; exact pair_dp (.inl (.inl e2))
    · rw [f1]; exact pair_dp (.inl (.inl f2))
/-! ### plain: going down, one name more -/
theorem join_len {b : Nat} : ∀ {ls : List (List Nat)}, (∀ l ∈ ls, l.length ≤ b) → (TL.joinL [47] ls).length ≤ (b + 1) * ls.length
  | [], _ => Nat.zero_le _
  | [p], h => by
    have := h p List.mem_cons_self
    show p.length ≤ _
    simp only [List.length_cons, List.length_nil]
    omega
  | p :: q :: r, h => by
    have h1 := h p List.mem_cons_self
    have h2 := join_len (ls := q :: r) fun l hl => h l (List.mem_cons_of_mem _ hl)
    show (p ++ ([47] ++ TL.joinL [47] (q :: r))).length ≤ _
    rw [List.length_append, List.length_append, List.length_cons (as := q :: r), Nat.mul_succ]
    simp only [List.length_cons, List.length_nil] at h2 ⊢
    omega
theorem sum_len {b : Nat} : ∀ {ls : List (List Nat)}, (∀ l ∈ ls, l.length ≤ b) → ((ls.map S).map (·.length)).sum ≤ b * ls.length
  | [], _ => Nat.zero_le _
  | p :: r, h => by
    have h1 := h p List.mem_cons_self
    have h2 := sum_len (ls := r) fun l hl => h l (List.mem_cons_of_mem _ hl)
    rw [List.map_cons, List.map_cons, List.sum_cons, S_len, List.length_cons, Nat.mul_succ]
    omega
theorem nms_app (A B : List (List Nat)) : nmsV A ++ nmsV B = nmsV (A ++ B) := by
  unfold nmsV
  rw [List.map_append, List.map_append]
theorem join_more {x : List Nat} : ∀ {l : List (List Nat)}, l ≠ [] → TL.joinL [47] (l ++ [x]) = TL.joinL [47] l ++ [47] ++ x
  | [], h => absurd rfl h
  | [p], _ => by
    show p ++ ([47] ++ x) = p ++ [47] ++ x
    rw [List.append_assoc]
  | p :: q :: r, _ => by
    have ih := join_more (x := x) (l := q :: r) (by simp)
    show p ++ ([47] ++ TL.joinL [47] ((q :: r) ++ [x])) = (p ++ ([47] ++ TL.joinL [47] (q :: r))) ++ [47] ++ x
    rw [ih]
    simp only [List.append_assoc]
theorem cut_take {us : List V} {k : Nat} : cutV us none (some (k : Int)) = us.take k := by
  unfold cutV
  have e : HT.sIx us.length us.length (some (k : Int)) = min k us.length := by
    unfold HT.sIx
    simp
    omega
  rw [HT.sIx_none, e, List.drop_zero, Nat.sub_zero]
  rcases Nat.le_total k us.length with h | h
  · rw [Nat.min_eq_left h]
  · rw [Nat.min_eq_right h, List.take_of_length_le (Nat.le_refl _), List.take_of_length_le h]
theorem nms_take {ns : List (List Nat)} {k : Nat} : (nmsV ns).take k = nmsV (ns.take k) := by
  unfold nmsV
  rw [List.map_take, List.map_take]
theorem Each.app {α : Type} {R : α → V → Hp → Prop} {as bs : List α} {us vs : List V} {H : Hp} (h : Each R as us H) (g : Each R bs vs H) : Each R (as ++ bs) (us ++ vs) H := by
  refine ⟨by rw [List.length_append, List.length_append, h.1, g.1], fun i f hf => ?_⟩
  rcases Nat.lt_or_ge i as.length with e | e
  · rw [List.getElem?_append_left e] at hf
    obtain ⟨u, a, b⟩ := h.2 i f hf
    exact ⟨u, by rw [List.getElem?_append_left (by rw [h.1]; exact e)]; exact a, b⟩
  · rw [List.getElem?_append_right e] at hf
    obtain ⟨u, a, b⟩ := g.2 _ f hf
    exact ⟨u, by rw [List.getElem?_append_right (by rw [h.1]; exact e), h.1]; exact a, b⟩
theorem ends47 {l : List Nat} {c : Nat} : Txt.endswith (S (l ++ [c])) (S [47]) = decide (c = 47) := by
  rw [← S_cat, PySem.W.KAf.ends_right (a := S l) (y := S [c]) (d := S [47]) (by rw [S_len, S_len]; exact Nat.le_refl 1)]
  unfold Txt.endswith Builtin.Str.subAt
  by_cases h : c = 47
  · subst h; decide +kernel
  · rw [decide_eq_false h]
    have : ((S [c]).cps.extract 0 1 == (S [47]).cps) = false := by
      have e : (S [c]).cps.extract 0 1 = #[c] := by simp
      rw [e]
      simp [h]
    show (decide (0 + 1 ≤ 1) && ((S [c]).cps.extract 0 1 == (S [47]).cps)) = false
    rw [this]
    rfl
theorem join_mem {c : Nat} : ∀ {ls : List (List Nat)}, c ∈ TL.joinL [47] ls → c = 47 ∨ ∃ l ∈ ls, c ∈ l
  | [], h => nomatch h
  | [p], h => .inr ⟨p, List.mem_cons_self, h⟩
  | p :: q :: r, h => by
    have h' : c ∈ p ++ ([47] ++ TL.joinL [47] (q :: r)) := h
    rcases List.mem_append.mp h' with h | h
    · exact .inr ⟨p, List.mem_cons_self, h⟩
    · rcases List.mem_append.mp h with h | h
      · exact .inl (List.mem_singleton.mp h)
      · exact (join_mem h).imp id fun ⟨l, hl, hc⟩ => ⟨l, List.mem_cons_of_mem _ hl, hc⟩
/-- a good path by its names -/
structure GoodP (w : List Nat) (nms : List (List Nat)) (fo : Bool) : Prop where
  eq : w = TL.joinL [47] nms ++ (if fo = true then [47] else [])
  ne : nms ≠ []
  len : nms.length ≤ 60
  nm : ∀ nm ∈ nms, nm ≠ [] ∧ nm.length ≤ 400 ∧ ∀ c ∈ nm, c ∈ SIG
theorem GoodP.path {w : List Nat} {nms : List (List Nat)} {fo : Bool} (h : GoodP w nms fo) : pathN w = some (nms, fo) := by
  rw [h.eq]
  exact pathN_join h.ne fun nm hm => ⟨(h.nm nm hm).1, (h.nm nm hm).2.2⟩
theorem GoodP.size {w : List Nat} {nms : List (List Nat)} {fo : Bool} (h : GoodP w nms fo) : w.length ≤ 30000 := by
  have lj := join_len (b := 400) fun nm hm => (h.nm nm hm).2.1
  have := h.len
  rw [h.eq, List.length_append]
  split <;> simp <;> omega
theorem GoodP.sg {w : List Nat} {nms : List (List Nat)} {fo : Bool} (h : GoodP w nms fo) : ∀ c ∈ w, c = 47 ∨ c ∈ SIG := fun c hc => by
  rw [h.eq] at hc
  rcases List.mem_append.mp hc with hc | hc
  · exact (join_mem hc).imp id fun ⟨l, hl, hc⟩ => (h.nm l hl).2.2 c hc
  · split at hc
    · exact .inl (List.mem_singleton.mp hc)
    · cases hc
theorem GoodP.dok {w : List Nat} {nms : List (List Nat)} {fo : Bool} (h : GoodP w nms fo) : PyData.strOk (S w) = true := by
  have k : ∀ c ∈ SIG, c < 128 := by decide +kernel
  unfold PyData.strOk
  rw [← Array.all_toList, List.all_eq_true]
  exact fun c hc => decide_eq_true ((h.sg c hc).elim (fun e => by omega) fun h => Nat.lt_trans (k c h) (by decide))
theorem GoodP.spl {w : List Nat} {nms : List (List Nat)} {fo : Bool} (h : GoodP w nms fo) : splW w = nms ++ (if fo = true then [[]] else []) := by
  have hs : ∀ nm ∈ nms, 47 ∉ nm := fun nm hm => slash_sig (h.nm nm hm).2.2
  rw [h.eq]
  cases fo with
  | false =>
    rw [if_neg Bool.false_ne_true, if_neg Bool.false_ne_true, List.append_nil, List.append_nil]
    exact TL.spl_join h.ne hs
  | true =>
    rw [if_pos rfl, if_pos rfl]
    have e := join_more (x := []) h.ne
    rw [List.append_nil] at e
    rw [← e]
    exact TL.spl_join (by simp) fun p hp => (List.mem_append.mp hp).elim (hs p) fun hp => by rw [List.mem_singleton.mp hp]; exact List.not_mem_nil
theorem GoodP.filt {w : List Nat} {nms : List (List Nat)} {fo : Bool} (h : GoodP w nms fo) : (splW w).filter (fun l => !decide (l = [])) = nms := by
  rw [h.spl, List.filter_append, List.filter_eq_self.mpr fun nm hm => by simp [(h.nm nm hm).1]]
  cases fo <;> simp
theorem GoodP.ends {w : List Nat} {nms : List (List Nat)} {fo : Bool} (h : GoodP w nms fo) : Txt.endswith (S w) (S [47]) = fo := by
  cases fo with
  | true =>
    rw [h.eq, if_pos rfl, ends47]
    exact decide_eq_true rfl
  | false =>
    obtain ⟨r, x, e⟩ : ∃ r x, nms = r ++ [x] := by
      rcases List.eq_nil_or_concat nms with e | ⟨r, x, e⟩
      · exact absurd e h.ne
      · exact ⟨r, x, by rw [e, List.concat_eq_append]⟩
    obtain ⟨hx, _, hsg⟩ := h.nm x (by rw [e]; simp)
    obtain ⟨y, c, ey⟩ : ∃ y c, x = y ++ [c] := by
      rcases List.eq_nil_or_concat x with e | ⟨r, x, e⟩
      · exact absurd e hx
      · exact ⟨r, x, by rw [e, List.concat_eq_append]⟩
    have ew : ∃ l, w = l ++ [c] := by
      rw [h.eq, if_neg Bool.false_ne_true, List.append_nil, e]
      cases r with
      | nil => exact ⟨y, by rw [← ey]; rfl⟩
      | cons q r =>
        rw [join_more (by simp), ey]
        exact ⟨_, by rw [← List.append_assoc]⟩
    obtain ⟨l, ew⟩ := ew
    rw [ew, ends47]
    refine decide_eq_false fun z => ?_
    have := hsg c (by rw [ey]; simp)
    rw [z] at this
    exact absurd this (by decide +kernel)
theorem txts_dp {H : Hp} {p : Addr} {ws : List (List Nat)} (h : SqL K H p (nmsV ws)) : Dp K H (.ref p) (.list (ws.map fun w => .str (S w))) := .lst h (by
  unfold nmsV
  rw [List.map_map]
  exact dp_map (fun w => V.str (S w)) (fun w => PyData.str (S w)) (fun w => .str _) ws)
theorem txts_ok {ws : List (List Nat)} (h : ∀ w ∈ ws, PyData.strOk (S w) = true) : DOk 1 (.list (ws.map fun w => .str (S w))) := dok_lst fun d hd => by
  obtain ⟨w, hw, rfl⟩ := List.mem_map.mp hd
  exact dok_str (h w hw)
theorem txt_ok {w : List Nat} (h : ∀ c ∈ w, c = 47 ∨ c ∈ SIG) : PyData.strOk (S w) = true := by
  have k : ∀ c ∈ SIG, c < 128 := by decide +kernel
  unfold PyData.strOk
  rw [← Array.all_toList, List.all_eq_true]
  exact fun c hc => decide_eq_true ((h c hc).elim (fun e => by omega) fun h => Nat.lt_trans (k c h) (by decide))
theorem eq_dat {n : Nat} {d : PyData} {u v : V} {H : Hp} {Q : VK} (ok : DOk n d) (hn : n ≤ 64) (h1 : Dp K H u d) (h2 : Dp K H v d) (q : Q (.bl true) H) : rEqR K u v H Q := by
  refine .inl ⟨d, d, h1, h2, ok.shaped hn, ok.shaped hn, ?_⟩
  rw [ok.eqv]
  exact q

/-! ### texts put in order: the one list -/
def leW (a b : List Nat) : Bool := !ltCps b a
theorem lt_irr : ∀ a : List Nat, ltCps a a = false
  | [] => rfl
  | a :: r => by simp [ltCps, lt_irr r]
theorem lt_tri : ∀ {a b : List Nat}, ltCps a b = false → ltCps b a = false → a = b
  | [], [], _, _ => rfl
  | [], _ :: _, h, _ => by simp [ltCps] at h
  | _ :: _, [], _, h => by simp [ltCps] at h
  | a :: r, b :: t, h, g => by
    simp only [ltCps, Bool.or_eq_false_iff, decide_eq_false_iff_not, Bool.and_eq_false_iff, beq_eq_false_iff_ne] at h g
    have e : a = b := by omega
    subst e
    rw [lt_tri (a := r) (b := t) (h.2.resolve_left fun z => z rfl) (g.2.resolve_left fun z => z rfl)]
theorem lt_tr : ∀ {a b c : List Nat}, ltCps a b = true → ltCps b c = true → ltCps a c = true
  | [], [], _, h, _ => by simp [ltCps] at h
  | [], _ :: _, [], _, g => by simp [ltCps] at g
  | [], _ :: _, _ :: _, _, _ => rfl
  | _ :: _, [], _, h, _ => by simp [ltCps] at h
  | _ :: _, _ :: _, [], _, g => by simp [ltCps] at g
  | a :: r, b :: t, c :: u, h, g => by
    simp only [ltCps, Bool.or_eq_true, decide_eq_true_eq, Bool.and_eq_true, beq_iff_eq] at h g ⊢
    rcases h with h | ⟨h1, h2⟩
    · rcases g with g | ⟨g1, g2⟩
      · exact .inl (by omega)
      · exact .inl (by omega)
    · rcases g with g | ⟨g1, g2⟩
      · exact .inl (by omega)
      · exact .inr ⟨by omega, lt_tr h2 g2⟩
theorem lt_as {a b : List Nat} (h : ltCps a b = true) : ltCps b a = false := by
  cases e : ltCps b a with
  | false => rfl
  | true => have := lt_tr h e; rw [lt_irr] at this; cases this
theorem le_tot (a b : List Nat) : leW a b = true ∨ leW b a = true := by
  unfold leW
  cases h : ltCps b a with
  | false => exact .inl rfl
  | true => rw [lt_as h]; exact .inr rfl
theorem le_tr {a b c : List Nat} (h : leW a b = true) (g : leW b c = true) : leW a c = true := by
  unfold leW at h g ⊢
  simp only [Bool.not_eq_true'] at h g ⊢
  cases e : ltCps c a with
  | false => rfl
  | true =>
    cases e2 : ltCps b c with
    | true => rw [lt_tr e2 e] at h; cases h
    | false =>
      have : b = c := lt_tri e2 g
      subst this
      rw [h] at e
      cases e
theorem le_anti {a b : List Nat} (h : leW a b = true) (g : leW b a = true) : a = b := by
  unfold leW at h g
  simp only [Bool.not_eq_true'] at h g
  exact lt_tri g h
theorem rising_pw : ∀ (l : List (List Nat)) (p : List Nat), risingS (S p) (l.map S) = true → (p :: l).Pairwise fun a b => leW a b = true
  | [], p, _ => List.pairwise_singleton _ _
  | c :: r, p, h => by
    have h' : (!ltCps c p && risingS (S c) (r.map S)) = true := h
    rw [Bool.and_eq_true] at h'
    have h2 := rising_pw r c h'.2
    refine List.pairwise_cons.mpr ⟨fun d hd => ?_, h2⟩
    rcases List.mem_cons.mp hd with rfl | hd
    · exact h'.1
    · exact le_tr h'.1 ((List.pairwise_cons.mp h2).1 d hd)
theorem sorted_pw : ∀ {l : List (List Nat)}, sortedS (l.map S) = true → l.Pairwise fun a b => leW a b = true
  | [], _ => .nil
  | c :: r, h => rising_pw r c h
def insW (x : List Nat) : List (List Nat) → List (List Nat)
  | [] => [x]
  | y :: r => if leW x y = true then x :: y :: r else y :: insW x r
def srtW : List (List Nat) → List (List Nat)
  | [] => []
  | x :: r => insW x (srtW r)
theorem ins_perm (x : List Nat) : ∀ l, (insW x l).Perm (x :: l)
  | [] => .refl _
  | y :: r => by
    show (if leW x y = true then x :: y :: r else y :: insW x r).Perm _
    split
    · exact .refl _
    · exact ((ins_perm x r).cons y).trans (List.Perm.swap x y r)
theorem srt_perm : ∀ l : List (List Nat), (srtW l).Perm l
  | [] => .refl _
  | x :: r => (ins_perm x (srtW r)).trans ((srt_perm r).cons x)
theorem ins_pw (x : List Nat) : ∀ l : List (List Nat), (l.Pairwise fun a b => leW a b = true) → (insW x l).Pairwise fun a b => leW a b = true
  | [], _ => List.pairwise_singleton _ _
  | y :: r, h => by
    have h' := List.pairwise_cons.mp h
    show (if leW x y = true then x :: y :: r else y :: insW x r).Pairwise _
    split
    · rename_i e
      refine List.pairwise_cons.mpr ⟨fun z hz => ?_, h⟩
      rcases List.mem_cons.mp hz with rfl | hz
      · exact e
      · exact le_tr e (h'.1 z hz)
    · rename_i e
      have e2 := (le_tot x y).resolve_left e
      refine List.pairwise_cons.mpr ⟨fun z hz => ?_, ins_pw x r h'.2⟩
      rcases List.mem_cons.mp ((ins_perm x r).mem_iff.mp hz) with rfl | hz
      · exact e2
      · exact h'.1 z hz
theorem srt_pw : ∀ l : List (List Nat), (srtW l).Pairwise fun a b => leW a b = true
  | [] => .nil
  | x :: r => ins_pw x (srtW r) (srt_pw r)
theorem srt_uniq {a b : List (List Nat)} (ha : a.Pairwise fun a b => leW a b = true) (hb : b.Pairwise fun a b => leW a b = true) (p : a.Perm b) : a = b :=
  p.eq_of_pairwise (fun _ _ _ _ h g => le_anti h g) ha hb
theorem texts_of : ∀ {ys : List Str} {ws : List (List Nat)}, ys.Perm (ws.map S) → ∃ vs : List (List Nat), ys = vs.map S := fun {ys ws} _ =>
  ⟨ys.map fun y => y.cps.toList, by rw [List.map_map]; exact (List.map_id ys).symm.trans (List.map_congr_left fun y _ => (S_tl y).symm)⟩
theorem unmapS {vs ws : List (List Nat)} (h : (vs.map S).Perm (ws.map S)) : vs.Perm ws := by
  have e := h.map fun y : Str => y.cps.toList
  rw [List.map_map, List.map_map] at e
  have k : ∀ l : List (List Nat), l.map ((fun y : Str => y.cps.toList) ∘ S) = l := fun l => by
    refine (List.map_congr_left fun x _ => ?_).trans (List.map_id l)
    show (S x).cps.toList = x
    simp
  rwa [k, k] at e
/-- what sorted tells is the one list -/
theorem sorted_is {ys : List Str} {ws : List (List Nat)} (p : ys.Perm (ws.map S)) (h : sortedS ys = true) : ys = (srtW ws).map S := by
  obtain ⟨vs, rfl⟩ := texts_of p
  rw [srt_uniq (sorted_pw h) (srt_pw ws) ((unmapS p).trans (srt_perm ws).symm)]
section
variable {X : Cx}
/-- sorted of a list of texts, of any length -/
def rSortedA (K : PySem.W.Frag) : List V → Hp → VK → Prop := fun vs H Q => match vs with
  | [.ref a] => ∃ ws : List (List Nat), SqL K H a (nmsV ws) ∧ ∀ p, H p = none → Q (.ref p) (upd H p (.lst (nmsV (srtW ws))))
  | _ => False
theorem o_sortedA {K : PySem.W.Frag} (hK : X.K = K := by rfl) : CallR X (.builtin "sorted") (rSortedA K) := by
  subst hK
  intro pins s σ H vs us Q I r h
  match vs, h with
  | [.ref a], ⟨ws, hs, q⟩ =>
  obtain ⟨its, rv, hl, hz⟩ := I.list hs
  rw [Vals.ref1 r]
  have hlen0 := rv.length
  rw [nms_len] at hlen0
  have rv' : Vals ((ws.map S).map V.str) its := rv
  refine PyProof.Rows.sorted_strsAny hl.isList rv'.strs (by rw [← hlen0]; rw [nms_len] at hz; exact hz) fun out ys h1 h2 h3 => ?_
  obtain ⟨ep, he'⟩ := PyProof.Rows.sortedAll_at s.heap its out
  have e := sorted_is h2 h3
  subst e
  have hlen : (nmsV (srtW ws)).length ≤ sizeLine := by
    rw [nms_len, (srt_perm ws).length_eq]
    rw [nms_len] at hz
    exact hz
  exact ⟨.ref _, upd H (s.heap.objs.size + 1) (.lst (nmsV (srtW ws))), I.laid (t' := s.toks) (fun _ _ => PyProof.Rows.sortedAll_old) (Nat.le_succ _) ⟨hlen, out.toList, ep, vals_of_strs h1, he'⟩, rfl, q _ (I.hok.fresh (Nat.le_succ _))⟩
end
/-! ### trees as dicts -/
/-- a name of a tree: signs of names, one at least -/
def NmOk (nm : List Nat) : Prop := nm ≠ [] ∧ nm.length ≤ 1000 ∧ ∀ c ∈ nm, c ∈ SIG
abbrev Names := List (List Nat)
/-- what stands in a folder, in the dict's order -/
def kidE (al : Names → Addr) (e : Names × Bool) : Key × V := (.inr (S (e.1.getLastD [])), if e.2 = true then .ref (al e.1) else .non)
def inF (p : Names) (e : Names × Bool) : Bool := decide (e.1.dropLast = p)
def kids (E : List (Names × Bool)) (al : Names → Addr) (p : Names) : List (Key × V) := (E.filter (inF p)).map (kidE al)
def kidN (E : List (Names × Bool)) (p : Names) : List (List Nat) := (E.filter (inF p)).map fun e => e.1.getLastD []
/-- the entries of a tree: each once, folders ahead, names of signs -/
structure EOk (E : List (Names × Bool)) : Prop where
  nd : (E.map (·.1)).Nodup
  ne : ∀ e ∈ E, e.1 ≠ []
  up : ∀ e ∈ E, e.1.dropLast = [] ∨ (e.1.dropLast, true) ∈ E
  nm : ∀ e ∈ E, ∀ nm ∈ e.1, NmOk nm
  deep : ∀ e ∈ E, e.1.length ≤ 9
def Fold (E : List (Names × Bool)) (p : Names) : Prop := p = [] ∨ (p, true) ∈ E
structure TreeE (E : List (Names × Bool)) (al : Names → Addr) (H : Hp) : Prop where
  ok : EOk E
  at_ : ∀ p, Fold E p → H (al p) = some (.dK (kids E al p))
  inj : ∀ p q, Fold E p → Fold E q → al p = al q → p = q
theorem TreeE.mono {E : List (Names × Bool)} {al : Names → Addr} {H H' : Hp} (h : TreeE E al H) (s : Same H H') : TreeE E al H' := ⟨h.ok, fun p hp => s _ _ (h.at_ p hp), h.inj⟩
theorem last_app {p : Names} {nm : List Nat} : (p ++ [nm]).getLastD [] = nm := by simp
theorem drop_last {q : Names} (h : q ≠ []) : q = q.dropLast ++ [q.getLastD []] := by
  rcases List.eq_nil_or_concat q with e | ⟨r, x, e⟩
  · exact absurd e h
  · rw [e, List.concat_eq_append, List.dropLast_concat, last_app]
/-- an entry of a folder, by its name -/
theorem kid_of {E : List (Names × Bool)} (ok : EOk E) {p : Names} {e : Names × Bool} (h : e ∈ E.filter (inF p)) : e ∈ E ∧ e.1 = p ++ [e.1.getLastD []] := by
  obtain ⟨h1, h2⟩ := List.mem_filter.mp h
  refine ⟨h1, ?_⟩
  have e2 : e.1.dropLast = p := of_decide_eq_true h2
  rw [← e2]
  exact drop_last (ok.ne e h1)
theorem kid_in {E : List (Names × Bool)} {p : Names} {nm : List Nat} {fo : Bool} (h : (p ++ [nm], fo) ∈ E) : (p ++ [nm], fo) ∈ E.filter (inF p) := List.mem_filter.mpr ⟨h, decide_eq_true (by simp)⟩
theorem kidN_mem {E : List (Names × Bool)} (ok : EOk E) {p : Names} {nm : List Nat} : nm ∈ kidN E p ↔ ∃ fo, (p ++ [nm], fo) ∈ E := by
  unfold kidN
  rw [List.mem_map]
  constructor
  · rintro ⟨e, he, rfl⟩
    obtain ⟨h1, h2⟩ := kid_of ok he
    exact ⟨e.2, by rw [← h2]; exact h1⟩
  · rintro ⟨fo, h⟩
    exact ⟨_, kid_in h, last_app⟩
theorem e_uniq {E : List (Names × Bool)} (ok : EOk E) {p : Names} {a b : Bool} (h : (p, a) ∈ E) (g : (p, b) ∈ E) : a = b := by
  have key : ∀ {E : List (Names × Bool)}, (E.map (·.1)).Nodup → (p, a) ∈ E → (p, b) ∈ E → a = b := by
    intro E
    induction E with
    | nil => exact fun _ h => nomatch h
    | cons x r ih =>
      intro nd h g
      have nd' := List.nodup_cons.mp nd
      rcases List.mem_cons.mp h with e1 | h
      · rcases List.mem_cons.mp g with e2 | g
        · exact (Prod.mk.inj (e1.trans e2.symm)).2
        · exact absurd (List.mem_map.mpr ⟨_, g, by rw [← e1]⟩) nd'.1
      · rcases List.mem_cons.mp g with e2 | g
        · exact absurd (List.mem_map.mpr ⟨_, h, by rw [← e2]⟩) nd'.1
        · exact ih nd'.2 h g
  exact key ok.nd h g
theorem kids_keys {E : List (Names × Bool)} {al : Names → Addr} {p : Names} : (kids E al p).map (·.1) = (kidN E p).map fun nm => (Sum.inr (S nm) : Key) := by
  unfold kids kidN
  rw [List.map_map, List.map_map]
  rfl
theorem kidN_nd {E : List (Names × Bool)} (ok : EOk E) {p : Names} : (kidN E p).Nodup := by
  have h1 : (E.filter (inF p)).map (·.1) = (kidN E p).map fun nm => p ++ [nm] := by
    unfold kidN
    rw [List.map_map]
    exact List.map_congr_left fun e he => (kid_of ok he).2
  have h2 : ((E.filter (inF p)).map (·.1)).Nodup := ok.nd.sublist ((List.filter_sublist (l := E)).map _)
  rw [h1] at h2
  exact (List.pairwise_map.mp h2).imp fun {a b} h e => h (by rw [e])
/-- what stands at a name of a folder -/
theorem kid_val {E : List (Names × Bool)} (ok : EOk E) {al : Names → Addr} {p : Names} {nm : List Nat} {fo : Bool} (h : (p ++ [nm], fo) ∈ E) : valV (kids E al p) (.inr (S nm)) = some (if fo = true then .ref (al (p ++ [nm])) else .non) := by
  have hk : (Sum.inr (S nm) : Key) ∈ (kids E al p).map (·.1) := by
    rw [kids_keys]
    exact List.mem_map.mpr ⟨nm, (kidN_mem ok).mpr ⟨fo, h⟩, rfl⟩
  cases e : valV (kids E al p) (.inr (S nm) : Key) with
  | none => exact absurd hk (valV_not e)
  | some v =>
    have hm := valV_pair e
    unfold kids at hm
    obtain ⟨x, hx, ex⟩ := List.mem_map.mp hm
    obtain ⟨h1, h2⟩ := kid_of ok hx
    unfold kidE at ex
    have e1 : x.1.getLastD [] = nm := S_inj (Sum.inr.inj (Prod.mk.inj ex).1)
    rw [e1] at h2
    have e3 : x.2 = fo := e_uniq ok (p := p ++ [nm]) (by rw [← h2]; exact h1) h
    rw [← (Prod.mk.inj ex).2, h2, e3]
theorem kid_no {E : List (Names × Bool)} (ok : EOk E) {al : Names → Addr} {p : Names} {nm : List Nat} (h : ∀ fo, (p ++ [nm], fo) ∉ E) : valV (kids E al p) (.inr (S nm)) = none := by
  cases e : valV (kids E al p) (.inr (S nm) : Key) with
  | none => rfl
  | some v =>
    have hm := valV_in e
    rw [kids_keys, List.mem_map] at hm
    obtain ⟨x, hx, ex⟩ := hm
    have e1 : x = nm := S_inj (Sum.inr.inj ex)
    subst e1
    obtain ⟨fo, h'⟩ := (kidN_mem ok).mp hx
    exact absurd h' (h fo)
/-- the paths within a folder, names rising, a folder ahead of what is in it -/
def pathsE (E : List (Names × Bool)) : Nat → Names → List Nat → List (List Nat)
  | 0, _, _ => []
  | n + 1, p, ahead => (srtW (kidN E p)).flatMap fun nm => if (p ++ [nm], true) ∈ E then (ahead ++ nm ++ [47]) :: pathsE E n (p ++ [nm]) (ahead ++ nm ++ [47]) else [ahead ++ nm]
/-! how many there are -/
def preB (p q : Names) : Bool := p.isPrefixOf q
theorem cntP_one {E : List (Names × Bool)} {p : Names} : ∀ {L : List (List Nat)}, L.Nodup → (L.map fun nm => E.countP fun e => preB (p ++ [nm]) e.1).sum ≤ E.countP fun e => preB p e.1 && decide (p.length < e.1.length) := by
  induction E with
  | nil =>
    intro L _
    have : ∀ L : List (List Nat), (L.map fun nm => ([] : List (Names × Bool)).countP fun e => preB (p ++ [nm]) e.1).sum = 0 := by
      intro L
      induction L with
      | nil => rfl
      | cons a r ih => rw [List.map_cons, List.sum_cons, ih]; rfl
    rw [this]
    exact Nat.zero_le _
  | cons x E ih =>
    intro L nd
    have h1 := ih nd
    have key : ∀ {L : List (List Nat)}, L.Nodup → (L.map fun nm => (x :: E).countP fun e => preB (p ++ [nm]) e.1).sum ≤ (L.map fun nm => E.countP fun e => preB (p ++ [nm]) e.1).sum + (if (preB p x.1 && decide (p.length < x.1.length)) = true then 1 else 0) ∧
        ((∀ nm ∈ L, preB (p ++ [nm]) x.1 = false) → (L.map fun nm => (x :: E).countP fun e => preB (p ++ [nm]) e.1).sum = (L.map fun nm => E.countP fun e => preB (p ++ [nm]) e.1).sum) := by
      intro L
      induction L with
      | nil => exact fun _ => ⟨Nat.zero_le _, fun _ => rfl⟩
      | cons a r ih2 =>
        intro nd
        have nd' := List.nodup_cons.mp nd
        obtain ⟨i1, i2⟩ := ih2 nd'.2
        rw [List.map_cons, List.map_cons, List.sum_cons, List.sum_cons, List.countP_cons]
        constructor
        · cases ha : preB (p ++ [a]) x.1 with
          | false => rw [if_neg Bool.false_ne_true]; omega
          | true =>
            have hp : ∃ t, x.1 = p ++ a :: t := by
              obtain ⟨t, e⟩ := List.isPrefixOf_iff_prefix.mp ha
              exact ⟨t, by rw [← e]; simp⟩
            obtain ⟨t, ht⟩ := hp
            have hs : (preB p x.1 && decide (p.length < x.1.length)) = true := by
              rw [Bool.and_eq_true]
              refine ⟨List.isPrefixOf_iff_prefix.mpr ⟨a :: t, ht.symm⟩, decide_eq_true ?_⟩
              rw [ht, List.length_append, List.length_cons]
              omega
            have hr : ∀ nm ∈ r, preB (p ++ [nm]) x.1 = false := fun nm hm => by
              cases hb : preB (p ++ [nm]) x.1 with
              | false => rfl
              | true =>
                obtain ⟨t2, e2⟩ := List.isPrefixOf_iff_prefix.mp hb
                rw [ht, List.append_assoc] at e2
                have e3 := List.append_cancel_left e2
                cases e3
                exact absurd hm nd'.1
            rw [if_pos rfl, if_pos hs, i2 hr]
            omega
        · intro hno
          rw [hno a List.mem_cons_self, if_neg Bool.false_ne_true, i2 fun nm hm => hno nm (List.mem_cons_of_mem _ hm), Nat.add_zero]
    have k := (key nd).1
    rw [List.countP_cons]
    omega
theorem sum_le {α : Type} {f g : α → Nat} : ∀ {l : List α}, (∀ x ∈ l, f x ≤ g x) → (l.map f).sum ≤ (l.map g).sum
  | [], _ => Nat.le_refl _
  | x :: r, h => by
    have a := h x List.mem_cons_self
    have b := sum_le (l := r) fun y hy => h y (List.mem_cons_of_mem _ hy)
    rw [List.map_cons, List.map_cons, List.sum_cons, List.sum_cons]
    omega
theorem paths_cnt {E : List (Names × Bool)} (ok : EOk E) : ∀ (n : Nat) (p : Names) (ahead : List Nat), (pathsE E n p ahead).length ≤ E.countP fun e => preB p e.1 && decide (p.length < e.1.length)
  | 0, _, _ => Nat.zero_le _
  | n + 1, p, ahead => by
    have nd : (srtW (kidN E p)).Nodup := (srt_perm _).nodup_iff.mpr (kidN_nd ok)
    refine Nat.le_trans ?_ (cntP_one nd)
    show (List.flatMap _ _).length ≤ _
    rw [List.length_flatMap]
    refine sum_le fun nm hm => ?_
    obtain ⟨fo, hin⟩ := (kidN_mem ok).mp ((srt_perm _).mem_iff.mp hm)
    have pre0 : preB (p ++ [nm]) (p ++ [nm]) = true := List.isPrefixOf_iff_prefix.mpr (List.prefix_refl _)
    split
    · have ih := paths_cnt ok n (p ++ [nm]) (ahead ++ nm ++ [47])
      rw [List.length_cons]
      have key : ∀ E : List (Names × Bool), (p ++ [nm], fo) ∈ E → (E.countP fun e => preB (p ++ [nm]) e.1 && decide ((p ++ [nm]).length < e.1.length)) + 1 ≤ E.countP fun e => preB (p ++ [nm]) e.1 := by
        intro E
        induction E with
        | nil => exact fun h => nomatch h
        | cons x r ih =>
          intro h
          rw [List.countP_cons, List.countP_cons]
          have mono : (r.countP fun e => preB (p ++ [nm]) e.1 && decide ((p ++ [nm]).length < e.1.length)) ≤ r.countP fun e => preB (p ++ [nm]) e.1 :=
            List.countP_mono_left fun e _ h => (Bool.and_eq_true _ _ ▸ h).1
          rcases List.mem_cons.mp h with e | h
          · rw [← e, if_neg, if_pos pre0]
            · omega
            · rw [pre0, Bool.true_and, decide_eq_true_eq]
              exact Nat.lt_irrefl _
          · have i := ih h
            split
            · rename_i hx
              rw [if_pos (Bool.and_eq_true _ _ ▸ hx).1]
              omega
            · split <;> omega
      have := key E hin
      omega
    · exact List.countP_pos_iff.mpr ⟨_, hin, pre0⟩
theorem paths_len {E : List (Names × Bool)} (ok : EOk E) (n : Nat) (p : Names) (ahead : List Nat) : (pathsE E n p ahead).length ≤ E.length := Nat.le_trans (paths_cnt ok n p ahead) List.countP_le_length
/-! ### the paths within a folder, by the program and by the law -/
def spPW (K : PySem.W.Frag) (n : Nat) : Sp := fun vs H Q _ => ∃ E al p ahead, vs = [.ref (al p), .str (S ahead)] ∧ TreeE E al H ∧ Fold E p ∧ p.length + n = 10 ∧ E.length ≤ 1000 ∧ (∀ p, (kidN E p).length ≤ 60) ∧ ahead.length ≤ p.length * 1001 ∧
  ∀ F H', Same H H' → H F = none → H' F = some (.lst (nmsV (pathsE E n p ahead))) → Q (.ref F) H'
theorem treeE_sorted {E : List (Names × Bool)} {p : Names} {ys : List Str} (h : ys.Perm ((kidN E p).map S)) (s : sortedS ys = true) : ys.map V.str = nmsV (srtW (kidN E p)) := by
  rw [sorted_is h s]
  rfl
theorem flat_take {α β : Type} {f : α → List β} {l : List α} {k : Nat} {x : α} (h : l[k]? = some x) : (l.take (k + 1)).flatMap f = (l.take k).flatMap f ++ f x := by
  rw [List.take_succ, h, List.flatMap_append]
  simp
theorem flat_take_len {α β : Type} {f : α → List β} {l : List α} {k : Nat} : ((l.take k).flatMap f).length ≤ (l.flatMap f).length := by
  have e : l.flatMap f = (l.take k).flatMap f ++ (l.drop k).flatMap f := by rw [← List.flatMap_append, List.take_append_drop]
  rw [e, List.length_append]
  omega
theorem ok_paths_within (T : Txt K mg) : ∀ n, OkD P w K mg base (n + 2) (fA K "paths_within") ["tree", "ahead"] [] (spPW K n)
  | 0 => by
    refine okD T.F_paths_within sc_paths_within (fun _ _ _ _ _ _ us hl => match us, hl with | [_, _], _ => rfl) ?_ ?_
    · rintro vs H Q E ⟨E, al, p, ahead, rfl, _⟩
      rfl
    · rintro cdv A outer s H vs Q E hr ⟨E, al, p, ahead, rfl, ht, hp, hn, _⟩
      have hd : p.length ≤ 9 := by
        rcases hp with rfl | hp
        · exact Nat.zero_le _
        · exact ht.ok.deep _ hp
      omega
  | n + 1 => by
    have ih := ok_paths_within T n
    refine okD T.F_paths_within sc_paths_within (fun _ _ _ _ _ _ us hl => match us, hl with | [_, _], _ => rfl) ?_ ?_
    · rintro vs H Q E ⟨E, al, p, ahead, rfl, _⟩
      rfl
    · rintro cdv A outer s H vs Q X hr ⟨E, al, p, ahead, rfl, ht, hp, hn, hl, hk, ha, q⟩
      refine ⟨_, (pss_cons (ps_set (i := 2) sc_paths_within.nd rfl (Or.inl rfl) (pe_lst pa_nil))
  (pss_cons (ps_mid (ps_for (passes_of rfl) rfl (pi_mid (o_it (K := K) rfl (pe_callB (call_sortedD rfl) (by rfl) T.fr_sorted (by decide +kernel) (pa_cons (pv 0) pa_nil)))) (pg_name (i := 3) sc_paths_within.nd rfl (Or.inl rfl)) (pss_one (ps_if (pt_mid (pt_cmp (pc_isN (pe_dget (hu_of hr) (pv 0) (pv 3) (fun _ _ => rfl))) rfl)) (pss_one (ps_expr (pe_bmK (K := K) PySem.F.plainAttrs_list PySem.F.slot_list_append PySem.F.type_list_append mt_append (pv 2) (pa_cons (pe_mid (pe_op (o_add (K := K)) (pv 1) (pv 3))) pa_nil)))) (pss_cons (ps_expr (pe_bmK (K := K) PySem.F.plainAttrs_list PySem.F.slot_list_append PySem.F.type_list_append mt_append (pv 2) (pa_cons (pe_mid (pe_op (o_add (K := K)) (pe_op (o_add (K := K)) (pv 1) (pv 3)) pe_str)) pa_nil)))
  (pss_one (ps_aug (i := 2) sc_paths_within.nd rfl (Or.inl rfl) (pe_cal ih (hr.mono (by omega)) rfl T.g_paths_within (pasE (takes_of rfl rfl rfl rfl) (fun _ _ _ _ h => h)) (pa_cons (pe_dget (hu_of hr) (pv 0) (pv 3) (fun _ _ => rfl)) (pa_cons (pe_op (o_add (K := K)) (pe_op (o_add (K := K)) (pv 1) (pv 3)) pe_str) pa_nil))) o_iadd)))))))
  (pss_one (ps_ret (pv 2))))), ?_⟩
      have tobj := T.obj
      refine q_new fun F hF => ?_
      have sF := same_new (o := .lst []) hF
      have hd := ht.at_ p hp
      have hs := kids_keys (E := E) (al := al) (p := p)
      have hkn := (srt_perm (kidN E p)).length_eq
      have hk1 := hk p
      have ok := ht.ok
      have pl : p.length ≤ 9 := by
        rcases hp with rfl | hp
        · exact Nat.zero_le _
        · exact ok.deep _ hp
      have al1 : ahead.length ≤ 9009 := by
        have : p.length * 1001 ≤ 9 * 1001 := Nat.mul_le_mul_right _ pl
        omega
      let f : List Nat → List (List Nat) := fun nm => if (p ++ [nm], true) ∈ E then (ahead ++ nm ++ [47]) :: pathsE E n (p ++ [nm]) (ahead ++ nm ++ [47]) else [ahead ++ nm]
      have ef : pathsE E (n + 1) p ahead = (srtW (kidN E p)).flatMap f := rfl
      have tot : ((srtW (kidN E p)).flatMap f).length ≤ 1000 := by
        rw [← ef]
        exact Nat.le_trans (paths_len ok _ _ _) hl
      refine q_stm (fun σ H' => Same H H' ∧ ∃ x, σ = [some (.ref (al p)), some (.str (S ahead)), some (.ref F), x] ∧ H' F = some (.lst (nmsV (pathsE E (n + 1) p ahead)))) ?_ ?_
      · refine for_open (fun J H1 => ∃ L, J = Itl K L ∧ Same (upd H F (.lst [])) H1 ∧ H1 L = some (.lst (nmsV (srtW (kidN E p)))) ∧ upd H F (.lst []) L = none) ?_ ?_
        · walk_at "rd"
          refine ⟨_, .inl (sF _ _ hd), (kidN E p).map S, by rw [hs, List.map_map]; rfl, by rw [List.length_map]; omega, fun ys L hy hs' hL => ?_⟩
          rw [treeE_sorted hy hs']
          exact .inl ⟨⟨_, .inl (.inl upd_same)⟩, L, rfl, same_new hL, upd_same, hL⟩
        rintro _ H1 ⟨L, rfl, s1, hL, hLn⟩
        have nLF : L ≠ F := fun e => by rw [e, upd_same] at hLn; cases hLn
        have hLn0 : H L = none := by rw [upd_ne nLF] at hLn; exact hLn
        refine for_mid (J0 := Itl K L) (H0 := H1) ⟨rfl, rfl⟩ (walk_list (K := K) (a := L) (xs := nmsV (srtW (kidN E p)))) (fun k σ H' => Same H H' ∧ H' L = some (.lst (nmsV (srtW (kidN E p)))) ∧ ∃ x, σ = [some (.ref (al p)), some (.str (S ahead)), some (.ref F), x] ∧ H' F = some (.lst (nmsV (((srtW (kidN E p)).take k).flatMap f))))
          ⟨sF.trans s1, hL, _, rfl, s1 _ _ upd_same⟩ (fun _ _ _ _ h => .inl (.inl h.2.1)) ?_ (fun σ H' h => ?_)
        · rintro k x σ H2 H2' hk2 ⟨s2, hL2, x3, rfl, hF2⟩ ⟨rfl, hx⟩
          obtain ⟨nm, hnm, rfl⟩ := nms_at hx
          obtain ⟨fo, hin⟩ := (kidN_mem ok).mp ((srt_perm _).mem_iff.mp (List.mem_of_getElem? hnm))
          have okn := ok.nm _ hin nm (by simp)
          have hd2 := s2 _ _ hd
          have hv := kid_val ok (al := al) hin
          have stp := flat_take (f := f) hnm
          have tl := flat_take_len (f := f) (l := srtW (kidN E p)) (k := k)
          have tl1 := flat_take_len (f := f) (l := srtW (kidN E p)) (k := k + 1)
          have nlen := okn.2.1
          refine l_if (fun b H' => H' = H2' ∧ b = !fo) ?_ (fun H3 h => ?_) (fun H3 h => ?_)
          · walk_at "rd"
            refine ⟨_, dget_s hd2 hv, ?_⟩
            cases fo <;> rfl
          · obtain ⟨rfl, hb⟩ := h
            have hfo : fo = false := by cases fo with | false => rfl | true => cases hb
            subst hfo
            have hno : (p ++ [nm], true) ∉ E := fun z => by cases e_uniq ok hin z
            refine l_app (xs := nmsV (((srtW (kidN E p)).take k).flatMap f)) rfl hF2 ?_
            walk_at "rd"
            rw [S_cat]
            have ef1 : f nm = [ahead ++ nm] := if_neg hno
            rw [ef1] at stp
            refine ⟨by rw [S_len, S_len]; omega, _, hF2, by rw [nms_len]; omega, same_mut s2 hF, by rw [upd_ne nLF]; exact hL2, ?_⟩
            rw [upd_same, stp]
            simp [nmsV]
          · obtain ⟨rfl, hb⟩ := h
            have hfo : fo = true := by cases fo with | true => rfl | false => cases hb
            subst hfo
            refine q_app (xs := nmsV (((srtW (kidN E p)).take k).flatMap f)) rfl hF2 ?_
            walk_at "rd"
            rw [S_cat, show Str.ofString "/" = S [47] from rfl, S_cat]
            have ef1 : f nm = (ahead ++ nm ++ [47]) :: pathsE E n (p ++ [nm]) (ahead ++ nm ++ [47]) := if_pos hin
            rw [ef1] at stp
            have hd3 : upd H3 F (.lst (nmsV (((srtW (kidN E p)).take k).flatMap f) ++ [V.str (S (ahead ++ nm ++ [47]))])) (al p) = some (.dK (kids E al p)) := by
              rw [upd_ne fun e => by rw [e, hF2] at hd2; cases hd2]
              exact hd2
            have s3 : Same H (upd H3 F (.lst (nmsV (((srtW (kidN E p)).take k).flatMap f) ++ [V.str (S (ahead ++ nm ++ [47]))]))) := same_mut s2 hF
            refine ⟨by rw [S_len, S_len]; omega, by rw [S_len, S_len, List.length_append]; simp only [List.length_singleton]; omega, _, hF2, by rw [nms_len]; omega, _, dget_s hd3 hv, by rw [S_len, S_len]; omega, by rw [S_len, S_len, List.length_append]; simp only [List.length_singleton]; omega, ?_⟩
            refine ⟨E, al, p ++ [nm], ahead ++ nm ++ [47], rfl, ht.mono s3, .inr hin, by rw [List.length_append, List.length_singleton]; omega, hl, hk, ?_, fun G H4 s4 hG hG4 => ?_⟩
            · simp only [List.length_append, List.length_singleton, Nat.add_mul]
              omega
            have hF4 : H4 F = some (.lst (nmsV (((srtW (kidN E p)).take k).flatMap f) ++ [V.str (S (ahead ++ nm ++ [47]))])) := s4 _ _ upd_same
            have hL4 : H4 L = some (.lst (nmsV (srtW (kidN E p)))) := s4 _ _ (by rw [upd_ne nLF]; exact hL2)
            refine ⟨F, G, _, _, rfl, rfl, hF4, hG4, ?_, same_mut (s3.trans s4) hF, by rw [upd_ne nLF]; exact hL4, rfl, ?_⟩
            · have := congrArg List.length stp
              rw [List.length_append, List.length_cons] at this
              rw [List.length_append, nms_len, nms_len, List.length_singleton, sizeLine_eq]
              omega
            · rw [upd_same, stp]
              simp [nmsV]
        · obtain ⟨s2, _, x, e, hF2⟩ := h
          rw [List.take_of_length_le (by rw [nms_len]; exact Nat.le_refl _)] at hF2
          exact ⟨s2, x, e, hF2⟩
      rintro σ H1 ⟨s1, x, rfl, hF1⟩
      walk_at "rd"
      exact q F H1 s1 hF hF1
theorem ok__law_paths (T : Txt K mg) : ∀ n, OkD P w K mg base (n + 2) (fA K "_law_paths") ["_law_tree", "_law_ahead"] [] (spPW K n)
  | 0 => by
    refine okD T.F__law_paths sc__law_paths (fun _ _ _ _ _ _ us hl => match us, hl with | [_, _], _ => rfl) ?_ ?_
    · rintro vs H Q E ⟨E, al, p, ahead, rfl, _⟩
      rfl
    · rintro cdv A outer s H vs Q E hr ⟨E, al, p, ahead, rfl, ht, hp, hn, _⟩
      have hd : p.length ≤ 9 := by
        rcases hp with rfl | hp
        · exact Nat.zero_le _
        · exact ht.ok.deep _ hp
      omega
  | n + 1 => by
    have ih := ok__law_paths T n
    refine okD T.F__law_paths sc__law_paths (fun _ _ _ _ _ _ us hl => match us, hl with | [_, _], _ => rfl) ?_ ?_
    · rintro vs H Q E ⟨E, al, p, ahead, rfl, _⟩
      rfl
    · rintro cdv A outer s H vs Q X hr ⟨E, al, p, ahead, rfl, ht, hp, hn, hl, hk, ha, q⟩
      refine ⟨_, (pss_cons (ps_set (i := 2) sc__law_paths.nd rfl (Or.inl rfl) (pe_lst pa_nil))
  (pss_cons (ps_mid (ps_for (passes_of rfl) rfl (pi_mid (o_it (K := K) rfl (pe_callB (call_sortedD rfl) (by rfl) T.fr_sorted (by decide +kernel) (pa_cons (pv 0) pa_nil)))) (pg_name (i := 3) sc__law_paths.nd rfl (Or.inl rfl)) (pss_cons (ps_set (i := 4) sc__law_paths.nd rfl (Or.inl rfl) (pe_mid (pe_dget (hu_of hr) (pv 0) (pv 3) (fun _ _ => rfl))))
  (pss_cons (ps_expr (pe_bmK (K := K) PySem.F.plainAttrs_list PySem.F.slot_list_append PySem.F.type_list_append mt_append (pv 2) (pa_cons (pe_mid (pe_op (o_add (K := K)) (pe_op (o_add (K := K)) (pv 1) (pv 3)) (pe_mid (pe_op o_mulStr pe_str (pe_callTy o_int (by rfl) T.fr_int (by decide +kernel) (pa_cons (pe_cmp (pc_notN (pv 4)) rfl) pa_nil)))))) pa_nil)))
  (pss_one (ps_mid (ps_if (pt_mid (pt_cmp (pc_notN (pv 4)) rfl)) (pss_one (ps_set (i := 2) sc__law_paths.nd rfl (Or.inl rfl) (pe_op (o_add (K := K)) (pv 2) (pe_cal ih (hr.mono (by omega)) rfl T.g__law_paths (pasE (takes_of rfl rfl rfl rfl) (fun _ _ _ _ h => h)) (pa_cons (pv 4) (pa_cons (pe_op (o_add (K := K)) (pe_op (o_add (K := K)) (pv 1) (pv 3)) pe_str) pa_nil)))))) pss_nil)))))))
  (pss_one (ps_ret (pv 2))))), ?_⟩
      have tobj := T.obj
      refine q_new fun F hF => ?_
      have sF := same_new (o := .lst []) hF
      have hd := ht.at_ p hp
      have hs := kids_keys (E := E) (al := al) (p := p)
      have hkn := (srt_perm (kidN E p)).length_eq
      have hk1 := hk p
      have ok := ht.ok
      have pl : p.length ≤ 9 := by
        rcases hp with rfl | hp
        · exact Nat.zero_le _
        · exact ok.deep _ hp
      have al1 : ahead.length ≤ 9009 := by
        have : p.length * 1001 ≤ 9 * 1001 := Nat.mul_le_mul_right _ pl
        omega
      let f : List Nat → List (List Nat) := fun nm => if (p ++ [nm], true) ∈ E then (ahead ++ nm ++ [47]) :: pathsE E n (p ++ [nm]) (ahead ++ nm ++ [47]) else [ahead ++ nm]
      have ef : pathsE E (n + 1) p ahead = (srtW (kidN E p)).flatMap f := rfl
      have tot : ((srtW (kidN E p)).flatMap f).length ≤ 1000 := by
        rw [← ef]
        exact Nat.le_trans (paths_len ok _ _ _) hl
      refine q_stm (fun σ H' => Same H H' ∧ ∃ F x y, H F = none ∧ σ = [some (.ref (al p)), some (.str (S ahead)), some (.ref F), x, y] ∧ H' F = some (.lst (nmsV (pathsE E (n + 1) p ahead)))) ?_ ?_
      · refine for_open (fun J H1 => ∃ L, J = Itl K L ∧ Same (upd H F (.lst [])) H1 ∧ H1 L = some (.lst (nmsV (srtW (kidN E p)))) ∧ upd H F (.lst []) L = none) ?_ ?_
        · walk_at "rd"
          refine ⟨_, .inl (sF _ _ hd), (kidN E p).map S, by rw [hs, List.map_map]; rfl, by rw [List.length_map]; omega, fun ys L hy hs' hL => ?_⟩
          rw [treeE_sorted hy hs']
          exact .inl ⟨⟨_, .inl (.inl upd_same)⟩, L, rfl, same_new hL, upd_same, hL⟩
        rintro _ H1 ⟨L, rfl, s1, hL, hLn⟩
        have nLF : L ≠ F := fun e => by rw [e, upd_same] at hLn; cases hLn
        refine for_mid (J0 := Itl K L) (H0 := H1) ⟨rfl, rfl⟩ (walk_list (K := K) (a := L) (xs := nmsV (srtW (kidN E p)))) (fun k σ H' => Same H H' ∧ H' L = some (.lst (nmsV (srtW (kidN E p)))) ∧ ∃ F x y, H F = none ∧ L ≠ F ∧ σ = [some (.ref (al p)), some (.str (S ahead)), some (.ref F), x, y] ∧ H' F = some (.lst (nmsV (((srtW (kidN E p)).take k).flatMap f))))
          ⟨sF.trans s1, hL, F, _, _, hF, nLF, rfl, s1 _ _ upd_same⟩ (fun _ _ _ _ h => .inl (.inl h.2.1)) ?_ (fun σ H' h => ?_)
        · clear nLF sF hF s1 hLn
          rintro k x σ H2 H2' hk2 ⟨s2, hL2, F, x3, x4, hF, nLF, rfl, hF2⟩ ⟨rfl, hx⟩
          obtain ⟨nm, hnm, rfl⟩ := nms_at hx
          obtain ⟨fo, hin⟩ := (kidN_mem ok).mp ((srt_perm _).mem_iff.mp (List.mem_of_getElem? hnm))
          have okn := ok.nm _ hin nm (by simp)
          have hd2 := s2 _ _ hd
          have hv := kid_val ok (al := al) hin
          have stp := flat_take (f := f) hnm
          have tl := flat_take_len (f := f) (l := srtW (kidN E p)) (k := k)
          have tl1 := flat_take_len (f := f) (l := srtW (kidN E p)) (k := k + 1)
          have nlen := okn.2.1
          refine q_midG (fun v H' => H' = H2' ∧ v = if fo = true then .ref (al (p ++ [nm])) else .non) ?_ ?_
          · walk_at "rd"
            exact ⟨_, dget_s hd2 hv, rfl⟩
          rintro _ _ ⟨rfl, rfl⟩
          rename_i H2'
          refine q_app (xs := nmsV (((srtW (kidN E p)).take k).flatMap f)) rfl hF2 ?_
          have stp1 : (S ahead).length + (S nm).length ≤ 16777216 := by rw [S_len, S_len]; omega
          walk_at "rd"
          refine ⟨stp1, ?_⟩
          rw [S_cat]
          refine mid_of (fun v H' => H' = H2' ∧ v = .str (S (if fo = true then [47] else []))) ?_ ?_
          · walk_at "rd"
            cases fo
            · walk_at "rd"
              exact ⟨_, _, rfl, rfl, by decide, by decide, by decide, rfl, by decide +kernel⟩
            · walk_at "rd"
              exact ⟨_, _, rfl, rfl, by decide, by decide, by decide, rfl, by decide +kernel⟩
          rintro _ _ ⟨rfl, rfl⟩
          rename_i H2'
          refine ⟨by rw [S_len, S_len]; simp only [List.length_append]; split <;> simp <;> omega, _, hF2, by rw [nms_len]; omega, ?_⟩
          rw [S_cat]
          have nFt : al p ≠ F := fun e => by rw [← e, hd] at hF; cases hF
          generalize hH3 : upd H2' F (.lst (nmsV (((srtW (kidN E p)).take k).flatMap f) ++ [V.str (S (ahead ++ nm ++ if fo = true then [47] else []))])) = H3
          have s3 : Same H H3 := by rw [← hH3]; exact same_mut s2 hF
          have hF3 : H3 F = some (.lst (nmsV (((srtW (kidN E p)).take k).flatMap f) ++ [V.str (S (ahead ++ nm ++ if fo = true then [47] else []))])) := by rw [← hH3, upd_same]
          have hL3 : H3 L = some (.lst (nmsV (srtW (kidN E p)))) := by rw [← hH3, upd_ne nLF]; exact hL2
          refine ⟨_, ?_, fun _ _ h => h, fun _ _ h => h, fun _ _ h => h, fun _ _ h => h⟩
          refine l_if (fun b H' => H' = H3 ∧ b = fo) ?_ (fun H4 h => ?_) (fun H4 h => ?_)
          · walk_at "rd"
            cases fo <;> rfl
          · obtain ⟨rfl, hb⟩ := h
            subst hb
            have ef1 : f nm = (ahead ++ nm ++ [47]) :: pathsE E n (p ++ [nm]) (ahead ++ nm ++ [47]) := if_pos hin
            rw [ef1] at stp
            walk_at "rd"
            rw [S_cat, show Str.ofString "/" = S [47] from rfl, S_cat]
            refine ⟨by rw [S_len, S_len]; omega, by rw [S_len, S_len, List.length_append]; simp only [List.length_singleton]; omega, ?_⟩
            refine ⟨E, al, p ++ [nm], ahead ++ nm ++ [47], rfl, ht.mono s3, .inr hin, by rw [List.length_append, List.length_singleton]; omega, hl, hk, ?_, fun G H5 s5 hG hG5 => ?_⟩
            · simp only [List.length_append, List.length_singleton, Nat.add_mul]
              omega
            refine .inl ⟨_, s5 _ _ hF3, _, hG5, ?_, fun p2 hp2 => ⟨(s3.trans s5).trans (same_new hp2), (same_new hp2) _ _ (s5 _ _ hL3), p2, same_none (s3.trans s5) hp2, fun e => ?_, rfl, ?_⟩⟩
            · have := congrArg List.length stp
              rw [List.length_append, List.length_cons] at this
              rw [List.length_append, nms_len, nms_len, List.length_singleton]
              omega
            · rw [← e, s5 _ _ hL3] at hp2; cases hp2
            · rw [upd_same, stp, if_pos rfl]
              simp [nmsV]
          · obtain ⟨rfl, hb⟩ := h
            subst hb
            have hno : (p ++ [nm], true) ∉ E := fun z => by cases e_uniq ok hin z
            have ef1 : f nm = [ahead ++ nm] := if_neg hno
            rw [ef1] at stp
            refine ⟨s3, hL3, F, hF, nLF, ⟨_, _, rfl⟩, ?_⟩
            rw [hF3, stp, if_neg Bool.false_ne_true, List.append_nil]
            simp [nmsV]
        · obtain ⟨s2, _, F, x, y, hF, _, e, hF2⟩ := h
          rw [List.take_of_length_le (by rw [nms_len]; exact Nat.le_refl _)] at hF2
          exact ⟨s2, F, x, y, hF, e, hF2⟩
      rintro σ H1 ⟨s1, F, x, y, hF, rfl, hF1⟩
      walk_at "rd"
      exact q F H1 s1 hF hF1
def spPathsOf (K : PySem.W.Frag) : Sp := fun vs H Q _ => ∃ E al, vs = [.ref (al [])] ∧ TreeE E al H ∧ E.length ≤ 1000 ∧ (∀ p, (kidN E p).length ≤ 60) ∧ ∀ F H', Same H H' → H F = none → H' F = some (.lst (nmsV (srtW (pathsE E 10 [] [])))) → Q (.ref F) H'
theorem ok_paths_of (T : Txt K mg) : OkD P w K mg base 13 (fA K "paths_of") ["tree"] [] (spPathsOf K) := by
  refine okD T.F_paths_of sc_paths_of (fun _ _ _ _ _ _ us hl => match us, hl with | [_], _ => rfl) ?_ ?_
  · rintro vs H Q E ⟨E, al, rfl, _⟩
    rfl
  · rintro cdv A outer s H vs Q X hr ⟨E, al, rfl, ht, hl, hk, q⟩
    refine ⟨_, (pss_one (ps_ret (pe_callB (o_sortedA (K := K)) (by rfl) T.fr_sorted (by decide +kernel) (pa_cons (pe_cal (ok_paths_within T 10) (hr.mono (by omega)) rfl T.g_paths_within (pasE (takes_of rfl rfl rfl rfl) (fun _ _ _ _ h => h)) (pa_cons (pv 0) (pa_cons pe_str pa_nil))) pa_nil)))), ?_⟩
    have tobj := T.obj
    walk_at "rd"
    refine ⟨E, al, [], [], rfl, ht, .inl rfl, rfl, hl, hk, Nat.zero_le _, fun F H' s hF hF' => ?_⟩
    exact ⟨_, .inl (.inl hF'), fun p hp => q p _ (s.trans (same_new hp)) (same_none s hp) upd_same⟩

/-! ### a tree that grows -/
theorem kids_congr {E : List (Names × Bool)} {al al' : Names → Addr} {q : Names} (h : ∀ e ∈ E, e.2 = true → al e.1 = al' e.1) : kids E al q = kids E al' q := by
  unfold kids
  refine List.map_congr_left fun e he => ?_
  have hm := (List.mem_filter.mp he).1
  unfold kidE
  cases hb : e.2 with
  | false => rfl
  | true => rw [h e hm hb]
theorem kids_snoc {E : List (Names × Bool)} {e : Names × Bool} {al : Names → Addr} {q : Names} : kids (E ++ [e]) al q = kids E al q ++ (if e.1.dropLast = q then [kidE al e] else []) := by
  unfold kids
  rw [List.filter_append, List.map_append]
  congr 1
  unfold inF
  by_cases h : e.1.dropLast = q <;> simp [h]
theorem kidN_snoc {E : List (Names × Bool)} {e : Names × Bool} {q : Names} : kidN (E ++ [e]) q = kidN E q ++ (if e.1.dropLast = q then [e.1.getLastD []] else []) := by
  unfold kidN
  rw [List.filter_append, List.map_append]
  congr 1
  unfold inF
  by_cases h : e.1.dropLast = q <;> simp [h]
theorem Fold.more {E E' : List (Names × Bool)} {p : Names} (h : Fold E p) (s : ∀ e ∈ E, e ∈ E') : Fold E' p := h.imp id (s _)
theorem ok_snoc {E : List (Names × Bool)} (ok : EOk E) {p : Names} {nm : List Nat} {fo : Bool} (hp : Fold E p) (hno : ∀ fo, (p ++ [nm], fo) ∉ E) (okp : ∀ x ∈ p, NmOk x) (okn : NmOk nm) (hl : p.length < 9) : EOk (E ++ [(p ++ [nm], fo)]) := by
  have hm : ∀ e ∈ E ++ [(p ++ [nm], fo)], e ∈ E ∨ e = (p ++ [nm], fo) := fun e he => (List.mem_append.mp he).imp id List.mem_singleton.mp
  refine ⟨?_, fun e he => ?_, fun e he => ?_, fun e he => ?_, fun e he => ?_⟩
  · rw [List.map_append]
    refine nd_snoc ok.nd fun h => ?_
    obtain ⟨e, he, e1⟩ := List.mem_map.mp h
    exact hno e.2 (by rw [← show e.1 = p ++ [nm] from e1]; exact he)
  · rcases hm e he with h | rfl
    · exact ok.ne e h
    · simp
  · rcases hm e he with h | rfl
    · exact (ok.up e h).imp id fun h => List.mem_append_left _ h
    · rw [show (p ++ [nm], fo).1.dropLast = p from List.dropLast_concat]
      exact hp.imp id fun h => List.mem_append_left _ h
  · rcases hm e he with h | rfl
    · exact ok.nm e h
    · intro x hx
      exact (List.mem_append.mp hx).elim (okp x) fun h => by rw [List.mem_singleton.mp h]; exact okn
  · rcases hm e he with h | rfl
    · exact ok.deep e h
    · show (p ++ [nm]).length ≤ 9
      rw [List.length_append, List.length_singleton]
      exact hl
theorem fold_snoc {E : List (Names × Bool)} {e : Names × Bool} {q : Names} (h : Fold (E ++ [e]) q) : Fold E q ∨ (q = e.1 ∧ e.2 = true) := by
  rcases h with rfl | h
  · exact .inl (.inl rfl)
  · rcases List.mem_append.mp h with h | h
    · exact .inl (.inr h)
    · have := List.mem_singleton.mp h
      exact .inr ⟨by rw [← this], by rw [← this]⟩
theorem tree_leaf {E : List (Names × Bool)} {al : Names → Addr} {H : Hp} {p : Names} {nm : List Nat} (t : TreeE E al H) (hp : Fold E p) (hno : ∀ fo, (p ++ [nm], fo) ∉ E) (okp : ∀ x ∈ p, NmOk x) (okn : NmOk nm) (hl : p.length < 9) :
    TreeE (E ++ [(p ++ [nm], false)]) al (upd H (al p) (.dK (putK (kids E al p) (.inr (S nm)) .non))) := by
  have fo : ∀ q, Fold (E ++ [(p ++ [nm], false)]) q → Fold E q := fun q h => (fold_snoc h).elim id fun h => nomatch h.2
  refine ⟨ok_snoc t.ok hp hno okp okn hl, fun q hq => ?_, fun a b ha hb => t.inj a b (fo a ha) (fo b hb)⟩
  have hq' := fo q hq
  by_cases e : q = p
  · subst e
    rw [upd_same, putK_new _ (kid_no t.ok hno), kids_snoc, if_pos (by simp)]
    unfold kidE
    rw [last_app]
    rfl
  · rw [upd_ne fun z => e (t.inj q p hq' hp z), t.at_ q hq', kids_snoc, if_neg (by simpa using fun z => e z.symm), List.append_nil]
def upA (al : Names → Addr) (p : Names) (D : Addr) : Names → Addr := fun q => if q = p then D else al q
theorem tree_dir {E : List (Names × Bool)} {al : Names → Addr} {H : Hp} {p : Names} {nm : List Nat} {D : Addr} (t : TreeE E al H) (hp : Fold E p) (hno : ∀ fo, (p ++ [nm], fo) ∉ E) (okp : ∀ x ∈ p, NmOk x) (okn : NmOk nm) (hl : p.length < 9) (hD : H D = none) :
    TreeE (E ++ [(p ++ [nm], true)]) (upA al (p ++ [nm]) D) (upd (upd H D (.dK [])) (al p) (.dK (putK (kids E al p) (.inr (S nm)) (.ref D)))) := by
  have nF : ∀ q, Fold E q → q ≠ p ++ [nm] := fun q h e => by
    subst e
    rcases h with h | h
    · simp at h
    · exact hno _ h
  have aD : ∀ q, Fold E q → al q ≠ D := fun q h e => by
    have := t.at_ q h
    rw [e, hD] at this
    cases this
  have old : ∀ q, Fold E q → upA al (p ++ [nm]) D q = al q := fun q h => if_neg (nF q h)
  have new : upA al (p ++ [nm]) D (p ++ [nm]) = D := if_pos rfl
  have cg : ∀ q, kids E (upA al (p ++ [nm]) D) q = kids E al q := fun q => kids_congr fun e he hb => old e.1 (.inr (by rw [← hb]; exact he))
  refine ⟨ok_snoc t.ok hp hno okp okn hl, fun q hq => ?_, fun a b ha hb e => ?_⟩
  · rcases fold_snoc hq with h | ⟨h, _⟩
    · rw [old q h, kids_snoc, cg]
      by_cases e : q = p
      · subst e
        rw [upd_same, putK_new _ (kid_no t.ok hno), if_pos (by simp)]
        unfold kidE
        rw [last_app]
        show _ = some (HO.dK (kids E al q ++ [(Sum.inr (S nm), if true = true then V.ref (upA al (q ++ [nm]) D (q ++ [nm])) else V.non)]))
        rw [new, if_pos rfl]
      · rw [upd_ne fun z => e (t.inj q p h hp z), upd_ne (aD q h), t.at_ q h, if_neg (by simpa using fun z => e z.symm), List.append_nil]
    · have h' : q = p ++ [nm] := h
      subst h'
      rw [new, upd_ne (fun e => aD p hp e.symm), upd_same, kids_snoc, cg, if_neg (by
        rw [show (p ++ [nm], true).1.dropLast = p from List.dropLast_concat]
        exact fun e => by have := congrArg List.length e; simp at this), List.append_nil]
      have : kids E al (p ++ [nm]) = [] := by
        unfold kids
        rw [List.map_eq_nil_iff, List.filter_eq_nil_iff]
        intro e he hb
        have e1 := of_decide_eq_true hb
        rcases t.ok.up e he with h | h
        · rw [e1] at h; simp at h
        · rw [e1] at h; exact hno _ h
      rw [this]
  · rcases fold_snoc ha with h | ⟨h, _⟩
    · rcases fold_snoc hb with g | ⟨g, _⟩
      · rw [old a h, old b g] at e
        exact t.inj a b h g e
      · have g' : b = p ++ [nm] := g
        rw [old a h, g', new] at e
        exact absurd e (aD a h)
    · have h' : a = p ++ [nm] := h
      rcases fold_snoc hb with g | ⟨g, _⟩
      · rw [old b g, h', new] at e
        exact absurd e.symm (aD b g)
      · exact h.trans g.symm
/-- what stands ahead of an entry is a folder -/
theorem up_all {E : List (Names × Bool)} (ok : EOk E) : ∀ (t p : Names) {b : Bool}, p ≠ [] → t ≠ [] → (p ++ t, b) ∈ E → (p, true) ∈ E := by
  intro t
  induction h : t.length using Nat.strongRecOn generalizing t with
  | _ n ih =>
    intro p b hp ht he
    have e := drop_last ht
    have hu := ok.up _ he
    rw [show (p ++ t, b).1.dropLast = p ++ t.dropLast from by rw [e, ← List.append_assoc]; simp] at hu
    rcases hu with hu | hu
    · simp at hu
      exact absurd hu.1 hp
    · by_cases h0 : t.dropLast = []
      · rw [h0, List.append_nil] at hu
        exact hu
      · refine ih t.dropLast.length (by rw [List.length_dropLast]; have := List.length_pos_iff.mpr ht; omega) _ rfl p hp h0 hu
theorem up_take {E : List (Names × Bool)} (ok : EOk E) {q : Names} {b : Bool} {i : Nat} (h : (q, b) ∈ E) (h0 : 0 < i) (hi : i < q.length) : (q.take i, true) ∈ E := by
  refine up_all ok (q.drop i) (q.take i) (b := b) (fun e => ?_) (fun e => ?_) (by rw [List.take_append_drop]; exact h)
  · have := congrArg List.length e
    rw [List.length_take, List.length_nil] at this
    omega
  · have := congrArg List.length e
    rw [List.length_drop, List.length_nil] at this
    omega
/-- a path may come -/
def OkPut (E : List (Names × Bool)) (nms : Names) (fo : Bool) : Prop := (∀ i, 0 < i → i < nms.length → (nms.take i, false) ∉ E) ∧ (nms, !fo) ∉ E
structure Grow (E E' : List (Names × Bool)) (nms : Names) (k : Nat) : Prop where
  sub : ∀ e ∈ E, e ∈ E'
  new : ∀ e ∈ E', e ∈ E ∨ ∃ i, 0 < i ∧ i ≤ k ∧ e.1 = nms.take i ∧ (i < nms.length → e.2 = true)
  len : E'.length ≤ E.length + k
  kid : ∀ p, (kidN E' p).length ≤ (kidN E p).length + if p.length < k then 1 else 0
def NewT (H0 : Hp) (E : List (Names × Bool)) (al : Names → Addr) : Prop := ∀ p, Fold E p → H0 (al p) = none
theorem Grow.refl {E : List (Names × Bool)} {nms : Names} : Grow E E nms 0 := ⟨fun _ h => h, fun _ h => .inl h, Nat.le_refl _, fun p => Nat.le_add_right _ _⟩
theorem Grow.same {E E' : List (Names × Bool)} {nms : Names} {k : Nat} (g : Grow E E' nms k) : Grow E E' nms (k + 1) :=
  ⟨g.sub, fun e he => (g.new e he).imp id fun ⟨i, a, b, c⟩ => ⟨i, a, by omega, c⟩, by have := g.len; omega, fun p => by have := g.kid p; split at this <;> split <;> omega⟩
theorem Grow.snoc {E E' : List (Names × Bool)} {nms : Names} {k : Nat} {nm : List Nat} {fo : Bool} (g : Grow E E' nms k) (hk : nms[k]? = some nm) (hf : k + 1 < nms.length → fo = true) : Grow E (E' ++ [(nms.take k ++ [nm], fo)]) nms (k + 1) := by
  have tk : nms.take (k + 1) = nms.take k ++ [nm] := by rw [List.take_succ, hk]; rfl
  have hl : k < nms.length := (List.getElem?_eq_some_iff.mp hk).1
  refine ⟨fun e he => List.mem_append_left _ (g.sub e he), fun e he => ?_, by rw [List.length_append, List.length_singleton]; have := g.len; omega, fun p => ?_⟩
  · rcases List.mem_append.mp he with h | h
    · exact (g.new e h).imp id fun ⟨i, a, b, c⟩ => ⟨i, a, by omega, c⟩
    · rw [List.mem_singleton.mp h]
      exact .inr ⟨k + 1, by omega, Nat.le_refl _, tk.symm, hf⟩
  · have h := g.kid p
    rw [kidN_snoc, List.length_append]
    by_cases e : nms.take k = p
    · rw [if_pos (by simpa using e)]
      have lp : p.length = k := by rw [← e, List.length_take]; omega
      rw [if_neg (by omega)] at h
      rw [if_pos (by omega)]
      simp only [List.length_singleton]
      omega
    · rw [if_neg (by simpa using e)]
      split at h <;> split <;> simp only [List.length_nil] <;> omega
def spFree (K : PySem.W.Frag) : Sp := fun vs H Q _ => ∃ E al n fo nms, vs = [.ref (al []), .ref n, .bl fo] ∧ TreeE E al H ∧ SqL K H n (nmsV nms) ∧ nms ≠ [] ∧ nms.length ≤ 9 ∧ (∀ x ∈ nms, NmOk x) ∧ ∀ b H', Same H H' → (b = true → OkPut E nms fo) → Q (.bl b) H'
theorem ok__law_free (T : Txt K mg) : OkD P w K mg base 1 (fA K "_law_free") ["_law_root", "_law_names_here", "_law_folder"] [] (spFree K) := by
  refine okD T.F__law_free sc__law_free (fun _ _ _ _ _ _ us hl => match us, hl with | [_, _, _], _ => rfl) ?_ ?_
  · rintro vs H Q E ⟨E, al, n, fo, nms, rfl, _⟩
    rfl
  · rintro cdv A outer s H vs Q X hr ⟨E, al, n, fo, nms, rfl, ht, hn, hne, hl, hnm, q⟩
    refine ⟨_, (pss_cons (ps_set (i := 3) sc__law_free.nd rfl (Or.inl rfl) (pe_mid (pv 0)))
  (pss_cons (ps_mid (ps_for (passes_of rfl) rfl (pi_mid (o_enum (K := K) rfl T.fr_enumerate (pv 1))) (pg_tup rfl (pgs_cons (pg_name (i := 4) sc__law_free.nd rfl (Or.inl rfl)) (pgs_cons (pg_name (i := 5) sc__law_free.nd rfl (Or.inl rfl)) pgs_nil))) (pss_cons (ps_set (i := 6) sc__law_free.nd rfl (Or.inl rfl) (pe_mid (pe_cmpR (o_eq (K := K) (hu64 hr)) (pe_op (o_add (K := K)) (pv 4) pe_int) (pe_callB (o_lenW (K := K) (w := w)) (by rfl) T.fr_len boot_len (pa_cons (pv 1) pa_nil)) (nomark _))))
  (pss_cons (ps_if (pt_mid (pt_cmp (pc_dnotin (hu_of hr) (pv 5) (pv 3)) rfl)) (pss_one (ps_ret pe_bl)) pss_nil)
  (pss_cons (ps_if (pt_mid (PW.pt (pw_or (pt_tru (K := K) (pv 6) (by intro _; rfl)) (pw_or1 (pt_cmp (pc_isN (pe_dget (hu_of hr) (pv 3) (pv 5) (fun _ _ => rfl))) rfl))))) (pss_one (ps_ret (pe_andK (K := K) (pv 6) (pe_one (pe_cmpR (o_ne (K := K) (hu64 hr)) (pe_cmp (pc_isN (pe_dget (hu_of hr) (pv 3) (pv 5) (fun _ _ => rfl))) rfl) (pv 2) (nomark _)))))) pss_nil)
  (pss_one (ps_set (i := 3) sc__law_free.nd rfl (Or.inl rfl) (pe_mid (pe_dget (hu_of hr) (pv 3) (pv 5) (fun _ _ => rfl))))))))))
  (pss_one (ps_ret pe_bl)))), ?_⟩
    have tobj := T.obj
    have ok := ht.ok
    refine q_midG (fun v H' => v = .ref (al []) ∧ H' = H) (by walk_at "rd") ?_
    rintro _ _ ⟨rfl, rfl⟩
    rename_i H
    refine q_stm (fun σ H' => False) ?_ (fun _ _ h => h.elim)
    refine for_pair (J0 := Ite K n) (H0 := H) ?_ (walk_enum (K := K) (a := n) (xs := nmsV nms)) (fun k σ H' => Same H H' ∧ k < nms.length ∧ Fold E (nms.take k) ∧ ∃ x4 x5 x6, σ = [some (.ref (al [])), some (.ref n), some (.bl fo), some (.ref (al (nms.take k))), x4, x5, x6])
      ⟨Same.refl _, List.length_pos_iff.mpr hne, .inl rfl, _, _, _, rfl⟩ (fun _ _ _ _ h => same_l h.1 hn) ?_ (fun σ H' h => ?_)
    · walk_at "rd"
      exact ⟨_, hn⟩
    · rintro k x y σ H1 H2 hk ⟨s1, hkl, hf, x4, x5, x6, rfl⟩ s2 hx hy
      obtain rfl : x = .int (k : Nat) := (Option.some.inj hx).symm
      obtain ⟨nm, hnm1, rfl⟩ := nms_at hy
      have tk : nms.take (k + 1) = nms.take k ++ [nm] := by rw [List.take_succ, hnm1]; rfl
      have s12 := s1.trans s2
      have hd := s12 _ _ (ht.at_ _ hf)
      have ahead : ∀ i, 0 < i → i ≤ k → (nms.take i, true) ∈ E := fun i h0 hi => by
        rcases hf with h | h
        · have := congrArg List.length h
          rw [List.length_take, List.length_nil] at this
          omega
        · rcases Nat.lt_or_ge i k with h1 | h1
          · have := up_take ok h h0 (by rw [List.length_take]; omega)
            rwa [List.take_take, Nat.min_eq_left (by omega)] at this
          · rw [show i = k from by omega]; exact h
      refine q_midG (fun v H' => Same H2 H' ∧ v = .bl (decide (k + 1 = nms.length))) ?_ ?_
      · walk_at "rd"
        refine .inr ⟨_, .inl ⟨_, same_l s12 hn, rfl⟩, ?_⟩
        rw [nms_len]
        exact decide_eq_decide.mpr ⟨fun h => by omega, fun h => by omega⟩
      rintro _ H3 ⟨s3, rfl⟩
      have hd3 := s3 _ _ hd
      refine q_if (fun b H' => H' = H3 ∧ (b = true → ∀ fo, (nms.take k ++ [nm], fo) ∉ E) ∧ (b = false → ∃ fo, (nms.take k ++ [nm], fo) ∈ E)) ?_ (fun H4 h => ?_) fun H4 h => q_next ?_
      · walk_at "rd"
        by_cases he : ∃ fo, (nms.take k ++ [nm], fo) ∈ E
        · obtain ⟨fo', he⟩ := he
          exact ⟨_, dget_s hd3 (kid_val ok he), (fun z => nomatch z), fun _ => ⟨fo', he⟩⟩
        · have hno : ∀ fo, (nms.take k ++ [nm], fo) ∉ E := fun fo h => he ⟨fo, h⟩
          have g := DGet.k (k := .inr (S nm)) hd3
          rw [kid_no ok hno] at g
          exact ⟨_, g, fun _ => hno, fun z => nomatch z⟩
      · obtain ⟨rfl, hb, _⟩ := h
        have hno := hb rfl
        walk_at "rd"
        refine q _ _ (s12.trans s3) fun _ => ⟨fun i h0 hi he => ?_, fun he => ?_⟩
        · rcases Nat.lt_or_ge k i with h | h
          · rcases Nat.eq_or_lt_of_le h with e | h2
            · rw [← e, tk] at he
              exact hno _ he
            · have := up_take ok he (i := k + 1) (by omega) (by rw [List.length_take]; omega)
              rw [List.take_take, Nat.min_eq_left (by omega), tk] at this
              exact hno _ this
          · have := e_uniq ok he (ahead i h0 h)
            cases this
        · rcases Nat.eq_or_lt_of_le hkl with e | h2
          · rw [← List.take_of_length_le (l := nms) (i := k + 1) (by omega), tk] at he
            exact hno _ he
          · have := up_take ok he (i := k + 1) (by omega) h2
            rw [tk] at this
            exact hno _ this
      obtain ⟨rfl, _, hb⟩ := h
      obtain ⟨fo', he⟩ := hb rfl
      have hv := kid_val ok (al := al) he
      refine q_if (fun b H' => H' = H4 ∧ b = (decide (k + 1 = nms.length) || !fo')) ?_ (fun H5 h => ?_) fun H5 h => q_next ?_
      · walk_at "rd"
        split
        · rename_i e
          rw [decide_eq_true e]
          rfl
        · rename_i e
          rw [decide_eq_false e]
          refine ⟨_, dget_s hd3 hv, ?_⟩
          cases fo' <;> rfl
      · obtain ⟨rfl, hb⟩ := h
        walk_at "rd"
        split
        · rename_i e
          have en : nms = nms.take k ++ [nm] := by rw [← tk, List.take_of_length_le (by omega)]
          refine ⟨_, dget_s hd3 hv, q _ _ (s12.trans s3) fun h => ⟨fun i h0 hi he' => ?_, fun he' => ?_⟩⟩
          · have := e_uniq ok he' (ahead i h0 (by omega))
            cases this
          · rw [en] at he'
            have := e_uniq ok he he'
            subst this
            cases fo <;> simp at h
        · rename_i e
          rw [decide_eq_false e]
          exact q _ _ (s12.trans s3) fun h => nomatch h
      obtain ⟨rfl, hb⟩ := h
      have hfo : fo' = true := by cases fo' with | true => rfl | false => simp at hb
      have hlt : k + 1 < nms.length := by
        have : ¬ k + 1 = nms.length := fun e => by rw [decide_eq_true e] at hb; simp at hb
        omega
      subst hfo
      refine l_midG (fun v H' => H' = H5 ∧ v = .ref (al (nms.take k ++ [nm]))) ?_ ?_
      · walk_at "rd"
        exact ⟨_, dget_s hd3 hv, rfl⟩
      rintro _ _ ⟨rfl, rfl⟩
      rw [tk]
      exact ⟨s12.trans s3, hlt, .inr he, _, _, _, rfl⟩
    · exact absurd h.2.1 (by rw [nms_len]; exact Nat.lt_irrefl _)
def spPut (K : PySem.W.Frag) : Sp := fun vs H Q _ => ∃ H0 E al n fo nms, vs = [.ref (al []), .ref n, .bl fo] ∧ Same H0 H ∧ NewT H0 E al ∧ TreeE E al H ∧ H n = some (.lst (nmsV nms)) ∧ nms ≠ [] ∧ nms.length ≤ 9 ∧ (∀ x ∈ nms, NmOk x) ∧ OkPut E nms fo ∧ (∀ p, (kidN E p).length ≤ 1000) ∧
  ∀ E' al' H', Same H0 H' → NewT H0 E' al' → TreeE E' al' H' → al' [] = al [] → Grow E E' nms nms.length → (nms, fo) ∈ E' → Q .non H'
theorem NewT.leaf {H0 : Hp} {E : List (Names × Bool)} {al : Names → Addr} {q : Names} (h : NewT H0 E al) : NewT H0 (E ++ [(q, false)]) al := fun p hp => (fold_snoc hp).elim (h p) fun z => nomatch z.2
theorem NewT.dir {H0 : Hp} {E : List (Names × Bool)} {al : Names → Addr} {q : Names} {D : Addr} (h : NewT H0 E al) (hD : H0 D = none) : NewT H0 (E ++ [(q, true)]) (upA al q D) := fun p hp => by
  unfold upA
  split
  · exact hD
  · rename_i e
    exact (fold_snoc hp).elim (h p) fun z => absurd z.1 e
theorem ok__law_put_in (T : Txt K mg) : OkD P w K mg base 1 (fA K "_law_put_in") ["_law_root", "_law_names_here", "_law_folder"] [] (spPut K) := by
  refine okD T.F__law_put_in sc__law_put_in (fun _ _ _ _ _ _ us hl => match us, hl with | [_, _, _], _ => rfl) ?_ ?_
  · rintro vs H Q E ⟨H0, E, al, n, fo, nms, rfl, _⟩
    rfl
  · rintro cdv A outer s H vs Q X hr ⟨H0, E, al, n, fo, nms, rfl, s0, hnew, ht, hn, hne, hl, hnm, hput, hkid, q⟩
    refine ⟨_, (pss_cons (ps_set (i := 3) sc__law_put_in.nd rfl (Or.inl rfl) (pe_mid (pv 0)))
  (pss_cons (ps_mid (ps_for (passes_of rfl) rfl (pi_mid (o_it (K := K) rfl (pe_slice (o_sl (K := K)) (pv 1) po_none (po_some (pe_un un_neg pe_int))))) (pg_name (i := 4) sc__law_put_in.nd rfl (Or.inl rfl)) (pss_cons (ps_mid (ps_if (pt_mid (pt_cmp (pc_dnotin (hu_of hr) (pv 4) (pv 3)) rfl)) (pss_one (ps_dput (hu_of hr) (pv 3) (pv 4) pe_dnewK rfl)) pss_nil))
  (pss_one (ps_set (i := 3) sc__law_put_in.nd rfl (Or.inl rfl) (pe_mid (pe_dget (hu_of hr) (pv 3) (pv 4) (fun _ _ => rfl))))))))
  (pss_one (ps_if (pt_mid (pt_cmp (pc_dnotin (hu_of hr) (pe_ix (o_ix (K := K)) (pv 1) (pe_un un_neg pe_int) (fun _ _ => rfl)) (pv 3)) rfl)) (pss_one (ps_dput (hu_of hr) (pv 3) (pe_ix (o_ix (K := K)) (pv 1) (pe_un un_neg pe_int) (fun _ _ => rfl)) (pe_ifExp (pt_tru (K := K) (pv 2) (by intro _; rfl)) pe_dnewK pe_non) rfl)) pss_nil)))), ?_⟩
    have tobj := T.obj
    have hlen := List.length_pos_iff.mpr hne
    refine q_midG (fun v H' => v = .ref (al []) ∧ H' = H) (by walk_at "rd") ?_
    rintro _ _ ⟨rfl, rfl⟩
    rename_i H
    refine q_stm (fun σ H' => Same H0 H' ∧ H' n = some (.lst (nmsV nms)) ∧ ∃ E' al' x4, σ = [some (.ref (al [])), some (.ref n), some (.bl fo), some (.ref (al' (nms.take (nms.length - 1)))), x4] ∧ NewT H0 E' al' ∧ TreeE E' al' H' ∧ al' [] = al [] ∧ Fold E' (nms.take (nms.length - 1)) ∧ Grow E E' nms (nms.length - 1)) ?_ ?_
    · refine for_open (fun J H1 => ∃ L, J = Itl K L ∧ H L = none ∧ H1 = upd H L (.lst (nmsV (nms.take (nms.length - 1))))) ?_ ?_
      · walk_at "rd"
        refine .inl ⟨_, .inl (.inl hn), fun L hL => .inl ⟨⟨_, .inl (.inl upd_same)⟩, L, rfl, hL, ?_⟩⟩
        have e : cutV (nmsV nms) none (some (-1)) = nmsV (nms.take (nms.length - 1)) := by
          unfold cutV
          have e : HT.sIx (nmsV nms).length (nmsV nms).length (some (-1)) = nms.length - 1 := by
            rw [nms_len]
            unfold HT.sIx
            simp
            omega
          rw [HT.sIx_none, e, List.drop_zero, Nat.sub_zero, nms_take]
        rw [e]
      rintro _ _ ⟨L, rfl, hLn, rfl⟩
      have nL : L ≠ n := fun e => by rw [e, hn] at hLn; cases hLn
      have sL : Same H (upd H L (.lst (nmsV (nms.take (nms.length - 1))))) := same_new hLn
      refine for_mid (J0 := Itl K L) (H0 := upd H L (.lst (nmsV (nms.take (nms.length - 1))))) ⟨rfl, rfl⟩ (walk_list (K := K) (a := L) (xs := nmsV (nms.take (nms.length - 1)))) (fun k σ H' => Same H0 H' ∧ H' n = some (.lst (nmsV nms)) ∧ H' L = some (.lst (nmsV (nms.take (nms.length - 1)))) ∧ ∃ E' al' x4, σ = [some (.ref (al [])), some (.ref n), some (.bl fo), some (.ref (al' (nms.take k))), x4] ∧ NewT H0 E' al' ∧ TreeE E' al' H' ∧ al' [] = al [] ∧ Fold E' (nms.take k) ∧ Grow E E' nms k)
        ⟨s0.trans sL, sL _ _ hn, upd_same, E, al, _, rfl, hnew, ht.mono sL, rfl, .inl rfl, .refl⟩ (fun _ _ _ _ h => .inl (.inl h.2.2.1)) ?_ (fun σ H' h => ?_)
      · rintro k x σ H1 H1' hk ⟨s1, hn1, hL1, E', al', x4, rfl, new1, t1, e1, f1, g1⟩ ⟨rfl, hx⟩
        obtain ⟨nm, hnm0, rfl⟩ := nms_at hx
        have hk1 : k + 1 < nms.length := by
          rw [nms_len, List.length_take] at hk
          omega
        have hnm1 : nms[k]? = some nm := by rwa [List.getElem?_take_of_lt (by omega)] at hnm0
        have tk : nms.take (k + 1) = nms.take k ++ [nm] := by rw [List.take_succ, hnm1]; rfl
        have okp : ∀ x ∈ nms.take k, NmOk x := fun x h => hnm x (List.mem_of_mem_take h)
        have okn : NmOk nm := hnm nm (List.mem_of_getElem? hnm1)
        have hd := t1.at_ _ f1
        have ok := t1.ok
        have lk : (nms.take k).length < 9 := by rw [List.length_take]; omega
        have kl : (kids E' al' (nms.take k)).length ≤ 1001 := by
          have h1 := congrArg List.length (kids_keys (E := E') (al := al') (p := nms.take k))
          rw [List.length_map, List.length_map] at h1
          have h2 := g1.kid (nms.take k)
          have h3 := hkid (nms.take k)
          split at h2 <;> omega
        refine q_stm (fun σ H' => Same H0 H' ∧ H' n = some (.lst (nmsV nms)) ∧ H' L = some (.lst (nmsV (nms.take (nms.length - 1)))) ∧ ∃ E' al', σ = [some (.ref (al [])), some (.ref n), some (.bl fo), some (.ref (al' (nms.take k))), some (.str (S nm))] ∧ NewT H0 E' al' ∧ TreeE E' al' H' ∧ al' [] = al [] ∧ Fold E' (nms.take k) ∧ (nms.take k ++ [nm], true) ∈ E' ∧ Grow E E' nms (k + 1)) ?_ ?_
        · refine l_if (fun b H' => H' = H1' ∧ (b = true → ∀ fo, (nms.take k ++ [nm], fo) ∉ E') ∧ (b = false → ∃ fo, (nms.take k ++ [nm], fo) ∈ E')) ?_ (fun H2 h => ?_) fun H2 h => ?_
          · walk_at "rd"
            by_cases he : ∃ fo, (nms.take k ++ [nm], fo) ∈ E'
            · obtain ⟨fo', he⟩ := he
              exact ⟨_, dget_s hd (kid_val ok he), (fun z => nomatch z), fun _ => ⟨fo', he⟩⟩
            · have hno : ∀ fo, (nms.take k ++ [nm], fo) ∉ E' := fun fo h => he ⟨fo, h⟩
              have g := DGet.k (k := .inr (S nm)) hd
              rw [kid_no ok hno] at g
              exact ⟨_, g, fun _ => hno, fun z => nomatch z⟩
          · obtain ⟨rfl, hb, _⟩ := h
            have hno := hb rfl
            walk_at "rd"
            intro D hD
            have hD0 := same_none s1 hD
            have h2 : upd H2 D (.dK []) (al' (nms.take k)) = some (.dK (kids E' al' (nms.take k))) := by
              rw [upd_ne fun e => by rw [e, hD] at hd; cases hd]
              exact hd
            have nn : ∀ {a : Addr} {l : List V}, H2 a = some (.lst l) → upd (upd H2 D (.dK [])) (al' (nms.take k)) (.dK (putK (kids E' al' (nms.take k)) (.inr (S nm)) (.ref D))) a = some (.lst l) := fun {a l} h => by
              rw [upd_ne (fun e => by rw [e, hd] at h; cases h), upd_ne (fun e => by rw [e, hD] at h; cases h)]
              exact h
            have old : upA al' (nms.take k ++ [nm]) D (nms.take k) = al' (nms.take k) := if_neg fun e => by have := congrArg List.length e; simp at this
            refine ⟨_, dput_s h2 (by omega), same_mut (same_mut s1 hD0) (new1 _ f1), nn hn1, nn hL1, _, upA al' (nms.take k ++ [nm]) D, old.symm, new1.dir hD0, tree_dir t1 f1 hno okp okn lk hD, ?_, f1.more fun e he => List.mem_append_left _ he, by simp, g1.snoc hnm1 fun _ => rfl⟩
            rw [← e1]
            exact if_neg fun e => by simp at e
          · obtain ⟨rfl, _, hb⟩ := h
            obtain ⟨fo', he⟩ := hb rfl
            have hfo : fo' = true := by
              rcases g1.new _ he with h | ⟨i, _, hi, e, _⟩
              · cases fo' with
                | true => rfl
                | false => rw [← tk] at h; exact absurd h (hput.1 (k + 1) (by omega) hk1)
              · have := congrArg List.length e
                rw [List.length_append, List.length_take, List.length_take, List.length_singleton] at this
                omega
            subst hfo
            exact ⟨s1, hn1, hL1, E', al', rfl, new1, t1, e1, f1, he, g1.same⟩
        rintro σ H2 ⟨s2, hn2, hL2, E2, al2, rfl, new2, t2, e2, f2, he2, g2⟩
        refine l_midG (fun v H' => H' = H2 ∧ v = .ref (al2 (nms.take k ++ [nm]))) ?_ ?_
        · walk_at "rd"
          exact ⟨_, dget_s (t2.at_ _ f2) (kid_val t2.ok he2), rfl⟩
        rintro _ _ ⟨rfl, rfl⟩
        rw [tk]
        exact ⟨s2, hn2, hL2, E2, al2, _, rfl, new2, t2, e2, .inr he2, g2⟩
      · obtain ⟨s1, hn1, hL1, E', al', x4, rfl, new1, t1, e1, f1, g1⟩ := h
        rw [nms_len, List.length_take, Nat.min_eq_left (Nat.sub_le _ _)] at f1 g1
        rw [nms_len, List.length_take, Nat.min_eq_left (Nat.sub_le _ _)]
        exact ⟨s1, hn1, E', al', x4, rfl, new1, t1, e1, f1, g1⟩
    rintro σ H1 ⟨s1, hn1, E', al', x4, rfl, new1, t1, e1, f1, g1⟩
    have el : nms = nms.take (nms.length - 1) ++ [nms.getLastD []] := by
      conv => lhs; rw [drop_last hne]
      rw [List.dropLast_eq_take]
    generalize hlst : nms.getLastD [] = nm at el
    have hlast : nms[nms.length - 1]? = some nm := by
      rw [← List.getLast?_eq_getElem?, congrArg List.getLast? el]
      simp
    have hat : atI (nmsV nms) (-1) = some (V.str (S nm)) := atI_last (by
      unfold nmsV
      rw [List.getLast?_map, List.getLast?_map, List.getLast?_eq_getElem?, hlast]
      rfl)
    have okp : ∀ x ∈ nms.take (nms.length - 1), NmOk x := fun x h => hnm x (List.mem_of_mem_take h)
    have okn : NmOk nm := hnm nm (List.mem_of_getElem? hlast)
    have hd := t1.at_ _ f1
    have ok := t1.ok
    have lk : (nms.take (nms.length - 1)).length < 9 := by rw [List.length_take]; omega
    have kl : (kids E' al' (nms.take (nms.length - 1))).length ≤ 1001 := by
      have h1 := congrArg List.length (kids_keys (E := E') (al := al') (p := nms.take (nms.length - 1)))
      rw [List.length_map, List.length_map] at h1
      have h2 := g1.kid (nms.take (nms.length - 1))
      have h3 := hkid (nms.take (nms.length - 1))
      split at h2 <;> omega
    have tk : nms.take (nms.length - 1) ++ [nm] = nms := el.symm
    have g2 : ∀ fo', Grow E (E' ++ [(nms.take (nms.length - 1) ++ [nm], fo')]) nms nms.length := fun fo' => by
      have := g1.snoc (fo := fo') hlast (by omega)
      rwa [Nat.sub_add_cancel hlen] at this
    refine l_if (fun b H' => H' = H1 ∧ (b = true → ∀ fo, (nms.take (nms.length - 1) ++ [nm], fo) ∉ E') ∧ (b = false → ∃ fo, (nms.take (nms.length - 1) ++ [nm], fo) ∈ E')) ?_ (fun H2 h => ?_) fun H2 h => ?_
    · walk_at "rd"
      refine ⟨_, .inl (.inl (.inl hn1)), _, hat, ?_⟩
      by_cases he : ∃ fo, (nms.take (nms.length - 1) ++ [nm], fo) ∈ E'
      · obtain ⟨fo', he⟩ := he
        exact ⟨_, dget_s hd (kid_val ok he), (fun z => nomatch z), fun _ => ⟨fo', he⟩⟩
      · have hno : ∀ fo, (nms.take (nms.length - 1) ++ [nm], fo) ∉ E' := fun fo h => he ⟨fo, h⟩
        have g := DGet.k (k := .inr (S nm)) hd
        rw [kid_no ok hno] at g
        exact ⟨_, g, fun _ => hno, fun z => nomatch z⟩
    · obtain ⟨rfl, hb, _⟩ := h
      have hno := hb rfl
      walk_at "rd"
      split
      · rename_i hfo
        subst hfo
        intro D hD
        have hD0 := same_none s1 hD
        have hn2 : upd H2 D (.dK []) n = some (.lst (nmsV nms)) := by
          rw [upd_ne (fun e => by rw [← e, hn1] at hD; cases hD)]
          exact hn1
        have h2 : upd H2 D (.dK []) (al' (nms.take (nms.length - 1))) = some (.dK (kids E' al' (nms.take (nms.length - 1)))) := by
          rw [upd_ne fun e => by rw [e, hD] at hd; cases hd]
          exact hd
        refine ⟨_, .inl (.inl (.inl hn2)), _, hat, _, dput_s h2 (by omega), ?_⟩
        refine q _ (upA al' (nms.take (nms.length - 1) ++ [nm]) D) _ (same_mut (same_mut s1 hD0) (new1 _ f1)) (new1.dir hD0) (tree_dir t1 f1 hno okp okn lk hD) ?_ (g2 true) (by rw [tk]; simp)
        rw [← e1]
        exact if_neg fun e => by simp at e
      · rename_i hfo
        have hfo : fo = false := by simpa using hfo
        subst hfo
        refine ⟨_, .inl (.inl (.inl hn1)), _, hat, _, dput_s hd (by omega), ?_⟩
        exact q _ al' _ (same_mut s1 (new1 _ f1)) new1.leaf (tree_leaf t1 f1 hno okp okn lk) e1 (g2 false) (by rw [tk]; simp)
    · obtain ⟨rfl, _, hb⟩ := h
      obtain ⟨fo', he⟩ := hb rfl
      have hfo : fo' = fo := by
        rcases g1.new _ he with h | ⟨i, _, hi, e, _⟩
        · rw [tk] at h
          have := hput.2
          cases fo <;> cases fo' <;> first | rfl | exact absurd h this
        · have := congrArg List.length (tk.symm.trans e)
          rw [List.length_take] at this
          omega
      subst hfo
      refine q E' al' _ s1 new1 t1 e1 ?_ (by rw [← tk]; exact he)
      have := g1.same
      rwa [Nat.sub_add_cancel hlen] at this
theorem tree_nil {H : Hp} {D : Addr} (h : H D = some (.dK [])) : TreeE [] (fun _ => D) H := by
  refine ⟨⟨.nil, (fun _ h => nomatch h), (fun _ h => nomatch h), (fun _ h => nomatch h), fun _ h => nomatch h⟩, fun p hp => ?_, fun a b ha hb _ => ?_⟩
  · rcases hp with rfl | hp
    · exact h
    · cases hp
  · rcases ha with rfl | ha
    · rcases hb with rfl | hb
      · rfl
      · cases hb
    · cases ha

/-! ### trees drawn -/
/-! ### what every law here promises -/
def spLaw (K : PySem.W.Frag) : Sp := fun vs H Q _ => ∃ a, ∃ ns : List Int, vs = [.ref a] ∧ SqL K H a (ns.map V.int) ∧ ns.length ≤ 63 ∧ ∀ H', Q (.bl true) H'
theorem law_len {vs : List V} {H : Hp} {Q : VK} {E : XK} (h : spLaw K vs H Q E) : vs.length = ["_law_script"].length := by
  obtain ⟨a, ns, rfl, _⟩ := h
  rfl
theorem law_sp {a : Addr} {ns : List Int} {H : Hp} (hs : SqL K H a (ns.map V.int)) (hl : ns.length ≤ 63) (hb : ∀ z ∈ ns, Builtin.Int.intBits z ≤ 1048576) : spLaw K [.ref a] H (fun v _ => v = .bl true) fun _ _ _ => False := ⟨a, ns, rfl, hs, hl, fun _ => rfl⟩

/-! ### what is written of parts, steps and rows -/
/-! ### the place of a sign in a text; blanks cut off -/
section
variable {X : Cx}
end
/-! ### the signs of a set's text -/
/-! ### a set's text, a step's text -/
/-! ### a step's text, a row's text -/
/-! ### lists written, lists read -/
section
variable {X : Cx}
end
/-! ### reading gives what was written -/
/-! ### a row's text, a list's text read -/
/-! ### the law's own texts -/
/-! ### kept but for lists and dicts; dicts of lists -/
def ND (H H' : Hp) : Prop := ∀ a o, H a = some o → (∀ l, o ≠ .lst l) → (∀ ks, o ≠ .dK ks) → (∀ q ks, o ≠ .frz q (.dK ks)) → H' a = some o
theorem ND.of {H H' : Hp} (e : Same H H') : ND H H' := fun a o h _ _ _ => e a o h
theorem ND.nl {H H' : Hp} (e : NL H H') : ND H H' := fun a o h n _ _ => e a o h n
theorem ND.trans {H H1 H2 : Hp} (a : ND H H1) (b : ND H1 H2) : ND H H2 := fun c o h n m w => b c o (a c o h n m w) n m w
theorem ND.dict {H : Hp} {d : Addr} {ks : List (Key × V)} {o : HO} (h : H d = some (.dK ks)) : ND H (upd H d o) := fun a u e _ m _ => by
  have q : a ≠ d := fun z => by
    rw [z, h] at e
    exact m ks (Option.some.inj e).symm
  rw [upd_ne q]
  exact e
theorem ND.frz {H : Hp} {d : Addr} {q : Obj} {ks : List (Key × V)} {o : HO} (h : H d = some (.frz q (.dK ks))) : ND H (upd H d o) := fun a u e _ _ m => by
  have n : a ≠ d := fun z => by
    rw [z, h] at e
    exact m q ks (Option.some.inj e).symm
  rw [upd_ne n]
  exact e
theorem ND.lst {H : Hp} {d : Addr} {l : List V} {o : HO} (h : H d = some (.lst l)) : ND H (upd H d o) := .nl (nl_upd h)
theorem sqT_nd {K : PySem.W.Frag} {H H' : Hp} {a : Addr} {xs : List V} (h : SqT K H a xs) (e : ND H H') : SqT K H' a xs := by
  rcases h with (h | ⟨o, h⟩) | h
  · exact .inl (.inl (e _ _ h (fun _ z => nomatch z) (fun _ z => nomatch z) fun _ _ z => nomatch z))
  · exact .inl (.inr ⟨o, e _ _ h (fun _ z => nomatch z) (fun _ z => nomatch z) fun _ _ z => nomatch z⟩)
  · exact .inr h
mutual
theorem dp_nd {K : PySem.W.Frag} {H H' : Hp} (e : ND H H') : ∀ (d : PyData) (v : V), tupB d = true → Dp K H v d → Dp K H' v d
  | .none, _, _, .non => .non
  | .bool _, _, _, .bl b => .bl b
  | .int _, _, _, .int i => .int i
  | .str _, _, _, .str x => .str x
  | .tuple ds, _, t, .tup h a => .tup (sqT_nd h e) (dpAll_nd e ds _ (by simpa only [tupB] using t) a)
  | .list ds, _, t, _ => by simp [tupB] at t
theorem dpAll_nd {K : PySem.W.Frag} {H H' : Hp} (e : ND H H') : ∀ (ds : List PyData) (vs : List V), tupBs ds = true → DpAll K H vs ds → DpAll K H' vs ds
  | [], _, _, .nil => .nil
  | d :: ds, _, t, .cons h a => by
    have t' : tupB d = true ∧ tupBs ds = true := by simpa only [tupBs, Bool.and_eq_true] using t
    exact .cons (dp_nd e d _ t'.1 h) (dpAll_nd e ds _ t'.2 a)
end
theorem PartO.nd {K : PySem.W.Frag} {dx : Addr} {f : PF} (l : List (Key × V)) : PartO K dx f ≠ .dK l := by cases f <;> exact fun h => nomatch h
theorem PartO.nf {K : PySem.W.Frag} {dx : Addr} {f : PF} (q : Obj) (l : List (Key × V)) : PartO K dx f ≠ .frz q (.dK l) := by cases f <;> exact fun h => nomatch h
theorem PartV.nd {K : PySem.W.Frag} {f : PF} {v : V} {H H' : Hp} (h : PartV K f v H) (e : ND H H') : PartV K f v H' := let ⟨p, dx, ev, hp⟩ := h; ⟨p, dx, ev, e _ _ hp PartO.nl PartO.nd PartO.nf⟩
theorem PartsV.nd {K : PySem.W.Frag} {fs : List PF} {us : List V} {H H' : Hp} (h : PartsV K fs us H) (e : ND H H') : PartsV K fs us H' := ⟨h.1, fun i f hf => let ⟨u, a, b⟩ := h.2 i f hf; ⟨u, a, b.nd e⟩⟩
theorem StepV.nd {K : PySem.W.Frag} {f : SF} {v : V} {H H' : Hp} (h : StepV K f v H) (e : ND H H') : StepV K f v H' := by
  cases f with
  | deep => obtain ⟨p, dx, a, b⟩ := h; exact ⟨p, dx, a, e _ _ b (fun _ z => nomatch z) (fun _ z => nomatch z) fun _ _ z => nomatch z⟩
  | seg fs => obtain ⟨p, dx, t, us, a, b, c, d, z⟩ := h; exact ⟨p, dx, t, us, a, e _ _ b (fun _ z => nomatch z) (fun _ z => nomatch z) (fun _ _ z => nomatch z), e _ _ c (fun _ z => nomatch z) (fun _ z => nomatch z) (fun _ _ z => nomatch z), d.nd e, z⟩
theorem RowV.nd {K : PySem.W.Frag} {r : RF} {v : V} {H H' : Hp} (h : RowV K r v H) (e : ND H H') : RowV K r v H' := by
  obtain ⟨p, dx, t, us, a, b, c, d, z⟩ := h
  exact ⟨p, dx, t, us, a, e _ _ b (fun _ z => nomatch z) (fun _ z => nomatch z) (fun _ _ z => nomatch z), e _ _ c (fun _ z => nomatch z) (fun _ z => nomatch z) (fun _ _ z => nomatch z), d.imp fun _ _ s => s.nd e, z⟩
/-- behind a lock on a dict -/
theorem same_unlock {H H2 : Hp} {d : Addr} {o u : HO} (h : H d = some u) (s : Same (upd H d o) H2) : Same H (upd H2 d u) := fun a v e => by
  by_cases hd : a = d
  · subst hd
    rw [upd_same]
    exact (h.symm.trans e)
  · rw [upd_ne hd]
    exact s a v (by rw [upd_ne hd]; exact e)
/-- what a dict of lists holds -/
abbrev LE := List Nat × List RF
structure Lsts (R : RF → V → Hp → Prop) (es : List LE) (kvs : List (Key × V)) (H : Hp) : Prop where
  keys : kvs.map (·.1) = es.map fun e => (Sum.inr (S e.1) : Key)
  vals : Each (fun (e : LE) u H => ∃ L us, u = .ref L ∧ H L = some (.lst us) ∧ Each R e.2 us H) es (kvs.map (·.2)) H
section
variable {R : RF → V → Hp → Prop} {es : List LE} {kvs : List (Key × V)} {H H' : Hp}
theorem Lsts.len (h : Lsts R es kvs H) : kvs.length = es.length := by
  have := congrArg List.length h.keys
  rwa [List.length_map, List.length_map] at this
theorem Lsts.mono (h : Lsts R es kvs H) (s : Same H H') (r : ∀ f u, R f u H → R f u H') : Lsts R es kvs H' :=
  ⟨h.keys, h.vals.imp fun _ _ ⟨L, us, e, l, x⟩ => ⟨L, us, e, s _ _ l, x.imp fun f u => r f u⟩⟩
/-- a dict that is no list changes -/
theorem Lsts.dict {d : Addr} {ks : List (Key × V)} {o : HO} (h : Lsts R es kvs H) (hd : H d = some (.dK ks)) (r : ∀ f u, R f u H → R f u (upd H d o)) : Lsts R es kvs (upd H d o) :=
  ⟨h.keys, h.vals.imp fun _ _ ⟨L, us, e, l, x⟩ => ⟨L, us, e, by
    rw [upd_ne (fun z => by rw [z, hd] at l; cases l)]
    exact l, x.imp fun f u => r f u⟩⟩
theorem Lsts.unlock {d : Addr} {q : Obj} {ks : List (Key × V)} {o : HO} (h : Lsts R es kvs H) (hd : H d = some (.frz q (.dK ks))) (r : ∀ f u, R f u H → R f u (upd H d o)) : Lsts R es kvs (upd H d o) :=
  ⟨h.keys, h.vals.imp fun _ _ ⟨L, us, e, l, x⟩ => ⟨L, us, e, by
    rw [upd_ne (fun z => by rw [z, hd] at l; cases l)]
    exact l, x.imp fun f u => r f u⟩⟩
theorem Lsts.nil : Lsts R [] [] H := ⟨rfl, .nil⟩
theorem Lsts.at_ (h : Lsts R es kvs H) {i : Nat} {k : Key} {v : V} (hk : kvs[i]? = some (k, v)) : ∃ e L us, es[i]? = some e ∧ k = .inr (S e.1) ∧ v = .ref L ∧ H L = some (.lst us) ∧ Each R e.2 us H := by
  have h1 : (kvs.map (·.1))[i]? = some k := by rw [List.getElem?_map, hk]; rfl
  have h2 : (kvs.map (·.2))[i]? = some v := by rw [List.getElem?_map, hk]; rfl
  obtain ⟨e, he, L, us, ev, hl, hr⟩ := h.vals.at' h2
  rw [h.keys, List.getElem?_map, he] at h1
  exact ⟨e, L, us, he, (Option.some.inj h1).symm, ev, hl, hr⟩
theorem val_get : ∀ {es : List LE} {kvs : List (Key × V)} {i : Nat} {e : LE} {v : V}, kvs.map (·.1) = es.map (fun e => (Sum.inr (S e.1) : Key)) → (es.map (·.1)).Nodup → es[i]? = some e → (kvs.map (·.2))[i]? = some v → valV kvs (.inr (S e.1)) = some v
  | [], _, i, e, v, _, _, h, _ => by simp at h
  | x :: r, [], i, e, v, hk, _, _, _ => by simp at hk
  | x :: r, (k, u) :: t, 0, e, v, hk, _, h, hv => by
    have e1 : x = e := by simpa using h
    subst e1
    have e2 : u = v := by simpa using hv
    subst e2
    have e3 : k = .inr (S x.1) := by
      have := List.head_eq_of_cons_eq hk
      exact this
    exact valV_pos (p := (k, u)) e3
  | x :: r, (k, u) :: t, i + 1, e, v, hk, nd, h, hv => by
    have e3 : k = .inr (S x.1) := List.head_eq_of_cons_eq hk
    have nd' := List.nodup_cons.mp nd
    have hr : r[i]? = some e := by simpa using h
    have hne : ¬ k = .inr (S e.1) := fun z => by
      rw [e3] at z
      have z2 := S_inj (Sum.inr.inj z)
      exact nd'.1 (List.mem_map.mpr ⟨e, List.mem_of_getElem? hr, z2.symm⟩)
    rw [valV_neg (p := (k, u)) hne]
    exact val_get (List.tail_eq_of_cons_eq hk) nd'.2 hr (by simpa using hv)
theorem Lsts.get (h : Lsts R es kvs H) (nd : (es.map (·.1)).Nodup) {i : Nat} {e : LE} (he : es[i]? = some e) : ∃ L us, valV kvs (.inr (S e.1)) = some (.ref L) ∧ H L = some (.lst us) ∧ Each R e.2 us H := by
  obtain ⟨u, hu, L, us, rfl, hl, hr⟩ := h.vals.2 i e he
  exact ⟨L, us, val_get h.keys nd he hu, hl, hr⟩
def putE (es : List LE) (f : List Nat) (rs : List RF) : List LE := if (es.any fun e => decide (e.1 = f)) = true then es.map (fun e => if e.1 = f then (e.1, rs) else e) else es ++ [(f, rs)]
theorem putE_new {f : List Nat} {rs : List RF} (h : ∀ e ∈ es, e.1 ≠ f) : putE es f rs = es ++ [(f, rs)] := by
  unfold putE
  refine if_neg fun z => ?_
  obtain ⟨e, he, e2⟩ := List.any_eq_true.mp z
  exact h e he (of_decide_eq_true e2)
theorem putE_keys {f : List Nat} {rs : List RF} (nd : (es.map (·.1)).Nodup) : ((putE es f rs).map (·.1)).Nodup := by
  unfold putE
  split
  · have e : (es.map (fun e => if e.1 = f then (e.1, rs) else e)).map (·.1) = es.map (·.1) := by
      rw [List.map_map]
      refine List.map_congr_left fun e _ => ?_
      show (if e.1 = f then (e.1, rs) else e).1 = e.1
      split <;> rfl
    rw [e]
    exact nd
  · rename_i h
    rw [List.map_append]
    refine List.nodup_append.mpr ⟨nd, by simp, fun a ha b hb z => ?_⟩
    have hb' : b = f := by simpa using hb
    obtain ⟨e, he, e2⟩ := List.mem_map.mp ha
    exact h (List.any_eq_true.mpr ⟨e, he, decide_eq_true (by rw [e2, z, hb'])⟩)
theorem putE_mem {f : List Nat} {rs : List RF} {e : LE} (h : e ∈ putE es f rs) : e ∈ es ∨ (e.1 = f ∧ e.2 = rs) := by
  unfold putE at h
  split at h
  · obtain ⟨e', he, e2⟩ := List.mem_map.mp h
    split at e2
    · rename_i h'
      rw [← e2]
      exact .inr ⟨h', rfl⟩
    · rw [← e2]
      exact .inl he
  · rcases List.mem_append.mp h with h | h
    · exact .inl h
    · rw [List.mem_singleton.mp h]
      exact .inr ⟨rfl, rfl⟩
theorem putE_len {f : List Nat} {rs : List RF} : (putE es f rs).length ≤ es.length + 1 := by
  unfold putE
  split
  · rw [List.length_map]; omega
  · rw [List.length_append]; exact Nat.le_refl _
theorem any_same {f : List Nat} : ∀ {es : List LE} {kvs : List (Key × V)}, kvs.map (·.1) = es.map (fun e => (Sum.inr (S e.1) : Key)) → (kvs.any fun kv => decide (kv.1 = (.inr (S f) : Key))) = es.any fun e => decide (e.1 = f)
  | [], [], _ => rfl
  | [], _ :: _, h => by simp at h
  | _ :: _, [], h => by simp at h
  | x :: r, (k, u) :: t, h => by
    have e3 : k = .inr (S x.1) := List.head_eq_of_cons_eq h
    rw [List.any_cons, List.any_cons, any_same (List.tail_eq_of_cons_eq h)]
    congr 1
    exact decide_eq_decide.mpr ⟨fun z => S_inj (Sum.inr.inj (e3.symm.trans z)), fun z => by rw [e3, z]⟩
/-- a list put at a text -/
theorem Lsts.put {d : Addr} {f : List Nat} {rs : List RF} {L : Addr} {us : List V} (h : Lsts R es kvs H) (hd : H d = some (.dK kvs)) (hL : H L = some (.lst us)) (hr : Each R rs us H) (r : ∀ g u, R g u H → R g u (upd H d (.dK (putK kvs (.inr (S f)) (.ref L))))) :
    Lsts R (putE es f rs) (putK kvs (.inr (S f)) (.ref L)) (upd H d (.dK (putK kvs (.inr (S f)) (.ref L)))) := by
  have h' := h.dict (o := .dK (putK kvs (.inr (S f)) (.ref L))) hd r
  have hL' : upd H d (.dK (putK kvs (.inr (S f)) (.ref L))) L = some (.lst us) := by
    rw [upd_ne (fun z => by rw [z, hd] at hL; cases hL)]
    exact hL
  have hr' : Each R rs us (upd H d (.dK (putK kvs (.inr (S f)) (.ref L)))) := hr.imp fun g u => r g u
  generalize upd H d (.dK (putK kvs (.inr (S f)) (.ref L))) = H1 at *
  have ha := any_same (f := f) h.keys
  unfold putE putK
  by_cases hany : (es.any fun e => decide (e.1 = f)) = true
  · rw [if_pos hany, if_pos (ha.trans hany)]
    have hk := h'.keys
    refine ⟨?_, ?_, fun i e he => ?_⟩
    · rw [List.map_map, List.map_map]
      have e1 : kvs.map ((fun x => x.1) ∘ fun kv => if kv.1 = (Sum.inr (S f) : Key) then (kv.1, V.ref L) else kv) = kvs.map (·.1) := List.map_congr_left fun kv _ => by
        show (if kv.1 = _ then (kv.1, V.ref L) else kv).1 = kv.1
        split <;> rfl
      have e2 : es.map ((fun e => (Sum.inr (S e.1) : Key)) ∘ fun e => if e.1 = f then (e.1, rs) else e) = es.map fun e => (Sum.inr (S e.1) : Key) := List.map_congr_left fun e _ => by
        show (Sum.inr (S (if e.1 = f then (e.1, rs) else e).1) : Key) = _
        split <;> rfl
      rw [e1, e2]
      exact hk
    · simp [h.len]
    · rw [List.getElem?_map] at he
      obtain ⟨e0, he0, e1⟩ := Option.map_eq_some_iff.mp he
      obtain ⟨u, hu, L0, us0, rfl, hl0, hr0⟩ := h'.vals.2 i e0 he0
      rw [List.getElem?_map] at hu
      obtain ⟨kv, hkv, ekv⟩ := Option.map_eq_some_iff.mp hu
      have hk1 : kv.1 = .inr (S e0.1) := by
        have h3 : (kvs.map (·.1))[i]? = some kv.1 := by rw [List.getElem?_map, hkv]; rfl
        rw [hk, List.getElem?_map, he0] at h3
        exact (Option.some.inj h3).symm
      by_cases hf : e0.1 = f
      · have e2 : e = (e0.1, rs) := by rw [← e1, if_pos hf]
        refine ⟨.ref L, ?_, L, us, rfl, hL', by rw [e2]; exact hr'⟩
        rw [List.getElem?_map, List.getElem?_map, hkv]
        show some (if kv.1 = _ then (kv.1, V.ref L) else kv).2 = _
        rw [if_pos (by rw [hk1, hf])]
      · have e2 : e = e0 := by rw [← e1, if_neg hf]
        refine ⟨.ref L0, ?_, L0, us0, rfl, hl0, by rw [e2]; exact hr0⟩
        rw [List.getElem?_map, List.getElem?_map, hkv]
        show some (if kv.1 = _ then (kv.1, V.ref L) else kv).2 = _
        rw [if_neg (by rw [hk1]; exact fun z => hf (S_inj (Sum.inr.inj z))), ekv]
  · rw [if_neg hany, if_neg (by rw [ha]; exact hany)]
    refine ⟨by rw [List.map_append, List.map_append, h.keys]; rfl, ?_⟩
    rw [List.map_append]
    exact h'.vals.snoc ⟨L, us, rfl, hL', hr'⟩
end
/-! ### targets in a try, a comprehension in another -/
theorem pg_tupK {X : Cx} {K : PySem.W.Frag} {es : List Expr} {k n : Nat} {pos : Pos} {t : TGs} (hc : X.calm = true) (h : PGs X es t) (hK : X.K = K := by rfl) (hn : (assignEach es X.env).length = n := by rfl) (hst : (assignEach es X.env).findIdx? (·.1) = none := by rfl) : PG X (.Tuple es k pos) (gTup K n t) := by
  subst hK
  exact pg_tup hc h hn hst
theorem blkOk_blk {N : List Str} {bs scope : Scope} {cl : List (Str × Addr)} {C : Addr} {env : Env} {own : List (Str × Nat)} (h : blkC N (relS bs env.scope) scope own = true) : BlkOk N (compEnvC bs cl C env).scope scope own := blkOk_by h

/-! ### folders, rows placed, lists gathered -/
def folderN (w : List Nat) : Option (List (List Nat)) := if w = [] then some [] else match pathN w with
  | some (ns, true) => some ns
  | _ => none
def spFolderN (K : PySem.W.Frag) : Sp := fun vs H Q E => ∃ w : List Nat, vs = [.str (S w)] ∧ w.length ≤ 1000000 ∧ (∀ ns F H', folderN w = some ns → Same H H' → H F = none → H' F = some (.lst (nmsV ns)) → Q (.ref F) H') ∧ (folderN w = none → ∀ H', Same H H' → E (.ref (fA K "NoFolder")) none H')
theorem ok_folder_names (T : Txt K mg) : OkD P w K mg base 3 (fA K "folder_names") ["folder"] [] (spFolderN K) := by
  refine okD T.F_folder_names sc_folder_names (fun _ _ _ _ _ _ us hl => match us, hl with | [_], _ => rfl) ?_ ?_
  · rintro vs H Q E ⟨w, rfl, _⟩
    rfl
  · rintro cdv A outer s H vs Q E hr ⟨w, rfl, hw, q1, q2⟩
    refine ⟨_, (pss_cons (ps_if (pt_mid (pt_cmpR (o_eq (K := K) (hu64 hr)) (pv 0) pe_str (nomark _))) (pss_one (ps_ret (pe_lst pa_nil))) pss_nil)
  (pss_cons (ps_mid (ps_try_only rfl rfl ⟨rfl, rfl, Or.inl T.g_NoPath⟩ (takes_of rfl rfl rfl rfl) (fun W pn xe tkW pxW => (pss_one (ps_asg (pe_calT (ok_names_of T) (hr.mono (by decide)) rfl T.g_names_of tkW (pa_cons (pv 0) pa_nil)) (pg_tupK (K := K) (n := 2) rfl (pgs_cons (pg_name (i := 1) sc_folder_names.nd rfl (Or.inl rfl)) (pgs_cons (pg_name (i := 2) sc_folder_names.nd rfl (Or.inl rfl)) pgs_nil)))))) (fun _ _ _ _ _ _ _ => (pss_one (ps_set (i := 2) sc_folder_names.nd rfl (Or.inl rfl) pe_bl)))))
  (pss_cons (ps_if (pt_mid (pt_not (pt_tru (K := K) (pv 2) (by intro _; rfl)))) (pss_one (ps_raise rfl (takes_of rfl rfl rfl rfl) (pmk_own PySem.F.excBase_ValueError T.x_NoFolder.1 T.g_NoFolder T.x_NoFolder.2.1 (raises_own T.x_NoFolder.2.2.1 T.x_NoFolder.2.2.2) rfl))) pss_nil)
  (pss_one (ps_ret (pv 1)))))), ?_⟩
    have tobj := T.obj
    refine q_if (fun b H' => H' = H ∧ b = decide (w = [])) ?_ (fun H1 h => ?_) fun H1 h => q_next ?_
    · walk_at "rd"
      exact decide_eq_decide.mpr ⟨fun h => S_inj h, fun h => by rw [h]; rfl⟩
    · obtain ⟨rfl, hb⟩ := h
      have e := of_decide_eq_true hb.symm
      walk_at "rd"
      exact fun p hp => q1 [] p _ (if_pos e) (same_new hp) hp upd_same
    obtain ⟨rfl, hb⟩ := h
    have e := of_decide_eq_false hb.symm
    refine q_stm (fun σ H' => Same H1 H' ∧ ((∃ ns F, pathN w = some (ns, true) ∧ H1 F = none ∧ H' F = some (.lst (nmsV ns)) ∧ σ = [some (.str (S w)), some (.ref F), some (.bl true)]) ∨ (folderN w = none ∧ ∃ x1, σ = [some (.str (S w)), x1, some (.bl false)]))) ?_ ?_
    · unfold tCallSD
      walk_at "rd"
      refine ⟨w, rfl, hw, fun ns fo p F H' ep s hp hF hn => ?_, fun hn H' s => ?_⟩
      · refine ⟨p, [.ref F, .bl fo], rfl, .inl (.inl hp), rfl, .ref F, [.bl fo], rfl, .bl fo, [], rfl, rfl, s, ?_⟩
        cases fo with
        | true => exact .inl ⟨ns, ep, F, hn, hF, rfl⟩
        | false =>
          refine .inr ⟨?_, _, rfl⟩
          unfold folderN
          rw [if_neg e, ep]
      · refine ⟨true, (kxB_ex T.kx (by decide)).1, fun _ a ha => ⟨s, .inr ⟨?_, _, rfl⟩⟩, fun z => nomatch z⟩
        unfold folderN
        rw [if_neg e, hn]
    rintro σ H2 ⟨s2, h⟩
    rcases h with ⟨ns, F, hp, hF, hF2, rfl⟩ | ⟨hn, x1, rfl⟩
    · refine q_if (fun b H' => H' = H2 ∧ b = false) (by walk_at "rd") (fun _ h => nomatch h.2) fun H3 h => q_next ?_
      obtain ⟨rfl, _⟩ := h
      walk_at "rd"
      refine q1 ns F _ ?_ s2 hF hF2
      unfold folderN
      rw [if_neg e, hp]
    · refine q_if (fun b H' => H' = H2 ∧ b = true) (by walk_at "rd") (fun H3 h => ?_) fun _ h => nomatch h.2
      obtain ⟨rfl, _⟩ := h
      walk_at "rd"
      exact q2 hn _ s2
def oneS (nm : List Nat) : SF := .seg (nm.map .one)
def placedR (nms : List (List Nat)) (r : RF) : RF := ⟨nms.map oneS ++ (r.steps ++ (if nms ≠ [] ∧ r.steps = [SF.deep] then [SF.seg [.stars]] else [])), r.spares, r.folders⟩
theorem oneS_ok {nm : List Nat} (h1 : nm ≠ []) (h2 : nm.length ≤ 400) (h3 : ∀ c ∈ nm, c ∈ SIG) : NoTwo (nm.map PF.one) ∧ nm.map PF.one ≠ [] := by
  refine ⟨notwo_of fun f hf => ?_, fun e => h1 (List.map_eq_nil_iff.mp e)⟩
  obtain ⟨c, _, rfl⟩ := List.mem_map.mp hf
  rfl
theorem twoD_segs : ∀ {nms : List (List Nat)} {ss : List SF}, NoTwoD ss → NoTwoD (nms.map oneS ++ ss)
  | [], _, h => h
  | [nm], [], _ => trivial
  | [nm], s :: r, h => ⟨fun e => (nomatch e.1), h⟩
  | nm :: nm2 :: r, ss, h => ⟨fun e => (nomatch e.1), twoD_segs (nms := nm2 :: r) h⟩
theorem twoD_placed {nms : List (List Nat)} {r : RF} (h : r.Ok) : NoTwoD (placedR nms r).steps := by
  refine twoD_segs ?_
  split
  · rename_i e
    rw [e.2]
    exact ⟨fun e => (nomatch e.2), trivial⟩
  · rw [List.append_nil]
    exact h.two
def spPlaced (K : PySem.W.Frag) : Sp := fun vs H Q _ => ∃ v F nms r, vs = [v, .ref F] ∧ RowV K r v H ∧ r.Ok ∧ SqL K H F (nmsV nms) ∧ nms.length ≤ 50 ∧ (∀ nm ∈ nms, nm ≠ [] ∧ nm.length ≤ 400 ∧ ∀ c ∈ nm, c ∈ SIG) ∧ ∀ u H', Same H H' → RowV K (placedR nms r) u H' → Q u H'
theorem ok_placed (T : Txt K mg) : OkD P w K mg base 4 (fA K "placed") ["row", "names"] [] (spPlaced K) := by
  refine okD T.F_placed sc_placed (fun _ _ _ _ _ _ us hl => match us, hl with | [_, _], _ => rfl) ?_ ?_
  · rintro vs H Q E ⟨v, F, nms, r, rfl, _⟩
    rfl
  · rintro cdv A outer s H vs Q E hr ⟨v, F, nms, r, rfl, hv, ok, hF, hl, hn, q⟩
    refine ⟨_, (pss_cons (ps_setLc (own := [("name", 4)]) (g := (gName 4)) (tt := tYes) (i := 2) rfl sc_placed.nd rfl rfl (sw_true rfl rfl rfl (by decide +kernel)) (pi_mid (o_it (K := K) rfl (pv 1))) (blkOk_by (N := N_placed) (sc := defScope TX.s_placed) (by decide +kernel)) (fun _ _ _ _ _ => (pg_name (i := 4) sc_placed.nd rfl (Or.inl rfl))) (fun _ _ _ _ _ => pts_nil) (fun _ _ _ _ _ => (pe_mid (pe_mak T.mk_Segment (ok_Segment___init__ T) (hr.mono (by decide)) rfl T.g_Segment pasN (pa_cons (pe_callTy (o_tuple (K := K)) (by rfl) T.fr_tuple (by decide +kernel) (pa_cons (pe_lc (own := [("sign", 5)]) (g := (gName 5)) (tt := tYes) rfl sc_placed.nd (pi_mid (o_it (K := K) rfl (pv 4))) (blkOk_blk (by kernel_rfl)) (fun _ _ _ _ _ => (pg_name (i := 5) sc_placed.nd rfl (Or.inl rfl))) (fun _ _ _ _ _ => pts_nil) (fun _ _ _ _ _ => (pe_mid (pe_mak T.mk_One (ok_One___init__ T) (hr.mono (by decide)) rfl T.g_One pasN (pa_cons (pv 5) pa_nil))))) pa_nil)) pa_nil)))))
  (pss_cons (ps_mid (ps_for (passes_of rfl) rfl (pi_mid (o_it (K := K) rfl (pe_fldK (K := K) (pv 0) rfl))) (pg_name (i := 3) sc_placed.nd rfl (Or.inl rfl)) (pss_one (ps_expr (pe_bmK (K := K) PySem.F.plainAttrs_list PySem.F.slot_list_append PySem.F.type_list_append mt_append (pv 2) (pa_cons (pe_mid (pv 3)) pa_nil))))))
  (pss_cons (ps_mid (ps_if (pt_mid (PW.pt (pw_and (pt_cmpR (o_ne (K := K) (hu64 hr)) (pv 1) (pe_lst pa_nil) (nomark _)) (pw_and (pt_cmpR (o_eq (K := K) (hu64 hr)) (pe_callB (o_lenW (K := K) (w := w)) (by rfl) T.fr_len boot_len (pa_cons (pe_fldK (K := K) (pv 0) rfl) pa_nil)) pe_int (nomark _)) (pw_and1 (pt_tru (K := K) (pe_metI0 (md_deep T) (pe_ix (o_ix (K := K)) (pe_fldK (K := K) (pv 0) rfl) pe_int (fun _ _ => rfl)) (hr.mono (by decide)) (pasE (takes_of rfl rfl rfl rfl) (fun _ _ _ _ h => h))) (by intro _; rfl))))))) (pss_one (ps_expr (pe_bmK (K := K) PySem.F.plainAttrs_list PySem.F.slot_list_append PySem.F.type_list_append mt_append (pv 2) (pa_cons (pe_mid (pe_mak T.mk_Segment (ok_Segment___init__ T) (hr.mono (by decide)) rfl T.g_Segment (pasE (takes_of rfl rfl rfl rfl) (fun _ _ _ _ h => h)) (pa_cons (pe_tup (pa_cons (pe_makN T.mn_Stars rfl T.g_Stars) pa_nil)) pa_nil))) pa_nil)))) pss_nil))
  (pss_one (ps_ret (pe_mak T.mk_Row (ok_Row___init__ T) (hr.mono (by decide)) rfl T.g_Row (pasE (takes_of rfl rfl rfl rfl) (fun _ _ _ _ h => h)) (pa_cons (pe_callTy (o_tuple (K := K)) (by rfl) T.fr_tuple (by decide +kernel) (pa_cons (pv 2) pa_nil)) (pa_cons (pe_fldK (K := K) (pv 0) rfl) (pa_cons (pe_fldK (K := K) (pv 0) rfl) pa_nil))))))))), ?_⟩
    have tobj := T.obj
    obtain ⟨rp, rdx, rt, rus, rfl, hrp, hrt, reach, rne⟩ := hv
    have lr := ok.len
    have lru := reach.1
    refine q_val ?_
    refine lc_midM (J0 := Itl K F) (H0 := H) ?_ (walk_list (K := K) (a := F) (xs := nmsV nms)) (by rw [nms_len]; omega) (fun k acc H' => Each (StepV K) ((nms.take k).map oneS) acc H') (fun _ _ _ _ e h => h.imp fun _ _ d => d.nl e) .nil (fun H' s => same_l s hF) (fun _ _ _ _ y => y_at y) (fun _ => rfl) ?_ ?_
    · walk_at "rd"
      exact .inl ⟨_, hF⟩
    · rintro j x acc H' H'' hj s4 hc ⟨rfl, hx⟩
      obtain ⟨nm, hnm, rfl⟩ := nms_at hx
      obtain ⟨nne, nl, nsg⟩ := hn nm (List.mem_of_getElem? hnm)
      obtain ⟨o1, o2⟩ := oneS_ok nne nl nsg
      refine mid_of (fun v H4 => Same H'' H4 ∧ StepV K (oneS nm) v H4) ?_ ?_
      · walk_at "rd"
        refine lc_midM (J0 := Its (S nm)) (H0 := H'') ?_ walk_str (by show nm.toArray.size < _; simp; omega) (fun k acc H' => PartsV K ((nm.take k).map PF.one) acc H') (fun _ _ _ _ e h => h.nl e) .nil (fun _ _ => trivial) (fun _ _ _ _ y => by rw [y.1]; exact Same.refl _) (fun _ => rfl) ?_ ?_
        · walk_at "rd"
        · rintro i x acc Ha Hb hi sa pa ⟨rfl, c, hc, rfl⟩
          have hc' : nm[i]? = some c := by simpa using hc
          refine mid_of (fun v H4 => Same Hb H4 ∧ PartV K (.one c) v H4) ?_ ?_
          · walk_at "rd"
            intro x dx hx hdx hxd
            refine ⟨x, dx, ⟨#[c]⟩, rfl, upd_same, Nat.le_of_ble_eq_true rfl, fun c2 H' hc2 e hp' b => ⟨rfl, ?_⟩, fun hno => ?_⟩
            · have e2 := S1_inj e
              subst e2
              exact ⟨but_same hx hdx b, x, dx, rfl, hp'⟩
            · exact hno ⟨c, nsg c (List.mem_of_getElem? hc'), rfl⟩
          · rintro v H4 ⟨s5, pv⟩
            refine ⟨s5, ?_⟩
            rw [List.take_succ, hc', List.map_append]
            exact (pa.mono s5).snoc pv
        · intro L pus Hc hLn sc hLl lpus pv
          rw [List.take_of_length_le (by show nm.length ≤ nm.toArray.size; simp)] at pv
          refine ⟨pus, .inl ⟨.inl (.inl hLl), fun l hl' => ?_⟩⟩
          have sl := same_new (o := .tup pus) hl'
          refine seg_make (R := fun x H' => Same H'' H' ∧ StepV K (oneS nm) (.ref x) H') (.inl (.inl (.inl upd_same))) (pv.mono sl) (by rw [List.length_map]; omega) o2 fun y H' s h => ⟨(sc.trans sl).trans s, ?_⟩
          rw [normP_id o1] at h
          exact h
      · rintro v H4 ⟨s5, sv⟩
        refine ⟨s5, ?_⟩
        rw [List.take_succ, hnm, List.map_append]
        exact (hc.imp fun _ _ d => d.mono s5).snoc sv
    intro W acc H1 hWn s1 hW lacc segs
    rw [List.take_of_length_le (by rw [nms_len]; exact Nat.le_refl _)] at segs
    have hrp1 := s1 _ _ hrp
    have hrt1 := s1 _ _ hrt
    have hF1 := same_l s1 hF
    refine q_stm (fun σ H' => Same H H' ∧ ∃ us x3 x4 x5, H' W = some (.lst us) ∧ Each (StepV K) (nms.map oneS ++ r.steps) us H' ∧ σ = [some (.ref rp), some (.ref F), some (.ref W), x3, x4, x5]) ?_ ?_
    · refine for_mid (J0 := Itt K rt) (H0 := H1) ?_ (walk_tup (K := K) (a := rt) (xs := rus)) (fun k σ H' => Same H H' ∧ ∃ us x3 x4 x5, H' W = some (.lst us) ∧ Each (StepV K) (nms.map oneS ++ r.steps.take k) us H' ∧ σ = [some (.ref rp), some (.ref F), some (.ref W), x3, x4, x5])
        ⟨s1, acc, _, _, _, hW, by rw [List.take_zero, List.append_nil]; exact segs, rfl⟩ (fun k σ H' _ h => .inl (.inl (h.1 _ _ hrt))) ?_ (fun σ H' h => ?_)
      · walk_at "rdh"
        exact .inr ⟨_, .inl (.inl hrt1)⟩
      · rintro k x σ H2 H2' hk ⟨s2, us, x3, x4, x5, hW2, each, rfl⟩ ⟨rfl, hx⟩
        obtain ⟨st, hst, sv⟩ := reach.at' hx
        have lu := each.1
        have lt := List.length_take_le' k r.steps
        rw [List.length_append, List.length_map] at lu
        refine l_appV rfl rfl hW2 (by omega) ⟨same_mut s2 hWn, us ++ [x], _, _, _, upd_same, ?_, rfl⟩
        rw [List.take_succ, hst, ← List.append_assoc]
        exact (each.imp fun _ _ d => d.nl (nl_upd hW2)).snoc ((sv.mono s2).nl (nl_upd hW2))
      · obtain ⟨s2, us, x3, x4, x5, hW2, each, e⟩ := h
        rw [List.take_of_length_le (by rw [lru]; exact Nat.le_refl _)] at each
        exact ⟨s2, us, _, _, _, hW2, each, e⟩
    rintro σ H2 ⟨s2, us, x3, x4, x5, hW2, each, rfl⟩
    have hrp2 := s2 _ _ hrp
    have hrt2 := s2 _ _ hrt
    have hF2 := same_l s2 hF
    have reach2 : Each (StepV K) r.steps rus H2 := reach.imp fun _ _ d => d.mono s2
    have lu := each.1
    rw [List.length_append, List.length_map] at lu
    refine q_stm (fun σ H' => Same H H' ∧ ∃ us, H' W = some (.lst us) ∧ Each (StepV K) (placedR nms r).steps us H' ∧ σ = [some (.ref rp), some (.ref F), some (.ref W), x3, x4, x5]) ?_ ?_
    · refine l_if (fun b H' => Same H2 H' ∧ b = decide (nms ≠ [] ∧ r.steps = [.deep])) ?_ (fun H3 h => ?_) (fun H3 h => ?_)
      · walk_at "rdh"
        intro p hp
        have sp := same_new (o := .lst []) hp
        have d0 : DOk 1 (.list []) := dok_lst fun _ h => nomatch h
        have d1 : DOk 1 (.list (nms.map fun w => .str (S w))) := txts_ok fun w hw => txt_ok fun c hc => .inr ((hn w hw).2.2 c hc)
        have e : PyData.eqv (.list (nms.map fun w => .str (S w))) (.list []) = decide (nms = []) := by cases nms <;> rfl
        refine .inl ⟨_, .list [], txts_dp (same_l sp hF2), .lst (.inl (.inl upd_same)) .nil, d1.shaped (by decide), d0.shaped (by decide), _, rfl, ?_⟩
        rw [e]
        have hrp2p := sp _ _ hrp2
        have hrt2p := sp _ _ hrt2
        have reach2p : Each (StepV K) r.steps rus (upd H2 p (.lst [])) := reach2.imp fun _ _ d => d.mono sp
        generalize upd H2 p (.lst []) = H3 at *
        refine ite2 (fun h => ?_) fun h => ?_
        · have hne : nms ≠ [] := by simpa using h
          walk_at "rdh"
          refine .inr ⟨_, .inr ⟨rus, .inl (.inl hrt2p), rfl⟩, ?_⟩
          rw [lru]
          refine ite2 (fun h1 => ?_) fun h1 => ?_
          · have l1 : r.steps.length = 1 := by omega
            obtain ⟨s0, e0⟩ := List.length_eq_one_iff.mp l1
            obtain ⟨u0, hu0, sv0⟩ := reach2p.2 0 s0 (by rw [e0]; rfl)
            refine ⟨rus, .inr (.inl (.inl hrt2p)), u0, (atI_nat hu0 : atI rus ((0 : Nat) : Int) = some u0), s0, sv0, u0, rfl, sv0, _, rfl, sp, ?_⟩
            rw [e0]
            cases s0 <;> simp [SF.deepB]
          · exact (decide_eq_false fun e => h1 (by rw [e]; rfl)).symm
        · have hne : nms = [] := by simpa using h
          exact ⟨sp, (decide_eq_false fun h => h.1 hne).symm⟩
      · obtain ⟨s3, hb⟩ := h
        have hW3 := s3 _ _ hW2
        refine l_app rfl hW3 ?_
        walk_at "rd"
        intro x dx hx hdx hxd p hp y dy hy hdy hyd
        have n1 := new_two (o := .own x) (o' := .ins (fA K "Stars") dx []) hx hdx hxd
        have sp := same_new (o := .tup [V.ref x]) hp
        have hd := of_decide_eq_true hb.symm
        refine seg_make (K := K) (R := fun z H2' => ∃ ys, H2' W = some (.lst ys) ∧ ys.length < 16777216 ∧ Same H (upd H2' W (.lst (ys ++ [.ref z]))) ∧ ∃ us, upd H2' W (.lst (ys ++ [.ref z])) W = some (.lst us) ∧ Each (StepV K) (placedR nms r).steps us (upd H2' W (.lst (ys ++ [.ref z])))) (fs := [.stars]) (us := [.ref x]) (.inl (.inl (.inl upd_same))) ?_ (by decide) (by simp) (fun y H' s h => ?_) y dy hy hdy hyd
        · exact PartsV.nil.snoc ⟨x, dx, rfl, sp _ _ upd_same⟩
        · have s4 := (n1.trans sp).trans s
          have hW4 := s4 _ _ hW3
          refine ⟨us, hW4, by omega, same_mut ((s2.trans s3).trans s4) hWn, us ++ [.ref y], upd_same, ?_⟩
          have e : (placedR nms r).steps = (nms.map oneS ++ r.steps) ++ [.seg [.stars]] := by
            show nms.map oneS ++ (r.steps ++ (if nms ≠ [] ∧ r.steps = [SF.deep] then [SF.seg [.stars]] else [])) = _
            rw [if_pos hd, List.append_assoc]
          rw [e]
          exact (each.imp fun _ _ d => (d.mono (s3.trans s4)).nl (nl_upd hW4)).snoc (h.nl (nl_upd hW4))
      · obtain ⟨s3, hb⟩ := h
        refine ⟨s2.trans s3, us, s3 _ _ hW2, ?_, rfl⟩
        have e : (placedR nms r).steps = nms.map oneS ++ r.steps := by
          show nms.map oneS ++ (r.steps ++ (if nms ≠ [] ∧ r.steps = [SF.deep] then [SF.seg [.stars]] else [])) = _
          rw [if_neg (of_decide_eq_false hb.symm), List.append_nil]
        rw [e]
        exact each.imp fun _ _ d => d.mono s3
    rintro σ H3 ⟨s3, us3, hW3, each3, rfl⟩
    have hrp3 := s3 _ _ hrp
    have lus3 := each3.1
    have plen : (placedR nms r).steps.length ≤ 100 := by
      show (nms.map oneS ++ (r.steps ++ (if nms ≠ [] ∧ r.steps = [SF.deep] then [SF.seg [.stars]] else []))).length ≤ 100
      rw [List.length_append, List.length_append, List.length_map]
      have : (if nms ≠ [] ∧ r.steps = [.deep] then [SF.seg [.stars]] else []).length ≤ 1 := by split <;> simp
      omega
    have pne : (placedR nms r).steps ≠ [] := fun e => by
      have e' : nms.map oneS ++ (r.steps ++ (if nms ≠ [] ∧ r.steps = [SF.deep] then [SF.seg [.stars]] else [])) = [] := e
      exact ok.ne (List.append_eq_nil_iff.mp (List.append_eq_nil_iff.mp e').2).1
    walk_at "rdh"
    refine ⟨us3, .inl ⟨.inl (.inl hW3), fun l hl' => ?_⟩⟩
    have sl := same_new (o := .tup us3) hl'
    have hrpl := sl _ _ hrp3
    walk_at "rdh"
    intro x dx hx hdx hxd
    exact row_make (R := fun x H' => Q (V.ref x) H') (.inl (.inl (.inl upd_same))) (each3.imp fun _ _ d => d.mono sl) (by omega) pne (fun x H' s h => q _ _ ((s3.trans sl).trans s) (by rw [normS_id (twoD_placed ok)] at h; exact h)) x dx hx hdx hxd
def kE (e : LE) : KeyT := ((((folderN e.1).getD []).length : Int), e.1)
def SrtE (es es' : List LE) : Prop := es'.Perm es ∧ es'.Pairwise (fun a b => ltK (kE b) (kE a) = false)
def gathR (es : List LE) : List RF := es.flatMap fun e => e.2.map (placedR ((folderN e.1).getD []))
def NmsOk (ns : List (List Nat)) : Prop := ns.length ≤ 50 ∧ ∀ nm ∈ ns, nm ≠ [] ∧ nm.length ≤ 400 ∧ ∀ c ∈ nm, c ∈ SIG
structure LEok (es : List LE) : Prop where
  nd : (es.map (·.1)).Nodup
  len : es.length ≤ 10
  each : ∀ e ∈ es, e.1.length ≤ 1000000 ∧ e.2.length ≤ 60 ∧ ∀ r ∈ e.2, RF.Ok r
  nms : ∀ e ∈ es, ∀ ns, folderN e.1 = some ns → NmsOk ns
/-- a ranked entry: its tuple, its names -/
def RkV (R F : Addr) (e : LE) (u : V) (H : Hp) : Prop := ∃ t G ns, u = .ref t ∧ folderN e.1 = some ns ∧ H t = some (.tup [.int (ns.length : Nat), .str (S e.1), .ref G]) ∧ H G = some (.lst (nmsV ns)) ∧ G ≠ R ∧ G ≠ F
theorem perm_map_inv {α β : Type} {f : α → β} : ∀ {ys : List β} {zs : List α}, ys.Perm (zs.map f) → ∃ zs' : List α, zs'.Perm zs ∧ zs'.map f = ys
  | [], zs, p => ⟨[], by
      have := List.nil_perm.mp p
      rw [List.map_eq_nil_iff.mp this], rfl⟩
  | y :: r, zs, p => by
    obtain ⟨z, hz, rfl⟩ := List.mem_map.mp (p.mem_iff.mp List.mem_cons_self)
    obtain ⟨a, b, rfl⟩ := List.append_of_mem hz
    have p2 : (f z :: r).Perm (f z :: (a ++ b).map f) := p.trans (by
      rw [List.map_append, List.map_cons, List.map_append]
      exact List.perm_middle)
    obtain ⟨zs', h1, h2⟩ := perm_map_inv p2.cons_inv
    exact ⟨z :: zs', (h1.cons z).trans List.perm_middle.symm, by rw [List.map_cons, h2]⟩
theorem nodup_idx {α : Type} : ∀ {l : List α} {i j : Nat} {x : α}, l.Nodup → l[i]? = some x → l[j]? = some x → i = j
  | y :: r, 0, 0, x, _, _, _ => rfl
  | y :: r, 0, j + 1, x, nd, h1, h2 => by
    have e : y = x := by simpa using h1
    have h3 : r[j]? = some x := by simpa using h2
    exact absurd (List.mem_of_getElem? h3) (e ▸ (List.nodup_cons.mp nd).1)
  | y :: r, i + 1, 0, x, nd, h1, h2 => by
    have e : y = x := by simpa using h2
    have h3 : r[i]? = some x := by simpa using h1
    exact absurd (List.mem_of_getElem? h3) (e ▸ (List.nodup_cons.mp nd).1)
  | y :: r, i + 1, j + 1, x, nd, h1, h2 => by
    have h3 : r[i]? = some x := by simpa using h1
    have h4 : r[j]? = some x := by simpa using h2
    exact congrArg (· + 1) (nodup_idx (List.nodup_cons.mp nd).2 h3 h4)
  | [], i, j, x, _, h, _ => by simp at h
/-- the key that a tuple tells -/
def keyAt (H : Hp) (u : V) : KeyT := match u with
  | .ref t => match H t with
    | some (.tup (.int n :: .str z :: _)) => (n, z.cps.toList)
    | _ => (0, [])
  | _ => (0, [])
theorem RkV.key {R F : Addr} {e : LE} {u : V} {H : Hp} (h : RkV R F e u H) : keyAt H u = kE e := by
  obtain ⟨t, G, ns, rfl, hf, ht, _⟩ := h
  unfold kE
  simp only [keyAt, ht, hf]
  simp
theorem ranked_sort {R F : Addr} {es : List LE} {xs ys : List V} {H : Hp} (h : Each (RkV R F) es xs H) (p : ys.Perm xs) (so : ys.Pairwise (fun x y => ltK (keyAt H y) (keyAt H x) = false)) : ∃ es', SrtE es es' ∧ Each (RkV R F) es' ys H := by
  have hx : xs = (es.zip xs).map (·.2) := by rw [List.map_snd_zip (by rw [h.1]; exact Nat.le_refl _)]
  rw [hx] at p
  obtain ⟨zs, p1, rfl⟩ := perm_map_inv p
  have he : es = (es.zip xs).map (·.1) := by rw [List.map_fst_zip (by rw [h.1]; exact Nat.le_refl _)]
  have mem : ∀ z ∈ zs, RkV R F z.1 z.2 H := fun z hz => by
    obtain ⟨i, hi⟩ := List.mem_iff_getElem?.mp (p1.mem_iff.mp hz)
    obtain ⟨h1, h2⟩ := List.getElem?_zip_eq_some.mp hi
    obtain ⟨u, hu, g⟩ := h.2 i _ h1
    rw [h2] at hu
    cases hu
    exact g
  refine ⟨zs.map (·.1), ⟨?_, ?_⟩, ?_, fun i e hi => ?_⟩
  · have := p1.map (·.1)
    rwa [← he] at this
  · rw [List.pairwise_map] at so ⊢
    refine so.imp_of_mem fun {a b} ha hb h => ?_
    rw [(mem a ha).key, (mem b hb).key] at h
    exact h
  · rw [List.length_map, List.length_map]
  · rw [List.getElem?_map] at hi
    obtain ⟨z, hz, rfl⟩ := Option.map_eq_some_iff.mp hi
    exact ⟨z.2, by rw [List.getElem?_map, hz]; rfl, mem z (List.mem_of_getElem? hz)⟩
theorem flat_le60 : ∀ {es : List LE}, (∀ e ∈ es, e.2.length ≤ 60) → (gathR es).length ≤ 60 * es.length
  | [], _ => Nat.le_refl _
  | e :: r, h => by
    have h1 := h e List.mem_cons_self
    have h2 := flat_le60 (es := r) fun e he => h e (List.mem_cons_of_mem _ he)
    have e1 : gathR (e :: r) = e.2.map (placedR ((folderN e.1).getD [])) ++ gathR r := rfl
    rw [e1, List.length_append, List.length_map, List.length_cons]
    omega
def spGathered (K : PySem.W.Frag) : Sp := fun vs H Q E => ∃ d es kvs, vs = [.ref d] ∧ H d = some (.dK kvs) ∧ Lsts (RowV K) es kvs H ∧ LEok es ∧
  ((∀ e ∈ es, folderN e.1 ≠ none) → ∀ F us es' H', SrtE es es' → Same H H' → H F = none → H' F = some (.lst us) → Each (RowV K) (gathR es') us H' → Q (.ref F) H') ∧
  ((∃ e ∈ es, folderN e.1 = none) → ∀ od H', Same (upd H d (.frz od (.dK kvs))) H' → E (.ref (fA K "NoFolder")) none H')
theorem ok_gathered (T : Txt K mg) : OkD P w K mg base 5 (fA K "gathered") ["lists"] [] (spGathered K) := by
  refine okD T.F_gathered sc_gathered (fun _ _ _ _ _ _ us hl => match us, hl with | [_], _ => rfl) ?_ ?_
  · rintro vs H Q E ⟨d, es, kvs, rfl, _⟩
    rfl
  · rintro cdv A outer s H vs Q E hr ⟨d, es, kvs, rfl, hd, hl, ok, q1, q2⟩
    refine ⟨_, (pss_cons (ps_set (i := 1) sc_gathered.nd rfl (Or.inl rfl) (pe_lst pa_nil))
  (pss_cons (ps_mid (ps_lock (ps_for (passes_of rfl) rfl (pi_mid (pi_keys (pv 0))) (pg_name (i := 2) sc_gathered.nd rfl (Or.inl rfl)) (pss_cons (ps_set (i := 3) sc_gathered.nd rfl (Or.inr rfl) (pe_mid (pe_cal (ok_folder_names T) (hr.mono (by decide)) rfl T.g_folder_names (pasE (takes_of rfl rfl rfl rfl) (fun _ _ _ _ h => h)) (pa_cons (pv 2) pa_nil))))
  (pss_one (ps_expr (pe_bmK (K := K) PySem.F.plainAttrs_list PySem.F.slot_list_append PySem.F.type_list_append mt_append (pv 1) (pa_cons (pe_mid (pe_tup (pa_cons (pe_callB (o_lenW (K := K) (w := w)) (by rfl) T.fr_len boot_len (pa_cons (pv 3) pa_nil)) (pa_cons (pv 2) (pa_cons (pv 3) pa_nil))))) pa_nil))))))))
  (pss_cons (ps_set (i := 4) sc_gathered.nd rfl (Or.inl rfl) (pe_lst pa_nil))
  (pss_cons (ps_mid (ps_for (passes_of rfl) rfl (pi_mid (o_it (K := K) rfl (pe_callB (o_sortedT (K := K)) (by rfl) T.fr_sorted (by decide +kernel) (pa_cons (pv 1) pa_nil)))) (pg_tup rfl (pgs_cons (pg_name (i := 5) sc_gathered.nd rfl (Or.inl rfl)) (pgs_cons (pg_name (i := 2) sc_gathered.nd rfl (Or.inl rfl)) (pgs_cons (pg_name (i := 3) sc_gathered.nd rfl (Or.inr rfl)) pgs_nil)))) (pss_one (ps_aug (i := 4) sc_gathered.nd rfl (Or.inl rfl) (pe_lc (own := [("row", 6)]) (g := (gName 6)) (tt := tYes) rfl sc_gathered.nd (pi_mid (o_it (K := K) rfl (pe_dget (hu_of hr) (pv 0) (pv 2) (fun _ _ => rfl)))) (blkOk_by (N := N_gathered) (sc := defScope TX.s_gathered) (by decide +kernel)) (fun _ _ _ _ _ => (pg_name (i := 6) sc_gathered.nd rfl (Or.inl rfl))) (fun _ _ _ _ _ => pts_nil) (fun _ _ _ _ _ => (pe_mid (pe_cal (ok_placed T) (hr.mono (by decide)) rfl T.g_placed pasN (pa_cons (pv 6) (pa_cons (pv 3) pa_nil)))))) o_iadd))))
  (pss_one (ps_ret (pv 4))))))), ?_⟩
    have tobj := T.obj
    have lk := hl.len
    have lok := ok.len
    refine q_new fun R hR => ?_
    have hRd : R ≠ d := fun e => by rw [e, hd] at hR; cases hR
    have sR := same_new (o := .lst []) hR
    refine q_stm (fun σ H' => Same H H' ∧ (∀ e ∈ es, folderN e.1 ≠ none) ∧ ∃ xs x2 x3 x5 x6, H' R = some (.lst xs) ∧ Each (RkV R R) es xs H' ∧ σ = [some (.ref d), some (.ref R), x2, x3, none, x5, x6]) ?_ ?_
    · refine ⟨d, _, sR _ _ hd, trivial, fun od => ?_⟩
      have hB : Same (upd H d (.frz od (.dK kvs))) (upd (upd H R (.lst [])) d (.frz od (.dK kvs))) := fun a u e => by
        by_cases ha : a = d
        · subst ha
          rw [upd_same] at e ⊢
          exact e
        · rw [upd_ne ha] at e ⊢
          exact sR a u e
      have hRB : upd H d (.frz od (.dK kvs)) R = none := by rw [upd_ne hRd]; exact hR
      refine for_mid (J0 := Itk d od kvs) (H0 := upd (upd H R (.lst [])) d (.frz od (.dK kvs))) ?_ walk_keys (fun k σ H' => Same (upd H d (.frz od (.dK kvs))) H' ∧ (∀ e ∈ es.take k, folderN e.1 ≠ none) ∧ ∃ xs x2 x3 x5 x6, H' R = some (.lst xs) ∧ Each (RkV R R) (es.take k) xs H' ∧ σ = [some (.ref d), some (.ref R), x2, x3, none, x5, x6])
        ⟨hB, (fun _ h => nomatch h), [], _, _, _, _, by rw [upd_ne hRd, upd_same], .nil, rfl⟩ (fun k σ H' _ h => h.1 _ _ upd_same) ?_ (fun σ H' h => ?_)
      · unfold iKeys
        walk_at "rd"
        exact ⟨od, .inl ⟨kvs, upd_same, rfl⟩⟩
      · rintro k x σ H2 H2' hk ⟨s2, hok, xs, x2, x3, x5, x6, hR2, each, rfl⟩ ⟨rfl, kk, v, hkv, rfl⟩
        obtain ⟨e, L, us, he, rfl, rfl, _, _⟩ := hl.at_ hkv
        obtain ⟨el, _, _⟩ := ok.each e (List.mem_of_getElem? he)
        have tk : es.take (k + 1) = es.take k ++ [e] := by rw [List.take_succ, he]; rfl
        have lt := List.length_take_le' k es
        have lx := each.1
        refine q_midG (fun v H' => Same H2' H' ∧ ∃ G ns, v = .ref G ∧ folderN e.1 = some ns ∧ H2' G = none ∧ H' G = some (.lst (nmsV ns))) ?_ ?_
        · walk_at "rd"
          refine ⟨e.1, rfl, el, fun ns G H' hf s hn hG => ⟨s, G, rfl, ns, hf, hn, hG⟩, fun hf H' s => q2 ⟨e, List.mem_of_getElem? he, hf⟩ od H' (s2.trans s)⟩
        rintro _ H3 ⟨s3, G, ns, rfl, hf, hG0, hG⟩
        have hGR : G ≠ R := fun e => by rw [e, hR2] at hG0; cases hG0
        have hR3 := s3 _ _ hR2
        have lenG : LenV K (.ref G) H3 (nmsV ns).length := .inl ⟨_, .inl (.inl hG), rfl⟩
        rw [nms_len] at lenG
        refine l_app rfl hR3 ?_
        walk_at "rd"
        refine .inr ⟨_, lenG, fun t ht => ⟨xs, ?_, by omega, ?_⟩⟩
        · exact (same_new ht) _ _ hR3
        have st := same_new (o := .tup [V.int (ns.length : Nat), V.str (S e.1), V.ref G]) ht
        have htR : t ≠ R := fun z => by rw [z, hR3] at ht; cases ht
        have mv : ∀ {e' : LE} {u : V}, RkV R R e' u H2' → RkV R R e' u (upd (upd H3 t (.tup [V.int (ns.length : Nat), V.str (S e.1), V.ref G])) R (.lst (xs ++ [V.ref t]))) := fun {e' u} ⟨t', G', ns', eu, hf', ht', hG', hGR', _⟩ => by
          have a1 := st _ _ (s3 _ _ ht')
          have a2 := st _ _ (s3 _ _ hG')
          refine ⟨t', G', ns', eu, hf', ?_, by rw [upd_ne hGR']; exact a2, hGR', hGR'⟩
          rw [upd_ne (fun z => by rw [z, hR2] at ht'; cases ht')]
          exact ht'.symm ▸ a1
        refine ⟨same_mut ((s2.trans s3).trans st) hRB, fun e' h' => ?_, _, upd_same, ?_⟩
        · rw [tk] at h'
          rcases List.mem_append.mp h' with h' | h'
          · exact hok e' h'
          · rw [List.mem_singleton.mp h', hf]
            simp
        · rw [tk]
          refine (each.imp fun _ _ d => mv d).snoc ⟨t, G, ns, rfl, hf, ?_, ?_, hGR, hGR⟩
          · rw [upd_ne htR, upd_same]
          · rw [upd_ne hGR]
            exact st _ _ hG
      · obtain ⟨s2, hok, xs, x2, x3, x5, x6, hR2, each, rfl⟩ := h
        rw [List.take_of_length_le (by omega)] at each hok
        refine ⟨s2 _ _ upd_same, same_unlock hd s2, hok, xs, _, _, _, _, by rw [upd_ne hRd]; exact hR2, each.imp fun e u ⟨t, G, ns, eu, hf, ht, hG, hGR, _⟩ => ⟨t, G, ns, eu, hf, ?_, ?_, hGR, hGR⟩, rfl⟩
        · rw [upd_ne (fun z => by rw [z, s2 _ _ upd_same] at ht; cases ht)]
          exact ht
        · rw [upd_ne (fun z => by rw [z, s2 _ _ upd_same] at hG; cases hG)]
          exact hG
    rintro σ H2 ⟨s2, hok, xs, x2, x3, x5, x6, hR2, each, rfl⟩
    refine q_new fun F hF => ?_
    have hF0 : H F = none := same_none s2 hF
    have sF := same_new (o := .lst []) hF
    have hRF : R ≠ F := fun e => by rw [← e, hR2] at hF; cases hF
    have eachF : Each (RkV R F) es xs (upd H2 F (.lst [])) := each.imp fun e u ⟨t, G, ns, eu, hf, ht, hG, hGR, _⟩ => ⟨t, G, ns, eu, hf, sF _ _ ht, sF _ _ hG, hGR, fun z => (by rw [z, hF] at hG; cases hG)⟩
    have hRF2 : upd H2 F (.lst []) R = some (.lst xs) := sF _ _ hR2
    have hFF : upd H2 F (.lst []) F = some (.lst []) := upd_same
    have s02 := s2.trans sF
    generalize upd H2 F (.lst []) = H3 at *
    refine q_stm (fun σ H' => Same H H' ∧ ∃ us es' y2 y3 y5 y6, SrtE es es' ∧ H' F = some (.lst us) ∧ Each (RowV K) (gathR es') us H' ∧ σ = [some (.ref d), some (.ref R), y2, y3, some (.ref F), y5, y6]) ?_ ?_
    · refine for_open (fun J H4 => ∃ p ys, J = Itl K p ∧ H4 = upd H3 p (.lst ys) ∧ H3 p = none ∧ ys.Perm xs ∧ ys.Pairwise (fun x y => ltK (keyAt H3 y) (keyAt H3 x) = false)) ?_ ?_
      · walk_at "rd"
        refine ⟨R, xs, keyAt H3, rfl, .inl (.inl hRF2), fun x hx => ?_, fun x hx y hy e => ?_, fun ys p perm so hp => ?_⟩
        · obtain ⟨i, hi⟩ := List.mem_iff_getElem?.mp hx
          obtain ⟨e, he, rk⟩ := eachF.at' hi
          have hk := rk.key
          obtain ⟨t, G, ns, rfl, hf, ht, _⟩ := rk
          refine ⟨t, [.ref G], rfl, ?_⟩
          rw [hk]
          unfold kE
          rw [hf]
          exact ht
        · obtain ⟨i, hi⟩ := List.mem_iff_getElem?.mp hx
          obtain ⟨j, hj⟩ := List.mem_iff_getElem?.mp hy
          obtain ⟨e1, he1, rk1⟩ := eachF.at' hi
          obtain ⟨e2, he2, rk2⟩ := eachF.at' hj
          rw [rk1.key, rk2.key] at e
          have e12 : e1.1 = e2.1 := congrArg (·.2) e
          have : i = j := nodup_idx ok.nd (x := e1.1) (by rw [List.getElem?_map, he1]; rfl) (by rw [List.getElem?_map, he2, e12]; rfl)
          subst this
          rw [hi] at hj
          exact Option.some.inj hj
        · exact .inl ⟨⟨_, .inl (.inl upd_same)⟩, p, rfl, ys, rfl, hp, perm, so⟩
      rintro _ _ ⟨p, ys, rfl, rfl, hp0, perm, so⟩
      obtain ⟨es', srt, eachS⟩ := ranked_sort eachF perm so
      have sp := same_new (o := .lst ys) hp0
      have hpF : p ≠ F := fun z => by rw [z, hFF] at hp0; cases hp0
      have les : es'.length ≤ 10 := by rw [srt.1.length_eq]; exact lok
      have eachS' : Each (RkV R F) es' ys (upd H3 p (.lst ys)) := eachS.imp fun e u ⟨t, G, ns, eu, hf, ht, hG, h1, h2⟩ => ⟨t, G, ns, eu, hf, sp _ _ ht, sp _ _ hG, h1, h2⟩
      refine for_midg (J0 := Itl K p) (H0 := upd H3 p (.lst ys)) ⟨rfl, rfl⟩ (walk_list (K := K) (a := p) (xs := ys)) (fun k σ H' => Same H H' ∧ H' p = some (.lst ys) ∧ Each (RkV R F) es' ys H' ∧ ∃ us y2 y3 y5 y6, H' F = some (.lst us) ∧ Each (RowV K) (gathR (es'.take k)) us H' ∧ σ = [some (.ref d), some (.ref R), y2, y3, some (.ref F), y5, y6])
        ⟨s02.trans sp, upd_same, eachS', [], _, _, _, _, sp _ _ hFF, .nil, rfl⟩ (fun k σ H' _ h => .inl (.inl h.2.1)) ?_ (fun σ H' h => ?_)
      · rintro k x σ H4 H4' hk ⟨s4, hp4, each4, us, y2, y3, y5, y6, hF4, rows4, rfl⟩ ⟨rfl, hx⟩
        obtain ⟨e, he, t, G, ns, rfl, hf, ht, hG, hGR, hGF⟩ := each4.at' hx
        have hes : e ∈ es := srt.1.mem_iff.mp (List.mem_of_getElem? he)
        obtain ⟨_, er, erok⟩ := ok.each e hes
        obtain ⟨nl, nok⟩ := ok.nms e hes ns hf
        obtain ⟨i, hi⟩ := List.mem_iff_getElem?.mp hes
        have hl4 : Lsts (RowV K) es kvs H4' := hl.mono s4 fun _ _ d => d.mono s4
        obtain ⟨L, lus, hval, hL, lrows⟩ := hl4.get ok.nd hi
        have llu := lrows.1
        have hd4 := s4 _ _ hd
        have tk : gathR (es'.take (k + 1)) = gathR (es'.take k) ++ e.2.map (placedR ns) := by
          rw [List.take_succ, he]
          unfold gathR
          rw [List.flatMap_append]
          simp [hf]
        have lg := rows4.1
        have lg2 : (gathR (es'.take k)).length ≤ 600 := by
          have h1 := flat_le60 (es := es'.take k) fun e he => (ok.each e (srt.1.mem_iff.mp (List.mem_of_mem_take he))).2.1
          have h2 := List.length_take_le' k es'
          omega
        refine ⟨t, [.int (ns.length : Nat), .str (S e.1), .ref G], rfl, .inl (.inl ht), rfl, _, _, rfl, _, _, rfl, _, [], rfl, rfl, ?_⟩
        unfold tAug
        refine ⟨.ref F, rfl, ?_⟩
        refine lc_midM (J0 := Itl K L) (H0 := H4') ?_ (walk_list (K := K) (a := L) (xs := lus)) (by rw [llu]; omega) (fun k acc H' => Each (RowV K) ((e.2.take k).map (placedR ns)) acc H') (fun _ _ _ _ e h => h.imp fun _ _ d => d.nl e) .nil (fun H' s => .inl (.inl (s _ _ hL))) (fun _ _ _ _ y => y_at y) (fun _ => rfl) ?_ ?_
        · walk_at "rd"
          exact ⟨.ref L, dget_s hd4 hval, .inl ⟨⟨_, .inl (.inl hL)⟩, rfl⟩⟩
        · rintro j x acc H' H'' hj s5 hc ⟨rfl, hx⟩
          obtain ⟨r, hr1, rv⟩ := lrows.at' hx
          refine mid_of (fun u H6 => Same H'' H6 ∧ RowV K (placedR ns r) u H6) ?_ ?_
          · walk_at "rd"
            exact ⟨x, G, ns, r, rfl, rv.mono s5, erok r (List.mem_of_getElem? hr1), .inl (.inl (s5 _ _ hG)), nl, nok, fun u H6 s h => ⟨s, h⟩⟩
          · rintro u H6 ⟨s6, h⟩
            refine ⟨s6, ?_⟩
            rw [List.take_succ, hr1, List.map_append]
            exact (hc.imp fun _ _ d => d.mono s6).snoc h
        intro P acc H5 hP s5 hPl lacc prow
        rw [List.take_of_length_le (by rw [llu]; exact Nat.le_refl _)] at prow
        have hF5 := s5 _ _ hF4
        walk_at "rd"
        refine ⟨F, P, us, acc, rfl, rfl, hF5, hPl, by rw [lacc, llu, sizeLine_eq]; omega, ?_⟩
        have hPF : P ≠ F := fun z => by rw [z, hF4] at hP; cases hP
        have nl5 := nl_upd (o := .lst (us ++ acc)) hF5
        refine ⟨same_mut (s4.trans s5) hF0, ?_, ?_, _, upd_same, ?_, rfl⟩
        · rw [upd_ne hpF]
          exact s5 _ _ hp4
        · refine each4.imp fun e u ⟨t, G, ns, eu, hf, ht, hG, h1, h2⟩ => ⟨t, G, ns, eu, hf, ?_, ?_, h1, h2⟩
          · exact nl5 _ _ (s5 _ _ ht) fun _ z => nomatch z
          · rw [upd_ne h2]
            exact s5 _ _ hG
        · rw [tk]
          exact ((rows4.imp fun _ _ d => d.mono s5).app prow).imp fun _ _ d => d.nl nl5
      · obtain ⟨s4, _, each4, us, y2, y3, y5, y6, hF4, rows4, e⟩ := h
        rw [List.take_of_length_le (by rw [each4.1]; exact Nat.le_refl _)] at rows4
        exact ⟨s4, us, es', _, _, _, _, srt, hF4, rows4, e⟩
    rintro σ H4 ⟨s4, us, es', y2, y3, y5, y6, srt, hF4, rows4, rfl⟩
    walk_at "rd"
    exact q1 hok F us es' H4 srt s4 hF0 hF4 rows4

/-! ### the law's own lists in folders -/
def foldT (nms : List (List Nat)) : List Nat := (nms.map (· ++ [47])).flatten
theorem foldT_join : ∀ {nms : List (List Nat)}, nms ≠ [] → foldT nms = TL.joinL [47] nms ++ [47]
  | [], h => absurd rfl h
  | [p], _ => by simp [foldT, TL.joinL]
  | p :: q :: r, _ => by
    have ih := foldT_join (nms := q :: r) (by simp)
    show (p ++ [47]) ++ foldT (q :: r) = p ++ ([47] ++ TL.joinL [47] (q :: r)) ++ [47]
    rw [ih]
    simp
theorem fold_names {nms : List (List Nat)} (h : ∀ nm ∈ nms, nm ≠ [] ∧ ∀ c ∈ nm, c ∈ SIG) : folderN (foldT nms) = some nms := by
  cases nms with
  | nil => rfl
  | cons p r =>
    have e := foldT_join (nms := p :: r) (by simp)
    have hp := pathN_join (fo := true) (by simp) h
    rw [if_pos rfl, ← e] at hp
    have hne : foldT (p :: r) ≠ [] := by rw [e]; simp
    unfold folderN
    rw [if_neg hne, hp]
theorem fold_count : ∀ {nms : List (List Nat)}, (∀ nm ∈ nms, nm ≠ [] ∧ ∀ c ∈ nm, c ∈ SIG) → (foldT nms).count 47 = nms.length
  | [], _ => rfl
  | p :: r, h => by
    have e : foldT (p :: r) = (p ++ [47]) ++ foldT r := rfl
    have h0 : p.count 47 = 0 := List.count_eq_zero.mpr (slash_sig (h p List.mem_cons_self).2)
    rw [e, List.count_append, List.count_append, h0, fold_count fun nm hn => h nm (List.mem_cons_of_mem _ hn), List.length_cons]
    simp
    omega
theorem foldT_len : ∀ {nms : List (List Nat)}, (∀ nm ∈ nms, nm.length ≤ 400) → (foldT nms).length ≤ 401 * nms.length
  | [], _ => Nat.le_refl _
  | p :: r, h => by
    have h1 := h p List.mem_cons_self
    have h2 := foldT_len fun nm hn => h nm (List.mem_cons_of_mem _ hn)
    have e : foldT (p :: r) = (p ++ [47]) ++ foldT r := rfl
    rw [e]
    simp only [List.length_append, List.length_cons, List.length_nil]
    omega
structure LEG (es : List LE) (n : Nat) : Prop where
  nd : (es.map (·.1)).Nodup
  len : es.length ≤ n
  fold : ∀ e ∈ es, ∃ nms, e.1 = foldT nms ∧ nms.length ≤ 3 ∧ ∀ nm ∈ nms, nm ≠ [] ∧ nm.length ≤ 400 ∧ ∀ c ∈ nm, c ∈ SIG
  rows : ∀ e ∈ es, e.2.length ≤ 5 ∧ ∀ r ∈ e.2, RF.Ok r
theorem LEG.nil {n : Nat} : LEG [] n := ⟨.nil, Nat.zero_le _, (fun _ h => nomatch h), (fun _ h => nomatch h)⟩
theorem LEG.put {es : List LE} {n : Nat} {nms : List (List Nat)} {rs : List RF} (h : LEG es n) (h1 : nms.length ≤ 3) (h2 : ∀ nm ∈ nms, nm ≠ [] ∧ nm.length ≤ 400 ∧ ∀ c ∈ nm, c ∈ SIG) (h3 : rs.length ≤ 5) (h4 : ∀ r ∈ rs, RF.Ok r) : LEG (putE es (foldT nms) rs) (n + 1) := by
  refine ⟨putE_keys h.nd, Nat.le_trans putE_len (Nat.succ_le_succ h.len), fun e he => ?_, fun e he => ?_⟩
  · rcases putE_mem he with he | ⟨e1, _⟩
    · exact h.fold e he
    · exact ⟨nms, e1, h1, h2⟩
  · rcases putE_mem he with he | ⟨_, e2⟩
    · exact h.rows e he
    · rw [e2]
      exact ⟨h3, h4⟩
theorem LEG.ok {es : List LE} {n : Nat} (h : LEG es n) (hn : n ≤ 9) : LEok es ∧ ∀ e ∈ es, folderN e.1 ≠ none := by
  refine ⟨⟨h.nd, Nat.le_trans h.len (by omega), fun e he => ?_, fun e he ns hf => ?_⟩, fun e he => ?_⟩
  · obtain ⟨nms, e1, l1, ok⟩ := h.fold e he
    have := foldT_len fun nm hn => (ok nm hn).2.1
    have h401 : 401 * nms.length ≤ 401 * 3 := Nat.mul_le_mul_left _ l1
    obtain ⟨l2, rok⟩ := h.rows e he
    exact ⟨by rw [e1]; omega, by omega, rok⟩
  · obtain ⟨nms, e1, l1, ok⟩ := h.fold e he
    rw [e1, fold_names fun nm hn => ⟨(ok nm hn).1, (ok nm hn).2.2⟩] at hf
    cases hf
    exact ⟨by omega, ok⟩
  · obtain ⟨nms, e1, l1, ok⟩ := h.fold e he
    rw [e1, fold_names fun nm hn => ⟨(ok nm hn).1, (ok nm hn).2.2⟩]
    simp
theorem lc_pairsL {K : PySem.W.Frag} {a : Addr} {xs : List V} {wi : TI} {i j : Nat} {te : TE} {vs : List Nat} {σ : L2.St} {H H0 : Hp} {Q : VK} (h : wi σ H fun J H1 => J = Itl K a ∧ H1 = H0) (ha : H0 a = some (.lst xs)) (hn : xs.length < 16777216) (f g : V → V) (hx : ∀ x ∈ xs, ∃ t, x = .ref t ∧ H0 t = some (.tup [f x, g x])) (C : Nat → List V → Hp → Prop) (hC : ∀ k acc Ha Hb, NL Ha Hb → C k acc Ha → C k acc Hb) (h0 : C 0 [] H0)
    (hw : ∀ x y, wipe (((wipe σ vs).set i (some x)).set j (some y)) vs = wipe σ vs)
    (turn : ∀ k x acc H', xs[k]? = some x → Same H0 H' → C k acc H' → tMid te (((wipe σ vs).set i (some (f x))).set j (some (g x))) H' fun v H4 => Same H' H4 ∧ C (k + 1) (acc ++ [v]) H4)
    (done : ∀ p acc H', H0 p = none → Same H0 H' → H' p = some (.lst acc) → acc.length = xs.length → C xs.length acc H' → Q (.ref p) H') : tLc (iMid wi) (gTup K 2 (gCons (gName i) (gCons (gName j) gNil))) tYes (tMid te) vs σ H Q := by
  refine ⟨_, h, ?_⟩
  rintro J H1 ⟨rfl, rfl⟩ p hp
  refine lc_it (walk_list (K := K) (a := a) (xs := xs)) (fun k H' => ∃ acc, Same H1 H' ∧ H' p = some (.lst acc) ∧ acc.length = k ∧ C k acc H') ⟨[], same_new hp, upd_same, rfl, hC _ _ _ _ (NL.of (same_new hp)) h0⟩ (fun k H' _ ⟨acc, s, _⟩ => .inl (.inl (s _ _ ha))) ?_ fun H' ⟨acc, s, hD, hl, c⟩ => done p acc H' hp s hD hl c
  rintro k v H' H'' hk ⟨acc, s, hD, hl, c⟩ ⟨rfl, hv⟩
  obtain ⟨t, rfl, ht⟩ := hx v (List.mem_of_getElem? hv)
  refine ⟨t, [f (.ref t), g (.ref t)], rfl, .inl (.inl (s _ _ ht)), rfl, _, [g (.ref t)], rfl, _, [], rfl, rfl, hw _ _, ?_⟩
  obtain ⟨R, h1, h2⟩ := turn k (.ref t) acc _ hv s c
  refine ⟨R, h1, ?_⟩
  rintro v H4 hR
  obtain ⟨s3, c'⟩ := h2 v H4 hR
  have hD4 : H4 p = some (.lst acc) := s3 _ _ hD
  refine ⟨acc, hD4, by rw [sizeLine_eq]; omega, acc ++ [v], same_mut (s.trans s3) hp, upd_same, by rw [List.length_append, hl]; rfl, hC _ _ _ _ (nl_upd hD4) c'⟩
theorem ranked_sortG {Rk : LE → V → Hp → Prop} {es : List LE} {xs ys : List V} {H : Hp} (key : ∀ e u, Rk e u H → keyAt H u = kE e) (h : Each Rk es xs H) (p : ys.Perm xs) (so : ys.Pairwise (fun x y => ltK (keyAt H y) (keyAt H x) = false)) : ∃ es', SrtE es es' ∧ Each Rk es' ys H := by
  have hx : xs = (es.zip xs).map (·.2) := by rw [List.map_snd_zip (by rw [h.1]; exact Nat.le_refl _)]
  rw [hx] at p
  obtain ⟨zs, p1, rfl⟩ := perm_map_inv p
  have he : es = (es.zip xs).map (·.1) := by rw [List.map_fst_zip (by rw [h.1]; exact Nat.le_refl _)]
  have mem : ∀ z ∈ zs, Rk z.1 z.2 H := fun z hz => by
    obtain ⟨i, hi⟩ := List.mem_iff_getElem?.mp (p1.mem_iff.mp hz)
    obtain ⟨h1, h2⟩ := List.getElem?_zip_eq_some.mp hi
    obtain ⟨u, hu, g⟩ := h.2 i _ h1
    rw [h2] at hu
    cases hu
    exact g
  refine ⟨zs.map (·.1), ⟨?_, ?_⟩, ?_, fun i e hi => ?_⟩
  · have := p1.map (·.1)
    rwa [← he] at this
  · rw [List.pairwise_map] at so ⊢
    refine so.imp_of_mem fun {a b} ha hb h => ?_
    rw [key _ _ (mem a ha), key _ _ (mem b hb)] at h
    exact h
  · rw [List.length_map, List.length_map]
  · rw [List.getElem?_map] at hi
    obtain ⟨z, hz, rfl⟩ := Option.map_eq_some_iff.mp hi
    exact ⟨z.2, by rw [List.getElem?_map, hz]; rfl, mem z (List.mem_of_getElem? hz)⟩
def RkQ (e : LE) (u : V) (H : Hp) : Prop := ∃ t, u = .ref t ∧ H t = some (.tup [.int (kE e).1, .str (S e.1)])
theorem RkQ.key {e : LE} {u : V} {H : Hp} (h : RkQ e u H) : keyAt H u = kE e := by
  obtain ⟨t, rfl, ht⟩ := h
  simp only [keyAt, ht]
  refine Prod.ext rfl ?_
  simp [kE]
theorem RkQ.nl {e : LE} {u : V} {H H' : Hp} (h : RkQ e u H) (n : NL H H') : RkQ e u H' := let ⟨t, a, b⟩ := h; ⟨t, a, n _ _ b fun _ z => nomatch z⟩
theorem LEG.count {es : List LE} {n : Nat} (h : LEG es n) {e : LE} (he : e ∈ es) : ((e.1.count 47 : Nat) : Int) = (kE e).1 := by
  obtain ⟨nms, e1, _, ok⟩ := h.fold e he
  have ok' : ∀ nm ∈ nms, nm ≠ [] ∧ ∀ c ∈ nm, c ∈ SIG := fun nm hn => ⟨(ok nm hn).1, (ok nm hn).2.2⟩
  unfold kE
  rw [e1, fold_count ok', fold_names ok']
  rfl
theorem count47 (l : List Nat) : Txt.count (S l) (S [47]) = l.count 47 := by
  have e := PyProof.Rows.count_is (S l) 47
  rw [show (S l).cps.toList = l from by simp] at e
  refine (show Txt.count (S l) (S [47]) = _ from e).trans ?_
  clear e
  induction l with
  | nil => rfl
  | cons c r ih =>
    show (if PySem.Spec.same (.str ⟨#[c]⟩) (.str ⟨#[47]⟩) then (1 : Int) else 0) + countIn _ (r.map fun n => PyData.str ⟨#[n]⟩) = _
    have h : PySem.Spec.same (.str ⟨#[c]⟩) (.str ⟨#[47]⟩) = (c == 47) := by
      by_cases hc : c = 47
      · subst hc; rfl
      · have h1 : (c == 47) = false := by simpa using hc
        rw [h1]
        show ((⟨#[c]⟩ : Str) == ⟨#[47]⟩) = false
        have h2 : ¬ (⟨#[c]⟩ : Str) = ⟨#[47]⟩ := fun e => hc (S1_inj e)
        simpa using h2
    rw [ih, h, List.count_cons]
    by_cases hc : (c == 47) = true
    · rw [if_pos hc, if_pos hc]; omega
    · rw [if_neg hc, if_neg hc]; omega
abbrev FmV (K : PySem.W.Frag) : RF → V → Hp → Prop := fun r v H => Dp K H v (RF.d r)
theorem cut_toL {xs : List V} {o : Nat} : cutV xs none (some (o : Int)) = xs.take o := by
  unfold cutV
  rw [HT.sIx_none, HT.sIx_nat, List.drop_zero, Nat.sub_zero]
  rcases Nat.le_total o xs.length with h | h
  · rw [Nat.min_eq_left h]
  · rw [Nat.min_eq_right h, List.take_of_length_le (Nat.le_refl _), List.take_of_length_le h]
theorem nms_take' {nms : List (List Nat)} {o : Nat} : (nmsV nms).take o = nmsV (nms.take o) := by unfold nmsV; rw [List.map_take, List.map_take]
theorem join_nil' : ∀ ls : List (List Nat), TL.joinL [] ls = ls.flatten
  | [] => rfl
  | [p] => by simp [TL.joinL]
  | p :: q :: r => by
    have ih := join_nil' (q :: r)
    show p ++ ([] ++ TL.joinL [] (q :: r)) = _
    rw [ih]
    rfl
def spLists (K : PySem.W.Frag) : Sp := fun vs H Q _ => ∃ a ns F rs p ws, ∃ first : Nat, vs = [.ref a, .int first, .ref F, .ref p] ∧ SqL K H a (List.map V.int ns) ∧ ns.length ≤ 63 ∧ first ≤ 50 ∧ RowsL K rs F H ∧ (1 ≤ rs.length ∧ rs.length ≤ 5) ∧ SqL K H p ws ∧ ws.length = 4 ∧ ws.Nodup ∧ (∀ v ∈ ws, SignV v) ∧
  ∀ d es kvs H', Same H H' → H d = none → H' d = some (.dK kvs) → Lsts (FmV K) es kvs H' → LEG es 4 → Q (.ref d) H'
theorem ok__law_lists (T : Txt K mg) : OkD P w K mg base 4 (fA K "_law_lists") ["_law_script", "_law_first", "_law_forms", "_law_signs_here"] [] (spLists K) := by
  refine okD T.F__law_lists sc__law_lists (fun _ _ _ _ _ _ us hl => match us, hl with | [_, _, _, _], _ => rfl) ?_ ?_
  · rintro vs H Q E ⟨a, ns, F, rs, p, ws, first, rfl, _⟩
    rfl
  · rintro cdv A outer s H vs Q E hr ⟨a, ns, F, rs, p, ws, first, rfl, ha, hn, hf, hF, hrs, hs, hl, nd, hw, q⟩
    refine ⟨_, (pss_cons (ps_set (i := 4) sc__law_lists.nd rfl (Or.inl rfl) (pe_mid pe_dnewK))
  (pss_cons (ps_mid (ps_for (passes_of rfl) rfl (pi_mid (pi_range1 rfl T.fr_range (pa_cons (pe_op op_mod (pe_op op_fdivW (pe_cal (ok__law_cell T) (hr.mono (by decide)) rfl T.g__law_cell (pasE (takes_of rfl rfl rfl rfl) (fun _ _ _ _ h => h)) (pa_cons (pv 0) (pa_cons (pv 1) pa_nil))) pe_int) pe_int) pa_nil))) (pg_name (i := 5) sc__law_lists.nd rfl (Or.inl rfl)) (pss_cons (ps_set (i := 6) sc__law_lists.nd rfl (Or.inr rfl) (pe_mid (pe_cal (ok__law_mixed T) (hr.mono (by decide)) rfl T.g__law_mixed (pasE (takes_of rfl rfl rfl rfl) (fun _ _ _ _ h => h)) (pa_cons (pe_cal (ok__law_cell T) (hr.mono (by decide)) rfl T.g__law_cell (pasE (takes_of rfl rfl rfl rfl) (fun _ _ _ _ h => h)) (pa_cons (pv 0) (pa_cons (pe_op (o_add (K := K)) (pe_op (o_add (K := K)) (pv 1) pe_int) (pv 5)) pa_nil))) (pa_cons pe_int pa_nil)))))
  (pss_cons (ps_set (i := 7) sc__law_lists.nd rfl (Or.inl rfl) (pe_mid (pe_slice (o_sl (K := K)) (pe_cal (ok__law_names T) (hr.mono (by decide)) rfl T.g__law_names (pasE (takes_of rfl rfl rfl rfl) (fun _ _ _ _ h => h)) (pa_cons (pe_ix (o_ix (K := K)) (pv 2) (pe_op op_mod (pv 6) (pe_callB (o_lenW (K := K) (w := w)) (by rfl) T.fr_len boot_len (pa_cons (pv 2) pa_nil))) (fun _ _ => rfl)) (pa_cons (pe_cal (ok__law_mixed T) (hr.mono (by decide)) rfl T.g__law_mixed (pasE (takes_of rfl rfl rfl rfl) (fun _ _ _ _ h => h)) (pa_cons (pv 6) (pa_cons pe_int pa_nil))) (pa_cons (pv 3) pa_nil)))) po_none (po_some (pe_op op_mod (pe_op op_fdivW (pv 6) pe_int) pe_int)))))
  (pss_cons (ps_set (i := 8) sc__law_lists.nd rfl (Or.inl rfl) (pe_mid (pe_bmK (K := K) PySem.F.plainAttrs_str PySem.F.slot_str_join PySem.F.type_str_join (mo_join (K := K)) pe_str (pa_cons (pe_lc (own := [("_law_name", 10)]) (g := (gName 10)) (tt := tYes) rfl sc__law_lists.nd (pi_mid (o_it (K := K) rfl (pv 7))) (blkOk_by (N := N__law_lists) (sc := defScope TX.s__law_lists) (by decide +kernel)) (fun _ _ _ _ _ => (pg_name (i := 10) sc__law_lists.nd rfl (Or.inl rfl))) (fun _ _ _ _ _ => pts_nil) (fun _ _ _ _ _ => (pe_mid (pe_op (o_add (K := K)) (pv 10) pe_str)))) pa_nil))))
  (pss_cons (ps_setLc (own := [("_law_j", 11)]) (g := (gName 11)) (tt := tYes) (i := 9) rfl sc__law_lists.nd rfl rfl (sw_true rfl rfl rfl (by decide +kernel)) (pi_mid (pi_range1 rfl T.fr_range (pa_cons (pe_op (o_add (K := K)) pe_int (pe_op op_mod (pe_op op_fdivW (pv 6) pe_int) pe_int)) pa_nil))) (blkOk_by (N := N__law_lists) (sc := defScope TX.s__law_lists) (by decide +kernel)) (fun _ _ _ _ _ => (pg_name (i := 11) sc__law_lists.nd rfl (Or.inl rfl))) (fun _ _ _ _ _ => pts_nil) (fun _ _ _ _ _ => (pe_mid (pe_cal (ok__law_row T) (hr.mono (by decide)) rfl T.g__law_row pasN (pa_cons (pe_cal (ok__law_mixed T) (hr.mono (by decide)) rfl T.g__law_mixed pasN (pa_cons (pv 6) (pa_cons (pe_op (o_add (K := K)) pe_int (pv 11)) pa_nil))) (pa_cons (pv 3) pa_nil))))))
  (pss_cons (ps_mid (ps_if (pt_mid (pt_cmpR (o_eq (K := K) (hu64 hr)) (pe_op op_mod (pe_op op_fdivW (pv 6) pe_int) pe_int) pe_int (nomark _))) (pss_one (ps_expr (pe_bmK (K := K) PySem.F.plainAttrs_list PySem.F.slot_list_append PySem.F.type_list_append mt_append (pv 9) (pa_cons (pe_mid (pe_tup (pa_cons (pe_tup (pa_cons (pe_tup (pa_cons pe_str pa_nil)) pa_nil)) (pa_cons (pe_cmpR (o_eq (K := K) (hu64 hr)) (pe_op op_mod (pe_op op_fdivW (pv 6) pe_int) pe_int) pe_int (nomark _)) (pa_cons (pe_cmpR (o_eq (K := K) (hu64 hr)) (pe_op op_mod (pe_op op_fdivW (pv 6) pe_int) pe_int) pe_int (nomark _)) pa_nil))))) pa_nil)))) pss_nil))
  (pss_one (ps_dput (hu_of hr) (pv 4) (pv 8) (pv 9) rfl)))))))))
  (pss_one (ps_ret (pv 4))))), ?_⟩
    have tobj := T.obj
    obtain ⟨us0, hF0, each0, oks0⟩ := id hF
    refine q_midG (fun v H' => ∃ d2, v = .ref d2 ∧ H d2 = none ∧ H' = upd H d2 (.dK [])) (fun p hp => ⟨p, rfl, hp, rfl⟩) ?_
    rintro _ _ ⟨d2, rfl, hd2, rfl⟩
    have sD := same_new (o := .dK []) hd2
    refine q_stm (fun σ H' => Same H H' ∧ ∃ es kvs x5 x6 x7 x8 x9 x10 x11, H' d2 = some (.dK kvs) ∧ Lsts (FmV K) es kvs H' ∧ LEG es 4 ∧ σ = [some (.ref a), some (.int (first : Nat)), some (.ref F), some (.ref p), some (.ref d2), x5, x6, x7, x8, x9, x10, x11]) ?_ ?_
    · refine for_open (fun J H' => ∃ n : Nat, J = Itr 0 n ∧ H' = upd H d2 (.dK []) ∧ n ≤ 4) ?_ ?_
      · walk_at "rd"
        refine ⟨a, first, ns, rfl, same_l sD ha, hn, by omega, by omega, fun c => ?_⟩
        have h0 : 0 ≤ c / 7 % 5 := Int.emod_nonneg _ (by decide)
        have h1 : c / 7 % 5 < 5 := Int.emod_lt_of_pos _ (by decide)
        exact ⟨c, rfl, ⟨by decide, by decide⟩, by omega, by omega, (c / 7 % 5).toNat, rfl, rfl, by omega⟩
      rintro _ _ ⟨n, rfl, rfl, hn4⟩
      refine for_mid (J0 := Itr 0 n) (H0 := upd H d2 (.dK [])) ⟨rfl, rfl⟩ walk_range (fun k σ H' => Same H H' ∧ ∃ es kvs x5 x6 x7 x8 x9 x10 x11, H' d2 = some (.dK kvs) ∧ Lsts (FmV K) es kvs H' ∧ LEG es k ∧ σ = [some (.ref a), some (.int (first : Nat)), some (.ref F), some (.ref p), some (.ref d2), x5, x6, x7, x8, x9, x10, x11])
        ⟨sD, [], [], _, _, _, _, _, _, _, upd_same, .nil, .nil, rfl⟩ (fun _ _ _ _ _ => trivial) ?_ (fun σ H' h => ?_)
      · rintro k x σ H1 H1' hk ⟨s1, es, kvs, x5, x6, x7, x8, x9, x10, x11, hd1, hl1, leg, rfl⟩ ⟨rfl, rfl⟩
        have ha1 := same_l s1 ha
        have hp1 := same_l s1 hs
        have hrs1 := hF.mono s1
        obtain ⟨us, hF1, each1, oks1⟩ := id hrs1
        refine q_mid (fun m => 0 ≤ m ∧ m < 2147483647) ?_ fun cell hcell => ?_
        · walk_at "rd"
          exact ⟨a, _, ns, rfl, ha1, hn, by omega, by omega, fun c => ⟨c, 70, rfl, fun m h1 h2 => ⟨rfl, m, rfl, h1, h2⟩⟩⟩
        obtain ⟨j, hj, hjl⟩ : ∃ j : Nat, cell % (rs.length : Int) = (j : Int) ∧ j < rs.length := ⟨(cell % (rs.length : Int)).toNat, by have := Int.emod_nonneg cell (b := (rs.length : Int)) (by omega); omega, by have := Int.emod_nonneg cell (b := (rs.length : Int)) (by omega); have := Int.emod_lt_of_pos cell (b := (rs.length : Int)) (by omega); omega⟩
        obtain ⟨u, hu, du⟩ := each1.2 j _ (List.getElem?_eq_getElem hjl)
        obtain ⟨okr, lor⟩ := oks1 _ (List.getElem_mem hjl)
        have okp : ∀ fs, SF.seg fs ∈ rs[j].steps → ∀ f ∈ fs, FOk f := fun fs h f hf => ⟨(show PartsOk fs from okr.ok _ h).ok f hf, lor fs h f hf⟩
        have h54 : 0 ≤ cell / 5 % 4 := Int.emod_nonneg _ (by decide)
        have h54' : cell / 5 % 4 < 4 := Int.emod_lt_of_pos _ (by decide)
        obtain ⟨i, hi⟩ : ∃ i : Nat, cell / 5 % 4 = (i : Int) := ⟨(cell / 5 % 4).toNat, by omega⟩
        refine q_midG (fun v H' => Same H1' H' ∧ ∃ g nms, v = .ref g ∧ H' g = some (.lst (nmsV nms)) ∧ nms.length ≤ 3 ∧ ∀ nm ∈ nms, nm ≠ [] ∧ nm.length ≤ 400 ∧ ∀ c ∈ nm, c ∈ SIG) ?_ ?_
        · walk_at "rd"
          have lF : LenV K (V.ref F) H1' us.length := .inl ⟨us, .inl (.inl hF1), rfl⟩
          refine .inr ⟨_, lF, by have := each1.1; omega, us, .inl (.inl (.inl hF1)), u, ?_, cell, 45, rfl, fun m _ _ => ⟨u, m, p, ws, rs[j], rfl, du, okr, okp, hp1, hl, nd, hw, fun G gs H' hne hus hlen s h => ?_⟩⟩
          · rw [each1.1, hj]
            exact atI_nat hu
          obtain ⟨nms, rfl, hnm⟩ := names_list hus
          walk_at "rd"
          refine ⟨⟨by decide, by decide⟩, .inl ⟨nmsV nms, .inl (.inl h), fun p1 hp1 => ⟨s.trans (same_new hp1), nms.take i, ?_, Nat.le_trans (by rw [List.length_take]; exact Nat.min_le_left _ _) (show i ≤ 3 by omega), fun nm h => hnm nm (List.mem_of_mem_take h)⟩⟩⟩
          rw [upd_same, hi, cut_toL, nms_take']
        rintro _ H2 ⟨s2, G, nms, rfl, hG, lnm, hnm⟩
        have hnm' : ∀ nm ∈ nms, nm ≠ [] ∧ ∀ c ∈ nm, c ∈ SIG := fun nm h => ⟨(hnm nm h).1, (hnm nm h).2.2⟩
        refine q_midG (fun v H' => Same H2 H' ∧ v = .str (S (foldT nms))) ?_ ?_
        · walk_at "rd"
          refine lc_midM (J0 := Itl K G) (H0 := H2) ?_ (walk_list (K := K) (a := G) (xs := nmsV nms)) (by rw [nms_len]; omega) (fun k acc _ => acc = nmsV ((nms.take k).map (· ++ [47]))) (fun _ _ _ _ _ e => e) rfl (fun H' s => .inl (.inl (s _ _ hG))) (fun _ _ _ _ y => y_at y) (fun _ => rfl) ?_ ?_
          · walk_at "rd"
            exact .inl ⟨_, .inl (.inl hG)⟩
          · rintro jj x acc H' H'' hj s4 rfl ⟨rfl, hx⟩
            obtain ⟨nm, hnm1, rfl⟩ := nms_at hx
            have l400 := (hnm nm (List.mem_of_getElem? hnm1)).2.1
            refine mid_of (fun v H4 => H4 = H'' ∧ v = .str (S (nm ++ [47]))) ?_ ?_
            · walk_at "rd"
              exact ⟨by rw [S_len]; show nm.length + 1 ≤ _; omega, S_cat _ _⟩
            · rintro _ _ ⟨rfl, rfl⟩
              refine ⟨Same.refl _, ?_⟩
              rw [List.take_succ, hnm1]
              simp [nmsV]
          intro W acc H3 hWn s3 hW _ hacc
          rw [List.take_of_length_le (by rw [nms_len]; exact Nat.le_refl _)] at hacc
          subst hacc
          have wl : ∀ w ∈ nms.map (· ++ [47]), w.length ≤ 401 := fun w hw => by
            obtain ⟨nm, h, rfl⟩ := List.mem_map.mp hw
            have := (hnm nm h).2.1
            rw [List.length_append, List.length_singleton]
            omega
          have l1 := sum_len wl
          rw [List.length_map] at l1
          refine ⟨(nms.map (· ++ [47])).map S, .inl (.inl (.inl hW)), ?_, s3, ?_⟩
          · rw [show (Str.ofString "").length = 0 from rfl]
            have : 401 * nms.length ≤ 401 * 3 := Nat.mul_le_mul_left _ lnm
            omega
          · rw [show Str.ofString "" = S [] from rfl, join_S, join_nil']
            rfl
        rintro _ H3 ⟨s3, rfl⟩
        have s13 := s2.trans s3
        have hp3 := same_l s13 hp1
        refine q_val ?_
        refine lc_open (fun J H' => ∃ m : Nat, J = Itr 0 m ∧ H' = H3 ∧ m ≤ 3) ?_ ?_
        · walk_at "rd"
          have h0 : 0 ≤ cell / 21 % 3 := Int.emod_nonneg _ (by decide)
          have h1 : cell / 21 % 3 < 3 := Int.emod_lt_of_pos _ (by decide)
          exact ⟨⟨by decide, by decide⟩, by omega, by omega, (1 + cell / 21 % 3).toNat, rfl, by omega⟩
        rintro _ _ ⟨m, rfl, rfl, hm3⟩
        rename_i H3
        refine lc_midM (J0 := Itr 0 m) (H0 := H3) ⟨rfl, rfl⟩ walk_range (by omega) (fun k acc H' => ∃ rr : List RF, Each (FmV K) rr acc H' ∧ rr.length = k ∧ ∀ r ∈ rr, RF.Ok r) (fun _ _ _ _ e ⟨rr, h1, h2⟩ => ⟨rr, h1.imp fun f _ d => dp_nl e _ _ (RF.tup f) d, h2⟩) ⟨[], .nil, rfl, fun _ h => nomatch h⟩ (fun _ _ => trivial) (fun _ _ _ _ y => y_fn y) (fun _ => rfl) ?_ ?_
        · rintro jj x acc H' H'' hj s' ⟨rr, e1, e2, e3⟩ ⟨rfl, rfl⟩
          refine mid_of (fun v H4 => Same H'' H4 ∧ ∃ r, RF.Ok r ∧ Dp K H4 v (RF.d r)) ?_ ?_
          · walk_at "rd"
            exact ⟨cell, _, rfl, fun mm _ _ => ⟨mm, p, ws, rfl, same_l s' hp3, hl, hw, fun v r H4 okr lo _ s4 d => ⟨s4, r, okr, d⟩⟩⟩
          · rintro v H4 ⟨s4, r, okr, d⟩
            refine ⟨s4, rr ++ [r], (e1.imp fun _ _ d => dp_mono s4 _ _ d).snoc d, by rw [List.length_append, List.length_singleton, e2], fun r' hr => (List.mem_append.mp hr).elim (e3 r') fun e => by rw [List.mem_singleton.mp e]; exact okr⟩
        rintro R rus H4 hR0 s4 hR lrus ⟨rr, rE, lrr, rok⟩
        refine q_stm (fun σ H' => Same H3 H' ∧ ∃ us rr y10 y11, H' R = some (.lst us) ∧ Each (FmV K) rr us H' ∧ rr.length ≤ 4 ∧ (∀ r ∈ rr, RF.Ok r) ∧ σ = [some (.ref a), some (.int (first : Nat)), some (.ref F), some (.ref p), some (.ref d2), some (.int (0 + (k : Int))), some (.int cell), some (.ref G), some (.str (S (foldT nms))), some (.ref R), y10, y11]) ?_ ?_
        · refine l_if (fun b H' => H' = H4) ?_ (fun H5 h => ?_) (fun H5 h => ?_)
          · walk_at "rd"
            exact ⟨by decide, by decide⟩
          · obtain rfl := h
            refine l_app rfl hR ?_
            walk_at "rd"
            intro q1 hq1 q2 hq2
            have t1 := same_new (o := .tup [V.str (Str.ofString "deep")]) hq1
            have t2 := same_new (o := .tup [V.ref q1]) hq2
            refine ⟨⟨by decide, by decide⟩, ⟨by decide, by decide⟩, fun q3 hq3 => ?_⟩
            have t3 := same_new (o := .tup [V.ref q2, V.bl (decide (cell / 252 % 2 = 1)), V.bl (decide (cell / 504 % 2 = 1))]) hq3
            have D0 : Dp K (upd H5 q1 (.tup [V.str (Str.ofString "deep")])) (.ref q1) (SF.d .deep) := .tup (.inl (.inl upd_same)) (.cons (.str _) .nil)
            have D1 := Dp.tup (K := K) (.inl (.inl (upd_same (H := upd H5 q1 (.tup [V.str (Str.ofString "deep")])) (a := q2) (o := .tup [V.ref q1])))) (.cons (dp_mono t2 _ _ D0) .nil)
            have D2 : Dp K (upd (upd (upd H5 q1 (.tup [V.str (Str.ofString "deep")])) q2 (.tup [V.ref q1])) q3 (.tup [V.ref q2, V.bl (decide (cell / 252 % 2 = 1)), V.bl (decide (cell / 504 % 2 = 1))])) (.ref q3) (RF.d ⟨[.deep], decide (cell / 252 % 2 = 1), decide (cell / 504 % 2 = 1)⟩) := .tup (.inl (.inl upd_same)) (.cons (dp_mono t3 _ _ D1) (.cons (.bl _) (.cons (.bl _) .nil)))
            have t13 := (t1.trans t2).trans t3
            generalize upd (upd (upd H5 q1 _) q2 _) q3 _ = H6 at *
            have hR6 := t13 _ _ hR
            have lru := rE.1
            refine ⟨rus, hR6, by omega, same_mut (s4.trans t13) hR0, _, upd_same, rr ++ [⟨[.deep], decide (cell / 252 % 2 = 1), decide (cell / 504 % 2 = 1)⟩], ?_, by rw [List.length_append, List.length_singleton]; omega, fun r hr => ?_⟩
            · have e6 : Each (FmV K) rr rus H6 := rE.imp fun f _ d => dp_mono t13 _ _ d
              exact Each.snoc (e6.imp fun f _ d => dp_nl (nl_upd hR6) _ _ (RF.tup f) d) (dp_nl (nl_upd hR6) _ _ (RF.tup _) D2)
            · rcases List.mem_append.mp hr with hr | hr
              · exact rok r hr
              · rw [List.mem_singleton.mp hr]
                exact ⟨by simp, fun s hs => by rw [List.mem_singleton.mp hs]; trivial, trivial, by show 1 ≤ 12; decide⟩
          · obtain rfl := h
            exact ⟨s4, rus, rr, _, _, hR, rE, by omega, rok, rfl⟩
        rintro σ H5 ⟨s5, us5, rr5, y10, y11, hR5, rE5, lrr5, rok5, rfl⟩
        have s15 := s13.trans s5
        have hd5 := s15 _ _ hd1
        have hl5 := hl1.mono s15 fun f u d => dp_mono s15 _ _ d
        have hlen := hl5.len
        have hput := hl5.put (f := foldT nms) (rs := rr5) hd5 hR5 rE5 fun g u h => dp_nd (.dict hd5) _ _ (RF.tup g) h
        have le := leg.len
        walk_at "rd"
        exact ⟨_, dput_s hd5 (by omega), same_mut (s1.trans s15) hd2, _, _, upd_same, hput, leg.put lnm hnm (by omega) rok5⟩
      · obtain ⟨s1, es, kvs, x5, x6, x7, x8, x9, x10, x11, hd1, hl1, leg, e⟩ := h
        exact ⟨s1, es, kvs, _, _, _, _, _, _, _, hd1, hl1, ⟨leg.nd, by have := leg.len; omega, leg.fold, leg.rows⟩, e⟩
    rintro σ H1 ⟨s1, es, kvs, x5, x6, x7, x8, x9, x10, x11, hd1, hl1, leg, rfl⟩
    walk_at "rd"
    exact q d2 es kvs _ s1 hd2 hd1 hl1 leg
def spMadeL (K : PySem.W.Frag) : Sp := fun vs H Q _ => ∃ d es kvs, vs = [.ref d] ∧ H d = some (.dK kvs) ∧ Lsts (FmV K) es kvs H ∧ LEG es 5 ∧ ∀ d2 kvs2 H', Same H H' → H d2 = none → H' d2 = some (.dK kvs2) → Lsts (RowV K) es kvs2 H' → Q (.ref d2) H'
theorem ok__law_made_lists (T : Txt K mg) : OkD P w K mg base 6 (fA K "_law_made_lists") ["_law_lists_here"] [] (spMadeL K) := by
  refine okD T.F__law_made_lists sc__law_made_lists (fun _ _ _ _ _ _ us hl => match us, hl with | [_], _ => rfl) ?_ ?_
  · rintro vs H Q E ⟨d, es, kvs, rfl, _⟩
    rfl
  · rintro cdv A outer s H vs Q E hr ⟨d, es, kvs, rfl, hd, hl, ok, q⟩
    refine ⟨_, (pss_cons (ps_set (i := 1) sc__law_made_lists.nd rfl (Or.inl rfl) (pe_mid pe_dnewK))
  (pss_cons (ps_mid (ps_lock (ps_for (passes_of rfl) rfl (pi_mid (pi_keys (pv 0))) (pg_name (i := 2) sc__law_made_lists.nd rfl (Or.inl rfl)) (pss_one (ps_dput (hu_of hr) (pv 1) (pv 2) (pe_lc (own := [("_law_form", 3)]) (g := (gName 3)) (tt := tYes) rfl sc__law_made_lists.nd (pi_mid (o_it (K := K) rfl (pe_dget (hu_of hr) (pv 0) (pv 2) (fun _ _ => rfl)))) (blkOk_by (N := N__law_made_lists) (sc := defScope TX.s__law_made_lists) (by decide +kernel)) (fun _ _ _ _ _ => (pg_name (i := 3) sc__law_made_lists.nd rfl (Or.inl rfl))) (fun _ _ _ _ _ => pts_nil) (fun _ _ _ _ _ => (pe_mid (pe_cal (ok__law_row_made T) (hr.mono (by decide)) rfl T.g__law_row_made pasN (pa_cons (pv 3) pa_nil))))) rfl)))))
  (pss_one (ps_ret (pv 1))))), ?_⟩
    have tobj := T.obj
    have lk := hl.len
    have lok := ok.len
    refine q_midG (fun v H' => ∃ d2, v = .ref d2 ∧ H d2 = none ∧ H' = upd H d2 (.dK [])) (fun p hp => ⟨p, rfl, hp, rfl⟩) ?_
    rintro _ _ ⟨d2, rfl, hd2, rfl⟩
    have hdd : d2 ≠ d := fun e => by rw [e, hd] at hd2; cases hd2
    have sD := same_new (o := .dK []) hd2
    refine q_stm (fun σ H' => Same H H' ∧ ∃ kvs2 x2 x3, H' d2 = some (.dK kvs2) ∧ Lsts (RowV K) es kvs2 H' ∧ σ = [some (.ref d), some (.ref d2), x2, x3]) ?_ ?_
    · refine ⟨d, _, sD _ _ hd, trivial, fun od => ?_⟩
      have hB : Same (upd H d (.frz od (.dK kvs))) (upd (upd H d2 (.dK [])) d (.frz od (.dK kvs))) := fun a u e => by
        by_cases ha : a = d
        · subst ha
          rw [upd_same] at e ⊢
          exact e
        · rw [upd_ne ha] at e ⊢
          exact sD a u e
      have hdB : upd H d (.frz od (.dK kvs)) d2 = none := by rw [upd_ne hdd]; exact hd2
      have hlB : Lsts (FmV K) es kvs (upd H d (.frz od (.dK kvs))) := hl.dict hd fun f u x => dp_nd (.dict hd) _ _ (RF.tup f) x
      have hfB : upd H d (.frz od (.dK kvs)) d = some (.frz od (.dK kvs)) := upd_same
      refine for_mid (J0 := Itk d od kvs) (H0 := upd (upd H d2 (.dK [])) d (.frz od (.dK kvs))) ?_ walk_keys (fun k σ H' => Same (upd H d (.frz od (.dK kvs))) H' ∧ ∃ kvs2 x2 x3, H' d2 = some (.dK kvs2) ∧ Lsts (RowV K) (es.take k) kvs2 H' ∧ σ = [some (.ref d), some (.ref d2), x2, x3])
        ⟨hB, [], _, _, by rw [upd_ne hdd, upd_same], .nil, rfl⟩ (fun k σ H' _ h => h.1 _ _ upd_same) ?_ (fun σ H' h => ?_)
      · unfold iKeys
        walk_at "rd"
        exact ⟨od, .inl ⟨kvs, upd_same, rfl⟩⟩
      · rintro k x σ H2 H2' hk ⟨s2, kvs2, x2, x3, hd22, hl2, rfl⟩ ⟨rfl, kk, v, hkv, rfl⟩
        have hlk := hlB.mono s2 fun _ _ x => dp_mono s2 _ _ x
        obtain ⟨e, L, us, he, rfl, rfl, hL, rows⟩ := hlk.at_ hkv
        obtain ⟨L', us', hval, hL', rows'⟩ := hlk.get ok.nd he
        have hdk := s2 _ _ hfB
        obtain ⟨er, erok⟩ := ok.rows e (List.mem_of_getElem? he)
        have lus := rows'.1
        unfold sDPut
        refine lc_midM (J0 := Itl K L') (H0 := H2') ?_ (walk_list (K := K) (a := L') (xs := us')) (by rw [lus]; omega) (fun k acc H' => Each (RowV K) (e.2.take k) acc H') (fun _ _ _ _ e h => h.imp fun _ _ d => d.nl e) .nil (fun H' s => .inl (.inl (s _ _ hL'))) (fun _ _ _ _ y => y_at y) (fun _ => rfl) ?_ ?_
        · walk_at "rd"
          exact ⟨.ref L', .inl ⟨kvs, .inr (S e.1), .inr ⟨od, hdk⟩, rfl, hval.symm⟩, .inl ⟨⟨_, .inl (.inl hL')⟩, rfl⟩⟩
        · rintro j x acc H' H'' hj s5 hc ⟨rfl, hx⟩
          obtain ⟨r, hr1, dr⟩ := rows'.at' hx
          refine mid_of (fun u H6 => Same H'' H6 ∧ RowV K r u H6) ?_ ?_
          · walk_at "rd"
            exact ⟨x, r, rfl, dp_mono s5 _ _ dr, erok r (List.mem_of_getElem? hr1), fun u H6 s h => ⟨s, h⟩⟩
          · rintro u H6 ⟨s6, h⟩
            refine ⟨s6, ?_⟩
            rw [List.take_succ, hr1]
            exact (hc.imp fun _ _ d => d.mono s6).snoc h
        intro P acc H5 hP s5 hPl lacc prow
        rw [List.take_of_length_le (by rw [lus]; exact Nat.le_refl _)] at prow
        have hd25 := s5 _ _ hd22
        have hl25 := hl2.mono s5 fun _ _ d => d.mono s5
        walk_at "rd"
        have hlen := hl25.len
        have hlt := List.length_take_le' k es
        have hdP : P ≠ d2 := fun z => by rw [z, hd22] at hP; cases hP
        have hput := hl25.put (f := e.1) (rs := e.2) hd25 hPl prow fun g u h => h.nd (.dict hd25)
        have hnew : ∀ e' ∈ es.take k, e'.1 ≠ e.1 := fun e' he' z => by
          obtain ⟨i, hi⟩ := List.mem_iff_getElem?.mp he'
          have hik : i < k := by
            rcases Nat.lt_or_ge i k with h | h
            · exact h
            · rw [List.getElem?_eq_none (by rw [List.length_take]; omega)] at hi
              cases hi
          rw [List.getElem?_take_of_lt hik] at hi
          have := nodup_idx ok.nd (x := e.1) (i := i) (j := k) (by rw [List.getElem?_map, hi, ← z]; rfl) (by rw [List.getElem?_map, he]; rfl)
          omega
        rw [putE_new hnew] at hput
        have tk : es.take (k + 1) = es.take k ++ [(e.1, e.2)] := by rw [List.take_succ, he]; rfl
        refine ⟨_, dput_s hd25 (by omega), same_mut (s2.trans s5) hdB, _, upd_same, ?_⟩
        rw [tk]
        exact hput
      · obtain ⟨s2, kvs2, x2, x3, hd22, hl2, rfl⟩ := h
        rw [List.take_of_length_le (by omega)] at hl2
        refine ⟨s2 _ _ upd_same, same_unlock hd s2, kvs2, _, _, by rw [upd_ne hdd]; exact hd22, ?_, rfl⟩
        exact hl2.unlock (s2 _ _ upd_same) fun f u x => x.nd (.frz (s2 _ _ upd_same))
    rintro σ H2 ⟨s2, kvs2, x2, x3, hd22, hl2, rfl⟩
    walk_at "rd"
    exact q d2 kvs2 _ s2 hd2 hd22 hl2
def spRanked (K : PySem.W.Frag) : Sp := fun vs H Q _ => ∃ d es kvs, vs = [.ref d] ∧ H d = some (.dK kvs) ∧ Lsts (FmV K) es kvs H ∧ LEG es 5 ∧ ∀ p es' H', SrtE es es' → Same H H' → H p = none → H' p = some (.lst (nmsV (es'.map (·.1)))) → Q (.ref p) H'
theorem ok__law_ranked (T : Txt K mg) : OkD P w K mg base 1 (fA K "_law_ranked") ["_law_lists_here"] [] (spRanked K) := by
  refine okD T.F__law_ranked sc__law_ranked (fun _ _ _ _ _ _ us hl => match us, hl with | [_], _ => rfl) ?_ ?_
  · rintro vs H Q E ⟨d, es, kvs, rfl, _⟩
    rfl
  · rintro cdv A outer s H vs Q E hr ⟨d, es, kvs, rfl, hd, hl, ok, q⟩
    refine ⟨_, (pss_one (ps_ret (pe_lc (own := [("_law_many", 2), ("_law_folder", 1)]) (g := (gTup K 2 (gCons (gName 2) (gCons (gName 1) gNil)))) (tt := tYes) rfl sc__law_ranked.nd (pi_mid (o_it (K := K) rfl (pe_callB (o_sortedT (K := K)) (by rfl) T.fr_sorted (by decide +kernel) (pa_cons (pe_lock (pe_lc (own := [("_law_folder", 1)]) (g := (gName 1)) (tt := tYes) rfl sc__law_ranked.nd (pi_mid (pi_keys (pv 0))) (blkOk_by (N := N__law_ranked) (sc := defScope TX.s__law_ranked) (by decide +kernel)) (fun _ _ _ _ _ => (pg_name (i := 1) sc__law_ranked.nd rfl (Or.inl rfl))) (fun _ _ _ _ _ => pts_nil) (fun _ _ _ _ _ => (pe_mid (pe_tup (pa_cons (pe_bmK (K := K) PySem.F.plainAttrs_str PySem.F.slot_str_count PySem.F.type_str_count mo_count (pv 1) (pa_cons pe_str pa_nil)) (pa_cons (pv 1) pa_nil))))))) pa_nil)))) (blkOk_by (N := N__law_ranked) (sc := defScope TX.s__law_ranked) (by decide +kernel)) (fun _ _ _ _ _ => (pg_tup rfl (pgs_cons (pg_name (i := 2) sc__law_ranked.nd rfl (Or.inl rfl)) (pgs_cons (pg_name (i := 1) sc__law_ranked.nd rfl (Or.inl rfl)) pgs_nil)))) (fun _ _ _ _ _ => pts_nil) (fun _ _ _ _ _ => (pe_mid (pv 1)))))), ?_⟩
    have tobj := T.obj
    have lk := hl.len
    have lok := ok.len
    show tLc _ _ _ _ _ _ _ _
    refine lc_open (fun J H1 => ∃ p ys es', J = Itl K p ∧ Same H H1 ∧ H1 p = some (.lst ys) ∧ SrtE es es' ∧ Each RkQ es' ys H1) ?_ ?_
    · walk_at "rd"
      refine ⟨d, _, hd, trivial, fun od => ?_⟩
      refine lc_midM (J0 := Itk d od kvs) (H0 := upd H d (.frz od (.dK kvs))) ?_ walk_keys (by omega) (fun k acc H' => Each RkQ (es.take k) acc H') (fun _ _ _ _ e h => h.imp fun _ _ d => d.nl e) .nil (fun H' s => s _ _ upd_same) (fun _ _ _ _ y => by rw [y.1]; exact Same.refl _) (fun _ => rfl) ?_ ?_
      · unfold iKeys
        walk_at "rd"
        exact ⟨od, .inl ⟨kvs, upd_same, rfl⟩⟩
      · rintro k x acc H' H'' hk s2 hc ⟨rfl, kk, v, hkv, rfl⟩
        obtain ⟨e, L, us, he, rfl, rfl, _, _⟩ := hl.at_ hkv
        refine mid_of (fun u H4 => Same H'' H4 ∧ RkQ e u H4) ?_ ?_
        · walk_at "rd"
          refine ⟨trivial, fun p hp => ⟨same_new hp, p, rfl, ?_⟩⟩
          rw [upd_same]
          show some (HO.tup [V.int (Txt.count (S e.1) (S [47])), V.str (S e.1)]) = _
          rw [count47, ok.count (List.mem_of_getElem? he)]
        · rintro u H4 ⟨s4, h⟩
          refine ⟨s4, ?_⟩
          rw [List.take_succ, he]
          exact (hc.imp fun _ _ d => d.nl (.of s4)).snoc h
      intro R xs H2 hR s2 hRl lxs each
      rw [List.take_of_length_le (by omega)] at each
      have hfr := s2 _ _ (show upd H d (.frz od (.dK kvs)) d = some (.frz od (.dK kvs)) from upd_same)
      have hRd : R ≠ d := fun z => by rw [z, upd_same] at hR; cases hR
      have s3 := same_unlock hd s2
      have each3 : Each RkQ es xs (upd H2 d (.dK kvs)) := each.imp fun e u ⟨t, a, b⟩ => ⟨t, a, by
        rw [upd_ne (fun z => by rw [z, hfr] at b; cases b)]
        exact b⟩
      have hR3 : upd H2 d (.dK kvs) R = some (.lst xs) := by rw [upd_ne hRd]; exact hRl
      refine ⟨hfr, R, xs, keyAt (upd H2 d (.dK kvs)), rfl, .inl (.inl hR3), fun x hx => ?_, fun x hx y hy e => ?_, fun ys p perm so hp => ?_⟩
      · obtain ⟨i, hi⟩ := List.mem_iff_getElem?.mp hx
        obtain ⟨e, he, rk⟩ := each3.at' hi
        have hk := rk.key
        obtain ⟨t, rfl, ht⟩ := rk
        exact ⟨t, [], rfl, by rw [hk]; exact ht⟩
      · obtain ⟨i, hi⟩ := List.mem_iff_getElem?.mp hx
        obtain ⟨j, hj⟩ := List.mem_iff_getElem?.mp hy
        obtain ⟨e1, he1, rk1⟩ := each3.at' hi
        obtain ⟨e2, he2, rk2⟩ := each3.at' hj
        rw [rk1.key, rk2.key] at e
        have e12 : e1.1 = e2.1 := congrArg (·.2) e
        have : i = j := nodup_idx ok.nd (x := e1.1) (by rw [List.getElem?_map, he1]; rfl) (by rw [List.getElem?_map, he2, e12]; rfl)
        subst this
        rw [hi] at hj
        exact Option.some.inj hj
      · obtain ⟨es', srt, eachS⟩ := ranked_sortG (fun _ _ r => r.key) each3 perm so
        have sp := same_new (o := .lst ys) hp
        exact .inl ⟨⟨_, .inl (.inl upd_same)⟩, p, rfl, s3.trans sp, ys, upd_same, es', srt, eachS.imp fun _ _ r => r.nl (.of sp)⟩
    rintro _ H1 ⟨p, ys, es', rfl, s1, hp, srt, each⟩
    have lys := each.1
    have les : es'.length ≤ 5 := by rw [srt.1.length_eq]; exact lok
    refine lc_pairsL (K := K) (a := p) (xs := ys) (H0 := H1) ⟨rfl, rfl⟩ hp (by omega) (fun x => .int (keyAt H1 x).1) (fun x => .str (S (keyAt H1 x).2)) (fun x hx => ?_) (fun k acc _ => acc = nmsV ((es'.take k).map (·.1))) (fun _ _ _ _ _ e => e) rfl (fun _ _ => rfl) ?_ ?_
    · obtain ⟨i, hi⟩ := List.mem_iff_getElem?.mp hx
      obtain ⟨e, he, rk⟩ := each.at' hi
      have hk := rk.key
      obtain ⟨t, rfl, ht⟩ := rk
      exact ⟨t, rfl, by rw [hk]; exact ht⟩
    · rintro k x acc H' hx s2 rfl
      obtain ⟨e, he, rk⟩ := each.at' hx
      rw [rk.key]
      refine mid_of (fun v H4 => H4 = H' ∧ v = .str (S e.1)) (by walk_at "rd"; rfl) ?_
      rintro _ _ ⟨rfl, rfl⟩
      refine ⟨Same.refl _, ?_⟩
      rw [List.take_succ, he]
      simp [nmsV]
    · intro P acc H2 hP s2 hPl lacc hacc
      rw [List.take_of_length_le (by omega)] at hacc
      subst hacc
      exact q P es' _ srt (s1.trans s2) (same_none s1 hP) hPl
/-! ### gathered rows may be told -/
theorem one_dok {nm : List Nat} (h : ∀ c ∈ nm, c ∈ SIG) : DOk 3 (oneS nm).d := dok_tup (all_cons (dok_str (by decide +kernel)) (all_cons (dok_tup fun d hd => by
  obtain ⟨f, hf, rfl⟩ := List.mem_map.mp hd
  obtain ⟨c, hc, rfl⟩ := List.mem_map.mp hf
  exact PF.dok (f := .one c) (h c hc)) all_nil))
/-- rows that may be told and compared -/
structure RTk (r : RF) : Prop where
  l1 : r.steps.length ≤ 1000
  l2 : ∀ fs, SF.seg fs ∈ r.steps → fs.length ≤ 1000
  dok : DOk 5 r.d
theorem RTk.of {r : RF} (h : r.Ok) : RTk r := ⟨RF.len1 h, RF.len2 h, RF.dok h⟩
theorem placed_tk {nms : List (List Nat)} {r : RF} (h : r.Ok) (hl : nms.length ≤ 50) (hn : ∀ nm ∈ nms, nm ≠ [] ∧ nm.length ≤ 400 ∧ ∀ c ∈ nm, c ∈ SIG) : RTk (placedR nms r) := by
  have mem : ∀ s ∈ (placedR nms r).steps, (∃ nm ∈ nms, s = oneS nm) ∨ s ∈ r.steps ∨ s = .seg [.stars] := fun s hs => by
    have hs' : s ∈ nms.map oneS ++ (r.steps ++ (if nms ≠ [] ∧ r.steps = [SF.deep] then [SF.seg [.stars]] else [])) := hs
    rcases List.mem_append.mp hs' with h1 | h1
    · obtain ⟨nm, hm, rfl⟩ := List.mem_map.mp h1
      exact .inl ⟨nm, hm, rfl⟩
    · rcases List.mem_append.mp h1 with h1 | h1
      · exact .inr (.inl h1)
      · split at h1
        · exact .inr (.inr (List.mem_singleton.mp h1))
        · cases h1
  refine ⟨?_, fun fs hf => ?_, dok_tup (all_cons (dok_tup fun d hd => ?_) (all_cons dok_bl (all_cons dok_bl all_nil)))⟩
  · show (nms.map oneS ++ (r.steps ++ (if nms ≠ [] ∧ r.steps = [SF.deep] then [SF.seg [.stars]] else []))).length ≤ 1000
    rw [List.length_append, List.length_append, List.length_map]
    have h1 : (if nms ≠ [] ∧ r.steps = [SF.deep] then [SF.seg [.stars]] else []).length ≤ 1 := by split <;> simp
    have := h.len
    omega
  · rcases mem _ hf with ⟨nm, hm, e⟩ | h1 | e
    · have e1 : fs = nm.map .one := SF.seg.inj e
      rw [e1, List.length_map]
      have := (hn nm hm).2.1
      omega
    · exact RF.len2 h fs h1
    · have e1 : fs = [.stars] := SF.seg.inj e
      rw [e1]
      decide
  · obtain ⟨s, hs, rfl⟩ := List.mem_map.mp hd
    rcases mem _ hs with ⟨nm, hm, rfl⟩ | h1 | rfl
    · exact one_dok (hn nm hm).2.2
    · exact SF.dok (h.ok s h1)
    · exact SF.dok (f := .seg [.stars]) (⟨by simp, fun f hf => by rw [List.mem_singleton.mp hf]; trivial, trivial, by decide⟩ : PartsOk [.stars])
theorem gath_tk {es es' : List LE} {n : Nat} (h : LEG es n) (srt : SrtE es es') : ∀ r ∈ gathR es', RTk r := fun r hr => by
  obtain ⟨e, he, hr1⟩ := List.mem_flatMap.mp hr
  obtain ⟨r0, h0, rfl⟩ := List.mem_map.mp hr1
  have hes := srt.1.mem_iff.mp he
  obtain ⟨nms, e1, l1, ok⟩ := h.fold e hes
  have ef : folderN e.1 = some nms := by rw [e1]; exact fold_names fun nm hn => ⟨(ok nm hn).1, (ok nm hn).2.2⟩
  rw [ef]
  exact placed_tk ((h.rows e hes).2 r0 h0) (by show nms.length ≤ 50; omega) ok
theorem gath_sz {es es' : List LE} {n : Nat} (h : LEG es n) (srt : SrtE es es') : ∀ r ∈ gathR es', RowSz r := fun r hr => ⟨(gath_tk h srt r hr).l1, (gath_tk h srt r hr).l2⟩
theorem gath_len {es es' : List LE} {n : Nat} (h : LEG es n) (hn : n ≤ 9) (srt : SrtE es es') : (gathR es').length ≤ 45 := by
  have key : ∀ l : List LE, (∀ e ∈ l, e.2.length ≤ 5) → (gathR l).length ≤ 5 * l.length := by
    intro l
    induction l with
    | nil => exact fun _ => Nat.le_refl _
    | cons e l ih =>
      intro hl
      have h1 := ih fun e he => hl e (List.mem_cons_of_mem _ he)
      have h2 := hl e List.mem_cons_self
      unfold gathR at h1 ⊢
      rw [List.flatMap_cons, List.length_append, List.length_map, List.length_cons]
      omega
  have h1 := key es' fun e he => (h.rows e (srt.1.mem_iff.mp he)).1
  have h2 := srt.1.length_eq
  have h3 := h.len
  omega

/-! ### a path's names, by the law; a folder's, too -/
structure CutP (w : List Nat) (nms : Names) (fo : Bool) : Prop where
  size : w.length ≤ 30000
  filt : (splW w).filter (fun l => !decide (l = [])) = nms
  lst : ∃ l, (nmsV (splW w)).getLast? = some (.str (S l)) ∧ (decide (l = []) = fo)
theorem GoodP.cut {w : List Nat} {nms : Names} {fo : Bool} (gp : GoodP w nms fo) : CutP w nms fo := by
  refine ⟨gp.size, gp.filt, ?_⟩
  rw [gp.spl]
  cases fo with
  | true => exact ⟨[], by rw [if_pos rfl, ← nms_app, List.getLast?_append]; rfl, rfl⟩
  | false =>
    rw [if_neg Bool.false_ne_true, List.append_nil]
    have hne := gp.ne
    refine ⟨nms.getLast hne, ?_, decide_eq_false (gp.nm _ (List.getLast_mem hne)).1⟩
    unfold nmsV
    rw [List.getLast?_map, List.getLast?_map, List.getLast?_eq_some_getLast hne]
    rfl
theorem cut_nil : CutP [] [] true := ⟨Nat.zero_le _, rfl, [], rfl, rfl⟩
def spCut (K : PySem.W.Frag) : Sp := fun vs H Q _ => ∃ wd nms fo, vs = [.str (S wd)] ∧ CutP wd nms fo ∧ ∀ p N H', Same H H' → H N = none → H' p = some (.tup [.ref N, .bl fo]) → H' N = some (.lst (nmsV nms)) → Q (.ref p) H'
theorem ok__law_cut (T : Txt K mg) : OkD P w K mg base 1 (fA K "_law_cut") ["_law_path"] [] (spCut K) := by
  refine okD T.F__law_cut sc__law_cut (fun _ _ _ _ _ _ us hl => match us, hl with | [_], _ => rfl) ?_ ?_
  · rintro vs H Q E ⟨wd, nms, fo, rfl, _⟩
    rfl
  · rintro cdv A outer s H vs Q E hr ⟨wd, nms, fo, rfl, gp, q⟩
    refine ⟨_, (pss_cons (ps_set (i := 1) sc__law_cut.nd rfl (Or.inl rfl) (pe_mid (pe_bmK (K := K) PySem.F.plainAttrs_str PySem.F.slot_str_split PySem.F.type_str_split mo_split (pv 0) (pa_cons pe_str pa_nil))))
  (pss_one (ps_ret (pe_tup (pa_cons (pe_mid (pe_lc (own := [("_law_name", 2)]) (g := (gName 2)) rfl sc__law_cut.nd (pi_mid (o_it (K := K) rfl (pv 1))) (blkOk_by (N := N__law_cut) (sc := defScope TX.s__law_cut) (by decide +kernel)) (fun _ _ _ _ _ => (pg_name (i := 2) sc__law_cut.nd rfl (Or.inl rfl))) (fun _ _ _ _ _ => (pts_one (pt_mid (pt_cmpR (o_ne (K := K) (hu64 hr)) (pv 2) pe_str (nomark _))))) (fun _ _ _ _ _ => (pe_mid (pv 2))))) (pa_cons (pe_cmpR (o_eq (K := K) (hu64 hr)) (pe_ix (o_ix (K := K)) (pv 1) (pe_un un_neg pe_int) (fun _ _ => rfl)) pe_str (nomark _)) pa_nil)))))), ?_⟩
    have tobj := T.obj
    have lw := gp.size
    refine q_midG (fun v H' => Same H H' ∧ ∃ N, v = .ref N ∧ H' N = some (.lst (nmsV (splW wd)))) ?_ ?_
    · walk_at "rd"
      have e : Txt.split (S wd) (S [47]) = (splW wd).map S := split_S (b := [47]) (by simp) (by decide)
      refine ⟨by decide, by rw [S_len, sizeLine_eq]; omega, fun p1 hp1 => ⟨same_new hp1, p1, rfl, ?_⟩⟩
      rw [upd_same, show Str.ofString "/" = S [47] from rfl, e]
      rfl
    rintro _ H1 ⟨s1, N, rfl, hN⟩
    have lsp : (splW wd).length ≤ wd.length + 1 := spl_cnt wd [] 0
    walk_at "rd"
    refine mid_of (fun v H' => Same H1 H' ∧ ∃ F, v = .ref F ∧ H1 F = none ∧ H' F = some (.lst (nmsV nms))) ?_ ?_
    · refine lc_midT (J0 := Itl K N) (H0 := H1) ?_ (walk_list (K := K) (a := N) (xs := nmsV (splW wd))) (by rw [nms_len]; omega) (fun k acc _ => acc = nmsV (((splW wd).take k).filter fun l => !decide (l = []))) (fun _ _ _ _ _ e => e) rfl (fun H' s => .inl (.inl (s _ _ hN))) (fun _ _ _ _ y => y_at y) (fun _ => rfl) ?_ ?_
      · walk_at "rd"
        exact .inl ⟨_, .inl (.inl hN)⟩
      · rintro k x acc H' H'' hk s' rfl ⟨rfl, hx⟩
        obtain ⟨nm, hnm, rfl⟩ := nms_at hx
        walk_at "rd"
        have tk : ((splW wd).take (k + 1)).filter (fun l => !decide (l = [])) = ((splW wd).take k).filter (fun l => !decide (l = [])) ++ (if nm = [] then [] else [nm]) := by
          rw [List.take_succ, hnm, List.filter_append]
          by_cases h : nm = [] <;> simp [h]
        rw [tk]
        by_cases h : nm = []
        · rw [if_neg fun z => z (by rw [h]; rfl), if_pos h, List.append_nil]
        · rw [if_pos (show ¬ S nm = Str.ofString "" from fun z => h (S_inj z)), if_neg h]
          simp [nmsV]
      · intro F acc H2 hF s2 hFl _ hacc
        rw [List.take_of_length_le (by rw [nms_len]; exact Nat.le_refl _), gp.filt] at hacc
        subst hacc
        exact ⟨s2, F, rfl, hF, hFl⟩
    rintro _ H2 ⟨s2, F, rfl, hFn, hF⟩
    obtain ⟨l, hl, hfo⟩ := gp.lst
    refine ⟨nmsV (splW wd), .inl (.inl (.inl (s2 _ _ hN))), _, atI_last hl, ?_⟩
    walk_at "rd"
    intro p1 hp1
    have n1 := same_new (o := .tup [V.ref F, V.bl (decide (S l = Str.ofString ""))]) hp1
    have e1 : decide (S l = Str.ofString "") = fo := by
      rw [← hfo]
      exact decide_eq_decide.mpr ⟨fun h => S_inj h, fun h => by rw [h]; rfl⟩
    refine q p1 F _ ((s1.trans s2).trans n1) (same_none s1 hFn) ?_ (n1 _ _ hF)
    rw [upd_same, e1]

/-! ### walks (plain) -/
def txtF (p : Names) : List Nat := p.flatMap fun x => x ++ [47]
def txtE (e : Names × Bool) : List Nat := txtF e.1.dropLast ++ e.1.getLastD [] ++ (if e.2 = true then [47] else [])
theorem txtF_app {p q : Names} : txtF (p ++ q) = txtF p ++ txtF q := by
  unfold txtF
  rw [List.flatMap_append]
theorem txtF_snoc {p : Names} {x : List Nat} : txtF (p ++ [x]) = txtF p ++ x ++ [47] := by
  rw [txtF_app]
  simp [txtF]
theorem txtE_snoc {p : Names} {x : List Nat} {fo : Bool} : txtE (p ++ [x], fo) = txtF p ++ x ++ (if fo = true then [47] else []) := by
  unfold txtE
  rw [show (p ++ [x], fo).1 = p ++ [x] from rfl, List.dropLast_concat, last_app]
theorem txtE_fold {p : Names} (h : p ≠ []) : txtE (p, true) = txtF p := by
  obtain e := drop_last h
  rw [e, txtE_snoc, txtF_snoc]
  rfl
/-- what is walked of a folder, in the walk's order -/
def entsE (E : List (Names × Bool)) : Nat → Names → List (Names × Bool)
  | 0, _ => []
  | n + 1, p => (srtW (kidN E p)).flatMap fun nm => if (p ++ [nm], true) ∈ E then (p ++ [nm], true) :: entsE E n (p ++ [nm]) else [(p ++ [nm], false)]
theorem paths_ents {E : List (Names × Bool)} : ∀ (n : Nat) (p : Names), pathsE E n p (txtF p) = (entsE E n p).map txtE
  | 0, _ => rfl
  | n + 1, p => by
    unfold pathsE entsE
    rw [List.map_flatMap]
    congr 1
    funext nm
    split
    · rw [List.map_cons, txtE_snoc, if_pos rfl, ← paths_ents n (p ++ [nm]), txtF_snoc]
    · rw [List.map_cons, txtE_snoc, if_neg Bool.false_ne_true, List.append_nil, List.map_nil]
theorem ents_mem {E : List (Names × Bool)} (ok : EOk E) : ∀ {n : Nat} {p : Names} {e : Names × Bool}, e ∈ entsE E n p → e ∈ E ∧ ∃ x t, e.1 = p ++ x :: t
  | 0, _, _, h => nomatch h
  | n + 1, p, e, h => by
    unfold entsE at h
    obtain ⟨nm, hnm, h⟩ := List.mem_flatMap.mp h
    obtain ⟨fo, hin⟩ := (kidN_mem ok).mp ((srt_perm _).mem_iff.mp hnm)
    split at h
    · rename_i ht
      rcases List.mem_cons.mp h with rfl | h
      · exact ⟨ht, nm, [], rfl⟩
      · obtain ⟨h1, x, t, h2⟩ := ents_mem ok h
        exact ⟨h1, nm, x :: t, by rw [h2]; simp⟩
    · rename_i ht
      rw [List.mem_singleton.mp h]
      refine ⟨?_, nm, [], rfl⟩
      cases fo with
      | true => exact absurd hin ht
      | false => exact hin
/-! prefixes -/
theorem pre47 {A B : List Nat} : ∀ {x y : List Nat}, 47 ∉ x → 47 ∉ y → x ++ 47 :: A <+: y ++ B → (B = [] ∨ ∃ B', B = 47 :: B') → x = y ∧ ∃ B', B = 47 :: B' ∧ A <+: B'
  | [], [], _, _, h, hB => by
    rcases hB with rfl | ⟨B', rfl⟩
    · have := h.length_le
      simp at this
    · exact ⟨rfl, B', rfl, (List.cons_prefix_cons.mp h).2⟩
  | [], y :: ys, _, hy, h, _ => absurd (List.mem_cons.mpr (.inl (List.cons_prefix_cons.mp h).1)) hy
  | x :: xs, [], hx, _, h, hB => by
    rcases hB with rfl | ⟨B', rfl⟩
    · have := h.length_le
      simp at this
    · exact absurd (List.mem_cons.mpr (.inl (List.cons_prefix_cons.mp h).1.symm)) hx
  | x :: xs, y :: ys, hx, hy, h, hB => by
    obtain ⟨e, h2⟩ := List.cons_prefix_cons.mp h
    obtain ⟨e2, h3⟩ := pre47 (fun m => hx (List.mem_cons_of_mem _ m)) (fun m => hy (List.mem_cons_of_mem _ m)) h2 hB
    exact ⟨by rw [e, e2], h3⟩
theorem txtF_nil {r : Names} (h : txtF r = []) : r = [] := by
  cases r with
  | nil => rfl
  | cons x r =>
    have : (txtF (x :: r)).length = 0 := by rw [h]; rfl
    unfold txtF at this
    simp at this
theorem txtE_one {x : List Nat} {fo : Bool} : txtE ([x], fo) = x ++ (if fo = true then [47] else []) := txtE_snoc (p := [])
theorem txtE_cons {x : List Nat} {q : Names} {fo : Bool} (h : q ≠ []) : txtE (x :: q, fo) = x ++ 47 :: txtE (q, fo) := by
  obtain e := drop_last h
  rw [e, ← List.cons_append, txtE_snoc, txtE_snoc, show txtF (x :: q.dropLast) = x ++ [47] ++ txtF q.dropLast from rfl]
  simp
/-- a folder's text stands ahead of a path's: its names do -/
theorem pre_txt : ∀ {r q : Names} {fo : Bool}, (∀ x ∈ r, 47 ∉ x) → (∀ x ∈ q, 47 ∉ x) → q ≠ [] → txtF r <+: txtE (q, fo) → r <+: q
  | [], _, _, _, _, _, _ => List.nil_prefix
  | x :: r, [], _, _, _, h, _ => absurd rfl h
  | x :: r, [y], fo, hr, hq, _, h => by
    rw [txtE_one, show txtF (x :: r) = (x ++ [47]) ++ txtF r from rfl, List.append_assoc] at h
    obtain ⟨e, B', e2, h2⟩ := pre47 (hr x List.mem_cons_self) (hq y List.mem_cons_self) h (by cases fo; exact .inl rfl; exact .inr ⟨[], rfl⟩)
    have e3 : B' = [] := by
      cases fo with
      | false => cases e2
      | true => exact (List.cons.inj e2).2.symm
    rw [e3] at h2
    have := txtF_nil (List.prefix_nil.mp h2)
    rw [e, this]
    exact List.prefix_refl _
  | x :: r, y :: z :: q, fo, hr, hq, _, h => by
    rw [txtE_cons (by simp), show txtF (x :: r) = (x ++ [47]) ++ txtF r from rfl, List.append_assoc] at h
    obtain ⟨e, B', e2, h2⟩ := pre47 (hr x List.mem_cons_self) (hq y List.mem_cons_self) h (.inr ⟨_, rfl⟩)
    rw [← (List.cons.inj e2).2] at h2
    have := pre_txt (fun w hw => hr w (List.mem_cons_of_mem _ hw)) (fun w hw => hq w (List.mem_cons_of_mem _ hw)) (by simp) h2
    rw [e]
    exact List.cons_prefix_cons.mpr ⟨rfl, this⟩
def wpre (r : Names) (e : Names × Bool) : Bool := (txtF r).isPrefixOf (txtE e)
theorem wpre_iff {r : Names} {e : Names × Bool} : wpre r e = true ↔ txtF r <+: txtE e := List.isPrefixOf_iff_prefix
theorem wpre_in {p : Names} {x : List Nat} {t : Names} {fo : Bool} : wpre p (p ++ x :: t, fo) = true := by
  rw [wpre_iff]
  unfold txtE
  rw [show (p ++ x :: t, fo).1 = p ++ x :: t from rfl, List.dropLast_append_of_ne_nil (by simp), txtF_app, List.append_assoc, List.append_assoc]
  exact List.prefix_append _ _
/-! what is shunned -/
def shB (rs : List RF) (nms : Names) (fo : Bool) : Bool := (List.range nms.length).any fun k => stops rs (stepN rs nms fo (k + 1))
theorem down_sh {rs : List RF} {nms : Names} {fo b : Bool} {o : Option Nat} (h : IsDown rs nms fo b o) : b = shB rs nms fo := by
  rcases h with ⟨rfl, k, hk, rfl, hs, _⟩ | ⟨rfl, _, hj⟩
  · exact (List.any_eq_true.mpr ⟨k, List.mem_range.mpr hk, hs⟩).symm
  · exact (List.any_eq_false.mpr fun k hk => by rw [hj k (List.mem_range.mp hk)]; exact Bool.false_ne_true).symm
theorem sh_more {rs : List RF} {p : Names} {x : List Nat} {fo : Bool} (h : shB rs p true = true) : shB rs (p ++ [x]) fo = true := by
  obtain ⟨k, hk, hs⟩ := List.any_eq_true.mp h
  have hk := List.mem_range.mp hk
  refine List.any_eq_true.mpr ⟨k, List.mem_range.mpr (by rw [List.length_append]; omega), ?_⟩
  unfold stepN at hs ⊢
  rw [List.take_append_of_le_length (by omega), List.length_append, List.length_singleton, decide_eq_true (show k + 1 < p.length + 1 by omega), Bool.or_true]
  rw [Bool.true_or] at hs
  exact hs
theorem sh_under {rs : List RF} {p : Names} (h : shB rs p true = true) : ∀ t : Names, shB rs (p ++ t) true = true := by
  intro t
  induction t generalizing p with
  | nil => rw [List.append_nil]; exact h
  | cons x t ih =>
    have := ih (p := p ++ [x]) (sh_more h)
    rwa [List.append_assoc] at this
def vis (rs : List RF) (e : Names × Bool) : Bool := !shB rs e.1.dropLast true
theorem vis_of {rs : List RF} {e : Names × Bool} (hne : e.1 ≠ []) (h : shB rs e.1 e.2 = false) : vis rs e = true := by
  unfold vis
  cases hv : shB rs e.1.dropLast true with
  | false => rfl
  | true =>
    have := sh_more (x := e.1.getLastD []) (fo := e.2) hv
    rw [← drop_last hne, h] at this
    cases this
/-! the walk -/
abbrev WS := Option Names × List (Names × Bool)
def wshut (sh : Option Names) (e : Names × Bool) : Bool := match sh with
  | some r => wpre r e
  | none => false
def wstep (rs : List RF) (s : WS) (e : Names × Bool) : WS := if wshut s.1 e = true then s else (if (shB rs e.1 e.2 && e.2) = true then some e.1 else s.1, s.2 ++ [e])
theorem wskip {rs : List RF} {r : Names} {out : List (Names × Bool)} : ∀ {L : List (Names × Bool)}, (∀ e ∈ L, wpre r e = true) → L.foldl (wstep rs) (some r, out) = (some r, out)
  | [], _ => rfl
  | e :: L, h => by
    rw [List.foldl_cons]
    have : wstep rs (some r, out) e = (some r, out) := if_pos (h e List.mem_cons_self)
    rw [this]
    exact wskip fun e he => h e (List.mem_cons_of_mem _ he)
theorem sig47 {x : List Nat} (h : NmOk x) : 47 ∉ x := fun m => absurd (h.2.2 47 m) (by decide +kernel)
theorem walk_under {E : List (Names × Bool)} (ok : EOk E) {rs : List RF} : ∀ (n : Nat) (p : Names) (sh : Option Names) (out : List (Names × Bool)), shB rs p true = false → (∀ r, sh = some r → ∀ e ∈ entsE E n p, wpre r e = false) →
    ∃ sh', (entsE E n p).foldl (wstep rs) (sh, out) = (sh', out ++ (entsE E n p).filter (vis rs)) ∧ ∀ r, sh' = some r → sh = some r ∨ ((∃ x t, r = p ++ x :: t) ∧ ∀ x ∈ r, 47 ∉ x)
  | 0, p, sh, out, _, _ => ⟨sh, by simp [entsE], fun r h => .inl h⟩
  | n + 1, p, sh, out, hp, hout => by
    let blk : List Nat → List (Names × Bool) := fun nm => if (p ++ [nm], true) ∈ E then (p ++ [nm], true) :: entsE E n (p ++ [nm]) else [(p ++ [nm], false)]
    have nm47 : ∀ {e : Names × Bool}, e ∈ E → ∀ x ∈ e.1, 47 ∉ x := fun he x hx => sig47 (ok.nm _ he x hx)
    have bmem : ∀ {nm : List Nat} {e : Names × Bool}, nm ∈ kidN E p → e ∈ blk nm → e ∈ E ∧ ∃ t, e.1 = p ++ nm :: t := by
      intro nm e hn he
      obtain ⟨fo, hin⟩ := (kidN_mem ok).mp hn
      show e ∈ E ∧ _
      have he' : e ∈ (if (p ++ [nm], true) ∈ E then (p ++ [nm], true) :: entsE E n (p ++ [nm]) else [(p ++ [nm], false)]) := he
      split at he'
      · rename_i ht
        rcases List.mem_cons.mp he' with rfl | h
        · exact ⟨ht, [], rfl⟩
        · obtain ⟨h1, x, t, h2⟩ := ents_mem ok h
          exact ⟨h1, x :: t, by rw [h2]; simp⟩
      · rename_i ht
        rw [List.mem_singleton.mp he']
        refine ⟨?_, [], rfl⟩
        cases fo with
        | true => exact absurd hin ht
        | false => exact hin
    have key : ∀ (L : List (List Nat)), L.Nodup → (∀ nm ∈ L, nm ∈ kidN E p) → ∀ sh out, (∀ r, sh = some r → ∀ nm ∈ L, ∀ e ∈ blk nm, wpre r e = false) →
        ∃ sh', (L.flatMap blk).foldl (wstep rs) (sh, out) = (sh', out ++ (L.flatMap blk).filter (vis rs)) ∧ ∀ r, sh' = some r → sh = some r ∨ ((∃ x t, r = p ++ x :: t) ∧ ∀ x ∈ r, 47 ∉ x) := by
      intro L
      induction L with
      | nil => exact fun _ _ sh out _ => ⟨sh, by simp, fun r h => .inl h⟩
      | cons nm L ihL =>
        intro nd hk sh out ho
        obtain ⟨nd1, nd2⟩ := List.nodup_cons.mp nd
        have hn := hk nm List.mem_cons_self
        have first : ∃ sh1, (blk nm).foldl (wstep rs) (sh, out) = (sh1, out ++ (blk nm).filter (vis rs)) ∧ ∀ r, sh1 = some r → sh = some r ∨ ((∃ t, r = p ++ nm :: t) ∧ ∀ x ∈ r, 47 ∉ x) := by
          have hb := ho
          have v0 : ∀ fo, vis rs (p ++ [nm], fo) = true := fun fo => by
            unfold vis
            rw [show (p ++ [nm], fo).1 = p ++ [nm] from rfl, List.dropLast_concat, hp]
            rfl
          have sw : ∀ e ∈ blk nm, wshut sh e = false := fun e he => by
            cases sh with
            | none => rfl
            | some r => exact ho r rfl nm List.mem_cons_self e he
          show ∃ sh1, (if (p ++ [nm], true) ∈ E then (p ++ [nm], true) :: entsE E n (p ++ [nm]) else [(p ++ [nm], false)]).foldl (wstep rs) (sh, out) = (sh1, out ++ (if (p ++ [nm], true) ∈ E then (p ++ [nm], true) :: entsE E n (p ++ [nm]) else [(p ++ [nm], false)]).filter (vis rs)) ∧ _
          have sw' : ∀ e ∈ (if (p ++ [nm], true) ∈ E then (p ++ [nm], true) :: entsE E n (p ++ [nm]) else [(p ++ [nm], false)]), wshut sh e = false := sw
          split
          · rename_i ht
            rw [if_pos ht] at sw'
            have h0 := sw' _ List.mem_cons_self
            rw [List.foldl_cons, List.filter_cons, if_pos (v0 true)]
            cases hb : shB rs (p ++ [nm]) true with
            | true =>
              have e1 : wstep rs (sh, out) (p ++ [nm], true) = (some (p ++ [nm]), out ++ [(p ++ [nm], true)]) := by
                unfold wstep
                rw [if_neg (by rw [h0]; exact Bool.false_ne_true), if_pos (by rw [show (p ++ [nm], true).1 = p ++ [nm] from rfl, hb]; rfl)]
              have e2 : (entsE E n (p ++ [nm])).filter (vis rs) = [] := by
                rw [List.filter_eq_nil_iff]
                intro e he
                obtain ⟨_, x, t, h2⟩ := ents_mem ok he
                unfold vis
                rw [h2, List.dropLast_append_of_ne_nil (by simp), sh_under hb]
                exact Bool.false_ne_true
              rw [e1, wskip fun e he => ?_, e2]
              · exact ⟨_, rfl, fun r hr => .inr ⟨⟨[], (Option.some.inj hr).symm⟩, (Option.some.inj hr) ▸ nm47 ht⟩⟩
              · obtain ⟨_, x, t, h2⟩ := ents_mem ok he
                obtain ⟨q, fo⟩ := e
                cases h2
                exact wpre_in
            | false =>
              have e1 : wstep rs (sh, out) (p ++ [nm], true) = (sh, out ++ [(p ++ [nm], true)]) := by
                unfold wstep
                rw [if_neg (by rw [h0]; exact Bool.false_ne_true), if_neg (by rw [show (p ++ [nm], true).1 = p ++ [nm] from rfl, hb]; exact Bool.false_ne_true)]
              rw [e1]
              obtain ⟨sh', h1, h2⟩ := walk_under ok n (p ++ [nm]) sh (out ++ [(p ++ [nm], true)]) hb fun r hr e he => by
                have := sw' e (List.mem_cons_of_mem _ he)
                rw [hr] at this
                exact this
              refine ⟨sh', by rw [h1, List.append_assoc]; rfl, fun r hr => (h2 r hr).imp id fun ⟨⟨x, t, e⟩, h⟩ => ⟨⟨x :: t, by rw [e]; simp⟩, h⟩⟩
          · rename_i ht
            rw [if_neg ht] at sw'
            have h0 := sw' _ List.mem_cons_self
            have e1 : wstep rs (sh, out) (p ++ [nm], false) = (sh, out ++ [(p ++ [nm], false)]) := by
              unfold wstep
              rw [if_neg (by rw [h0]; exact Bool.false_ne_true), if_neg (by rw [Bool.and_false]; exact Bool.false_ne_true)]
            rw [List.foldl_cons, List.foldl_nil, e1, List.filter_cons, if_pos (v0 false)]
            exact ⟨sh, rfl, fun r hr => .inl hr⟩
        obtain ⟨sh1, f1, f2⟩ := first
        obtain ⟨sh2, g1, g2⟩ := ihL nd2 (fun x hx => hk x (List.mem_cons_of_mem _ hx)) sh1 (out ++ (blk nm).filter (vis rs)) fun r hr nm2 hn2 e he => by
          rcases f2 r hr with h | ⟨⟨t, h⟩, h47⟩
          · exact ho r h nm2 (List.mem_cons_of_mem _ hn2) e he
          · obtain ⟨he1, t2, he2⟩ := bmem (hk nm2 (List.mem_cons_of_mem _ hn2)) he
            cases hw : wpre r e with
            | false => rfl
            | true =>
              have hx := pre_txt (fo := e.2) h47 (nm47 he1) (by rw [he2]; simp) (wpre_iff.mp hw)
              rw [h, he2, List.prefix_append_right_inj] at hx
              have : nm = nm2 := (List.cons_prefix_cons.mp hx).1
              rw [this] at nd1
              exact absurd hn2 nd1
        rw [List.flatMap_cons, List.foldl_append, f1, g1, List.filter_append, List.append_assoc]
        refine ⟨sh2, rfl, fun r hr => ?_⟩
        rcases g2 r hr with h | h
        · exact (f2 r h).imp id fun ⟨⟨t, e⟩, h⟩ => ⟨⟨nm, t, e⟩, h⟩
        · exact .inr h
    unfold entsE at hout ⊢
    refine key _ ((srt_perm _).nodup_iff.mpr (kidN_nd ok)) (fun nm hn => (srt_perm _).mem_iff.mp hn) sh out fun r hr nm hn e he => hout r hr e (List.mem_flatMap.mpr ⟨nm, hn, he⟩)
theorem walk_all {E : List (Names × Bool)} (ok : EOk E) {rs : List RF} : ∃ sh, (entsE E 10 []).foldl (wstep rs) (none, []) = (sh, (entsE E 10 []).filter (vis rs)) := by
  obtain ⟨sh, h, _⟩ := walk_under ok (rs := rs) 10 [] none [] rfl fun r h => nomatch h
  exact ⟨sh, h⟩
/-- an entry's text is a good path -/
theorem ent_good {E : List (Names × Bool)} (ok : EOk E) (hb : ∀ e ∈ E, e.1.length ≤ 9 ∧ ∀ x ∈ e.1, x.length ≤ 400) {e : Names × Bool} (he : e ∈ E) : GoodP (txtE e) e.1 e.2 := by
  have hne := ok.ne e he
  refine ⟨?_, hne, by have := (hb e he).1; omega, fun nm hn => ⟨(ok.nm e he nm hn).1, (hb e he).2 nm hn, (ok.nm e he nm hn).2.2⟩⟩
  obtain ⟨q, fo⟩ := e
  have key : ∀ q : Names, q ≠ [] → txtE (q, fo) = TL.joinL [47] q ++ (if fo = true then [47] else []) := by
    intro q
    induction q with
    | nil => exact fun h => absurd rfl h
    | cons x r ih =>
      intro _
      cases r with
      | nil => exact txtE_one
      | cons y r =>
        rw [txtE_cons (by simp), ih (by simp)]
        show x ++ 47 :: (TL.joinL [47] (y :: r) ++ _) = (x ++ ([47] ++ TL.joinL [47] (y :: r))) ++ _
        simp
  exact key q hne

/-! ### walked -/
/-- all but the lists and the tables stay -/
def XL (H H' : Hp) : Prop := ∀ a o, H a = some o → (∀ l, o ≠ .lst l) → (∀ ps, o ≠ .tbl ps) → H' a = some o
theorem PartO.nt {K : PySem.W.Frag} {dx : Addr} {f : PF} (ps : Array Value) : PartO K dx f ≠ .tbl ps := by cases f <;> exact fun h => nomatch h
theorem PartV.xl {K : PySem.W.Frag} {f : PF} {v : V} {H H' : Hp} (h : PartV K f v H) (e : XL H H') : PartV K f v H' := let ⟨p, dx, ev, hp⟩ := h; ⟨p, dx, ev, e _ _ hp PartO.nl PartO.nt⟩
theorem PartsV.xl {K : PySem.W.Frag} {fs : List PF} {us : List V} {H H' : Hp} (h : PartsV K fs us H) (e : XL H H') : PartsV K fs us H' := ⟨h.1, fun i f hf => let ⟨u, a, b⟩ := h.2 i f hf; ⟨u, a, b.xl e⟩⟩
theorem StepV.xl {K : PySem.W.Frag} {f : SF} {v : V} {H H' : Hp} (h : StepV K f v H) (e : XL H H') : StepV K f v H' := by
  cases f with
  | deep => obtain ⟨p, dx, a, b⟩ := h; exact ⟨p, dx, a, e _ _ b (fun _ z => nomatch z) fun _ z => nomatch z⟩
  | seg fs => obtain ⟨p, dx, t, us, a, b, c, d, z⟩ := h; exact ⟨p, dx, t, us, a, e _ _ b (fun _ z => nomatch z) (fun _ z => nomatch z), e _ _ c (fun _ z => nomatch z) (fun _ z => nomatch z), d.xl e, z⟩
theorem RowV.xl {K : PySem.W.Frag} {r : RF} {v : V} {H H' : Hp} (h : RowV K r v H) (e : XL H H') : RowV K r v H' := by
  obtain ⟨p, dx, t, us, a, b, c, d, z⟩ := h
  exact ⟨p, dx, t, us, a, e _ _ b (fun _ z => nomatch z) (fun _ z => nomatch z), e _ _ c (fun _ z => nomatch z) (fun _ z => nomatch z), d.imp fun _ _ s => s.xl e, z⟩
def RowsX (K : PySem.W.Frag) (rs : List RF) (l : Addr) (H : Hp) : Prop := ∃ us, H l = some (.lst us) ∧ Each (RowV K) rs us H ∧ (∀ r ∈ rs, RowSz r) ∧ rs.length ≤ 1000
theorem RowsX.o {K : PySem.W.Frag} {rs : List RF} {l : Addr} {H : Hp} (h : RowsX K rs l H) : RowsO K rs l H := let ⟨us, a, b⟩ := h; ⟨us, .inl (.inl a), b⟩
theorem RowsX.xl {K : PySem.W.Frag} {rs : List RF} {l : Addr} {H H' : Hp} (h : RowsX K rs l H) (e : XL H H') (hl : ∀ us, H l = some (.lst us) → H' l = some (.lst us)) : RowsX K rs l H' := let ⟨us, a, b, c⟩ := h; ⟨us, hl us a, b.imp fun _ _ d => d.xl e, c⟩
theorem ext_same {H H' : Hp} (s : Same H H') : LamX.ExtN H H' := fun b o e _ => s b o e
theorem ext_trans {H H1 H' : Hp} (s : LamX.ExtN H H1) (t : LamX.ExtN H1 H') : LamX.ExtN H H' := fun b o e n => t b o (s b o e n) n
theorem ext_xl {H H' : Hp} (s : LamX.ExtN H H') : XL H H' := fun b o e _ n => s b o e n
theorem nl_xl {H H' : Hp} (s : NL H H') : XL H H' := fun b o e n _ => s b o e n
theorem ext_mut {H H' : Hp} {L : Addr} {o : HO} (s : LamX.ExtN H H') (h : H L = none) : LamX.ExtN H (upd H' L o) := fun b u e n => by
  have ne : b ≠ L := fun z => by rw [z, h] at e; cases e
  rw [upd_ne ne]
  exact s b u e n
theorem RowsX.ext {K : PySem.W.Frag} {rs : List RF} {l : Addr} {H H' : Hp} (h : RowsX K rs l H) (e : LamX.ExtN H H') : RowsX K rs l H' := h.xl (ext_xl e) fun us g => e _ _ g fun _ z => nomatch z
theorem TreeE.ext {En : List (Names × Bool)} {al : Names → Addr} {H H' : Hp} (h : TreeE En al H) (s : LamX.ExtN H H') : TreeE En al H' := ⟨h.ok, fun p hp => s _ _ (h.at_ p hp) fun _ z => (nomatch z), h.inj⟩
theorem tabs_same {T : List NdefX.NTab} {H H' : Hp} (h : NdefX.TabsN T H) (s : Same H H') : NdefX.TabsN T H' := fun p hp => (h p hp).ext s
theorem tabs_upd {T : List NdefX.NTab} {H : Hp} {L : Addr} {xs : List V} {o : HO} (h : NdefX.TabsN T H) (hL : H L = some (.lst xs)) : NdefX.TabsN T (upd H L o) := fun p hp => by
  obtain ⟨ps, h1, h2, h3⟩ := h p hp
  refine ⟨ps, ?_, h2, fun pos cv hc => ?_⟩
  · rw [upd_ne fun e => by rw [e, hL] at h1; cases h1]
    exact h1
  · obtain ⟨c, e, g⟩ := h3 pos cv hc
    refine ⟨c, e, ?_⟩
    rw [upd_ne fun z => by rw [z, hL] at g; cases g]
    exact g
theorem starts_pre {w u : List Nat} : Txt.startswith (S w) (S u) = u.isPrefixOf w := by
  unfold Txt.startswith Builtin.Str.subAt
  refine Bool.eq_iff_iff.mpr ?_
  rw [Bool.and_eq_true, decide_eq_true_iff, beq_iff_eq, List.isPrefixOf_iff_prefix, List.prefix_iff_eq_take, S_len, S_len]
  have e : (S w).cps.extract 0 (0 + u.length) = (w.take u.length).toArray := by
    rw [Nat.zero_add]
    simp
  rw [e]
  constructor
  · rintro ⟨_, h⟩
    have := congrArg Array.toList h
    simpa using this.symm
  · intro h
    refine ⟨?_, by rw [← h]⟩
    have := congrArg List.length h
    rw [List.length_take] at this
    omega
/-- what act does at each path that is come to; mt: what it may change -/
structure WalkI (K : PySem.W.Frag) (rs : List RF) (l fa : Addr) (Fc : NdefX.NF) (ws : List (Option V)) (spa : List (Option V) → Sp) (mt : Addr → Prop) (I : List (Names × Bool) → Hp → Prop) : Prop where
  keep : ∀ v H', I v H' → RowsO K rs l H' ∧ H' fa = some (NdefX.FnO fa Fc) ∧ H' Fc.c = some (LamX.CodeO Fc.c Fc.qual)
  same : ∀ v H' H'', I v H' → Same H' H'' → I v H''
  mono : ∀ vs H' (Q1 Q2 : VK) (X : XK), spa ws vs H' Q1 X → (∀ r H'', Q1 r H'' → Q2 r H'') → spa ws vs H' Q2 X
  act : ∀ v e b o H', v.length ≤ 1000 → I v H' → GoodP (txtE e) e.1 e.2 → IsDown rs e.1 e.2 b o → spa ws [.str (S (txtE e)), .bl b, optV o] H' (fun _ H'' => I (v ++ [e]) H'' ∧ ∀ a u, H' a = some u → ¬ mt a → H'' a = some u) fun _ _ _ => False
def spWalk (P : Program) (w : World) (K : PySem.W.Frag) (mg : Str → Option Value) (base : Heap) : List Env → Heap → Sp := fun outer h vs H Q _ => ∃ En al l rs fa Fc fps fr ws spa mt I, vs = [.ref (al []), .ref l, .ref fa] ∧ TreeE En al H ∧ En.length ≤ 1000 ∧ (∀ p, (kidN En p).length ≤ 60) ∧ (∀ e ∈ En, e.1.length ≤ 9 ∧ ∀ x ∈ e.1, x.length ≤ 400) ∧
  NdefX.CellsAt Fc.cl fr ws h H ∧ (∀ y a, Fc.cl.lookup y = some a → a ∉ frs outer) ∧ NdefX.NOk P w K mg base (L2.CX P w) 3 fa Fc fps fr spa ∧ WalkI K rs l fa Fc ws spa mt I ∧ (∀ a, mt a → H a ≠ none) ∧ I [] H ∧ ∀ H', I ((entsE En 10 []).filter (vis rs)) H' → Q (.int ((entsE En 10 []).filter (vis rs)).length) H'
theorem shut_test {sh : Option Names} {e : Names × Bool} : wshut sh e = match sh with
  | some r => Txt.startswith (S (txtE e)) (S (txtF r))
  | none => false := by
  cases sh with
  | none => rfl
  | some r => exact starts_pre.symm
def shV (sh : Option Names) : V := match sh with
  | some r => .str (S (txtF r))
  | none => .non
theorem ok_walked (T : Txt K mg) : OkDS P w K mg base 13 (fA K "walked") ["tree", "rows", "act"] (spWalk P w K mg base) := by
  refine okDS T.F_walked sc_walked (fun _ _ _ _ _ _ us hl => match us, hl with | [_, _, _], _ => rfl) ?_ ?_
  · rintro outer h vs H Q E ⟨En, al, l, rs, fa, Fc, fps, fr, ws, spa, mt, I, rfl, _⟩
    rfl
  · rintro A outer s H vs Q E hr ⟨En, al, l, rs, fa, Fc, fps, fr, ws, spa, mt, I, rfl, ht, lE, kE, bE, hcc, hnf, Fn, wi, hmt, i0, q⟩
    refine ⟨_, (pss_cons (ps_set (i := 3) sc_walked.nd rfl (Or.inl rfl) (pe_mid pe_int))
  (pss_cons (ps_set (i := 4) sc_walked.nd rfl (Or.inl rfl) (pe_mid pe_non))
  (pss_cons (ps_mid (ps_for (passes_of rfl) rfl (pi_mid (o_it (K := K) rfl (pe_cal (ok_paths_within T 10) (hr.mono (by omega)) rfl T.g_paths_within (pasE (takes_of rfl rfl rfl rfl) (fun _ _ _ _ h => h)) (pa_cons (pv 0) (pa_cons pe_str pa_nil))))) (pg_name (i := 5) sc_walked.nd rfl (Or.inl rfl)) (pss_cons (ps_if (pt_mid (PW.pt (pw_and (pt_cmp (pc_notN (pv 4)) rfl) (pw_and1 (pt_tru (K := K) (pe_bmK (K := K) PySem.F.plainAttrs_str PySem.F.slot_str_startswith PySem.F.type_str_startswith mo_startswith (pv 5) (pa_cons (pv 4) pa_nil)) (by intro _; rfl)))))) (pss_one ps_continue) pss_nil)
  (pss_cons (ps_asg (pe_mid (pe_cal (ok_told T) (hr.mono (by decide)) rfl T.g_told (pasE (takes_of rfl rfl rfl rfl) (fun _ _ _ _ h => h)) (pa_cons (pv 1) (pa_cons (pv 5) pa_nil)))) (pg_tup rfl (pgs_cons (pg_name (i := 6) sc_walked.nd rfl (Or.inl rfl)) (pgs_cons (pg_name (i := 7) sc_walked.nd rfl (Or.inl rfl)) pgs_nil))))
  (pss_cons (ps_mid (ps_if (pt_mid (PW.pt (pw_and (pt_tru (K := K) (pv 6) (by intro _; rfl)) (pw_and1 (pt_tru (K := K) (pe_bmK (K := K) PySem.F.plainAttrs_str PySem.F.slot_str_endswith PySem.F.type_str_endswith mo_endswith (pv 5) (pa_cons pe_str pa_nil)) (by intro _; rfl)))))) (pss_one (ps_set (i := 4) sc_walked.nd rfl (Or.inl rfl) (pe_mid (pv 5)))) pss_nil))
  (pss_cons (ps_expr (pe_callC (i := 2) Fn hcc hnf rfl (hr.mono (by decide)) pasN rfl (Or.inl rfl) (pa_cons (pv 5) (pa_cons (pv 6) (pa_cons (pv 7) pa_nil)))))
  (pss_one (ps_aug (i := 3) sc_walked.nd rfl (Or.inl rfl) pe_int o_iadd))))))))
  (pss_one (ps_ret (pv 3)))))), ?_⟩
    have tobj := T.obj
    refine q_mid (fun n => n = 0) ?_ fun n0 hn0 => ?_
    · walk_at "rd"
    subst hn0
    refine q_midG (fun v H' => v = .non ∧ H' = H) (by walk_at "rd") ?_
    rintro _ _ ⟨rfl, rfl⟩
    rename_i H
    obtain ⟨shE, hE⟩ := walk_all ht.ok (rs := rs)
    refine q_stm (fun σ H' => I ((entsE En 10 []).filter (vis rs)) H' ∧ ∃ x4 x5 x6 x7, σ = [some (.ref (al [])), some (.ref l), some (.ref fa), some (.int ((entsE En 10 []).filter (vis rs)).length), x4, x5, x6, x7]) ?_ ?_
    · refine for_open (fun J H' => ∃ F, J = Itl K F ∧ Same H H' ∧ H' F = some (.lst (nmsV ((entsE En 10 []).map txtE))) ∧ ¬ mt F) ?_ ?_
      · walk_at "rd"
        refine ⟨En, al, [], [], rfl, ht, .inl rfl, rfl, lE, kE, Nat.zero_le _, fun F H' s hF hF' => .inl ⟨⟨_, .inl (.inl hF')⟩, F, rfl, s, ?_, fun h => hmt F h hF⟩⟩
        rw [hF', show ([] : List Nat) = txtF [] from rfl, paths_ents]
      rintro _ H1 ⟨F, rfl, s1, hF, nmt⟩
      refine for_mid (J0 := Itl K F) (H0 := H1) ⟨rfl, rfl⟩ (walk_list (K := K) (a := F) (xs := nmsV ((entsE En 10 []).map txtE))) (fun k σ H' => ∃ sh v x5 x6 x7, ((entsE En 10 []).take k).foldl (wstep rs) (none, []) = (sh, v) ∧ v.length ≤ k ∧ I v H' ∧ H' F = some (.lst (nmsV ((entsE En 10 []).map txtE))) ∧ σ = [some (.ref (al [])), some (.ref l), some (.ref fa), some (.int v.length), some (shV sh), x5, x6, x7])
        ⟨none, [], _, _, _, rfl, Nat.le_refl _, wi.same _ _ _ i0 s1, hF, rfl⟩ (fun _ _ _ _ ⟨_, _, _, _, _, _, _, _, h, _⟩ => .inl (.inl h)) ?_ (fun σ H' h => ?_)
      · rintro k x σ H2 H2' hk ⟨sh, v, x5, x6, x7, hf, lv, iv, hF2, rfl⟩ ⟨rfl, hx⟩
        obtain ⟨ft, hft, rfl⟩ := nms_at hx
        rw [List.getElem?_map] at hft
        obtain ⟨e, he, rfl⟩ := Option.map_eq_some_iff.mp hft
        obtain ⟨heE, _⟩ := ents_mem ht.ok (List.mem_of_getElem? he)
        have gp := ent_good ht.ok bE heE
        have lk : k ≤ 1000 := by
          have h1 := (List.getElem?_eq_some_iff.mp he).1
          have h2 := paths_len ht.ok 10 [] (txtF [])
          rw [paths_ents, List.length_map] at h2
          omega
        have fk : ((entsE En 10 []).take (k + 1)).foldl (wstep rs) (none, []) = wstep rs (sh, v) e := by
          rw [List.take_succ, he, List.foldl_append, hf]
          rfl
        obtain ⟨ro, hfa, hcd⟩ := wi.keep _ _ iv
        simp only [List.set_cons_zero, List.set_cons_succ]
        refine q_if (fun b H' => H' = H2' ∧ b = wshut sh e) ?_ (fun H3 h => ?_) (fun H3 h => ?_)
        · rw [shut_test]
          cases sh with
          | none =>
            walk_at "rd"
            rw [if_neg (fun h => h rfl)]
            trivial
          | some r =>
            walk_at "rd"
            rw [if_pos (fun h => by cases h)]
            exact ⟨_, rfl, rfl, rfl⟩
        · obtain ⟨rfl, hb⟩ := h
          walk_at "rd"
          exact ⟨sh, v, by rw [fk]; unfold wstep; rw [if_pos hb.symm], by omega, iv, hF2, rfl, rfl⟩
        · obtain ⟨rfl, hb⟩ := h
          refine q_next ?_
          refine q_pair (fun x y H' => Same H3 H' ∧ ∃ b o, x = .bl b ∧ y = optV o ∧ IsDown rs e.1 e.2 b o) ?_ ?_
          · walk_at "rd"
            refine ⟨l, txtE e, rs, rfl, Nat.le_trans gp.size (by decide), ro, fun nms fo hp b o p H' s hp' hd => ?_, fun hn => ?_⟩
            · obtain ⟨rfl, rfl⟩ : nms = e.1 ∧ fo = e.2 := by
                have := hp.symm.trans gp.path
                cases this
                exact ⟨rfl, rfl⟩
              exact ⟨p, rfl, _, _, .inl (.inl hp'), s, b, rfl, o, rfl, hd⟩
            · rw [gp.path] at hn
              cases hn
          rintro _ _ H4 ⟨s4, b, o, rfl, rfl, hd⟩
          have iv4 := wi.same _ _ _ iv s4
          obtain ⟨ro4, hfa4, hcd4⟩ := wi.keep _ _ iv4
          have hbs := down_sh hd
          refine q_stm (fun σ H' => H' = H4 ∧ σ = [some (.ref (al [])), some (.ref l), some (.ref fa), some (.int v.length), some (shV (if (b && e.2) = true then some e.1 else sh)), some (.str (S (txtE e))), some (.bl b), some (optV o)]) ?_ ?_
          · refine l_if (fun c H' => H' = H4 ∧ c = (b && e.2)) ?_ (fun H5 h => ?_) (fun H5 h => ?_)
            · walk_at "rd"
              refine ite2 (fun h => ?_) fun h => ?_
              · exact ⟨_, rfl, rfl, by rw [show b = true from h, Bool.true_and]; exact gp.ends⟩
              · rw [show b = false from by simpa using h]
                rfl
            · obtain ⟨rfl, hc⟩ := h
              refine l_midG (fun v H' => H' = H5 ∧ v = .str (S (txtE e))) ?_ ?_
              · walk_at "rd"
              · rintro _ _ ⟨rfl, rfl⟩
                refine ⟨rfl, ?_⟩
                rw [if_pos hc.symm]
                have e2 : e.2 = true := (Bool.and_eq_true _ _ ▸ hc.symm).2
                have : txtE e = txtF e.1 := by
                  obtain ⟨q, fo⟩ := e
                  cases e2
                  exact txtE_fold gp.ne
                show _ = [_, _, _, _, some (V.str (S (txtF e.1))), _, _, _]
                rw [← this]
                rfl
            · obtain ⟨rfl, hc⟩ := h
              refine ⟨rfl, ?_⟩
              rw [if_neg (by rw [← hc]; exact Bool.false_ne_true)]
              rfl
          rintro σ H5 ⟨rfl, rfl⟩
          walk_at "rd"
          unfold tCallC
          refine ⟨rfl, hfa4, hcd4, ?_⟩
          walk_at "rd"
          refine ⟨hfa4, hcd4, wi.mono _ _ _ _ _ (wi.act v e b o H5 (by omega) iv4 gp hd) fun r H6 ⟨i6, m6⟩ => ?_⟩
          exact ⟨_, v ++ [e], by rw [fk]; unfold wstep; rw [if_neg (by rw [← hb]; exact Bool.false_ne_true), ← hbs], by rw [List.length_append]; exact Nat.succ_le_succ lv, i6, m6 _ _ (s4 _ _ hF2) nmt, by rw [List.length_append]; rfl, rfl⟩
      · obtain ⟨sh, v, x5, x6, x7, hf, lv, iv, hF2, rfl⟩ := h
        rw [nms_len, List.length_map, List.take_length, hE] at hf
        cases hf
        exact ⟨iv, _, _, _, _, rfl⟩
    · rintro σ H1 ⟨i1, x4, x5, x6, x7, rfl⟩
      walk_at "rd"
      exact q _ i1

/-! ### what a walk finds -/
def spAct (f : Bool → Bool → Bool) : List (Option V) → Sp := fun ws vs H Q _ => ∃ L xs e b o, ws = [some (.ref L)] ∧ vs = [.str (S (txtE e)), .bl b, o] ∧ GoodP (txtE e) e.1 e.2 ∧ H L = some (.lst xs) ∧ xs.length < 16777216 ∧ Q .non (if f b e.2 = true then upd H L (.lst (xs ++ [.str (S (txtE e))])) else H)
/-- what is found so far: the heap ahead H, the list L -/
structure FoundI (K : PySem.W.Frag) (f : Bool → Bool → Bool) (rs : List RF) (l L fa : Addr) (Fc : NdefX.NF) (H : Hp) (v : List (Names × Bool)) (H' : Hp) : Prop where
  ext : LamX.ExtN H H'
  tab : NdefX.TabsN (tabsT K) H'
  lst : H' L = some (.lst (nmsV ((v.filter fun e => f (shB rs e.1 e.2) e.2).map txtE)))
  rows : RowsX K rs l H'
  fn : H' fa = some (NdefX.FnO fa Fc)
  cd : H' Fc.c = some (LamX.CodeO Fc.c Fc.qual)
theorem found_walkN {K : PySem.W.Frag} {f : Bool → Bool → Bool} {rs : List RF} {l L fa : Addr} {Fc : NdefX.NF} {H : Hp} (hL : H L = none) (nl : l ≠ L) : WalkI K rs l fa Fc [some (.ref L)] (spAct f) (· = L) (FoundI K f rs l L fa Fc H) where
  keep := fun v H' h => ⟨h.rows.o, h.fn, h.cd⟩
  same := fun v H' H'' h s => ⟨ext_trans h.ext (ext_same s), tabs_same h.tab s, s _ _ h.lst, h.rows.ext (ext_same s), s _ _ h.fn, s _ _ h.cd⟩
  mono := fun vs H' Q1 Q2 X ⟨L, xs, e, b, o, h1, h2, h3, h4, h5, q⟩ k => ⟨L, xs, e, b, o, h1, h2, h3, h4, h5, k _ _ q⟩
  act := fun v e b o H' lv h gp hd => by
    have hb := down_sh hd
    have ll : (nmsV ((v.filter fun e => f (shB rs e.1 e.2) e.2).map txtE)).length < 16777216 := by
      rw [nms_len, List.length_map]
      have := List.length_filter_le (fun e => f (shB rs e.1 e.2) e.2) v
      omega
    refine ⟨L, _, e, b, optV o, rfl, rfl, gp, h.lst, ll, ?_⟩
    rw [hb]
    by_cases hf : f (shB rs e.1 e.2) e.2 = true
    · rw [if_pos hf]
      refine ⟨⟨ext_mut h.ext hL, tabs_upd h.tab h.lst, ?_, h.rows.xl (nl_xl (nl_upd h.lst)) fun us g => by rw [upd_ne nl]; exact g, ?_, ?_⟩, fun a u g na => by rw [upd_ne na]; exact g⟩
      · rw [upd_same, List.filter_append, List.filter_cons, if_pos hf, List.map_append]
        unfold nmsV
        simp
      · rw [upd_ne fun z => by have := h.fn; rw [z, h.lst] at this; cases this]
        exact h.fn
      · rw [upd_ne fun z => by have := h.cd; rw [z, h.lst] at this; cases this]
        exact h.cd
    · rw [if_neg hf]
      refine ⟨⟨h.ext, h.tab, ?_, h.rows, h.fn, h.cd⟩, fun a u g _ => g⟩
      rw [List.filter_append, List.filter_cons, if_neg hf, List.filter_nil, List.append_nil]
      exact h.lst
theorem found_walk {K : PySem.W.Frag} {f : Bool → Bool → Bool} {rs : List RF} {l L fa : Addr} {Fc : NdefX.NF} {H : Hp} (hL : H L = none) (hl : H l ≠ none) : WalkI K rs l fa Fc [some (.ref L)] (spAct f) (· = L) (FoundI K f rs l L fa Fc H) := found_walkN hL fun z => hl (by rw [z]; exact hL)

/-! ### spared, tops -/
theorem nok_spared_act (T : Txt K mg) {qn : Str} {cl : List (Str × Addr)} {c f : Addr} : NdefX.NOk P w K mg base (L2.CX P w) 3 f (NdefX.NF.of s_spared_act "act" qn cl c) ["path", "shunned", "row"] ["found"] (spAct fun b fo => !b && !fo) := by
  refine NdefX.nok_of (N := ["path", "shunned", "row", "found"]) (NdefX.nscope_by (sc := C8.fnScope s_spared_act) (by decide +kernel)) (fun _ _ _ us hl => match us, hl with | [_, _, _], _ => rfl) ?_ ?_
  · rintro ws vs H Q E ⟨L, xs, e, b, o, _, rfl, _⟩
    rfl
  · rintro A outer s H vs ws Q E hr hf hc hl ⟨L, xs, e, b, o, rfl, rfl, gp, hL, lx, q⟩
    refine ⟨_, (pss_one (ps_if (pt_mid (PW.pt (pw_and (pt_not (pt_tru (K := K) (pv 1) (by intro _; rfl))) (pw_and1 (pt_not (pt_tru (K := K) (pe_bmK (K := K) PySem.F.plainAttrs_str PySem.F.slot_str_endswith PySem.F.type_str_endswith mo_endswith (pv 0) (pa_cons pe_str pa_nil)) (by intro _; rfl))))))) (pss_one (ps_expr (pe_bmK (K := K) PySem.F.plainAttrs_list PySem.F.slot_list_append PySem.F.type_list_append mt_append (pv 3) (pa_cons (pe_mid (pv 0)) pa_nil)))) pss_nil)), ?_⟩
    rw [show NdefX.startF [Str.ofString "path", Str.ofString "shunned", Str.ofString "row", Str.ofString "found"] [V.str (S (txtE e)), V.bl b, o] [some (V.ref L)] = [some (V.str (S (txtE e))), some (V.bl b), some o, some (V.ref L)] from rfl]
    refine l_if (fun c H' => H' = H ∧ c = (!b && !e.2)) ?_ (fun H1 h => ?_) (fun H1 h => ?_)
    · walk_at "rd"
      refine ite2 (fun h => ?_) fun h => ?_
      · exact ⟨_, rfl, rfl, by rw [show b = false from h, Bool.not_false, Bool.true_and]; exact congrArg (!·) gp.ends⟩
      · rw [show b = true from by simpa using h]
        rfl
    · obtain ⟨rfl, h⟩ := h
      change Q V.non (if (!b && !e.2) = true then upd H1 L (.lst (xs ++ [.str (S (txtE e))])) else H1) at q
      rw [if_pos h.symm] at q
      refine l_app (xs := xs) rfl hL ?_
      walk_at "rd"
      exact ⟨xs, hL, lx, q⟩
    · obtain ⟨rfl, h⟩ := h
      have h' : ¬ (!b && !e.2) = true := by rw [← h]; exact Bool.false_ne_true
      change Q V.non (if (!b && !e.2) = true then upd H1 L (.lst (xs ++ [.str (S (txtE e))])) else H1) at q
      rw [if_neg h'] at q
      exact q
theorem nok_tops_act (T : Txt K mg) {qn : Str} {cl : List (Str × Addr)} {c f : Addr} : NdefX.NOk P w K mg base (L2.CX P w) 3 f (NdefX.NF.of s_tops_act "act" qn cl c) ["path", "shunned", "row"] ["found"] (spAct fun b _ => b) := by
  refine NdefX.nok_of (N := ["path", "shunned", "row", "found"]) (NdefX.nscope_by (sc := C8.fnScope s_tops_act) (by decide +kernel)) (fun _ _ _ us hl => match us, hl with | [_, _, _], _ => rfl) ?_ ?_
  · rintro ws vs H Q E ⟨L, xs, e, b, o, _, rfl, _⟩
    rfl
  · rintro A outer s H vs ws Q E hr hf hc hl ⟨L, xs, e, b, o, rfl, rfl, gp, hL, lx, q⟩
    refine ⟨_, (pss_one (ps_if (pt_mid (pt_tru (K := K) (pv 1) (by intro _; rfl))) (pss_one (ps_expr (pe_bmK (K := K) PySem.F.plainAttrs_list PySem.F.slot_list_append PySem.F.type_list_append mt_append (pv 3) (pa_cons (pe_mid (pv 0)) pa_nil)))) pss_nil)), ?_⟩
    rw [show NdefX.startF [Str.ofString "path", Str.ofString "shunned", Str.ofString "row", Str.ofString "found"] [V.str (S (txtE e)), V.bl b, o] [some (V.ref L)] = [some (V.str (S (txtE e))), some (V.bl b), some o, some (V.ref L)] from rfl]
    refine l_if (fun c H' => H' = H ∧ c = b) ?_ (fun H1 h => ?_) (fun H1 h => ?_)
    · walk_at "rd"
    · obtain ⟨rfl, h⟩ := h
      change Q V.non (if b = true then upd H1 L (.lst (xs ++ [.str (S (txtE e))])) else H1) at q
      rw [if_pos h.symm] at q
      refine l_app (xs := xs) rfl hL ?_
      walk_at "rd"
      exact ⟨xs, hL, lx, q⟩
    · obtain ⟨rfl, h⟩ := h
      have h' : ¬ (b) = true := by rw [← h]; exact Bool.false_ne_true
      change Q V.non (if b = true then upd H1 L (.lst (xs ++ [.str (S (txtE e))])) else H1) at q
      rw [if_neg h'] at q
      exact q
def spSpared (K : PySem.W.Frag) (f : Bool → Bool → Bool) : Sp := fun vs H Q _ => ∃ En al l rs, vs = [.ref (al []), .ref l] ∧ NdefX.TabsN (tabsT K) H ∧ TreeE En al H ∧ En.length ≤ 1000 ∧ (∀ p, (kidN En p).length ≤ 60) ∧ (∀ e ∈ En, e.1.length ≤ 9 ∧ ∀ x ∈ e.1, x.length ≤ 400) ∧ RowsX K rs l H ∧
  ∀ F H', LamX.ExtN H H' → NdefX.TabsN (tabsT K) H' → H F = none → H' F = some (.lst (nmsV ((((entsE En 10 []).filter (vis rs)).filter fun e => f (shB rs e.1 e.2) e.2).map txtE))) → Q (.ref F) H'
theorem ok_spared (T : Txt K mg) (B : Txb K mg base) : OkD P w K mg base 14 (fA K "spared") ["tree", "rows"] [] (spSpared K fun b fo => !b && !fo) := by
  refine OkDS.toD (okDS T.F_spared sc_spared (fun _ _ _ _ _ _ us hl => match us, hl with | [_, _], _ => rfl) ?_ ?_)
  · rintro _ _ vs H Q E ⟨En, al, l, rs, rfl, _⟩
    rfl
  · rintro A outer s H vs Q E hr ⟨En, al, l, rs, rfl, tb, ht, lE, kE, bE, hrs, q⟩
    have hcode := code_of T.F_spared
    refine ⟨_, (pss_cons (ps_set (i := 2) sc_spared.nd rfl (Or.inr rfl) (pe_lst pa_nil))
  (pss_cons (NdefX.ps_ndefMS (T := tabsT K) (nm := nmQ) (c := cdP K "spared") (P := tbP K "spared") (i := 3) rfl B.tb_spared hcode (by simp [tabsT]) (show nmQ 192 4 = Str.ofString "spared" ++ Str.ofString ".<locals>." ++ Str.ofString "act" from by decide +kernel) (fun p hp _ => tabsT_nm p hp) (NdefX.ndef_free (sc := defScope TX.s_spared) (nsc := C8.fnScope s_spared_act) (fr := ["found"]) (by decide +kernel)) rfl rfl rfl sc_spared.nd rfl (Or.inl rfl) (Or.inl rfl))
  (pss_cons (ps_expr (pe_calW (js := [2]) (fr := ["found"]) (ok_walked T) (hr.mono (by decide)) rfl T.g_walked (pasE (takes_of rfl rfl rfl rfl) (fun _ _ _ _ h => h)) (fun ok => NdefX.Caps.made (scope := C8.fnScope s_spared_act) ok (NdefX.ndef_free (sc := defScope TX.s_spared) (nsc := C8.fnScope s_spared_act) (fr := ["found"]) (by decide +kernel)) (by decide +kernel) rfl) (fun _ => rfl) (pa_cons (pv 0) (pa_cons (pv 1) (pa_cons (pv 3) pa_nil)))))
  (pss_one (ps_ret (pv 2)))))), ?_⟩
    have tobj := T.obj
    refine q_new fun L hL => ?_
    have sL := same_new (o := .lst []) hL
    unfold tSeq NdefX.tNdefM
    refine ⟨tabs_same tb sL, fun f c H1 ext nd tb1 hf hfn hcd => ?_⟩
    walk_at "rd"
    unfold tCallSH
    walk_at "rd"
    rintro outer h ⟨cc, nfc⟩
    have hL1 : H1 L = some (.lst []) := ext _ _ upd_same fun _ z => (nomatch z)
    have e1 : LamX.ExtN H H1 := ext_trans (ext_same sL) ext
    refine ⟨En, al, l, rs, f, NdefX.NF.of s_spared_act "act" _ _ c, _, _, [some (.ref L)], spAct (fun b fo => !b && !fo), (· = L), FoundI K (fun b fo => !b && !fo) rs l L f (NdefX.NF.of s_spared_act "act" _ _ c) H, rfl, ht.ext e1, lE, kE, bE, cc, nfc, nok_spared_act T, found_walk hL ?_, fun a ha => by rw [ha, hL1]; exact fun z => (nomatch z), ⟨e1, tb1, hL1, hrs.ext e1, hfn, hcd⟩, fun H' i => q L H' i.ext i.tab hL i.lst⟩
    obtain ⟨us, h, _⟩ := hrs
    rw [h]
    exact fun z => (nomatch z)
theorem ok_tops (T : Txt K mg) (B : Txb K mg base) : OkD P w K mg base 14 (fA K "tops") ["tree", "rows"] [] (spSpared K fun b _ => b) := by
  refine OkDS.toD (okDS T.F_tops sc_tops (fun _ _ _ _ _ _ us hl => match us, hl with | [_, _], _ => rfl) ?_ ?_)
  · rintro _ _ vs H Q E ⟨En, al, l, rs, rfl, _⟩
    rfl
  · rintro A outer s H vs Q E hr ⟨En, al, l, rs, rfl, tb, ht, lE, kE, bE, hrs, q⟩
    have hcode := code_of T.F_tops
    refine ⟨_, (pss_cons (ps_set (i := 2) sc_tops.nd rfl (Or.inr rfl) (pe_lst pa_nil))
  (pss_cons (NdefX.ps_ndefMS (T := tabsT K) (nm := nmQ) (c := cdP K "tops") (P := tbP K "tops") (i := 3) rfl B.tb_tops hcode (by simp [tabsT]) (show nmQ 200 4 = Str.ofString "tops" ++ Str.ofString ".<locals>." ++ Str.ofString "act" from by decide +kernel) (fun p hp _ => tabsT_nm p hp) (NdefX.ndef_free (sc := defScope TX.s_tops) (nsc := C8.fnScope s_tops_act) (fr := ["found"]) (by decide +kernel)) rfl rfl rfl sc_tops.nd rfl (Or.inl rfl) (Or.inl rfl))
  (pss_cons (ps_expr (pe_calW (js := [2]) (fr := ["found"]) (ok_walked T) (hr.mono (by decide)) rfl T.g_walked (pasE (takes_of rfl rfl rfl rfl) (fun _ _ _ _ h => h)) (fun ok => NdefX.Caps.made (scope := C8.fnScope s_tops_act) ok (NdefX.ndef_free (sc := defScope TX.s_tops) (nsc := C8.fnScope s_tops_act) (fr := ["found"]) (by decide +kernel)) (by decide +kernel) rfl) (fun _ => rfl) (pa_cons (pv 0) (pa_cons (pv 1) (pa_cons (pv 3) pa_nil)))))
  (pss_one (ps_ret (pv 2)))))), ?_⟩
    have tobj := T.obj
    refine q_new fun L hL => ?_
    have sL := same_new (o := .lst []) hL
    unfold tSeq NdefX.tNdefM
    refine ⟨tabs_same tb sL, fun f c H1 ext nd tb1 hf hfn hcd => ?_⟩
    walk_at "rd"
    unfold tCallSH
    walk_at "rd"
    rintro outer h ⟨cc, nfc⟩
    have hL1 : H1 L = some (.lst []) := ext _ _ upd_same fun _ z => (nomatch z)
    have e1 : LamX.ExtN H H1 := ext_trans (ext_same sL) ext
    refine ⟨En, al, l, rs, f, NdefX.NF.of s_tops_act "act" _ _ c, _, _, [some (.ref L)], spAct (fun b _ => b), (· = L), FoundI K (fun b _ => b) rs l L f (NdefX.NF.of s_tops_act "act" _ _ c) H, rfl, ht.ext e1, lE, kE, bE, cc, nfc, nok_tops_act T, found_walk hL ?_, fun a ha => by rw [ha, hL1]; exact fun z => (nomatch z), ⟨e1, tb1, hL1, hrs.ext e1, hfn, hcd⟩, fun H' i => q L H' i.ext i.tab hL i.lst⟩
    obtain ⟨us, h, _⟩ := hrs
    rw [h]
    exact fun z => (nomatch z)

/-! ### the last sign of a path; what is good, what is high -/
def goodB (rs : List RF) (e : Names × Bool) : Bool := !shB rs e.1 e.2 && !e.2
theorem good_eq {rs : List RF} {L : List (Names × Bool)} (h : ∀ e ∈ L, e.1 ≠ []) : (L.filter (vis rs)).filter (fun e => !shB rs e.1 e.2 && !e.2) = L.filter (goodB rs) := by
  rw [List.filter_filter]
  refine List.filter_congr fun e he => ?_
  unfold goodB
  cases hs : shB rs e.1 e.2 with
  | true => rfl
  | false => rw [vis_of (h e he) hs, Bool.and_true]
theorem GoodP.last {w : List Nat} {nms : Names} {fo : Bool} (h : GoodP w nms fo) : ∃ u c, w = u ++ [c] ∧ decide (c = 47) = fo := by
  rcases List.eq_nil_or_concat w with e | ⟨u, c, e⟩
  · exfalso
    obtain ⟨x, r, hx⟩ := List.exists_cons_of_ne_nil h.ne
    have hn := (h.nm x (by rw [hx]; exact List.mem_cons_self)).1
    have h2 := h.eq.symm.trans e
    rw [hx] at h2
    cases r with
    | nil => exact hn (List.append_eq_nil_iff.mp h2).1
    | cons y r => exact hn (List.append_eq_nil_iff.mp (List.append_eq_nil_iff.mp h2).1).1
  · rw [List.concat_eq_append] at e
    refine ⟨u, c, e, ?_⟩
    have := h.ends
    rw [e, ends47] at this
    exact this
theorem atI_lastC {xs : List Nat} {u : Nat} (h : xs.getLast? = some u) : atI xs (-1) = some u := by
  unfold atI ixN
  have hl : 0 < xs.length := List.length_pos_iff.mpr fun e => by rw [e] at h; cases h
  rw [if_neg (by decide), if_pos (by omega)]
  have e : ((-1 : Int) + (xs.length : Int)).toNat = xs.length - 1 := by omega
  show xs[((-1 : Int) + (xs.length : Int)).toNat]? = some u
  rw [e, ← List.getLast?_eq_getElem?]
  exact h

/-! ### what is told of an entry -/
def dnO (rs : List RF) (nms : Names) (fo : Bool) : Option Nat := match (List.range nms.length).find? fun k => stops rs (stepN rs nms fo (k + 1)) with
  | some k => stepN rs nms fo (k + 1)
  | none => stepN rs nms fo nms.length
theorem down_is {rs : List RF} {nms : Names} {fo : Bool} : IsDown rs nms fo (shB rs nms fo) (dnO rs nms fo) := by
  unfold dnO shB
  cases h : (List.range nms.length).find? fun k => stops rs (stepN rs nms fo (k + 1)) with
  | some k =>
    obtain ⟨h1, h2, h3⟩ := List.find?_range_eq_some.mp h
    refine .inl ⟨List.any_eq_true.mpr ⟨k, h2, h1⟩, k, List.mem_range.mp h2, rfl, h1, fun j hj => ?_⟩
    have := h3 j hj
    simpa using this
  | none =>
    have h1 := List.find?_eq_none.mp h
    refine .inr ⟨List.any_eq_false.mpr h1, rfl, fun j hj => ?_⟩
    have := h1 j (List.mem_range.mpr hj)
    simpa using this
theorem down_o {rs : List RF} {nms : Names} {fo b : Bool} {o : Option Nat} (h : IsDown rs nms fo b o) : o = dnO rs nms fo := (h.uniq down_is).2

/-! ### the walk's entries: all of the tree, each once -/
theorem ents_all {E : List (Names × Bool)} (ok : EOk E) : ∀ (n : Nat) (t p : Names) {fo : Bool}, t ≠ [] → t.length ≤ n → (p ++ t, fo) ∈ E → (p ++ t, fo) ∈ entsE E n p
  | 0, t, p, _, hne, hl, _ => absurd (List.eq_nil_of_length_eq_zero (Nat.le_zero.mp hl)) hne
  | n + 1, [], _, _, h, _, _ => absurd rfl h
  | n + 1, x :: t, p, fo, _, hl, h => by
    unfold entsE
    by_cases ht : t = []
    · subst ht
      refine List.mem_flatMap.mpr ⟨x, (srt_perm _).mem_iff.mpr ((kidN_mem ok).mpr ⟨fo, h⟩), ?_⟩
      cases fo with
      | true =>
        rw [if_pos h]
        exact List.mem_cons_self
      | false =>
        rw [if_neg fun g => Bool.noConfusion (e_uniq ok h g)]
        exact List.mem_cons_self
    · have hx : (p ++ [x], true) ∈ E := up_all ok t (p ++ [x]) (by simp) ht (b := fo) (by rwa [List.append_assoc])
      refine List.mem_flatMap.mpr ⟨x, (srt_perm _).mem_iff.mpr ((kidN_mem ok).mpr ⟨true, hx⟩), ?_⟩
      rw [if_pos hx]
      have := ents_all ok n t (p ++ [x]) (fo := fo) ht (by simpa using hl) (by rwa [List.append_assoc])
      rw [List.append_assoc] at this
      exact List.mem_cons_of_mem _ this
theorem ents_in {E : List (Names × Bool)} (ok : EOk E) {e : Names × Bool} (he : e ∈ E) : e ∈ entsE E 10 [] := ents_all ok 10 e.1 [] (fo := e.2) (ok.ne e he) (Nat.le_trans (ok.deep e he) (by decide)) he
theorem ents_nd {E : List (Names × Bool)} (ok : EOk E) : ∀ (n : Nat) (p : Names), (entsE E n p).Nodup
  | 0, _ => .nil
  | n + 1, p => by
    unfold entsE List.Nodup
    rw [List.pairwise_flatMap]
    have blk : ∀ {nm : List Nat} {e : Names × Bool}, e ∈ (if (p ++ [nm], true) ∈ E then (p ++ [nm], true) :: entsE E n (p ++ [nm]) else [(p ++ [nm], false)]) → ∃ t, e.1 = p ++ nm :: t := fun {nm e} h => by
      split at h
      · rcases List.mem_cons.mp h with rfl | h
        · exact ⟨[], rfl⟩
        · obtain ⟨_, x, t, e2⟩ := ents_mem ok h
          exact ⟨x :: t, by rw [e2]; simp⟩
      · rw [List.mem_singleton.mp h]
        exact ⟨[], rfl⟩
    refine ⟨fun nm _ => ?_, ?_⟩
    · split
      · refine List.nodup_cons.mpr ⟨fun h => ?_, ents_nd ok n _⟩
        obtain ⟨_, x, t, e⟩ := ents_mem ok h
        have := congrArg List.length e
        simp at this
      · simp
    · refine ((srt_perm _).nodup_iff.mpr (kidN_nd ok)).imp fun ne x hx y hy e => ?_
      obtain ⟨t, e1⟩ := blk hx
      obtain ⟨t2, e2⟩ := blk hy
      rw [e, e2] at e1
      exact ne (List.cons.inj (List.append_cancel_left e1)).1.symm
theorem txt_inj {e f : Names × Bool} (g : GoodP (txtE e) e.1 e.2) (h : GoodP (txtE f) f.1 f.2) (he : txtE e = txtE f) : e = f := by
  have h1 := g.path
  rw [he, h.path] at h1
  obtain ⟨a, b⟩ := e
  obtain ⟨c, d⟩ := f
  cases h1
  rfl
theorem txt_nd : ∀ {L : List (Names × Bool)}, L.Nodup → (∀ e ∈ L, GoodP (txtE e) e.1 e.2) → (L.map txtE).Nodup
  | [], _, _ => .nil
  | e :: L, nd, g => by
    obtain ⟨n1, n2⟩ := List.nodup_cons.mp nd
    rw [List.map_cons]
    refine List.nodup_cons.mpr ⟨fun h => ?_, txt_nd n2 fun f hf => g f (List.mem_cons_of_mem _ hf)⟩
    obtain ⟨f, hf, e2⟩ := List.mem_map.mp h
    have := txt_inj (g f (List.mem_cons_of_mem _ hf)) (g e List.mem_cons_self) e2
    rw [this] at hf
    exact n1 hf
theorem foldN_nd : ∀ (ws acc : List (List Nat)), (acc ++ ws).Nodup → ws.foldl addN acc = acc ++ ws
  | [], acc, _ => (List.append_nil _).symm
  | x :: r, acc, h => by
    have hx : x ∉ acc := fun m => (List.nodup_append.mp h).2.2 x m x List.mem_cons_self rfl
    have e1 : addN acc x = acc ++ [x] := if_neg hx
    rw [List.foldl_cons, e1, foldN_nd r (acc ++ [x]) (by rw [List.append_assoc]; exact h), List.append_assoc]
    rfl
theorem once_nd {ws : List (List Nat)} (h : ws.Nodup) : onceN ws = ws := foldN_nd ws [] h
theorem perm_unmap {α β : Type} {f : α → β} {l m : List β} (p : l.Perm m) : ∀ V : List α, m = V.map f → ∃ U : List α, l = U.map f ∧ U.Perm V := by
  induction p with
  | nil =>
    intro V h
    exact ⟨[], rfl, by rw [List.map_eq_nil_iff.mp h.symm]⟩
  | cons x p ih =>
    intro V h
    cases V with
    | nil => cases h
    | cons v V =>
      obtain ⟨h1, h2⟩ := List.cons.inj h
      obtain ⟨U, e, q⟩ := ih V h2
      exact ⟨v :: U, by rw [List.map_cons, ← e, h1], q.cons v⟩
  | swap x y l =>
    intro V h
    match V, h with
    | a :: b :: V, h =>
      obtain ⟨h1, h2⟩ := List.cons.inj h
      obtain ⟨h2, h3⟩ := List.cons.inj h2
      exact ⟨b :: a :: V, by rw [List.map_cons, List.map_cons, ← h3, ← h1, ← h2], List.Perm.swap ..⟩
  | trans _ _ ih1 ih2 =>
    intro V h
    obtain ⟨U, e, q⟩ := ih2 V h
    obtain ⟨W, e2, q2⟩ := ih1 U e
    exact ⟨W, e2, q2.trans q⟩
theorem one_of {α : Type} {r : α} : ∀ {l : List α}, l.Nodup → r ∈ l → (∀ x ∈ l, x = r) → l = [r]
  | [x], _, _, h => by rw [h x List.mem_cons_self]
  | x :: y :: l, nd, _, h => absurd (List.mem_cons.mpr (.inl ((h x List.mem_cons_self).trans (h y (List.mem_cons_of_mem _ List.mem_cons_self)).symm))) (List.nodup_cons.mp nd).1
/-! what is told under a shunned folder -/
theorem step_take {rs : List RF} {r t : Names} {fo : Bool} {m : Nat} (ht : t ≠ []) (hm : m ≤ r.length) : stepN rs (r ++ t) fo m = stepN rs r true m := by
  have := List.length_pos_iff.mpr ht
  unfold stepN
  rw [List.take_append_of_le_length hm, List.length_append, decide_eq_true (show m < r.length + t.length by omega), Bool.or_true, Bool.true_or]
theorem down_under {rs : List RF} {r t : Names} {fo : Bool} (h : shB rs r true = true) (ht : t ≠ []) : IsDown rs (r ++ t) fo true (dnO rs r true) := by
  have := List.length_pos_iff.mpr ht
  rcases (down_is : IsDown rs r true (shB rs r true) (dnO rs r true)) with ⟨_, k, hk, ho, hs, hj⟩ | ⟨hb, _⟩
  · refine .inl ⟨rfl, k, by rw [List.length_append]; omega, by rw [step_take ht (by omega)]; exact ho, hs, fun j hjk => ?_⟩
    rw [step_take ht (by omega)]
    exact hj j hjk
  · rw [h] at hb
    cases hb
theorem sh_pre {rs : List RF} {q : Names} {a b : Nat} (h : shB rs (q.take a) true = true) (hab : a ≤ b) : shB rs (q.take b) true = true := by
  have e : q.take b = q.take a ++ (q.take b).drop a := by
    have := List.take_append_drop a (q.take b)
    rw [List.take_take, Nat.min_eq_left hab] at this
    exact this.symm
  rw [e]
  exact sh_under h _
theorem first_sh {rs : List RF} {q : Names} : ∀ {n : Nat}, shB rs (q.take n) true = true → ∃ m, 0 < m ∧ m ≤ n ∧ shB rs (q.take m) true = true ∧ shB rs (q.take (m - 1)) true = false
  | 0, h => by
    rw [List.take_zero] at h
    cases h
  | n + 1, h => by
    cases hn : shB rs (q.take n) true with
    | true =>
      obtain ⟨m, a, b, c⟩ := first_sh hn
      exact ⟨m, a, by omega, c⟩
    | false => exact ⟨n + 1, by omega, Nat.le_refl _, h, by rw [Nat.add_sub_cancel]; exact hn⟩
theorem first_uniq {rs : List RF} {q : Names} {a b : Nat} (ha : shB rs (q.take a) true = true) (ha1 : shB rs (q.take (a - 1)) true = false) (hb : shB rs (q.take b) true = true) (hb1 : shB rs (q.take (b - 1)) true = false) : a = b := by
  rcases Nat.lt_trichotomy a b with h | h | h
  · rw [sh_pre ha (show a ≤ b - 1 by omega)] at hb1
    cases hb1
  · exact h
  · rw [sh_pre hb (show b ≤ a - 1 by omega)] at ha1
    cases ha1
/-- the shunned folders that are come to; those of them ahead of a path -/
def shutL (rs : List RF) (E : List (Names × Bool)) : List (Names × Bool) := ((entsE E 10 []).filter (vis rs)).filter fun r => shB rs r.1 r.2 && r.2
def aboveL (rs : List RF) (E : List (Names × Bool)) (e : Names × Bool) : List (Names × Bool) := (shutL rs E).filter fun r => !decide (txtE r = txtE e) && (txtE r).isPrefixOf (txtE e)
theorem above_pre {rs : List RF} {E : List (Names × Bool)} (ok : EOk E) {e r : Names × Bool} (he : e ∈ E) (hr : r ∈ aboveL rs E e) : r ∈ (entsE E 10 []).filter (vis rs) ∧ r.2 = true ∧ shB rs r.1 true = true ∧ ∃ t, t ≠ [] ∧ e.1 = r.1 ++ t := by
  obtain ⟨h1, h2⟩ := List.mem_filter.mp hr
  obtain ⟨h3, h4⟩ := List.mem_filter.mp h1
  obtain ⟨h5, h6⟩ := Bool.and_eq_true _ _ ▸ h4
  obtain ⟨h7, h8⟩ := Bool.and_eq_true _ _ ▸ h2
  have rE := (ents_mem ok (List.mem_filter.mp h3).1).1
  have nm47 : ∀ {e : Names × Bool}, e ∈ E → ∀ x ∈ e.1, 47 ∉ x := fun he x hx => sig47 (ok.nm _ he x hx)
  refine ⟨h3, h6, by rw [h6] at h5; exact h5, ?_⟩
  have ht : txtE r = txtF r.1 := by
    obtain ⟨q, fo⟩ := r
    cases h6
    exact txtE_fold (ok.ne _ rE)
  rw [ht, List.isPrefixOf_iff_prefix] at h8
  obtain ⟨t, et⟩ := pre_txt (fo := e.2) (nm47 rE) (nm47 he) (ok.ne e he) h8
  refine ⟨t, fun z => ?_, et.symm⟩
  rw [z, List.append_nil] at et
  have h7' := of_decide_eq_false (by simpa using h7 : decide (txtE r = txtE e) = false)
  apply h7'
  have e2 : r.2 = e.2 := by
    have a : (r.1, r.2) ∈ E := rE
    have b : (e.1, e.2) ∈ E := he
    rw [et] at a
    exact e_uniq ok a b
  obtain ⟨a, b⟩ := r
  obtain ⟨c, d⟩ := e
  cases et
  cases e2
  rfl
theorem above_none {rs : List RF} {E : List (Names × Bool)} (ok : EOk E) {e : Names × Bool} (he : e ∈ E) (hv : vis rs e = true) : aboveL rs E e = [] := by
  refine List.eq_nil_iff_forall_not_mem.mpr fun r hr => ?_
  obtain ⟨_, _, hs, t, ht, et⟩ := above_pre ok he hr
  unfold vis at hv
  rw [et, List.dropLast_append_of_ne_nil ht, sh_under hs] at hv
  cases hv
theorem above_one {rs : List RF} {E : List (Names × Bool)} (ok : EOk E) {e : Names × Bool} (he : e ∈ E) (hv : vis rs e = false) : ∃ r, aboveL rs E e = [r] ∧ r ∈ (entsE E 10 []).filter (vis rs) ∧ shB rs r.1 r.2 = true ∧ shB rs e.1 e.2 = true ∧ dnO rs e.1 e.2 = dnO rs r.1 r.2 := by
  have hne := ok.ne e he
  have hq : shB rs (e.1.take (e.1.length - 1)) true = true := by
    unfold vis at hv
    rw [List.dropLast_eq_take] at hv
    simpa using hv
  obtain ⟨m, m0, ml, hm, hm1⟩ := first_sh hq
  have lp := List.length_pos_iff.mpr hne
  have rE : (e.1.take m, true) ∈ E := up_take ok (b := e.2) he m0 (by omega)
  have rV := ents_in ok rE
  have split : e.1 = e.1.take m ++ e.1.drop m := (List.take_append_drop m e.1).symm
  have hd : e.1.drop m ≠ [] := fun z => by
    have := congrArg List.length z
    rw [List.length_drop, List.length_nil] at this
    omega
  have rvis : vis rs (e.1.take m, true) = true := by
    unfold vis
    rw [show (e.1.take m, true).1.dropLast = e.1.take (m - 1) from ?_, hm1]
    · rfl
    · rw [List.dropLast_eq_take, List.length_take, List.take_take]
      congr 1
      omega
  have rVis := List.mem_filter.mpr ⟨rV, rvis⟩
  have dn := down_under (fo := e.2) hm hd
  rw [← split] at dn
  have du := dn.uniq down_is
  refine ⟨(e.1.take m, true), one_of (((ents_nd ok 10 []).filter _).filter _ |>.filter _) (List.mem_filter.mpr ⟨List.mem_filter.mpr ⟨rVis, by rw [show shB rs (e.1.take m, true).1 (e.1.take m, true).2 = true from hm]; rfl⟩, ?_⟩) fun x hx => ?_, rVis, hm, du.1.symm, du.2.symm⟩
  · have et : txtE (e.1.take m, true) = txtF (e.1.take m) := txtE_fold (ok.ne _ rE)
    have hp : (txtE (e.1.take m, true)).isPrefixOf (txtE e) = true := by
      obtain ⟨x, t, ext⟩ := List.exists_cons_of_ne_nil hd
      have := wpre_in (p := e.1.take m) (x := x) (t := t) (fo := e.2)
      rw [← ext, ← split] at this
      rw [et]
      exact this
    rw [hp, Bool.and_true, Bool.not_eq_true']
    refine decide_eq_false fun z => ?_
    rw [et] at z
    have h1 : txtF e.1 = txtF (e.1.take m) ++ txtF (e.1.drop m) := by rw [← txtF_app, ← split]
    have h2 : (txtF e.1).length ≤ (txtE e).length + 1 := by
      unfold txtE
      rw [show txtF e.1 = txtF (e.1.dropLast) ++ e.1.getLastD [] ++ [47] from by rw [← txtF_snoc, ← drop_last hne]]
      simp only [List.length_append, List.length_singleton]
      omega
    rw [← z, h1, List.length_append] at h2
    obtain ⟨x, t, ext⟩ := List.exists_cons_of_ne_nil hd
    have hx : x ∈ e.1 := List.mem_of_mem_drop (i := m) (by rw [ext]; exact List.mem_cons_self)
    have hx1 := List.length_pos_iff.mpr (ok.nm e he x hx).1
    have h3 : (txtF (e.1.drop m)).length ≥ x.length + 1 := by
      rw [ext, show txtF (x :: t) = (x ++ [47]) ++ txtF t from rfl]
      simp only [List.length_append, List.length_singleton]
      omega
    omega
  · obtain ⟨xV, x2, xs, t, ht, et⟩ := above_pre ok he hx
    have hxv := (List.mem_filter.mp xV).2
    have e1 : x.1 = e.1.take x.1.length := by rw [et, List.take_left]
    have tl := List.length_pos_iff.mpr ht
    have hx1 : shB rs (e.1.take (x.1.length - 1)) true = false := by
      unfold vis at hxv
      rw [List.dropLast_eq_take] at hxv
      have : x.1.take (x.1.length - 1) = e.1.take (x.1.length - 1) := by
        rw [et, List.take_append_of_le_length (by omega)]
      rw [this] at hxv
      simpa using hxv
    have := first_uniq (q := e.1) hm hm1 (by rw [← e1]; exact xs) hx1
    obtain ⟨a, b⟩ := x
    cases x2
    rw [Prod.mk.injEq]
    exact ⟨by rw [this]; exact e1, rfl⟩
/-! ### a tree about rows and folders -/
theorem fold_cut {nms : Names} (h : nms.length ≤ 3) (hn : ∀ nm ∈ nms, nm ≠ [] ∧ nm.length ≤ 400 ∧ ∀ c ∈ nm, c ∈ SIG) : CutP (foldT nms) nms true := by
  by_cases e : nms = []
  · rw [e]
    exact cut_nil
  · exact GoodP.cut ⟨by rw [foldT_join e]; rfl, e, by omega, hn⟩
def spWide (K : PySem.W.Frag) : Sp := fun vs H Q _ => ∃ a F d p ws rs, ∃ ns : List Int, ∃ es kvs, vs = [.ref a, .ref F, .ref d, .ref p] ∧ SqL K H a (ns.map V.int) ∧ ns.length ≤ 63 ∧ RowsL K rs F H ∧ 1 ≤ rs.length ∧ rs.length ≤ 1000 ∧ H d = some (.dK kvs) ∧ Lsts (FmV K) es kvs H ∧ LEG es 5 ∧ es ≠ [] ∧ H p = some (.lst ws) ∧ ws.length = 4 ∧ ws.Nodup ∧ (∀ v ∈ ws, SignV v) ∧
  ∀ E al H', Same H H' → TreeE E al H' → E.length ≤ 1000 → (∀ p, (kidN E p).length ≤ 60) → (∀ e ∈ E, e.1.length ≤ 9 ∧ ∀ x ∈ e.1, x.length ≤ 400) → Q (.ref (al [])) H'
theorem ok__law_wide_tree (T : Txt K mg) : OkD P w K mg base 3 (fA K "_law_wide_tree") ["_law_script", "_law_forms", "_law_lists_here", "_law_signs_here"] [] (spWide K) := by
  refine okD T.F__law_wide_tree sc__law_wide_tree (fun _ _ _ _ _ _ us hl => match us, hl with | [_, _, _, _], _ => rfl) ?_ ?_
  · rintro vs H Q E ⟨a, F, d, p, ws, rs, ns, es, kvs, rfl, _⟩
    rfl
  · rintro cdv A outer s H vs Q X hr ⟨a, F, d, p, ws, rs, ns, es, kvs, rfl, hs, hn, hrs, lrs1, lrs, hd, hl, leg, ene, hp, hl4, hnd, hw, q⟩
    refine ⟨_, (pss_cons (ps_set (i := 4) sc__law_wide_tree.nd rfl (Or.inl rfl) pe_dnewK)
  (pss_cons (ps_mid (ps_for (passes_of rfl) rfl (pi_mid (pi_range1 rfl T.fr_range (pa_cons (pe_callB (o_min (K := K) rfl) (by rfl) T.fr_min (by decide +kernel) (pa_cons pe_int (pa_cons (pe_callB (o_lenW (K := K) (w := w)) (by rfl) T.fr_len boot_len (pa_cons (pv 0) pa_nil)) pa_nil))) pa_nil))) (pg_name (i := 5) sc__law_wide_tree.nd rfl (Or.inl rfl)) (pss_cons (ps_set (i := 6) sc__law_wide_tree.nd rfl (Or.inl rfl) (pe_mid (pe_cal (ok__law_mixed T) (hr.mono (by decide)) rfl T.g__law_mixed (pasE (takes_of rfl rfl rfl rfl) (fun _ _ _ _ h => h)) (pa_cons (pe_cal (ok__law_cell T) (hr.mono (by decide)) rfl T.g__law_cell (pasE (takes_of rfl rfl rfl rfl) (fun _ _ _ _ h => h)) (pa_cons (pv 0) (pa_cons (pv 5) pa_nil))) (pa_cons pe_int pa_nil)))))
  (pss_cons (ps_set (i := 7) sc__law_wide_tree.nd rfl (Or.inl rfl) (pe_mid (pe_slice (o_sl (K := K)) (pe_cal (ok__law_names T) (hr.mono (by decide)) rfl T.g__law_names (pasE (takes_of rfl rfl rfl rfl) (fun _ _ _ _ h => h)) (pa_cons (pe_ix (o_ix (K := K)) (pv 1) (pe_op op_mod (pv 6) (pe_callB (o_lenW (K := K) (w := w)) (by rfl) T.fr_len boot_len (pa_cons (pv 1) pa_nil))) (fun _ _ => rfl)) (pa_cons (pe_cal (ok__law_mixed T) (hr.mono (by decide)) rfl T.g__law_mixed (pasE (takes_of rfl rfl rfl rfl) (fun _ _ _ _ h => h)) (pa_cons (pv 6) (pa_cons pe_int pa_nil))) (pa_cons (pv 3) pa_nil)))) po_none (po_some pe_int))))
  (pss_cons (ps_set (i := 8) sc__law_wide_tree.nd rfl (Or.inl rfl) (pe_mid (pe_ix (o_ix (K := K)) (pe_cal (ok__law_ranked T) (hr.mono (by decide)) rfl T.g__law_ranked (pasE (takes_of rfl rfl rfl rfl) (fun _ _ _ _ h => h)) (pa_cons (pv 2) pa_nil)) (pe_op op_mod (pe_op op_fdivW (pv 6) pe_int) (pe_callB call_lenD (by rfl) T.fr_len boot_len (pa_cons (pv 2) pa_nil))) (fun _ _ => rfl))))
  (pss_cons (ps_set (i := 7) sc__law_wide_tree.nd rfl (Or.inl rfl) (pe_mid (pe_op (o_add (K := K)) (pe_op o_mul (pe_ix (o_ix (K := K)) (pe_cal (ok__law_cut T) (hr.mono (by decide)) rfl T.g__law_cut (pasE (takes_of rfl rfl rfl rfl) (fun _ _ _ _ h => h)) (pa_cons (pv 8) pa_nil)) pe_int (fun _ _ => rfl)) (pe_op op_mod (pe_op op_fdivW (pv 6) pe_int) pe_int)) (pv 7))))
  (pss_one (ps_if (pt_mid (pt_tru (K := K) (pe_cal (ok__law_free T) (hr.mono (by decide)) rfl T.g__law_free (pasE (takes_of rfl rfl rfl rfl) (fun _ _ _ _ h => h)) (pa_cons (pv 4) (pa_cons (pv 7) (pa_cons (pe_cmpR (o_eq (K := K) (hu64 hr)) (pe_op op_mod (pe_op op_fdivW (pv 6) pe_int) pe_int) pe_int (nomark _)) pa_nil)))) (by intro _; rfl))) (pss_one (ps_expr (pe_cal (ok__law_put_in T) (hr.mono (by decide)) rfl T.g__law_put_in (pasE (takes_of rfl rfl rfl rfl) (fun _ _ _ _ h => h)) (pa_cons (pv 4) (pa_cons (pv 7) (pa_cons (pe_cmpR (o_eq (K := K) (hu64 hr)) (pe_op op_mod (pe_op op_fdivW (pv 6) pe_int) pe_int) pe_int (nomark _)) pa_nil)))))) pss_nil))))))))
  (pss_one (ps_ret (pv 4))))), ?_⟩
    have tobj := T.obj
    refine fun D hD => ?_
    have sD := same_new (o := .dK []) hD
    have hlen : LenV K (V.ref a) (upd H D (.dK [])) (ns.map V.int).length := .inl ⟨_, same_l sD hs, rfl⟩
    have lns : (ns.map V.int).length = ns.length := List.length_map _
    obtain ⟨n, hn0, hnn⟩ : ∃ n : Nat, n ≤ 60 ∧ (if ((ns.map V.int).length : Int) < 60 then ((ns.map V.int).length : Int) else 60) = (n : Int) := by
      split
      · exact ⟨(ns.map V.int).length, by omega, rfl⟩
      · exact ⟨60, Nat.le_refl _, rfl⟩
    refine q_stm (fun σ H' => Same H H' ∧ ∃ E al x5 x6 x7 x8, σ = [some (.ref a), some (.ref F), some (.ref d), some (.ref p), some (.ref (al [])), x5, x6, x7, x8] ∧ NewT H E al ∧ TreeE E al H' ∧ E.length ≤ 9 * n ∧ (∀ p, (kidN E p).length ≤ n) ∧ ∀ e ∈ E, e.1.length ≤ 9 ∧ ∀ x ∈ e.1, x.length ≤ 400) ?_ ?_
    · refine for_mid (J0 := Itr 0 n) (H0 := upd H D (.dK [])) ?_ walk_range (fun k σ H' => Same H H' ∧ ∃ E al x5 x6 x7 x8, σ = [some (.ref a), some (.ref F), some (.ref d), some (.ref p), some (.ref (al [])), x5, x6, x7, x8] ∧ NewT H E al ∧ TreeE E al H' ∧ E.length ≤ 9 * k ∧ (∀ p, (kidN E p).length ≤ k) ∧ ∀ e ∈ E, e.1.length ≤ 9 ∧ ∀ x ∈ e.1, x.length ≤ 400)
        ⟨sD, [], fun _ => D, _, _, _, _, rfl, fun _ _ => hD, tree_nil upd_same, Nat.le_refl _, fun _ => Nat.le_refl _, fun _ h => nomatch h⟩ (fun _ _ _ _ _ => trivial) ?_ (fun σ H' h => h)
      · walk_at "rd"
        refine .inr ⟨_, hlen, ?_⟩
        rw [hnn]
        exact ⟨by omega, by omega, rfl⟩
      rintro k x σ H1 H1' hk ⟨s1, E, al, x5, x6, x7, x8, rfl, new1, t1, le1, kd1, nm1⟩ ⟨rfl, rfl⟩
      refine q_mid (fun m => 0 ≤ m ∧ m < 2147483647) ?_ fun cell hcell => ?_
      · walk_at "rd"
        exact ⟨a, _, ns, rfl, same_l s1 hs, hn, by omega, by omega, fun c => ⟨c, _, rfl, fun m h1 h2 => ⟨rfl, m, rfl, h1, h2⟩⟩⟩
      have hrs1 := hrs.mono s1
      have hp1 := s1 _ _ hp
      have hd1 := s1 _ _ hd
      have hl1 : Lsts (FmV K) es kvs H1' := hl.mono s1 fun _ _ d => dp_mono s1 _ _ d
      have lge := leg.len
      have lkv := hl.len
      obtain ⟨us6, hF6, each6, oks6⟩ := id hrs1
      obtain ⟨j, hj, hjl⟩ : ∃ j : Nat, cell % (rs.length : Int) = (j : Int) ∧ j < rs.length := ⟨(cell % (rs.length : Int)).toNat, by have := Int.emod_nonneg cell (b := (rs.length : Int)) (by omega); omega, by have := Int.emod_nonneg cell (b := (rs.length : Int)) (by omega); have := Int.emod_lt_of_pos cell (b := (rs.length : Int)) (by omega); omega⟩
      obtain ⟨u, hu, du⟩ := each6.2 j _ (List.getElem?_eq_getElem hjl)
      obtain ⟨okr, lor⟩ := oks6 _ (List.getElem_mem hjl)
      have okp : ∀ fs, SF.seg fs ∈ rs[j].steps → ∀ f ∈ fs, FOk f := fun fs h f hf => ⟨(show PartsOk fs from okr.ok _ h).ok f hf, lor fs h f hf⟩
      refine q_midG (fun v H' => Same H1' H' ∧ ∃ g nms, v = .ref g ∧ H' g = some (.lst (nmsV nms)) ∧ nms ≠ [] ∧ nms.length ≤ 6 ∧ ∀ nm ∈ nms, nm ≠ [] ∧ nm.length ≤ 400 ∧ ∀ c ∈ nm, c ∈ SIG) ?_ ?_
      · have lF : LenV K (V.ref F) H1' us6.length := .inl ⟨us6, .inl (.inl hF6), rfl⟩
        walk_at "rd"
        refine .inr ⟨_, lF, by have := each6.1; omega, us6, .inl (.inl (.inl hF6)), u, ?_, cell, 47, rfl, fun m _ _ => ⟨u, m, p, ws, rs[j], rfl, du, okr, okp, .inl (.inl hp1), hl4, hnd, hw, fun G us H' hne hus hlen s h => ?_⟩⟩
        · rw [each6.1, hj]
          exact atI_nat hu
        obtain ⟨nms, rfl, hnm⟩ := names_list hus
        walk_at "rd"
        refine .inl ⟨nmsV nms, .inl (.inl h), fun p1 hp1 => ⟨s.trans (same_new hp1), nms.take 6, ?_, ?_, List.length_take_le _ _, fun nm h => hnm nm (List.mem_of_mem_take h)⟩⟩
        · rw [upd_same, show (6 : Int) = ((6 : Nat) : Int) from rfl, cut_take, nms_take]
        · intro e
          have : nms = [] := by
            cases nms with
            | nil => rfl
            | cons x r => simp at e
          exact hne (by rw [this]; rfl)
      rintro _ H2 ⟨s2, g, nms, rfl, hg, nne, nlen, hnm⟩
      have hp2 := s2 _ _ hp1
      have hd2 := s2 _ _ hd1
      have hl2 : Lsts (FmV K) es kvs H2 := hl1.mono s2 fun _ _ d => dp_mono s2 _ _ d
      refine q_midG (fun v H' => Same H2 H' ∧ ∃ pn, v = .str (S (foldT pn)) ∧ pn.length ≤ 3 ∧ ∀ nm ∈ pn, nm ≠ [] ∧ nm.length ≤ 400 ∧ ∀ c ∈ nm, c ∈ SIG) ?_ ?_
      · walk_at "rd"
        refine ⟨d, es, kvs, rfl, hd2, hl2, leg, fun P es' H' srt s hPn hP => ?_⟩
        have lpe := srt.1.length_eq
        have lp0 := List.length_pos_iff.mpr ene
        obtain ⟨i, hi, hil⟩ : ∃ i : Nat, cell / 19 % (kvs.length : Int) = (i : Int) ∧ i < es'.length := ⟨(cell / 19 % (kvs.length : Int)).toNat, by have := Int.emod_nonneg (cell / 19) (b := (kvs.length : Int)) (by omega); omega, by have := Int.emod_nonneg (cell / 19) (b := (kvs.length : Int)) (by omega); have := Int.emod_lt_of_pos (cell / 19) (b := (kvs.length : Int)) (by omega); omega⟩
        obtain ⟨pn, epn, lpn, hpn⟩ := leg.fold _ (srt.1.mem_iff.mp (List.getElem_mem hil))
        refine ⟨⟨by decide, by decide⟩, kvs, s _ _ hd2, by omega, nmsV (es'.map (·.1)), .inl (.inl (.inl hP)), .str (S (foldT pn)), ?_, s, pn, rfl, lpn, hpn⟩
        rw [hi]
        refine atI_nat ?_
        unfold nmsV
        rw [List.getElem?_map, List.getElem?_map, List.getElem?_map, List.getElem?_eq_getElem hil, ← epn]
        rfl
      rintro _ H3 ⟨s3, pn, rfl, lpn, hpn⟩
      refine q_midG (fun v H' => Same H3 H' ∧ ∃ g nms, v = .ref g ∧ H' g = some (.lst (nmsV nms)) ∧ nms ≠ [] ∧ nms.length ≤ 9 ∧ ∀ nm ∈ nms, nm ≠ [] ∧ nm.length ≤ 400 ∧ ∀ c ∈ nm, c ∈ SIG) ?_ ?_
      · walk_at "rd"
        refine ⟨foldT pn, pn, true, rfl, fold_cut lpn hpn, fun P N H' s hN hP hN' => ?_⟩
        refine ⟨_, .inr (.inl (.inl hP)), _, rfl, ⟨by decide, by decide⟩, ?_⟩
        obtain ⟨i, hi, hi2⟩ : ∃ i : Nat, cell / 23 % 2 = (i : Int) ∧ i ≤ 1 := ⟨(cell / 23 % 2).toNat, by omega, by omega⟩
        rw [hi]
        have e : (List.replicate ((i : Int)).toNat (nmsV pn)).flatten = nmsV (if i = 1 then pn else []) := by
          rcases Nat.le_one_iff_eq_zero_or_eq_one.mp hi2 with rfl | rfl
          · rfl
          · rw [if_pos rfl]
            show [nmsV pn].flatten = nmsV pn
            rw [List.flatten_singleton]
        have lx : (if i = 1 then pn else []).length ≤ 3 := by
          split
          · exact lpn
          · exact Nat.zero_le _
        refine ⟨_, hN', by omega, by omega, ?_, fun p1 hp1 => .inl ?_⟩
        · rw [nms_len]
          rcases Nat.le_one_iff_eq_zero_or_eq_one.mp hi2 with rfl | rfl
          · rw [show ((0 : Nat) : Int).toNat = 0 from rfl]
            omega
          · rw [show ((1 : Nat) : Int).toNat = 1 from rfl]
            omega
        have t1' := same_new (o := .lst (List.replicate ((i : Int)).toNat (nmsV pn)).flatten) hp1
        refine ⟨_, upd_same, nmsV nms, t1' _ _ (s _ _ (s3 _ _ hg)), by rw [e, nms_len, nms_len]; omega, fun p2 hp2 => ⟨(s.trans t1').trans (same_new hp2), (if i = 1 then pn else []) ++ nms, ?_, by simp [nne], by rw [List.length_append]; omega, fun nm h => ?_⟩⟩
        · rw [upd_same, e, nms_app]
        · rcases List.mem_append.mp h with h | h
          · split at h
            · exact hpn nm h
            · cases h
          · exact hnm nm h
      clear hg nne nlen hnm
      rintro _ H4 ⟨s4, g2, nms2, rfl, hg, nne, nlen, hnm⟩
      have t4 := t1.mono ((s2.trans s3).trans s4)
      have okn : ∀ x ∈ nms2, NmOk x := fun x h => ⟨(hnm x h).1, Nat.le_trans (hnm x h).2.1 (by decide), (hnm x h).2.2⟩
      have s04 := ((s1.trans s2).trans s3).trans s4
      refine l_if (fun b H' => Same H4 H' ∧ (b = true → OkPut E nms2 (decide (cell / 7 % 4 = 1)))) ?_ (fun H5 h => ?_) fun H5 h => ?_
      · walk_at "rd"
        exact ⟨⟨by decide, by decide⟩, E, al, g2, _, nms2, rfl, t4, .inl (.inl hg), nne, by omega, okn, fun b H' s h => ⟨b, rfl, s, h⟩⟩
      · obtain ⟨s5, hb⟩ := h
        walk_at "rd"
        refine ⟨⟨by decide, by decide⟩, H, E, al, g2, _, nms2, rfl, s04.trans s5, new1, t4.mono s5, s5 _ _ hg, nne, by omega, okn, hb rfl, fun p => by have := kd1 p; omega, fun E' al' H' s' new' t' e' g' _ => ⟨s', E', al', e'.symm, new', t', ?_, fun p => ?_, fun e he => ?_⟩⟩
        · have := g'.len; omega
        · have h1 := g'.kid p
          have h2 := kd1 p
          split at h1 <;> omega
        · rcases g'.new e he with h | ⟨i, _, _, e1, _⟩
          · exact nm1 e h
          · rw [e1]
            exact ⟨by rw [List.length_take]; omega, fun x hx => (hnm x (List.mem_of_mem_take hx)).2.1⟩
      · exact ⟨s04.trans h.1, E, al, _, _, _, _, rfl, new1, t4.mono h.1, by omega, fun p => by have := kd1 p; omega, nm1⟩
    rintro σ H1 ⟨s1, E, al, x5, x6, x7, x8, rfl, new1, t1, le1, kd1, nm1⟩
    walk_at "rd"
    exact q E al H1 s1 t1 (by omega) (fun p => by have := kd1 p; omega) nm1
/-! ### the law's act: a dict of what was come to -/
def spActC : List (Option V) → Sp := fun ws vs H Q _ => ∃ D kvs e b o, ws = [some (.ref D)] ∧ vs = [.str (S (txtE e)), .bl b, o] ∧ H D = some (.dK kvs) ∧ kvs.length ≤ 2000 ∧
  ∀ t H'', H t = none → H'' t = some (.tup [.bl b, o]) → H'' D = some (.dK (putK kvs (.inr (S (txtE e))) (.ref t))) → (∀ a u, H a = some u → a ≠ D → H'' a = some u) → Q .non H''
theorem nok_actC (T : Txt K mg) {qn : Str} {cl : List (Str × Addr)} {c f : Addr} : NdefX.NOk P w K mg base (L2.CX P w) 3 f (NdefX.NF.of s_law__law_act "_law_act" qn cl c) ["_law_path", "_law_shunned", "_law_row_here"] ["_law_come"] spActC := by
  refine NdefX.nok_of (N := ["_law_path", "_law_shunned", "_law_row_here", "_law_come"]) (NdefX.nscope_by (sc := C8.fnScope s_law__law_act) (by decide +kernel)) (fun _ _ _ us hl => match us, hl with | [_, _, _], _ => rfl) ?_ ?_
  · rintro ws vs H Q E ⟨L, us, x, b, o, _, rfl, _⟩
    rfl
  · rintro A outer s H vs ws Q E hr hf hc hl ⟨D, kvs, e, b, o, rfl, rfl, hD, lk, q⟩
    refine ⟨_, (pss_one (ps_dput (hu_of hr) (pv 3) (pv 0) (pe_tup (pa_cons (pv 1) (pa_cons (pv 2) pa_nil))) rfl)), ?_⟩
    rw [show NdefX.startF [Str.ofString "_law_path", Str.ofString "_law_shunned", Str.ofString "_law_row_here", Str.ofString "_law_come"] [V.str (S (txtE e)), V.bl b, o] [some (V.ref D)] = [some (V.str (S (txtE e))), some (V.bl b), some o, some (V.ref D)] from rfl]
    walk_at "rd"
    intro t ht
    have st := same_new (o := .tup [V.bl b, o]) ht
    have nDt : D ≠ t := fun z => by rw [z, ht] at hD; cases hD
    refine ⟨_, dput_s (st _ _ hD) (by omega), q t _ ht ?_ upd_same fun a u g na => ?_⟩
    · rw [upd_ne nDt.symm, upd_same]
    · rw [upd_ne na]
      exact st _ _ g
theorem tabs_keepD {T : List NdefX.NTab} {H H' : Hp} {D : Addr} {kvs : List (Key × V)} (h : NdefX.TabsN T H) (hD : H D = some (.dK kvs)) (k : ∀ a u, H a = some u → a ≠ D → H' a = some u) : NdefX.TabsN T H' := fun p hp => by
  obtain ⟨ps, h1, h2, h3⟩ := h p hp
  refine ⟨ps, k _ _ h1 fun e => (by rw [e, hD] at h1; cases h1), h2, fun pos cv hc => ?_⟩
  obtain ⟨c, e, g⟩ := h3 pos cv hc
  exact ⟨c, e, k _ _ g fun z => (by rw [z, hD] at g; cases g)⟩
/-- what is come to so far, with what is told -/
structure FoundC (K : PySem.W.Frag) (rs : List RF) (D fa : Addr) (Fc : NdefX.NF) (H : Hp) (v : List (Names × Bool)) (H' : Hp) : Prop where
  ext : LamX.ExtN H H'
  tab : NdefX.TabsN (tabsT K) H'
  dct : ∃ kvs, H' D = some (.dK kvs) ∧ kvs.length ≤ v.length ∧ ToldD rs (v.map txtE) kvs H'
  fn : H' fa = some (NdefX.FnO fa Fc)
  cd : H' Fc.c = some (LamX.CodeO Fc.c Fc.qual)
theorem foundc_walk {K : PySem.W.Frag} {rs : List RF} {l D fa : Addr} {Fc : NdefX.NF} {H : Hp} (hD : H D = none) (hr : RowsX K rs l H) : WalkI K rs l fa Fc [some (.ref D)] spActC (· = D) (FoundC K rs D fa Fc H) where
  keep := fun v H' h => ⟨(hr.ext h.ext).o, h.fn, h.cd⟩
  same := fun v H' H'' h s => ⟨ext_trans h.ext (ext_same s), tabs_same h.tab s, let ⟨us, a, b, c⟩ := h.dct; ⟨us, s _ _ a, b, c.mono s⟩, s _ _ h.fn, s _ _ h.cd⟩
  mono := fun vs H' Q1 Q2 X ⟨L, us, x, b, o, h1, h2, h3, h4, q⟩ k => ⟨L, us, x, b, o, h1, h2, h3, h4, fun t H'' a b c d => k _ _ (q t H'' a b c d)⟩
  act := fun v e b o H' lv h gp hd => by
    obtain ⟨kvs, hk, lk, td⟩ := h.dct
    refine ⟨D, kvs, e, b, optV o, rfl, rfl, hk, by omega, fun t H'' ht ht2 hD2 keep => ⟨⟨fun a u g n => keep a u (h.ext a u g n) fun z => (by rw [z, hD] at g; cases g), tabs_keepD h.tab hk keep, ⟨_, hD2, ?_, ?_⟩, keep _ _ h.fn fun z => ?_, keep _ _ h.cd fun z => ?_⟩, fun a u g na => keep a u g na⟩⟩
    · rw [List.length_append]
      exact Nat.le_trans putK_len (Nat.succ_le_succ lk)
    · have e1 : v.map txtE = ((v ++ [e]).map txtE).take v.length := by rw [List.map_append, List.take_append_of_le_length (by rw [List.length_map]; exact Nat.le_refl _), List.take_of_length_le (by rw [List.length_map]; exact Nat.le_refl _)]
      have e2 : ((v ++ [e]).map txtE)[v.length]? = some (txtE e) := by rw [List.map_append, List.getElem?_append_right (by rw [List.length_map]; exact Nat.le_refl _), List.length_map, Nat.sub_self]; rfl
      have kp : ∀ a t', H' a = some (.tup t') → H'' a = some (.tup t') := fun a t' g => keep a _ g fun z => (by rw [z, hk] at g; cases g)
      have td' : ToldD rs (v.map txtE) kvs H'' := ⟨td.keys, fun q hq => let ⟨w, a, b⟩ := td.each q hq; ⟨w, a, b.nl kp⟩⟩
      have := td'.put (v := .ref t) (w := txtE e) ⟨t, e.1, e.2, b, o, rfl, ht2, gp.path, hd⟩ e1 e2
      rwa [List.take_of_length_le (by rw [List.length_map, List.length_append]; exact Nat.le_refl _)] at this
    · have := h.fn
      rw [z, hk] at this
      cases this
    · have := h.cd
      rw [z, hk] at this
      cases this
/-! what was come to, as a dict -/
structure Come (rs : List RF) (L : List (Names × Bool)) (D : Addr) (kvs : List (Key × V)) (H : Hp) : Prop where
  at_ : H D = some (.dK kvs)
  keys : kvs.map (·.1) = (L.map txtE).map fun w => (Sum.inr (S w) : Key)
  val : ∀ e ∈ L, ∃ t, valV kvs (.inr (S (txtE e))) = some (.ref t) ∧ H t = some (.tup [.bl (shB rs e.1 e.2), optV (dnO rs e.1 e.2)])
theorem Come.mono {rs : List RF} {L : List (Names × Bool)} {D : Addr} {kvs : List (Key × V)} {H H' : Hp} (h : Come rs L D kvs H) (s : Same H H') : Come rs L D kvs H' := ⟨s _ _ h.at_, h.keys, fun e he => let ⟨t, a, b⟩ := h.val e he; ⟨t, a, s _ _ b⟩⟩
theorem Come.ext {rs : List RF} {L : List (Names × Bool)} {D : Addr} {kvs : List (Key × V)} {H H' : Hp} (h : Come rs L D kvs H) (s : LamX.ExtN H H') : Come rs L D kvs H' := ⟨s _ _ h.at_ fun _ z => (nomatch z), h.keys, fun e he => let ⟨t, a, b⟩ := h.val e he; ⟨t, a, s _ _ b fun _ z => (nomatch z)⟩⟩
theorem Come.len {rs : List RF} {L : List (Names × Bool)} {D : Addr} {kvs : List (Key × V)} {H : Hp} (h : Come rs L D kvs H) : kvs.length = L.length := by
  have := congrArg List.length h.keys
  simpa using this
theorem Come.key {rs : List RF} {L : List (Names × Bool)} {D : Addr} {kvs : List (Key × V)} {H : Hp} (h : Come rs L D kvs H) {k : Nat} {kk : Key} {v : V} (hk : kvs[k]? = some (kk, v)) : ∃ e, L[k]? = some e ∧ kk = .inr (S (txtE e)) := by
  have h1 := congrArg (fun l => l[k]?) h.keys
  simp only [List.getElem?_map, hk, Option.map_some] at h1
  cases he : L[k]? with
  | none =>
    rw [he] at h1
    cases h1
  | some e =>
    rw [he] at h1
    exact ⟨e, rfl, Option.some.inj h1⟩
theorem Come.no {rs : List RF} {L : List (Names × Bool)} {D : Addr} {kvs : List (Key × V)} {H : Hp} (h : Come rs L D kvs H) {w : List Nat} (hw : w ∉ L.map txtE) : valV kvs (.inr (S w)) = none := by
  cases e : valV kvs (.inr (S w)) with
  | none => rfl
  | some v =>
    have := valV_in e
    rw [h.keys] at this
    exact absurd (key_mem.mp this) hw
theorem Come.of {rs : List RF} {L : List (Names × Bool)} {D : Addr} {kvs : List (Key × V)} {H : Hp} (hd : H D = some (.dK kvs)) (td : ToldD rs (L.map txtE) kvs H) (nd : L.Nodup) (g : ∀ e ∈ L, GoodP (txtE e) e.1 e.2) : Come rs L D kvs H := by
  refine ⟨hd, by rw [td.keys, once_nd (txt_nd nd g)], fun e he => ?_⟩
  obtain ⟨v, hv, t, nms, fo, b, o, rfl, ht, hp, hdn⟩ := td.at (List.mem_map.mpr ⟨e, he, rfl⟩)
  rw [(g e he).path] at hp
  cases hp
  obtain ⟨rfl, rfl⟩ := hdn.uniq down_is
  exact ⟨t, hv, ht⟩
theorem q_seq {t u : TS} {D : Ends} {σ : L2.St} {H : Hp} (h : t { D with nx := fun σ' H' => u D σ' H' } σ H) : tSeq t u D σ H := h
theorem q_dput {i j : Nat} {z : Str} {u : TS} {D : Ends} {σ : L2.St} {H : Hp} {d : Addr} {v : V} {kvs : List (Key × V)} (e1 : σ[i]? = some (some (.ref d))) (e2 : σ[j]? = some (some v)) (hd : H d = some (.dK kvs)) (hl : kvs.length < 16777216) (h : u D σ (upd H d (.dK (putK kvs (.inr z) v)))) : tSeq (sDPut (tVar i) (tC (.str z)) (tVar j)) u D σ H := ⟨v, e2, .ref d, e1, d, _, rfl, dput_s hd hl, h⟩
theorem perm_leaf {rs : List RF} {PE L : List (Names × Bool)} (p : PE.Perm L) : (PE.filter (fun e => shB rs e.1 e.2 && !e.2) ++ L.filter (goodB rs)).Perm (PE.filter fun e => !e.2) := by
  have h1 : (PE.filter fun e => shB rs e.1 e.2 && !e.2) = (PE.filter fun e => !e.2).filter fun e => shB rs e.1 e.2 := by
    rw [List.filter_filter]
  have h2 : (L.filter (goodB rs)).Perm ((PE.filter fun e => !e.2).filter fun e => !shB rs e.1 e.2) := by
    rw [List.filter_filter]
    exact (p.symm.filter _)
  rw [h1]
  exact (List.Perm.append_left _ h2).trans (List.filter_append_perm _ _)
theorem sorted_leaf {rs : List RF} {PE L : List (Names × Bool)} {P : List (List Nat)} (hP : P = PE.map txtE) (hs : P.Pairwise fun a b => leW a b = true) (p : PE.Perm L) : srtW ((PE.filter fun e => shB rs e.1 e.2 && !e.2).map txtE ++ (L.filter (goodB rs)).map txtE) = (PE.filter fun e => !e.2).map txtE := by
  refine srt_uniq (srt_pw _) ?_ ?_
  · rw [hP] at hs
    exact hs.sublist (List.filter_sublist.map _)
  · rw [← List.map_append]
    exact (srt_perm _).trans ((perm_leaf p).map _)
theorem q_newK {i : Nat} {u : TS} {D : Ends} {σ : L2.St} {H : Hp} (h : ∀ p, H p = none → u D (σ.set i (some (.ref p))) (upd H p (.dK []))) : tSeq (tAsg tDNewK (gName i)) u D σ H := h
theorem q_lock {i : Nat} {te : TE} {u : TS} {D : Ends} {σ : L2.St} {H : Hp} {d : Addr} {kvs : List (Key × V)} (hd : H d = some (.dK kvs)) (h : ∀ od, te σ (upd H d (.frz od (.dK kvs))) fun v H' => H' d = some (.frz od (.dK kvs)) ∧ u D (σ.set i (some v)) (upd H' d (.dK kvs))) : tSeq (tLock (tAsg te (gName i))) u D σ H := ⟨d, _, hd, trivial, h⟩

/-! ### k86 -/
def spLawT (K : PySem.W.Frag) : Sp := fun vs H Q _ => ∃ a, ∃ ns : List Int, vs = [.ref a] ∧ SqL K H a (ns.map V.int) ∧ ns.length ≤ 63 ∧ NdefX.TabsN (tabsT K) H ∧ ∀ H', Q (.bl true) H'
theorem law_lenT {vs : List V} {H : Hp} {Q : VK} {E : XK} (h : spLawT K vs H Q E) : vs.length = ["_law_script"].length := by
  obtain ⟨a, ns, rfl, _⟩ := h
  rfl
theorem tab_nil {H : Hp} {p : Addr} {nm : Nat → Nat → Str} (h : H p = some (.tbl #[])) : NdefX.TabN H p nm := ⟨#[], h, trivial, fun pos cv hc => by cases hc⟩
theorem law_spT {a : Addr} {ns : List Int} {H : Hp} (hs : SqL K H a (ns.map V.int)) (hl : ns.length ≤ 63) (hb : ∀ z ∈ ns, Builtin.Int.intBits z ≤ 1048576) (ht : H (tbP K "spared") = some (.tbl #[]) ∧ H (tbP K "tops") = some (.tbl #[]) ∧ H (tbP K "law") = some (.tbl #[])) : spLawT K [.ref a] H (fun v _ => v = .bl true) fun _ _ _ => False := ⟨a, ns, rfl, hs, hl, fun p hp => by
  simp only [tabsT, List.mem_cons, List.not_mem_nil, or_false] at hp
  rcases hp with rfl | rfl | rfl
  · exact tab_nil ht.1
  · exact tab_nil ht.2.1
  · exact tab_nil ht.2.2, fun _ => rfl⟩
theorem bd_law (T : Txt K mg) (B : Txb K mg base) : BodyC P w K mg base (15 - 1) (fA K "law") "law" (defBody TX.s_law) (defScope TX.s_law) N_law (spLawT K) := by
    rintro A outer s H vs Q E hr ⟨a, ns, rfl, hs, hn, tb, q⟩
    have hcode := code_of T.F_law
    refine ⟨_, (pss_cons (ps_set (i := 1) sc_law.nd rfl (Or.inl rfl) (pe_mid (pe_cal (ok__law_signs T) (hr.mono (by decide)) rfl T.g__law_signs (pasE (takes_of rfl rfl rfl rfl) (fun _ _ _ _ h => h)) (pa_cons (pe_cal (ok__law_cell T) (hr.mono (by decide)) rfl T.g__law_cell (pasE (takes_of rfl rfl rfl rfl) (fun _ _ _ _ h => h)) (pa_cons (pv 0) (pa_cons pe_int pa_nil))) pa_nil))))
  (pss_cons (ps_set (i := 2) sc_law.nd rfl (Or.inl rfl) (pe_mid (pe_cal (ok__law_rows T) (hr.mono (by decide)) rfl T.g__law_rows (pasE (takes_of rfl rfl rfl rfl) (fun _ _ _ _ h => h)) (pa_cons (pv 0) (pa_cons pe_int (pa_cons (pe_op (o_add (K := K)) pe_int (pe_op op_mod (pe_op op_fdivW (pe_cal (ok__law_cell T) (hr.mono (by decide)) rfl T.g__law_cell (pasE (takes_of rfl rfl rfl rfl) (fun _ _ _ _ h => h)) (pa_cons (pv 0) (pa_cons pe_int pa_nil))) pe_int) pe_int)) (pa_cons (pv 1) pa_nil)))))))
  (pss_cons (ps_set (i := 2) sc_law.nd rfl (Or.inl rfl) (pe_mid (pe_cal (ok__law_with_long T) (hr.mono (by decide)) rfl T.g__law_with_long (pasE (takes_of rfl rfl rfl rfl) (fun _ _ _ _ h => h)) (pa_cons (pv 2) (pa_cons (pe_op op_fdivW (pe_cal (ok__law_cell T) (hr.mono (by decide)) rfl T.g__law_cell (pasE (takes_of rfl rfl rfl rfl) (fun _ _ _ _ h => h)) (pa_cons (pv 0) (pa_cons pe_int pa_nil))) pe_int) (pa_cons (pv 1) pa_nil))))))
  (pss_cons (ps_set (i := 3) sc_law.nd rfl (Or.inl rfl) (pe_mid (pe_cal (ok__law_lists T) (hr.mono (by decide)) rfl T.g__law_lists (pasE (takes_of rfl rfl rfl rfl) (fun _ _ _ _ h => h)) (pa_cons (pv 0) (pa_cons pe_int (pa_cons (pv 2) (pa_cons (pv 1) pa_nil)))))))
  (pss_cons (ps_dput (hu_of hr) (pv 3) pe_str (pv 2) rfl)
  (pss_cons (ps_set (i := 4) sc_law.nd rfl (Or.inl rfl) (pe_mid (pe_cal (ok_gathered T) (hr.mono (by decide)) rfl T.g_gathered (pasE (takes_of rfl rfl rfl rfl) (fun _ _ _ _ h => h)) (pa_cons (pe_cal (ok__law_made_lists T) (hr.mono (by decide)) rfl T.g__law_made_lists (pasE (takes_of rfl rfl rfl rfl) (fun _ _ _ _ h => h)) (pa_cons (pv 3) pa_nil)) pa_nil))))
  (pss_cons (ps_set (i := 5) sc_law.nd rfl (Or.inl rfl) (pe_mid (pe_cal (ok__law_wide_tree T) (hr.mono (by decide)) rfl T.g__law_wide_tree (pasE (takes_of rfl rfl rfl rfl) (fun _ _ _ _ h => h)) (pa_cons (pv 0) (pa_cons (pv 2) (pa_cons (pv 3) (pa_cons (pv 1) pa_nil)))))))
  (pss_cons (ps_set (i := 6) sc_law.nd rfl (Or.inr rfl) pe_dnewK)
  (pss_cons (NdefX.ps_ndefMS (T := tabsT K) (nm := nmQ) (c := cdP K "law") (P := tbP K "law") (i := 7) rfl B.tb_law hcode (by simp [tabsT]) (show nmQ 411 4 = Str.ofString "law" ++ Str.ofString ".<locals>." ++ Str.ofString "_law_act" from by decide +kernel) (fun p hp _ => tabsT_nm p hp) (NdefX.ndef_free (sc := defScope TX.s_law) (nsc := C8.fnScope s_law__law_act) (fr := ["_law_come"]) (by decide +kernel)) rfl rfl rfl sc_law.nd rfl (Or.inl rfl) (Or.inl rfl))
  (pss_cons (ps_if (pt_mid (pt_cmpR (o_ne (K := K) (hu64 hr)) (pe_calW (js := [6]) (fr := ["_law_come"]) (ok_walked T) (hr.mono (by decide)) rfl T.g_walked (pasE (takes_of rfl rfl rfl rfl) (fun _ _ _ _ h => h)) (fun ok => NdefX.Caps.made (scope := C8.fnScope s_law__law_act) ok (NdefX.ndef_free (sc := defScope TX.s_law) (nsc := C8.fnScope s_law__law_act) (fr := ["_law_come"]) (by decide +kernel)) (by decide +kernel) rfl) (fun _ => rfl) (pa_cons (pv 5) (pa_cons (pv 4) (pa_cons (pv 7) pa_nil)))) (pe_callB call_lenD (by rfl) T.fr_len boot_len (pa_cons (pv 6) pa_nil)) (nomark _))) (pss_one (ps_ret pe_bl)) pss_nil)
  (pss_cons (ps_set (i := 8) sc_law.nd rfl (Or.inl rfl) (pe_lst pa_nil))
  (pss_cons (ps_set (i := 9) sc_law.nd rfl (Or.inl rfl) (pe_mid (pe_callB (o_sortedA (K := K)) (by rfl) T.fr_sorted (by decide +kernel) (pa_cons (pe_cal (ok__law_paths T 10) (hr.mono (by omega)) rfl T.g__law_paths (pasE (takes_of rfl rfl rfl rfl) (fun _ _ _ _ h => h)) (pa_cons (pv 5) (pa_cons pe_str pa_nil))) pa_nil))))
  (pss_cons (ps_if (pt_mid (pt_cmpR (o_ne (K := K) (hu64 hr)) (pe_cal (ok_paths_of T) (hr.mono (by decide)) rfl T.g_paths_of (pasE (takes_of rfl rfl rfl rfl) (fun _ _ _ _ h => h)) (pa_cons (pv 5) pa_nil)) (pv 9) (nomark _))) (pss_one (ps_ret pe_bl)) pss_nil)
  (pss_cons (ps_mid (ps_for (passes_of rfl) rfl (pi_mid (o_it (K := K) rfl (pv 9))) (pg_name (i := 10) sc_law.nd rfl (Or.inr rfl)) (pss_cons (ps_set (i := 11) sc_law.nd rfl (Or.inl rfl) (pe_mid (pe_cal (ok_told T) (hr.mono (by decide)) rfl T.g_told (pasE (takes_of rfl rfl rfl rfl) (fun _ _ _ _ h => h)) (pa_cons (pv 4) (pa_cons (pv 10) pa_nil)))))
  (pss_cons (ps_lock (ps_setLc (own := [("_law_place", 15)]) (g := (gName 15)) (i := 12) rfl sc_law.nd rfl rfl (sw_true rfl rfl rfl (by decide +kernel)) (pi_mid (pi_keys (pv 6))) (blkOk_by (N := N_law) (sc := defScope TX.s_law) (by decide +kernel)) (fun _ _ _ _ _ => (pg_name (i := 15) sc_law.nd rfl (Or.inl rfl))) (fun _ _ _ _ _ => (pts_one (pt_mid (PW.pt (pw_and (pt_tru (K := K) (pe_ix (o_ix (K := K)) (pe_dget (hu_of hr) (pv 6) (pv 15) (fun _ _ => rfl)) pe_int (fun _ _ => rfl)) (by intro _; rfl)) (pw_and1 (pt_cmpR (o_eq (K := K) (hu64 hr)) (pe_ix (o_ix (K := K)) (pv 15) (pe_un un_neg pe_int) (fun _ _ => rfl)) pe_str (nomark _)))))))) (fun _ _ _ _ _ => (pe_mid (pv 15)))))
  (pss_cons (ps_setLc (own := [("_law_place", 15)]) (g := (gName 15)) (i := 13) rfl sc_law.nd rfl rfl (sw_true rfl rfl rfl (by decide +kernel)) (pi_mid (o_it (K := K) rfl (pv 12))) (blkOk_by (N := N_law) (sc := defScope TX.s_law) (by decide +kernel)) (fun _ _ _ _ _ => (pg_name (i := 15) sc_law.nd rfl (Or.inl rfl))) (fun _ _ _ _ _ => (pts_one (pt_mid (PW.pt (pw_and (pt_cmpR (o_ne (K := K) (hu64 hr)) (pv 15) (pv 10) (nomark _)) (pw_and1 (pt_tru (K := K) (pe_bmK (K := K) PySem.F.plainAttrs_str PySem.F.slot_str_startswith PySem.F.type_str_startswith mo_startswith (pv 10) (pa_cons (pv 15) pa_nil)) (by intro _; rfl)))))))) (fun _ _ _ _ _ => (pe_mid (pv 15))))
  (pss_cons (ps_if (pt_mid (PW.pt (pw_and (pt_cmp (pc_din (hu_of hr) (pv 10) (pv 6)) rfl) (pw_and1 (PW.pt (pw_or (pt_cmpR (o_ne (K := K) (hu64 hr)) (pv 13) (pe_lst pa_nil) (nomark _)) (pw_or1 (pt_cmpR (o_ne (K := K) (hu64 hr)) (pe_dget (hu_of hr) (pv 6) (pv 10) (fun _ _ => rfl)) (pv 11) (nomark _))))))))) (pss_one (ps_ret pe_bl)) pss_nil)
  (pss_cons (ps_if (pt_mid (PW.pt (pw_and (pt_cmp (pc_dnotin (hu_of hr) (pv 10) (pv 6)) rfl) (pw_and1 (PW.pt (pw_or (pt_cmpR (o_ne (K := K) (hu64 hr)) (pe_callB (o_lenW (K := K) (w := w)) (by rfl) T.fr_len boot_len (pa_cons (pv 13) pa_nil)) pe_int (nomark _)) (pw_or1 (pt_cmpR (o_ne (K := K) (hu64 hr)) (pe_dget (hu_of hr) (pv 6) (pe_ix (o_ix (K := K)) (pv 13) pe_int (fun _ _ => rfl)) (fun _ _ => rfl)) (pv 11) (nomark _))))))))) (pss_one (ps_ret pe_bl)) pss_nil)
  (pss_one (ps_mid (ps_if (pt_mid (PW.pt (pw_and (pt_tru (K := K) (pe_ix (o_ix (K := K)) (pv 11) pe_int (fun _ _ => rfl)) (by intro _; rfl)) (pw_and1 (pt_cmpR (o_ne (K := K) (hu64 hr)) (pe_ix (o_ix (K := K)) (pv 10) (pe_un un_neg pe_int) (fun _ _ => rfl)) pe_str (nomark _)))))) (pss_one (ps_expr (pe_bmK (K := K) PySem.F.plainAttrs_list PySem.F.slot_list_append PySem.F.type_list_append mt_append (pv 8) (pa_cons (pe_mid (pv 10)) pa_nil)))) pss_nil))))))))))
  (pss_cons (ps_setLc (own := [("_law_path", 10)]) (g := (gName 10)) (i := 14) rfl sc_law.nd rfl rfl (sw_true rfl rfl rfl (by decide +kernel)) (pi_mid (o_it (K := K) rfl (pv 9))) (blkOk_by (N := N_law) (sc := defScope TX.s_law) (by decide +kernel)) (fun _ _ _ _ _ => (pg_name (i := 10) sc_law.nd rfl (Or.inl rfl))) (fun _ _ _ _ _ => (pts_one (pt_mid (pt_cmpR (o_ne (K := K) (hu64 hr)) (pe_ix (o_ix (K := K)) (pv 10) (pe_un un_neg pe_int) (fun _ _ => rfl)) pe_str (nomark _))))) (fun _ _ _ _ _ => (pe_mid (pv 10))))
  (pss_cons (ps_if (pt_mid (pt_cmpR (o_ne (K := K) (hu64 hr)) (pe_callB (o_sortedA (K := K)) (by rfl) T.fr_sorted (by decide +kernel) (pa_cons (pe_op (o_add (K := K)) (pv 8) (pe_cal (ok_spared T B) (hr.mono (by decide)) rfl T.g_spared (pasE (takes_of rfl rfl rfl rfl) (fun _ _ _ _ h => h)) (pa_cons (pv 5) (pa_cons (pv 4) pa_nil)))) pa_nil)) (pv 14) (nomark _))) (pss_one (ps_ret pe_bl)) pss_nil)
  (pss_one (ps_ret (pe_cmpR (o_eq (K := K) (hu64 hr)) (pe_callB (o_sortedA (K := K)) (by rfl) T.fr_sorted (by decide +kernel) (pa_cons (pe_cal (ok_tops T B) (hr.mono (by decide)) rfl T.g_tops (pasE (takes_of rfl rfl rfl rfl) (fun _ _ _ _ h => h)) (pa_cons (pv 5) (pa_cons (pv 4) pa_nil))) pa_nil)) (pe_callB (o_sortedA (K := K)) (by rfl) T.fr_sorted (by decide +kernel) (pa_cons (pe_lock (pe_lc (own := [("_law_path", 10)]) (g := (gName 10)) rfl sc_law.nd (pi_mid (pi_keys (pv 6))) (blkOk_by (N := N_law) (sc := defScope TX.s_law) (by decide +kernel)) (fun _ _ _ _ _ => (pg_name (i := 10) sc_law.nd rfl (Or.inl rfl))) (fun _ _ _ _ _ => (pts_one (pt_mid (pt_tru (K := K) (pe_ix (o_ix (K := K)) (pe_dget (hu_of hr) (pv 6) (pv 10) (fun _ _ => rfl)) pe_int (fun _ _ => rfl)) (by intro _; rfl))))) (fun _ _ _ _ _ => (pe_mid (pv 10))))) pa_nil)) (nomark _)))))))))))))))))))), ?_⟩
    have tobj := T.obj
    refine q_midG (fun v H' => Same H H' ∧ ∃ p l, v = .ref p ∧ H' p = some (.lst l) ∧ l.length = 4 ∧ l.Nodup ∧ ∀ v ∈ l, SignV v) ?_ ?_
    · walk_at "rd"
      exact ⟨a, 0, ns, rfl, hs, hn, by decide, by decide, fun c => ⟨c, rfl, fun p l H' hl4 nd hw hp sm hp' => ⟨sm, p, rfl, l, hp', hl4, nd, hw⟩⟩⟩
    rintro _ H1 ⟨s1, p, ws, rfl, hp, hl4, nd, hw⟩
    have hs1 := same_l s1 hs
    refine q_midG (fun v H' => Same H1 H' ∧ ∃ F rs, v = .ref F ∧ RowsL K rs F H' ∧ 1 ≤ rs.length ∧ rs.length ≤ 5) ?_ ?_
    · walk_at "rd"
      refine ⟨a, 0, ns, rfl, hs1, hn, by decide, by decide, fun c => ?_⟩
      obtain ⟨m, hm, hm1, hm2⟩ : ∃ m : Nat, 1 + c / 39 % 5 = (m : Int) ∧ 1 ≤ m ∧ m ≤ 5 := by
        have h0 : 0 ≤ c / 39 % 5 := Int.emod_nonneg _ (by decide)
        have h1 : c / 39 % 5 < 5 := Int.emod_lt_of_pos _ (by decide)
        exact ⟨(1 + c / 39 % 5).toNat, by omega, by omega, by omega⟩
      refine ⟨c, rfl, ⟨by decide, by decide⟩, ?_⟩
      rw [hm]
      exact ⟨a, ns, p, ws, 1, m, rfl, hs1, hn, by omega, .inl (.inl hp), hl4, hw, fun F rs H' s _ h l => ⟨s, F, rfl, rs, h, by omega, by omega⟩⟩
    rintro _ H2 ⟨s2, F0, rs0, rfl, hrs0, lrs1, lrs0⟩
    have hp2 := s2 _ _ hp
    refine q_midG (fun v H' => Same H2 H' ∧ ∃ F rs, v = .ref F ∧ RowsL K rs F H' ∧ 1 ≤ rs.length ∧ rs.length ≤ 5) ?_ ?_
    · walk_at "rd"
      exact ⟨a, 0, ns, rfl, same_l s2 hs1, hn, by decide, by decide, fun c => ⟨c, rfl, ⟨by decide, by decide⟩, F0, _, p, ws, rs0, rfl, hrs0, by omega, .inl (.inl hp2), hl4, nd, hw, fun G rs' H' s h l => ⟨s, G, rfl, rs', h, by omega, by omega⟩⟩⟩
    rintro _ H3 ⟨s3, F, fs, rfl, hrs, lr1, lrs⟩
    have hp3 := s3 _ _ hp2
    have hs3 := same_l (s2.trans s3) hs1
    refine q_midG (fun v H' => Same H3 H' ∧ ∃ d es kvs, v = .ref d ∧ H3 d = none ∧ H' d = some (.dK kvs) ∧ Lsts (FmV K) es kvs H' ∧ LEG es 4) ?_ ?_
    · walk_at "rd"
      exact ⟨a, ns, F, fs, p, ws, 4, rfl, hs3, hn, by decide, hrs, ⟨lr1, lrs⟩, .inl (.inl hp3), hl4, nd, hw, fun d es kvs H' s h0 hd hl leg => ⟨s, d, rfl, h0, es, kvs, hd, hl, leg⟩⟩
    rintro _ H4 ⟨s4, d, es0, kvs0, rfl, hd0, hd4, hl4', leg4⟩
    have hrs4 := hrs.mono s4
    obtain ⟨fus, hFl, fE, fok⟩ := id hrs4
    have hput := hl4'.put (f := foldT []) (rs := fs) hd4 hFl fE fun g u h => dp_nd (.dict hd4) _ _ (RF.tup g) h
    have lk := hl4'.len
    have lg := leg4.len
    refine q_dput (z := S []) rfl rfl hd4 (by omega) ?_
    have s5 := same_mut (o := .dK (putK kvs0 (.inr (S [])) (.ref F))) s4 hd0
    have hd5 : (upd H4 d (.dK (putK kvs0 (.inr (S [])) (.ref F)))) d = some (.dK (putK kvs0 (.inr (S [])) (.ref F))) := upd_same
    have leg5 : LEG (putE es0 (foldT []) fs) 5 := leg4.put (by decide) (fun _ h => nomatch h) (by omega) fun r hr => (fok r hr).1
    have ene : putE es0 (foldT []) fs ≠ [] := fun z => by
      have h1 := hput.len
      rw [z] at h1
      have h2 := List.eq_nil_of_length_eq_zero h1
      have h3 : (Sum.inr (S []) : Key) ∈ (putK kvs0 (.inr (S [])) (.ref F)).map (·.1) := by
        unfold putK
        split
        · rename_i h
          obtain ⟨q, hq, e⟩ := List.any_eq_true.mp h
          exact List.mem_map.mpr ⟨_, List.mem_map.mpr ⟨q, hq, rfl⟩, by rw [if_pos (of_decide_eq_true e)]; exact of_decide_eq_true e⟩
        · simp
      have h4 : putK kvs0 (.inr (S (foldT []))) (.ref F) = [] := h2
      rw [show (S [] : Str) = S (foldT []) from rfl, h4] at h3
      cases h3
    have hs5 := same_l s5 hs3
    have hp5 := s5 _ _ hp3
    have hrs5 := hrs.mono s5
    have hput5 : Lsts (FmV K) (putE es0 (foldT []) fs) (putK kvs0 (.inr (S [])) (.ref F)) (upd H4 d (.dK (putK kvs0 (.inr (S [])) (.ref F)))) := hput
    generalize upd H4 d (.dK (putK kvs0 (.inr (S [])) (.ref F))) = H5 at *
    generalize putE es0 (foldT []) fs = es at *
    generalize putK kvs0 (.inr (S [])) (.ref F) = kvs at *
    obtain ⟨lok, lnone⟩ := leg5.ok (by decide)
    refine q_midG (fun v H' => Same H5 H' ∧ ∃ R rs, v = .ref R ∧ RowsX K rs R H') ?_ ?_
    · walk_at "rd"
      refine ⟨d, es, kvs, rfl, hd5, hput5, leg5, fun d2 kvs2 H6 s6 hd2 hd26 hl6 => ⟨d2, es, kvs2, rfl, hd26, hl6, lok, fun _ R us es' H7 srt s7 hR hR7 each => ⟨s6.trans s7, R, rfl, gathR es', us, hR7, each, gath_sz leg5 srt, ?_⟩, fun ⟨e, he, z⟩ => absurd z (lnone e he)⟩⟩
      exact Nat.le_trans (gath_len leg5 (by decide) srt) (by decide)
    rintro _ H6 ⟨s6, R, rs, rfl, rx6⟩
    refine q_midG (fun v H' => Same H6 H' ∧ ∃ En al, v = .ref (al []) ∧ TreeE En al H' ∧ En.length ≤ 1000 ∧ (∀ p, (kidN En p).length ≤ 60) ∧ ∀ e ∈ En, e.1.length ≤ 9 ∧ ∀ x ∈ e.1, x.length ≤ 400) ?_ ?_
    · walk_at "rd"
      exact ⟨a, F, d, p, ws, fs, ns, es, kvs, rfl, same_l s6 hs5, hn, hrs5.mono s6, by omega, by omega, s6 _ _ hd5, hput5.mono s6 fun _ _ x => dp_mono s6 _ _ x, leg5, ene, s6 _ _ hp5, hl4, nd, hw, fun E al H' s t l k b => ⟨s, E, al, rfl, t, l, k, b⟩⟩
    rintro _ H7 ⟨s7, En, al, rfl, tr7, lE, kE, bE⟩
    have rx7 := rx6.ext (ext_same s7)
    have tb7 := tabs_same tb ((((s1.trans s2).trans s3).trans s5).trans (s6.trans s7))
    have lEn : (entsE En 10 []).length ≤ 1000 := by
      have h2 := paths_len tr7.ok 10 [] (txtF [])
      rw [paths_ents, List.length_map] at h2
      omega
    have goodV : ∀ e ∈ entsE En 10 [], e ∈ En ∧ GoodP (txtE e) e.1 e.2 := fun e he => ⟨(ents_mem tr7.ok he).1, ent_good tr7.ok bE (ents_mem tr7.ok he).1⟩
    have goodW : ∀ e ∈ (entsE En 10 []).filter (vis rs), GoodP (txtE e) e.1 e.2 := fun e he => (goodV e (List.mem_filter.mp he).1).2
    have lV : ((entsE En 10 []).filter (vis rs)).length ≤ 1000 := Nat.le_trans (List.length_filter_le _ _) lEn
    refine q_newK fun D hD => ?_
    have sD := same_new (o := .dK []) hD
    refine q_seq ?_
    unfold NdefX.tNdefM
    refine ⟨tabs_same tb7 sD, fun f c H8 ext nd8 tb8 hf hfn hcd => ?_⟩
    have hD8 : H8 D = some (.dK []) := ext _ _ upd_same fun _ z => (nomatch z)
    have e78 : LamX.ExtN H7 H8 := ext_trans (ext_same sD) ext
    refine q_if (fun b H' => b = false ∧ LamX.ExtN H7 H' ∧ NdefX.TabsN (tabsT K) H' ∧ ∃ kvs, Come rs ((entsE En 10 []).filter (vis rs)) D kvs H') ?_ (fun _ h => nomatch h.1) fun H9 h => q_next ?_
    · walk_at "rd"
      unfold tCallSH
      walk_at "rd"
      rintro outer h ⟨cc, nfc⟩
      refine ⟨En, al, R, rs, f, NdefX.NF.of s_law__law_act "_law_act" _ _ c, _, _, [some (.ref D)], spActC, (· = D), FoundC K rs D f (NdefX.NF.of s_law__law_act "_law_act" _ _ c) H7, rfl, tr7.ext e78, lE, kE, bE, cc, nfc, nok_actC T, foundc_walk hD rx7, fun a ha => by rw [ha, hD8]; exact fun z => (nomatch z), ⟨e78, tb8, ⟨[], hD8, Nat.le_refl _, ⟨rfl, fun _ h => nomatch h⟩⟩, hfn, hcd⟩, fun H' i => ?_⟩
      obtain ⟨kv, hkv, _, td⟩ := i.dct
      have cm := Come.of hkv td ((ents_nd tr7.ok 10 []).filter _) goodW
      exact ⟨kv, hkv, rfl, by rw [cm.len, decide_eq_true rfl]; rfl, i.ext, i.tab, kv, cm⟩
    obtain ⟨_, e79, tb9, kv, cm9⟩ := h
    have tr9 := tr7.ext e79
    have rx9 := rx7.ext e79
    refine q_new fun L hL => ?_
    have sL := same_new (o := .lst []) hL
    obtain ⟨PE, hPE, pPE⟩ := perm_unmap (srt_perm ((entsE En 10 []).map txtE)) _ rfl
    have lPE : PE.length ≤ 1000 := by rw [pPE.length_eq]; exact lEn
    refine q_midG (fun v H' => Same (upd H9 L (.lst [])) H' ∧ ∃ G, v = .ref G ∧ (upd H9 L (.lst [])) G = none ∧ H' G = some (.lst (nmsV (PE.map txtE)))) ?_ ?_
    · walk_at "rd"
      refine ⟨En, al, [], [], rfl, tr9.mono sL, .inl rfl, rfl, lE, kE, Nat.zero_le _, fun D H' s hD hD' => ⟨_, .inl (.inl hD'), fun p hp => ⟨s.trans (same_new hp), p, rfl, same_none s hp, ?_⟩⟩⟩
      rw [upd_same, show ([] : List Nat) = txtF [] from rfl, paths_ents, hPE]
    rintro _ H10 ⟨s10, G, rfl, hGn, hG⟩
    have hL10 := s10 _ _ (show (upd H9 L (.lst [])) L = some (.lst []) from upd_same)
    have s910 := sL.trans s10
    have nGL : G ≠ L := fun z => by rw [z, upd_same] at hGn; cases hGn
    have goodP : ∀ e ∈ PE, e ∈ En ∧ GoodP (txtE e) e.1 e.2 := fun e he => goodV e (pPE.mem_iff.mp he)
    have okP : ∀ f : Names × Bool → Bool, ∀ w ∈ (PE.filter f).map txtE, PyData.strOk (S w) = true := fun f w hw => by
      obtain ⟨e, he, rfl⟩ := List.mem_map.mp hw
      exact (goodP e (List.mem_filter.mp he).1).2.dok
    have okP' : ∀ w ∈ PE.map txtE, PyData.strOk (S w) = true := fun w hw => by
      obtain ⟨e, he, rfl⟩ := List.mem_map.mp hw
      exact (goodP e he).2.dok
    refine q_if (fun b H' => Same H10 H' ∧ b = false) ?_ (fun _ h => nomatch h.2) fun H11 h => q_next ?_
    · walk_at "rd"
      refine ⟨En, al, rfl, tr9.mono s910, lE, kE, fun D H' s hD hD' => ?_⟩
      refine ne_dat (txts_ok okP') (by decide) (txts_dp (.inl (.inl ?_))) (txts_dp (.inl (.inl (s _ _ hG)))) ⟨_, rfl, s, rfl⟩
      rw [hD', show ([] : List Nat) = txtF [] from rfl, paths_ents, hPE]
    obtain ⟨s11, _⟩ := h
    have hL11 := s11 _ _ hL10
    have hG11 := s11 _ _ hG
    have s911 := s910.trans s11
    refine q_stm (fun σ H' => Same H9 H' ∧ ∃ x10 x11 x12 x13, σ = [some (.ref a), some (.ref p), some (.ref F), some (.ref d), some (.ref R), some (.ref (al [])), some (.ref D), some (.ref f), some (.ref L), some (.ref G), x10, x11, x12, x13, none, none] ∧ H' G = some (.lst (nmsV (PE.map txtE))) ∧ H' L = some (.lst (nmsV ((PE.filter fun e => shB rs e.1 e.2 && !e.2).map txtE)))) ?_ ?_
    · refine for_mid (J0 := Itl K G) (H0 := H11) ?_ (walk_list (K := K) (a := G) (xs := nmsV (PE.map txtE))) (fun k σ H' => Same H9 H' ∧ ∃ x10 x11 x12 x13, σ = [some (.ref a), some (.ref p), some (.ref F), some (.ref d), some (.ref R), some (.ref (al [])), some (.ref D), some (.ref f), some (.ref L), some (.ref G), x10, x11, x12, x13, none, none] ∧ H' G = some (.lst (nmsV (PE.map txtE))) ∧ H' L = some (.lst (nmsV (((PE.take k).filter fun e => shB rs e.1 e.2 && !e.2).map txtE))))
        ⟨s911, _, _, _, _, rfl, hG11, hL11⟩ (fun _ _ _ _ ⟨_, _, _, _, _, _, h, _⟩ => .inl (.inl h)) ?_ (fun σ H' h => ?_)
      · walk_at "rd"
        exact .inl ⟨_, .inl (.inl hG11)⟩
      · rintro k x σ H12 H12' hk ⟨s12, x10, x11, x12, x13, rfl, hG12, hL12⟩ ⟨rfl, hx⟩
        obtain ⟨ft, hft, rfl⟩ := nms_at hx
        rw [List.getElem?_map] at hft
        obtain ⟨e, he, rfl⟩ := Option.map_eq_some_iff.mp hft
        obtain ⟨heE, gp⟩ := goodP e (List.mem_of_getElem? he)
        have cm12 := cm9.mono s12
        refine q_midG (fun v H' => Same H12' H' ∧ ∃ t, v = .ref t ∧ H' t = some (.tup [.bl (shB rs e.1 e.2), optV (dnO rs e.1 e.2)])) ?_ ?_
        · walk_at "rd"
          refine ⟨R, txtE e, rs, rfl, Nat.le_trans gp.size (by decide), (rx9.ext (ext_same s12)).o, fun nms fo hp b o p H' s hp' hd => ?_, fun hn => ?_⟩
          · obtain ⟨rfl, rfl⟩ : nms = e.1 ∧ fo = e.2 := by
              have := hp.symm.trans gp.path
              cases this
              exact ⟨rfl, rfl⟩
            exact ⟨s, p, rfl, by rw [hp', down_sh hd, down_o hd]⟩
          · rw [gp.path] at hn
            cases hn
        rintro _ H13 ⟨s13, t, rfl, ht⟩
        have cm13 := cm12.mono s13
        refine q_lock cm13.at_ fun od => ?_
        refine lc_midT (J0 := Itk D od kv) (H0 := upd H13 D (.frz od (.dK kv))) ?_ walk_keys (by rw [cm13.len]; omega) (fun j acc _ => acc = nmsV (((((entsE En 10 []).filter (vis rs)).take j).filter fun r => shB rs r.1 r.2 && r.2).map txtE)) (fun _ _ _ _ _ e => e) rfl (fun H' s => s _ _ upd_same) (fun _ _ _ _ y => by rw [y.1]; exact Same.refl _) (fun _ => rfl) ?_ ?_
        · unfold iKeys
          walk_at "rd"
          exact ⟨od, .inl ⟨kv, upd_same, rfl⟩⟩
        · rintro j x acc H' H'' hj s' rfl ⟨rfl, kk, v, hkv, rfl⟩
          obtain ⟨r, hr, rfl⟩ := cm13.key hkv
          have hrm := List.mem_of_getElem? hr
          have gr := goodW r hrm
          obtain ⟨t', hval, ht'⟩ := cm13.val r hrm
          have ntD : t' ≠ D := fun z => by rw [z, cm13.at_] at ht'; cases ht'
          have hdk := s' _ _ (show (upd H13 D (.frz od (.dK kv))) D = some (.frz od (.dK kv)) from upd_same)
          have ht2 := s' _ _ (show (upd H13 D (.frz od (.dK kv))) t' = _ from (upd_ne ntD).trans ht')
          have tk : ((((entsE En 10 []).filter (vis rs)).take (j + 1)).filter fun r => shB rs r.1 r.2 && r.2) = ((((entsE En 10 []).filter (vis rs)).take j).filter fun r => shB rs r.1 r.2 && r.2) ++ (if (shB rs r.1 r.2 && r.2) = true then [r] else []) := by
            rw [List.take_succ, hr, List.filter_append]
            cases h : (shB rs r.1 r.2 && r.2) <;> simp [h]
          walk_at "rd"
          refine ⟨.ref t', .inl ⟨kv, .inr (S (txtE r)), .inr ⟨od, hdk⟩, rfl, hval.symm⟩, _, .inr (.inl (.inl ht2)), _, rfl, shB rs r.1 r.2, rfl, ?_⟩
          rw [tk]
          refine ite2 (fun h => ?_) fun h => ?_
          · obtain ⟨u, c, hu, hc⟩ := gr.last
            have hl : (txtE r).getLast? = some c := by
              rw [hu, List.getLast?_append]
              rfl
            refine ⟨by rw [S_len]; have := gr.size; omega, c, atI_lastC hl, ?_⟩
            by_cases h47 : c = 47
            · have r2 : r.2 = true := by rw [← hc, decide_eq_true h47]
              have heq : ({ cps := #[c] } : Str) = Str.ofString "/" := by rw [h47]; rfl
              rw [if_pos heq, show shB rs r.1 r.2 = true from h, r2, if_pos (show (true && true) = true from rfl), List.map_append]
              unfold nmsV
              simp [kV]
            · have r2 : r.2 = false := by rw [← hc, decide_eq_false h47]
              rw [if_neg (show ¬ ({ cps := #[c] } : Str) = Str.ofString "/" from fun z => h47 (S1_inj z)), r2, Bool.and_false, if_neg Bool.false_ne_true, List.append_nil]
          · rw [show shB rs r.1 r.2 = false from by simpa using h, Bool.false_and, if_neg Bool.false_ne_true, List.append_nil]
        intro U acc H14 hU s14 hUl _ hacc
        rw [cm13.len, List.take_length] at hacc
        subst hacc
        have hfr := s14 _ _ (show (upd H13 D (.frz od (.dK kv))) D = some (.frz od (.dK kv)) from upd_same)
        have s15 := same_unlock cm13.at_ s14
        have hUD : U ≠ D := fun z => by rw [z, upd_same] at hU; cases hU
        have hU15 : (upd H14 D (.dK kv)) U = some (.lst (nmsV ((shutL rs En).map txtE))) := by rw [upd_ne hUD]; exact hUl
        refine ⟨hfr, ?_⟩
        generalize upd H14 D (.dK kv) = H15 at *
        have s1315 := s13.trans s15
        have cm15 := cm13.mono s15
        have ht15 := s15 _ _ ht
        have lsh : (shutL rs En).length ≤ 1000 := Nat.le_trans (List.length_filter_le _ _) lV
        refine q_val ?_
        refine lc_midT (J0 := Itl K U) (H0 := H15) ?_ (walk_list (K := K) (a := U) (xs := nmsV ((shutL rs En).map txtE))) (by rw [nms_len, List.length_map]; omega) (fun j acc _ => acc = nmsV ((((shutL rs En).take j).filter fun r => !decide (txtE r = txtE e) && (txtE r).isPrefixOf (txtE e)).map txtE)) (fun _ _ _ _ _ e => e) rfl (fun H' s => .inl (.inl (s _ _ hU15))) (fun _ _ _ _ y => y_at y) (fun _ => rfl) ?_ ?_
        · walk_at "rd"
          exact .inl ⟨_, .inl (.inl hU15)⟩
        · rintro j x acc H' H'' hj s' rfl ⟨rfl, hx⟩
          obtain ⟨rt, hrt, rfl⟩ := nms_at hx
          rw [List.getElem?_map] at hrt
          obtain ⟨r, hr, rfl⟩ := Option.map_eq_some_iff.mp hrt
          walk_at "rd"
          have tk : (((shutL rs En).take (j + 1)).filter fun r => !decide (txtE r = txtE e) && (txtE r).isPrefixOf (txtE e)) = (((shutL rs En).take j).filter fun r => !decide (txtE r = txtE e) && (txtE r).isPrefixOf (txtE e)) ++ (if (!decide (txtE r = txtE e) && (txtE r).isPrefixOf (txtE e)) = true then [r] else []) := by
            rw [List.take_succ, hr, List.filter_append]
            cases h : (!decide (txtE r = txtE e) && (txtE r).isPrefixOf (txtE e)) <;> simp [h]
          rw [tk]
          by_cases heq : S (txtE r) = S (txtE e)
          · rw [if_neg (fun z => z heq), decide_eq_true (S_inj heq), if_neg (by simp), List.append_nil]
          · rw [if_pos heq]
            refine ⟨_, rfl, Same.refl _, ?_⟩
            rw [starts_pre, decide_eq_false (show ¬ txtE r = txtE e from fun z => heq (by rw [z])), Bool.not_false, Bool.true_and]
            by_cases h : (txtE r).isPrefixOf (txtE e) = true
            · rw [if_pos h, if_pos h, List.map_append]
              unfold nmsV
              simp
            · rw [if_neg h, if_neg h, List.append_nil]
        intro W acc H16 hW s16 hWl _ hacc
        rw [nms_len, List.length_map, List.take_length] at hacc
        subst hacc
        have hW16 : H16 W = some (.lst (nmsV ((aboveL rs En e).map txtE))) := hWl
        clear hWl
        have s1316 := s1315.trans s16
        have cm16 := cm15.mono s16
        have ht16 := s16 _ _ ht15
        have hvis : e ∈ (entsE En 10 []).filter (vis rs) ↔ vis rs e = true := ⟨fun h => (List.mem_filter.mp h).2, fun h => List.mem_filter.mpr ⟨ents_in tr9.ok heE, h⟩⟩
        refine q_if (fun b H' => Same H16 H' ∧ b = false) ?_ (fun _ h => nomatch h.2) fun H17 h => q_next ?_
        · walk_at "rd"
          cases hv : vis rs e with
          | true =>
            obtain ⟨t', hval, ht'⟩ := cm16.val e (hvis.mpr hv)
            rw [above_none tr9.ok heE hv] at hW16
            refine ⟨some (.ref t'), .inl ⟨kv, .inr (S (txtE e)), .inl cm16.at_, rfl, hval.symm⟩, ?_⟩
            rw [if_pos (show (some (V.ref t')).isSome = true from rfl)]
            intro p1 hp1
            have n1 := same_new (o := .lst []) hp1
            refine ne_dat (d := .list []) (dok_lst (n := 1) fun d hd => nomatch hd) (by decide) (.lst (.inl (.inl (n1 _ _ hW16))) .nil) (.lst (.inl (.inl upd_same)) .nil) ⟨_, rfl, ?_⟩
            rw [if_neg Bool.false_ne_true]
            exact ⟨.ref t', .inl ⟨kv, .inr (S (txtE e)), .inl (n1 _ _ cm16.at_), rfl, hval.symm⟩, ne_dat pair_ok (by decide) (pair_dp (.inl (.inl (n1 _ _ ht')))) (pair_dp (.inl (.inl (n1 _ _ ht16)))) ⟨_, rfl, n1, rfl⟩⟩
          | false =>
            refine ⟨none, .inl ⟨kv, .inr (S (txtE e)), .inl cm16.at_, rfl, (cm16.no fun z => ?_).symm⟩, trivial⟩
            obtain ⟨e', he', ee⟩ := List.mem_map.mp z
            rw [txt_inj (goodW e' he') gp ee] at he'
            rw [hvis.mp he'] at hv
            cases hv
        obtain ⟨s17, _⟩ := h
        have hW17 := s17 _ _ hW16
        have ht17 := s17 _ _ ht16
        have cm17 := cm16.mono s17
        refine q_if (fun b H' => Same H17 H' ∧ b = false) ?_ (fun _ h => nomatch h.2) fun H18 h => q_next ?_
        · walk_at "rd"
          cases hv : vis rs e with
          | true =>
            obtain ⟨t', hval, ht'⟩ := cm17.val e (hvis.mpr hv)
            exact ⟨some (.ref t'), .inl ⟨kv, .inr (S (txtE e)), .inl cm17.at_, rfl, hval.symm⟩, trivial⟩
          | false =>
            refine ⟨none, .inl ⟨kv, .inr (S (txtE e)), .inl cm17.at_, rfl, (cm17.no fun z => ?_).symm⟩, ?_⟩
            · obtain ⟨e', he', ee⟩ := List.mem_map.mp z
              rw [txt_inj (goodW e' he') gp ee] at he'
              rw [hvis.mp he'] at hv
              cases hv
            · rw [if_pos (show (none : Option V).isSome = false from rfl)]
              obtain ⟨r, hab, hrV, hrs, hes, hed⟩ := above_one tr9.ok heE hv
              rw [hab] at hW17
              obtain ⟨t', hval, ht'⟩ := cm17.val r hrV
              rw [hrs] at ht'
              rw [hes, hed] at ht17
              refine .inr ⟨_, .inl ⟨_, .inl (.inl hW17), rfl⟩, ?_⟩
              rw [if_neg (fun z => z (by rfl))]
              exact ⟨_, .inl (.inl (.inl hW17)), .str (S (txtE r)), rfl, .ref t', .inl ⟨kv, .inr (S (txtE r)), .inl cm17.at_, rfl, hval.symm⟩, ne_dat pair_ok (by decide) (pair_dp (.inl (.inl ht'))) (pair_dp (.inl (.inl ht17))) ⟨_, rfl, Same.refl _, rfl⟩⟩
        obtain ⟨s18, _⟩ := h
        have s1318 := (s1316.trans s17).trans s18
        have hG18 := s1318 _ _ hG12
        have hL18 := s1318 _ _ hL12
        have ht18 := s18 _ _ ht17
        refine ⟨_, ?_, fun _ _ h => h, fun _ _ h => h, fun _ _ h => h, fun _ _ h => h⟩
        have tk : ((PE.take (k + 1)).filter fun e => shB rs e.1 e.2 && !e.2) = ((PE.take k).filter fun e => shB rs e.1 e.2 && !e.2) ++ (if (shB rs e.1 e.2 && !e.2) = true then [e] else []) := by
          rw [List.take_succ, he, List.filter_append]
          cases h : (shB rs e.1 e.2 && !e.2) <;> simp [h]
        obtain ⟨u, c, hu, hc⟩ := gp.last
        have hl : (txtE e).getLast? = some c := by
          rw [hu, List.getLast?_append]
          rfl
        refine l_if (fun b H' => H' = H18 ∧ b = (shB rs e.1 e.2 && !e.2)) ?_ (fun H19 h => ?_) (fun H19 h => ?_)
        · walk_at "rd"
          refine ⟨_, .inr (.inl (.inl ht18)), _, rfl, shB rs e.1 e.2, rfl, ?_⟩
          refine ite2 (fun h => ?_) fun h => ?_
          · refine ⟨by rw [S_len]; have := gp.size; omega, c, atI_lastC hl, ?_⟩
            rw [show shB rs e.1 e.2 = true from h, Bool.true_and, ← hc]
            exact congrArg (!·) (decide_eq_decide.mpr ⟨fun z => S1_inj z, fun z => by rw [z]; rfl⟩)
          · rw [show shB rs e.1 e.2 = false from by simpa using h]
            rfl
        · obtain ⟨rfl, hb⟩ := h
          refine l_app (xs := nmsV (((PE.take k).filter fun e => shB rs e.1 e.2 && !e.2).map txtE)) rfl hL18 ?_
          walk_at "rd"
          have l1 := List.length_filter_le (fun e => shB rs e.1 e.2 && !e.2) (PE.take k)
          have l2 := List.length_take_le' k PE
          refine ⟨_, hL18, by rw [nms_len, List.length_map]; omega, same_mut (s12.trans s1318) hL, ?_, ?_⟩
          · rw [upd_ne nGL]
            exact hG18
          · rw [upd_same, tk, if_pos hb.symm, List.map_append]
            unfold nmsV
            simp
        · obtain ⟨rfl, hb⟩ := h
          refine ⟨s12.trans s1318, _, _, _, _, rfl, hG18, ?_⟩
          rw [tk, if_neg (by rw [← hb]; exact Bool.false_ne_true), List.append_nil]
          exact hL18
      · obtain ⟨s12, x10, x11, x12, x13, rfl, hG12, hL12⟩ := h
        rw [nms_len, List.length_map, List.take_length] at hL12
        exact ⟨s12, _, _, _, _, rfl, hG12, hL12⟩
    rintro σ H12 ⟨s12, x10, x11, x12, x13, rfl, hG12, hL12⟩
    refine q_val ?_
    refine lc_midT (J0 := Itl K G) (H0 := H12) ?_ (walk_list (K := K) (a := G) (xs := nmsV (PE.map txtE))) (by rw [nms_len, List.length_map]; omega) (fun j acc _ => acc = nmsV (((PE.take j).filter fun e => !e.2).map txtE)) (fun _ _ _ _ _ e => e) rfl (fun H' s => .inl (.inl (s _ _ hG12))) (fun _ _ _ _ y => y_at y) (fun _ => rfl) ?_ ?_
    · walk_at "rd"
      exact .inl ⟨_, .inl (.inl hG12)⟩
    · rintro k x acc H' H'' hk s' rfl ⟨rfl, hx⟩
      obtain ⟨ft, hft, rfl⟩ := nms_at hx
      rw [List.getElem?_map] at hft
      obtain ⟨e, he, rfl⟩ := Option.map_eq_some_iff.mp hft
      obtain ⟨heE, gp⟩ := goodP e (List.mem_of_getElem? he)
      walk_at "rd"
      obtain ⟨u, c, hu, hc⟩ := gp.last
      have tk : (PE.take (k + 1)).filter (fun e => !e.2) = (PE.take k).filter (fun e => !e.2) ++ (if (!e.2) = true then [e] else []) := by
        rw [List.take_succ, he, List.filter_append]
        cases h : e.2 <;> simp [h]
      have hl : (txtE e).getLast? = some c := by
        rw [hu, List.getLast?_append]
        rfl
      refine ⟨by rw [S_len]; have := gp.size; omega, c, atI_lastC hl, ?_⟩
      rw [tk]
      by_cases h47 : c = 47
      · have e2 : e.2 = true := by rw [← hc, decide_eq_true h47]
        rw [if_neg (fun z => z (by rw [h47]; rfl)), e2, if_neg (by decide), List.append_nil]
      · have e2 : e.2 = false := by rw [← hc, decide_eq_false h47]
        rw [if_pos (show ¬ ({ cps := #[c] } : Str) = Str.ofString "/" from fun z => h47 (S1_inj z)), e2, if_pos (by decide), List.map_append]
        unfold nmsV
        simp
    intro Y acc H13 hYn s13 hY _ hacc
    rw [nms_len, List.length_map, List.take_length] at hacc
    subst hacc
    have hL13 := s13 _ _ hL12
    have s913 := s12.trans s13
    refine q_if (fun b H' => LamX.ExtN H13 H' ∧ NdefX.TabsN (tabsT K) H' ∧ b = false) ?_ (fun _ h => nomatch h.2.2) fun H14 h => q_next ?_
    · walk_at "rd"
      refine ⟨En, al, R, rs, rfl, tabs_same tb9 s913, tr9.mono s913, lE, kE, bE, rx9.ext (ext_same s913), fun F1 Ha ea ta hF1n hF1 => ?_⟩
      have g1 : Ha F1 = some (.lst (nmsV (((entsE En 10 []).filter (goodB rs)).map txtE))) := by
        rw [hF1]
        have := good_eq (rs := rs) (L := entsE En 10 []) fun e he => (goodV e he).2.ne
        rw [← this]
      have l1 := List.length_filter_le (fun e => shB rs e.1 e.2 && !e.2) PE
      have l2 := List.length_filter_le (goodB rs) (entsE En 10 [])
      refine .inl ⟨_, ea _ _ hL13 fun _ z => (nomatch z), _, g1, by rw [nms_len, nms_len, List.length_map, List.length_map]; omega, fun p1 hp1 => ?_⟩
      have n1 := same_new (o := .lst (nmsV ((PE.filter fun e => shB rs e.1 e.2 && !e.2).map txtE) ++ nmsV (((entsE En 10 []).filter (goodB rs)).map txtE))) hp1
      refine ⟨_, .inl (.inl (by rw [upd_same, nms_app])), fun p2 hp2 => ?_⟩
      have n2 := same_new (o := .lst (nmsV (srtW ((PE.filter fun e => shB rs e.1 e.2 && !e.2).map txtE ++ ((entsE En 10 []).filter (goodB rs)).map txtE)))) hp2
      have n12 := n1.trans n2
      refine ne_dat (txts_ok (okP fun e => !e.2)) (by decide) (txts_dp (.inl (.inl ?_))) (txts_dp (.inl (.inl (n12 _ _ (ea _ _ hY fun _ z => (nomatch z)))))) ⟨_, rfl, ext_trans ea (ext_same n12), tabs_same ta n12, rfl⟩
      rw [upd_same, sorted_leaf hPE (srt_pw _) pPE]
    obtain ⟨e1314, tb14, _⟩ := h
    walk_at "rd"
    have tr14 := (tr9.mono s913).ext e1314
    have rx14 := (rx9.ext (ext_same s913)).ext e1314
    have cm14 := (cm9.mono s913).ext e1314
    refine ⟨En, al, R, rs, rfl, tb14, tr14, lE, kE, bE, rx14, fun F2 Hb eb tb2 hF2n hF2 => ?_⟩
    have lvs := List.length_filter_le (fun r => shB rs r.1 r.2) ((entsE En 10 []).filter (vis rs))
    have hF2' : Hb F2 = some (.lst (nmsV ((((entsE En 10 []).filter (vis rs)).filter fun r => shB rs r.1 r.2).map txtE))) := hF2
    refine ⟨_, .inl (.inl hF2'), fun p2 hp2 => ?_⟩
    have n2 := same_new (o := .lst (nmsV (srtW ((((entsE En 10 []).filter (vis rs)).filter fun r => shB rs r.1 r.2).map txtE)))) hp2
    have cmb := (cm14.ext eb).mono n2
    have hp2' : (upd Hb p2 (.lst (nmsV (srtW ((((entsE En 10 []).filter (vis rs)).filter fun r => shB rs r.1 r.2).map txtE))))) p2 = some (.lst (nmsV (srtW ((((entsE En 10 []).filter (vis rs)).filter fun r => shB rs r.1 r.2).map txtE)))) := upd_same
    generalize upd Hb p2 (.lst (nmsV (srtW ((((entsE En 10 []).filter (vis rs)).filter fun r => shB rs r.1 r.2).map txtE)))) = Hc at *
    refine ⟨D, _, cmb.at_, trivial, fun od => ?_⟩
    refine lc_midT (J0 := Itk D od kv) (H0 := upd Hc D (.frz od (.dK kv))) ?_ walk_keys (by rw [cmb.len]; omega) (fun j acc _ => acc = nmsV (((((entsE En 10 []).filter (vis rs)).take j).filter fun r => shB rs r.1 r.2).map txtE)) (fun _ _ _ _ _ e => e) rfl (fun H' s => s _ _ upd_same) (fun _ _ _ _ y => by rw [y.1]; exact Same.refl _) (fun _ => rfl) ?_ ?_
    · unfold iKeys
      walk_at "rd"
      exact ⟨od, .inl ⟨kv, upd_same, rfl⟩⟩
    · rintro j x acc H' H'' hj s' rfl ⟨rfl, kk, v, hkv, rfl⟩
      obtain ⟨r, hr, rfl⟩ := cmb.key hkv
      have hrm := List.mem_of_getElem? hr
      obtain ⟨t', hval, ht'⟩ := cmb.val r hrm
      have ntD : t' ≠ D := fun z => by rw [z, cmb.at_] at ht'; cases ht'
      have hdk := s' _ _ (show (upd Hc D (.frz od (.dK kv))) D = some (.frz od (.dK kv)) from upd_same)
      have ht2 := s' _ _ (show (upd Hc D (.frz od (.dK kv))) t' = _ from (upd_ne ntD).trans ht')
      have tk : ((((entsE En 10 []).filter (vis rs)).take (j + 1)).filter fun r => shB rs r.1 r.2) = ((((entsE En 10 []).filter (vis rs)).take j).filter fun r => shB rs r.1 r.2) ++ (if shB rs r.1 r.2 = true then [r] else []) := by
        rw [List.take_succ, hr, List.filter_append]
        cases h : shB rs r.1 r.2 <;> simp [h]
      walk_at "rd"
      refine ⟨.ref t', .inl ⟨kv, .inr (S (txtE r)), .inr ⟨od, hdk⟩, rfl, hval.symm⟩, _, .inr (.inl (.inl ht2)), _, rfl, shB rs r.1 r.2, rfl, ?_⟩
      rw [tk]
      refine ite2 (fun h => ?_) fun h => ?_
      · rw [if_pos h, List.map_append]
        unfold nmsV
        simp [kV]
      · rw [if_neg h, List.append_nil]
    intro U acc H14 hU s14 hUl _ hacc
    rw [cmb.len, List.take_length] at hacc
    subst hacc
    have hfr := s14 _ _ (show (upd Hc D (.frz od (.dK kv))) D = some (.frz od (.dK kv)) from upd_same)
    have s15 := same_unlock cmb.at_ s14
    have hUD : U ≠ D := fun z => by rw [z, upd_same] at hU; cases hU
    have hU15 : (upd H14 D (.dK kv)) U = some (.lst (nmsV ((((entsE En 10 []).filter (vis rs)).filter fun r => shB rs r.1 r.2).map txtE))) := by rw [upd_ne hUD]; exact hUl
    refine ⟨hfr, ?_⟩
    generalize upd H14 D (.dK kv) = H15 at *
    refine ⟨_, .inl (.inl hU15), fun p4 hp4 => ?_⟩
    have n4 := same_new (o := .lst (nmsV (srtW ((((entsE En 10 []).filter (vis rs)).filter fun r => shB rs r.1 r.2).map txtE)))) hp4
    refine eq_dat (txts_ok (ws := srtW ((((entsE En 10 []).filter (vis rs)).filter fun r => shB rs r.1 r.2).map txtE)) fun w hw => ?_) (by decide) (txts_dp (.inl (.inl (n4 _ _ (s15 _ _ hp2'))))) (txts_dp (.inl (.inl upd_same))) (q _)
    obtain ⟨e, he, rfl⟩ := List.mem_map.mp ((srt_perm _).mem_iff.mp hw)
    exact (goodW e (List.mem_filter.mp he).1).dok

end
end SL
namespace HD
open PySem PySem.Spec PyProof.Rows L2
def fn : List He.DefD := [
  ⟨("_wall", none), "_wall", "_wall", defArgs TX.s__wall, defBody TX.s__wall, defScope TX.s__wall, [], []⟩,
  ⟨("with_deeps", none), "with_deeps", "with_deeps", defArgs TX.s_with_deeps, defBody TX.s_with_deeps, defScope TX.s_with_deeps, [], []⟩,
  ⟨("fits", none), "fits", "fits", defArgs TX.s_fits, defBody TX.s_fits, defScope TX.s_fits, [], []⟩,
  ⟨("last_fit", none), "last_fit", "last_fit", defArgs TX.s_last_fit, defBody TX.s_last_fit, defScope TX.s_last_fit, [], []⟩,
  ⟨("is_sign", none), "is_sign", "is_sign", defArgs TX.s_is_sign, defBody TX.s_is_sign, defScope TX.s_is_sign, [], []⟩,
  ⟨("spots_behind", none), "spots_behind", "spots_behind", defArgs TX.s_spots_behind, defBody TX.s_spots_behind, defScope TX.s_spots_behind, [], []⟩,
  ⟨("names_of", none), "names_of", "names_of", defArgs TX.s_names_of, defBody TX.s_names_of, defScope TX.s_names_of, [], []⟩,
  ⟨("told", none), "told", "told", defArgs TX.s_told, defBody TX.s_told, defScope TX.s_told, [], []⟩,
  ⟨("paths_within", none), "paths_within", "paths_within", defArgs TX.s_paths_within, defBody TX.s_paths_within, defScope TX.s_paths_within, [], []⟩,
  ⟨("paths_of", none), "paths_of", "paths_of", defArgs TX.s_paths_of, defBody TX.s_paths_of, defScope TX.s_paths_of, [], []⟩,
  ⟨("walked", none), "walked", "walked", defArgs TX.s_walked, defBody TX.s_walked, defScope TX.s_walked, [], []⟩,
  ⟨("spared", none), "spared", "spared", defArgs TX.s_spared, defBody TX.s_spared, defScope TX.s_spared, [], []⟩,
  ⟨("tops", none), "tops", "tops", defArgs TX.s_tops, defBody TX.s_tops, defScope TX.s_tops, [], []⟩,
  ⟨("folder_names", none), "folder_names", "folder_names", defArgs TX.s_folder_names, defBody TX.s_folder_names, defScope TX.s_folder_names, [], []⟩,
  ⟨("placed", none), "placed", "placed", defArgs TX.s_placed, defBody TX.s_placed, defScope TX.s_placed, [], []⟩,
  ⟨("gathered", none), "gathered", "gathered", defArgs TX.s_gathered, defBody TX.s_gathered, defScope TX.s_gathered, [], []⟩,
  ⟨("_law_cell", none), "_law_cell", "_law_cell", defArgs TX.s__law_cell, defBody TX.s__law_cell, defScope TX.s__law_cell, [], []⟩,
  ⟨("_law_mixed", none), "_law_mixed", "_law_mixed", defArgs TX.s__law_mixed, defBody TX.s__law_mixed, defScope TX.s__law_mixed, [], []⟩,
  ⟨("_law_signs", none), "_law_signs", "_law_signs", defArgs TX.s__law_signs, defBody TX.s__law_signs, defScope TX.s__law_signs, [], []⟩,
  ⟨("_law_part", none), "_law_part", "_law_part", defArgs TX.s__law_part, defBody TX.s__law_part, defScope TX.s__law_part, [], []⟩,
  ⟨("_law_segment", none), "_law_segment", "_law_segment", defArgs TX.s__law_segment, defBody TX.s__law_segment, defScope TX.s__law_segment, [], []⟩,
  ⟨("_law_row", none), "_law_row", "_law_row", defArgs TX.s__law_row, defBody TX.s__law_row, defScope TX.s__law_row, [], []⟩,
  ⟨("_law_rows", none), "_law_rows", "_law_rows", defArgs TX.s__law_rows, defBody TX.s__law_rows, defScope TX.s__law_rows, [], []⟩,
  ⟨("_law_part_made", none), "_law_part_made", "_law_part_made", defArgs TX.s__law_part_made, defBody TX.s__law_part_made, defScope TX.s__law_part_made, [], []⟩,
  ⟨("_law_row_made", none), "_law_row_made", "_law_row_made", defArgs TX.s__law_row_made, defBody TX.s__law_row_made, defScope TX.s__law_row_made, [], []⟩,
  ⟨("_law_long_row", none), "_law_long_row", "_law_long_row", defArgs TX.s__law_long_row, defBody TX.s__law_long_row, defScope TX.s__law_long_row, [], []⟩,
  ⟨("_law_with_long", none), "_law_with_long", "_law_with_long", defArgs TX.s__law_with_long, defBody TX.s__law_with_long, defScope TX.s__law_with_long, [], []⟩,
  ⟨("_law_filled", none), "_law_filled", "_law_filled", defArgs TX.s__law_filled, defBody TX.s__law_filled, defScope TX.s__law_filled, [], []⟩,
  ⟨("_law_names", none), "_law_names", "_law_names", defArgs TX.s__law_names, defBody TX.s__law_names, defScope TX.s__law_names, [], []⟩,
  ⟨("_law_free", none), "_law_free", "_law_free", defArgs TX.s__law_free, defBody TX.s__law_free, defScope TX.s__law_free, [], []⟩,
  ⟨("_law_put_in", none), "_law_put_in", "_law_put_in", defArgs TX.s__law_put_in, defBody TX.s__law_put_in, defScope TX.s__law_put_in, [], []⟩,
  ⟨("_law_paths", none), "_law_paths", "_law_paths", defArgs TX.s__law_paths, defBody TX.s__law_paths, defScope TX.s__law_paths, [], []⟩,
  ⟨("_law_cut", none), "_law_cut", "_law_cut", defArgs TX.s__law_cut, defBody TX.s__law_cut, defScope TX.s__law_cut, [], []⟩,
  ⟨("_law_lists", none), "_law_lists", "_law_lists", defArgs TX.s__law_lists, defBody TX.s__law_lists, defScope TX.s__law_lists, [], []⟩,
  ⟨("_law_made_lists", none), "_law_made_lists", "_law_made_lists", defArgs TX.s__law_made_lists, defBody TX.s__law_made_lists, defScope TX.s__law_made_lists, [], []⟩,
  ⟨("_law_ranked", none), "_law_ranked", "_law_ranked", defArgs TX.s__law_ranked, defBody TX.s__law_ranked, defScope TX.s__law_ranked, [], []⟩,
  ⟨("_law_wide_tree", none), "_law_wide_tree", "_law_wide_tree", defArgs TX.s__law_wide_tree, defBody TX.s__law_wide_tree, defScope TX.s__law_wide_tree, [], []⟩,
  ⟨("law", none), "law", "law", defArgs TX.s_law, defBody TX.s_law, defScope TX.s_law, [], []⟩,
  ⟨("Part", some "fits"), "fits", "Part.fits", defArgs TX.s_Part_fits, defBody TX.s_Part_fits, defScope TX.s_Part_fits, [], []⟩,
  ⟨("Part", some "many"), "many", "Part.many", defArgs TX.s_Part_many, defBody TX.s_Part_many, defScope TX.s_Part_many, [], []⟩,
  ⟨("Part", some "told"), "told", "Part.told", defArgs TX.s_Part_told, defBody TX.s_Part_told, defScope TX.s_Part_told, [], []⟩,
  ⟨("Any", some "fits"), "fits", "Part.fits", defArgs TX.s_Part_fits, defBody TX.s_Part_fits, defScope TX.s_Part_fits, [], []⟩,
  ⟨("Any", some "many"), "many", "Part.many", defArgs TX.s_Part_many, defBody TX.s_Part_many, defScope TX.s_Part_many, [], []⟩,
  ⟨("Any", some "told"), "told", "Part.told", defArgs TX.s_Part_told, defBody TX.s_Part_told, defScope TX.s_Part_told, [], []⟩,
  ⟨("One", some "fits"), "fits", "One.fits", defArgs TX.s_One_fits, defBody TX.s_One_fits, defScope TX.s_One_fits, [], []⟩,
  ⟨("One", some "many"), "many", "Part.many", defArgs TX.s_Part_many, defBody TX.s_Part_many, defScope TX.s_Part_many, [], []⟩,
  ⟨("One", some "told"), "told", "One.told", defArgs TX.s_One_told, defBody TX.s_One_told, defScope TX.s_One_told, [], []⟩,
  ⟨("One", some "__init__"), "__init__", "One.__init__", defArgs TX.s_One___init__, defBody TX.s_One___init__, defScope TX.s_One___init__, [], []⟩,
  ⟨("Among", some "fits"), "fits", "Among.fits", defArgs TX.s_Among_fits, defBody TX.s_Among_fits, defScope TX.s_Among_fits, [], []⟩,
  ⟨("Among", some "many"), "many", "Part.many", defArgs TX.s_Part_many, defBody TX.s_Part_many, defScope TX.s_Part_many, [], []⟩,
  ⟨("Among", some "told"), "told", "Among.told", defArgs TX.s_Among_told, defBody TX.s_Among_told, defScope TX.s_Among_told, [], []⟩,
  ⟨("Among", some "__init__"), "__init__", "Among.__init__", defArgs TX.s_Among___init__, defBody TX.s_Among___init__, defScope TX.s_Among___init__, [.bl false], []⟩,
  ⟨("Stars", some "fits"), "fits", "Part.fits", defArgs TX.s_Part_fits, defBody TX.s_Part_fits, defScope TX.s_Part_fits, [], []⟩,
  ⟨("Stars", some "many"), "many", "Stars.many", defArgs TX.s_Stars_many, defBody TX.s_Stars_many, defScope TX.s_Stars_many, [], []⟩,
  ⟨("Stars", some "told"), "told", "Stars.told", defArgs TX.s_Stars_told, defBody TX.s_Stars_told, defScope TX.s_Stars_told, [], []⟩,
  ⟨("Step", some "deep"), "deep", "Step.deep", defArgs TX.s_Step_deep, defBody TX.s_Step_deep, defScope TX.s_Step_deep, [], []⟩,
  ⟨("Step", some "fits_name"), "fits_name", "Step.fits_name", defArgs TX.s_Step_fits_name, defBody TX.s_Step_fits_name, defScope TX.s_Step_fits_name, [], []⟩,
  ⟨("Step", some "told"), "told", "Step.told", defArgs TX.s_Step_told, defBody TX.s_Step_told, defScope TX.s_Step_told, [], []⟩,
  ⟨("Deep", some "deep"), "deep", "Deep.deep", defArgs TX.s_Deep_deep, defBody TX.s_Deep_deep, defScope TX.s_Deep_deep, [], []⟩,
  ⟨("Deep", some "fits_name"), "fits_name", "Step.fits_name", defArgs TX.s_Step_fits_name, defBody TX.s_Step_fits_name, defScope TX.s_Step_fits_name, [], []⟩,
  ⟨("Deep", some "told"), "told", "Step.told", defArgs TX.s_Step_told, defBody TX.s_Step_told, defScope TX.s_Step_told, [], []⟩,
  ⟨("Segment", some "deep"), "deep", "Step.deep", defArgs TX.s_Step_deep, defBody TX.s_Step_deep, defScope TX.s_Step_deep, [], []⟩,
  ⟨("Segment", some "fits_name"), "fits_name", "Segment.fits_name", defArgs TX.s_Segment_fits_name, defBody TX.s_Segment_fits_name, defScope TX.s_Segment_fits_name, [], []⟩,
  ⟨("Segment", some "told"), "told", "Segment.told", defArgs TX.s_Segment_told, defBody TX.s_Segment_told, defScope TX.s_Segment_told, [], []⟩,
  ⟨("Segment", some "__init__"), "__init__", "Segment.__init__", defArgs TX.s_Segment___init__, defBody TX.s_Segment___init__, defScope TX.s_Segment___init__, [], []⟩,
  ⟨("Row", some "__init__"), "__init__", "Row.__init__", defArgs TX.s_Row___init__, defBody TX.s_Row___init__, defScope TX.s_Row___init__, [.bl false, .bl false], []⟩,
  ⟨("Row", some "told"), "told", "Row.told", defArgs TX.s_Row_told, defBody TX.s_Row_told, defScope TX.s_Row_told, [], []⟩]
def fa : List He.Fa := [.glo "_wall", .glo "with_deeps", .glo "fits", .glo "last_fit", .glo "is_sign", .glo "spots_behind", .glo "names_of", .glo "told", .glo "paths_within", .glo "paths_of", .glo "walked", .glo "spared", .glo "tops", .glo "folder_names", .glo "placed", .glo "gathered", .glo "_law_cell", .glo "_law_mixed", .glo "_law_signs", .glo "_law_part", .glo "_law_segment", .glo "_law_row", .glo "_law_rows", .glo "_law_part_made", .glo "_law_row_made", .glo "_law_long_row", .glo "_law_with_long", .glo "_law_filled", .glo "_law_names", .glo "_law_free", .glo "_law_put_in", .glo "_law_paths", .glo "_law_cut", .glo "_law_lists", .glo "_law_made_lists", .glo "_law_ranked", .glo "_law_wide_tree", .glo "law", .glo "ShunError", .keep "ShunError", .exc "ShunError", .glo "NoPart", .keep "NoPart", .exc "NoPart", .glo "NoPath", .keep "NoPath", .exc "NoPath", .glo "NoFolder", .keep "NoFolder", .exc "NoFolder", .glo "Part", .keep "Part", .cls "Part", .meth "Part" "fits", .meth "Part" "many", .meth "Part" "told", .glo "Any", .keep "Any", .cls "Any", .meth "Any" "fits", .meth "Any" "many", .meth "Any" "told", .glo "One", .keep "One", .cls "One", .noat "One" "sign", .meth "One" "fits", .meth "One" "many", .meth "One" "told", .meth "One" "__init__", .mkr "One", .glo "Among", .keep "Among", .cls "Among", .noat "Among" "signs", .noat "Among" "outside", .meth "Among" "fits", .meth "Among" "many", .meth "Among" "told", .meth "Among" "__init__", .mkr "Among", .glo "Stars", .keep "Stars", .cls "Stars", .meth "Stars" "fits", .meth "Stars" "many", .meth "Stars" "told", .glo "Step", .keep "Step", .cls "Step", .meth "Step" "deep", .meth "Step" "fits_name", .meth "Step" "told", .glo "Deep", .keep "Deep", .cls "Deep", .meth "Deep" "deep", .meth "Deep" "fits_name", .meth "Deep" "told", .glo "Segment", .keep "Segment", .cls "Segment", .noat "Segment" "parts", .meth "Segment" "deep", .meth "Segment" "fits_name", .meth "Segment" "told", .meth "Segment" "__init__", .mkr "Segment", .glo "Row", .keep "Row", .cls "Row", .noat "Row" "steps", .noat "Row" "spares", .noat "Row" "folders", .meth "Row" "__init__", .meth "Row" "told", .mkr "Row", .str "SIGNS" "-.0123456789_abcdefghijklmnopqrstuvwxyz", .free "len", .free "range", .free "all", .free "set", .free "sorted", .free "tuple", .free "int", .free "enumerate", .free "reversed", .free "max", .free "min"]
def mkn (K : PySem.W.Frag) (x : Str) : Bool := PySem.W.makesIn K (He.ga K x) && (He.eqO (PySem.W.findIn K (.ref (He.ga K x)) "__init__") (some (some (.builtin "object.__init__"))) && PySem.W.keepIn K (.ref (He.ga K x)))
def kx (K : PySem.W.Frag) : Bool := SL.kxB K [("NoPath", "NoPath")] [] []
def ex (K : PySem.W.Frag) : Bool := (["Part", "Any", "Stars", "Step", "Deep"] : List Str).all (mkn K) && kx K
theorem kx_ok {K : PySem.W.Frag} (h : ex K = true) : SL.kxB K [("NoPath", "NoPath")] [] [] = true := (Bool.and_eq_true _ _ ▸ h).2
theorem mkn_ok {K : PySem.W.Frag} {x : Str} (h : ex K = true) (m : x ∈ (["Part", "Any", "Stars", "Step", "Deep"] : List Str)) : SL.MkN K (He.ga K x) := by
  have e := List.all_eq_true.mp (Bool.and_eq_true _ _ ▸ h).1 x m
  unfold mkn at e
  rw [Bool.and_eq_true, Bool.and_eq_true] at e
  exact ⟨e.1, He.eqO_ok e.2.1, e.2.2⟩
abbrev R : PySem.W.OpenRow := PySem.W.OpenLaw.row PySem.Challenge.rw_shunlist_k86_whole_walks
def tf : List He.Defn := [("spared", none), ("tops", none), ("law", none)]
abbrev hk : PySem.W.Hook := He.hookX 5 fa fn [] tf ex
def ob (s : PySem.W.SharedT) : He.AlX := He.obsX 5 fa fn [] tf ex (HandSHeadRun.getT s)
theorem ob_eq (s : PySem.W.SharedT) : ob s = hk.obs s.abs := He.obsX_eq (HandSHeadRun.getT_eq s)
def loose : List Str := (["_wall", "with_deeps", "fits", "last_fit", "ShunError", "NoPart", "NoPath", "NoFolder", "SIGNS", "is_sign", "Part", "Any", "One", "Among", "Stars", "spots_behind", "Step", "Deep", "Segment", "Row", "names_of", "told", "paths_within", "paths_of", "walked"] : List Str) ++ (["spared", "tops", "folder_names", "placed", "gathered", "_law_cell", "_law_mixed", "_law_signs", "_law_part", "_law_segment", "_law_row", "_law_rows", "_law_part_made", "_law_row_made", "_law_long_row", "_law_with_long", "_law_filled", "_law_names", "_law_free", "_law_put_in", "_law_paths", "_law_cut", "_law_lists", "_law_made_lists", "_law_ranked"] : List Str) ++ (["_law_wide_tree"] : List Str)
theorem run (w : World) : HandSHeadRun.RunEq R (PySem.W.view R.prog [59]) hk ob 6000 loose w := by
  intro os
  kernel_rfl
end HD
namespace SL
open PySem PySem.Spec PyProof.Rows L2
theorem txt_of {w : World} {K : PySem.W.Frag} {h : Heap} {mg : Str → Option Value} (X : K.In h) (G : h.Ns mainGlobals mg) (c : He.SaysX HD.fa HD.fn [] HD.tf HD.ex w h K) : Txt K mg where
  F__wall := c.t.d.def_ 0 rfl
  F_with_deeps := c.t.d.def_ 1 rfl
  F_fits := c.t.d.def_ 2 rfl
  F_last_fit := c.t.d.def_ 3 rfl
  F_is_sign := c.t.d.def_ 4 rfl
  F_spots_behind := c.t.d.def_ 5 rfl
  F_names_of := c.t.d.def_ 6 rfl
  F_told := c.t.d.def_ 7 rfl
  F_paths_within := c.t.d.def_ 8 rfl
  F_paths_of := c.t.d.def_ 9 rfl
  F_walked := c.t.d.def_ 10 rfl
  F_spared := c.t.d.def_ 11 rfl
  F_tops := c.t.d.def_ 12 rfl
  F_folder_names := c.t.d.def_ 13 rfl
  F_placed := c.t.d.def_ 14 rfl
  F_gathered := c.t.d.def_ 15 rfl
  F__law_cell := c.t.d.def_ 16 rfl
  F__law_mixed := c.t.d.def_ 17 rfl
  F__law_signs := c.t.d.def_ 18 rfl
  F__law_part := c.t.d.def_ 19 rfl
  F__law_segment := c.t.d.def_ 20 rfl
  F__law_row := c.t.d.def_ 21 rfl
  F__law_rows := c.t.d.def_ 22 rfl
  F__law_part_made := c.t.d.def_ 23 rfl
  F__law_row_made := c.t.d.def_ 24 rfl
  F__law_long_row := c.t.d.def_ 25 rfl
  F__law_with_long := c.t.d.def_ 26 rfl
  F__law_filled := c.t.d.def_ 27 rfl
  F__law_names := c.t.d.def_ 28 rfl
  F__law_free := c.t.d.def_ 29 rfl
  F__law_put_in := c.t.d.def_ 30 rfl
  F__law_paths := c.t.d.def_ 31 rfl
  F__law_cut := c.t.d.def_ 32 rfl
  F__law_lists := c.t.d.def_ 33 rfl
  F__law_made_lists := c.t.d.def_ 34 rfl
  F__law_ranked := c.t.d.def_ 35 rfl
  F__law_wide_tree := c.t.d.def_ 36 rfl
  F_law := c.t.d.def_ 37 rfl
  F_Part_fits := c.t.d.def_ 38 rfl
  F_Part_many := c.t.d.def_ 39 rfl
  F_Part_told := c.t.d.def_ 40 rfl
  F_Any_fits := c.t.d.def_ 41 rfl
  F_Any_many := c.t.d.def_ 42 rfl
  F_Any_told := c.t.d.def_ 43 rfl
  F_One_fits := c.t.d.def_ 44 rfl
  F_One_many := c.t.d.def_ 45 rfl
  F_One_told := c.t.d.def_ 46 rfl
  F_One___init__ := c.t.d.def_ 47 rfl
  F_Among_fits := c.t.d.def_ 48 rfl
  F_Among_many := c.t.d.def_ 49 rfl
  F_Among_told := c.t.d.def_ 50 rfl
  F_Among___init__ := c.t.d.def_ 51 rfl
  F_Stars_fits := c.t.d.def_ 52 rfl
  F_Stars_many := c.t.d.def_ 53 rfl
  F_Stars_told := c.t.d.def_ 54 rfl
  F_Step_deep := c.t.d.def_ 55 rfl
  F_Step_fits_name := c.t.d.def_ 56 rfl
  F_Step_told := c.t.d.def_ 57 rfl
  F_Deep_deep := c.t.d.def_ 58 rfl
  F_Deep_fits_name := c.t.d.def_ 59 rfl
  F_Deep_told := c.t.d.def_ 60 rfl
  F_Segment_deep := c.t.d.def_ 61 rfl
  F_Segment_fits_name := c.t.d.def_ 62 rfl
  F_Segment_told := c.t.d.def_ 63 rfl
  F_Segment___init__ := c.t.d.def_ 64 rfl
  F_Row___init__ := c.t.d.def_ 65 rfl
  F_Row_told := c.t.d.def_ 66 rfl
  g__wall := He.glo_ok X G (c.t.d.fact 0 (f := .glo "_wall") rfl)
  g_with_deeps := He.glo_ok X G (c.t.d.fact 1 (f := .glo "with_deeps") rfl)
  g_fits := He.glo_ok X G (c.t.d.fact 2 (f := .glo "fits") rfl)
  g_last_fit := He.glo_ok X G (c.t.d.fact 3 (f := .glo "last_fit") rfl)
  g_is_sign := He.glo_ok X G (c.t.d.fact 4 (f := .glo "is_sign") rfl)
  g_spots_behind := He.glo_ok X G (c.t.d.fact 5 (f := .glo "spots_behind") rfl)
  g_names_of := He.glo_ok X G (c.t.d.fact 6 (f := .glo "names_of") rfl)
  g_told := He.glo_ok X G (c.t.d.fact 7 (f := .glo "told") rfl)
  g_paths_within := He.glo_ok X G (c.t.d.fact 8 (f := .glo "paths_within") rfl)
  g_paths_of := He.glo_ok X G (c.t.d.fact 9 (f := .glo "paths_of") rfl)
  g_walked := He.glo_ok X G (c.t.d.fact 10 (f := .glo "walked") rfl)
  g_spared := He.glo_ok X G (c.t.d.fact 11 (f := .glo "spared") rfl)
  g_tops := He.glo_ok X G (c.t.d.fact 12 (f := .glo "tops") rfl)
  g_folder_names := He.glo_ok X G (c.t.d.fact 13 (f := .glo "folder_names") rfl)
  g_placed := He.glo_ok X G (c.t.d.fact 14 (f := .glo "placed") rfl)
  g_gathered := He.glo_ok X G (c.t.d.fact 15 (f := .glo "gathered") rfl)
  g__law_cell := He.glo_ok X G (c.t.d.fact 16 (f := .glo "_law_cell") rfl)
  g__law_mixed := He.glo_ok X G (c.t.d.fact 17 (f := .glo "_law_mixed") rfl)
  g__law_signs := He.glo_ok X G (c.t.d.fact 18 (f := .glo "_law_signs") rfl)
  g__law_part := He.glo_ok X G (c.t.d.fact 19 (f := .glo "_law_part") rfl)
  g__law_segment := He.glo_ok X G (c.t.d.fact 20 (f := .glo "_law_segment") rfl)
  g__law_row := He.glo_ok X G (c.t.d.fact 21 (f := .glo "_law_row") rfl)
  g__law_rows := He.glo_ok X G (c.t.d.fact 22 (f := .glo "_law_rows") rfl)
  g__law_part_made := He.glo_ok X G (c.t.d.fact 23 (f := .glo "_law_part_made") rfl)
  g__law_row_made := He.glo_ok X G (c.t.d.fact 24 (f := .glo "_law_row_made") rfl)
  g__law_long_row := He.glo_ok X G (c.t.d.fact 25 (f := .glo "_law_long_row") rfl)
  g__law_with_long := He.glo_ok X G (c.t.d.fact 26 (f := .glo "_law_with_long") rfl)
  g__law_filled := He.glo_ok X G (c.t.d.fact 27 (f := .glo "_law_filled") rfl)
  g__law_names := He.glo_ok X G (c.t.d.fact 28 (f := .glo "_law_names") rfl)
  g__law_free := He.glo_ok X G (c.t.d.fact 29 (f := .glo "_law_free") rfl)
  g__law_put_in := He.glo_ok X G (c.t.d.fact 30 (f := .glo "_law_put_in") rfl)
  g__law_paths := He.glo_ok X G (c.t.d.fact 31 (f := .glo "_law_paths") rfl)
  g__law_cut := He.glo_ok X G (c.t.d.fact 32 (f := .glo "_law_cut") rfl)
  g__law_lists := He.glo_ok X G (c.t.d.fact 33 (f := .glo "_law_lists") rfl)
  g__law_made_lists := He.glo_ok X G (c.t.d.fact 34 (f := .glo "_law_made_lists") rfl)
  g__law_ranked := He.glo_ok X G (c.t.d.fact 35 (f := .glo "_law_ranked") rfl)
  g__law_wide_tree := He.glo_ok X G (c.t.d.fact 36 (f := .glo "_law_wide_tree") rfl)
  g_law := He.glo_ok X G (c.t.d.fact 37 (f := .glo "law") rfl)
  g_ShunError := He.glo_ok X G (c.t.d.fact 38 (f := .glo "ShunError") rfl)
  k_ShunError := He.keep_ok (c.t.d.fact 39 (f := .keep "ShunError") rfl)
  x_ShunError := He.exc_ok (c.t.d.fact 40 (f := .exc "ShunError") rfl)
  g_NoPart := He.glo_ok X G (c.t.d.fact 41 (f := .glo "NoPart") rfl)
  k_NoPart := He.keep_ok (c.t.d.fact 42 (f := .keep "NoPart") rfl)
  x_NoPart := He.exc_ok (c.t.d.fact 43 (f := .exc "NoPart") rfl)
  g_NoPath := He.glo_ok X G (c.t.d.fact 44 (f := .glo "NoPath") rfl)
  k_NoPath := He.keep_ok (c.t.d.fact 45 (f := .keep "NoPath") rfl)
  x_NoPath := He.exc_ok (c.t.d.fact 46 (f := .exc "NoPath") rfl)
  g_NoFolder := He.glo_ok X G (c.t.d.fact 47 (f := .glo "NoFolder") rfl)
  k_NoFolder := He.keep_ok (c.t.d.fact 48 (f := .keep "NoFolder") rfl)
  x_NoFolder := He.exc_ok (c.t.d.fact 49 (f := .exc "NoFolder") rfl)
  g_Part := He.glo_ok X G (c.t.d.fact 50 (f := .glo "Part") rfl)
  k_Part := He.keep_ok (c.t.d.fact 51 (f := .keep "Part") rfl)
  c_Part := He.cls_ok (c.t.d.fact 52 (f := .cls "Part") rfl)
  m_Part_fits := He.meth_ok (c.t.d.fact 53 (f := .meth "Part" "fits") rfl)
  m_Part_many := He.meth_ok (c.t.d.fact 54 (f := .meth "Part" "many") rfl)
  m_Part_told := He.meth_ok (c.t.d.fact 55 (f := .meth "Part" "told") rfl)
  g_Any := He.glo_ok X G (c.t.d.fact 56 (f := .glo "Any") rfl)
  k_Any := He.keep_ok (c.t.d.fact 57 (f := .keep "Any") rfl)
  c_Any := He.cls_ok (c.t.d.fact 58 (f := .cls "Any") rfl)
  m_Any_fits := He.meth_ok (c.t.d.fact 59 (f := .meth "Any" "fits") rfl)
  m_Any_many := He.meth_ok (c.t.d.fact 60 (f := .meth "Any" "many") rfl)
  m_Any_told := He.meth_ok (c.t.d.fact 61 (f := .meth "Any" "told") rfl)
  g_One := He.glo_ok X G (c.t.d.fact 62 (f := .glo "One") rfl)
  k_One := He.keep_ok (c.t.d.fact 63 (f := .keep "One") rfl)
  c_One := He.cls_ok (c.t.d.fact 64 (f := .cls "One") rfl)
  n_One_sign := He.noat_ok (c.t.d.fact 65 (f := .noat "One" "sign") rfl)
  m_One_fits := He.meth_ok (c.t.d.fact 66 (f := .meth "One" "fits") rfl)
  m_One_many := He.meth_ok (c.t.d.fact 67 (f := .meth "One" "many") rfl)
  m_One_told := He.meth_ok (c.t.d.fact 68 (f := .meth "One" "told") rfl)
  m_One___init__ := He.meth_ok (c.t.d.fact 69 (f := .meth "One" "__init__") rfl)
  mk_One := He.mkr_ok (c.t.d.fact 70 (f := .mkr "One") rfl)
  g_Among := He.glo_ok X G (c.t.d.fact 71 (f := .glo "Among") rfl)
  k_Among := He.keep_ok (c.t.d.fact 72 (f := .keep "Among") rfl)
  c_Among := He.cls_ok (c.t.d.fact 73 (f := .cls "Among") rfl)
  n_Among_signs := He.noat_ok (c.t.d.fact 74 (f := .noat "Among" "signs") rfl)
  n_Among_outside := He.noat_ok (c.t.d.fact 75 (f := .noat "Among" "outside") rfl)
  m_Among_fits := He.meth_ok (c.t.d.fact 76 (f := .meth "Among" "fits") rfl)
  m_Among_many := He.meth_ok (c.t.d.fact 77 (f := .meth "Among" "many") rfl)
  m_Among_told := He.meth_ok (c.t.d.fact 78 (f := .meth "Among" "told") rfl)
  m_Among___init__ := He.meth_ok (c.t.d.fact 79 (f := .meth "Among" "__init__") rfl)
  mk_Among := He.mkr_ok (c.t.d.fact 80 (f := .mkr "Among") rfl)
  g_Stars := He.glo_ok X G (c.t.d.fact 81 (f := .glo "Stars") rfl)
  k_Stars := He.keep_ok (c.t.d.fact 82 (f := .keep "Stars") rfl)
  c_Stars := He.cls_ok (c.t.d.fact 83 (f := .cls "Stars") rfl)
  m_Stars_fits := He.meth_ok (c.t.d.fact 84 (f := .meth "Stars" "fits") rfl)
  m_Stars_many := He.meth_ok (c.t.d.fact 85 (f := .meth "Stars" "many") rfl)
  m_Stars_told := He.meth_ok (c.t.d.fact 86 (f := .meth "Stars" "told") rfl)
  g_Step := He.glo_ok X G (c.t.d.fact 87 (f := .glo "Step") rfl)
  k_Step := He.keep_ok (c.t.d.fact 88 (f := .keep "Step") rfl)
  c_Step := He.cls_ok (c.t.d.fact 89 (f := .cls "Step") rfl)
  m_Step_deep := He.meth_ok (c.t.d.fact 90 (f := .meth "Step" "deep") rfl)
  m_Step_fits_name := He.meth_ok (c.t.d.fact 91 (f := .meth "Step" "fits_name") rfl)
  m_Step_told := He.meth_ok (c.t.d.fact 92 (f := .meth "Step" "told") rfl)
  g_Deep := He.glo_ok X G (c.t.d.fact 93 (f := .glo "Deep") rfl)
  k_Deep := He.keep_ok (c.t.d.fact 94 (f := .keep "Deep") rfl)
  c_Deep := He.cls_ok (c.t.d.fact 95 (f := .cls "Deep") rfl)
  m_Deep_deep := He.meth_ok (c.t.d.fact 96 (f := .meth "Deep" "deep") rfl)
  m_Deep_fits_name := He.meth_ok (c.t.d.fact 97 (f := .meth "Deep" "fits_name") rfl)
  m_Deep_told := He.meth_ok (c.t.d.fact 98 (f := .meth "Deep" "told") rfl)
  g_Segment := He.glo_ok X G (c.t.d.fact 99 (f := .glo "Segment") rfl)
  k_Segment := He.keep_ok (c.t.d.fact 100 (f := .keep "Segment") rfl)
  c_Segment := He.cls_ok (c.t.d.fact 101 (f := .cls "Segment") rfl)
  n_Segment_parts := He.noat_ok (c.t.d.fact 102 (f := .noat "Segment" "parts") rfl)
  m_Segment_deep := He.meth_ok (c.t.d.fact 103 (f := .meth "Segment" "deep") rfl)
  m_Segment_fits_name := He.meth_ok (c.t.d.fact 104 (f := .meth "Segment" "fits_name") rfl)
  m_Segment_told := He.meth_ok (c.t.d.fact 105 (f := .meth "Segment" "told") rfl)
  m_Segment___init__ := He.meth_ok (c.t.d.fact 106 (f := .meth "Segment" "__init__") rfl)
  mk_Segment := He.mkr_ok (c.t.d.fact 107 (f := .mkr "Segment") rfl)
  g_Row := He.glo_ok X G (c.t.d.fact 108 (f := .glo "Row") rfl)
  k_Row := He.keep_ok (c.t.d.fact 109 (f := .keep "Row") rfl)
  c_Row := He.cls_ok (c.t.d.fact 110 (f := .cls "Row") rfl)
  n_Row_steps := He.noat_ok (c.t.d.fact 111 (f := .noat "Row" "steps") rfl)
  n_Row_spares := He.noat_ok (c.t.d.fact 112 (f := .noat "Row" "spares") rfl)
  n_Row_folders := He.noat_ok (c.t.d.fact 113 (f := .noat "Row" "folders") rfl)
  m_Row___init__ := He.meth_ok (c.t.d.fact 114 (f := .meth "Row" "__init__") rfl)
  m_Row_told := He.meth_ok (c.t.d.fact 115 (f := .meth "Row" "told") rfl)
  mk_Row := He.mkr_ok (c.t.d.fact 116 (f := .mkr "Row") rfl)
  s_SIGNS := He.str_ok X G (c.t.d.fact 117 (f := .str "SIGNS" "-.0123456789_abcdefghijklmnopqrstuvwxyz") rfl)
  fr_len := He.free_ok X G (c.t.d.fact 118 (f := .free "len") rfl)
  fr_range := He.free_ok X G (c.t.d.fact 119 (f := .free "range") rfl)
  fr_all := He.free_ok X G (c.t.d.fact 120 (f := .free "all") rfl)
  fr_set := He.free_ok X G (c.t.d.fact 121 (f := .free "set") rfl)
  fr_sorted := He.free_ok X G (c.t.d.fact 122 (f := .free "sorted") rfl)
  fr_tuple := He.free_ok X G (c.t.d.fact 123 (f := .free "tuple") rfl)
  fr_int := He.free_ok X G (c.t.d.fact 124 (f := .free "int") rfl)
  fr_enumerate := He.free_ok X G (c.t.d.fact 125 (f := .free "enumerate") rfl)
  fr_reversed := He.free_ok X G (c.t.d.fact 126 (f := .free "reversed") rfl)
  fr_max := He.free_ok X G (c.t.d.fact 127 (f := .free "max") rfl)
  fr_min := He.free_ok X G (c.t.d.fact 128 (f := .free "min") rfl)
  kx := HD.kx_ok c.more
  mn_Part := HD.mkn_ok c.more (by decide)
  mn_Any := HD.mkn_ok c.more (by decide)
  mn_Stars := HD.mkn_ok c.more (by decide)
  mn_Step := HD.mkn_ok c.more (by decide)
  mn_Deep := HD.mkn_ok c.more (by decide)
end SL
open PySem PySem.W PySem.Calls PyProof.Rows
theorem PySem.Challenge.cw_shunlist_k86_whole_walks_holds : PySem.Challenge.rw_shunlist_k86_whole_walks.Holds := by
  w_on; o_law
  refine HandSHeadRun.head_any (r := (PySem.W.OpenLaw.row PySem.Challenge.rw_shunlist_k86_whole_walks)) (q := view (PySem.W.OpenLaw.row PySem.Challenge.rw_shunlist_k86_whole_walks).prog [59]) (H := HD.hk) (ob := HD.ob) (M := 6000) (loose := HD.loose) (d := HandSHeadRun.topDef (PySem.W.OpenLaw.row PySem.Challenge.rw_shunlist_k86_whole_walks).prog 59) (kwd := []) HD.ob_eq
    (by kernel_rfl) (fun s => by kernel_rfl) HD.run (by kernel_rfl) (by kernel_rfl) (by kernel_rfl) (by rfl) (by first | assumption | decide +kernel) (by decide +kernel) ⟨rfl, rfl, rfl, rfl, rfl, by decide +kernel⟩ ?hw ?hc
  case hw => w_witness2
  case hc =>
    refine LamX.walk_ofTsE (l := PySem.Challenge.rw_shunlist_k86_whole_walks) (n := 63) (k := 15) (x := "_law_script") (CX := fun w => L2.CX (PySem.Challenge.rw_shunlist_k86_whole_walks).prog w) rfl (by decide) (by kernel_rfl) ⟨rfl, by decide, by decide⟩ ?F (fun _ _ _ _ _ ⟨_, _, _, _, _, _, _, _, _, _, _, _, z⟩ => z)
    intro w mg fa h Y G hmg0
    obtain ⟨K, KX, c⟩ := Y
    have T := SL.txt_of KX G c
    have hmg : mg ("law" : PySem.Str) = some (.ref fa) := by
      have e : (HandSHeadRun.topDef (PySem.W.OpenLaw.row PySem.Challenge.rw_shunlist_k86_whole_walks).prog 59).name = ("law" : PySem.Str) := by kernel_rfl
      rw [← e]
      exact hmg0
    have e := hmg.symm.trans T.g_law
    cases e
    obtain ⟨fd, F⟩ := T.F_law
    have b := L2.FunD.bindsA (ps := ["_law_script"]) F fun _ _ _ _ _ _ us hl => match us, hl with | [_], _ => rfl
    exact ⟨K, KX, fd, (HD.tf.map (He.cT K)), SL.spLawT K, (fun p hp => by obtain ⟨q, hq, rfl⟩ := List.mem_map.mp hp; exact c.empty q hq), (fun p hp => by obtain ⟨q, hq, rfl⟩ := List.mem_map.mp hp; exact c.out q hq), (fun p hp => by obtain ⟨q, hq, rfl⟩ := List.mem_map.mp hp; exact PySem.W.codeHd_of_K KX (c.hd q hq)), fun s v => b s [v] rfl, fun H a ns hl hb ht hS => SL.law_spT hS hl hb ⟨ht _ (List.mem_map.mpr ⟨("spared", none), by simp [HD.tf], rfl⟩), ht _ (List.mem_map.mpr ⟨("tops", none), by simp [HD.tf], rfl⟩), ht _ (List.mem_map.mpr ⟨("law", none), by simp [HD.tf], rfl⟩)⟩, fun base _ _ TB => SL.fnOkC F SL.sc_law (fun vs H Q E h => SL.law_lenT h) (SL.bd_law T ⟨TB _ (List.mem_map.mpr ⟨("spared", none), by simp [HD.tf], rfl⟩), TB _ (List.mem_map.mpr ⟨("tops", none), by simp [HD.tf], rfl⟩), TB _ (List.mem_map.mpr ⟨("law", none), by simp [HD.tf], rfl⟩)⟩)⟩
