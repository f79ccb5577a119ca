import PyProof.Rows.All
import Wide.All
import OpenK.AllK
import Wide.FinOn
import KE.KStateDown
import HandS.Base
import HandS.Call
import HandS.List
import HandS.Comp
import HandS.Dict
import HandS.Iter
import HandS.Text
import HandS.Ends
import HandS.More
import HandS.Words
import HandS.WordsExc
import HandS.Defaults
import HandS.MakeKw
import HandS.Exc
import HandS.ExcOwn
import HandS.TryOnly
import HandS.Deep
import HandS.TupAny
import HandS.Head0
import HandS.Head1
import HandS.Head2
import HandS.HeadHook1
import HandS.HeadHook2
import HandS.HeadHook3
import HandS.HeadHook4
import HandS.HeadWalk
import HandS.Flow
import HandS.Style
import HandS.Wide
import HandS.MakeKw
import HandS.Steps
import HandS.Strs
import HandS.IsInst
import HandS.Zip
import HandS.SetKeys
import HandS.Set
import HandS.WordsDict
import HandS.WordsList
import HandS.Walk
import HandS.Iter
import PyProof.Draws
import PyProof.EnumMake
import HandS.Conv
import HandS.RevRange
import HandS.SetFor
import HandS.Strs
import HandS.Zip
import HandS.SortInts
import HandS.Codes
import HandS.TupSets
import HandS.DeepEq
import HandS.StrMore
import HandS.Replace
import PyProof.StrLawsFirst
import PyProof.Rows.SortShellAny
import KE.KxAffix
import HandS.DictComp
import HandS.Finally
import HandS.SortRule
import KE.KSortTupAny
import HandS.SortKw
import KE.SortKeyHeap
import HandS.Nested
import HandS.CallLocal
import HandS.ExcValue
import HandS.ExcIs
import HandS.HeadHook1
import PyProof.StrOps2
import HandS.CallSlots
import HandS.ExcOwn
import PySem.Challenge.RW_shunlist_k93_changed
set_option Elab.async false
set_option linter.all false
set_option maxRecDepth 100000
set_option maxHeartbeats 4000000

/-! the layer of this proof: calls by promise, readings -/
namespace SL
open PySem PySem.Spec PyProof.Rows L2
/-- a def keeps the promise sp at level k; dvs: its last defaults, filled in -/
def OkD (P : Program) (w : World) (K : PySem.W.Frag) (mg : Str → Option Value) (base : Heap) (k : Nat) (f : Addr) (ps : List Str) (dvs : List V) (sp : Sp) : Prop :=
  ∃ (fd : FuncData) (ds : List Value), FnOk P w K mg base (L2.CX P w) k f fd ps sp ∧ Binds K fd ps ds ∧ Vals dvs ds ∧ PySem.W.keepIn K (.ref f) = true
/-- what the top tells of an error's class -/
def ExcK (K : PySem.W.Frag) (C : Addr) : Prop := PySem.W.excIn K C He.veBase "ValueError.__new__" = true ∧ PySem.W.keepIn K (.ref C) = true ∧ PySem.W.subIn K (.ref C) (.type "BaseException") = some true ∧ PySem.W.typeIn K (.ref C) = some (.type "type")
section
variable {P : Program} {w : World} {K : PySem.W.Frag} {mg : Str → Option Value} {base : Heap} {f : Addr} {name qual : Str} {params : Arguments} {body : List Stmt} {scope : Scope} {dvs : List V} {N ps : List Str} {k : Nat} {sp : Sp}
/-- the body's question of a def -/
abbrev BodyQ (P : Program) (w : World) (K : PySem.W.Frag) (mg : Str → Option Value) (base : Heap) (k : Nat) (f : Addr) (qual : Str) (body : List Stmt) (scope : Scope) (N : List Str) (sp : Sp) : Prop :=
  ∀ (cdv : Value) (A : Around) (outer : List Env) (s : Shared) (H : Hp) (vs : List V) (Q : VK) (E : XK), Room k (A.deeper (envOfC qual scope s.heap.objs.size f cdv)) → sp vs H Q E →
      ∃ t, PSs (cxOf (L2.CX P w) P w K mg base N qual scope f cdv A outer s H E) body t ∧ t { nx := fun _ H' => Q .non H', rt := Q } (start N vs) H
theorem okD (F : ∃ fd, FunD K name qual params body scope [] [] f fd) (S : FnScope N ps scope)
    (hb : ∀ (kV doc pm : Value) (an : Option Addr) (cdv ct : Value) (us : List Value), us.length = ps.length → bindArgs (PySem.W.fnOf name qual params body scope .none kV doc pm an cdv ct) ⟨us, []⟩ = pure (ps.zip us))
    (len : ∀ vs H Q E, sp vs H Q E → vs.length = ps.length) (h : BodyQ P w K mg base k f qual body scope N sp) : OkD P w K mg base (k + 1) f ps [] sp := by
  obtain ⟨fd, F⟩ := F
  exact ⟨fd, [], F.ok S len h, F.bindsN hb, .nil, F.kp⟩
/-- a def with defaults, called with all but the last dvs.drop j -/
theorem okDd (F : ∃ fd, FunD K name qual params body scope dvs [] f fd) (S : FnScope N ps scope) (n j : Nat) (hd : dvs ≠ []) (hn : n + (dvs.length - j) = ps.length)
    (hb : ∀ (T : Addr) (kV doc pm : Value) (an : Option Addr) (cdv ct : Value) (us its : List Value), us.length = n → its.length = dvs.length →
      ∃ k, bindArgs (PySem.W.fnOf name qual params body scope (.ref T) kV doc pm an cdv ct) ⟨us, []⟩ = seqItems? (.ref T) >>= k ∧ k (some its.toArray) = pure (ps.zip (us ++ its.drop j)))
    (len : ∀ vs H Q E, sp vs H Q E → vs.length = ps.length) (h : BodyQ P w K mg base k f qual body scope N sp) : OkD P w K mg base (k + 1) f ps (dvs.drop j) sp := by
  obtain ⟨fd, F⟩ := F
  obtain ⟨ds, h1, h2⟩ := F.binds1 n j hd hn hb
  exact ⟨fd, ds, F.ok S len h, h2, h1, F.kp⟩
end
section
variable {X : Cx} {k : Nat} {f : Addr} {ps : List Str} {dvs : List V} {sp : Sp} {E : XK} {x : Str} {p pos : Pos} {e : Expr} {es : List Expr} {t : TA}
theorem pe_cal (o : OkD X.prog X.w X.K X.mg X.base k f ps dvs sp) (hr : Room k X.A) (hg : Gl X x) (hm : X.mg x = some (.ref f)) (hx : Passes (L2.CX X.prog X.w) X E)
    (ha : PA X (e :: es) t) (hdb : (x == ("__debug__" : Str)) = false := by decide) (he : starEach (e :: es) X.env = (false, eval e X.env) :: starEach es X.env := by rfl) (hpl : (backTo pos (starEach es X.env)).any (·.1) = false := by rfl) :
    PE X (.Call (.Name x p) (e :: es) [] pos) (tCall sp dvs E t) := by
  obtain ⟨fd, ds, F, hb, hd, hk⟩ := o
  exact pe_call F hr hg hm hk hb hd hx ha hdb he hpl
/-- a module's text, a module's number -/
theorem pe_gstr {z : Str} (hg : Gl X x) (hm : ∃ t, X.mg x = some (.str z t)) (hd : (x == ("__debug__" : Str)) = false := by decide) : PE X (.Name x pos) (tC (.str z)) := by
  obtain ⟨t, hm⟩ := hm
  exact pe_glob hg hm ⟨t, rfl⟩ hd
/-- no error leaves the callee -/
theorem pasN : Passes (L2.CX X.prog X.w) X (fun _ _ _ => False) := fun _ _ _ _ _ _ _ ⟨_, _, _, _, _, _, _, _, _, _, _, _, h⟩ => h.elim
/-- an error of a callee leaves here, too -/
theorem pasE {W : WX} (tk : Takes X W) {E : XK} (h : ∀ c d σ H, E c d H → W c d σ H) : Passes (L2.CX X.prog X.w) X E := fun pins σ H s e s' I c => passes_call tk h pins σ H s e s' I c
end
end SL
namespace SL
open PySem PySem.Spec PyProof.Rows L2
section
variable {X : Cx} {k : Nat} {f C : Addr} {ps : List Str} {dvs : List V} {sp : Sp} {E : XK} {x m : Str} {p pos apos : Pos} {o e : Expr} {es : List Expr} {ta : TE} {t : TA}
/-- o.m(..), the class told by what stands there: i says it -/
def tMeI {ι : Type} (D : ι → V → Hp → Prop) (spI : ι → Sp) (E : XK) (ta : TE) (t : TA) : TE := fun σ H Q => ta σ H fun x H1 => ∃ i, D i x H1 ∧ t σ H1 fun vs H2 => spI i (x :: vs) H2 Q E
/-- what a value must be for a method m of promise spI i -/
def MetD {ι : Type} (X : Cx) (k : Nat) (m : Str) (D : ι → V → Hp → Prop) (spI : ι → Sp) : Prop :=
  ∀ i x H, D i x H → ∃ a C dx fs g ps, x = .ref a ∧ H a = some (.ins C dx fs) ∧ Cls X.K C ∧ Meth X.K C m g ∧ fs.lookup m = none ∧ OkD X.prog X.w X.K X.mg X.base k g ps [] (spI i)
theorem pe_metI {ι : Type} {D : ι → V → Hp → Prop} {spI : ι → Sp} {pl : Sem Bool} (hD : MetD X k m D spI) (he : PE X o ta) (hr : Room k X.A) (hx : Passes (L2.CX X.prog X.w) X E) (ha : PA X (e :: es) t)
    (hst : starEach (e :: es) X.env = (false, eval e X.env) :: starEach es X.env := by rfl) (hpl : (backTo pos (starEach es X.env)).any (·.1) = false := by rfl)
    (ht : eval (.Call (.Attribute o m apos) (e :: es) [] pos) X.env = (do
      let ov ← eval o X.env
      standAt apos.atName
      let (f, first) ← holding [ov] (getMethod ov m pl)
      callWith pos f first (backTo pos (starEach (e :: es) X.env)) (backToKw pos (keywordEach [] X.env))) := by rfl) :
    PE X (.Call (.Attribute o m apos) (e :: es) [] pos) (tMeI D spI E ta t) := by
  refine ⟨fun pins s σ H Q I h => ?_⟩
  refine PySem.W.methodCall_KW (pl := pl) (thn (he.run pins s σ H _ I h) fun u s1 ⟨x, H1, I1, rx, i, hi, q⟩ => ?_) ht
  obtain ⟨a, C, dx, fs, g, ps, rfl, ea, c, hm, l, fd, ds, F, hb, hd, hk⟩ := hD i x H1 hi
  obtain rfl : u = Value.ref a := rx
  cases hd
  refine getmeth_ok I1 ea c hm l (PySem.W.callWith_K (first := [.ref a]) (h₀ := X.base) I.ok.mod.kin hm.kp (thn (ha.run pos pins s1 σ H1 _ I1 q) fun us s2 ⟨vs, H2, I2, r, q2⟩ => ⟨I2.kIn, ?_⟩) hst hpl)
  have q3 : spI i (.ref a :: vs ++ []) H2 Q E := by rw [List.append_nil]; exact q2
  exact run_fn (us := .ref a :: us) (vs := .ref a :: vs) F hr hb .nil hx I2 (.cons rfl r) q3
theorem pe_metI0 {ι : Type} {D : ι → V → Hp → Prop} {spI : ι → Sp} {pl : Sem Bool} (hD : MetD X k m D spI) (he : PE X o ta) (hr : Room k X.A) (hx : Passes (L2.CX X.prog X.w) X E)
    (ht : eval (.Call (.Attribute o m apos) [] [] pos) X.env = (do
      let ov ← eval o X.env
      standAt apos.atName
      let (f, first) ← holding [ov] (getMethod ov m pl)
      callWith pos f first (backTo pos (starEach [] X.env)) (backToKw pos (keywordEach [] X.env))) := by rfl) :
    PE X (.Call (.Attribute o m apos) [] [] pos) (tMeI D spI E ta tNil) := by
  refine ⟨fun pins s σ H Q I h => ?_⟩
  refine PySem.W.methodCall_KW (pl := pl) (thn (he.run pins s σ H _ I h) fun u s1 ⟨x, H1, I1, rx, i, hi, q⟩ => ?_) ht
  obtain ⟨a, C, dx, fs, g, ps, rfl, ea, c, hm, l, fd, ds, F, hb, hd, hk⟩ := hD i x H1 hi
  obtain rfl : u = Value.ref a := rx
  cases hd
  refine getmeth_ok I1 ea c hm l (PySem.W.callWith_K0 (first := [.ref a]) I1.kIn hm.kp ?_)
  exact run_fn (us := [.ref a]) (vs := [.ref a]) F hr hb .nil hx I1 (.cons rfl .nil) q
/-- C(e, ..) by its __init__ -/
theorem pe_mak (M : Mk X.K C f) (o : OkD X.prog X.w X.K X.mg X.base k f ps dvs sp) (hr : Room (k + 1) X.A) (hg : Gl X x) (hm : X.mg x = some (.ref C)) (hx : Passes (L2.CX X.prog X.w) X E)
    (ha : PA X (e :: es) t) (hdb : (x == ("__debug__" : Str)) = false := by decide) (he : starEach (e :: es) X.env = (false, eval e X.env) :: starEach es X.env := by rfl) (hpl : (backTo pos (starEach es X.env)).any (·.1) = false := by rfl) :
    PE X (.Call (.Name x p) (e :: es) [] pos) (tMake C sp dvs E t) := by
  obtain ⟨fd, ds, F, hb, hd, _⟩ := o
  exact pe_make M F hr hg hm hb hd hx ha hdb he hpl
theorem pe_mak0 (M : Mk X.K C f) (o : OkD X.prog X.w X.K X.mg X.base k f ps dvs sp) (hr : Room (k + 1) X.A) (hg : Gl X x) (hm : X.mg x = some (.ref C)) (hx : Passes (L2.CX X.prog X.w) X E)
    (hdb : (x == ("__debug__" : Str)) = false := by decide) : PE X (.Call (.Name x p) [] [] pos) (tMake C sp dvs E tNil) := by
  obtain ⟨fd, ds, F, hb, hd, _⟩ := o
  exact pe_make0 M F hr hg hm hb hd hx hdb
/-- C() of a class that has no __init__ of its own -/
structure MkN (K : PySem.W.Frag) (C : Addr) : Prop where
  makes : PySem.W.makesIn K C = true
  init : PySem.W.findIn K (.ref C) "__init__" = some (some (.builtin "object.__init__"))
  kp : PySem.W.keepIn K (.ref C) = true
def tMakN (C : Addr) : TE := fun _ H Q => ∀ x dx, H x = none → H dx = none → dx ≠ x → Q (.ref x) (upd (upd H dx (.own x)) x (.ins C dx []))
theorem pe_makN (M : MkN X.K C) (hg : Gl X x) (hm : X.mg x = some (.ref C)) (hdb : (x == ("__debug__" : Str)) = false := by decide) : PE X (.Call (.Name x p) [] [] pos) (tMakN C) := by
  refine ⟨fun pins s σ H Q I h => ?_⟩
  refine wpAny_Call_Name_kw (ld_glob I hg hm ?_ hdb)
  refine PySem.W.callWith_K0 I.kIn M.kp (wpAny_call ?_)
  have I2 := Inv.made (C := C) I
  have hq := h (s.heap.objs.size + 1) s.heap.objs.size (I.hok.fresh (Nat.le_succ _)) (I.hok.fresh (Nat.le_refl _)) (Nat.ne_of_lt (Nat.lt_succ_self _))
  refine make_map0 I.kIn M.makes M.init (fun self => PySem.W.Looks.of_pure (PySem.W.oi_bind self)) ?_
  have Y := PySem.W.makes_of (M := model X.prog X.w) I.kIn M.makes
  have hx : ((s.heap.push PySem.W.emptyDict).push (PySem.W.instObj C s.heap.objs.size)).get? (s.heap.objs.size + 1) = some (PySem.W.instObj C s.heap.objs.size) := by
    have e := Heap.get?_push_size (s.heap.push PySem.W.emptyDict) (show (PySem.W.instObj C s.heap.objs.size).isFreed = false from rfl)
    rw [Heap.size_push] at e
    exact e
  have t1 : PySem.W.Looks (model X.prog X.w) ((s.heap.push PySem.W.emptyDict).push (PySem.W.instObj C s.heap.objs.size)) (isInstance (.ref (s.heap.objs.size + 1)) (.type "object")) true :=
    ((PySem.W.Looks.ld hx).andThen .now).andThen (Y.top.keeps fun b o e => Heap.get?_push_of_some _ (Heap.get?_push_of_some _ e))
  refine codeAny_call_builtin PySem.W.oi_plain PySem.W.entry_oi (@PySem.W.check_slot (model X.prog X.w) _ _ _ "object.__init__" "object" "__init__" (.ref (s.heap.objs.size + 1)) [] [] _ PySem.W.oi_kind PySem.W.oi_split t1 (PySem.W.oi_args (.ref (s.heap.objs.size + 1))) ?_)
  rw [PySem.W.oi_run]
  exact wpAny_pure ⟨rfl, .ref (s.heap.objs.size + 1), _, I2, rfl, hq⟩
end
/-- a def that keeps sp, called with n values and the keywords ks, in the order of its parameters -/
def OkK (P : Program) (w : World) (K : PySem.W.Frag) (mg : Str → Option Value) (base : Heap) (k : Nat) (f : Addr) (ps : List Str) (n : Nat) (ks : List Str) (sp : Sp) : Prop :=
  ∃ (fd : FuncData) (g : List Value → List Value → List Value) (gV : List V → List V → List V), FnOk P w K mg base (L2.CX P w) k f fd ps sp ∧ KBn K fd ps n ks g gV ∧ ∀ vs zs, gV vs zs = vs ++ zs
theorem okK {P : Program} {w : World} {K : PySem.W.Frag} {mg : Str → Option Value} {base : Heap} {f : Addr} {name qual : Str} {params : Arguments} {body : List Stmt} {scope : Scope} {dvs : List V} {N ps : List Str} {k : Nat} {sp : Sp}
    (F : ∃ fd, FunD K name qual params body scope dvs [] f fd) (S : FnScope N ps scope) (n : Nat) (ks : List Str) (hd : dvs ≠ [])
    (hb : ∀ (T : Addr) (kV doc pm : Value) (an : Option Addr) (cdv ct : Value) (us its ws : List Value), us.length = n → its.length = dvs.length → ws.length = ks.length →
      ∃ k, bindArgs (PySem.W.fnOf name qual params body scope (.ref T) kV doc pm an cdv ct) ⟨us, ks.zip ws⟩ = seqItems? (.ref T) >>= k ∧ k (some its.toArray) = pure (ps.zip (us ++ ws)))
    (len : ∀ vs H Q E, sp vs H Q E → vs.length = ps.length) (h : BodyQ P w K mg base k f qual body scope N sp) : OkK P w K mg base (k + 1) f ps n ks sp := by
  obtain ⟨fd, F⟩ := F
  obtain ⟨its, hk⟩ := F.kbindsD n ks (fun us _ ws => us ++ ws) hd (fun a _ c => a.append c) hb
  exact ⟨fd, _, _, F.ok S len h, hk, fun _ _ => rfl⟩
def tMakK (C : Addr) (n m : Nat) (sp : Sp) (E : XK) (t tk : TA) : TE := fun σ H Q => t σ H fun vs H1 => tk σ H1 fun zs H2 => vs.length = n ∧ zs.length = m ∧
  ∀ x dx, H2 x = none → H2 dx = none → dx ≠ x → sp (.ref x :: (vs ++ zs)) (upd (upd H2 dx (.own x)) x (.ins C dx [])) (fun v H3 => v = .non ∧ Q (.ref x) H3) E
/-- keywords turned about -/
def OkKr (P : Program) (w : World) (K : PySem.W.Frag) (mg : Str → Option Value) (base : Heap) (k : Nat) (f : Addr) (ps : List Str) (n : Nat) (ks : List Str) (sp : Sp) : Prop :=
  ∃ (fd : FuncData) (g : List Value → List Value → List Value) (gV : List V → List V → List V), FnOk P w K mg base (L2.CX P w) k f fd ps sp ∧ KBn K fd ps n ks g gV ∧ ∀ vs zs, gV vs zs = vs ++ zs.reverse
theorem okKr {P : Program} {w : World} {K : PySem.W.Frag} {mg : Str → Option Value} {base : Heap} {f : Addr} {name qual : Str} {params : Arguments} {body : List Stmt} {scope : Scope} {dvs : List V} {N ps : List Str} {k : Nat} {sp : Sp}
    (F : ∃ fd, FunD K name qual params body scope dvs [] f fd) (S : FnScope N ps scope) (n : Nat) (ks : List Str) (hd : dvs ≠ [])
    (hb : ∀ (T : Addr) (kV doc pm : Value) (an : Option Addr) (cdv ct : Value) (us its ws : List Value), us.length = n → its.length = dvs.length → ws.length = ks.length →
      ∃ k, bindArgs (PySem.W.fnOf name qual params body scope (.ref T) kV doc pm an cdv ct) ⟨us, ks.zip ws⟩ = seqItems? (.ref T) >>= k ∧ k (some its.toArray) = pure (ps.zip (us ++ ws.reverse)))
    (len : ∀ vs H Q E, sp vs H Q E → vs.length = ps.length) (h : BodyQ P w K mg base k f qual body scope N sp) : OkKr P w K mg base (k + 1) f ps n ks sp := by
  obtain ⟨fd, F⟩ := F
  obtain ⟨its, hk⟩ := F.kbindsD n ks (fun us _ ws => us ++ ws.reverse) hd (fun a _ c => a.append c.reverse) hb
  exact ⟨fd, _, _, F.ok S len h, hk, fun _ _ => rfl⟩
def tMakKr (C : Addr) (n m : Nat) (sp : Sp) (E : XK) (t tk : TA) : TE := fun σ H Q => t σ H fun vs H1 => tk σ H1 fun zs H2 => vs.length = n ∧ zs.length = m ∧
  ∀ x dx, H2 x = none → H2 dx = none → dx ≠ x → sp (.ref x :: (vs ++ zs.reverse)) (upd (upd H2 dx (.own x)) x (.ins C dx [])) (fun v H3 => v = .non ∧ Q (.ref x) H3) E
end SL
namespace SL
open PySem PySem.Spec PyProof.Rows L2
theorem hu64 {k : Nat} {A : Around} (hr : Room k A) : A.units + 64 < cLine := hr.units
section
variable {X : Cx}
theorem OpR.imp {f : Value → Value → Sem Value} {r r' : R2} (h : OpR X f r) (i : ∀ x y H Q, r' x y H Q → r x y H Q) : OpR X f r' := fun pins s σ H x y v u Q I rx ry q => h pins s σ H x y v u Q I rx ry (i _ _ _ _ q)
theorem IxR.imp {r r' : R2} (h : IxR X r) (i : ∀ x y H Q, r' x y H Q → r x y H Q) : IxR X r' := fun value slice pins s σ H x y v u Q I rx ry q hs => h value slice pins s σ H x y v u Q I rx ry (i _ _ _ _ q) hs
theorem CallR.imp {f : Value} {r r' : List V → Hp → VK → Prop} (h : CallR X f r) (i : ∀ xs H Q, r' xs H Q → r xs H Q) : CallR X f r' := fun pins s σ H xs us Q I rx q => h pins s σ H xs us Q I rx (i _ _ _ q)
/-! ### + and * -/
def rAddU (K : PySem.W.Frag) : R2 := fun x y H Q => match x, y with
  | .int i, .int j => Q (.int (i + j)) H
  | .int i, .bl b => Q (.int (i + b2i b)) H
  | .str a, .str b => a.length + b.length ≤ sizeLine ∧ Q (.str (a ++ b)) H
  | .ref a, .ref b => rCat (.ref a) (.ref b) H Q ∨ rCatT K (.ref a) (.ref b) H Q
  | _, _ => False
theorem o_add {K : PySem.W.Frag} (hK : X.K = K := by rfl) : OpR X (binaryOp .Add) (rAddU K) := by
  subst hK
  refine OpR.imp (op_add.or (op_add_ib.or (op_add_str.or (op_cat.or op_catT)))) fun x y H Q h => ?_
  cases x <;> cases y <;> first
    | exact absurd h id
    | exact .inl ⟨_, _, rfl, rfl, h⟩
    | exact .inr (.inl ⟨_, _, rfl, rfl, h⟩)
    | exact .inr (.inr (.inl ⟨_, _, rfl, rfl, h.1, h.2⟩))
    | exact .inr (.inr (.inr h))
def rMulU : R2 := fun x y H Q => match x, y with
  | .int i, .int j => CMul i j ∧ Q (.int (i * j)) H
  | .ref a, .int j => rRep (.ref a) (.int j) H Q
  | _, _ => False
theorem o_mul : OpR X (binaryOp .Mult) rMulU := by
  refine OpR.imp (op_mul.or op_rep) fun x y H Q h => ?_
  cases x <;> cases y <;> first
    | exact absurd h id
    | exact .inl ⟨_, _, rfl, rfl, h.1, h.2⟩
    | exact .inr h
/-! ### comparisons -/
def isRef : V → Bool
  | .ref _ => true
  | _ => false
/-- lists of different lengths -/
def lenNe (K : PySem.W.Frag) (b : Bool) : R2 := fun x y H Q => ∃ p q xs ys, x = .ref p ∧ y = .ref q ∧ SqL K H p xs ∧ SqL K H q ys ∧ xs.length ≠ ys.length ∧ Q (.bl b) H
theorem op_eqLen (hu : X.A.units + 64 < cLine) : OpR X (compareOp .Eq) (lenNe X.K false) := by
  intro pins s σ H x y v u Q I rx ry h
  obtain ⟨p, q, xs, ys, rfl, rfl, h1, h2, hn, k⟩ := h
  cases rx
  cases ry
  obtain ⟨its, r, pl, _⟩ := I.list h1
  obtain ⟨its2, r2, pl2, _⟩ := I.list h2
  have e1 := r.length
  have e2 := r2.length
  exact SeqAt.RcAt.lists_lengths pl.isList pl2.isList (by simp; omega) (by omega) _ _ _ _ ⟨.bl _, H, I, rfl, k⟩
theorem op_neLen (hu : X.A.units + 64 < cLine) : OpR X (compareOp .NotEq) (lenNe X.K true) := by
  intro pins s σ H x y v u Q I rx ry h
  obtain ⟨p, q, xs, ys, rfl, rfl, h1, h2, hn, k⟩ := h
  cases rx
  cases ry
  obtain ⟨its, r, pl, _⟩ := I.list h1
  obtain ⟨its2, r2, pl2, _⟩ := I.list h2
  have e1 := r.length
  have e2 := r2.length
  exact SeqAt.RcNeAt.lists_lengths pl.isList pl2.isList (by simp; omega) (by omega) _ _ _ _ ⟨.bl _, H, I, rfl, k⟩
def rEqR (K : PySem.W.Frag) : R2 := fun x y H Q => rEqD K x y H Q ∨ lenNe K false x y H Q
def rNeR (K : PySem.W.Frag) : R2 := fun x y H Q => rNeD K x y H Q ∨ lenNe K true x y H Q
def rEqU (K : PySem.W.Frag) : R2 := fun x y H Q => match isRef x || isRef y with
  | true => rEqR K x y H Q
  | false => scal x y = true ∧ Q (.bl (decide (x = y))) H
def rNeU (K : PySem.W.Frag) : R2 := fun x y H Q => match isRef x || isRef y with
  | true => rNeR K x y H Q
  | false => scal x y = true ∧ Q (.bl (!decide (x = y))) H
theorem o_eq {K : PySem.W.Frag} (hu : X.A.units + 64 < cLine) (hK : X.K = K := by rfl) : OpR X (compareOp .Eq) (rEqU K) := by
  subst hK
  refine OpR.imp (op_eq.or ((op_eqD hu).or (op_eqLen hu))) fun x y H Q h => ?_
  unfold rEqU at h
  split at h
  · exact .inr h
  · exact .inl h
theorem o_ne {K : PySem.W.Frag} (hu : X.A.units + 64 < cLine) (hK : X.K = K := by rfl) : OpR X (compareOp .NotEq) (rNeU K) := by
  subst hK
  refine OpR.imp (op_ne.or ((op_neD hu).or (op_neLen hu))) fun x y H Q h => ?_
  unfold rNeU at h
  split at h
  · exact .inr h
  · exact .inl h
/-- a list against the empty list -/
theorem eq_nil {K : PySem.W.Frag} {p q : Addr} {xs : List V} {H : Hp} {Q : VK} (h1 : SqL K H p xs) (h2 : SqL K H q []) (k : Q (.bl (decide (xs = []))) H) : rEqR K (.ref p) (.ref q) H Q := by
  cases xs with
  | nil => exact .inl ⟨.list [], .list [], .lst h1 .nil, .lst h2 .nil, rfl, rfl, k⟩
  | cons x r => exact .inr ⟨p, q, _, _, rfl, rfl, h1, h2, by simp, k⟩
theorem ne_nil {K : PySem.W.Frag} {p q : Addr} {xs : List V} {H : Hp} {Q : VK} (h1 : SqL K H p xs) (h2 : SqL K H q []) (k : Q (.bl (!decide (xs = []))) H) : rNeR K (.ref p) (.ref q) H Q := by
  cases xs with
  | nil => exact .inl ⟨.list [], .list [], .lst h1 .nil, .lst h2 .nil, rfl, rfl, k⟩
  | cons x r => exact .inr ⟨p, q, _, _, rfl, rfl, h1, h2, by simp, k⟩
/-! ### is, of truths and None -/
def rIsBo : R2 := fun x y H Q => match x, y with
  | .bl a, .bl b => Q (.bl (a == b)) H
  | _, _ => False
def rNotBo : R2 := fun x y H Q => match x, y with
  | .bl a, .bl b => Q (.bl (!(a == b))) H
  | _, _ => False
/-! ### int of a number or a truth -/
def rIntU : List V → Hp → VK → Prop := fun xs H Q => match xs with
  | [.int i] => Q (.int i) H
  | [.bl k] => Q (.int (if k then 1 else 0)) H
  | _ => False
theorem o_int : CallR X (.type "int") rIntU := CallR.imp call_int1 fun xs H Q h => match xs, h with
  | [.int i], q => .inl ⟨i, rfl, q⟩
  | [.bl k], q => .inr ⟨k, rfl, q⟩
/-! ### x += y -/
def rIadd : TIp := fun x y H Q => match x, y with
  | .int i, .int j => Q (.int (i + j)) H
  | .str a, .str b => a.length + b.length ≤ sizeLine ∧ Q (.str (a ++ b)) H
  | .ref a, .ref b => rExt2 (.ref a) (.ref b) H Q
  | _, _ => False
theorem o_iadd : PIp X .Add rIadd := fun pins s σ H x y v u Q I rx ry h => match x, y, h with
  | .int i, .int j, q => ip_add pins s σ H _ _ v u Q I rx ry ⟨i, j, rfl, rfl, q⟩
  | .str a, .str b, q => iop_add_str pins s σ H _ _ v u Q I rx ry ⟨a, b, rfl, rfl, q⟩
  | .ref a, .ref b, q => iop_ext pins s σ H _ _ v u Q I rx ry q
def rCmp (f : Int → Int → Bool) (g : List Nat → List Nat → Bool) : R2 := fun x y H Q => match x, y with
  | .int i, .int j => Q (.bl (f i j)) H
  | .str a, .str b => Q (.bl (g a.cps.toList b.cps.toList)) H
  | _, _ => False
theorem o_lt : OpR X (compareOp .Lt) (rCmp (fun i j => decide (i < j)) (fun a b => decide (a < b))) := by
  refine OpR.imp (op_lt.or op_lt_str) fun x y H Q h => ?_
  cases x <;> cases y <;> first
    | exact absurd h id
    | exact .inl ⟨_, _, rfl, rfl, h⟩
    | exact .inr ⟨_, _, rfl, rfl, h⟩
theorem o_gt : OpR X (compareOp .Gt) (rCmp (fun i j => decide (j < i)) (fun a b => decide (b < a))) := by
  refine OpR.imp (op_gt.or op_gt_str) fun x y H Q h => ?_
  cases x <;> cases y <;> first
    | exact absurd h id
    | exact .inl ⟨_, _, rfl, rfl, h⟩
    | exact .inr ⟨_, _, rfl, rfl, h⟩
/-- in: a sign in a text, a text in a text, data in a list of data, a flat thing in a list or a tuple -/
def rInU (K : PySem.W.Frag) : R2 := fun x y H Q => match x, y with
  | .str a, .str b => (∃ c, a = ⟨#[c]⟩ ∧ Q (.bl (decide (c ∈ b.cps.toList))) H) ∨ Q (.bl (!(Builtin.Str.occurrences b a 0 b.length 1).isEmpty)) H
  | .ref a, .ref b => rInD K (.ref a) (.ref b) H Q
  | x, .ref b => rIn K false x (.ref b) H Q
  | _, _ => False
theorem hu65 {k : Nat} {A : Around} (hr : Room k A) : A.units + 65 < cLine := by
  have := hr.un
  omega
theorem o_in {K : PySem.W.Frag} (hu : X.A.units + 65 < cLine) (hK : X.K = K := by rfl) : OpR X (compareOp .In) (rInU K) := by
  subst hK
  refine OpR.imp (op_in_sign.or (op_in_str.or (op_in_seq.or (op_inD hu)))) fun x y H Q h => ?_
  cases y with
  | ref b => cases x with
    | ref a => exact .inr (.inr (.inr h))
    | _ => exact .inr (.inr (.inl h))
  | str b =>
    cases x with
    | str a =>
      rcases h with ⟨c, rfl, q⟩ | q
      · exact .inl ⟨c, b, rfl, rfl, q⟩
      · exact .inr (.inl ⟨a, b, rfl, rfl, q⟩)
    | _ => exact absurd h id
  | _ => cases x <;> exact absurd h id
def rNotInU (K : PySem.W.Frag) : R2 := fun x y H Q => match x, y with
  | .str a, .str b => (∃ c, a = ⟨#[c]⟩ ∧ Q (.bl (!decide (c ∈ b.cps.toList))) H) ∨ Q (.bl (!(!(Builtin.Str.occurrences b a 0 b.length 1).isEmpty))) H
  | .ref a, .ref b => rNotInD K (.ref a) (.ref b) H Q
  | x, .ref b => rIn K true x (.ref b) H Q
  | _, _ => False
theorem o_notin {K : PySem.W.Frag} (hu : X.A.units + 65 < cLine) (hK : X.K = K := by rfl) : OpR X (compareOp .NotIn) (rNotInU K) := by
  subst hK
  refine OpR.imp (op_notIn_sign.or (op_notIn_str.or (op_notIn_seq.or (op_notInD hu)))) fun x y H Q h => ?_
  cases y with
  | ref b => cases x with
    | ref a => exact .inr (.inr (.inr h))
    | _ => exact .inr (.inr (.inl h))
  | str b =>
    cases x with
    | str a =>
      rcases h with ⟨c, rfl, q⟩ | q
      · exact .inl ⟨c, b, rfl, rfl, q⟩
      · exact .inr (.inl ⟨a, b, rfl, rfl, q⟩)
    | _ => exact absurd h id
  | _ => cases x <;> exact absurd h id
/-! ### items, slices, walks -/
def rIxU (K : PySem.W.Frag) : R2 := fun x y H Q => match x, y with
  | .ref p, .int i => ∃ xs v, (SqL K H p xs ∨ SqT K H p xs) ∧ atI xs i = some v ∧ Q v H
  | .str z, .int i => z.length ≤ sizeLine ∧ ∃ c, atI z.cps.toList i = some c ∧ Q (.str ⟨#[c]⟩) H
  | _, _ => False
theorem o_ix {K : PySem.W.Frag} (hK : X.K = K := by rfl) : IxR X (rIxU K) := by
  subst hK
  refine IxR.imp ix_seq fun x y H Q h => ?_
  cases y with
  | int i =>
    cases x with
    | ref p =>
      obtain ⟨xs, v, h1 | h1, h2, q⟩ := h
      · exact .inl ⟨p, xs, i, v, rfl, rfl, h1, h2, q⟩
      · exact .inr (.inl ⟨p, xs, i, v, rfl, rfl, h1, h2, q⟩)
    | str z =>
      obtain ⟨h0, c, h2, q⟩ := h
      exact .inr (.inr ⟨z, i, c, rfl, rfl, h0, h2, q⟩)
    | _ => exact absurd h id
  | _ => cases x <;> exact absurd h id
def iU (K : PySem.W.Frag) (te : TE) : TI := fun σ H R => te σ H fun x H1 => match x with
  | .ref a => ((∃ xs, SqL K H1 a xs) ∧ R (Itl K a) H1) ∨ ((∃ xs, SqT K H1 a xs) ∧ R (Itt K a) H1)
  | .str z => R (Its z) H1
  | _ => False
theorem o_it {K : PySem.W.Frag} {tg e : Expr} {te : TE} (hc : X.calm = true) (he : PE X e te) (hK : X.K = K := by rfl) : PI X tg e (iU K te) := by
  subst hK
  refine ⟨fun pins s σ H R I h => ?_⟩
  refine thn (he.run pins s σ H _ I h) fun v s1 ⟨x, H1, I1, r1, q1⟩ => ?_
  cases x with
  | ref a =>
    cases r1
    rcases q1 with ⟨⟨xs, hq⟩, q⟩ | ⟨⟨xs, hq⟩, q⟩
    · obtain ⟨its, rv, p, hz⟩ := I1.list hq
      exact wpAny_pyIter_list p.isList (pi_one (tk := s1.toks) I1 _ (turn_list a _) ⟨_, Heap.get?_push_size _ rfl, rfl, rfl⟩ q)
    · obtain ⟨its, rv, p, hz⟩ := I1.tuple hq
      exact wpAny_pyIter_tuple (show s1.heap.IsTuple a its.toArray from p) (pi_one (tk := s1.toks) I1 _ (turn_tuple a _) ⟨_, Heap.get?_push_size _ rfl, rfl, rfl⟩ q)
  | str z =>
    obtain ⟨t, rfl⟩ := r1
    cases ha : z.cps.all (· < 128)
    · exact wpAny_pyIter_wide ha (pi_one (tk := s1.toks) I1 _ (turn_str _ z t "str_iterator" (.inr rfl)) ⟨_, Heap.get?_push_size _ rfl, rfl, rfl⟩ q1)
    · exact wpAny_pyIter_ascii ha (pi_one (tk := s1.toks) I1 _ (turn_str _ z t "str_ascii_iterator" (.inl rfl)) ⟨_, Heap.get?_push_size _ rfl, rfl, rfl⟩ q1)
  | _ => exact absurd q1 id
/-! ### slices, len, list, the truth of a value -/
def rSlU (K : PySem.W.Frag) : V → Option Int → Option Int → Hp → VK → Prop := fun x lo hi H Q => match x with
  | .str z => z.length ≤ sizeLine ∧ Q (.str (cutS z lo hi)) H
  | .ref a => (∃ xs, SqL K H a xs ∧ ∀ p, H p = none → Q (.ref p) (upd H p (.lst (cutV xs lo hi)))) ∨
    ∃ xs, SqT K H a xs ∧ (HT.sIx xs.length 0 lo = 0 ∧ HT.sIx xs.length xs.length hi = xs.length → Q (.ref a) H) ∧
      (¬ (HT.sIx xs.length 0 lo = 0 ∧ HT.sIx xs.length xs.length hi = xs.length) → ∀ p, H p = none → Q (.ref p) (upd H p (.tup (cutV xs lo hi))))
  | _ => False
theorem SlR.imp {r r' : V → Option Int → Option Int → Hp → VK → Prop} (h : SlR X r) (i : ∀ x lo hi H Q, r' x lo hi H Q → r x lo hi H Q) : SlR X r' := fun pins s σ H x v vl vu lo hi sl Q I rx hs pl pu q => h pins s σ H x v vl vu lo hi sl Q I rx hs pl pu (i _ _ _ _ _ q)
theorem o_sl {K : PySem.W.Frag} (hK : X.K = K := by rfl) : SlR X (rSlU K) := by
  subst hK
  refine SlR.imp (sl_list.or (sl_tupA.or sl_str)) fun x lo hi H Q h => ?_
  match x, h with
  | .str z, ⟨h1, h2⟩ => exact .inr (.inr ⟨z, rfl, h1, h2⟩)
  | .ref a, .inl ⟨xs, h1, h2⟩ => exact .inl ⟨a, xs, rfl, h1, h2⟩
  | .ref a, .inr ⟨xs, h1, h2, h3⟩ => exact .inr (.inl ⟨a, xs, rfl, h1, h2, h3⟩)
def rLenU (K : PySem.W.Frag) : List V → Hp → VK → Prop := fun xs H Q => match xs with
  | [x] => ∃ n, LenV K x H n ∧ Q (.int n) H
  | _ => False
theorem o_len {K : PySem.W.Frag} (hK : X.K = K := by rfl) : CallR X (.builtin "len") (rLenU K) := by
  subst hK
  refine CallR.imp call_len fun xs H Q h => ?_
  match xs, h with
  | [x], ⟨n, h, q⟩ => exact ⟨x, n, rfl, h, q⟩
theorem pt_tru {K : PySem.W.Frag} {a : Expr} {ta : TE} (ha : PE X a ta) (he : ∀ whole, isTrue a X.env whole = (do let v ← whole; standAt a.pos; holding [v] (truthy v))) (hK : X.K = K := by rfl) : PT X a (fun σ H Q => ta σ H fun x H1 => ∃ k, TruV K x H1 k ∧ Q k H1) := by
  subst hK
  exact pt_truth ha he
theorem pe_notK {K : PySem.W.Frag} {a : Expr} {ta : TE} {pos : Pos} (ha : PE X a ta) (hK : X.K = K := by rfl) : PE X (.UnaryOp .Not a pos) (tNotT K ta) := by
  subst hK
  exact pe_notT ha
theorem pe_orK {K : PySem.W.Frag} {a b : Expr} {rest : List Expr} {ta tb : TE} {pos : Pos} (ha : PE X a ta) (hb : PE X (.BoolOp .Or (b :: rest) pos) tb) (hK : X.K = K := by rfl) : PE X (.BoolOp .Or (a :: b :: rest) pos) (tOrT K ta tb) := by
  subst hK
  exact pe_orT ha hb
theorem pe_andK {K : PySem.W.Frag} {a b : Expr} {rest : List Expr} {ta tb : TE} {pos : Pos} (ha : PE X a ta) (hb : PE X (.BoolOp .And (b :: rest) pos) tb) (hK : X.K = K := by rfl) : PE X (.BoolOp .And (a :: b :: rest) pos) (tAndT K ta tb) := by
  subst hK
  exact pe_andT ha hb
theorem pe_fldK {K : PySem.W.Frag} {e : Expr} {f : Str} {ta : TE} {pos : Pos} (he : PE X e ta) (hb : attributeBase e f X.env (eval e X.env) = eval e X.env) (hK : X.K = K := by rfl) : PE X (.Attribute e f pos) (tFld K ta f) := by
  subst hK
  exact pe_fld he hb
theorem o_all {K : PySem.W.Frag} (hc : X.calm = true) (hK : X.K = K := by rfl) : CallR X (.builtin "all") (rAll K) := by
  subst hK
  exact cr_all hc
/-- isinstance(x, T), T built in -/
def rIsiU (K : PySem.W.Frag) : List V → Hp → VK → Prop := fun xs H Q => match xs with
  | [x, .ty n] => ∃ (t : String) (b : Bool), TyX K H x (.type t) ∧ kitB t n = some b ∧ Q (.bl b) H
  | _ => False
theorem o_isi {K : PySem.W.Frag} (hK : X.K = K := by rfl) : CallR X (.builtin "isinstance") (rIsiU K) := by
  subst hK
  refine CallR.imp call_isi fun xs H Q h => ?_
  match xs, h with
  | [x, .ty n], ⟨t, b, h1, h2, q⟩ => exact ⟨x, .ty n, .type t, .type n, b, rfl, .ty n, h1, kit_ty h2, q⟩
def rTupU (K : PySem.W.Frag) : List V → Hp → VK → Prop := fun xs H Q => match xs with
  | [.ref p] => ∃ ys, (SqL K H p ys ∧ ∀ l, H l = none → Q (.ref l) (upd H l (.tup ys))) ∨ (SqT K H p ys ∧ Q (.ref p) H)
  | _ => False
theorem o_tuple {K : PySem.W.Frag} (hK : X.K = K := by rfl) : CallR X (.type "tuple") (rTupU K) := by
  subst hK
  refine CallR.imp call_tuple_of fun xs H Q h => ?_
  match xs, h with
  | [.ref p], ⟨ys, h⟩ => exact ⟨p, ys, rfl, h⟩
end
end SL
namespace SL
open PySem PySem.Spec PyProof.Rows L2
section
variable {K : PySem.W.Frag} {H H' : Hp}
theorem same_new {p : Addr} {o : HO} (h : H p = none) : Same H (upd H p o) := fun a u e => by
  rw [upd_ne (ne_of_none e h)]
  exact e
/-- an object that H does not know may change -/
theorem same_mut {p : Addr} {o : HO} (e : Same H H') (h : H p = none) : Same H (upd H' p o) := fun a u ha => by
  rw [upd_ne (ne_of_none ha h)]
  exact e a u ha
theorem same_rd {a : Addr} {u : HO} (e : Same H H') (h : Rd H a u) : Rd H' a u := by
  rcases h with h | ⟨o, h⟩
  · exact .inl (e a _ h)
  · exact .inr ⟨o, e a _ h⟩
theorem same_l {a : Addr} {xs : List V} (e : Same H H') (h : SqL K H a xs) : SqL K H' a xs := e.seq h
theorem same_t {a : Addr} {xs : List V} (e : Same H H') (h : SqT K H a xs) : SqT K H' a xs := by
  rcases h with h | h
  · exact .inl (same_rd e h)
  · exact .inr h
mutual
theorem dp_mono (e : Same H H') : ∀ (d : PyData) (v : V), Dp K H v d → Dp K H' v d
  | .none, _, .non => .non
  | .bool _, _, .bl b => .bl b
  | .int _, _, .int i => .int i
  | .str _, _, .str x => .str x
  | .list ds, _, .lst h a => .lst (same_l e h) (dpAll_mono e ds _ a)
  | .tuple ds, _, .tup h a => .tup (same_t e h) (dpAll_mono e ds _ a)
theorem dpAll_mono (e : Same H H') : ∀ (ds : List PyData) (vs : List V), DpAll K H vs ds → DpAll K H' vs ds
  | [], _, .nil => .nil
  | d :: ds, _, .cons h t => .cons (dp_mono e d _ h) (dpAll_mono e ds _ t)
end
end
section
variable {CX : CXT} {P : Program} {w : World} {K : PySem.W.Frag} {mg : Str → Option Value} {base : Heap} {N : List Str} {qual : Str} {scope : Scope} {f : Addr} {cd : Value} {A : Around} {outer : List Env} {s : Shared} {H : Hp} {E : XK}
theorem cxK : (cxOf CX P w K mg base N qual scope f cd A outer s H E).K = K := rfl
theorem cxW : (cxOf CX P w K mg base N qual scope f cd A outer s H E).w = w := rfl
theorem cxP : (cxOf CX P w K mg base N qual scope f cd A outer s H E).prog = P := rfl
end
section
variable {K : PySem.W.Frag} {H : Hp} {k : Bool} {n : Nat}
theorem truBl {b : Bool} : TruV K (.bl b) H k = (k = b) := rfl
theorem truInt {i : Int} : TruV K (.int i) H k = (k = (i != 0)) := rfl
theorem truNon : TruV K .non H k = (k = false) := rfl
theorem truStr {y : Str} : TruV K (.str y) H k = (y.length ≤ sizeLine ∧ k = ((y.length : Int) != 0)) := rfl
theorem lenStr {z : Str} {R : Nat → Prop} : (∃ n, LenV K (.str z) H n ∧ R n) = (z.length ≤ sizeLine ∧ R z.length) := by
  refine propext ⟨fun ⟨n, ⟨h1, h2⟩, h⟩ => ?_, fun ⟨h1, h⟩ => ⟨_, ⟨h1, rfl⟩, h⟩⟩
  subst h2
  exact ⟨h1, h⟩
end
theorem sameT {H : Hp} : Same H H = True := propext ⟨fun _ => trivial, fun _ => Same.refl H⟩
theorem ite_tt {A B : Prop} : (if true = true then A else B) = A := by simp
theorem ite_ff {A B : Prop} : (if false = true then A else B) = B := by simp
theorem le_sz {n : Nat} : (n ≤ sizeLine) = (n ≤ 16777216) := by rw [sizeLine_eq]
theorem lt_sz {n : Nat} : (n < sizeLine) = (n < 16777216) := by rw [sizeLine_eq]
/-- a value by what is wanted of it alone -/
def tMid (te : TE) : TE := fun σ H Q => ∃ Q' : VK, te σ H Q' ∧ ∀ v H1, Q' v H1 → Q v H1
theorem pe_mid {X : Cx} {e : Expr} {te : TE} (h : PE X e te) : PE X e (tMid te) := ⟨fun pins s σ H Q I ⟨_, h1, h2⟩ => thn (h.run pins s σ H _ I h1) fun _ _ ⟨v, H1, I1, r, q⟩ => ⟨v, H1, I1, r, h2 v H1 q⟩⟩
theorem q_mid {i : Nat} {te : TE} {u : TS} {D : Ends} {σ : L2.St} {H : Hp} (C : Int → Prop) (h : te σ H fun v H1 => H1 = H ∧ ∃ n, v = .int n ∧ C n) (k : ∀ n, C n → u D (σ.set i (some (.int n))) H) : tSeq (tAsg (tMid te) (gName i)) u D σ H :=
  ⟨_, h, fun v H1 ⟨e, n, ev, c⟩ => by rw [e, ev]; exact k n c⟩
end SL
namespace SL
open PySem PySem.Spec PyProof.Rows L2
/-- all but the lists stay -/
def NL (H H' : Hp) : Prop := ∀ a o, H a = some o → (∀ l, o ≠ .lst l) → H' a = some o
theorem NL.of {H H' : Hp} (e : Same H H') : NL H H' := fun a o h _ => e a o h
theorem NL.refl {H : Hp} : NL H H := fun _ _ h _ => h
theorem NL.trans {H H1 H2 : Hp} (a : NL H H1) (b : NL H1 H2) : NL H H2 := fun c o h n => b c o (a c o h n) n
theorem nl_upd {H : Hp} {D : Addr} {l : List V} {o : HO} (h : H D = some (.lst l)) : NL H (upd H D o) := fun a u e n => by
  have q : a ≠ D := fun z => by
    rw [z, h] at e
    exact n l (Option.some.inj e).symm
  rw [upd_ne q]
  exact e
/-! ### walked things, by what is wanted of them alone -/
def iMid (wi : TI) : TI := fun σ H R => ∃ R' : It → Hp → Prop, wi σ H R' ∧ ∀ J H1, R' J H1 → R J H1
theorem pi_mid {X : Cx} {tg it : Expr} {wi : TI} (h : PI X tg it wi) : PI X tg it (iMid wi) := ⟨fun pins s σ H R I ⟨_, h1, h2⟩ => thn (h.run pins s σ H _ I h1) fun _ s1 q => thn q fun _ _ ⟨it, fp, tn, J, H', e, I', T, st, f, r⟩ => ⟨it, fp, tn, J, H', e, I', T, st, f, h2 J H' r⟩⟩
def tMidT (tt : TT) : TT := fun σ H Q => ∃ Q' : Bool → Hp → Prop, tt σ H Q' ∧ ∀ b H1, Q' b H1 → Q b H1
theorem pt_mid {X : Cx} {e : Expr} {tt : TT} (h : PT X e tt) : PT X e (tMidT tt) := ⟨fun pins s σ H Q I ⟨_, h1, h2⟩ => thn (h.run pins s σ H _ I h1) fun _ _ ⟨H1, I1, q⟩ => ⟨H1, I1, h2 _ H1 q⟩⟩
section
variable {J0 : It} {n : Nat} {G : Hp → Prop} {Y : Nat → Hp → V → Hp → Prop} {wi : TI} {i : Nat} {tb : TS} {D : Ends} {σ : L2.St} {H H0 : Hp}
theorem for_mid (h : wi σ H fun J H1 => J = J0 ∧ H1 = H0) (w : Walk J0 n G Y) (Pv : Nat → L2.St → Hp → Prop) (h0 : Pv 0 σ H0) (hG : ∀ i σ H, i ≤ n → Pv i σ H → G H)
    (hs : ∀ k x σ H H', k < n → Pv k σ H → Y k H x H' → tb { D with nx := Pv (k + 1), ct := Pv (k + 1), bk := D.nx } (σ.set i (some x)) H') (hd : ∀ σ H, Pv n σ H → D.nx σ H) : tFor (iMid wi) (gName i) tb D σ H := by
  refine ⟨_, h, ?_⟩
  rintro J H1 ⟨rfl, rfl⟩
  exact for_it w Pv h0 hG (fun k x σ H H' hk p y => hs k x σ H H' hk p y) hd
theorem for_midg {g : TG} (h : wi σ H fun J H1 => J = J0 ∧ H1 = H0) (w : Walk J0 n G Y) (Pv : Nat → L2.St → Hp → Prop) (h0 : Pv 0 σ H0) (hG : ∀ i σ H, i ≤ n → Pv i σ H → G H)
    (hs : ∀ k x σ H H', k < n → Pv k σ H → Y k H x H' → g x σ H' fun σ2 H2 => tb { D with nx := Pv (k + 1), ct := Pv (k + 1), bk := D.nx } σ2 H2) (hd : ∀ σ H, Pv n σ H → D.nx σ H) : tFor (iMid wi) g tb D σ H := by
  refine ⟨_, h, ?_⟩
  rintro J H1 ⟨rfl, rfl⟩
  exact for_it w Pv h0 hG (fun k x σ H H' hk p y => hs k x σ H H' hk p y) hd
/-- a comprehension: C by the turn, what is made so far, the heap (all but lists stay) -/
theorem lc_midM {vs : List Nat} {te : TE} {Q : VK} (h : wi σ H fun J H1 => J = J0 ∧ H1 = H0) (w : Walk J0 n G Y) (hn : n < 16777216) (C : Nat → List V → Hp → Prop) (hC : ∀ k acc Ha Hb, NL Ha Hb → C k acc Ha → C k acc Hb) (h0 : C 0 [] H0)
    (hG : ∀ H', Same H0 H' → G H') (hY : ∀ k H x H', Y k H x H' → Same H H') (hw : ∀ x, wipe ((wipe σ vs).set i (some x)) vs = wipe σ vs)
    (turn : ∀ k x acc H' H'', k < n → Same H0 H' → C k acc H' → Y k H' x H'' → tMid te ((wipe σ vs).set i (some x)) H'' fun y H4 => Same H'' H4 ∧ C (k + 1) (acc ++ [y]) H4)
    (done : ∀ p acc H', H0 p = none → Same H0 H' → H' p = some (.lst acc) → acc.length = n → C n acc H' → Q (.ref p) H') : tLc (iMid wi) (gName i) tYes (tMid te) vs σ H Q := by
  refine ⟨_, h, ?_⟩
  rintro J H1 ⟨rfl, rfl⟩ p hp
  refine lc_it w (fun k H' => ∃ acc, Same H1 H' ∧ H' p = some (.lst acc) ∧ acc.length = k ∧ C k acc H') ⟨[], same_new hp, upd_same, rfl, hC _ _ _ _ (NL.of (same_new hp)) h0⟩ (fun k H' _ ⟨acc, s, _⟩ => hG H' s) ?_ fun H' ⟨acc, s, hD, hl, c⟩ => done p acc H' hp s hD hl c
  rintro k x H' H'' hk ⟨acc, s, hD, hl, c⟩ y
  have s2 := hY k H' x H'' y
  refine ⟨hw x, ?_⟩
  obtain ⟨R, h1, h2⟩ := turn k x acc H' H'' hk s c y
  refine ⟨R, h1, ?_⟩
  rintro v H4 hR
  obtain ⟨s3, c'⟩ := h2 v H4 hR
  have hD4 : H4 p = some (.lst acc) := s3 _ _ (s2 _ _ hD)
  refine ⟨acc, hD4, by rw [sizeLine_eq]; omega, acc ++ [v], same_mut ((s.trans s2).trans s3) hp, upd_same, by rw [List.length_append, hl]; rfl, hC _ _ _ _ (nl_upd hD4) c'⟩
/-- a comprehension: C by the turn, what is made so far, the heap (all but lists stay) -/
theorem lc_mid {vs : List Nat} {te : TE} {Q : VK} (h : wi σ H fun J H1 => J = J0 ∧ H1 = H0) (w : Walk J0 n G Y) (hn : n < 16777216) (C : Nat → List V → Hp → Prop) (hC : ∀ k acc Ha Hb, NL Ha Hb → C k acc Ha → C k acc Hb) (h0 : C 0 [] H0)
    (hG : ∀ H', Same H0 H' → G H') (hY : ∀ k H x H', Y k H x H' → Same H H') (hw : ∀ x, wipe ((wipe σ vs).set i (some x)) vs = wipe σ vs)
    (turn : ∀ k x acc H' H'', k < n → Same H0 H' → C k acc H' → Y k H' x H'' → te ((wipe σ vs).set i (some x)) H'' fun y H4 => Same H'' H4 ∧ C (k + 1) (acc ++ [y]) H4)
    (done : ∀ p acc H', H0 p = none → Same H0 H' → H' p = some (.lst acc) → acc.length = n → C n acc H' → Q (.ref p) H') : tLc (iMid wi) (gName i) tYes (tMid te) vs σ H Q :=
  lc_midM h w hn C hC h0 hG hY hw (fun k x acc H' H'' a b c d => ⟨_, turn k x acc H' H'' a b c d, fun _ _ q => q⟩) done
/-- with a test -/
theorem lc_midT {vs : List Nat} {te : TE} {tt : TT} {Q : VK} (h : wi σ H fun J H1 => J = J0 ∧ H1 = H0) (w : Walk J0 n G Y) (hn : n < 16777216) (C : Nat → List V → Hp → Prop) (hC : ∀ k acc Ha Hb, NL Ha Hb → C k acc Ha → C k acc Hb) (h0 : C 0 [] H0)
    (hG : ∀ H', Same H0 H' → G H') (hY : ∀ k H x H', Y k H x H' → Same H H') (hw : ∀ x, wipe ((wipe σ vs).set i (some x)) vs = wipe σ vs)
    (turn : ∀ k x acc H' H'', k < n → Same H0 H' → C k acc H' → Y k H' x H'' → tt ((wipe σ vs).set i (some x)) H'' fun b H3 => Same H'' H3 ∧ if b = true then te ((wipe σ vs).set i (some x)) H3 fun y H4 => Same H3 H4 ∧ C (k + 1) (acc ++ [y]) H4 else C (k + 1) acc H3)
    (done : ∀ p acc H', H0 p = none → Same H0 H' → H' p = some (.lst acc) → acc.length ≤ n → C n acc H' → Q (.ref p) H') : tLc (iMid wi) (gName i) (tMidT tt) (tMid te) vs σ H Q := by
  refine ⟨_, h, ?_⟩
  rintro J H1 ⟨rfl, rfl⟩ p hp
  refine lc_it w (fun k H' => ∃ acc, Same H1 H' ∧ H' p = some (.lst acc) ∧ acc.length ≤ k ∧ C k acc H') ⟨[], same_new hp, upd_same, Nat.le_refl _, hC _ _ _ _ (NL.of (same_new hp)) h0⟩ (fun k H' _ ⟨acc, s, _⟩ => hG H' s) ?_ fun H' ⟨acc, s, hD, hl, c⟩ => done p acc H' hp s hD hl c
  rintro k x H' H'' hk ⟨acc, s, hD, hl, c⟩ y
  have s2 := hY k H' x H'' y
  refine ⟨hw x, _, turn k x acc H' H'' hk s c y, ?_⟩
  rintro b H3 ⟨s3, z⟩
  have hD3 : H3 p = some (.lst acc) := s3 _ _ (s2 _ _ hD)
  cases b with
  | false =>
    have z' : C (k + 1) acc H3 := z
    exact ⟨acc, (s.trans s2).trans s3, hD3, by omega, z'⟩
  | true =>
    have z' : te ((wipe σ vs).set i (some x)) H3 fun y H4 => Same H3 H4 ∧ C (k + 1) (acc ++ [y]) H4 := z
    refine ⟨_, z', ?_⟩
    rintro v H4 ⟨s4, c'⟩
    have hD4 : H4 p = some (.lst acc) := s4 _ _ hD3
    refine ⟨acc, hD4, by rw [sizeLine_eq]; omega, acc ++ [v], same_mut (((s.trans s2).trans s3).trans s4) hp, upd_same, by rw [List.length_append]; show acc.length + 1 ≤ k + 1; omega, hC _ _ _ _ (nl_upd hD4) c'⟩
end
theorem y_at {xs : List V} {k : Nat} {H : Hp} {x : V} {H' : Hp} (y : YAt xs k H x H') : Same H H' := by
  rw [y.1]
  exact Same.refl H
theorem y_fn {f : Nat → V} {k : Nat} {H : Hp} {x : V} {H' : Hp} (y : YFn f k H x H') : Same H H' := by
  rw [y.1]
  exact Same.refl H
/-- an assignment by what is wanted of its value -/
theorem q_midG {i : Nat} {te : TE} {u : TS} {D : Ends} {σ : L2.St} {H : Hp} (C : V → Hp → Prop) (h : te σ H C) (k : ∀ v H1, C v H1 → u D (σ.set i (some v)) H1) : tSeq (tAsg (tMid te) (gName i)) u D σ H := ⟨C, h, k⟩
theorem mid_of {te : TE} {σ : L2.St} {H : Hp} {Q : VK} (C : VK) (h : te σ H C) (k : ∀ v H1, C v H1 → Q v H1) : tMid te σ H Q := ⟨C, h, k⟩
/-- an if by what is wanted of its test -/
theorem q_if {tt : TT} {a b u : TS} {D : Ends} {σ : L2.St} {H : Hp} (C : Bool → Hp → Prop) (h : tt σ H C) (t : ∀ H1, C true H1 → tSeq a u D σ H1) (f : ∀ H1, C false H1 → tSeq b u D σ H1) : tSeq (tIfS (tMidT tt) a b) u D σ H :=
  ⟨C, h, fun c H1 hc => by
    cases c with
    | true => exact t H1 hc
    | false => exact f H1 hc⟩
theorem l_if {tt : TT} {a b : TS} {D : Ends} {σ : L2.St} {H : Hp} (C : Bool → Hp → Prop) (h : tt σ H C) (t : ∀ H1, C true H1 → a D σ H1) (f : ∀ H1, C false H1 → b D σ H1) : tIfS (tMidT tt) a b D σ H :=
  ⟨C, h, fun c H1 hc => by
    cases c with
    | true => exact t H1 hc
    | false => exact f H1 hc⟩
/-- a comprehension over a text, each sign by itself -/
theorem lc_text {z : Str} {wi : TI} {i : Nat} {te : TE} {vs : List Nat} {σ : L2.St} {H H0 : Hp} {Q : VK} (f : Nat → V) (h : wi σ H fun J H1 => J = Its z ∧ H1 = H0) (hn : z.length < 16777216) (hw : ∀ x, wipe ((wipe σ vs).set i (some x)) vs = wipe σ vs)
    (turn : ∀ c H', c ∈ z.cps.toList → Same H0 H' → te ((wipe σ vs).set i (some (.str ⟨#[c]⟩))) H' fun y H4 => Same H' H4 ∧ y = f c)
    (done : ∀ p H', H0 p = none → Same H0 H' → H' p = some (.lst (z.cps.toList.map f)) → Q (.ref p) H') : tLc (iMid wi) (gName i) tYes (tMid te) vs σ H Q := by
  refine lc_midM h walk_str hn (fun k acc _ => acc = (z.cps.toList.take k).map f) (fun _ _ _ _ _ e => e) rfl (fun _ _ => trivial) (fun _ _ _ _ y => by rw [y.1]; exact Same.refl _) hw ?_ ?_
  · rintro k x acc H' H'' hk sm ha ⟨rfl, c, hc, rfl⟩
    have hc' : z.cps.toList[k]? = some c := by rw [Array.getElem?_toList]; exact hc
    have r := turn c H'' (List.mem_of_getElem? hc') sm
    refine ⟨_, r, ?_⟩
    rintro y H4 ⟨s4, rfl⟩
    refine ⟨s4, ?_⟩
    have e : z.cps.toList.take (k + 1) = z.cps.toList.take k ++ [c] := by
      rw [List.take_succ, hc']
      rfl
    rw [e, List.map_append, ha]
    rfl
  · intro p acc H' hp sm hD hl ha
    rw [List.take_of_length_le (by rw [Array.length_toList]; exact Nat.le_refl _)] at ha
    rw [ha] at hD
    exact done p H' hp sm hD
/-- a walk that is told -/
theorem for_open {wi : TI} {g : TG} {tb : TS} {D : Ends} {σ : L2.St} {H : Hp} (C : It → Hp → Prop) (h : wi σ H C) (k : ∀ J H1, C J H1 → tFor (iMid (fun _ _ R => R J H1)) g tb D σ H) : tFor (iMid wi) g tb D σ H := ⟨C, h, fun J H1 c => let ⟨_, r, k'⟩ := k J H1 c; k' J H1 r⟩
theorem lc_open {wi : TI} {g : TG} {tt : TT} {te : TE} {vs : List Nat} {σ : L2.St} {H : Hp} {Q : VK} (C : It → Hp → Prop) (h : wi σ H C) (k : ∀ J H1, C J H1 → tLc (iMid (fun _ _ R => R J H1)) g tt te vs σ H Q) : tLc (iMid wi) g tt te vs σ H Q := ⟨C, h, fun J H1 c => let ⟨_, r, k'⟩ := k J H1 c; k' J H1 r⟩
theorem q_val {i : Nat} {te : TE} {u : TS} {D : Ends} {σ : L2.St} {H : Hp} (h : te σ H fun v H1 => u D (σ.set i (some v)) H1) : tSeq (tAsg te (gName i)) u D σ H := h
end SL
/-! the text by places -/
namespace TX
open PySem PySem.Spec PyProof.Rows L2
def topS (i : Nat) : Stmt := PySem.Challenge.pw_shunlist_k93_changed.main.body.getD i (.Pass ⟨0, 0, 0, 0⟩)
abbrev s__wall : Stmt := (topS 0)
abbrev s_is_sign : Stmt := (topS 9)
abbrev s_Part_fits : Stmt := (inClass (topS 10) 0)
abbrev s_Part_many : Stmt := (inClass (topS 10) 1)
abbrev s_Part_told : Stmt := (inClass (topS 10) 2)
abbrev s_One___init__ : Stmt := (inClass (topS 12) 0)
abbrev s_One_fits : Stmt := (inClass (topS 12) 1)
abbrev s_One_told : Stmt := (inClass (topS 12) 2)
abbrev s_Among___init__ : Stmt := (inClass (topS 13) 0)
abbrev s_Among_fits : Stmt := (inClass (topS 13) 1)
abbrev s_Among_told : Stmt := (inClass (topS 13) 2)
abbrev s_Stars_many : Stmt := (inClass (topS 14) 0)
abbrev s_Stars_told : Stmt := (inClass (topS 14) 1)
abbrev s_spots_behind : Stmt := (topS 16)
abbrev s_Step_deep : Stmt := (inClass (topS 17) 0)
abbrev s_Step_fits_name : Stmt := (inClass (topS 17) 1)
abbrev s_Step_told : Stmt := (inClass (topS 17) 2)
abbrev s_Deep_deep : Stmt := (inClass (topS 18) 0)
abbrev s_Segment___init__ : Stmt := (inClass (topS 19) 0)
abbrev s_Segment_fits_name : Stmt := (inClass (topS 19) 1)
abbrev s_Segment_told : Stmt := (inClass (topS 19) 2)
abbrev s_Row___init__ : Stmt := (inClass (topS 20) 0)
abbrev s_Row_told : Stmt := (inClass (topS 20) 1)
abbrev s_names_of : Stmt := (topS 21)
abbrev s_folder_names : Stmt := (topS 23)
abbrev s_placed : Stmt := (topS 24)
abbrev s_gathered : Stmt := (topS 25)
abbrev s_with_deeps : Stmt := (topS 27)
abbrev s_fits : Stmt := (topS 28)
abbrev s_last_fit : Stmt := (topS 29)
abbrev s_told : Stmt := (topS 31)
abbrev s_paths_within : Stmt := (topS 33)
abbrev s_paths_of : Stmt := (topS 34)
abbrev s_copied : Stmt := (topS 36)
abbrev s_Keeper___init__ : Stmt := (inClass (topS 37) 0)
abbrev s_Keeper_shunned_leaves : Stmt := (inClass (topS 37) 1)
abbrev s_Keeper_compared : Stmt := (inClass (topS 37) 2)
abbrev s_Keeper_put : Stmt := (inClass (topS 37) 3)
abbrev s_Keeper_take : Stmt := (inClass (topS 37) 4)
abbrev s_Keeper_rule : Stmt := (inClass (topS 37) 5)
abbrev s_Keeper_tree : Stmt := (inClass (topS 37) 6)
abbrev s_Keeper_lists : Stmt := (inClass (topS 37) 7)
abbrev s_Keeper_count : Stmt := (inClass (topS 37) 8)
abbrev s_Keeper_is_shunned : Stmt := (inClass (topS 37) 9)
abbrev s_Keeper_changed : Stmt := (inClass (topS 37) 10)
abbrev s__law_cell : Stmt := (topS 39)
abbrev s__law_mixed : Stmt := (topS 40)
abbrev s__law_signs : Stmt := (topS 41)
abbrev s__law_part : Stmt := (topS 42)
abbrev s__law_segment : Stmt := (topS 43)
abbrev s__law_row : Stmt := (topS 44)
abbrev s__law_rows : Stmt := (topS 45)
abbrev s__law_part_made : Stmt := (topS 46)
abbrev s__law_row_made : Stmt := (topS 47)
abbrev s__law_long_row : Stmt := (topS 48)
abbrev s__law_with_long : Stmt := (topS 49)
abbrev s__law_filled : Stmt := (topS 50)
abbrev s__law_names : Stmt := (topS 51)
abbrev s__law_sign_fits : Stmt := (topS 52)
abbrev s__law_good_behind : Stmt := (topS 53)
abbrev s__law_name_fits : Stmt := (topS 54)
abbrev s__law_fits : Stmt := (topS 55)
abbrev s__law_free : Stmt := (topS 56)
abbrev s__law_put_in : Stmt := (topS 57)
abbrev s__law_paths : Stmt := (topS 58)
abbrev s__law_cut : Stmt := (topS 59)
abbrev s__law_ranked : Stmt := (topS 60)
abbrev s__law_decides : Stmt := (topS 61)
abbrev s__law_down_lists : Stmt := (topS 62)
abbrev s__law_leaves : Stmt := (topS 63)
abbrev s__law_news : Stmt := (topS 64)
abbrev s__law_gone : Stmt := (topS 65)
abbrev s__law_deed_names : Stmt := (topS 66)
abbrev s__law_refused : Stmt := (topS 67)
abbrev s__law_folders : Stmt := (topS 68)
abbrev s__law_none_refused : Stmt := (topS 69)
abbrev s__law_done : Stmt := (topS 70)
abbrev s_law : Stmt := (topS 71)
end TX
/-! ### sets of texts: made of a text or of a list of texts, counted, sorted -/
namespace SL
open PySem PySem.Spec PyProof.Rows L2
/-- the text of a set's entry -/
def txOf (e : Int × Value) : Str := match e.2 with
  | .str x _ => x
  | _ => Str.empty
def TxE (w : World) (e : Int × Value) : Prop := ∃ x tk, e.2 = Value.str x tk ∧ e.1 = hashStr w x
/-- the set at a holds just the texts l, each once, and can be walked -/
def TxSet (w : World) (h : Heap) (a : Addr) (l : List Str) : Prop :=
  ∃ o es ep t, h.get? a = some o ∧ o.ExactSet ∧ o.data = .set es ep t ∧ (∀ e ∈ es.toList, TxE w e) ∧ (es.toList.map txOf).Perm l ∧ l.Nodup ∧
    (es.size < scanBound ∧ t.fits es.size = true) ∧ (Ris t.place.toList ∧ (w.params.followText "set-order" = true ∨ t.led = true))
section
variable {P : Program} {w : World} {h h' : Heap} {a : Addr} {l : List Str}
theorem TxSet.at (R : TxSet w h a l) (k : ∀ o, h.get? a = some o → h'.get? a = some o) : TxSet w h' a l :=
  let ⟨o, es, ep, t, ho, r⟩ := R
  ⟨o, es, ep, t, k o ho, r⟩
theorem TxSet.perm {l' : List Str} (R : TxSet w h a l) (p : l.Perm l') : TxSet w h a l' :=
  let ⟨o, es, ep, t, ho, hx, hd, g, pm, nd, r⟩ := R
  ⟨o, es, ep, t, ho, hx, hd, g, pm.trans p, p.nodup_iff.mp nd, r⟩
theorem txE_elems {l : List (Int × Value)} (g : ∀ e ∈ l, TxE w e) : ElemsOf (strKind P w) l := by
  intro e he
  obtain ⟨x, tk, e1, e2⟩ := g e he
  refine ⟨⟨x, ?_, e2⟩, ?_⟩
  · rw [e1]
    show Value.isStrOf x (.str x tk) = true
    simp [Value.isStrOf]
  · rw [e1]
    rfl
theorem txE_is {e : Int × Value} (g : TxE w e) (x : Str) : (strKind P w).is x e.2 = true ↔ txOf e = x := by
  obtain ⟨y, tk, e1, _⟩ := g
  unfold txOf
  rw [e1]
  show Value.isStrOf x (.str y tk) = true ↔ y = x
  simp [Value.isStrOf]
theorem txE_mem {l : List (Int × Value)} (g : ∀ e ∈ l, TxE w e) (x : Str) : x ∈ l.map txOf ↔ ∃ e ∈ l, (strKind P w).is x e.2 = true := by
  rw [List.mem_map]
  exact ⟨fun ⟨e, he, q⟩ => ⟨e, he, (txE_is (g e he) x).2 q⟩, fun ⟨e, he, q⟩ => ⟨e, he, (txE_is (g e he) x).1 q⟩⟩
end
section
variable {P : Program} {w : World} {A : Around} {E : Value → Shared → Prop} {s : Shared} {a : Addr} {l : List Str}
theorem tx_tail {gv : Bool → Sem Unit} (hg : ∀ (b : Bool) (s₁ : Shared) (Q' : Unit → Shared → Prop), Q' () s₁ → wpAny (model P w) A (gv b) Q' E s₁)
    {o : Obj} {es : Array (Int × Value)} {ep : Nat} {t : SetTable} (ho : s.heap.get? a = some o) (hx : o.ExactSet) (hd : o.data = .set es ep t) {e1 : Array (Int × Value)} {t2 : SetTable} (g1 : ∀ e ∈ e1.toList, TxE w e)
    (p1 : (e1.toList.map txOf).Perm l) (nd : l.Nodup) (hb : e1.size < scanBound) (hf : t2.fits e1.size = true) (hr : Ris t2.place.toList) (hl : w.params.followText "set-order" = true ∨ t2.led = true) {dummy : Bool} {R : Option Bool → Shared → Prop}
    (hR : ∀ h', Heap.SameBut a s.heap h' → TxSet w h' a l → R (some true) { s with heap := h' }) :
    wpAny (model P w) A (do
        storeSet a e1 t2
        if (!dummy && t2.tooFull) = true then do
            gv (relayAll t2 e1 (SetTable.grown e1.size)).2.2
            storeSet a (relayAll t2 e1 (SetTable.grown e1.size)).1 (relayAll t2 e1 (SetTable.grown e1.size)).2.1
            pure (some true)
          else pure (some true)) R E s := by
  refine wpAny_bind (wpAny_storeSet_of ho hd ?_ (fits_of_scanBound hb))
  have o1 := store_at (es' := e1) (t' := t2) ho hd
  have b1 := Heap.SameBut.update s.heap a (Obj.putSet e1 t2)
  split
  · have pm := relayAll_perm t2 e1 (SetTable.grown e1.size)
    have f3 := relayAll_fits t2 e1 (SetTable.grown e1.size)
    have r3 := relayAll_ris t2 e1 (SetTable.grown e1.size)
    have l3 := relayAll_led t2 e1 (SetTable.grown e1.size)
    generalize relayAll t2 e1 (SetTable.grown e1.size) = Z at pm f3 r3 l3 ⊢
    obtain ⟨e2, t3, gave⟩ := Z
    dsimp only at pm f3 r3 l3 ⊢
    have sz : e2.size < scanBound := by
      have q := pm.length_eq
      rw [Array.length_toList, Array.length_toList] at q
      omega
    refine wpAny_bind (hg _ _ _ (wpAny_bind (wpAny_storeSet_of o1 rfl ?_ (fits_of_scanBound sz))))
    refine wpAny_pure (hR _ (b1.trans (Heap.SameBut.update _ a _)) ⟨_, e2, _, t3, store_at o1 rfl, hx, rfl, fun e he => g1 e (pm.mem_iff.mp he), (pm.map txOf).trans p1, nd, ⟨sz, f3⟩, r3, ?_⟩)
    rw [l3]
    exact hl
  · exact wpAny_pure (hR _ b1 ⟨_, e1, _, t2, o1, hx, rfl, g1, p1, nd, ⟨hb, hf⟩, hr, hl⟩)
/-- a text is added -/
theorem tx_add {x : Str} {tk : Tok} {Q : Bool → Shared → Prop} (R : TxSet w s.heap a l) (room : l.length + 1 < scanBound)
    (hQ : ∀ h', Heap.SameBut a s.heap h' → TxSet w h' a (if x ∈ l then l else x :: l) → Q (!decide (x ∈ l)) { s with heap := h' }) :
    wpAny (model P w) A (setAddHashed a (.str x tk) ((strKind P w).hash x)) Q E s := by
  obtain ⟨o, es, ep, t, ho, hx, hd, g, pm, nd, ⟨hb, hf⟩, hr, hl⟩ := R
  have key : (strKind P w).is x (.str x tk) = true := by
    show Value.isStrOf x (.str x tk) = true
    simp [Value.isStrOf]
  have sc : (Value.str x tk).scannable = true := rfl
  have el : ElemsOf (strKind P w) es.toList := txE_elems g
  unfold setAddHashed
  unfold setAddHashedIn
  refine wpAny_holding (wpAny_bind (wpAny_setState_of ho hd hf ?_))
  dsimp only
  rw [byScan_of sc hb el]
  simp only [if_true]
  unfold setAddByScan
  refine wpAny_bind (wpAny_bind (wpAny_rule (wpAny_bind (wpAny_setScan_of key ho hd hf el ?_))))
  cases fi : List.findIdx? (fun e => (strKind P w).is x e.2) es.toList with
  | some j =>
    dsimp only
    obtain ⟨hj, pj, _⟩ := List.findIdx?_eq_some_iff_getElem.mp fi
    have hm : x ∈ l := pm.mem_iff.mp ((txE_mem (P := P) g x).2 ⟨_, List.getElem_mem hj, pj⟩)
    have q := hQ s.heap (Heap.SameBut.refl a s.heap) (by
      rw [if_pos hm]
      exact ⟨o, es, ep, t, ho, hx, hd, g, pm, nd, ⟨hb, hf⟩, hr, hl⟩)
    rw [decide_eq_true hm] at q
    exact wpAny_pure (wpAny_pure q)
  | none =>
    dsimp only
    have hn : x ∉ l := fun z => by
      obtain ⟨e, he, q⟩ := (txE_mem (P := P) g x).1 (pm.mem_iff.mpr z)
      have c := List.findIdx?_eq_none_iff.mp fi e he
      rw [q] at c
      cases c
    have q0 : ∀ h', Heap.SameBut a s.heap h' → TxSet w h' a (x :: l) → Q true { s with heap := h' } := fun h' sb r => by
      have q := hQ h' sb (by rw [if_neg hn]; exact r)
      rw [decide_eq_false hn] at q
      exact q
    have tl : ∀ (b : Bool) {s₁ : Shared} {Q' : Unit → Shared → Prop}, Q' () s₁ → wpAny (model P w) A (match b with | true => rule "set.scan.the-table-gave-way" | false => pure ()) Q' E s₁ := by
      intro b s₁ Q' z
      cases b
      · exact wpAny_pure z
      · exact wpAny_rule z
    have p0 := layNew_perm t es ((strKind P w).hash x) (.str x tk)
    have f0 := layNew_fits t es ((strKind P w).hash x) (.str x tk)
    have r0 := layNew_ris t es ((strKind P w).hash x) (.str x tk) hr
    have l0 := layNew_led t es ((strKind P w).hash x) (.str x tk)
    generalize layNew t es ((strKind P w).hash x) (.str x tk) = Z at p0 f0 r0 l0 ⊢
    obtain ⟨e1, t1, dummy, gave⟩ := Z
    dsimp only at p0 f0 r0 l0 ⊢
    rw [Array.toList_push] at p0
    have pc : e1.toList.Perm (((strKind P w).hash x, Value.str x tk) :: es.toList) := p0.trans (List.perm_append_singleton _ _)
    have g1 : ∀ e ∈ e1.toList, TxE w e := by
      intro e he
      rcases List.mem_cons.mp (pc.mem_iff.mp he) with z | z
      · exact ⟨x, tk, by rw [z], by rw [z]; rfl⟩
      · exact g e z
    have pk : (e1.toList.map txOf).Perm (x :: l) := (pc.map txOf).trans (List.Perm.cons _ pm)
    have nd1 : (x :: l).Nodup := List.nodup_cons.mpr ⟨hn, nd⟩
    have sz : e1.size < scanBound := by
      have q := pk.length_eq
      rw [List.length_map, Array.length_toList, List.length_cons] at q
      omega
    have hl1 : w.params.followText "set-order" = true ∨ t1.led = true := by rw [l0]; exact hl
    refine wpAny_bind (tl _ ?_)
    split
    · refine wpAny_bind ?_
      rw [hashByValue_scannable 8 sc]
      refine wpAny_pure (tx_tail ?_ ho hx hd g1 pk nd1 sz ?_ ?_ ?_ fun h' sb r => ?_)
      · intro b s₁ Q' z
        exact tl b z
      · first | (split <;> first | exact f0 | exact SetTable.fits_plain_off f0) | exact f0
      · first | (split <;> exact r0) | exact r0
      · first | (split <;> exact hl1) | exact hl1
      · exact wpAny_pure (q0 h' sb r)
    · refine wpAny_bind (wpAny_pure ?_)
      simp only [if_true]
      exact tx_tail (fun b s₁ Q' z => tl b z) ho hx hd g1 pk nd1 sz f0 r0 hl1 fun h' sb r => wpAny_pure (q0 h' sb r)
/-- the distinct ones of texts -/
def dist (l : List Str) (x : Str) : List Str := if x ∈ l then l else x :: l
theorem dist_len (l : List Str) (x : Str) : (dist l x).length ≤ l.length + 1 := by
  unfold dist
  split <;> simp
theorem fold_len : ∀ (zs l : List Str), (zs.foldl dist l).length ≤ l.length + zs.length
  | [], l => by simp
  | x :: r, l => by
    have h1 := fold_len r (dist l x)
    have h2 := dist_len l x
    simp only [List.foldl_cons, List.length_cons]
    omega
theorem fold_mem : ∀ (zs l : List Str) (y : Str), y ∈ zs.foldl dist l ↔ y ∈ l ∨ y ∈ zs
  | [], l, y => by simp
  | x :: r, l, y => by
    rw [List.foldl_cons, fold_mem r (dist l x) y]
    unfold dist
    split
    · rename_i h
      constructor
      · rintro (h1 | h1)
        · exact .inl h1
        · exact .inr (List.mem_cons_of_mem _ h1)
      · rintro (h1 | h1)
        · exact .inl h1
        · rcases List.mem_cons.mp h1 with rfl | h1
          · exact .inl h
          · exact .inr h1
    · simp only [List.mem_cons]
      constructor
      · rintro ((h1 | h1) | h1) <;> simp [h1]
      · rintro (h1 | h1 | h1) <;> simp [h1]
theorem tx_loop {I : Addr} {fp wr : List Addr} {G : Array GenState → Array GenState → Prop} {n : Nat} {Pv : Nat → Value → Prop} {St : Nat → Shared → Prop} {R : Result → Shared → Prop}
    (W : WalksS P w A.in1 I fp wr G n Pv St) (S : Addr) (hSf : S ∉ fp) (zs : List Str) (hn : n = zs.length) (hb : zs.length + 1 < scanBound) (hv : ∀ i v, Pv i v → ∃ x t, zs[i]? = some x ∧ v = .str x t) :
    ∀ (k i : Nat) (s : Shared), n - i = k → i ≤ n → St i s → TxSet w s.heap S ((zs.take i).foldl dist []) →
      (∀ s', Moved (S :: wr) G s s' → TxSet w s'.heap S (zs.foldl dist []) → R (.ok (.ret .none)) s') → codeAny (model P w) A (.builtin "set.update.loop" ⟨[.ref S, .ref I], []⟩) R s := by
  have nw : S ∉ wr := fun z => hSf (W.sub _ z)
  have sub : ∀ b ∈ wr, b ∈ S :: wr := fun b z => List.mem_cons_of_mem _ z
  intro k
  induction k with
  | zero =>
    intro i s hk hi st hS hR
    refine codeAny_builtin PyProof.Rows.F.entry_set_update_loop ?_
    rw [Around.under_plainId PyProof.Rows.F.plain_set_update_loop]
    have hin : i = n := by omega
    subst hin
    show wpAny _ A.in1 (pyNext (.ref I) >>= fun _ => _) _ _ s
    refine wpAny_bind (W.done s _ _ st fun s' hm => wpAny_pure (hR s' (hm.mono sub) ?_))
    rw [List.take_of_length_le (by omega)] at hS
    exact hS.at fun o e => hm.heap S o nw e
  | succ k ih =>
    intro i s hk hi st hS hR
    have lt : i < n := by omega
    refine codeAny_builtin PyProof.Rows.F.entry_set_update_loop ?_
    rw [Around.under_plainId PyProof.Rows.F.plain_set_update_loop]
    show wpAny _ A.in1 (pyNext (.ref I) >>= fun _ => _) _ _ s
    refine wpAny_bind (W.item i s _ _ lt st fun v s' hP st' hm => ?_)
    obtain ⟨x, t, hz, rfl⟩ := hv i v hP
    have hS' : TxSet w s'.heap S ((zs.take i).foldl dist []) := hS.at fun o e => hm.heap S o nw e
    show wpAny _ A.in1 (holding [Value.str x t] (setAdd S (.str x t)) >>= fun _ => _) _ _ s'
    refine wpAny_bind (wpAny_holding ?_)
    unfold setAdd
    have hk2 : (strKind P w).is x (.str x t) = true := by
      show Value.isStrOf x (.str x t) = true
      simp [Value.isStrOf]
    refine wpAny_holding (wpAny_bind ((strKind P w).pyHash (k := x) hk2 ?_))
    have room : ((zs.take i).foldl dist []).length + 1 < scanBound := by
      have q := fold_len (zs.take i) []
      rw [List.length_take, List.length_nil] at q
      omega
    refine tx_add (s := { s' with toks := s'.toks + 1 }) hS' room fun h' sb r => ?_
    have r' : TxSet w h' S ((zs.take (i + 1)).foldl dist []) := by
      rw [List.take_add_one, hz, List.foldl_append]
      exact r
    refine wpAny_pure ⟨plainId_quiet PyProof.Rows.F.plain_set_update_loop _, ih (i + 1) _ (by omega) lt (W.frame _ s' _ _ st' (Nat.le_succ _) fun b z o e => ?_) r' fun s'' hm2 hS2 => ?_⟩
    · rw [sb.2 b fun q => hSf (q ▸ z)]
      exact e
    · refine hR s'' (Moved.trans W.gtrans ((hm.mono sub).then_heap (Nat.le_succ _) fun b o z e => ?_) hm2) hS2
      rw [sb.2 b fun q => z (by rw [q]; exact List.mem_cons_self)]
      exact e
end
end SL
namespace SL
open PySem PySem.Spec PyProof.Rows L2
/-- a value that gives the texts zs when it is walked: a text by its signs, a list of texts -/
structure Src (P : Program) (w : World) (h : Heap) (v : Value) (T : String) (zs : List Str) : Prop where
  ty : ∀ (s : Shared), (∀ b o, h.get? b = some o → s.heap.get? b = some o) → s.TypeIs v T
  s1 : isSubtype (.type T) (.type "set") = pure false
  s2 : isSubtype (.type T) (.type "frozenset") = pure false
  nd : (Value.type T == Value.type "dict") = false
  it : ∀ (A : Around) (Q : Value → Shared → Prop) (E : Value → Shared → Prop) (s : Shared), (∀ b o, h.get? b = some o → s.heap.get? b = some o) → h.objs.size ≤ s.heap.objs.size → A.handled = none →
    (∀ (o : Obj) (fp : List Addr) (St : Nat → Heap → Prop) (Pv : Nat → Value → Prop), (∀ A' : Around, A'.handled = none → Walks P w A' s.heap.objs.size fp [s.heap.objs.size] zs.length Pv St) → St 0 (s.heap.push o) →
      (∀ b ∈ fp, b = s.heap.objs.size ∨ b < h.objs.size) → (∀ i u, Pv i u → ∃ x t, zs[i]? = some x ∧ u = .str x t) → Q (.ref s.heap.objs.size) { s with heap := s.heap.push o }) → wpAny (model P w) A (pyIter v) Q E s
section
variable {P : Program} {w : World} {A : Around} {E : Value → Shared → Prop} {s : Shared}
theorem src_text {h : Heap} (x : Str) (t : Tok) : Src P w h (.str x t) "str" (x.cps.toList.map fun c => ⟨#[c]⟩) where
  ty := fun s _ => rfl
  s1 := PySem.F.sub_str_set
  s2 := PySem.F.sub_str_frozenset
  nd := by decide
  it := fun A Q E s _ _ _ k => by
    refine wpAny_pyIter_str fun o St W st => ?_
    have e : (x.cps.toList.map fun c => (⟨#[c]⟩ : Str)).length = x.cps.size := by rw [List.length_map, Array.length_toList]
    refine k o [s.heap.objs.size] St (SignAt x) (fun A' hA => by rw [e]; exact W A' hA) st (fun b hb => .inl (List.mem_singleton.mp hb)) fun i u hu => ?_
    obtain ⟨c, t', hc, rfl⟩ : ∃ c t', x.cps[i]? = some c ∧ u = .str ⟨#[c]⟩ t' := by
      first
        | exact hu
        | (obtain ⟨c, hc, t', e'⟩ := hu; exact ⟨c, t', hc, e'⟩)
    refine ⟨_, t', ?_, rfl⟩
    rw [List.getElem?_map, Array.getElem?_toList, hc]
    rfl
theorem src_list {h : Heap} {l : Addr} {items : Array Value} {zs : List Str} (hl : h.IsList l items) (hi : PyProof.Rows.StrsAre items.toList zs) : Src P w h (.ref l) "list" zs := by
  obtain ⟨ol, hol, hcl, nl, hdl⟩ := id hl
  have hz : items.size = zs.length := by
    have q := PyProof.Rows.StrsAre.length hi
    rw [Array.length_toList] at q
    exact q
  refine ⟨fun s k => ⟨ol, k _ _ hol, hcl⟩, PySem.F.sub_list_set, PySem.F.sub_list_frozenset, by decide, fun A Q E s k le hh c => ?_⟩
  have hl' : s.heap.IsList l items := ⟨ol, k _ _ hol, hcl, nl, hdl⟩
  have lt : l < h.objs.size := Heap.lt_size hol
  have ne : l ≠ s.heap.objs.size := Nat.ne_of_lt (Nat.lt_of_lt_of_le lt le)
  refine wpAny_pyIter_list hl' (c _ [s.heap.objs.size, l] _ (fun i v => items[i]? = some v) (fun A' hA => by rw [← hz]; exact Walks.list hA _ l ne items) (show Heap.IsListIter _ _ _ _ ∧ Heap.IsList _ _ _ from ⟨⟨_, Heap.get?_push_size _ rfl, rfl, rfl⟩, hl'.push _⟩) (fun b hb => ?_) fun i u hu => ?_)
  · rcases List.mem_cons.mp hb with e | e
    · exact .inl e
    · exact .inr (by rw [List.mem_singleton.mp e]; exact lt)
  · have hi2 : i < zs.length := by rw [← hz]; exact (Array.getElem?_eq_some_iff.mp hu).1
    obtain ⟨t, e⟩ := SS.strs_at hi i u (by rw [Array.getElem?_toList]; exact hu)
    refine ⟨zs[i], t, List.getElem?_eq_getElem hi2, ?_⟩
    rw [e, List.getD_eq_getElem?_getD, List.getElem?_eq_getElem hi2]
    rfl
/-- an empty set object, as set() lays it -/
def set0 (w : World) : Obj := { cls := .type "set", dict := none, data := .set #[] 0 (.fresh 0 0 (!w.params.followText "set-order")) }
theorem tx_empty {h : Heap} {a : Addr} (ho : h.get? a = some (set0 w)) : TxSet w h a [] := by
  refine ⟨_, #[], 0, _, ho, ⟨rfl, rfl, rfl⟩, rfl, fun e he => (nomatch he), by simp, by simp, ⟨by decide, rfl⟩, List.Pairwise.nil, ?_⟩
  show _ ∨ (!w.params.followText "set-order") = true
  cases w.params.followText "set-order"
  · exact .inr rfl
  · exact .inl rfl
set_option maxHeartbeats 8000000 in
theorem call_set_tx {v : Value} {T : String} {zs : List Str} {Q : Value → Shared → Prop} (hh : A.handled = none) (Z : Src P w s.heap v T zs) (hb : zs.length + 1 < scanBound)
    (k : ∀ (h' : Heap) (tk : Nat), TxSet w h' s.heap.objs.size (zs.foldl dist []) → (∀ b o, s.heap.get? b = some o → h'.get? b = some o) → Q (.ref s.heap.objs.size) { s with heap := h', toks := tk }) :
    wpAny (model P w) A (call (.type "set") [v]) Q E s := by
  obtain ⟨c, tl, hmro⟩ := PySem.F.called_set.mro
  have hmade := PySem.F.called_set.made
  have hsub := PySem.F.called_set.sub
  refine wpAny_call (codeAny_of_tree ?_)
  show wpAny _ _ (callAny (.type "set") _) _ _ _
  refine wpAny_pure ⟨Code.quiet_builtin _ (by decide +kernel), codeAny_builtin PySem.F.entry_type_call ?_⟩
  rw [Around.under_plain (weight_type_call_type "set" [v] []) rfl]
  have h1 := PySem.F.called_set.notType
  have h2 := PySem.F.called_set.canCreate
  have hct := PySem.F.typeCall_set_1 v
  repeat (any_goals (first | assumption | wp_step))
  refine codeAny_mono (code_set_led1 v (E := E) (Q₁ := fun obj s₁ => obj = .ref s.heap.objs.size ∧ s₁ = { s with heap := s.heap.push (set0 w) }) ⟨rfl, rfl⟩) fun r s₁ hr => ?_
  cases r with
  | error e => exact hr
  | ok fl =>
    cases fl with
    | ret obj =>
      obtain ⟨rfl, rfl⟩ := hr
      have hS : (s.heap.push (set0 w)).get? s.heap.objs.size = some (set0 w) := Heap.get?_push_size _ rfl
      have hT : Shared.TypeIs { s with heap := s.heap.push (set0 w) } (.ref s.heap.objs.size) "set" := ⟨_, hS, rfl⟩
      have hli := PySem.F.called_set.init.lookup
      have hbi := PySem.F.called_set.init.bind (.ref s.heap.objs.size)
      repeat (any_goals (first | assumption | wp_step))
      refine codeAny_mono (codeAny_call_builtin (R := wants (fun r s₂ => r = .none ∧ ∃ h' tk, s₂ = { s with heap := h', toks := tk } ∧ TxSet w h' s.heap.objs.size (zs.foldl dist []) ∧
          (∀ b o, s.heap.get? b = some o → h'.get? b = some o)) E) PySem.F.called_set.init.plain PySem.F.entry_set_init (check_set_init_1 hT ?_)) fun r₂ s₂ hr₂ => ?_
      · have kp : ∀ b o, s.heap.get? b = some o → (s.heap.push (set0 w)).get? b = some o := fun b o e => Heap.get?_push_of_some _ e
        have tv := Z.ty { s with heap := s.heap.push (set0 w) } kp
        have z1 := Z.s1
        have z2 := Z.s2
        have z3 := Z.nd
        unfold Builtin.«set.__init__» noKeywords
        unfold Builtin.Frozenset.updateFrom
        generalize hPI : pyIter = PI
        wp_walk
        subst hPI
        have hh2 : A.in1.in1.handled = none := by simp [hh]
        have hh3 : A.in1.in1.in1.handled = none := by simp [hh]
        have sz : (s.heap.push (set0 w)).objs.size = s.heap.objs.size + 1 := Heap.size_push ..
        refine Z.it _ _ _ _ kp (by rw [sz]; exact Nat.le_succ _) hh2 fun o fp St Pv W st hf hv => ?_
        have nS : s.heap.objs.size ∉ fp := fun z => by
          rcases hf _ z with e | e
          · rw [sz] at e
            exact absurd e (Nat.ne_of_lt (Nat.lt_succ_self _))
          · exact absurd e (Nat.lt_irrefl _)
        refine wpAny_bind (wpAny_runValue (tx_loop ((W _ hh3).toS) s.heap.objs.size nS zs rfl hb hv (zs.length - 0) 0 _ (by omega) (Nat.zero_le _) st ?_ fun s' hm hS' => ?_))
        · exact tx_empty (Heap.get?_push_of_some _ hS)
        · obtain ⟨h', g2, d', tk', os'⟩ := s'
          obtain rfl : g2 = s.gens := hm.gens
          obtain rfl : d' = s.drawn := hm.drawn
          obtain rfl : os' = s.os := hm.os
          refine wpAny_pure (wpAny_pure ⟨rfl, h', tk', rfl, hS', fun b u e => hm.heap b u (fun z => ?_) (Heap.get?_push_of_some _ (kp b u e))⟩)
          have lt := Heap.lt_size e
          rcases List.mem_cons.mp z with e2 | e2
          · exact absurd lt (by rw [e2]; exact Nat.lt_irrefl _)
          · rw [List.mem_singleton.mp e2] at lt
            rw [sz] at lt
            exact absurd lt (Nat.not_lt.mpr (Nat.le_succ _))
      · cases r₂ with
        | error e => exact hr₂
        | ok fl₂ =>
          cases fl₂ with
          | ret r =>
            obtain ⟨rfl, h', tk, rfl, hS', hk'⟩ := hr₂
            repeat (any_goals (first | assumption | wp_step))
            exact k _ _ hS' hk'
          | _ => exact hr₂.elim
    | _ => exact hr.elim
end
end SL
namespace SL
open PySem PySem.Spec PyProof.Rows L2
theorem fold_nd : ∀ (zs l : List Str), l.Nodup → (zs.foldl dist l).Nodup
  | [], l, h => h
  | x :: r, l, h => by
    refine fold_nd r _ ?_
    unfold dist
    split
    · exact h
    · rename_i n
      exact List.nodup_cons.mpr ⟨n, h⟩
/-- the set of texts at a -/
def SetS (w : World) (a : Addr) (l : List Str) : HO := .ext fun h => TxSet w h a l
def chars (z : Str) : List Str := z.cps.toList.map fun c => ⟨#[c]⟩
section
variable {X : Cx}
theorem setS_new {w : World} {P : Program} {H : Hp} {h : Heap} {a : Addr} {l : List Str} (R : TxSet w h a l) : ObjOk P w H h a (SetS w a l) := by
  have ⟨o, _, _, _, ho, _⟩ := R
  exact ⟨R, ⟨o, ho⟩, fun h1 h2 p k => TxSet.at p k⟩
theorem setS_get {pins : List (Addr × Obj)} {σ : L2.St} {H : Hp} {s : Shared} {a : Addr} {l : List Str} (I : Inv X pins σ H s) (ha : H a = some (SetS X.w a l)) : TxSet X.w s.heap a l := (I.hok a _ ha).1
/-- what set(x) gives, x with the texts zs -/
def NewSet (w : World) (zs : List Str) (H : Hp) (Q : VK) : Prop := zs.length < 1000 ∧ ∀ a l, H a = none → l.Nodup → (∀ x, x ∈ l ↔ x ∈ zs) → Q (.ref a) (upd H a (SetS w a l))
def rSetU (K : PySem.W.Frag) (w : World) : List V → Hp → VK → Prop := fun xs H Q => match xs with
  | [.str z] => NewSet w (chars z) H Q
  | [.ref p] => ∃ zs : List Str, SqL K H p (zs.map V.str) ∧ NewSet w zs H Q
  | _ => False
theorem new_set {pins : List (Addr × Obj)} {σ : L2.St} {H : Hp} {s : Shared} {Q : VK} {v : Value} {T : String} {zs : List Str} (hc : X.calm = true) (I : Inv X pins σ H s) (Z : Src X.prog X.w s.heap v T zs) (q : NewSet X.w zs H Q) :
    wpAny (model X.prog X.w) X.A (call (.type "set") [v]) (EP X pins σ Q) X.xe s := by
  have sb : zs.length + 1 < scanBound := Nat.lt_of_lt_of_le (Nat.succ_lt_succ q.1) (by decide)
  refine call_set_tx (I.ok.hd hc) Z sb fun h' tk R k => ?_
  have fr := I.hok.fresh (Nat.le_refl s.heap.objs.size)
  exact ⟨.ref s.heap.objs.size, _, I.laid (t' := tk) k (Nat.le_refl _) (setS_new R), rfl, q.2 _ _ fr (fold_nd zs [] .nil) fun x => by rw [fold_mem]; simp⟩
theorem o_set {K : PySem.W.Frag} {w : World} (hc : X.calm = true) (hK : X.K = K := by rfl) (hw : X.w = w := by rfl) : CallR X (.type "set") (rSetU K w) := by
  subst hK
  subst hw
  intro pins s σ H xs us Q I r h
  match xs, h with
  | [.str z], q =>
    obtain ⟨u, rfl, t, rfl⟩ := vals1 r
    exact new_set hc I (src_text z t) q
  | [.ref p], ⟨zs, hs, q⟩ =>
    obtain ⟨u, rfl, hu⟩ := vals1 r
    obtain rfl : u = Value.ref p := hu
    obtain ⟨its, rv, pl, _⟩ := I.list hs
    exact new_set hc I (src_list pl.isList (by simpa using strsAre_of rv)) q
/-- len of a set of texts -/
def rLenS (w : World) : List V → Hp → VK → Prop := fun xs H Q => match xs with
  | [.ref p] => ∃ l, H p = some (SetS w p l) ∧ Q (.int (l.length : Int)) H
  | _ => False
theorem len_setS {w : World} (hw : X.w = w := by rfl) : CallR X (.builtin "len") (rLenS w) := by
  subst hw
  intro pins s σ H xs us Q I r h
  match xs, h with
  | [.ref p], ⟨l, hp, q⟩ =>
    obtain ⟨u, rfl, hu⟩ := vals1 r
    obtain rfl : u = Value.ref p := hu
    obtain ⟨o, es, ep, t, ho, hx, hd, g, pm, nd, ⟨hb, hf⟩, _⟩ := setS_get I hp
    have hn : es.size = l.length := by
      have e := pm.length_eq
      rw [List.length_map, Array.length_toList] at e
      exact e
    refine call_len_set ho hx hd hf ?_ ?_
    · have e : scanBound < 2 ^ 63 := by decide
      omega
    · rw [hn]
      exact ⟨.int l.length, H, I.tok _, ⟨_, rfl⟩, q⟩
/-! ### sorted -/
theorem un_laid {fs ex : List Addr} {H : Hp} {h h' : Heap} {a : Addr} {o : HO} (k : ∀ b u, h.get? b = some u → h'.get? b = some u) (na : ∀ b u, h.get? b = some u → b ≠ a) (hn : H a = none) : Un fs ex H (upd H a o) h h' :=
  ⟨fun b u q _ _ _ => k b u q, fun b u q _ _ _ => ⟨u.slots, k b u q⟩, fun b u q n _ => by rw [upd_ne (na b u q)]; exact n, fun b u q _ => ⟨u, k b u q⟩, fun b xs q => by rw [upd_ne (ne_of_none q hn)]; exact q,
    fun b u xs q => by rw [upd_ne (ne_of_none q hn)]; exact q, fun b ps q => ⟨#[], by rw [upd_ne (ne_of_none q hn), q]; simp⟩⟩
theorem hok_laid {P : Program} {w : World} {H : Hp} {h h' : Heap} {a : Addr} {o : HO} (x : HOk P w H h) (k : ∀ b u, h.get? b = some u → h'.get? b = some u) (hn : H a = none) (new : ObjOk P w (upd H a o) h' a o) : HOk P w (upd H a o) h' := fun b u e => by
  by_cases hb : b = a
  · subst hb
    rw [upd_same] at e
    cases e
    exact new
  · rw [upd_ne hb] at e
    exact (x b u e).stay (fun c v _ q => k c v q) (fun c q => by rw [upd_ne (ne_of_none q hn)]; exact q) fun c xs q => by rw [upd_ne (ne_of_none q hn)]; exact q
theorem sorted_of {P : Program} {w : World} {A : Around} {E : Value → Shared → Prop} {s : Shared} {v : Value} {zs : List Str} {Q : Value → Shared → Prop} (h64 : zs.length < 64)
    (col : ∀ (A : Around) (Q' : List Value → Shared → Prop), A.handled = none → (∀ s' vs zs', (∀ b o, s.heap.get? b = some o → s'.heap.get? b = some o) → s'.gens = s.gens → s'.os = s.os → PyProof.Rows.StrsAre vs zs' → zs'.Perm zs → Q' vs s') → wpAny (model P w) A (collect v) Q' E s)
    (hh : A.handled = none)
    (hQ : ∀ s' p (out : Array Value) (c : Nat) (ys : List Str), (∀ b o, s.heap.get? b = some o → s'.heap.get? b = some o) → s'.gens = s.gens → s'.os = s.os → (∀ b o, s.heap.get? b = some o → b ≠ p) → s'.heap.get? p = some (seqObj "list" out c) → PyProof.Rows.StrsAre out.toList ys → ys.Perm zs → sortedS ys = true → Q (.ref p) s') :
    wpAny (model P w) A (call (.builtin "sorted") [v]) Q E s := by
  refine Calls.call_function_entry kind_sorted plain_sorted entry_sorted (args_sorted1 _) ?_
  unfold Builtin.«sorted»
  refine wpAny_bind (m := checkCount "sorted" 1 1 _) (wpAny_pure (wpAny_bind (col A.in1 _ (by simp [hh]) fun s1 vs zs' k1 g1 o1 hs pm => ?_)))
  have hl : vs.length = zs.length := by rw [PyProof.Rows.StrsAre.length hs, pm.length_eq]
  refine wpAny_bind (wpAny_newList ?_ (by rw [hl, sizeLine_eq]; omega))
  have oL : (s1.heap.push (seqObj "list" vs.toArray 0)).get? s1.heap.objs.size = some (seqObj "list" vs.toArray 0) := Heap.get?_push_size _ rfl
  refine wpAny_bind (wpAny_holding (wpAny_call_entry slot_list_sort ⟨_, oL, rfl⟩ entry_list_sort (list_sort_treeK strKind_oneLt oL hs.keysOf (fun v₁ v₂ rest e => keyKind_strs (by rw [← e]; exact hs)) (by rw [hl]; exact h64) fun st' a1 a2 => ⟨_, rfl, ?_⟩) (args_list_sort _)))
  obtain ⟨ys, b1, b2, b3⟩ := sorted_out_str hs a1 a2
  obtain ⟨c, hc⟩ := sortedHeap_at (vs := vs) (out := (arrOf st').map (·.2)) oL
  refine wpAny_pure ⟨_, rfl, hQ _ s1.heap.objs.size _ c ys (fun b u e => ?_) g1 o1 (fun b u e => Nat.ne_of_lt (Heap.lt_size (k1 b u e))) hc b1 (b2.trans pm) b3⟩
  have q := k1 b u e
  have lt := Heap.lt_size q
  show (sortedHeap (s1.heap.push (seqObj "list" vs.toArray 0)) s1.heap.objs.size vs ((arrOf st').map (·.2))).get? b = some u
  rw [sortedHeap_old (Nat.ne_of_lt lt) (by rw [size_push']; exact Nat.lt_succ_of_lt lt)]
  exact Heap.get?_push_of_some _ q
theorem items_strs {z : Str} {acc : Array Value} (h : ItemsOf (SignAt z) acc z.cps.size) : PyProof.Rows.StrsAre acc.toList (chars z) := by
  have key : ∀ (l : List Value) (cs : List Nat), l.length = cs.length → (∀ (j : Nat) (v : Value), l[j]? = some v → ∃ (c : Nat) (u : Tok), cs[j]? = some c ∧ v = Value.str ⟨#[c]⟩ u) → PyProof.Rows.StrsAre l (cs.map fun c => ⟨#[c]⟩) := by
    intro l
    induction l with
    | nil =>
      intro cs hl _
      cases cs with
      | nil => exact .nil
      | cons c r => simp at hl
    | cons v r ih =>
      intro cs hl hv
      cases cs with
      | nil => simp at hl
      | cons c cs =>
        obtain ⟨c', u, e1, rfl⟩ := hv 0 v rfl
        have e2 : c = c' := by simpa using e1
        subst e2
        exact .cons _ u (ih cs (by simpa using hl) fun j v hj => by simpa using hv (j + 1) v (by simpa using hj))
  refine key acc.toList z.cps.toList (by rw [Array.length_toList, Array.length_toList]; exact h.1) fun j v hj => ?_
  obtain ⟨c, u, e1, e2⟩ := h.2 j v (by rw [← Array.getElem?_toList]; exact hj)
  exact ⟨c, u, by rw [Array.getElem?_toList]; exact e1, e2⟩
/-- what sorted(x) gives, x with the texts zs -/
def NewSorted (zs : List Str) (H : Hp) (Q : VK) : Prop := zs.length < 64 ∧ ∀ ys p, ys.Perm zs → sortedS ys = true → H p = none → Q (.ref p) (upd H p (.lst (ys.map V.str)))
theorem new_sorted {pins : List (Addr × Obj)} {σ : L2.St} {H : Hp} {s : Shared} {Q : VK} {v : Value} {zs : List Str} (hc : X.calm = true) (I : Inv X pins σ H s) (q : NewSorted zs H Q)
    (col : ∀ (A : Around) (Q' : List Value → Shared → Prop), A.handled = none → (∀ s' vs zs', (∀ b o, s.heap.get? b = some o → s'.heap.get? b = some o) → s'.gens = s.gens → s'.os = s.os → PyProof.Rows.StrsAre vs zs' → zs'.Perm zs → Q' vs s') → wpAny (model X.prog X.w) A (collect v) Q' X.xe s) :
    wpAny (model X.prog X.w) X.A (call (.builtin "sorted") [v]) (EP X pins σ Q) X.xe s := by
  refine sorted_of q.1 col (I.ok.hd hc) fun s' p out c ys k g o hp hg hi pm so => ?_
  have fr : H p = none := by
    cases e : H p with
    | none => rfl
    | some u =>
      obtain ⟨ob, hob⟩ := objOk_get (I.hok p u e)
      exact absurd rfl (hp p ob hob)
  have hlen : (ys.map V.str).length ≤ sizeLine := by
    have h1 := q.1
    rw [List.length_map, pm.length_eq, sizeLine_eq]
    omega
  have J : Inv X pins σ (upd H p (.lst (ys.map V.str))) { s with heap := s'.heap, gens := s'.gens, drawn := s'.drawn, toks := s'.toks } :=
    I.call (ch := []) (un_laid k hp fr) (hok_laid I.hok k fr ⟨hlen, out.toList, c, vals_of_strs hi, hg⟩) (by rw [g]; exact I.bare) fun _ z => nomatch z
  obtain ⟨h2, g2, d2, t2, o2⟩ := s'
  obtain rfl : o2 = s.os := o
  exact ⟨.ref p, _, J, rfl, q.2 ys p pm so fr⟩
def rSortedU (K : PySem.W.Frag) (w : World) : List V → Hp → VK → Prop := fun xs H Q => match xs with
  | [.str z] => NewSorted (chars z) H Q
  | [.ref p] => (∃ l, H p = some (SetS w p l) ∧ NewSorted l H Q) ∨ (rSortedS K [.ref p] H Q ∨ rSortedI K [.ref p] H Q)
  | _ => False
theorem o_sorted {K : PySem.W.Frag} {w : World} (hc : X.calm = true) (hK : X.K = K := by rfl) (hw : X.w = w := by rfl) : CallR X (.builtin "sorted") (rSortedU K w) := by
  subst hK
  subst hw
  intro pins s σ H xs us Q I r h
  match xs, h with
  | [.str z], q =>
    obtain ⟨u, rfl, t, rfl⟩ := vals1 r
    have h64 : z.cps.size < 64 := by
      have e := q.1
      unfold chars at e
      rw [List.length_map, Array.length_toList] at e
      exact e
    refine new_sorted hc I q fun A Q' hA k => wpAny_collect_str hA z t (fun s' acc kp g d o it => k s' acc.toList (chars z) kp g o (items_strs it) (.refl _)) (by rw [sizeLine_eq]; omega)
  | [.ref p], .inl ⟨l, hp, q⟩ =>
    obtain ⟨u, rfl, hu⟩ := vals1 r
    obtain rfl : u = Value.ref p := hu
    obtain ⟨o, es, ep, t, ho, hx, hd, g, pm, nd, ⟨hb, hf⟩, hr, hl⟩ := setS_get I hp
    refine new_sorted hc I q fun A Q' hA k => collect_set hA ⟨o, ho, hx.1, hd⟩ hf hb hr hl fun s1 vs k1 _ g1 o1 p1 => ?_
    have key : ∀ (us : List Value), (∀ v ∈ us, ∃ x t, v = Value.str x t) → PyProof.Rows.StrsAre us (us.map fun v => txOf (0, v)) := by
      intro us
      induction us with
      | nil => exact fun _ => .nil
      | cons v r ih =>
        intro hv
        obtain ⟨x, t, rfl⟩ := hv v List.mem_cons_self
        exact .cons x t (ih fun u hu => hv u (List.mem_cons_of_mem _ hu))
    refine k s1 vs (vs.map fun v => txOf (0, v)) k1 g1 o1 (key vs fun v hv => ?_) ?_
    · obtain ⟨e, he, rfl⟩ := List.mem_map.mp (p1.mem_iff.mp hv)
      obtain ⟨x, tk, e1, _⟩ := g e he
      exact ⟨x, tk, e1⟩
    · have p2 := p1.map fun v => txOf (0, v)
      rw [List.map_map] at p2
      exact p2.trans pm
  | [.ref p], .inr h => exact (cr_sortedS.or cr_sortedI) pins s σ H [.ref p] us Q I r h
end
end SL
namespace SL
open PySem PySem.Spec PyProof.Rows L2 SX HT
section
variable {prog : Program} {w : World} {A : Around} {E : Value → Shared → Prop} {s : Shared}
theorem adjust_rev (n : Nat) : Builtin.Slice.sliceAdjust none none (-1) (n : Int) = ((n : Int) - 1, -1) := by
  unfold Builtin.Slice.sliceAdjust
  rfl
theorem places_rev (n : Nat) : Builtin.Slice.slicePlaces ((n : Int) - 1) (-1) (-1) = n := by
  unfold Builtin.Slice.slicePlaces
  have h1 : ¬ ((-1 : Int) > 0) := by decide
  simp only [h1, if_false]
  split
  · have e : (- (-1 : Int)) = 1 := by decide
    simp only [e, Int.ediv_one]
    omega
  · omega
theorem sliceApplied_rev {sl : Addr} {vl vu vs : Value} {n : Nat} {Q : Int × Int × Nat → Shared → Prop} (hs : s.heap.IsSliceOf sl vl vu vs) (pl : IsPart vl none) (pu : IsPart vu none) (ps : IsPart vs (some (-1)))
    (h : Q ((n : Int) - 1, -1, n) s) : wpAny (model prog w) A (Builtin.Slice.sliceApplied (.ref sl) (pure (n : Int))) Q E s := by
  obtain ⟨os, hos, hcs, hds⟩ := id hs
  unfold Builtin.Slice.sliceApplied Builtin.Slice.sliceFields
  refine wpAny_bind (wpAny_bind (wpAny_field hos hds (x := vl) rfl (wpAny_bind (wpAny_field hos hds (x := vu) rfl (wpAny_bind (wpAny_field hos hds (x := vs) rfl (wpAny_pure ?_)))))))
  refine wpAny_bind (slicePart_ ps ?_)
  show wpAny _ _ (if ((-1 : Int) == 0) = true then _ else _) _ _ s
  rw [if_neg (by decide)]
  refine wpAny_bind (slicePart_ pl (wpAny_bind (slicePart_ pu (wpAny_bind (wpAny_pure ?_)))))
  show wpAny _ _ (match Builtin.Slice.sliceAdjust none none (-1) (n : Int) with | (lo, hi) => pure (lo, (-1 : Int), Builtin.Slice.slicePlaces lo hi (-1))) _ _ s
  rw [adjust_rev n]
  show wpAny _ _ (pure ((n : Int) - 1, (-1 : Int), Builtin.Slice.slicePlaces ((n : Int) - 1) (-1) (-1))) _ _ s
  rw [places_rev]
  exact wpAny_pure h
theorem pick_rev (xs : Array Value) : ((List.range xs.size).filterMap fun (m : Nat) => xs[(((xs.size : Int) - 1) + (m : Int) * -1).toNat]?).toArray = xs.toList.reverse.toArray := by
  have e : (List.range xs.size).filterMap (fun (m : Nat) => xs[(((xs.size : Int) - 1) + (m : Int) * -1).toNat]?) = ((List.range xs.size).map fun k => xs.size - 1 - k).filterMap (xs[·]?) := by
    rw [List.filterMap_map]
    have key : ∀ (l : List Nat), (∀ m ∈ l, m < xs.size) → l.filterMap (fun (m : Nat) => xs[(((xs.size : Int) - 1) + (m : Int) * -1).toNat]?) = l.filterMap ((xs[·]?) ∘ fun k => xs.size - 1 - k) := by
      intro l
      induction l with
      | nil => exact fun _ => rfl
      | cons m r ih =>
        intro hm
        have e2 : (((xs.size : Int) - 1) + (m : Int) * -1).toNat = xs.size - 1 - m := by have := hm m List.mem_cons_self; omega
        rw [List.filterMap_cons, List.filterMap_cons, ih fun k hk => hm k (List.mem_cons_of_mem _ hk), e2]
        rfl
    exact key _ fun m hm => List.mem_range.mp hm
  rw [e, PySem.W.krv_range, List.filterMap_reverse, PySem.W.krv_all]
theorem getItem_tuple_rev {t sl : Addr} {items : Array Value} {vl vu vs : Value} {Q : Value → Shared → Prop} (ht : IsTup s.heap t items) (hs : s.heap.IsSliceOf sl vl vu vs) (pl : IsPart vl none) (pu : IsPart vu none) (ps : IsPart vs (some (-1)))
    (h : Q (.ref s.heap.objs.size) { s with heap := s.heap.push { cls := .type "tuple", data := .seq items.toList.reverse.toArray } }) (hsz : items.size ≤ sizeLine) : wpAny (model prog w) A (getItem (.ref t) (.ref sl)) Q E s := by
  have htake : sizeOk (.seq items.toList.reverse.toArray) := by
    show items.toList.reverse.toArray.size ≤ sizeLine
    rw [List.size_toArray, List.length_reverse, Array.length_toList]
    exact hsz
  obtain ⟨os, hos, hcs, hds⟩ := id hs
  have hTs : s.TypeIs (.ref sl) "slice" := ⟨os, hos, hcs⟩
  unfold getItem
  try with_reducible refine wpAny_holding ?_
  first | refine wpAny_bind (wpAny_pure ?_) | skip
  refine wpAny_bind (wpAny_sequenceKey ht.typeIs (by decide) ?_)
  refine wpAny_bind (wpAny_callSpecial?_slot (name := Str.ofString "__getitem__") ht.typeIs PyProof.Rows.slot_tuple_getitem
    (wpAny_call_entry PyProof.Rows.slot_tuple_getitem ht.typeIs entry_tuple_getitem ?_ (args_tuple_getitem _ _)))
  show wpAny _ _ (Builtin.Tuple.tupleItemsOf (.ref t) >>= _) _ _ s
  refine wpAny_bind (tupleItemsOf_ ht ?_)
  refine wpAny_bind (wpAny_typeOf hTs ?_)
  rw [if_pos (by decide)]
  refine wpAny_bind (sliceApplied_rev hs pl pu ps ?_)
  show wpAny _ _ (if (((items.size : Int) - 1) == 0 && (-1 : Int) == 1 && items.size == items.size) = true then _ else _) _ _ s
  rw [if_neg (by rw [show ((-1 : Int) == 1) = false from rfl, Bool.and_false, Bool.false_and]; exact Bool.false_ne_true), pick_rev]
  first
    | exact wpAny_bind (m := Builtin.Tuple.tupleExact _) (wpAny_newObj_type (wpAny_pure ⟨_, rfl, wpAny_pure h⟩) htake)
    | exact wpAny_bind (m := Builtin.Tuple.tupleExact _) (wpAny_newObj_type (wpAny_bind (wpAny_pure (wpAny_pure ⟨_, rfl, wpAny_pure h⟩))) htake)
    | exact wpAny_bind (wpAny_bind (m := Builtin.Tuple.tupleExact _) (wpAny_newObj_type (wpAny_pure (wpAny_pure ⟨_, rfl, wpAny_pure h⟩)) htake))
    | exact wpAny_bind (wpAny_bind (m := Builtin.Tuple.tupleExact _) (wpAny_newObj_type (wpAny_pure ⟨_, rfl, wpAny_pure h⟩) htake))
end
end SL
namespace SL
open PySem PySem.Spec PyProof.Rows L2 SX
theorem tyStr {K : PySem.W.Frag} {H : Hp} {z : Str} : tyV K "str" (.str z) H = True := propext ⟨fun _ => trivial, fun _ => rfl⟩
section
variable {X : Cx} {o e : Expr} {es : List Expr} {to : TE} {t : TA} {name : Str} {apos cpos : Pos} {T id : String} {r : V → List V → Hp → VK → Prop}
theorem pe_bmK {K : PySem.W.Frag} (pa : PlainAttrs T) (slot : Slot T name id) (hty : typeOf (.builtin id) = pure (.type "method_descriptor")) (hm : MtR X id r) (ho : PE X o to) (ha : PA X (e :: es) t)
    (hK : X.K = K := by rfl) (hbase : attributeBase o name X.env (eval o X.env) = eval o X.env := by rfl)
    (hfew : ((backTo cpos (starEach (e :: es) X.env)).all (fun x => !x.1) && (backToKw cpos (keywordEach [] X.env)).all (fun x => x.1.isSome)
      && decide ((e :: es).length + ([] : List Keyword).length + (if ([] : List Keyword).isEmpty then 0 else 1) < 30)) = true := by rfl)
    (hline : (apos.endLine == cpos.line) = true := by rfl) (hs : starEach (e :: es) X.env = (false, eval e X.env) :: starEach es X.env := by rfl) (hplain : (backTo cpos (starEach es X.env)).any (·.1) = false := by rfl) :
    PE X (.Call (.Attribute o name apos) (e :: es) [] cpos) (tBM K T r to t) := by
  subst hK
  exact pe_bm pa slot hty hm ho ha hbase hfew hline hs hplain
theorem pe_bm0K' {K : PySem.W.Frag} (pa : PlainAttrs T) (slot : Slot T name id) (hty : typeOf (.builtin id) = pure (.type "method_descriptor")) (hm : MtR X id r) (ho : PE X o to)
    (hK : X.K = K := by rfl) (hbase : attributeBase o name X.env (eval o X.env) = eval o X.env := by rfl) (hline : (apos.endLine == cpos.line) = true := by rfl) : PE X (.Call (.Attribute o name apos) [] [] cpos) (tBM0 K T r to) := by
  subst hK
  exact pe_bm0 pa slot hty hm ho hbase hline
theorem MtR.imp {r r' : V → List V → Hp → VK → Prop} (h : MtR X id r) (i : ∀ x xs H Q, r' x xs H Q → r x xs H Q) : MtR X id r' := fun pins s σ H x xs v us Q I rx rs q => h pins s σ H x xs v us Q I rx rs (i _ _ _ _ q)
def rJoin (K : PySem.W.Frag) : V → List V → Hp → VK → Prop := fun x xs H Q => match x, xs with
  | .str a, [.ref p] => ∃ ys : List Str, (SqL K H p (ys.map V.str) ∨ SqT K H p (ys.map V.str)) ∧ (ys.map (·.length)).sum + ys.length * a.length ≤ 16777216 ∧ Q (.str (Txt.join a ys)) H
  | _, _ => False
theorem mo_join {K : PySem.W.Frag} (hK : X.K = K := by rfl) : MtR X "str.join" (rJoin K) := by
  subst hK
  refine MtR.imp mt_join fun x xs H Q h => ?_
  match x, xs, h with
  | .str a, [.ref p], ⟨ys, h1, h2, q⟩ => exact ⟨a, p, ys, rfl, rfl, h1, h2, q⟩
def rCount : V → List V → Hp → VK → Prop := fun x xs H Q => match x, xs with
  | .str a, [.str b] => Q (.int (Txt.count a b)) H
  | _, _ => False
theorem mo_count : MtR X "str.count" rCount := by
  refine MtR.imp mt_count fun x xs H Q h => ?_
  match x, xs, h with
  | .str a, [.str b], q => exact ⟨a, b, rfl, rfl, q⟩
/-! ### len of anything -/
def rLenW (K : PySem.W.Frag) (w : World) : List V → Hp → VK → Prop := fun xs H Q => match xs with
  | [.str z] => z.length ≤ sizeLine ∧ Q (.int z.length) H
  | [.ref p] => (∃ l, H p = some (SetS w p l) ∧ Q (.int (l.length : Int)) H) ∨ ∃ n, LenV K (.ref p) H n ∧ Q (.int n) H
  | _ => False
theorem o_lenW {K : PySem.W.Frag} {w : World} (hK : X.K = K := by rfl) (hw : X.w = w := by rfl) : CallR X (.builtin "len") (rLenW K w) := by
  subst hK hw
  refine CallR.imp (CallR.or len_setS o_len) fun xs H Q h => ?_
  match xs, h with
  | [.str z], ⟨h1, h2⟩ => exact .inr ⟨_, ⟨h1, rfl⟩, h2⟩
  | [.ref p], .inl h => exact .inl h
  | [.ref p], .inr h => exact .inr h
/-! ### list of a text, a list, a tuple -/
def rListU (K : PySem.W.Frag) : List V → Hp → VK → Prop := fun xs H Q => match xs with
  | [.str z] => z.length ≤ sizeLine ∧ ∀ p, H p = none → Q (.ref p) (upd H p (.lst ((chars z).map V.str)))
  | [.ref p] => ∃ ys, (SqL K H p ys ∨ SqT K H p ys) ∧ ∀ l, H l = none → Q (.ref l) (upd H l (.lst ys))
  | _ => False
theorem o_list {K : PySem.W.Frag} (hc : X.calm = true) (hK : X.K = K := by rfl) : CallR X (.type "list") (rListU K) := by
  subst hK
  intro pins s σ H xs us Q I r h
  match xs, h with
  | [.str z], ⟨hz, q⟩ =>
    obtain ⟨u, rfl, t, rfl⟩ := vals1 r
    refine call_list_str (hn := hz) (I.ok.hd hc) z t fun h' tk acc' c' k e it => ?_
    have sa := items_strs it
    have fr := I.hok.fresh (Nat.le_refl s.heap.objs.size)
    have hl : ((chars z).map V.str).length ≤ sizeLine := by
      unfold chars
      rw [List.length_map, List.length_map, Array.length_toList]
      exact hz
    exact ⟨.ref s.heap.objs.size, _, I.laid (t' := tk) k (Nat.le_refl _) (show ObjOk X.prog X.w _ h' _ (.lst ((chars z).map V.str)) from ⟨hl, acc'.toList, c', vals_of_strs sa, e⟩), rfl, q _ fr⟩
  | [.ref p], ⟨ys, h1, q⟩ => exact call_list_of pins s σ H [.ref p] us Q I r ⟨p, ys, rfl, h1, q⟩
/-! ### x[::-1] -/
def rRevU (K : PySem.W.Frag) : V → Hp → VK → Prop := fun x H Q => match x with
  | .str z => z.length ≤ sizeLine ∧ Q (.str (S z.cps.toList.reverse)) H
  | .ref a => (∃ xs, SqT K H a xs ∧ ∀ p, H p = none → Q (.ref p) (upd H p (.tup xs.reverse))) ∨ ∃ xs, SqL K H a xs ∧ ∀ p, H p = none → Q (.ref p) (upd H p (.lst xs.reverse))
  | _ => False
theorem pe_rev {K : PySem.W.Frag} {e : Expr} {te : TE} {k : Nat} {p1 p2 p3 pos : Pos} (he : PE X e te) (hK : X.K = K := by rfl) : PE X (.Subscript e (.Slice none none (some (.UnaryOp .USub (.Constant (.int 1) k p1) p2)) p3) pos) (fun σ H Q => te σ H fun x H1 => rRevU K x H1 Q) := by
  subst hK
  refine ⟨fun pins s σ H Q I h => ?_⟩
  refine Subscript_ (thn (he.run pins s σ H _ I h) fun v s1 ⟨x, H1, I1, r1, q1⟩ => ?_)
  have hst : PO X (some (.UnaryOp .USub (.Constant (.int 1) k p1) p2)) (tPart (tUn (rU fun i => .int (-i)) (tC (.int 1)))) := po_some (pe_un un_neg pe_int)
  refine wpAny_Slice (thn (po_none.run pins s1 σ H1 (fun o H2 => o = none ∧ H2 = H1) I1 ⟨rfl, rfl⟩) fun vl s2 ⟨l, H2, I2, pl, el, e2⟩ => ?_)
  subst el e2
  refine thn (po_none.run pins s2 σ H2 (fun o H3 => o = none ∧ H3 = H2) I2 ⟨rfl, rfl⟩) fun vu s3 ⟨u, H3, I3, pu, eu, e3⟩ => ?_
  subst eu e3
  refine thn (hst.run pins s3 σ H3 (fun o H4 => o = some (-1) ∧ H4 = H3) I3 ⟨1, rfl, -1, rfl, rfl, rfl⟩) fun vs s4 ⟨o, H4, I4, ps, eo, e4⟩ => ?_
  subst eo e4
  have I5 : Inv X pins σ H4 { s4 with heap := s4.heap.push { cls := .type "slice", data := .fields #[vl, vu, vs] } } := I4.kept (t' := s4.toks) fun b ob q => Heap.get?_push_of_some _ q
  cases x with
  | ref a =>
    cases r1
    rcases q1 with ⟨xs, hx, q⟩ | ⟨xs, hx, q⟩
    · obtain ⟨its, r, ht, hz⟩ := I5.tuple hx
      have hlen := r.length
      refine tail_any (ops := [.ref a, .ref s4.heap.objs.size]) ht.typeIs (PyProof.Rows.slot_tuple_getitem.lookup) ?_ (by with_unfolding_all rfl)
      refine getItem_tuple_rev (items := its.toArray) ht (Heap.IsSliceOf.new _ vl vu vs) pl pu ps ?_ (by rw [List.size_toArray]; omega)
      refine ⟨.ref _, _, I5.laid (t' := s4.toks) (o := .tup xs.reverse) (fun b ob q => Heap.get?_push_of_some _ q) (Nat.le_refl _) ?_, rfl, q _ (I5.hok.fresh (Nat.le_refl _))⟩
      exact ⟨by rw [List.length_reverse]; exact hz, _, r.reverse, IsTup.new _ _⟩
    obtain ⟨its, r, ht, hz⟩ := I5.list hx
    have hlen := r.length
    refine tail_any (ops := [.ref a, .ref s4.heap.objs.size]) ht.isList.typeIs (PySem.slot_list_getitem.lookup) ?_ (by with_unfolding_all rfl)
    refine wpAny_getItem_list_slice ht.isList (Heap.IsSliceOf.new _ vl vu vs) pl pu ps (by decide) ?_ (by rw [List.size_toArray]; omega)
    rw [PySem.W.krv_pick]
    refine ⟨.ref _, _, I5.laid (t' := s4.toks) (o := .lst xs.reverse) (fun b ob q => Heap.get?_push_of_some _ q) (Nat.le_refl _) ?_, rfl, q _ (I5.hok.fresh (Nat.le_refl _))⟩
    exact ⟨by rw [List.length_reverse]; exact hz, _, 0, r.reverse, Heap.get?_push_size _ rfl⟩
  | str z =>
    obtain ⟨hz, q⟩ := q1
    obtain ⟨t, rfl⟩ := r1
    obtain ⟨l, rfl, hl⟩ := IsPart.raw pl
    obtain ⟨u, rfl, hu⟩ := IsPart.raw pu
    obtain ⟨st, rfl, hs⟩ := IsPart.raw ps
    refine tail_any (ops := [.str z t, .ref s4.heap.objs.size]) (typeIs_str _ _ _) (F.slot_str_getitem.lookup) ?_ (by with_unfolding_all rfl)
    refine wpAny_getItem_str_slice (l := l) (u := u) (st := st) ⟨_, Heap.get?_push_size _ rfl, rfl, rfl⟩ (by rw [hs]; rfl) ?_
    have hp : slicePicked z l u st = (List.range z.length).reverse := by
      unfold slicePicked
      rw [hl, hu, hs]
      show Builtin.Str.strSliceIndices none none (-1) z.length = _
      show sliceRange ((z.length : Int) - 1) (-1) (-1) = _
      rw [PySem.W.krv_sliceRange, PySem.W.krv_range]
    have ht : (List.range z.length).reverse.filterMap (z.cps[·]?) = z.cps.toList.reverse := by
      rw [List.filterMap_reverse, show z.length = z.cps.size from rfl, PySem.W.krv_all]
    unfold sliceMade
    rw [hs, hp, ht]
    show Made.post (if ((-1 : Int) == 1 && _) = true then _ else _) _ _
    rw [if_neg (by simp)]
    refine ⟨?_, .str _, H4, I5.tok _, ⟨_, rfl⟩, q⟩
    show (S z.cps.toList.reverse).length ≤ sizeLine
    rw [S_len, List.length_reverse, Array.length_toList]
    exact hz
  | _ => exact absurd q1 id
end
/-! ### texts by their signs -/
theorem join_chars : ∀ a : List Nat, Txt.join (S []) (a.map fun c => S [c]) = S a := by
  intro a
  have h : ∀ a : List Nat, TL.joinL [] (a.map fun c => [c]) = a := by
    intro a
    induction a with
    | nil => rfl
    | cons c r ih =>
      cases r with
      | nil => rfl
      | cons d r => exact congrArg (c :: ·) ih
  have e := SX.join_S [] (a.map fun c => [c])
  rw [h a, List.map_map] at e
  exact e
theorem len_chars (a : List Nat) : ((a.map fun c => S [c]).map (·.length)).sum + (a.map fun c => S [c]).length * (S []).length = a.length := by
  rw [S_len, List.length_nil, Nat.mul_zero, Nat.add_zero]
  induction a with
  | nil => rfl
  | cons c r ih =>
    rw [List.map_cons, List.map_cons, List.sum_cons, ih, S_len]
    simp; omega
end SL
namespace SL
open PySem PySem.Spec PyProof.Rows L2 SX
/-! ### enumerate of a text or a list -/
def Ites (z : Str) : It := ⟨fun i _ => i < z.cps.size, fun i H v H' => ∃ T c, v = .ref T ∧ H T = none ∧ H' = upd H T (.tup [.int (i : Nat), .str ⟨#[c]⟩]) ∧ z.cps[i]? = some c, fun i _ => z.cps.size ≤ i⟩
theorem turn_enumS {P : Program} {w : World} {K : PySem.W.Frag} {elts : List Expr} {kk : Nat} {tpos : Pos} (e it : Addr) (z : Str) (t : Tok) :
    Turn P w K (.Tuple elts kk tpos) (Ites z) [e, it] e (fun i h => (∃ old, IsEnum h e it ((i : Nat) : Int) old) ∧ h.IsStrIter it (strIterType z) z t i ∧ e ≠ it ∧ i ≤ z.cps.size) where
  mem := by simp
  obj := fun i h st b hb => by
    obtain ⟨⟨old, he⟩, ⟨o, ho, hc, hd⟩, _⟩ := st
    have e' : b = e ∨ b = it := by simpa using hb
    rcases e' with z | z
    · rw [z]; exact ⟨_, he, fun v q => nomatch q⟩
    · rw [z]; exact ⟨o, ho, fun v q => by rw [hd] at q; cases q⟩
  keep := fun i h h' st k => let ⟨⟨old, he⟩, ⟨o, ho, r⟩, hne, hi⟩ := st; ⟨⟨old, k e (by simp) _ he⟩, ⟨o, k it (by simp) o ho, r⟩, hne, hi⟩
  item := by
    intro X hP hw hK hc i pins s σ H E I hf st hg
    subst hP hw hK
    obtain ⟨⟨old, he⟩, hit, hne, hi⟩ := st
    have hg' : i < z.cps.size := hg
    have hel : e < s.heap.objs.size := Heap.lt_size he
    have hil : it < s.heap.objs.size := by obtain ⟨_, q, _⟩ := hit; exact Heap.lt_size q
    have D : Draws X.prog X.w X.A.in1 it [it] z.cps.size (fun i v => ∃ c u, z.cps[i]? = some c ∧ v = .str ⟨#[c]⟩ u) (fun i h => h.IsStrIter it (strIterType z) z t i) := by
      unfold strIterType
      split
      · exact Draws.strAscii (A := X.A.in1) (I.ok.hd hc) it z t
      · exact Draws.strWide (A := X.A.in1) (I.ok.hd hc) it z t
    refine wpAny_pyNext_enum_itemD D he hit hg' hne (by simpa using hne) fun x h' tk hPx ho hit' hT hsz hk => ?_
    obtain ⟨c, u, hcx, rfl⟩ := hPx
    refine ⟨_, rfl, wpAny_letOwnedTupleGo_enum (s := { s with heap := h', toks := tk + 1 }) ho fun h'' he' sb => ?_⟩
    have hT2 : h''.get? s.heap.objs.size = some { cls := .type "tuple", data := .seq #[.int i tk, .str ⟨#[c]⟩ u] } := (sb.2 _ (Nat.ne_of_gt hel)).trans hT
    have new : ObjOk X.prog X.w (upd H s.heap.objs.size (.tup [.int (i : Nat), .str ⟨#[c]⟩])) h'' s.heap.objs.size (.tup [.int (i : Nat), .str ⟨#[c]⟩]) :=
      ⟨by show 2 ≤ sizeLine; decide, [.int i tk, .str ⟨#[c]⟩ u], .cons ⟨_, rfl⟩ (.cons ⟨_, rfl⟩ .nil), ⟨_, hT2, rfl, _, rfl⟩⟩
    have I1 : Inv X pins σ (upd H s.heap.objs.size (.tup [.int (i : Nat), .str ⟨#[c]⟩])) { s with heap := h'', toks := tk + 1 } :=
      I.turnedNew (ch := [e, it]) (fun b ob hb q => (sb.2 b (fun z => hb (by simp [z]))).trans (hk b ob (fun z => hb (by simp [z])) (fun z => hb (by simp [z])) q)) hf (Nat.le_refl _) new
    refine ⟨.ref s.heap.objs.size, _, I1, rfl, ⟨_, c, rfl, I.hok.fresh (Nat.le_refl _), rfl, hcx⟩, ⟨⟨.str ⟨#[c]⟩ u, ?_⟩, ?_, hne, hg'⟩, fun b hb => ?_⟩
    · have e1 : ((i + 1 : Nat) : Int) = (i : Int) + 1 := by omega
      rw [e1]; exact he'
    · obtain ⟨o, ho', r⟩ := hit'
      exact ⟨o, (sb.2 it (Ne.symm hne)).trans ho', r⟩
    · have hb' : b < s.heap.objs.size := by
        have e' : b = e ∨ b = it := by simpa using hb
        rcases e' with z | z
        · rw [z]; exact hel
        · rw [z]; exact hil
      rw [upd_ne (Nat.ne_of_lt hb')]
      exact (hf b hb).1
  done := by
    intro X hP hw hK hc i pins s σ H E I hf st hg
    subst hP hw hK
    obtain ⟨⟨old, he⟩, hit, hne, hi⟩ := st
    have hg' : z.cps.size ≤ i := hg
    have ei : i = z.cps.size := by omega
    subst ei
    obtain ⟨f0, f1, f2, f3, f4, f5⟩ := hf it (by simp)
    have D : Draws X.prog X.w X.A.in1 it [it] z.cps.size (fun i v => ∃ c u, z.cps[i]? = some c ∧ v = .str ⟨#[c]⟩ u) (fun i h => h.IsStrIter it (strIterType z) z t i) := by
      unfold strIterType
      split
      · exact Draws.strAscii (A := X.A.in1) (I.ok.hd hc) it z t
      · exact Draws.strWide (A := X.A.in1) (I.ok.hd hc) it z t
    exact wpAny_pyNext_enum_endD D he hit fun h' eb => ⟨rfl, I.turned (t' := s.toks) (fun b o hb q => eb b o hb q) f0 f1 f3 f4 f5⟩
  self := fun A i s Q E st h => let ⟨⟨_, he⟩, _⟩ := st; wpAny_pyIter_enum he h
def iEnumU (K : PySem.W.Frag) (ta : TA) : TI := fun σ H R => ta σ H fun vs H1 => match vs with
  | [.ref a] => (∃ xs, SqL K H1 a xs) ∧ R (Ite K a) H1
  | [.str z] => R (Ites z) H1
  | _ => False
theorem o_enum {X : Cx} {K : PySem.W.Frag} {e : Expr} {te : TE} {p pos tpos : Pos} {elts : List Expr} {kk : Nat} (hg : Gl X "enumerate") (hm : X.mg "enumerate" = none) (he : PE X e te) (hs : starEach [e] X.env = (false, eval e X.env) :: starEach [] X.env := by rfl) (hK : X.K = K := by rfl) :
    PI X (.Tuple elts kk tpos) (.Call (.Name "enumerate" p) [e] [] pos) (iEnumU K (tCons te tNil)) := by
  subst hK
  refine ⟨fun pins s σ H R I h => ?_⟩
  refine Call_ (ld_blt I hg hm boot_enumerate (PyProof.Rows.callWith_type1 (args_cons (thn (he.run pins s σ H _ I h) fun u s1 ⟨v, H1, I1, r1, q1⟩ => args_nil ?_) hs) hs rfl))
  have q2 : (match [v] with
    | [.ref a] => (∃ xs, SqL X.K H1 a xs) ∧ R (Ite X.K a) H1
    | [.str z] => R (Ites z) H1
    | _ => False) := q1
  cases v with
  | ref a =>
    obtain ⟨⟨xs, hq⟩, q⟩ := q2
    cases r1
    obtain ⟨its, rv, p', hz⟩ := I1.list hq
    refine call_enumerate_list p'.isList fun h' he hit hsz hk => wpAny_pyIter_enum he ?_
    have I2 : Inv X pins σ H1 { s1 with heap := h' } := I1.kept (t' := s1.toks) hk
    refine ⟨s1.heap.objs.size + 1, [s1.heap.objs.size + 1, s1.heap.objs.size], _, _, H1, rfl, I2, turn_enum a (s1.heap.objs.size + 1) s1.heap.objs.size, ⟨⟨.none, he⟩, hit, Nat.succ_ne_self _⟩, fun b hb => ?_, q⟩
    have e' : b = s1.heap.objs.size + 1 ∨ b = s1.heap.objs.size := by simpa using hb
    have hle : s1.heap.objs.size ≤ b := by
      rcases e' with z | z
      · rw [z]; exact Nat.le_add_right _ _
      · rw [z]; exact Nat.le_refl _
    exact I1.fpOk hle (I1.hok.fresh hle)
  | str z =>
    obtain ⟨t, rfl⟩ := r1
    refine call_enumerate_str fun h' he hit hsz hk => wpAny_pyIter_enum he ?_
    have I2 : Inv X pins σ H1 { s1 with heap := h' } := I1.kept (t' := s1.toks) hk
    refine ⟨s1.heap.objs.size + 1, [s1.heap.objs.size + 1, s1.heap.objs.size], _, _, H1, rfl, I2, turn_enumS (s1.heap.objs.size + 1) s1.heap.objs.size z t, ⟨⟨.none, he⟩, hit, Nat.succ_ne_self _, Nat.zero_le _⟩, fun b hb => ?_, q2⟩
    have e' : b = s1.heap.objs.size + 1 ∨ b = s1.heap.objs.size := by simpa using hb
    have hle : s1.heap.objs.size ≤ b := by
      rcases e' with z | z
      · rw [z]; exact Nat.le_add_right _ _
      · rw [z]; exact Nat.le_refl _
    exact I1.fpOk hle (I1.hok.fresh hle)
  | _ => exact absurd q2 id
theorem walk_enumS {z : Str} : Walk (Ites z) z.cps.size (fun _ => True) (YPair (fun i => some (.int (i : Nat))) (fun i => z.cps[i]?.map fun c => .str ⟨#[c]⟩)) :=
  ⟨fun _ _ hi _ => hi, fun _ _ => Nat.le_refl _, fun i H v H' _ _ y => by
    obtain ⟨T, c, h1, h2, h3, h4⟩ := y
    exact ⟨T, .int (i : Nat), .str ⟨#[c]⟩, h1, h2, h3, rfl, by simp [h4]⟩⟩
/-- a comprehension over pairs -/
theorem lc_pair {K : PySem.W.Frag} {J0 : It} {n : Nat} {G : Hp → Prop} {f g : Nat → Option V} {wi : TI} {i j : Nat} {te : TE} {vs : List Nat} {σ : L2.St} {H H0 : Hp} {Q : VK} (h : wi σ H fun J H1 => J = J0 ∧ H1 = H0) (w : Walk J0 n G (YPair f g)) (hn : n < 16777216) (C : Nat → List V → Hp → Prop) (hC : ∀ k acc Ha Hb, NL Ha Hb → C k acc Ha → C k acc Hb) (h0 : C 0 [] H0)
    (hG : ∀ H', Same H0 H' → G H') (hw : ∀ x y, wipe (((wipe σ vs).set i (some x)).set j (some y)) vs = wipe σ vs)
    (turn : ∀ k x y acc H' H'', k < n → Same H0 H' → C k acc H' → Same H' H'' → f k = some x → g k = some y → tMid te (((wipe σ vs).set i (some x)).set j (some y)) H'' fun v H4 => Same H'' H4 ∧ C (k + 1) (acc ++ [v]) H4)
    (done : ∀ p acc H', H0 p = none → Same H0 H' → H' p = some (.lst acc) → acc.length = n → C n acc H' → Q (.ref p) H') : tLc (iMid wi) (gTup K 2 (gCons (gName i) (gCons (gName j) gNil))) tYes (tMid te) vs σ H Q := by
  refine ⟨_, h, ?_⟩
  rintro J H1 ⟨rfl, rfl⟩ p hp
  refine lc_it w (fun k H' => ∃ acc, Same H1 H' ∧ H' p = some (.lst acc) ∧ acc.length = k ∧ C k acc H') ⟨[], same_new hp, upd_same, rfl, hC _ _ _ _ (NL.of (same_new hp)) h0⟩ (fun k H' _ ⟨acc, s, _⟩ => hG H' s) ?_ fun H' ⟨acc, s, hD, hl, c⟩ => done p acc H' hp s hD hl c
  rintro k v H' H'' hk ⟨acc, s, hD, hl, c⟩ ⟨T, x, y, rfl, hT, rfl, hx, hy⟩
  have s2 : Same H' (upd H' T (.tup [x, y])) := same_new hT
  refine ⟨T, [x, y], rfl, .inl (.inl upd_same), rfl, x, [y], rfl, y, [], rfl, rfl, hw x y, ?_⟩
  obtain ⟨R, h1, h2⟩ := turn k x y acc H' _ hk s c s2 hx hy
  refine ⟨R, h1, ?_⟩
  rintro v H4 hR
  obtain ⟨s3, c'⟩ := h2 v H4 hR
  have hD4 : H4 p = some (.lst acc) := s3 _ _ (s2 _ _ hD)
  refine ⟨acc, hD4, by rw [sizeLine_eq]; omega, acc ++ [v], same_mut ((s.trans s2).trans s3) hp, upd_same, by rw [List.length_append, hl]; rfl, hC _ _ _ _ (nl_upd hD4) c'⟩
/-! ### max, min, insert -/
section
variable {X : Cx}
def rMaxU (K : PySem.W.Frag) : List V → Hp → VK → Prop := fun xs H Q => match xs with
  | [.int i, .int j] => Q (.int (if j > i then j else i)) H
  | [.ref a] => rMax K [.ref a] H Q
  | _ => False
theorem o_max {K : PySem.W.Frag} (hc : X.calm = true) (hK : X.K = K := by rfl) : CallR X (.builtin "max") (rMaxU K) := by
  subst hK
  refine CallR.imp (CallR.or (call_max2 hc) (cr_max hc)) fun xs H Q h => ?_
  match xs, h with
  | [.int i, .int j], q => exact .inl ⟨i, j, rfl, q⟩
  | [.ref a], q => exact .inr q
def rMinU (K : PySem.W.Frag) : List V → Hp → VK → Prop := fun xs H Q => match xs with
  | [.int i, .int j] => Q (.int (if j < i then j else i)) H
  | [.ref a] => rMin K [.ref a] H Q
  | _ => False
theorem o_min {K : PySem.W.Frag} (hc : X.calm = true) (hK : X.K = K := by rfl) : CallR X (.builtin "min") (rMinU K) := by
  subst hK
  refine CallR.imp (CallR.or (call_min2 hc) (cr_min hc)) fun xs H Q h => ?_
  match xs, h with
  | [.int i, .int j], q => exact .inl ⟨i, j, rfl, q⟩
  | [.ref a], q => exact .inr q
def rInsert : V → List V → Hp → VK → Prop := fun x vs H Q => match x, vs with
  | .ref l, [.int i, y] => ∃ xs, H l = some (.lst xs) ∧ xs.length < sizeLine ∧ 0 ≤ i ∧ i < 2 ^ 63 ∧ Q .non (upd H l (.lst (xs.take i.toNat ++ [y] ++ xs.drop i.toNat)))
  | _, _ => False
theorem mo_insert : MtR X "list.insert" rInsert := by
  refine MtR.imp mt_insert fun x vs H Q h => ?_
  match x, vs, h with
  | .ref l, [.int i, y], ⟨xs, h1, h2, h3, h4, q⟩ => exact ⟨l, xs, i, y, rfl, rfl, h1, h2, h3, h4, q⟩
end
end SL
namespace SL
open PySem PySem.Spec PyProof.Rows L2 SX SrtO
open PySem.W (KatLex kat_nil kat_cons kat_yes kat_no kat_go kat_lt)
/-! ### sorted lists of tuples: a number, then a text, then more -/
abbrev KeyT := Int × List Nat
def ltK (a b : KeyT) : Bool := lexLt itemOrd [.inl a.1, .inr a.2] [.inl b.1, .inr b.2]
theorem ltK_irr (a : KeyT) : ltK a a = false := lex_irrefl _
theorem swo_ltK {α : Type} (k : α → KeyT) : Swo fun v u => ltK (k v) (k u) := by
  refine ⟨fun x y h => ?_, fun x y z h1 h2 => ?_⟩
  · cases e : ltK (k y) (k x) with
    | false => rfl
    | true =>
      have := lex_trans (O := itemOrd) _ _ _ h e
      rw [show lexLt itemOrd [.inl (k x).1, .inr (k x).2] [.inl (k x).1, .inr (k x).2] = false from lex_irrefl _] at this
      cases this
  · cases e : ltK (k z) (k x) with
    | false => rfl
    | true =>
      rcases lex_negTrans (O := itemOrd) _ [.inl (k y).1, .inr (k y).2] _ e with h | h
      · exact absurd (h2.symm.trans h) Bool.false_ne_true
      · exact absurd (h1.symm.trans h) Bool.false_ne_true
theorem ltK_tri {a b : KeyT} (h : ltK a b = false) (g : ltK b a = false) : a = b := by
  have e := lex_total (O := itemOrd) _ _ h g
  injection e with e1 e2
  injection e2 with e2 _
  injection e1 with e1
  injection e2 with e2
  exact Prod.ext e1 e2
section
variable {prog : Program} {w : World} {A : Around} {E : Value → Shared → Prop} {s : Shared}
def TupAt (h : Heap) (v : Value) (kk : KeyT) : Prop := ∃ a o x t y u r n, v = .ref a ∧ h.get? a = some o ∧ o.cls = .type "tuple" ∧ o.data = .seq (Value.int x t :: Value.str y u :: r).toArray n ∧ kk = (x, y.cps.toList)
theorem TupAt.keeps {h h' : Heap} {v : Value} {kk : KeyT} (q : TupAt h v kk) (k : ∀ b o, h.get? b = some o → o.cls = .type "tuple" → h'.get? b = some o) : TupAt h' v kk := by
  obtain ⟨a, o, x, t, y, u, r, n, e, ho, hc, hd, hk⟩ := q
  exact ⟨a, o, x, t, y, u, r, n, e, k a o ho hc, hc, hd, hk⟩
theorem kat_self {b : Bool} {Q : Bool → Shared → Prop} : ∀ (l : List Value) (i : Nat), Q false s → KatLex prog w A b false Q (l.zip l) i s
  | [], _, h => kat_nil h
  | v :: r, i, h => by
    refine kat_cons (SeqAt.EqAt.same v prog w _ _ ?_)
    exact kat_yes (kat_self r (i + 1) h)
theorem katT {b fin : Bool} {Q : Bool → Shared → Prop} {x x' : Int} {t t' u u' : Tok} {y y' : Str} {rs : List (Value × Value)} (hne : ¬ (x = x' ∧ y = y')) (h : Q (ltK (x, y.cps.toList) (x', y'.cps.toList)) s) : KatLex prog w A b fin Q ((.int x t, .int x' t') :: (.str y u, .str y' u') :: rs) 0 s := by
  unfold ltK at h
  refine kat_cons (wpAny_eqBool_int ?_)
  refine kat_go (fun e => kat_yes ?_) (fun e => kat_no ?_)
  · have hx : x = x' := by simpa using e
    subst hx
    rw [lex_self] at h
    refine kat_cons (wpAny_eqBool_str ?_)
    refine kat_go (fun e => ?_) (fun e => kat_no ?_)
    · exact absurd ⟨rfl, of_decide_eq_true e⟩ hne
    · have hxy : ¬ y = y' := of_decide_eq_false e
      have hn : y.cps.toList ≠ y'.cps.toList := fun hl => hxy (by
        have hc : y.cps = y'.cps := Array.toList_inj.mp hl
        cases y; cases y'
        simp only [Str.mk.injEq]
        exact hc)
      rw [lex_diff (fun z => hn (Sum.inr.inj z))] at h
      exact oneLt_any_str h
  · have hx : ¬ x = x' := by simpa using e
    rw [lex_diff (fun z => hx (Sum.inl.inj z))] at h
    exact oneLt_any_int h
theorem keyT_cmp {vs : List Value} {k : Value → KeyT} (hp : ∀ v ∈ vs, TupAt s.heap v (k v)) (inj : ∀ v ∈ vs, ∀ u ∈ vs, k v = k u → v = u) : Cmp prog w A s (tuples' true) (fun p => p.1 ∈ vs) (lt2 fun v u => ltK (k v) (k u)) := by
  intro p q hm hm'
  show wpAny (model prog w) A (keyLt' (tuples' true) p.1 q.1) (fun r s' => s' = s ∧ r = ltK (k p.1) (k q.1)) (fun _ _ => False) s
  obtain ⟨a, o, x, t, y, u, r, n, e, ho, hc, hd, hk⟩ := hp _ hm
  obtain ⟨a', o', x', t', y', u', r', n', e', ho', hc', hd', hk'⟩ := hp _ hm'
  by_cases hkk : k p.1 = k q.1
  · have ev := inj _ hm _ hm' hkk
    rw [← ev, e]
    refine kat_lt ho hd ho hd ?_
    have ef : decide ((Value.int x t :: Value.str y u :: r).toArray.size < (Value.int x t :: Value.str y u :: r).toArray.size) = false := decide_eq_false (Nat.lt_irrefl _)
    rw [ef]
    exact kat_self _ 0 ⟨rfl, (ltK_irr _).symm⟩
  · rw [e, e']
    rw [e] at hk
    rw [e'] at hk'
    refine kat_lt ho hd ho' hd' ?_
    rw [hk, hk']
    refine katT (fun h => hkk ?_) ⟨rfl, rfl⟩
    rw [e, e', hk, hk', h.1, h.2]
theorem keyT_sortable {a : Addr} {vs : List Value} {k : Value → KeyT} (h0 : 0 < vs.length) (hp : ∀ v ∈ vs, TupAt s.heap v (k v)) (inj : ∀ v ∈ vs, ∀ u ∈ vs, k v = k u → v = u) (ha : ∀ o, s.heap.get? a = some o → o.cls ≠ .type "tuple") : SortableO prog w A s a vs fun v u => ltK (k v) (k u) := by
  intro h' keep
  have hp' : ∀ v ∈ vs, TupAt h' v (k v) := fun v hm => (hp v hm).keeps fun b o e c => keep b o (fun z => by subst z; exact ha o e c) e
  have key : ∀ l : List Value, (∀ v ∈ l, TupAt h' v (k v)) → ∃ fs, TupsOf h' (fun _ => false) l fs ∧ fs.length = l.length := by
    intro l
    induction l with
    | nil => exact fun _ => ⟨[], .nil, rfl⟩
    | cons v r ih =>
      intro hl
      obtain ⟨fs, h1, h2⟩ := ih fun u hu => hl u (List.mem_cons_of_mem _ hu)
      obtain ⟨a, o, x, t, y, u, r', n, e, ho, hc, hd, _⟩ := hl v List.mem_cons_self
      exact ⟨.int x t :: fs, .cons ⟨a, o, _, n, e, ho, hc, hd, rfl, fun _ => ⟨x, t, rfl⟩, fun z => nomatch z⟩ h1, by rw [List.length_cons, List.length_cons, h2]⟩
  obtain ⟨fs, h1, h2⟩ := key vs hp'
  exact ⟨tuples' true, fun Q E hq => tup_kind (by omega) h1 hq, keyT_cmp (s := { s with heap := h' }) hp' inj⟩
end
def rSortT (K : PySem.W.Frag) : List V → Hp → VK → Prop := fun vs H Q => ∃ (a : Addr) (xs : List V) (k : V → KeyT), vs = [V.ref a] ∧ SqL K H a xs ∧ (∀ x ∈ xs, ∃ t more, x = V.ref t ∧ H t = some (.tup (.int (k x).1 :: .str (S (k x).2) :: more))) ∧ (∀ x ∈ xs, ∀ y ∈ xs, k x = k y → x = y) ∧
  ∀ ys p, ys.Perm xs → ys.Pairwise (fun x y => ltK (k y) (k x) = false) → H p = none → Q (.ref p) (upd H p (.lst ys))
section
variable {X : Cx}
theorem o_sortedT {K : PySem.W.Frag} (hK : X.K = K := by rfl) : CallR X (.builtin "sorted") (rSortT K) := by
  subst hK
  intro pins s σ H vs us Q I r h
  obtain ⟨a, xs, k, rfl, hs, hx, inj, q⟩ := h
  obtain ⟨its, rv, hl, hz⟩ := I.list hs
  obtain ⟨u, rfl, ru⟩ := vals1 r
  obtain rfl : u = Value.ref a := ru
  obtain ⟨e1, e2⟩ := refs_back rv fun x m => by
    obtain ⟨t, _, e, _⟩ := hx x m
    exact ⟨t, e⟩
  have mem : ∀ v ∈ its, backV v ∈ xs := fun v hv => by rw [e1]; exact List.mem_map.mpr ⟨_, hv, rfl⟩
  have tup : ∀ v ∈ its, TupAt s.heap v (k (backV v)) := fun v hv => by
    obtain ⟨t, rfl⟩ := e2 v hv
    obtain ⟨t', more, e, ht⟩ := hx _ (mem _ hv)
    cases e
    obtain ⟨_, its2, r2, o, ho, hc, n, hd⟩ := I.hok _ _ ht
    cases r2 with
    | cons ri r2 => cases r2 with
      | cons rj r2 =>
        obtain ⟨t1, rfl⟩ := ri
        obtain ⟨t2, rfl⟩ := rj
        refine ⟨t, o, _, t1, _, t2, _, n, rfl, ho, hc, hd, ?_⟩
        refine Prod.ext rfl ?_
        simp
  have inj' : ∀ v ∈ its, ∀ u ∈ its, k (backV v) = k (backV u) → v = u := fun v hv u hu e => by
    have e' := inj _ (mem v hv) _ (mem u hu) e
    obtain ⟨t, rfl⟩ := e2 v hv
    obtain ⟨t', rfl⟩ := e2 u hu
    have e3 : V.ref t = V.ref t' := e'
    cases e3
    rfl
  refine sorted_ord (swo_ltK fun u => k (backV u)) hl.isList (by rw [← rv.length]; exact hz) (fun h2 h₁ a' ha kk => ?_) fun out h1 h2 => ?_
  · refine keyT_sortable (s := { s with heap := h₁ }) (by omega) (fun v hm => (tup v hm).keeps fun b o e _ => (kk b o e).2) inj' fun o e => ?_
    have e' : some o = some (seqObj "list" its.toArray 0) := e.symm.trans ha
    cases e'
    intro c
    exact absurd (Value.type.inj c) (by decide)
  · have h3 : ∀ u ∈ out, ∃ a, u = Value.ref a := fun u hu => e2 u (h2.perm.mem_iff.mp hu)
    obtain ⟨n, hn⟩ := sortedAll_at s.heap its out.toArray
    have hb : (out.map backV).Perm xs := by
      rw [e1]
      exact h2.perm.map _
    have hsz : s.heap.objs.size ≤ s.heap.objs.size + 1 := Nat.le_succ _
    refine ⟨.ref _, upd H (s.heap.objs.size + 1) (.lst (out.map backV)), I.laid (t' := s.toks) (fun _ _ => sortedAll_old) hsz ⟨?_, out, n, vals_back h3, hn⟩, rfl, q _ _ hb (srtd_map h1) (I.hok.fresh hsz)⟩
    rw [hb.length_eq]
    exact hz
end
end SL
namespace SL
open PySem PySem.Spec PyProof.Rows L2
/-! ### list(d.values()) -/
theorem paired_at {α β : Type} {R : α → β → Prop} : ∀ {xs : List α} {ys : List β}, Paired R xs ys → ∀ (j : Nat) (x : α) (y : β), xs[j]? = some x → ys[j]? = some y → R x y
  | _, _, .nil, _, _, _, h, _ => by simp at h
  | _, _, .cons h _, 0, _, _, e, f => by
    cases e
    cases f
    exact h
  | _, _, .cons _ t, j + 1, x, y, e, f => paired_at t j x y e f
def tListVals (te : TE) : TE := fun σ H Q => te σ H fun x H1 => ∃ d kvs, x = .ref d ∧ H1 d = some (.dK kvs) ∧ ∀ p, H1 p = none → Q (.ref p) (upd H1 p (.lst (kvs.map (·.2))))
theorem pe_listVals {X : Cx} {e : Expr} {te : TE} {p apos cpos pos : Pos} (hc : X.calm = true) (he : PE X e te) (hg : Gl X "list") (hm : X.mg "list" = none) (hv : bootBuiltins "list" = some (.type "list"))
    (hbase : attributeBase e "values" X.env (eval e X.env) = eval e X.env := by rfl) (hline : (apos.endLine == cpos.line) = true := by rfl)
    (hs : starEach [.Call (.Attribute e "values" apos) [] [] cpos] X.env = (false, eval (.Call (.Attribute e "values" apos) [] [] cpos) X.env) :: starEach [] X.env := by rfl) :
    PE X (.Call (.Name "list" p) [.Call (.Attribute e "values" apos) [] [] cpos] [] pos) (tListVals te) := by
  refine ⟨fun pins s σ H Q I hq => ?_⟩
  refine PySem.wpAny_Call_Name_kw (ld_blt I hg hm hv ?_)
  refine callWith_type1 ?_ hs rfl
  rw [hs]
  refine Calls.spliced_cons (wpAny_Call_method hbase rfl hline F.plainAttrs_dict F.slot_dict_values F.type_dict_values (thn (he.run pins s σ H _ I hq) fun u s1 x => ?_))
  obtain ⟨x, H1, I1, rx, d, kvs, rfl, hd, q⟩ := x
  obtain rfl : u = Value.ref d := rx
  obtain ⟨hz, hs0, vs, kv, hdo⟩ := I1.hok d _ hd
  obtain ⟨ep, hat⟩ := Heap.DictOf.dictAt hdo
  have lk := Paired.length kv
  have I2 := Inv.kept (t' := s1.toks) I1 fun b ob q => Heap.get?_push_of_some { cls := Value.type "dict_values", data := Data.fields #[Value.ref d] } q
  refine ⟨Heap.DictOf.typeIs hdo, Heap.MapOf.noDict (Heap.DictOf.mapOf hdo), ?_⟩
  refine method_meetsIn F.slot_dict_values F.entry_dict_values rfl (PySem.evalArgs_none ⟨rfl, Heap.DictOf.typeIs hdo, F.args_dict_values_1 (Value.ref d), _, meets_dict_values (mixKind X.prog X.w) d hs0, ⟨vs, hdo⟩, ?_⟩)
  refine Calls.spliced_nil (W.kdl_call W.kdl_values (I1.ok.hd hc) ⟨⟨{ cls := Value.type "dict_values", data := Data.fields #[Value.ref d] }, Heap.get?_push_size s1.heap rfl, rfl, rfl⟩, Heap.DictAt.push hat _⟩ (by rw [← lk]; exact hz) fun h' tk acc c hk hS hacc => ?_)
  refine ⟨.ref _, upd H1 _ (.lst (kvs.map (·.2))), Inv.laid I2 hk (Nat.le_refl _) ?_, rfl, q _ (HOk.fresh I2.hok (Nat.le_refl _))⟩
  refine ⟨by rw [List.length_map]; exact hz, acc.toList, c, vals_of_at ?_ ?_, by rw [Array.toArray_toList]; exact hS⟩
  · rw [List.length_map]
    exact lk.trans hacc.1.symm
  · intro j x w h1 h2
    obtain ⟨k, hk2⟩ := hacc.2 j w (by rw [← Array.getElem?_toList]; exact h2)
    rw [List.getElem?_map] at h1
    obtain ⟨p, hp, rfl⟩ := Option.map_eq_some_iff.mp h1
    exact (paired_at kv j p (k, w) hp hk2).2
/-! ### list.count, of what is plain -/
def rCountF (K : PySem.W.Frag) : V → List V → Hp → VK → Prop := fun x xs H Q => ∃ a ys y, x = .ref a ∧ xs = [y] ∧ SqL K H a ys ∧ flatV y = true ∧ ys.all flatV = true ∧ Q (.int (ys.countP fun z => eqV z y : Nat)) H
theorem cntU {y : V} : ∀ {ys : List V} {its : List Value}, Vals ys its → ys.all flatV = true → its.countP (eqU y) = ys.countP fun z => eqV z y
  | _, _, .nil, _ => rfl
  | z :: ys, u :: its, .cons h t, f => by
    rw [List.all_cons, Bool.and_eq_true] at f
    rw [List.countP_cons, List.countP_cons, cntU t f.2, eqU_of h f.1]
theorem mt_countF {X : Cx} : MtR X "list.count" (rCountF X.K) := by
  intro pins s σ H x xs v us Q I rx rxs h
  obtain ⟨a, ys, y, rfl, rfl, hs, fy, fys, q⟩ := h
  obtain rfl : v = Value.ref a := rx
  obtain ⟨b, rfl, ry⟩ := Vals.one rxs
  obtain ⟨its, rv, ⟨ob, n, ho, hc, hdn, hd⟩, hlen⟩ := Inv.list I hs
  obtain ⟨cls, dd, data, sl⟩ := ob
  subst hc hd
  refine call_meets F.slot_list_count ⟨_, ho, rfl⟩ F.entry_list_count (F.args_list_count_2 _ _) (SeqAt.list_countAt a its.toArray n dd sl b (eqU y)) ⟨ho, fun u' hu' => mem_eqAt ry fy rv fys u' (by simpa using hu'), .int (ys.countP fun z => eqV z y : Nat), H, Inv.tok I (s.toks + 1), ⟨s.toks, ?_⟩, q⟩
  rw [← cntU rv fys]
end SL
namespace SL
open PySem PySem.Spec PyProof.Rows L2
/-! ### dicts within dicts: != -/
theorem o_eqT {X : Cx} {K : PySem.W.Frag} (hu : X.A.units + 64 < cLine) (hK : X.K = K := by rfl) : OpR X (compareOp .Eq) (rEqV K) := by
  subst hK
  exact op_eqV hu
end SL
namespace SL
open PySem PySem.Spec PyProof.Rows L2 SX
theorem ifT {α : Sort _} {d : Decidable True} {a b : α} : @ite α True d a b = a := if_pos trivial
theorem ifF {α : Sort _} {d : Decidable False} {a b : α} : @ite α False d a b = b := if_neg id
/-- a statement by what is wanted behind it -/
def sMid (t : TS) : TS := fun D σ H => ∃ D' : Ends, t D' σ H ∧ (∀ σ H, D'.nx σ H → D.nx σ H) ∧ (∀ v H, D'.rt v H → D.rt v H) ∧ (∀ σ H, D'.bk σ H → D.bk σ H) ∧ ∀ σ H, D'.ct σ H → D.ct σ H
theorem ps_mid {X : Cx} {st : Stmt} {t : TS} (h : PS X st t) : PS X st (sMid t) := ⟨fun pins s σ H D I ⟨D', h1, n, r, b, c⟩ => thn (h.run pins s σ H D' I h1) fun f s' q => by
  cases f with
  | next => obtain ⟨σ', H', J, k⟩ := q; exact ⟨σ', H', J, n _ _ k⟩
  | brk => obtain ⟨σ', H', J, k⟩ := q; exact ⟨σ', H', J, b _ _ k⟩
  | cont => obtain ⟨σ', H', J, k⟩ := q; exact ⟨σ', H', J, c _ _ k⟩
  | ret u => obtain ⟨v, σ', H', J, e, k⟩ := q; exact ⟨v, σ', H', J, e, r _ _ k⟩⟩
/-- a statement, then the rest: Pm stands between -/
theorem q_stm {t u : TS} {D : Ends} {σ : L2.St} {H : Hp} (Pm : L2.St → Hp → Prop) (h : t { D with nx := Pm } σ H) (k : ∀ σ H, Pm σ H → u D σ H) : tSeq (sMid t) u D σ H :=
  ⟨{ D with nx := Pm }, h, k, fun _ _ q => q, fun _ _ q => q, fun _ _ q => q⟩
/-! ### forms of parts, as the laws write them -/
inductive PF where
  | one (c : Nat)
  | any
  | among (l : List Nat) (o : Bool)
  | stars
deriving DecidableEq
def SIG : List Nat := (Str.ofString "-.0123456789_abcdefghijklmnopqrstuvwxyz").cps.toList
theorem sig_len : SIG.length = 39 := by decide +kernel
theorem sig_up : SIG.Pairwise (· < ·) := by decide +kernel
def PF.d : PF → PyData
  | .one c => .tuple [.str "one", .str (S [c])]
  | .any => .tuple [.str "any"]
  | .among l o => .tuple [.str "among", .str (S l), .bool o]
  | .stars => .tuple [.str "stars"]
/-- a set of signs, rising -/
structure SigSet (l : List Nat) : Prop where
  ne : l ≠ []
  up : l.Pairwise (· < ·)
  sg : ∀ c ∈ l, c ∈ SIG
def PF.Ok : PF → Prop
  | .one c => c ∈ SIG
  | .among l _ => SigSet l ∧ l.length ≤ 12
  | _ => True
def PF.fits (f : PF) (c : Nat) : Bool := match f with
  | .one d => decide (c = d)
  | .among l o => (decide (c ∈ l)) != o
  | _ => true
def PF.many : PF → Bool
  | .stars => true
  | _ => false
/-- sets outside are of three signs at most -/
def PF.Low : PF → Prop
  | .among l true => l.length ≤ 3
  | _ => True
theorem manyOne {c : Nat} : (PF.one c).many = false := rfl
theorem manyAny : PF.any.many = false := rfl
theorem manyAmong {l : List Nat} {o : Bool} : (PF.among l o).many = false := rfl
theorem manyStars : PF.stars.many = true := rfl
theorem nd_up {l : List Nat} (h : l.Pairwise (· < ·)) : l.Nodup := h.imp fun h => Nat.ne_of_lt h
theorem str_nd_len : ∀ (l D : List Str), l.Nodup → (∀ x ∈ l, x ∈ D) → l.length ≤ D.length
  | [], _, _, _ => Nat.zero_le _
  | x :: l, D, hn, hs => by
    obtain ⟨h1, h2⟩ := List.nodup_cons.mp hn
    have hx : x ∈ D := hs x List.mem_cons_self
    have ih := str_nd_len l (D.erase x) h2 fun y hy => by
      have hne : y ≠ x := fun e => h1 (e ▸ hy)
      exact (List.mem_erase_of_ne hne).2 (hs y (List.mem_cons_of_mem _ hy))
    have e := List.length_erase_of_mem hx
    have hp : 0 < D.length := List.length_pos_of_mem hx
    rw [List.length_cons]
    omega
theorem nd_len {l : List Nat} (h : l.Nodup) (s : ∀ c ∈ l, c ∈ SIG) : l.length ≤ 39 := by
  have e := nat_nodup_len l SIG h s
  rw [sig_len] at e
  exact e
theorem SigSet.len {l : List Nat} (h : SigSet l) : l.length ≤ 39 := nd_len (nd_up h.up) h.sg
/-- data that may be compared, at most n deep -/
def DOk (n : Nat) (d : PyData) : Prop := d.canLay0 = true ∧ d.depth ≤ n
theorem DOk.up {n m : Nat} {d : PyData} (h : DOk n d) (e : n ≤ m) : DOk m d := ⟨h.1, Nat.le_trans h.2 e⟩
theorem dok_str {x : Str} {n : Nat} (h : PyData.strOk x = true) : DOk n (.str x) := ⟨by simp only [PyData.canLay0]; exact h, by simp only [PyData.depth]; omega⟩
theorem dok_bl {b : Bool} {n : Nat} : DOk n (.bool b) := ⟨by simp only [PyData.canLay0], by simp only [PyData.depth]; omega⟩
theorem dok_int {i : Int} {n : Nat} : DOk n (.int i) := ⟨by simp only [PyData.canLay0], by simp only [PyData.depth]; omega⟩
theorem dok_non {n : Nat} : DOk n .none := ⟨by simp only [PyData.canLay0], by simp only [PyData.depth]; omega⟩
theorem dok_all {n : Nat} : ∀ {ds : List PyData}, (∀ d ∈ ds, DOk n d) → PyData.canLayAll0 ds = true ∧ PyData.depthAll ds ≤ n
  | [], _ => ⟨by simp only [PyData.canLayAll0], by simp only [PyData.depthAll]; omega⟩
  | d :: r, h => by
    have h1 := h d List.mem_cons_self
    have h2 := dok_all (ds := r) fun e he => h e (List.mem_cons_of_mem _ he)
    refine ⟨by simp only [PyData.canLayAll0, h1.1, h2.1]; rfl, ?_⟩
    simp only [PyData.depthAll]
    have := h1.2
    have := h2.2
    omega
theorem dok_tup {n : Nat} {ds : List PyData} (h : ∀ d ∈ ds, DOk n d) : DOk (n + 1) (.tuple ds) := by
  have e := dok_all h
  exact ⟨by simp only [PyData.canLay0]; exact e.1, by simp only [PyData.depth]; omega⟩
theorem dok_lst {n : Nat} {ds : List PyData} (h : ∀ d ∈ ds, DOk n d) : DOk (n + 1) (.list ds) := by
  have e := dok_all h
  exact ⟨by simp only [PyData.canLay0]; exact e.1, by simp only [PyData.depth]; omega⟩
theorem DOk.shaped {n : Nat} {d : PyData} (h : DOk n d) (e : n ≤ 64) : SeqAt.shaped d = true := by
  show (d.canLay0 && decide (d.depth ≤ 64)) = true
  rw [Bool.and_eq_true]
  exact ⟨h.1, decide_eq_true (Nat.le_trans h.2 e)⟩
theorem DOk.eqv {n : Nat} {d : PyData} (h : DOk n d) : PyData.eqv d d = true := SeqAt.eqv_refl _ h.1
theorem all_nil {p : PyData → Prop} : ∀ d ∈ ([] : List PyData), p d := fun _ h => nomatch h
theorem all_cons {p : PyData → Prop} {x : PyData} {l : List PyData} (h : p x) (t : ∀ d ∈ l, p d) : ∀ d ∈ x :: l, p d := fun d h' => (List.mem_cons.mp h').elim (fun e => e ▸ h) (t d)
theorem ok_signs {l : List Nat} (h : ∀ c ∈ l, c ∈ SIG) : PyData.strOk (S l) = true := by
  have k : ∀ c ∈ SIG, c < 128 := by decide +kernel
  unfold PyData.strOk
  rw [← Array.all_toList, List.all_eq_true]
  exact fun c hc => decide_eq_true (Nat.lt_trans (k c (h c hc)) (by decide))
theorem PF.dok {f : PF} (h : f.Ok) : DOk 1 f.d := by
  cases f with
  | one c => exact dok_tup (all_cons (dok_str (by decide +kernel)) (all_cons (dok_str (ok_signs fun d hd => by rw [List.mem_singleton.mp hd]; exact h)) all_nil))
  | any => exact dok_tup (all_cons (dok_str (by decide +kernel)) all_nil)
  | among l o => exact dok_tup (all_cons (dok_str (by decide +kernel)) (all_cons (dok_str (ok_signs h.1.sg)) (all_cons dok_bl all_nil)))
  | stars => exact dok_tup (all_cons (dok_str (by decide +kernel)) all_nil)
/-! ### signs put in order -/
theorem S1_inj {a b : Nat} (h : S [a] = S [b]) : a = b := List.head_eq_of_cons_eq (S_inj h)
theorem map1_mem {cs : List Nat} {c : Nat} : S [c] ∈ (cs.map fun c => S [c]) ↔ c ∈ cs := by
  rw [List.mem_map]
  exact ⟨fun ⟨d, hd, e⟩ => by rw [← S1_inj e]; exact hd, fun h => ⟨c, h, rfl⟩⟩
theorem signs_of : ∀ {ys : List Str}, (∀ y ∈ ys, ∃ c, y = S [c]) → ∃ cs : List Nat, ys = cs.map fun c => S [c]
  | [], _ => ⟨[], rfl⟩
  | y :: r, h => by
    obtain ⟨c, rfl⟩ := h y List.mem_cons_self
    obtain ⟨cs, rfl⟩ := signs_of (ys := r) fun z hz => h z (List.mem_cons_of_mem _ hz)
    exact ⟨c :: cs, rfl⟩
theorem rising_codes : ∀ (cs : List Nat) (p : Nat), risingS (S [p]) (cs.map fun c => S [c]) = true → (p :: cs).Pairwise (· ≤ ·)
  | [], p, _ => by simp
  | c :: r, p, h => by
    have h' : (!ltCps [c] [p] && risingS (S [c]) (r.map fun c => S [c])) = true := h
    rw [Bool.and_eq_true] at h'
    have h1 : p ≤ c := by
      have e := h'.1
      unfold ltCps at e
      simp [ltCps] at e
      exact e
    have h2 := rising_codes r c h'.2
    refine List.pairwise_cons.mpr ⟨fun d hd => ?_, h2⟩
    rcases List.mem_cons.mp hd with rfl | hd
    · exact h1
    · exact Nat.le_trans h1 ((List.pairwise_cons.mp h2).1 d hd)
theorem sorted_codes : ∀ (cs : List Nat), sortedS (cs.map fun c => S [c]) = true → cs.Pairwise (· ≤ ·)
  | [], _ => .nil
  | c :: r, h => rising_codes r c h
theorem le_lt_nd : ∀ {l : List Nat}, l.Pairwise (· ≤ ·) → l.Nodup → l.Pairwise (· < ·)
  | [], _, _ => .nil
  | a :: r, h, n => by
    have h' := List.pairwise_cons.mp h
    have n' := List.nodup_cons.mp n
    refine List.pairwise_cons.mpr ⟨fun b hb => ?_, le_lt_nd h'.2 n'.2⟩
    have e := h'.1 b hb
    have q : a ≠ b := fun z => n'.1 (z ▸ hb)
    omega
theorem nd_unmap : ∀ {cs : List Nat}, (cs.map fun c => S [c]).Nodup → cs.Nodup
  | [], _ => .nil
  | c :: r, h => by
    have h' := List.nodup_cons.mp h
    exact List.nodup_cons.mpr ⟨fun q => h'.1 (map1_mem.mpr q), nd_unmap h'.2⟩
/-- sorted signs, each once -/
theorem sorted_signs {ys zs : List Str} (pm : ys.Perm zs) (so : sortedS ys = true) (nd : zs.Nodup) (h : ∀ z ∈ zs, ∃ c, z = S [c]) : ∃ cs : List Nat, ys = cs.map (fun c => S [c]) ∧ cs.Pairwise (· < ·) ∧ ∀ c, c ∈ cs ↔ S [c] ∈ zs := by
  obtain ⟨cs, rfl⟩ := signs_of (ys := ys) fun y hy => h y (pm.mem_iff.mp hy)
  exact ⟨cs, rfl, le_lt_nd (sorted_codes cs so) (nd_unmap (pm.nodup_iff.mpr nd)), fun c => by rw [← pm.mem_iff, map1_mem]⟩
/-- a text of different signs, one at least -/
def Good (z : Str) : Prop := ∃ l, SigSet l ∧ z.cps.toList.Perm l
theorem not_nd : ∀ {zs : List Str}, ¬ zs.Nodup → ∃ x ∈ zs, ∀ y ∈ zs, y ∈ zs.erase x
  | [], h => absurd .nil h
  | a :: r, h => by
    by_cases ha : a ∈ r
    · refine ⟨a, List.mem_cons_self, fun y hy => ?_⟩
      rw [List.erase_cons_head]
      exact (List.mem_cons.mp hy).elim (fun e => e ▸ ha) id
    · obtain ⟨x, hx, hs⟩ := not_nd (zs := r) fun n => h (List.nodup_cons.mpr ⟨ha, n⟩)
      have hne : a ≠ x := fun e => ha (e ▸ hx)
      refine ⟨x, List.mem_cons_of_mem _ hx, fun y hy => ?_⟩
      rw [List.erase_cons_tail (by simpa using hne)]
      exact (List.mem_cons.mp hy).elim (fun e => e ▸ List.mem_cons_self) fun q => List.mem_cons_of_mem _ (hs y q)
/-- how many different texts there are tells whether each is there once -/
theorem set_len {l zs : List Str} (nd : l.Nodup) (h : ∀ x, x ∈ l ↔ x ∈ zs) : (l.length < zs.length) = ¬ zs.Nodup := by
  refine propext ⟨fun hl n => ?_, fun hn => ?_⟩
  · have := str_nd_len zs l n fun x hx => (h x).mpr hx
    omega
  · obtain ⟨x, hx, hs⟩ := not_nd hn
    have a := str_nd_len l (zs.erase x) nd fun y hy => hs y ((h y).mp hy)
    have b := List.length_erase_of_mem hx
    have c := List.length_pos_of_mem hx
    omega
theorem nd_map1 : ∀ {cs : List Nat}, cs.Nodup → (cs.map fun c => S [c]).Nodup
  | [], _ => .nil
  | c :: r, h => by
    have h' := List.nodup_cons.mp h
    exact List.nodup_cons.mpr ⟨fun q => h'.1 (map1_mem.mp q), nd_map1 h'.2⟩
theorem insU_up (a : Nat) : ∀ (l : List Nat), l.Pairwise (· < ·) → a ∉ l → ∃ m : List Nat, m.Pairwise (· < ·) ∧ (a :: l).Perm m
  | [], _, _ => ⟨[a], List.pairwise_singleton _ _, .refl _⟩
  | b :: r, h, n => by
    have h' := List.pairwise_cons.mp h
    rcases Nat.lt_trichotomy a b with q | q | q
    · exact ⟨a :: b :: r, List.pairwise_cons.mpr ⟨fun c hc => (List.mem_cons.mp hc).elim (fun e => e ▸ q) fun e => Nat.lt_trans q (h'.1 c e), h⟩, .refl _⟩
    · exact absurd (q ▸ List.mem_cons_self) n
    · obtain ⟨m, m1, m2⟩ := insU_up a r h'.2 fun e => n (List.mem_cons_of_mem _ e)
      refine ⟨b :: m, List.pairwise_cons.mpr ⟨fun c hc => ?_, m1⟩, (List.Perm.swap b a r).trans (m2.cons b)⟩
      exact (List.mem_cons.mp (m2.mem_iff.mpr hc)).elim (fun e => e ▸ q) (h'.1 c)
theorem up_of : ∀ {l : List Nat}, l.Nodup → ∃ m : List Nat, m.Pairwise (· < ·) ∧ l.Perm m
  | [], _ => ⟨[], .nil, .refl _⟩
  | a :: r, h => by
    have h' := List.nodup_cons.mp h
    obtain ⟨m, m1, m2⟩ := up_of h'.2
    obtain ⟨k, k1, k2⟩ := insU_up a m m1 fun e => h'.1 (m2.mem_iff.mpr e)
    exact ⟨k, k1, (m2.cons a).trans k2⟩
theorem good_iff {z : Str} : Good z ↔ z ≠ S [] ∧ (chars z).Nodup ∧ ∀ c ∈ z.cps.toList, c ∈ SIG := by
  refine ⟨fun ⟨l, ok, pm⟩ => ⟨fun e => ?_, nd_map1 (pm.nodup_iff.mpr (nd_up ok.up)), fun c hc => ok.sg c (pm.mem_iff.mp hc)⟩, fun ⟨ne, nd, sg⟩ => ?_⟩
  · rw [e] at pm
    exact ok.ne (List.nil_perm.mp pm)
  · obtain ⟨m, m1, m2⟩ := up_of (nd_unmap nd)
    refine ⟨m, ⟨fun e => ne ?_, m1, fun c hc => sg c (m2.mem_iff.mpr hc)⟩, m2⟩
    rw [e] at m2
    have e2 := m2.eq_nil
    exact (S_tl z).symm.trans (congrArg S e2)
/-- two rising lists with the same members are one -/
theorem up_eq {a b : List Nat} (ha : a.Pairwise (· < ·)) (hb : b.Pairwise (· < ·)) (h : ∀ c, c ∈ a ↔ c ∈ b) : a = b := by
  have p : a.Perm b := (List.perm_ext_iff_of_nodup (nd_up ha) (nd_up hb)).mpr h
  exact p.eq_of_pairwise (fun x y _ _ h1 h2 => absurd h1 (Nat.lt_asymm h2)) ha hb
theorem lkSign {a : V} : List.lookup (Str.ofString "sign") [(Str.ofString "sign", a)] = some a := rfl
theorem lkSigns {a b : V} : List.lookup (Str.ofString "signs") [(Str.ofString "signs", a), (Str.ofString "outside", b)] = some a := rfl
theorem lkParts {a : V} : List.lookup (Str.ofString "parts") [(Str.ofString "parts", a)] = some a := rfl
theorem lkOut {a b : V} : List.lookup (Str.ofString "outside") [(Str.ofString "signs", a), (Str.ofString "outside", b)] = some b := rfl
theorem pfNil {f : Str} {y : V} : putF f y [] = [(f, y)] := rfl
theorem pfOut {a y : V} : putF (Str.ofString "outside") y [(Str.ofString "signs", a)] = [(Str.ofString "signs", a), (Str.ofString "outside", y)] := rfl
theorem lkSteps {a b c : V} : List.lookup (Str.ofString "steps") [(Str.ofString "steps", a), (Str.ofString "spares", b), (Str.ofString "folders", c)] = some a := rfl
theorem lkSpares {a b c : V} : List.lookup (Str.ofString "spares") [(Str.ofString "steps", a), (Str.ofString "spares", b), (Str.ofString "folders", c)] = some b := rfl
theorem lkFolders {a b c : V} : List.lookup (Str.ofString "folders") [(Str.ofString "steps", a), (Str.ofString "spares", b), (Str.ofString "folders", c)] = some c := rfl
theorem pfSpares {a y : V} : putF (Str.ofString "spares") y [(Str.ofString "steps", a)] = [(Str.ofString "steps", a), (Str.ofString "spares", y)] := rfl
theorem pfFolders {a b y : V} : putF (Str.ofString "folders") y [(Str.ofString "steps", a), (Str.ofString "spares", b)] = [(Str.ofString "steps", a), (Str.ofString "spares", b), (Str.ofString "folders", y)] := rfl
theorem strEq {a b : String} : (Str.ofString a = Str.ofString b) = (a = b) := by
  refine propext ⟨fun h => ?_, fun h => by rw [h]⟩
  rw [Str.ofString_eq_toList, Str.ofString_eq_toList] at h
  have h1 : a.toList.map Char.toNat = b.toList.map Char.toNat := by
    have e := congrArg (fun x : Str => x.cps.toList) h
    exact e
  have h2 : a.toList = b.toList := by
    generalize a.toList = l at h1
    generalize b.toList = m at h1
    induction l generalizing m with
    | nil => cases m with
      | nil => rfl
      | cons d t => exact absurd h1 (by simp)
    | cons c r ih => cases m with
      | nil => exact absurd h1 (by simp)
      | cons d t =>
        rw [List.map_cons, List.map_cons] at h1
        injection h1 with h3 h4
        have e : c = d := Char.ext (UInt32.toNat_inj.mp h3)
        rw [e, ih t h4]
  exact String.toList_inj.mp h2
/-- lists of data, one of each -/
theorem dp_map {K : PySem.W.Frag} {H : Hp} {α : Type} (f : α → V) (d : α → PyData) (h : ∀ x, Dp K H (f x) (d x)) : ∀ l : List α, DpAll K H (l.map f) (l.map d)
  | [] => .nil
  | x :: r => .cons (h x) (dp_map f d h r)
/-! ### parts as objects -/
section
variable {K : PySem.W.Frag}
def PartO (K : PySem.W.Frag) (dx : Addr) : PF → HO
  | .one c => .ins (He.ga K "One") dx [("sign", .str (S [c]))]
  | .any => .ins (He.ga K "Any") dx []
  | .among l o => .ins (He.ga K "Among") dx [("signs", .str (S l)), ("outside", .bl o)]
  | .stars => .ins (He.ga K "Stars") dx []
def PartV (K : PySem.W.Frag) (f : PF) (v : V) (H : Hp) : Prop := ∃ p dx, v = .ref p ∧ H p = some (PartO K dx f)
theorem PartO.nl {dx : Addr} {f : PF} (l : List V) : PartO K dx f ≠ .lst l := by cases f <;> exact fun h => nomatch h
theorem PartV.nl {f : PF} {v : V} {H H' : Hp} (h : PartV K f v H) (e : NL H H') : PartV K f v H' := let ⟨p, dx, ev, hp⟩ := h; ⟨p, dx, ev, e _ _ hp PartO.nl⟩
theorem PartV.mono {f : PF} {v : V} {H H' : Hp} (h : PartV K f v H) (e : Same H H') : PartV K f v H' := h.nl (.of e)
end
theorem OkD.imp {P : Program} {w : World} {K : PySem.W.Frag} {mg : Str → Option Value} {base : Heap} {k : Nat} {f : Addr} {ps : List Str} {dvs : List V} {sp sp' : Sp} (h : OkD P w K mg base k f ps dvs sp) (i : ∀ vs H Q E, sp' vs H Q E → sp vs H Q E) : OkD P w K mg base k f ps dvs sp' := by
  obtain ⟨fd, ds, F, r⟩ := h
  exact ⟨fd, ds, F.imp i, r⟩
end SL
namespace SL
open PySem PySem.Spec PyProof.Rows L2 SX
/-! ### names along parts -/
/-- the parts laid along the name -/
def Fit : List PF → List Nat → Prop
  | [], w => w = []
  | f :: fs, w => if f.many = true then ∃ u v, w = u ++ v ∧ Fit fs v else ∃ c v, w = c :: v ∧ f.fits c = true ∧ Fit fs v
theorem fit_star {f : PF} {fs : List PF} {w : List Nat} (h : f.many = true) : Fit (f :: fs) w ↔ ∃ u v, w = u ++ v ∧ Fit fs v := by
  show (if f.many = true then _ else _) ↔ _
  rw [if_pos h]
theorem fit_one {f : PF} {fs : List PF} {w : List Nat} (h : f.many = false) : Fit (f :: fs) w ↔ ∃ c v, w = c :: v ∧ f.fits c = true ∧ Fit fs v := by
  show (if f.many = true then _ else _) ↔ _
  rw [if_neg (by rw [h]; exact Bool.false_ne_true)]
theorem fit_app : ∀ (fs gs : List PF) (w : List Nat), Fit (fs ++ gs) w ↔ ∃ u v, w = u ++ v ∧ Fit fs u ∧ Fit gs v
  | [], gs, w => ⟨fun h => ⟨[], w, rfl, rfl, h⟩, fun ⟨u, v, e, h1, h2⟩ => by
    cases (show u = [] from h1)
    rw [e]
    exact h2⟩
  | f :: fs, gs, w => by
    rw [List.cons_append]
    cases h : f.many with
    | true =>
      rw [fit_star h]
      constructor
      · rintro ⟨u, v, rfl, hv⟩
        obtain ⟨a, b, rfl, ha, hb⟩ := (fit_app fs gs v).mp hv
        exact ⟨u ++ a, b, by rw [List.append_assoc], (fit_star h).mpr ⟨u, a, rfl, ha⟩, hb⟩
      · rintro ⟨a, b, rfl, ha, hb⟩
        obtain ⟨u, v, rfl, hv⟩ := (fit_star h).mp ha
        exact ⟨u, v ++ b, by rw [List.append_assoc], (fit_app fs gs _).mpr ⟨v, b, rfl, hv, hb⟩⟩
    | false =>
      rw [fit_one h]
      constructor
      · rintro ⟨c, v, rfl, hc, hv⟩
        obtain ⟨a, b, rfl, ha, hb⟩ := (fit_app fs gs v).mp hv
        exact ⟨c :: a, b, rfl, (fit_one h).mpr ⟨c, a, rfl, hc, ha⟩, hb⟩
      · rintro ⟨a, b, rfl, ha, hb⟩
        obtain ⟨c, v, rfl, hc, hv⟩ := (fit_one h).mp ha
        exact ⟨c, v ++ b, rfl, hc, (fit_app fs gs _).mpr ⟨v, b, rfl, hv, hb⟩⟩
def starAt (fs : List PF) (j : Nat) : Bool := match fs[j]? with
  | some f => f.many
  | none => false
theorem starAt_lt {fs : List PF} {j : Nat} (h : starAt fs j = true) : j < fs.length := by
  unfold starAt at h
  rcases Nat.lt_or_ge j fs.length with e | e
  · exact e
  · rw [List.getElem?_eq_none e] at h
    cases h
theorem starAt_eq {fs : List PF} {j : Nat} {f : PF} (h : fs[j]? = some f) : starAt fs j = f.many := by
  unfold starAt
  rw [h]
theorem take_succ' {fs : List PF} {j : Nat} {f : PF} (h : fs[j]? = some f) : fs.take (j + 1) = fs.take j ++ [f] := by
  rw [List.take_succ, h]
  rfl
theorem fit_take_star {fs : List PF} {j : Nat} {w : List Nat} (h : starAt fs j = true) : Fit (fs.take (j + 1)) w ↔ ∃ u v, w = u ++ v ∧ Fit (fs.take j) u := by
  have hl := starAt_lt h
  have hf : fs[j]? = some fs[j] := List.getElem?_eq_getElem hl
  rw [starAt_eq hf] at h
  rw [take_succ' hf, fit_app]
  constructor
  · rintro ⟨u, v, e, h1, _⟩
    exact ⟨u, v, e, h1⟩
  · rintro ⟨u, v, e, h1⟩
    exact ⟨u, v, e, h1, (fit_star h).mpr ⟨v, [], by rw [List.append_nil], rfl⟩⟩
theorem fit_take_one {fs : List PF} {j : Nat} {w : List Nat} {f : PF} (hf : fs[j]? = some f) (h : f.many = false) : Fit (fs.take (j + 1)) w ↔ ∃ u c, w = u ++ [c] ∧ Fit (fs.take j) u ∧ f.fits c = true := by
  rw [take_succ' hf, fit_app]
  constructor
  · rintro ⟨u, v, rfl, h1, h2⟩
    obtain ⟨c, v', rfl, hc, hv⟩ := (fit_one h).mp h2
    cases (show v' = [] from hv)
    exact ⟨u, c, rfl, h1, hc⟩
  · rintro ⟨u, c, rfl, h1, hc⟩
    exact ⟨u, [c], rfl, h1, (fit_one h).mpr ⟨c, [], rfl, hc, rfl⟩⟩
/-- from s on by stars alone -/
def Clos (fs : List PF) (s i : Nat) : Prop := s ≤ i ∧ ∀ k, s ≤ k → k < i → starAt fs k = true
theorem Clos.refl {fs : List PF} {s : Nat} : Clos fs s s := ⟨Nat.le_refl _, fun k a b => absurd b (by omega)⟩
theorem Clos.trans {fs : List PF} {a b c : Nat} (h : Clos fs a b) (g : Clos fs b c) : Clos fs a c := ⟨Nat.le_trans h.1 g.1, fun k h1 h2 => by
  rcases Nat.lt_or_ge k b with e | e
  · exact h.2 k h1 e
  · exact g.2 k e h2⟩
theorem Clos.snoc {fs : List PF} {a b : Nat} (h : Clos fs a b) (g : starAt fs b = true) : Clos fs a (b + 1) := h.trans ⟨Nat.le_succ _, fun k h1 h2 => by
  have e : k = b := by omega
  rw [e]
  exact g⟩
theorem Clos.le {fs : List PF} {s i n : Nat} (h : Clos fs s i) (hs : s ≤ fs.length) : i ≤ fs.length := by
  rcases Nat.eq_or_lt_of_le h.1 with e | e
  · omega
  · have := starAt_lt (h.2 (i - 1) (by omega) (by omega))
    omega
/-- spot i behind the signs w -/
def At (fs : List PF) (w : List Nat) (i : Nat) : Prop := i ≤ fs.length ∧ (Fit (fs.take i) w ∨ starAt fs i = true ∧ Fit (fs.take (i + 1)) w)
theorem fit_more {fs : List PF} {i : Nat} {w : List Nat} (h : starAt fs i = true) (g : Fit (fs.take i) w) : Fit (fs.take (i + 1)) w := (fit_take_star h).mpr ⟨w, [], by rw [List.append_nil], g⟩
theorem at_clos {fs : List PF} {w : List Nat} {s : Nat} (hs : s ≤ fs.length) (h : Fit (fs.take s) w) : ∀ i, Clos fs s i → Fit (fs.take i) w := by
  intro i hc
  obtain ⟨h1, h2⟩ := hc
  induction i with
  | zero =>
    have e : s = 0 := by omega
    rw [← e]
    exact h
  | succ i ih =>
    rcases Nat.eq_or_lt_of_le h1 with e | e
    · rw [← e]; exact h
    · exact fit_more (h2 i (by omega) (by omega)) (ih (by omega) fun k a b => h2 k a (by omega))
theorem at_nil {fs : List PF} {i : Nat} : At fs [] i ↔ Clos fs 0 i := by
  have key : ∀ j, Fit (fs.take j) [] → j ≤ fs.length → Clos fs 0 j := by
    intro j
    induction j with
    | zero => exact fun _ _ => Clos.refl
    | succ j ih =>
      intro h hl
      have hf : fs[j]? = some fs[j] := List.getElem?_eq_getElem hl
      cases hm : fs[j].many with
      | true =>
        have hst : starAt fs j = true := by rw [starAt_eq hf]; exact hm
        obtain ⟨u, v, e, hu⟩ := (fit_take_star hst).mp h
        have e2 := List.append_eq_nil_iff.mp e.symm
        rw [e2.1] at hu
        exact (ih hu (by omega)).snoc hst
      | false =>
        obtain ⟨u, c, e, _⟩ := (fit_take_one hf hm).mp h
        exact absurd e.symm (by simp)
  constructor
  · rintro ⟨hl, h | ⟨hs, h⟩⟩
    · exact key i h hl
    · have hlt := starAt_lt hs
      have := key (i + 1) h (by omega)
      exact ⟨Nat.zero_le _, fun k a b => this.2 k a (by omega)⟩
  · intro h
    exact ⟨h.le (n := 0) (Nat.zero_le _), .inl (at_clos (Nat.zero_le _) (by simp [Fit]) i h)⟩
/-- one sign on -/
theorem at_snoc {fs : List PF} {w : List Nat} {c i : Nat} : At fs (w ++ [c]) i ↔ ∃ s f, At fs w s ∧ fs[s]? = some f ∧ f.fits c = true ∧ Clos fs (if f.many = true then s else s + 1) i := by
  have key : ∀ j, j ≤ fs.length → Fit (fs.take j) (w ++ [c]) → ∃ s f, At fs w s ∧ fs[s]? = some f ∧ f.fits c = true ∧ Clos fs (if f.many = true then s else s + 1) j := by
    intro j
    induction j with
    | zero => exact fun _ h => absurd (show w ++ [c] = [] from by simpa [Fit] using h) (by simp)
    | succ j ih =>
      intro hl h
      have hf : fs[j]? = some fs[j] := List.getElem?_eq_getElem hl
      cases hm : fs[j].many with
      | true =>
        have hst : starAt fs j = true := by rw [starAt_eq hf]; exact hm
        obtain ⟨u, v, e, hu⟩ := (fit_take_star hst).mp h
        rcases List.eq_nil_or_concat v with rfl | ⟨v', d, rfl⟩
        · rw [List.append_nil] at e
          rw [← e] at hu
          obtain ⟨s, f, a1, a2, a3, a4⟩ := ih (by omega) hu
          exact ⟨s, f, a1, a2, a3, a4.snoc hst⟩
        · rw [List.concat_eq_append, ← List.append_assoc] at e
          obtain ⟨e1, e2⟩ := List.append_inj' e rfl
          refine ⟨j, fs[j], ⟨by omega, .inr ⟨hst, (fit_take_star hst).mpr ⟨u, v', e1, hu⟩⟩⟩, hf, ?_, ?_⟩
          · cases hq : fs[j] with
            | stars => rfl
            | _ => rw [hq] at hm; cases hm
          · rw [if_pos hm]
            exact Clos.refl.snoc hst
      | false =>
        obtain ⟨u, d, e, hu, hd⟩ := (fit_take_one hf hm).mp h
        obtain ⟨e1, e2⟩ := List.append_inj' e rfl
        injection e2 with e3
        subst e1 e3
        exact ⟨j, fs[j], ⟨by omega, .inl hu⟩, hf, hd, by rw [if_neg (by rw [hm]; exact Bool.false_ne_true)]; exact Clos.refl⟩
  constructor
  · rintro ⟨hl, h | ⟨hs, h⟩⟩
    · exact key i hl h
    · have hlt := starAt_lt hs
      obtain ⟨u, v, e, hu⟩ := (fit_take_star hs).mp h
      have hf : fs[i]? = some fs[i] := List.getElem?_eq_getElem hlt
      have hm : fs[i].many = true := by rw [← starAt_eq hf]; exact hs
      rcases List.eq_nil_or_concat v with rfl | ⟨v', d, rfl⟩
      · rw [List.append_nil] at e
        rw [← e] at hu
        exact key i hl hu
      · rw [List.concat_eq_append, ← List.append_assoc] at e
        obtain ⟨e1, e2⟩ := List.append_inj' e rfl
        refine ⟨i, fs[i], ⟨hl, .inr ⟨hs, (fit_take_star hs).mpr ⟨u, v', e1, hu⟩⟩⟩, hf, ?_, ?_⟩
        · cases hq : fs[i] with
          | stars => rfl
          | _ => rw [hq] at hm; cases hm
        · rw [if_pos hm]
          exact Clos.refl
  · rintro ⟨s, f, ⟨hl, ha⟩, hf, hc, hcl⟩
    have hlt : s < fs.length := (List.getElem?_eq_some_iff.mp hf).1
    cases hm : f.many with
    | true =>
      rw [if_pos hm] at hcl
      have hst : starAt fs s = true := by rw [starAt_eq hf]; exact hm
      have h1 : Fit (fs.take (s + 1)) (w ++ [c]) := by
        rcases ha with h | ⟨_, h⟩
        · exact (fit_take_star hst).mpr ⟨w, [c], rfl, h⟩
        · obtain ⟨u, v, rfl, hu⟩ := (fit_take_star hst).mp h
          exact (fit_take_star hst).mpr ⟨u, v ++ [c], by rw [List.append_assoc], hu⟩
      rcases Nat.eq_or_lt_of_le hcl.1 with e | e
      · rw [← e]
        exact ⟨hl, .inr ⟨hst, h1⟩⟩
      · have h2 := at_clos hlt h1 i ⟨e, fun k a b => hcl.2 k (by omega) b⟩
        exact ⟨hcl.le (n := 0) hl, .inl h2⟩
    | false =>
      rw [if_neg (by rw [hm]; exact Bool.false_ne_true)] at hcl
      have h0 : Fit (fs.take s) w := by
        rcases ha with h | ⟨h, _⟩
        · exact h
        · rw [starAt_eq hf, hm] at h
          cases h
      have h1 : Fit (fs.take (s + 1)) (w ++ [c]) := (fit_take_one hf hm).mpr ⟨w, c, rfl, h0, hc⟩
      exact ⟨hcl.le (n := 0) hlt, .inl (at_clos hlt h1 i hcl)⟩
theorem at_end {fs : List PF} {w : List Nat} : At fs w fs.length ↔ Fit fs w := by
  unfold At
  rw [List.take_length]
  constructor
  · rintro ⟨_, h | ⟨h, _⟩⟩
    · exact h
    · exact absurd (starAt_lt h) (Nat.lt_irrefl _)
  · exact fun h => ⟨Nat.le_refl _, .inl h⟩
/-! ### forms of steps, steps as objects -/
inductive SF where
  | deep
  | seg (fs : List PF)
deriving DecidableEq
def SF.d : SF → PyData
  | .deep => .tuple [.str "deep"]
  | .seg fs => .tuple [.str "segment", .tuple (fs.map PF.d)]
/-- no two stars next to one another -/
def NoTwo : List PF → Prop
  | f :: g :: r => ¬ (f.many = true ∧ g.many = true) ∧ NoTwo (g :: r)
  | _ => True
structure PartsOk (fs : List PF) : Prop where
  ne : fs ≠ []
  ok : ∀ f ∈ fs, f.Ok
  two : NoTwo fs
  len : fs.length ≤ 60
def SF.Ok : SF → Prop
  | .deep => True
  | .seg fs => PartsOk fs
def SF.deepB : SF → Bool
  | .deep => true
  | _ => false
def SF.fits : SF → List Nat → Prop
  | .deep, _ => True
  | .seg fs, w => Fit fs w
theorem SF.dok {f : SF} (h : f.Ok) : DOk 3 f.d := by
  cases f with
  | deep => exact (dok_tup (n := 0) (all_cons (dok_str (by decide +kernel)) all_nil)).up (by decide)
  | seg fs => exact dok_tup (all_cons (dok_str (by decide +kernel)) (all_cons (dok_tup fun d hd => by
      obtain ⟨f, hf, rfl⟩ := List.mem_map.mp hd
      exact PF.dok (h.ok f hf)) all_nil))
section
variable {K : PySem.W.Frag}
/-- us are the parts fs -/
def PartsV (K : PySem.W.Frag) (fs : List PF) (us : List V) (H : Hp) : Prop := us.length = fs.length ∧ ∀ (i : Nat) (f : PF), fs[i]? = some f → ∃ u, us[i]? = some u ∧ PartV K f u H
theorem PartsV.nl {fs : List PF} {us : List V} {H H' : Hp} (h : PartsV K fs us H) (e : NL H H') : PartsV K fs us H' := ⟨h.1, fun i f hf => let ⟨u, a, b⟩ := h.2 i f hf; ⟨u, a, b.nl e⟩⟩
theorem PartsV.mono {fs : List PF} {us : List V} {H H' : Hp} (h : PartsV K fs us H) (e : Same H H') : PartsV K fs us H' := h.nl (.of e)
theorem PartsV.nil {H : Hp} : PartsV K [] [] H := ⟨rfl, fun i f h => by simp at h⟩
theorem PartsV.snoc {fs : List PF} {us : List V} {H : Hp} {f : PF} {u : V} (h : PartsV K fs us H) (g : PartV K f u H) : PartsV K (fs ++ [f]) (us ++ [u]) H := by
  refine ⟨by rw [List.length_append, List.length_append, h.1]; rfl, fun i f' hf => ?_⟩
  rcases Nat.lt_trichotomy i fs.length with e | e | e
  · rw [List.getElem?_append_left e] at hf
    obtain ⟨w, a, b⟩ := h.2 i f' hf
    exact ⟨w, by rw [List.getElem?_append_left (by rw [h.1]; exact e)]; exact a, b⟩
  · subst e
    rw [List.getElem?_append_right (Nat.le_refl _), Nat.sub_self] at hf
    have ef : f = f' := Option.some.inj hf
    subst ef
    exact ⟨u, by rw [← h.1, List.getElem?_append_right (Nat.le_refl _), Nat.sub_self]; rfl, g⟩
  · rw [List.getElem?_eq_none (by rw [List.length_append]; exact e)] at hf
    cases hf
def StepV (K : PySem.W.Frag) (f : SF) (v : V) (H : Hp) : Prop := match f with
  | .deep => ∃ p dx, v = .ref p ∧ H p = some (.ins (He.ga K "Deep") dx [])
  | .seg fs => ∃ p dx t us, v = .ref p ∧ H p = some (.ins (He.ga K "Segment") dx [("parts", .ref t)]) ∧ H t = some (.tup us) ∧ PartsV K fs us H ∧ fs ≠ []
theorem StepV.nl {f : SF} {v : V} {H H' : Hp} (h : StepV K f v H) (e : NL H H') : StepV K f v H' := by
  cases f with
  | deep => obtain ⟨p, dx, a, b⟩ := h; exact ⟨p, dx, a, e _ _ b fun _ z => nomatch z⟩
  | seg fs => obtain ⟨p, dx, t, us, a, b, c, d, z⟩ := h; exact ⟨p, dx, t, us, a, e _ _ b fun _ z => (nomatch z), e _ _ c fun _ z => (nomatch z), d.nl e, z⟩
theorem StepV.mono {f : SF} {v : V} {H H' : Hp} (h : StepV K f v H) (e : Same H H') : StepV K f v H' := h.nl (.of e)
end
/-- parts with the second of two stars left out -/
def normP (fs : List PF) : List PF := fs.foldl (fun acc f => if acc = [] ∨ f.many = false ∨ acc.getLast?.map PF.many = some false then acc ++ [f] else acc) []
def normOne (acc : List PF) (f : PF) : List PF := if acc = [] ∨ f.many = false ∨ acc.getLast?.map PF.many = some false then acc ++ [f] else acc
theorem norm_take {fs : List PF} {k : Nat} {f : PF} (h : fs[k]? = some f) : (fs.take (k + 1)).foldl normOne [] = normOne ((fs.take k).foldl normOne []) f := by
  rw [take_succ' h, List.foldl_append]
  rfl
end SL
namespace SL
open PySem PySem.Spec PyProof.Rows L2
/-! ### a caught error that stays at hand behind its clause -/
section
variable {X : Cx} {nm var : Str} {c : Value} {i : Nat} {body rest : List Stmt} {st0 : Stmt} {p1 p2 p3 : Pos} {tb : WX → TS} {ts : Addr → Value → Option Addr → TS} {Wout : WX}
end
/-! ### isinstance of what may be a caught error -/
/-- what isinstance asks of the class D of errors -/
def excCB (K : PySem.W.Frag) (D : Addr) : Bool :=
  decide (PySem.W.findIn K (.ref D) "__getattribute__" = some (some (.builtin "BaseException.__getattribute__"))) && (decide (PySem.W.findIn K (.ref D) "__getattr__" = some none) &&
  (decide (PySem.W.subIn K (.ref D) (.type "BaseException") = some true) && (PySem.W.hasDictIn K D && (decide (PySem.W.findIn K (.ref D) "__class__" = some (some (.builtin "object.__class__"))) &&
  (decide (PySem.W.specialIn K (.builtin "object.__class__") "__get__" = some (some (.builtin "getset_descriptor.__get__"))) && (decide (PySem.W.takesIn K (.builtin "object.__class__") = some true) && decide (PySem.W.mroIn K D (.type "object") = some true)))))))
theorem excCB_ok {K : PySem.W.Frag} {D : Addr} (h : excCB K D = true) : ExcC K D := by
  unfold excCB at h
  simp only [Bool.and_eq_true, decide_eq_true_eq] at h
  obtain ⟨a, b, c, d, e, f, g, i⟩ := h
  exact ⟨a, b, c, d, e, f, g, i⟩
/-- an error of class x: caught by "except y", and of which classes it is -/
def kxB (K : PySem.W.Frag) (ex : List (Str × Str)) (is_ : List (Str × Str × Bool)) (no : List Str) : Bool :=
  ex.all (fun q => decide (PySem.W.exmOne K (.ref (He.ga K q.1)) (.ref (He.ga K q.2)) = some true) && (excCB K (He.ga K q.1) && decide (PySem.W.kitOne K (.ref (He.ga K q.1)) (.type "ValueError") = some true))) &&
  (is_.all (fun q => decide (PySem.W.kitOne K (.ref (He.ga K q.1)) (.ref (He.ga K q.2.1)) = some q.2.2)) && no.all fun y => decide (PySem.W.kitOne K (.type "NoneType") (.ref (He.ga K y)) = some false))
theorem kxB_ex {K : PySem.W.Frag} {ex : List (Str × Str)} {is_ : List (Str × Str × Bool)} {no : List Str} (h : kxB K ex is_ no = true) {x y : Str} (m : (x, y) ∈ ex) :
    PySem.W.exmOne K (.ref (He.ga K x)) (.ref (He.ga K y)) = some true ∧ ExcC K (He.ga K x) ∧ PySem.W.kitOne K (.ref (He.ga K x)) (.type "ValueError") = some true := by
  unfold kxB at h
  rw [Bool.and_eq_true] at h
  have e := List.all_eq_true.mp h.1 (x, y) m
  simp only [Bool.and_eq_true, decide_eq_true_eq] at e
  exact ⟨e.1, excCB_ok e.2.1, e.2.2⟩
/-! ### calls within a try: what the error finds is wished for at the slots that stand -/
section
variable {X : Cx} {k : Nat} {f C : Addr} {ps : List Str} {sp : Sp} {dvs : List V} {W : WX} {x : Str} {p pos : Pos} {e : Expr} {es : List Expr} {t : TA}
theorem pe_calT (o : OkD X.prog X.w X.K X.mg X.base k f ps dvs sp) (hr : Room k X.A) (hg : Gl X x) (hm : X.mg x = some (.ref f)) (tk : Takes X W)
    (ha : PA X (e :: es) t) (hdb : (x == ("__debug__" : Str)) = false := by decide) (he : starEach (e :: es) X.env = (false, eval e X.env) :: starEach es X.env := by rfl) (hpl : (backTo pos (starEach es X.env)).any (·.1) = false := by rfl) :
    PE X (.Call (.Name x p) (e :: es) [] pos) (tCallSD sp dvs (WE W) t) := by
  obtain ⟨fd, ds, F, hb, hd, hk⟩ := o
  exact pe_callSD F hr hg hm hk hb hd (passAt tk) ha hdb he hpl
end
/-- o.m(e, ..) within a try -/
def tMeT {ι : Type} (D : ι → V → Hp → Prop) (spI : ι → Sp) (W : WX) (ta : TE) (t : TA) : TE := fun σ H Q => ta σ H fun x H1 => ∃ i, D i x H1 ∧ t σ H1 fun vs H2 => spI i (x :: vs) H2 Q fun c d H3 => W c d σ H3
theorem pe_metT {X : Cx} {k : Nat} {m : Str} {ι : Type} {D : ι → V → Hp → Prop} {spI : ι → Sp} {pl : Sem Bool} {W : WX} {o e : Expr} {es : List Expr} {ta : TE} {t : TA} {pos apos : Pos} (hD : MetD X k m D spI) (he : PE X o ta) (hr : Room k X.A) (tk : Takes X W) (ha : PA X (e :: es) t)
    (hst : starEach (e :: es) X.env = (false, eval e X.env) :: starEach es X.env := by rfl) (hpl : (backTo pos (starEach es X.env)).any (·.1) = false := by rfl)
    (ht : eval (.Call (.Attribute o m apos) (e :: es) [] pos) X.env = (do
      let ov ← eval o X.env
      standAt apos.atName
      let (f, first) ← holding [ov] (getMethod ov m pl)
      callWith pos f first (backTo pos (starEach (e :: es) X.env)) (backToKw pos (keywordEach [] X.env))) := by rfl) :
    PE X (.Call (.Attribute o m apos) (e :: es) [] pos) (tMeT D spI W ta t) := by
  refine ⟨fun pins s σ H Q I h => ?_⟩
  refine PySem.W.methodCall_KW (pl := pl) (thn (he.run pins s σ H _ I h) fun u s1 ⟨x, H1, I1, rx, i, hi, q⟩ => ?_) ht
  obtain ⟨a, C, dx, fs, g, ps, rfl, ea, c, hm, l, fd, ds, F, hb, hd, hk⟩ := hD i x H1 hi
  obtain rfl : u = Value.ref a := rx
  cases hd
  refine getmeth_ok I1 ea c hm l (PySem.W.callWith_K (first := [.ref a]) (h₀ := X.base) I.ok.mod.kin hm.kp (thn (ha.run pos pins s1 σ H1 _ I1 q) fun us s2 ⟨vs, H2, I2, r, q2⟩ => ⟨I2.kIn, ?_⟩) hst hpl)
  have r2 : Vals (.ref a :: vs) (.ref a :: us) := .cons rfl r
  have hl : ((Value.ref a :: us) ++ []).length = ps.length := by rw [List.append_nil, ← r2.length]; exact F.len _ _ _ _ q2
  have hb' := hb s2 (.ref a :: us) I2.kIn hl
  rw [List.append_nil] at hb'
  refine wpAny_call (codeAny_mono (F.run X.A X.stack s2 H2 ⟨.ref a :: us, []⟩ (.ref a :: us) (.ref a :: vs) Q _ hr I2.env0 hb' r2 q2) fun out s' res => ?_)
  match out, res with
  | .error er, res => exact passAt tk σ pins _ _ er s' I2 res
  | .ok (.ret u), res => exact I2.after res
  | .ok .next, res => exact False.elim res
  | .ok .brk, res => exact False.elim res
  | .ok .cont, res => exact False.elim res
end SL
namespace HD
open PySem PySem.Spec PyProof.Rows L2
def fn : List He.DefD := [
  ⟨("_wall", none), "_wall", "_wall", defArgs TX.s__wall, defBody TX.s__wall, defScope TX.s__wall, [], []⟩,
  ⟨("is_sign", none), "is_sign", "is_sign", defArgs TX.s_is_sign, defBody TX.s_is_sign, defScope TX.s_is_sign, [], []⟩,
  ⟨("spots_behind", none), "spots_behind", "spots_behind", defArgs TX.s_spots_behind, defBody TX.s_spots_behind, defScope TX.s_spots_behind, [], []⟩,
  ⟨("names_of", none), "names_of", "names_of", defArgs TX.s_names_of, defBody TX.s_names_of, defScope TX.s_names_of, [], []⟩,
  ⟨("folder_names", none), "folder_names", "folder_names", defArgs TX.s_folder_names, defBody TX.s_folder_names, defScope TX.s_folder_names, [], []⟩,
  ⟨("placed", none), "placed", "placed", defArgs TX.s_placed, defBody TX.s_placed, defScope TX.s_placed, [], []⟩,
  ⟨("gathered", none), "gathered", "gathered", defArgs TX.s_gathered, defBody TX.s_gathered, defScope TX.s_gathered, [], []⟩,
  ⟨("with_deeps", none), "with_deeps", "with_deeps", defArgs TX.s_with_deeps, defBody TX.s_with_deeps, defScope TX.s_with_deeps, [], []⟩,
  ⟨("fits", none), "fits", "fits", defArgs TX.s_fits, defBody TX.s_fits, defScope TX.s_fits, [], []⟩,
  ⟨("last_fit", none), "last_fit", "last_fit", defArgs TX.s_last_fit, defBody TX.s_last_fit, defScope TX.s_last_fit, [], []⟩,
  ⟨("told", none), "told", "told", defArgs TX.s_told, defBody TX.s_told, defScope TX.s_told, [], []⟩,
  ⟨("paths_within", none), "paths_within", "paths_within", defArgs TX.s_paths_within, defBody TX.s_paths_within, defScope TX.s_paths_within, [], []⟩,
  ⟨("paths_of", none), "paths_of", "paths_of", defArgs TX.s_paths_of, defBody TX.s_paths_of, defScope TX.s_paths_of, [], []⟩,
  ⟨("copied", none), "copied", "copied", defArgs TX.s_copied, defBody TX.s_copied, defScope TX.s_copied, [], []⟩,
  ⟨("_law_cell", none), "_law_cell", "_law_cell", defArgs TX.s__law_cell, defBody TX.s__law_cell, defScope TX.s__law_cell, [], []⟩,
  ⟨("_law_mixed", none), "_law_mixed", "_law_mixed", defArgs TX.s__law_mixed, defBody TX.s__law_mixed, defScope TX.s__law_mixed, [], []⟩,
  ⟨("_law_signs", none), "_law_signs", "_law_signs", defArgs TX.s__law_signs, defBody TX.s__law_signs, defScope TX.s__law_signs, [], []⟩,
  ⟨("_law_part", none), "_law_part", "_law_part", defArgs TX.s__law_part, defBody TX.s__law_part, defScope TX.s__law_part, [], []⟩,
  ⟨("_law_segment", none), "_law_segment", "_law_segment", defArgs TX.s__law_segment, defBody TX.s__law_segment, defScope TX.s__law_segment, [], []⟩,
  ⟨("_law_row", none), "_law_row", "_law_row", defArgs TX.s__law_row, defBody TX.s__law_row, defScope TX.s__law_row, [], []⟩,
  ⟨("_law_rows", none), "_law_rows", "_law_rows", defArgs TX.s__law_rows, defBody TX.s__law_rows, defScope TX.s__law_rows, [], []⟩,
  ⟨("_law_part_made", none), "_law_part_made", "_law_part_made", defArgs TX.s__law_part_made, defBody TX.s__law_part_made, defScope TX.s__law_part_made, [], []⟩,
  ⟨("_law_row_made", none), "_law_row_made", "_law_row_made", defArgs TX.s__law_row_made, defBody TX.s__law_row_made, defScope TX.s__law_row_made, [], []⟩,
  ⟨("_law_long_row", none), "_law_long_row", "_law_long_row", defArgs TX.s__law_long_row, defBody TX.s__law_long_row, defScope TX.s__law_long_row, [], []⟩,
  ⟨("_law_with_long", none), "_law_with_long", "_law_with_long", defArgs TX.s__law_with_long, defBody TX.s__law_with_long, defScope TX.s__law_with_long, [], []⟩,
  ⟨("_law_filled", none), "_law_filled", "_law_filled", defArgs TX.s__law_filled, defBody TX.s__law_filled, defScope TX.s__law_filled, [], []⟩,
  ⟨("_law_names", none), "_law_names", "_law_names", defArgs TX.s__law_names, defBody TX.s__law_names, defScope TX.s__law_names, [], []⟩,
  ⟨("_law_sign_fits", none), "_law_sign_fits", "_law_sign_fits", defArgs TX.s__law_sign_fits, defBody TX.s__law_sign_fits, defScope TX.s__law_sign_fits, [], []⟩,
  ⟨("_law_good_behind", none), "_law_good_behind", "_law_good_behind", defArgs TX.s__law_good_behind, defBody TX.s__law_good_behind, defScope TX.s__law_good_behind, [], []⟩,
  ⟨("_law_name_fits", none), "_law_name_fits", "_law_name_fits", defArgs TX.s__law_name_fits, defBody TX.s__law_name_fits, defScope TX.s__law_name_fits, [], []⟩,
  ⟨("_law_fits", none), "_law_fits", "_law_fits", defArgs TX.s__law_fits, defBody TX.s__law_fits, defScope TX.s__law_fits, [], []⟩,
  ⟨("_law_free", none), "_law_free", "_law_free", defArgs TX.s__law_free, defBody TX.s__law_free, defScope TX.s__law_free, [], []⟩,
  ⟨("_law_put_in", none), "_law_put_in", "_law_put_in", defArgs TX.s__law_put_in, defBody TX.s__law_put_in, defScope TX.s__law_put_in, [], []⟩,
  ⟨("_law_paths", none), "_law_paths", "_law_paths", defArgs TX.s__law_paths, defBody TX.s__law_paths, defScope TX.s__law_paths, [], []⟩,
  ⟨("_law_cut", none), "_law_cut", "_law_cut", defArgs TX.s__law_cut, defBody TX.s__law_cut, defScope TX.s__law_cut, [], []⟩,
  ⟨("_law_ranked", none), "_law_ranked", "_law_ranked", defArgs TX.s__law_ranked, defBody TX.s__law_ranked, defScope TX.s__law_ranked, [], []⟩,
  ⟨("_law_decides", none), "_law_decides", "_law_decides", defArgs TX.s__law_decides, defBody TX.s__law_decides, defScope TX.s__law_decides, [], []⟩,
  ⟨("_law_down_lists", none), "_law_down_lists", "_law_down_lists", defArgs TX.s__law_down_lists, defBody TX.s__law_down_lists, defScope TX.s__law_down_lists, [], []⟩,
  ⟨("_law_leaves", none), "_law_leaves", "_law_leaves", defArgs TX.s__law_leaves, defBody TX.s__law_leaves, defScope TX.s__law_leaves, [], []⟩,
  ⟨("_law_news", none), "_law_news", "_law_news", defArgs TX.s__law_news, defBody TX.s__law_news, defScope TX.s__law_news, [], []⟩,
  ⟨("_law_gone", none), "_law_gone", "_law_gone", defArgs TX.s__law_gone, defBody TX.s__law_gone, defScope TX.s__law_gone, [], []⟩,
  ⟨("_law_deed_names", none), "_law_deed_names", "_law_deed_names", defArgs TX.s__law_deed_names, defBody TX.s__law_deed_names, defScope TX.s__law_deed_names, [], []⟩,
  ⟨("_law_refused", none), "_law_refused", "_law_refused", defArgs TX.s__law_refused, defBody TX.s__law_refused, defScope TX.s__law_refused, [], []⟩,
  ⟨("_law_folders", none), "_law_folders", "_law_folders", defArgs TX.s__law_folders, defBody TX.s__law_folders, defScope TX.s__law_folders, [], []⟩,
  ⟨("_law_none_refused", none), "_law_none_refused", "_law_none_refused", defArgs TX.s__law_none_refused, defBody TX.s__law_none_refused, defScope TX.s__law_none_refused, [], []⟩,
  ⟨("_law_done", none), "_law_done", "_law_done", defArgs TX.s__law_done, defBody TX.s__law_done, defScope TX.s__law_done, [], []⟩,
  ⟨("law", none), "law", "law", defArgs TX.s_law, defBody TX.s_law, defScope TX.s_law, [], []⟩,
  ⟨("Part", some "fits"), "fits", "Part.fits", defArgs TX.s_Part_fits, defBody TX.s_Part_fits, defScope TX.s_Part_fits, [], []⟩,
  ⟨("Part", some "many"), "many", "Part.many", defArgs TX.s_Part_many, defBody TX.s_Part_many, defScope TX.s_Part_many, [], []⟩,
  ⟨("Part", some "told"), "told", "Part.told", defArgs TX.s_Part_told, defBody TX.s_Part_told, defScope TX.s_Part_told, [], []⟩,
  ⟨("Any", some "fits"), "fits", "Part.fits", defArgs TX.s_Part_fits, defBody TX.s_Part_fits, defScope TX.s_Part_fits, [], []⟩,
  ⟨("Any", some "many"), "many", "Part.many", defArgs TX.s_Part_many, defBody TX.s_Part_many, defScope TX.s_Part_many, [], []⟩,
  ⟨("Any", some "told"), "told", "Part.told", defArgs TX.s_Part_told, defBody TX.s_Part_told, defScope TX.s_Part_told, [], []⟩,
  ⟨("One", some "fits"), "fits", "One.fits", defArgs TX.s_One_fits, defBody TX.s_One_fits, defScope TX.s_One_fits, [], []⟩,
  ⟨("One", some "many"), "many", "Part.many", defArgs TX.s_Part_many, defBody TX.s_Part_many, defScope TX.s_Part_many, [], []⟩,
  ⟨("One", some "told"), "told", "One.told", defArgs TX.s_One_told, defBody TX.s_One_told, defScope TX.s_One_told, [], []⟩,
  ⟨("One", some "__init__"), "__init__", "One.__init__", defArgs TX.s_One___init__, defBody TX.s_One___init__, defScope TX.s_One___init__, [], []⟩,
  ⟨("Among", some "fits"), "fits", "Among.fits", defArgs TX.s_Among_fits, defBody TX.s_Among_fits, defScope TX.s_Among_fits, [], []⟩,
  ⟨("Among", some "many"), "many", "Part.many", defArgs TX.s_Part_many, defBody TX.s_Part_many, defScope TX.s_Part_many, [], []⟩,
  ⟨("Among", some "told"), "told", "Among.told", defArgs TX.s_Among_told, defBody TX.s_Among_told, defScope TX.s_Among_told, [], []⟩,
  ⟨("Among", some "__init__"), "__init__", "Among.__init__", defArgs TX.s_Among___init__, defBody TX.s_Among___init__, defScope TX.s_Among___init__, [.bl false], []⟩,
  ⟨("Stars", some "fits"), "fits", "Part.fits", defArgs TX.s_Part_fits, defBody TX.s_Part_fits, defScope TX.s_Part_fits, [], []⟩,
  ⟨("Stars", some "many"), "many", "Stars.many", defArgs TX.s_Stars_many, defBody TX.s_Stars_many, defScope TX.s_Stars_many, [], []⟩,
  ⟨("Stars", some "told"), "told", "Stars.told", defArgs TX.s_Stars_told, defBody TX.s_Stars_told, defScope TX.s_Stars_told, [], []⟩,
  ⟨("Step", some "deep"), "deep", "Step.deep", defArgs TX.s_Step_deep, defBody TX.s_Step_deep, defScope TX.s_Step_deep, [], []⟩,
  ⟨("Step", some "fits_name"), "fits_name", "Step.fits_name", defArgs TX.s_Step_fits_name, defBody TX.s_Step_fits_name, defScope TX.s_Step_fits_name, [], []⟩,
  ⟨("Step", some "told"), "told", "Step.told", defArgs TX.s_Step_told, defBody TX.s_Step_told, defScope TX.s_Step_told, [], []⟩,
  ⟨("Deep", some "deep"), "deep", "Deep.deep", defArgs TX.s_Deep_deep, defBody TX.s_Deep_deep, defScope TX.s_Deep_deep, [], []⟩,
  ⟨("Deep", some "fits_name"), "fits_name", "Step.fits_name", defArgs TX.s_Step_fits_name, defBody TX.s_Step_fits_name, defScope TX.s_Step_fits_name, [], []⟩,
  ⟨("Deep", some "told"), "told", "Step.told", defArgs TX.s_Step_told, defBody TX.s_Step_told, defScope TX.s_Step_told, [], []⟩,
  ⟨("Segment", some "deep"), "deep", "Step.deep", defArgs TX.s_Step_deep, defBody TX.s_Step_deep, defScope TX.s_Step_deep, [], []⟩,
  ⟨("Segment", some "fits_name"), "fits_name", "Segment.fits_name", defArgs TX.s_Segment_fits_name, defBody TX.s_Segment_fits_name, defScope TX.s_Segment_fits_name, [], []⟩,
  ⟨("Segment", some "told"), "told", "Segment.told", defArgs TX.s_Segment_told, defBody TX.s_Segment_told, defScope TX.s_Segment_told, [], []⟩,
  ⟨("Segment", some "__init__"), "__init__", "Segment.__init__", defArgs TX.s_Segment___init__, defBody TX.s_Segment___init__, defScope TX.s_Segment___init__, [], []⟩,
  ⟨("Row", some "__init__"), "__init__", "Row.__init__", defArgs TX.s_Row___init__, defBody TX.s_Row___init__, defScope TX.s_Row___init__, [.bl false, .bl false], []⟩,
  ⟨("Row", some "told"), "told", "Row.told", defArgs TX.s_Row_told, defBody TX.s_Row_told, defScope TX.s_Row_told, [], []⟩,
  ⟨("Keeper", some "__init__"), "__init__", "Keeper.__init__", defArgs TX.s_Keeper___init__, defBody TX.s_Keeper___init__, defScope TX.s_Keeper___init__, [], []⟩,
  ⟨("Keeper", some "shunned_leaves"), "shunned_leaves", "Keeper.shunned_leaves", defArgs TX.s_Keeper_shunned_leaves, defBody TX.s_Keeper_shunned_leaves, defScope TX.s_Keeper_shunned_leaves, [], []⟩,
  ⟨("Keeper", some "compared"), "compared", "Keeper.compared", defArgs TX.s_Keeper_compared, defBody TX.s_Keeper_compared, defScope TX.s_Keeper_compared, [], []⟩,
  ⟨("Keeper", some "put"), "put", "Keeper.put", defArgs TX.s_Keeper_put, defBody TX.s_Keeper_put, defScope TX.s_Keeper_put, [], []⟩,
  ⟨("Keeper", some "take"), "take", "Keeper.take", defArgs TX.s_Keeper_take, defBody TX.s_Keeper_take, defScope TX.s_Keeper_take, [], []⟩,
  ⟨("Keeper", some "rule"), "rule", "Keeper.rule", defArgs TX.s_Keeper_rule, defBody TX.s_Keeper_rule, defScope TX.s_Keeper_rule, [], []⟩,
  ⟨("Keeper", some "tree"), "tree", "Keeper.tree", defArgs TX.s_Keeper_tree, defBody TX.s_Keeper_tree, defScope TX.s_Keeper_tree, [], []⟩,
  ⟨("Keeper", some "lists"), "lists", "Keeper.lists", defArgs TX.s_Keeper_lists, defBody TX.s_Keeper_lists, defScope TX.s_Keeper_lists, [], []⟩,
  ⟨("Keeper", some "count"), "count", "Keeper.count", defArgs TX.s_Keeper_count, defBody TX.s_Keeper_count, defScope TX.s_Keeper_count, [], []⟩,
  ⟨("Keeper", some "is_shunned"), "is_shunned", "Keeper.is_shunned", defArgs TX.s_Keeper_is_shunned, defBody TX.s_Keeper_is_shunned, defScope TX.s_Keeper_is_shunned, [], []⟩,
  ⟨("Keeper", some "changed"), "changed", "Keeper.changed", defArgs TX.s_Keeper_changed, defBody TX.s_Keeper_changed, defScope TX.s_Keeper_changed, [], []⟩]
def fa : List He.Fa := [.glo "_wall", .glo "is_sign", .glo "spots_behind", .glo "names_of", .glo "folder_names", .glo "placed", .glo "gathered", .glo "with_deeps", .glo "fits", .glo "last_fit", .glo "told", .glo "paths_within", .glo "paths_of", .glo "copied", .glo "_law_cell", .glo "_law_mixed", .glo "_law_signs", .glo "_law_part", .glo "_law_segment", .glo "_law_row", .glo "_law_rows", .glo "_law_part_made", .glo "_law_row_made", .glo "_law_long_row", .glo "_law_with_long", .glo "_law_filled", .glo "_law_names", .glo "_law_sign_fits", .glo "_law_good_behind", .glo "_law_name_fits", .glo "_law_fits", .glo "_law_free", .glo "_law_put_in", .glo "_law_paths", .glo "_law_cut", .glo "_law_ranked", .glo "_law_decides", .glo "_law_down_lists", .glo "_law_leaves", .glo "_law_news", .glo "_law_gone", .glo "_law_deed_names", .glo "_law_refused", .glo "_law_folders", .glo "_law_none_refused", .glo "_law_done", .glo "law", .glo "ShunError", .keep "ShunError", .exc "ShunError", .glo "NoPart", .keep "NoPart", .exc "NoPart", .glo "NoPath", .keep "NoPath", .exc "NoPath", .glo "NoFolder", .keep "NoFolder", .exc "NoFolder", .glo "NoLeaf", .keep "NoLeaf", .exc "NoLeaf", .glo "Part", .keep "Part", .cls "Part", .meth "Part" "fits", .meth "Part" "many", .meth "Part" "told", .glo "Any", .keep "Any", .cls "Any", .meth "Any" "fits", .meth "Any" "many", .meth "Any" "told", .glo "One", .keep "One", .cls "One", .noat "One" "sign", .meth "One" "fits", .meth "One" "many", .meth "One" "told", .meth "One" "__init__", .mkr "One", .glo "Among", .keep "Among", .cls "Among", .noat "Among" "signs", .noat "Among" "outside", .meth "Among" "fits", .meth "Among" "many", .meth "Among" "told", .meth "Among" "__init__", .mkr "Among", .glo "Stars", .keep "Stars", .cls "Stars", .meth "Stars" "fits", .meth "Stars" "many", .meth "Stars" "told", .glo "Step", .keep "Step", .cls "Step", .meth "Step" "deep", .meth "Step" "fits_name", .meth "Step" "told", .glo "Deep", .keep "Deep", .cls "Deep", .meth "Deep" "deep", .meth "Deep" "fits_name", .meth "Deep" "told", .glo "Segment", .keep "Segment", .cls "Segment", .noat "Segment" "parts", .meth "Segment" "deep", .meth "Segment" "fits_name", .meth "Segment" "told", .meth "Segment" "__init__", .mkr "Segment", .glo "Row", .keep "Row", .cls "Row", .noat "Row" "steps", .noat "Row" "spares", .noat "Row" "folders", .meth "Row" "__init__", .meth "Row" "told", .mkr "Row", .glo "Keeper", .keep "Keeper", .cls "Keeper", .noat "Keeper" "root", .noat "Keeper" "rulings", .noat "Keeper" "news", .meth "Keeper" "__init__", .meth "Keeper" "shunned_leaves", .meth "Keeper" "compared", .meth "Keeper" "put", .meth "Keeper" "take", .meth "Keeper" "rule", .meth "Keeper" "tree", .meth "Keeper" "lists", .meth "Keeper" "count", .meth "Keeper" "is_shunned", .meth "Keeper" "changed", .mkr "Keeper", .str "SIGNS" "-.0123456789_abcdefghijklmnopqrstuvwxyz", .free "len", .free "range", .free "all", .free "set", .free "sorted", .free "list", .free "tuple", .free "dict", .free "isinstance", .free "int", .free "enumerate", .free "reversed", .free "max", .free "min"]
def mkn (K : PySem.W.Frag) (x : Str) : Bool := PySem.W.makesIn K (He.ga K x) && (He.eqO (PySem.W.findIn K (.ref (He.ga K x)) "__init__") (some (some (.builtin "object.__init__"))) && PySem.W.keepIn K (.ref (He.ga K x)))
def kx (K : PySem.W.Frag) : Bool := SL.kxB K [("NoFolder", "ShunError"), ("NoLeaf", "ShunError"), ("NoPart", "ShunError"), ("NoPath", "NoPath"), ("NoPath", "ShunError")] [] []
def ex (K : PySem.W.Frag) : Bool := (["Part", "Any", "Stars", "Step", "Deep"] : List Str).all (mkn K) && kx K
theorem kx_ok {K : PySem.W.Frag} (h : ex K = true) : SL.kxB K [("NoFolder", "ShunError"), ("NoLeaf", "ShunError"), ("NoPart", "ShunError"), ("NoPath", "NoPath"), ("NoPath", "ShunError")] [] [] = true := (Bool.and_eq_true _ _ ▸ h).2
theorem mkn_ok {K : PySem.W.Frag} {x : Str} (h : ex K = true) (m : x ∈ (["Part", "Any", "Stars", "Step", "Deep"] : List Str)) : SL.MkN K (He.ga K x) := by
  have e := List.all_eq_true.mp (Bool.and_eq_true _ _ ▸ h).1 x m
  unfold mkn at e
  rw [Bool.and_eq_true, Bool.and_eq_true] at e
  exact ⟨e.1, He.eqO_ok e.2.1, e.2.2⟩
abbrev R : PySem.W.OpenRow := PySem.W.OpenLaw.row PySem.Challenge.rw_shunlist_k93_changed
abbrev hk : PySem.W.Hook := He.hookX 5 fa fn [] [] ex
def ob (s : PySem.W.SharedT) : He.AlX := He.obsX 5 fa fn [] [] ex (HandSHeadRun.getT s)
theorem ob_eq (s : PySem.W.SharedT) : ob s = hk.obs s.abs := He.obsX_eq (HandSHeadRun.getT_eq s)
def loose : List Str := (["_wall", "ShunError", "NoPart", "NoPath", "NoFolder", "NoLeaf", "SIGNS", "is_sign", "Part", "Any", "One", "Among", "Stars", "spots_behind", "Step", "Deep", "Segment", "Row", "names_of", "folder_names", "placed", "gathered", "with_deeps", "fits", "last_fit"] : List Str) ++ (["told", "paths_within", "paths_of", "copied", "Keeper", "_law_cell", "_law_mixed", "_law_signs", "_law_part", "_law_segment", "_law_row", "_law_rows", "_law_part_made", "_law_row_made", "_law_long_row", "_law_with_long", "_law_filled", "_law_names", "_law_sign_fits", "_law_good_behind", "_law_name_fits", "_law_fits", "_law_free", "_law_put_in", "_law_paths"] : List Str) ++ (["_law_cut", "_law_ranked", "_law_decides", "_law_down_lists", "_law_leaves", "_law_news", "_law_gone", "_law_deed_names", "_law_refused", "_law_folders", "_law_none_refused", "_law_done"] : List Str)
theorem run (w : World) : HandSHeadRun.RunEq R (PySem.W.view R.prog [71]) hk ob 6000 loose w := by
  intro os
  kernel_rfl
end HD
namespace SL
open PySem PySem.Spec PyProof.Rows L2
abbrev fA (K : PySem.W.Frag) (x : Str) : Addr := He.ga K x
abbrev mA (K : PySem.W.Frag) (C m : Str) : Addr := He.ma K (He.ga K C) m
structure Txt (K : PySem.W.Frag) (mg : Str → Option Value) : Prop where
  F__wall : ∃ fd, FunD K "_wall" "_wall" (defArgs TX.s__wall) (defBody TX.s__wall) (defScope TX.s__wall) [] [] (fA K "_wall") fd
  F_is_sign : ∃ fd, FunD K "is_sign" "is_sign" (defArgs TX.s_is_sign) (defBody TX.s_is_sign) (defScope TX.s_is_sign) [] [] (fA K "is_sign") fd
  F_spots_behind : ∃ fd, FunD K "spots_behind" "spots_behind" (defArgs TX.s_spots_behind) (defBody TX.s_spots_behind) (defScope TX.s_spots_behind) [] [] (fA K "spots_behind") fd
  F_names_of : ∃ fd, FunD K "names_of" "names_of" (defArgs TX.s_names_of) (defBody TX.s_names_of) (defScope TX.s_names_of) [] [] (fA K "names_of") fd
  F_folder_names : ∃ fd, FunD K "folder_names" "folder_names" (defArgs TX.s_folder_names) (defBody TX.s_folder_names) (defScope TX.s_folder_names) [] [] (fA K "folder_names") fd
  F_placed : ∃ fd, FunD K "placed" "placed" (defArgs TX.s_placed) (defBody TX.s_placed) (defScope TX.s_placed) [] [] (fA K "placed") fd
  F_gathered : ∃ fd, FunD K "gathered" "gathered" (defArgs TX.s_gathered) (defBody TX.s_gathered) (defScope TX.s_gathered) [] [] (fA K "gathered") fd
  F_with_deeps : ∃ fd, FunD K "with_deeps" "with_deeps" (defArgs TX.s_with_deeps) (defBody TX.s_with_deeps) (defScope TX.s_with_deeps) [] [] (fA K "with_deeps") fd
  F_fits : ∃ fd, FunD K "fits" "fits" (defArgs TX.s_fits) (defBody TX.s_fits) (defScope TX.s_fits) [] [] (fA K "fits") fd
  F_last_fit : ∃ fd, FunD K "last_fit" "last_fit" (defArgs TX.s_last_fit) (defBody TX.s_last_fit) (defScope TX.s_last_fit) [] [] (fA K "last_fit") fd
  F_told : ∃ fd, FunD K "told" "told" (defArgs TX.s_told) (defBody TX.s_told) (defScope TX.s_told) [] [] (fA K "told") fd
  F_paths_within : ∃ fd, FunD K "paths_within" "paths_within" (defArgs TX.s_paths_within) (defBody TX.s_paths_within) (defScope TX.s_paths_within) [] [] (fA K "paths_within") fd
  F_paths_of : ∃ fd, FunD K "paths_of" "paths_of" (defArgs TX.s_paths_of) (defBody TX.s_paths_of) (defScope TX.s_paths_of) [] [] (fA K "paths_of") fd
  F_copied : ∃ fd, FunD K "copied" "copied" (defArgs TX.s_copied) (defBody TX.s_copied) (defScope TX.s_copied) [] [] (fA K "copied") fd
  F__law_cell : ∃ fd, FunD K "_law_cell" "_law_cell" (defArgs TX.s__law_cell) (defBody TX.s__law_cell) (defScope TX.s__law_cell) [] [] (fA K "_law_cell") fd
  F__law_mixed : ∃ fd, FunD K "_law_mixed" "_law_mixed" (defArgs TX.s__law_mixed) (defBody TX.s__law_mixed) (defScope TX.s__law_mixed) [] [] (fA K "_law_mixed") fd
  F__law_signs : ∃ fd, FunD K "_law_signs" "_law_signs" (defArgs TX.s__law_signs) (defBody TX.s__law_signs) (defScope TX.s__law_signs) [] [] (fA K "_law_signs") fd
  F__law_part : ∃ fd, FunD K "_law_part" "_law_part" (defArgs TX.s__law_part) (defBody TX.s__law_part) (defScope TX.s__law_part) [] [] (fA K "_law_part") fd
  F__law_segment : ∃ fd, FunD K "_law_segment" "_law_segment" (defArgs TX.s__law_segment) (defBody TX.s__law_segment) (defScope TX.s__law_segment) [] [] (fA K "_law_segment") fd
  F__law_row : ∃ fd, FunD K "_law_row" "_law_row" (defArgs TX.s__law_row) (defBody TX.s__law_row) (defScope TX.s__law_row) [] [] (fA K "_law_row") fd
  F__law_rows : ∃ fd, FunD K "_law_rows" "_law_rows" (defArgs TX.s__law_rows) (defBody TX.s__law_rows) (defScope TX.s__law_rows) [] [] (fA K "_law_rows") fd
  F__law_part_made : ∃ fd, FunD K "_law_part_made" "_law_part_made" (defArgs TX.s__law_part_made) (defBody TX.s__law_part_made) (defScope TX.s__law_part_made) [] [] (fA K "_law_part_made") fd
  F__law_row_made : ∃ fd, FunD K "_law_row_made" "_law_row_made" (defArgs TX.s__law_row_made) (defBody TX.s__law_row_made) (defScope TX.s__law_row_made) [] [] (fA K "_law_row_made") fd
  F__law_long_row : ∃ fd, FunD K "_law_long_row" "_law_long_row" (defArgs TX.s__law_long_row) (defBody TX.s__law_long_row) (defScope TX.s__law_long_row) [] [] (fA K "_law_long_row") fd
  F__law_with_long : ∃ fd, FunD K "_law_with_long" "_law_with_long" (defArgs TX.s__law_with_long) (defBody TX.s__law_with_long) (defScope TX.s__law_with_long) [] [] (fA K "_law_with_long") fd
  F__law_filled : ∃ fd, FunD K "_law_filled" "_law_filled" (defArgs TX.s__law_filled) (defBody TX.s__law_filled) (defScope TX.s__law_filled) [] [] (fA K "_law_filled") fd
  F__law_names : ∃ fd, FunD K "_law_names" "_law_names" (defArgs TX.s__law_names) (defBody TX.s__law_names) (defScope TX.s__law_names) [] [] (fA K "_law_names") fd
  F__law_sign_fits : ∃ fd, FunD K "_law_sign_fits" "_law_sign_fits" (defArgs TX.s__law_sign_fits) (defBody TX.s__law_sign_fits) (defScope TX.s__law_sign_fits) [] [] (fA K "_law_sign_fits") fd
  F__law_good_behind : ∃ fd, FunD K "_law_good_behind" "_law_good_behind" (defArgs TX.s__law_good_behind) (defBody TX.s__law_good_behind) (defScope TX.s__law_good_behind) [] [] (fA K "_law_good_behind") fd
  F__law_name_fits : ∃ fd, FunD K "_law_name_fits" "_law_name_fits" (defArgs TX.s__law_name_fits) (defBody TX.s__law_name_fits) (defScope TX.s__law_name_fits) [] [] (fA K "_law_name_fits") fd
  F__law_fits : ∃ fd, FunD K "_law_fits" "_law_fits" (defArgs TX.s__law_fits) (defBody TX.s__law_fits) (defScope TX.s__law_fits) [] [] (fA K "_law_fits") fd
  F__law_free : ∃ fd, FunD K "_law_free" "_law_free" (defArgs TX.s__law_free) (defBody TX.s__law_free) (defScope TX.s__law_free) [] [] (fA K "_law_free") fd
  F__law_put_in : ∃ fd, FunD K "_law_put_in" "_law_put_in" (defArgs TX.s__law_put_in) (defBody TX.s__law_put_in) (defScope TX.s__law_put_in) [] [] (fA K "_law_put_in") fd
  F__law_paths : ∃ fd, FunD K "_law_paths" "_law_paths" (defArgs TX.s__law_paths) (defBody TX.s__law_paths) (defScope TX.s__law_paths) [] [] (fA K "_law_paths") fd
  F__law_cut : ∃ fd, FunD K "_law_cut" "_law_cut" (defArgs TX.s__law_cut) (defBody TX.s__law_cut) (defScope TX.s__law_cut) [] [] (fA K "_law_cut") fd
  F__law_ranked : ∃ fd, FunD K "_law_ranked" "_law_ranked" (defArgs TX.s__law_ranked) (defBody TX.s__law_ranked) (defScope TX.s__law_ranked) [] [] (fA K "_law_ranked") fd
  F__law_decides : ∃ fd, FunD K "_law_decides" "_law_decides" (defArgs TX.s__law_decides) (defBody TX.s__law_decides) (defScope TX.s__law_decides) [] [] (fA K "_law_decides") fd
  F__law_down_lists : ∃ fd, FunD K "_law_down_lists" "_law_down_lists" (defArgs TX.s__law_down_lists) (defBody TX.s__law_down_lists) (defScope TX.s__law_down_lists) [] [] (fA K "_law_down_lists") fd
  F__law_leaves : ∃ fd, FunD K "_law_leaves" "_law_leaves" (defArgs TX.s__law_leaves) (defBody TX.s__law_leaves) (defScope TX.s__law_leaves) [] [] (fA K "_law_leaves") fd
  F__law_news : ∃ fd, FunD K "_law_news" "_law_news" (defArgs TX.s__law_news) (defBody TX.s__law_news) (defScope TX.s__law_news) [] [] (fA K "_law_news") fd
  F__law_gone : ∃ fd, FunD K "_law_gone" "_law_gone" (defArgs TX.s__law_gone) (defBody TX.s__law_gone) (defScope TX.s__law_gone) [] [] (fA K "_law_gone") fd
  F__law_deed_names : ∃ fd, FunD K "_law_deed_names" "_law_deed_names" (defArgs TX.s__law_deed_names) (defBody TX.s__law_deed_names) (defScope TX.s__law_deed_names) [] [] (fA K "_law_deed_names") fd
  F__law_refused : ∃ fd, FunD K "_law_refused" "_law_refused" (defArgs TX.s__law_refused) (defBody TX.s__law_refused) (defScope TX.s__law_refused) [] [] (fA K "_law_refused") fd
  F__law_folders : ∃ fd, FunD K "_law_folders" "_law_folders" (defArgs TX.s__law_folders) (defBody TX.s__law_folders) (defScope TX.s__law_folders) [] [] (fA K "_law_folders") fd
  F__law_none_refused : ∃ fd, FunD K "_law_none_refused" "_law_none_refused" (defArgs TX.s__law_none_refused) (defBody TX.s__law_none_refused) (defScope TX.s__law_none_refused) [] [] (fA K "_law_none_refused") fd
  F__law_done : ∃ fd, FunD K "_law_done" "_law_done" (defArgs TX.s__law_done) (defBody TX.s__law_done) (defScope TX.s__law_done) [] [] (fA K "_law_done") fd
  F_law : ∃ fd, FunD K "law" "law" (defArgs TX.s_law) (defBody TX.s_law) (defScope TX.s_law) [] [] (fA K "law") fd
  F_Part_fits : ∃ fd, FunD K "fits" "Part.fits" (defArgs TX.s_Part_fits) (defBody TX.s_Part_fits) (defScope TX.s_Part_fits) [] [] (mA K "Part" "fits") fd
  F_Part_many : ∃ fd, FunD K "many" "Part.many" (defArgs TX.s_Part_many) (defBody TX.s_Part_many) (defScope TX.s_Part_many) [] [] (mA K "Part" "many") fd
  F_Part_told : ∃ fd, FunD K "told" "Part.told" (defArgs TX.s_Part_told) (defBody TX.s_Part_told) (defScope TX.s_Part_told) [] [] (mA K "Part" "told") fd
  F_Any_fits : ∃ fd, FunD K "fits" "Part.fits" (defArgs TX.s_Part_fits) (defBody TX.s_Part_fits) (defScope TX.s_Part_fits) [] [] (mA K "Any" "fits") fd
  F_Any_many : ∃ fd, FunD K "many" "Part.many" (defArgs TX.s_Part_many) (defBody TX.s_Part_many) (defScope TX.s_Part_many) [] [] (mA K "Any" "many") fd
  F_Any_told : ∃ fd, FunD K "told" "Part.told" (defArgs TX.s_Part_told) (defBody TX.s_Part_told) (defScope TX.s_Part_told) [] [] (mA K "Any" "told") fd
  F_One_fits : ∃ fd, FunD K "fits" "One.fits" (defArgs TX.s_One_fits) (defBody TX.s_One_fits) (defScope TX.s_One_fits) [] [] (mA K "One" "fits") fd
  F_One_many : ∃ fd, FunD K "many" "Part.many" (defArgs TX.s_Part_many) (defBody TX.s_Part_many) (defScope TX.s_Part_many) [] [] (mA K "One" "many") fd
  F_One_told : ∃ fd, FunD K "told" "One.told" (defArgs TX.s_One_told) (defBody TX.s_One_told) (defScope TX.s_One_told) [] [] (mA K "One" "told") fd
  F_One___init__ : ∃ fd, FunD K "__init__" "One.__init__" (defArgs TX.s_One___init__) (defBody TX.s_One___init__) (defScope TX.s_One___init__) [] [] (mA K "One" "__init__") fd
  F_Among_fits : ∃ fd, FunD K "fits" "Among.fits" (defArgs TX.s_Among_fits) (defBody TX.s_Among_fits) (defScope TX.s_Among_fits) [] [] (mA K "Among" "fits") fd
  F_Among_many : ∃ fd, FunD K "many" "Part.many" (defArgs TX.s_Part_many) (defBody TX.s_Part_many) (defScope TX.s_Part_many) [] [] (mA K "Among" "many") fd
  F_Among_told : ∃ fd, FunD K "told" "Among.told" (defArgs TX.s_Among_told) (defBody TX.s_Among_told) (defScope TX.s_Among_told) [] [] (mA K "Among" "told") fd
  F_Among___init__ : ∃ fd, FunD K "__init__" "Among.__init__" (defArgs TX.s_Among___init__) (defBody TX.s_Among___init__) (defScope TX.s_Among___init__) [V.bl false] [] (mA K "Among" "__init__") fd
  F_Stars_fits : ∃ fd, FunD K "fits" "Part.fits" (defArgs TX.s_Part_fits) (defBody TX.s_Part_fits) (defScope TX.s_Part_fits) [] [] (mA K "Stars" "fits") fd
  F_Stars_many : ∃ fd, FunD K "many" "Stars.many" (defArgs TX.s_Stars_many) (defBody TX.s_Stars_many) (defScope TX.s_Stars_many) [] [] (mA K "Stars" "many") fd
  F_Stars_told : ∃ fd, FunD K "told" "Stars.told" (defArgs TX.s_Stars_told) (defBody TX.s_Stars_told) (defScope TX.s_Stars_told) [] [] (mA K "Stars" "told") fd
  F_Step_deep : ∃ fd, FunD K "deep" "Step.deep" (defArgs TX.s_Step_deep) (defBody TX.s_Step_deep) (defScope TX.s_Step_deep) [] [] (mA K "Step" "deep") fd
  F_Step_fits_name : ∃ fd, FunD K "fits_name" "Step.fits_name" (defArgs TX.s_Step_fits_name) (defBody TX.s_Step_fits_name) (defScope TX.s_Step_fits_name) [] [] (mA K "Step" "fits_name") fd
  F_Step_told : ∃ fd, FunD K "told" "Step.told" (defArgs TX.s_Step_told) (defBody TX.s_Step_told) (defScope TX.s_Step_told) [] [] (mA K "Step" "told") fd
  F_Deep_deep : ∃ fd, FunD K "deep" "Deep.deep" (defArgs TX.s_Deep_deep) (defBody TX.s_Deep_deep) (defScope TX.s_Deep_deep) [] [] (mA K "Deep" "deep") fd
  F_Deep_fits_name : ∃ fd, FunD K "fits_name" "Step.fits_name" (defArgs TX.s_Step_fits_name) (defBody TX.s_Step_fits_name) (defScope TX.s_Step_fits_name) [] [] (mA K "Deep" "fits_name") fd
  F_Deep_told : ∃ fd, FunD K "told" "Step.told" (defArgs TX.s_Step_told) (defBody TX.s_Step_told) (defScope TX.s_Step_told) [] [] (mA K "Deep" "told") fd
  F_Segment_deep : ∃ fd, FunD K "deep" "Step.deep" (defArgs TX.s_Step_deep) (defBody TX.s_Step_deep) (defScope TX.s_Step_deep) [] [] (mA K "Segment" "deep") fd
  F_Segment_fits_name : ∃ fd, FunD K "fits_name" "Segment.fits_name" (defArgs TX.s_Segment_fits_name) (defBody TX.s_Segment_fits_name) (defScope TX.s_Segment_fits_name) [] [] (mA K "Segment" "fits_name") fd
  F_Segment_told : ∃ fd, FunD K "told" "Segment.told" (defArgs TX.s_Segment_told) (defBody TX.s_Segment_told) (defScope TX.s_Segment_told) [] [] (mA K "Segment" "told") fd
  F_Segment___init__ : ∃ fd, FunD K "__init__" "Segment.__init__" (defArgs TX.s_Segment___init__) (defBody TX.s_Segment___init__) (defScope TX.s_Segment___init__) [] [] (mA K "Segment" "__init__") fd
  F_Row___init__ : ∃ fd, FunD K "__init__" "Row.__init__" (defArgs TX.s_Row___init__) (defBody TX.s_Row___init__) (defScope TX.s_Row___init__) [V.bl false, V.bl false] [] (mA K "Row" "__init__") fd
  F_Row_told : ∃ fd, FunD K "told" "Row.told" (defArgs TX.s_Row_told) (defBody TX.s_Row_told) (defScope TX.s_Row_told) [] [] (mA K "Row" "told") fd
  F_Keeper___init__ : ∃ fd, FunD K "__init__" "Keeper.__init__" (defArgs TX.s_Keeper___init__) (defBody TX.s_Keeper___init__) (defScope TX.s_Keeper___init__) [] [] (mA K "Keeper" "__init__") fd
  F_Keeper_shunned_leaves : ∃ fd, FunD K "shunned_leaves" "Keeper.shunned_leaves" (defArgs TX.s_Keeper_shunned_leaves) (defBody TX.s_Keeper_shunned_leaves) (defScope TX.s_Keeper_shunned_leaves) [] [] (mA K "Keeper" "shunned_leaves") fd
  F_Keeper_compared : ∃ fd, FunD K "compared" "Keeper.compared" (defArgs TX.s_Keeper_compared) (defBody TX.s_Keeper_compared) (defScope TX.s_Keeper_compared) [] [] (mA K "Keeper" "compared") fd
  F_Keeper_put : ∃ fd, FunD K "put" "Keeper.put" (defArgs TX.s_Keeper_put) (defBody TX.s_Keeper_put) (defScope TX.s_Keeper_put) [] [] (mA K "Keeper" "put") fd
  F_Keeper_take : ∃ fd, FunD K "take" "Keeper.take" (defArgs TX.s_Keeper_take) (defBody TX.s_Keeper_take) (defScope TX.s_Keeper_take) [] [] (mA K "Keeper" "take") fd
  F_Keeper_rule : ∃ fd, FunD K "rule" "Keeper.rule" (defArgs TX.s_Keeper_rule) (defBody TX.s_Keeper_rule) (defScope TX.s_Keeper_rule) [] [] (mA K "Keeper" "rule") fd
  F_Keeper_tree : ∃ fd, FunD K "tree" "Keeper.tree" (defArgs TX.s_Keeper_tree) (defBody TX.s_Keeper_tree) (defScope TX.s_Keeper_tree) [] [] (mA K "Keeper" "tree") fd
  F_Keeper_lists : ∃ fd, FunD K "lists" "Keeper.lists" (defArgs TX.s_Keeper_lists) (defBody TX.s_Keeper_lists) (defScope TX.s_Keeper_lists) [] [] (mA K "Keeper" "lists") fd
  F_Keeper_count : ∃ fd, FunD K "count" "Keeper.count" (defArgs TX.s_Keeper_count) (defBody TX.s_Keeper_count) (defScope TX.s_Keeper_count) [] [] (mA K "Keeper" "count") fd
  F_Keeper_is_shunned : ∃ fd, FunD K "is_shunned" "Keeper.is_shunned" (defArgs TX.s_Keeper_is_shunned) (defBody TX.s_Keeper_is_shunned) (defScope TX.s_Keeper_is_shunned) [] [] (mA K "Keeper" "is_shunned") fd
  F_Keeper_changed : ∃ fd, FunD K "changed" "Keeper.changed" (defArgs TX.s_Keeper_changed) (defBody TX.s_Keeper_changed) (defScope TX.s_Keeper_changed) [] [] (mA K "Keeper" "changed") fd
  g__wall : mg "_wall" = some (.ref (fA K "_wall"))
  g_is_sign : mg "is_sign" = some (.ref (fA K "is_sign"))
  g_spots_behind : mg "spots_behind" = some (.ref (fA K "spots_behind"))
  g_names_of : mg "names_of" = some (.ref (fA K "names_of"))
  g_folder_names : mg "folder_names" = some (.ref (fA K "folder_names"))
  g_placed : mg "placed" = some (.ref (fA K "placed"))
  g_gathered : mg "gathered" = some (.ref (fA K "gathered"))
  g_with_deeps : mg "with_deeps" = some (.ref (fA K "with_deeps"))
  g_fits : mg "fits" = some (.ref (fA K "fits"))
  g_last_fit : mg "last_fit" = some (.ref (fA K "last_fit"))
  g_told : mg "told" = some (.ref (fA K "told"))
  g_paths_within : mg "paths_within" = some (.ref (fA K "paths_within"))
  g_paths_of : mg "paths_of" = some (.ref (fA K "paths_of"))
  g_copied : mg "copied" = some (.ref (fA K "copied"))
  g__law_cell : mg "_law_cell" = some (.ref (fA K "_law_cell"))
  g__law_mixed : mg "_law_mixed" = some (.ref (fA K "_law_mixed"))
  g__law_signs : mg "_law_signs" = some (.ref (fA K "_law_signs"))
  g__law_part : mg "_law_part" = some (.ref (fA K "_law_part"))
  g__law_segment : mg "_law_segment" = some (.ref (fA K "_law_segment"))
  g__law_row : mg "_law_row" = some (.ref (fA K "_law_row"))
  g__law_rows : mg "_law_rows" = some (.ref (fA K "_law_rows"))
  g__law_part_made : mg "_law_part_made" = some (.ref (fA K "_law_part_made"))
  g__law_row_made : mg "_law_row_made" = some (.ref (fA K "_law_row_made"))
  g__law_long_row : mg "_law_long_row" = some (.ref (fA K "_law_long_row"))
  g__law_with_long : mg "_law_with_long" = some (.ref (fA K "_law_with_long"))
  g__law_filled : mg "_law_filled" = some (.ref (fA K "_law_filled"))
  g__law_names : mg "_law_names" = some (.ref (fA K "_law_names"))
  g__law_sign_fits : mg "_law_sign_fits" = some (.ref (fA K "_law_sign_fits"))
  g__law_good_behind : mg "_law_good_behind" = some (.ref (fA K "_law_good_behind"))
  g__law_name_fits : mg "_law_name_fits" = some (.ref (fA K "_law_name_fits"))
  g__law_fits : mg "_law_fits" = some (.ref (fA K "_law_fits"))
  g__law_free : mg "_law_free" = some (.ref (fA K "_law_free"))
  g__law_put_in : mg "_law_put_in" = some (.ref (fA K "_law_put_in"))
  g__law_paths : mg "_law_paths" = some (.ref (fA K "_law_paths"))
  g__law_cut : mg "_law_cut" = some (.ref (fA K "_law_cut"))
  g__law_ranked : mg "_law_ranked" = some (.ref (fA K "_law_ranked"))
  g__law_decides : mg "_law_decides" = some (.ref (fA K "_law_decides"))
  g__law_down_lists : mg "_law_down_lists" = some (.ref (fA K "_law_down_lists"))
  g__law_leaves : mg "_law_leaves" = some (.ref (fA K "_law_leaves"))
  g__law_news : mg "_law_news" = some (.ref (fA K "_law_news"))
  g__law_gone : mg "_law_gone" = some (.ref (fA K "_law_gone"))
  g__law_deed_names : mg "_law_deed_names" = some (.ref (fA K "_law_deed_names"))
  g__law_refused : mg "_law_refused" = some (.ref (fA K "_law_refused"))
  g__law_folders : mg "_law_folders" = some (.ref (fA K "_law_folders"))
  g__law_none_refused : mg "_law_none_refused" = some (.ref (fA K "_law_none_refused"))
  g__law_done : mg "_law_done" = some (.ref (fA K "_law_done"))
  g_law : mg "law" = some (.ref (fA K "law"))
  g_ShunError : mg "ShunError" = some (.ref (fA K "ShunError"))
  k_ShunError : PySem.W.keepIn K (.ref (fA K "ShunError")) = true
  x_ShunError : ExcK K (fA K "ShunError")
  g_NoPart : mg "NoPart" = some (.ref (fA K "NoPart"))
  k_NoPart : PySem.W.keepIn K (.ref (fA K "NoPart")) = true
  x_NoPart : ExcK K (fA K "NoPart")
  g_NoPath : mg "NoPath" = some (.ref (fA K "NoPath"))
  k_NoPath : PySem.W.keepIn K (.ref (fA K "NoPath")) = true
  x_NoPath : ExcK K (fA K "NoPath")
  g_NoFolder : mg "NoFolder" = some (.ref (fA K "NoFolder"))
  k_NoFolder : PySem.W.keepIn K (.ref (fA K "NoFolder")) = true
  x_NoFolder : ExcK K (fA K "NoFolder")
  g_NoLeaf : mg "NoLeaf" = some (.ref (fA K "NoLeaf"))
  k_NoLeaf : PySem.W.keepIn K (.ref (fA K "NoLeaf")) = true
  x_NoLeaf : ExcK K (fA K "NoLeaf")
  g_Part : mg "Part" = some (.ref (fA K "Part"))
  k_Part : PySem.W.keepIn K (.ref (fA K "Part")) = true
  c_Part : Cls K (fA K "Part")
  m_Part_fits : Meth K (fA K "Part") "fits" (mA K "Part" "fits")
  m_Part_many : Meth K (fA K "Part") "many" (mA K "Part" "many")
  m_Part_told : Meth K (fA K "Part") "told" (mA K "Part" "told")
  g_Any : mg "Any" = some (.ref (fA K "Any"))
  k_Any : PySem.W.keepIn K (.ref (fA K "Any")) = true
  c_Any : Cls K (fA K "Any")
  m_Any_fits : Meth K (fA K "Any") "fits" (mA K "Any" "fits")
  m_Any_many : Meth K (fA K "Any") "many" (mA K "Any" "many")
  m_Any_told : Meth K (fA K "Any") "told" (mA K "Any" "told")
  g_One : mg "One" = some (.ref (fA K "One"))
  k_One : PySem.W.keepIn K (.ref (fA K "One")) = true
  c_One : Cls K (fA K "One")
  n_One_sign : NoAttr K (fA K "One") "sign"
  m_One_fits : Meth K (fA K "One") "fits" (mA K "One" "fits")
  m_One_many : Meth K (fA K "One") "many" (mA K "One" "many")
  m_One_told : Meth K (fA K "One") "told" (mA K "One" "told")
  m_One___init__ : Meth K (fA K "One") "__init__" (mA K "One" "__init__")
  mk_One : Mk K (fA K "One") (mA K "One" "__init__")
  g_Among : mg "Among" = some (.ref (fA K "Among"))
  k_Among : PySem.W.keepIn K (.ref (fA K "Among")) = true
  c_Among : Cls K (fA K "Among")
  n_Among_signs : NoAttr K (fA K "Among") "signs"
  n_Among_outside : NoAttr K (fA K "Among") "outside"
  m_Among_fits : Meth K (fA K "Among") "fits" (mA K "Among" "fits")
  m_Among_many : Meth K (fA K "Among") "many" (mA K "Among" "many")
  m_Among_told : Meth K (fA K "Among") "told" (mA K "Among" "told")
  m_Among___init__ : Meth K (fA K "Among") "__init__" (mA K "Among" "__init__")
  mk_Among : Mk K (fA K "Among") (mA K "Among" "__init__")
  g_Stars : mg "Stars" = some (.ref (fA K "Stars"))
  k_Stars : PySem.W.keepIn K (.ref (fA K "Stars")) = true
  c_Stars : Cls K (fA K "Stars")
  m_Stars_fits : Meth K (fA K "Stars") "fits" (mA K "Stars" "fits")
  m_Stars_many : Meth K (fA K "Stars") "many" (mA K "Stars" "many")
  m_Stars_told : Meth K (fA K "Stars") "told" (mA K "Stars" "told")
  g_Step : mg "Step" = some (.ref (fA K "Step"))
  k_Step : PySem.W.keepIn K (.ref (fA K "Step")) = true
  c_Step : Cls K (fA K "Step")
  m_Step_deep : Meth K (fA K "Step") "deep" (mA K "Step" "deep")
  m_Step_fits_name : Meth K (fA K "Step") "fits_name" (mA K "Step" "fits_name")
  m_Step_told : Meth K (fA K "Step") "told" (mA K "Step" "told")
  g_Deep : mg "Deep" = some (.ref (fA K "Deep"))
  k_Deep : PySem.W.keepIn K (.ref (fA K "Deep")) = true
  c_Deep : Cls K (fA K "Deep")
  m_Deep_deep : Meth K (fA K "Deep") "deep" (mA K "Deep" "deep")
  m_Deep_fits_name : Meth K (fA K "Deep") "fits_name" (mA K "Deep" "fits_name")
  m_Deep_told : Meth K (fA K "Deep") "told" (mA K "Deep" "told")
  g_Segment : mg "Segment" = some (.ref (fA K "Segment"))
  k_Segment : PySem.W.keepIn K (.ref (fA K "Segment")) = true
  c_Segment : Cls K (fA K "Segment")
  n_Segment_parts : NoAttr K (fA K "Segment") "parts"
  m_Segment_deep : Meth K (fA K "Segment") "deep" (mA K "Segment" "deep")
  m_Segment_fits_name : Meth K (fA K "Segment") "fits_name" (mA K "Segment" "fits_name")
  m_Segment_told : Meth K (fA K "Segment") "told" (mA K "Segment" "told")
  m_Segment___init__ : Meth K (fA K "Segment") "__init__" (mA K "Segment" "__init__")
  mk_Segment : Mk K (fA K "Segment") (mA K "Segment" "__init__")
  g_Row : mg "Row" = some (.ref (fA K "Row"))
  k_Row : PySem.W.keepIn K (.ref (fA K "Row")) = true
  c_Row : Cls K (fA K "Row")
  n_Row_steps : NoAttr K (fA K "Row") "steps"
  n_Row_spares : NoAttr K (fA K "Row") "spares"
  n_Row_folders : NoAttr K (fA K "Row") "folders"
  m_Row___init__ : Meth K (fA K "Row") "__init__" (mA K "Row" "__init__")
  m_Row_told : Meth K (fA K "Row") "told" (mA K "Row" "told")
  mk_Row : Mk K (fA K "Row") (mA K "Row" "__init__")
  g_Keeper : mg "Keeper" = some (.ref (fA K "Keeper"))
  k_Keeper : PySem.W.keepIn K (.ref (fA K "Keeper")) = true
  c_Keeper : Cls K (fA K "Keeper")
  n_Keeper_root : NoAttr K (fA K "Keeper") "root"
  n_Keeper_rulings : NoAttr K (fA K "Keeper") "rulings"
  n_Keeper_news : NoAttr K (fA K "Keeper") "news"
  m_Keeper___init__ : Meth K (fA K "Keeper") "__init__" (mA K "Keeper" "__init__")
  m_Keeper_shunned_leaves : Meth K (fA K "Keeper") "shunned_leaves" (mA K "Keeper" "shunned_leaves")
  m_Keeper_compared : Meth K (fA K "Keeper") "compared" (mA K "Keeper" "compared")
  m_Keeper_put : Meth K (fA K "Keeper") "put" (mA K "Keeper" "put")
  m_Keeper_take : Meth K (fA K "Keeper") "take" (mA K "Keeper" "take")
  m_Keeper_rule : Meth K (fA K "Keeper") "rule" (mA K "Keeper" "rule")
  m_Keeper_tree : Meth K (fA K "Keeper") "tree" (mA K "Keeper" "tree")
  m_Keeper_lists : Meth K (fA K "Keeper") "lists" (mA K "Keeper" "lists")
  m_Keeper_count : Meth K (fA K "Keeper") "count" (mA K "Keeper" "count")
  m_Keeper_is_shunned : Meth K (fA K "Keeper") "is_shunned" (mA K "Keeper" "is_shunned")
  m_Keeper_changed : Meth K (fA K "Keeper") "changed" (mA K "Keeper" "changed")
  mk_Keeper : Mk K (fA K "Keeper") (mA K "Keeper" "__init__")
  s_SIGNS : ∃ t, mg "SIGNS" = some (.str "-.0123456789_abcdefghijklmnopqrstuvwxyz" t)
  fr_len : mg "len" = none
  fr_range : mg "range" = none
  fr_all : mg "all" = none
  fr_set : mg "set" = none
  fr_sorted : mg "sorted" = none
  fr_list : mg "list" = none
  fr_tuple : mg "tuple" = none
  fr_dict : mg "dict" = none
  fr_isinstance : mg "isinstance" = none
  fr_int : mg "int" = none
  fr_enumerate : mg "enumerate" = none
  fr_reversed : mg "reversed" = none
  fr_max : mg "max" = none
  fr_min : mg "min" = none
  kx : SL.kxB K [("NoFolder", "ShunError"), ("NoLeaf", "ShunError"), ("NoPart", "ShunError"), ("NoPath", "NoPath"), ("NoPath", "ShunError")] [] [] = true
  mn_Part : MkN K (fA K "Part")
  mn_Any : MkN K (fA K "Any")
  mn_Stars : MkN K (fA K "Stars")
  mn_Step : MkN K (fA K "Step")
  mn_Deep : MkN K (fA K "Deep")
theorem Txt.obj {K : PySem.W.Frag} {mg : Str → Option Value} (T : Txt K mg) : Cls K (fA K "Part") ∧ Cls K (fA K "Any") ∧ Cls K (fA K "One") ∧ Cls K (fA K "Among") ∧ Cls K (fA K "Stars") ∧ Cls K (fA K "Step") ∧ Cls K (fA K "Deep") ∧ Cls K (fA K "Segment") ∧ Cls K (fA K "Row") ∧ Cls K (fA K "Keeper") ∧ NoAttr K (fA K "One") "sign" ∧ NoAttr K (fA K "Among") "signs" ∧ NoAttr K (fA K "Among") "outside" ∧ NoAttr K (fA K "Segment") "parts" ∧ NoAttr K (fA K "Row") "steps" ∧ NoAttr K (fA K "Row") "spares" ∧ NoAttr K (fA K "Row") "folders" ∧ NoAttr K (fA K "Keeper") "root" ∧ NoAttr K (fA K "Keeper") "rulings" ∧ NoAttr K (fA K "Keeper") "news" := ⟨T.c_Part, T.c_Any, T.c_One, T.c_Among, T.c_Stars, T.c_Step, T.c_Deep, T.c_Segment, T.c_Row, T.c_Keeper, T.n_One_sign, T.n_Among_signs, T.n_Among_outside, T.n_Segment_parts, T.n_Row_steps, T.n_Row_spares, T.n_Row_folders, T.n_Keeper_root, T.n_Keeper_rulings, T.n_Keeper_news⟩
end SL
namespace SL
open PySem PySem.Spec PyProof.Rows L2
abbrev N__wall : List Str := ["k"]
theorem sc__wall : FnScope ["k"] ["k"] (defScope TX.s__wall) := ⟨rfl, rfl, rfl, by decide +kernel, rfl, by decide +kernel, by decide +kernel⟩
abbrev N_is_sign : List Str := ["thing"]
theorem sc_is_sign : FnScope ["thing"] ["thing"] (defScope TX.s_is_sign) := ⟨rfl, rfl, rfl, by decide +kernel, rfl, by decide +kernel, by decide +kernel⟩
abbrev N_Part_fits : List Str := ["self", "sign"]
theorem sc_Part_fits : FnScope ["self", "sign"] ["self", "sign"] (defScope TX.s_Part_fits) := ⟨rfl, rfl, rfl, by decide +kernel, rfl, by decide +kernel, by decide +kernel⟩
abbrev N_Part_many : List Str := ["self"]
theorem sc_Part_many : FnScope ["self"] ["self"] (defScope TX.s_Part_many) := ⟨rfl, rfl, rfl, by decide +kernel, rfl, by decide +kernel, by decide +kernel⟩
abbrev N_Part_told : List Str := ["self"]
theorem sc_Part_told : FnScope ["self"] ["self"] (defScope TX.s_Part_told) := ⟨rfl, rfl, rfl, by decide +kernel, rfl, by decide +kernel, by decide +kernel⟩
abbrev N_One___init__ : List Str := ["self", "sign"]
theorem sc_One___init__ : FnScope ["self", "sign"] ["self", "sign"] (defScope TX.s_One___init__) := ⟨rfl, rfl, rfl, by decide +kernel, rfl, by decide +kernel, by decide +kernel⟩
abbrev N_One_fits : List Str := ["self", "sign"]
theorem sc_One_fits : FnScope ["self", "sign"] ["self", "sign"] (defScope TX.s_One_fits) := ⟨rfl, rfl, rfl, by decide +kernel, rfl, by decide +kernel, by decide +kernel⟩
abbrev N_One_told : List Str := ["self"]
theorem sc_One_told : FnScope ["self"] ["self"] (defScope TX.s_One_told) := ⟨rfl, rfl, rfl, by decide +kernel, rfl, by decide +kernel, by decide +kernel⟩
abbrev N_Among___init__ : List Str := ["self", "signs", "outside", "sign"]
theorem sc_Among___init__ : FnScope ["self", "signs", "outside", "sign"] ["self", "signs", "outside"] (defScope TX.s_Among___init__) := ⟨rfl, rfl, rfl, by decide +kernel, rfl, by decide +kernel, by decide +kernel⟩
abbrev N_Among_fits : List Str := ["self", "sign"]
theorem sc_Among_fits : FnScope ["self", "sign"] ["self", "sign"] (defScope TX.s_Among_fits) := ⟨rfl, rfl, rfl, by decide +kernel, rfl, by decide +kernel, by decide +kernel⟩
abbrev N_Among_told : List Str := ["self"]
theorem sc_Among_told : FnScope ["self"] ["self"] (defScope TX.s_Among_told) := ⟨rfl, rfl, rfl, by decide +kernel, rfl, by decide +kernel, by decide +kernel⟩
abbrev N_Stars_many : List Str := ["self"]
theorem sc_Stars_many : FnScope ["self"] ["self"] (defScope TX.s_Stars_many) := ⟨rfl, rfl, rfl, by decide +kernel, rfl, by decide +kernel, by decide +kernel⟩
abbrev N_Stars_told : List Str := ["self"]
theorem sc_Stars_told : FnScope ["self"] ["self"] (defScope TX.s_Stars_told) := ⟨rfl, rfl, rfl, by decide +kernel, rfl, by decide +kernel, by decide +kernel⟩
abbrev N_spots_behind : List Str := ["parts", "spots", "found", "spot"]
theorem sc_spots_behind : FnScope ["parts", "spots", "found", "spot"] ["parts", "spots"] (defScope TX.s_spots_behind) := ⟨rfl, rfl, rfl, by decide +kernel, rfl, by decide +kernel, by decide +kernel⟩
abbrev N_Step_deep : List Str := ["self"]
theorem sc_Step_deep : FnScope ["self"] ["self"] (defScope TX.s_Step_deep) := ⟨rfl, rfl, rfl, by decide +kernel, rfl, by decide +kernel, by decide +kernel⟩
abbrev N_Step_fits_name : List Str := ["self", "name"]
theorem sc_Step_fits_name : FnScope ["self", "name"] ["self", "name"] (defScope TX.s_Step_fits_name) := ⟨rfl, rfl, rfl, by decide +kernel, rfl, by decide +kernel, by decide +kernel⟩
abbrev N_Step_told : List Str := ["self"]
theorem sc_Step_told : FnScope ["self"] ["self"] (defScope TX.s_Step_told) := ⟨rfl, rfl, rfl, by decide +kernel, rfl, by decide +kernel, by decide +kernel⟩
abbrev N_Deep_deep : List Str := ["self"]
theorem sc_Deep_deep : FnScope ["self"] ["self"] (defScope TX.s_Deep_deep) := ⟨rfl, rfl, rfl, by decide +kernel, rfl, by decide +kernel, by decide +kernel⟩
abbrev N_Segment___init__ : List Str := ["self", "parts", "found", "part"]
theorem sc_Segment___init__ : FnScope ["self", "parts", "found", "part"] ["self", "parts"] (defScope TX.s_Segment___init__) := ⟨rfl, rfl, rfl, by decide +kernel, rfl, by decide +kernel, by decide +kernel⟩
abbrev N_Segment_fits_name : List Str := ["self", "name", "spots", "sign", "later", "spot"]
theorem sc_Segment_fits_name : FnScope ["self", "name", "spots", "sign", "later", "spot"] ["self", "name"] (defScope TX.s_Segment_fits_name) := ⟨rfl, rfl, rfl, by decide +kernel, rfl, by decide +kernel, by decide +kernel⟩
abbrev N_Segment_told : List Str := ["self", "part"]
theorem sc_Segment_told : FnScope ["self", "part"] ["self"] (defScope TX.s_Segment_told) := ⟨rfl, rfl, rfl, by decide +kernel, rfl, by decide +kernel, by decide +kernel⟩
abbrev N_Row___init__ : List Str := ["self", "steps", "spares", "folders", "found", "step"]
theorem sc_Row___init__ : FnScope ["self", "steps", "spares", "folders", "found", "step"] ["self", "steps", "spares", "folders"] (defScope TX.s_Row___init__) := ⟨rfl, rfl, rfl, by decide +kernel, rfl, by decide +kernel, by decide +kernel⟩
abbrev N_Row_told : List Str := ["self", "step"]
theorem sc_Row_told : FnScope ["self", "step"] ["self"] (defScope TX.s_Row_told) := ⟨rfl, rfl, rfl, by decide +kernel, rfl, by decide +kernel, by decide +kernel⟩
abbrev N_names_of : List Str := ["path", "names", "folder", "name", "sign"]
theorem sc_names_of : FnScope ["path", "names", "folder", "name", "sign"] ["path"] (defScope TX.s_names_of) := ⟨rfl, rfl, rfl, by decide +kernel, rfl, by decide +kernel, by decide +kernel⟩
abbrev N_folder_names : List Str := ["folder", "names", "is_folder"]
theorem sc_folder_names : FnScope ["folder", "names", "is_folder"] ["folder"] (defScope TX.s_folder_names) := ⟨rfl, rfl, rfl, by decide +kernel, rfl, by decide +kernel, by decide +kernel⟩
abbrev N_placed : List Str := ["row", "names", "steps", "step", "name", "sign"]
theorem sc_placed : FnScope ["row", "names", "steps", "step", "name", "sign"] ["row", "names"] (defScope TX.s_placed) := ⟨rfl, rfl, rfl, by decide +kernel, rfl, by decide +kernel, by decide +kernel⟩
abbrev N_gathered : List Str := ["lists", "ranked", "folder", "names", "found", "many", "row"]
theorem sc_gathered : FnScope ["lists", "ranked", "folder", "names", "found", "many", "row"] ["lists"] (defScope TX.s_gathered) := ⟨rfl, rfl, rfl, by decide +kernel, rfl, by decide +kernel, by decide +kernel⟩
abbrev N_with_deeps : List Str := ["steps", "places", "found", "place"]
theorem sc_with_deeps : FnScope ["steps", "places", "found", "place"] ["steps", "places"] (defScope TX.s_with_deeps) := ⟨rfl, rfl, rfl, by decide +kernel, rfl, by decide +kernel, by decide +kernel⟩
abbrev N_fits : List Str := ["row", "names", "folder", "places", "name", "later", "place"]
theorem sc_fits : FnScope ["row", "names", "folder", "places", "name", "later", "place"] ["row", "names", "folder"] (defScope TX.s_fits) := ⟨rfl, rfl, rfl, by decide +kernel, rfl, by decide +kernel, by decide +kernel⟩
abbrev N_last_fit : List Str := ["rows", "names", "folder", "number"]
theorem sc_last_fit : FnScope ["rows", "names", "folder", "number"] ["rows", "names", "folder"] (defScope TX.s_last_fit) := ⟨rfl, rfl, rfl, by decide +kernel, rfl, by decide +kernel, by decide +kernel⟩
abbrev N_told : List Str := ["rows", "path", "names", "folder", "decides", "many"]
theorem sc_told : FnScope ["rows", "path", "names", "folder", "decides", "many"] ["rows", "path"] (defScope TX.s_told) := ⟨rfl, rfl, rfl, by decide +kernel, rfl, by decide +kernel, by decide +kernel⟩
abbrev N_paths_within : List Str := ["tree", "ahead", "found", "name"]
theorem sc_paths_within : FnScope ["tree", "ahead", "found", "name"] ["tree", "ahead"] (defScope TX.s_paths_within) := ⟨rfl, rfl, rfl, by decide +kernel, rfl, by decide +kernel, by decide +kernel⟩
abbrev N_paths_of : List Str := ["tree"]
theorem sc_paths_of : FnScope ["tree"] ["tree"] (defScope TX.s_paths_of) := ⟨rfl, rfl, rfl, by decide +kernel, rfl, by decide +kernel, by decide +kernel⟩
abbrev N_copied : List Str := ["tree", "found", "name", "inner"]
theorem sc_copied : FnScope ["tree", "found", "name", "inner"] ["tree"] (defScope TX.s_copied) := ⟨rfl, rfl, rfl, by decide +kernel, rfl, by decide +kernel, by decide +kernel⟩
abbrev N_Keeper___init__ : List Str := ["self"]
theorem sc_Keeper___init__ : FnScope ["self"] ["self"] (defScope TX.s_Keeper___init__) := ⟨rfl, rfl, rfl, by decide +kernel, rfl, by decide +kernel, by decide +kernel⟩
abbrev N_Keeper_shunned_leaves : List Str := ["self", "rows", "path"]
theorem sc_Keeper_shunned_leaves : FnScope ["self", "rows", "path"] ["self"] (defScope TX.s_Keeper_shunned_leaves) := ⟨rfl, rfl, rfl, by decide +kernel, rfl, by decide +kernel, by decide +kernel⟩
abbrev N_Keeper_compared : List Str := ["self", "ahead", "now", "path"]
theorem sc_Keeper_compared : FnScope ["self", "ahead", "now", "path"] ["self", "ahead"] (defScope TX.s_Keeper_compared) := ⟨rfl, rfl, rfl, by decide +kernel, rfl, by decide +kernel, by decide +kernel⟩
abbrev N_Keeper_put : List Str := ["self", "path", "names", "folder", "here", "place", "name", "inner", "ahead"]
theorem sc_Keeper_put : FnScope ["self", "path", "names", "folder", "here", "place", "name", "inner", "ahead"] ["self", "path"] (defScope TX.s_Keeper_put) := ⟨rfl, rfl, rfl, by decide +kernel, rfl, by decide +kernel, by decide +kernel⟩
abbrev N_Keeper_take : List Str := ["self", "path", "names", "folder", "here", "name", "ahead"]
theorem sc_Keeper_take : FnScope ["self", "path", "names", "folder", "here", "name", "ahead"] ["self", "path"] (defScope TX.s_Keeper_take) := ⟨rfl, rfl, rfl, by decide +kernel, rfl, by decide +kernel, by decide +kernel⟩
abbrev N_Keeper_rule : List Str := ["self", "folder", "rows", "ahead"]
theorem sc_Keeper_rule : FnScope ["self", "folder", "rows", "ahead"] ["self", "folder", "rows"] (defScope TX.s_Keeper_rule) := ⟨rfl, rfl, rfl, by decide +kernel, rfl, by decide +kernel, by decide +kernel⟩
abbrev N_Keeper_tree : List Str := ["self"]
theorem sc_Keeper_tree : FnScope ["self"] ["self"] (defScope TX.s_Keeper_tree) := ⟨rfl, rfl, rfl, by decide +kernel, rfl, by decide +kernel, by decide +kernel⟩
abbrev N_Keeper_lists : List Str := ["self", "folder"]
theorem sc_Keeper_lists : FnScope ["self", "folder"] ["self"] (defScope TX.s_Keeper_lists) := ⟨rfl, rfl, rfl, by decide +kernel, rfl, by decide +kernel, by decide +kernel⟩
abbrev N_Keeper_count : List Str := ["self", "now"]
theorem sc_Keeper_count : FnScope ["self", "now"] ["self"] (defScope TX.s_Keeper_count) := ⟨rfl, rfl, rfl, by decide +kernel, rfl, by decide +kernel, by decide +kernel⟩
abbrev N_Keeper_is_shunned : List Str := ["self", "path"]
theorem sc_Keeper_is_shunned : FnScope ["self", "path"] ["self", "path"] (defScope TX.s_Keeper_is_shunned) := ⟨rfl, rfl, rfl, by decide +kernel, rfl, by decide +kernel, by decide +kernel⟩
abbrev N_Keeper_changed : List Str := ["self"]
theorem sc_Keeper_changed : FnScope ["self"] ["self"] (defScope TX.s_Keeper_changed) := ⟨rfl, rfl, rfl, by decide +kernel, rfl, by decide +kernel, by decide +kernel⟩
abbrev N__law_cell : List Str := ["_law_script", "_law_k", "_law_cell_here", "_law_mark", "_law_high"]
theorem sc__law_cell : FnScope ["_law_script", "_law_k", "_law_cell_here", "_law_mark", "_law_high"] ["_law_script", "_law_k"] (defScope TX.s__law_cell) := ⟨rfl, rfl, rfl, by decide +kernel, rfl, by decide +kernel, by decide +kernel⟩
abbrev N__law_mixed : List Str := ["_law_cell_here", "_law_k", "_law_mark"]
theorem sc__law_mixed : FnScope ["_law_cell_here", "_law_k", "_law_mark"] ["_law_cell_here", "_law_k"] (defScope TX.s__law_mixed) := ⟨rfl, rfl, rfl, by decide +kernel, rfl, by decide +kernel, by decide +kernel⟩
abbrev N__law_signs : List Str := ["_law_cell_here", "_law_all_signs", "_law_step", "_law_k"]
theorem sc__law_signs : FnScope ["_law_cell_here", "_law_all_signs", "_law_step", "_law_k"] ["_law_cell_here"] (defScope TX.s__law_signs) := ⟨rfl, rfl, rfl, by decide +kernel, rfl, by decide +kernel, by decide +kernel⟩
abbrev N__law_part : List Str := ["_law_cell_here", "_law_signs_here", "_law_way", "_law_one", "_law_some"]
theorem sc__law_part : FnScope ["_law_cell_here", "_law_signs_here", "_law_way", "_law_one", "_law_some"] ["_law_cell_here", "_law_signs_here"] (defScope TX.s__law_part) := ⟨rfl, rfl, rfl, by decide +kernel, rfl, by decide +kernel, by decide +kernel⟩
abbrev N__law_segment : List Str := ["_law_cell_here", "_law_signs_here", "_law_parts", "_law_k", "_law_part_here"]
theorem sc__law_segment : FnScope ["_law_cell_here", "_law_signs_here", "_law_parts", "_law_k", "_law_part_here"] ["_law_cell_here", "_law_signs_here"] (defScope TX.s__law_segment) := ⟨rfl, rfl, rfl, by decide +kernel, rfl, by decide +kernel, by decide +kernel⟩
abbrev N__law_row : List Str := ["_law_cell_here", "_law_signs_here", "_law_steps", "_law_k", "_law_mark"]
theorem sc__law_row : FnScope ["_law_cell_here", "_law_signs_here", "_law_steps", "_law_k", "_law_mark"] ["_law_cell_here", "_law_signs_here"] (defScope TX.s__law_row) := ⟨rfl, rfl, rfl, by decide +kernel, rfl, by decide +kernel, by decide +kernel⟩
abbrev N__law_rows : List Str := ["_law_script", "_law_first", "_law_many", "_law_signs_here", "_law_found", "_law_k", "_law_cell_here", "_law_row_here"]
theorem sc__law_rows : FnScope ["_law_script", "_law_first", "_law_many", "_law_signs_here", "_law_found", "_law_k", "_law_cell_here", "_law_row_here"] ["_law_script", "_law_first", "_law_many", "_law_signs_here"] (defScope TX.s__law_rows) := ⟨rfl, rfl, rfl, by decide +kernel, rfl, by decide +kernel, by decide +kernel⟩
abbrev N__law_part_made : List Str := ["_law_form"]
theorem sc__law_part_made : FnScope ["_law_form"] ["_law_form"] (defScope TX.s__law_part_made) := ⟨rfl, rfl, rfl, by decide +kernel, rfl, by decide +kernel, by decide +kernel⟩
abbrev N__law_row_made : List Str := ["_law_form", "_law_steps", "_law_step", "_law_part_here"]
theorem sc__law_row_made : FnScope ["_law_form", "_law_steps", "_law_step", "_law_part_here"] ["_law_form"] (defScope TX.s__law_row_made) := ⟨rfl, rfl, rfl, by decide +kernel, rfl, by decide +kernel, by decide +kernel⟩
abbrev N__law_long_row : List Str := ["_law_cell_here", "_law_signs_here", "_law_steps", "_law_k", "_law_mark", "_law_parts", "_law_outside", "_law_j"]
theorem sc__law_long_row : FnScope ["_law_cell_here", "_law_signs_here", "_law_steps", "_law_k", "_law_mark", "_law_parts", "_law_outside", "_law_j"] ["_law_cell_here", "_law_signs_here"] (defScope TX.s__law_long_row) := ⟨rfl, rfl, rfl, by decide +kernel, rfl, by decide +kernel, by decide +kernel⟩
abbrev N__law_with_long : List Str := ["_law_forms", "_law_cell_here", "_law_signs_here"]
theorem sc__law_with_long : FnScope ["_law_forms", "_law_cell_here", "_law_signs_here"] ["_law_forms", "_law_cell_here", "_law_signs_here"] (defScope TX.s__law_with_long) := ⟨rfl, rfl, rfl, by decide +kernel, rfl, by decide +kernel, by decide +kernel⟩
abbrev N__law_filled : List Str := ["_law_part_here", "_law_cell_here", "_law_signs_here", "_law_some", "_law_sign"]
theorem sc__law_filled : FnScope ["_law_part_here", "_law_cell_here", "_law_signs_here", "_law_some", "_law_sign"] ["_law_part_here", "_law_cell_here", "_law_signs_here"] (defScope TX.s__law_filled) := ⟨rfl, rfl, rfl, by decide +kernel, rfl, by decide +kernel, by decide +kernel⟩
abbrev N__law_names : List Str := ["_law_form", "_law_cell_here", "_law_signs_here", "_law_names_here", "_law_k", "_law_step", "_law_mark", "_law_more", "_law_some", "_law_j", "_law_way", "_law_at"]
theorem sc__law_names : FnScope ["_law_form", "_law_cell_here", "_law_signs_here", "_law_names_here", "_law_k", "_law_step", "_law_mark", "_law_more", "_law_some", "_law_j", "_law_way", "_law_at"] ["_law_form", "_law_cell_here", "_law_signs_here"] (defScope TX.s__law_names) := ⟨rfl, rfl, rfl, by decide +kernel, rfl, by decide +kernel, by decide +kernel⟩
abbrev N__law_sign_fits : List Str := ["_law_part_here", "_law_sign"]
theorem sc__law_sign_fits : FnScope ["_law_part_here", "_law_sign"] ["_law_part_here", "_law_sign"] (defScope TX.s__law_sign_fits) := ⟨rfl, rfl, rfl, by decide +kernel, rfl, by decide +kernel, by decide +kernel⟩
abbrev N__law_good_behind : List Str := ["_law_good", "_law_found", "_law_later", "_law_one"]
theorem sc__law_good_behind : FnScope ["_law_good", "_law_found", "_law_later", "_law_one"] ["_law_good"] (defScope TX.s__law_good_behind) := ⟨rfl, rfl, rfl, by decide +kernel, rfl, by decide +kernel, by decide +kernel⟩
abbrev N__law_name_fits : List Str := ["_law_parts", "_law_name", "_law_good", "_law_part_here", "_law_j", "_law_sign"]
theorem sc__law_name_fits : FnScope ["_law_parts", "_law_name", "_law_good", "_law_part_here", "_law_j", "_law_sign"] ["_law_parts", "_law_name"] (defScope TX.s__law_name_fits) := ⟨rfl, rfl, rfl, by decide +kernel, rfl, by decide +kernel, by decide +kernel⟩
abbrev N__law_fits : List Str := ["_law_form", "_law_names_here", "_law_folder", "_law_good", "_law_step", "_law_some", "_law_name", "_law_j", "_law_one"]
theorem sc__law_fits : FnScope ["_law_form", "_law_names_here", "_law_folder", "_law_good", "_law_step", "_law_some", "_law_name", "_law_j", "_law_one"] ["_law_form", "_law_names_here", "_law_folder"] (defScope TX.s__law_fits) := ⟨rfl, rfl, rfl, by decide +kernel, rfl, by decide +kernel, by decide +kernel⟩
abbrev N__law_free : List Str := ["_law_root", "_law_names_here", "_law_folder", "_law_here", "_law_place", "_law_name", "_law_last"]
theorem sc__law_free : FnScope ["_law_root", "_law_names_here", "_law_folder", "_law_here", "_law_place", "_law_name", "_law_last"] ["_law_root", "_law_names_here", "_law_folder"] (defScope TX.s__law_free) := ⟨rfl, rfl, rfl, by decide +kernel, rfl, by decide +kernel, by decide +kernel⟩
abbrev N__law_put_in : List Str := ["_law_root", "_law_names_here", "_law_folder", "_law_here", "_law_name"]
theorem sc__law_put_in : FnScope ["_law_root", "_law_names_here", "_law_folder", "_law_here", "_law_name"] ["_law_root", "_law_names_here", "_law_folder"] (defScope TX.s__law_put_in) := ⟨rfl, rfl, rfl, by decide +kernel, rfl, by decide +kernel, by decide +kernel⟩
abbrev N__law_paths : List Str := ["_law_tree", "_law_ahead", "_law_found", "_law_name", "_law_inner"]
theorem sc__law_paths : FnScope ["_law_tree", "_law_ahead", "_law_found", "_law_name", "_law_inner"] ["_law_tree", "_law_ahead"] (defScope TX.s__law_paths) := ⟨rfl, rfl, rfl, by decide +kernel, rfl, by decide +kernel, by decide +kernel⟩
abbrev N__law_cut : List Str := ["_law_path", "_law_names_here", "_law_name"]
theorem sc__law_cut : FnScope ["_law_path", "_law_names_here", "_law_name"] ["_law_path"] (defScope TX.s__law_cut) := ⟨rfl, rfl, rfl, by decide +kernel, rfl, by decide +kernel, by decide +kernel⟩
abbrev N__law_ranked : List Str := ["_law_lists", "_law_folder", "_law_many"]
theorem sc__law_ranked : FnScope ["_law_lists", "_law_folder", "_law_many"] ["_law_lists"] (defScope TX.s__law_ranked) := ⟨rfl, rfl, rfl, by decide +kernel, rfl, by decide +kernel, by decide +kernel⟩
abbrev N__law_decides : List Str := ["_law_lists", "_law_names_here", "_law_folder", "_law_place", "_law_inner", "_law_whole", "_law_some", "_law_good", "_law_k"]
theorem sc__law_decides : FnScope ["_law_lists", "_law_names_here", "_law_folder", "_law_place", "_law_inner", "_law_whole", "_law_some", "_law_good", "_law_k"] ["_law_lists", "_law_names_here", "_law_folder"] (defScope TX.s__law_decides) := ⟨rfl, rfl, rfl, by decide +kernel, rfl, by decide +kernel, by decide +kernel⟩
abbrev N__law_down_lists : List Str := ["_law_lists", "_law_names_here", "_law_folder", "_law_found", "_law_many"]
theorem sc__law_down_lists : FnScope ["_law_lists", "_law_names_here", "_law_folder", "_law_found", "_law_many"] ["_law_lists", "_law_names_here", "_law_folder"] (defScope TX.s__law_down_lists) := ⟨rfl, rfl, rfl, by decide +kernel, rfl, by decide +kernel, by decide +kernel⟩
abbrev N__law_leaves : List Str := ["_law_root", "_law_lists", "_law_found", "_law_path", "_law_names_here", "_law_folder"]
theorem sc__law_leaves : FnScope ["_law_root", "_law_lists", "_law_found", "_law_path", "_law_names_here", "_law_folder"] ["_law_root", "_law_lists"] (defScope TX.s__law_leaves) := ⟨rfl, rfl, rfl, by decide +kernel, rfl, by decide +kernel, by decide +kernel⟩
abbrev N__law_news : List Str := ["_law_ahead", "_law_now", "_law_path"]
theorem sc__law_news : FnScope ["_law_ahead", "_law_now", "_law_path"] ["_law_ahead", "_law_now"] (defScope TX.s__law_news) := ⟨rfl, rfl, rfl, by decide +kernel, rfl, by decide +kernel, by decide +kernel⟩
abbrev N__law_gone : List Str := ["_law_root", "_law_names_here", "_law_folder", "_law_here", "_law_name"]
theorem sc__law_gone : FnScope ["_law_root", "_law_names_here", "_law_folder", "_law_here", "_law_name"] ["_law_root", "_law_names_here", "_law_folder"] (defScope TX.s__law_gone) := ⟨rfl, rfl, rfl, by decide +kernel, rfl, by decide +kernel, by decide +kernel⟩
abbrev N__law_deed_names : List Str := ["_law_cell_here", "_law_forms", "_law_root", "_law_signs_here", "_law_paths_here", "_law_names_here", "_law_more"]
theorem sc__law_deed_names : FnScope ["_law_cell_here", "_law_forms", "_law_root", "_law_signs_here", "_law_paths_here", "_law_names_here", "_law_more"] ["_law_cell_here", "_law_forms", "_law_root", "_law_signs_here"] (defScope TX.s__law_deed_names) := ⟨rfl, rfl, rfl, by decide +kernel, rfl, by decide +kernel, by decide +kernel⟩
abbrev N__law_refused : List Str := ["_law_keeper", "_law_puts", "_law_path", "_law_caught"]
theorem sc__law_refused : FnScope ["_law_keeper", "_law_puts", "_law_path", "_law_caught"] ["_law_keeper", "_law_puts", "_law_path"] (defScope TX.s__law_refused) := ⟨rfl, rfl, rfl, by decide +kernel, rfl, by decide +kernel, by decide +kernel⟩
abbrev N__law_folders : List Str := ["_law_forms", "_law_cell_here", "_law_signs_here", "_law_found", "_law_k", "_law_names_here", "_law_name"]
theorem sc__law_folders : FnScope ["_law_forms", "_law_cell_here", "_law_signs_here", "_law_found", "_law_k", "_law_names_here", "_law_name"] ["_law_forms", "_law_cell_here", "_law_signs_here"] (defScope TX.s__law_folders) := ⟨rfl, rfl, rfl, by decide +kernel, rfl, by decide +kernel, by decide +kernel⟩
abbrev N__law_none_refused : List Str := ["_law_keeper", "_law_cell_here", "_law_caught"]
theorem sc__law_none_refused : FnScope ["_law_keeper", "_law_cell_here", "_law_caught"] ["_law_keeper", "_law_cell_here"] (defScope TX.s__law_none_refused) := ⟨rfl, rfl, rfl, by decide +kernel, rfl, by decide +kernel, by decide +kernel⟩
abbrev N__law_done : List Str := ["_law_keeper", "_law_root", "_law_lists", "_law_forms", "_law_signs_here", "_law_cell_here", "_law_names_here", "_law_folder", "_law_folders_here", "_law_place", "_law_some", "_law_puts", "_law_good", "_law_form"]
theorem sc__law_done : FnScope ["_law_keeper", "_law_root", "_law_lists", "_law_forms", "_law_signs_here", "_law_cell_here", "_law_names_here", "_law_folder", "_law_folders_here", "_law_place", "_law_some", "_law_puts", "_law_good", "_law_form"] ["_law_keeper", "_law_root", "_law_lists", "_law_forms", "_law_signs_here", "_law_cell_here"] (defScope TX.s__law_done) := ⟨rfl, rfl, rfl, by decide +kernel, rfl, by decide +kernel, by decide +kernel⟩
abbrev N_law : List Str := ["_law_script", "_law_signs_here", "_law_forms", "_law_keeper", "_law_root", "_law_lists", "_law_news_here", "_law_k", "_law_ahead", "_law_right", "_law_done_here", "_law_now", "_law_found", "_law_some"]
theorem sc_law : FnScope ["_law_script", "_law_signs_here", "_law_forms", "_law_keeper", "_law_root", "_law_lists", "_law_news_here", "_law_k", "_law_ahead", "_law_right", "_law_done_here", "_law_now", "_law_found", "_law_some"] ["_law_script"] (defScope TX.s_law) := ⟨rfl, rfl, rfl, by decide +kernel, rfl, by decide +kernel, by decide +kernel⟩
end SL
open PySem PySem.Spec PyProof.Rows L2 SL in
local macro_rules | `(tactic| walk_at "rd") => `(tactic| simp only [tVar, tC, tOp, tUn, tCall, tMeI, tMake, tMakN, tMakK, tMakKr, tCB, tCons, tNil, tTup, tLst, tTest, tB, tAnd, tOr, tNot, tAndV, tOrV, tNotV, tOrT, tAndT, tNotT, tIf, tIfS, tSeq, tAsg, gName, tRet, tRetN, tNext, tDrop, tBreak, tCont, tIsN, tNotN, tFld, sFld, tPart, tNoPart, tCKw, tSl,
  rI, rI0, rU, rAddU, rMulU, rEqU, rNeU, rCmp, rInU, rNotInU, rIxU, rSlU, rLenU, rLenW, rJoin, rCount, rListU, rRevU, rSetU, rSortedU, NewSet, NewSorted, tBM, tBM0, SL.tyStr, rTupU, rMaxU, rMinU, rInsert, rPop, rSetL, gSub, iEnumU, rIsiU, rAll, rAny, rIsBo, rNotBo, rIntU, rIadd, rIn, flatV, rAppend, tyV, tAug, rRep, rCat, sDPut, tDGet, tDIn, tDNotIn, tDNewK, tDisp, tPairs, tDGet1, tDGet2, rListD, rDClear, iZip, iU, iRng1, iRng2, iRevR, tRg1, wipe, SL.sameT, Int.zero_add, isRef, scal, Bool.or_true, Bool.true_or, Bool.or_false, Bool.false_or, Bool.or_self,
  L2.start, SL.cxK, SL.cxW, SL.cxP, SL.truBl, SL.truInt, SL.truNon, SL.truStr, SL.lenStr, List.map_cons, List.map_nil, List.length_cons, List.length_nil, List.replicate, List.reverse_cons, List.reverse_nil, List.nil_append, List.cons_append, List.append_nil, List.set_cons_zero, List.set_cons_succ, List.getElem?_cons_zero, List.getElem?_cons_succ, Nat.zero_add, Nat.reduceAdd, Nat.reduceSub, Nat.sub_self, Nat.add_sub_cancel,
  List.cons.injEq, V.int.injEq, V.str.injEq, V.bl.injEq, V.ref.injEq, Option.some.injEq, reduceCtorEq, exists_eq_left', exists_eq_left, exists_eq', exists_eq, exists_and_left, exists_and_right, and_true, true_and, false_and, and_false, false_or, or_false, decide_eq_true_eq, Bool.not_eq_true', decide_eq_false_iff_not, SL.ite_tt, SL.ite_ff, ne_eq, not_true_eq_false, not_false_eq_true, forall_eq, forall_eq', Bool.not_true, Bool.not_false, decide_true, decide_false, SL.le_sz, SL.lt_sz, SL.ifT, SL.ifF, SL.strEq, String.reduceEq, SL.manyOne, SL.manyAny, SL.manyAmong, SL.manyStars, Nat.reduceLeDiff, Nat.reduceLT, Int.reduceLT, Int.reduceLE])

local macro_rules | `(tactic| walk_at "sm") => `(tactic| (first | exact L2.Same.refl _ | assumption | (repeat (first | exact L2.Same.refl _ | assumption | refine L2.Same.trans ?_ (SL.same_new (by assumption))))))
open PySem PySem.Spec PyProof.Rows L2 SL in
local macro_rules | `(tactic| walk_at "rdh") => `(tactic| (simp only [tVar, tC, tOp, tUn, tCall, tMeI, tMake, tMakN, tMakK, tMakKr, tCB, tCons, tNil, tTup, tLst, tTest, tB, tAnd, tOr, tNot, tAndV, tOrV, tNotV, tOrT, tAndT, tNotT, tIf, tIfS, tSeq, tAsg, gName, tRet, tRetN, tNext, tDrop, tBreak, tCont, tIsN, tNotN, tFld, sFld, tPart, tNoPart, tCKw, tSl,
  rI, rI0, rU, rAddU, rMulU, rEqU, rNeU, rCmp, rInU, rNotInU, rIxU, rSlU, rLenU, rLenW, rJoin, rCount, rListU, rRevU, rSetU, rSortedU, NewSet, NewSorted, tBM, tBM0, SL.tyStr, rTupU, rMaxU, rMinU, rInsert, rPop, rSetL, gSub, iEnumU, rIsiU, rAll, rAny, rIsBo, rNotBo, rIntU, rIadd, rIn, flatV, rAppend, tyV, tAug, rRep, rCat, sDPut, tDGet, tDIn, tDNotIn, tDNewK, tDisp, tPairs, tDGet1, tDGet2, rListD, rDClear, iZip, iU, iRng1, iRng2, iRevR, tRg1, wipe, SL.sameT, Int.zero_add, isRef, scal, Bool.or_true, Bool.true_or, Bool.or_false, Bool.false_or, Bool.or_self,
  L2.start, SL.cxK, SL.cxW, SL.cxP, SL.truBl, SL.truInt, SL.truNon, SL.truStr, SL.lenStr, List.map_cons, List.map_nil, List.length_cons, List.length_nil, List.replicate, List.reverse_cons, List.reverse_nil, List.nil_append, List.cons_append, List.append_nil, List.set_cons_zero, List.set_cons_succ, List.getElem?_cons_zero, List.getElem?_cons_succ, Nat.zero_add, Nat.reduceAdd, Nat.reduceSub, Nat.sub_self, Nat.add_sub_cancel,
  List.cons.injEq, V.int.injEq, V.str.injEq, V.bl.injEq, V.ref.injEq, Option.some.injEq, reduceCtorEq, exists_eq_left', exists_eq_left, exists_eq', exists_eq, exists_and_left, exists_and_right, and_true, true_and, false_and, and_false, false_or, or_false, decide_eq_true_eq, Bool.not_eq_true', decide_eq_false_iff_not, SL.ite_tt, SL.ite_ff, ne_eq, not_true_eq_false, not_false_eq_true, forall_eq, forall_eq', Bool.not_true, Bool.not_false, decide_true, decide_false, SL.le_sz, SL.lt_sz, SL.ifT, SL.ifF, SL.strEq, String.reduceEq, SL.manyOne, SL.manyAny, SL.manyAmong, SL.manyStars, Nat.reduceLeDiff, Nat.reduceLT, Int.reduceLT, Int.reduceLE, SL.PartO, SL.lkSign, SL.lkSigns, SL.lkOut, SL.lkParts, SL.lkSteps, SL.lkSpares, SL.lkFolders, SL.pfNil, SL.pfOut, SL.pfSpares, SL.pfFolders, L2.upd_same, L2.upd_upd, HO.ins.injEq, and_assoc, *]))
local macro_rules | `(tactic| walk_at "rdx") => `(tactic| (walk_at "rd"; repeat (refine ⟨_, Or.inr (by assumption), _, rfl, ?_⟩; try walk_at "rd")))
namespace SL
open PySem PySem.Spec PyProof.Rows L2 SX
section
variable {P : Program} {w : World} {K : PySem.W.Frag} {mg : Str → Option Value} {base : Heap}

/-! ### is_sign, the drawn numbers -/
def spIsSign : Sp := fun vs H Q _ => ∃ z, vs = [.str z] ∧ z.length ≤ sizeLine ∧ Q (.bl (decide (∃ c ∈ SIG, z = ⟨#[c]⟩))) H
theorem str_one {z : Str} (h : (z.length : Int) = 1) : ∃ c, z = ⟨#[c]⟩ := by
  obtain ⟨⟨l⟩⟩ := z
  have e : l.length = 1 := by
    have h' : ((l.length : Nat) : Int) = 1 := h
    omega
  match l, e with
  | [c], _ => exact ⟨c, rfl⟩
theorem ok_is_sign (T : Txt K mg) : OkD P w K mg base 1 (fA K "is_sign") ["thing"] [] spIsSign := by
  refine okD T.F_is_sign sc_is_sign (fun _ _ _ _ _ _ us hl => match us, hl with | [_], _ => rfl) ?_ ?_
  · rintro vs H Q E ⟨z, rfl, _⟩
    rfl
  · rintro cdv A outer s H vs Q E hr ⟨z, rfl, hz, q⟩
    refine ⟨_, (pss_one (ps_ret (pe_andK (K := K) (pe_cmpR (o_eq (K := K) (hu64 hr)) (pe_callB (o_lenW (K := K) (w := w)) (by rfl) T.fr_len boot_len (pa_cons (pv 0) pa_nil)) pe_int (nomark _)) (pe_one (pe_cmpR (o_in (K := K) (hu65 hr)) (pv 0) (pe_gstr rfl T.s_SIGNS) (by rfl)))))), ?_⟩
    walk_at "rd"
    rw [sizeLine_eq] at hz
    refine ⟨hz, ite2 (fun h => ?_) (fun h => ?_)⟩
    · obtain ⟨c, rfl⟩ := str_one h
      refine .inl ⟨c, rfl, ?_⟩
      have e : decide (∃ c' ∈ SIG, (⟨#[c]⟩ : Str) = ⟨#[c']⟩) = decide (c ∈ SIG) := by
        refine decide_eq_decide.mpr ⟨fun ⟨c', h1, h2⟩ => ?_, fun h1 => ⟨c, h1, rfl⟩⟩
        injection h2 with h2
        have h3 : c = c' := by simpa using h2
        rw [h3]
        exact h1
      rw [e] at q
      exact q
    · have e : decide (∃ c ∈ SIG, z = ⟨#[c]⟩) = false := decide_eq_false fun ⟨c, _, h2⟩ => h (by rw [h2]; rfl)
      rw [e] at q
      rw [decide_eq_false h]
      exact q
def spCell (K : PySem.W.Frag) : Sp := fun vs H Q _ => ∃ a k, ∃ ns : List Int, vs = [.ref a, .int k] ∧ SqL K H a (ns.map V.int) ∧ ns.length ≤ 63 ∧ 0 ≤ k ∧ k < 64 ∧ ∀ c, Q (.int c) H
theorem ok__law_cell (T : Txt K mg) : OkD P w K mg base 1 (fA K "_law_cell") ["_law_script", "_law_k"] [] (spCell K) := by
  refine okD T.F__law_cell sc__law_cell (fun _ _ _ _ _ _ us hl => match us, hl with | [_, _], _ => rfl) ?_ ?_
  · rintro vs H Q E ⟨a, k, ns, rfl, _⟩
    rfl
  · rintro cdv A outer s H vs Q E hr ⟨a, k, ns, rfl, hs, hn, h0, h1, q⟩
    refine ⟨_, (pss_cons (ps_set (i := 2) sc__law_cell.nd rfl (Or.inl rfl) (pe_mid (pe_ifExp (pt_cmpR o_lt (pv 1) (pe_callB (o_lenW (K := K) (w := w)) (by rfl) T.fr_len boot_len (pa_cons (pv 0) pa_nil)) (nomark _)) (pe_ix (o_ix (K := K)) (pv 0) (pv 1) (fun _ _ => rfl)) pe_int)))
  (pss_cons (ps_set (i := 3) sc__law_cell.nd rfl (Or.inl rfl) (pe_mid (pe_op op_mod (pe_op o_mul (pe_op (o_add (K := K)) (pe_op op_mod (pv 2) pe_int) (pe_op o_mul pe_int (pe_op (o_add (K := K)) (pv 1) pe_int))) pe_int) pe_int)))
  (pss_cons (ps_set (i := 3) sc__law_cell.nd rfl (Or.inl rfl) (pe_mid (pe_op op_mod (pe_op o_mul (pe_op op_mod (pe_op o_mul (pv 3) (pv 3)) pe_int) pe_int) pe_int)))
  (pss_cons (ps_set (i := 4) sc__law_cell.nd rfl (Or.inl rfl) (pe_mid (pe_op (o_add (K := K)) (pe_op o_mul (pe_op op_mod (pe_op op_fdivW (pv 2) pe_int) (pe_op op_pow pe_int pe_int)) pe_int) (pv 3))))
  (pss_one (ps_ret (pe_op (o_add (K := K)) (pe_op o_mul (pv 4) pe_int) (pe_op op_mod (pe_op o_mul (pv 3) (pv 3)) pe_int)))))))), ?_⟩
    have hl : LenV K (V.ref a) H (ns.map V.int).length := .inl ⟨_, hs, rfl⟩
    refine q_mid (fun _ => True) ?_ fun n _ => ?_
    · walk_at "rd"
      refine .inr ⟨_, hl, ite2 (fun hk => ?_) (fun _ => trivial)⟩
      obtain ⟨j, rfl⟩ : ∃ j : Nat, k = (j : Int) := ⟨k.toNat, by omega⟩
      have hj : j < (ns.map V.int).length := by omega
      have hj2 : j < ns.length := by rw [List.length_map] at hj; exact hj
      refine ⟨_, .inl hs, V.int ns[j], atI_nat ?_, _, rfl⟩
      rw [List.getElem?_map, List.getElem?_eq_getElem hj2]
      rfl
    have b : ∀ (x : Int), 0 ≤ x % 2147483647 ∧ x % 2147483647 < 2147483647 := fun x => ⟨Int.emod_nonneg _ (by decide), Int.emod_lt_of_pos _ (by decide)⟩
    have b2 : ∀ (x : Int), 0 ≤ x % 2147483629 ∧ x % 2147483629 < 2147483629 := fun x => ⟨Int.emod_nonneg _ (by decide), Int.emod_lt_of_pos _ (by decide)⟩
    have sm : ∀ (x y : Int), 0 ≤ x → x < 2147483647 → CMul x y := fun x y h1 h2 => .inl ⟨by omega, by omega⟩
    have sm2 : ∀ (x y : Int), 0 ≤ y → y ≤ 2147483647 → CMul x y := fun x y h1 h2 => .inr ⟨by omega, by omega⟩
    refine q_mid (fun m => 0 ≤ m ∧ m < 2147483647) ?_ fun m hm => ?_
    · walk_at "rd"
      exact ⟨sm _ _ (by decide) (by decide), sm2 _ _ (by decide) (by decide), b _⟩
    refine q_mid (fun m => 0 ≤ m ∧ m < 2147483647) ?_ fun m2 hm2 => ?_
    · walk_at "rd"
      exact ⟨sm _ _ hm.1 hm.2, sm2 _ _ (by decide) (by decide), b _⟩
    refine q_mid (fun _ => True) ?_ fun hgh _ => ?_
    · walk_at "rd"
      exact ⟨⟨by decide, by decide⟩, ⟨by decide, by decide, by decide⟩, by decide, sm2 _ _ (by decide) (by decide)⟩
    walk_at "rd"
    exact ⟨sm2 _ _ (by decide) (by decide), sm _ _ hm2.1 hm2.2, q _⟩
/-- four signs -/
def SignV (v : V) : Prop := ∃ c ∈ SIG, v = .str ⟨#[c]⟩
/-- the sign at a place -/
def sgAt (i : Int) : V := .str (S [SIG.getD i.toNat 0])
theorem sig_get {i : Int} (h0 : 0 ≤ i) (h1 : i < 39) : atI SIG i = some (SIG.getD i.toNat 0) ∧ SIG.getD i.toNat 0 ∈ SIG := by
  obtain ⟨j, rfl⟩ : ∃ j : Nat, i = (j : Int) := ⟨i.toNat, by omega⟩
  have hj : j < SIG.length := by rw [sig_len]; omega
  have e : SIG.getD (j : Int).toNat 0 = SIG[j] := by
    rw [Int.toNat_natCast, List.getD_eq_getElem?_getD, List.getElem?_eq_getElem hj]
    rfl
  rw [e]
  exact ⟨atI_nat (List.getElem?_eq_getElem hj), List.getElem_mem hj⟩
theorem sgAt_ne {i j : Int} (h0 : 0 ≤ i) (h1 : i < 39) (g0 : 0 ≤ j) (g1 : j < 39) (h : i ≠ j) : sgAt i ≠ sgAt j := by
  intro e
  obtain ⟨a, rfl⟩ : ∃ a : Nat, i = (a : Int) := ⟨i.toNat, by omega⟩
  obtain ⟨b, rfl⟩ : ∃ b : Nat, j = (b : Int) := ⟨j.toNat, by omega⟩
  have ha : a < SIG.length := by rw [sig_len]; omega
  have hb : b < SIG.length := by rw [sig_len]; omega
  unfold sgAt at e
  rw [Int.toNat_natCast, Int.toNat_natCast, List.getD_eq_getElem?_getD, List.getD_eq_getElem?_getD, List.getElem?_eq_getElem ha, List.getElem?_eq_getElem hb] at e
  have e2 := S1_inj (V.str.inj e)
  rcases Nat.lt_trichotomy a b with q | q | q
  · have := List.pairwise_iff_getElem.mp sig_up a b ha hb q
    have e3 : SIG[a] = SIG[b] := e2
    omega
  · exact h (by rw [q])
  · have := List.pairwise_iff_getElem.mp sig_up b a hb ha q
    have e3 : SIG[a] = SIG[b] := e2
    omega
def spSigns : Sp := fun vs H Q _ => ∃ c, vs = [.int c] ∧ ∀ p l H', l.length = 4 → l.Nodup → (∀ v ∈ l, SignV v) → H p = none → Same H H' → H' p = some (.lst l) → Q (.ref p) H'
theorem ok__law_signs (T : Txt K mg) : OkD P w K mg base 1 (fA K "_law_signs") ["_law_cell_here"] [] spSigns := by
  refine okD T.F__law_signs sc__law_signs (fun _ _ _ _ _ _ us hl => match us, hl with | [_], _ => rfl) ?_ ?_
  · rintro vs H Q E ⟨c, rfl, _⟩
    rfl
  · rintro cdv A outer s H vs Q E hr ⟨c, rfl, q⟩
    refine ⟨_, (pss_cons (ps_set (i := 1) sc__law_signs.nd rfl (Or.inr rfl) pe_str)
  (pss_cons (ps_set (i := 2) sc__law_signs.nd rfl (Or.inr rfl) (pe_op o_mul pe_int (pe_op (o_add (K := K)) pe_int (pe_op op_mod (pe_op op_fdivW (pv 0) pe_int) pe_int))))
  (pss_one (ps_ret (pe_lc (own := [("_law_k", 3)]) (g := (gName 3)) (tt := tYes) rfl sc__law_signs.nd (pi_mid (pi_range1 rfl T.fr_range (pa_cons pe_int pa_nil))) (blkOk_by (N := N__law_signs) (sc := defScope TX.s__law_signs) (by decide +kernel)) (fun _ _ _ _ _ => (pg_name (i := 3) sc__law_signs.nd rfl (Or.inl rfl))) (fun _ _ _ _ _ => pts_nil) (fun _ _ _ _ _ => (pe_mid (pe_ix (o_ix (K := K)) (pv 1) (pe_op op_mod (pe_op (o_add (K := K)) (pv 0) (pe_op o_mul (pv 2) (pv 3))) pe_int) (fun _ _ => rfl))))))))), ?_⟩
    walk_at "rd"
    refine ⟨⟨by decide, by decide⟩, .inl ⟨by decide, by decide⟩, ?_⟩
    refine lc_mid (J0 := Itr 0 4) (H0 := H) ?_ walk_range (by decide) (fun k acc _ => acc = (List.range k).map fun (j : Nat) => sgAt ((c + 7 * (1 + c / 39 % 2) * (j : Int)) % 39)) (fun _ _ _ _ _ h => h) rfl (fun _ _ => trivial) (fun _ _ _ _ y => y_fn y) (fun _ => rfl) ?_ ?_
    · walk_at "rd"
      exact ⟨by decide, by decide, rfl⟩
    · rintro k x acc H' H'' hk sm hc ⟨rfl, rfl⟩
      walk_at "rd"
      refine ⟨.inl ⟨by omega, by omega⟩, by decide +kernel, ?_⟩
      have hg := sig_get (i := (c + 7 * (1 + c / 39 % 2) * k) % 39) (Int.emod_nonneg _ (by decide)) (Int.emod_lt_of_pos _ (by decide))
      refine ⟨_, hg.1, ?_⟩
      rw [List.range_succ, List.map_append, ← hc]
      rfl
    · intro p acc H' hp sm hD hl hc
      have b : ∀ x : Int, 0 ≤ x % 39 ∧ x % 39 < 39 := fun x => ⟨Int.emod_nonneg _ (by decide), Int.emod_lt_of_pos _ (by decide)⟩
      have hx : c / 39 % 2 = 0 ∨ c / 39 % 2 = 1 := by omega
      have hc4 : acc = [sgAt ((c + 7 * (1 + c / 39 % 2) * 0) % 39), sgAt ((c + 7 * (1 + c / 39 % 2) * 1) % 39), sgAt ((c + 7 * (1 + c / 39 % 2) * 2) % 39), sgAt ((c + 7 * (1 + c / 39 % 2) * 3) % 39)] := hc
      refine q p acc H' hl ?_ ?_ hp sm hD
      · rw [hc4]
        have ne : ∀ x y : Int, x % 39 ≠ y % 39 → sgAt (x % 39) ≠ sgAt (y % 39) := fun x y h => sgAt_ne (b x).1 (b x).2 (b y).1 (b y).2 h
        rcases hx with h | h <;> rw [h] <;>
          refine List.nodup_cons.mpr ⟨?_, List.nodup_cons.mpr ⟨?_, List.nodup_cons.mpr ⟨?_, List.nodup_cons.mpr ⟨List.not_mem_nil, .nil⟩⟩⟩⟩ <;>
          simp only [List.mem_cons, List.not_mem_nil, or_false, not_or] <;>
          (try refine ⟨ne _ _ (by omega), ne _ _ (by omega), ne _ _ (by omega)⟩) <;> (try refine ⟨ne _ _ (by omega), ne _ _ (by omega)⟩) <;> exact ne _ _ (by omega)
      · rw [hc4]
        have s : ∀ x : Int, SignV (sgAt (x % 39)) := fun x => ⟨_, (sig_get (b x).1 (b x).2).2, rfl⟩
        intro v hv
        simp only [List.mem_cons, List.not_mem_nil, or_false] at hv
        rcases hv with rfl | rfl | rfl | rfl <;> exact s _

/-! ### lists of signs -/
theorem signs_list : ∀ {ws : List V}, (∀ v ∈ ws, SignV v) → ∃ cs : List Nat, ws = (cs.map fun c => S [c]).map V.str ∧ ∀ c ∈ cs, c ∈ SIG
  | [], _ => ⟨[], rfl, fun _ h => nomatch h⟩
  | v :: r, h => by
    obtain ⟨c, hc, rfl⟩ := h v List.mem_cons_self
    obtain ⟨cs, rfl, hs⟩ := signs_list (ws := r) fun u hu => h u (List.mem_cons_of_mem _ hu)
    exact ⟨c :: cs, rfl, fun d hd => (List.mem_cons.mp hd).elim (fun e => e ▸ hc) (hs d)⟩
theorem q_next {u : TS} {D : Ends} {σ : L2.St} {H : Hp} (h : u D σ H) : tSeq tNext u D σ H := h

def spPart (K : PySem.W.Frag) : Sp := fun vs H Q _ => ∃ c p ws, vs = [.int c, .ref p] ∧ SqL K H p ws ∧ ws.length = 4 ∧ (∀ v ∈ ws, SignV v) ∧ ∀ v f H', PF.Ok f → PF.Low f → Same H H' → Dp K H' v f.d → Q v H'
theorem at4 {ws : List V} (hl : ws.length = 4) (hw : ∀ v ∈ ws, SignV v) (i : Int) : ∃ c ∈ SIG, atI ws (i % 4) = some (.str (S [c])) := by
  have h0 : 0 ≤ i % 4 := Int.emod_nonneg _ (by decide)
  have h1 : i % 4 < 4 := Int.emod_lt_of_pos _ (by decide)
  obtain ⟨j, hj⟩ : ∃ j : Nat, i % 4 = (j : Int) := ⟨(i % 4).toNat, by omega⟩
  have hj2 : j < ws.length := by omega
  obtain ⟨c, hc, e⟩ := hw ws[j] (List.getElem_mem hj2)
  refine ⟨c, hc, ?_⟩
  rw [hj]
  refine atI_nat ?_
  rw [List.getElem?_eq_getElem hj2, e]
theorem at5 {a b c d e : V} {i : Int} {Q : V → Prop} (h0 : 0 ≤ i) (h1 : i < 5) (h : Q a ∧ Q b ∧ Q c ∧ Q d ∧ Q e) : ∃ v, atI [a, b, c, d, e] i = some v ∧ Q v := by
  have : i = 0 ∨ i = 1 ∨ i = 2 ∨ i = 3 ∨ i = 4 := by omega
  rcases this with rfl | rfl | rfl | rfl | rfl
  · exact ⟨a, rfl, h.1⟩
  · exact ⟨b, rfl, h.2.1⟩
  · exact ⟨c, rfl, h.2.2.1⟩
  · exact ⟨d, rfl, h.2.2.2.1⟩
  · exact ⟨e, rfl, h.2.2.2.2⟩
theorem ok__law_part (T : Txt K mg) : OkD P w K mg base 1 (fA K "_law_part") ["_law_cell_here", "_law_signs_here"] [] (spPart K) := by
  refine okD T.F__law_part sc__law_part (fun _ _ _ _ _ _ us hl => match us, hl with | [_, _], _ => rfl) ?_ ?_
  · rintro vs H Q E ⟨c, p, ws, rfl, _⟩
    rfl
  · rintro cdv A outer s H vs Q E hr ⟨c, p, ws, rfl, hs, hl, hw, q⟩
    refine ⟨_, (pss_cons (ps_set (i := 2) sc__law_part.nd rfl (Or.inl rfl) (pe_op op_mod (pv 0) pe_int))
  (pss_cons (ps_set (i := 3) sc__law_part.nd rfl (Or.inl rfl) (pe_ix (o_ix (K := K)) (pv 1) (pe_op op_mod (pe_op op_fdivW (pv 0) pe_int) pe_int) (fun _ _ => rfl)))
  (pss_cons (ps_set (i := 4) sc__law_part.nd rfl (Or.inl rfl) (pe_mid (pe_bmK (K := K) PySem.F.plainAttrs_str PySem.F.slot_str_join PySem.F.type_str_join (mo_join (K := K)) pe_str (pa_cons (pe_callB (o_sorted (K := K) (w := w) rfl) (by rfl) T.fr_sorted (by decide +kernel) (pa_cons (pe_callTy (o_set (K := K) (w := w) rfl) (by rfl) T.fr_set (by decide +kernel) (pa_cons (pe_lst (pa_cons (pv 3) (pa_cons (pe_ix (o_ix (K := K)) (pv 1) (pe_op op_mod (pe_op op_fdivW (pv 0) pe_int) pe_int) (fun _ _ => rfl)) pa_nil))) pa_nil)) pa_nil)) pa_nil))))
  (pss_cons (ps_if (pt_cmpR o_lt (pv 2) pe_int (nomark _)) (pss_one (ps_ret (pe_tup (pa_cons pe_str (pa_cons (pv 3) pa_nil))))) pss_nil)
  (pss_one (ps_ret (pe_ix (o_ix (K := K)) (pe_lst (pa_cons (pe_tup (pa_cons pe_str pa_nil)) (pa_cons (pe_tup (pa_cons pe_str (pa_cons (pv 4) (pa_cons pe_bl pa_nil)))) (pa_cons (pe_tup (pa_cons pe_str (pa_cons (pv 4) (pa_cons pe_bl pa_nil)))) (pa_cons (pe_tup (pa_cons pe_str pa_nil)) (pa_cons (pe_tup (pa_cons pe_str pa_nil)) pa_nil)))))) (pe_op op_sub (pv 2) pe_int) (fun _ _ => rfl)))))))), ?_⟩
    obtain ⟨c1, hc1, e1⟩ := at4 hl hw (c / 11)
    obtain ⟨c2, hc2, e2⟩ := at4 hl hw (c / 44)
    walk_at "rd"
    refine ⟨⟨by decide, by decide⟩, ws, .inl hs, _, e1, ?_⟩
    refine mid_of (fun v H' => ∃ l, (SigSet l ∧ l.length ≤ 2) ∧ v = .str (S l) ∧ Same H H') ?_ ?_
    · walk_at "rd"
      refine ⟨⟨by decide, by decide⟩, ws, .inl hs, _, e2, fun p1 hp1 => ⟨[S [c1], S [c2]], .inl (.inl upd_same), (by show (2 : Nat) < 1000; decide), fun p2 zs hp2 nd hz => .inl ⟨zs, upd_same, ?_, fun ys p3 pm so hp3 => ?_⟩⟩⟩
      · have e : zs.length ≤ 2 := str_nd_len zs [S [c1], S [c2]] nd fun x hx => (hz x).mp hx
        exact Nat.lt_of_le_of_lt e (by decide)
      · obtain ⟨cs, rfl, up, mem⟩ := sorted_signs pm so nd fun z hz' => by
          rcases List.mem_cons.mp ((hz z).mp hz') with rfl | h
          · exact ⟨_, rfl⟩
          · exact ⟨c2, List.mem_singleton.mp h⟩
        have sg : ∀ c ∈ cs, c ∈ SIG := fun c hc => by
          rcases List.mem_cons.mp ((hz _).mp ((mem c).mp hc)) with h | h
          · rw [S1_inj h]; exact hc1
          · rw [S1_inj (List.mem_singleton.mp h)]; exact hc2
        have ne : cs ≠ [] := fun e => by
          have h := (mem c1).mpr ((hz _).mpr List.mem_cons_self)
          rw [e] at h
          cases h
        have ok : SigSet cs := ⟨ne, up, sg⟩
        have l2 : zs.length ≤ 2 := str_nd_len zs [S [c1], S [c2]] nd fun x hx => (hz x).mp hx
        have l3 : cs.length ≤ 2 := by
          have e := pm.length_eq
          rw [List.length_map] at e
          omega
        refine ⟨_, .inl (.inl (.inl upd_same)), ?_, cs, ⟨ok, by omega⟩, join_chars cs, by walk_at "sm"⟩
        have e := len_chars cs
        have e2 := ok.len
        rw [show (Str.ofString "") = S [] from rfl, e]
        omega
    · rintro _ H1 ⟨l, hl, rfl, sm⟩
      refine ite2 (fun h6 => ?_) fun h6 => ?_
      · intro p1 hp1
        exact q _ (.one c1) _ hc1 trivial (by walk_at "sm") (.tup (.inl (.inl upd_same)) (.cons (.str _) (.cons (.str _) .nil)))
      · intro p1 hp1 p2 hp2 p3 hp3 p4 hp4 p5 hp5 p6 hp6
        have h0 : 0 ≤ c % 11 := Int.emod_nonneg _ (by decide)
        have h1 : c % 11 < 11 := Int.emod_lt_of_pos _ (by decide)
        refine ⟨_, .inl (.inl (.inl upd_same)), at5 (by omega) (by omega) ?_⟩
        refine ⟨q _ .any _ trivial trivial (by walk_at "sm") ?_, q _ (.among l false) _ ⟨hl.1, by omega⟩ trivial (by walk_at "sm") ?_, q _ (.among l true) _ ⟨hl.1, by omega⟩ (Nat.le_trans hl.2 (by decide)) (by walk_at "sm") ?_, q _ .stars _ trivial trivial (by walk_at "sm") ?_, q _ .stars _ trivial trivial (by walk_at "sm") ?_⟩
        · exact dp_mono (by walk_at "sm") _ _ (.tup (.inl (.inl (upd_same (H := H1) (a := p1)))) (.cons (.str _) .nil))
        · exact dp_mono (by walk_at "sm") _ _ (.tup (.inl (.inl (upd_same (a := p2)))) (.cons (.str _) (.cons (.str _) (.cons (.bl _) .nil))))
        · exact dp_mono (by walk_at "sm") _ _ (.tup (.inl (.inl (upd_same (a := p3)))) (.cons (.str _) (.cons (.str _) (.cons (.bl _) .nil))))
        · exact dp_mono (by walk_at "sm") _ _ (.tup (.inl (.inl (upd_same (a := p4)))) (.cons (.str _) .nil))
        · exact dp_mono (by walk_at "sm") _ _ (.tup (.inl (.inl (upd_same (a := p5)))) (.cons (.str _) .nil))

/-! ### the parts -/
/-- all but p stays -/
def But (p : Addr) (H H' : Hp) : Prop := ∀ a o, a ≠ p → H a = some o → H' a = some o
theorem but_same {H H' : Hp} {p dx : Addr} {o u : HO} (h0 : H p = none) (h1 : H dx = none) (b : But p (upd (upd H dx u) p o) H') : Same H H' := fun a v e => by
  have n0 : a ≠ p := ne_of_none e h0
  refine b a v n0 ?_
  rw [upd_ne n0, upd_ne (ne_of_none e h1)]
  exact e
theorem But.upd {H : Hp} {p : Addr} {o : HO} : But p H (upd H p o) := fun a u n e => by rw [upd_ne n]; exact e
theorem But.same {H H1 H2 : Hp} {p : Addr} (s : Same H H1) (b : But p H1 H2) : But p H H2 := fun a o n e => b a o n (s a o e)
theorem OkD.mono {k j : Nat} {f : Addr} {ps : List Str} {dvs : List V} {sp : Sp} (h : OkD P w K mg base k f ps dvs sp) (e : k ≤ j) : OkD P w K mg base j f ps dvs sp := by
  obtain ⟨fd, ds, F, r⟩ := h
  exact ⟨fd, ds, F.mono e, r⟩
def spFits (K : PySem.W.Frag) (f : PF) : Sp := fun vs H Q _ => ∃ v c, vs = [v, .str (S [c])] ∧ PartV K f v H ∧ Q (.bl (f.fits c)) H
def spMany (K : PySem.W.Frag) (f : PF) : Sp := fun vs H Q _ => ∃ v, vs = [v] ∧ PartV K f v H ∧ Q (.bl f.many) H
theorem ok_Any_fits (T : Txt K mg) : OkD P w K mg base 1 (mA K "Any" "fits") ["self", "sign"] [] (spFits K .any) := by
  refine okD T.F_Any_fits sc_Part_fits (fun _ _ _ _ _ _ us hl => match us, hl with | [_, _], _ => rfl) ?_ ?_
  · rintro vs H Q E ⟨v, c, rfl, _⟩
    rfl
  · rintro cdv A outer s H vs Q E hr ⟨v, c, rfl, h, q⟩
    refine ⟨_, (pss_one (ps_ret pe_bl)), ?_⟩
    walk_at "rd"
    exact q
theorem ok_Stars_fits (T : Txt K mg) : OkD P w K mg base 1 (mA K "Stars" "fits") ["self", "sign"] [] (spFits K .stars) := by
  refine okD T.F_Stars_fits sc_Part_fits (fun _ _ _ _ _ _ us hl => match us, hl with | [_, _], _ => rfl) ?_ ?_
  · rintro vs H Q E ⟨v, c, rfl, _⟩
    rfl
  · rintro cdv A outer s H vs Q E hr ⟨v, c, rfl, h, q⟩
    refine ⟨_, (pss_one (ps_ret pe_bl)), ?_⟩
    walk_at "rd"
    exact q
theorem ok_One_fits {d : Nat} (T : Txt K mg) : OkD P w K mg base 1 (mA K "One" "fits") ["self", "sign"] [] (spFits K (.one d)) := by
  refine okD T.F_One_fits sc_One_fits (fun _ _ _ _ _ _ us hl => match us, hl with | [_, _], _ => rfl) ?_ ?_
  · rintro vs H Q E ⟨v, c, rfl, _⟩
    rfl
  · rintro cdv A outer s H vs Q E hr ⟨v, c, rfl, ⟨p, dx, rfl, hp⟩, q⟩
    refine ⟨_, (pss_one (ps_ret (pe_cmpR (o_eq (K := K) (hu64 hr)) (pv 1) (pe_fldK (K := K) (pv 0) rfl) (nomark _)))), ?_⟩
    have tobj := T.obj
    walk_at "rdh"
    have e : decide (S [c] = S [d]) = decide (c = d) := decide_eq_decide.mpr ⟨S1_inj, fun h => by rw [h]⟩
    rw [e]
    exact q
theorem b_ne (a b : Bool) : (!decide (a = b)) = (a != b) := by cases a <;> cases b <;> rfl
theorem ok_Among_fits {l : List Nat} {o : Bool} (T : Txt K mg) : OkD P w K mg base 1 (mA K "Among" "fits") ["self", "sign"] [] (spFits K (.among l o)) := by
  refine okD T.F_Among_fits sc_Among_fits (fun _ _ _ _ _ _ us hl => match us, hl with | [_, _], _ => rfl) ?_ ?_
  · rintro vs H Q E ⟨v, c, rfl, _⟩
    rfl
  · rintro cdv A outer s H vs Q E hr ⟨v, c, rfl, ⟨p, dx, rfl, hp⟩, q⟩
    refine ⟨_, (pss_one (ps_ret (pe_cmpR (o_ne (K := K) (hu64 hr)) (pe_cmpR (o_in (K := K) (hu65 hr)) (pv 1) (pe_fldK (K := K) (pv 0) rfl) (by rfl)) (pe_fldK (K := K) (pv 0) rfl) (nomark _)))), ?_⟩
    have tobj := T.obj
    walk_at "rdh"
    refine .inl ⟨c, rfl, ?_⟩
    rw [b_ne]
    exact q
theorem ok_Any_many (T : Txt K mg) : OkD P w K mg base 1 (mA K "Any" "many") ["self"] [] (spMany K .any) := by
  refine okD T.F_Any_many sc_Part_many (fun _ _ _ _ _ _ us hl => match us, hl with | [_], _ => rfl) ?_ ?_
  · rintro vs H Q E ⟨v, rfl, _⟩
    rfl
  · rintro cdv A outer s H vs Q E hr ⟨v, rfl, h, q⟩
    refine ⟨_, (pss_one (ps_ret pe_bl)), ?_⟩
    walk_at "rd"
    exact q
theorem ok_One_many {d : Nat} (T : Txt K mg) : OkD P w K mg base 1 (mA K "One" "many") ["self"] [] (spMany K (.one d)) := by
  refine okD T.F_One_many sc_Part_many (fun _ _ _ _ _ _ us hl => match us, hl with | [_], _ => rfl) ?_ ?_
  · rintro vs H Q E ⟨v, rfl, _⟩
    rfl
  · rintro cdv A outer s H vs Q E hr ⟨v, rfl, h, q⟩
    refine ⟨_, (pss_one (ps_ret pe_bl)), ?_⟩
    walk_at "rd"
    exact q
theorem ok_Among_many {l : List Nat} {o : Bool} (T : Txt K mg) : OkD P w K mg base 1 (mA K "Among" "many") ["self"] [] (spMany K (.among l o)) := by
  refine okD T.F_Among_many sc_Part_many (fun _ _ _ _ _ _ us hl => match us, hl with | [_], _ => rfl) ?_ ?_
  · rintro vs H Q E ⟨v, rfl, _⟩
    rfl
  · rintro cdv A outer s H vs Q E hr ⟨v, rfl, h, q⟩
    refine ⟨_, (pss_one (ps_ret pe_bl)), ?_⟩
    walk_at "rd"
    exact q
theorem ok_Stars_many (T : Txt K mg) : OkD P w K mg base 1 (mA K "Stars" "many") ["self"] [] (spMany K .stars) := by
  refine okD T.F_Stars_many sc_Stars_many (fun _ _ _ _ _ _ us hl => match us, hl with | [_], _ => rfl) ?_ ?_
  · rintro vs H Q E ⟨v, rfl, _⟩
    rfl
  · rintro cdv A outer s H vs Q E hr ⟨v, rfl, h, q⟩
    refine ⟨_, (pss_one (ps_ret pe_bl)), ?_⟩
    walk_at "rd"
    exact q
section
variable {X : Cx}
theorem md_fits (T : Txt K mg) (h1 : X.prog = P := by rfl) (h2 : X.w = w := by rfl) (h3 : X.K = K := by rfl) (h4 : X.mg = mg := by rfl) (h5 : X.base = base := by rfl) : MetD X 1 "fits" (PartV K) (spFits K) := by
  subst h1 h2 h3 h4 h5
  rintro i x H ⟨p, dx, rfl, hp⟩
  cases i with
  | one c => exact ⟨p, _, dx, _, _, _, rfl, hp, T.c_One, T.m_One_fits, rfl, (ok_One_fits T).mono (by decide)⟩
  | any => exact ⟨p, _, dx, _, _, _, rfl, hp, T.c_Any, T.m_Any_fits, rfl, (ok_Any_fits T).mono (by decide)⟩
  | among l o => exact ⟨p, _, dx, _, _, _, rfl, hp, T.c_Among, T.m_Among_fits, rfl, (ok_Among_fits T).mono (by decide)⟩
  | stars => exact ⟨p, _, dx, _, _, _, rfl, hp, T.c_Stars, T.m_Stars_fits, rfl, (ok_Stars_fits T).mono (by decide)⟩
theorem md_many (T : Txt K mg) (h1 : X.prog = P := by rfl) (h2 : X.w = w := by rfl) (h3 : X.K = K := by rfl) (h4 : X.mg = mg := by rfl) (h5 : X.base = base := by rfl) : MetD X 1 "many" (PartV K) (spMany K) := by
  subst h1 h2 h3 h4 h5
  rintro i x H ⟨p, dx, rfl, hp⟩
  cases i with
  | one c => exact ⟨p, _, dx, _, _, _, rfl, hp, T.c_One, T.m_One_many, rfl, (ok_One_many T).mono (by decide)⟩
  | any => exact ⟨p, _, dx, _, _, _, rfl, hp, T.c_Any, T.m_Any_many, rfl, (ok_Any_many T).mono (by decide)⟩
  | among l o => exact ⟨p, _, dx, _, _, _, rfl, hp, T.c_Among, T.m_Among_many, rfl, (ok_Among_many T).mono (by decide)⟩
  | stars => exact ⟨p, _, dx, _, _, _, rfl, hp, T.c_Stars, T.m_Stars_many, rfl, (ok_Stars_many T).mono (by decide)⟩
end
/-! ### what parts tell -/
section
variable {X : Cx}
end
/-! ### the parts made -/
def spOne (K : PySem.W.Frag) : Sp := fun vs H Q E => ∃ p dx z, vs = [.ref p, .str z] ∧ H p = some (.ins (fA K "One") dx []) ∧ z.length ≤ 1000 ∧
  (∀ c H', c ∈ SIG → z = S [c] → H' p = some (PartO K dx (.one c)) → But p H H' → Q .non H') ∧ ((¬ ∃ c ∈ SIG, z = S [c]) → E (.ref (fA K "NoPart")) none H)
theorem ok_One___init__ (T : Txt K mg) : OkD P w K mg base 2 (mA K "One" "__init__") ["self", "sign"] [] (spOne K) := by
  refine okD T.F_One___init__ sc_One___init__ (fun _ _ _ _ _ _ us hl => match us, hl with | [_, _], _ => rfl) ?_ ?_
  · rintro vs H Q E ⟨p, dx, z, rfl, _⟩
    rfl
  · rintro cdv A outer s H vs Q E hr ⟨p, dx, z, rfl, hp, hz, q1, q2⟩
    refine ⟨_, (pss_cons (ps_if (pt_not (pt_tru (K := K) (pe_cal (ok_is_sign T) (hr.mono (by decide)) rfl T.g_is_sign (pasE (takes_of rfl rfl rfl rfl) (fun _ _ _ _ h => h)) (pa_cons (pv 1) pa_nil)) (by intro _; rfl))) (pss_one (ps_raise rfl (takes_of rfl rfl rfl rfl) (pmk_own PySem.F.excBase_ValueError T.x_NoPart.1 T.g_NoPart T.x_NoPart.2.1 (raises_own T.x_NoPart.2.2.1 T.x_NoPart.2.2.2) rfl))) pss_nil)
  (pss_one (ps_fld (pv 0) (pv 1) rfl))), ?_⟩
    have tobj := T.obj
    walk_at "rdh"
    refine ⟨z, rfl, by rw [sizeLine_eq]; omega, ?_⟩
    walk_at "rdh"
    refine ite2 (fun h => ?_) fun h => ?_
    · exact q2 h
    · obtain ⟨c, hc, rfl⟩ := Classical.not_not.mp h
      exact q1 c _ hc rfl upd_same But.upd
def spAmong (K : PySem.W.Frag) : Sp := fun vs H Q E => ∃ p dx z o, vs = [.ref p, .str z, .bl o] ∧ H p = some (.ins (fA K "Among") dx []) ∧ z.length < 1000 ∧
  (∀ l H', SigSet l → z.cps.toList.Perm l → H' p = some (PartO K dx (.among l o)) → But p H H' → Q .non H') ∧ ((¬ ∃ l, SigSet l ∧ z.cps.toList.Perm l) → ∀ H', Same H H' → E (.ref (fA K "NoPart")) none H')
theorem bd_Among___init__ (T : Txt K mg) : BodyQ P w K mg base 1 (mA K "Among" "__init__") "Among.__init__" (defBody TX.s_Among___init__) (defScope TX.s_Among___init__) N_Among___init__ (spAmong K) := by
  rintro cdv A outer s H vs Q E hr ⟨p, dx, z, o, rfl, hp, hz, q1, q2⟩
  refine ⟨_, (pss_cons (ps_if (pt_mid (PW.pt (pw_or (pt_cmpR (o_eq (K := K) (hu64 hr)) (pv 1) pe_str (nomark _)) (pw_or (pt_cmpR o_lt (pe_callB (o_lenW (K := K) (w := w)) (by rfl) T.fr_len boot_len (pa_cons (pe_callTy (o_set (K := K) (w := w) rfl) (by rfl) T.fr_set (by decide +kernel) (pa_cons (pv 1) pa_nil)) pa_nil)) (pe_callB (o_lenW (K := K) (w := w)) (by rfl) T.fr_len boot_len (pa_cons (pv 1) pa_nil)) (nomark _)) (pw_or1 (pt_not (pt_tru (K := K) (pe_callB (o_all (K := K) rfl) (by rfl) T.fr_all (by decide +kernel) (pa_cons (pe_lc (own := [("sign", 3)]) (g := (gName 3)) (tt := tYes) rfl sc_Among___init__.nd (pi_mid (o_it (K := K) rfl (pv 1))) (blkOk_by (N := N_Among___init__) (sc := defScope TX.s_Among___init__) (by decide +kernel)) (fun _ _ _ _ _ => (pg_name (i := 3) sc_Among___init__.nd rfl (Or.inl rfl))) (fun _ _ _ _ _ => pts_nil) (fun _ _ _ _ _ => (pe_mid (pe_cal (ok_is_sign T) (hr.mono (by decide)) rfl T.g_is_sign pasN (pa_cons (pv 3) pa_nil))))) pa_nil)) (by intro _; rfl)))))))) (pss_one (ps_raise rfl (takes_of rfl rfl rfl rfl) (pmk_own PySem.F.excBase_ValueError T.x_NoPart.1 T.g_NoPart T.x_NoPart.2.1 (raises_own T.x_NoPart.2.2.1 T.x_NoPart.2.2.2) rfl))) pss_nil)
  (pss_cons (ps_fld (pv 0) (pe_mid (pe_bmK (K := K) PySem.F.plainAttrs_str PySem.F.slot_str_join PySem.F.type_str_join (mo_join (K := K)) pe_str (pa_cons (pe_callB (o_sorted (K := K) (w := w) rfl) (by rfl) T.fr_sorted (by decide +kernel) (pa_cons (pv 1) pa_nil)) pa_nil))) rfl)
  (pss_one (ps_fld (pv 0) (pv 2) rfl)))), ?_⟩
  have tobj := T.obj
  refine q_if (fun b H1 => Same H H1 ∧ (b = true ↔ ¬ Good z)) ?_ (fun H1 ⟨s1, e1⟩ => ?_) fun H1 ⟨s1, e1⟩ => ?_
  · walk_at "rd"
    refine ite2 (fun h => ?_) fun h => ?_
    · exact ⟨fun _ g => (good_iff.mp g).1 h, fun _ => trivial⟩
    have hch : (chars z).length = z.length := by unfold chars; rw [List.length_map, Array.length_toList]; rfl
    refine ⟨by rw [hch]; exact hz, fun a l ha nd hm => .inl ⟨l, upd_same, by omega, ?_⟩⟩
    have sa := same_new (o := SetS w a l) ha
    have el : ((l.length : Int) < (z.length : Int)) = ¬ (chars z).Nodup := by
      rw [← set_len nd hm, hch]
      exact propext Int.ofNat_lt
    refine ite2 (fun hn => ?_) fun hn => ?_
    · exact ⟨sa, fun _ g => (el ▸ hn) (good_iff.mp g).2.1, fun _ => trivial⟩
    rw [el] at hn
    refine lc_text (z := z) (H0 := upd H a (SetS w a l)) (fun c => .bl (decide (c ∈ SIG))) ?_ (by omega) (fun _ => rfl) ?_ ?_
    · walk_at "rd"
    · intro c H' hc s2
      walk_at "rd"
      refine ⟨⟨#[c]⟩, rfl, (by rw [sizeLine_eq]; show 1 ≤ 16777216; decide), ?_⟩
      walk_at "rd"
      refine decide_eq_decide.mpr ⟨fun ⟨d, hd, e⟩ => ?_, fun hd => ⟨c, hd, rfl⟩⟩
      rw [S1_inj e]
      exact hd
    · intro p' H' hp' s2 hH'
      walk_at "rd"
      refine ⟨z.cps.toList.map fun c => decide (c ∈ SIG), .inl (.inl (by rw [hH', List.map_map]; rfl)), ?_⟩
      refine ⟨sa.trans s2, ?_⟩
      have e : (z.cps.toList.map fun c => decide (c ∈ SIG)).all id = decide (∀ c ∈ z.cps.toList, c ∈ SIG) := by
        rw [List.all_map]
        refine Bool.eq_iff_iff.mpr ?_
        rw [List.all_eq_true, decide_eq_true_eq]
        exact ⟨fun h c hc => of_decide_eq_true (h c hc), fun h c hc => decide_eq_true (h c hc)⟩
      rw [e]
      rw [decide_eq_false_iff_not]
      exact ⟨fun hs g => hs (good_iff.mp g).2.2, fun hg hs => hg (good_iff.mpr ⟨h, Classical.not_not.mp hn, hs⟩)⟩
  · walk_at "rd"
    exact q2 (e1.mp rfl) _ s1
  · have g : Good z := Classical.not_not.mp fun n => nomatch e1.mpr n
    obtain ⟨g1, g2, g3⟩ := good_iff.mp g
    obtain ⟨l, ok, pm⟩ := g
    have hp1 := s1 _ _ hp
    have c1 := T.c_Among
    walk_at "rd"
    refine mid_of (fun v H' => v = .str (S l) ∧ Same H1 H') ?_ ?_
    · walk_at "rd"
      have el := pm.length_eq
      have e39 := ok.len
      have hch : (chars z).length = l.length := by unfold chars; rw [List.length_map, el]
      refine ⟨by omega, fun ys p' p1 so hp' => ?_⟩
      obtain ⟨cs, rfl, up, mem⟩ := sorted_signs p1 so g2 fun x hx => by
        obtain ⟨c, _, rfl⟩ := List.mem_map.mp hx
        exact ⟨c, rfl⟩
      have ec : cs = l := up_eq up ok.up fun c => by rw [mem, ← pm.mem_iff]; exact map1_mem
      subst ec
      refine ⟨_, .inl (.inl (.inl upd_same)), ?_, join_chars cs, same_new hp'⟩
      have e := len_chars cs
      rw [show (Str.ofString "") = S [] from rfl, e]
      omega
    · rintro _ H2 ⟨rfl, s2⟩
      have hp2 := s2 _ _ hp1
      walk_at "rdh"
      exact q1 l _ ok pm upd_same (.same (s1.trans s2) .upd)
theorem ok_Among___init___1 (T : Txt K mg) : OkD P w K mg base 2 (mA K "Among" "__init__") ["self", "signs", "outside"] [V.bl false] (spAmong K) := okDd T.F_Among___init__ sc_Among___init__ 2 0 (fun q => nomatch q) rfl (fun _ _ _ _ _ _ _ us its hl hi => match us, hl, its, hi with | [_, _], _, [_], _ => ⟨_, rfl, rfl⟩) (by rintro vs H Q E ⟨p, dx, z, o, rfl, _⟩; rfl) (bd_Among___init__ T)
theorem ok_Among___init__ (T : Txt K mg) : OkD P w K mg base 2 (mA K "Among" "__init__") ["self", "signs", "outside"] [] (spAmong K) := okDd T.F_Among___init__ sc_Among___init__ 3 1 (fun q => nomatch q) rfl (fun _ _ _ _ _ _ _ us its hl hi => match us, hl, its, hi with | [_, _, _], _, [_], _ => ⟨_, rfl, rfl⟩) (by rintro vs H Q E ⟨p, dx, z, o, rfl, _⟩; rfl) (bd_Among___init__ T)
theorem okk_Among___init___outside (T : Txt K mg) : OkK P w K mg base 2 (mA K "Among" "__init__") ["self", "signs", "outside"] 2 ["outside"] (spAmong K) := okK T.F_Among___init__ sc_Among___init__ 2 ["outside"] (fun q => nomatch q) (fun _ _ _ _ _ _ _ us its ws hl hi hw => match us, hl, its, hi, ws, hw with | [_, _], _, [_], _, [_], _ => ⟨_, rfl, rfl⟩) (by rintro vs H Q E ⟨p, dx, z, o, rfl, _⟩; rfl) (bd_Among___init__ T)

def PF.vs : PF → List V
  | .one c => [.str "one", .str (S [c])]
  | .any => [.str "any"]
  | .among l o => [.str "among", .str (S l), .bl o]
  | .stars => [.str "stars"]
theorem PF.inv {f : PF} {v : V} {H : Hp} (h : Dp K H v f.d) : ∃ a, v = .ref a ∧ SqT K H a f.vs := by
  cases f with
  | one c =>
    cases h with
    | tup hs ha => cases ha with | cons h1 ha => cases ha with | cons h2 ha => cases ha; cases h1; cases h2; exact ⟨_, rfl, hs⟩
  | any =>
    cases h with
    | tup hs ha => cases ha with | cons h1 ha => cases ha; cases h1; exact ⟨_, rfl, hs⟩
  | among l o =>
    cases h with
    | tup hs ha => cases ha with | cons h1 ha => cases ha with | cons h2 ha => cases ha with | cons h3 ha => cases ha; cases h1; cases h2; cases h3; exact ⟨_, rfl, hs⟩
  | stars =>
    cases h with
    | tup hs ha => cases ha with | cons h1 ha => cases ha; cases h1; exact ⟨_, rfl, hs⟩
def spMade (K : PySem.W.Frag) : Sp := fun vs H Q _ => ∃ v f, vs = [v] ∧ Dp K H v f.d ∧ PF.Ok f ∧ ∀ u H', Same H H' → PartV K f u H' → Q u H'
theorem ok__law_part_made (T : Txt K mg) : OkD P w K mg base 4 (fA K "_law_part_made") ["_law_form"] [] (spMade K) := by
  refine okD T.F__law_part_made sc__law_part_made (fun _ _ _ _ _ _ us hl => match us, hl with | [_], _ => rfl) ?_ ?_
  · rintro vs H Q E ⟨v, f, rfl, _⟩
    rfl
  · rintro cdv A outer s H vs Q E hr ⟨v, f, rfl, hd, ok, q⟩
    refine ⟨_, (pss_cons (ps_if (pt_mid (pt_cmpR (o_eq (K := K) (hu64 hr)) (pe_ix (o_ix (K := K)) (pv 0) pe_int (fun _ _ => rfl)) pe_str (nomark _))) (pss_one (ps_ret (pe_mak T.mk_One (ok_One___init__ T) (hr.mono (by decide)) rfl T.g_One (pasE (takes_of rfl rfl rfl rfl) (fun _ _ _ _ h => h)) (pa_cons (pe_ix (o_ix (K := K)) (pv 0) pe_int (fun _ _ => rfl)) pa_nil)))) pss_nil)
  (pss_cons (ps_if (pt_mid (pt_cmpR (o_eq (K := K) (hu64 hr)) (pe_ix (o_ix (K := K)) (pv 0) pe_int (fun _ _ => rfl)) pe_str (nomark _))) (pss_one (ps_ret (pe_makN T.mn_Any rfl T.g_Any))) pss_nil)
  (pss_cons (ps_if (pt_mid (pt_cmpR (o_eq (K := K) (hu64 hr)) (pe_ix (o_ix (K := K)) (pv 0) pe_int (fun _ _ => rfl)) pe_str (nomark _))) (pss_one (ps_ret (pe_mak T.mk_Among (ok_Among___init__ T) (hr.mono (by decide)) rfl T.g_Among (pasE (takes_of rfl rfl rfl rfl) (fun _ _ _ _ h => h)) (pa_cons (pe_ix (o_ix (K := K)) (pv 0) pe_int (fun _ _ => rfl)) (pa_cons (pe_ix (o_ix (K := K)) (pv 0) pe_int (fun _ _ => rfl)) pa_nil))))) pss_nil)
  (pss_one (ps_ret (pe_makN T.mn_Stars rfl T.g_Stars)))))), ?_⟩
    have tobj := T.obj
    obtain ⟨a, rfl, hs⟩ := PF.inv hd
    cases f with
    | one c =>
      refine q_if (fun b H1 => b = true ∧ H1 = H) (by walk_at "rdx") (fun H1 h => ?_) (fun H1 h => nomatch h.1)
      obtain ⟨_, rfl⟩ := h
      walk_at "rdx"
      intro x dx hx hdx hne
      refine ⟨x, dx, S [c], rfl, upd_same, (by show 1 ≤ 1000; decide), fun c' H' _ e h1 h2 => ⟨rfl, ?_⟩, fun n => absurd ⟨c, ok, rfl⟩ n⟩
      rw [← S1_inj e] at h1
      exact q _ _ (but_same hx hdx h2) ⟨x, dx, rfl, h1⟩
    | any =>
      refine q_if (fun b H1 => b = false ∧ H1 = H) (by walk_at "rdx") (fun H1 h => nomatch h.1) (fun H1 h => ?_)
      obtain ⟨_, rfl⟩ := h
      refine q_if (fun b H1' => b = true ∧ H1' = H1) (by walk_at "rdx") (fun H2 h => ?_) (fun H1 h => nomatch h.1)
      obtain ⟨_, rfl⟩ := h
      walk_at "rdx"
      intro x dx hx hdx hne
      exact q _ _ (but_same hx hdx (fun _ _ _ e => e)) ⟨x, dx, rfl, upd_same⟩
    | among l o =>
      refine q_if (fun b H1 => b = false ∧ H1 = H) (by walk_at "rdx") (fun H1 h => nomatch h.1) (fun H1 h => ?_)
      obtain ⟨_, rfl⟩ := h
      refine q_if (fun b H1' => b = false ∧ H1' = H1) (by walk_at "rdx") (fun H1 h => nomatch h.1) (fun H2 h => ?_)
      obtain ⟨_, rfl⟩ := h
      refine q_if (fun b H1' => b = true ∧ H1' = H2) (by walk_at "rdx") (fun H3 h => ?_) (fun H1 h => nomatch h.1)
      obtain ⟨_, rfl⟩ := h
      walk_at "rdx"
      intro x dx hx hdx hne
      refine ⟨x, dx, S l, o, rfl, upd_same, ?_, fun m H' ok' pm h1 h2 => ⟨rfl, ?_⟩, fun n => absurd ⟨l, ok.1, .refl _⟩ n⟩
      · rw [S_len]
        have := ok.1.len
        omega
      · have e : m = l := up_eq ok'.up ok.1.up fun c => pm.mem_iff.symm
        rw [e] at h1
        exact q _ _ (but_same hx hdx h2) ⟨x, dx, rfl, h1⟩
    | stars =>
      refine q_if (fun b H1 => b = false ∧ H1 = H) (by walk_at "rdx") (fun H1 h => nomatch h.1) (fun H1 h => ?_)
      obtain ⟨_, rfl⟩ := h
      refine q_if (fun b H1' => b = false ∧ H1' = H1) (by walk_at "rdx") (fun H1 h => nomatch h.1) (fun H2 h => ?_)
      obtain ⟨_, rfl⟩ := h
      refine q_if (fun b H1' => b = false ∧ H1' = H2) (by walk_at "rdx") (fun H1 h => nomatch h.1) (fun H3 h => ?_)
      obtain ⟨_, rfl⟩ := h
      walk_at "rdx"
      intro x dx hx hdx hne
      exact q _ _ (but_same hx hdx (fun _ _ _ e => e)) ⟨x, dx, rfl, upd_same⟩

/-! ### steps -/
theorem while_mid {c : TT} {tb : TS} {D : Ends} {σ : L2.St} {H : Hp} (W : Nat → L2.St → Hp → Prop) (m : Nat) (w0 : W m σ H)
    (turn : ∀ m σ H, W m σ H → ∃ C : Bool → Hp → Prop, c σ H C ∧ (∀ H1, C true H1 → tb { D with nx := fun σ' H' => ∃ m', m' < m ∧ W m' σ' H', ct := fun σ' H' => ∃ m', m' < m ∧ W m' σ' H', bk := D.nx } σ H1) ∧ ∀ H1, C false H1 → D.nx σ H1) :
    tWhile (tMidT c) tb D σ H := by
  refine ⟨W, ⟨m, w0⟩, fun m σ H w => ?_⟩
  obtain ⟨C, h1, h2, h3⟩ := turn m σ H w
  refine ⟨C, h1, fun b H1 hb => ?_⟩
  cases b with
  | true => exact ⟨_, fun _ _ h => h, h2 H1 hb⟩
  | false => exact h3 H1 hb
theorem q_new {i : Nat} {u : TS} {D : Ends} {σ : L2.St} {H : Hp} (h : ∀ p, H p = none → u D (σ.set i (some (.ref p))) (upd H p (.lst []))) : tSeq (tAsg (tLst tNil) (gName i)) u D σ H := by
  unfold tSeq tAsg tLst tNil gName
  exact ⟨Nat.zero_le _, fun p hp => h p hp⟩
theorem q_app {i : Nat} {te : TE} {u : TS} {D : Ends} {σ : L2.St} {H : Hp} {F : Addr} {xs : List V} (e : σ[i]? = some (some (.ref F))) (hl : H F = some (.lst xs))
    (h : te σ H fun y H1 => ∃ ys, H1 F = some (.lst ys) ∧ ys.length < sizeLine ∧ u D σ (upd H1 F (.lst (ys ++ [y])))) : tSeq (tDrop (tBM K "list" rAppend (tVar i) (tCons (tMid te) tNil))) u D σ H := by
  unfold tSeq tDrop tBM tVar tCons tNil
  exact ⟨_, e, .inl ⟨rfl, xs, .inl (.inl hl)⟩, _, h, fun y H1 ⟨ys, h1, h2, h3⟩ => ⟨F, ys, y, rfl, rfl, h1, h2, h3⟩⟩
theorem l_app {i : Nat} {te : TE} {D : Ends} {σ : L2.St} {H : Hp} {F : Addr} {xs : List V} (e : σ[i]? = some (some (.ref F))) (hl : H F = some (.lst xs))
    (h : te σ H fun y H1 => ∃ ys, H1 F = some (.lst ys) ∧ ys.length < sizeLine ∧ D.nx σ (upd H1 F (.lst (ys ++ [y])))) : tDrop (tBM K "list" rAppend (tVar i) (tCons (tMid te) tNil)) D σ H := by
  unfold tDrop tBM tVar tCons tNil
  exact ⟨_, e, .inl ⟨rfl, xs, .inl (.inl hl)⟩, _, h, fun y H1 ⟨ys, h1, h2, h3⟩ => ⟨F, ys, y, rfl, rfl, h1, h2, h3⟩⟩
theorem q_appV {i j : Nat} {u : TS} {D : Ends} {σ : L2.St} {H : Hp} {F : Addr} {xs : List V} {y : V} (e : σ[i]? = some (some (.ref F))) (e2 : σ[j]? = some (some y)) (hl : H F = some (.lst xs)) (hn : xs.length < 16777216)
    (h : u D σ (upd H F (.lst (xs ++ [y])))) : tSeq (tDrop (tBM K "list" rAppend (tVar i) (tCons (tMid (tVar j)) tNil))) u D σ H := q_app e hl ⟨y, e2, xs, hl, by rw [sizeLine_eq]; exact hn, h⟩
theorem l_appV {i j : Nat} {D : Ends} {σ : L2.St} {H : Hp} {F : Addr} {xs : List V} {y : V} (e : σ[i]? = some (some (.ref F))) (e2 : σ[j]? = some (some y)) (hl : H F = some (.lst xs)) (hn : xs.length < 16777216)
    (h : D.nx σ (upd H F (.lst (xs ++ [y])))) : tDrop (tBM K "list" rAppend (tVar i) (tCons (tMid (tVar j)) tNil)) D σ H := l_app e hl ⟨y, e2, xs, hl, by rw [sizeLine_eq]; exact hn, h⟩
def intsV (l : List Nat) : List V := l.map fun (i : Nat) => V.int (i : Int)
theorem inV_ints {j : Nat} : ∀ {l : List Nat}, inV (.int j) (intsV l) = decide (j ∈ l)
  | [] => rfl
  | i :: r => by
    have ih := inV_ints (j := j) (l := r)
    have e : inV (.int j) (intsV (i :: r)) = (decide ((i : Int) = (j : Int)) || inV (.int j) (intsV r)) := rfl
    rw [e, ih, ← Bool.decide_or]
    refine decide_eq_decide.mpr ?_
    rw [List.mem_cons, Int.natCast_inj]
    exact ⟨fun h => h.imp Eq.symm id, fun h => h.imp Eq.symm id⟩
theorem flat_ints : ∀ (l : List Nat), (intsV l).all flatV = true
  | [] => rfl
  | _ :: r => flat_ints r
theorem l_midG {i : Nat} {te : TE} {D : Ends} {σ : L2.St} {H : Hp} (C : V → Hp → Prop) (h : te σ H C) (k : ∀ v H1, C v H1 → D.nx (σ.set i (some v)) H1) : tAsg (tMid te) (gName i) D σ H := ⟨C, h, k⟩
theorem drop_le {α : Type} (k : Nat) (l : List α) : (l.drop k).length ≤ l.length := by rw [List.length_drop]; exact Nat.sub_le _ _
theorem atI_zero {α : Type} {x : α} {r : List α} : atI (x :: r) 0 = some x := by
  show atI (x :: r) ((0 : Nat) : Int) = some x
  exact atI_nat rfl
/-! ### segments -/
theorem PartsV.at' {fs : List PF} {us : List V} {H : Hp} {i : Nat} {x : V} (h : PartsV K fs us H) (e : us[i]? = some x) : ∃ f, fs[i]? = some f ∧ PartV K f x H := by
  have hl : i < us.length := (List.getElem?_eq_some_iff.mp e).1
  rw [h.1] at hl
  obtain ⟨u, e2, g⟩ := h.2 i fs[i] (List.getElem?_eq_getElem hl)
  rw [e2] at e
  cases e
  exact ⟨_, List.getElem?_eq_getElem hl, g⟩
theorem atI_last {xs : List V} {u : V} (h : xs.getLast? = some u) : atI xs (-1) = some u := by
  unfold atI ixN
  have hne : xs ≠ [] := fun e => by rw [e] at h; cases h
  have hl : 0 < xs.length := List.length_pos_iff.mpr hne
  rw [if_neg (by decide), if_pos (by omega)]
  have e : ((-1 : Int) + (xs.length : Int)).toNat = xs.length - 1 := by omega
  show xs[((-1 : Int) + (xs.length : Int)).toNat]? = some u
  rw [e, ← List.getLast?_eq_getElem?]
  exact h
theorem PartsV.last {fs : List PF} {us : List V} {H : Hp} {f : PF} (h : PartsV K fs us H) (e : fs.getLast? = some f) : ∃ u, us.getLast? = some u ∧ PartV K f u H := by
  rw [List.getLast?_eq_getElem?] at e
  obtain ⟨u, e2, g⟩ := h.2 _ f e
  refine ⟨u, ?_, g⟩
  rw [List.getLast?_eq_getElem?, h.1]
  exact e2
def addB (acc : List PF) (f : PF) : Bool := decide (acc = []) || (!f.many || match acc.getLast? with
  | some g => !g.many
  | none => true)
theorem normOne_eq (acc : List PF) (f : PF) : normOne acc f = if addB acc f = true then acc ++ [f] else acc := by
  unfold normOne addB
  rcases List.eq_nil_or_concat acc with rfl | ⟨r, g, rfl⟩
  · simp
  · rw [List.concat_eq_append]
    simp only [List.getLast?_append, List.getLast?_singleton, Option.some_or]
    cases f.many <;> cases h : g.many <;> simp [h]
def spSeg (K : PySem.W.Frag) : Sp := fun vs H Q E => ∃ p dx t us fs, vs = [.ref p, .ref t] ∧ (SqT K H t us ∨ SqL K H t us) ∧ PartsV K fs us H ∧ fs.length ≤ 1000 ∧ H p = some (.ins (fA K "Segment") dx []) ∧ (∀ u ∈ us, u ≠ .ref p) ∧
  (fs ≠ [] → ∀ H' tt us', But p H H' → H' p = some (.ins (fA K "Segment") dx [("parts", .ref tt)]) → H' tt = some (.tup us') → PartsV K (normP fs) us' H' → Q .non H') ∧ (fs = [] → E (.ref (fA K "NoPart")) none H)
theorem seq_walk {t : Addr} {us : List V} {H : Hp} (h : SqT K H t us ∨ SqL K H t us) : ∃ J0 G, (∀ (σ : L2.St) (H' : Hp) (i : Nat), σ[i]? = some (some (.ref t)) → Same H H' → iU K (tVar i) σ H' fun J H1 => J = J0 ∧ H1 = H') ∧ Walk J0 us.length G (YAt us) ∧ ∀ H', Same H H' → G H' := by
  rcases h with h | h
  · exact ⟨_, _, fun σ H' i e s => ⟨_, e, .inr ⟨⟨us, same_t s h⟩, rfl, rfl⟩⟩, walk_tup (K := K) (a := t) (xs := us), fun H' s => same_t s h⟩
  · exact ⟨_, _, fun σ H' i e s => ⟨_, e, .inl ⟨⟨us, same_l s h⟩, rfl, rfl⟩⟩, walk_list (K := K) (a := t) (xs := us), fun H' s => same_l s h⟩
theorem len_seq {t : Addr} {us : List V} {H : Hp} (h : SqT K H t us ∨ SqL K H t us) : LenV K (.ref t) H us.length := h.elim (fun h => .inr ⟨us, h, rfl⟩) fun h => .inl ⟨us, h, rfl⟩
theorem ok_Segment___init__ (T : Txt K mg) : OkD P w K mg base 2 (mA K "Segment" "__init__") ["self", "parts"] [] (spSeg K) := by
  refine okD T.F_Segment___init__ sc_Segment___init__ (fun _ _ _ _ _ _ us hl => match us, hl with | [_, _], _ => rfl) ?_ ?_
  · rintro vs H Q E ⟨p, dx, t, us, fs, rfl, _⟩
    rfl
  · rintro cdv A outer s H vs Q E hr ⟨p, dx, t, us, fs, rfl, ht, hp, hn, ho, hup, q1, q2⟩
    refine ⟨_, (pss_cons (ps_if (pt_mid (pt_cmpR (o_eq (K := K) (hu64 hr)) (pe_callB (o_lenW (K := K) (w := w)) (by rfl) T.fr_len boot_len (pa_cons (pv 1) pa_nil)) pe_int (nomark _))) (pss_one (ps_raise rfl (takes_of rfl rfl rfl rfl) (pmk_own PySem.F.excBase_ValueError T.x_NoPart.1 T.g_NoPart T.x_NoPart.2.1 (raises_own T.x_NoPart.2.2.1 T.x_NoPart.2.2.2) rfl))) pss_nil)
  (pss_cons (ps_set (i := 2) sc_Segment___init__.nd rfl (Or.inl rfl) (pe_lst pa_nil))
  (pss_cons (ps_mid (ps_for (passes_of rfl) rfl (pi_mid (o_it (K := K) rfl (pv 1))) (pg_name (i := 3) sc_Segment___init__.nd rfl (Or.inl rfl)) (pss_one (ps_if (pt_mid (PW.pt (pw_or (pt_cmpR (o_eq (K := K) (hu64 hr)) (pv 2) (pe_lst pa_nil) (nomark _)) (pw_or (pt_not (pt_tru (K := K) (pe_metI0 (md_many T) (pv 3) (hr.mono (by decide)) (pasE (takes_of rfl rfl rfl rfl) (fun _ _ _ _ h => h))) (by intro _; rfl))) (pw_or1 (pt_not (pt_tru (K := K) (pe_metI0 (md_many T) (pe_ix (o_ix (K := K)) (pv 2) (pe_un un_neg pe_int) (fun _ _ => rfl)) (hr.mono (by decide)) (pasE (takes_of rfl rfl rfl rfl) (fun _ _ _ _ h => h))) (by intro _; rfl)))))))) (pss_one (ps_expr (pe_bmK (K := K) PySem.F.plainAttrs_list PySem.F.slot_list_append PySem.F.type_list_append mt_append (pv 2) (pa_cons (pe_mid (pv 3)) pa_nil)))) pss_nil))))
  (pss_one (ps_fld (pv 0) (pe_mid (pe_callTy (o_tuple (K := K)) (by rfl) T.fr_tuple (by decide +kernel) (pa_cons (pv 2) pa_nil))) rfl))))), ?_⟩
    have tobj := T.obj
    refine q_if (fun b H' => H' = H ∧ b = decide (fs = [])) ?_ ?_ ?_
    · walk_at "rd"
      refine .inr ⟨_, len_seq ht, ?_⟩
      rw [hp.1]
      refine decide_eq_decide.mpr ⟨fun h => List.length_eq_zero_iff.mp (by omega), fun h => by rw [h]; rfl⟩
    · rintro _ ⟨rfl, hb⟩
      walk_at "rd"
      exact q2 (of_decide_eq_true hb.symm)
    rintro _ ⟨rfl, hb⟩
    have hne : fs ≠ [] := of_decide_eq_false hb.symm
    rename_i H
    refine q_new fun F hF => ?_
    have hFp : F ≠ p := fun e => by rw [e, ho] at hF; cases hF
    obtain ⟨J0, G, hw, wk, hG⟩ := seq_walk ht
    have sF : Same H (upd H F (.lst [])) := same_new hF
    refine q_stm (fun σ H' => ∃ acc x, σ = [some (.ref p), some (.ref t), some (.ref F), x] ∧ Same H H' ∧ H' F = some (.lst acc) ∧ PartsV K (normP fs) acc H' ∧ ∀ u ∈ acc, u ≠ .ref p) ?_ ?_
    · refine for_mid (J0 := J0) (H0 := upd H F (.lst [])) (hw _ _ _ rfl sF) wk
        (fun k σ H' => ∃ acc x, σ = [some (.ref p), some (.ref t), some (.ref F), x] ∧ Same H H' ∧ H' F = some (.lst acc) ∧ PartsV K ((fs.take k).foldl normOne []) acc H' ∧ ∀ u ∈ acc, u ≠ .ref p)
        ⟨[], none, rfl, sF, upd_same, .nil, fun _ h => nomatch h⟩ (fun k σ H' _ ⟨_, _, _, s, _⟩ => hG H' s) ?_ (fun σ H' h => ?_)
      · rintro k x σ H1 H1' hk ⟨acc, x0, rfl, sm, hl, pv, nup⟩ ⟨rfl, hx⟩
        obtain ⟨f, hf, hu⟩ := hp.at' hx
        have hu1 := hu.mono sm
        have len : acc.length ≤ fs.length := by
          rw [pv.1]
          have key : ∀ (l : List PF), (l.foldl normOne []).length ≤ l.length := fun l => by
            have g : ∀ (l a : List PF), (l.foldl normOne a).length ≤ a.length + l.length := by
              intro l
              induction l with
              | nil => exact fun a => Nat.le_refl _
              | cons y r ih =>
                intro a
                refine Nat.le_trans (ih (normOne a y)) ?_
                have e : (normOne a y).length ≤ a.length + 1 := by
                  unfold normOne
                  split
                  · rw [List.length_append]; exact Nat.le_refl _
                  · exact Nat.le_succ _
                rw [List.length_cons]
                omega
            have := g l []
            simpa using this
          have a := key (fs.take k)
          have b := List.length_take_le' k fs
          omega
        refine l_if (fun b H' => Same H1' H' ∧ b = addB ((fs.take k).foldl normOne []) f) ?_ ?_ ?_
        · walk_at "rd"
          intro n hn0
          have sn : Same H1' (upd H1' n (.lst [])) := same_new hn0
          have hln := sn _ _ hl
          have hun := hu1.mono sn
          have eacc : acc = [] ↔ (fs.take k).foldl normOne [] = [] := by
            rw [← List.length_eq_zero_iff, ← List.length_eq_zero_iff, pv.1]
          generalize ha0 : (fs.take k).foldl normOne [] = a0 at *
          refine eq_nil (.inl (.inl hln)) (.inl (.inl upd_same)) ⟨_, rfl, ite2 (fun h => ?_) fun h => ?_⟩
          · refine ⟨sn, ?_⟩
            unfold addB
            rw [decide_eq_true (eacc.mp (of_decide_eq_true h))]
            rfl
          have hna : a0 ≠ [] := fun e => h (decide_eq_true (eacc.mpr e))
          have e0 : addB a0 f = (!f.many || match a0.getLast? with
            | some g => !g.many
            | none => true) := by
            unfold addB
            rw [decide_eq_false hna]
            rfl
          refine ⟨f, hun, x, rfl, hun, _, rfl, ite2 (fun hm => ⟨sn, ?_⟩) fun hm => ?_⟩
          · rw [e0, hm]; rfl
          obtain ⟨g, hg⟩ : ∃ g, a0.getLast? = some g := by
            cases e : a0.getLast? with
            | none => exact absurd (List.getLast?_eq_none_iff.mp e) hna
            | some g => exact ⟨g, rfl⟩
          obtain ⟨u, h1, h2⟩ := pv.last hg
          have h2n := h2.mono sn
          refine ⟨acc, .inl (.inl (.inl hln)), u, atI_last h1, g, h2n, u, rfl, h2n, _, rfl, sn, ?_⟩
          have hm' : f.many = true := by simpa using hm
          rw [e0, hm', hg]
          rfl
        · rintro H2 ⟨s2, hb⟩
          have hl2 := s2 _ _ hl
          refine l_appV rfl rfl hl2 (by omega) ⟨acc ++ [x], _, rfl, same_mut (sm.trans s2) hF, upd_same, ?_, fun u hu => (List.mem_append.mp hu).elim (nup u) fun h => by rw [List.mem_singleton.mp h]; exact hup x (List.mem_of_getElem? hx)⟩
          rw [norm_take hf, normOne_eq, if_pos hb.symm]
          exact ((pv.mono s2).nl (nl_upd hl2)).snoc ((hu1.mono s2).nl (nl_upd hl2))
        · rintro H2 ⟨s2, hb⟩
          refine ⟨acc, _, rfl, sm.trans s2, s2 _ _ hl, ?_, nup⟩
          rw [norm_take hf, normOne_eq, if_neg (by rw [← hb]; exact Bool.false_ne_true)]
          exact pv.mono s2
      · obtain ⟨acc, x, e, sm, hl, pv, nup⟩ := h
        rw [List.take_of_length_le (by rw [hp.1]; exact Nat.le_refl _)] at pv
        exact ⟨acc, x, e, sm, hl, pv, nup⟩
    · rintro σ H1 ⟨acc, x, rfl, sm, hl, pv, nup⟩
      have ho1 := sm _ _ ho
      walk_at "rd"
      refine mid_of (fun v H' => ∃ tt, v = .ref tt ∧ H1 tt = none ∧ H' = upd H1 tt (.tup acc)) ?_ ?_
      · walk_at "rd"
        exact ⟨acc, .inl ⟨.inl (.inl hl), fun l h => ⟨h, rfl⟩⟩⟩
      · rintro _ _ ⟨tt, rfl, htt, rfl⟩
        have st : Same H1 (upd H1 tt (.tup acc)) := same_new htt
        have ho2 := st _ _ ho1
        have ntp : tt ≠ p := fun e => by rw [e, ho1] at htt; cases htt
        have nF : p ≠ F := fun e => hFp e.symm
        have sp : NL (upd H1 tt (.tup acc)) (upd (upd H1 tt (.tup acc)) p (.ins (fA K "Segment") dx [("parts", .ref tt)])) → True := fun _ => trivial
        walk_at "rdh"
        refine q1 hne _ tt acc (But.same (sm.trans st) .upd) upd_same ?_ ?_
        · rw [upd_ne ntp]; exact upd_same
        · have pvt := pv.mono st
          refine ⟨pvt.1, fun i f hf => ?_⟩
          obtain ⟨u, e1, pu, dx', e2, e3⟩ := pvt.2 i f hf
          refine ⟨u, e1, pu, dx', e2, ?_⟩
          rw [upd_ne fun e => nup u (List.mem_of_getElem? e1) (by rw [e2, e])]
          exact e3

/-! ### what steps tell -/
mutual
def tupB : PyData → Bool
  | .none => true
  | .bool _ => true
  | .int _ => true
  | .str _ => true
  | .tuple ds => tupBs ds
  | _ => false
def tupBs : List PyData → Bool
  | [] => true
  | d :: r => tupB d && tupBs r
end
theorem sqT_nl {H H' : Hp} {a : Addr} {xs : List V} (h : SqT K H a xs) (e : NL H H') : SqT K H' a xs := by
  rcases h with (h | ⟨o, h⟩) | h
  · exact .inl (.inl (e _ _ h fun _ z => nomatch z))
  · exact .inl (.inr ⟨o, e _ _ h fun _ z => nomatch z⟩)
  · exact .inr h
mutual
theorem dp_nl {H H' : Hp} (e : NL H H') : ∀ (d : PyData) (v : V), tupB d = true → Dp K H v d → Dp K H' v d
  | .none, _, _, .non => .non
  | .bool _, _, _, .bl b => .bl b
  | .int _, _, _, .int i => .int i
  | .str _, _, _, .str x => .str x
  | .tuple ds, _, t, .tup h a => .tup (sqT_nl h e) (dpAll_nl e ds _ (by simpa only [tupB] using t) a)
  | .list ds, _, t, _ => by simp [tupB] at t
theorem dpAll_nl {H H' : Hp} (e : NL H H') : ∀ (ds : List PyData) (vs : List V), tupBs ds = true → DpAll K H vs ds → DpAll K H' vs ds
  | [], _, _, .nil => .nil
  | d :: ds, _, t, .cons h a => by
    have t' : tupB d = true ∧ tupBs ds = true := by simpa only [tupBs, Bool.and_eq_true] using t
    exact .cons (dp_nl e d _ t'.1 h) (dpAll_nl e ds _ t'.2 a)
end
theorem tupBs_map {α : Type} (d : α → PyData) (h : ∀ x, tupB (d x) = true) : ∀ l : List α, tupBs (l.map d) = true
  | [] => by simp only [List.map_nil, tupBs]
  | x :: r => by simp only [List.map_cons, tupBs, h x, tupBs_map d h r, Bool.and_self]
theorem PF.tup (f : PF) : tupB f.d = true := by cases f <;> simp [PF.d, tupB, tupBs]
theorem SF.tup (f : SF) : tupB f.d = true := by
  cases f with
  | deep => simp [SF.d, tupB, tupBs]
  | seg fs => simp [SF.d, tupB, tupBs, tupBs_map PF.d PF.tup fs]
/-- us are the things fs, one by one -/
def Each {α : Type} (R : α → V → Hp → Prop) (fs : List α) (us : List V) (H : Hp) : Prop := us.length = fs.length ∧ ∀ (i : Nat) (f : α), fs[i]? = some f → ∃ u, us[i]? = some u ∧ R f u H
section
variable {α : Type} {R : α → V → Hp → Prop} {fs : List α} {us : List V} {H H' : Hp}
theorem Each.imp {R' : α → V → Hp → Prop} (h : Each R fs us H) (i : ∀ f u, R f u H → R' f u H') : Each R' fs us H' := ⟨h.1, fun j f hf => let ⟨u, a, b⟩ := h.2 j f hf; ⟨u, a, i f u b⟩⟩
theorem Each.nil : Each R [] [] H := ⟨rfl, fun i f h => by simp at h⟩
theorem Each.snoc {f : α} {u : V} (h : Each R fs us H) (g : R f u H) : Each R (fs ++ [f]) (us ++ [u]) H := by
  refine ⟨by rw [List.length_append, List.length_append, h.1]; rfl, fun i f' hf => ?_⟩
  rcases Nat.lt_trichotomy i fs.length with e | e | e
  · rw [List.getElem?_append_left e] at hf
    obtain ⟨w, a, b⟩ := h.2 i f' hf
    exact ⟨w, by rw [List.getElem?_append_left (by rw [h.1]; exact e)]; exact a, b⟩
  · subst e
    rw [List.getElem?_append_right (Nat.le_refl _), Nat.sub_self] at hf
    have ef : f = f' := Option.some.inj hf
    subst ef
    exact ⟨u, by rw [← h.1, List.getElem?_append_right (Nat.le_refl _), Nat.sub_self]; rfl, g⟩
  · rw [List.getElem?_eq_none (by rw [List.length_append]; exact e)] at hf
    cases hf
theorem Each.at' {i : Nat} {x : V} (h : Each R fs us H) (e : us[i]? = some x) : ∃ f, fs[i]? = some f ∧ R f x H := by
  have hl : i < us.length := (List.getElem?_eq_some_iff.mp e).1
  rw [h.1] at hl
  obtain ⟨u, e2, g⟩ := h.2 i fs[i] (List.getElem?_eq_getElem hl)
  rw [e2] at e
  cases e
  exact ⟨_, List.getElem?_eq_getElem hl, g⟩
theorem each_dp {d : α → PyData} : ∀ {fs : List α} {us : List V}, Each (fun f u H => Dp K H u (d f)) fs us H → DpAll K H us (fs.map d)
  | [], [], _ => .nil
  | [], _ :: _, h => absurd h.1 (by simp)
  | f :: r, [], h => absurd h.1 (by simp)
  | f :: r, u :: us, h => by
    obtain ⟨u', e, g⟩ := h.2 0 f rfl
    cases e
    exact .cons g (each_dp ⟨by simpa using h.1, fun i f' hf => h.2 (i + 1) f' hf⟩)
theorem dp_each {d : α → PyData} : ∀ {fs : List α} {us : List V}, DpAll K H us (fs.map d) → Each (fun f u H => Dp K H u (d f)) fs us H
  | [], _, .nil => .nil
  | f :: r, _, .cons h a => by
    have ih := dp_each (fs := r) a
    refine ⟨by simp [ih.1], fun i f' hf => ?_⟩
    cases i with
    | zero =>
      cases (show some f = some f' from hf)
      exact ⟨_, rfl, h⟩
    | succ i => exact ih.2 i f' hf
end
theorem parts_each {fs : List PF} {us : List V} {H : Hp} : PartsV K fs us H ↔ Each (PartV K) fs us H := Iff.rfl
def spDeep (K : PySem.W.Frag) (f : SF) : Sp := fun vs H Q _ => ∃ v, vs = [v] ∧ StepV K f v H ∧ Q (.bl f.deepB) H
theorem ok_Deep_deep (T : Txt K mg) : OkD P w K mg base 1 (mA K "Deep" "deep") ["self"] [] (spDeep K .deep) := by
  refine okD T.F_Deep_deep sc_Deep_deep (fun _ _ _ _ _ _ us hl => match us, hl with | [_], _ => rfl) ?_ ?_
  · rintro vs H Q E ⟨v, rfl, _⟩
    rfl
  · rintro cdv A outer s H vs Q E hr ⟨v, rfl, h, q⟩
    refine ⟨_, (pss_one (ps_ret pe_bl)), ?_⟩
    walk_at "rd"
    exact q
theorem ok_Segment_deep {fs : List PF} (T : Txt K mg) : OkD P w K mg base 1 (mA K "Segment" "deep") ["self"] [] (spDeep K (.seg fs)) := by
  refine okD T.F_Segment_deep sc_Step_deep (fun _ _ _ _ _ _ us hl => match us, hl with | [_], _ => rfl) ?_ ?_
  · rintro vs H Q E ⟨v, rfl, _⟩
    rfl
  · rintro cdv A outer s H vs Q E hr ⟨v, rfl, h, q⟩
    refine ⟨_, (pss_one (ps_ret pe_bl)), ?_⟩
    walk_at "rd"
    exact q
section
variable {X : Cx}
theorem md_deep (T : Txt K mg) (h1 : X.prog = P := by rfl) (h2 : X.w = w := by rfl) (h3 : X.K = K := by rfl) (h4 : X.mg = mg := by rfl) (h5 : X.base = base := by rfl) : MetD X 1 "deep" (StepV K) (spDeep K) := by
  subst h1 h2 h3 h4 h5
  intro i x H h
  cases i with
  | deep => obtain ⟨p, dx, rfl, hp⟩ := id h; exact ⟨p, _, dx, _, _, _, rfl, hp, T.c_Deep, T.m_Deep_deep, rfl, (ok_Deep_deep T).mono (by decide)⟩
  | seg fs => obtain ⟨p, dx, t, us, rfl, hp, _⟩ := id h; exact ⟨p, _, dx, _, _, _, rfl, hp, T.c_Segment, T.m_Segment_deep, rfl, (ok_Segment_deep T).mono (by decide)⟩
end
/-! ### what steps tell -/
section
variable {X : Cx}
end
/-! ### spots -/
def spBehind (K : PySem.W.Frag) : Sp := fun vs H Q _ => ∃ t sl us fs ss, vs = [.ref t, .ref sl] ∧ SqT K H t us ∧ PartsV K fs us H ∧ SqL K H sl (intsV ss) ∧ (∀ s ∈ ss, s ≤ fs.length) ∧ fs.length ≤ 1000 ∧
  ∀ p l H', H p = none → Same H H' → H' p = some (.lst (intsV l)) → l.Nodup → (∀ i, i ∈ l ↔ ∃ s ∈ ss, Clos fs s i) → Q (.ref p) H'
theorem ok_spots_behind (T : Txt K mg) : OkD P w K mg base 2 (fA K "spots_behind") ["parts", "spots"] [] (spBehind K) := by
  refine okD T.F_spots_behind sc_spots_behind (fun _ _ _ _ _ _ us hl => match us, hl with | [_, _], _ => rfl) ?_ ?_
  · rintro vs H Q E ⟨t, sl, us, fs, ss, rfl, _⟩
    rfl
  · rintro cdv A outer s H vs Q E hr ⟨t, sl, us, fs, ss, rfl, ht, hp, hs, hle, hn, q⟩
    refine ⟨_, (pss_cons (ps_set (i := 2) sc_spots_behind.nd rfl (Or.inl rfl) (pe_lst pa_nil))
  (pss_cons (ps_mid (ps_for (passes_of rfl) rfl (pi_mid (o_it (K := K) rfl (pv 1))) (pg_name (i := 3) sc_spots_behind.nd rfl (Or.inl rfl)) (pss_one (ps_while (passes_of rfl) (pt_mid (pt_cmpR (o_notin (K := K) (hu65 hr)) (pv 3) (pv 2) (by rfl))) (pss_cons (ps_expr (pe_bmK (K := K) PySem.F.plainAttrs_list PySem.F.slot_list_append PySem.F.type_list_append mt_append (pv 2) (pa_cons (pe_mid (pv 3)) pa_nil)))
  (pss_one (ps_if (pt_mid (PW.pt (pw_and (pt_cmpR o_lt (pv 3) (pe_callB (o_lenW (K := K) (w := w)) (by rfl) T.fr_len boot_len (pa_cons (pv 0) pa_nil)) (nomark _)) (pw_and1 (pt_tru (K := K) (pe_metI0 (md_many T) (pe_ix (o_ix (K := K)) (pv 0) (pv 3) (fun _ _ => rfl)) (hr.mono (by decide)) (pasE (takes_of rfl rfl rfl rfl) (fun _ _ _ _ h => h))) (by intro _; rfl)))))) (pss_one (ps_aug (i := 3) sc_spots_behind.nd rfl (Or.inl rfl) pe_int o_iadd)) pss_nil)))))))
  (pss_one (ps_ret (pv 2))))), ?_⟩
    have tobj := T.obj
    refine q_new fun F hF => ?_
    have sF : Same H (upd H F (.lst [])) := same_new hF
    refine q_stm (fun σ H' => ∃ l x, σ = [some (.ref t), some (.ref sl), some (.ref F), x] ∧ Same H H' ∧ H' F = some (.lst (intsV l)) ∧ l.Nodup ∧ ∀ i, i ∈ l ↔ ∃ s ∈ ss, Clos fs s i) ?_ ?_
    · refine for_mid (J0 := Itl K sl) (H0 := upd H F (.lst [])) ?_ (walk_list (K := K) (a := sl) (xs := intsV ss))
        (fun k σ H' => ∃ l x, σ = [some (.ref t), some (.ref sl), some (.ref F), x] ∧ Same H H' ∧ H' F = some (.lst (intsV l)) ∧ l.Nodup ∧ ∀ i, i ∈ l ↔ ∃ s ∈ ss.take k, Clos fs s i)
        ⟨[], none, rfl, sF, upd_same, .nil, fun i => by simp⟩ (fun k σ H' _ h => ?_) ?_ (fun σ H' h => ?_)
      · walk_at "rd"
        exact .inl ⟨_, same_l sF hs⟩
      · obtain ⟨l, x, _, sm, _⟩ := h
        exact same_l sm hs
      · rintro k x σ H1 H1' hk ⟨l, x0, rfl, sm, hl, nd, mem⟩ ⟨rfl, hx⟩
        obtain ⟨s0, hs0, rfl⟩ : ∃ s0, ss[k]? = some s0 ∧ x = .int (s0 : Int) := by
          unfold intsV at hx
          rw [List.getElem?_map] at hx
          cases e : ss[k]? with
          | none => rw [e] at hx; cases hx
          | some s0 => rw [e] at hx; exact ⟨s0, rfl, (Option.some.inj hx).symm⟩
        have hs0l : s0 ≤ fs.length := hle s0 (List.mem_of_getElem? hs0)
        have clU : ∀ i, i ∈ l → ∀ i', Clos fs i i' → i' ∈ l := fun i hi i' hc => by
          obtain ⟨s', h1, h2⟩ := (mem i).mp hi
          exact (mem i').mpr ⟨s', h1, h2.trans hc⟩
        have leU : ∀ i, i ∈ l → i ≤ fs.length := fun i hi => by
          obtain ⟨s', h1, h2⟩ := (mem i).mp hi
          exact h2.le (n := 0) (hle s' (List.mem_of_mem_take h1))
        have tk : ss.take (k + 1) = ss.take k ++ [s0] := by rw [List.take_succ, hs0]; rfl
        have memk : ∀ i, (∃ s ∈ ss.take (k + 1), Clos fs s i) ↔ (i ∈ l ∨ Clos fs s0 i) := fun i => by
          rw [tk]
          constructor
          · rintro ⟨s', h1, h2⟩
            rcases List.mem_append.mp h1 with h | h
            · exact .inl ((mem i).mpr ⟨s', h, h2⟩)
            · rw [List.mem_singleton.mp h] at h2
              exact .inr h2
          · rintro (h | h)
            · obtain ⟨s', h1, h2⟩ := (mem i).mp h
              exact ⟨s', List.mem_append_left _ h1, h2⟩
            · exact ⟨s0, List.mem_append_right _ List.mem_cons_self, h⟩
        refine while_mid (fun m σ H' => ∃ l' j, σ = [some (.ref t), some (.ref sl), some (.ref F), some (.int (j : Nat))] ∧ Same H H' ∧ H' F = some (.lst (intsV l')) ∧ l'.Nodup ∧ Clos fs s0 j ∧ j ≤ fs.length ∧
          ((m = 2 * (fs.length + 1 - j) + 1 ∧ ∀ i, i ∈ l' ↔ i ∈ l ∨ (s0 ≤ i ∧ i < j)) ∨ (m = 2 * (fs.length + 1 - j) ∧ starAt fs j = false ∧ ∀ i, i ∈ l' ↔ i ∈ l ∨ (s0 ≤ i ∧ i ≤ j)))) _
          ⟨l, s0, rfl, sm, hl, nd, Clos.refl, hs0l, .inl ⟨rfl, fun i => ⟨.inl, fun h => h.elim id fun h => absurd h (by omega)⟩⟩⟩ ?_
        rintro m σ H2 ⟨l', j, rfl, sm2, hl2, nd2, cl, hj, hab⟩
        refine ⟨fun b H' => H' = H2 ∧ b = !decide (j ∈ l'), ?_, ?_, ?_⟩
        · walk_at "rd"
          exact ⟨_, .inl (.inl (.inl hl2)), flat_ints l', by rw [inV_ints]⟩
        · rintro H3 ⟨rfl, hb⟩
          have hj' : j ∉ l' := by simpa using hb
          have hm : m = 2 * (fs.length + 1 - j) + 1 ∧ ∀ i, i ∈ l' ↔ i ∈ l ∨ (s0 ≤ i ∧ i < j) := by
            rcases hab with h | ⟨_, _, h⟩
            · exact h
            · exact absurd ((h j).mpr (.inr ⟨cl.1, Nat.le_refl _⟩)) hj'
          have le' : l'.length ≤ 1001 := by
            have h := nat_nodup_len l' (List.range (fs.length + 1)) nd2 fun i hi => List.mem_range.mpr (by
              rcases (hm.2 i).mp hi with h | h
              · have := leU i h; omega
              · omega)
            rw [List.length_range] at h
            omega
          refine q_appV rfl rfl hl2 (by unfold intsV; rw [List.length_map]; omega) ?_
          have ev : intsV l' ++ [V.int (j : Int)] = intsV (l' ++ [j]) := by unfold intsV; rw [List.map_append]; rfl
          rw [ev]
          have sm4 : Same H (upd H3 F (.lst (intsV (l' ++ [j])))) := same_mut sm2 hF
          have nd4 : (l' ++ [j]).Nodup := by
            rw [List.nodup_append]
            exact ⟨nd2, List.nodup_cons.mpr ⟨List.not_mem_nil, .nil⟩, fun a ha b hb => by rw [List.mem_singleton.mp hb]; exact fun e => hj' (e ▸ ha)⟩
          have mem4 : ∀ i, i ∈ l' ++ [j] ↔ i ∈ l ∨ (s0 ≤ i ∧ i ≤ j) := fun i => by
            rw [List.mem_append, hm.2, List.mem_singleton]
            have := cl.1
            constructor
            · rintro ((h | h) | h)
              · exact .inl h
              · exact .inr ⟨h.1, by omega⟩
              · exact .inr ⟨by omega, by omega⟩
            · rintro (h | h)
              · exact .inl (.inl h)
              · rcases Nat.lt_or_ge i j with e | e
                · exact .inl (.inr ⟨h.1, e⟩)
                · exact .inr (by omega)
          refine l_if (fun b H' => H' = upd H3 F (.lst (intsV (l' ++ [j]))) ∧ b = starAt fs j) ?_ ?_ ?_
          · have ht4 := same_t sm4 ht
            have hp4 := hp.mono sm4
            walk_at "rd"
            refine .inr ⟨_, .inr ⟨us, ht4, rfl⟩, ?_⟩
            rw [hp4.1]
            refine ite2 (fun hlt => ?_) fun hge => ?_
            · have hlt' : j < fs.length := Int.ofNat_lt.mp hlt
              obtain ⟨u, hu, pu⟩ := hp4.2 j fs[j] (List.getElem?_eq_getElem hlt')
              refine ⟨us, .inr ht4, u, atI_nat hu, fs[j], pu, u, rfl, pu, ?_⟩
              rw [starAt_eq (List.getElem?_eq_getElem hlt')]
              exact ⟨_, rfl, rfl, rfl⟩
            · have e : starAt fs j = false := by
                cases hq : starAt fs j with
                | false => rfl
                | true => exact absurd (Int.ofNat_lt.mpr (starAt_lt hq)) hge
              rw [e]
          · rintro H4 ⟨rfl, hb⟩
            have hst : starAt fs j = true := hb.symm
            have hlt := starAt_lt hst
            walk_at "rd"
            refine ⟨_, ?_, l' ++ [j], j + 1, rfl, sm4, upd_same, nd4, cl.snoc hst, hlt, .inl ⟨rfl, fun i => by rw [mem4]; exact ⟨fun h => h.imp id fun h => ⟨h.1, by omega⟩, fun h => h.imp id fun h => ⟨h.1, by omega⟩⟩⟩⟩
            omega
          · rintro H4 ⟨rfl, hb⟩
            refine ⟨_, ?_, l' ++ [j], j, rfl, sm4, upd_same, nd4, cl, hj, .inr ⟨rfl, hb.symm, mem4⟩⟩
            omega
        · rintro H3 ⟨rfl, hb⟩
          have hj' : j ∈ l' := by simpa using hb
          refine ⟨l', _, rfl, sm2, hl2, nd2, fun i => ?_⟩
          rw [memk]
          rcases hab with ⟨_, h⟩ | ⟨_, hst, h⟩
          · rw [h]
            have hjl : j ∈ l := ((h j).mp hj').elim id fun h => absurd h.2 (Nat.lt_irrefl _)
            constructor
            · rintro (h1 | h1)
              · exact .inl h1
              · exact .inr ⟨h1.1, fun k a b => cl.2 k a (by omega)⟩
            · rintro (h1 | h1)
              · exact .inl h1
              · rcases Nat.lt_or_ge i j with e | e
                · exact .inr ⟨h1.1, e⟩
                · exact .inl (clU j hjl i ⟨e, fun k a b => h1.2 k (by have := cl.1; omega) b⟩)
          · rw [h]
            constructor
            · rintro (h1 | h1)
              · exact .inl h1
              · exact .inr ⟨h1.1, fun k a b => cl.2 k a (by omega)⟩
            · rintro (h1 | h1)
              · exact .inl h1
              · refine .inr ⟨h1.1, ?_⟩
                rcases Nat.lt_or_ge j i with e | e
                · have := h1.2 j cl.1 e
                  rw [hst] at this
                  cases this
                · exact e
      · obtain ⟨l, x, e, sm, hl, nd, mem⟩ := h
        refine ⟨l, x, e, sm, hl, nd, ?_⟩
        rw [List.take_of_length_le (by unfold intsV; rw [List.length_map]; exact Nat.le_refl _)] at mem
        exact mem
    · rintro σ H1 ⟨l, x, rfl, sm, hl, nd, mem⟩
      walk_at "rd"
      exact q F l H1 hF sm hl nd mem

/-! ### a segment fits a name -/
def spFitsN (K : PySem.W.Frag) (f : SF) : Sp := fun vs H Q _ => ∃ v w, vs = [v, .str (S w)] ∧ StepV K f v H ∧ (∀ fs, f = .seg fs → fs.length ≤ 1000) ∧ ∀ b H', Same H H' → (b = true ↔ f.fits w) → Q (.bl b) H'
theorem ok_Deep_fits_name (T : Txt K mg) : OkD P w K mg base 1 (mA K "Deep" "fits_name") ["self", "name"] [] (spFitsN K .deep) := by
  refine okD T.F_Deep_fits_name sc_Step_fits_name (fun _ _ _ _ _ _ us hl => match us, hl with | [_, _], _ => rfl) ?_ ?_
  · rintro vs H Q E ⟨v, w, rfl, _⟩
    rfl
  · rintro cdv A outer s H vs Q E hr ⟨v, w, rfl, h, _, q⟩
    refine ⟨_, (pss_one (ps_ret pe_bl)), ?_⟩
    walk_at "rd"
    exact q true H (Same.refl _) ⟨fun _ => trivial, fun _ => rfl⟩
theorem ok_Segment_fits_name {fs : List PF} (T : Txt K mg) : OkD P w K mg base 3 (mA K "Segment" "fits_name") ["self", "name"] [] (spFitsN K (.seg fs)) := by
  refine okD T.F_Segment_fits_name sc_Segment_fits_name (fun _ _ _ _ _ _ us hl => match us, hl with | [_, _], _ => rfl) ?_ ?_
  · rintro vs H Q E ⟨v, w, rfl, _⟩
    rfl
  · rintro cdv A outer s H vs Q E hr ⟨v, nm, rfl, ⟨p, dx, t, us, rfl, ho, ht, hp, hne⟩, hn0, q⟩
    have hn := hn0 fs rfl
    refine ⟨_, (pss_cons (ps_set (i := 2) sc_Segment_fits_name.nd rfl (Or.inl rfl) (pe_mid (pe_cal (ok_spots_behind T) (hr.mono (by decide)) rfl T.g_spots_behind (pasE (takes_of rfl rfl rfl rfl) (fun _ _ _ _ h => h)) (pa_cons (pe_fldK (K := K) (pv 0) rfl) (pa_cons (pe_lst (pa_cons pe_int pa_nil)) pa_nil)))))
  (pss_cons (ps_mid (ps_for (passes_of rfl) rfl (pi_mid (o_it (K := K) rfl (pv 1))) (pg_name (i := 3) sc_Segment_fits_name.nd rfl (Or.inl rfl)) (pss_cons (ps_set (i := 4) sc_Segment_fits_name.nd rfl (Or.inl rfl) (pe_lst pa_nil))
  (pss_cons (ps_mid (ps_for (passes_of rfl) rfl (pi_mid (o_it (K := K) rfl (pv 2))) (pg_name (i := 5) sc_Segment_fits_name.nd rfl (Or.inl rfl)) (pss_one (ps_if (pt_mid (PW.pt (pw_and (pt_cmpR o_lt (pv 5) (pe_callB (o_lenW (K := K) (w := w)) (by rfl) T.fr_len boot_len (pa_cons (pe_fldK (K := K) (pv 0) rfl) pa_nil)) (nomark _)) (pw_and1 (pt_tru (K := K) (pe_metI (md_fits T) (pe_ix (o_ix (K := K)) (pe_fldK (K := K) (pv 0) rfl) (pv 5) (fun _ _ => rfl)) (hr.mono (by decide)) (pasE (takes_of rfl rfl rfl rfl) (fun _ _ _ _ h => h)) (pa_cons (pv 3) pa_nil)) (by intro _; rfl)))))) (pss_one (ps_expr (pe_bmK (K := K) PySem.F.plainAttrs_list PySem.F.slot_list_append PySem.F.type_list_append mt_append (pv 4) (pa_cons (pe_mid (pe_op (o_add (K := K)) (pv 5) (pe_callTy o_int (by rfl) T.fr_int (by decide +kernel) (pa_cons (pe_notK (K := K) (pe_metI0 (md_many T) (pe_ix (o_ix (K := K)) (pe_fldK (K := K) (pv 0) rfl) (pv 5) (fun _ _ => rfl)) (hr.mono (by decide)) (pasE (takes_of rfl rfl rfl rfl) (fun _ _ _ _ h => h)))) pa_nil)))) pa_nil)))) pss_nil))))
  (pss_one (ps_set (i := 2) sc_Segment_fits_name.nd rfl (Or.inl rfl) (pe_mid (pe_cal (ok_spots_behind T) (hr.mono (by decide)) rfl T.g_spots_behind (pasE (takes_of rfl rfl rfl rfl) (fun _ _ _ _ h => h)) (pa_cons (pe_fldK (K := K) (pv 0) rfl) (pa_cons (pv 4) pa_nil))))))))))
  (pss_one (ps_ret (pe_cmpR (o_in (K := K) (hu65 hr)) (pe_callB (o_lenW (K := K) (w := w)) (by rfl) T.fr_len boot_len (pa_cons (pe_fldK (K := K) (pv 0) rfl) pa_nil)) (pv 2) (by rfl)))))), ?_⟩
    have tobj := T.obj
    refine q_midG (fun v H' => ∃ sp l, v = .ref sp ∧ Same H H' ∧ H' sp = some (.lst (intsV l)) ∧ l.Nodup ∧ ∀ i, i ∈ l ↔ At fs [] i) ?_ ?_
    · walk_at "rdh"
      intro n hn0
      have sn := same_new (o := .lst [.int 0]) hn0
      refine ⟨t, n, us, fs, [0], rfl, .inl (.inl (sn _ _ ht)), hp.mono sn, .inl (.inl upd_same), fun s hs => by rw [List.mem_singleton.mp hs]; exact Nat.zero_le _, hn, fun sp l H' hs0 s2 hl nd mem => ⟨sp, rfl, sn.trans s2, l, hl, nd, fun i => ?_⟩⟩
      rw [mem, at_nil]
      simp
    · rintro _ H1 ⟨sp, l, rfl, s1, hl, nd, mem⟩
      refine q_stm (fun σ H' => ∃ sp l x y z, σ = [some (.ref p), some (.str (S nm)), some (.ref sp), x, y, z] ∧ Same H H' ∧ H' sp = some (.lst (intsV l)) ∧ l.Nodup ∧ ∀ i, i ∈ l ↔ At fs nm i) ?_ ?_
      · refine for_mid (J0 := Its (S nm)) (H0 := H1) ?_ walk_str
          (fun k σ H' => ∃ sp l x y z, σ = [some (.ref p), some (.str (S nm)), some (.ref sp), x, y, z] ∧ Same H H' ∧ H' sp = some (.lst (intsV l)) ∧ l.Nodup ∧ ∀ i, i ∈ l ↔ At fs (nm.take k) i)
          ⟨sp, l, none, none, none, rfl, s1, hl, nd, mem⟩ (fun _ _ _ _ _ => trivial) ?_ (fun σ H' h => ?_)
        · walk_at "rd"
        · rintro k x σ H2 H2' hk ⟨sp, l, x0, y0, z0, rfl, s2, hl, nd, mem⟩ ⟨rfl, c, hc, rfl⟩
          have hc' : nm[k]? = some c := by
            have e : (S nm).cps[k]? = nm[k]? := by simp
            rw [← e]; exact hc
          have tk : nm.take (k + 1) = nm.take k ++ [c] := by rw [List.take_succ, hc']; rfl
          have lel : l.length ≤ 1001 := by
            have h := nat_nodup_len l (List.range (fs.length + 1)) nd fun i hi => List.mem_range.mpr (by have := ((mem i).mp hi).1; omega)
            rw [List.length_range] at h
            omega
          refine q_new fun F hF => ?_
          have hFH : H F = none := by
            cases e : H F with
            | none => rfl
            | some o => rw [s2 _ _ e] at hF; cases hF
          have sF := same_new (o := .lst []) hF
          refine q_stm (fun σ H' => ∃ m x, σ = [some (.ref p), some (.str (S nm)), some (.ref sp), some (.str ⟨#[c]⟩), some (.ref F), x] ∧ Same H2' H' ∧ H' F = some (.lst (intsV m)) ∧ m.length ≤ 1001 ∧ ∀ i, i ∈ m ↔ ∃ s ∈ l, ∃ f, fs[s]? = some f ∧ f.fits c = true ∧ i = (if f.many = true then s else s + 1)) ?_ ?_
          · refine for_mid (J0 := Itl K sp) (H0 := upd H2' F (.lst [])) ?_ (walk_list (K := K) (a := sp) (xs := intsV l))
              (fun j σ H' => ∃ m x, σ = [some (.ref p), some (.str (S nm)), some (.ref sp), some (.str ⟨#[c]⟩), some (.ref F), x] ∧ Same H2' H' ∧ H' F = some (.lst (intsV m)) ∧ m.length ≤ j ∧ ∀ i, i ∈ m ↔ ∃ s ∈ l.take j, ∃ f, fs[s]? = some f ∧ f.fits c = true ∧ i = (if f.many = true then s else s + 1))
              ⟨[], _, rfl, sF, upd_same, Nat.le_refl _, fun i => by simp⟩ (fun j σ H' _ ⟨_, _, _, s3, _⟩ => .inl (.inl (s3 _ _ hl))) ?_ (fun σ H' h => ?_)
            · walk_at "rd"
              exact .inl ⟨_, .inl (.inl (sF _ _ hl))⟩
            · rintro j x σ H3 H3' hj ⟨m, x1, rfl, s3, hm, lm, memm⟩ ⟨rfl, hx⟩
              obtain ⟨s0, hs0, rfl⟩ : ∃ s0, l[j]? = some s0 ∧ x = .int (s0 : Int) := by
                unfold intsV at hx
                rw [List.getElem?_map] at hx
                cases e : l[j]? with
                | none => rw [e] at hx; cases hx
                | some s0 => rw [e] at hx; exact ⟨s0, rfl, (Option.some.inj hx).symm⟩
              have tj : l.take (j + 1) = l.take j ++ [s0] := by rw [List.take_succ, hs0]; rfl
              have s13 : Same H H3' := s2.trans s3
              have ho3 := s13 _ _ ho
              have ht3 := s13 _ _ ht
              have hp3 := hp.mono s13
              refine l_if (fun b H' => H' = H3' ∧ (b = true ↔ ∃ f, fs[s0]? = some f ∧ f.fits c = true)) ?_ ?_ ?_
              · walk_at "rdh"
                refine .inr ⟨_, .inr ⟨us, .inl (.inl ht3), rfl⟩, ?_⟩
                rw [hp3.1]
                refine ite2 (fun hlt => ?_) fun hge => ?_
                · have hlt' : s0 < fs.length := Int.ofNat_lt.mp hlt
                  obtain ⟨u, hu, pu⟩ := hp3.2 s0 fs[s0] (List.getElem?_eq_getElem hlt')
                  refine ⟨us, .inr (.inl (.inl ht3)), u, atI_nat hu, fs[s0], pu, u, c, rfl, pu, ?_⟩
                  exact ⟨_, rfl, rfl, fun h => ⟨fs[s0], List.getElem?_eq_getElem hlt', h⟩, fun ⟨f, h1, h2⟩ => by
                    rw [List.getElem?_eq_getElem hlt'] at h1
                    rw [Option.some.inj h1]
                    exact h2⟩
                · exact ⟨fun h => (nomatch h), fun ⟨f, h1, _⟩ => absurd (Int.ofNat_lt.mpr (List.getElem?_eq_some_iff.mp h1).1) hge⟩
              · rintro H4 ⟨e4, hb⟩
                subst e4
                obtain ⟨f, hf, hfc⟩ := hb.mp rfl
                obtain ⟨u, hu, pu⟩ := hp3.2 s0 f hf
                refine l_app rfl hm ?_
                walk_at "rdh"
                refine ⟨us, .inr (.inl (.inl ht3)), u, atI_nat hu, f, pu, u, rfl, pu, ?_⟩
                walk_at "rd"
                have memn : ∀ i, i ∈ m ++ [if f.many = true then s0 else s0 + 1] ↔ ∃ s ∈ l.take (j + 1), ∃ f, fs[s]? = some f ∧ f.fits c = true ∧ i = (if f.many = true then s else s + 1) := fun i => by
                  rw [List.mem_append, memm, tj, List.mem_singleton]
                  constructor
                  · rintro (⟨a, h1, h2⟩ | h)
                    · exact ⟨a, List.mem_append_left _ h1, h2⟩
                    · exact ⟨s0, List.mem_append_right _ List.mem_cons_self, f, hf, hfc, h⟩
                  · rintro ⟨a, h1, f', h2, h3, h4⟩
                    rcases List.mem_append.mp h1 with h | h
                    · exact .inl ⟨a, h, f', h2, h3, h4⟩
                    · have ea := List.mem_singleton.mp h
                      subst ea
                      rw [hf] at h2
                      cases h2
                      exact .inr h4
                refine ⟨intsV m, hm, ?_, same_mut s3 hF, m ++ [if f.many = true then s0 else s0 + 1], ?_, ?_, fun i => by have h := memn i; rwa [tj] at h⟩
                · have hj2 : j < l.length := by unfold intsV at hj; rwa [List.length_map] at hj
                  unfold intsV; rw [List.length_map]; omega
                · unfold intsV
                  rw [List.map_append]
                  cases f.many <;> rfl
                · rw [List.length_append, List.length_singleton]; omega
              · rintro _ ⟨rfl, hb⟩
                refine ⟨m, _, rfl, s3, hm, by omega, fun i => ?_⟩
                rw [memm, tj]
                constructor
                · rintro ⟨a, h1, h2⟩
                  exact ⟨a, List.mem_append_left _ h1, h2⟩
                · rintro ⟨a, h1, f, h2, h3, h4⟩
                  rcases List.mem_append.mp h1 with h | h
                  · exact ⟨a, h, f, h2, h3, h4⟩
                  · rw [List.mem_singleton.mp h] at h2
                    exact absurd (hb.mpr ⟨f, h2, h3⟩) Bool.false_ne_true
            · obtain ⟨m, x, e, s3, hm, lm, memm⟩ := h
              have hl2 : (intsV l).length = l.length := by unfold intsV; rw [List.length_map]
              rw [List.take_of_length_le (by rw [hl2]; exact Nat.le_refl _)] at memm
              exact ⟨m, x, e, s3, hm, by omega, memm⟩
          · rintro σ H3 ⟨m, x, rfl, s3, hm, lm, memm⟩
            have s13 : Same H H3 := s2.trans s3
            have ho3 := s13 _ _ ho
            have ht3 := s13 _ _ ht
            refine l_midG (fun v H' => ∃ sp l, v = .ref sp ∧ Same H3 H' ∧ H' sp = some (.lst (intsV l)) ∧ l.Nodup ∧ ∀ i, i ∈ l ↔ At fs (nm.take (k + 1)) i) ?_ ?_
            · rw [tk]
              walk_at "rdh"
              refine ⟨t, F, us, fs, m, rfl, .inl (.inl ht3), hp.mono s13, .inl (.inl hm), fun i hi => ?_, hn, fun sp' l' H' _ s4 hl' nd' mem' => ⟨sp', rfl, s4, l', hl', nd', fun i => ?_⟩⟩
              · obtain ⟨a, _, f, h2, _, h4⟩ := (memm i).mp hi
                have := (List.getElem?_eq_some_iff.mp h2).1
                split at h4 <;> omega
              · rw [mem', at_snoc]
                constructor
                · rintro ⟨a, ha, hcl⟩
                  obtain ⟨b, hb, f, h2, h3, h4⟩ := (memm a).mp ha
                  rw [h4] at hcl
                  exact ⟨b, f, (mem b).mp hb, h2, h3, hcl⟩
                · rintro ⟨b, f, hb, h2, h3, hcl⟩
                  exact ⟨_, (memm _).mpr ⟨b, (mem b).mpr hb, f, h2, h3, rfl⟩, hcl⟩
            · rintro _ H4 ⟨sp', l', rfl, s4, hl', nd', mem'⟩
              exact ⟨sp', l', _, _, _, rfl, (s13.trans s4), hl', nd', mem'⟩
        · obtain ⟨sp, l, x, y, z, e, s1, hl, nd, mem⟩ := h
          rw [List.take_of_length_le (by rw [List.size_toArray]; exact Nat.le_refl _)] at mem
          exact ⟨sp, l, x, y, z, e, s1, hl, nd, mem⟩
      · rintro σ H2 ⟨sp, l, x, y, z, rfl, s2, hl, nd, mem⟩
        have ho2 := s2 _ _ ho
        have ht2 := s2 _ _ ht
        walk_at "rdh"
        refine .inr ⟨_, .inr ⟨us, .inl (.inl ht2), rfl⟩, _, .inl (.inl (.inl hl)), flat_ints l, ?_⟩
        rw [hp.1, inV_ints]
        refine q _ H2 s2 ?_
        rw [decide_eq_true_eq, mem]
        exact at_end
section
variable {X : Cx}
theorem md_fits_name (T : Txt K mg) (h1 : X.prog = P := by rfl) (h2 : X.w = w := by rfl) (h3 : X.K = K := by rfl) (h4 : X.mg = mg := by rfl) (h5 : X.base = base := by rfl) : MetD X 3 "fits_name" (StepV K) (spFitsN K) := by
  subst h1 h2 h3 h4 h5
  intro i x H h
  cases i with
  | deep => obtain ⟨p, dx, rfl, hp⟩ := id h; exact ⟨p, _, dx, _, _, _, rfl, hp, T.c_Deep, T.m_Deep_fits_name, rfl, (ok_Deep_fits_name T).mono (by decide)⟩
  | seg fs => obtain ⟨p, dx, t, us, rfl, hp, _⟩ := id h; exact ⟨p, _, dx, _, _, _, rfl, hp, T.c_Segment, T.m_Segment_fits_name, rfl, (ok_Segment_fits_name T).mono (by decide)⟩
end
/-! ### drawn segments -/
def spMixed : Sp := fun vs H Q _ => ∃ c k, vs = [.int c, .int k] ∧ ∀ m, 0 ≤ m → m < 2147483647 → Q (.int m) H
theorem ok__law_mixed (T : Txt K mg) : OkD P w K mg base 1 (fA K "_law_mixed") ["_law_cell_here", "_law_k"] [] spMixed := by
  refine okD T.F__law_mixed sc__law_mixed (fun _ _ _ _ _ _ us hl => match us, hl with | [_, _], _ => rfl) ?_ ?_
  · rintro vs H Q E ⟨c, k, rfl, _⟩
    rfl
  · rintro cdv A outer s H vs Q E hr ⟨c, k, rfl, q⟩
    refine ⟨_, (pss_cons (ps_set (i := 2) sc__law_mixed.nd rfl (Or.inl rfl) (pe_mid (pe_op op_mod (pe_op o_mul (pe_op (o_add (K := K)) (pe_op op_mod (pv 0) pe_int) (pe_op o_mul pe_int (pe_op (o_add (K := K)) (pv 1) pe_int))) pe_int) pe_int)))
  (pss_one (ps_ret (pe_op op_mod (pe_op o_mul (pe_op op_mod (pe_op o_mul (pv 2) (pv 2)) pe_int) pe_int) pe_int)))), ?_⟩
    have b : ∀ (x : Int), 0 ≤ x % 2147483647 ∧ x % 2147483647 < 2147483647 := fun x => ⟨Int.emod_nonneg _ (by decide), Int.emod_lt_of_pos _ (by decide)⟩
    have sm : ∀ (x y : Int), 0 ≤ x → x < 2147483647 → CMul x y := fun x y h1 h2 => .inl ⟨by omega, by omega⟩
    have sm2 : ∀ (x y : Int), 0 ≤ y → y ≤ 2147483647 → CMul x y := fun x y h1 h2 => .inr ⟨by omega, by omega⟩
    refine q_mid (fun m => 0 ≤ m ∧ m < 2147483647) ?_ fun m hm => ?_
    · walk_at "rd"
      exact ⟨sm _ _ (by decide) (by decide), sm2 _ _ (by decide) (by decide), b _⟩
    walk_at "rd"
    exact ⟨sm _ _ hm.1 hm.2, sm2 _ _ (by decide) (by decide), q _ (b _).1 (b _).2⟩
theorem eqv_stars (f : PF) : PyData.eqv f.d (.tuple [.str "stars"]) = f.many := by
  have e1 : ((Str.ofString "one") == (Str.ofString "stars")) = false := by decide +kernel
  have e2 : ((Str.ofString "any") == (Str.ofString "stars")) = false := by decide +kernel
  have e3 : ((Str.ofString "among") == (Str.ofString "stars")) = false := by decide +kernel
  cases f <;> simp [PF.d, PF.many, PyData.eqv, PyData.eqvAll, e1, e2, e3]
theorem two_snoc : ∀ {acc : List PF} {f : PF}, NoTwo acc → addB acc f = true → NoTwo (acc ++ [f])
  | [], _, _, _ => trivial
  | [g], f, _, h => by
    refine ⟨fun ⟨h1, h2⟩ => ?_, trivial⟩
    unfold addB at h
    simp [h1, h2] at h
  | g :: g2 :: r, f, n, h => by
    refine ⟨n.1, two_snoc (acc := g2 :: r) n.2 ?_⟩
    unfold addB at h ⊢
    have e : (g :: g2 :: r).getLast? = (g2 :: r).getLast? := by simp [List.getLast?_cons_cons]
    rw [e] at h
    simpa using h
/-- the list acc of forms at F -/
def FormsL (K : PySem.W.Frag) (acc : List PF) (F : Addr) (H : Hp) : Prop := ∃ us, H F = some (.lst us) ∧ Each (fun f u H => Dp K H u (PF.d f)) acc us H
theorem FormsL.mono {acc : List PF} {F : Addr} {H H' : Hp} (h : FormsL K acc F H) (s : Same H H') : FormsL K acc F H' := let ⟨us, a, b⟩ := h; ⟨us, s _ _ a, b.imp fun f u d => dp_mono s _ _ d⟩
theorem FormsL.len {acc : List PF} {F : Addr} {H : Hp} {us : List V} (h : Each (fun f u H => Dp K H u (PF.d f)) acc us H) : us = [] ↔ acc = [] := by rw [← List.length_eq_zero_iff, ← List.length_eq_zero_iff, h.1]
/-- the test ahead of an append -/
theorem add_test {acc : List PF} {f : PF} {F p : Addr} {v : V} {H : Hp} {us : List V} (hf : H F = some (.lst us)) (hu : Each (fun f u H => Dp K H u (PF.d f)) acc us H) (hv : Dp K H v f.d) (ok : f.Ok) (hok : ∀ g ∈ acc, g.Ok) {Q : Bool → Hp → Prop} (q : ∀ H', Same H H' → Q (addB acc f) H') : ∀ p, H p = none →
    rEqR K (.ref F) (.ref p) (upd H p (.lst [])) fun x H1 => ∃ k, x = .bl k ∧ if k = true then Q true H1 else ∀ r, H1 r = none → rNeR K v (.ref r) (upd H1 r (.tup [.str "stars"])) fun x H2 => ∃ k, x = .bl k ∧ if k = true then Q true H2 else
      ∃ xs, (SqL K H2 F xs ∨ SqT K H2 F xs) ∧ ∃ y, atI xs (-1) = some y ∧ rNeR K y v H2 fun x H3 => ∃ k, x = .bl k ∧ Q k H3 := by
  intro p hp
  have sp := same_new (o := .lst []) hp
  refine eq_nil (.inl (.inl (sp _ _ hf))) (.inl (.inl upd_same)) ⟨_, rfl, ite2 (fun h => ?_) fun h => ?_⟩
  · have e : acc = [] := (FormsL.len (F := F) hu).mp (of_decide_eq_true h)
    have q' := q _ sp
    unfold addB at q'
    rw [decide_eq_true e] at q'
    exact q'
  have hne : acc ≠ [] := fun e => h (decide_eq_true ((FormsL.len (F := F) hu).mpr e))
  intro r hr
  have sr := same_new (o := .tup [.str "stars"]) hr
  have s2 := sp.trans sr
  have dst : Dp K (upd (upd H p (.lst [])) r (.tup [.str "stars"])) (.ref r) (.tuple [.str "stars"]) := .tup (.inl (.inl upd_same)) (.cons (.str _) .nil)
  have dok : DOk 1 (.tuple [.str "stars"]) := PF.dok (f := .stars) trivial
  refine .inl ⟨f.d, _, dp_mono s2 _ _ hv, dst, (PF.dok ok).shaped (by decide), dok.shaped (by decide), ?_⟩
  rw [eqv_stars]
  refine ⟨_, rfl, ite2 (fun hm => ?_) fun hm => ?_⟩
  · have q' := q _ s2
    unfold addB at q'
    rw [decide_eq_false hne, hm] at q'
    exact q'
  have hm' : f.many = true := by simpa using hm
  have ef : f = .stars := by cases f <;> first | rfl | cases hm'
  obtain ⟨g, hg⟩ : ∃ g, acc.getLast? = some g := by
    cases e : acc.getLast? with
    | none => exact absurd (List.getLast?_eq_none_iff.mp e) hne
    | some g => exact ⟨g, rfl⟩
  have hg' := hg
  rw [List.getLast?_eq_getElem?] at hg'
  obtain ⟨y, e2, dy⟩ := hu.2 _ g hg'
  have hy : us.getLast? = some y := by rw [List.getLast?_eq_getElem?, hu.1]; exact e2
  have okg : g.Ok := hok g (List.mem_of_getElem? hg')
  refine ⟨us, .inl (.inl (.inl (s2 _ _ hf))), y, atI_last hy, .inl ⟨g.d, f.d, dp_mono s2 _ _ dy, dp_mono s2 _ _ hv, (PF.dok okg).shaped (by decide), (PF.dok ok).shaped (by decide), ?_⟩⟩
  have q' := q _ s2
  unfold addB at q'
  rw [decide_eq_false hne, hm', hg] at q'
  refine ⟨_, rfl, ?_⟩
  rw [ef]
  show Q (!PyData.eqv g.d (.tuple [.str "stars"])) _
  rw [eqv_stars]
  exact q'
def spSegm (K : PySem.W.Frag) : Sp := fun vs H Q _ => ∃ c p ws, vs = [.int c, .ref p] ∧ SqL K H p ws ∧ ws.length = 4 ∧ (∀ v ∈ ws, SignV v) ∧ ∀ v fs H', PartsOk fs → fs.length ≤ 3 → (∀ f ∈ fs, f.Low) → Same H H' → Dp K H' v (SF.seg fs).d → Q v H'
theorem ok__law_segment (T : Txt K mg) : OkD P w K mg base 2 (fA K "_law_segment") ["_law_cell_here", "_law_signs_here"] [] (spSegm K) := by
  refine okD T.F__law_segment sc__law_segment (fun _ _ _ _ _ _ us hl => match us, hl with | [_, _], _ => rfl) ?_ ?_
  · rintro vs H Q E ⟨c, p, ws, rfl, _⟩
    rfl
  · rintro cdv A outer s H vs Q E hr ⟨c, p, ws, rfl, hs, hl, hw, q⟩
    refine ⟨_, (pss_cons (ps_set (i := 2) sc__law_segment.nd rfl (Or.inl rfl) (pe_lst pa_nil))
  (pss_cons (ps_mid (ps_for (passes_of rfl) rfl (pi_mid (pi_range1 rfl T.fr_range (pa_cons (pe_op (o_add (K := K)) pe_int (pe_op op_mod (pv 0) pe_int)) pa_nil))) (pg_name (i := 3) sc__law_segment.nd rfl (Or.inl rfl)) (pss_cons (ps_set (i := 4) sc__law_segment.nd rfl (Or.inl rfl) (pe_mid (pe_cal (ok__law_part T) (hr.mono (by decide)) rfl T.g__law_part (pasE (takes_of rfl rfl rfl rfl) (fun _ _ _ _ h => h)) (pa_cons (pe_cal (ok__law_mixed T) (hr.mono (by decide)) rfl T.g__law_mixed (pasE (takes_of rfl rfl rfl rfl) (fun _ _ _ _ h => h)) (pa_cons (pv 0) (pa_cons (pv 3) pa_nil))) (pa_cons (pv 1) pa_nil)))))
  (pss_one (ps_if (pt_mid (PW.pt (pw_or (pt_cmpR (o_eq (K := K) (hu64 hr)) (pv 2) (pe_lst pa_nil) (nomark _)) (pw_or (pt_cmpR (o_ne (K := K) (hu64 hr)) (pv 4) (pe_tup (pa_cons pe_str pa_nil)) (nomark _)) (pw_or1 (pt_cmpR (o_ne (K := K) (hu64 hr)) (pe_ix (o_ix (K := K)) (pv 2) (pe_un un_neg pe_int) (fun _ _ => rfl)) (pv 4) (nomark _))))))) (pss_one (ps_expr (pe_bmK (K := K) PySem.F.plainAttrs_list PySem.F.slot_list_append PySem.F.type_list_append mt_append (pv 2) (pa_cons (pe_mid (pv 4)) pa_nil)))) pss_nil)))))
  (pss_one (ps_ret (pe_tup (pa_cons pe_str (pa_cons (pe_callTy (o_tuple (K := K)) (by rfl) T.fr_tuple (by decide +kernel) (pa_cons (pv 2) pa_nil)) pa_nil))))))), ?_⟩
    have tobj := T.obj
    refine q_new fun F hF => ?_
    have sF := same_new (o := .lst []) hF
    have hm0 : 0 ≤ c % 3 := Int.emod_nonneg _ (by decide)
    have hm1 : c % 3 < 3 := Int.emod_lt_of_pos _ (by decide)
    obtain ⟨n, hn, hn1, hn3⟩ : ∃ n : Nat, 1 + c % 3 = (n : Int) ∧ 1 ≤ n ∧ n ≤ 3 := ⟨(1 + c % 3).toNat, by omega, by omega, by omega⟩
    refine q_stm (fun σ H' => ∃ acc us x y, σ = [some (.int c), some (.ref p), some (.ref F), x, y] ∧ Same H H' ∧ H' F = some (.lst us) ∧ Each (fun f u H => Dp K H u (PF.d f)) acc us H' ∧ PartsOk acc ∧ acc.length ≤ 3 ∧ ∀ f ∈ acc, f.Low) ?_ ?_
    · refine for_mid (J0 := Itr 0 n) (H0 := upd H F (.lst [])) ?_ walk_range
        (fun k σ H' => ∃ acc us x y, σ = [some (.int c), some (.ref p), some (.ref F), x, y] ∧ Same H H' ∧ H' F = some (.lst us) ∧ Each (fun f u H => Dp K H u (PF.d f)) acc us H' ∧ (0 < k → acc ≠ []) ∧ (∀ f ∈ acc, f.Ok ∧ f.Low) ∧ NoTwo acc ∧ acc.length ≤ k)
        ⟨[], [], none, none, rfl, sF, upd_same, .nil, fun h => absurd h (by decide), fun _ h => (nomatch h), trivial, Nat.le_refl _⟩ (fun _ _ _ _ _ => trivial) ?_ (fun σ H' h => ?_)
      · walk_at "rd"
        rw [hn]
        exact ⟨by omega, by omega, rfl⟩
      · rintro k x σ H1 H1' hk ⟨acc, us, x0, y0, rfl, sm, hl1, each, ne, oks, two, len⟩ ⟨rfl, rfl⟩
        refine q_midG (fun v H' => Same H1' H' ∧ ∃ f, (PF.Ok f ∧ PF.Low f) ∧ Dp K H' v f.d) ?_ ?_
        · walk_at "rd"
          exact ⟨c, _, rfl, fun m _ _ => ⟨m, p, ws, rfl, same_l sm hs, hl, hw, fun v f H'' ok lo s hd => ⟨s, f, ⟨ok, lo⟩, hd⟩⟩⟩
        · rintro v H2 ⟨s2, f, ⟨ok, lo⟩, hd⟩
          obtain ⟨va, rfl, _⟩ := PF.inv hd
          have hl2 := s2 _ _ hl1
          have each2 : Each (fun f u H => Dp K H u (PF.d f)) acc us H2 := each.imp fun f u d => dp_mono s2 _ _ d
          refine l_if (fun b H' => Same H2 H' ∧ b = addB acc f) ?_ ?_ ?_
          · walk_at "rd"
            exact add_test (p := va) (Q := fun b H' => Same H2 H' ∧ b = addB acc f) hl2 each2 hd ok (fun g h => (oks g h).1) fun H' s => ⟨s, rfl⟩
          · rintro H3 ⟨s3, hb⟩
            have hl3 := s3 _ _ hl2
            have s13 := (sm.trans s2).trans s3
            refine l_appV rfl rfl hl3 (by rw [each.1]; omega) ⟨acc ++ [f], us ++ [.ref va], _, _, rfl, same_mut s13 hF, upd_same, ?_, fun _ e => ?_, fun g hg => ?_, two_snoc two hb.symm, ?_⟩
            · exact Each.snoc (each2.imp fun f u d => dp_nl (NL.trans (.of s3) (nl_upd hl3)) _ _ f.tup d) (dp_nl (NL.trans (.of s3) (nl_upd hl3)) _ _ f.tup hd)
            · exact absurd e (by simp)
            · exact (List.mem_append.mp hg).elim (oks g) fun h => by rw [List.mem_singleton.mp h]; exact ⟨ok, lo⟩
            · rw [List.length_append]; exact Nat.succ_le_succ len
          · rintro H3 ⟨s3, hb⟩
            refine ⟨acc, us, _, _, rfl, (sm.trans s2).trans s3, s3 _ _ hl2, each2.imp fun f u d => dp_mono s3 _ _ d, fun _ e => ?_, oks, two, by omega⟩
            rw [e] at hb
            cases hb
      · obtain ⟨acc, us, x, y, e, s1, h1, h2, h3, h4, h5, h6⟩ := h
        exact ⟨acc, us, x, y, e, s1, h1, h2, ⟨h3 (by omega), fun f hf => (h4 f hf).1, h5, by omega⟩, by omega, fun f hf => (h4 f hf).2⟩
    · rintro σ H1 ⟨acc, us, x, y, rfl, s1, h1, h2, h3, h4, h5⟩
      walk_at "rd"
      refine ⟨us, .inl ⟨.inl (.inl h1), fun l2 hl2 p2 hp2 => ?_⟩⟩
      have s2 := same_new (o := .tup us) hl2
      have s3 := same_new (o := .tup [V.str (Str.ofString "segment"), V.ref l2]) hp2
      exact q _ acc _ h3 h4 h5 ((s1.trans s2).trans s3) (.tup (.inl (.inl upd_same)) (.cons (.str _) (.cons (.tup (.inl (.inl (s3 _ _ upd_same))) (each_dp (h2.imp fun f u d => dp_mono (s2.trans s3) _ _ d))) .nil)))

/-! ### stars twice, rows and segments made -/
theorem ne_dat {n : Nat} {d : PyData} {u v : V} {H : Hp} {Q : VK} (ok : DOk n d) (hn : n ≤ 64) (h1 : Dp K H u d) (h2 : Dp K H v d) (q : Q (.bl false) H) : rNeR K u v H Q := by
  refine .inl ⟨d, d, h1, h2, ok.shaped hn, ok.shaped hn, ?_⟩
  rw [ok.eqv]
  exact q
/-- each star m times more -/
def dbl (m : Nat) (fs : List PF) : List PF := fs.flatMap fun f => List.replicate (1 + if f.many = true then m else 0) f
theorem norm_rep {acc : List PF} {f : PF} (hm : f.many = true) (hl : acc.getLast? = some f) : ∀ n, (List.replicate n f).foldl normOne acc = acc
  | 0 => rfl
  | n + 1 => by
    have e : normOne acc f = acc := by
      rw [normOne_eq, if_neg]
      unfold addB
      rw [hl, hm]
      have : acc ≠ [] := fun e => by rw [e] at hl; cases hl
      simp [this, hm]
    show (List.replicate n f).foldl normOne (normOne acc f) = acc
    rw [e]
    exact norm_rep hm hl n
theorem norm_dbl {m : Nat} : ∀ (fs acc : List PF), NoTwo (acc ++ fs) → (dbl m fs).foldl normOne acc = acc ++ fs
  | [], acc, _ => (List.append_nil acc).symm
  | f :: fs, acc, h => by
    have e1 : dbl m (f :: fs) = List.replicate (1 + if f.many = true then m else 0) f ++ dbl m fs := rfl
    have e2 : normOne acc f = acc ++ [f] := by
      rw [normOne_eq, if_pos]
      rcases List.eq_nil_or_concat acc with rfl | ⟨r, g, rfl⟩
      · rfl
      · have key : ∀ r : List PF, NoTwo (r ++ g :: f :: fs) → ¬ (g.many = true ∧ f.many = true) := by
          intro r
          induction r with
          | nil => exact fun h => h.1
          | cons x r ih =>
            intro h
            cases r with
            | nil => exact ih h.2
            | cons y r => exact ih h.2
        have k := key r (by simpa using h)
        unfold addB
        rw [List.concat_eq_append, List.getLast?_append]
        cases h1 : f.many <;> cases h2 : g.many <;> simp [h1, h2] at k ⊢
    have e3 : (acc ++ [f]) ++ fs = acc ++ f :: fs := by simp
    rw [e1, List.foldl_append, Nat.add_comm, List.replicate_succ, List.foldl_cons, e2]
    cases hm : f.many with
    | true => rw [norm_rep hm (by simp) _, norm_dbl fs (acc ++ [f]) (by rw [e3]; exact h), e3]
    | false => rw [if_neg Bool.false_ne_true]; show (dbl m fs).foldl normOne (acc ++ [f]) = _; rw [norm_dbl fs (acc ++ [f]) (by rw [e3]; exact h), e3]
theorem normP_dbl {m : Nat} {fs : List PF} (h : NoTwo fs) : normP (dbl m fs) = fs := norm_dbl fs [] h
theorem same_none {H H' : Hp} {a : Addr} (s : Same H H') (h : H' a = none) : H a = none := by
  cases e : H a with
  | none => rfl
  | some o => rw [s _ _ e] at h; cases h
theorem dbl_zero : ∀ fs : List PF, dbl 0 fs = fs
  | [] => rfl
  | f :: r => by
    have e : dbl 0 (f :: r) = List.replicate (1 + if f.many = true then 0 else 0) f ++ dbl 0 r := rfl
    rw [e, dbl_zero r]
    simp
theorem normP_id {fs : List PF} (h : NoTwo fs) : normP fs = fs := by
  have e := normP_dbl (m := 0) h
  rwa [dbl_zero] at e
theorem norm_ne : ∀ (l acc : List PF), acc ≠ [] → l.foldl normOne acc ≠ []
  | [], _, h => h
  | f :: r, acc, h => norm_ne r (normOne acc f) (by
      unfold normOne
      split
      · simp
      · exact h)
theorem normP_ne {fs : List PF} (h : fs ≠ []) : normP fs ≠ [] := by
  cases fs with
  | nil => exact absurd rfl h
  | cons f r => exact norm_ne r (normOne [] f) (by unfold normOne; simp)
theorem new_two {H1 : Hp} {x dx : Addr} {o o' : HO} (hx : H1 x = none) (hdx : H1 dx = none) (hne : ¬ dx = x) : Same H1 (upd (upd H1 dx o) x o') :=
  (same_new hdx).trans (same_new (by rw [upd_ne fun e => hne e.symm]; exact hx))
theorem seg_make {H1 : Hp} {l : Addr} {us : List V} {fs : List PF} {R : Addr → Hp → Prop} {E : XK} (ht : SqT K H1 l us ∨ SqL K H1 l us) (hp : PartsV K fs us H1) (hn : fs.length ≤ 1000) (hne : fs ≠ []) (q : ∀ x H', Same H1 H' → StepV K (.seg (normP fs)) (.ref x) H' → R x H') :
    ∀ x dx, H1 x = none → H1 dx = none → ¬ dx = x → spSeg K [.ref x, .ref l] (upd (upd H1 dx (.own x)) x (.ins (fA K "Segment") dx [])) (fun v H3 => v = .non ∧ R x H3) E := by
  intro x dx hx hdx hxd
  have s2 : Same H1 (upd (upd H1 dx (.own x)) x (.ins (fA K "Segment") dx [])) := new_two hx hdx hxd
  refine ⟨x, dx, l, us, fs, rfl, ht.imp (same_t s2) (same_l s2), hp.mono s2, hn, upd_same, fun u hu e => ?_, fun _ H' tt us' b h1 h2 h3 => ⟨rfl, q _ H' (but_same hx hdx b) ⟨x, dx, tt, us', rfl, h1, h2, h3, normP_ne hne⟩⟩, fun e => absurd e hne⟩
  obtain ⟨i, hi⟩ := List.mem_iff_getElem?.mp hu
  obtain ⟨f, _, p, dx', e2, e3⟩ := parts_each.mp hp |>.at' hi
  rw [e2] at e
  cases e
  rw [hx] at e3
  cases e3

/-! ### forms of rows, rows drawn large -/
structure RF where
  steps : List SF
  spares : Bool
  folders : Bool
def RF.d (r : RF) : PyData := .tuple [.tuple (r.steps.map SF.d), .bool r.spares, .bool r.folders]
def NoTwoD : List SF → Prop
  | a :: b :: r => ¬ (a = .deep ∧ b = .deep) ∧ NoTwoD (b :: r)
  | _ => True
structure RF.Ok (r : RF) : Prop where
  ne : r.steps ≠ []
  ok : ∀ s ∈ r.steps, s.Ok
  two : NoTwoD r.steps
  len : r.steps.length ≤ 12
theorem twoD_snoc : ∀ {acc : List SF} {f : SF}, NoTwoD acc → (f = .deep → acc.getLast? ≠ some .deep) → NoTwoD (acc ++ [f])
  | [], _, _, _ => trivial
  | [g], f, _, h => ⟨fun ⟨h1, h2⟩ => h h2 (by rw [h1]; rfl), trivial⟩
  | g :: g2 :: r, f, n, h => ⟨n.1, twoD_snoc (acc := g2 :: r) n.2 fun e => by
      have h' := h e
      rwa [List.getLast?_cons_cons] at h'⟩
theorem eqv_deep (s : SF) : PyData.eqv s.d (.tuple [.str "deep"]) = s.deepB := by
  have e1 : ((Str.ofString "segment") == (Str.ofString "deep")) = false := by decide +kernel
  cases s <;> simp [SF.d, SF.deepB, PyData.eqv, PyData.eqvAll, e1]
theorem cutV_last {us : List V} : cutV us (some (-1)) none = us.drop (us.length - 1) := by
  unfold cutV
  have e : HT.sIx us.length 0 (some (-1)) = us.length - 1 := by
    unfold HT.sIx
    simp
    omega
  rw [e, HT.sIx_none]
  refine List.take_of_length_le ?_
  rw [List.length_drop]
  exact Nat.le_refl _
theorem Each.drop {α : Type} {R : α → V → Hp → Prop} {fs : List α} {us : List V} {H : Hp} (h : Each R fs us H) (k : Nat) : Each R (fs.drop k) (us.drop k) H :=
  ⟨by rw [List.length_drop, List.length_drop, h.1], fun i f hf => by
    rw [List.getElem?_drop] at hf
    obtain ⟨u, e, g⟩ := h.2 _ f hf
    exact ⟨u, by rw [List.getElem?_drop]; exact e, g⟩⟩
theorem last_drop {α : Type} {ss : List α} {x : α} (h : ss.getLast? = some x) : ss.drop (ss.length - 1) = [x] := by
  rcases List.eq_nil_or_concat ss with rfl | ⟨r, y, rfl⟩
  · cases h
  · rw [List.concat_eq_append] at h ⊢
    rw [List.getLast?_append] at h
    cases (show some y = some x from h)
    rw [List.length_append, List.length_singleton, Nat.add_sub_cancel, List.drop_left]
/-- ("deep",) not in steps[-1:] -/
theorem deep_test {ss : List SF} {us : List V} {L : Addr} {H : Hp} {B : Addr → Prop} {R : Bool → Hp → Prop} (hl : H L = some (.lst us)) (e : Each (fun f u H => Dp K H u (SF.d f)) ss us H) (oks : ∀ s ∈ ss, s.Ok) (r : ∀ b H', Same H H' → (b = true → ss.getLast? ≠ some .deep) → R b H') : ∀ p, H p = none →
    (∃ xs, SqL K (upd H p (.tup [.str "deep"])) L xs ∧ ∀ p1, upd H p (.tup [.str "deep"]) p1 = none → rNotInD K (.ref p) (.ref p1) (upd (upd H p (.tup [.str "deep"])) p1 (.lst (cutV xs (some (-1)) none))) fun x H' => ∃ k, x = .bl k ∧ R k H') ∨ B p := by
  intro p hp
  have sp := same_new (o := .tup [V.str (Str.ofString "deep")]) hp
  refine .inl ⟨us, .inl (.inl (sp _ _ hl)), fun p1 hp1 => ?_⟩
  have s1 := same_new (o := .lst (cutV us (some (-1)) none)) hp1
  have e1 : Each (fun f u H => Dp K H u (SF.d f)) ss us (upd (upd H p (.tup [V.str (Str.ofString "deep")])) p1 (.lst (cutV us (some (-1)) none))) := e.imp fun f u d => dp_mono (sp.trans s1) _ _ d
  have e2 := e1.drop (ss.length - 1)
  have eq : us.drop (ss.length - 1) = cutV us (some (-1)) none := by rw [cutV_last, e.1]
  rw [eq] at e2
  have dl : DOk 4 (.list ((ss.drop (ss.length - 1)).map SF.d)) := dok_lst fun d hd => by
    obtain ⟨f, hf, rfl⟩ := List.mem_map.mp hd
    exact SF.dok (oks f (List.mem_of_mem_drop hf))
  have dd : DOk 3 (.tuple [.str "deep"]) := SF.dok (f := .deep) trivial
  refine ⟨.tuple [.str "deep"], (ss.drop (ss.length - 1)).map SF.d, .tup (.inl (.inl (s1 _ _ upd_same))) (.cons (.str _) .nil), .lst (.inl (.inl upd_same)) (each_dp e2), dd.shaped (by decide), dl.shaped (by decide), _, rfl, r _ _ (sp.trans s1) fun hb hlast => ?_⟩
  rw [last_drop hlast] at hb
  simp [eqv_deep, SF.deepB] at hb
theorem forms_snoc {ss : List SF} {us : List V} {s : SF} {y : V} {L : Addr} {H : Hp} (hl : H L = some (.lst us)) (e : Each (fun f u H => Dp K H u (SF.d f)) ss us H) (d : Dp K H y s.d) : Each (fun f u H => Dp K H u (SF.d f)) (ss ++ [s]) (us ++ [y]) (upd H L (.lst (us ++ [y]))) :=
  Each.snoc (e.imp fun f u d => dp_nl (nl_upd hl) _ _ f.tup d) (dp_nl (nl_upd hl) _ _ s.tup d)
theorem row_d {r : RF} {us : List V} {l p : Addr} {H : Hp} (e : Each (fun f u H => Dp K H u (SF.d f)) r.steps us H) (hl : H l = none) (hp : upd H l (.tup us) p = none) : Dp K (upd (upd H l (.tup us)) p (.tup [.ref l, .bl r.spares, .bl r.folders])) (.ref p) r.d := by
  have s2 := same_new (o := .tup us) hl
  have s3 := same_new (o := .tup [V.ref l, V.bl r.spares, V.bl r.folders]) hp
  exact .tup (.inl (.inl upd_same)) (.cons (.tup (.inl (.inl (s3 _ _ upd_same))) (each_dp (e.imp fun f u d => dp_mono (s2.trans s3) _ _ d))) (.cons (.bl _) (.cons (.bl _) .nil)))
theorem seg_d {fs : List PF} {us : List V} {l p : Addr} {H : Hp} (e : Each (fun f u H => Dp K H u (PF.d f)) fs us H) (hl : H l = none) (hp : upd H l (.tup us) p = none) : Dp K (upd (upd H l (.tup us)) p (.tup [.str "segment", .ref l])) (.ref p) (SF.seg fs).d := by
  have s2 := same_new (o := .tup us) hl
  have s3 := same_new (o := .tup [V.str (Str.ofString "segment"), V.ref l]) hp
  exact .tup (.inl (.inl upd_same)) (.cons (.str _) (.cons (.tup (.inl (.inl (s3 _ _ upd_same))) (each_dp (e.imp fun f u d => dp_mono (s2.trans s3) _ _ d))) .nil))
theorem SF.seg_inv {fs : List PF} {v : V} {H : Hp} (h : Dp K H v (SF.seg fs).d) : ∃ a t us, v = .ref a ∧ SqT K H a [.str "segment", .ref t] ∧ SqT K H t us ∧ Each (fun f u H => Dp K H u (PF.d f)) fs us H := by
  cases h with
  | tup hs ha => cases ha with | cons h1 ha => cases ha with | cons h2 ha =>
    cases ha; cases h1
    cases h2 with
    | tup ht hu => exact ⟨_, _, _, rfl, hs, ht, dp_each hu⟩
theorem SF.deep_inv {v : V} {H : Hp} (h : Dp K H v SF.deep.d) : ∃ a, v = .ref a ∧ SqT K H a [.str "deep"] := by
  cases h with | tup hs ha => cases ha with | cons h1 ha => cases ha; cases h1; exact ⟨_, rfl, hs⟩
theorem RF.inv {r : RF} {v : V} {H : Hp} (h : Dp K H v r.d) : ∃ a t us, v = .ref a ∧ SqT K H a [.ref t, .bl r.spares, .bl r.folders] ∧ SqT K H t us ∧ Each (fun f u H => Dp K H u (SF.d f)) r.steps us H := by
  cases h with
  | tup hs ha => cases ha with | cons h1 ha => cases ha with | cons h2 ha => cases ha with | cons h3 ha =>
    cases ha; cases h2; cases h3
    cases h1 with
    | tup ht hu => exact ⟨_, _, _, rfl, hs, ht, dp_each hu⟩
theorem RF.dok {r : RF} (h : r.Ok) : DOk 5 r.d := dok_tup (all_cons (dok_tup fun d hd => by
  obtain ⟨s, hs, rfl⟩ := List.mem_map.mp hd
  exact SF.dok (h.ok s hs)) (all_cons dok_bl (all_cons dok_bl all_nil)))
theorem RF.len1 {r : RF} (h : r.Ok) : r.steps.length ≤ 1000 := Nat.le_trans h.len (by decide)
theorem RF.len2 {r : RF} (h : r.Ok) (fs : List PF) (e : SF.seg fs ∈ r.steps) : fs.length ≤ 1000 := by
  have o : PartsOk fs := h.ok _ e
  exact Nat.le_trans o.len (by decide)

/-! ### rows as objects -/
theorem deep_iff {s : SF} : s.deepB = true ↔ s = .deep := by cases s <;> simp [SF.deepB]
def addS (acc : List SF) (f : SF) : Bool := decide (acc = []) || (!f.deepB || match acc.getLast? with
  | some g => !g.deepB
  | none => true)
def stepOne (acc : List SF) (f : SF) : List SF := if addS acc f = true then acc ++ [f] else acc
def normS (fs : List SF) : List SF := fs.foldl stepOne []
def dblS (m : Nat) (fs : List SF) : List SF := fs.flatMap fun f => List.replicate (1 + if f.deepB = true then m else 0) f
theorem stepOne_t {acc : List SF} {f : SF} (h : addS acc f = true) : stepOne acc f = acc ++ [f] := if_pos h
theorem stepOne_f {acc : List SF} {f : SF} (h : ¬ addS acc f = true) : stepOne acc f = acc := if_neg h
theorem stepS_take {fs : List SF} {k : Nat} {f : SF} (h : fs[k]? = some f) : (fs.take (k + 1)).foldl stepOne [] = stepOne ((fs.take k).foldl stepOne []) f := by
  rw [List.take_succ, h, List.foldl_append]
  rfl
theorem normS_rep {acc : List SF} {f : SF} (hm : f.deepB = true) (hl : acc.getLast? = some f) : ∀ n, (List.replicate n f).foldl stepOne acc = acc
  | 0 => rfl
  | n + 1 => by
    have e : stepOne acc f = acc := by
      unfold stepOne
      rw [if_neg]
      unfold addS
      rw [hl, hm]
      have : acc ≠ [] := fun e => by rw [e] at hl; cases hl
      simp [this, hm]
    show (List.replicate n f).foldl stepOne (stepOne acc f) = acc
    rw [e]
    exact normS_rep hm hl n
theorem normS_app {m : Nat} : ∀ (fs acc : List SF), NoTwoD (acc ++ fs) → (dblS m fs).foldl stepOne acc = acc ++ fs
  | [], acc, _ => (List.append_nil acc).symm
  | f :: fs, acc, h => by
    have e1 : dblS m (f :: fs) = List.replicate (1 + if f.deepB = true then m else 0) f ++ dblS m fs := rfl
    have e2 : stepOne acc f = acc ++ [f] := by
      unfold stepOne
      rw [if_pos]
      rcases List.eq_nil_or_concat acc with rfl | ⟨r, g, rfl⟩
      · rfl
      · have key : ∀ r : List SF, NoTwoD (r ++ g :: f :: fs) → ¬ (g = .deep ∧ f = .deep) := by
          intro r
          induction r with
          | nil => exact fun h => h.1
          | cons x r ih =>
            intro h
            cases r with
            | nil => exact ih h.2
            | cons y r => exact ih h.2
        have k := key r (by simpa using h)
        rw [← deep_iff, ← deep_iff] at k
        unfold addS
        rw [List.concat_eq_append, List.getLast?_append]
        cases h1 : f.deepB <;> cases h2 : g.deepB <;> simp [h1, h2] at k ⊢
    have e3 : (acc ++ [f]) ++ fs = acc ++ f :: fs := by simp
    rw [e1, List.foldl_append, Nat.add_comm, List.replicate_succ, List.foldl_cons, e2]
    cases hm : f.deepB with
    | true => rw [normS_rep hm (by simp) _, normS_app fs (acc ++ [f]) (by rw [e3]; exact h), e3]
    | false => rw [if_neg Bool.false_ne_true]; show (dblS m fs).foldl stepOne (acc ++ [f]) = _; rw [normS_app fs (acc ++ [f]) (by rw [e3]; exact h), e3]
theorem normS_dbl {m : Nat} {fs : List SF} (h : NoTwoD fs) : normS (dblS m fs) = fs := normS_app fs [] h
theorem dblS_zero : ∀ fs : List SF, dblS 0 fs = fs
  | [] => rfl
  | f :: r => by
    have e : dblS 0 (f :: r) = List.replicate (1 + if f.deepB = true then 0 else 0) f ++ dblS 0 r := rfl
    rw [e, dblS_zero r]
    simp
theorem normS_id {fs : List SF} (h : NoTwoD fs) : normS fs = fs := by
  have e := normS_dbl (m := 0) h
  rwa [dblS_zero] at e
theorem stepS_len : ∀ (l a : List SF), (l.foldl stepOne a).length ≤ a.length + l.length
  | [], a => Nat.le_refl _
  | y :: r, a => by
    refine Nat.le_trans (stepS_len r (stepOne a y)) ?_
    have e : (stepOne a y).length ≤ a.length + 1 := by
      unfold stepOne
      split
      · rw [List.length_append]; exact Nat.le_refl _
      · exact Nat.le_succ _
    rw [List.length_cons]
    omega
abbrev rowO (K : PySem.W.Frag) (dx t : Addr) (a b : Bool) : HO := .ins (fA K "Row") dx [("steps", .ref t), ("spares", .bl a), ("folders", .bl b)]
def RowV (K : PySem.W.Frag) (r : RF) (v : V) (H : Hp) : Prop := ∃ p dx t us, v = .ref p ∧ H p = some (rowO K dx t r.spares r.folders) ∧ H t = some (.tup us) ∧ Each (StepV K) r.steps us H ∧ r.steps ≠ []
theorem Each.nl {us : List V} {ss : List SF} {H H' : Hp} (h : Each (StepV K) ss us H) (e : NL H H') : Each (StepV K) ss us H' := h.imp fun _ _ s => s.nl e
theorem Each.mono {us : List V} {ss : List SF} {H H' : Hp} (h : Each (StepV K) ss us H) (e : Same H H') : Each (StepV K) ss us H' := h.nl (.of e)
theorem RowV.nl {r : RF} {v : V} {H H' : Hp} (h : RowV K r v H) (e : NL H H') : RowV K r v H' := by
  obtain ⟨p, dx, t, us, a, b, c, d, z⟩ := h
  exact ⟨p, dx, t, us, a, e _ _ b (fun _ z => nomatch z), e _ _ c (fun _ z => nomatch z), d.nl e, z⟩
theorem RowV.mono {r : RF} {v : V} {H H' : Hp} (h : RowV K r v H) (e : Same H H') : RowV K r v H' := h.nl (.of e)
def spRow (K : PySem.W.Frag) : Sp := fun vs H Q E => ∃ H0 p dx t us ss a b, vs = [.ref p, .ref t, .bl a, .bl b] ∧ H0 p = none ∧ Same H0 H ∧ (SqT K H0 t us ∨ SqL K H0 t us) ∧ Each (StepV K) ss us H0 ∧ ss.length ≤ 1000 ∧ H p = some (.ins (fA K "Row") dx []) ∧
  (ss ≠ [] → ∀ H' tt us', Same H0 H' → H' p = some (rowO K dx tt a b) → H' tt = some (.tup us') → Each (StepV K) (normS ss) us' H' → Q .non H') ∧ (ss = [] → E (.ref (fA K "NoPart")) none H)
theorem bd_Row___init__ (T : Txt K mg) : BodyQ P w K mg base 1 (mA K "Row" "__init__") "Row.__init__" (defBody TX.s_Row___init__) (defScope TX.s_Row___init__) N_Row___init__ (spRow K) := by
  rintro cdv A outer s H vs Q E hr ⟨H0, p, dx, t, us, ss, a, b, rfl, h0p, s0, ht, hp, hn, ho, q1, q2⟩
  refine ⟨_, (pss_cons (ps_if (pt_mid (pt_cmpR (o_eq (K := K) (hu64 hr)) (pe_callB (o_lenW (K := K) (w := w)) (by rfl) T.fr_len boot_len (pa_cons (pv 1) pa_nil)) pe_int (nomark _))) (pss_one (ps_raise rfl (takes_of rfl rfl rfl rfl) (pmk_own PySem.F.excBase_ValueError T.x_NoPart.1 T.g_NoPart T.x_NoPart.2.1 (raises_own T.x_NoPart.2.2.1 T.x_NoPart.2.2.2) rfl))) pss_nil)
  (pss_cons (ps_set (i := 4) sc_Row___init__.nd rfl (Or.inl rfl) (pe_lst pa_nil))
  (pss_cons (ps_mid (ps_for (passes_of rfl) rfl (pi_mid (o_it (K := K) rfl (pv 1))) (pg_name (i := 5) sc_Row___init__.nd rfl (Or.inl rfl)) (pss_one (ps_if (pt_mid (PW.pt (pw_or (pt_cmpR (o_eq (K := K) (hu64 hr)) (pv 4) (pe_lst pa_nil) (nomark _)) (pw_or (pt_not (pt_tru (K := K) (pe_metI0 (md_deep T) (pv 5) (hr.mono (by decide)) (pasE (takes_of rfl rfl rfl rfl) (fun _ _ _ _ h => h))) (by intro _; rfl))) (pw_or1 (pt_not (pt_tru (K := K) (pe_metI0 (md_deep T) (pe_ix (o_ix (K := K)) (pv 4) (pe_un un_neg pe_int) (fun _ _ => rfl)) (hr.mono (by decide)) (pasE (takes_of rfl rfl rfl rfl) (fun _ _ _ _ h => h))) (by intro _; rfl)))))))) (pss_one (ps_expr (pe_bmK (K := K) PySem.F.plainAttrs_list PySem.F.slot_list_append PySem.F.type_list_append mt_append (pv 4) (pa_cons (pe_mid (pv 5)) pa_nil)))) pss_nil))))
  (pss_cons (ps_fld (pv 0) (pe_mid (pe_callTy (o_tuple (K := K)) (by rfl) T.fr_tuple (by decide +kernel) (pa_cons (pv 4) pa_nil))) rfl)
  (pss_cons (ps_fld (pv 0) (pv 2) rfl)
  (pss_one (ps_fld (pv 0) (pv 3) rfl))))))), ?_⟩
  have tobj := T.obj
  have ht1 : SqT K H t us ∨ SqL K H t us := ht.imp (same_t s0) (same_l s0)
  refine q_if (fun b H' => H' = H ∧ b = decide (ss = [])) ?_ ?_ ?_
  · walk_at "rd"
    refine .inr ⟨_, len_seq ht1, ?_⟩
    rw [hp.1]
    refine decide_eq_decide.mpr ⟨fun h => List.length_eq_zero_iff.mp (by omega), fun h => by rw [h]; rfl⟩
  · rintro _ ⟨rfl, hb⟩
    walk_at "rd"
    exact q2 (of_decide_eq_true hb.symm)
  rintro _ ⟨rfl, hb⟩
  have hne : ss ≠ [] := of_decide_eq_false hb.symm
  rename_i H
  refine q_new fun F hF => ?_
  have hF0 : H0 F = none := by
    cases e : H0 F with
    | none => rfl
    | some o => rw [s0 _ _ e] at hF; cases hF
  have hFp : F ≠ p := fun e => by rw [e, ho] at hF; cases hF
  obtain ⟨J0, G, hw, wk, hG⟩ := seq_walk ht
  have sF : Same H (upd H F (.lst [])) := same_new hF
  refine q_stm (fun σ H' => ∃ acc x, σ = [some (.ref p), some (.ref t), some (.bl a), some (.bl b), some (.ref F), x] ∧ Same H0 H' ∧ H' p = some (.ins (fA K "Row") dx []) ∧ H' F = some (.lst acc) ∧ Each (StepV K) (normS ss) acc H0) ?_ ?_
  · refine for_mid (J0 := J0) (H0 := upd H F (.lst [])) (hw _ _ _ rfl (s0.trans sF)) wk
      (fun k σ H' => ∃ acc x, σ = [some (.ref p), some (.ref t), some (.bl a), some (.bl b), some (.ref F), x] ∧ Same H0 H' ∧ H' p = some (.ins (fA K "Row") dx []) ∧ H' F = some (.lst acc) ∧ Each (StepV K) ((ss.take k).foldl stepOne []) acc H0)
      ⟨[], none, rfl, s0.trans sF, sF _ _ ho, upd_same, .nil⟩ (fun k σ H' _ ⟨_, _, _, s, _⟩ => hG H' s) ?_ (fun σ H' h => ?_)
    · rintro k x σ H1 H1' hk ⟨acc, x0, rfl, sm, ho1, hl, pv⟩ ⟨rfl, hx⟩
      obtain ⟨f, hf, hu⟩ := hp.at' hx
      have hu1 := hu.mono sm
      have len : acc.length ≤ ss.length := by
        rw [pv.1]
        have a := stepS_len (ss.take k) []
        have b := List.length_take_le' k ss
        simp only [List.length_nil, Nat.zero_add] at a
        omega
      refine l_if (fun b H' => Same H1' H' ∧ b = addS ((ss.take k).foldl stepOne []) f) ?_ ?_ ?_
      · walk_at "rd"
        intro n hn0
        have sn : Same H1' (upd H1' n (.lst [])) := same_new hn0
        have hln := sn _ _ hl
        have hun := hu1.mono sn
        have eacc : acc = [] ↔ (ss.take k).foldl stepOne [] = [] := by
          rw [← List.length_eq_zero_iff, ← List.length_eq_zero_iff, pv.1]
        generalize ha0 : (ss.take k).foldl stepOne [] = a0 at *
        refine eq_nil (.inl (.inl hln)) (.inl (.inl upd_same)) ⟨_, rfl, ite2 (fun h => ?_) fun h => ?_⟩
        · refine ⟨sn, ?_⟩
          unfold addS
          rw [decide_eq_true (eacc.mp (of_decide_eq_true h))]
          rfl
        have hna : a0 ≠ [] := fun e => h (decide_eq_true (eacc.mpr e))
        have e0 : addS a0 f = (!f.deepB || match a0.getLast? with
          | some g => !g.deepB
          | none => true) := by
          unfold addS
          rw [decide_eq_false hna]
          rfl
        refine ⟨f, hun, x, rfl, hun, _, rfl, ite2 (fun hm => ⟨sn, ?_⟩) fun hm => ?_⟩
        · rw [e0, hm]; rfl
        obtain ⟨g, hg⟩ : ∃ g, a0.getLast? = some g := by
          cases e : a0.getLast? with
          | none => exact absurd (List.getLast?_eq_none_iff.mp e) hna
          | some g => exact ⟨g, rfl⟩
        have hg' := hg
        rw [List.getLast?_eq_getElem?] at hg'
        obtain ⟨u, h1, h2⟩ := pv.2 _ g hg'
        have h2n := h2.mono (sm.trans sn)
        have hlast : acc.getLast? = some u := by rw [List.getLast?_eq_getElem?, pv.1]; exact h1
        refine ⟨acc, .inl (.inl (.inl hln)), u, atI_last hlast, g, h2n, u, rfl, h2n, _, rfl, sn, ?_⟩
        have hm' : f.deepB = true := by simpa using hm
        rw [e0, hm', hg]
        rfl
      · rintro H2 ⟨s2, hb⟩
        have hl2 := s2 _ _ hl
        have ne1 : p ≠ F := fun e => hFp e.symm
        refine l_appV rfl rfl hl2 (by omega) ⟨acc ++ [x], _, rfl, same_mut (sm.trans s2) hF0, ?_, upd_same, ?_⟩
        · rw [upd_ne ne1]; exact s2 _ _ ho1
        rw [stepS_take hf, stepOne_t hb.symm]
        exact pv.snoc hu
      · rintro H2 ⟨s2, hb⟩
        refine ⟨acc, _, rfl, sm.trans s2, s2 _ _ ho1, s2 _ _ hl, ?_⟩
        rw [stepS_take hf, stepOne_f (by rw [← hb]; exact Bool.false_ne_true)]
        exact pv
    · obtain ⟨acc, x, e, sm, ho1, hl, pv⟩ := h
      rw [List.take_of_length_le (by rw [hp.1]; exact Nat.le_refl _)] at pv
      exact ⟨acc, x, e, sm, ho1, hl, pv⟩
  · rintro σ H1 ⟨acc, x, rfl, sm, ho1, hl, pv⟩
    walk_at "rd"
    refine mid_of (fun v H' => ∃ tt, v = .ref tt ∧ H1 tt = none ∧ H' = upd H1 tt (.tup acc)) ?_ ?_
    · walk_at "rd"
      exact ⟨acc, .inl ⟨.inl (.inl hl), fun l h => ⟨h, rfl⟩⟩⟩
    · rintro _ _ ⟨tt, rfl, htt, rfl⟩
      have st : Same H1 (upd H1 tt (.tup acc)) := same_new htt
      have ho2 := st _ _ ho1
      have ntp : tt ≠ p := fun e => by rw [e, ho1] at htt; cases htt
      walk_at "rdh"
      have s5 : Same H0 (upd (upd H1 tt (.tup acc)) p (rowO K dx tt a b)) := same_mut (sm.trans st) h0p
      refine q1 hne _ tt acc s5 upd_same ?_ (pv.mono s5)
      rw [upd_ne ntp]
      exact upd_same
theorem ok_Row___init___1 (T : Txt K mg) : OkD P w K mg base 2 (mA K "Row" "__init__") ["self", "steps", "spares", "folders"] [V.bl false, V.bl false] (spRow K) := okDd T.F_Row___init__ sc_Row___init__ 2 0 (fun q => nomatch q) rfl (fun _ _ _ _ _ _ _ us its hl hi => match us, hl, its, hi with | [_, _], _, [_, _], _ => ⟨_, rfl, rfl⟩) (by rintro vs H Q E ⟨H0, p, dx, t, us, ss, a, b, rfl, _⟩; rfl) (bd_Row___init__ T)
theorem ok_Row___init___2 (T : Txt K mg) : OkD P w K mg base 2 (mA K "Row" "__init__") ["self", "steps", "spares", "folders"] [V.bl false] (spRow K) := okDd T.F_Row___init__ sc_Row___init__ 3 1 (fun q => nomatch q) rfl (fun _ _ _ _ _ _ _ us its hl hi => match us, hl, its, hi with | [_, _, _], _, [_, _], _ => ⟨_, rfl, rfl⟩) (by rintro vs H Q E ⟨H0, p, dx, t, us, ss, a, b, rfl, _⟩; rfl) (bd_Row___init__ T)
theorem ok_Row___init__ (T : Txt K mg) : OkD P w K mg base 2 (mA K "Row" "__init__") ["self", "steps", "spares", "folders"] [] (spRow K) := okDd T.F_Row___init__ sc_Row___init__ 4 2 (fun q => nomatch q) rfl (fun _ _ _ _ _ _ _ us its hl hi => match us, hl, its, hi with | [_, _, _, _], _, [_, _], _ => ⟨_, rfl, rfl⟩) (by rintro vs H Q E ⟨H0, p, dx, t, us, ss, a, b, rfl, _⟩; rfl) (bd_Row___init__ T)
theorem okk_Row___init___folders_spares (T : Txt K mg) : OkKr P w K mg base 2 (mA K "Row" "__init__") ["self", "steps", "spares", "folders"] 2 ["folders", "spares"] (spRow K) := okKr T.F_Row___init__ sc_Row___init__ 2 ["folders", "spares"] (fun q => nomatch q) (fun _ _ _ _ _ _ _ us its ws hl hi hw => match us, hl, its, hi, ws, hw with | [_, _], _, [_, _], _, [_, _], _ => ⟨_, rfl, rfl⟩) (by rintro vs H Q E ⟨H0, p, dx, t, us, ss, a, b, rfl, _⟩; rfl) (bd_Row___init__ T)
theorem normS_ne {ss : List SF} (h : ss ≠ []) : normS ss ≠ [] := by
  have key : ∀ (l acc : List SF), acc ≠ [] → l.foldl stepOne acc ≠ [] := by
    intro l
    induction l with
    | nil => exact fun _ h => h
    | cons f r ih =>
      intro acc h
      refine ih (stepOne acc f) ?_
      unfold stepOne
      split
      · simp
      · exact h
  cases ss with
  | nil => exact absurd rfl h
  | cons f r => exact key r (stepOne [] f) (by unfold stepOne addS; simp)
theorem row_make {H1 : Hp} {l : Addr} {us : List V} {ss : List SF} {a b : Bool} {R : Addr → Hp → Prop} {E : XK} (ht : SqT K H1 l us ∨ SqL K H1 l us) (hp : Each (StepV K) ss us H1) (hn : ss.length ≤ 1000) (hne : ss ≠ []) (q : ∀ x H', Same H1 H' → RowV K ⟨normS ss, a, b⟩ (.ref x) H' → R x H') :
    ∀ x dx, H1 x = none → H1 dx = none → ¬ dx = x → spRow K [.ref x, .ref l, .bl a, .bl b] (upd (upd H1 dx (.own x)) x (.ins (fA K "Row") dx [])) (fun v H3 => v = .non ∧ R x H3) E :=
  fun x dx hx hdx hxd => ⟨H1, x, dx, l, us, ss, a, b, rfl, hx, new_two hx hdx hxd, ht, hp, hn, upd_same, fun _ H' tt us' s h1 h2 h3 => ⟨rfl, q _ H' s ⟨x, dx, tt, us', rfl, h1, h2, h3, normS_ne hne⟩⟩, fun e => absurd e hne⟩

/-! ### what rows tell -/
section
variable {X : Cx}
end
/-! ### drawn rows, rows made -/
def RF.Low (r : RF) : Prop := ∀ fs, SF.seg fs ∈ r.steps → ∀ f ∈ fs, f.Low
theorem range4 {i : Int} {Q : V → Prop} (h : ∀ n : Nat, 1 ≤ n → n ≤ 3 → Q (.int n)) : ∃ v, atI [V.int 1, V.int 2, V.int 2, V.int 3] (i % 4) = some v ∧ Q v := by
  have h0 : 0 ≤ i % 4 := Int.emod_nonneg _ (by decide)
  have h1 : i % 4 < 4 := Int.emod_lt_of_pos _ (by decide)
  have : i % 4 = 0 ∨ i % 4 = 1 ∨ i % 4 = 2 ∨ i % 4 = 3 := by omega
  rcases this with e | e | e | e <;> rw [e]
  · exact ⟨_, rfl, h 1 (by decide) (by decide)⟩
  · exact ⟨_, rfl, h 2 (by decide) (by decide)⟩
  · exact ⟨_, rfl, h 2 (by decide) (by decide)⟩
  · exact ⟨_, rfl, h 3 (by decide) (by decide)⟩
def spRowL (K : PySem.W.Frag) : Sp := fun vs H Q _ => ∃ c p ws, vs = [.int c, .ref p] ∧ SqL K H p ws ∧ ws.length = 4 ∧ (∀ v ∈ ws, SignV v) ∧ ∀ v r H', RF.Ok r → r.Low → r.steps.length ≤ 3 → Same H H' → Dp K H' v r.d → Q v H'
theorem ok__law_row (T : Txt K mg) : OkD P w K mg base 3 (fA K "_law_row") ["_law_cell_here", "_law_signs_here"] [] (spRowL K) := by
  refine okD T.F__law_row sc__law_row (fun _ _ _ _ _ _ us hl => match us, hl with | [_, _], _ => rfl) ?_ ?_
  · rintro vs H Q E ⟨c, p, ws, rfl, _⟩
    rfl
  · rintro cdv A outer s H vs Q E hr ⟨c, p, ws, rfl, hs, hl, hw, q⟩
    refine ⟨_, (pss_cons (ps_set (i := 2) sc__law_row.nd rfl (Or.inl rfl) (pe_lst pa_nil))
  (pss_cons (ps_mid (ps_for (passes_of rfl) rfl (pi_mid (pi_range1 rfl T.fr_range (pa_cons (pe_ix (o_ix (K := K)) (pe_lst (pa_cons pe_int (pa_cons pe_int (pa_cons pe_int (pa_cons pe_int pa_nil))))) (pe_op op_mod (pv 0) pe_int) (fun _ _ => rfl)) pa_nil))) (pg_name (i := 3) sc__law_row.nd rfl (Or.inl rfl)) (pss_cons (ps_set (i := 4) sc__law_row.nd rfl (Or.inl rfl) (pe_mid (pe_cal (ok__law_mixed T) (hr.mono (by decide)) rfl T.g__law_mixed (pasE (takes_of rfl rfl rfl rfl) (fun _ _ _ _ h => h)) (pa_cons (pv 0) (pa_cons (pe_op (o_add (K := K)) pe_int (pv 3)) pa_nil)))))
  (pss_one (ps_if (pt_mid (PW.pt (pw_and (pt_cmpR (o_eq (K := K) (hu64 hr)) (pe_op op_mod (pv 4) pe_int) pe_int (nomark _)) (pw_and1 (pt_cmpR (o_notin (K := K) (hu65 hr)) (pe_tup (pa_cons pe_str pa_nil)) (pe_slice (o_sl (K := K)) (pv 2) (po_some (pe_un un_neg pe_int)) po_none) (by rfl)))))) (pss_one (ps_expr (pe_bmK (K := K) PySem.F.plainAttrs_list PySem.F.slot_list_append PySem.F.type_list_append mt_append (pv 2) (pa_cons (pe_mid (pe_tup (pa_cons pe_str pa_nil))) pa_nil)))) (pss_one (ps_expr (pe_bmK (K := K) PySem.F.plainAttrs_list PySem.F.slot_list_append PySem.F.type_list_append mt_append (pv 2) (pa_cons (pe_mid (pe_cal (ok__law_segment T) (hr.mono (by decide)) rfl T.g__law_segment (pasE (takes_of rfl rfl rfl rfl) (fun _ _ _ _ h => h)) (pa_cons (pe_op op_fdivW (pv 4) pe_int) (pa_cons (pv 1) pa_nil)))) pa_nil)))))))))
  (pss_one (ps_ret (pe_tup (pa_cons (pe_callTy (o_tuple (K := K)) (by rfl) T.fr_tuple (by decide +kernel) (pa_cons (pv 2) pa_nil)) (pa_cons (pe_cmpR (o_eq (K := K) (hu64 hr)) (pe_op op_mod (pe_op op_fdivW (pv 0) pe_int) pe_int) pe_int (nomark _)) (pa_cons (pe_cmpR (o_eq (K := K) (hu64 hr)) (pe_op op_mod (pe_op op_fdivW (pv 0) pe_int) pe_int) pe_int (nomark _)) pa_nil)))))))), ?_⟩
    have tobj := T.obj
    refine q_new fun L hL => ?_
    have sL := same_new (o := .lst []) hL
    refine q_stm (fun σ H' => ∃ ss us x1 x2, σ = [some (.int c), some (.ref p), some (.ref L), x1, x2] ∧ Same H H' ∧ H' L = some (.lst us) ∧ Each (fun f u H => Dp K H u (SF.d f)) ss us H' ∧ ss ≠ [] ∧ (∀ s ∈ ss, s.Ok) ∧ NoTwoD ss ∧ ss.length ≤ 3 ∧ ∀ fs, SF.seg fs ∈ ss → ∀ f ∈ fs, f.Low) ?_ ?_
    · refine for_open (fun J H' => ∃ n : Nat, J = Itr 0 n ∧ Same (upd H L (.lst [])) H' ∧ 1 ≤ n ∧ n ≤ 3) ?_ ?_
      · walk_at "rd"
        intro p' hp'
        exact ⟨_, .inl (.inl (.inl upd_same)), range4 (Q := fun v => ∃ j, v = V.int j ∧ _) fun n h1 h3 => ⟨n, rfl, by omega, by omega, n, rfl, same_new hp', h1, h3⟩⟩
      rintro _ H0 ⟨n, rfl, s0, hn1, hn3⟩
      have s00 := sL.trans s0
      refine for_mid (J0 := Itr 0 n) (H0 := H0) ⟨rfl, rfl⟩ walk_range
        (fun k σ H' => ∃ ss us x1 x2, σ = [some (.int c), some (.ref p), some (.ref L), x1, x2] ∧ Same H H' ∧ H' L = some (.lst us) ∧ Each (fun f u H => Dp K H u (SF.d f)) ss us H' ∧ (0 < k → ss ≠ []) ∧ (∀ s ∈ ss, s.Ok) ∧ NoTwoD ss ∧ ss.length ≤ k ∧ ∀ fs, SF.seg fs ∈ ss → ∀ f ∈ fs, f.Low)
        ⟨[], [], none, none, rfl, s00, s0 _ _ upd_same, .nil, fun h => absurd h (by decide), fun _ h => (nomatch h), trivial, Nat.le_refl _, fun _ h => nomatch h⟩ (fun _ _ _ _ _ => trivial) ?_ (fun σ H' h => ?_)
      · rintro k x σ H1 H1' hk ⟨ss, us, x1, x2, rfl, sm, hl1, each, ne, oks, two, len, low⟩ ⟨rfl, rfl⟩
        refine q_mid (fun m => 0 ≤ m ∧ m < 2147483647) ?_ fun mk hmk => ?_
        · walk_at "rd"
          exact ⟨c, _, rfl, fun m h1 h2 => ⟨rfl, m, rfl, h1, h2⟩⟩
        refine l_if (fun b H' => Same H1' H' ∧ (b = true → ss.getLast? ≠ some .deep)) ?_ ?_ ?_
        · walk_at "rd"
          refine ite2 (fun _ => ?_) fun _ h => h.elim
          exact deep_test (R := fun k H' => Same H1' H' ∧ (k = true → ¬ss.getLast? = some SF.deep)) hl1 each oks fun b H' s h => ⟨s, h⟩
        · rintro H3 ⟨s3, hb⟩
          have hL3 := s3 _ _ hl1
          refine l_app rfl hL3 ?_
          walk_at "rd"
          intro p' hp'
          have sp := same_new (o := .tup [V.str (Str.ofString "deep")]) hp'
          have s13 := (sm.trans s3).trans sp
          refine ⟨us, sp _ _ hL3, by rw [each.1]; omega, same_mut s13 hL, ss ++ [.deep], _, upd_same, forms_snoc (sp _ _ hL3) (each.imp fun f u d => dp_mono (s3.trans sp) _ _ d) (.tup (.inl (.inl upd_same)) (.cons (.str _) .nil)), fun _ => by simp, fun s h => ?_, twoD_snoc two fun _ => hb rfl, ?_, fun fs h => ?_⟩
          · exact (List.mem_append.mp h).elim (oks s) fun e => by rw [List.mem_singleton.mp e]; trivial
          · rw [List.length_append]; exact Nat.succ_le_succ len
          · exact (List.mem_append.mp h).elim (low fs) fun e => nomatch (List.mem_singleton.mp e)
        · rintro H3 ⟨s3, hb⟩
          have hL3 := s3 _ _ hl1
          refine l_app rfl hL3 ?_
          walk_at "rd"
          refine ⟨⟨by decide, by decide⟩, mk / 5, p, ws, rfl, same_l (sm.trans s3) hs, hl, hw, fun v fs H4 okf _ lo s4 d => ⟨us, s4 _ _ hL3, by rw [each.1]; omega, same_mut ((sm.trans s3).trans s4) hL, ss ++ [.seg fs], _, upd_same, forms_snoc (s4 _ _ hL3) (each.imp fun f u d => dp_mono (s3.trans s4) _ _ d) d, fun _ => by simp, fun s h => ?_, twoD_snoc two (fun e => nomatch e), ?_, fun gs h => ?_⟩⟩
          · exact (List.mem_append.mp h).elim (oks s) fun e => by rw [List.mem_singleton.mp e]; exact okf
          · rw [List.length_append]; exact Nat.succ_le_succ len
          · exact (List.mem_append.mp h).elim (low gs) fun e => by cases List.mem_singleton.mp e; exact lo
      · obtain ⟨ss, us, x1, x2, e, s1, h1, h2, h3, h4, h5, h6, h7⟩ := h
        exact ⟨ss, us, x1, x2, e, s1, h1, h2, h3 (by omega), h4, h5, by omega, h7⟩
    · rintro σ H1 ⟨ss, us, x1, x2, rfl, s1, h1, h2, h3, h4, h5, h6, h7⟩
      walk_at "rd"
      refine ⟨us, .inl ⟨.inl (.inl h1), fun l hl' => ⟨⟨by decide, by decide⟩, ⟨by decide, by decide⟩, fun p' hp' => ?_⟩⟩⟩
      exact q _ ⟨ss, _, _⟩ _ ⟨h3, h4, h5, Nat.le_trans h6 (by decide)⟩ h7 h6 ((s1.trans (same_new hl')).trans (same_new hp')) (row_d (r := ⟨ss, _, _⟩) h2 hl' hp')
def spRowMade (K : PySem.W.Frag) : Sp := fun vs H Q _ => ∃ v r, vs = [v] ∧ Dp K H v (RF.d r) ∧ RF.Ok r ∧ ∀ u H', Same H H' → RowV K r u H' → Q u H'
theorem ok__law_row_made (T : Txt K mg) : OkD P w K mg base 5 (fA K "_law_row_made") ["_law_form"] [] (spRowMade K) := by
  refine okD T.F__law_row_made sc__law_row_made (fun _ _ _ _ _ _ us hl => match us, hl with | [_], _ => rfl) ?_ ?_
  · rintro vs H Q E ⟨v, r, rfl, _⟩
    rfl
  · rintro cdv A outer s H vs Q E hr ⟨v, r, rfl, hd, ok, q⟩
    refine ⟨_, (pss_cons (ps_set (i := 1) sc__law_row_made.nd rfl (Or.inl rfl) (pe_lst pa_nil))
  (pss_cons (ps_mid (ps_for (passes_of rfl) rfl (pi_mid (o_it (K := K) rfl (pe_ix (o_ix (K := K)) (pv 0) pe_int (fun _ _ => rfl)))) (pg_name (i := 2) sc__law_row_made.nd rfl (Or.inl rfl)) (pss_one (ps_if (pt_mid (pt_cmpR (o_eq (K := K) (hu64 hr)) (pe_ix (o_ix (K := K)) (pv 2) pe_int (fun _ _ => rfl)) pe_str (nomark _))) (pss_one (ps_expr (pe_bmK (K := K) PySem.F.plainAttrs_list PySem.F.slot_list_append PySem.F.type_list_append mt_append (pv 1) (pa_cons (pe_mid (pe_makN T.mn_Deep rfl T.g_Deep)) pa_nil)))) (pss_one (ps_expr (pe_bmK (K := K) PySem.F.plainAttrs_list PySem.F.slot_list_append PySem.F.type_list_append mt_append (pv 1) (pa_cons (pe_mid (pe_mak T.mk_Segment (ok_Segment___init__ T) (hr.mono (by decide)) rfl T.g_Segment (pasE (takes_of rfl rfl rfl rfl) (fun _ _ _ _ h => h)) (pa_cons (pe_callTy (o_tuple (K := K)) (by rfl) T.fr_tuple (by decide +kernel) (pa_cons (pe_lc (own := [("_law_part_here", 3)]) (g := (gName 3)) (tt := tYes) rfl sc__law_row_made.nd (pi_mid (o_it (K := K) rfl (pe_ix (o_ix (K := K)) (pv 2) pe_int (fun _ _ => rfl)))) (blkOk_by (N := N__law_row_made) (sc := defScope TX.s__law_row_made) (by decide +kernel)) (fun _ _ _ _ _ => (pg_name (i := 3) sc__law_row_made.nd rfl (Or.inl rfl))) (fun _ _ _ _ _ => pts_nil) (fun _ _ _ _ _ => (pe_mid (pe_cal (ok__law_part_made T) (hr.mono (by decide)) rfl T.g__law_part_made pasN (pa_cons (pv 3) pa_nil))))) pa_nil)) pa_nil))) pa_nil))))))))
  (pss_one (ps_ret (pe_mak T.mk_Row (ok_Row___init__ T) (hr.mono (by decide)) rfl T.g_Row (pasE (takes_of rfl rfl rfl rfl) (fun _ _ _ _ h => h)) (pa_cons (pe_callTy (o_tuple (K := K)) (by rfl) T.fr_tuple (by decide +kernel) (pa_cons (pv 1) pa_nil)) (pa_cons (pe_ix (o_ix (K := K)) (pv 0) pe_int (fun _ _ => rfl)) (pa_cons (pe_ix (o_ix (K := K)) (pv 0) pe_int (fun _ _ => rfl)) pa_nil)))))))), ?_⟩
    have tobj := T.obj
    obtain ⟨a, t, ts, rfl, ha, ht, each⟩ := RF.inv hd
    refine q_new fun L hL => ?_
    have sL := same_new (o := .lst []) hL
    refine q_stm (fun σ H' => ∃ us x2 x3, σ = [some (.ref a), some (.ref L), x2, x3] ∧ Same H H' ∧ H' L = some (.lst us) ∧ Each (StepV K) r.steps us H') ?_ ?_
    · refine for_mid (J0 := Itt K t) (H0 := upd H L (.lst [])) ?_ (walk_tup (K := K) (a := t) (xs := ts))
        (fun k σ H' => ∃ us x2 x3, σ = [some (.ref a), some (.ref L), x2, x3] ∧ Same H H' ∧ H' L = some (.lst us) ∧ Each (StepV K) (r.steps.take k) us H')
        ⟨[], none, none, rfl, sL, upd_same, .nil⟩ (fun k σ H' _ ⟨_, _, _, _, s3, _⟩ => same_t s3 ht) ?_ (fun σ H' h => ?_)
      · have ha1 := same_t sL ha
        have ht1 := same_t sL ht
        walk_at "rdx"
        exact .inr ⟨ts, ht1⟩
      · rintro k x σ H1 H1' hk ⟨us, x2, x3, rfl, sm, hl1, es⟩ ⟨rfl, hx⟩
        obtain ⟨f, hf, hdf⟩ := each.at' hx
        have hd1 := dp_mono sm _ _ hdf
        have hok := ok.ok f (List.mem_of_getElem? hf)
        have hlen : us.length ≤ 12 := by
          rw [es.1]
          have := ok.len
          have := List.length_take_le' k r.steps
          omega
        have tk : r.steps.take (k + 1) = r.steps.take k ++ [f] := by rw [List.take_succ, hf]; rfl
        have fin : ∀ (y : V) (H5 : Hp), Same H1' H5 → StepV K f y H5 → ∃ ys, H5 L = some (.lst ys) ∧ ys.length < 16777216 ∧ Same H (upd H5 L (.lst (ys ++ [y]))) ∧ ∃ us, upd H5 L (.lst (ys ++ [y])) L = some (.lst us) ∧ Each (StepV K) (r.steps.take (k + 1)) us (upd H5 L (.lst (ys ++ [y]))) := by
          intro y H5 s5 hy
          have hl5 := s5 _ _ hl1
          refine ⟨us, hl5, by omega, same_mut (sm.trans s5) hL, us ++ [y], upd_same, ?_⟩
          rw [tk]
          exact ((es.mono s5).nl (nl_upd hl5)).snoc (hy.nl (nl_upd hl5))
        cases f with
        | deep =>
          obtain ⟨va, rfl, hv⟩ := SF.deep_inv hd1
          refine l_if (fun b H' => b = true ∧ H' = H1') (by walk_at "rdx") (fun H5 h => ?_) (fun H1 h => nomatch h.1)
          obtain ⟨_, rfl⟩ := h
          refine l_app rfl hl1 ?_
          walk_at "rd"
          intro x dx hx' hdx hne
          exact fin _ _ (new_two hx' hdx hne) ⟨x, dx, rfl, upd_same⟩
        | seg fs =>
          obtain ⟨va, t1, us1, rfl, hv, ht1, each1⟩ := SF.seg_inv hd1
          have okf : PartsOk fs := hok
          refine l_if (fun b H' => b = false ∧ H' = H1') (by walk_at "rdx") (fun H1 h => nomatch h.1) (fun H5 h => ?_)
          obtain ⟨_, rfl⟩ := h
          refine l_app rfl hl1 ?_
          walk_at "rd"
          refine lc_midM (J0 := Itt K t1) (H0 := H5) ?_ (walk_tup (K := K) (a := t1) (xs := us1)) (by rw [each1.1]; have := okf.len; omega) (fun k acc H' => Each (PartV K) (fs.take k) acc H') (fun k acc Ha Hb e h => h.imp fun f u d => d.nl e) .nil (fun H' s => same_t s ht1) (fun _ _ _ _ y => y_at y) (fun _ => rfl) ?_ ?_
          · walk_at "rdx"
            exact .inr ⟨us1, ht1⟩
          · rintro j x acc H' H'' hj s6 hc ⟨rfl, hx⟩
            obtain ⟨f, hf1, df⟩ := each1.at' hx
            refine mid_of (fun u H4 => Same H'' H4 ∧ PartV K f u H4) ?_ ?_
            · walk_at "rd"
              exact ⟨x, f, rfl, dp_mono s6 _ _ df, okf.ok f (List.mem_of_getElem? hf1), fun u H4 s h => ⟨s, h⟩⟩
            · rintro u H4 ⟨s4, h⟩
              refine ⟨s4, ?_⟩
              rw [List.take_succ, hf1]
              exact (hc.imp fun f u d => d.mono s4).snoc h
          · intro l acc H6 hl6 s6 hD6 hlen6 hc
            rw [List.take_of_length_le (by rw [each1.1]; exact Nat.le_refl _)] at hc
            walk_at "rd"
            refine ⟨acc, .inl ⟨.inl (.inl hD6), fun l' hl' => ?_⟩⟩
            have s7 := same_new (o := .tup acc) hl'
            exact seg_make (.inl (.inl (.inl upd_same))) ((parts_each.mpr hc).mono s7) (Nat.le_trans okf.len (by decide)) okf.ne fun v H' s h => fin _ H' ((s6.trans s7).trans s) (by rw [normP_id okf.two] at h; exact h)
      · obtain ⟨us, x2, x3, e, s1, h1, h2⟩ := h
        rw [List.take_of_length_le (by rw [each.1]; exact Nat.le_refl _)] at h2
        exact ⟨us, x2, x3, e, s1, h1, h2⟩
    · rintro σ H1 ⟨us, x2, x3, rfl, s1, h1, h2⟩
      have ha1 := same_t s1 ha
      walk_at "rdx"
      refine ⟨us, .inl ⟨.inl (.inl h1), fun l hl' => ?_⟩⟩
      have s2 := same_new (o := .tup us) hl'
      have ha2 := same_t s2 ha1
      refine ⟨_, .inr ha2, _, rfl, _, .inr ha2, _, rfl, ?_⟩
      refine row_make (.inl (.inl (.inl upd_same))) (h2.mono s2) (Nat.le_trans ok.len (by decide)) ok.ne fun v H' s h => ?_
      rw [normS_id ok.two] at h
      exact q _ H' ((s1.trans s2).trans s) h

/-! ### signs that a part fits -/
def FOk (f : PF) : Prop := f.Ok ∧ f.Low
def WsOk (ws : List V) : Prop := ws.Nodup
theorem ws_out {cs l : List Nat} (hc : cs.length = 4) (hn : cs.Nodup) (h : l.length ≤ 3) : ∃ c ∈ cs, c ∉ l := by
  refine Classical.byContradiction fun n => ?_
  have a : ∀ c ∈ cs, c ∈ l := fun c hc => Classical.byContradiction fun q => n ⟨c, hc, q⟩
  have e := nat_nodup_len cs l hn a
  omega
def spFilled (K : PySem.W.Frag) : Sp := fun vs H Q _ => ∃ v c p ws f, vs = [v, .int c, .ref p] ∧ Dp K H v (PF.d f) ∧ FOk f ∧ SqL K H p ws ∧ ws.length = 4 ∧ WsOk ws ∧ (∀ v ∈ ws, SignV v) ∧ ∀ l H', l.length ≤ 2 → (∀ c ∈ l, c ∈ SIG) → Same H H' → Q (.str (S l)) H'
theorem ok__law_filled (T : Txt K mg) : OkD P w K mg base 1 (fA K "_law_filled") ["_law_part_here", "_law_cell_here", "_law_signs_here"] [] (spFilled K) := by
  refine okD T.F__law_filled sc__law_filled (fun _ _ _ _ _ _ us hl => match us, hl with | [_, _, _], _ => rfl) ?_ ?_
  · rintro vs H Q E ⟨v, c, p, ws, f, rfl, _⟩
    rfl
  · rintro cdv A outer s H vs Q E hr ⟨v, c, p, ws, f, rfl, hd, okl, hs, hl, wsd, hw, q⟩
    have ok : f.Ok := okl.1
    have wsd : ws.Nodup := wsd
    refine ⟨_, (pss_cons (ps_if (pt_mid (pt_cmpR (o_eq (K := K) (hu64 hr)) (pe_ix (o_ix (K := K)) (pv 0) pe_int (fun _ _ => rfl)) pe_str (nomark _))) (pss_one (ps_ret (pe_ix (o_ix (K := K)) (pv 0) pe_int (fun _ _ => rfl)))) pss_nil)
  (pss_cons (ps_if (pt_mid (pt_cmpR (o_eq (K := K) (hu64 hr)) (pe_ix (o_ix (K := K)) (pv 0) pe_int (fun _ _ => rfl)) pe_str (nomark _))) (pss_one (ps_ret (pe_ix (o_ix (K := K)) (pv 2) (pe_op op_mod (pv 1) pe_int) (fun _ _ => rfl)))) pss_nil)
  (pss_cons (ps_if (pt_mid (pt_cmpR (o_eq (K := K) (hu64 hr)) (pe_ix (o_ix (K := K)) (pv 0) pe_int (fun _ _ => rfl)) pe_str (nomark _))) (pss_cons (ps_set (i := 3) sc__law_filled.nd rfl (Or.inl rfl) (pe_mid (pe_op (o_add (K := K)) (pe_ix (o_ix (K := K)) (pv 2) (pe_op op_mod (pv 1) pe_int) (fun _ _ => rfl)) (pe_ix (o_ix (K := K)) (pv 2) (pe_op op_mod (pe_op op_fdivW (pv 1) pe_int) pe_int) (fun _ _ => rfl)))))
  (pss_one (ps_ret (pe_slice (o_sl (K := K)) (pv 3) po_none (po_some (pe_op op_mod (pe_op op_fdivW (pv 1) pe_int) pe_int)))))) pss_nil)
  (pss_cons (ps_if (pt_mid (pt_tru (K := K) (pe_ix (o_ix (K := K)) (pv 0) pe_int (fun _ _ => rfl)) (by intro _; rfl))) (pss_cons (ps_setLc (own := [("_law_sign", 4)]) (g := (gName 4)) (i := 3) rfl sc__law_filled.nd rfl rfl (sw_true rfl rfl rfl (by decide +kernel)) (pi_mid (o_it (K := K) rfl (pv 2))) (blkOk_by (N := N__law_filled) (sc := defScope TX.s__law_filled) (by decide +kernel)) (fun _ _ _ _ _ => (pg_name (i := 4) sc__law_filled.nd rfl (Or.inl rfl))) (fun _ _ _ _ _ => (pts_one (pt_mid (pt_cmpR (o_notin (K := K) (hu65 hr)) (pv 4) (pe_ix (o_ix (K := K)) (pv 0) pe_int (fun _ _ => rfl)) (by rfl))))) (fun _ _ _ _ _ => (pe_mid (pv 4))))
  (pss_one (ps_ret (pe_ix (o_ix (K := K)) (pv 3) pe_int (fun _ _ => rfl))))) pss_nil)
  (pss_one (ps_ret (pe_ix (o_ix (K := K)) (pe_ix (o_ix (K := K)) (pv 0) pe_int (fun _ _ => rfl)) (pe_op op_mod (pv 1) (pe_callB (o_lenW (K := K) (w := w)) (by rfl) T.fr_len boot_len (pa_cons (pe_ix (o_ix (K := K)) (pv 0) pe_int (fun _ _ => rfl)) pa_nil))) (fun _ _ => rfl)))))))), ?_⟩
    have tobj := T.obj
    obtain ⟨a, rfl, hv⟩ := PF.inv hd
    obtain ⟨c1, hc1, e1⟩ := at4 hl hw c
    obtain ⟨c2, hc2, e2⟩ := at4 hl hw (c / 4)
    cases f with
    | one d =>
      refine q_if (fun b H1 => b = true ∧ H1 = H) (by walk_at "rdx") (fun H1 h => ?_) (fun H1 h => nomatch h.1)
      obtain ⟨_, rfl⟩ := h
      walk_at "rdx"
      exact q [d] _ (by simp) (fun c hc => by rw [List.mem_singleton.mp hc]; exact ok) (Same.refl _)
    | any =>
      refine q_if (fun b H1 => b = false ∧ H1 = H) (by walk_at "rdx") (fun H1 h => nomatch h.1) (fun H1 h => ?_)
      obtain ⟨_, rfl⟩ := h
      refine q_if (fun b H1' => b = true ∧ H1' = H1) (by walk_at "rdx") (fun H2 h => ?_) (fun H1 h => nomatch h.1)
      obtain ⟨_, rfl⟩ := h
      walk_at "rd"
      exact ⟨ws, .inl hs, _, e1, q [c1] _ (by simp) (fun c hc => by rw [List.mem_singleton.mp hc]; exact hc1) (Same.refl _)⟩
    | stars =>
      refine q_if (fun b H1 => b = false ∧ H1 = H) (by walk_at "rdx") (fun H1 h => nomatch h.1) (fun H1 h => ?_)
      obtain ⟨_, rfl⟩ := h
      refine q_if (fun b H1' => b = false ∧ H1' = H1) (by walk_at "rdx") (fun H1 h => nomatch h.1) (fun H2 h => ?_)
      obtain ⟨_, rfl⟩ := h
      refine q_if (fun b H1' => b = true ∧ H1' = H2) (by walk_at "rdx") (fun H3 h => ?_) (fun H1 h => nomatch h.1)
      obtain ⟨_, rfl⟩ := h
      refine q_midG (fun v H' => v = .str (S [c1, c2]) ∧ H' = H3) ?_ ?_
      · walk_at "rd"
        refine ⟨ws, .inl hs, _, e1, ⟨by decide, by decide⟩, ws, .inl hs, _, e2, ?_⟩
        show (S [c1]).length + (S [c2]).length ≤ 16777216 ∧ S [c1] ++ S [c2] = S [c1, c2]
        rw [S_cat]
        exact ⟨by rw [S_len, S_len]; simp, rfl⟩
      rintro _ _ ⟨rfl, rfl⟩
      rename_i H4
      walk_at "rd"
      refine ⟨⟨by decide, by decide⟩, by rw [S_len]; simp, ?_⟩
      refine q _ _ ?_ (fun c hc => ?_) (Same.refl _)
      · exact Nat.le_trans (List.length_take_le' _ _) (Nat.le_trans (drop_le _ _) (Nat.le_refl 2))
      · have h := List.mem_of_mem_drop (List.mem_of_mem_take hc)
        rcases List.mem_cons.mp h with rfl | h
        · exact hc1
        · rw [List.mem_singleton.mp h]; exact hc2
    | among l o =>
      refine q_if (fun b H1 => b = false ∧ H1 = H) (by walk_at "rdx") (fun H1 h => nomatch h.1) (fun H1 h => ?_)
      obtain ⟨_, rfl⟩ := h
      refine q_if (fun b H1' => b = false ∧ H1' = H1) (by walk_at "rdx") (fun H1 h => nomatch h.1) (fun H2 h => ?_)
      obtain ⟨_, rfl⟩ := h
      refine q_if (fun b H1' => b = false ∧ H1' = H2) (by walk_at "rdx") (fun H1 h => nomatch h.1) (fun H3 h => ?_)
      obtain ⟨_, rfl⟩ := h
      refine q_next ?_
      refine q_if (fun b H1' => o = b ∧ H1' = H3) ?_ (fun H4 h => ?_) (fun H4 h => ?_)
      · walk_at "rdx"
      · obtain ⟨rfl, rfl⟩ := h
        obtain ⟨cs, rfl, hcs⟩ := signs_list hw
        have lcs : cs.length = 4 := by simpa using hl
        have ncs : cs.Nodup := by
          have h : ((cs.map fun c => S [c]).map V.str).Nodup := wsd
          have h2 : (cs.map fun c => S [c]).Nodup := (List.pairwise_map.mp h).imp fun q e => q (by rw [e])
          exact nd_unmap h2
        have hs4 : (List.map V.str (List.map (fun c => S [c]) cs)).length = 4 := hl
        refine q_val ?_
        refine lc_midT (J0 := Itl K p) (H0 := H4) ?_ (walk_list (K := K) (a := p) (xs := (cs.map fun c => S [c]).map V.str)) (by rw [hs4]; decide) (fun k acc _ => acc = ((cs.take k).filter fun c => !decide (c ∈ l)).map fun c => V.str (S [c])) (fun _ _ _ _ _ e => e) rfl (fun H' s => same_l s hs) (fun _ _ _ _ y => y_at y) (fun _ => rfl) ?_ ?_
        · walk_at "rd"
          exact .inl ⟨_, hs⟩
        · rintro k x acc H' H'' hk sm ha ⟨rfl, hx⟩
          obtain ⟨c, hc', rfl⟩ : ∃ c, cs[k]? = some c ∧ x = .str (S [c]) := by
            rw [List.getElem?_map, List.getElem?_map] at hx
            cases e : cs[k]? with
            | none => rw [e] at hx; cases hx
            | some c => rw [e] at hx; exact ⟨c, rfl, (Option.some.inj hx).symm⟩
          have hv' := same_t sm hv
          have tk : cs.take (k + 1) = cs.take k ++ [c] := by rw [List.take_succ, hc']; rfl
          walk_at "rdx"
          refine .inl ⟨c, rfl, ?_⟩
          rw [tk, List.filter_append, List.map_append, ← ha]
          by_cases h : c ∈ l <;> simp [h]
        · rintro r acc H' hp0 sm hD hle ha
          rw [List.take_of_length_le (by rw [hs4, lcs]; exact Nat.le_refl _)] at ha
          obtain ⟨d, hd1, hd2⟩ := ws_out lcs ncs (okl.2)
          have hmem : d ∈ cs.filter fun c => !decide (c ∈ l) := List.mem_filter.mpr ⟨hd1, by simp [hd2]⟩
          cases hf : cs.filter fun c => !decide (c ∈ l) with
          | nil => rw [hf] at hmem; cases hmem
          | cons y r' =>
            rw [hf] at ha
            have hy : y ∈ cs := (List.mem_filter.mp (by rw [hf]; exact List.mem_cons_self)).1
            walk_at "rd"
            refine ⟨acc, .inl (.inl (.inl hD)), V.str (S [y]), ?_, ?_⟩
            · rw [ha]; exact atI_zero
            · exact q [y] _ (by simp) (fun c hc => by rw [List.mem_singleton.mp hc]; exact hcs y hy) sm
      · obtain ⟨_, rfl⟩ := h
        have hl0 : 0 < l.length := List.length_pos_iff.mpr ok.1.ne
        obtain ⟨j, hj⟩ : ∃ j : Nat, c % (l.length : Int) = (j : Int) := ⟨(c % (l.length : Int)).toNat, by have := Int.emod_nonneg c (b := (l.length : Int)) (by omega); omega⟩
        have hj2 : j < l.length := by
          have := Int.emod_lt_of_pos c (b := (l.length : Int)) (by omega)
          omega
        have h12 := ok.2
        walk_at "rdx"
        rw [S_len, hj]
        exact ⟨by omega, by omega, by omega, l[j], atI_nat (List.getElem?_eq_getElem hj2), q [l[j]] _ (by simp) (fun c hc => by rw [List.mem_singleton.mp hc]; exact ok.1.sg _ (List.getElem_mem hj2)) (Same.refl _)⟩

/-! ### names about a row -/
/-- a name: signs, one at least -/
def NmV (b : Nat) (v : V) : Prop := ∃ l : List Nat, v = .str (S l) ∧ l ≠ [] ∧ l.length ≤ b ∧ ∀ c ∈ l, c ∈ SIG
theorem NmV.up {b b' : Nat} {v : V} (h : NmV b v) (e : b ≤ b') : NmV b' v := let ⟨l, a, c, d, f⟩ := h; ⟨l, a, c, Nat.le_trans d e, f⟩
def NmL (H : Hp) (F : Addr) (b : Nat) (us : List V) (n : Nat) (H' : Hp) : Prop := Same H H' ∧ H F = none ∧ H' F = some (.lst us) ∧ (∀ u ∈ us, NmV b u) ∧ us.length ≤ n
theorem nm_one {c b : Nat} (h : c ∈ SIG) : NmV (b + 2) (.str (S [c])) := ⟨[c], rfl, by simp, by simp, fun d hd => by rw [List.mem_singleton.mp hd]; exact h⟩
theorem nm_two {c d b : Nat} (h : c ∈ SIG) (g : d ∈ SIG) : NmV (b + 2) (.str (S [c, d])) := ⟨[c, d], rfl, by simp, by simp, fun e he => (List.mem_cons.mp he).elim (fun q => q ▸ h) fun q => by rw [List.mem_singleton.mp q]; exact g⟩
theorem all_snoc {p : V → Prop} {us : List V} {u : V} (h : ∀ v ∈ us, p v) (g : p u) : ∀ v ∈ us ++ [u], p v := fun v hv => (List.mem_append.mp hv).elim (h v) fun e => by rw [List.mem_singleton.mp e]; exact g
theorem all_app {p : V → Prop} {us ws : List V} (h : ∀ v ∈ us, p v) (g : ∀ v ∈ ws, p v) : ∀ v ∈ us ++ ws, p v := fun v hv => (List.mem_append.mp hv).elim (h v) (g v)
theorem cut_mem {us : List V} {lo hi : Option Int} {v : V} (h : v ∈ cutV us lo hi) : v ∈ us := List.mem_of_mem_drop (List.mem_of_mem_take h)
theorem cut_len {us : List V} {lo hi : Option Int} : (cutV us lo hi).length ≤ us.length := Nat.le_trans (List.length_take_le' _ _) (drop_le _ _)
theorem ix_nat {n j : Nat} (h : j < n) : ixN n (j : Int) = some j := by
  unfold ixN
  rw [if_pos (Int.natCast_nonneg _), if_pos (by omega), Int.toNat_natCast]
theorem at_name {us : List V} {i : Int} (hne : us ≠ []) (h0 : 0 ≤ i) (h1 : i < max 1 (us.length : Int)) {b : Nat} (h : ∀ u ∈ us, NmV b u) : ∃ (j : Nat), i = (j : Int) ∧ j < us.length ∧ ∃ l : List Nat, atI us i = some (.str (S l)) ∧ l ≠ [] ∧ l.length ≤ b ∧ ∀ c ∈ l, c ∈ SIG := by
  have hl : 0 < us.length := List.length_pos_iff.mpr hne
  obtain ⟨j, rfl⟩ : ∃ j : Nat, i = (j : Int) := ⟨i.toNat, by omega⟩
  have hj : j < us.length := by omega
  obtain ⟨l, e, a, b, c⟩ := h us[j] (List.getElem_mem hj)
  refine ⟨j, rfl, hj, l, atI_nat ?_, a, b, c⟩
  rw [List.getElem?_eq_getElem hj, e]
theorem cutS_sub (l : List Nat) (lo hi : Option Int) : ∃ m : List Nat, cutS (S l) lo hi = S m ∧ m.length ≤ l.length ∧ ∀ c ∈ m, c ∈ l :=
  ⟨_, rfl, Nat.le_trans (List.length_take_le' _ _) (drop_le _ _), fun _ h => List.mem_of_mem_drop (List.mem_of_mem_take h)⟩
def spNames (K : PySem.W.Frag) : Sp := fun vs H Q _ => ∃ v c p ws r, vs = [v, .int c, .ref p] ∧ Dp K H v (RF.d r) ∧ RF.Ok r ∧ (∀ fs, SF.seg fs ∈ r.steps → ∀ f ∈ fs, FOk f) ∧ SqL K H p ws ∧ ws.length = 4 ∧ WsOk ws ∧ (∀ v ∈ ws, SignV v) ∧
  ∀ F us H', us ≠ [] → (∀ u ∈ us, NmV 400 u) → us.length ≤ 50 → Same H H' → H' F = some (.lst us) → Q (.ref F) H'
theorem ok__law_names (T : Txt K mg) : OkD P w K mg base 2 (fA K "_law_names") ["_law_form", "_law_cell_here", "_law_signs_here"] [] (spNames K) := by
  refine okD T.F__law_names sc__law_names (fun _ _ _ _ _ _ us hl => match us, hl with | [_, _, _], _ => rfl) ?_ ?_
  · rintro vs H Q E ⟨v, c, p, ws, r, rfl, _⟩
    rfl
  · rintro cdv A outer s H vs Q E hr ⟨v, c, p, ws, r, rfl, hd, okr, okp, hs, hl, wok, hw, q⟩
    refine ⟨_, (pss_cons (ps_set (i := 3) sc__law_names.nd rfl (Or.inl rfl) (pe_mid (pe_lst pa_nil)))
  (pss_cons (ps_mid (ps_for (passes_of rfl) rfl (pi_mid (pi_range1 rfl T.fr_range (pa_cons (pe_callB (o_lenW (K := K) (w := w)) (by rfl) T.fr_len boot_len (pa_cons (pe_ix (o_ix (K := K)) (pv 0) pe_int (fun _ _ => rfl)) pa_nil)) pa_nil))) (pg_name (i := 4) sc__law_names.nd rfl (Or.inl rfl)) (pss_cons (ps_set (i := 5) sc__law_names.nd rfl (Or.inl rfl) (pe_mid (pe_ix (o_ix (K := K)) (pe_ix (o_ix (K := K)) (pv 0) pe_int (fun _ _ => rfl)) (pv 4) (fun _ _ => rfl))))
  (pss_cons (ps_set (i := 6) sc__law_names.nd rfl (Or.inl rfl) (pe_mid (pe_cal (ok__law_mixed T) (hr.mono (by decide)) rfl T.g__law_mixed (pasE (takes_of rfl rfl rfl rfl) (fun _ _ _ _ h => h)) (pa_cons (pv 1) (pa_cons (pe_op (o_add (K := K)) pe_int (pv 4)) pa_nil)))))
  (pss_one (ps_if (pt_mid (pt_cmpR (o_eq (K := K) (hu64 hr)) (pe_ix (o_ix (K := K)) (pv 5) pe_int (fun _ _ => rfl)) pe_str (nomark _))) (pss_cons (ps_set (i := 7) sc__law_names.nd rfl (Or.inl rfl) (pe_mid (pe_lst (pa_cons (pe_ix (o_ix (K := K)) (pv 2) (pe_op op_mod (pe_op op_fdivW (pv 6) pe_int) pe_int) (fun _ _ => rfl)) (pa_cons (pe_op (o_add (K := K)) (pe_ix (o_ix (K := K)) (pv 2) (pe_op op_mod (pe_op op_fdivW (pv 6) pe_int) pe_int) (fun _ _ => rfl)) (pe_ix (o_ix (K := K)) (pv 2) (pe_op op_mod (pe_op op_fdivW (pv 6) pe_int) pe_int) (fun _ _ => rfl))) pa_nil)))))
  (pss_one (ps_set (i := 3) sc__law_names.nd rfl (Or.inl rfl) (pe_mid (pe_op (o_add (K := K)) (pv 3) (pe_slice (o_sl (K := K)) (pv 7) po_none (po_some (pe_op op_mod (pv 6) pe_int)))))))) (pss_cons (ps_set (i := 8) sc__law_names.nd rfl (Or.inl rfl) (pe_mid pe_str))
  (pss_cons (ps_mid (ps_for (passes_of rfl) rfl (pi_mid (pi_range1 rfl T.fr_range (pa_cons (pe_callB (o_lenW (K := K) (w := w)) (by rfl) T.fr_len boot_len (pa_cons (pe_ix (o_ix (K := K)) (pv 5) pe_int (fun _ _ => rfl)) pa_nil)) pa_nil))) (pg_name (i := 9) sc__law_names.nd rfl (Or.inl rfl)) (pss_one (ps_set (i := 8) sc__law_names.nd rfl (Or.inl rfl) (pe_mid (pe_op (o_add (K := K)) (pv 8) (pe_cal (ok__law_filled T) (hr.mono (by decide)) rfl T.g__law_filled (pasE (takes_of rfl rfl rfl rfl) (fun _ _ _ _ h => h)) (pa_cons (pe_ix (o_ix (K := K)) (pe_ix (o_ix (K := K)) (pv 5) pe_int (fun _ _ => rfl)) (pv 9) (fun _ _ => rfl)) (pa_cons (pe_cal (ok__law_mixed T) (hr.mono (by decide)) rfl T.g__law_mixed (pasE (takes_of rfl rfl rfl rfl) (fun _ _ _ _ h => h)) (pa_cons (pv 6) (pa_cons (pv 9) pa_nil))) (pa_cons (pv 2) pa_nil))))))))))
  (pss_one (ps_expr (pe_bmK (K := K) PySem.F.plainAttrs_list PySem.F.slot_list_append PySem.F.type_list_append mt_append (pv 3) (pa_cons (pe_mid (pe_orK (K := K) (pv 8) (pe_one (pe_ix (o_ix (K := K)) (pv 2) pe_int (fun _ _ => rfl))))) pa_nil))))))))))))
  (pss_cons (ps_set (i := 10) sc__law_names.nd rfl (Or.inl rfl) (pe_mid (pe_op op_mod (pe_op op_fdivW (pv 1) pe_int) pe_int)))
  (pss_cons (ps_set (i := 11) sc__law_names.nd rfl (Or.inl rfl) (pe_mid (pe_op op_mod (pe_op op_fdivW (pv 1) pe_int) (pe_callB (o_max (K := K) rfl) (by rfl) T.fr_max (by decide +kernel) (pa_cons pe_int (pa_cons (pe_callB (o_lenW (K := K) (w := w)) (by rfl) T.fr_len boot_len (pa_cons (pv 3) pa_nil)) pa_nil))))))
  (pss_cons (ps_mid (ps_if (pt_mid (pt_cmpR (o_eq (K := K) (hu64 hr)) (pv 10) pe_int (nomark _))) (pss_one (ps_set (i := 3) sc__law_names.nd rfl (Or.inl rfl) (pe_mid (pe_op (o_add (K := K)) (pv 3) (pe_lst (pa_cons (pe_ix (o_ix (K := K)) (pv 2) (pe_op op_mod (pe_op op_fdivW (pv 1) pe_int) pe_int) (fun _ _ => rfl)) pa_nil)))))) pss_nil))
  (pss_cons (ps_mid (ps_if (pt_mid (pt_cmpR (o_eq (K := K) (hu64 hr)) (pv 10) pe_int (nomark _))) (pss_one (ps_set (i := 3) sc__law_names.nd rfl (Or.inl rfl) (pe_mid (pe_op (o_add (K := K)) (pe_slice (o_sl (K := K)) (pv 3) po_none (po_some (pv 11))) (pe_slice (o_sl (K := K)) (pv 3) (po_some (pe_op (o_add (K := K)) (pv 11) pe_int)) po_none))))) pss_nil))
  (pss_cons (ps_mid (ps_if (pt_mid (PW.pt (pw_and (pt_cmpR (o_eq (K := K) (hu64 hr)) (pv 10) pe_int (nomark _)) (pw_and1 (pt_cmpR (o_ne (K := K) (hu64 hr)) (pv 3) (pe_lst pa_nil) (nomark _)))))) (pss_one (ps_asg (pe_op (o_add (K := K)) (pe_ix (o_ix (K := K)) (pv 3) (pv 11) (fun _ _ => rfl)) (pe_ix (o_ix (K := K)) (pv 2) (pe_op op_mod (pe_op op_fdivW (pv 1) pe_int) pe_int) (fun _ _ => rfl))) (pg_sub (pv 3) (pv 11) set_list))) pss_nil))
  (pss_cons (ps_mid (ps_if (pt_mid (PW.pt (pw_and (pt_cmpR (o_eq (K := K) (hu64 hr)) (pv 10) pe_int (nomark _)) (pw_and1 (pt_cmpR (o_ne (K := K) (hu64 hr)) (pv 3) (pe_lst pa_nil) (nomark _)))))) (pss_one (ps_asg (pe_op (o_add (K := K)) (pe_ix (o_ix (K := K)) (pv 2) (pe_op op_mod (pe_op op_fdivW (pv 1) pe_int) pe_int) (fun _ _ => rfl)) (pe_slice (o_sl (K := K)) (pe_ix (o_ix (K := K)) (pv 3) (pv 11) (fun _ _ => rfl)) (po_some pe_int) po_none)) (pg_sub (pv 3) (pv 11) set_list))) pss_nil))
  (pss_one (ps_ret (pe_orK (K := K) (pv 3) (pe_one (pe_lst (pa_cons (pe_ix (o_ix (K := K)) (pv 2) (pe_op op_mod (pe_op op_fdivW (pv 1) pe_int) pe_int) (fun _ _ => rfl)) pa_nil)))))))))))))), ?_⟩
    have tobj := T.obj
    obtain ⟨a, t, ts, rfl, ha, ht, each⟩ := RF.inv hd
    obtain ⟨c0, hc0, e0⟩ := at4 hl hw 0
    have e0' : atI ws 0 = some (.str (S [c0])) := e0
    obtain ⟨cx, hcx, ex⟩ := at4 hl hw (c / 100)
    refine q_midG (fun v H' => ∃ F, v = .ref F ∧ NmL H F 398 [] 0 H') ?_ ?_
    · walk_at "rd"
      exact fun p hp => ⟨same_new hp, hp, upd_same, fun _ h => (nomatch h), Nat.le_refl _⟩
    rintro _ H0 ⟨F0, rfl, n0⟩
    refine q_stm (fun σ H' => ∃ F us x4 x5 x6 x7 x8 x9 x10 x11, σ = [some (.ref a), some (.int c), some (.ref p), some (.ref F), x4, x5, x6, x7, x8, x9, x10, x11] ∧ NmL H F 398 us 24 H') ?_ ?_
    · refine for_mid (J0 := Itr 0 r.steps.length) (H0 := H0) ?_ walk_range
        (fun k σ H' => ∃ F us x4 x5 x6 x7 x8 x9 x10 x11, σ = [some (.ref a), some (.int c), some (.ref p), some (.ref F), x4, x5, x6, x7, x8, x9, x10, x11] ∧ NmL H F 398 us (2 * k) H')
        ⟨F0, [], none, none, none, none, none, none, none, none, rfl, n0⟩ (fun _ _ _ _ _ => trivial) ?_ (fun σ H' h => ?_)
      · have ha1 := same_t n0.1 ha
        have ht1 := same_t n0.1 ht
        walk_at "rdx"
        refine .inr ⟨_, .inr ⟨ts, ht1, rfl⟩, ?_⟩
        have := okr.len
        rw [each.1]
        exact ⟨by omega, by omega, rfl⟩
      · rintro k x σ H1 H1' hk ⟨F, us, x4, x5, x6, x7, x8, x9, x10, x11, rfl, sm, hF0, hF, nus, lus⟩ ⟨rfl, rfl⟩
        have hfk : r.steps[k]? = some r.steps[k] := List.getElem?_eq_getElem hk
        have okk := okr.ok _ (List.getElem_mem hk)
        have okpk : ∀ fs, r.steps[k] = SF.seg fs → ∀ f ∈ fs, FOk f := fun fs e => okp fs (e ▸ List.getElem_mem hk)
        generalize r.steps[k] = sf at hfk okk okpk
        obtain ⟨u, hu, du⟩ := each.2 k sf hfk
        have ha1 := same_t sm ha
        have ht1 := same_t sm ht
        have hs1 := same_l sm hs
        have du1 := dp_mono sm _ _ du
        refine q_midG (fun v H' => v = u ∧ H' = H1') ?_ ?_
        · walk_at "rdx"
          exact ⟨ts, .inr ht1, u, atI_nat hu, rfl⟩
        rintro _ _ ⟨rfl, rfl⟩
        rename_i v H2
        refine q_mid (fun m => 0 ≤ m ∧ m < 2147483647) ?_ fun mk hmk => ?_
        · walk_at "rd"
          exact ⟨c, _, rfl, fun m h1 h2 => ⟨rfl, m, rfl, h1, h2⟩⟩
        cases sf with
        | deep =>
          obtain ⟨va, rfl, hv⟩ := SF.deep_inv du1
          refine l_if (fun b H' => b = true ∧ H' = H2) (by walk_at "rdx") (fun H5 h => ?_) (fun H1 h => nomatch h.1)
          obtain ⟨_, rfl⟩ := h
          obtain ⟨c1, hc1, e1⟩ := at4 hl hw (mk / 3)
          obtain ⟨c2, hc2, e2⟩ := at4 hl hw (mk / 12)
          obtain ⟨c3, hc3, e3⟩ := at4 hl hw (mk / 48)
          refine q_midG (fun v H' => ∃ G, v = .ref G ∧ Same H5 H' ∧ H' G = some (.lst [.str (S [c1]), .str (S [c2, c3])])) ?_ ?_
          · walk_at "rd"
            refine ⟨⟨by decide, by decide⟩, ws, .inl hs1, _, e1, ⟨by decide, by decide⟩, ws, .inl hs1, _, e2, ⟨by decide, by decide⟩, ws, .inl hs1, _, e3, ?_⟩
            show (S [c2]).length + (S [c3]).length ≤ 16777216 ∧ _
            rw [S_cat, S_len, S_len]
            exact ⟨by simp, fun p hp => ⟨same_new hp, upd_same⟩⟩
          rintro _ H6 ⟨G, rfl, s6, hG⟩
          have hF6 := s6 _ _ hF
          refine l_midG (fun v H' => ∃ F us', v = .ref F ∧ NmL H F 398 us' (2 * (k + 1)) H') ?_ ?_
          · walk_at "rd"
            refine .inl ⟨_, .inl (.inl hG), fun p1 hp1 => .inl ⟨us, (same_new hp1) _ _ hF6, _, upd_same, ?_, fun p2 hp2 => ⟨us ++ cutV [.str (S [c1]), .str (S [c2, c3])] none (some (mk % 3)), ?_⟩⟩⟩
            · have hcl := cut_len (us := [V.str (S [c1]), V.str (S [c2, c3])]) (lo := none) (hi := some (mk % 3))
              have := okr.len
              simp only [List.length_cons, List.length_nil] at hcl
              omega
            · have sx := ((sm.trans s6).trans (same_new hp1)).trans (same_new (o := .lst (us ++ cutV [.str (S [c1]), .str (S [c2, c3])] none (some (mk % 3)))) hp2)
              refine ⟨sx, same_none ((sm.trans s6).trans (same_new hp1)) hp2, upd_same, all_app nus fun v hv => ?_, ?_⟩
              · have h := cut_mem hv
                rcases List.mem_cons.mp h with rfl | h
                · exact nm_one hc1
                · rw [List.mem_singleton.mp h]; exact nm_two hc2 hc3
              · have := cut_len (us := [V.str (S [c1]), V.str (S [c2, c3])]) (lo := none) (hi := some (mk % 3))
                simp only [List.length_cons, List.length_nil] at this
                rw [List.length_append]
                omega
          · rintro _ H7 ⟨F, us', rfl, n7⟩
            exact ⟨F, us', _, _, _, _, _, _, _, _, rfl, n7⟩
        | seg fs =>
          obtain ⟨va, t1, us1, rfl, hv, ht1', each1⟩ := SF.seg_inv du1
          have okf : PartsOk fs := okk
          refine l_if (fun b H' => b = false ∧ H' = H2) (by walk_at "rdx") (fun H1 h => nomatch h.1) (fun H5 h => ?_)
          obtain ⟨_, rfl⟩ := h
          refine q_midG (fun v H' => v = .str (S []) ∧ H' = H5) (by walk_at "rd"; rfl) ?_
          rintro _ _ ⟨rfl, rfl⟩
          rename_i H6
          refine q_stm (fun σ H' => Same H6 H' ∧ ∃ l x9, σ = [some (.ref a), some (.int c), some (.ref p), some (.ref F), some (.int (0 + k)), some (.ref va), some (.int mk), x7, some (.str (S l)), x9, x10, x11] ∧ l.length ≤ 120 ∧ ∀ c ∈ l, c ∈ SIG) ?_ ?_
          · refine for_mid (J0 := Itr 0 fs.length) (H0 := H6) ?_ walk_range (fun j σ H' => Same H6 H' ∧ ∃ l x9, σ = [some (.ref a), some (.int c), some (.ref p), some (.ref F), some (.int (0 + k)), some (.ref va), some (.int mk), x7, some (.str (S l)), x9, x10, x11] ∧ l.length ≤ 2 * j ∧ ∀ c ∈ l, c ∈ SIG)
              ⟨Same.refl _, [], x9, rfl, Nat.le_refl _, fun _ h => nomatch h⟩ (fun _ _ _ _ _ => trivial) ?_ (fun σ H' h => ?_)
            · walk_at "rdx"
              refine .inr ⟨_, .inr ⟨us1, ht1', rfl⟩, ?_⟩
              have := okf.len
              rw [each1.1]
              exact ⟨by omega, by omega, rfl⟩
            · rintro j x σ H7 H7' hj ⟨s7, l, x9, rfl, ll, hlc⟩ ⟨rfl, rfl⟩
              have hfj : fs[j]? = some fs[j] := List.getElem?_eq_getElem hj
              have okj := okpk fs rfl _ (List.getElem_mem hj)
              generalize fs[j] = f at hfj okj
              obtain ⟨u, hu, du⟩ := each1.2 j f hfj
              have hv7 := same_t s7 hv
              have ht7 := same_t s7 ht1'
              have hs7 := same_l s7 hs1
              have := okf.len
              refine l_midG (fun v H' => Same H7' H' ∧ ∃ m : List Nat, v = .str (S (l ++ m)) ∧ m.length ≤ 2 ∧ ∀ c ∈ m, c ∈ SIG) ?_ ?_
              · walk_at "rdx"
                refine ⟨us1, .inr ht7, u, atI_nat hu, mk, _, rfl, fun m _ _ => ⟨u, m, p, ws, f, rfl, dp_mono s7 _ _ du, okj, hs7, hl, wok, hw, fun l2 H8 ll2 lc2 s8 => ?_⟩⟩
                show (S l).length + (S l2).length ≤ 16777216 ∧ _
                rw [S_cat, S_len, S_len]
                exact ⟨by omega, s8, l2, rfl, ll2, lc2⟩
              · rintro _ H8 ⟨s8, m, rfl, lm, hm⟩
                refine ⟨s7.trans s8, l ++ m, _, rfl, by rw [List.length_append]; omega, fun c hc => (List.mem_append.mp hc).elim (hlc c) (hm c)⟩
            · obtain ⟨s7, l, x9, e, h1, h2⟩ := h
              have := okf.len
              exact ⟨s7, l, x9, e, by omega, h2⟩
          · rintro σ H7 ⟨s7, l, x9, rfl, ll, hlc⟩
            have hF7 := s7 _ _ hF
            have hs7 := same_l s7 hs1
            refine l_app rfl hF7 ?_
            walk_at "rd"
            have := okr.len
            refine ⟨_, ⟨by rw [S_len]; omega, rfl⟩, ite2 (fun hne => ?_) fun _ => ?_⟩
            · exact ⟨us, hF7, by omega, us ++ [.str (S l)], same_mut (sm.trans s7) hF0, hF0, upd_same, all_snoc nus ⟨l, rfl, fun e => by rw [e] at hne; simp [S_len] at hne, by omega, hlc⟩, by rw [List.length_append, List.length_singleton]; omega⟩
            · exact ⟨ws, .inl hs7, _, e0', us, hF7, by omega, _, same_mut (sm.trans s7) hF0, hF0, upd_same, all_snoc nus (nm_one hc0), by rw [List.length_append, List.length_singleton]; omega⟩
      · obtain ⟨F, us, x4, x5, x6, x7, x8, x9, x10, x11, e, h1, h2, h3, h4, h5⟩ := h
        have := okr.len
        exact ⟨F, us, x4, x5, x6, x7, x8, x9, x10, x11, e, h1, h2, h3, h4, by omega⟩
    rintro σ H1 ⟨F, us, x4, x5, x6, x7, x8, x9, x10, x11, rfl, n1⟩
    refine q_mid (fun _ => True) (by walk_at "rd"; exact ⟨by decide, by decide⟩) fun way _ => ?_
    refine q_mid (fun i => 0 ≤ i ∧ i < max 1 (us.length : Int)) ?_ fun at' hat => ?_
    · have h3 := n1.2.2.1
      walk_at "rd"
      refine ⟨⟨by decide, by decide⟩, .inr ⟨_, .inl ⟨us, .inl (.inl h3), rfl⟩, ?_⟩⟩
      have e : (if (us.length : Int) > 1 then (us.length : Int) else 1) = max 1 (us.length : Int) := by split <;> omega
      rw [e]
      exact ⟨by omega, Int.emod_nonneg _ (by omega), Int.emod_lt_of_pos _ (by omega)⟩
    refine q_stm (fun σ H' => ∃ F us, σ = [some (.ref a), some (.int c), some (.ref p), some (.ref F), x4, x5, x6, x7, x8, x9, some (.int way), some (.int at')] ∧ NmL H F 398 us 25 H' ∧ (way ≠ 0 → at' < max 1 (us.length : Int))) ?_ ?_
    · refine l_if (fun b H' => H' = H1 ∧ (b = true → way = 0)) (by walk_at "rd"; exact id) (fun H2 h => ?_) (fun H2 h => ?_)
      · obtain ⟨rfl, hw0⟩ := h
        refine l_midG (fun v H' => ∃ F us', v = .ref F ∧ NmL H F 398 us' 25 H') ?_ ?_
        · have h3 := n1.2.2.1
          have hs1 := same_l n1.1 hs
          walk_at "rd"
          have hl24 := n1.2.2.2.2
          refine ⟨⟨by decide, by decide⟩, ws, .inl hs1, _, ex, fun p1 hp1 => .inl ⟨us, (same_new hp1) _ _ h3, _, upd_same, ?_, fun p2 hp2 => ⟨us ++ [.str (S [cx])], ?_⟩⟩⟩
          · rw [List.length_singleton]; omega
          · exact ⟨(n1.1.trans (same_new hp1)).trans (same_new hp2), same_none (n1.1.trans (same_new hp1)) hp2, upd_same, all_snoc n1.2.2.2.1 (nm_one hcx), by rw [List.length_append, List.length_singleton]; omega⟩
        · rintro _ H3 ⟨F, us', rfl, n3⟩
          exact ⟨F, us', rfl, n3, fun h => absurd (hw0 rfl) h⟩
      · obtain ⟨rfl, _⟩ := h
        exact ⟨F, us, rfl, ⟨n1.1, n1.2.1, n1.2.2.1, n1.2.2.2.1, by have := n1.2.2.2.2; omega⟩, fun _ => hat.2⟩
    rintro σ H2 ⟨F, us, rfl, n2, hlt⟩
    refine q_stm (fun σ H' => ∃ F us, σ = [some (.ref a), some (.int c), some (.ref p), some (.ref F), x4, x5, x6, x7, x8, x9, some (.int way), some (.int at')] ∧ NmL H F 398 us 50 H' ∧ ((way = 2 ∨ way = 3) → at' < max 1 (us.length : Int))) ?_ ?_
    · refine l_if (fun b H' => H' = H2 ∧ (b = true → way = 1)) (by walk_at "rd"; exact id) (fun H3 h => ?_) (fun H3 h => ?_)
      · obtain ⟨rfl, hw0⟩ := h
        have hw1 := hw0 rfl
        refine l_midG (fun v H' => ∃ F us', v = .ref F ∧ NmL H F 398 us' 50 H') ?_ ?_
        · have h3 := n2.2.2.1
          walk_at "rd"
          have hl25 := n2.2.2.2.2
          have l1 := cut_len (us := us) (lo := none) (hi := some at')
          have l2 := cut_len (us := us) (lo := some (at' + 1)) (hi := none)
          refine .inl ⟨us, .inl (.inl h3), fun p1 hp1 => .inl ⟨us, .inl (.inl ((same_new hp1) _ _ h3)), fun p2 hp2 => .inl ⟨_, (same_new hp2) _ _ upd_same, _, upd_same, by omega, fun p3 hp3 => ⟨cutV us none (some at') ++ cutV us (some (at' + 1)) none, ?_⟩⟩⟩⟩
          have sx := (n2.1.trans (same_new hp1)).trans (same_new (o := .lst (cutV us (some (at' + 1)) none)) hp2)
          exact ⟨sx.trans (same_new hp3), same_none sx hp3, upd_same, all_app (fun v h => n2.2.2.2.1 v (cut_mem h)) (fun v h => n2.2.2.2.1 v (cut_mem h)), by rw [List.length_append]; omega⟩
        · rintro _ H4 ⟨F, us', rfl, n4⟩
          exact ⟨F, us', rfl, n4, fun h => by omega⟩
      · obtain ⟨rfl, _⟩ := h
        exact ⟨F, us, rfl, ⟨n2.1, n2.2.1, n2.2.2.1, n2.2.2.2.1, by have := n2.2.2.2.2; omega⟩, fun h => hlt (by omega)⟩
    rintro σ H3 ⟨F, us, rfl, n3, hlt⟩
    refine q_stm (fun σ H' => ∃ us, σ = [some (.ref a), some (.int c), some (.ref p), some (.ref F), x4, x5, x6, x7, x8, x9, some (.int way), some (.int at')] ∧ NmL H F 399 us 50 H' ∧ ((way = 2 ∨ way = 3) → at' < max 1 (us.length : Int))) ?_ ?_
    · refine l_if (fun b H' => Same H3 H' ∧ (b = true → way = 2 ∧ us ≠ [])) ?_ (fun H4 h => ?_) (fun H4 h => ?_)
      · have h3 := n3.2.2.1
        walk_at "rd"
        refine ite2 (fun hw2 p hp => ?_) fun _ h => h.elim
        have sp := same_new (o := .lst []) hp
        exact ne_nil (.inl (.inl (sp _ _ h3))) (.inl (.inl upd_same)) ⟨_, rfl, sp, fun h => ⟨hw2, by simpa using h⟩⟩
      · obtain ⟨s4, hw0⟩ := h
        obtain ⟨hw2, hne⟩ := hw0 rfl
        have h4 := s4 _ _ n3.2.2.1
        have hs4 := same_l (n3.1.trans s4) hs
        walk_at "rd"
        obtain ⟨j, hj, hj2, l, ej, l1, l2, l3⟩ := at_name hne hat.1 (hlt (.inl hw2)) n3.2.2.2.1
        refine ⟨us, .inl (.inl (.inl h4)), _, ej, ⟨by decide, by decide⟩, ws, .inl hs4, _, ex, ?_⟩
        show (S l).length + (S [cx]).length ≤ 16777216 ∧ _
        rw [S_cat, S_len, S_len]
        refine ⟨by rw [List.length_singleton]; omega, ?_⟩
        subst hj
        refine ⟨us, h4, j, ix_nat hj2, us.set j (.str (S (l ++ [cx]))), ⟨same_mut (n3.1.trans s4) n3.2.1, n3.2.1, upd_same, fun u hu => ?_, by rw [List.length_set]; exact n3.2.2.2.2⟩, fun h => by rw [List.length_set]; exact hlt h⟩
        rcases List.mem_or_eq_of_mem_set hu with h | rfl
        · exact (n3.2.2.2.1 u h).up (by decide)
        · refine ⟨l ++ [cx], rfl, by simp, ?_, fun d hd => (List.mem_append.mp hd).elim (l3 d) fun e => by rw [List.mem_singleton.mp e]; exact hcx⟩
          rw [List.length_append, List.length_singleton]
          omega
      · obtain ⟨s4, _⟩ := h
        exact ⟨us, rfl, ⟨n3.1.trans s4, n3.2.1, s4 _ _ n3.2.2.1, fun u hu => (n3.2.2.2.1 u hu).up (by decide), n3.2.2.2.2⟩, hlt⟩
    rintro σ H4 ⟨us, rfl, n4, hlt⟩
    refine q_stm (fun σ H' => ∃ us, σ = [some (.ref a), some (.int c), some (.ref p), some (.ref F), x4, x5, x6, x7, x8, x9, some (.int way), some (.int at')] ∧ NmL H F 400 us 50 H') ?_ ?_
    · refine l_if (fun b H' => Same H4 H' ∧ (b = true → way = 3 ∧ us ≠ [])) ?_ (fun H5 h => ?_) (fun H5 h => ?_)
      · have h3 := n4.2.2.1
        walk_at "rd"
        refine ite2 (fun hw2 p hp => ?_) fun _ h => h.elim
        have sp := same_new (o := .lst []) hp
        exact ne_nil (.inl (.inl (sp _ _ h3))) (.inl (.inl upd_same)) ⟨_, rfl, sp, fun h => ⟨hw2, by simpa using h⟩⟩
      · obtain ⟨s5, hw0⟩ := h
        obtain ⟨hw3, hne⟩ := hw0 rfl
        have h4 := s5 _ _ n4.2.2.1
        have hs5 := same_l (n4.1.trans s5) hs
        walk_at "rd"
        obtain ⟨j, hj, hj2, l, ej, l1, l2, l3⟩ := at_name hne hat.1 (hlt (.inr hw3)) n4.2.2.2.1
        refine ⟨⟨by decide, by decide⟩, ws, .inl hs5, _, ex, us, .inl (.inl (.inl h4)), _, ej, by rw [S_len]; omega, ?_⟩
        obtain ⟨m, em, lm, hm⟩ := cutS_sub l (some 1) none
        rw [em]
        show (S [cx]).length + (S m).length ≤ 16777216 ∧ _
        rw [S_cat, S_len, S_len]
        refine ⟨by rw [List.length_singleton]; omega, ?_⟩
        subst hj
        refine ⟨us, h4, j, ix_nat hj2, us.set j (.str (S ([cx] ++ m))), ⟨same_mut (n4.1.trans s5) n4.2.1, n4.2.1, upd_same, fun u hu => ?_, by rw [List.length_set]; exact n4.2.2.2.2⟩⟩
        rcases List.mem_or_eq_of_mem_set hu with h | rfl
        · exact (n4.2.2.2.1 u h).up (by decide)
        · refine ⟨[cx] ++ m, rfl, by simp, ?_, fun d hd => (List.mem_append.mp hd).elim (fun e => by rw [List.mem_singleton.mp e]; exact hcx) fun h => l3 d (hm d h)⟩
          rw [List.length_append, List.length_singleton]
          omega
      · obtain ⟨s5, _⟩ := h
        exact ⟨us, rfl, n4.1.trans s5, n4.2.1, s5 _ _ n4.2.2.1, fun u hu => (n4.2.2.2.1 u hu).up (by decide), n4.2.2.2.2⟩
    rintro σ H5 ⟨us, rfl, n5⟩
    have h5 := n5.2.2.1
    have hs5 := same_l n5.1 hs
    walk_at "rd"
    have hl50 := n5.2.2.2.2
    refine ⟨_, .inl ⟨us, .inl (.inl h5), rfl⟩, ite2 (fun h => ?_) fun h => ?_⟩
    · exact q F us H5 (fun e => by rw [e] at h; simp at h) n5.2.2.2.1 hl50 n5.1 h5
    · exact ⟨⟨by decide, by decide⟩, ws, .inl hs5, _, ex, fun p1 hp1 => q p1 [.str (S [cx])] _ (by simp) (fun u hu => by rw [List.mem_singleton.mp hu]; exact nm_one hcx) (by simp) (n5.1.trans (same_new hp1)) upd_same⟩

/-! ### the law's own fitting of a name, from its end on -/
/-- p of each end of a list -/
def ends {β : Type} (p : List β → Bool) : List β → List Bool
  | [] => [p []]
  | c :: w => p (c :: w) :: ends p w
def fitB : List PF → List Nat → Bool
  | [], w => w.isEmpty
  | f :: fs, w => if f.many = true then (ends (fitB fs) w).any id else match w with
    | [] => false
    | c :: v => f.fits c && fitB fs v
theorem ends_any {β : Type} {p : List β → Bool} : ∀ {w : List β}, (ends p w).any id = true ↔ ∃ u v, w = u ++ v ∧ p v = true
  | [] => by
    constructor
    · intro h
      exact ⟨[], [], rfl, by simpa [ends] using h⟩
    · rintro ⟨u, v, e, h⟩
      obtain ⟨_, rfl⟩ := List.append_eq_nil_iff.mp e.symm
      simpa [ends] using h
  | c :: w => by
    have ih := ends_any (p := p) (w := w)
    show (p (c :: w) || (ends p w).any id) = true ↔ _
    rw [Bool.or_eq_true, ih]
    constructor
    · rintro (h | ⟨u, v, rfl, h⟩)
      · exact ⟨[], c :: w, rfl, h⟩
      · exact ⟨c :: u, v, rfl, h⟩
    · rintro ⟨u, v, e, h⟩
      cases u with
      | nil => exact .inl (by rw [e]; exact h)
      | cons d u =>
        injection e with e1 e2
        exact .inr ⟨u, v, e2, h⟩
theorem fitB_star {f : PF} {fs : List PF} {w : List Nat} (h : f.many = true) : fitB (f :: fs) w = (ends (fitB fs) w).any id := by
  show (if f.many = true then _ else _) = _
  rw [if_pos h]
theorem fitB_cons {f : PF} {fs : List PF} {c : Nat} {v : List Nat} (h : f.many = false) : fitB (f :: fs) (c :: v) = (f.fits c && fitB fs v) := by
  show (if f.many = true then _ else _) = _
  rw [if_neg (by rw [h]; exact Bool.false_ne_true)]
theorem fitB_nil {f : PF} {fs : List PF} (h : f.many = false) : fitB (f :: fs) [] = false := by
  show (if f.many = true then _ else _) = _
  rw [if_neg (by rw [h]; exact Bool.false_ne_true)]
theorem fitB_iff : ∀ {fs : List PF} {w : List Nat}, fitB fs w = true ↔ Fit fs w
  | [], w => by
    show w.isEmpty = true ↔ w = []
    exact List.isEmpty_iff
  | f :: fs, w => by
    cases h : f.many with
    | true =>
      rw [fit_star h, fitB_star h, ends_any]
      exact exists_congr fun u => exists_congr fun v => and_congr_right fun _ => fitB_iff
    | false =>
      rw [fit_one h]
      cases w with
      | nil =>
        rw [fitB_nil h]
        exact ⟨fun h => absurd h Bool.false_ne_true, fun ⟨_, _, e, _⟩ => nomatch e⟩
      | cons c v =>
        rw [fitB_cons h, Bool.and_eq_true, fitB_iff]
        constructor
        · rintro ⟨h1, h2⟩
          exact ⟨c, v, rfl, h1, h2⟩
        · rintro ⟨c', v', e, h1, h2⟩
          injection e with e1 e2
          subst e1 e2
          exact ⟨h1, h2⟩
theorem ends_len {β : Type} {p : List β → Bool} : ∀ {w : List β}, (ends p w).length = w.length + 1
  | [] => rfl
  | c :: w => congrArg (· + 1) (ends_len (w := w))
theorem ends_at {β : Type} {p : List β → Bool} : ∀ {w : List β} {j : Nat}, j ≤ w.length → (ends p w)[j]? = some (p (w.drop j))
  | [], 0, _ => rfl
  | c :: w, 0, _ => rfl
  | [], j + 1, h => absurd h (by simp)
  | c :: w, j + 1, h => ends_at (w := w) (Nat.le_of_succ_le_succ h)
theorem ends_nil : ∀ {w : List Nat}, ends (fitB []) w = List.replicate w.length false ++ [true]
  | [] => rfl
  | c :: w => by
    show false :: ends (fitB []) w = false :: (List.replicate w.length false ++ [true])
    rw [ends_nil]
theorem atI0 {α : Type} {xs : List α} {v : α} (h : xs[0]? = some v) : atI xs 0 = some v := by
  show atI xs ((0 : Nat) : Int) = some v
  exact atI_nat h
theorem atI_succ {α : Type} {xs : List α} {v : α} {j : Nat} (h : xs[j + 1]? = some v) : atI xs ((j : Int) + 1) = some v := by
  show atI xs ((j + 1 : Nat) : Int) = some v
  exact atI_nat h
def bls (l : List Bool) : List V := l.map V.bl
theorem bls_at {l : List Bool} {j : Nat} {b : Bool} (h : l[j]? = some b) : (bls l)[j]? = some (.bl b) := by
  unfold bls
  rw [List.getElem?_map, h]
  rfl
/-! ### things laid along a row of other things -/
section
variable {α β : Type} {m : α → Bool} {ft : α → β → Bool}
/-- the parts laid along the name -/
def FitG (m : α → Bool) (ft : α → β → Bool) : List α → List β → Prop
  | [], w => w = []
  | f :: fs, w => if m f = true then ∃ u v, w = u ++ v ∧ FitG m ft fs v else ∃ c v, w = c :: v ∧ ft f c = true ∧ FitG m ft fs v
theorem fitG_star {f : α} {fs : List α} {w : List β} (h : m f = true) : FitG m ft (f :: fs) w ↔ ∃ u v, w = u ++ v ∧ FitG m ft fs v := by
  show (if m f = true then _ else _) ↔ _
  rw [if_pos h]
theorem fitG_one {f : α} {fs : List α} {w : List β} (h : m f = false) : FitG m ft (f :: fs) w ↔ ∃ c v, w = c :: v ∧ ft f c = true ∧ FitG m ft fs v := by
  show (if m f = true then _ else _) ↔ _
  rw [if_neg (by rw [h]; exact Bool.false_ne_true)]
theorem fitG_app : ∀ (fs gs : List α) (w : List β), FitG m ft (fs ++ gs) w ↔ ∃ u v, w = u ++ v ∧ FitG m ft fs u ∧ FitG m ft gs v
  | [], gs, w => ⟨fun h => ⟨[], w, rfl, rfl, h⟩, fun ⟨u, v, e, h1, h2⟩ => by
    cases (show u = [] from h1)
    rw [e]
    exact h2⟩
  | f :: fs, gs, w => by
    rw [List.cons_append]
    cases h : m f with
    | true =>
      rw [fitG_star h]
      constructor
      · rintro ⟨u, v, rfl, hv⟩
        obtain ⟨a, b, rfl, ha, hb⟩ := (fitG_app fs gs v).mp hv
        exact ⟨u ++ a, b, by rw [List.append_assoc], (fitG_star h).mpr ⟨u, a, rfl, ha⟩, hb⟩
      · rintro ⟨a, b, rfl, ha, hb⟩
        obtain ⟨u, v, rfl, hv⟩ := (fitG_star h).mp ha
        exact ⟨u, v ++ b, by rw [List.append_assoc], (fitG_app fs gs _).mpr ⟨v, b, rfl, hv, hb⟩⟩
    | false =>
      rw [fitG_one h]
      constructor
      · rintro ⟨c, v, rfl, hc, hv⟩
        obtain ⟨a, b, rfl, ha, hb⟩ := (fitG_app fs gs v).mp hv
        exact ⟨c :: a, b, rfl, (fitG_one h).mpr ⟨c, a, rfl, hc, ha⟩, hb⟩
      · rintro ⟨a, b, rfl, ha, hb⟩
        obtain ⟨c, v, rfl, hc, hv⟩ := (fitG_one h).mp ha
        exact ⟨c, v ++ b, rfl, hc, (fitG_app fs gs _).mpr ⟨v, b, rfl, hv, hb⟩⟩
def starG (m : α → Bool) (fs : List α) (j : Nat) : Bool := match fs[j]? with
  | some f => m f
  | none => false
theorem starG_lt {fs : List α} {j : Nat} (h : starG m fs j = true) : j < fs.length := by
  unfold starG at h
  rcases Nat.lt_or_ge j fs.length with e | e
  · exact e
  · rw [List.getElem?_eq_none e] at h
    cases h
theorem starG_eq {fs : List α} {j : Nat} {f : α} (h : fs[j]? = some f) : starG m fs j = m f := by
  unfold starG
  rw [h]
theorem takeG_succ {fs : List α} {j : Nat} {f : α} (h : fs[j]? = some f) : fs.take (j + 1) = fs.take j ++ [f] := by
  rw [List.take_succ, h]
  rfl
theorem fitG_take_star {fs : List α} {j : Nat} {w : List β} (h : starG m fs j = true) : FitG m ft (fs.take (j + 1)) w ↔ ∃ u v, w = u ++ v ∧ FitG m ft (fs.take j) u := by
  have hl := starG_lt h
  have hf : fs[j]? = some fs[j] := List.getElem?_eq_getElem hl
  rw [starG_eq hf] at h
  rw [takeG_succ hf, fitG_app]
  constructor
  · rintro ⟨u, v, e, h1, _⟩
    exact ⟨u, v, e, h1⟩
  · rintro ⟨u, v, e, h1⟩
    exact ⟨u, v, e, h1, (fitG_star h).mpr ⟨v, [], by rw [List.append_nil], rfl⟩⟩
theorem fitG_take_one {fs : List α} {j : Nat} {w : List β} {f : α} (hf : fs[j]? = some f) (h : m f = false) : FitG m ft (fs.take (j + 1)) w ↔ ∃ u c, w = u ++ [c] ∧ FitG m ft (fs.take j) u ∧ ft f c = true := by
  rw [takeG_succ hf, fitG_app]
  constructor
  · rintro ⟨u, v, rfl, h1, h2⟩
    obtain ⟨c, v', rfl, hc, hv⟩ := (fitG_one h).mp h2
    cases (show v' = [] from hv)
    exact ⟨u, c, rfl, h1, hc⟩
  · rintro ⟨u, c, rfl, h1, hc⟩
    exact ⟨u, [c], rfl, h1, (fitG_one h).mpr ⟨c, [], rfl, hc, rfl⟩⟩
/-- from s on by stars alone -/
def ClosG (m : α → Bool) (fs : List α) (s i : Nat) : Prop := s ≤ i ∧ ∀ k, s ≤ k → k < i → starG m fs k = true
theorem ClosG.refl {fs : List α} {s : Nat} : ClosG m fs s s := ⟨Nat.le_refl _, fun k a b => absurd b (by omega)⟩
theorem ClosG.trans {fs : List α} {a b c : Nat} (h : ClosG m fs a b) (g : ClosG m fs b c) : ClosG m fs a c := ⟨Nat.le_trans h.1 g.1, fun k h1 h2 => by
  rcases Nat.lt_or_ge k b with e | e
  · exact h.2 k h1 e
  · exact g.2 k e h2⟩
theorem ClosG.snoc {fs : List α} {a b : Nat} (h : ClosG m fs a b) (g : starG m fs b = true) : ClosG m fs a (b + 1) := h.trans ⟨Nat.le_succ _, fun k h1 h2 => by
  have e : k = b := by omega
  rw [e]
  exact g⟩
theorem ClosG.le {fs : List α} {s i n : Nat} (h : ClosG m fs s i) (hs : s ≤ fs.length) : i ≤ fs.length := by
  rcases Nat.eq_or_lt_of_le h.1 with e | e
  · omega
  · have := starG_lt (h.2 (i - 1) (by omega) (by omega))
    omega
/-- spot i behind the signs w -/
def AtG (m : α → Bool) (ft : α → β → Bool) (fs : List α) (w : List β) (i : Nat) : Prop := i ≤ fs.length ∧ (FitG m ft (fs.take i) w ∨ starG m fs i = true ∧ FitG m ft (fs.take (i + 1)) w)
theorem fitG_more {fs : List α} {i : Nat} {w : List β} (h : starG m fs i = true) (g : FitG m ft (fs.take i) w) : FitG m ft (fs.take (i + 1)) w := (fitG_take_star h).mpr ⟨w, [], by rw [List.append_nil], g⟩
theorem atG_clos {fs : List α} {w : List β} {s : Nat} (hs : s ≤ fs.length) (h : FitG m ft (fs.take s) w) : ∀ i, ClosG m fs s i → FitG m ft (fs.take i) w := by
  intro i hc
  obtain ⟨h1, h2⟩ := hc
  induction i with
  | zero =>
    have e : s = 0 := by omega
    rw [← e]
    exact h
  | succ i ih =>
    rcases Nat.eq_or_lt_of_le h1 with e | e
    · rw [← e]; exact h
    · exact fitG_more (h2 i (by omega) (by omega)) (ih (by omega) fun k a b => h2 k a (by omega))
theorem atG_nil {fs : List α} {i : Nat} : AtG m ft fs [] i ↔ ClosG m fs 0 i := by
  have key : ∀ j, FitG m ft (fs.take j) [] → j ≤ fs.length → ClosG m fs 0 j := by
    intro j
    induction j with
    | zero => exact fun _ _ => ClosG.refl
    | succ j ih =>
      intro h hl
      have hf : fs[j]? = some fs[j] := List.getElem?_eq_getElem hl
      cases hm : m fs[j] with
      | true =>
        have hst : starG m fs j = true := by rw [starG_eq hf]; exact hm
        obtain ⟨u, v, e, hu⟩ := (fitG_take_star hst).mp h
        have e2 := List.append_eq_nil_iff.mp e.symm
        rw [e2.1] at hu
        exact (ih hu (by omega)).snoc hst
      | false =>
        obtain ⟨u, c, e, _⟩ := (fitG_take_one hf hm).mp h
        exact absurd e.symm (by simp)
  constructor
  · rintro ⟨hl, h | ⟨hs, h⟩⟩
    · exact key i h hl
    · have hlt := starG_lt hs
      have := key (i + 1) h (by omega)
      exact ⟨Nat.zero_le _, fun k a b => this.2 k a (by omega)⟩
  · intro h
    exact ⟨h.le (n := 0) (Nat.zero_le _), .inl (atG_clos (Nat.zero_le _) (by simp [FitG]) i h)⟩
/-- one sign on -/
theorem atG_snoc {fs : List α} {w : List β} {c : β} {i : Nat} (hmf : ∀ f c, m f = true → ft f c = true) : AtG m ft fs (w ++ [c]) i ↔ ∃ s f, AtG m ft fs w s ∧ fs[s]? = some f ∧ ft f c = true ∧ ClosG m fs (if m f = true then s else s + 1) i := by
  have key : ∀ j, j ≤ fs.length → FitG m ft (fs.take j) (w ++ [c]) → ∃ s f, AtG m ft fs w s ∧ fs[s]? = some f ∧ ft f c = true ∧ ClosG m fs (if m f = true then s else s + 1) j := by
    intro j
    induction j with
    | zero => exact fun _ h => absurd (show w ++ [c] = [] from by simpa [FitG] using h) (by simp)
    | succ j ih =>
      intro hl h
      have hf : fs[j]? = some fs[j] := List.getElem?_eq_getElem hl
      cases hm : m fs[j] with
      | true =>
        have hst : starG m fs j = true := by rw [starG_eq hf]; exact hm
        obtain ⟨u, v, e, hu⟩ := (fitG_take_star hst).mp h
        rcases List.eq_nil_or_concat v with rfl | ⟨v', d, rfl⟩
        · rw [List.append_nil] at e
          rw [← e] at hu
          obtain ⟨s, f, a1, a2, a3, a4⟩ := ih (by omega) hu
          exact ⟨s, f, a1, a2, a3, a4.snoc hst⟩
        · rw [List.concat_eq_append, ← List.append_assoc] at e
          obtain ⟨e1, e2⟩ := List.append_inj' e rfl
          refine ⟨j, fs[j], ⟨by omega, .inr ⟨hst, (fitG_take_star hst).mpr ⟨u, v', e1, hu⟩⟩⟩, hf, ?_, ?_⟩
          · exact hmf _ _ hm
          · rw [if_pos hm]
            exact ClosG.refl.snoc hst
      | false =>
        obtain ⟨u, d, e, hu, hd⟩ := (fitG_take_one hf hm).mp h
        obtain ⟨e1, e2⟩ := List.append_inj' e rfl
        injection e2 with e3
        subst e1 e3
        exact ⟨j, fs[j], ⟨by omega, .inl hu⟩, hf, hd, by rw [if_neg (by rw [hm]; exact Bool.false_ne_true)]; exact ClosG.refl⟩
  constructor
  · rintro ⟨hl, h | ⟨hs, h⟩⟩
    · exact key i hl h
    · have hlt := starG_lt hs
      obtain ⟨u, v, e, hu⟩ := (fitG_take_star hs).mp h
      have hf : fs[i]? = some fs[i] := List.getElem?_eq_getElem hlt
      have hm : m fs[i] = true := by rw [← starG_eq (m := m) hf]; exact hs
      rcases List.eq_nil_or_concat v with rfl | ⟨v', d, rfl⟩
      · rw [List.append_nil] at e
        rw [← e] at hu
        exact key i hl hu
      · rw [List.concat_eq_append, ← List.append_assoc] at e
        obtain ⟨e1, e2⟩ := List.append_inj' e rfl
        refine ⟨i, fs[i], ⟨hl, .inr ⟨hs, (fitG_take_star hs).mpr ⟨u, v', e1, hu⟩⟩⟩, hf, ?_, ?_⟩
        · exact hmf _ _ hm
        · rw [if_pos hm]
          exact ClosG.refl
  · rintro ⟨s, f, ⟨hl, ha⟩, hf, hc, hcl⟩
    have hlt : s < fs.length := (List.getElem?_eq_some_iff.mp hf).1
    cases hm : m f with
    | true =>
      rw [if_pos hm] at hcl
      have hst : starG m fs s = true := by rw [starG_eq hf]; exact hm
      have h1 : FitG m ft (fs.take (s + 1)) (w ++ [c]) := by
        rcases ha with h | ⟨_, h⟩
        · exact (fitG_take_star hst).mpr ⟨w, [c], rfl, h⟩
        · obtain ⟨u, v, rfl, hu⟩ := (fitG_take_star hst).mp h
          exact (fitG_take_star hst).mpr ⟨u, v ++ [c], by rw [List.append_assoc], hu⟩
      rcases Nat.eq_or_lt_of_le hcl.1 with e | e
      · rw [← e]
        exact ⟨hl, .inr ⟨hst, h1⟩⟩
      · have h2 := atG_clos hlt h1 i ⟨e, fun k a b => hcl.2 k (by omega) b⟩
        exact ⟨hcl.le (n := 0) hl, .inl h2⟩
    | false =>
      rw [if_neg (by rw [hm]; exact Bool.false_ne_true)] at hcl
      have h0 : FitG m ft (fs.take s) w := by
        rcases ha with h | ⟨h, _⟩
        · exact h
        · rw [starG_eq hf, hm] at h
          cases h
      have h1 : FitG m ft (fs.take (s + 1)) (w ++ [c]) := (fitG_take_one hf hm).mpr ⟨w, c, rfl, h0, hc⟩
      exact ⟨hcl.le (n := 0) hlt, .inl (atG_clos hlt h1 i hcl)⟩
theorem atG_end {fs : List α} {w : List β} : AtG m ft fs w fs.length ↔ FitG m ft fs w := by
  unfold AtG
  rw [List.take_length]
  constructor
  · rintro ⟨_, h | ⟨h, _⟩⟩
    · exact h
    · exact absurd (starG_lt h) (Nat.lt_irrefl _)
  · exact fun h => ⟨Nat.le_refl _, .inl h⟩
def fitGB (m : α → Bool) (ft : α → β → Bool) : List α → List β → Bool
  | [], w => w.isEmpty
  | f :: fs, w => if m f = true then (ends (fitGB m ft fs) w).any id else match w with
    | [] => false
    | c :: v => ft f c && fitGB m ft fs v
theorem fitGB_star {f : α} {fs : List α} {w : List β} (h : m f = true) : fitGB m ft (f :: fs) w = (ends (fitGB m ft fs) w).any id := by
  show (if m f = true then _ else _) = _
  rw [if_pos h]
theorem fitGB_cons {f : α} {fs : List α} {c : β} {v : List β} (h : m f = false) : fitGB m ft (f :: fs) (c :: v) = (ft f c && fitGB m ft fs v) := by
  show (if m f = true then _ else _) = _
  rw [if_neg (by rw [h]; exact Bool.false_ne_true)]
theorem fitGB_nil {f : α} {fs : List α} (h : m f = false) : fitGB m ft (f :: fs) [] = false := by
  show (if m f = true then _ else _) = _
  rw [if_neg (by rw [h]; exact Bool.false_ne_true)]
theorem fitGB_iff : ∀ {fs : List α} {w : List β}, fitGB m ft fs w = true ↔ FitG m ft fs w
  | [], w => by
    show w.isEmpty = true ↔ w = []
    exact List.isEmpty_iff
  | f :: fs, w => by
    cases h : m f with
    | true =>
      rw [fitG_star h, fitGB_star h, ends_any]
      exact exists_congr fun u => exists_congr fun v => and_congr_right fun _ => fitGB_iff
    | false =>
      rw [fitG_one h]
      cases w with
      | nil =>
        rw [fitGB_nil h]
        exact ⟨fun h => absurd h Bool.false_ne_true, fun ⟨_, _, e, _⟩ => nomatch e⟩
      | cons c v =>
        rw [fitGB_cons h, Bool.and_eq_true, fitGB_iff]
        constructor
        · rintro ⟨h1, h2⟩
          exact ⟨c, v, rfl, h1, h2⟩
        · rintro ⟨c', v', e, h1, h2⟩
          injection e with e1 e2
          subst e1 e2
          exact ⟨h1, h2⟩
theorem endsG_nil : ∀ {w : List β}, ends (fitGB m ft []) w = List.replicate w.length false ++ [true]
  | [] => rfl
  | c :: w => by
    show false :: ends (fitGB m ft []) w = false :: (List.replicate w.length false ++ [true])
    rw [endsG_nil]
end
/-- from where on something good comes -/
def behind : List Bool → List Bool
  | [] => []
  | b :: r => (b || r.any id) :: behind r
theorem behind_ends {β : Type} {p : List β → Bool} : ∀ {w : List β}, behind (ends p w) = ends (fun v => (ends p v).any id) w
  | [] => by simp [behind, ends]
  | c :: w => by
    show (p (c :: w) || (ends p w).any id) :: behind (ends p w) = _
    rw [behind_ends]
    rfl
theorem behind_len : ∀ {l : List Bool}, (behind l).length = l.length
  | [] => rfl
  | _ :: r => congrArg (· + 1) (behind_len (l := r))
theorem ends_last {β : Type} {p : List β → Bool} : ∀ {w : List β}, ends p w = (ends p w).take w.length ++ [p []]
  | [] => rfl
  | c :: w => by
    show p (c :: w) :: ends p w = p (c :: w) :: ((ends p w).take w.length ++ [p []])
    rw [← ends_last]

/-! ### places -/
def spWith (K : PySem.W.Frag) : Sp := fun vs H Q _ => ∃ t sl us fs ss, vs = [.ref t, .ref sl] ∧ SqT K H t us ∧ Each (StepV K) fs us H ∧ SqL K H sl (intsV ss) ∧ (∀ s ∈ ss, s ≤ fs.length) ∧ fs.length ≤ 1000 ∧
  ∀ p l H', H p = none → Same H H' → H' p = some (.lst (intsV l)) → l.Nodup → (∀ i, i ∈ l ↔ ∃ s ∈ ss, ClosG SF.deepB fs s i) → Q (.ref p) H'
theorem ok_with_deeps (T : Txt K mg) : OkD P w K mg base 2 (fA K "with_deeps") ["steps", "places"] [] (spWith K) := by
  refine okD T.F_with_deeps sc_with_deeps (fun _ _ _ _ _ _ us hl => match us, hl with | [_, _], _ => rfl) ?_ ?_
  · rintro vs H Q E ⟨t, sl, us, fs, ss, rfl, _⟩
    rfl
  · rintro cdv A outer s H vs Q E hr ⟨t, sl, us, fs, ss, rfl, ht, hp, hs, hle, hn, q⟩
    refine ⟨_, (pss_cons (ps_set (i := 2) sc_with_deeps.nd rfl (Or.inl rfl) (pe_lst pa_nil))
  (pss_cons (ps_mid (ps_for (passes_of rfl) rfl (pi_mid (o_it (K := K) rfl (pv 1))) (pg_name (i := 3) sc_with_deeps.nd rfl (Or.inl rfl)) (pss_one (ps_while (passes_of rfl) (pt_mid (pt_cmpR (o_notin (K := K) (hu65 hr)) (pv 3) (pv 2) (by rfl))) (pss_cons (ps_expr (pe_bmK (K := K) PySem.F.plainAttrs_list PySem.F.slot_list_append PySem.F.type_list_append mt_append (pv 2) (pa_cons (pe_mid (pv 3)) pa_nil)))
  (pss_one (ps_if (pt_mid (PW.pt (pw_and (pt_cmpR o_lt (pv 3) (pe_callB (o_lenW (K := K) (w := w)) (by rfl) T.fr_len boot_len (pa_cons (pv 0) pa_nil)) (nomark _)) (pw_and1 (pt_tru (K := K) (pe_metI0 (md_deep T) (pe_ix (o_ix (K := K)) (pv 0) (pv 3) (fun _ _ => rfl)) (hr.mono (by decide)) (pasE (takes_of rfl rfl rfl rfl) (fun _ _ _ _ h => h))) (by intro _; rfl)))))) (pss_one (ps_aug (i := 3) sc_with_deeps.nd rfl (Or.inl rfl) pe_int o_iadd)) pss_nil)))))))
  (pss_one (ps_ret (pv 2))))), ?_⟩
    have tobj := T.obj
    refine q_new fun F hF => ?_
    have sF : Same H (upd H F (.lst [])) := same_new hF
    refine q_stm (fun σ H' => ∃ l x, σ = [some (.ref t), some (.ref sl), some (.ref F), x] ∧ Same H H' ∧ H' F = some (.lst (intsV l)) ∧ l.Nodup ∧ ∀ i, i ∈ l ↔ ∃ s ∈ ss, ClosG SF.deepB fs s i) ?_ ?_
    · refine for_mid (J0 := Itl K sl) (H0 := upd H F (.lst [])) ?_ (walk_list (K := K) (a := sl) (xs := intsV ss))
        (fun k σ H' => ∃ l x, σ = [some (.ref t), some (.ref sl), some (.ref F), x] ∧ Same H H' ∧ H' F = some (.lst (intsV l)) ∧ l.Nodup ∧ ∀ i, i ∈ l ↔ ∃ s ∈ ss.take k, ClosG SF.deepB fs s i)
        ⟨[], none, rfl, sF, upd_same, .nil, fun i => by simp⟩ (fun k σ H' _ h => ?_) ?_ (fun σ H' h => ?_)
      · walk_at "rd"
        exact .inl ⟨_, same_l sF hs⟩
      · obtain ⟨l, x, _, sm, _⟩ := h
        exact same_l sm hs
      · rintro k x σ H1 H1' hk ⟨l, x0, rfl, sm, hl, nd, mem⟩ ⟨rfl, hx⟩
        obtain ⟨s0, hs0, rfl⟩ : ∃ s0, ss[k]? = some s0 ∧ x = .int (s0 : Int) := by
          unfold intsV at hx
          rw [List.getElem?_map] at hx
          cases e : ss[k]? with
          | none => rw [e] at hx; cases hx
          | some s0 => rw [e] at hx; exact ⟨s0, rfl, (Option.some.inj hx).symm⟩
        have hs0l : s0 ≤ fs.length := hle s0 (List.mem_of_getElem? hs0)
        have clU : ∀ i, i ∈ l → ∀ i', ClosG SF.deepB fs i i' → i' ∈ l := fun i hi i' hc => by
          obtain ⟨s', h1, h2⟩ := (mem i).mp hi
          exact (mem i').mpr ⟨s', h1, h2.trans hc⟩
        have leU : ∀ i, i ∈ l → i ≤ fs.length := fun i hi => by
          obtain ⟨s', h1, h2⟩ := (mem i).mp hi
          exact h2.le (n := 0) (hle s' (List.mem_of_mem_take h1))
        have tk : ss.take (k + 1) = ss.take k ++ [s0] := by rw [List.take_succ, hs0]; rfl
        have memk : ∀ i, (∃ s ∈ ss.take (k + 1), ClosG SF.deepB fs s i) ↔ (i ∈ l ∨ ClosG SF.deepB fs s0 i) := fun i => by
          rw [tk]
          constructor
          · rintro ⟨s', h1, h2⟩
            rcases List.mem_append.mp h1 with h | h
            · exact .inl ((mem i).mpr ⟨s', h, h2⟩)
            · rw [List.mem_singleton.mp h] at h2
              exact .inr h2
          · rintro (h | h)
            · obtain ⟨s', h1, h2⟩ := (mem i).mp h
              exact ⟨s', List.mem_append_left _ h1, h2⟩
            · exact ⟨s0, List.mem_append_right _ List.mem_cons_self, h⟩
        refine while_mid (fun m σ H' => ∃ l' j, σ = [some (.ref t), some (.ref sl), some (.ref F), some (.int (j : Nat))] ∧ Same H H' ∧ H' F = some (.lst (intsV l')) ∧ l'.Nodup ∧ ClosG SF.deepB fs s0 j ∧ j ≤ fs.length ∧
          ((m = 2 * (fs.length + 1 - j) + 1 ∧ ∀ i, i ∈ l' ↔ i ∈ l ∨ (s0 ≤ i ∧ i < j)) ∨ (m = 2 * (fs.length + 1 - j) ∧ starG SF.deepB fs j = false ∧ ∀ i, i ∈ l' ↔ i ∈ l ∨ (s0 ≤ i ∧ i ≤ j)))) _
          ⟨l, s0, rfl, sm, hl, nd, ClosG.refl, hs0l, .inl ⟨rfl, fun i => ⟨.inl, fun h => h.elim id fun h => absurd h (by omega)⟩⟩⟩ ?_
        rintro m σ H2 ⟨l', j, rfl, sm2, hl2, nd2, cl, hj, hab⟩
        refine ⟨fun b H' => H' = H2 ∧ b = !decide (j ∈ l'), ?_, ?_, ?_⟩
        · walk_at "rd"
          exact ⟨_, .inl (.inl (.inl hl2)), flat_ints l', by rw [inV_ints]⟩
        · rintro H3 ⟨rfl, hb⟩
          have hj' : j ∉ l' := by simpa using hb
          have hm : m = 2 * (fs.length + 1 - j) + 1 ∧ ∀ i, i ∈ l' ↔ i ∈ l ∨ (s0 ≤ i ∧ i < j) := by
            rcases hab with h | ⟨_, _, h⟩
            · exact h
            · exact absurd ((h j).mpr (.inr ⟨cl.1, Nat.le_refl _⟩)) hj'
          have le' : l'.length ≤ 1001 := by
            have h := nat_nodup_len l' (List.range (fs.length + 1)) nd2 fun i hi => List.mem_range.mpr (by
              rcases (hm.2 i).mp hi with h | h
              · have := leU i h; omega
              · omega)
            rw [List.length_range] at h
            omega
          refine q_appV rfl rfl hl2 (by unfold intsV; rw [List.length_map]; omega) ?_
          have ev : intsV l' ++ [V.int (j : Int)] = intsV (l' ++ [j]) := by unfold intsV; rw [List.map_append]; rfl
          rw [ev]
          have sm4 : Same H (upd H3 F (.lst (intsV (l' ++ [j])))) := same_mut sm2 hF
          have nd4 : (l' ++ [j]).Nodup := by
            rw [List.nodup_append]
            exact ⟨nd2, List.nodup_cons.mpr ⟨List.not_mem_nil, .nil⟩, fun a ha b hb => by rw [List.mem_singleton.mp hb]; exact fun e => hj' (e ▸ ha)⟩
          have mem4 : ∀ i, i ∈ l' ++ [j] ↔ i ∈ l ∨ (s0 ≤ i ∧ i ≤ j) := fun i => by
            rw [List.mem_append, hm.2, List.mem_singleton]
            have := cl.1
            constructor
            · rintro ((h | h) | h)
              · exact .inl h
              · exact .inr ⟨h.1, by omega⟩
              · exact .inr ⟨by omega, by omega⟩
            · rintro (h | h)
              · exact .inl (.inl h)
              · rcases Nat.lt_or_ge i j with e | e
                · exact .inl (.inr ⟨h.1, e⟩)
                · exact .inr (by omega)
          refine l_if (fun b H' => H' = upd H3 F (.lst (intsV (l' ++ [j]))) ∧ b = starG SF.deepB fs j) ?_ ?_ ?_
          · have ht4 := same_t sm4 ht
            have hp4 := hp.mono sm4
            walk_at "rd"
            refine .inr ⟨_, .inr ⟨us, ht4, rfl⟩, ?_⟩
            rw [hp4.1]
            refine ite2 (fun hlt => ?_) fun hge => ?_
            · have hlt' : j < fs.length := Int.ofNat_lt.mp hlt
              obtain ⟨u, hu, pu⟩ := hp4.2 j fs[j] (List.getElem?_eq_getElem hlt')
              refine ⟨us, .inr ht4, u, atI_nat hu, fs[j], pu, u, rfl, pu, ?_⟩
              rw [starG_eq (List.getElem?_eq_getElem hlt')]
              exact ⟨_, rfl, rfl, rfl⟩
            · have e : starG SF.deepB fs j = false := by
                cases hq : starG SF.deepB fs j with
                | false => rfl
                | true => exact absurd (Int.ofNat_lt.mpr (starG_lt hq)) hge
              rw [e]
          · rintro H4 ⟨rfl, hb⟩
            have hst : starG SF.deepB fs j = true := hb.symm
            have hlt := starG_lt hst
            walk_at "rd"
            refine ⟨_, ?_, l' ++ [j], j + 1, rfl, sm4, upd_same, nd4, cl.snoc hst, hlt, .inl ⟨rfl, fun i => by rw [mem4]; exact ⟨fun h => h.imp id fun h => ⟨h.1, by omega⟩, fun h => h.imp id fun h => ⟨h.1, by omega⟩⟩⟩⟩
            omega
          · rintro H4 ⟨rfl, hb⟩
            refine ⟨_, ?_, l' ++ [j], j, rfl, sm4, upd_same, nd4, cl, hj, .inr ⟨rfl, hb.symm, mem4⟩⟩
            omega
        · rintro H3 ⟨rfl, hb⟩
          have hj' : j ∈ l' := by simpa using hb
          refine ⟨l', _, rfl, sm2, hl2, nd2, fun i => ?_⟩
          rw [memk]
          rcases hab with ⟨_, h⟩ | ⟨_, hst, h⟩
          · rw [h]
            have hjl : j ∈ l := ((h j).mp hj').elim id fun h => absurd h.2 (Nat.lt_irrefl _)
            constructor
            · rintro (h1 | h1)
              · exact .inl h1
              · exact .inr ⟨h1.1, fun k a b => cl.2 k a (by omega)⟩
            · rintro (h1 | h1)
              · exact .inl h1
              · rcases Nat.lt_or_ge i j with e | e
                · exact .inr ⟨h1.1, e⟩
                · exact .inl (clU j hjl i ⟨e, fun k a b => h1.2 k (by have := cl.1; omega) b⟩)
          · rw [h]
            constructor
            · rintro (h1 | h1)
              · exact .inl h1
              · exact .inr ⟨h1.1, fun k a b => cl.2 k a (by omega)⟩
            · rintro (h1 | h1)
              · exact .inl h1
              · refine .inr ⟨h1.1, ?_⟩
                rcases Nat.lt_or_ge j i with e | e
                · have := h1.2 j cl.1 e
                  rw [hst] at this
                  cases this
                · exact e
      · obtain ⟨l, x, e, sm, hl, nd, mem⟩ := h
        refine ⟨l, x, e, sm, hl, nd, ?_⟩
        rw [List.take_of_length_le (by unfold intsV; rw [List.length_map]; exact Nat.le_refl _)] at mem
        exact mem
    · rintro σ H1 ⟨l, x, rfl, sm, hl, nd, mem⟩
      walk_at "rd"
      exact q F l H1 hF sm hl nd mem
/-! ### a row fits names -/
def SF.fitB (s : SF) (nm : List Nat) : Bool := match s with
  | .deep => true
  | .seg fs => SL.fitB fs nm
theorem SF.fits_iff {s : SF} {nm : List Nat} : s.fitB nm = true ↔ s.fits nm := by
  cases s with
  | deep => exact ⟨fun _ => trivial, fun _ => rfl⟩
  | seg fs => exact SL.fitB_iff
theorem SF.deep_fits (s : SF) (nm : List Nat) (h : s.deepB = true) : s.fitB nm = true := by
  cases s with
  | deep => rfl
  | seg fs => cases h
abbrev RFit (ss : List SF) (nms : List (List Nat)) : Prop := FitG SF.deepB SF.fitB ss nms
def nmsV (nms : List (List Nat)) : List V := (nms.map S).map V.str
theorem nms_at {nms : List (List Nat)} {k : Nat} {x : V} (h : (nmsV nms)[k]? = some x) : ∃ nm, nms[k]? = some nm ∧ x = .str (S nm) := by
  unfold nmsV at h
  rw [List.getElem?_map, List.getElem?_map] at h
  cases e : nms[k]? with
  | none => rw [e] at h; cases h
  | some nm => rw [e] at h; exact ⟨nm, rfl, (Option.some.inj h).symm⟩
theorem nms_len {nms : List (List Nat)} : (nmsV nms).length = nms.length := by unfold nmsV; rw [List.length_map, List.length_map]
structure RowSz (r : RF) : Prop where
  len : r.steps.length ≤ 1000
  parts : ∀ fs, SF.seg fs ∈ r.steps → fs.length ≤ 1000
def spFitsR (K : PySem.W.Frag) : Sp := fun vs H Q _ => ∃ v n fo r nms, vs = [v, .ref n, .bl fo] ∧ RowV K r v H ∧ RowSz r ∧ SqL K H n (nmsV nms) ∧
  ∀ b H', Same H H' → (b = true ↔ (r.folders = true → fo = true) ∧ RFit r.steps nms) → Q (.bl b) H'
theorem ok_fits (T : Txt K mg) : OkD P w K mg base 4 (fA K "fits") ["row", "names", "folder"] [] (spFitsR K) := by
  refine okD T.F_fits sc_fits (fun _ _ _ _ _ _ us hl => match us, hl with | [_, _, _], _ => rfl) ?_ ?_
  · rintro vs H Q E ⟨v, n, fo, r, nms, rfl, _⟩
    rfl
  · rintro cdv A outer s H vs Q E hr ⟨v, n, fo, r, nms, rfl, ⟨p, dx, t, us, rfl, ho, ht, hp, hne⟩, sz, hnm, q⟩
    have hn := sz.len
    refine ⟨_, (pss_cons (ps_if (pt_mid (PW.pt (pw_and (pt_tru (K := K) (pe_fldK (K := K) (pv 0) rfl) (by intro _; rfl)) (pw_and1 (pt_not (pt_tru (K := K) (pv 2) (by intro _; rfl))))))) (pss_one (ps_ret pe_bl)) pss_nil)
  (pss_cons (ps_set (i := 3) sc_fits.nd rfl (Or.inl rfl) (pe_mid (pe_cal (ok_with_deeps T) (hr.mono (by decide)) rfl T.g_with_deeps (pasE (takes_of rfl rfl rfl rfl) (fun _ _ _ _ h => h)) (pa_cons (pe_fldK (K := K) (pv 0) rfl) (pa_cons (pe_lst (pa_cons pe_int pa_nil)) pa_nil)))))
  (pss_cons (ps_mid (ps_for (passes_of rfl) rfl (pi_mid (o_it (K := K) rfl (pv 1))) (pg_name (i := 4) sc_fits.nd rfl (Or.inl rfl)) (pss_cons (ps_set (i := 5) sc_fits.nd rfl (Or.inl rfl) (pe_lst pa_nil))
  (pss_cons (ps_mid (ps_for (passes_of rfl) rfl (pi_mid (o_it (K := K) rfl (pv 3))) (pg_name (i := 6) sc_fits.nd rfl (Or.inl rfl)) (pss_one (ps_if (pt_mid (PW.pt (pw_and (pt_cmpR o_lt (pv 6) (pe_callB (o_lenW (K := K) (w := w)) (by rfl) T.fr_len boot_len (pa_cons (pe_fldK (K := K) (pv 0) rfl) pa_nil)) (nomark _)) (pw_and1 (pt_tru (K := K) (pe_metI (md_fits_name T) (pe_ix (o_ix (K := K)) (pe_fldK (K := K) (pv 0) rfl) (pv 6) (fun _ _ => rfl)) (hr.mono (by decide)) (pasE (takes_of rfl rfl rfl rfl) (fun _ _ _ _ h => h)) (pa_cons (pv 4) pa_nil)) (by intro _; rfl)))))) (pss_one (ps_expr (pe_bmK (K := K) PySem.F.plainAttrs_list PySem.F.slot_list_append PySem.F.type_list_append mt_append (pv 5) (pa_cons (pe_mid (pe_ifExp (pt_tru (K := K) (pe_metI0 (md_deep T) (pe_ix (o_ix (K := K)) (pe_fldK (K := K) (pv 0) rfl) (pv 6) (fun _ _ => rfl)) (hr.mono (by decide)) (pasE (takes_of rfl rfl rfl rfl) (fun _ _ _ _ h => h))) (by intro _; rfl)) (pv 6) (pe_op (o_add (K := K)) (pv 6) pe_int))) pa_nil)))) pss_nil))))
  (pss_one (ps_set (i := 3) sc_fits.nd rfl (Or.inl rfl) (pe_mid (pe_cal (ok_with_deeps T) (hr.mono (by decide)) rfl T.g_with_deeps (pasE (takes_of rfl rfl rfl rfl) (fun _ _ _ _ h => h)) (pa_cons (pe_fldK (K := K) (pv 0) rfl) (pa_cons (pv 5) pa_nil))))))))))
  (pss_one (ps_ret (pe_cmpR (o_in (K := K) (hu65 hr)) (pe_callB (o_lenW (K := K) (w := w)) (by rfl) T.fr_len boot_len (pa_cons (pe_fldK (K := K) (pv 0) rfl) pa_nil)) (pv 3) (by rfl))))))), ?_⟩
    have tobj := T.obj
    refine q_if (fun b H' => H' = H ∧ b = (r.folders && !fo)) ?_ (fun H1 h => ?_) (fun H1 h => ?_)
    · walk_at "rdh"
      cases r.folders <;> simp
    · obtain ⟨rfl, hb⟩ := h
      rw [eq_comm, Bool.and_eq_true] at hb
      walk_at "rd"
      refine q false H1 (Same.refl _) ⟨fun h => (nomatch h), fun h => ?_⟩
      have h2 := h.1 hb.1
      rw [h2] at hb
      exact nomatch hb.2
    obtain ⟨rfl, hb⟩ := h
    have hfo : r.folders = true → fo = true := fun h => by
      rw [h] at hb
      cases fo with
      | true => rfl
      | false => cases hb
    clear hb
    refine q_midG (fun v H' => ∃ sp l, v = .ref sp ∧ Same H1 H' ∧ H' sp = some (.lst (intsV l)) ∧ l.Nodup ∧ ∀ i, i ∈ l ↔ AtG SF.deepB SF.fitB r.steps ([] : List (List Nat)) i) ?_ ?_
    · walk_at "rdh"
      intro n' hn0
      have sn := same_new (o := .lst [.int 0]) hn0
      refine ⟨t, n', us, r.steps, [0], rfl, .inl (.inl (sn _ _ ht)), hp.mono sn, .inl (.inl upd_same), fun s hs => by rw [List.mem_singleton.mp hs]; exact Nat.zero_le _, hn, fun sp l H' hs0 s2 hl nd mem => ⟨sp, rfl, sn.trans s2, l, hl, nd, fun i => ?_⟩⟩
      rw [mem, atG_nil]
      simp
    · rintro _ H2 ⟨sp, l, rfl, s1, hl, nd, mem⟩
      refine q_stm (fun σ H' => ∃ sp l x y z, σ = [some (.ref p), some (.ref n), some (.bl fo), some (.ref sp), x, y, z] ∧ Same H1 H' ∧ H' sp = some (.lst (intsV l)) ∧ l.Nodup ∧ ∀ i, i ∈ l ↔ AtG SF.deepB SF.fitB r.steps nms i) ?_ ?_
      · refine for_mid (J0 := Itl K n) (H0 := H2) ?_ (walk_list (K := K) (a := n) (xs := nmsV nms))
          (fun k σ H' => ∃ sp l x y z, σ = [some (.ref p), some (.ref n), some (.bl fo), some (.ref sp), x, y, z] ∧ Same H1 H' ∧ H' sp = some (.lst (intsV l)) ∧ l.Nodup ∧ ∀ i, i ∈ l ↔ AtG SF.deepB SF.fitB r.steps (nms.take k) i)
          ⟨sp, l, none, none, none, rfl, s1, hl, nd, mem⟩ (fun _ _ _ _ ⟨_, _, _, _, _, _, s2, _⟩ => same_l s2 hnm) ?_ (fun σ H' h => ?_)
        · walk_at "rd"
          exact .inl ⟨_, same_l s1 hnm⟩
        · rintro k x σ H2 H2' hk ⟨sp, l, x0, y0, z0, rfl, s2, hl, nd, mem⟩ ⟨rfl, hx⟩
          obtain ⟨nm, hc', rfl⟩ := nms_at hx
          have tk : nms.take (k + 1) = nms.take k ++ [nm] := by rw [List.take_succ, hc']; rfl
          have lel : l.length ≤ 1001 := by
            have h := nat_nodup_len l (List.range (r.steps.length + 1)) nd fun i hi => List.mem_range.mpr (by have := ((mem i).mp hi).1; omega)
            rw [List.length_range] at h
            omega
          refine q_new fun F hF => ?_
          have hFH : H1 F = none := by
            cases e : H1 F with
            | none => rfl
            | some o => rw [s2 _ _ e] at hF; cases hF
          have sF := same_new (o := .lst []) hF
          refine q_stm (fun σ H' => ∃ m x, σ = [some (.ref p), some (.ref n), some (.bl fo), some (.ref sp), some (.str (S nm)), some (.ref F), x] ∧ Same H2' H' ∧ H' F = some (.lst (intsV m)) ∧ m.length ≤ 1001 ∧ ∀ i, i ∈ m ↔ ∃ s ∈ l, ∃ f, r.steps[s]? = some f ∧ f.fitB nm = true ∧ i = (if f.deepB = true then s else s + 1)) ?_ ?_
          · refine for_mid (J0 := Itl K sp) (H0 := upd H2' F (.lst [])) ?_ (walk_list (K := K) (a := sp) (xs := intsV l))
              (fun j σ H' => ∃ m x, σ = [some (.ref p), some (.ref n), some (.bl fo), some (.ref sp), some (.str (S nm)), some (.ref F), x] ∧ Same H2' H' ∧ H' F = some (.lst (intsV m)) ∧ m.length ≤ j ∧ ∀ i, i ∈ m ↔ ∃ s ∈ l.take j, ∃ f, r.steps[s]? = some f ∧ f.fitB nm = true ∧ i = (if f.deepB = true then s else s + 1))
              ⟨[], _, rfl, sF, upd_same, Nat.le_refl _, fun i => by simp⟩ (fun j σ H' _ ⟨_, _, _, s3, _⟩ => .inl (.inl (s3 _ _ hl))) ?_ (fun σ H' h => ?_)
            · walk_at "rd"
              exact .inl ⟨_, .inl (.inl (sF _ _ hl))⟩
            · rintro j x σ H3 H3' hj ⟨m, x1, rfl, s3, hm, lm, memm⟩ ⟨rfl, hx⟩
              obtain ⟨s0, hs0, rfl⟩ : ∃ s0, l[j]? = some s0 ∧ x = .int (s0 : Int) := by
                unfold intsV at hx
                rw [List.getElem?_map] at hx
                cases e : l[j]? with
                | none => rw [e] at hx; cases hx
                | some s0 => rw [e] at hx; exact ⟨s0, rfl, (Option.some.inj hx).symm⟩
              have tj : l.take (j + 1) = l.take j ++ [s0] := by rw [List.take_succ, hs0]; rfl
              have s13 : Same H1 H3' := s2.trans s3
              have ho3 := s13 _ _ ho
              have ht3 := s13 _ _ ht
              have hp3 := hp.mono s13
              refine l_if (fun b H' => Same H3' H' ∧ (b = true ↔ ∃ f, r.steps[s0]? = some f ∧ f.fitB nm = true)) ?_ ?_ ?_
              · walk_at "rdh"
                refine .inr ⟨_, .inr ⟨us, .inl (.inl ht3), rfl⟩, ?_⟩
                rw [hp3.1]
                refine ite2 (fun hlt => ?_) fun hge => ?_
                · have hlt' : s0 < r.steps.length := Int.ofNat_lt.mp hlt
                  obtain ⟨u, hu, pu⟩ := hp3.2 s0 r.steps[s0] (List.getElem?_eq_getElem hlt')
                  refine ⟨us, .inr (.inl (.inl ht3)), u, atI_nat hu, r.steps[s0], pu, u, nm, rfl, pu, fun gs e => sz.parts gs (e ▸ List.getElem_mem hlt'), fun b H' s h => ?_⟩
                  exact ⟨_, rfl, s, fun hb => ⟨r.steps[s0], List.getElem?_eq_getElem hlt', SF.fits_iff.mpr (h.mp hb)⟩, fun ⟨f, h1, h2⟩ => by
                    rw [List.getElem?_eq_getElem hlt'] at h1
                    rw [← Option.some.inj h1] at h2
                    exact h.mpr (SF.fits_iff.mp h2)⟩
                · exact ⟨fun h => h.elim, fun ⟨f, h1, _⟩ => absurd (Int.ofNat_lt.mpr (List.getElem?_eq_some_iff.mp h1).1) hge⟩
              · rintro H4 ⟨s34, hb⟩
                obtain ⟨f, hf, hfc⟩ := hb.mp rfl
                have hp4 := hp3.mono s34
                have ho4 := s34 _ _ ho3
                have ht4 := s34 _ _ ht3
                have hm4 := s34 _ _ hm
                obtain ⟨u, hu, pu⟩ := hp4.2 s0 f hf
                refine l_app rfl hm4 ?_
                walk_at "rdh"
                refine ⟨us, .inr (.inl (.inl ht4)), u, atI_nat hu, f, pu, u, rfl, pu, ?_⟩
                have memn : ∀ i, i ∈ m ++ [if f.deepB = true then s0 else s0 + 1] ↔ ∃ s ∈ l.take (j + 1), ∃ f, r.steps[s]? = some f ∧ f.fitB nm = true ∧ i = (if f.deepB = true then s else s + 1) := fun i => by
                  rw [List.mem_append, memm, tj, List.mem_singleton]
                  constructor
                  · rintro (⟨a, h1, h2⟩ | h)
                    · exact ⟨a, List.mem_append_left _ h1, h2⟩
                    · exact ⟨s0, List.mem_append_right _ List.mem_cons_self, f, hf, hfc, h⟩
                  · rintro ⟨a, h1, f', h2, h3, h4⟩
                    rcases List.mem_append.mp h1 with h | h
                    · exact .inl ⟨a, h, f', h2, h3, h4⟩
                    · have ea := List.mem_singleton.mp h
                      subst ea
                      rw [hf] at h2
                      cases h2
                      exact .inr h4
                refine ⟨_, rfl, ?_⟩
                have hlm : (intsV m).length < 16777216 := by
                  have hj2 : j < l.length := by unfold intsV at hj; rwa [List.length_map] at hj
                  unfold intsV; rw [List.length_map]; omega
                have ev : ∀ i : Nat, intsV m ++ [V.int (i : Int)] = intsV (m ++ [i]) := fun i => by unfold intsV; rw [List.map_append]; rfl
                cases hdb : f.deepB with
                | true =>
                  rw [if_pos rfl]
                  rw [hdb, if_pos rfl] at memn
                  refine ⟨intsV m, hm4, hlm, same_mut (s3.trans s34) hF, m ++ [s0], by rw [ev], by rw [List.length_append, List.length_singleton]; omega, fun i => by have h := memn i; rwa [tj] at h⟩
                | false =>
                  rw [if_neg Bool.false_ne_true]
                  rw [hdb, if_neg Bool.false_ne_true] at memn
                  refine ⟨intsV m, hm4, hlm, same_mut (s3.trans s34) hF, m ++ [s0 + 1], by rw [← ev]; rfl, by rw [List.length_append, List.length_singleton]; omega, fun i => by have h := memn i; rwa [tj] at h⟩
              · rintro H4 ⟨s34, hb⟩
                refine ⟨m, _, rfl, s3.trans s34, s34 _ _ hm, by omega, fun i => ?_⟩
                rw [memm, tj]
                constructor
                · rintro ⟨a, h1, h2⟩
                  exact ⟨a, List.mem_append_left _ h1, h2⟩
                · rintro ⟨a, h1, f, h2, h3, h4⟩
                  rcases List.mem_append.mp h1 with h | h
                  · exact ⟨a, h, f, h2, h3, h4⟩
                  · rw [List.mem_singleton.mp h] at h2
                    exact absurd (hb.mpr ⟨f, h2, h3⟩) Bool.false_ne_true
            · obtain ⟨m, x, e, s3, hm, lm, memm⟩ := h
              have hl2 : (intsV l).length = l.length := by unfold intsV; rw [List.length_map]
              rw [List.take_of_length_le (by rw [hl2]; exact Nat.le_refl _)] at memm
              exact ⟨m, x, e, s3, hm, by omega, memm⟩
          · rintro σ H3 ⟨m, x, rfl, s3, hm, lm, memm⟩
            have s13 : Same H1 H3 := s2.trans s3
            have ho3 := s13 _ _ ho
            have ht3 := s13 _ _ ht
            refine l_midG (fun v H' => ∃ sp l, v = .ref sp ∧ Same H3 H' ∧ H' sp = some (.lst (intsV l)) ∧ l.Nodup ∧ ∀ i, i ∈ l ↔ AtG SF.deepB SF.fitB r.steps (nms.take (k + 1)) i) ?_ ?_
            · rw [tk]
              walk_at "rdh"
              refine ⟨t, F, us, r.steps, m, rfl, .inl (.inl ht3), hp.mono s13, .inl (.inl hm), fun i hi => ?_, hn, fun sp' l' H' _ s4 hl' nd' mem' => ⟨sp', rfl, s4, l', hl', nd', fun i => ?_⟩⟩
              · obtain ⟨a, _, f, h2, _, h4⟩ := (memm i).mp hi
                have := (List.getElem?_eq_some_iff.mp h2).1
                split at h4 <;> omega
              · rw [mem', atG_snoc SF.deep_fits]
                constructor
                · rintro ⟨a, ha, hcl⟩
                  obtain ⟨b, hb, f, h2, h3, h4⟩ := (memm a).mp ha
                  rw [h4] at hcl
                  exact ⟨b, f, (mem b).mp hb, h2, h3, hcl⟩
                · rintro ⟨b, f, hb, h2, h3, hcl⟩
                  exact ⟨_, (memm _).mpr ⟨b, (mem b).mpr hb, f, h2, h3, rfl⟩, hcl⟩
            · rintro _ H4 ⟨sp', l', rfl, s4, hl', nd', mem'⟩
              exact ⟨sp', l', _, _, _, rfl, (s13.trans s4), hl', nd', mem'⟩
        · obtain ⟨sp, l, x, y, z, e, s1, hl, nd, mem⟩ := h
          rw [List.take_of_length_le (by rw [nms_len]; exact Nat.le_refl _)] at mem
          exact ⟨sp, l, x, y, z, e, s1, hl, nd, mem⟩
      · rintro σ H2 ⟨sp, l, x, y, z, rfl, s2, hl, nd, mem⟩
        have ho2 := s2 _ _ ho
        have ht2 := s2 _ _ ht
        walk_at "rdh"
        refine .inr ⟨_, .inr ⟨us, .inl (.inl ht2), rfl⟩, _, .inl (.inl (.inl hl)), flat_ints l, ?_⟩
        rw [hp.1, inV_ints]
        refine q _ H2 s2 ?_
        rw [decide_eq_true_eq, mem, atG_end]
        exact ⟨fun h => ⟨hfo, h⟩, fun h => h.2⟩

/-! ### the law's own fitting of a name -/
/-! ### names that parts fit, or nearly fit -/
/-! ### the law's own fitting -/
def spGood (K : PySem.W.Frag) : Sp := fun vs H Q _ => ∃ g B, vs = [.ref g] ∧ SqL K H g (bls B) ∧ B.length ≤ 2000 ∧ ∀ p H', Same H H' → H' p = some (.lst (bls (behind B))) → Q (.ref p) H'
theorem ok__law_good_behind (T : Txt K mg) : OkD P w K mg base 1 (fA K "_law_good_behind") ["_law_good"] [] (spGood K) := by
  refine okD T.F__law_good_behind sc__law_good_behind (fun _ _ _ _ _ _ us hl => match us, hl with | [_], _ => rfl) ?_ ?_
  · rintro vs H Q E ⟨g, B, rfl, _⟩
    rfl
  · rintro cdv A outer s H vs Q E hr ⟨g, B, rfl, hg, hB, q⟩
    refine ⟨_, (pss_cons (ps_set (i := 1) sc__law_good_behind.nd rfl (Or.inl rfl) (pe_lst pa_nil))
  (pss_cons (ps_set (i := 2) sc__law_good_behind.nd rfl (Or.inl rfl) (pe_mid pe_bl))
  (pss_cons (ps_mid (ps_for (passes_of rfl) rfl (pi_mid (o_it (K := K) rfl (pe_rev (K := K) (pv 0)))) (pg_name (i := 3) sc__law_good_behind.nd rfl (Or.inl rfl)) (pss_cons (ps_set (i := 2) sc__law_good_behind.nd rfl (Or.inl rfl) (pe_mid (pe_orK (K := K) (pv 2) (pe_one (pv 3)))))
  (pss_one (ps_expr (pe_bmK (K := K) PySem.F.plainAttrs_list PySem.F.slot_list_insert PySem.F.type_list_insert mo_insert (pv 1) (pa_cons pe_int (pa_cons (pv 2) pa_nil))))))))
  (pss_one (ps_ret (pv 1)))))), ?_⟩
    have tobj := T.obj
    refine q_new fun F hF => ?_
    have sF := same_new (o := .lst []) hF
    refine q_midG (fun v H' => v = .bl false ∧ H' = upd H F (.lst [])) (by walk_at "rd") ?_
    rintro _ _ ⟨rfl, rfl⟩
    refine q_stm (fun σ H' => ∃ y z, σ = [some (.ref g), some (.ref F), y, z] ∧ Same H H' ∧ H' F = some (.lst (bls (behind B)))) ?_ ?_
    · refine for_open (fun J H' => ∃ r, J = Itl K r ∧ Same (upd H F (.lst [])) H' ∧ H' r = some (.lst (bls B).reverse) ∧ r ≠ F) ?_ ?_
      · walk_at "rd"
        exact .inr ⟨_, same_l sF hg, fun p hp => .inl ⟨⟨_, .inl (.inl upd_same)⟩, p, rfl, same_new hp, upd_same, fun e => by rw [e, upd_same] at hp; cases hp⟩⟩
      rintro _ H2 ⟨r, rfl, s2, hr2, hrF⟩
      have lb : (bls B).length = B.length := by unfold bls; rw [List.length_map]
      refine for_mid (J0 := Itl K r) (H0 := H2) ⟨rfl, rfl⟩ (walk_list (K := K) (a := r) (xs := (bls B).reverse)) (fun k σ H' => ∃ z, σ = [some (.ref g), some (.ref F), some (.bl ((B.drop (B.length - k)).any id)), z] ∧ Same H H' ∧ H' r = some (.lst (bls B).reverse) ∧ H' F = some (.lst (bls (behind (B.drop (B.length - k))))))
        ⟨none, by simp; rfl, sF.trans s2, hr2, by have e := s2 _ _ (upd_same (H := H) (a := F)); simpa [bls, behind] using e⟩ (fun k σ H' _ ⟨_, _, _, h, _⟩ => .inl (.inl h)) ?_ ?_
      · rintro k x σ H3 H3' hk ⟨z, rfl, s3, hr3, hF3⟩ ⟨rfl, hx⟩
        have hk' : k < B.length := by rw [List.length_reverse, lb] at hk; exact hk
        have hxb : x = .bl (B[B.length - 1 - k]'(by omega)) := by
          rw [List.getElem?_reverse (by rw [lb]; exact hk'), lb] at hx
          unfold bls at hx
          rw [List.getElem?_map, List.getElem?_eq_getElem (by omega)] at hx
          exact (Option.some.inj hx).symm
        subst hxb
        have dk : B.drop (B.length - (k + 1)) = B[B.length - 1 - k]'(by omega) :: B.drop (B.length - k) := by
          have e1 : B.length - (k + 1) = B.length - 1 - k := by omega
          have e2 : B.length - k = B.length - 1 - k + 1 := by omega
          rw [e1, e2]
          exact List.drop_eq_getElem_cons (by omega)
        generalize B[B.length - 1 - k]'(by omega) = b at dk
        refine q_midG (fun v H' => v = .bl ((B.drop (B.length - (k + 1))).any id) ∧ H' = H3') ?_ ?_
        · walk_at "rd"
          rw [dk, List.any_cons]
          cases (B.drop (B.length - k)).any id <;> simp
        rintro _ _ ⟨rfl, rfl⟩
        walk_at "rd"
        refine ⟨⟨_, .inl (.inl hF3)⟩, _, hF3, ?_, by decide, same_mut s3 hF, ?_, ?_⟩
        · unfold bls
          rw [List.length_map, behind_len, List.length_drop]
          omega
        · rw [upd_ne hrF]; exact hr3
        · rw [upd_same, dk]
          rfl
      · rintro σ H3 ⟨z, rfl, s3, hr3, hF3⟩
        rw [List.length_reverse, lb, Nat.sub_self, List.drop_zero] at hF3
        exact ⟨_, _, rfl, s3, hF3⟩
    · rintro σ H3 ⟨y, z, rfl, s3, hF3⟩
      walk_at "rd"
      exact q F H3 s3 hF3
def spSignF (K : PySem.W.Frag) : Sp := fun vs H Q _ => ∃ v f c, vs = [v, .str (S [c])] ∧ Dp K H v (PF.d f) ∧ f.many = false ∧ Q (.bl (f.fits c)) H
theorem ok__law_sign_fits (T : Txt K mg) : OkD P w K mg base 1 (fA K "_law_sign_fits") ["_law_part_here", "_law_sign"] [] (spSignF K) := by
  refine okD T.F__law_sign_fits sc__law_sign_fits (fun _ _ _ _ _ _ us hl => match us, hl with | [_, _], _ => rfl) ?_ ?_
  · rintro vs H Q E ⟨v, f, c, rfl, _⟩
    rfl
  · rintro cdv A outer s H vs Q E hr ⟨v, f, c, rfl, hd, hm, q⟩
    refine ⟨_, (pss_cons (ps_if (pt_mid (pt_cmpR (o_eq (K := K) (hu64 hr)) (pe_ix (o_ix (K := K)) (pv 0) pe_int (fun _ _ => rfl)) pe_str (nomark _))) (pss_one (ps_ret (pe_cmpR (o_eq (K := K) (hu64 hr)) (pe_ix (o_ix (K := K)) (pv 0) pe_int (fun _ _ => rfl)) (pv 1) (nomark _)))) pss_nil)
  (pss_one (ps_ret (pe_orK (K := K) (pe_cmpR (o_eq (K := K) (hu64 hr)) (pe_ix (o_ix (K := K)) (pv 0) pe_int (fun _ _ => rfl)) pe_str (nomark _)) (pe_one (pe_cmpR (o_ne (K := K) (hu64 hr)) (pe_cmpR (o_in (K := K) (hu65 hr)) (pv 1) (pe_ix (o_ix (K := K)) (pv 0) pe_int (fun _ _ => rfl)) (by rfl)) (pe_ix (o_ix (K := K)) (pv 0) pe_int (fun _ _ => rfl)) (nomark _))))))), ?_⟩
    have tobj := T.obj
    obtain ⟨va, rfl, hv⟩ := PF.inv hd
    cases f with
    | stars => cases hm
    | one d =>
      refine q_if (fun b H1 => b = true ∧ H1 = H) (by walk_at "rdx") (fun H1 h => ?_) (fun H1 h => nomatch h.1)
      obtain ⟨_, rfl⟩ := h
      walk_at "rdx"
      have e : decide (S [d] = S [c]) = decide (c = d) := decide_eq_decide.mpr ⟨fun h => (S1_inj h).symm, fun h => by rw [h]⟩
      rw [e]
      exact q
    | any =>
      refine q_if (fun b H1 => b = false ∧ H1 = H) (by walk_at "rdx") (fun H1 h => nomatch h.1) (fun H1 h => ?_)
      obtain ⟨_, rfl⟩ := h
      walk_at "rdx"
      exact q
    | among l o =>
      refine q_if (fun b H1 => b = false ∧ H1 = H) (by walk_at "rdx") (fun H1 h => nomatch h.1) (fun H1 h => ?_)
      obtain ⟨_, rfl⟩ := h
      walk_at "rdx"
      refine .inl ⟨c, rfl, _, .inr hv, _, rfl, ?_⟩
      walk_at "rd"
      rw [b_ne]
      exact q
def spNameF (K : PySem.W.Frag) : Sp := fun vs H Q _ => ∃ t us nm, ∃ fs : List PF, vs = [.ref t, .str (S nm)] ∧ SqT K H t us ∧ Each (fun f u H => Dp K H u (PF.d f)) fs us H ∧ fs.length ≤ 1000 ∧ nm.length ≤ 1000 ∧ ∀ H', Same H H' → Q (.bl (fitB fs nm)) H'
theorem ok__law_name_fits (T : Txt K mg) : OkD P w K mg base 2 (fA K "_law_name_fits") ["_law_parts", "_law_name"] [] (spNameF K) := by
  refine okD T.F__law_name_fits sc__law_name_fits (fun _ _ _ _ _ _ us hl => match us, hl with | [_, _], _ => rfl) ?_ ?_
  · rintro vs H Q E ⟨t, us, nm, fs, rfl, _⟩
    rfl
  · rintro cdv A outer s H vs Q E hr ⟨t, us, nm, fs, rfl, ht, each, hn, hm, q⟩
    refine ⟨_, (pss_cons (ps_set (i := 2) sc__law_name_fits.nd rfl (Or.inr rfl) (pe_mid (pe_op (o_add (K := K)) (pe_op o_mul (pe_lst (pa_cons pe_bl pa_nil)) (pe_callB (o_lenW (K := K) (w := w)) (by rfl) T.fr_len boot_len (pa_cons (pv 1) pa_nil))) (pe_lst (pa_cons pe_bl pa_nil)))))
  (pss_cons (ps_mid (ps_for (passes_of rfl) rfl (pi_mid (o_it (K := K) rfl (pe_rev (K := K) (pv 0)))) (pg_name (i := 3) sc__law_name_fits.nd rfl (Or.inr rfl)) (pss_one (ps_if (pt_mid (pt_cmpR (o_eq (K := K) (hu64 hr)) (pe_ix (o_ix (K := K)) (pv 3) pe_int (fun _ _ => rfl)) pe_str (nomark _))) (pss_one (ps_set (i := 2) sc__law_name_fits.nd rfl (Or.inr rfl) (pe_mid (pe_cal (ok__law_good_behind T) (hr.mono (by decide)) rfl T.g__law_good_behind (pasE (takes_of rfl rfl rfl rfl) (fun _ _ _ _ h => h)) (pa_cons (pv 2) pa_nil))))) (pss_one (ps_set (i := 2) sc__law_name_fits.nd rfl (Or.inr rfl) (pe_mid (pe_op (o_add (K := K)) (pe_lc (own := [("_law_j", 4), ("_law_sign", 5)]) (g := (gTup K 2 (gCons (gName 4) (gCons (gName 5) gNil)))) (tt := tYes) rfl sc__law_name_fits.nd (pi_mid (o_enum (K := K) rfl T.fr_enumerate (pv 1))) (blkOk_by (N := N__law_name_fits) (sc := defScope TX.s__law_name_fits) (by decide +kernel)) (fun _ _ _ _ _ => (pg_tup rfl (pgs_cons (pg_name (i := 4) sc__law_name_fits.nd rfl (Or.inl rfl)) (pgs_cons (pg_name (i := 5) sc__law_name_fits.nd rfl (Or.inl rfl)) pgs_nil)))) (fun _ _ _ _ _ => pts_nil) (fun _ _ _ _ _ => (pe_mid (pe_andK (K := K) (pe_cal (ok__law_sign_fits T) (hr.mono (by decide)) rfl T.g__law_sign_fits pasN (pa_cons (pv 3) (pa_cons (pv 5) pa_nil))) (pe_one (pe_ix (o_ix (K := K)) (pv 2) (pe_op (o_add (K := K)) (pv 4) pe_int) (fun _ _ => rfl))))))) (pe_lst (pa_cons pe_bl pa_nil))))))))))
  (pss_one (ps_ret (pe_ix (o_ix (K := K)) (pv 2) pe_int (fun _ _ => rfl)))))), ?_⟩
    have tobj := T.obj
    refine q_midG (fun v H' => ∃ g, v = .ref g ∧ Same H H' ∧ H' g = some (.lst (bls (ends (fitB []) nm)))) ?_ ?_
    · walk_at "rd"
      rw [S_len]
      intro p hp
      have s1 := same_new (o := .lst [V.bl false]) hp
      refine ⟨by omega, _, upd_same, by omega, by omega, by rw [List.length_singleton]; omega, fun p1 hp1 p2 hp2 => .inl ⟨_, (same_new hp2) _ _ upd_same, _, upd_same, ?_, fun p3 hp3 => ⟨((s1.trans (same_new hp1)).trans (same_new hp2)).trans (same_new hp3), ?_⟩⟩⟩
      · rw [List.flatten_replicate_singleton, List.length_replicate]
        simp
        omega
      · rw [upd_same, ends_nil, List.flatten_replicate_singleton]
        unfold bls
        rw [List.map_append, List.map_replicate]
        rfl
    rintro _ H1 ⟨g, rfl, s1, hg⟩
    refine q_stm (fun σ H' => ∃ g y z w, σ = [some (.ref t), some (.str (S nm)), some (.ref g), y, z, w] ∧ Same H H' ∧ H' g = some (.lst (bls (ends (fitB fs) nm)))) ?_ ?_
    · refine for_open (fun J H' => ∃ r, J = Itt K r ∧ Same H1 H' ∧ SqT K H' r us.reverse) ?_ ?_
      · walk_at "rd"
        exact .inl ⟨us, same_t s1 ht, fun p hp => .inr ⟨⟨_, .inl (.inl upd_same)⟩, p, rfl, same_new hp, .inl (.inl upd_same)⟩⟩
      rintro _ H2 ⟨r, rfl, s2, hr2⟩
      have lr : us.reverse.length = fs.reverse.length := by rw [List.length_reverse, List.length_reverse, each.1]
      refine for_mid (J0 := Itt K r) (H0 := H2) ⟨rfl, rfl⟩ (walk_tup (K := K) (a := r) (xs := us.reverse)) (fun k σ H' => ∃ g y z w, σ = [some (.ref t), some (.str (S nm)), some (.ref g), y, z, w] ∧ Same H2 H' ∧ H' g = some (.lst (bls (ends (fitB (fs.reverse.take k).reverse) nm))))
        ⟨g, none, none, none, rfl, Same.refl _, s2 _ _ hg⟩ (fun k σ H' _ ⟨_, _, _, _, _, s3, _⟩ => same_t s3 hr2) ?_ ?_
      · rintro k x σ H3 H3' hk ⟨g, y, z, w, rfl, s3, hg⟩ ⟨rfl, hx⟩
        obtain ⟨f, hf, hd⟩ : ∃ f, fs.reverse[k]? = some f ∧ Dp K H x f.d := by
          have hk' : k < us.length := by rw [List.length_reverse] at hk; exact hk
          rw [List.getElem?_reverse hk'] at hx
          obtain ⟨f, e, d⟩ := each.at' hx
          refine ⟨f, ?_, d⟩
          rw [List.getElem?_reverse (by rw [← each.1]; exact hk'), ← each.1]
          exact e
        have s03 : Same H H3' := (s1.trans s2).trans s3
        have tk : (fs.reverse.take (k + 1)).reverse = f :: (fs.reverse.take k).reverse := by
          rw [List.take_succ, hf, List.reverse_append]
          rfl
        generalize hsf : (fs.reverse.take k).reverse = sf at *
        have hd3 := dp_mono s03 _ _ hd
        obtain ⟨va, rfl, hv⟩ := PF.inv hd3
        have lb : (bls (ends (fitB sf) nm)).length = nm.length + 1 := by unfold bls; rw [List.length_map, ends_len]
        by_cases hst : f = .stars
        · subst hst
          refine l_if (fun b H' => b = true ∧ H' = H3') (by walk_at "rdx") (fun H5 h => ?_) (fun H1 h => nomatch h.1)
          obtain ⟨_, rfl⟩ := h
          refine l_midG (fun v H' => Same H5 H' ∧ ∃ g, v = .ref g ∧ H' g = some (.lst (bls (ends (fitB (.stars :: sf)) nm)))) ?_ ?_
          · walk_at "rd"
            refine ⟨g, ends (fitB sf) nm, rfl, .inl (.inl hg), by rw [ends_len]; omega, fun p H' s h => ⟨s, p, rfl, ?_⟩⟩
            rw [h, behind_ends]
            rfl
          · rintro _ H6 ⟨s6, g, rfl, hg⟩
            rw [tk]
            exact ⟨g, _, _, _, rfl, s3.trans s6, hg⟩
        have hmf : f.many = false := by cases f <;> first | rfl | exact absurd rfl hst
        refine l_if (fun b H' => b = false ∧ H' = H3') (by cases f <;> first | exact absurd rfl hst | walk_at "rdx") (fun H5 h => nomatch h.1) (fun H5 h => ?_)
        obtain ⟨_, rfl⟩ := h
        refine l_midG (fun v H' => Same H5 H' ∧ ∃ g, v = .ref g ∧ H' g = some (.lst (bls (ends (fitB (f :: sf)) nm)))) ?_ ?_
        · walk_at "rd"
          refine lc_pair (J0 := Ites (S nm)) (H0 := H5) ?_ walk_enumS (by show (S nm).length < _; rw [S_len]; omega) (fun k acc _ => acc = bls ((ends (fitB (f :: sf)) nm).take k)) (fun _ _ _ _ _ e => e) rfl (fun _ _ => trivial) (fun _ _ => rfl) ?_ ?_
          · walk_at "rd"
          · rintro j x y acc H6 H7 hj s6 rfl s7 hx hy
            have hj' : j < nm.length := by have e : (S nm).cps.size = nm.length := S_len nm; omega
            have hc : nm[j]? = some nm[j] := List.getElem?_eq_getElem hj'
            generalize nm[j] = c at hc
            have ex : x = .int (j : Nat) := (Option.some.inj hx).symm
            have ey : y = .str (S [c]) := by
              have e : (S nm).cps[j]? = nm[j]? := by simp
              rw [e, hc] at hy
              exact (Option.some.inj hy).symm
            subst ex ey
            have s57 := s6.trans s7
            have dj : nm.drop j = c :: nm.drop (j + 1) := by
              obtain ⟨h1, h2⟩ := List.getElem?_eq_some_iff.mp hc
              rw [← h2]
              exact List.drop_eq_getElem_cons hj'
            have ef : fitB (f :: sf) (nm.drop j) = (f.fits c && fitB sf (nm.drop (j + 1))) := by rw [dj, fitB_cons hmf]
            have eg := ends_at (p := fitB sf) (show j + 1 ≤ nm.length from hj')
            have e0 := ends_at (p := fitB (f :: sf)) (Nat.le_of_lt hj')
            refine mid_of (fun v H' => H' = H7 ∧ v = .bl (f.fits c && fitB sf (nm.drop (j + 1)))) ?_ ?_
            · walk_at "rd"
              refine ⟨.ref va, f, c, rfl, dp_mono s57 _ _ hd3, hmf, _, rfl, ite2 (fun h => ?_) fun h => ?_⟩
              · exact ⟨_, .inl (.inl (.inl (s57 _ _ hg))), .bl _, atI_succ (bls_at eg), rfl, by rw [h]; rfl⟩
              · have h' : f.fits c = false := by simpa using h
                exact ⟨rfl, by rw [h']; rfl⟩
            · rintro _ _ ⟨rfl, rfl⟩
              refine ⟨Same.refl _, ?_⟩
              rw [List.take_succ, e0, ← ef]
              unfold bls
              rw [List.map_append]
              rfl
          · intro p acc H6 hp0 s6 hD hlen ha
            walk_at "rd"
            intro p1 hp1
            have el := ends_last (p := fitB (f :: sf)) (w := nm)
            have esz : (S nm).cps.size = nm.length := S_len nm
            refine .inl ⟨_, (same_new hp1) _ _ hD, _, upd_same, ?_, fun p2 hp2 => ⟨(s6.trans (same_new hp1)).trans (same_new hp2), ?_⟩⟩
            · rw [hlen, esz, List.length_singleton]; omega
            · rw [upd_same, el, fitB_nil hmf, ha, esz]
              unfold bls
              rw [List.map_append]
              rfl
        · rintro _ H6 ⟨s6, g, rfl, hg⟩
          rw [tk]
          exact ⟨g, _, _, _, rfl, s3.trans s6, hg⟩
      · rintro σ H3 ⟨g, y, z, w, rfl, s3, hg⟩
        rw [lr, List.take_length, List.reverse_reverse] at hg
        exact ⟨g, y, z, w, rfl, (s1.trans s2).trans s3, hg⟩
    · rintro σ H2 ⟨g, y, z, w, rfl, s2, hg⟩
      walk_at "rd"
      exact ⟨_, .inl (.inl (.inl hg)), .bl (fitB fs nm), atI0 (bls_at (ends_at (p := fitB fs) (Nat.zero_le _))), q H2 s2⟩
def spFitsF (K : PySem.W.Frag) : Sp := fun vs H Q _ => ∃ v n fo r nms, vs = [v, .ref n, .bl fo] ∧ Dp K H v (RF.d r) ∧ RowSz r ∧ SqL K H n (nmsV nms) ∧ nms.length ≤ 1000 ∧ (∀ nm ∈ nms, nm.length ≤ 1000) ∧ ∀ H', Same H H' → Q (.bl ((!r.folders || fo) && fitGB SF.deepB SF.fitB r.steps nms)) H'
theorem ok__law_fits (T : Txt K mg) : OkD P w K mg base 3 (fA K "_law_fits") ["_law_form", "_law_names_here", "_law_folder"] [] (spFitsF K) := by
  refine okD T.F__law_fits sc__law_fits (fun _ _ _ _ _ _ us hl => match us, hl with | [_, _, _], _ => rfl) ?_ ?_
  · rintro vs H Q E ⟨v, n, fo, r, nms, rfl, _⟩
    rfl
  · rintro cdv A outer s H vs Q E hr ⟨v, n, fo, r, nms, rfl, hd, sz, hnm, hm, hml, q⟩
    refine ⟨_, (pss_cons (ps_if (pt_mid (PW.pt (pw_and (pt_tru (K := K) (pe_ix (o_ix (K := K)) (pv 0) pe_int (fun _ _ => rfl)) (by intro _; rfl)) (pw_and1 (pt_not (pt_tru (K := K) (pv 2) (by intro _; rfl))))))) (pss_one (ps_ret pe_bl)) pss_nil)
  (pss_cons (ps_set (i := 3) sc__law_fits.nd rfl (Or.inr rfl) (pe_mid (pe_op (o_add (K := K)) (pe_op o_mul (pe_lst (pa_cons pe_bl pa_nil)) (pe_callB (o_lenW (K := K) (w := w)) (by rfl) T.fr_len boot_len (pa_cons (pv 1) pa_nil))) (pe_lst (pa_cons pe_bl pa_nil)))))
  (pss_cons (ps_mid (ps_for (passes_of rfl) rfl (pi_mid (o_it (K := K) rfl (pe_rev (K := K) (pe_ix (o_ix (K := K)) (pv 0) pe_int (fun _ _ => rfl))))) (pg_name (i := 4) sc__law_fits.nd rfl (Or.inr rfl)) (pss_one (ps_if (pt_mid (pt_cmpR (o_eq (K := K) (hu64 hr)) (pe_ix (o_ix (K := K)) (pv 4) pe_int (fun _ _ => rfl)) pe_str (nomark _))) (pss_one (ps_set (i := 3) sc__law_fits.nd rfl (Or.inr rfl) (pe_mid (pe_cal (ok__law_good_behind T) (hr.mono (by decide)) rfl T.g__law_good_behind (pasE (takes_of rfl rfl rfl rfl) (fun _ _ _ _ h => h)) (pa_cons (pv 3) pa_nil))))) (pss_cons (ps_setLc (own := [("_law_name", 6)]) (g := (gName 6)) (tt := tYes) (i := 5) rfl sc__law_fits.nd rfl rfl (sw_true rfl rfl rfl (by decide +kernel)) (pi_mid (o_it (K := K) rfl (pv 1))) (blkOk_by (N := N__law_fits) (sc := defScope TX.s__law_fits) (by decide +kernel)) (fun _ _ _ _ _ => (pg_name (i := 6) sc__law_fits.nd rfl (Or.inl rfl))) (fun _ _ _ _ _ => pts_nil) (fun _ _ _ _ _ => (pe_mid (pe_cal (ok__law_name_fits T) (hr.mono (by decide)) rfl T.g__law_name_fits pasN (pa_cons (pe_ix (o_ix (K := K)) (pv 4) pe_int (fun _ _ => rfl)) (pa_cons (pv 6) pa_nil))))))
  (pss_one (ps_set (i := 3) sc__law_fits.nd rfl (Or.inr rfl) (pe_mid (pe_op (o_add (K := K)) (pe_lc (own := [("_law_j", 7), ("_law_one", 8)]) (g := (gTup K 2 (gCons (gName 7) (gCons (gName 8) gNil)))) (tt := tYes) rfl sc__law_fits.nd (pi_mid (o_enum (K := K) rfl T.fr_enumerate (pv 5))) (blkOk_by (N := N__law_fits) (sc := defScope TX.s__law_fits) (by decide +kernel)) (fun _ _ _ _ _ => (pg_tup rfl (pgs_cons (pg_name (i := 7) sc__law_fits.nd rfl (Or.inl rfl)) (pgs_cons (pg_name (i := 8) sc__law_fits.nd rfl (Or.inl rfl)) pgs_nil)))) (fun _ _ _ _ _ => pts_nil) (fun _ _ _ _ _ => (pe_mid (pe_andK (K := K) (pv 8) (pe_one (pe_ix (o_ix (K := K)) (pv 3) (pe_op (o_add (K := K)) (pv 7) pe_int) (fun _ _ => rfl))))))) (pe_lst (pa_cons pe_bl pa_nil)))))))))))
  (pss_one (ps_ret (pe_ix (o_ix (K := K)) (pv 3) pe_int (fun _ _ => rfl))))))), ?_⟩
    have tobj := T.obj
    have hn := sz.len
    obtain ⟨a, t, us, rfl, ha, ht, each⟩ := RF.inv hd
    refine q_if (fun b H' => H' = H ∧ b = (r.folders && !fo)) ?_ (fun H1 h => ?_) (fun H1 h => ?_)
    · walk_at "rdx"
      cases r.folders <;> simp
    · obtain ⟨rfl, hb⟩ := h
      rw [eq_comm, Bool.and_eq_true] at hb
      have hq := q H1 (Same.refl _)
      have e : (!r.folders || fo) = false := by cases h1 : r.folders <;> cases h2 : fo <;> simp [h1, h2] at hb ⊢
      rw [e] at hq
      walk_at "rd"
      exact hq
    obtain ⟨rfl, hb⟩ := h
    have e1 : (!r.folders || fo) = true := by cases h1 : r.folders <;> cases h2 : fo <;> simp [h1, h2] at hb ⊢
    rw [e1] at q
    have ln : (nmsV nms).length = nms.length := nms_len
    refine q_next ?_
    refine q_midG (fun v H' => ∃ g, v = .ref g ∧ Same H1 H' ∧ H' g = some (.lst (bls (ends (fitGB SF.deepB SF.fitB []) nms)))) ?_ ?_
    · walk_at "rd"
      intro p hp
      have s1 := same_new (o := .lst [V.bl false]) hp
      refine .inr ⟨_, .inl ⟨_, same_l s1 hnm, rfl⟩, ?_⟩
      rw [ln]
      refine ⟨_, upd_same, by omega, by omega, by rw [List.length_singleton]; omega, fun p1 hp1 p2 hp2 => .inl ⟨_, (same_new hp2) _ _ upd_same, _, upd_same, ?_, fun p3 hp3 => ⟨((s1.trans (same_new hp1)).trans (same_new hp2)).trans (same_new hp3), ?_⟩⟩⟩
      · rw [List.flatten_replicate_singleton, List.length_replicate]
        simp
        omega
      · rw [upd_same, endsG_nil, List.flatten_replicate_singleton]
        unfold bls
        rw [List.map_append, List.map_replicate]
        rfl
    rintro _ H2 ⟨g, rfl, s1, hg⟩
    refine q_stm (fun σ H' => ∃ g x4 x5 x6 x7 x8, σ = [some (.ref a), some (.ref n), some (.bl fo), some (.ref g), x4, x5, x6, x7, x8] ∧ Same H1 H' ∧ H' g = some (.lst (bls (ends (fitGB SF.deepB SF.fitB r.steps) nms)))) ?_ ?_
    · refine for_open (fun J H' => ∃ r', J = Itt K r' ∧ Same H2 H' ∧ SqT K H' r' us.reverse) ?_ ?_
      · have ha2 := same_t s1 ha
        have ht2 := same_t s1 ht
        walk_at "rdx"
        exact .inl ⟨us, ht2, fun p hp => .inr ⟨⟨_, .inl (.inl upd_same)⟩, p, rfl, same_new hp, .inl (.inl upd_same)⟩⟩
      rintro _ H3 ⟨r', rfl, s2, hr2⟩
      have lr : us.reverse.length = r.steps.reverse.length := by rw [List.length_reverse, List.length_reverse, each.1]
      refine for_mid (J0 := Itt K r') (H0 := H3) ⟨rfl, rfl⟩ (walk_tup (K := K) (a := r') (xs := us.reverse)) (fun k σ H' => ∃ g x4 x5 x6 x7 x8, σ = [some (.ref a), some (.ref n), some (.bl fo), some (.ref g), x4, x5, x6, x7, x8] ∧ Same H3 H' ∧ H' g = some (.lst (bls (ends (fitGB SF.deepB SF.fitB (r.steps.reverse.take k).reverse) nms))))
        ⟨g, _, _, _, _, _, rfl, Same.refl _, s2 _ _ hg⟩ (fun k σ H' _ ⟨_, _, _, _, _, _, _, s3, _⟩ => same_t s3 hr2) ?_ ?_
      · rintro k x σ H3 H3' hk ⟨g, x4, x5, x6, x7, x8, rfl, s3, hg⟩ ⟨rfl, hx⟩
        obtain ⟨f, hf, hd⟩ : ∃ f, r.steps.reverse[k]? = some f ∧ Dp K H1 x f.d := by
          have hk' : k < us.length := by rw [List.length_reverse] at hk; exact hk
          rw [List.getElem?_reverse hk'] at hx
          obtain ⟨f, e, d⟩ := each.at' hx
          refine ⟨f, ?_, d⟩
          rw [List.getElem?_reverse (by rw [← each.1]; exact hk'), ← each.1]
          exact e
        have hfm : f ∈ r.steps := List.mem_reverse.mp (List.mem_of_getElem? hf)
        have s03 : Same H1 H3' := (s1.trans s2).trans s3
        have tk : (r.steps.reverse.take (k + 1)).reverse = f :: (r.steps.reverse.take k).reverse := by
          rw [List.take_succ, hf, List.reverse_append]
          rfl
        generalize hsf : (r.steps.reverse.take k).reverse = sf at *
        have hd3 := dp_mono s03 _ _ hd
        have hn3 := same_l s03 hnm
        cases f with
        | deep =>
          obtain ⟨va, rfl, hv⟩ := SF.deep_inv hd3
          refine l_if (fun b H' => b = true ∧ H' = H3') (by walk_at "rdx") (fun H5 h => ?_) (fun H1 h => nomatch h.1)
          obtain ⟨_, rfl⟩ := h
          refine l_midG (fun v H' => Same H5 H' ∧ ∃ g, v = .ref g ∧ H' g = some (.lst (bls (ends (fitGB SF.deepB SF.fitB (.deep :: sf)) nms)))) ?_ ?_
          · walk_at "rd"
            refine ⟨g, ends (fitGB SF.deepB SF.fitB sf) nms, rfl, .inl (.inl hg), by rw [ends_len]; omega, fun p H' s h => ⟨s, p, rfl, ?_⟩⟩
            rw [h, behind_ends]
            rfl
          · rintro _ H6 ⟨s6, g, rfl, hg⟩
            rw [tk]
            exact ⟨g, _, _, _, _, _, rfl, s3.trans s6, hg⟩
        | seg fs =>
          obtain ⟨va, t1, us1, rfl, hv, ht1, each1⟩ := SF.seg_inv hd3
          have lfs := sz.parts fs hfm
          refine l_if (fun b H' => b = false ∧ H' = H3') (by walk_at "rdx") (fun H1 h => nomatch h.1) (fun H5 h => ?_)
          obtain ⟨_, rfl⟩ := h
          refine q_val ?_
          refine lc_midM (J0 := Itl K n) (H0 := H5) ?_ (walk_list (K := K) (a := n) (xs := nmsV nms)) (by rw [ln]; omega) (fun k acc _ => acc = bls ((nms.take k).map (fitB fs))) (fun _ _ _ _ _ e => e) rfl (fun H' s => same_l s hn3) (fun _ _ _ _ y => y_at y) (fun _ => rfl) ?_ ?_
          · walk_at "rd"
            exact .inl ⟨_, hn3⟩
          · rintro j x acc H6 H7 hj s6 rfl ⟨rfl, hx⟩
            obtain ⟨nm, hnm', rfl⟩ := nms_at hx
            have hv7 := same_t s6 hv
            refine mid_of (fun v H' => Same H7 H' ∧ v = .bl (fitB fs nm)) ?_ ?_
            · walk_at "rdx"
              exact ⟨t1, us1, nm, fs, rfl, same_t s6 ht1, each1.imp fun f u d => dp_mono s6 _ _ d, lfs, hml nm (List.mem_of_getElem? hnm'), fun H' s => ⟨s, rfl⟩⟩
            · rintro _ H8 ⟨s8, rfl⟩
              refine ⟨s8, ?_⟩
              rw [List.take_succ, hnm']
              unfold bls
              rw [List.map_append, List.map_append]
              rfl
          · intro sp acc H6 hsp s6 hD hlen ha
            rw [List.take_of_length_le (by rw [ln]; exact Nat.le_refl _)] at ha
            subst ha
            have hg6 := s6 _ _ hg
            refine l_midG (fun v H' => Same H6 H' ∧ ∃ g, v = .ref g ∧ H' g = some (.lst (bls (ends (fitGB SF.deepB SF.fitB (.seg fs :: sf)) nms)))) ?_ ?_
            · walk_at "rd"
              refine lc_pair (J0 := Ite K sp) (H0 := H6) ?_ (walk_enum (K := K) (a := sp) (xs := bls (nms.map (fitB fs)))) (by unfold bls; rw [List.length_map, List.length_map]; omega) (fun k acc _ => acc = bls ((ends (fitGB SF.deepB SF.fitB (.seg fs :: sf)) nms).take k)) (fun _ _ _ _ _ e => e) rfl (fun H' s => .inl (.inl (s _ _ hD))) (fun _ _ => rfl) ?_ ?_
              · walk_at "rd"
                exact ⟨_, .inl (.inl hD)⟩
              · rintro j x y acc H7 H8 hj s7 rfl s8 hx hy
                have hj' : j < nms.length := by unfold bls at hj; rw [List.length_map, List.length_map] at hj; exact hj
                have hc : nms[j]? = some nms[j] := List.getElem?_eq_getElem hj'
                generalize nms[j] = c at hc
                have ex : x = .int (j : Nat) := (Option.some.inj hx).symm
                have ey : y = .bl (fitB fs c) := by
                  have hy' : (bls (nms.map (fitB fs)))[j]? = some y := hy
                  unfold bls at hy'
                  rw [List.getElem?_map, List.getElem?_map, hc] at hy'
                  exact (Option.some.inj hy').symm
                subst ex ey
                have s68 := s7.trans s8
                have dj : nms.drop j = c :: nms.drop (j + 1) := by
                  obtain ⟨h1, h2⟩ := List.getElem?_eq_some_iff.mp hc
                  rw [← h2]
                  exact List.drop_eq_getElem_cons hj'
                have ef : fitGB SF.deepB SF.fitB (.seg fs :: sf) (nms.drop j) = (fitB fs c && fitGB SF.deepB SF.fitB sf (nms.drop (j + 1))) := by
                  rw [dj, fitGB_cons rfl]
                  rfl
                have eg := ends_at (p := fitGB SF.deepB SF.fitB sf) (show j + 1 ≤ nms.length from hj')
                have e0 := ends_at (p := fitGB SF.deepB SF.fitB (.seg fs :: sf)) (Nat.le_of_lt hj')
                have hg8 := s68 _ _ hg6
                refine mid_of (fun v H' => H' = H8 ∧ v = .bl (fitB fs c && fitGB SF.deepB SF.fitB sf (nms.drop (j + 1)))) ?_ ?_
                · walk_at "rd"
                  refine ite2 (fun h => ?_) fun h => ?_
                  · exact ⟨_, .inl (.inl (.inl hg8)), .bl _, atI_succ (bls_at eg), by rw [h]; rfl⟩
                  · have h' : fitB fs c = false := by simpa using h
                    rw [h']
                    rfl
                · rintro _ _ ⟨rfl, rfl⟩
                  refine ⟨Same.refl _, ?_⟩
                  rw [List.take_succ, e0, ← ef]
                  unfold bls
                  rw [List.map_append]
                  rfl
              · intro p acc H7 hp0 s7 hD7 hlen ha
                walk_at "rd"
                intro p1 hp1
                have el := ends_last (p := fitGB SF.deepB SF.fitB (.seg fs :: sf)) (w := nms)
                have esz : (bls (nms.map (fitB fs))).length = nms.length := by unfold bls; rw [List.length_map, List.length_map]
                refine .inl ⟨_, (same_new hp1) _ _ hD7, _, upd_same, ?_, fun p2 hp2 => ⟨(s7.trans (same_new hp1)).trans (same_new hp2), ?_⟩⟩
                · rw [hlen, esz, List.length_singleton]; omega
                · rw [upd_same, el, fitGB_nil rfl, ha, esz]
                  unfold bls
                  rw [List.map_append]
                  rfl
            · rintro _ H7 ⟨s7, g, rfl, hg⟩
              rw [tk]
              exact ⟨g, _, _, _, _, _, rfl, (s3.trans s6).trans s7, hg⟩
      · rintro σ H3 ⟨g, x4, x5, x6, x7, x8, rfl, s3, hg⟩
        rw [lr, List.take_length, List.reverse_reverse] at hg
        exact ⟨g, _, _, _, _, _, rfl, (s1.trans s2).trans s3, hg⟩
    · rintro σ H2 ⟨g, x4, x5, x6, x7, x8, rfl, s2, hg⟩
      walk_at "rd"
      refine ⟨_, .inl (.inl (.inl hg)), .bl (fitGB SF.deepB SF.fitB r.steps nms), atI0 (bls_at (ends_at (p := fitGB SF.deepB SF.fitB r.steps) (Nat.zero_le _))), ?_⟩
      have hq := q H2 s2
      rwa [Bool.true_and] at hq

/-! ### rows near the bounds -/
/-! ### lists of rows -/
theorem RF.tup (r : RF) : tupB r.d = true := by simp [RF.d, tupB, tupBs, tupBs_map SF.d SF.tup r.steps]
abbrev RowsE (K : PySem.W.Frag) (rs : List RF) (us : List V) (H : Hp) : Prop := Each (fun f u H => Dp K H u (RF.d f)) rs us H
def RowsL (K : PySem.W.Frag) (rs : List RF) (F : Addr) (H : Hp) : Prop := ∃ us, H F = some (.lst us) ∧ RowsE K rs us H ∧ ∀ r ∈ rs, r.Ok ∧ r.Low
theorem RowsL.mono {rs : List RF} {F : Addr} {H H' : Hp} (h : RowsL K rs F H) (s : Same H H') : RowsL K rs F H' := let ⟨us, a, b, c⟩ := h; ⟨us, s _ _ a, b.imp fun _ _ d => dp_mono s _ _ d, c⟩
theorem rows_snoc {rs : List RF} {us : List V} {r : RF} {y : V} {L : Addr} {H : Hp} (hl : H L = some (.lst us)) (e : RowsE K rs us H) (d : Dp K H y r.d) : RowsE K (rs ++ [r]) (us ++ [y]) (upd H L (.lst (us ++ [y]))) :=
  Each.snoc (e.imp fun f u d => dp_nl (nl_upd hl) _ _ f.tup d) (dp_nl (nl_upd hl) _ _ r.tup d)
def spRows (K : PySem.W.Frag) : Sp := fun vs H Q _ => ∃ a ns p ws, ∃ first many : Nat, vs = [.ref a, .int first, .int many, .ref p] ∧ SqL K H a (List.map V.int ns) ∧ ns.length ≤ 63 ∧ first + many ≤ 64 ∧ SqL K H p ws ∧ ws.length = 4 ∧ (∀ v ∈ ws, SignV v) ∧
  ∀ F rs H', Same H H' → H F = none → RowsL K rs F H' → rs.length = many → Q (.ref F) H'
theorem ok__law_rows (T : Txt K mg) : OkD P w K mg base 4 (fA K "_law_rows") ["_law_script", "_law_first", "_law_many", "_law_signs_here"] [] (spRows K) := by
  refine okD T.F__law_rows sc__law_rows (fun _ _ _ _ _ _ us hl => match us, hl with | [_, _, _, _], _ => rfl) ?_ ?_
  · rintro vs H Q E ⟨a, ns, p, ws, first, many, rfl, _⟩
    rfl
  · rintro cdv A outer s H vs Q E hr ⟨a, ns, p, ws, first, many, rfl, ha, hn, hfm, hs, hl, hw, q⟩
    refine ⟨_, (pss_cons (ps_set (i := 4) sc__law_rows.nd rfl (Or.inl rfl) (pe_lst pa_nil))
  (pss_cons (ps_mid (ps_for (passes_of rfl) rfl (pi_mid (pi_range1 rfl T.fr_range (pa_cons (pv 2) pa_nil))) (pg_name (i := 5) sc__law_rows.nd rfl (Or.inl rfl)) (pss_cons (ps_set (i := 6) sc__law_rows.nd rfl (Or.inl rfl) (pe_mid (pe_cal (ok__law_cell T) (hr.mono (by decide)) rfl T.g__law_cell (pasE (takes_of rfl rfl rfl rfl) (fun _ _ _ _ h => h)) (pa_cons (pv 0) (pa_cons (pe_op (o_add (K := K)) (pv 1) (pv 5)) pa_nil)))))
  (pss_cons (ps_set (i := 7) sc__law_rows.nd rfl (Or.inl rfl) (pe_mid (pe_cal (ok__law_row T) (hr.mono (by decide)) rfl T.g__law_row (pasE (takes_of rfl rfl rfl rfl) (fun _ _ _ _ h => h)) (pa_cons (pv 6) (pa_cons (pv 3) pa_nil)))))
  (pss_cons (ps_mid (ps_if (pt_mid (PW.pt (pw_and (pt_cmpR (o_ne (K := K) (hu64 hr)) (pv 4) (pe_lst pa_nil) (nomark _)) (pw_and1 (pt_cmpR (o_eq (K := K) (hu64 hr)) (pe_op op_mod (pe_op op_fdivW (pv 6) pe_int) pe_int) pe_int (nomark _)))))) (pss_one (ps_set (i := 7) sc__law_rows.nd rfl (Or.inl rfl) (pe_mid (pe_tup (pa_cons (pe_ix (o_ix (K := K)) (pe_ix (o_ix (K := K)) (pv 4) (pe_un un_neg pe_int) (fun _ _ => rfl)) pe_int (fun _ _ => rfl)) (pa_cons (pe_notK (K := K) (pe_ix (o_ix (K := K)) (pe_ix (o_ix (K := K)) (pv 4) (pe_un un_neg pe_int) (fun _ _ => rfl)) pe_int (fun _ _ => rfl))) (pa_cons (pe_ix (o_ix (K := K)) (pv 7) pe_int (fun _ _ => rfl)) pa_nil))))))) pss_nil))
  (pss_one (ps_expr (pe_bmK (K := K) PySem.F.plainAttrs_list PySem.F.slot_list_append PySem.F.type_list_append mt_append (pv 4) (pa_cons (pe_mid (pv 7)) pa_nil)))))))))
  (pss_one (ps_ret (pv 4))))), ?_⟩
    have tobj := T.obj
    refine q_new fun L hL => ?_
    have sL := same_new (o := .lst []) hL
    refine q_stm (fun σ H' => ∃ rs x5 x6 x7, σ = [some (.ref a), some (.int first), some (.int many), some (.ref p), some (.ref L), x5, x6, x7] ∧ Same H H' ∧ RowsL K rs L H' ∧ rs.length = many) ?_ ?_
    · refine for_mid (J0 := Itr 0 many) (H0 := upd H L (.lst [])) ?_ walk_range
        (fun k σ H' => ∃ rs x5 x6 x7, σ = [some (.ref a), some (.int first), some (.int many), some (.ref p), some (.ref L), x5, x6, x7] ∧ Same H H' ∧ RowsL K rs L H' ∧ rs.length = k)
        ⟨[], none, none, none, rfl, sL, ⟨[], upd_same, .nil, fun _ h => nomatch h⟩, rfl⟩ (fun _ _ _ _ _ => trivial) ?_ (fun _ _ h => h)
      · walk_at "rd"
        exact ⟨by omega, by omega, rfl⟩
      · rintro k x σ H1 H1' hk ⟨rs, x5, x6, x7, rfl, sm, ⟨us, hl1, each, oks⟩, len⟩ ⟨rfl, rfl⟩
        refine q_mid (fun _ => True) ?_ fun cell _ => ?_
        · walk_at "rd"
          exact ⟨a, _, ns, rfl, same_l sm ha, hn, by omega, by omega, fun c => ⟨rfl, c, rfl⟩⟩
        refine q_midG (fun v H' => Same H1' H' ∧ ∃ r, RF.Ok r ∧ r.Low ∧ Dp K H' v r.d) ?_ ?_
        · walk_at "rd"
          exact ⟨cell, p, ws, rfl, same_l sm hs, hl, hw, fun v r H' ok lo _ s d => ⟨s, r, ok, lo, d⟩⟩
        rintro v H2 ⟨s2, r, ok, lo, d⟩
        have hl2 := s2 _ _ hl1
        have each2 : RowsE K rs us H2 := each.imp fun _ _ d => dp_mono s2 _ _ d
        refine q_stm (fun σ H' => Same H2 H' ∧ ∃ v r, σ = [some (.ref a), some (.int first), some (.int many), some (.ref p), some (.ref L), some (.int (0 + k)), some (.int cell), some v] ∧ RF.Ok r ∧ r.Low ∧ Dp K H' v r.d) ?_ ?_
        · refine l_if (fun b H' => Same H2 H' ∧ (b = true → rs ≠ [])) ?_ (fun H3 h => ?_) (fun H3 h => ?_)
          · walk_at "rd"
            intro n hn
            have sn := same_new (o := .lst []) hn
            refine ne_nil (.inl (.inl (sn _ _ hl2))) (.inl (.inl upd_same)) ⟨_, rfl, ite2 (fun h => ?_) fun h => ?_⟩
            · have hne : rs ≠ [] := fun e => by
                have hu : us = [] := List.length_eq_zero_iff.mp (by rw [each.1, e]; rfl)
                simp [hu] at h
              exact ⟨⟨by decide, by decide⟩, sn, fun _ => hne⟩
            · exact ⟨sn, fun h => h.elim⟩
          · obtain ⟨s3, hb⟩ := h
            have hl3 := s3 _ _ hl2
            obtain ⟨g, hg⟩ : ∃ g, rs.getLast? = some g := by
              cases e : rs.getLast? with
              | none => exact absurd (List.getLast?_eq_none_iff.mp e) (hb rfl)
              | some g => exact ⟨g, rfl⟩
            have hg' := hg
            rw [List.getLast?_eq_getElem?] at hg'
            obtain ⟨u, hu, du⟩ := each2.2 _ g hg'
            have hlast : us.getLast? = some u := by rw [List.getLast?_eq_getElem?, each.1]; exact hu
            obtain ⟨okg, log⟩ := oks g (List.mem_of_getElem? hg')
            obtain ⟨ga, gt, gus, rfl, hga, hgt, geach⟩ := RF.inv (dp_mono s3 _ _ du)
            obtain ⟨va, vt, vus, rfl, hva, hvt, veach⟩ := RF.inv (dp_mono s3 _ _ d)
            refine l_midG (fun v H' => Same H3 H' ∧ ∃ r, RF.Ok r ∧ r.Low ∧ Dp K H' v r.d) ?_ ?_
            · walk_at "rd"
              refine ⟨us, .inl (.inl (.inl hl3)), _, atI_last hlast, _, .inr hga, _, rfl, us, .inl (.inl (.inl hl3)), _, atI_last hlast, _, .inr hga, _, rfl, g.spares, rfl, _, .inr hva, _, rfl, fun p' hp' => ⟨same_new hp', ⟨g.steps, !g.spares, r.folders⟩, ⟨okg.ne, okg.ok, okg.two, okg.len⟩, log, ?_⟩⟩
              exact .tup (.inl (.inl upd_same)) (.cons (.tup (same_t (same_new hp') hgt) (each_dp (geach.imp fun f u d => dp_mono (same_new hp') _ _ d))) (.cons (.bl _) (.cons (.bl _) .nil)))
            · rintro v' H4 ⟨s4, r', ok', lo', d'⟩
              exact ⟨s3.trans s4, v', r', rfl, ok', lo', d'⟩
          · obtain ⟨s3, _⟩ := h
            exact ⟨s3, v, r, rfl, ok, lo, dp_mono s3 _ _ d⟩
        · rintro σ H3 ⟨s3, v', r', rfl, ok', lo', d'⟩
          have hl3 := s3 _ _ hl2
          refine l_appV rfl rfl hl3 (by rw [each.1]; omega) ⟨rs ++ [r'], _, _, _, rfl, same_mut ((sm.trans s2).trans s3) hL, ⟨_, upd_same, rows_snoc hl3 (each2.imp fun _ _ d => dp_mono s3 _ _ d) d', fun g hg => ?_⟩, by rw [List.length_append, len]; rfl⟩
          exact (List.mem_append.mp hg).elim (oks g) fun e => by rw [List.mem_singleton.mp e]; exact ⟨ok', lo'⟩
    · rintro σ H1 ⟨rs, x5, x6, x7, rfl, s1, h1, h2⟩
      walk_at "rd"
      exact q L rs H1 s1 hL h1 h2

/-! ### the last row that fits -/
def rfit (nms : List (List Nat)) (fo : Bool) (r : RF) : Bool := (!r.folders || fo) && fitGB SF.deepB SF.fitB r.steps nms
theorem rfit_eq {b fo : Bool} {r : RF} {nms : List (List Nat)} (h : b = true ↔ (r.folders = true → fo = true) ∧ RFit r.steps nms) : b = rfit nms fo r := by
  have e : fitGB SF.deepB SF.fitB r.steps nms = true ↔ RFit r.steps nms := fitGB_iff
  unfold rfit
  refine Bool.eq_iff_iff.mpr ?_
  rw [h, Bool.and_eq_true, e]
  refine and_congr_left fun _ => ?_
  cases r.folders <;> cases fo <;> simp
def optV : Option Nat → V
  | some i => .int i
  | none => .non
def IsLast (p : RF → Bool) (rs : List RF) (o : Option Nat) : Prop := (∀ i, o = some i → ∃ r, rs[i]? = some r ∧ p r = true) ∧ ∀ j r, rs[j]? = some r → p r = true → ∃ i, o = some i ∧ j ≤ i
theorem IsLast.uniq {p : RF → Bool} {rs : List RF} {a b : Option Nat} (h : IsLast p rs a) (g : IsLast p rs b) : a = b := by
  cases a with
  | none =>
    cases b with
    | none => rfl
    | some j =>
      obtain ⟨r, e, f⟩ := g.1 j rfl
      obtain ⟨i, e2, _⟩ := h.2 j r e f
      cases e2
  | some i =>
    obtain ⟨r, e, f⟩ := h.1 i rfl
    obtain ⟨j, rfl, hj⟩ := g.2 i r e f
    obtain ⟨r', e', f'⟩ := g.1 j rfl
    obtain ⟨i', e2, hi⟩ := h.2 j r' e' f'
    cases e2
    rw [Nat.le_antisymm hj hi]
def spLast (K : PySem.W.Frag) : Sp := fun vs H Q _ => ∃ l n fo us rs nms, vs = [.ref l, .ref n, .bl fo] ∧ SqL K H l us ∧ Each (RowV K) rs us H ∧ (∀ r ∈ rs, RowSz r) ∧ rs.length ≤ 1000 ∧ SqL K H n (nmsV nms) ∧ ∀ o H', Same H H' → IsLast (rfit nms fo) rs o → Q (optV o) H'
theorem ok_last_fit (T : Txt K mg) : OkD P w K mg base 5 (fA K "last_fit") ["rows", "names", "folder"] [] (spLast K) := by
  refine okD T.F_last_fit sc_last_fit (fun _ _ _ _ _ _ us hl => match us, hl with | [_, _, _], _ => rfl) ?_ ?_
  · rintro vs H Q E ⟨l, n, fo, us, rs, nms, rfl, _⟩
    rfl
  · rintro cdv A outer s H vs Q E hr ⟨l, n, fo, us, rs, nms, rfl, hus, each, sz, hn, hnm, q⟩
    refine ⟨_, (pss_cons (ps_mid (ps_for (passes_of rfl) rfl (pi_mid (pi_revR rfl T.fr_reversed (prg_1 rfl T.fr_range (pe_callB (o_lenW (K := K) (w := w)) (by rfl) T.fr_len boot_len (pa_cons (pv 0) pa_nil))))) (pg_name (i := 3) sc_last_fit.nd rfl (Or.inl rfl)) (pss_one (ps_if (pt_mid (pt_tru (K := K) (pe_cal (ok_fits T) (hr.mono (by decide)) rfl T.g_fits (pasE (takes_of rfl rfl rfl rfl) (fun _ _ _ _ h => h)) (pa_cons (pe_ix (o_ix (K := K)) (pv 0) (pv 3) (fun _ _ => rfl)) (pa_cons (pv 1) (pa_cons (pv 2) pa_nil)))) (by intro _; rfl))) (pss_one (ps_ret (pv 3))) pss_nil))))
  (pss_one (ps_ret pe_non))), ?_⟩
    have tobj := T.obj
    have hlu : LenV K (.ref l) H us.length := .inl ⟨us, hus, rfl⟩
    refine q_stm (fun σ H' => ∃ x, σ = [some (.ref l), some (.ref n), some (.bl fo), x] ∧ Same H H' ∧ ∀ (j : Nat) (r : RF), rs[j]? = some r → rfit nms fo r = false) ?_ ?_
    · refine for_mid (J0 := Itc ((rs.length : Int) - 1) (-1) rs.length) (H0 := H) ?_ walk_rangeC
        (fun k σ H' => ∃ x, σ = [some (.ref l), some (.ref n), some (.bl fo), x] ∧ Same H H' ∧ ∀ (j : Nat) (r : RF), rs.length - k ≤ j → rs[j]? = some r → rfit nms fo r = false)
        ⟨none, rfl, Same.refl _, fun j r hj e => absurd (List.getElem?_eq_some_iff.mp e).1 (by omega)⟩ (fun _ _ _ _ _ => trivial) ?_ (fun σ H' h => ?_)
      · walk_at "rd"
        refine .inr ⟨_, hlu, by decide, by decide, by rw [each.1]; omega, by rw [each.1]; omega, ?_⟩
        rw [each.1, show ((rs.length : Int) - 0).toNat = rs.length from by omega]
      · rintro k x σ H1 H1' hk ⟨x3, rfl, s1, hj⟩ ⟨rfl, rfl⟩
        obtain ⟨i, hi⟩ : ∃ i : Nat, (rs.length : Int) - 1 + (k : Nat) * (-1) = (i : Int) := ⟨rs.length - 1 - k, by omega⟩
        have hi2 : i = rs.length - 1 - k := by omega
        have hil : i < rs.length := by omega
        obtain ⟨u, hu, ru⟩ := each.2 i rs[i] (List.getElem?_eq_getElem hil)
        have ru1 := ru.mono s1
        refine l_if (fun b H' => Same H1' H' ∧ b = rfit nms fo rs[i]) ?_ (fun H2 h => ?_) (fun H2 h => ?_)
        · walk_at "rd"
          rw [hi]
          exact ⟨us, .inl (same_l s1 hus), u, atI_nat hu, u, n, fo, rs[i], nms, rfl, ru1, sz _ (List.getElem_mem hil), same_l s1 hnm, fun b H' s h => ⟨_, rfl, s, rfit_eq h⟩⟩
        · obtain ⟨s2, hb⟩ := h
          walk_at "rd"
          rw [hi]
          refine q (some i) H2 (s1.trans s2) ⟨fun j e => ?_, fun j r e f => ⟨i, rfl, ?_⟩⟩
          · cases e
            exact ⟨_, List.getElem?_eq_getElem hil, hb.symm⟩
          · rcases Nat.lt_or_ge i j with h | h
            · rw [hj j r (by omega) e] at f
              cases f
            · exact h
        · obtain ⟨s2, hb⟩ := h
          refine ⟨_, rfl, s1.trans s2, fun j r h e => ?_⟩
          rcases Nat.lt_or_ge i j with h2 | h2
          · exact hj j r (by omega) e
          · have ej : j = i := by omega
            subst ej
            rw [List.getElem?_eq_getElem hil] at e
            rw [← Option.some.inj e]
            exact hb.symm
      · obtain ⟨x, e, s1, hj⟩ := h
        exact ⟨x, e, s1, fun j r e => hj j r (by omega) e⟩
    · rintro σ H1 ⟨x, rfl, s1, hj⟩
      walk_at "rd"
      exact q none H1 s1 ⟨fun i e => (nomatch e), fun j r e f => by rw [hj j r e] at f; cases f⟩

/-! ### long rows -/
theorem notwo_of : ∀ {fs : List PF}, (∀ f ∈ fs, f.many = false) → NoTwo fs
  | [], _ => trivial
  | [_], _ => trivial
  | f :: g :: r, h => ⟨fun ⟨h1, _⟩ => (by rw [h f List.mem_cons_self] at h1; cases h1), notwo_of (fs := g :: r) fun x hx => h x (List.mem_cons_of_mem _ hx)⟩
/-- the set of the signs behind a place -/
theorem long_set {cs : List Nat} {o : Nat} (ho : o ≤ 1) (lc : cs.length = 4) (nd : cs.Nodup) (hc : ∀ c ∈ cs, c ∈ SIG) {ys : List Str} (pm : ys.Perm ((cs.drop o).map fun c => S [c])) (so : sortedS ys = true) :
    ∃ l : List Nat, ys = l.map (fun c => S [c]) ∧ SigSet l ∧ l.length = 4 - o := by
  have nd2 : (cs.drop o).Nodup := nd.sublist (List.drop_sublist _ _)
  obtain ⟨l, rfl, up, mem⟩ := sorted_signs pm so (nd_map1 nd2) fun z hz => by
    obtain ⟨c, _, rfl⟩ := List.mem_map.mp hz
    exact ⟨c, rfl⟩
  have hl : l.length = 4 - o := by
    have e := pm.length_eq
    rw [List.length_map, List.length_map, List.length_drop, lc] at e
    exact e
  exact ⟨l, rfl, ⟨fun e => by rw [e] at hl; simp at hl; omega, up, fun c h => hc c (List.mem_of_mem_drop (map1_mem.mp ((mem c).mp h)))⟩, hl⟩
theorem cut_from {xs : List V} {o : Nat} (h : o ≤ xs.length) : cutV xs (some (o : Int)) none = xs.drop o := by
  unfold cutV
  rw [HT.sIx_nat, HT.sIx_none, Nat.min_eq_left h]
  refine List.take_of_length_le ?_
  rw [List.length_drop]
  exact Nat.le_refl _
theorem cut_butlast {us : List V} : cutV us none (some (-1)) = us.take (us.length - 1) := by
  unfold cutV
  have e : HT.sIx us.length us.length (some (-1)) = us.length - 1 := by
    unfold HT.sIx
    simp
    omega
  rw [e, HT.sIx_none, List.drop_zero, Nat.sub_zero]
theorem Each.take {α : Type} {R : α → V → Hp → Prop} {fs : List α} {us : List V} {H : Hp} (h : Each R fs us H) (k : Nat) : Each R (fs.take k) (us.take k) H :=
  ⟨by rw [List.length_take, List.length_take, h.1], fun i f hf => by
    rw [List.getElem?_take] at hf
    split at hf
    · obtain ⟨u, e, g⟩ := h.2 i f hf
      exact ⟨u, by rw [List.getElem?_take, if_pos (by assumption)]; exact e, g⟩
    · cases hf⟩
def spLongR (K : PySem.W.Frag) : Sp := fun vs H Q _ => ∃ c p ws, vs = [.int c, .ref p] ∧ SqL K H p ws ∧ ws.length = 4 ∧ ws.Nodup ∧ (∀ v ∈ ws, SignV v) ∧ ∀ v r H', RF.Ok r → r.Low → Same H H' → Dp K H' v r.d → Q v H'
theorem ok__law_long_row (T : Txt K mg) : OkD P w K mg base 2 (fA K "_law_long_row") ["_law_cell_here", "_law_signs_here"] [] (spLongR K) := by
  refine okD T.F__law_long_row sc__law_long_row (fun _ _ _ _ _ _ us hl => match us, hl with | [_, _], _ => rfl) ?_ ?_
  · rintro vs H Q E ⟨c, p, ws, rfl, _⟩
    rfl
  · rintro cdv A outer s H vs Q E hr ⟨c, p, ws, rfl, hs, hl, hnd, hw, q⟩
    refine ⟨_, (pss_cons (ps_set (i := 2) sc__law_long_row.nd rfl (Or.inl rfl) (pe_lst pa_nil))
  (pss_cons (ps_mid (ps_for (passes_of rfl) rfl (pi_mid (pi_range1 rfl T.fr_range (pa_cons (pe_op (o_add (K := K)) pe_int (pe_op op_mod (pv 0) pe_int)) pa_nil))) (pg_name (i := 3) sc__law_long_row.nd rfl (Or.inl rfl)) (pss_cons (ps_set (i := 4) sc__law_long_row.nd rfl (Or.inr rfl) (pe_mid (pe_cal (ok__law_mixed T) (hr.mono (by decide)) rfl T.g__law_mixed (pasE (takes_of rfl rfl rfl rfl) (fun _ _ _ _ h => h)) (pa_cons (pv 0) (pa_cons (pe_op (o_add (K := K)) pe_int (pv 3)) pa_nil)))))
  (pss_cons (ps_setLc (own := [("_law_j", 7)]) (g := (gName 7)) (tt := tYes) (i := 5) rfl sc__law_long_row.nd rfl rfl (sw_true rfl rfl rfl (by decide +kernel)) (pi_mid (pi_range1 rfl T.fr_range (pa_cons (pe_op (o_add (K := K)) pe_int (pe_op op_mod (pv 4) pe_int)) pa_nil))) (blkOk_by (N := N__law_long_row) (sc := defScope TX.s__law_long_row) (by decide +kernel)) (fun _ _ _ _ _ => (pg_name (i := 7) sc__law_long_row.nd rfl (Or.inl rfl))) (fun _ _ _ _ _ => pts_nil) (fun _ _ _ _ _ => (pe_mid (pe_tup (pa_cons pe_str (pa_cons (pe_ix (o_ix (K := K)) (pv 1) (pe_op op_mod (pe_cal (ok__law_mixed T) (hr.mono (by decide)) rfl T.g__law_mixed pasN (pa_cons (pv 4) (pa_cons (pv 7) pa_nil))) pe_int) (fun _ _ => rfl)) pa_nil))))))
  (pss_cons (ps_set (i := 6) sc__law_long_row.nd rfl (Or.inl rfl) (pe_mid (pe_op op_mod (pe_op op_fdivW (pv 4) pe_int) pe_int)))
  (pss_cons (ps_mid (ps_if (pt_mid (pt_cmpR (o_eq (K := K) (hu64 hr)) (pe_op op_mod (pe_op op_fdivW (pv 4) pe_int) pe_int) pe_int (nomark _))) (pss_one (ps_expr (pe_bmK (K := K) PySem.F.plainAttrs_list PySem.F.slot_list_append PySem.F.type_list_append mt_append (pv 5) (pa_cons (pe_mid (pe_tup (pa_cons pe_str (pa_cons (pe_mid (pe_bmK (K := K) PySem.F.plainAttrs_str PySem.F.slot_str_join PySem.F.type_str_join (mo_join (K := K)) pe_str (pa_cons (pe_callB (o_sorted (K := K) (w := w) rfl) (by rfl) T.fr_sorted (by decide +kernel) (pa_cons (pe_slice (o_sl (K := K)) (pv 1) (po_some (pv 6)) po_none) pa_nil)) pa_nil))) (pa_cons (pe_cmpR (o_eq (K := K) (hu64 hr)) (pv 6) pe_int (nomark _)) pa_nil))))) pa_nil)))) pss_nil))
  (pss_one (ps_expr (pe_bmK (K := K) PySem.F.plainAttrs_list PySem.F.slot_list_append PySem.F.type_list_append mt_append (pv 2) (pa_cons (pe_mid (pe_tup (pa_cons pe_str (pa_cons (pe_callTy (o_tuple (K := K)) (by rfl) T.fr_tuple (by decide +kernel) (pa_cons (pv 5) pa_nil)) pa_nil)))) pa_nil))))))))))
  (pss_one (ps_ret (pe_tup (pa_cons (pe_callTy (o_tuple (K := K)) (by rfl) T.fr_tuple (by decide +kernel) (pa_cons (pv 2) pa_nil)) (pa_cons (pe_cmpR (o_eq (K := K) (hu64 hr)) (pe_op op_mod (pe_op op_fdivW (pv 0) pe_int) pe_int) pe_int (nomark _)) (pa_cons (pe_cmpR (o_eq (K := K) (hu64 hr)) (pe_op op_mod (pe_op op_fdivW (pv 0) pe_int) pe_int) pe_int (nomark _)) pa_nil)))))))), ?_⟩
    have tobj := T.obj
    obtain ⟨cs, rfl, hcs⟩ := signs_list hw
    have lcs : cs.length = 4 := by simpa using hl
    have ncs : cs.Nodup := by
      have h : ((cs.map fun c => S [c]).map V.str).Nodup := hnd
      have h2 : (cs.map fun c => S [c]).Nodup := (List.pairwise_map.mp h).imp fun q e => q (by rw [e])
      exact nd_unmap h2
    refine q_new fun L hL => ?_
    have sL := same_new (o := .lst []) hL
    have hm0 : 0 ≤ c % 5 := Int.emod_nonneg _ (by decide)
    have hm1 : c % 5 < 5 := Int.emod_lt_of_pos _ (by decide)
    obtain ⟨n, hn, hn1, hn3⟩ : ∃ n : Nat, 1 + c % 5 = (n : Int) ∧ 1 ≤ n ∧ n ≤ 5 := ⟨(1 + c % 5).toNat, by omega, by omega, by omega⟩
    refine q_stm (fun σ H' => ∃ ss us x3 x4 x5 x6 x7, σ = [some (.int c), some (.ref p), some (.ref L), x3, x4, x5, x6, x7] ∧ Same H H' ∧ H' L = some (.lst us) ∧ Each (fun f u H => Dp K H u (SF.d f)) ss us H' ∧ ss ≠ [] ∧ (∀ s ∈ ss, s.Ok) ∧ NoTwoD ss ∧ ss.length ≤ 5 ∧ ∀ fs, SF.seg fs ∈ ss → ∀ f ∈ fs, f.Low) ?_ ?_
    · refine for_mid (J0 := Itr 0 n) (H0 := upd H L (.lst [])) ?_ walk_range
        (fun k σ H' => ∃ ss us x3 x4 x5 x6 x7, σ = [some (.int c), some (.ref p), some (.ref L), x3, x4, x5, x6, x7] ∧ Same H H' ∧ H' L = some (.lst us) ∧ Each (fun f u H => Dp K H u (SF.d f)) ss us H' ∧ (0 < k → ss ≠ []) ∧ (∀ s ∈ ss, s.Ok) ∧ NoTwoD ss ∧ ss.length ≤ k ∧ ∀ fs, SF.seg fs ∈ ss → ∀ f ∈ fs, f.Low)
        ⟨[], [], none, none, none, none, none, rfl, sL, upd_same, .nil, fun h => absurd h (by decide), fun _ h => (nomatch h), trivial, Nat.le_refl _, fun _ h => nomatch h⟩ (fun _ _ _ _ _ => trivial) ?_ (fun σ H' h => ?_)
      · walk_at "rd"
        rw [hn]
        exact ⟨by omega, by omega, rfl⟩
      · rintro k x σ H1 H1' hk ⟨ss, us, x3, x4, x5, x6, x7, rfl, sm, hl1, each, ne, oks, two, len, low⟩ ⟨rfl, rfl⟩
        refine q_mid (fun m => 0 ≤ m ∧ m < 2147483647) ?_ fun mk hmk => ?_
        · walk_at "rd"
          exact ⟨c, _, rfl, fun m h1 h2 => ⟨rfl, m, rfl, h1, h2⟩⟩
        have hs1 := same_l sm hs
        have hm9 : 0 ≤ mk % 9 := Int.emod_nonneg _ (by decide)
        have hm8 : mk % 9 < 9 := Int.emod_lt_of_pos _ (by decide)
        obtain ⟨n2, hn2, hn21, hn22⟩ : ∃ n : Nat, 1 + mk % 9 = (n : Int) ∧ 1 ≤ n ∧ n ≤ 9 := ⟨(1 + mk % 9).toNat, by omega, by omega, by omega⟩
        refine q_val ?_
        refine lc_midM (J0 := Itr 0 n2) (H0 := H1') ?_ walk_range (by omega) (fun k acc H' => ∃ fs : List PF, Each (fun f u H => Dp K H u (PF.d f)) fs acc H' ∧ ∀ f ∈ fs, f.Ok ∧ f.Low ∧ f.many = false) (fun k acc Ha Hb e ⟨fs, a, b⟩ => ⟨fs, a.imp fun f u d => dp_nl e _ _ f.tup d, b⟩) ⟨[], .nil, fun _ h => nomatch h⟩ (fun _ _ => trivial) (fun _ _ _ _ y => y_fn y) (fun _ => rfl) ?_ ?_
        · walk_at "rd"
          rw [hn2]
          exact ⟨by omega, by omega, rfl⟩
        · rintro j x acc H' H'' hj s2 ⟨fs, ef, of⟩ ⟨rfl, rfl⟩
          refine mid_of (fun u H4 => Same H'' H4 ∧ ∃ d ∈ SIG, Dp K H4 u (PF.d (.one d))) ?_ ?_
          · walk_at "rd"
            refine ⟨mk, _, rfl, fun m _ _ => ?_⟩
            obtain ⟨d, hd1, e1⟩ := at4 hl hw m
            exact ⟨m, rfl, _, .inl (same_l s2 hs1), _, e1, fun p' hp' => ⟨same_new hp', d, hd1, .tup (.inl (.inl upd_same)) (.cons (.str _) (.cons (.str _) .nil))⟩⟩
          · rintro u H4 ⟨s4, d, hd, du⟩
            refine ⟨s4, fs ++ [.one d], (ef.imp fun f u d => dp_mono s4 _ _ d).snoc du, fun f hf => ?_⟩
            exact (List.mem_append.mp hf).elim (of f) fun e => by rw [List.mem_singleton.mp e]; exact ⟨hd, trivial, rfl⟩
        intro F vs0 H2 hF sF hF2 lvs ⟨fs0, ef0, of0⟩
        have hFH : H F = none := same_none sm hF
        have hFL : F ≠ L := fun e => by rw [e, hl1] at hF; cases hF
        have lf0 : fs0.length = n2 := by rw [← ef0.1, lvs]
        refine q_mid (fun o => o = 0 ∨ o = 1) ?_ fun o ho => ?_
        · walk_at "rd"
          exact ⟨⟨by decide, by decide⟩, by omega⟩
        have hl2 := sF _ _ hl1
        have hs2 := same_l sF hs1
        refine q_stm (fun σ H' => ∃ fs vs, σ = [some (.int c), some (.ref p), some (.ref L), some (.int (0 + k)), some (.int mk), some (.ref F), some (.int o), x7] ∧ Same H1' H' ∧ H' F = some (.lst vs) ∧ Each (fun f u H => Dp K H u (PF.d f)) fs vs H' ∧ (∀ f ∈ fs, f.Ok ∧ f.Low ∧ f.many = false) ∧ fs ≠ [] ∧ fs.length ≤ 10) ?_ ?_
        · have hne0 : fs0 ≠ [] := fun e => by rw [e] at lf0; simp at lf0; omega
          refine l_if (fun b H' => H' = H2) ?_ (fun H3 h => ?_) (fun H3 h => ?_)
          · walk_at "rd"
            exact ⟨by decide, by decide⟩
          · subst h
            refine l_app rfl hF2 ?_
            walk_at "rd"
            obtain ⟨oN, ho1, rfl⟩ : ∃ oN : Nat, oN ≤ 1 ∧ o = (oN : Int) := ⟨o.toNat, by omega, by omega⟩
            refine mid_of (fun v H' => Same H3 H' ∧ ∃ l, v = .str (S l) ∧ SigSet l ∧ l.length = 4 - oN) ?_ ?_
            · walk_at "rd"
              refine .inl ⟨_, hs2, fun p1 hp1 => .inr (.inl ⟨p1, (cs.drop oN).map fun c => S [c], rfl, .inl (.inl ?_), ?_, fun ys p2 pm so hp2 => ?_⟩)⟩
              · rw [upd_same, cut_from (by rw [hl]; omega), List.map_drop, List.map_drop]
              · rw [List.length_map, List.length_drop, lcs]; omega
              · obtain ⟨l, rfl, okl, ll⟩ := long_set ho1 lcs ncs hcs pm so
                refine ⟨_, .inl (.inl (.inl upd_same)), ?_, (same_new hp1).trans (same_new hp2), l, join_chars l, okl, ll⟩
                have e := len_chars l
                rw [show (Str.ofString "") = S [] from rfl, e]
                omega
            · rintro _ H4 ⟨s4, l, rfl, okl, ll⟩ p' hp'
              have sp := same_new (o := .tup [V.str (Str.ofString "among"), V.str (S l), V.bl (decide ((oN : Int) = 1))]) hp'
              have s34 := s4.trans sp
              have hF4 := s34 _ _ hF2
              refine ⟨vs0, hF4, by rw [lvs]; omega, same_mut (sF.trans s34) hF, fs0 ++ [.among l (decide ((oN : Int) = 1))], _, upd_same, ?_, fun f hf => ?_, by simp, by rw [List.length_append, List.length_singleton]; omega⟩
              · exact Each.snoc (ef0.imp fun f u d => dp_nl (NL.trans (.of s34) (nl_upd hF4)) _ _ f.tup d) (dp_nl (nl_upd hF4) _ _ (PF.tup _) (.tup (.inl (.inl upd_same)) (.cons (.str _) (.cons (.str _) (.cons (.bl _) .nil)))))
              · refine (List.mem_append.mp hf).elim (of0 f) fun e => ?_
                rw [List.mem_singleton.mp e]
                refine ⟨⟨okl, by omega⟩, ?_, rfl⟩
                rcases (by omega : oN = 0 ∨ oN = 1) with rfl | rfl
                · have e : decide (((0 : Nat) : Int) = 1) = false := rfl
                  rw [e]
                  trivial
                · have e : decide (((1 : Nat) : Int) = 1) = true := rfl
                  rw [e]
                  show l.length ≤ 3
                  omega
          · subst h
            exact ⟨fs0, vs0, rfl, sF, hF2, ef0, of0, hne0, by omega⟩
        · rintro σ H3 ⟨fs, vs, rfl, s3, hF3, ef, of, hne, hlf⟩
          have hL3 := s3 _ _ hl1
          have eachS : Each (fun f u H => Dp K H u (SF.d f)) ss us H3 := each.imp fun f u d => dp_mono s3 _ _ d
          have okP : PartsOk fs := ⟨hne, fun f hf => (of f hf).1, notwo_of fun f hf => (of f hf).2.2, by omega⟩
          refine l_app rfl hL3 ?_
          walk_at "rd"
          refine ⟨vs, .inl ⟨.inl (.inl hF3), fun l hl' p' hp' => ?_⟩⟩
          have sl := same_new (o := .tup vs) hl'
          have sp := same_new (o := .tup [V.str (Str.ofString "segment"), V.ref l]) hp'
          have s5 := sl.trans sp
          refine ⟨us, s5 _ _ hL3, by rw [each.1]; omega, same_mut ((sm.trans s3).trans s5) hL, ss ++ [.seg fs], _, upd_same, forms_snoc (s5 _ _ hL3) (eachS.imp fun f u d => dp_mono s5 _ _ d) (seg_d ef hl' hp'), fun _ => by simp, fun s h => ?_, twoD_snoc two (fun e => nomatch e), ?_, fun gs h => ?_⟩
          · exact (List.mem_append.mp h).elim (oks s) fun e => by rw [List.mem_singleton.mp e]; exact okP
          · rw [List.length_append]; exact Nat.succ_le_succ len
          · exact (List.mem_append.mp h).elim (low gs) fun e => by cases List.mem_singleton.mp e; exact fun f hf => (of f hf).2.1
      · obtain ⟨ss, us, x3, x4, x5, x6, x7, e, s1, h1, h2, h3, h4, h5, h6, h7⟩ := h
        exact ⟨ss, us, x3, x4, x5, x6, x7, e, s1, h1, h2, h3 (by omega), h4, h5, by omega, h7⟩
    · rintro σ H1 ⟨ss, us, x3, x4, x5, x6, x7, rfl, s1, h1, h2, h3, h4, h5, h6, h7⟩
      walk_at "rd"
      refine ⟨us, .inl ⟨.inl (.inl h1), fun l hl' => ⟨⟨by decide, by decide⟩, ⟨by decide, by decide⟩, fun p' hp' => ?_⟩⟩⟩
      exact q _ ⟨ss, _, _⟩ _ ⟨h3, h4, h5, Nat.le_trans h6 (by decide)⟩ h7 ((s1.trans (same_new hl')).trans (same_new hp')) (row_d (r := ⟨ss, _, _⟩) h2 hl' hp')
def spWithL (K : PySem.W.Frag) : Sp := fun vs H Q _ => ∃ F c p ws rs, vs = [.ref F, .int c, .ref p] ∧ RowsL K rs F H ∧ rs.length ≤ 1000 ∧ SqL K H p ws ∧ ws.length = 4 ∧ ws.Nodup ∧ (∀ v ∈ ws, SignV v) ∧ ∀ G rs' H', Same H H' → RowsL K rs' G H' → rs'.length = rs.length → Q (.ref G) H'
theorem ok__law_with_long (T : Txt K mg) : OkD P w K mg base 3 (fA K "_law_with_long") ["_law_forms", "_law_cell_here", "_law_signs_here"] [] (spWithL K) := by
  refine okD T.F__law_with_long sc__law_with_long (fun _ _ _ _ _ _ us hl => match us, hl with | [_, _, _], _ => rfl) ?_ ?_
  · rintro vs H Q E ⟨F, c, p, ws, rs, rfl, _⟩
    rfl
  · rintro cdv A outer s H vs Q E hr ⟨F, c, p, ws, rs, rfl, ⟨us, hF, each, oks⟩, hn, hs, hl, hnd, hw, q⟩
    refine ⟨_, (pss_cons (ps_if (pt_mid (PW.pt (pw_or (pt_cmpR (o_eq (K := K) (hu64 hr)) (pv 0) (pe_lst pa_nil) (nomark _)) (pw_or1 (pt_cmpR o_gt (pe_op op_mod (pe_op op_fdivW (pv 1) pe_int) pe_int) pe_int (nomark _)))))) (pss_one (ps_ret (pv 0))) pss_nil)
  (pss_one (ps_ret (pe_op (o_add (K := K)) (pe_slice (o_sl (K := K)) (pv 0) po_none (po_some (pe_un un_neg pe_int))) (pe_lst (pa_cons (pe_cal (ok__law_long_row T) (hr.mono (by decide)) rfl T.g__law_long_row (pasE (takes_of rfl rfl rfl rfl) (fun _ _ _ _ h => h)) (pa_cons (pe_op op_fdivW (pv 1) pe_int) (pa_cons (pv 2) pa_nil))) pa_nil)))))), ?_⟩
    have tobj := T.obj
    refine q_if (fun b H' => Same H H' ∧ (b = false → rs ≠ [])) ?_ (fun H1 h => ?_) (fun H1 h => ?_)
    · walk_at "rd"
      intro n hn
      have sn := same_new (o := .lst []) hn
      refine eq_nil (.inl (.inl (sn _ _ hF))) (.inl (.inl upd_same)) ⟨_, rfl, ite2 (fun h => ?_) fun h => ?_⟩
      · exact ⟨sn, fun h => h.elim⟩
      · have hne : rs ≠ [] := fun e => by
          have hu : us = [] := List.length_eq_zero_iff.mp (by rw [each.1, e]; rfl)
          simp [hu] at h
        exact ⟨⟨by decide, by decide⟩, sn, fun _ => hne⟩
    · obtain ⟨s1, _⟩ := h
      walk_at "rd"
      exact q F rs H1 s1 (RowsL.mono (show RowsL K rs F H from ⟨us, hF, each, oks⟩) s1) rfl
    · obtain ⟨s1, hb⟩ := h
      have hne := hb rfl
      have hF1 := s1 _ _ hF
      have hs1 := same_l s1 hs
      walk_at "rd"
      have hrl : 0 < rs.length := List.length_pos_iff.mpr hne
      have lc := cut_len (us := us) (lo := none) (hi := some (-1))
      refine .inl ⟨us, .inl (.inl hF1), fun p1 hp1 => ⟨⟨by decide, by decide⟩, _, p, ws, rfl, same_l (same_new hp1) hs1, hl, hnd, hw, fun v r H2 ok lo s2 d p2 hp2 => .inl ⟨_, (same_new hp2) _ _ (s2 _ _ upd_same), _, upd_same, ?_, fun p3 hp3 => ?_⟩⟩⟩
      · rw [List.length_singleton]; have := each.1; omega
      · have sx : Same H1 (upd (upd H2 p2 (.lst [v])) p3 (.lst (cutV us none (some (-1)) ++ [v]))) := (((same_new hp1).trans s2).trans (same_new hp2)).trans (same_new hp3)
        have s23 : Same H2 (upd (upd H2 p2 (.lst [v])) p3 (.lst (cutV us none (some (-1)) ++ [v]))) := (same_new hp2).trans (same_new hp3)
        refine q p3 (rs.take (rs.length - 1) ++ [r]) _ (s1.trans sx) ⟨_, upd_same, ?_, fun g hg => ?_⟩ ?_
        · have e3 : cutV us none (some (-1)) = us.take (rs.length - 1) := by rw [cut_butlast, each.1]
          have hx : RowsE K rs us (upd (upd H2 p2 (.lst [v])) p3 (.lst (cutV us none (some (-1)) ++ [v]))) := each.imp fun _ _ d => dp_mono (s1.trans sx) _ _ d
          have hd : Dp K (upd (upd H2 p2 (.lst [v])) p3 (.lst (cutV us none (some (-1)) ++ [v]))) v r.d := dp_mono s23 _ _ d
          have h := (Each.take hx (rs.length - 1)).snoc (f := r) hd
          rw [← e3] at h
          exact h
        · exact (List.mem_append.mp hg).elim (fun h => oks g (List.mem_of_mem_take h)) fun e => by rw [List.mem_singleton.mp e]; exact ⟨ok, lo⟩
        · rw [List.length_append, List.length_take, List.length_singleton]; omega

/-! ### names as texts -/
theorem names_list : ∀ {us : List V}, (∀ u ∈ us, NmV 400 u) → ∃ nms : List (List Nat), us = nmsV nms ∧ ∀ nm ∈ nms, nm ≠ [] ∧ nm.length ≤ 400 ∧ ∀ c ∈ nm, c ∈ SIG
  | [], _ => ⟨[], rfl, fun _ h => nomatch h⟩
  | u :: r, h => by
    obtain ⟨l, rfl, h1, h2, h3⟩ := h u List.mem_cons_self
    obtain ⟨nms, rfl, hs⟩ := names_list (us := r) fun v hv => h v (List.mem_cons_of_mem _ hv)
    exact ⟨l :: nms, rfl, fun nm hnm => (List.mem_cons.mp hnm).elim (fun e => e ▸ ⟨h1, h2, h3⟩) (hs nm)⟩
theorem RF.sz {r : RF} (h : r.Ok) : RowSz r := ⟨RF.len1 h, RF.len2 h⟩

/-! ### the numbers of the rows that fit -/
def hitsN (p : RF → Bool) (rs : List RF) (k : Nat) : List Nat := (List.range k).filter fun i => match rs[i]? with
  | some r => p r
  | none => false
theorem hits_succ {p : RF → Bool} {rs : List RF} {k : Nat} {r : RF} (h : rs[k]? = some r) : hitsN p rs (k + 1) = hitsN p rs k ++ (if p r = true then [k] else []) := by
  unfold hitsN
  rw [List.range_succ, List.filter_append]
  congr 1
  simp only [List.filter_cons, List.filter_nil, h]
theorem hits_mem {p : RF → Bool} {rs : List RF} {k i : Nat} : i ∈ hitsN p rs k ↔ i < k ∧ ∃ r, rs[i]? = some r ∧ p r = true := by
  unfold hitsN
  rw [List.mem_filter, List.mem_range]
  refine and_congr_right fun _ => ?_
  cases rs[i]? with
  | none => simp
  | some r => simp
theorem hits_up {p : RF → Bool} {rs : List RF} {k : Nat} : (hitsN p rs k).Pairwise (· < ·) := List.pairwise_lt_range.filter _
theorem last_max : ∀ {l : List Nat} {x j : Nat}, l.Pairwise (· < ·) → l.getLast? = some x → j ∈ l → j ≤ x
  | [], _, _, _, h, _ => nomatch h
  | [a], x, j, _, h, hj => by
    cases (show some a = some x from h)
    rw [List.mem_singleton.mp hj]
    exact Nat.le_refl _
  | a :: b :: r, x, j, hp, h, hj => by
    rw [List.getLast?_cons_cons] at h
    have hp' := List.pairwise_cons.mp hp
    rcases List.mem_cons.mp hj with rfl | hj
    · exact Nat.le_of_lt (hp'.1 x (List.mem_of_getLast? h))
    · exact last_max hp'.2 h hj
theorem hits_last {p : RF → Bool} {rs : List RF} : IsLast p rs (hitsN p rs rs.length).getLast? := by
  refine ⟨fun i e => ?_, fun j r e f => ?_⟩
  · have h := hits_mem.mp (List.mem_of_getLast? e)
    exact h.2
  · have hm : j ∈ hitsN p rs rs.length := hits_mem.mpr ⟨(List.getElem?_eq_some_iff.mp e).1, r, e, f⟩
    cases hl : (hitsN p rs rs.length).getLast? with
    | none =>
      rw [List.getLast?_eq_none_iff] at hl
      rw [hl] at hm
      cases hm
    | some x => exact ⟨x, rfl, last_max hits_up hl hm⟩

/-! ### split, startswith, endswith -/
section
variable {X : Cx}
def rSplit : V → List V → Hp → VK → Prop := fun x xs H Q => match x, xs with
  | .str a, [.str b] => (b.length == 0) = false ∧ a.length + 2 ≤ sizeLine ∧ rNewStrs (Txt.split a b) H Q
  | _, _ => False
theorem mo_split : MtR X "str.split" rSplit := by
  refine MtR.imp mt_split fun x xs H Q h => ?_
  match x, xs, h with
  | .str a, [.str b], ⟨h1, h2, q⟩ => exact ⟨a, b, rfl, rfl, h1, h2, q⟩
def rStrB (f : Str → Str → Bool) : V → List V → Hp → VK → Prop := fun x xs H Q => match x, xs with
  | .str a, [.str b] => Q (.bl (f a b)) H
  | _, _ => False
theorem mo_endswith : MtR X "str.endswith" (rStrB Txt.endswith) := by
  refine MtR.imp mt_endswith fun x xs H Q h => ?_
  match x, xs, h with
  | .str a, [.str b], q => exact ⟨a, b, rfl, rfl, q⟩
end
/-! ### the names of a path -/
def splW (w : List Nat) : List (List Nat) := TL.spl [47] 0 [] w
def folderW (ps : List (List Nat)) : Bool := decide (1 < ps.length) && decide (ps.getLast? = some [])
def nmOk (l : List Nat) : Bool := !decide (l = []) && l.all fun c => decide (c ∈ SIG)
def pathN (w : List Nat) : Option (List (List Nat) × Bool) :=
  let ps := splW w
  let ns := if folderW ps = true then ps.dropLast else ps
  if ns.all nmOk = true then some (ns, folderW ps) else none
theorem pathN_def (w : List Nat) : pathN w = if (if folderW (splW w) = true then (splW w).dropLast else splW w).all nmOk = true then some ((if folderW (splW w) = true then (splW w).dropLast else splW w), folderW (splW w)) else none := rfl
theorem nmOk_iff {l : List Nat} : nmOk l = true ↔ l ≠ [] ∧ ∀ c ∈ l, c ∈ SIG := by
  unfold nmOk
  rw [Bool.and_eq_true, List.all_eq_true]
  simp
theorem spl_ne : ∀ (w acc : List Nat) (k : Nat), TL.spl [47] k acc w ≠ []
  | [], _, _ => by simp [TL.spl]
  | c :: r, acc, 0 => by
    show (if TL.pre [47] (c :: r) = true then acc :: TL.spl [47] 0 [] r else TL.spl [47] 0 (acc ++ [c]) r) ≠ []
    split
    · simp
    · exact spl_ne r _ 0
  | _ :: r, acc, k + 1 => spl_ne r acc k
theorem spl_len : ∀ (w acc : List Nat) (k : Nat), ∀ p ∈ TL.spl [47] k acc w, p.length ≤ acc.length + w.length
  | [], acc, k, p, h => by
    have h' : p ∈ [acc] := by cases k <;> exact h
    rw [List.mem_singleton.mp h']
    exact Nat.le_add_right _ _
  | c :: r, acc, 0, p, h => by
    have h' : p ∈ (if TL.pre [47] (c :: r) = true then acc :: TL.spl [47] 0 [] r else TL.spl [47] 0 (acc ++ [c]) r) := h
    split at h'
    · rcases List.mem_cons.mp h' with rfl | h2
      · exact Nat.le_add_right _ _
      · have := spl_len r [] 0 p h2
        simp only [List.length_nil, List.length_cons] at this ⊢
        omega
    · have := spl_len r (acc ++ [c]) 0 p h'
      rw [List.length_append, List.length_singleton] at this
      rw [List.length_cons]
      omega
  | c :: r, acc, k + 1, p, h => by
    have := spl_len r acc k p h
    rw [List.length_cons]
    omega
theorem spl_cnt : ∀ (w acc : List Nat) (k : Nat), (TL.spl [47] k acc w).length ≤ w.length + 1
  | [], acc, k => by cases k <;> exact Nat.le_refl 1
  | c :: r, acc, 0 => by
    show (if TL.pre [47] (c :: r) = true then acc :: TL.spl [47] 0 [] r else TL.spl [47] 0 (acc ++ [c]) r).length ≤ _
    split
    · have := spl_cnt r [] 0
      simp only [List.length_cons] at this ⊢
      omega
    · have := spl_cnt r (acc ++ [c]) 0
      rw [List.length_cons]
      omega
  | c :: r, acc, k + 1 => by
    have := spl_cnt r acc k
    rw [List.length_cons]
    exact Nat.le_succ_of_le this
theorem path_sub {w : List Nat} {nm : List Nat} (h : nm ∈ (if folderW (splW w) = true then (splW w).dropLast else splW w)) : nm.length ≤ w.length := by
  have hm : nm ∈ splW w := by
    split at h
    · exact List.dropLast_subset _ h
    · exact h
  have := spl_len w [] 0 nm hm
  simp only [List.length_nil] at this
  omega
theorem path_cnt {w : List Nat} {ns : List (List Nat)} {fo : Bool} (h : pathN w = some (ns, fo)) : ns.length ≤ w.length + 1 := by
  have hc : (splW w).length ≤ w.length + 1 := spl_cnt w [] 0
  rw [pathN_def] at h
  generalize hns : (if folderW (splW w) = true then (splW w).dropLast else splW w) = ns' at h
  by_cases ha : ns'.all nmOk = true
  · rw [if_pos ha] at h
    have e : ns' = ns := congrArg Prod.fst (Option.some.inj h)
    rw [← e, ← hns]
    split
    · rw [List.length_dropLast]; omega
    · exact hc
  · rw [if_neg ha] at h
    cases h
theorem slash_sig {l : List Nat} (h : ∀ c ∈ l, c ∈ SIG) : 47 ∉ l := fun hm => absurd (h 47 hm) (by decide +kernel)
/-- good names joined -/
theorem pathN_join {nms : List (List Nat)} {fo : Bool} (hne : nms ≠ []) (h : ∀ nm ∈ nms, nm ≠ [] ∧ ∀ c ∈ nm, c ∈ SIG) : pathN (TL.joinL [47] nms ++ (if fo = true then [47] else [])) = some (nms, fo) := by
  have hall : nms.all nmOk = true := List.all_eq_true.mpr fun nm hn => nmOk_iff.mpr (h nm hn)
  cases fo with
  | false =>
    rw [if_neg Bool.false_ne_true, List.append_nil]
    have e : splW (TL.joinL [47] nms) = nms := TL.spl_join hne fun p hp => slash_sig (h p hp).2
    have ef : folderW nms = false := by
      unfold folderW
      rw [Bool.and_eq_false_iff]
      refine .inr (decide_eq_false fun hl => ?_)
      exact (h [] (List.mem_of_getLast? hl)).1 rfl
    rw [pathN_def, e, ef, if_neg Bool.false_ne_true, hall]
    rfl
  | true =>
    rw [if_pos rfl]
    have j : ∀ l : List (List Nat), l ≠ [] → TL.joinL [47] (l ++ [[]]) = TL.joinL [47] l ++ [47] := by
      intro l
      induction l with
      | nil => exact fun h => absurd rfl h
      | cons p r ih =>
        intro _
        cases r with
        | nil => rfl
        | cons q r =>
          show p ++ ([47] ++ TL.joinL [47] ((q :: r) ++ [[]])) = (p ++ ([47] ++ TL.joinL [47] (q :: r))) ++ [47]
          rw [ih (by simp)]
          simp
    have e : splW (TL.joinL [47] nms ++ [47]) = nms ++ [[]] := by
      rw [← j nms hne]
      refine TL.spl_join (by simp) fun p hp => ?_
      exact (List.mem_append.mp hp).elim (fun hp => slash_sig (h p hp).2) fun hp => by rw [List.mem_singleton.mp hp]; exact List.not_mem_nil
    have ef : folderW (nms ++ [[]]) = true := by
      unfold folderW
      rw [Bool.and_eq_true]
      refine ⟨decide_eq_true ?_, decide_eq_true (by simp)⟩
      have := List.length_pos_iff.mpr hne
      rw [List.length_append, List.length_singleton]
      omega
    rw [pathN_def, e, ef, if_pos rfl, List.dropLast_concat, hall]
    rfl

/-! ### names_of -/
def spNamesOf (K : PySem.W.Frag) : Sp := fun vs H Q E => ∃ wd : List Nat, vs = [.str (S wd)] ∧ wd.length ≤ 1000000 ∧
  (∀ ns fo p F H', pathN wd = some (ns, fo) → Same H H' → H' p = some (.tup [.ref F, .bl fo]) → H' F = some (.lst (nmsV ns)) → H F = none → Q (.ref p) H') ∧ (pathN wd = none → ∀ H', Same H H' → E (.ref (fA K "NoPath")) none H')
theorem ok_names_of (T : Txt K mg) : OkD P w K mg base 2 (fA K "names_of") ["path"] [] (spNamesOf K) := by
  refine okD T.F_names_of sc_names_of (fun _ _ _ _ _ _ us hl => match us, hl with | [_], _ => rfl) ?_ ?_
  · rintro vs H Q E ⟨wd, rfl, _⟩
    rfl
  · rintro cdv A outer s H vs Q E hr ⟨wd, rfl, hw, q1, q2⟩
    refine ⟨_, (pss_cons (ps_set (i := 1) sc_names_of.nd rfl (Or.inl rfl) (pe_mid (pe_bmK (K := K) PySem.F.plainAttrs_str PySem.F.slot_str_split PySem.F.type_str_split mo_split (pv 0) (pa_cons pe_str pa_nil))))
  (pss_cons (ps_set (i := 2) sc_names_of.nd rfl (Or.inl rfl) (pe_mid (pe_andK (K := K) (pe_cmpR o_gt (pe_callB (o_lenW (K := K) (w := w)) (by rfl) T.fr_len boot_len (pa_cons (pv 1) pa_nil)) pe_int (nomark _)) (pe_one (pe_cmpR (o_eq (K := K) (hu64 hr)) (pe_ix (o_ix (K := K)) (pv 1) (pe_un un_neg pe_int) (fun _ _ => rfl)) pe_str (nomark _))))))
  (pss_cons (ps_mid (ps_if (pt_mid (pt_tru (K := K) (pv 2) (by intro _; rfl))) (pss_one (ps_expr (pe_bm0K' (K := K) PySem.F.plainAttrs_list PySem.F.slot_list_pop PySem.F.type_list_pop mt_pop (pv 1)))) pss_nil))
  (pss_cons (ps_mid (ps_for (passes_of rfl) rfl (pi_mid (o_it (K := K) rfl (pv 1))) (pg_name (i := 3) sc_names_of.nd rfl (Or.inl rfl)) (pss_one (ps_if (pt_mid (PW.pt (pw_or (pt_cmpR (o_eq (K := K) (hu64 hr)) (pv 3) pe_str (nomark _)) (pw_or1 (pt_not (pt_tru (K := K) (pe_callB (o_all (K := K) rfl) (by rfl) T.fr_all (by decide +kernel) (pa_cons (pe_lc (own := [("sign", 4)]) (g := (gName 4)) (tt := tYes) rfl sc_names_of.nd (pi_mid (o_it (K := K) rfl (pv 3))) (blkOk_by (N := N_names_of) (sc := defScope TX.s_names_of) (by decide +kernel)) (fun _ _ _ _ _ => (pg_name (i := 4) sc_names_of.nd rfl (Or.inl rfl))) (fun _ _ _ _ _ => pts_nil) (fun _ _ _ _ _ => (pe_mid (pe_cal (ok_is_sign T) (hr.mono (by decide)) rfl T.g_is_sign pasN (pa_cons (pv 4) pa_nil))))) pa_nil)) (by intro _; rfl))))))) (pss_one (ps_raise rfl (takes_of rfl rfl rfl rfl) (pmk_own PySem.F.excBase_ValueError T.x_NoPath.1 T.g_NoPath T.x_NoPath.2.1 (raises_own T.x_NoPath.2.2.1 T.x_NoPath.2.2.2) rfl))) pss_nil))))
  (pss_one (ps_ret (pe_tup (pa_cons (pv 1) (pa_cons (pv 2) pa_nil))))))))), ?_⟩
    have tobj := T.obj
    refine q_midG (fun v H' => ∃ F, v = .ref F ∧ Same H H' ∧ H F = none ∧ H' F = some (.lst (nmsV (splW wd)))) ?_ ?_
    · walk_at "rd"
      have e : Txt.split (S wd) (S [47]) = (splW wd).map S := split_S (b := [47]) (by simp) (by decide)
      refine ⟨by decide, by rw [S_len, sizeLine_eq]; omega, fun p hp => ⟨p, rfl, same_new hp, hp, ?_⟩⟩
      rw [upd_same]
      show some (HO.lst ((Txt.split (S wd) (S [47])).map V.str)) = _
      rw [e]
      rfl
    rintro _ H1 ⟨F, rfl, s1, hFn, hF⟩
    have lsp : (nmsV (splW wd)).length = (splW wd).length := nms_len
    have nsp : splW wd ≠ [] := spl_ne wd [] 0
    refine q_midG (fun v H' => H' = H1 ∧ v = .bl (folderW (splW wd))) ?_ ?_
    · walk_at "rd"
      refine .inr ⟨_, .inl ⟨_, .inl (.inl hF), rfl⟩, ?_⟩
      rw [lsp]
      refine ite2 (fun h => ?_) fun h => ?_
      · obtain ⟨nm, hnm⟩ : ∃ nm, (splW wd).getLast? = some nm := by
          cases e : (splW wd).getLast? with
          | none => exact absurd (List.getLast?_eq_none_iff.mp e) nsp
          | some nm => exact ⟨nm, rfl⟩
        have hlast : (nmsV (splW wd)).getLast? = some (.str (S nm)) := by
          unfold nmsV
          rw [List.getLast?_map, List.getLast?_map, hnm]
          rfl
        refine ⟨_, .inl (.inl (.inl hF)), _, atI_last hlast, ?_⟩
        walk_at "rd"
        have e1 : decide (S nm = Str.ofString "") = decide (nm = []) := decide_eq_decide.mpr ⟨fun h => S_inj h, fun h => by rw [h]; rfl⟩
        have e2 : folderW (splW wd) = decide (nm = []) := by
          unfold folderW
          rw [decide_eq_true (show 1 < (splW wd).length from by omega), hnm]
          simp
        rw [e1, e2]
      · have e2 : folderW (splW wd) = false := by
          unfold folderW
          rw [decide_eq_false (show ¬ 1 < (splW wd).length from by omega)]
          rfl
        rw [e2]
        simp
        omega
    rintro _ _ ⟨rfl, rfl⟩
    rename_i H1
    generalize hns : (if folderW (splW wd) = true then (splW wd).dropLast else splW wd) = ns
    have hpn : pathN wd = if ns.all nmOk = true then some (ns, folderW (splW wd)) else none := by rw [← hns]; rfl
    refine q_stm (fun σ H' => Same H H' ∧ H' F = some (.lst (nmsV ns)) ∧ ∃ x3 x4, σ = [some (.str (S wd)), some (.ref F), some (.bl (folderW (splW wd))), x3, x4]) ?_ ?_
    · refine l_if (fun b H' => H' = H1 ∧ b = folderW (splW wd)) (by walk_at "rd") (fun H2 h => ?_) (fun H2 h => ?_)
      · obtain ⟨rfl, hb⟩ := h
        rw [← hb, if_pos rfl] at hns
        walk_at "rd"
        have hl0 : 0 < (nmsV (splW wd)).length := by rw [lsp]; exact List.length_pos_iff.mpr nsp
        refine ⟨⟨_, .inl (.inl hF)⟩, _, hF, ⟨_, List.getElem?_eq_getElem (by omega)⟩, same_mut s1 hFn, ?_⟩
        rw [upd_same, ← hns]
        simp [nmsV]
      · obtain ⟨rfl, hb⟩ := h
        rw [← hb, if_neg Bool.false_ne_true] at hns
        subst hns
        exact ⟨s1, hF, _, _, rfl⟩
    rintro σ H2 ⟨s2, hF2, x3, x4, rfl⟩
    refine q_stm (fun σ H' => Same H H' ∧ H' F = some (.lst (nmsV ns)) ∧ ns.all nmOk = true ∧ ∃ x3 x4, σ = [some (.str (S wd)), some (.ref F), some (.bl (folderW (splW wd))), x3, x4]) ?_ ?_
    · refine for_mid (J0 := Itl K F) (H0 := H2) ?_ (walk_list (K := K) (a := F) (xs := nmsV ns)) (fun k σ H' => Same H2 H' ∧ (ns.take k).all nmOk = true ∧ ∃ x3 x4, σ = [some (.str (S wd)), some (.ref F), some (.bl (folderW (splW wd))), x3, x4]) ⟨Same.refl _, rfl, _, _, rfl⟩ (fun _ _ _ _ h => .inl (.inl (h.1 _ _ hF2))) ?_ (fun σ H' h => ?_)
      · walk_at "rd"
        exact .inl ⟨_, .inl (.inl hF2)⟩
      · rintro k x σ H3 H3' hk ⟨s3, hall, x3, x4, rfl⟩ ⟨rfl, hx⟩
        obtain ⟨nm, hnm, rfl⟩ := nms_at hx
        refine l_if (fun b H' => Same H3' H' ∧ b = !nmOk nm) ?_ (fun H4 h => ?_) (fun H4 h => ?_)
        · walk_at "rd"
          refine ite2 (fun h => ?_) fun h => ?_
          · have e : nm = [] := S_inj h
            rw [e]
            rfl
          have hne : nm ≠ [] := fun e => h (by rw [e]; rfl)
          have hnl : nm.length < 16777216 := by
            have := path_sub (w := wd) (by rw [hns]; exact List.mem_of_getElem? hnm)
            omega
          refine lc_text (z := S nm) (H0 := H3') (fun c => .bl (decide (c ∈ SIG))) ?_ (by rw [S_len]; exact hnl) (fun _ => rfl) ?_ ?_
          · walk_at "rd"
          · intro c H' hc s2
            walk_at "rd"
            refine ⟨⟨#[c]⟩, rfl, (by rw [sizeLine_eq]; show 1 ≤ 16777216; decide), ?_⟩
            walk_at "rd"
            refine decide_eq_decide.mpr ⟨fun ⟨d, hd, e⟩ => ?_, fun hd => ⟨c, hd, rfl⟩⟩
            rw [S1_inj e]
            exact hd
          · intro p' H' hp' s2 hH'
            walk_at "rd"
            refine ⟨nm.map fun c => decide (c ∈ SIG), .inl (.inl (by rw [hH', List.map_map]; rfl)), s2, ?_⟩
            unfold nmOk
            rw [decide_eq_false hne, List.all_map]
            rfl
        · obtain ⟨s4, hb⟩ := h
          have hbad : ¬ ns.all nmOk = true := fun h => by
            have := List.all_eq_true.mp h nm (List.mem_of_getElem? hnm)
            rw [this] at hb
            cases hb
          exact q2 (by rw [hpn, if_neg hbad]) H4 ((s2.trans s3).trans s4)
        · obtain ⟨s4, hb⟩ := h
          have hok : nmOk nm = true := by cases h : nmOk nm <;> simp [h] at hb ⊢
          refine ⟨s3.trans s4, ?_, _, _, rfl⟩
          rw [List.take_succ, hnm, List.all_append, hall]
          simp [hok]
      · obtain ⟨s3, hall, h⟩ := h
        rw [List.take_of_length_le (by rw [nms_len]; exact Nat.le_refl _)] at hall
        exact ⟨s2.trans s3, s3 _ _ hF2, hall, h⟩
    · rintro σ H3 ⟨s3, hF3, hall, x3, x4, rfl⟩
      walk_at "rd"
      intro p hp
      have sp := same_new (o := .tup [V.ref F, V.bl (folderW (splW wd))]) hp
      refine q1 ns _ p F _ ?_ (s3.trans sp) upd_same (sp _ _ hF3) hFn
      rw [hpn, if_pos hall]

/-! ### a path, sign by sign (plain) -/
/-! ### going down -/
theorem q_pair {i j : Nat} {te : TE} {u : TS} {D : Ends} {σ : L2.St} {H : Hp} (C : V → V → Hp → Prop) (h : te σ H fun v H1 => ∃ p x y, v = .ref p ∧ SqT K H1 p [x, y] ∧ C x y H1) (k : ∀ x y H1, C x y H1 → u D ((σ.set i (some x)).set j (some y)) H1) :
    tSeq (tAsg (tMid te) (gTup K 2 (gCons (gName i) (gCons (gName j) gNil)))) u D σ H :=
  ⟨_, h, fun v H1 ⟨p, x, y, e, hp, c⟩ => ⟨p, [x, y], e, hp, rfl, x, [y], rfl, y, [], rfl, rfl, k x y H1 c⟩⟩
theorem for_pair {J0 : It} {n : Nat} {G : Hp → Prop} {f g : Nat → Option V} {wi : TI} {i j : Nat} {tb : TS} {D : Ends} {σ : L2.St} {H H0 : Hp} (h : wi σ H fun J H1 => J = J0 ∧ H1 = H0) (wk : Walk J0 n G (YPair f g)) (Pv : Nat → L2.St → Hp → Prop) (h0 : Pv 0 σ H0) (hG : ∀ i σ H, i ≤ n → Pv i σ H → G H)
    (hs : ∀ k x y σ H H', k < n → Pv k σ H → Same H H' → f k = some x → g k = some y → tb { D with nx := Pv (k + 1), ct := Pv (k + 1), bk := D.nx } ((σ.set i (some x)).set j (some y)) H') (hd : ∀ σ H, Pv n σ H → D.nx σ H) :
    tFor (iMid wi) (gTup K 2 (gCons (gName i) (gCons (gName j) gNil))) tb D σ H := by
  refine for_midg h wk Pv h0 hG ?_ hd
  rintro k v σ H1 H2 hk p ⟨T, x, y, rfl, hT, rfl, hx, hy⟩
  exact ⟨T, [x, y], rfl, .inl (.inl upd_same), rfl, x, [y], rfl, y, [], rfl, rfl, hs k x y σ H1 _ hk p (same_new hT) hx hy⟩
def lastN (p : RF → Bool) (rs : List RF) : Option Nat := (hitsN p rs rs.length).getLast?
theorem last_is {p : RF → Bool} {rs : List RF} {o : Option Nat} (h : IsLast p rs o) : o = lastN p rs := h.uniq hits_last
def stepN (rs : List RF) (nms : List (List Nat)) (fo : Bool) (m : Nat) : Option Nat := lastN (rfit (nms.take m) (fo || decide (m < nms.length))) rs
def stops (rs : List RF) (o : Option Nat) : Bool := match o with
  | some i => match rs[i]? with
    | some r => !r.spares
    | none => false
  | none => false
def IsDown (rs : List RF) (nms : List (List Nat)) (fo : Bool) (b : Bool) (o : Option Nat) : Prop :=
  (b = true ∧ ∃ k, k < nms.length ∧ o = stepN rs nms fo (k + 1) ∧ stops rs o = true ∧ ∀ j, j < k → stops rs (stepN rs nms fo (j + 1)) = false) ∨
  (b = false ∧ o = stepN rs nms fo nms.length ∧ ∀ j, j < nms.length → stops rs (stepN rs nms fo (j + 1)) = false)
theorem IsDown.uniq {rs : List RF} {nms : List (List Nat)} {fo b b' : Bool} {o o' : Option Nat} (h : IsDown rs nms fo b o) (g : IsDown rs nms fo b' o') : b = b' ∧ o = o' := by
  rcases h with ⟨rfl, k, hk, rfl, hs, hj⟩ | ⟨rfl, rfl, hj⟩ <;> rcases g with ⟨rfl, k', hk', rfl, hs', hj'⟩ | ⟨rfl, rfl, hj'⟩
  · rcases Nat.lt_trichotomy k k' with q | q | q
    · rw [hj' k q] at hs; cases hs
    · rw [q]; exact ⟨rfl, rfl⟩
    · rw [hj k' q] at hs'; cases hs'
  · rw [hj' k hk] at hs; cases hs
  · rw [hj k' hk'] at hs'; cases hs'
  · exact ⟨rfl, rfl⟩
theorem nms_cut {nms : List (List Nat)} {m : Nat} (h : m ≤ nms.length) : cutV (nmsV nms) none (some (m : Int)) = nmsV (nms.take m) := by
  unfold cutV
  rw [HT.sIx_none, HT.sIx_nat, nms_len, Nat.min_eq_left h, List.drop_zero, Nat.sub_zero]
  unfold nmsV
  rw [List.map_take, List.map_take]
theorem pathN_ne {wd : List Nat} {ns : List (List Nat)} {fo : Bool} (h : pathN wd = some (ns, fo)) : ns ≠ [] := by
  intro e0
  subst e0
  have hne : splW wd ≠ [] := spl_ne wd [] 0
  rw [pathN_def] at h
  generalize hns : (if folderW (splW wd) = true then (splW wd).dropLast else splW wd) = ns' at h
  by_cases ha : ns'.all nmOk = true
  · rw [if_pos ha] at h
    have e : ns' = [] := congrArg Prod.fst (Option.some.inj h)
    subst e
    split at hns
    · rename_i hf
      unfold folderW at hf
      rw [Bool.and_eq_true, decide_eq_true_eq] at hf
      have hl := congrArg List.length hns
      rw [List.length_dropLast, List.length_nil] at hl
      omega
    · exact hne hns
  · rw [if_neg ha] at h
    cases h
def RowsO (K : PySem.W.Frag) (rs : List RF) (l : Addr) (H : Hp) : Prop := ∃ us, SqL K H l us ∧ Each (RowV K) rs us H ∧ (∀ r ∈ rs, RowSz r) ∧ rs.length ≤ 1000
theorem RowsO.mono {rs : List RF} {l : Addr} {H H' : Hp} (h : RowsO K rs l H) (s : Same H H') : RowsO K rs l H' := let ⟨us, a, b, c⟩ := h; ⟨us, same_l s a, b.imp fun _ _ d => d.mono s, c⟩
def spTold (K : PySem.W.Frag) : Sp := fun vs H Q E => ∃ l wd rs, vs = [.ref l, .str (S wd)] ∧ wd.length ≤ 1000000 ∧ RowsO K rs l H ∧
  (∀ nms fo, pathN wd = some (nms, fo) → ∀ b o p H', Same H H' → H' p = some (.tup [.bl b, optV o]) → IsDown rs nms fo b o → Q (.ref p) H') ∧ (pathN wd = none → ∀ H', Same H H' → E (.ref (fA K "NoPath")) none H')
theorem ok_told (T : Txt K mg) : OkD P w K mg base 6 (fA K "told") ["rows", "path"] [] (spTold K) := by
  refine okD T.F_told sc_told (fun _ _ _ _ _ _ us hl => match us, hl with | [_, _], _ => rfl) ?_ ?_
  · rintro vs H Q E ⟨l, wd, rs, rfl, _⟩
    rfl
  · rintro cdv A outer s H vs Q E hr ⟨l, wd, rs, rfl, hw, hrs, q1, q2⟩
    refine ⟨_, (pss_cons (ps_asg (pe_mid (pe_cal (ok_names_of T) (hr.mono (by decide)) rfl T.g_names_of (pasE (takes_of rfl rfl rfl rfl) (fun _ _ _ _ h => h)) (pa_cons (pv 1) pa_nil))) (pg_tup rfl (pgs_cons (pg_name (i := 2) sc_told.nd rfl (Or.inl rfl)) (pgs_cons (pg_name (i := 3) sc_told.nd rfl (Or.inl rfl)) pgs_nil))))
  (pss_cons (ps_set (i := 4) sc_told.nd rfl (Or.inl rfl) (pe_mid pe_non))
  (pss_cons (ps_mid (ps_for (passes_of rfl) rfl (pi_mid (pi_range2 rfl T.fr_range (pa_cons pe_int (pa_cons (pe_op (o_add (K := K)) (pe_callB (o_lenW (K := K) (w := w)) (by rfl) T.fr_len boot_len (pa_cons (pv 2) pa_nil)) pe_int) pa_nil)))) (pg_name (i := 5) sc_told.nd rfl (Or.inl rfl)) (pss_cons (ps_set (i := 4) sc_told.nd rfl (Or.inl rfl) (pe_mid (pe_cal (ok_last_fit T) (hr.mono (by decide)) rfl T.g_last_fit (pasE (takes_of rfl rfl rfl rfl) (fun _ _ _ _ h => h)) (pa_cons (pv 0) (pa_cons (pe_slice (o_sl (K := K)) (pv 2) po_none (po_some (pv 5))) (pa_cons (pe_orK (K := K) (pv 3) (pe_one (pe_cmpR o_lt (pv 5) (pe_callB (o_lenW (K := K) (w := w)) (by rfl) T.fr_len boot_len (pa_cons (pv 2) pa_nil)) (nomark _)))) pa_nil))))))
  (pss_one (ps_if (pt_mid (PW.pt (pw_and (pt_cmp (pc_notN (pv 4)) rfl) (pw_and1 (pt_not (pt_tru (K := K) (pe_fldK (K := K) (pe_ix (o_ix (K := K)) (pv 0) (pv 4) (fun _ _ => rfl)) rfl) (by intro _; rfl))))))) (pss_one (ps_ret (pe_tup (pa_cons pe_bl (pa_cons (pv 4) pa_nil))))) pss_nil)))))
  (pss_one (ps_ret (pe_tup (pa_cons pe_bl (pa_cons (pv 4) pa_nil)))))))), ?_⟩
    have tobj := T.obj
    refine q_pair (fun x y H' => Same H H' ∧ ∃ F nms fo, x = .ref F ∧ y = .bl fo ∧ H' F = some (.lst (nmsV nms)) ∧ pathN wd = some (nms, fo)) ?_ ?_
    · walk_at "rd"
      exact ⟨wd, rfl, hw, fun ns fo p F H' e s hp hF _ => ⟨p, rfl, _, _, .inl (.inl hp), s, F, rfl, ns, fo, rfl, hF, e⟩, fun e H' s => q2 e H' s⟩
    rintro _ _ H1 ⟨s1, F, nms, fo, rfl, rfl, hF, hpn⟩
    have nne := pathN_ne hpn
    have hw1 : nms.length ≤ 1000001 := Nat.le_trans (path_cnt hpn) (by omega)
    have hrs1 := hrs.mono s1
    refine q_midG (fun v H' => v = .non ∧ H' = H1) (by walk_at "rd") ?_
    rintro _ _ ⟨rfl, rfl⟩
    rename_i H1
    refine q_stm (fun σ H' => Same H1 H' ∧ ∃ o x5, σ = [some (.ref l), some (.str (S wd)), some (.ref F), some (.bl fo), some (optV o), x5] ∧ o = stepN rs nms fo nms.length ∧ ∀ j, j < nms.length → stops rs (stepN rs nms fo (j + 1)) = false) ?_ ?_
    · refine for_mid (J0 := Itr 1 nms.length) (H0 := H1) ?_ walk_range
        (fun k σ H' => Same H1 H' ∧ ∃ o x5, σ = [some (.ref l), some (.str (S wd)), some (.ref F), some (.bl fo), some (optV o), x5] ∧ (0 < k → o = stepN rs nms fo k) ∧ ∀ j, j < k → stops rs (stepN rs nms fo (j + 1)) = false)
        ⟨Same.refl _, none, none, rfl, fun h => absurd h (by decide), fun j h => absurd h (by omega)⟩ (fun _ _ _ _ _ => trivial) ?_ (fun σ H' h => ?_)
      · walk_at "rd"
        refine .inr ⟨_, .inl ⟨_, .inl (.inl hF), rfl⟩, 1, _, ⟨rfl, rfl⟩, ?_⟩
        rw [nms_len]
        refine ⟨⟨by decide, by decide, by omega, by omega⟩, ?_⟩
        rw [show ((nms.length : Int) + 1 - 1).toNat = nms.length from by omega]
      · rintro k x σ H2 H2' hk ⟨s2, o, x5, rfl, ho, hj⟩ ⟨rfl, rfl⟩
        have hF2 := s2 _ _ hF
        obtain ⟨us, hus, each, szs, hn⟩ := hrs1.mono s2
        have ek : ((1 : Int) + (k : Nat)) = ((k + 1 : Nat) : Int) := by omega
        refine q_midG (fun v H' => Same H2' H' ∧ v = optV (stepN rs nms fo (k + 1))) ?_ ?_
        · walk_at "rd"
          have hk1 : k + 1 ≤ nms.length := hk
          have fin : ∀ p1, H2' p1 = none → ∀ b, b = (fo || decide (k + 1 < nms.length)) → spLast K [.ref l, .ref p1, .bl b] (upd H2' p1 (.lst (cutV (nmsV nms) none (some (1 + (k : Int)))))) (fun v H' => Same H2' H' ∧ v = optV (stepN rs nms fo (k + 1))) E := by
            rintro p1 hp1 b rfl
            have sp := same_new (o := .lst (cutV (nmsV nms) none (some (1 + (k : Int))))) hp1
            refine ⟨l, p1, _, us, rs, nms.take (k + 1), rfl, same_l sp hus, each.imp fun _ _ d => d.mono sp, szs, hn, .inl (.inl ?_), fun o H' s ho => ⟨sp.trans s, by rw [last_is ho]; rfl⟩⟩
            rw [upd_same, ek, nms_cut hk1]
          refine .inl ⟨_, .inl (.inl hF2), fun p1 hp1 => ite2 (fun h => fin p1 hp1 fo (by rw [h]; rfl)) fun h => .inr ⟨_, .inl ⟨_, .inl (.inl ((same_new hp1) _ _ hF2)), rfl⟩, fin p1 hp1 _ ?_⟩⟩
          have hf : fo = false := by simpa using h
          rw [hf, Bool.false_or, nms_len]
          exact decide_eq_decide.mpr ⟨fun h => by omega, fun h => by omega⟩
        rintro _ H3 ⟨s3, rfl⟩
        have hus3 := same_l s3 hus
        have each3 : Each (RowV K) rs us H3 := each.imp fun _ _ d => d.mono s3
        refine l_if (fun b H' => H' = H3 ∧ b = stops rs (stepN rs nms fo (k + 1))) ?_ (fun H4 h => ?_) (fun H4 h => ?_)
        · cases hst : stepN rs nms fo (k + 1) with
          | none =>
            rw [show optV none = V.non from rfl]
            walk_at "rd"
            rfl
          | some i =>
            rw [show optV (some i) = V.int (i : Int) from rfl]
            walk_at "rd"
            have hil : ∃ r, rs[i]? = some r ∧ _ := hits_last.1 i hst
            obtain ⟨r, hri, _⟩ := hil
            obtain ⟨u, hu, ⟨rp, rdx, rt, rus, rfl, ho3, _⟩⟩ := each3.2 i r hri
            refine ⟨us, hus3.elim (fun h => .inl (.inl h)) (fun h => .inl (.inr h)), _, atI_nat hu, _, rfl, ?_⟩
            walk_at "rdh"
            unfold stops
            simp [hri]
        · obtain ⟨rfl, hb⟩ := h
          walk_at "rd"
          intro p hp
          have sp := same_new (o := .tup [V.bl true, optV (stepN rs nms fo (k + 1))]) hp
          exact q1 nms fo hpn true _ p _ (((s1.trans s2).trans s3).trans sp) upd_same (.inl ⟨rfl, k, hk, rfl, hb.symm, hj⟩)
        · obtain ⟨rfl, hb⟩ := h
          refine ⟨s2.trans s3, _, _, rfl, fun _ => rfl, fun j h => ?_⟩
          rcases Nat.lt_or_ge j k with h2 | h2
          · exact hj j h2
          · rw [show j = k from by omega]; exact hb.symm
      · obtain ⟨s2, o, x5, e, ho, hj⟩ := h
        exact ⟨s2, o, x5, e, ho (List.length_pos_iff.mpr nne), hj⟩
    · rintro σ H2 ⟨s2, o, x5, rfl, rfl, hj⟩
      walk_at "rd"
      intro p hp
      have sp := same_new (o := .tup [V.bl false, optV (stepN rs nms fo nms.length)]) hp
      exact q1 nms fo hpn false _ p _ ((s1.trans s2).trans sp) upd_same (.inr ⟨rfl, rfl, hj⟩)

/-! ### the law's own going down -/
def pairD (b : Bool) (o : Option Nat) : PyData := .tuple [.bool b, match o with
  | some i => .int i
  | none => .none]
theorem pair_dp {H : Hp} {b : Bool} {o : Option Nat} {p : Addr} (h : SqT K H p [.bl b, optV o]) : Dp K H (.ref p) (pairD b o) := by
  cases o with
  | none => exact .tup h (.cons (.bl _) (.cons .non .nil))
  | some i => exact .tup h (.cons (.bl _) (.cons (.int _) .nil))
theorem pair_ok {b : Bool} {o : Option Nat} : DOk 1 (pairD b o) := dok_tup (all_cons dok_bl (all_cons (by cases o <;> first | exact dok_non | exact dok_int) all_nil))
/-! ### a text, several times -/
theorem foldl_rep (a : Array Nat) : ∀ (n : Nat) (b : Array Nat), ((List.replicate n a).foldl (· ++ ·) b).toList = b.toList ++ (List.replicate n a.toList).flatten
  | 0, b => by simp
  | n + 1, b => by
    rw [List.replicate_succ, List.replicate_succ, List.foldl_cons, foldl_rep a n, Array.toList_append, List.flatten_cons, List.append_assoc]
def repS (z : Str) (n : Nat) : Str := ⟨(List.replicate n z.cps.toList).flatten.toArray⟩
theorem repS_eq (z : Str) (n : Nat) : (⟨(List.replicate n z.cps).foldl (· ++ ·) #[]⟩ : Str) = repS z n := by
  have h := foldl_rep z.cps n #[]
  unfold repS
  congr 1
  refine Array.ext' ?_
  rw [h]
  simp
theorem repS_len (z : Str) (n : Nat) : (repS z n).length = n * z.length := by
  show (List.toArray _).size = n * z.cps.size
  simp
def rMulStr : R2 := fun x y H Q => ∃ (z : Str) (n : Int), x = .str z ∧ y = .int n ∧ 0 ≤ n ∧ n ≤ 1000 ∧ z.length ≤ 1000 ∧ Q (.str (repS z n.toNat)) H
theorem o_mulStr {X : Cx} : OpR X (binaryOp .Mult) rMulStr := by
  intro pins s σ H x y v u Q I rx ry h
  obtain ⟨z, n, rfl, rfl, h0, h1, h2, q⟩ := h
  obtain ⟨t, rfl⟩ := rx
  obtain ⟨t', rfl⟩ := ry
  refine P.mul_str ?_ (fun a b => ?_) (fun a b => ?_) ?_
  · rw [decide_eq_false (by omega), decide_eq_false (by omega)]; rfl
  · have h3 : (1000 : Int) ≤ (2 ^ 63 - 1) / n := Int.le_ediv_of_mul_le (by omega) (by omega)
    omega
  · have h3 : z.length * n.toNat ≤ 1000 * 1000 := Nat.mul_le_mul h2 (by omega)
    unfold Builtin.Str.tooLong
    rw [decide_eq_false (by rw [sizeLine_eq]; omega)]
  · split
    · rename_i hn
      have e : repS z n.toNat = Str.empty := by
        rw [show n.toNat = 0 from by omega]
        rfl
      exact ⟨by decide, .str (repS z n.toNat), H, I.tok _, ⟨_, by rw [e]⟩, q⟩
    · rename_i hn
      split
      · rename_i hc
        have e : repS z n.toNat = z := by
          rw [Bool.or_eq_true] at hc
          rcases hc with hc | hc
          · rw [show n.toNat = 1 from by have := eq_of_beq hc; omega]
            unfold repS
            simp
          · have hz : z.cps = #[] := Array.eq_empty_of_size_eq_zero (eq_of_beq hc)
            unfold repS
            rw [hz]
            obtain ⟨c⟩ := z
            cases hz
            simp
        exact ⟨.str (repS z n.toNat), H, I, ⟨t, by rw [e]⟩, q⟩
      · rw [repS_eq]
        refine ⟨?_, .str (repS z n.toNat), H, I.tok _, ⟨_, rfl⟩, q⟩
        rw [repS_len, sizeLine_eq]
        have h3 : n.toNat * z.length ≤ 1000 * 1000 := Nat.mul_le_mul (by omega) h2
        omega

/-! ### dicts: their data compared; zip -/
/-- dicts of like data -/
def SameDD (K : PySem.W.Frag) (H : Hp) (ks ls : List (Key × V)) : Prop := ks.length = ls.length ∧ ∀ p ∈ ks, ∃ u d, valV ls p.1 = some u ∧ Dp K H p.2 d ∧ Dp K H u d ∧ DOk 50 d
section
variable {X : Cx}
end
/-- a key's value by the text -/
theorem dget_s {H : Hp} {a : Addr} {kvs : List (Key × V)} {z : Str} {v : V} (h : H a = some (.dK kvs)) (e : valV kvs (.inr z) = some v) : DGet H a (.str z) (some v) := e ▸ DGet.k (k := .inr z) h
theorem dput_s {H : Hp} {a : Addr} {kvs : List (Key × V)} {z : Str} {v : V} (h : H a = some (.dK kvs)) (hl : kvs.length < 16777216) : DPut H a (.str z) v (upd H a (.dK (putK kvs (.inr z) v))) := DPut.k (k := .inr z) h (by rw [sizeLine_eq]; exact hl)
/-! ### all_told: a dict of what told tells -/
def addN (acc : List (List Nat)) (w : List Nat) : List (List Nat) := if w ∈ acc then acc else acc ++ [w]
def onceN (ws : List (List Nat)) : List (List Nat) := ws.foldl addN []
theorem once_take {ws : List (List Nat)} {k : Nat} {w : List Nat} (h : ws[k]? = some w) : onceN (ws.take (k + 1)) = addN (onceN (ws.take k)) w := by
  unfold onceN
  rw [List.take_succ, h, List.foldl_append]
  rfl
def ToldV (rs : List RF) (w : List Nat) (v : V) (H : Hp) : Prop := ∃ t nms fo b o, v = .ref t ∧ H t = some (.tup [.bl b, optV o]) ∧ pathN w = some (nms, fo) ∧ IsDown rs nms fo b o
theorem ToldV.nl {rs : List RF} {w : List Nat} {v : V} {H H' : Hp} (h : ToldV rs w v H) (s : ∀ a t, H a = some (.tup t) → H' a = some (.tup t)) : ToldV rs w v H' := let ⟨t, a, b, c, d, e, f, g⟩ := h; ⟨t, a, b, c, d, e, s _ _ f, g⟩
theorem ToldV.mono {rs : List RF} {w : List Nat} {v : V} {H H' : Hp} (h : ToldV rs w v H) (s : Same H H') : ToldV rs w v H' := h.nl fun _ _ e => s _ _ e
/-- a dict of what is told of each of these paths -/
structure ToldD (rs : List RF) (ws : List (List Nat)) (kvs : List (Key × V)) (H : Hp) : Prop where
  keys : kvs.map (·.1) = (onceN ws).map fun w => (Sum.inr (S w) : Key)
  each : ∀ q ∈ kvs, ∃ w, q.1 = .inr (S w) ∧ ToldV rs w q.2 H
theorem valV_pair {kvs : List (Key × V)} {k : Key} {v : V} (h : valV kvs k = some v) : (k, v) ∈ kvs := by
  unfold valV at h
  cases e : kvs.find? (fun kv => decide (kv.1 = k)) with
  | none => rw [e] at h; cases h
  | some q =>
    rw [e] at h
    have h1 := List.mem_of_find?_eq_some e
    have h3 : decide (q.1 = k) = true := List.find?_some (p := fun kv : Key × V => decide (kv.1 = k)) e
    have h2 := of_decide_eq_true h3
    obtain ⟨a, b⟩ := q
    cases (show some b = some v from h)
    cases (show a = k from h2)
    exact h1
theorem ToldD.vals {rs : List RF} {ws : List (List Nat)} {kvs : List (Key × V)} {H : Hp} (h : ToldD rs ws kvs H) (w : List Nat) (v : V) (e : valV kvs (.inr (S w)) = some v) : ToldV rs w v H := by
  obtain ⟨w', e1, e2⟩ := h.each _ (valV_pair e)
  have e3 : S w = S w' := Sum.inr.inj e1
  rw [S_inj e3]
  exact e2
theorem putK_mem {kvs : List (Key × V)} {k : Key} {v : V} {q : Key × V} (h : q ∈ putK kvs k v) : q ∈ kvs ∨ q = (k, v) := by
  unfold putK at h
  split at h
  · obtain ⟨x, hx, e⟩ := List.mem_map.mp h
    split at e
    · rename_i e2
      rw [e2] at e
      exact .inr e.symm
    · exact .inl (e ▸ hx)
  · exact (List.mem_append.mp h).imp id List.mem_singleton.mp
theorem ToldD.mono {rs : List RF} {ws : List (List Nat)} {kvs : List (Key × V)} {H H' : Hp} (h : ToldD rs ws kvs H) (s : Same H H') : ToldD rs ws kvs H' := ⟨h.keys, fun q hq => let ⟨w, a, b⟩ := h.each q hq; ⟨w, a, b.mono s⟩⟩
theorem valV_some {kvs : List (Key × V)} {k : Key} (h : k ∈ kvs.map (·.1)) : ∃ v, valV kvs k = some v := by
  cases e : valV kvs k with
  | some v => exact ⟨v, rfl⟩
  | none => exact absurd h (valV_not e)
theorem key_mem {ws : List (List Nat)} {w : List Nat} : (Sum.inr (S w) : Key) ∈ ws.map (fun w => (Sum.inr (S w) : Key)) ↔ w ∈ ws := by
  rw [List.mem_map]
  refine ⟨fun ⟨x, hx, e⟩ => ?_, fun h => ⟨w, h, rfl⟩⟩
  have e2 : S x = S w := Sum.inr.inj e
  rw [← S_inj e2]
  exact hx
theorem ToldD.put {rs : List RF} {ws : List (List Nat)} {kvs : List (Key × V)} {H : Hp} (h : ToldD rs ws kvs H) {k : Nat} {w : List Nat} {v : V} (hw : ToldV rs w v H) {us : List (List Nat)} (hu : ws = us.take k) (hk : us[k]? = some w) : ToldD rs (us.take (k + 1)) (putK kvs (.inr (S w)) v) H := by
  subst hu
  refine ⟨?_, fun q hq => ?_⟩
  · rw [once_take hk]
    unfold addN
    by_cases hm : w ∈ onceN (us.take k)
    · rw [if_pos hm, ← h.keys]
      have hany : (kvs.any fun kv => decide (kv.1 = (Sum.inr (S w) : Key))) = true := by
        rw [valV_any]
        have : (Sum.inr (S w) : Key) ∈ kvs.map (·.1) := by rw [h.keys]; exact key_mem.mpr hm
        obtain ⟨v0, e⟩ := valV_some this
        rw [e]; rfl
      unfold putK
      rw [if_pos hany, List.map_map]
      refine List.map_congr_left fun p _ => ?_
      show (if p.1 = Sum.inr (S w) then (p.1, v) else p).1 = p.1
      split <;> rfl
    · rw [if_neg hm, List.map_append, ← h.keys]
      have hn : valV kvs (Sum.inr (S w) : Key) = none := by
        cases e : valV kvs (Sum.inr (S w) : Key) with
        | none => rfl
        | some v0 =>
          have := valV_in e
          rw [h.keys] at this
          exact absurd (key_mem.mp this) hm
      rw [putK_new v hn, List.map_append]
      rfl
  · rcases putK_mem hq with h1 | rfl
    · exact h.each q h1
    · exact ⟨w, rfl, hw⟩
/-- two dicts of the same paths tell alike -/
theorem ToldD.same {rs : List RF} {ws : List (List Nat)} {ks ls : List (Key × V)} {H : Hp} (h : ToldD rs ws ks H) (g : ToldD rs ws ls H) : SameDD K H ks ls := by
  refine ⟨?_, fun q hq => ?_⟩
  · have := congrArg List.length (h.keys.trans g.keys.symm)
    rwa [List.length_map, List.length_map] at this
  · obtain ⟨w, e, t, nms, fo, b, o, e1, e2, e3, e4⟩ := h.each q hq
    have hm : q.1 ∈ ls.map (·.1) := by
      rw [g.keys, ← h.keys]
      exact List.mem_map.mpr ⟨q, hq, rfl⟩
    obtain ⟨v, hv⟩ := valV_some hm
    have hv' := hv
    rw [e] at hv'
    obtain ⟨t', nms', fo', b', o', f1, f2, f3, f4⟩ := g.vals w v hv'
    rw [e3] at f3
    cases f3
    obtain ⟨rfl, rfl⟩ := f4.uniq e4
    refine ⟨v, pairD b' o', hv, ?_, ?_, pair_ok.up (by decide)⟩
    · rw [e1]; exact pair_dp (.inl (.inl e2))
    · rw [f1]; exact pair_dp (.inl (.inl f2))
/-! ### plain: going down, one name more -/
theorem join_len {b : Nat} : ∀ {ls : List (List Nat)}, (∀ l ∈ ls, l.length ≤ b) → (TL.joinL [47] ls).length ≤ (b + 1) * ls.length
  | [], _ => Nat.zero_le _
  | [p], h => by
    have := h p List.mem_cons_self
    show p.length ≤ _
    simp only [List.length_cons, List.length_nil]
    omega
  | p :: q :: r, h => by
    have h1 := h p List.mem_cons_self
    have h2 := join_len (ls := q :: r) fun l hl => h l (List.mem_cons_of_mem _ hl)
    show (p ++ ([47] ++ TL.joinL [47] (q :: r))).length ≤ _
    rw [List.length_append, List.length_append, List.length_cons (as := q :: r), Nat.mul_succ]
    simp only [List.length_cons, List.length_nil] at h2 ⊢
    omega
theorem sum_len {b : Nat} : ∀ {ls : List (List Nat)}, (∀ l ∈ ls, l.length ≤ b) → ((ls.map S).map (·.length)).sum ≤ b * ls.length
  | [], _ => Nat.zero_le _
  | p :: r, h => by
    have h1 := h p List.mem_cons_self
    have h2 := sum_len (ls := r) fun l hl => h l (List.mem_cons_of_mem _ hl)
    rw [List.map_cons, List.map_cons, List.sum_cons, S_len, List.length_cons, Nat.mul_succ]
    omega
theorem nms_app (A B : List (List Nat)) : nmsV A ++ nmsV B = nmsV (A ++ B) := by
  unfold nmsV
  rw [List.map_append, List.map_append]
theorem join_more {x : List Nat} : ∀ {l : List (List Nat)}, l ≠ [] → TL.joinL [47] (l ++ [x]) = TL.joinL [47] l ++ [47] ++ x
  | [], h => absurd rfl h
  | [p], _ => by
    show p ++ ([47] ++ x) = p ++ [47] ++ x
    rw [List.append_assoc]
  | p :: q :: r, _ => by
    have ih := join_more (x := x) (l := q :: r) (by simp)
    show p ++ ([47] ++ TL.joinL [47] ((q :: r) ++ [x])) = (p ++ ([47] ++ TL.joinL [47] (q :: r))) ++ [47] ++ x
    rw [ih]
    simp only [List.append_assoc]
theorem cut_take {us : List V} {k : Nat} : cutV us none (some (k : Int)) = us.take k := by
  unfold cutV
  have e : HT.sIx us.length us.length (some (k : Int)) = min k us.length := by
    unfold HT.sIx
    simp
    omega
  rw [HT.sIx_none, e, List.drop_zero, Nat.sub_zero]
  rcases Nat.le_total k us.length with h | h
  · rw [Nat.min_eq_left h]
  · rw [Nat.min_eq_right h, List.take_of_length_le (Nat.le_refl _), List.take_of_length_le h]
theorem cut_dropN {us : List V} {k : Nat} : cutV us (some (k : Int)) none = us.drop k := by
  unfold cutV
  have e : HT.sIx us.length 0 (some (k : Int)) = min k us.length := by
    unfold HT.sIx
    simp
    omega
  rw [HT.sIx_none, e]
  rcases Nat.le_total k us.length with h | h
  · rw [Nat.min_eq_left h]
    exact List.take_of_length_le (by rw [List.length_drop]; exact Nat.le_refl _)
  · rw [Nat.min_eq_right h, List.drop_of_length_le (Nat.le_refl _), List.drop_of_length_le h]
    exact List.take_nil
theorem nms_take {ns : List (List Nat)} {k : Nat} : (nmsV ns).take k = nmsV (ns.take k) := by
  unfold nmsV
  rw [List.map_take, List.map_take]
theorem nms_drop {ns : List (List Nat)} {k : Nat} : (nmsV ns).drop k = nmsV (ns.drop k) := by
  unfold nmsV
  rw [List.map_drop, List.map_drop]
theorem Each.app {α : Type} {R : α → V → Hp → Prop} {as bs : List α} {us vs : List V} {H : Hp} (h : Each R as us H) (g : Each R bs vs H) : Each R (as ++ bs) (us ++ vs) H := by
  refine ⟨by rw [List.length_append, List.length_append, h.1, g.1], fun i f hf => ?_⟩
  rcases Nat.lt_or_ge i as.length with e | e
  · rw [List.getElem?_append_left e] at hf
    obtain ⟨u, a, b⟩ := h.2 i f hf
    exact ⟨u, by rw [List.getElem?_append_left (by rw [h.1]; exact e)]; exact a, b⟩
  · rw [List.getElem?_append_right e] at hf
    obtain ⟨u, a, b⟩ := g.2 _ f hf
    exact ⟨u, by rw [List.getElem?_append_right (by rw [h.1]; exact e), h.1]; exact a, b⟩
theorem ends47 {l : List Nat} {c : Nat} : Txt.endswith (S (l ++ [c])) (S [47]) = decide (c = 47) := by
  rw [← S_cat, PySem.W.KAf.ends_right (a := S l) (y := S [c]) (d := S [47]) (by rw [S_len, S_len]; exact Nat.le_refl 1)]
  unfold Txt.endswith Builtin.Str.subAt
  by_cases h : c = 47
  · subst h; decide +kernel
  · rw [decide_eq_false h]
    have : ((S [c]).cps.extract 0 1 == (S [47]).cps) = false := by
      have e : (S [c]).cps.extract 0 1 = #[c] := by simp
      rw [e]
      simp [h]
    show (decide (0 + 1 ≤ 1) && ((S [c]).cps.extract 0 1 == (S [47]).cps)) = false
    rw [this]
    rfl
theorem join_mem {c : Nat} : ∀ {ls : List (List Nat)}, c ∈ TL.joinL [47] ls → c = 47 ∨ ∃ l ∈ ls, c ∈ l
  | [], h => nomatch h
  | [p], h => .inr ⟨p, List.mem_cons_self, h⟩
  | p :: q :: r, h => by
    have h' : c ∈ p ++ ([47] ++ TL.joinL [47] (q :: r)) := h
    rcases List.mem_append.mp h' with h | h
    · exact .inr ⟨p, List.mem_cons_self, h⟩
    · rcases List.mem_append.mp h with h | h
      · exact .inl (List.mem_singleton.mp h)
      · exact (join_mem h).imp id fun ⟨l, hl, hc⟩ => ⟨l, List.mem_cons_of_mem _ hl, hc⟩
/-- a good path by its names -/
structure GoodP (w : List Nat) (nms : List (List Nat)) (fo : Bool) : Prop where
  eq : w = TL.joinL [47] nms ++ (if fo = true then [47] else [])
  ne : nms ≠ []
  len : nms.length ≤ 60
  nm : ∀ nm ∈ nms, nm ≠ [] ∧ nm.length ≤ 400 ∧ ∀ c ∈ nm, c ∈ SIG
theorem GoodP.path {w : List Nat} {nms : List (List Nat)} {fo : Bool} (h : GoodP w nms fo) : pathN w = some (nms, fo) := by
  rw [h.eq]
  exact pathN_join h.ne fun nm hm => ⟨(h.nm nm hm).1, (h.nm nm hm).2.2⟩
theorem GoodP.size {w : List Nat} {nms : List (List Nat)} {fo : Bool} (h : GoodP w nms fo) : w.length ≤ 30000 := by
  have lj := join_len (b := 400) fun nm hm => (h.nm nm hm).2.1
  have := h.len
  rw [h.eq, List.length_append]
  split <;> simp <;> omega
theorem GoodP.sg {w : List Nat} {nms : List (List Nat)} {fo : Bool} (h : GoodP w nms fo) : ∀ c ∈ w, c = 47 ∨ c ∈ SIG := fun c hc => by
  rw [h.eq] at hc
  rcases List.mem_append.mp hc with hc | hc
  · exact (join_mem hc).imp id fun ⟨l, hl, hc⟩ => (h.nm l hl).2.2 c hc
  · split at hc
    · exact .inl (List.mem_singleton.mp hc)
    · cases hc
theorem GoodP.dok {w : List Nat} {nms : List (List Nat)} {fo : Bool} (h : GoodP w nms fo) : PyData.strOk (S w) = true := by
  have k : ∀ c ∈ SIG, c < 128 := by decide +kernel
  unfold PyData.strOk
  rw [← Array.all_toList, List.all_eq_true]
  exact fun c hc => decide_eq_true ((h.sg c hc).elim (fun e => by omega) fun h => Nat.lt_trans (k c h) (by decide))
theorem GoodP.spl {w : List Nat} {nms : List (List Nat)} {fo : Bool} (h : GoodP w nms fo) : splW w = nms ++ (if fo = true then [[]] else []) := by
  have hs : ∀ nm ∈ nms, 47 ∉ nm := fun nm hm => slash_sig (h.nm nm hm).2.2
  rw [h.eq]
  cases fo with
  | false =>
    rw [if_neg Bool.false_ne_true, if_neg Bool.false_ne_true, List.append_nil, List.append_nil]
    exact TL.spl_join h.ne hs
  | true =>
    rw [if_pos rfl, if_pos rfl]
    have e := join_more (x := []) h.ne
    rw [List.append_nil] at e
    rw [← e]
    exact TL.spl_join (by simp) fun p hp => (List.mem_append.mp hp).elim (hs p) fun hp => by rw [List.mem_singleton.mp hp]; exact List.not_mem_nil
theorem GoodP.filt {w : List Nat} {nms : List (List Nat)} {fo : Bool} (h : GoodP w nms fo) : (splW w).filter (fun l => !decide (l = [])) = nms := by
  rw [h.spl, List.filter_append, List.filter_eq_self.mpr fun nm hm => by simp [(h.nm nm hm).1]]
  cases fo <;> simp
theorem GoodP.ends {w : List Nat} {nms : List (List Nat)} {fo : Bool} (h : GoodP w nms fo) : Txt.endswith (S w) (S [47]) = fo := by
  cases fo with
  | true =>
    rw [h.eq, if_pos rfl, ends47]
    exact decide_eq_true rfl
  | false =>
    obtain ⟨r, x, e⟩ : ∃ r x, nms = r ++ [x] := by
      rcases List.eq_nil_or_concat nms with e | ⟨r, x, e⟩
      · exact absurd e h.ne
      · exact ⟨r, x, by rw [e, List.concat_eq_append]⟩
    obtain ⟨hx, _, hsg⟩ := h.nm x (by rw [e]; simp)
    obtain ⟨y, c, ey⟩ : ∃ y c, x = y ++ [c] := by
      rcases List.eq_nil_or_concat x with e | ⟨r, x, e⟩
      · exact absurd e hx
      · exact ⟨r, x, by rw [e, List.concat_eq_append]⟩
    have ew : ∃ l, w = l ++ [c] := by
      rw [h.eq, if_neg Bool.false_ne_true, List.append_nil, e]
      cases r with
      | nil => exact ⟨y, by rw [← ey]; rfl⟩
      | cons q r =>
        rw [join_more (by simp), ey]
        exact ⟨_, by rw [← List.append_assoc]⟩
    obtain ⟨l, ew⟩ := ew
    rw [ew, ends47]
    refine decide_eq_false fun z => ?_
    have := hsg c (by rw [ey]; simp)
    rw [z] at this
    exact absurd this (by decide +kernel)
theorem txts_dp {H : Hp} {p : Addr} {ws : List (List Nat)} (h : SqL K H p (nmsV ws)) : Dp K H (.ref p) (.list (ws.map fun w => .str (S w))) := .lst h (by
  unfold nmsV
  rw [List.map_map]
  exact dp_map (fun w => V.str (S w)) (fun w => PyData.str (S w)) (fun w => .str _) ws)
theorem txts_ok {ws : List (List Nat)} (h : ∀ w ∈ ws, PyData.strOk (S w) = true) : DOk 1 (.list (ws.map fun w => .str (S w))) := dok_lst fun d hd => by
  obtain ⟨w, hw, rfl⟩ := List.mem_map.mp hd
  exact dok_str (h w hw)
theorem txt_ok {w : List Nat} (h : ∀ c ∈ w, c = 47 ∨ c ∈ SIG) : PyData.strOk (S w) = true := by
  have k : ∀ c ∈ SIG, c < 128 := by decide +kernel
  unfold PyData.strOk
  rw [← Array.all_toList, List.all_eq_true]
  exact fun c hc => decide_eq_true ((h c hc).elim (fun e => by omega) fun h => Nat.lt_trans (k c h) (by decide))
theorem eq_dat {n : Nat} {d : PyData} {u v : V} {H : Hp} {Q : VK} (ok : DOk n d) (hn : n ≤ 64) (h1 : Dp K H u d) (h2 : Dp K H v d) (q : Q (.bl true) H) : rEqR K u v H Q := by
  refine .inl ⟨d, d, h1, h2, ok.shaped hn, ok.shaped hn, ?_⟩
  rw [ok.eqv]
  exact q

/-! ### texts put in order: the one list -/
def leW (a b : List Nat) : Bool := !ltCps b a
theorem lt_irr : ∀ a : List Nat, ltCps a a = false
  | [] => rfl
  | a :: r => by simp [ltCps, lt_irr r]
theorem lt_tri : ∀ {a b : List Nat}, ltCps a b = false → ltCps b a = false → a = b
  | [], [], _, _ => rfl
  | [], _ :: _, h, _ => by simp [ltCps] at h
  | _ :: _, [], _, h => by simp [ltCps] at h
  | a :: r, b :: t, h, g => by
    simp only [ltCps, Bool.or_eq_false_iff, decide_eq_false_iff_not, Bool.and_eq_false_iff, beq_eq_false_iff_ne] at h g
    have e : a = b := by omega
    subst e
    rw [lt_tri (a := r) (b := t) (h.2.resolve_left fun z => z rfl) (g.2.resolve_left fun z => z rfl)]
theorem lt_tr : ∀ {a b c : List Nat}, ltCps a b = true → ltCps b c = true → ltCps a c = true
  | [], [], _, h, _ => by simp [ltCps] at h
  | [], _ :: _, [], _, g => by simp [ltCps] at g
  | [], _ :: _, _ :: _, _, _ => rfl
  | _ :: _, [], _, h, _ => by simp [ltCps] at h
  | _ :: _, _ :: _, [], _, g => by simp [ltCps] at g
  | a :: r, b :: t, c :: u, h, g => by
    simp only [ltCps, Bool.or_eq_true, decide_eq_true_eq, Bool.and_eq_true, beq_iff_eq] at h g ⊢
    rcases h with h | ⟨h1, h2⟩
    · rcases g with g | ⟨g1, g2⟩
      · exact .inl (by omega)
      · exact .inl (by omega)
    · rcases g with g | ⟨g1, g2⟩
      · exact .inl (by omega)
      · exact .inr ⟨by omega, lt_tr h2 g2⟩
theorem lt_as {a b : List Nat} (h : ltCps a b = true) : ltCps b a = false := by
  cases e : ltCps b a with
  | false => rfl
  | true => have := lt_tr h e; rw [lt_irr] at this; cases this
theorem le_tot (a b : List Nat) : leW a b = true ∨ leW b a = true := by
  unfold leW
  cases h : ltCps b a with
  | false => exact .inl rfl
  | true => rw [lt_as h]; exact .inr rfl
theorem le_tr {a b c : List Nat} (h : leW a b = true) (g : leW b c = true) : leW a c = true := by
  unfold leW at h g ⊢
  simp only [Bool.not_eq_true'] at h g ⊢
  cases e : ltCps c a with
  | false => rfl
  | true =>
    cases e2 : ltCps b c with
    | true => rw [lt_tr e2 e] at h; cases h
    | false =>
      have : b = c := lt_tri e2 g
      subst this
      rw [h] at e
      cases e
theorem le_anti {a b : List Nat} (h : leW a b = true) (g : leW b a = true) : a = b := by
  unfold leW at h g
  simp only [Bool.not_eq_true'] at h g
  exact lt_tri g h
theorem rising_pw : ∀ (l : List (List Nat)) (p : List Nat), risingS (S p) (l.map S) = true → (p :: l).Pairwise fun a b => leW a b = true
  | [], p, _ => List.pairwise_singleton _ _
  | c :: r, p, h => by
    have h' : (!ltCps c p && risingS (S c) (r.map S)) = true := h
    rw [Bool.and_eq_true] at h'
    have h2 := rising_pw r c h'.2
    refine List.pairwise_cons.mpr ⟨fun d hd => ?_, h2⟩
    rcases List.mem_cons.mp hd with rfl | hd
    · exact h'.1
    · exact le_tr h'.1 ((List.pairwise_cons.mp h2).1 d hd)
theorem sorted_pw : ∀ {l : List (List Nat)}, sortedS (l.map S) = true → l.Pairwise fun a b => leW a b = true
  | [], _ => .nil
  | c :: r, h => rising_pw r c h
def insW (x : List Nat) : List (List Nat) → List (List Nat)
  | [] => [x]
  | y :: r => if leW x y = true then x :: y :: r else y :: insW x r
def srtW : List (List Nat) → List (List Nat)
  | [] => []
  | x :: r => insW x (srtW r)
theorem ins_perm (x : List Nat) : ∀ l, (insW x l).Perm (x :: l)
  | [] => .refl _
  | y :: r => by
    show (if leW x y = true then x :: y :: r else y :: insW x r).Perm _
    split
    · exact .refl _
    · exact ((ins_perm x r).cons y).trans (List.Perm.swap x y r)
theorem srt_perm : ∀ l : List (List Nat), (srtW l).Perm l
  | [] => .refl _
  | x :: r => (ins_perm x (srtW r)).trans ((srt_perm r).cons x)
theorem ins_pw (x : List Nat) : ∀ l : List (List Nat), (l.Pairwise fun a b => leW a b = true) → (insW x l).Pairwise fun a b => leW a b = true
  | [], _ => List.pairwise_singleton _ _
  | y :: r, h => by
    have h' := List.pairwise_cons.mp h
    show (if leW x y = true then x :: y :: r else y :: insW x r).Pairwise _
    split
    · rename_i e
      refine List.pairwise_cons.mpr ⟨fun z hz => ?_, h⟩
      rcases List.mem_cons.mp hz with rfl | hz
      · exact e
      · exact le_tr e (h'.1 z hz)
    · rename_i e
      have e2 := (le_tot x y).resolve_left e
      refine List.pairwise_cons.mpr ⟨fun z hz => ?_, ins_pw x r h'.2⟩
      rcases List.mem_cons.mp ((ins_perm x r).mem_iff.mp hz) with rfl | hz
      · exact e2
      · exact h'.1 z hz
theorem srt_pw : ∀ l : List (List Nat), (srtW l).Pairwise fun a b => leW a b = true
  | [] => .nil
  | x :: r => ins_pw x (srtW r) (srt_pw r)
theorem srt_uniq {a b : List (List Nat)} (ha : a.Pairwise fun a b => leW a b = true) (hb : b.Pairwise fun a b => leW a b = true) (p : a.Perm b) : a = b :=
  p.eq_of_pairwise (fun _ _ _ _ h g => le_anti h g) ha hb
theorem texts_of : ∀ {ys : List Str} {ws : List (List Nat)}, ys.Perm (ws.map S) → ∃ vs : List (List Nat), ys = vs.map S := fun {ys ws} _ =>
  ⟨ys.map fun y => y.cps.toList, by rw [List.map_map]; exact (List.map_id ys).symm.trans (List.map_congr_left fun y _ => (S_tl y).symm)⟩
theorem unmapS {vs ws : List (List Nat)} (h : (vs.map S).Perm (ws.map S)) : vs.Perm ws := by
  have e := h.map fun y : Str => y.cps.toList
  rw [List.map_map, List.map_map] at e
  have k : ∀ l : List (List Nat), l.map ((fun y : Str => y.cps.toList) ∘ S) = l := fun l => by
    refine (List.map_congr_left fun x _ => ?_).trans (List.map_id l)
    show (S x).cps.toList = x
    simp
  rwa [k, k] at e
/-- what sorted tells is the one list -/
theorem sorted_is {ys : List Str} {ws : List (List Nat)} (p : ys.Perm (ws.map S)) (h : sortedS ys = true) : ys = (srtW ws).map S := by
  obtain ⟨vs, rfl⟩ := texts_of p
  rw [srt_uniq (sorted_pw h) (srt_pw ws) ((unmapS p).trans (srt_perm ws).symm)]
section
variable {X : Cx}
/-- sorted of a list of texts, of any length -/
def rSortedA (K : PySem.W.Frag) : List V → Hp → VK → Prop := fun vs H Q => match vs with
  | [.ref a] => ∃ ws : List (List Nat), SqL K H a (nmsV ws) ∧ ∀ p, H p = none → Q (.ref p) (upd H p (.lst (nmsV (srtW ws))))
  | _ => False
theorem o_sortedA {K : PySem.W.Frag} (hK : X.K = K := by rfl) : CallR X (.builtin "sorted") (rSortedA K) := by
  subst hK
  intro pins s σ H vs us Q I r h
  match vs, h with
  | [.ref a], ⟨ws, hs, q⟩ =>
  obtain ⟨its, rv, hl, hz⟩ := I.list hs
  rw [Vals.ref1 r]
  have hlen0 := rv.length
  rw [nms_len] at hlen0
  have rv' : Vals ((ws.map S).map V.str) its := rv
  refine PyProof.Rows.sorted_strsAny hl.isList rv'.strs (by rw [← hlen0]; rw [nms_len] at hz; exact hz) fun out ys h1 h2 h3 => ?_
  obtain ⟨ep, he'⟩ := PyProof.Rows.sortedAll_at s.heap its out
  have e := sorted_is h2 h3
  subst e
  have hlen : (nmsV (srtW ws)).length ≤ sizeLine := by
    rw [nms_len, (srt_perm ws).length_eq]
    rw [nms_len] at hz
    exact hz
  exact ⟨.ref _, upd H (s.heap.objs.size + 1) (.lst (nmsV (srtW ws))), I.laid (t' := s.toks) (fun _ _ => PyProof.Rows.sortedAll_old) (Nat.le_succ _) ⟨hlen, out.toList, ep, vals_of_strs h1, he'⟩, rfl, q _ (I.hok.fresh (Nat.le_succ _))⟩
end
/-! ### trees as dicts -/
/-- a name of a tree: signs of names, one at least -/
def NmOk (nm : List Nat) : Prop := nm ≠ [] ∧ nm.length ≤ 1000 ∧ ∀ c ∈ nm, c ∈ SIG
abbrev Names := List (List Nat)
/-- what stands in a folder, in the dict's order -/
def kidE (al : Names → Addr) (e : Names × Bool) : Key × V := (.inr (S (e.1.getLastD [])), if e.2 = true then .ref (al e.1) else .non)
def inF (p : Names) (e : Names × Bool) : Bool := decide (e.1.dropLast = p)
def kids (E : List (Names × Bool)) (al : Names → Addr) (p : Names) : List (Key × V) := (E.filter (inF p)).map (kidE al)
def kidN (E : List (Names × Bool)) (p : Names) : List (List Nat) := (E.filter (inF p)).map fun e => e.1.getLastD []
/-- the entries of a tree: each once, folders ahead, names of signs -/
structure EOk (E : List (Names × Bool)) : Prop where
  nd : (E.map (·.1)).Nodup
  ne : ∀ e ∈ E, e.1 ≠ []
  up : ∀ e ∈ E, e.1.dropLast = [] ∨ (e.1.dropLast, true) ∈ E
  nm : ∀ e ∈ E, ∀ nm ∈ e.1, NmOk nm
  deep : ∀ e ∈ E, e.1.length ≤ 9
def Fold (E : List (Names × Bool)) (p : Names) : Prop := p = [] ∨ (p, true) ∈ E
structure TreeE (E : List (Names × Bool)) (al : Names → Addr) (H : Hp) : Prop where
  ok : EOk E
  at_ : ∀ p, Fold E p → H (al p) = some (.dK (kids E al p))
  inj : ∀ p q, Fold E p → Fold E q → al p = al q → p = q
theorem TreeE.mono {E : List (Names × Bool)} {al : Names → Addr} {H H' : Hp} (h : TreeE E al H) (s : Same H H') : TreeE E al H' := ⟨h.ok, fun p hp => s _ _ (h.at_ p hp), h.inj⟩
theorem last_app {p : Names} {nm : List Nat} : (p ++ [nm]).getLastD [] = nm := by simp
theorem drop_last {q : Names} (h : q ≠ []) : q = q.dropLast ++ [q.getLastD []] := by
  rcases List.eq_nil_or_concat q with e | ⟨r, x, e⟩
  · exact absurd e h
  · rw [e, List.concat_eq_append, List.dropLast_concat, last_app]
/-- an entry of a folder, by its name -/
theorem kid_of {E : List (Names × Bool)} (ok : EOk E) {p : Names} {e : Names × Bool} (h : e ∈ E.filter (inF p)) : e ∈ E ∧ e.1 = p ++ [e.1.getLastD []] := by
  obtain ⟨h1, h2⟩ := List.mem_filter.mp h
  refine ⟨h1, ?_⟩
  have e2 : e.1.dropLast = p := of_decide_eq_true h2
  rw [← e2]
  exact drop_last (ok.ne e h1)
theorem kid_in {E : List (Names × Bool)} {p : Names} {nm : List Nat} {fo : Bool} (h : (p ++ [nm], fo) ∈ E) : (p ++ [nm], fo) ∈ E.filter (inF p) := List.mem_filter.mpr ⟨h, decide_eq_true (by simp)⟩
theorem kidN_mem {E : List (Names × Bool)} (ok : EOk E) {p : Names} {nm : List Nat} : nm ∈ kidN E p ↔ ∃ fo, (p ++ [nm], fo) ∈ E := by
  unfold kidN
  rw [List.mem_map]
  constructor
  · rintro ⟨e, he, rfl⟩
    obtain ⟨h1, h2⟩ := kid_of ok he
    exact ⟨e.2, by rw [← h2]; exact h1⟩
  · rintro ⟨fo, h⟩
    exact ⟨_, kid_in h, last_app⟩
theorem e_uniq {E : List (Names × Bool)} (ok : EOk E) {p : Names} {a b : Bool} (h : (p, a) ∈ E) (g : (p, b) ∈ E) : a = b := by
  have key : ∀ {E : List (Names × Bool)}, (E.map (·.1)).Nodup → (p, a) ∈ E → (p, b) ∈ E → a = b := by
    intro E
    induction E with
    | nil => exact fun _ h => nomatch h
    | cons x r ih =>
      intro nd h g
      have nd' := List.nodup_cons.mp nd
      rcases List.mem_cons.mp h with e1 | h
      · rcases List.mem_cons.mp g with e2 | g
        · exact (Prod.mk.inj (e1.trans e2.symm)).2
        · exact absurd (List.mem_map.mpr ⟨_, g, by rw [← e1]⟩) nd'.1
      · rcases List.mem_cons.mp g with e2 | g
        · exact absurd (List.mem_map.mpr ⟨_, h, by rw [← e2]⟩) nd'.1
        · exact ih nd'.2 h g
  exact key ok.nd h g
theorem kids_keys {E : List (Names × Bool)} {al : Names → Addr} {p : Names} : (kids E al p).map (·.1) = (kidN E p).map fun nm => (Sum.inr (S nm) : Key) := by
  unfold kids kidN
  rw [List.map_map, List.map_map]
  rfl
theorem kidN_nd {E : List (Names × Bool)} (ok : EOk E) {p : Names} : (kidN E p).Nodup := by
  have h1 : (E.filter (inF p)).map (·.1) = (kidN E p).map fun nm => p ++ [nm] := by
    unfold kidN
    rw [List.map_map]
    exact List.map_congr_left fun e he => (kid_of ok he).2
  have h2 : ((E.filter (inF p)).map (·.1)).Nodup := ok.nd.sublist ((List.filter_sublist (l := E)).map _)
  rw [h1] at h2
  exact (List.pairwise_map.mp h2).imp fun {a b} h e => h (by rw [e])
/-- what stands at a name of a folder -/
theorem kid_val {E : List (Names × Bool)} (ok : EOk E) {al : Names → Addr} {p : Names} {nm : List Nat} {fo : Bool} (h : (p ++ [nm], fo) ∈ E) : valV (kids E al p) (.inr (S nm)) = some (if fo = true then .ref (al (p ++ [nm])) else .non) := by
  have hk : (Sum.inr (S nm) : Key) ∈ (kids E al p).map (·.1) := by
    rw [kids_keys]
    exact List.mem_map.mpr ⟨nm, (kidN_mem ok).mpr ⟨fo, h⟩, rfl⟩
  cases e : valV (kids E al p) (.inr (S nm) : Key) with
  | none => exact absurd hk (valV_not e)
  | some v =>
    have hm := valV_pair e
    unfold kids at hm
    obtain ⟨x, hx, ex⟩ := List.mem_map.mp hm
    obtain ⟨h1, h2⟩ := kid_of ok hx
    unfold kidE at ex
    have e1 : x.1.getLastD [] = nm := S_inj (Sum.inr.inj (Prod.mk.inj ex).1)
    rw [e1] at h2
    have e3 : x.2 = fo := e_uniq ok (p := p ++ [nm]) (by rw [← h2]; exact h1) h
    rw [← (Prod.mk.inj ex).2, h2, e3]
theorem kid_no {E : List (Names × Bool)} (ok : EOk E) {al : Names → Addr} {p : Names} {nm : List Nat} (h : ∀ fo, (p ++ [nm], fo) ∉ E) : valV (kids E al p) (.inr (S nm)) = none := by
  cases e : valV (kids E al p) (.inr (S nm) : Key) with
  | none => rfl
  | some v =>
    have hm := valV_in e
    rw [kids_keys, List.mem_map] at hm
    obtain ⟨x, hx, ex⟩ := hm
    have e1 : x = nm := S_inj (Sum.inr.inj ex)
    subst e1
    obtain ⟨fo, h'⟩ := (kidN_mem ok).mp hx
    exact absurd h' (h fo)
/-- the paths within a folder, names rising, a folder ahead of what is in it -/
def pathsE (E : List (Names × Bool)) : Nat → Names → List Nat → List (List Nat)
  | 0, _, _ => []
  | n + 1, p, ahead => (srtW (kidN E p)).flatMap fun nm => if (p ++ [nm], true) ∈ E then (ahead ++ nm ++ [47]) :: pathsE E n (p ++ [nm]) (ahead ++ nm ++ [47]) else [ahead ++ nm]
/-! how many there are -/
def preB (p q : Names) : Bool := p.isPrefixOf q
theorem cntP_one {E : List (Names × Bool)} {p : Names} : ∀ {L : List (List Nat)}, L.Nodup → (L.map fun nm => E.countP fun e => preB (p ++ [nm]) e.1).sum ≤ E.countP fun e => preB p e.1 && decide (p.length < e.1.length) := by
  induction E with
  | nil =>
    intro L _
    have : ∀ L : List (List Nat), (L.map fun nm => ([] : List (Names × Bool)).countP fun e => preB (p ++ [nm]) e.1).sum = 0 := by
      intro L
      induction L with
      | nil => rfl
      | cons a r ih => rw [List.map_cons, List.sum_cons, ih]; rfl
    rw [this]
    exact Nat.zero_le _
  | cons x E ih =>
    intro L nd
    have h1 := ih nd
    have key : ∀ {L : List (List Nat)}, L.Nodup → (L.map fun nm => (x :: E).countP fun e => preB (p ++ [nm]) e.1).sum ≤ (L.map fun nm => E.countP fun e => preB (p ++ [nm]) e.1).sum + (if (preB p x.1 && decide (p.length < x.1.length)) = true then 1 else 0) ∧
        ((∀ nm ∈ L, preB (p ++ [nm]) x.1 = false) → (L.map fun nm => (x :: E).countP fun e => preB (p ++ [nm]) e.1).sum = (L.map fun nm => E.countP fun e => preB (p ++ [nm]) e.1).sum) := by
      intro L
      induction L with
      | nil => exact fun _ => ⟨Nat.zero_le _, fun _ => rfl⟩
      | cons a r ih2 =>
        intro nd
        have nd' := List.nodup_cons.mp nd
        obtain ⟨i1, i2⟩ := ih2 nd'.2
        rw [List.map_cons, List.map_cons, List.sum_cons, List.sum_cons, List.countP_cons]
        constructor
        · cases ha : preB (p ++ [a]) x.1 with
          | false => rw [if_neg Bool.false_ne_true]; omega
          | true =>
            have hp : ∃ t, x.1 = p ++ a :: t := by
              obtain ⟨t, e⟩ := List.isPrefixOf_iff_prefix.mp ha
              exact ⟨t, by rw [← e]; simp⟩
            obtain ⟨t, ht⟩ := hp
            have hs : (preB p x.1 && decide (p.length < x.1.length)) = true := by
              rw [Bool.and_eq_true]
              refine ⟨List.isPrefixOf_iff_prefix.mpr ⟨a :: t, ht.symm⟩, decide_eq_true ?_⟩
              rw [ht, List.length_append, List.length_cons]
              omega
            have hr : ∀ nm ∈ r, preB (p ++ [nm]) x.1 = false := fun nm hm => by
              cases hb : preB (p ++ [nm]) x.1 with
              | false => rfl
              | true =>
                obtain ⟨t2, e2⟩ := List.isPrefixOf_iff_prefix.mp hb
                rw [ht, List.append_assoc] at e2
                have e3 := List.append_cancel_left e2
                cases e3
                exact absurd hm nd'.1
            rw [if_pos rfl, if_pos hs, i2 hr]
            omega
        · intro hno
          rw [hno a List.mem_cons_self, if_neg Bool.false_ne_true, i2 fun nm hm => hno nm (List.mem_cons_of_mem _ hm), Nat.add_zero]
    have k := (key nd).1
    rw [List.countP_cons]
    omega
theorem sum_le {α : Type} {f g : α → Nat} : ∀ {l : List α}, (∀ x ∈ l, f x ≤ g x) → (l.map f).sum ≤ (l.map g).sum
  | [], _ => Nat.le_refl _
  | x :: r, h => by
    have a := h x List.mem_cons_self
    have b := sum_le (l := r) fun y hy => h y (List.mem_cons_of_mem _ hy)
    rw [List.map_cons, List.map_cons, List.sum_cons, List.sum_cons]
    omega
theorem paths_cnt {E : List (Names × Bool)} (ok : EOk E) : ∀ (n : Nat) (p : Names) (ahead : List Nat), (pathsE E n p ahead).length ≤ E.countP fun e => preB p e.1 && decide (p.length < e.1.length)
  | 0, _, _ => Nat.zero_le _
  | n + 1, p, ahead => by
    have nd : (srtW (kidN E p)).Nodup := (srt_perm _).nodup_iff.mpr (kidN_nd ok)
    refine Nat.le_trans ?_ (cntP_one nd)
    show (List.flatMap _ _).length ≤ _
    rw [List.length_flatMap]
    refine sum_le fun nm hm => ?_
    obtain ⟨fo, hin⟩ := (kidN_mem ok).mp ((srt_perm _).mem_iff.mp hm)
    have pre0 : preB (p ++ [nm]) (p ++ [nm]) = true := List.isPrefixOf_iff_prefix.mpr (List.prefix_refl _)
    split
    · have ih := paths_cnt ok n (p ++ [nm]) (ahead ++ nm ++ [47])
      rw [List.length_cons]
      have key : ∀ E : List (Names × Bool), (p ++ [nm], fo) ∈ E → (E.countP fun e => preB (p ++ [nm]) e.1 && decide ((p ++ [nm]).length < e.1.length)) + 1 ≤ E.countP fun e => preB (p ++ [nm]) e.1 := by
        intro E
        induction E with
        | nil => exact fun h => nomatch h
        | cons x r ih =>
          intro h
          rw [List.countP_cons, List.countP_cons]
          have mono : (r.countP fun e => preB (p ++ [nm]) e.1 && decide ((p ++ [nm]).length < e.1.length)) ≤ r.countP fun e => preB (p ++ [nm]) e.1 :=
            List.countP_mono_left fun e _ h => (Bool.and_eq_true _ _ ▸ h).1
          rcases List.mem_cons.mp h with e | h
          · rw [← e, if_neg, if_pos pre0]
            · omega
            · rw [pre0, Bool.true_and, decide_eq_true_eq]
              exact Nat.lt_irrefl _
          · have i := ih h
            split
            · rename_i hx
              rw [if_pos (Bool.and_eq_true _ _ ▸ hx).1]
              omega
            · split <;> omega
      have := key E hin
      omega
    · exact List.countP_pos_iff.mpr ⟨_, hin, pre0⟩
theorem paths_len {E : List (Names × Bool)} (ok : EOk E) (n : Nat) (p : Names) (ahead : List Nat) : (pathsE E n p ahead).length ≤ E.length := Nat.le_trans (paths_cnt ok n p ahead) List.countP_le_length
/-! ### the paths within a folder, by the program and by the law -/
def spPW (K : PySem.W.Frag) (n : Nat) : Sp := fun vs H Q _ => ∃ E al p ahead, vs = [.ref (al p), .str (S ahead)] ∧ TreeE E al H ∧ Fold E p ∧ p.length + n = 10 ∧ E.length ≤ 1000 ∧ (∀ p, (kidN E p).length ≤ 60) ∧ ahead.length ≤ p.length * 1001 ∧
  ∀ F H', Same H H' → H F = none → H' F = some (.lst (nmsV (pathsE E n p ahead))) → Q (.ref F) H'
theorem treeE_sorted {E : List (Names × Bool)} {p : Names} {ys : List Str} (h : ys.Perm ((kidN E p).map S)) (s : sortedS ys = true) : ys.map V.str = nmsV (srtW (kidN E p)) := by
  rw [sorted_is h s]
  rfl
theorem flat_take {α β : Type} {f : α → List β} {l : List α} {k : Nat} {x : α} (h : l[k]? = some x) : (l.take (k + 1)).flatMap f = (l.take k).flatMap f ++ f x := by
  rw [List.take_succ, h, List.flatMap_append]
  simp
theorem flat_take_len {α β : Type} {f : α → List β} {l : List α} {k : Nat} : ((l.take k).flatMap f).length ≤ (l.flatMap f).length := by
  have e : l.flatMap f = (l.take k).flatMap f ++ (l.drop k).flatMap f := by rw [← List.flatMap_append, List.take_append_drop]
  rw [e, List.length_append]
  omega
theorem ok_paths_within (T : Txt K mg) : ∀ n, OkD P w K mg base (n + 2) (fA K "paths_within") ["tree", "ahead"] [] (spPW K n)
  | 0 => by
    refine okD T.F_paths_within sc_paths_within (fun _ _ _ _ _ _ us hl => match us, hl with | [_, _], _ => rfl) ?_ ?_
    · rintro vs H Q E ⟨E, al, p, ahead, rfl, _⟩
      rfl
    · rintro cdv A outer s H vs Q E hr ⟨E, al, p, ahead, rfl, ht, hp, hn, _⟩
      have hd : p.length ≤ 9 := by
        rcases hp with rfl | hp
        · exact Nat.zero_le _
        · exact ht.ok.deep _ hp
      omega
  | n + 1 => by
    have ih := ok_paths_within T n
    refine okD T.F_paths_within sc_paths_within (fun _ _ _ _ _ _ us hl => match us, hl with | [_, _], _ => rfl) ?_ ?_
    · rintro vs H Q E ⟨E, al, p, ahead, rfl, _⟩
      rfl
    · rintro cdv A outer s H vs Q X hr ⟨E, al, p, ahead, rfl, ht, hp, hn, hl, hk, ha, q⟩
      refine ⟨_, (pss_cons (ps_set (i := 2) sc_paths_within.nd rfl (Or.inl rfl) (pe_lst pa_nil))
  (pss_cons (ps_mid (ps_for (passes_of rfl) rfl (pi_mid (o_it (K := K) rfl (pe_callB (call_sortedD rfl) (by rfl) T.fr_sorted (by decide +kernel) (pa_cons (pv 0) pa_nil)))) (pg_name (i := 3) sc_paths_within.nd rfl (Or.inl rfl)) (pss_one (ps_if (pt_mid (pt_cmp (pc_isN (pe_dget (hu_of hr) (pv 0) (pv 3) (fun _ _ => rfl))) rfl)) (pss_one (ps_expr (pe_bmK (K := K) PySem.F.plainAttrs_list PySem.F.slot_list_append PySem.F.type_list_append mt_append (pv 2) (pa_cons (pe_mid (pe_op (o_add (K := K)) (pv 1) (pv 3))) pa_nil)))) (pss_cons (ps_expr (pe_bmK (K := K) PySem.F.plainAttrs_list PySem.F.slot_list_append PySem.F.type_list_append mt_append (pv 2) (pa_cons (pe_mid (pe_op (o_add (K := K)) (pe_op (o_add (K := K)) (pv 1) (pv 3)) pe_str)) pa_nil)))
  (pss_one (ps_aug (i := 2) sc_paths_within.nd rfl (Or.inl rfl) (pe_cal ih (hr.mono (by omega)) rfl T.g_paths_within (pasE (takes_of rfl rfl rfl rfl) (fun _ _ _ _ h => h)) (pa_cons (pe_dget (hu_of hr) (pv 0) (pv 3) (fun _ _ => rfl)) (pa_cons (pe_op (o_add (K := K)) (pe_op (o_add (K := K)) (pv 1) (pv 3)) pe_str) pa_nil))) o_iadd)))))))
  (pss_one (ps_ret (pv 2))))), ?_⟩
      have tobj := T.obj
      refine q_new fun F hF => ?_
      have sF := same_new (o := .lst []) hF
      have hd := ht.at_ p hp
      have hs := kids_keys (E := E) (al := al) (p := p)
      have hkn := (srt_perm (kidN E p)).length_eq
      have hk1 := hk p
      have ok := ht.ok
      have pl : p.length ≤ 9 := by
        rcases hp with rfl | hp
        · exact Nat.zero_le _
        · exact ok.deep _ hp
      have al1 : ahead.length ≤ 9009 := by
        have : p.length * 1001 ≤ 9 * 1001 := Nat.mul_le_mul_right _ pl
        omega
      let f : List Nat → List (List Nat) := fun nm => if (p ++ [nm], true) ∈ E then (ahead ++ nm ++ [47]) :: pathsE E n (p ++ [nm]) (ahead ++ nm ++ [47]) else [ahead ++ nm]
      have ef : pathsE E (n + 1) p ahead = (srtW (kidN E p)).flatMap f := rfl
      have tot : ((srtW (kidN E p)).flatMap f).length ≤ 1000 := by
        rw [← ef]
        exact Nat.le_trans (paths_len ok _ _ _) hl
      refine q_stm (fun σ H' => Same H H' ∧ ∃ x, σ = [some (.ref (al p)), some (.str (S ahead)), some (.ref F), x] ∧ H' F = some (.lst (nmsV (pathsE E (n + 1) p ahead)))) ?_ ?_
      · refine for_open (fun J H1 => ∃ L, J = Itl K L ∧ Same (upd H F (.lst [])) H1 ∧ H1 L = some (.lst (nmsV (srtW (kidN E p)))) ∧ upd H F (.lst []) L = none) ?_ ?_
        · walk_at "rd"
          refine ⟨_, .inl (sF _ _ hd), (kidN E p).map S, by rw [hs, List.map_map]; rfl, by rw [List.length_map]; omega, fun ys L hy hs' hL => ?_⟩
          rw [treeE_sorted hy hs']
          exact .inl ⟨⟨_, .inl (.inl upd_same)⟩, L, rfl, same_new hL, upd_same, hL⟩
        rintro _ H1 ⟨L, rfl, s1, hL, hLn⟩
        have nLF : L ≠ F := fun e => by rw [e, upd_same] at hLn; cases hLn
        have hLn0 : H L = none := by rw [upd_ne nLF] at hLn; exact hLn
        refine for_mid (J0 := Itl K L) (H0 := H1) ⟨rfl, rfl⟩ (walk_list (K := K) (a := L) (xs := nmsV (srtW (kidN E p)))) (fun k σ H' => Same H H' ∧ H' L = some (.lst (nmsV (srtW (kidN E p)))) ∧ ∃ x, σ = [some (.ref (al p)), some (.str (S ahead)), some (.ref F), x] ∧ H' F = some (.lst (nmsV (((srtW (kidN E p)).take k).flatMap f))))
          ⟨sF.trans s1, hL, _, rfl, s1 _ _ upd_same⟩ (fun _ _ _ _ h => .inl (.inl h.2.1)) ?_ (fun σ H' h => ?_)
        · rintro k x σ H2 H2' hk2 ⟨s2, hL2, x3, rfl, hF2⟩ ⟨rfl, hx⟩
          obtain ⟨nm, hnm, rfl⟩ := nms_at hx
          obtain ⟨fo, hin⟩ := (kidN_mem ok).mp ((srt_perm _).mem_iff.mp (List.mem_of_getElem? hnm))
          have okn := ok.nm _ hin nm (by simp)
          have hd2 := s2 _ _ hd
          have hv := kid_val ok (al := al) hin
          have stp := flat_take (f := f) hnm
          have tl := flat_take_len (f := f) (l := srtW (kidN E p)) (k := k)
          have tl1 := flat_take_len (f := f) (l := srtW (kidN E p)) (k := k + 1)
          have nlen := okn.2.1
          refine l_if (fun b H' => H' = H2' ∧ b = !fo) ?_ (fun H3 h => ?_) (fun H3 h => ?_)
          · walk_at "rd"
            refine ⟨_, dget_s hd2 hv, ?_⟩
            cases fo <;> rfl
          · obtain ⟨rfl, hb⟩ := h
            have hfo : fo = false := by cases fo with | false => rfl | true => cases hb
            subst hfo
            have hno : (p ++ [nm], true) ∉ E := fun z => by cases e_uniq ok hin z
            refine l_app (xs := nmsV (((srtW (kidN E p)).take k).flatMap f)) rfl hF2 ?_
            walk_at "rd"
            rw [S_cat]
            have ef1 : f nm = [ahead ++ nm] := if_neg hno
            rw [ef1] at stp
            refine ⟨by rw [S_len, S_len]; omega, _, hF2, by rw [nms_len]; omega, same_mut s2 hF, by rw [upd_ne nLF]; exact hL2, ?_⟩
            rw [upd_same, stp]
            simp [nmsV]
          · obtain ⟨rfl, hb⟩ := h
            have hfo : fo = true := by cases fo with | true => rfl | false => cases hb
            subst hfo
            refine q_app (xs := nmsV (((srtW (kidN E p)).take k).flatMap f)) rfl hF2 ?_
            walk_at "rd"
            rw [S_cat, show Str.ofString "/" = S [47] from rfl, S_cat]
            have ef1 : f nm = (ahead ++ nm ++ [47]) :: pathsE E n (p ++ [nm]) (ahead ++ nm ++ [47]) := if_pos hin
            rw [ef1] at stp
            have hd3 : upd H3 F (.lst (nmsV (((srtW (kidN E p)).take k).flatMap f) ++ [V.str (S (ahead ++ nm ++ [47]))])) (al p) = some (.dK (kids E al p)) := by
              rw [upd_ne fun e => by rw [e, hF2] at hd2; cases hd2]
              exact hd2
            have s3 : Same H (upd H3 F (.lst (nmsV (((srtW (kidN E p)).take k).flatMap f) ++ [V.str (S (ahead ++ nm ++ [47]))]))) := same_mut s2 hF
            refine ⟨by rw [S_len, S_len]; omega, by rw [S_len, S_len, List.length_append]; simp only [List.length_singleton]; omega, _, hF2, by rw [nms_len]; omega, _, dget_s hd3 hv, by rw [S_len, S_len]; omega, by rw [S_len, S_len, List.length_append]; simp only [List.length_singleton]; omega, ?_⟩
            refine ⟨E, al, p ++ [nm], ahead ++ nm ++ [47], rfl, ht.mono s3, .inr hin, by rw [List.length_append, List.length_singleton]; omega, hl, hk, ?_, fun G H4 s4 hG hG4 => ?_⟩
            · simp only [List.length_append, List.length_singleton, Nat.add_mul]
              omega
            have hF4 : H4 F = some (.lst (nmsV (((srtW (kidN E p)).take k).flatMap f) ++ [V.str (S (ahead ++ nm ++ [47]))])) := s4 _ _ upd_same
            have hL4 : H4 L = some (.lst (nmsV (srtW (kidN E p)))) := s4 _ _ (by rw [upd_ne nLF]; exact hL2)
            refine ⟨F, G, _, _, rfl, rfl, hF4, hG4, ?_, same_mut (s3.trans s4) hF, by rw [upd_ne nLF]; exact hL4, rfl, ?_⟩
            · have := congrArg List.length stp
              rw [List.length_append, List.length_cons] at this
              rw [List.length_append, nms_len, nms_len, List.length_singleton, sizeLine_eq]
              omega
            · rw [upd_same, stp]
              simp [nmsV]
        · obtain ⟨s2, _, x, e, hF2⟩ := h
          rw [List.take_of_length_le (by rw [nms_len]; exact Nat.le_refl _)] at hF2
          exact ⟨s2, x, e, hF2⟩
      rintro σ H1 ⟨s1, x, rfl, hF1⟩
      walk_at "rd"
      exact q F H1 s1 hF hF1
theorem ok__law_paths (T : Txt K mg) : ∀ n, OkD P w K mg base (n + 2) (fA K "_law_paths") ["_law_tree", "_law_ahead"] [] (spPW K n)
  | 0 => by
    refine okD T.F__law_paths sc__law_paths (fun _ _ _ _ _ _ us hl => match us, hl with | [_, _], _ => rfl) ?_ ?_
    · rintro vs H Q E ⟨E, al, p, ahead, rfl, _⟩
      rfl
    · rintro cdv A outer s H vs Q E hr ⟨E, al, p, ahead, rfl, ht, hp, hn, _⟩
      have hd : p.length ≤ 9 := by
        rcases hp with rfl | hp
        · exact Nat.zero_le _
        · exact ht.ok.deep _ hp
      omega
  | n + 1 => by
    have ih := ok__law_paths T n
    refine okD T.F__law_paths sc__law_paths (fun _ _ _ _ _ _ us hl => match us, hl with | [_, _], _ => rfl) ?_ ?_
    · rintro vs H Q E ⟨E, al, p, ahead, rfl, _⟩
      rfl
    · rintro cdv A outer s H vs Q X hr ⟨E, al, p, ahead, rfl, ht, hp, hn, hl, hk, ha, q⟩
      refine ⟨_, (pss_cons (ps_set (i := 2) sc__law_paths.nd rfl (Or.inl rfl) (pe_lst pa_nil))
  (pss_cons (ps_mid (ps_for (passes_of rfl) rfl (pi_mid (o_it (K := K) rfl (pe_callB (call_sortedD rfl) (by rfl) T.fr_sorted (by decide +kernel) (pa_cons (pv 0) pa_nil)))) (pg_name (i := 3) sc__law_paths.nd rfl (Or.inl rfl)) (pss_cons (ps_set (i := 4) sc__law_paths.nd rfl (Or.inl rfl) (pe_mid (pe_dget (hu_of hr) (pv 0) (pv 3) (fun _ _ => rfl))))
  (pss_cons (ps_expr (pe_bmK (K := K) PySem.F.plainAttrs_list PySem.F.slot_list_append PySem.F.type_list_append mt_append (pv 2) (pa_cons (pe_mid (pe_op (o_add (K := K)) (pe_op (o_add (K := K)) (pv 1) (pv 3)) (pe_mid (pe_op o_mulStr pe_str (pe_callTy o_int (by rfl) T.fr_int (by decide +kernel) (pa_cons (pe_cmp (pc_notN (pv 4)) rfl) pa_nil)))))) pa_nil)))
  (pss_one (ps_mid (ps_if (pt_mid (pt_cmp (pc_notN (pv 4)) rfl)) (pss_one (ps_set (i := 2) sc__law_paths.nd rfl (Or.inl rfl) (pe_op (o_add (K := K)) (pv 2) (pe_cal ih (hr.mono (by omega)) rfl T.g__law_paths (pasE (takes_of rfl rfl rfl rfl) (fun _ _ _ _ h => h)) (pa_cons (pv 4) (pa_cons (pe_op (o_add (K := K)) (pe_op (o_add (K := K)) (pv 1) (pv 3)) pe_str) pa_nil)))))) pss_nil)))))))
  (pss_one (ps_ret (pv 2))))), ?_⟩
      have tobj := T.obj
      refine q_new fun F hF => ?_
      have sF := same_new (o := .lst []) hF
      have hd := ht.at_ p hp
      have hs := kids_keys (E := E) (al := al) (p := p)
      have hkn := (srt_perm (kidN E p)).length_eq
      have hk1 := hk p
      have ok := ht.ok
      have pl : p.length ≤ 9 := by
        rcases hp with rfl | hp
        · exact Nat.zero_le _
        · exact ok.deep _ hp
      have al1 : ahead.length ≤ 9009 := by
        have : p.length * 1001 ≤ 9 * 1001 := Nat.mul_le_mul_right _ pl
        omega
      let f : List Nat → List (List Nat) := fun nm => if (p ++ [nm], true) ∈ E then (ahead ++ nm ++ [47]) :: pathsE E n (p ++ [nm]) (ahead ++ nm ++ [47]) else [ahead ++ nm]
      have ef : pathsE E (n + 1) p ahead = (srtW (kidN E p)).flatMap f := rfl
      have tot : ((srtW (kidN E p)).flatMap f).length ≤ 1000 := by
        rw [← ef]
        exact Nat.le_trans (paths_len ok _ _ _) hl
      refine q_stm (fun σ H' => Same H H' ∧ ∃ F x y, H F = none ∧ σ = [some (.ref (al p)), some (.str (S ahead)), some (.ref F), x, y] ∧ H' F = some (.lst (nmsV (pathsE E (n + 1) p ahead)))) ?_ ?_
      · refine for_open (fun J H1 => ∃ L, J = Itl K L ∧ Same (upd H F (.lst [])) H1 ∧ H1 L = some (.lst (nmsV (srtW (kidN E p)))) ∧ upd H F (.lst []) L = none) ?_ ?_
        · walk_at "rd"
          refine ⟨_, .inl (sF _ _ hd), (kidN E p).map S, by rw [hs, List.map_map]; rfl, by rw [List.length_map]; omega, fun ys L hy hs' hL => ?_⟩
          rw [treeE_sorted hy hs']
          exact .inl ⟨⟨_, .inl (.inl upd_same)⟩, L, rfl, same_new hL, upd_same, hL⟩
        rintro _ H1 ⟨L, rfl, s1, hL, hLn⟩
        have nLF : L ≠ F := fun e => by rw [e, upd_same] at hLn; cases hLn
        refine for_mid (J0 := Itl K L) (H0 := H1) ⟨rfl, rfl⟩ (walk_list (K := K) (a := L) (xs := nmsV (srtW (kidN E p)))) (fun k σ H' => Same H H' ∧ H' L = some (.lst (nmsV (srtW (kidN E p)))) ∧ ∃ F x y, H F = none ∧ L ≠ F ∧ σ = [some (.ref (al p)), some (.str (S ahead)), some (.ref F), x, y] ∧ H' F = some (.lst (nmsV (((srtW (kidN E p)).take k).flatMap f))))
          ⟨sF.trans s1, hL, F, _, _, hF, nLF, rfl, s1 _ _ upd_same⟩ (fun _ _ _ _ h => .inl (.inl h.2.1)) ?_ (fun σ H' h => ?_)
        · clear nLF sF hF s1 hLn
          rintro k x σ H2 H2' hk2 ⟨s2, hL2, F, x3, x4, hF, nLF, rfl, hF2⟩ ⟨rfl, hx⟩
          obtain ⟨nm, hnm, rfl⟩ := nms_at hx
          obtain ⟨fo, hin⟩ := (kidN_mem ok).mp ((srt_perm _).mem_iff.mp (List.mem_of_getElem? hnm))
          have okn := ok.nm _ hin nm (by simp)
          have hd2 := s2 _ _ hd
          have hv := kid_val ok (al := al) hin
          have stp := flat_take (f := f) hnm
          have tl := flat_take_len (f := f) (l := srtW (kidN E p)) (k := k)
          have tl1 := flat_take_len (f := f) (l := srtW (kidN E p)) (k := k + 1)
          have nlen := okn.2.1
          refine q_midG (fun v H' => H' = H2' ∧ v = if fo = true then .ref (al (p ++ [nm])) else .non) ?_ ?_
          · walk_at "rd"
            exact ⟨_, dget_s hd2 hv, rfl⟩
          rintro _ _ ⟨rfl, rfl⟩
          rename_i H2'
          refine q_app (xs := nmsV (((srtW (kidN E p)).take k).flatMap f)) rfl hF2 ?_
          have stp1 : (S ahead).length + (S nm).length ≤ 16777216 := by rw [S_len, S_len]; omega
          walk_at "rd"
          refine ⟨stp1, ?_⟩
          rw [S_cat]
          refine mid_of (fun v H' => H' = H2' ∧ v = .str (S (if fo = true then [47] else []))) ?_ ?_
          · walk_at "rd"
            cases fo
            · walk_at "rd"
              exact ⟨_, _, rfl, rfl, by decide, by decide, by decide, rfl, by decide +kernel⟩
            · walk_at "rd"
              exact ⟨_, _, rfl, rfl, by decide, by decide, by decide, rfl, by decide +kernel⟩
          rintro _ _ ⟨rfl, rfl⟩
          rename_i H2'
          refine ⟨by rw [S_len, S_len]; simp only [List.length_append]; split <;> simp <;> omega, _, hF2, by rw [nms_len]; omega, ?_⟩
          rw [S_cat]
          have nFt : al p ≠ F := fun e => by rw [← e, hd] at hF; cases hF
          generalize hH3 : upd H2' F (.lst (nmsV (((srtW (kidN E p)).take k).flatMap f) ++ [V.str (S (ahead ++ nm ++ if fo = true then [47] else []))])) = H3
          have s3 : Same H H3 := by rw [← hH3]; exact same_mut s2 hF
          have hF3 : H3 F = some (.lst (nmsV (((srtW (kidN E p)).take k).flatMap f) ++ [V.str (S (ahead ++ nm ++ if fo = true then [47] else []))])) := by rw [← hH3, upd_same]
          have hL3 : H3 L = some (.lst (nmsV (srtW (kidN E p)))) := by rw [← hH3, upd_ne nLF]; exact hL2
          refine ⟨_, ?_, fun _ _ h => h, fun _ _ h => h, fun _ _ h => h, fun _ _ h => h⟩
          refine l_if (fun b H' => H' = H3 ∧ b = fo) ?_ (fun H4 h => ?_) (fun H4 h => ?_)
          · walk_at "rd"
            cases fo <;> rfl
          · obtain ⟨rfl, hb⟩ := h
            subst hb
            have ef1 : f nm = (ahead ++ nm ++ [47]) :: pathsE E n (p ++ [nm]) (ahead ++ nm ++ [47]) := if_pos hin
            rw [ef1] at stp
            walk_at "rd"
            rw [S_cat, show Str.ofString "/" = S [47] from rfl, S_cat]
            refine ⟨by rw [S_len, S_len]; omega, by rw [S_len, S_len, List.length_append]; simp only [List.length_singleton]; omega, ?_⟩
            refine ⟨E, al, p ++ [nm], ahead ++ nm ++ [47], rfl, ht.mono s3, .inr hin, by rw [List.length_append, List.length_singleton]; omega, hl, hk, ?_, fun G H5 s5 hG hG5 => ?_⟩
            · simp only [List.length_append, List.length_singleton, Nat.add_mul]
              omega
            refine .inl ⟨_, s5 _ _ hF3, _, hG5, ?_, fun p2 hp2 => ⟨(s3.trans s5).trans (same_new hp2), (same_new hp2) _ _ (s5 _ _ hL3), p2, same_none (s3.trans s5) hp2, fun e => ?_, rfl, ?_⟩⟩
            · have := congrArg List.length stp
              rw [List.length_append, List.length_cons] at this
              rw [List.length_append, nms_len, nms_len, List.length_singleton]
              omega
            · rw [← e, s5 _ _ hL3] at hp2; cases hp2
            · rw [upd_same, stp, if_pos rfl]
              simp [nmsV]
          · obtain ⟨rfl, hb⟩ := h
            subst hb
            have hno : (p ++ [nm], true) ∉ E := fun z => by cases e_uniq ok hin z
            have ef1 : f nm = [ahead ++ nm] := if_neg hno
            rw [ef1] at stp
            refine ⟨s3, hL3, F, hF, nLF, ⟨_, _, rfl⟩, ?_⟩
            rw [hF3, stp, if_neg Bool.false_ne_true, List.append_nil]
            simp [nmsV]
        · obtain ⟨s2, _, F, x, y, hF, _, e, hF2⟩ := h
          rw [List.take_of_length_le (by rw [nms_len]; exact Nat.le_refl _)] at hF2
          exact ⟨s2, F, x, y, hF, e, hF2⟩
      rintro σ H1 ⟨s1, F, x, y, hF, rfl, hF1⟩
      walk_at "rd"
      exact q F H1 s1 hF hF1
def spPathsOf (K : PySem.W.Frag) : Sp := fun vs H Q _ => ∃ E al, vs = [.ref (al [])] ∧ TreeE E al H ∧ E.length ≤ 1000 ∧ (∀ p, (kidN E p).length ≤ 60) ∧ ∀ F H', Same H H' → H F = none → H' F = some (.lst (nmsV (srtW (pathsE E 10 [] [])))) → Q (.ref F) H'
theorem ok_paths_of (T : Txt K mg) : OkD P w K mg base 13 (fA K "paths_of") ["tree"] [] (spPathsOf K) := by
  refine okD T.F_paths_of sc_paths_of (fun _ _ _ _ _ _ us hl => match us, hl with | [_], _ => rfl) ?_ ?_
  · rintro vs H Q E ⟨E, al, rfl, _⟩
    rfl
  · rintro cdv A outer s H vs Q X hr ⟨E, al, rfl, ht, hl, hk, q⟩
    refine ⟨_, (pss_one (ps_ret (pe_callB (o_sortedA (K := K)) (by rfl) T.fr_sorted (by decide +kernel) (pa_cons (pe_cal (ok_paths_within T 10) (hr.mono (by omega)) rfl T.g_paths_within (pasE (takes_of rfl rfl rfl rfl) (fun _ _ _ _ h => h)) (pa_cons (pv 0) (pa_cons pe_str pa_nil))) pa_nil)))), ?_⟩
    have tobj := T.obj
    walk_at "rd"
    refine ⟨E, al, [], [], rfl, ht, .inl rfl, rfl, hl, hk, Nat.zero_le _, fun F H' s hF hF' => ?_⟩
    exact ⟨_, .inl (.inl hF'), fun p hp => q p _ (s.trans (same_new hp)) (same_none s hp) upd_same⟩

/-! ### a tree that grows -/
theorem kids_congr {E : List (Names × Bool)} {al al' : Names → Addr} {q : Names} (h : ∀ e ∈ E, e.2 = true → al e.1 = al' e.1) : kids E al q = kids E al' q := by
  unfold kids
  refine List.map_congr_left fun e he => ?_
  have hm := (List.mem_filter.mp he).1
  unfold kidE
  cases hb : e.2 with
  | false => rfl
  | true => rw [h e hm hb]
theorem kids_snoc {E : List (Names × Bool)} {e : Names × Bool} {al : Names → Addr} {q : Names} : kids (E ++ [e]) al q = kids E al q ++ (if e.1.dropLast = q then [kidE al e] else []) := by
  unfold kids
  rw [List.filter_append, List.map_append]
  congr 1
  unfold inF
  by_cases h : e.1.dropLast = q <;> simp [h]
theorem kidN_snoc {E : List (Names × Bool)} {e : Names × Bool} {q : Names} : kidN (E ++ [e]) q = kidN E q ++ (if e.1.dropLast = q then [e.1.getLastD []] else []) := by
  unfold kidN
  rw [List.filter_append, List.map_append]
  congr 1
  unfold inF
  by_cases h : e.1.dropLast = q <;> simp [h]
theorem Fold.more {E E' : List (Names × Bool)} {p : Names} (h : Fold E p) (s : ∀ e ∈ E, e ∈ E') : Fold E' p := h.imp id (s _)
theorem ok_snoc {E : List (Names × Bool)} (ok : EOk E) {p : Names} {nm : List Nat} {fo : Bool} (hp : Fold E p) (hno : ∀ fo, (p ++ [nm], fo) ∉ E) (okp : ∀ x ∈ p, NmOk x) (okn : NmOk nm) (hl : p.length < 9) : EOk (E ++ [(p ++ [nm], fo)]) := by
  have hm : ∀ e ∈ E ++ [(p ++ [nm], fo)], e ∈ E ∨ e = (p ++ [nm], fo) := fun e he => (List.mem_append.mp he).imp id List.mem_singleton.mp
  refine ⟨?_, fun e he => ?_, fun e he => ?_, fun e he => ?_, fun e he => ?_⟩
  · rw [List.map_append]
    refine nd_snoc ok.nd fun h => ?_
    obtain ⟨e, he, e1⟩ := List.mem_map.mp h
    exact hno e.2 (by rw [← show e.1 = p ++ [nm] from e1]; exact he)
  · rcases hm e he with h | rfl
    · exact ok.ne e h
    · simp
  · rcases hm e he with h | rfl
    · exact (ok.up e h).imp id fun h => List.mem_append_left _ h
    · rw [show (p ++ [nm], fo).1.dropLast = p from List.dropLast_concat]
      exact hp.imp id fun h => List.mem_append_left _ h
  · rcases hm e he with h | rfl
    · exact ok.nm e h
    · intro x hx
      exact (List.mem_append.mp hx).elim (okp x) fun h => by rw [List.mem_singleton.mp h]; exact okn
  · rcases hm e he with h | rfl
    · exact ok.deep e h
    · show (p ++ [nm]).length ≤ 9
      rw [List.length_append, List.length_singleton]
      exact hl
theorem fold_snoc {E : List (Names × Bool)} {e : Names × Bool} {q : Names} (h : Fold (E ++ [e]) q) : Fold E q ∨ (q = e.1 ∧ e.2 = true) := by
  rcases h with rfl | h
  · exact .inl (.inl rfl)
  · rcases List.mem_append.mp h with h | h
    · exact .inl (.inr h)
    · have := List.mem_singleton.mp h
      exact .inr ⟨by rw [← this], by rw [← this]⟩
theorem tree_leaf {E : List (Names × Bool)} {al : Names → Addr} {H : Hp} {p : Names} {nm : List Nat} (t : TreeE E al H) (hp : Fold E p) (hno : ∀ fo, (p ++ [nm], fo) ∉ E) (okp : ∀ x ∈ p, NmOk x) (okn : NmOk nm) (hl : p.length < 9) :
    TreeE (E ++ [(p ++ [nm], false)]) al (upd H (al p) (.dK (putK (kids E al p) (.inr (S nm)) .non))) := by
  have fo : ∀ q, Fold (E ++ [(p ++ [nm], false)]) q → Fold E q := fun q h => (fold_snoc h).elim id fun h => nomatch h.2
  refine ⟨ok_snoc t.ok hp hno okp okn hl, fun q hq => ?_, fun a b ha hb => t.inj a b (fo a ha) (fo b hb)⟩
  have hq' := fo q hq
  by_cases e : q = p
  · subst e
    rw [upd_same, putK_new _ (kid_no t.ok hno), kids_snoc, if_pos (by simp)]
    unfold kidE
    rw [last_app]
    rfl
  · rw [upd_ne fun z => e (t.inj q p hq' hp z), t.at_ q hq', kids_snoc, if_neg (by simpa using fun z => e z.symm), List.append_nil]
def upA (al : Names → Addr) (p : Names) (D : Addr) : Names → Addr := fun q => if q = p then D else al q
theorem tree_dir {E : List (Names × Bool)} {al : Names → Addr} {H : Hp} {p : Names} {nm : List Nat} {D : Addr} (t : TreeE E al H) (hp : Fold E p) (hno : ∀ fo, (p ++ [nm], fo) ∉ E) (okp : ∀ x ∈ p, NmOk x) (okn : NmOk nm) (hl : p.length < 9) (hD : H D = none) :
    TreeE (E ++ [(p ++ [nm], true)]) (upA al (p ++ [nm]) D) (upd (upd H D (.dK [])) (al p) (.dK (putK (kids E al p) (.inr (S nm)) (.ref D)))) := by
  have nF : ∀ q, Fold E q → q ≠ p ++ [nm] := fun q h e => by
    subst e
    rcases h with h | h
    · simp at h
    · exact hno _ h
  have aD : ∀ q, Fold E q → al q ≠ D := fun q h e => by
    have := t.at_ q h
    rw [e, hD] at this
    cases this
  have old : ∀ q, Fold E q → upA al (p ++ [nm]) D q = al q := fun q h => if_neg (nF q h)
  have new : upA al (p ++ [nm]) D (p ++ [nm]) = D := if_pos rfl
  have cg : ∀ q, kids E (upA al (p ++ [nm]) D) q = kids E al q := fun q => kids_congr fun e he hb => old e.1 (.inr (by rw [← hb]; exact he))
  refine ⟨ok_snoc t.ok hp hno okp okn hl, fun q hq => ?_, fun a b ha hb e => ?_⟩
  · rcases fold_snoc hq with h | ⟨h, _⟩
    · rw [old q h, kids_snoc, cg]
      by_cases e : q = p
      · subst e
        rw [upd_same, putK_new _ (kid_no t.ok hno), if_pos (by simp)]
        unfold kidE
        rw [last_app]
        show _ = some (HO.dK (kids E al q ++ [(Sum.inr (S nm), if true = true then V.ref (upA al (q ++ [nm]) D (q ++ [nm])) else V.non)]))
        rw [new, if_pos rfl]
      · rw [upd_ne fun z => e (t.inj q p h hp z), upd_ne (aD q h), t.at_ q h, if_neg (by simpa using fun z => e z.symm), List.append_nil]
    · have h' : q = p ++ [nm] := h
      subst h'
      rw [new, upd_ne (fun e => aD p hp e.symm), upd_same, kids_snoc, cg, if_neg (by
        rw [show (p ++ [nm], true).1.dropLast = p from List.dropLast_concat]
        exact fun e => by have := congrArg List.length e; simp at this), List.append_nil]
      have : kids E al (p ++ [nm]) = [] := by
        unfold kids
        rw [List.map_eq_nil_iff, List.filter_eq_nil_iff]
        intro e he hb
        have e1 := of_decide_eq_true hb
        rcases t.ok.up e he with h | h
        · rw [e1] at h; simp at h
        · rw [e1] at h; exact hno _ h
      rw [this]
  · rcases fold_snoc ha with h | ⟨h, _⟩
    · rcases fold_snoc hb with g | ⟨g, _⟩
      · rw [old a h, old b g] at e
        exact t.inj a b h g e
      · have g' : b = p ++ [nm] := g
        rw [old a h, g', new] at e
        exact absurd e (aD a h)
    · have h' : a = p ++ [nm] := h
      rcases fold_snoc hb with g | ⟨g, _⟩
      · rw [old b g, h', new] at e
        exact absurd e.symm (aD b g)
      · exact h.trans g.symm
/-- what stands ahead of an entry is a folder -/
theorem up_all {E : List (Names × Bool)} (ok : EOk E) : ∀ (t p : Names) {b : Bool}, p ≠ [] → t ≠ [] → (p ++ t, b) ∈ E → (p, true) ∈ E := by
  intro t
  induction h : t.length using Nat.strongRecOn generalizing t with
  | _ n ih =>
    intro p b hp ht he
    have e := drop_last ht
    have hu := ok.up _ he
    rw [show (p ++ t, b).1.dropLast = p ++ t.dropLast from by rw [e, ← List.append_assoc]; simp] at hu
    rcases hu with hu | hu
    · simp at hu
      exact absurd hu.1 hp
    · by_cases h0 : t.dropLast = []
      · rw [h0, List.append_nil] at hu
        exact hu
      · refine ih t.dropLast.length (by rw [List.length_dropLast]; have := List.length_pos_iff.mpr ht; omega) _ rfl p hp h0 hu
theorem up_take {E : List (Names × Bool)} (ok : EOk E) {q : Names} {b : Bool} {i : Nat} (h : (q, b) ∈ E) (h0 : 0 < i) (hi : i < q.length) : (q.take i, true) ∈ E := by
  refine up_all ok (q.drop i) (q.take i) (b := b) (fun e => ?_) (fun e => ?_) (by rw [List.take_append_drop]; exact h)
  · have := congrArg List.length e
    rw [List.length_take, List.length_nil] at this
    omega
  · have := congrArg List.length e
    rw [List.length_drop, List.length_nil] at this
    omega
/-- a path may come -/
def OkPut (E : List (Names × Bool)) (nms : Names) (fo : Bool) : Prop := (∀ i, 0 < i → i < nms.length → (nms.take i, false) ∉ E) ∧ (nms, !fo) ∉ E
structure Grow (E E' : List (Names × Bool)) (nms : Names) (k : Nat) : Prop where
  sub : ∀ e ∈ E, e ∈ E'
  new : ∀ e ∈ E', e ∈ E ∨ ∃ i, 0 < i ∧ i ≤ k ∧ e.1 = nms.take i ∧ (i < nms.length → e.2 = true)
  len : E'.length ≤ E.length + k
  kid : ∀ p, (kidN E' p).length ≤ (kidN E p).length + if p.length < k then 1 else 0
def NewT (H0 : Hp) (E : List (Names × Bool)) (al : Names → Addr) : Prop := ∀ p, Fold E p → H0 (al p) = none
theorem Grow.refl {E : List (Names × Bool)} {nms : Names} : Grow E E nms 0 := ⟨fun _ h => h, fun _ h => .inl h, Nat.le_refl _, fun p => Nat.le_add_right _ _⟩
theorem Grow.same {E E' : List (Names × Bool)} {nms : Names} {k : Nat} (g : Grow E E' nms k) : Grow E E' nms (k + 1) :=
  ⟨g.sub, fun e he => (g.new e he).imp id fun ⟨i, a, b, c⟩ => ⟨i, a, by omega, c⟩, by have := g.len; omega, fun p => by have := g.kid p; split at this <;> split <;> omega⟩
theorem Grow.snoc {E E' : List (Names × Bool)} {nms : Names} {k : Nat} {nm : List Nat} {fo : Bool} (g : Grow E E' nms k) (hk : nms[k]? = some nm) (hf : k + 1 < nms.length → fo = true) : Grow E (E' ++ [(nms.take k ++ [nm], fo)]) nms (k + 1) := by
  have tk : nms.take (k + 1) = nms.take k ++ [nm] := by rw [List.take_succ, hk]; rfl
  have hl : k < nms.length := (List.getElem?_eq_some_iff.mp hk).1
  refine ⟨fun e he => List.mem_append_left _ (g.sub e he), fun e he => ?_, by rw [List.length_append, List.length_singleton]; have := g.len; omega, fun p => ?_⟩
  · rcases List.mem_append.mp he with h | h
    · exact (g.new e h).imp id fun ⟨i, a, b, c⟩ => ⟨i, a, by omega, c⟩
    · rw [List.mem_singleton.mp h]
      exact .inr ⟨k + 1, by omega, Nat.le_refl _, tk.symm, hf⟩
  · have h := g.kid p
    rw [kidN_snoc, List.length_append]
    by_cases e : nms.take k = p
    · rw [if_pos (by simpa using e)]
      have lp : p.length = k := by rw [← e, List.length_take]; omega
      rw [if_neg (by omega)] at h
      rw [if_pos (by omega)]
      simp only [List.length_singleton]
      omega
    · rw [if_neg (by simpa using e)]
      split at h <;> split <;> simp only [List.length_nil] <;> omega
def spFree (K : PySem.W.Frag) : Sp := fun vs H Q _ => ∃ E al n fo nms, vs = [.ref (al []), .ref n, .bl fo] ∧ TreeE E al H ∧ SqL K H n (nmsV nms) ∧ nms ≠ [] ∧ nms.length ≤ 9 ∧ (∀ x ∈ nms, NmOk x) ∧ ∀ b H', Same H H' → (b = true → OkPut E nms fo) → (b = false → ¬ OkPut E nms fo) → Q (.bl b) H'
theorem ok__law_free (T : Txt K mg) : OkD P w K mg base 1 (fA K "_law_free") ["_law_root", "_law_names_here", "_law_folder"] [] (spFree K) := by
  refine okD T.F__law_free sc__law_free (fun _ _ _ _ _ _ us hl => match us, hl with | [_, _, _], _ => rfl) ?_ ?_
  · rintro vs H Q E ⟨E, al, n, fo, nms, rfl, _⟩
    rfl
  · rintro cdv A outer s H vs Q X hr ⟨E, al, n, fo, nms, rfl, ht, hn, hne, hl, hnm, q⟩
    refine ⟨_, (pss_cons (ps_set (i := 3) sc__law_free.nd rfl (Or.inl rfl) (pe_mid (pv 0)))
  (pss_cons (ps_mid (ps_for (passes_of rfl) rfl (pi_mid (o_enum (K := K) rfl T.fr_enumerate (pv 1))) (pg_tup rfl (pgs_cons (pg_name (i := 4) sc__law_free.nd rfl (Or.inl rfl)) (pgs_cons (pg_name (i := 5) sc__law_free.nd rfl (Or.inl rfl)) pgs_nil))) (pss_cons (ps_set (i := 6) sc__law_free.nd rfl (Or.inl rfl) (pe_mid (pe_cmpR (o_eq (K := K) (hu64 hr)) (pe_op (o_add (K := K)) (pv 4) pe_int) (pe_callB (o_lenW (K := K) (w := w)) (by rfl) T.fr_len boot_len (pa_cons (pv 1) pa_nil)) (nomark _))))
  (pss_cons (ps_if (pt_mid (pt_cmp (pc_dnotin (hu_of hr) (pv 5) (pv 3)) rfl)) (pss_one (ps_ret pe_bl)) pss_nil)
  (pss_cons (ps_if (pt_mid (PW.pt (pw_or (pt_tru (K := K) (pv 6) (by intro _; rfl)) (pw_or1 (pt_cmp (pc_isN (pe_dget (hu_of hr) (pv 3) (pv 5) (fun _ _ => rfl))) rfl))))) (pss_one (ps_ret (pe_andK (K := K) (pv 6) (pe_one (pe_cmpR (o_ne (K := K) (hu64 hr)) (pe_cmp (pc_isN (pe_dget (hu_of hr) (pv 3) (pv 5) (fun _ _ => rfl))) rfl) (pv 2) (nomark _)))))) pss_nil)
  (pss_one (ps_set (i := 3) sc__law_free.nd rfl (Or.inl rfl) (pe_mid (pe_dget (hu_of hr) (pv 3) (pv 5) (fun _ _ => rfl))))))))))
  (pss_one (ps_ret pe_bl)))), ?_⟩
    have tobj := T.obj
    have ok := ht.ok
    refine q_midG (fun v H' => v = .ref (al []) ∧ H' = H) (by walk_at "rd") ?_
    rintro _ _ ⟨rfl, rfl⟩
    rename_i H
    refine q_stm (fun σ H' => False) ?_ (fun _ _ h => h.elim)
    refine for_pair (J0 := Ite K n) (H0 := H) ?_ (walk_enum (K := K) (a := n) (xs := nmsV nms)) (fun k σ H' => Same H H' ∧ k < nms.length ∧ Fold E (nms.take k) ∧ ∃ x4 x5 x6, σ = [some (.ref (al [])), some (.ref n), some (.bl fo), some (.ref (al (nms.take k))), x4, x5, x6])
      ⟨Same.refl _, List.length_pos_iff.mpr hne, .inl rfl, _, _, _, rfl⟩ (fun _ _ _ _ h => same_l h.1 hn) ?_ (fun σ H' h => ?_)
    · walk_at "rd"
      exact ⟨_, hn⟩
    · rintro k x y σ H1 H2 hk ⟨s1, hkl, hf, x4, x5, x6, rfl⟩ s2 hx hy
      obtain rfl : x = .int (k : Nat) := (Option.some.inj hx).symm
      obtain ⟨nm, hnm1, rfl⟩ := nms_at hy
      have tk : nms.take (k + 1) = nms.take k ++ [nm] := by rw [List.take_succ, hnm1]; rfl
      have s12 := s1.trans s2
      have hd := s12 _ _ (ht.at_ _ hf)
      have ahead : ∀ i, 0 < i → i ≤ k → (nms.take i, true) ∈ E := fun i h0 hi => by
        rcases hf with h | h
        · have := congrArg List.length h
          rw [List.length_take, List.length_nil] at this
          omega
        · rcases Nat.lt_or_ge i k with h1 | h1
          · have := up_take ok h h0 (by rw [List.length_take]; omega)
            rwa [List.take_take, Nat.min_eq_left (by omega)] at this
          · rw [show i = k from by omega]; exact h
      refine q_midG (fun v H' => Same H2 H' ∧ v = .bl (decide (k + 1 = nms.length))) ?_ ?_
      · walk_at "rd"
        refine .inr ⟨_, .inl ⟨_, same_l s12 hn, rfl⟩, ?_⟩
        rw [nms_len]
        exact decide_eq_decide.mpr ⟨fun h => by omega, fun h => by omega⟩
      rintro _ H3 ⟨s3, rfl⟩
      have hd3 := s3 _ _ hd
      refine q_if (fun b H' => H' = H3 ∧ (b = true → ∀ fo, (nms.take k ++ [nm], fo) ∉ E) ∧ (b = false → ∃ fo, (nms.take k ++ [nm], fo) ∈ E)) ?_ (fun H4 h => ?_) fun H4 h => q_next ?_
      · walk_at "rd"
        by_cases he : ∃ fo, (nms.take k ++ [nm], fo) ∈ E
        · obtain ⟨fo', he⟩ := he
          exact ⟨_, dget_s hd3 (kid_val ok he), (fun z => nomatch z), fun _ => ⟨fo', he⟩⟩
        · have hno : ∀ fo, (nms.take k ++ [nm], fo) ∉ E := fun fo h => he ⟨fo, h⟩
          have g := DGet.k (k := .inr (S nm)) hd3
          rw [kid_no ok hno] at g
          exact ⟨_, g, fun _ => hno, fun z => nomatch z⟩
      · obtain ⟨rfl, hb, _⟩ := h
        have hno := hb rfl
        walk_at "rd"
        refine q _ _ (s12.trans s3) (fun _ => ⟨fun i h0 hi he => ?_, fun he => ?_⟩) fun z => nomatch z
        · rcases Nat.lt_or_ge k i with h | h
          · rcases Nat.eq_or_lt_of_le h with e | h2
            · rw [← e, tk] at he
              exact hno _ he
            · have := up_take ok he (i := k + 1) (by omega) (by rw [List.length_take]; omega)
              rw [List.take_take, Nat.min_eq_left (by omega), tk] at this
              exact hno _ this
          · have := e_uniq ok he (ahead i h0 h)
            cases this
        · rcases Nat.eq_or_lt_of_le hkl with e | h2
          · rw [← List.take_of_length_le (l := nms) (i := k + 1) (by omega), tk] at he
            exact hno _ he
          · have := up_take ok he (i := k + 1) (by omega) h2
            rw [tk] at this
            exact hno _ this
      obtain ⟨rfl, _, hb⟩ := h
      obtain ⟨fo', he⟩ := hb rfl
      have hv := kid_val ok (al := al) he
      refine q_if (fun b H' => H' = H4 ∧ b = (decide (k + 1 = nms.length) || !fo')) ?_ (fun H5 h => ?_) fun H5 h => q_next ?_
      · walk_at "rd"
        split
        · rename_i e
          rw [decide_eq_true e]
          rfl
        · rename_i e
          rw [decide_eq_false e]
          refine ⟨_, dget_s hd3 hv, ?_⟩
          cases fo' <;> rfl
      · obtain ⟨rfl, hb⟩ := h
        walk_at "rd"
        split
        · rename_i e
          have en : nms = nms.take k ++ [nm] := by rw [← tk, List.take_of_length_le (by omega)]
          refine ⟨_, dget_s hd3 hv, q _ _ (s12.trans s3) (fun h => ⟨fun i h0 hi he' => ?_, fun he' => ?_⟩) fun h g => ?_⟩
          · have := e_uniq ok he' (ahead i h0 (by omega))
            cases this
          · rw [en] at he'
            have := e_uniq ok he he'
            subst this
            cases fo <;> simp at h
          · have h2 := g.2
            rw [en] at h2
            cases fo <;> cases fo' <;> first | exact absurd he h2 | simp at h
        · rename_i e
          rw [decide_eq_false e]
          have hfo : fo' = false := by
            rw [decide_eq_false e] at hb
            cases fo' with
            | true => simp at hb
            | false => rfl
          subst hfo
          exact q _ _ (s12.trans s3) (fun h => nomatch h) fun _ g => g.1 (k + 1) (by omega) (by omega) (by rw [tk]; exact he)
      obtain ⟨rfl, hb⟩ := h
      have hfo : fo' = true := by cases fo' with | true => rfl | false => simp at hb
      have hlt : k + 1 < nms.length := by
        have : ¬ k + 1 = nms.length := fun e => by rw [decide_eq_true e] at hb; simp at hb
        omega
      subst hfo
      refine l_midG (fun v H' => H' = H5 ∧ v = .ref (al (nms.take k ++ [nm]))) ?_ ?_
      · walk_at "rd"
        exact ⟨_, dget_s hd3 hv, rfl⟩
      rintro _ _ ⟨rfl, rfl⟩
      rw [tk]
      exact ⟨s12.trans s3, hlt, .inr he, _, _, _, rfl⟩
    · exact absurd h.2.1 (by rw [nms_len]; exact Nat.lt_irrefl _)
def spPut (K : PySem.W.Frag) : Sp := fun vs H Q _ => ∃ H0 E al n fo nms, vs = [.ref (al []), .ref n, .bl fo] ∧ Same H0 H ∧ NewT H0 E al ∧ TreeE E al H ∧ H n = some (.lst (nmsV nms)) ∧ nms ≠ [] ∧ nms.length ≤ 9 ∧ (∀ x ∈ nms, NmOk x) ∧ OkPut E nms fo ∧ (∀ p, (kidN E p).length ≤ 1000) ∧
  ∀ E' al' H', Same H0 H' → NewT H0 E' al' → TreeE E' al' H' → al' [] = al [] → Grow E E' nms nms.length → (nms, fo) ∈ E' → Q .non H'
theorem NewT.leaf {H0 : Hp} {E : List (Names × Bool)} {al : Names → Addr} {q : Names} (h : NewT H0 E al) : NewT H0 (E ++ [(q, false)]) al := fun p hp => (fold_snoc hp).elim (h p) fun z => nomatch z.2
theorem NewT.dir {H0 : Hp} {E : List (Names × Bool)} {al : Names → Addr} {q : Names} {D : Addr} (h : NewT H0 E al) (hD : H0 D = none) : NewT H0 (E ++ [(q, true)]) (upA al q D) := fun p hp => by
  unfold upA
  split
  · exact hD
  · rename_i e
    exact (fold_snoc hp).elim (h p) fun z => absurd z.1 e
theorem ok__law_put_in (T : Txt K mg) : OkD P w K mg base 1 (fA K "_law_put_in") ["_law_root", "_law_names_here", "_law_folder"] [] (spPut K) := by
  refine okD T.F__law_put_in sc__law_put_in (fun _ _ _ _ _ _ us hl => match us, hl with | [_, _, _], _ => rfl) ?_ ?_
  · rintro vs H Q E ⟨H0, E, al, n, fo, nms, rfl, _⟩
    rfl
  · rintro cdv A outer s H vs Q X hr ⟨H0, E, al, n, fo, nms, rfl, s0, hnew, ht, hn, hne, hl, hnm, hput, hkid, q⟩
    refine ⟨_, (pss_cons (ps_set (i := 3) sc__law_put_in.nd rfl (Or.inl rfl) (pe_mid (pv 0)))
  (pss_cons (ps_mid (ps_for (passes_of rfl) rfl (pi_mid (o_it (K := K) rfl (pe_slice (o_sl (K := K)) (pv 1) po_none (po_some (pe_un un_neg pe_int))))) (pg_name (i := 4) sc__law_put_in.nd rfl (Or.inl rfl)) (pss_cons (ps_mid (ps_if (pt_mid (pt_cmp (pc_dnotin (hu_of hr) (pv 4) (pv 3)) rfl)) (pss_one (ps_dput (hu_of hr) (pv 3) (pv 4) pe_dnewK rfl)) pss_nil))
  (pss_one (ps_set (i := 3) sc__law_put_in.nd rfl (Or.inl rfl) (pe_mid (pe_dget (hu_of hr) (pv 3) (pv 4) (fun _ _ => rfl))))))))
  (pss_one (ps_if (pt_mid (pt_cmp (pc_dnotin (hu_of hr) (pe_ix (o_ix (K := K)) (pv 1) (pe_un un_neg pe_int) (fun _ _ => rfl)) (pv 3)) rfl)) (pss_one (ps_dput (hu_of hr) (pv 3) (pe_ix (o_ix (K := K)) (pv 1) (pe_un un_neg pe_int) (fun _ _ => rfl)) (pe_ifExp (pt_tru (K := K) (pv 2) (by intro _; rfl)) pe_dnewK pe_non) rfl)) pss_nil)))), ?_⟩
    have tobj := T.obj
    have hlen := List.length_pos_iff.mpr hne
    refine q_midG (fun v H' => v = .ref (al []) ∧ H' = H) (by walk_at "rd") ?_
    rintro _ _ ⟨rfl, rfl⟩
    rename_i H
    refine q_stm (fun σ H' => Same H0 H' ∧ H' n = some (.lst (nmsV nms)) ∧ ∃ E' al' x4, σ = [some (.ref (al [])), some (.ref n), some (.bl fo), some (.ref (al' (nms.take (nms.length - 1)))), x4] ∧ NewT H0 E' al' ∧ TreeE E' al' H' ∧ al' [] = al [] ∧ Fold E' (nms.take (nms.length - 1)) ∧ Grow E E' nms (nms.length - 1)) ?_ ?_
    · refine for_open (fun J H1 => ∃ L, J = Itl K L ∧ H L = none ∧ H1 = upd H L (.lst (nmsV (nms.take (nms.length - 1))))) ?_ ?_
      · walk_at "rd"
        refine .inl ⟨_, .inl (.inl hn), fun L hL => .inl ⟨⟨_, .inl (.inl upd_same)⟩, L, rfl, hL, ?_⟩⟩
        have e : cutV (nmsV nms) none (some (-1)) = nmsV (nms.take (nms.length - 1)) := by
          unfold cutV
          have e : HT.sIx (nmsV nms).length (nmsV nms).length (some (-1)) = nms.length - 1 := by
            rw [nms_len]
            unfold HT.sIx
            simp
            omega
          rw [HT.sIx_none, e, List.drop_zero, Nat.sub_zero, nms_take]
        rw [e]
      rintro _ _ ⟨L, rfl, hLn, rfl⟩
      have nL : L ≠ n := fun e => by rw [e, hn] at hLn; cases hLn
      have sL : Same H (upd H L (.lst (nmsV (nms.take (nms.length - 1))))) := same_new hLn
      refine for_mid (J0 := Itl K L) (H0 := upd H L (.lst (nmsV (nms.take (nms.length - 1))))) ⟨rfl, rfl⟩ (walk_list (K := K) (a := L) (xs := nmsV (nms.take (nms.length - 1)))) (fun k σ H' => Same H0 H' ∧ H' n = some (.lst (nmsV nms)) ∧ H' L = some (.lst (nmsV (nms.take (nms.length - 1)))) ∧ ∃ E' al' x4, σ = [some (.ref (al [])), some (.ref n), some (.bl fo), some (.ref (al' (nms.take k))), x4] ∧ NewT H0 E' al' ∧ TreeE E' al' H' ∧ al' [] = al [] ∧ Fold E' (nms.take k) ∧ Grow E E' nms k)
        ⟨s0.trans sL, sL _ _ hn, upd_same, E, al, _, rfl, hnew, ht.mono sL, rfl, .inl rfl, .refl⟩ (fun _ _ _ _ h => .inl (.inl h.2.2.1)) ?_ (fun σ H' h => ?_)
      · rintro k x σ H1 H1' hk ⟨s1, hn1, hL1, E', al', x4, rfl, new1, t1, e1, f1, g1⟩ ⟨rfl, hx⟩
        obtain ⟨nm, hnm0, rfl⟩ := nms_at hx
        have hk1 : k + 1 < nms.length := by
          rw [nms_len, List.length_take] at hk
          omega
        have hnm1 : nms[k]? = some nm := by rwa [List.getElem?_take_of_lt (by omega)] at hnm0
        have tk : nms.take (k + 1) = nms.take k ++ [nm] := by rw [List.take_succ, hnm1]; rfl
        have okp : ∀ x ∈ nms.take k, NmOk x := fun x h => hnm x (List.mem_of_mem_take h)
        have okn : NmOk nm := hnm nm (List.mem_of_getElem? hnm1)
        have hd := t1.at_ _ f1
        have ok := t1.ok
        have lk : (nms.take k).length < 9 := by rw [List.length_take]; omega
        have kl : (kids E' al' (nms.take k)).length ≤ 1001 := by
          have h1 := congrArg List.length (kids_keys (E := E') (al := al') (p := nms.take k))
          rw [List.length_map, List.length_map] at h1
          have h2 := g1.kid (nms.take k)
          have h3 := hkid (nms.take k)
          split at h2 <;> omega
        refine q_stm (fun σ H' => Same H0 H' ∧ H' n = some (.lst (nmsV nms)) ∧ H' L = some (.lst (nmsV (nms.take (nms.length - 1)))) ∧ ∃ E' al', σ = [some (.ref (al [])), some (.ref n), some (.bl fo), some (.ref (al' (nms.take k))), some (.str (S nm))] ∧ NewT H0 E' al' ∧ TreeE E' al' H' ∧ al' [] = al [] ∧ Fold E' (nms.take k) ∧ (nms.take k ++ [nm], true) ∈ E' ∧ Grow E E' nms (k + 1)) ?_ ?_
        · refine l_if (fun b H' => H' = H1' ∧ (b = true → ∀ fo, (nms.take k ++ [nm], fo) ∉ E') ∧ (b = false → ∃ fo, (nms.take k ++ [nm], fo) ∈ E')) ?_ (fun H2 h => ?_) fun H2 h => ?_
          · walk_at "rd"
            by_cases he : ∃ fo, (nms.take k ++ [nm], fo) ∈ E'
            · obtain ⟨fo', he⟩ := he
              exact ⟨_, dget_s hd (kid_val ok he), (fun z => nomatch z), fun _ => ⟨fo', he⟩⟩
            · have hno : ∀ fo, (nms.take k ++ [nm], fo) ∉ E' := fun fo h => he ⟨fo, h⟩
              have g := DGet.k (k := .inr (S nm)) hd
              rw [kid_no ok hno] at g
              exact ⟨_, g, fun _ => hno, fun z => nomatch z⟩
          · obtain ⟨rfl, hb, _⟩ := h
            have hno := hb rfl
            walk_at "rd"
            intro D hD
            have hD0 := same_none s1 hD
            have h2 : upd H2 D (.dK []) (al' (nms.take k)) = some (.dK (kids E' al' (nms.take k))) := by
              rw [upd_ne fun e => by rw [e, hD] at hd; cases hd]
              exact hd
            have nn : ∀ {a : Addr} {l : List V}, H2 a = some (.lst l) → upd (upd H2 D (.dK [])) (al' (nms.take k)) (.dK (putK (kids E' al' (nms.take k)) (.inr (S nm)) (.ref D))) a = some (.lst l) := fun {a l} h => by
              rw [upd_ne (fun e => by rw [e, hd] at h; cases h), upd_ne (fun e => by rw [e, hD] at h; cases h)]
              exact h
            have old : upA al' (nms.take k ++ [nm]) D (nms.take k) = al' (nms.take k) := if_neg fun e => by have := congrArg List.length e; simp at this
            refine ⟨_, dput_s h2 (by omega), same_mut (same_mut s1 hD0) (new1 _ f1), nn hn1, nn hL1, _, upA al' (nms.take k ++ [nm]) D, old.symm, new1.dir hD0, tree_dir t1 f1 hno okp okn lk hD, ?_, f1.more fun e he => List.mem_append_left _ he, by simp, g1.snoc hnm1 fun _ => rfl⟩
            rw [← e1]
            exact if_neg fun e => by simp at e
          · obtain ⟨rfl, _, hb⟩ := h
            obtain ⟨fo', he⟩ := hb rfl
            have hfo : fo' = true := by
              rcases g1.new _ he with h | ⟨i, _, hi, e, _⟩
              · cases fo' with
                | true => rfl
                | false => rw [← tk] at h; exact absurd h (hput.1 (k + 1) (by omega) hk1)
              · have := congrArg List.length e
                rw [List.length_append, List.length_take, List.length_take, List.length_singleton] at this
                omega
            subst hfo
            exact ⟨s1, hn1, hL1, E', al', rfl, new1, t1, e1, f1, he, g1.same⟩
        rintro σ H2 ⟨s2, hn2, hL2, E2, al2, rfl, new2, t2, e2, f2, he2, g2⟩
        refine l_midG (fun v H' => H' = H2 ∧ v = .ref (al2 (nms.take k ++ [nm]))) ?_ ?_
        · walk_at "rd"
          exact ⟨_, dget_s (t2.at_ _ f2) (kid_val t2.ok he2), rfl⟩
        rintro _ _ ⟨rfl, rfl⟩
        rw [tk]
        exact ⟨s2, hn2, hL2, E2, al2, _, rfl, new2, t2, e2, .inr he2, g2⟩
      · obtain ⟨s1, hn1, hL1, E', al', x4, rfl, new1, t1, e1, f1, g1⟩ := h
        rw [nms_len, List.length_take, Nat.min_eq_left (Nat.sub_le _ _)] at f1 g1
        rw [nms_len, List.length_take, Nat.min_eq_left (Nat.sub_le _ _)]
        exact ⟨s1, hn1, E', al', x4, rfl, new1, t1, e1, f1, g1⟩
    rintro σ H1 ⟨s1, hn1, E', al', x4, rfl, new1, t1, e1, f1, g1⟩
    have el : nms = nms.take (nms.length - 1) ++ [nms.getLastD []] := by
      conv => lhs; rw [drop_last hne]
      rw [List.dropLast_eq_take]
    generalize hlst : nms.getLastD [] = nm at el
    have hlast : nms[nms.length - 1]? = some nm := by
      rw [← List.getLast?_eq_getElem?, congrArg List.getLast? el]
      simp
    have hat : atI (nmsV nms) (-1) = some (V.str (S nm)) := atI_last (by
      unfold nmsV
      rw [List.getLast?_map, List.getLast?_map, List.getLast?_eq_getElem?, hlast]
      rfl)
    have okp : ∀ x ∈ nms.take (nms.length - 1), NmOk x := fun x h => hnm x (List.mem_of_mem_take h)
    have okn : NmOk nm := hnm nm (List.mem_of_getElem? hlast)
    have hd := t1.at_ _ f1
    have ok := t1.ok
    have lk : (nms.take (nms.length - 1)).length < 9 := by rw [List.length_take]; omega
    have kl : (kids E' al' (nms.take (nms.length - 1))).length ≤ 1001 := by
      have h1 := congrArg List.length (kids_keys (E := E') (al := al') (p := nms.take (nms.length - 1)))
      rw [List.length_map, List.length_map] at h1
      have h2 := g1.kid (nms.take (nms.length - 1))
      have h3 := hkid (nms.take (nms.length - 1))
      split at h2 <;> omega
    have tk : nms.take (nms.length - 1) ++ [nm] = nms := el.symm
    have g2 : ∀ fo', Grow E (E' ++ [(nms.take (nms.length - 1) ++ [nm], fo')]) nms nms.length := fun fo' => by
      have := g1.snoc (fo := fo') hlast (by omega)
      rwa [Nat.sub_add_cancel hlen] at this
    refine l_if (fun b H' => H' = H1 ∧ (b = true → ∀ fo, (nms.take (nms.length - 1) ++ [nm], fo) ∉ E') ∧ (b = false → ∃ fo, (nms.take (nms.length - 1) ++ [nm], fo) ∈ E')) ?_ (fun H2 h => ?_) fun H2 h => ?_
    · walk_at "rd"
      refine ⟨_, .inl (.inl (.inl hn1)), _, hat, ?_⟩
      by_cases he : ∃ fo, (nms.take (nms.length - 1) ++ [nm], fo) ∈ E'
      · obtain ⟨fo', he⟩ := he
        exact ⟨_, dget_s hd (kid_val ok he), (fun z => nomatch z), fun _ => ⟨fo', he⟩⟩
      · have hno : ∀ fo, (nms.take (nms.length - 1) ++ [nm], fo) ∉ E' := fun fo h => he ⟨fo, h⟩
        have g := DGet.k (k := .inr (S nm)) hd
        rw [kid_no ok hno] at g
        exact ⟨_, g, fun _ => hno, fun z => nomatch z⟩
    · obtain ⟨rfl, hb, _⟩ := h
      have hno := hb rfl
      walk_at "rd"
      split
      · rename_i hfo
        subst hfo
        intro D hD
        have hD0 := same_none s1 hD
        have hn2 : upd H2 D (.dK []) n = some (.lst (nmsV nms)) := by
          rw [upd_ne (fun e => by rw [← e, hn1] at hD; cases hD)]
          exact hn1
        have h2 : upd H2 D (.dK []) (al' (nms.take (nms.length - 1))) = some (.dK (kids E' al' (nms.take (nms.length - 1)))) := by
          rw [upd_ne fun e => by rw [e, hD] at hd; cases hd]
          exact hd
        refine ⟨_, .inl (.inl (.inl hn2)), _, hat, _, dput_s h2 (by omega), ?_⟩
        refine q _ (upA al' (nms.take (nms.length - 1) ++ [nm]) D) _ (same_mut (same_mut s1 hD0) (new1 _ f1)) (new1.dir hD0) (tree_dir t1 f1 hno okp okn lk hD) ?_ (g2 true) (by rw [tk]; simp)
        rw [← e1]
        exact if_neg fun e => by simp at e
      · rename_i hfo
        have hfo : fo = false := by simpa using hfo
        subst hfo
        refine ⟨_, .inl (.inl (.inl hn1)), _, hat, _, dput_s hd (by omega), ?_⟩
        exact q _ al' _ (same_mut s1 (new1 _ f1)) new1.leaf (tree_leaf t1 f1 hno okp okn lk) e1 (g2 false) (by rw [tk]; simp)
    · obtain ⟨rfl, _, hb⟩ := h
      obtain ⟨fo', he⟩ := hb rfl
      have hfo : fo' = fo := by
        rcases g1.new _ he with h | ⟨i, _, hi, e, _⟩
        · rw [tk] at h
          have := hput.2
          cases fo <;> cases fo' <;> first | rfl | exact absurd h this
        · have := congrArg List.length (tk.symm.trans e)
          rw [List.length_take] at this
          omega
      subst hfo
      refine q E' al' _ s1 new1 t1 e1 ?_ (by rw [← tk]; exact he)
      have := g1.same
      rwa [Nat.sub_add_cancel hlen] at this
theorem tree_nil {H : Hp} {D : Addr} (h : H D = some (.dK [])) : TreeE [] (fun _ => D) H := by
  refine ⟨⟨.nil, (fun _ h => nomatch h), (fun _ h => nomatch h), (fun _ h => nomatch h), fun _ h => nomatch h⟩, fun p hp => ?_, fun a b ha hb _ => ?_⟩
  · rcases hp with rfl | hp
    · exact h
    · cases hp
  · rcases ha with rfl | ha
    · rcases hb with rfl | hb
      · rfl
      · cases hb
    · cases ha

/-! ### trees drawn -/
/-! ### what every law here promises -/
def spLaw (K : PySem.W.Frag) : Sp := fun vs H Q _ => ∃ a, ∃ ns : List Int, vs = [.ref a] ∧ SqL K H a (ns.map V.int) ∧ ns.length ≤ 63 ∧ ∀ H', Q (.bl true) H'
theorem law_len {vs : List V} {H : Hp} {Q : VK} {E : XK} (h : spLaw K vs H Q E) : vs.length = ["_law_script"].length := by
  obtain ⟨a, ns, rfl, _⟩ := h
  rfl
theorem law_sp {a : Addr} {ns : List Int} {H : Hp} (hs : SqL K H a (ns.map V.int)) (hl : ns.length ≤ 63) (hb : ∀ z ∈ ns, Builtin.Int.intBits z ≤ 1048576) : spLaw K [.ref a] H (fun v _ => v = .bl true) fun _ _ _ => False := ⟨a, ns, rfl, hs, hl, fun _ => rfl⟩

/-! ### what is written of parts, steps and rows -/
/-! ### the place of a sign in a text; blanks cut off -/
section
variable {X : Cx}
end
/-! ### the signs of a set's text -/
/-! ### a set's text, a step's text -/
/-! ### a step's text, a row's text -/
/-! ### lists written, lists read -/
section
variable {X : Cx}
end
/-! ### reading gives what was written -/
/-! ### a row's text, a list's text read -/
/-! ### the law's own texts -/
/-! ### kept but for lists and dicts; dicts of lists -/
def ND (H H' : Hp) : Prop := ∀ a o, H a = some o → (∀ l, o ≠ .lst l) → (∀ ks, o ≠ .dK ks) → (∀ q ks, o ≠ .frz q (.dK ks)) → H' a = some o
theorem ND.of {H H' : Hp} (e : Same H H') : ND H H' := fun a o h _ _ _ => e a o h
theorem ND.nl {H H' : Hp} (e : NL H H') : ND H H' := fun a o h n _ _ => e a o h n
theorem ND.trans {H H1 H2 : Hp} (a : ND H H1) (b : ND H1 H2) : ND H H2 := fun c o h n m w => b c o (a c o h n m w) n m w
theorem ND.dict {H : Hp} {d : Addr} {ks : List (Key × V)} {o : HO} (h : H d = some (.dK ks)) : ND H (upd H d o) := fun a u e _ m _ => by
  have q : a ≠ d := fun z => by
    rw [z, h] at e
    exact m ks (Option.some.inj e).symm
  rw [upd_ne q]
  exact e
theorem ND.frz {H : Hp} {d : Addr} {q : Obj} {ks : List (Key × V)} {o : HO} (h : H d = some (.frz q (.dK ks))) : ND H (upd H d o) := fun a u e _ _ m => by
  have n : a ≠ d := fun z => by
    rw [z, h] at e
    exact m q ks (Option.some.inj e).symm
  rw [upd_ne n]
  exact e
theorem ND.lst {H : Hp} {d : Addr} {l : List V} {o : HO} (h : H d = some (.lst l)) : ND H (upd H d o) := .nl (nl_upd h)
theorem sqT_nd {K : PySem.W.Frag} {H H' : Hp} {a : Addr} {xs : List V} (h : SqT K H a xs) (e : ND H H') : SqT K H' a xs := by
  rcases h with (h | ⟨o, h⟩) | h
  · exact .inl (.inl (e _ _ h (fun _ z => nomatch z) (fun _ z => nomatch z) fun _ _ z => nomatch z))
  · exact .inl (.inr ⟨o, e _ _ h (fun _ z => nomatch z) (fun _ z => nomatch z) fun _ _ z => nomatch z⟩)
  · exact .inr h
mutual
theorem dp_nd {K : PySem.W.Frag} {H H' : Hp} (e : ND H H') : ∀ (d : PyData) (v : V), tupB d = true → Dp K H v d → Dp K H' v d
  | .none, _, _, .non => .non
  | .bool _, _, _, .bl b => .bl b
  | .int _, _, _, .int i => .int i
  | .str _, _, _, .str x => .str x
  | .tuple ds, _, t, .tup h a => .tup (sqT_nd h e) (dpAll_nd e ds _ (by simpa only [tupB] using t) a)
  | .list ds, _, t, _ => by simp [tupB] at t
theorem dpAll_nd {K : PySem.W.Frag} {H H' : Hp} (e : ND H H') : ∀ (ds : List PyData) (vs : List V), tupBs ds = true → DpAll K H vs ds → DpAll K H' vs ds
  | [], _, _, .nil => .nil
  | d :: ds, _, t, .cons h a => by
    have t' : tupB d = true ∧ tupBs ds = true := by simpa only [tupBs, Bool.and_eq_true] using t
    exact .cons (dp_nd e d _ t'.1 h) (dpAll_nd e ds _ t'.2 a)
end
theorem PartO.nd {K : PySem.W.Frag} {dx : Addr} {f : PF} (l : List (Key × V)) : PartO K dx f ≠ .dK l := by cases f <;> exact fun h => nomatch h
theorem PartO.nf {K : PySem.W.Frag} {dx : Addr} {f : PF} (q : Obj) (l : List (Key × V)) : PartO K dx f ≠ .frz q (.dK l) := by cases f <;> exact fun h => nomatch h
theorem PartV.nd {K : PySem.W.Frag} {f : PF} {v : V} {H H' : Hp} (h : PartV K f v H) (e : ND H H') : PartV K f v H' := let ⟨p, dx, ev, hp⟩ := h; ⟨p, dx, ev, e _ _ hp PartO.nl PartO.nd PartO.nf⟩
theorem PartsV.nd {K : PySem.W.Frag} {fs : List PF} {us : List V} {H H' : Hp} (h : PartsV K fs us H) (e : ND H H') : PartsV K fs us H' := ⟨h.1, fun i f hf => let ⟨u, a, b⟩ := h.2 i f hf; ⟨u, a, b.nd e⟩⟩
theorem StepV.nd {K : PySem.W.Frag} {f : SF} {v : V} {H H' : Hp} (h : StepV K f v H) (e : ND H H') : StepV K f v H' := by
  cases f with
  | deep => obtain ⟨p, dx, a, b⟩ := h; exact ⟨p, dx, a, e _ _ b (fun _ z => nomatch z) (fun _ z => nomatch z) fun _ _ z => nomatch z⟩
  | seg fs => obtain ⟨p, dx, t, us, a, b, c, d, z⟩ := h; exact ⟨p, dx, t, us, a, e _ _ b (fun _ z => nomatch z) (fun _ z => nomatch z) (fun _ _ z => nomatch z), e _ _ c (fun _ z => nomatch z) (fun _ z => nomatch z) (fun _ _ z => nomatch z), d.nd e, z⟩
theorem RowV.nd {K : PySem.W.Frag} {r : RF} {v : V} {H H' : Hp} (h : RowV K r v H) (e : ND H H') : RowV K r v H' := by
  obtain ⟨p, dx, t, us, a, b, c, d, z⟩ := h
  exact ⟨p, dx, t, us, a, e _ _ b (fun _ z => nomatch z) (fun _ z => nomatch z) (fun _ _ z => nomatch z), e _ _ c (fun _ z => nomatch z) (fun _ z => nomatch z) (fun _ _ z => nomatch z), d.imp fun _ _ s => s.nd e, z⟩
/-- behind a lock on a dict -/
theorem same_unlock {H H2 : Hp} {d : Addr} {o u : HO} (h : H d = some u) (s : Same (upd H d o) H2) : Same H (upd H2 d u) := fun a v e => by
  by_cases hd : a = d
  · subst hd
    rw [upd_same]
    exact (h.symm.trans e)
  · rw [upd_ne hd]
    exact s a v (by rw [upd_ne hd]; exact e)
/-- what a dict of lists holds -/
abbrev LE := List Nat × List RF
structure Lsts (R : RF → V → Hp → Prop) (es : List LE) (kvs : List (Key × V)) (H : Hp) : Prop where
  keys : kvs.map (·.1) = es.map fun e => (Sum.inr (S e.1) : Key)
  vals : Each (fun (e : LE) u H => ∃ L us, u = .ref L ∧ H L = some (.lst us) ∧ Each R e.2 us H) es (kvs.map (·.2)) H
section
variable {R : RF → V → Hp → Prop} {es : List LE} {kvs : List (Key × V)} {H H' : Hp}
theorem Lsts.len (h : Lsts R es kvs H) : kvs.length = es.length := by
  have := congrArg List.length h.keys
  rwa [List.length_map, List.length_map] at this
theorem Lsts.mono (h : Lsts R es kvs H) (s : Same H H') (r : ∀ f u, R f u H → R f u H') : Lsts R es kvs H' :=
  ⟨h.keys, h.vals.imp fun _ _ ⟨L, us, e, l, x⟩ => ⟨L, us, e, s _ _ l, x.imp fun f u => r f u⟩⟩
/-- a dict that is no list changes -/
theorem Lsts.dict {d : Addr} {ks : List (Key × V)} {o : HO} (h : Lsts R es kvs H) (hd : H d = some (.dK ks)) (r : ∀ f u, R f u H → R f u (upd H d o)) : Lsts R es kvs (upd H d o) :=
  ⟨h.keys, h.vals.imp fun _ _ ⟨L, us, e, l, x⟩ => ⟨L, us, e, by
    rw [upd_ne (fun z => by rw [z, hd] at l; cases l)]
    exact l, x.imp fun f u => r f u⟩⟩
theorem Lsts.nil : Lsts R [] [] H := ⟨rfl, .nil⟩
theorem Lsts.at_ (h : Lsts R es kvs H) {i : Nat} {k : Key} {v : V} (hk : kvs[i]? = some (k, v)) : ∃ e L us, es[i]? = some e ∧ k = .inr (S e.1) ∧ v = .ref L ∧ H L = some (.lst us) ∧ Each R e.2 us H := by
  have h1 : (kvs.map (·.1))[i]? = some k := by rw [List.getElem?_map, hk]; rfl
  have h2 : (kvs.map (·.2))[i]? = some v := by rw [List.getElem?_map, hk]; rfl
  obtain ⟨e, he, L, us, ev, hl, hr⟩ := h.vals.at' h2
  rw [h.keys, List.getElem?_map, he] at h1
  exact ⟨e, L, us, he, (Option.some.inj h1).symm, ev, hl, hr⟩
theorem val_get : ∀ {es : List LE} {kvs : List (Key × V)} {i : Nat} {e : LE} {v : V}, kvs.map (·.1) = es.map (fun e => (Sum.inr (S e.1) : Key)) → (es.map (·.1)).Nodup → es[i]? = some e → (kvs.map (·.2))[i]? = some v → valV kvs (.inr (S e.1)) = some v
  | [], _, i, e, v, _, _, h, _ => by simp at h
  | x :: r, [], i, e, v, hk, _, _, _ => by simp at hk
  | x :: r, (k, u) :: t, 0, e, v, hk, _, h, hv => by
    have e1 : x = e := by simpa using h
    subst e1
    have e2 : u = v := by simpa using hv
    subst e2
    have e3 : k = .inr (S x.1) := by
      have := List.head_eq_of_cons_eq hk
      exact this
    exact valV_pos (p := (k, u)) e3
  | x :: r, (k, u) :: t, i + 1, e, v, hk, nd, h, hv => by
    have e3 : k = .inr (S x.1) := List.head_eq_of_cons_eq hk
    have nd' := List.nodup_cons.mp nd
    have hr : r[i]? = some e := by simpa using h
    have hne : ¬ k = .inr (S e.1) := fun z => by
      rw [e3] at z
      have z2 := S_inj (Sum.inr.inj z)
      exact nd'.1 (List.mem_map.mpr ⟨e, List.mem_of_getElem? hr, z2.symm⟩)
    rw [valV_neg (p := (k, u)) hne]
    exact val_get (List.tail_eq_of_cons_eq hk) nd'.2 hr (by simpa using hv)
theorem Lsts.get (h : Lsts R es kvs H) (nd : (es.map (·.1)).Nodup) {i : Nat} {e : LE} (he : es[i]? = some e) : ∃ L us, valV kvs (.inr (S e.1)) = some (.ref L) ∧ H L = some (.lst us) ∧ Each R e.2 us H := by
  obtain ⟨u, hu, L, us, rfl, hl, hr⟩ := h.vals.2 i e he
  exact ⟨L, us, val_get h.keys nd he hu, hl, hr⟩
def putE (es : List LE) (f : List Nat) (rs : List RF) : List LE := if (es.any fun e => decide (e.1 = f)) = true then es.map (fun e => if e.1 = f then (e.1, rs) else e) else es ++ [(f, rs)]
theorem putE_new {f : List Nat} {rs : List RF} (h : ∀ e ∈ es, e.1 ≠ f) : putE es f rs = es ++ [(f, rs)] := by
  unfold putE
  refine if_neg fun z => ?_
  obtain ⟨e, he, e2⟩ := List.any_eq_true.mp z
  exact h e he (of_decide_eq_true e2)
theorem putE_keys {f : List Nat} {rs : List RF} (nd : (es.map (·.1)).Nodup) : ((putE es f rs).map (·.1)).Nodup := by
  unfold putE
  split
  · have e : (es.map (fun e => if e.1 = f then (e.1, rs) else e)).map (·.1) = es.map (·.1) := by
      rw [List.map_map]
      refine List.map_congr_left fun e _ => ?_
      show (if e.1 = f then (e.1, rs) else e).1 = e.1
      split <;> rfl
    rw [e]
    exact nd
  · rename_i h
    rw [List.map_append]
    refine List.nodup_append.mpr ⟨nd, by simp, fun a ha b hb z => ?_⟩
    have hb' : b = f := by simpa using hb
    obtain ⟨e, he, e2⟩ := List.mem_map.mp ha
    exact h (List.any_eq_true.mpr ⟨e, he, decide_eq_true (by rw [e2, z, hb'])⟩)
theorem putE_mem {f : List Nat} {rs : List RF} {e : LE} (h : e ∈ putE es f rs) : e ∈ es ∨ (e.1 = f ∧ e.2 = rs) := by
  unfold putE at h
  split at h
  · obtain ⟨e', he, e2⟩ := List.mem_map.mp h
    split at e2
    · rename_i h'
      rw [← e2]
      exact .inr ⟨h', rfl⟩
    · rw [← e2]
      exact .inl he
  · rcases List.mem_append.mp h with h | h
    · exact .inl h
    · rw [List.mem_singleton.mp h]
      exact .inr ⟨rfl, rfl⟩
theorem putE_len {f : List Nat} {rs : List RF} : (putE es f rs).length ≤ es.length + 1 := by
  unfold putE
  split
  · rw [List.length_map]; omega
  · rw [List.length_append]; exact Nat.le_refl _
theorem any_same {f : List Nat} : ∀ {es : List LE} {kvs : List (Key × V)}, kvs.map (·.1) = es.map (fun e => (Sum.inr (S e.1) : Key)) → (kvs.any fun kv => decide (kv.1 = (.inr (S f) : Key))) = es.any fun e => decide (e.1 = f)
  | [], [], _ => rfl
  | [], _ :: _, h => by simp at h
  | _ :: _, [], h => by simp at h
  | x :: r, (k, u) :: t, h => by
    have e3 : k = .inr (S x.1) := List.head_eq_of_cons_eq h
    rw [List.any_cons, List.any_cons, any_same (List.tail_eq_of_cons_eq h)]
    congr 1
    exact decide_eq_decide.mpr ⟨fun z => S_inj (Sum.inr.inj (e3.symm.trans z)), fun z => by rw [e3, z]⟩
/-- a list put at a text -/
theorem Lsts.put {d : Addr} {f : List Nat} {rs : List RF} {L : Addr} {us : List V} (h : Lsts R es kvs H) (hd : H d = some (.dK kvs)) (hL : H L = some (.lst us)) (hr : Each R rs us H) (r : ∀ g u, R g u H → R g u (upd H d (.dK (putK kvs (.inr (S f)) (.ref L))))) :
    Lsts R (putE es f rs) (putK kvs (.inr (S f)) (.ref L)) (upd H d (.dK (putK kvs (.inr (S f)) (.ref L)))) := by
  have h' := h.dict (o := .dK (putK kvs (.inr (S f)) (.ref L))) hd r
  have hL' : upd H d (.dK (putK kvs (.inr (S f)) (.ref L))) L = some (.lst us) := by
    rw [upd_ne (fun z => by rw [z, hd] at hL; cases hL)]
    exact hL
  have hr' : Each R rs us (upd H d (.dK (putK kvs (.inr (S f)) (.ref L)))) := hr.imp fun g u => r g u
  generalize upd H d (.dK (putK kvs (.inr (S f)) (.ref L))) = H1 at *
  have ha := any_same (f := f) h.keys
  unfold putE putK
  by_cases hany : (es.any fun e => decide (e.1 = f)) = true
  · rw [if_pos hany, if_pos (ha.trans hany)]
    have hk := h'.keys
    refine ⟨?_, ?_, fun i e he => ?_⟩
    · rw [List.map_map, List.map_map]
      have e1 : kvs.map ((fun x => x.1) ∘ fun kv => if kv.1 = (Sum.inr (S f) : Key) then (kv.1, V.ref L) else kv) = kvs.map (·.1) := List.map_congr_left fun kv _ => by
        show (if kv.1 = _ then (kv.1, V.ref L) else kv).1 = kv.1
        split <;> rfl
      have e2 : es.map ((fun e => (Sum.inr (S e.1) : Key)) ∘ fun e => if e.1 = f then (e.1, rs) else e) = es.map fun e => (Sum.inr (S e.1) : Key) := List.map_congr_left fun e _ => by
        show (Sum.inr (S (if e.1 = f then (e.1, rs) else e).1) : Key) = _
        split <;> rfl
      rw [e1, e2]
      exact hk
    · simp [h.len]
    · rw [List.getElem?_map] at he
      obtain ⟨e0, he0, e1⟩ := Option.map_eq_some_iff.mp he
      obtain ⟨u, hu, L0, us0, rfl, hl0, hr0⟩ := h'.vals.2 i e0 he0
      rw [List.getElem?_map] at hu
      obtain ⟨kv, hkv, ekv⟩ := Option.map_eq_some_iff.mp hu
      have hk1 : kv.1 = .inr (S e0.1) := by
        have h3 : (kvs.map (·.1))[i]? = some kv.1 := by rw [List.getElem?_map, hkv]; rfl
        rw [hk, List.getElem?_map, he0] at h3
        exact (Option.some.inj h3).symm
      by_cases hf : e0.1 = f
      · have e2 : e = (e0.1, rs) := by rw [← e1, if_pos hf]
        refine ⟨.ref L, ?_, L, us, rfl, hL', by rw [e2]; exact hr'⟩
        rw [List.getElem?_map, List.getElem?_map, hkv]
        show some (if kv.1 = _ then (kv.1, V.ref L) else kv).2 = _
        rw [if_pos (by rw [hk1, hf])]
      · have e2 : e = e0 := by rw [← e1, if_neg hf]
        refine ⟨.ref L0, ?_, L0, us0, rfl, hl0, by rw [e2]; exact hr0⟩
        rw [List.getElem?_map, List.getElem?_map, hkv]
        show some (if kv.1 = _ then (kv.1, V.ref L) else kv).2 = _
        rw [if_neg (by rw [hk1]; exact fun z => hf (S_inj (Sum.inr.inj z))), ekv]
  · rw [if_neg hany, if_neg (by rw [ha]; exact hany)]
    refine ⟨by rw [List.map_append, List.map_append, h.keys]; rfl, ?_⟩
    rw [List.map_append]
    exact h'.vals.snoc ⟨L, us, rfl, hL', hr'⟩
end
/-! ### targets in a try, a comprehension in another -/
theorem pg_tupK {X : Cx} {K : PySem.W.Frag} {es : List Expr} {k n : Nat} {pos : Pos} {t : TGs} (hc : X.calm = true) (h : PGs X es t) (hK : X.K = K := by rfl) (hn : (assignEach es X.env).length = n := by rfl) (hst : (assignEach es X.env).findIdx? (·.1) = none := by rfl) : PG X (.Tuple es k pos) (gTup K n t) := by
  subst hK
  exact pg_tup hc h hn hst
theorem blkOk_blk {N : List Str} {bs scope : Scope} {cl : List (Str × Addr)} {C : Addr} {env : Env} {own : List (Str × Nat)} (h : blkC N (relS bs env.scope) scope own = true) : BlkOk N (compEnvC bs cl C env).scope scope own := blkOk_by h

/-! ### folders, rows placed, lists gathered -/
def folderN (w : List Nat) : Option (List (List Nat)) := if w = [] then some [] else match pathN w with
  | some (ns, true) => some ns
  | _ => none
def spFolderN (K : PySem.W.Frag) : Sp := fun vs H Q E => ∃ w : List Nat, vs = [.str (S w)] ∧ w.length ≤ 1000000 ∧ (∀ ns F H', folderN w = some ns → Same H H' → H F = none → H' F = some (.lst (nmsV ns)) → Q (.ref F) H') ∧ (folderN w = none → ∀ H', Same H H' → E (.ref (fA K "NoFolder")) none H')
theorem ok_folder_names (T : Txt K mg) : OkD P w K mg base 3 (fA K "folder_names") ["folder"] [] (spFolderN K) := by
  refine okD T.F_folder_names sc_folder_names (fun _ _ _ _ _ _ us hl => match us, hl with | [_], _ => rfl) ?_ ?_
  · rintro vs H Q E ⟨w, rfl, _⟩
    rfl
  · rintro cdv A outer s H vs Q E hr ⟨w, rfl, hw, q1, q2⟩
    refine ⟨_, (pss_cons (ps_if (pt_mid (pt_cmpR (o_eq (K := K) (hu64 hr)) (pv 0) pe_str (nomark _))) (pss_one (ps_ret (pe_lst pa_nil))) pss_nil)
  (pss_cons (ps_mid (ps_try_only rfl rfl ⟨rfl, rfl, Or.inl T.g_NoPath⟩ (takes_of rfl rfl rfl rfl) (fun W pn xe tkW pxW => (pss_one (ps_asg (pe_calT (ok_names_of T) (hr.mono (by decide)) rfl T.g_names_of tkW (pa_cons (pv 0) pa_nil)) (pg_tupK (K := K) (n := 2) rfl (pgs_cons (pg_name (i := 1) sc_folder_names.nd rfl (Or.inl rfl)) (pgs_cons (pg_name (i := 2) sc_folder_names.nd rfl (Or.inl rfl)) pgs_nil)))))) (fun _ _ _ _ _ _ _ => (pss_one (ps_set (i := 2) sc_folder_names.nd rfl (Or.inl rfl) pe_bl)))))
  (pss_cons (ps_if (pt_mid (pt_not (pt_tru (K := K) (pv 2) (by intro _; rfl)))) (pss_one (ps_raise rfl (takes_of rfl rfl rfl rfl) (pmk_own PySem.F.excBase_ValueError T.x_NoFolder.1 T.g_NoFolder T.x_NoFolder.2.1 (raises_own T.x_NoFolder.2.2.1 T.x_NoFolder.2.2.2) rfl))) pss_nil)
  (pss_one (ps_ret (pv 1)))))), ?_⟩
    have tobj := T.obj
    refine q_if (fun b H' => H' = H ∧ b = decide (w = [])) ?_ (fun H1 h => ?_) fun H1 h => q_next ?_
    · walk_at "rd"
      exact decide_eq_decide.mpr ⟨fun h => S_inj h, fun h => by rw [h]; rfl⟩
    · obtain ⟨rfl, hb⟩ := h
      have e := of_decide_eq_true hb.symm
      walk_at "rd"
      exact fun p hp => q1 [] p _ (if_pos e) (same_new hp) hp upd_same
    obtain ⟨rfl, hb⟩ := h
    have e := of_decide_eq_false hb.symm
    refine q_stm (fun σ H' => Same H1 H' ∧ ((∃ ns F, pathN w = some (ns, true) ∧ H1 F = none ∧ H' F = some (.lst (nmsV ns)) ∧ σ = [some (.str (S w)), some (.ref F), some (.bl true)]) ∨ (folderN w = none ∧ ∃ x1, σ = [some (.str (S w)), x1, some (.bl false)]))) ?_ ?_
    · unfold tCallSD
      walk_at "rd"
      refine ⟨w, rfl, hw, fun ns fo p F H' ep s hp hF hn => ?_, fun hn H' s => ?_⟩
      · refine ⟨p, [.ref F, .bl fo], rfl, .inl (.inl hp), rfl, .ref F, [.bl fo], rfl, .bl fo, [], rfl, rfl, s, ?_⟩
        cases fo with
        | true => exact .inl ⟨ns, ep, F, hn, hF, rfl⟩
        | false =>
          refine .inr ⟨?_, _, rfl⟩
          unfold folderN
          rw [if_neg e, ep]
      · refine ⟨true, (kxB_ex T.kx (by decide)).1, fun _ a ha => ⟨s, .inr ⟨?_, _, rfl⟩⟩, fun z => nomatch z⟩
        unfold folderN
        rw [if_neg e, hn]
    rintro σ H2 ⟨s2, h⟩
    rcases h with ⟨ns, F, hp, hF, hF2, rfl⟩ | ⟨hn, x1, rfl⟩
    · refine q_if (fun b H' => H' = H2 ∧ b = false) (by walk_at "rd") (fun _ h => nomatch h.2) fun H3 h => q_next ?_
      obtain ⟨rfl, _⟩ := h
      walk_at "rd"
      refine q1 ns F _ ?_ s2 hF hF2
      unfold folderN
      rw [if_neg e, hp]
    · refine q_if (fun b H' => H' = H2 ∧ b = true) (by walk_at "rd") (fun H3 h => ?_) fun _ h => nomatch h.2
      obtain ⟨rfl, _⟩ := h
      walk_at "rd"
      exact q2 hn _ s2
def oneS (nm : List Nat) : SF := .seg (nm.map .one)
def placedR (nms : List (List Nat)) (r : RF) : RF := ⟨nms.map oneS ++ (r.steps ++ (if nms ≠ [] ∧ r.steps = [SF.deep] then [SF.seg [.stars]] else [])), r.spares, r.folders⟩
theorem oneS_ok {nm : List Nat} (h1 : nm ≠ []) (h2 : nm.length ≤ 400) (h3 : ∀ c ∈ nm, c ∈ SIG) : NoTwo (nm.map PF.one) ∧ nm.map PF.one ≠ [] := by
  refine ⟨notwo_of fun f hf => ?_, fun e => h1 (List.map_eq_nil_iff.mp e)⟩
  obtain ⟨c, _, rfl⟩ := List.mem_map.mp hf
  rfl
theorem twoD_segs : ∀ {nms : List (List Nat)} {ss : List SF}, NoTwoD ss → NoTwoD (nms.map oneS ++ ss)
  | [], _, h => h
  | [nm], [], _ => trivial
  | [nm], s :: r, h => ⟨fun e => (nomatch e.1), h⟩
  | nm :: nm2 :: r, ss, h => ⟨fun e => (nomatch e.1), twoD_segs (nms := nm2 :: r) h⟩
theorem twoD_placed {nms : List (List Nat)} {r : RF} (h : r.Ok) : NoTwoD (placedR nms r).steps := by
  refine twoD_segs ?_
  split
  · rename_i e
    rw [e.2]
    exact ⟨fun e => (nomatch e.2), trivial⟩
  · rw [List.append_nil]
    exact h.two
def spPlaced (K : PySem.W.Frag) : Sp := fun vs H Q _ => ∃ v F nms r, vs = [v, .ref F] ∧ RowV K r v H ∧ r.Ok ∧ SqL K H F (nmsV nms) ∧ nms.length ≤ 50 ∧ (∀ nm ∈ nms, nm ≠ [] ∧ nm.length ≤ 400 ∧ ∀ c ∈ nm, c ∈ SIG) ∧ ∀ u H', Same H H' → RowV K (placedR nms r) u H' → Q u H'
theorem ok_placed (T : Txt K mg) : OkD P w K mg base 4 (fA K "placed") ["row", "names"] [] (spPlaced K) := by
  refine okD T.F_placed sc_placed (fun _ _ _ _ _ _ us hl => match us, hl with | [_, _], _ => rfl) ?_ ?_
  · rintro vs H Q E ⟨v, F, nms, r, rfl, _⟩
    rfl
  · rintro cdv A outer s H vs Q E hr ⟨v, F, nms, r, rfl, hv, ok, hF, hl, hn, q⟩
    refine ⟨_, (pss_cons (ps_setLc (own := [("name", 4)]) (g := (gName 4)) (tt := tYes) (i := 2) rfl sc_placed.nd rfl rfl (sw_true rfl rfl rfl (by decide +kernel)) (pi_mid (o_it (K := K) rfl (pv 1))) (blkOk_by (N := N_placed) (sc := defScope TX.s_placed) (by decide +kernel)) (fun _ _ _ _ _ => (pg_name (i := 4) sc_placed.nd rfl (Or.inl rfl))) (fun _ _ _ _ _ => pts_nil) (fun _ _ _ _ _ => (pe_mid (pe_mak T.mk_Segment (ok_Segment___init__ T) (hr.mono (by decide)) rfl T.g_Segment pasN (pa_cons (pe_callTy (o_tuple (K := K)) (by rfl) T.fr_tuple (by decide +kernel) (pa_cons (pe_lc (own := [("sign", 5)]) (g := (gName 5)) (tt := tYes) rfl sc_placed.nd (pi_mid (o_it (K := K) rfl (pv 4))) (blkOk_blk (by kernel_rfl)) (fun _ _ _ _ _ => (pg_name (i := 5) sc_placed.nd rfl (Or.inl rfl))) (fun _ _ _ _ _ => pts_nil) (fun _ _ _ _ _ => (pe_mid (pe_mak T.mk_One (ok_One___init__ T) (hr.mono (by decide)) rfl T.g_One pasN (pa_cons (pv 5) pa_nil))))) pa_nil)) pa_nil)))))
  (pss_cons (ps_mid (ps_for (passes_of rfl) rfl (pi_mid (o_it (K := K) rfl (pe_fldK (K := K) (pv 0) rfl))) (pg_name (i := 3) sc_placed.nd rfl (Or.inl rfl)) (pss_one (ps_expr (pe_bmK (K := K) PySem.F.plainAttrs_list PySem.F.slot_list_append PySem.F.type_list_append mt_append (pv 2) (pa_cons (pe_mid (pv 3)) pa_nil))))))
  (pss_cons (ps_mid (ps_if (pt_mid (PW.pt (pw_and (pt_cmpR (o_ne (K := K) (hu64 hr)) (pv 1) (pe_lst pa_nil) (nomark _)) (pw_and (pt_cmpR (o_eq (K := K) (hu64 hr)) (pe_callB (o_lenW (K := K) (w := w)) (by rfl) T.fr_len boot_len (pa_cons (pe_fldK (K := K) (pv 0) rfl) pa_nil)) pe_int (nomark _)) (pw_and1 (pt_tru (K := K) (pe_metI0 (md_deep T) (pe_ix (o_ix (K := K)) (pe_fldK (K := K) (pv 0) rfl) pe_int (fun _ _ => rfl)) (hr.mono (by decide)) (pasE (takes_of rfl rfl rfl rfl) (fun _ _ _ _ h => h))) (by intro _; rfl))))))) (pss_one (ps_expr (pe_bmK (K := K) PySem.F.plainAttrs_list PySem.F.slot_list_append PySem.F.type_list_append mt_append (pv 2) (pa_cons (pe_mid (pe_mak T.mk_Segment (ok_Segment___init__ T) (hr.mono (by decide)) rfl T.g_Segment (pasE (takes_of rfl rfl rfl rfl) (fun _ _ _ _ h => h)) (pa_cons (pe_tup (pa_cons (pe_makN T.mn_Stars rfl T.g_Stars) pa_nil)) pa_nil))) pa_nil)))) pss_nil))
  (pss_one (ps_ret (pe_mak T.mk_Row (ok_Row___init__ T) (hr.mono (by decide)) rfl T.g_Row (pasE (takes_of rfl rfl rfl rfl) (fun _ _ _ _ h => h)) (pa_cons (pe_callTy (o_tuple (K := K)) (by rfl) T.fr_tuple (by decide +kernel) (pa_cons (pv 2) pa_nil)) (pa_cons (pe_fldK (K := K) (pv 0) rfl) (pa_cons (pe_fldK (K := K) (pv 0) rfl) pa_nil))))))))), ?_⟩
    have tobj := T.obj
    obtain ⟨rp, rdx, rt, rus, rfl, hrp, hrt, reach, rne⟩ := hv
    have lr := ok.len
    have lru := reach.1
    refine q_val ?_
    refine lc_midM (J0 := Itl K F) (H0 := H) ?_ (walk_list (K := K) (a := F) (xs := nmsV nms)) (by rw [nms_len]; omega) (fun k acc H' => Each (StepV K) ((nms.take k).map oneS) acc H') (fun _ _ _ _ e h => h.imp fun _ _ d => d.nl e) .nil (fun H' s => same_l s hF) (fun _ _ _ _ y => y_at y) (fun _ => rfl) ?_ ?_
    · walk_at "rd"
      exact .inl ⟨_, hF⟩
    · rintro j x acc H' H'' hj s4 hc ⟨rfl, hx⟩
      obtain ⟨nm, hnm, rfl⟩ := nms_at hx
      obtain ⟨nne, nl, nsg⟩ := hn nm (List.mem_of_getElem? hnm)
      obtain ⟨o1, o2⟩ := oneS_ok nne nl nsg
      refine mid_of (fun v H4 => Same H'' H4 ∧ StepV K (oneS nm) v H4) ?_ ?_
      · walk_at "rd"
        refine lc_midM (J0 := Its (S nm)) (H0 := H'') ?_ walk_str (by show nm.toArray.size < _; simp; omega) (fun k acc H' => PartsV K ((nm.take k).map PF.one) acc H') (fun _ _ _ _ e h => h.nl e) .nil (fun _ _ => trivial) (fun _ _ _ _ y => by rw [y.1]; exact Same.refl _) (fun _ => rfl) ?_ ?_
        · walk_at "rd"
        · rintro i x acc Ha Hb hi sa pa ⟨rfl, c, hc, rfl⟩
          have hc' : nm[i]? = some c := by simpa using hc
          refine mid_of (fun v H4 => Same Hb H4 ∧ PartV K (.one c) v H4) ?_ ?_
          · walk_at "rd"
            intro x dx hx hdx hxd
            refine ⟨x, dx, ⟨#[c]⟩, rfl, upd_same, Nat.le_of_ble_eq_true rfl, fun c2 H' hc2 e hp' b => ⟨rfl, ?_⟩, fun hno => ?_⟩
            · have e2 := S1_inj e
              subst e2
              exact ⟨but_same hx hdx b, x, dx, rfl, hp'⟩
            · exact hno ⟨c, nsg c (List.mem_of_getElem? hc'), rfl⟩
          · rintro v H4 ⟨s5, pv⟩
            refine ⟨s5, ?_⟩
            rw [List.take_succ, hc', List.map_append]
            exact (pa.mono s5).snoc pv
        · intro L pus Hc hLn sc hLl lpus pv
          rw [List.take_of_length_le (by show nm.length ≤ nm.toArray.size; simp)] at pv
          refine ⟨pus, .inl ⟨.inl (.inl hLl), fun l hl' => ?_⟩⟩
          have sl := same_new (o := .tup pus) hl'
          refine seg_make (R := fun x H' => Same H'' H' ∧ StepV K (oneS nm) (.ref x) H') (.inl (.inl (.inl upd_same))) (pv.mono sl) (by rw [List.length_map]; omega) o2 fun y H' s h => ⟨(sc.trans sl).trans s, ?_⟩
          rw [normP_id o1] at h
          exact h
      · rintro v H4 ⟨s5, sv⟩
        refine ⟨s5, ?_⟩
        rw [List.take_succ, hnm, List.map_append]
        exact (hc.imp fun _ _ d => d.mono s5).snoc sv
    intro W acc H1 hWn s1 hW lacc segs
    rw [List.take_of_length_le (by rw [nms_len]; exact Nat.le_refl _)] at segs
    have hrp1 := s1 _ _ hrp
    have hrt1 := s1 _ _ hrt
    have hF1 := same_l s1 hF
    refine q_stm (fun σ H' => Same H H' ∧ ∃ us x3 x4 x5, H' W = some (.lst us) ∧ Each (StepV K) (nms.map oneS ++ r.steps) us H' ∧ σ = [some (.ref rp), some (.ref F), some (.ref W), x3, x4, x5]) ?_ ?_
    · refine for_mid (J0 := Itt K rt) (H0 := H1) ?_ (walk_tup (K := K) (a := rt) (xs := rus)) (fun k σ H' => Same H H' ∧ ∃ us x3 x4 x5, H' W = some (.lst us) ∧ Each (StepV K) (nms.map oneS ++ r.steps.take k) us H' ∧ σ = [some (.ref rp), some (.ref F), some (.ref W), x3, x4, x5])
        ⟨s1, acc, _, _, _, hW, by rw [List.take_zero, List.append_nil]; exact segs, rfl⟩ (fun k σ H' _ h => .inl (.inl (h.1 _ _ hrt))) ?_ (fun σ H' h => ?_)
      · walk_at "rdh"
        exact .inr ⟨_, .inl (.inl hrt1)⟩
      · rintro k x σ H2 H2' hk ⟨s2, us, x3, x4, x5, hW2, each, rfl⟩ ⟨rfl, hx⟩
        obtain ⟨st, hst, sv⟩ := reach.at' hx
        have lu := each.1
        have lt := List.length_take_le' k r.steps
        rw [List.length_append, List.length_map] at lu
        refine l_appV rfl rfl hW2 (by omega) ⟨same_mut s2 hWn, us ++ [x], _, _, _, upd_same, ?_, rfl⟩
        rw [List.take_succ, hst, ← List.append_assoc]
        exact (each.imp fun _ _ d => d.nl (nl_upd hW2)).snoc ((sv.mono s2).nl (nl_upd hW2))
      · obtain ⟨s2, us, x3, x4, x5, hW2, each, e⟩ := h
        rw [List.take_of_length_le (by rw [lru]; exact Nat.le_refl _)] at each
        exact ⟨s2, us, _, _, _, hW2, each, e⟩
    rintro σ H2 ⟨s2, us, x3, x4, x5, hW2, each, rfl⟩
    have hrp2 := s2 _ _ hrp
    have hrt2 := s2 _ _ hrt
    have hF2 := same_l s2 hF
    have reach2 : Each (StepV K) r.steps rus H2 := reach.imp fun _ _ d => d.mono s2
    have lu := each.1
    rw [List.length_append, List.length_map] at lu
    refine q_stm (fun σ H' => Same H H' ∧ ∃ us, H' W = some (.lst us) ∧ Each (StepV K) (placedR nms r).steps us H' ∧ σ = [some (.ref rp), some (.ref F), some (.ref W), x3, x4, x5]) ?_ ?_
    · refine l_if (fun b H' => Same H2 H' ∧ b = decide (nms ≠ [] ∧ r.steps = [.deep])) ?_ (fun H3 h => ?_) (fun H3 h => ?_)
      · walk_at "rdh"
        intro p hp
        have sp := same_new (o := .lst []) hp
        have d0 : DOk 1 (.list []) := dok_lst fun _ h => nomatch h
        have d1 : DOk 1 (.list (nms.map fun w => .str (S w))) := txts_ok fun w hw => txt_ok fun c hc => .inr ((hn w hw).2.2 c hc)
        have e : PyData.eqv (.list (nms.map fun w => .str (S w))) (.list []) = decide (nms = []) := by cases nms <;> rfl
        refine .inl ⟨_, .list [], txts_dp (same_l sp hF2), .lst (.inl (.inl upd_same)) .nil, d1.shaped (by decide), d0.shaped (by decide), _, rfl, ?_⟩
        rw [e]
        have hrp2p := sp _ _ hrp2
        have hrt2p := sp _ _ hrt2
        have reach2p : Each (StepV K) r.steps rus (upd H2 p (.lst [])) := reach2.imp fun _ _ d => d.mono sp
        generalize upd H2 p (.lst []) = H3 at *
        refine ite2 (fun h => ?_) fun h => ?_
        · have hne : nms ≠ [] := by simpa using h
          walk_at "rdh"
          refine .inr ⟨_, .inr ⟨rus, .inl (.inl hrt2p), rfl⟩, ?_⟩
          rw [lru]
          refine ite2 (fun h1 => ?_) fun h1 => ?_
          · have l1 : r.steps.length = 1 := by omega
            obtain ⟨s0, e0⟩ := List.length_eq_one_iff.mp l1
            obtain ⟨u0, hu0, sv0⟩ := reach2p.2 0 s0 (by rw [e0]; rfl)
            refine ⟨rus, .inr (.inl (.inl hrt2p)), u0, (atI_nat hu0 : atI rus ((0 : Nat) : Int) = some u0), s0, sv0, u0, rfl, sv0, _, rfl, sp, ?_⟩
            rw [e0]
            cases s0 <;> simp [SF.deepB]
          · exact (decide_eq_false fun e => h1 (by rw [e]; rfl)).symm
        · have hne : nms = [] := by simpa using h
          exact ⟨sp, (decide_eq_false fun h => h.1 hne).symm⟩
      · obtain ⟨s3, hb⟩ := h
        have hW3 := s3 _ _ hW2
        refine l_app rfl hW3 ?_
        walk_at "rd"
        intro x dx hx hdx hxd p hp y dy hy hdy hyd
        have n1 := new_two (o := .own x) (o' := .ins (fA K "Stars") dx []) hx hdx hxd
        have sp := same_new (o := .tup [V.ref x]) hp
        have hd := of_decide_eq_true hb.symm
        refine seg_make (K := K) (R := fun z H2' => ∃ ys, H2' W = some (.lst ys) ∧ ys.length < 16777216 ∧ Same H (upd H2' W (.lst (ys ++ [.ref z]))) ∧ ∃ us, upd H2' W (.lst (ys ++ [.ref z])) W = some (.lst us) ∧ Each (StepV K) (placedR nms r).steps us (upd H2' W (.lst (ys ++ [.ref z])))) (fs := [.stars]) (us := [.ref x]) (.inl (.inl (.inl upd_same))) ?_ (by decide) (by simp) (fun y H' s h => ?_) y dy hy hdy hyd
        · exact PartsV.nil.snoc ⟨x, dx, rfl, sp _ _ upd_same⟩
        · have s4 := (n1.trans sp).trans s
          have hW4 := s4 _ _ hW3
          refine ⟨us, hW4, by omega, same_mut ((s2.trans s3).trans s4) hWn, us ++ [.ref y], upd_same, ?_⟩
          have e : (placedR nms r).steps = (nms.map oneS ++ r.steps) ++ [.seg [.stars]] := by
            show nms.map oneS ++ (r.steps ++ (if nms ≠ [] ∧ r.steps = [SF.deep] then [SF.seg [.stars]] else [])) = _
            rw [if_pos hd, List.append_assoc]
          rw [e]
          exact (each.imp fun _ _ d => (d.mono (s3.trans s4)).nl (nl_upd hW4)).snoc (h.nl (nl_upd hW4))
      · obtain ⟨s3, hb⟩ := h
        refine ⟨s2.trans s3, us, s3 _ _ hW2, ?_, rfl⟩
        have e : (placedR nms r).steps = nms.map oneS ++ r.steps := by
          show nms.map oneS ++ (r.steps ++ (if nms ≠ [] ∧ r.steps = [SF.deep] then [SF.seg [.stars]] else [])) = _
          rw [if_neg (of_decide_eq_false hb.symm), List.append_nil]
        rw [e]
        exact each.imp fun _ _ d => d.mono s3
    rintro σ H3 ⟨s3, us3, hW3, each3, rfl⟩
    have hrp3 := s3 _ _ hrp
    have lus3 := each3.1
    have plen : (placedR nms r).steps.length ≤ 100 := by
      show (nms.map oneS ++ (r.steps ++ (if nms ≠ [] ∧ r.steps = [SF.deep] then [SF.seg [.stars]] else []))).length ≤ 100
      rw [List.length_append, List.length_append, List.length_map]
      have : (if nms ≠ [] ∧ r.steps = [.deep] then [SF.seg [.stars]] else []).length ≤ 1 := by split <;> simp
      omega
    have pne : (placedR nms r).steps ≠ [] := fun e => by
      have e' : nms.map oneS ++ (r.steps ++ (if nms ≠ [] ∧ r.steps = [SF.deep] then [SF.seg [.stars]] else [])) = [] := e
      exact ok.ne (List.append_eq_nil_iff.mp (List.append_eq_nil_iff.mp e').2).1
    walk_at "rdh"
    refine ⟨us3, .inl ⟨.inl (.inl hW3), fun l hl' => ?_⟩⟩
    have sl := same_new (o := .tup us3) hl'
    have hrpl := sl _ _ hrp3
    walk_at "rdh"
    intro x dx hx hdx hxd
    exact row_make (R := fun x H' => Q (V.ref x) H') (.inl (.inl (.inl upd_same))) (each3.imp fun _ _ d => d.mono sl) (by omega) pne (fun x H' s h => q _ _ ((s3.trans sl).trans s) (by rw [normS_id (twoD_placed ok)] at h; exact h)) x dx hx hdx hxd
def kE (e : LE) : KeyT := ((((folderN e.1).getD []).length : Int), e.1)
def SrtE (es es' : List LE) : Prop := es'.Perm es ∧ es'.Pairwise (fun a b => ltK (kE b) (kE a) = false)
def gathR (es : List LE) : List RF := es.flatMap fun e => e.2.map (placedR ((folderN e.1).getD []))
def NmsOk (ns : List (List Nat)) : Prop := ns.length ≤ 50 ∧ ∀ nm ∈ ns, nm ≠ [] ∧ nm.length ≤ 400 ∧ ∀ c ∈ nm, c ∈ SIG
structure LEok (es : List LE) : Prop where
  nd : (es.map (·.1)).Nodup
  len : es.length ≤ 63
  each : ∀ e ∈ es, e.1.length ≤ 1000000 ∧ e.2.length ≤ 60 ∧ ∀ r ∈ e.2, RF.Ok r
  nms : ∀ e ∈ es, ∀ ns, folderN e.1 = some ns → NmsOk ns
/-- a ranked entry: its tuple, its names -/
def RkV (R F : Addr) (e : LE) (u : V) (H : Hp) : Prop := ∃ t G ns, u = .ref t ∧ folderN e.1 = some ns ∧ H t = some (.tup [.int (ns.length : Nat), .str (S e.1), .ref G]) ∧ H G = some (.lst (nmsV ns)) ∧ G ≠ R ∧ G ≠ F
theorem perm_map_inv {α β : Type} {f : α → β} : ∀ {ys : List β} {zs : List α}, ys.Perm (zs.map f) → ∃ zs' : List α, zs'.Perm zs ∧ zs'.map f = ys
  | [], zs, p => ⟨[], by
      have := List.nil_perm.mp p
      rw [List.map_eq_nil_iff.mp this], rfl⟩
  | y :: r, zs, p => by
    obtain ⟨z, hz, rfl⟩ := List.mem_map.mp (p.mem_iff.mp List.mem_cons_self)
    obtain ⟨a, b, rfl⟩ := List.append_of_mem hz
    have p2 : (f z :: r).Perm (f z :: (a ++ b).map f) := p.trans (by
      rw [List.map_append, List.map_cons, List.map_append]
      exact List.perm_middle)
    obtain ⟨zs', h1, h2⟩ := perm_map_inv p2.cons_inv
    exact ⟨z :: zs', (h1.cons z).trans List.perm_middle.symm, by rw [List.map_cons, h2]⟩
theorem nodup_idx {α : Type} : ∀ {l : List α} {i j : Nat} {x : α}, l.Nodup → l[i]? = some x → l[j]? = some x → i = j
  | y :: r, 0, 0, x, _, _, _ => rfl
  | y :: r, 0, j + 1, x, nd, h1, h2 => by
    have e : y = x := by simpa using h1
    have h3 : r[j]? = some x := by simpa using h2
    exact absurd (List.mem_of_getElem? h3) (e ▸ (List.nodup_cons.mp nd).1)
  | y :: r, i + 1, 0, x, nd, h1, h2 => by
    have e : y = x := by simpa using h2
    have h3 : r[i]? = some x := by simpa using h1
    exact absurd (List.mem_of_getElem? h3) (e ▸ (List.nodup_cons.mp nd).1)
  | y :: r, i + 1, j + 1, x, nd, h1, h2 => by
    have h3 : r[i]? = some x := by simpa using h1
    have h4 : r[j]? = some x := by simpa using h2
    exact congrArg (· + 1) (nodup_idx (List.nodup_cons.mp nd).2 h3 h4)
  | [], i, j, x, _, h, _ => by simp at h
/-- the key that a tuple tells -/
def keyAt (H : Hp) (u : V) : KeyT := match u with
  | .ref t => match H t with
    | some (.tup (.int n :: .str z :: _)) => (n, z.cps.toList)
    | _ => (0, [])
  | _ => (0, [])
theorem RkV.key {R F : Addr} {e : LE} {u : V} {H : Hp} (h : RkV R F e u H) : keyAt H u = kE e := by
  obtain ⟨t, G, ns, rfl, hf, ht, _⟩ := h
  unfold kE
  simp only [keyAt, ht, hf]
  simp
theorem ranked_sort {R F : Addr} {es : List LE} {xs ys : List V} {H : Hp} (h : Each (RkV R F) es xs H) (p : ys.Perm xs) (so : ys.Pairwise (fun x y => ltK (keyAt H y) (keyAt H x) = false)) : ∃ es', SrtE es es' ∧ Each (RkV R F) es' ys H := by
  have hx : xs = (es.zip xs).map (·.2) := by rw [List.map_snd_zip (by rw [h.1]; exact Nat.le_refl _)]
  rw [hx] at p
  obtain ⟨zs, p1, rfl⟩ := perm_map_inv p
  have he : es = (es.zip xs).map (·.1) := by rw [List.map_fst_zip (by rw [h.1]; exact Nat.le_refl _)]
  have mem : ∀ z ∈ zs, RkV R F z.1 z.2 H := fun z hz => by
    obtain ⟨i, hi⟩ := List.mem_iff_getElem?.mp (p1.mem_iff.mp hz)
    obtain ⟨h1, h2⟩ := List.getElem?_zip_eq_some.mp hi
    obtain ⟨u, hu, g⟩ := h.2 i _ h1
    rw [h2] at hu
    cases hu
    exact g
  refine ⟨zs.map (·.1), ⟨?_, ?_⟩, ?_, fun i e hi => ?_⟩
  · have := p1.map (·.1)
    rwa [← he] at this
  · rw [List.pairwise_map] at so ⊢
    refine so.imp_of_mem fun {a b} ha hb h => ?_
    rw [(mem a ha).key, (mem b hb).key] at h
    exact h
  · rw [List.length_map, List.length_map]
  · rw [List.getElem?_map] at hi
    obtain ⟨z, hz, rfl⟩ := Option.map_eq_some_iff.mp hi
    exact ⟨z.2, by rw [List.getElem?_map, hz]; rfl, mem z (List.mem_of_getElem? hz)⟩
theorem flat_le60 : ∀ {es : List LE}, (∀ e ∈ es, e.2.length ≤ 60) → (gathR es).length ≤ 60 * es.length
  | [], _ => Nat.le_refl _
  | e :: r, h => by
    have h1 := h e List.mem_cons_self
    have h2 := flat_le60 (es := r) fun e he => h e (List.mem_cons_of_mem _ he)
    have e1 : gathR (e :: r) = e.2.map (placedR ((folderN e.1).getD [])) ++ gathR r := rfl
    rw [e1, List.length_append, List.length_map, List.length_cons]
    omega
def spGathered (K : PySem.W.Frag) : Sp := fun vs H Q E => ∃ d es kvs, vs = [.ref d] ∧ H d = some (.dK kvs) ∧ Lsts (RowV K) es kvs H ∧ LEok es ∧
  ((∀ e ∈ es, folderN e.1 ≠ none) → ∀ F us es' H', SrtE es es' → Same H H' → H F = none → H' F = some (.lst us) → Each (RowV K) (gathR es') us H' → Q (.ref F) H') ∧
  ((∃ e ∈ es, folderN e.1 = none) → ∀ od H', Same (upd H d (.frz od (.dK kvs))) H' → E (.ref (fA K "NoFolder")) none H')
theorem ok_gathered (T : Txt K mg) : OkD P w K mg base 5 (fA K "gathered") ["lists"] [] (spGathered K) := by
  refine okD T.F_gathered sc_gathered (fun _ _ _ _ _ _ us hl => match us, hl with | [_], _ => rfl) ?_ ?_
  · rintro vs H Q E ⟨d, es, kvs, rfl, _⟩
    rfl
  · rintro cdv A outer s H vs Q E hr ⟨d, es, kvs, rfl, hd, hl, ok, q1, q2⟩
    refine ⟨_, (pss_cons (ps_set (i := 1) sc_gathered.nd rfl (Or.inl rfl) (pe_lst pa_nil))
  (pss_cons (ps_mid (ps_lock (ps_for (passes_of rfl) rfl (pi_mid (pi_keys (pv 0))) (pg_name (i := 2) sc_gathered.nd rfl (Or.inl rfl)) (pss_cons (ps_set (i := 3) sc_gathered.nd rfl (Or.inr rfl) (pe_mid (pe_cal (ok_folder_names T) (hr.mono (by decide)) rfl T.g_folder_names (pasE (takes_of rfl rfl rfl rfl) (fun _ _ _ _ h => h)) (pa_cons (pv 2) pa_nil))))
  (pss_one (ps_expr (pe_bmK (K := K) PySem.F.plainAttrs_list PySem.F.slot_list_append PySem.F.type_list_append mt_append (pv 1) (pa_cons (pe_mid (pe_tup (pa_cons (pe_callB (o_lenW (K := K) (w := w)) (by rfl) T.fr_len boot_len (pa_cons (pv 3) pa_nil)) (pa_cons (pv 2) (pa_cons (pv 3) pa_nil))))) pa_nil))))))))
  (pss_cons (ps_set (i := 4) sc_gathered.nd rfl (Or.inl rfl) (pe_lst pa_nil))
  (pss_cons (ps_mid (ps_for (passes_of rfl) rfl (pi_mid (o_it (K := K) rfl (pe_callB (o_sortedT (K := K)) (by rfl) T.fr_sorted (by decide +kernel) (pa_cons (pv 1) pa_nil)))) (pg_tup rfl (pgs_cons (pg_name (i := 5) sc_gathered.nd rfl (Or.inl rfl)) (pgs_cons (pg_name (i := 2) sc_gathered.nd rfl (Or.inl rfl)) (pgs_cons (pg_name (i := 3) sc_gathered.nd rfl (Or.inr rfl)) pgs_nil)))) (pss_one (ps_aug (i := 4) sc_gathered.nd rfl (Or.inl rfl) (pe_lc (own := [("row", 6)]) (g := (gName 6)) (tt := tYes) rfl sc_gathered.nd (pi_mid (o_it (K := K) rfl (pe_dget (hu_of hr) (pv 0) (pv 2) (fun _ _ => rfl)))) (blkOk_by (N := N_gathered) (sc := defScope TX.s_gathered) (by decide +kernel)) (fun _ _ _ _ _ => (pg_name (i := 6) sc_gathered.nd rfl (Or.inl rfl))) (fun _ _ _ _ _ => pts_nil) (fun _ _ _ _ _ => (pe_mid (pe_cal (ok_placed T) (hr.mono (by decide)) rfl T.g_placed pasN (pa_cons (pv 6) (pa_cons (pv 3) pa_nil)))))) o_iadd))))
  (pss_one (ps_ret (pv 4))))))), ?_⟩
    have tobj := T.obj
    have lk := hl.len
    have lok := ok.len
    refine q_new fun R hR => ?_
    have hRd : R ≠ d := fun e => by rw [e, hd] at hR; cases hR
    have sR := same_new (o := .lst []) hR
    refine q_stm (fun σ H' => Same H H' ∧ (∀ e ∈ es, folderN e.1 ≠ none) ∧ ∃ xs x2 x3 x5 x6, H' R = some (.lst xs) ∧ Each (RkV R R) es xs H' ∧ σ = [some (.ref d), some (.ref R), x2, x3, none, x5, x6]) ?_ ?_
    · refine ⟨d, _, sR _ _ hd, trivial, fun od => ?_⟩
      have hB : Same (upd H d (.frz od (.dK kvs))) (upd (upd H R (.lst [])) d (.frz od (.dK kvs))) := fun a u e => by
        by_cases ha : a = d
        · subst ha
          rw [upd_same] at e ⊢
          exact e
        · rw [upd_ne ha] at e ⊢
          exact sR a u e
      have hRB : upd H d (.frz od (.dK kvs)) R = none := by rw [upd_ne hRd]; exact hR
      refine for_mid (J0 := Itk d od kvs) (H0 := upd (upd H R (.lst [])) d (.frz od (.dK kvs))) ?_ walk_keys (fun k σ H' => Same (upd H d (.frz od (.dK kvs))) H' ∧ (∀ e ∈ es.take k, folderN e.1 ≠ none) ∧ ∃ xs x2 x3 x5 x6, H' R = some (.lst xs) ∧ Each (RkV R R) (es.take k) xs H' ∧ σ = [some (.ref d), some (.ref R), x2, x3, none, x5, x6])
        ⟨hB, (fun _ h => nomatch h), [], _, _, _, _, by rw [upd_ne hRd, upd_same], .nil, rfl⟩ (fun k σ H' _ h => h.1 _ _ upd_same) ?_ (fun σ H' h => ?_)
      · unfold iKeys
        walk_at "rd"
        exact ⟨od, .inl ⟨kvs, upd_same, rfl⟩⟩
      · rintro k x σ H2 H2' hk ⟨s2, hok, xs, x2, x3, x5, x6, hR2, each, rfl⟩ ⟨rfl, kk, v, hkv, rfl⟩
        obtain ⟨e, L, us, he, rfl, rfl, _, _⟩ := hl.at_ hkv
        obtain ⟨el, _, _⟩ := ok.each e (List.mem_of_getElem? he)
        have tk : es.take (k + 1) = es.take k ++ [e] := by rw [List.take_succ, he]; rfl
        have lt := List.length_take_le' k es
        have lx := each.1
        refine q_midG (fun v H' => Same H2' H' ∧ ∃ G ns, v = .ref G ∧ folderN e.1 = some ns ∧ H2' G = none ∧ H' G = some (.lst (nmsV ns))) ?_ ?_
        · walk_at "rd"
          refine ⟨e.1, rfl, el, fun ns G H' hf s hn hG => ⟨s, G, rfl, ns, hf, hn, hG⟩, fun hf H' s => q2 ⟨e, List.mem_of_getElem? he, hf⟩ od H' (s2.trans s)⟩
        rintro _ H3 ⟨s3, G, ns, rfl, hf, hG0, hG⟩
        have hGR : G ≠ R := fun e => by rw [e, hR2] at hG0; cases hG0
        have hR3 := s3 _ _ hR2
        have lenG : LenV K (.ref G) H3 (nmsV ns).length := .inl ⟨_, .inl (.inl hG), rfl⟩
        rw [nms_len] at lenG
        refine l_app rfl hR3 ?_
        walk_at "rd"
        refine .inr ⟨_, lenG, fun t ht => ⟨xs, ?_, by omega, ?_⟩⟩
        · exact (same_new ht) _ _ hR3
        have st := same_new (o := .tup [V.int (ns.length : Nat), V.str (S e.1), V.ref G]) ht
        have htR : t ≠ R := fun z => by rw [z, hR3] at ht; cases ht
        have mv : ∀ {e' : LE} {u : V}, RkV R R e' u H2' → RkV R R e' u (upd (upd H3 t (.tup [V.int (ns.length : Nat), V.str (S e.1), V.ref G])) R (.lst (xs ++ [V.ref t]))) := fun {e' u} ⟨t', G', ns', eu, hf', ht', hG', hGR', _⟩ => by
          have a1 := st _ _ (s3 _ _ ht')
          have a2 := st _ _ (s3 _ _ hG')
          refine ⟨t', G', ns', eu, hf', ?_, by rw [upd_ne hGR']; exact a2, hGR', hGR'⟩
          rw [upd_ne (fun z => by rw [z, hR2] at ht'; cases ht')]
          exact ht'.symm ▸ a1
        refine ⟨same_mut ((s2.trans s3).trans st) hRB, fun e' h' => ?_, _, upd_same, ?_⟩
        · rw [tk] at h'
          rcases List.mem_append.mp h' with h' | h'
          · exact hok e' h'
          · rw [List.mem_singleton.mp h', hf]
            simp
        · rw [tk]
          refine (each.imp fun _ _ d => mv d).snoc ⟨t, G, ns, rfl, hf, ?_, ?_, hGR, hGR⟩
          · rw [upd_ne htR, upd_same]
          · rw [upd_ne hGR]
            exact st _ _ hG
      · obtain ⟨s2, hok, xs, x2, x3, x5, x6, hR2, each, rfl⟩ := h
        rw [List.take_of_length_le (by omega)] at each hok
        refine ⟨s2 _ _ upd_same, same_unlock hd s2, hok, xs, _, _, _, _, by rw [upd_ne hRd]; exact hR2, each.imp fun e u ⟨t, G, ns, eu, hf, ht, hG, hGR, _⟩ => ⟨t, G, ns, eu, hf, ?_, ?_, hGR, hGR⟩, rfl⟩
        · rw [upd_ne (fun z => by rw [z, s2 _ _ upd_same] at ht; cases ht)]
          exact ht
        · rw [upd_ne (fun z => by rw [z, s2 _ _ upd_same] at hG; cases hG)]
          exact hG
    rintro σ H2 ⟨s2, hok, xs, x2, x3, x5, x6, hR2, each, rfl⟩
    refine q_new fun F hF => ?_
    have hF0 : H F = none := same_none s2 hF
    have sF := same_new (o := .lst []) hF
    have hRF : R ≠ F := fun e => by rw [← e, hR2] at hF; cases hF
    have eachF : Each (RkV R F) es xs (upd H2 F (.lst [])) := each.imp fun e u ⟨t, G, ns, eu, hf, ht, hG, hGR, _⟩ => ⟨t, G, ns, eu, hf, sF _ _ ht, sF _ _ hG, hGR, fun z => (by rw [z, hF] at hG; cases hG)⟩
    have hRF2 : upd H2 F (.lst []) R = some (.lst xs) := sF _ _ hR2
    have hFF : upd H2 F (.lst []) F = some (.lst []) := upd_same
    have s02 := s2.trans sF
    generalize upd H2 F (.lst []) = H3 at *
    refine q_stm (fun σ H' => Same H H' ∧ ∃ us es' y2 y3 y5 y6, SrtE es es' ∧ H' F = some (.lst us) ∧ Each (RowV K) (gathR es') us H' ∧ σ = [some (.ref d), some (.ref R), y2, y3, some (.ref F), y5, y6]) ?_ ?_
    · refine for_open (fun J H4 => ∃ p ys, J = Itl K p ∧ H4 = upd H3 p (.lst ys) ∧ H3 p = none ∧ ys.Perm xs ∧ ys.Pairwise (fun x y => ltK (keyAt H3 y) (keyAt H3 x) = false)) ?_ ?_
      · walk_at "rd"
        refine ⟨R, xs, keyAt H3, rfl, .inl (.inl hRF2), fun x hx => ?_, fun x hx y hy e => ?_, fun ys p perm so hp => ?_⟩
        · obtain ⟨i, hi⟩ := List.mem_iff_getElem?.mp hx
          obtain ⟨e, he, rk⟩ := eachF.at' hi
          have hk := rk.key
          obtain ⟨t, G, ns, rfl, hf, ht, _⟩ := rk
          refine ⟨t, [.ref G], rfl, ?_⟩
          rw [hk]
          unfold kE
          rw [hf]
          exact ht
        · obtain ⟨i, hi⟩ := List.mem_iff_getElem?.mp hx
          obtain ⟨j, hj⟩ := List.mem_iff_getElem?.mp hy
          obtain ⟨e1, he1, rk1⟩ := eachF.at' hi
          obtain ⟨e2, he2, rk2⟩ := eachF.at' hj
          rw [rk1.key, rk2.key] at e
          have e12 : e1.1 = e2.1 := congrArg (·.2) e
          have : i = j := nodup_idx ok.nd (x := e1.1) (by rw [List.getElem?_map, he1]; rfl) (by rw [List.getElem?_map, he2, e12]; rfl)
          subst this
          rw [hi] at hj
          exact Option.some.inj hj
        · exact .inl ⟨⟨_, .inl (.inl upd_same)⟩, p, rfl, ys, rfl, hp, perm, so⟩
      rintro _ _ ⟨p, ys, rfl, rfl, hp0, perm, so⟩
      obtain ⟨es', srt, eachS⟩ := ranked_sort eachF perm so
      have sp := same_new (o := .lst ys) hp0
      have hpF : p ≠ F := fun z => by rw [z, hFF] at hp0; cases hp0
      have les : es'.length ≤ 63 := by rw [srt.1.length_eq]; exact lok
      have eachS' : Each (RkV R F) es' ys (upd H3 p (.lst ys)) := eachS.imp fun e u ⟨t, G, ns, eu, hf, ht, hG, h1, h2⟩ => ⟨t, G, ns, eu, hf, sp _ _ ht, sp _ _ hG, h1, h2⟩
      refine for_midg (J0 := Itl K p) (H0 := upd H3 p (.lst ys)) ⟨rfl, rfl⟩ (walk_list (K := K) (a := p) (xs := ys)) (fun k σ H' => Same H H' ∧ H' p = some (.lst ys) ∧ Each (RkV R F) es' ys H' ∧ ∃ us y2 y3 y5 y6, H' F = some (.lst us) ∧ Each (RowV K) (gathR (es'.take k)) us H' ∧ σ = [some (.ref d), some (.ref R), y2, y3, some (.ref F), y5, y6])
        ⟨s02.trans sp, upd_same, eachS', [], _, _, _, _, sp _ _ hFF, .nil, rfl⟩ (fun k σ H' _ h => .inl (.inl h.2.1)) ?_ (fun σ H' h => ?_)
      · rintro k x σ H4 H4' hk ⟨s4, hp4, each4, us, y2, y3, y5, y6, hF4, rows4, rfl⟩ ⟨rfl, hx⟩
        obtain ⟨e, he, t, G, ns, rfl, hf, ht, hG, hGR, hGF⟩ := each4.at' hx
        have hes : e ∈ es := srt.1.mem_iff.mp (List.mem_of_getElem? he)
        obtain ⟨_, er, erok⟩ := ok.each e hes
        obtain ⟨nl, nok⟩ := ok.nms e hes ns hf
        obtain ⟨i, hi⟩ := List.mem_iff_getElem?.mp hes
        have hl4 : Lsts (RowV K) es kvs H4' := hl.mono s4 fun _ _ d => d.mono s4
        obtain ⟨L, lus, hval, hL, lrows⟩ := hl4.get ok.nd hi
        have llu := lrows.1
        have hd4 := s4 _ _ hd
        have tk : gathR (es'.take (k + 1)) = gathR (es'.take k) ++ e.2.map (placedR ns) := by
          rw [List.take_succ, he]
          unfold gathR
          rw [List.flatMap_append]
          simp [hf]
        have lg := rows4.1
        have lg2 : (gathR (es'.take k)).length ≤ 3780 := by
          have h1 := flat_le60 (es := es'.take k) fun e he => (ok.each e (srt.1.mem_iff.mp (List.mem_of_mem_take he))).2.1
          have h2 := List.length_take_le' k es'
          omega
        refine ⟨t, [.int (ns.length : Nat), .str (S e.1), .ref G], rfl, .inl (.inl ht), rfl, _, _, rfl, _, _, rfl, _, [], rfl, rfl, ?_⟩
        unfold tAug
        refine ⟨.ref F, rfl, ?_⟩
        refine lc_midM (J0 := Itl K L) (H0 := H4') ?_ (walk_list (K := K) (a := L) (xs := lus)) (by rw [llu]; omega) (fun k acc H' => Each (RowV K) ((e.2.take k).map (placedR ns)) acc H') (fun _ _ _ _ e h => h.imp fun _ _ d => d.nl e) .nil (fun H' s => .inl (.inl (s _ _ hL))) (fun _ _ _ _ y => y_at y) (fun _ => rfl) ?_ ?_
        · walk_at "rd"
          exact ⟨.ref L, dget_s hd4 hval, .inl ⟨⟨_, .inl (.inl hL)⟩, rfl⟩⟩
        · rintro j x acc H' H'' hj s5 hc ⟨rfl, hx⟩
          obtain ⟨r, hr1, rv⟩ := lrows.at' hx
          refine mid_of (fun u H6 => Same H'' H6 ∧ RowV K (placedR ns r) u H6) ?_ ?_
          · walk_at "rd"
            exact ⟨x, G, ns, r, rfl, rv.mono s5, erok r (List.mem_of_getElem? hr1), .inl (.inl (s5 _ _ hG)), nl, nok, fun u H6 s h => ⟨s, h⟩⟩
          · rintro u H6 ⟨s6, h⟩
            refine ⟨s6, ?_⟩
            rw [List.take_succ, hr1, List.map_append]
            exact (hc.imp fun _ _ d => d.mono s6).snoc h
        intro P acc H5 hP s5 hPl lacc prow
        rw [List.take_of_length_le (by rw [llu]; exact Nat.le_refl _)] at prow
        have hF5 := s5 _ _ hF4
        walk_at "rd"
        refine ⟨F, P, us, acc, rfl, rfl, hF5, hPl, by rw [lacc, llu, sizeLine_eq]; omega, ?_⟩
        have hPF : P ≠ F := fun z => by rw [z, hF4] at hP; cases hP
        have nl5 := nl_upd (o := .lst (us ++ acc)) hF5
        refine ⟨same_mut (s4.trans s5) hF0, ?_, ?_, _, upd_same, ?_, rfl⟩
        · rw [upd_ne hpF]
          exact s5 _ _ hp4
        · refine each4.imp fun e u ⟨t, G, ns, eu, hf, ht, hG, h1, h2⟩ => ⟨t, G, ns, eu, hf, ?_, ?_, h1, h2⟩
          · exact nl5 _ _ (s5 _ _ ht) fun _ z => nomatch z
          · rw [upd_ne h2]
            exact s5 _ _ hG
        · rw [tk]
          exact ((rows4.imp fun _ _ d => d.mono s5).app prow).imp fun _ _ d => d.nl nl5
      · obtain ⟨s4, _, each4, us, y2, y3, y5, y6, hF4, rows4, e⟩ := h
        rw [List.take_of_length_le (by rw [each4.1]; exact Nat.le_refl _)] at rows4
        exact ⟨s4, us, es', _, _, _, _, srt, hF4, rows4, e⟩
    rintro σ H4 ⟨s4, us, es', y2, y3, y5, y6, srt, hF4, rows4, rfl⟩
    walk_at "rd"
    exact q1 hok F us es' H4 srt s4 hF0 hF4 rows4

/-! ### the law's own lists in folders -/
def foldT (nms : List (List Nat)) : List Nat := (nms.map (· ++ [47])).flatten
theorem foldT_join : ∀ {nms : List (List Nat)}, nms ≠ [] → foldT nms = TL.joinL [47] nms ++ [47]
  | [], h => absurd rfl h
  | [p], _ => by simp [foldT, TL.joinL]
  | p :: q :: r, _ => by
    have ih := foldT_join (nms := q :: r) (by simp)
    show (p ++ [47]) ++ foldT (q :: r) = p ++ ([47] ++ TL.joinL [47] (q :: r)) ++ [47]
    rw [ih]
    simp
theorem fold_names {nms : List (List Nat)} (h : ∀ nm ∈ nms, nm ≠ [] ∧ ∀ c ∈ nm, c ∈ SIG) : folderN (foldT nms) = some nms := by
  cases nms with
  | nil => rfl
  | cons p r =>
    have e := foldT_join (nms := p :: r) (by simp)
    have hp := pathN_join (fo := true) (by simp) h
    rw [if_pos rfl, ← e] at hp
    have hne : foldT (p :: r) ≠ [] := by rw [e]; simp
    unfold folderN
    rw [if_neg hne, hp]
theorem fold_count : ∀ {nms : List (List Nat)}, (∀ nm ∈ nms, nm ≠ [] ∧ ∀ c ∈ nm, c ∈ SIG) → (foldT nms).count 47 = nms.length
  | [], _ => rfl
  | p :: r, h => by
    have e : foldT (p :: r) = (p ++ [47]) ++ foldT r := rfl
    have h0 : p.count 47 = 0 := List.count_eq_zero.mpr (slash_sig (h p List.mem_cons_self).2)
    rw [e, List.count_append, List.count_append, h0, fold_count fun nm hn => h nm (List.mem_cons_of_mem _ hn), List.length_cons]
    simp
    omega
theorem foldT_len : ∀ {nms : List (List Nat)}, (∀ nm ∈ nms, nm.length ≤ 400) → (foldT nms).length ≤ 401 * nms.length
  | [], _ => Nat.le_refl _
  | p :: r, h => by
    have h1 := h p List.mem_cons_self
    have h2 := foldT_len fun nm hn => h nm (List.mem_cons_of_mem _ hn)
    have e : foldT (p :: r) = (p ++ [47]) ++ foldT r := rfl
    rw [e]
    simp only [List.length_append, List.length_cons, List.length_nil]
    omega
structure LEG (es : List LE) (n : Nat) : Prop where
  nd : (es.map (·.1)).Nodup
  len : es.length ≤ n
  fold : ∀ e ∈ es, ∃ nms, e.1 = foldT nms ∧ nms.length ≤ 3 ∧ ∀ nm ∈ nms, nm ≠ [] ∧ nm.length ≤ 400 ∧ ∀ c ∈ nm, c ∈ SIG
  rows : ∀ e ∈ es, e.2.length ≤ 5 ∧ ∀ r ∈ e.2, RF.Ok r
theorem LEG.up {es : List LE} {n m : Nat} (h : LEG es n) (hn : n ≤ m) : LEG es m := ⟨h.nd, Nat.le_trans h.len hn, h.fold, h.rows⟩
theorem LEG.nil {n : Nat} : LEG [] n := ⟨.nil, Nat.zero_le _, (fun _ h => nomatch h), (fun _ h => nomatch h)⟩
theorem LEG.put {es : List LE} {n : Nat} {nms : List (List Nat)} {rs : List RF} (h : LEG es n) (h1 : nms.length ≤ 3) (h2 : ∀ nm ∈ nms, nm ≠ [] ∧ nm.length ≤ 400 ∧ ∀ c ∈ nm, c ∈ SIG) (h3 : rs.length ≤ 5) (h4 : ∀ r ∈ rs, RF.Ok r) : LEG (putE es (foldT nms) rs) (n + 1) := by
  refine ⟨putE_keys h.nd, Nat.le_trans putE_len (Nat.succ_le_succ h.len), fun e he => ?_, fun e he => ?_⟩
  · rcases putE_mem he with he | ⟨e1, _⟩
    · exact h.fold e he
    · exact ⟨nms, e1, h1, h2⟩
  · rcases putE_mem he with he | ⟨_, e2⟩
    · exact h.rows e he
    · rw [e2]
      exact ⟨h3, h4⟩
theorem LEG.ok {es : List LE} {n : Nat} (h : LEG es n) (hn : n ≤ 62) : LEok es ∧ ∀ e ∈ es, folderN e.1 ≠ none := by
  refine ⟨⟨h.nd, Nat.le_trans h.len (by omega), fun e he => ?_, fun e he ns hf => ?_⟩, fun e he => ?_⟩
  · obtain ⟨nms, e1, l1, ok⟩ := h.fold e he
    have := foldT_len fun nm hn => (ok nm hn).2.1
    have h401 : 401 * nms.length ≤ 401 * 3 := Nat.mul_le_mul_left _ l1
    obtain ⟨l2, rok⟩ := h.rows e he
    exact ⟨by rw [e1]; omega, by omega, rok⟩
  · obtain ⟨nms, e1, l1, ok⟩ := h.fold e he
    rw [e1, fold_names fun nm hn => ⟨(ok nm hn).1, (ok nm hn).2.2⟩] at hf
    cases hf
    exact ⟨by omega, ok⟩
  · obtain ⟨nms, e1, l1, ok⟩ := h.fold e he
    rw [e1, fold_names fun nm hn => ⟨(ok nm hn).1, (ok nm hn).2.2⟩]
    simp
theorem lc_pairsL {K : PySem.W.Frag} {a : Addr} {xs : List V} {wi : TI} {i j : Nat} {te : TE} {vs : List Nat} {σ : L2.St} {H H0 : Hp} {Q : VK} (h : wi σ H fun J H1 => J = Itl K a ∧ H1 = H0) (ha : H0 a = some (.lst xs)) (hn : xs.length < 16777216) (f g : V → V) (hx : ∀ x ∈ xs, ∃ t, x = .ref t ∧ H0 t = some (.tup [f x, g x])) (C : Nat → List V → Hp → Prop) (hC : ∀ k acc Ha Hb, NL Ha Hb → C k acc Ha → C k acc Hb) (h0 : C 0 [] H0)
    (hw : ∀ x y, wipe (((wipe σ vs).set i (some x)).set j (some y)) vs = wipe σ vs)
    (turn : ∀ k x acc H', xs[k]? = some x → Same H0 H' → C k acc H' → tMid te (((wipe σ vs).set i (some (f x))).set j (some (g x))) H' fun v H4 => Same H' H4 ∧ C (k + 1) (acc ++ [v]) H4)
    (done : ∀ p acc H', H0 p = none → Same H0 H' → H' p = some (.lst acc) → acc.length = xs.length → C xs.length acc H' → Q (.ref p) H') : tLc (iMid wi) (gTup K 2 (gCons (gName i) (gCons (gName j) gNil))) tYes (tMid te) vs σ H Q := by
  refine ⟨_, h, ?_⟩
  rintro J H1 ⟨rfl, rfl⟩ p hp
  refine lc_it (walk_list (K := K) (a := a) (xs := xs)) (fun k H' => ∃ acc, Same H1 H' ∧ H' p = some (.lst acc) ∧ acc.length = k ∧ C k acc H') ⟨[], same_new hp, upd_same, rfl, hC _ _ _ _ (NL.of (same_new hp)) h0⟩ (fun k H' _ ⟨acc, s, _⟩ => .inl (.inl (s _ _ ha))) ?_ fun H' ⟨acc, s, hD, hl, c⟩ => done p acc H' hp s hD hl c
  rintro k v H' H'' hk ⟨acc, s, hD, hl, c⟩ ⟨rfl, hv⟩
  obtain ⟨t, rfl, ht⟩ := hx v (List.mem_of_getElem? hv)
  refine ⟨t, [f (.ref t), g (.ref t)], rfl, .inl (.inl (s _ _ ht)), rfl, _, [g (.ref t)], rfl, _, [], rfl, rfl, hw _ _, ?_⟩
  obtain ⟨R, h1, h2⟩ := turn k (.ref t) acc _ hv s c
  refine ⟨R, h1, ?_⟩
  rintro v H4 hR
  obtain ⟨s3, c'⟩ := h2 v H4 hR
  have hD4 : H4 p = some (.lst acc) := s3 _ _ hD
  refine ⟨acc, hD4, by rw [sizeLine_eq]; omega, acc ++ [v], same_mut (s.trans s3) hp, upd_same, by rw [List.length_append, hl]; rfl, hC _ _ _ _ (nl_upd hD4) c'⟩
theorem ranked_sortG {Rk : LE → V → Hp → Prop} {es : List LE} {xs ys : List V} {H : Hp} (key : ∀ e u, Rk e u H → keyAt H u = kE e) (h : Each Rk es xs H) (p : ys.Perm xs) (so : ys.Pairwise (fun x y => ltK (keyAt H y) (keyAt H x) = false)) : ∃ es', SrtE es es' ∧ Each Rk es' ys H := by
  have hx : xs = (es.zip xs).map (·.2) := by rw [List.map_snd_zip (by rw [h.1]; exact Nat.le_refl _)]
  rw [hx] at p
  obtain ⟨zs, p1, rfl⟩ := perm_map_inv p
  have he : es = (es.zip xs).map (·.1) := by rw [List.map_fst_zip (by rw [h.1]; exact Nat.le_refl _)]
  have mem : ∀ z ∈ zs, Rk z.1 z.2 H := fun z hz => by
    obtain ⟨i, hi⟩ := List.mem_iff_getElem?.mp (p1.mem_iff.mp hz)
    obtain ⟨h1, h2⟩ := List.getElem?_zip_eq_some.mp hi
    obtain ⟨u, hu, g⟩ := h.2 i _ h1
    rw [h2] at hu
    cases hu
    exact g
  refine ⟨zs.map (·.1), ⟨?_, ?_⟩, ?_, fun i e hi => ?_⟩
  · have := p1.map (·.1)
    rwa [← he] at this
  · rw [List.pairwise_map] at so ⊢
    refine so.imp_of_mem fun {a b} ha hb h => ?_
    rw [key _ _ (mem a ha), key _ _ (mem b hb)] at h
    exact h
  · rw [List.length_map, List.length_map]
  · rw [List.getElem?_map] at hi
    obtain ⟨z, hz, rfl⟩ := Option.map_eq_some_iff.mp hi
    exact ⟨z.2, by rw [List.getElem?_map, hz]; rfl, mem z (List.mem_of_getElem? hz)⟩
def RkQ (e : LE) (u : V) (H : Hp) : Prop := ∃ t, u = .ref t ∧ H t = some (.tup [.int (kE e).1, .str (S e.1)])
theorem RkQ.key {e : LE} {u : V} {H : Hp} (h : RkQ e u H) : keyAt H u = kE e := by
  obtain ⟨t, rfl, ht⟩ := h
  simp only [keyAt, ht]
  refine Prod.ext rfl ?_
  simp [kE]
theorem RkQ.nl {e : LE} {u : V} {H H' : Hp} (h : RkQ e u H) (n : NL H H') : RkQ e u H' := let ⟨t, a, b⟩ := h; ⟨t, a, n _ _ b fun _ z => nomatch z⟩
theorem LEG.count {es : List LE} {n : Nat} (h : LEG es n) {e : LE} (he : e ∈ es) : ((e.1.count 47 : Nat) : Int) = (kE e).1 := by
  obtain ⟨nms, e1, _, ok⟩ := h.fold e he
  have ok' : ∀ nm ∈ nms, nm ≠ [] ∧ ∀ c ∈ nm, c ∈ SIG := fun nm hn => ⟨(ok nm hn).1, (ok nm hn).2.2⟩
  unfold kE
  rw [e1, fold_count ok', fold_names ok']
  rfl
theorem count47 (l : List Nat) : Txt.count (S l) (S [47]) = l.count 47 := by
  have e := PyProof.Rows.count_is (S l) 47
  rw [show (S l).cps.toList = l from by simp] at e
  refine (show Txt.count (S l) (S [47]) = _ from e).trans ?_
  clear e
  induction l with
  | nil => rfl
  | cons c r ih =>
    show (if PySem.Spec.same (.str ⟨#[c]⟩) (.str ⟨#[47]⟩) then (1 : Int) else 0) + countIn _ (r.map fun n => PyData.str ⟨#[n]⟩) = _
    have h : PySem.Spec.same (.str ⟨#[c]⟩) (.str ⟨#[47]⟩) = (c == 47) := by
      by_cases hc : c = 47
      · subst hc; rfl
      · have h1 : (c == 47) = false := by simpa using hc
        rw [h1]
        show ((⟨#[c]⟩ : Str) == ⟨#[47]⟩) = false
        have h2 : ¬ (⟨#[c]⟩ : Str) = ⟨#[47]⟩ := fun e => hc (S1_inj e)
        simpa using h2
    rw [ih, h, List.count_cons]
    by_cases hc : (c == 47) = true
    · rw [if_pos hc, if_pos hc]; omega
    · rw [if_neg hc, if_neg hc]; omega
abbrev FmV (K : PySem.W.Frag) : RF → V → Hp → Prop := fun r v H => Dp K H v (RF.d r)
theorem cut_toL {xs : List V} {o : Nat} : cutV xs none (some (o : Int)) = xs.take o := by
  unfold cutV
  rw [HT.sIx_none, HT.sIx_nat, List.drop_zero, Nat.sub_zero]
  rcases Nat.le_total o xs.length with h | h
  · rw [Nat.min_eq_left h]
  · rw [Nat.min_eq_right h, List.take_of_length_le (Nat.le_refl _), List.take_of_length_le h]
theorem nms_take' {nms : List (List Nat)} {o : Nat} : (nmsV nms).take o = nmsV (nms.take o) := by unfold nmsV; rw [List.map_take, List.map_take]
theorem join_nil' : ∀ ls : List (List Nat), TL.joinL [] ls = ls.flatten
  | [] => rfl
  | [p] => by simp [TL.joinL]
  | p :: q :: r => by
    have ih := join_nil' (q :: r)
    show p ++ ([] ++ TL.joinL [] (q :: r)) = _
    rw [ih]
    rfl
def spRanked (K : PySem.W.Frag) : Sp := fun vs H Q _ => ∃ d es kvs, vs = [.ref d] ∧ H d = some (.dK kvs) ∧ Lsts (FmV K) es kvs H ∧ LEG es 62 ∧ ∀ p es' H', SrtE es es' → Same H H' → H p = none → H' p = some (.lst (nmsV (es'.map (·.1)))) → Q (.ref p) H'
theorem ok__law_ranked (T : Txt K mg) : OkD P w K mg base 1 (fA K "_law_ranked") ["_law_lists"] [] (spRanked K) := by
  refine okD T.F__law_ranked sc__law_ranked (fun _ _ _ _ _ _ us hl => match us, hl with | [_], _ => rfl) ?_ ?_
  · rintro vs H Q E ⟨d, es, kvs, rfl, _⟩
    rfl
  · rintro cdv A outer s H vs Q E hr ⟨d, es, kvs, rfl, hd, hl, ok, q⟩
    refine ⟨_, (pss_one (ps_ret (pe_lc (own := [("_law_many", 2), ("_law_folder", 1)]) (g := (gTup K 2 (gCons (gName 2) (gCons (gName 1) gNil)))) (tt := tYes) rfl sc__law_ranked.nd (pi_mid (o_it (K := K) rfl (pe_callB (o_sortedT (K := K)) (by rfl) T.fr_sorted (by decide +kernel) (pa_cons (pe_lock (pe_lc (own := [("_law_folder", 1)]) (g := (gName 1)) (tt := tYes) rfl sc__law_ranked.nd (pi_mid (pi_keys (pv 0))) (blkOk_by (N := N__law_ranked) (sc := defScope TX.s__law_ranked) (by decide +kernel)) (fun _ _ _ _ _ => (pg_name (i := 1) sc__law_ranked.nd rfl (Or.inl rfl))) (fun _ _ _ _ _ => pts_nil) (fun _ _ _ _ _ => (pe_mid (pe_tup (pa_cons (pe_bmK (K := K) PySem.F.plainAttrs_str PySem.F.slot_str_count PySem.F.type_str_count mo_count (pv 1) (pa_cons pe_str pa_nil)) (pa_cons (pv 1) pa_nil))))))) pa_nil)))) (blkOk_by (N := N__law_ranked) (sc := defScope TX.s__law_ranked) (by decide +kernel)) (fun _ _ _ _ _ => (pg_tup rfl (pgs_cons (pg_name (i := 2) sc__law_ranked.nd rfl (Or.inl rfl)) (pgs_cons (pg_name (i := 1) sc__law_ranked.nd rfl (Or.inl rfl)) pgs_nil)))) (fun _ _ _ _ _ => pts_nil) (fun _ _ _ _ _ => (pe_mid (pv 1)))))), ?_⟩
    have tobj := T.obj
    have lk := hl.len
    have lok := ok.len
    show tLc _ _ _ _ _ _ _ _
    refine lc_open (fun J H1 => ∃ p ys es', J = Itl K p ∧ Same H H1 ∧ H1 p = some (.lst ys) ∧ SrtE es es' ∧ Each RkQ es' ys H1) ?_ ?_
    · walk_at "rd"
      refine ⟨d, _, hd, trivial, fun od => ?_⟩
      refine lc_midM (J0 := Itk d od kvs) (H0 := upd H d (.frz od (.dK kvs))) ?_ walk_keys (by omega) (fun k acc H' => Each RkQ (es.take k) acc H') (fun _ _ _ _ e h => h.imp fun _ _ d => d.nl e) .nil (fun H' s => s _ _ upd_same) (fun _ _ _ _ y => by rw [y.1]; exact Same.refl _) (fun _ => rfl) ?_ ?_
      · unfold iKeys
        walk_at "rd"
        exact ⟨od, .inl ⟨kvs, upd_same, rfl⟩⟩
      · rintro k x acc H' H'' hk s2 hc ⟨rfl, kk, v, hkv, rfl⟩
        obtain ⟨e, L, us, he, rfl, rfl, _, _⟩ := hl.at_ hkv
        refine mid_of (fun u H4 => Same H'' H4 ∧ RkQ e u H4) ?_ ?_
        · walk_at "rd"
          refine ⟨trivial, fun p hp => ⟨same_new hp, p, rfl, ?_⟩⟩
          rw [upd_same]
          show some (HO.tup [V.int (Txt.count (S e.1) (S [47])), V.str (S e.1)]) = _
          rw [count47, ok.count (List.mem_of_getElem? he)]
        · rintro u H4 ⟨s4, h⟩
          refine ⟨s4, ?_⟩
          rw [List.take_succ, he]
          exact (hc.imp fun _ _ d => d.nl (.of s4)).snoc h
      intro R xs H2 hR s2 hRl lxs each
      rw [List.take_of_length_le (by omega)] at each
      have hfr := s2 _ _ (show upd H d (.frz od (.dK kvs)) d = some (.frz od (.dK kvs)) from upd_same)
      have hRd : R ≠ d := fun z => by rw [z, upd_same] at hR; cases hR
      have s3 := same_unlock hd s2
      have each3 : Each RkQ es xs (upd H2 d (.dK kvs)) := each.imp fun e u ⟨t, a, b⟩ => ⟨t, a, by
        rw [upd_ne (fun z => by rw [z, hfr] at b; cases b)]
        exact b⟩
      have hR3 : upd H2 d (.dK kvs) R = some (.lst xs) := by rw [upd_ne hRd]; exact hRl
      refine ⟨hfr, R, xs, keyAt (upd H2 d (.dK kvs)), rfl, .inl (.inl hR3), fun x hx => ?_, fun x hx y hy e => ?_, fun ys p perm so hp => ?_⟩
      · obtain ⟨i, hi⟩ := List.mem_iff_getElem?.mp hx
        obtain ⟨e, he, rk⟩ := each3.at' hi
        have hk := rk.key
        obtain ⟨t, rfl, ht⟩ := rk
        exact ⟨t, [], rfl, by rw [hk]; exact ht⟩
      · obtain ⟨i, hi⟩ := List.mem_iff_getElem?.mp hx
        obtain ⟨j, hj⟩ := List.mem_iff_getElem?.mp hy
        obtain ⟨e1, he1, rk1⟩ := each3.at' hi
        obtain ⟨e2, he2, rk2⟩ := each3.at' hj
        rw [rk1.key, rk2.key] at e
        have e12 : e1.1 = e2.1 := congrArg (·.2) e
        have : i = j := nodup_idx ok.nd (x := e1.1) (by rw [List.getElem?_map, he1]; rfl) (by rw [List.getElem?_map, he2, e12]; rfl)
        subst this
        rw [hi] at hj
        exact Option.some.inj hj
      · obtain ⟨es', srt, eachS⟩ := ranked_sortG (fun _ _ r => r.key) each3 perm so
        have sp := same_new (o := .lst ys) hp
        exact .inl ⟨⟨_, .inl (.inl upd_same)⟩, p, rfl, s3.trans sp, ys, upd_same, es', srt, eachS.imp fun _ _ r => r.nl (.of sp)⟩
    rintro _ H1 ⟨p, ys, es', rfl, s1, hp, srt, each⟩
    have lys := each.1
    have les : es'.length ≤ 62 := by rw [srt.1.length_eq]; exact lok
    refine lc_pairsL (K := K) (a := p) (xs := ys) (H0 := H1) ⟨rfl, rfl⟩ hp (by omega) (fun x => .int (keyAt H1 x).1) (fun x => .str (S (keyAt H1 x).2)) (fun x hx => ?_) (fun k acc _ => acc = nmsV ((es'.take k).map (·.1))) (fun _ _ _ _ _ e => e) rfl (fun _ _ => rfl) ?_ ?_
    · obtain ⟨i, hi⟩ := List.mem_iff_getElem?.mp hx
      obtain ⟨e, he, rk⟩ := each.at' hi
      have hk := rk.key
      obtain ⟨t, rfl, ht⟩ := rk
      exact ⟨t, rfl, by rw [hk]; exact ht⟩
    · rintro k x acc H' hx s2 rfl
      obtain ⟨e, he, rk⟩ := each.at' hx
      rw [rk.key]
      refine mid_of (fun v H4 => H4 = H' ∧ v = .str (S e.1)) (by walk_at "rd"; rfl) ?_
      rintro _ _ ⟨rfl, rfl⟩
      refine ⟨Same.refl _, ?_⟩
      rw [List.take_succ, he]
      simp [nmsV]
    · intro P acc H2 hP s2 hPl lacc hacc
      rw [List.take_of_length_le (by omega)] at hacc
      subst hacc
      exact q P es' _ srt (s1.trans s2) (same_none s1 hP) hPl
/-! ### gathered rows may be told -/
theorem one_dok {nm : List Nat} (h : ∀ c ∈ nm, c ∈ SIG) : DOk 3 (oneS nm).d := dok_tup (all_cons (dok_str (by decide +kernel)) (all_cons (dok_tup fun d hd => by
  obtain ⟨f, hf, rfl⟩ := List.mem_map.mp hd
  obtain ⟨c, hc, rfl⟩ := List.mem_map.mp hf
  exact PF.dok (f := .one c) (h c hc)) all_nil))
/-- rows that may be told and compared -/
structure RTk (r : RF) : Prop where
  l1 : r.steps.length ≤ 1000
  l2 : ∀ fs, SF.seg fs ∈ r.steps → fs.length ≤ 1000
  dok : DOk 5 r.d
theorem RTk.of {r : RF} (h : r.Ok) : RTk r := ⟨RF.len1 h, RF.len2 h, RF.dok h⟩
theorem placed_tk {nms : List (List Nat)} {r : RF} (h : r.Ok) (hl : nms.length ≤ 50) (hn : ∀ nm ∈ nms, nm ≠ [] ∧ nm.length ≤ 400 ∧ ∀ c ∈ nm, c ∈ SIG) : RTk (placedR nms r) := by
  have mem : ∀ s ∈ (placedR nms r).steps, (∃ nm ∈ nms, s = oneS nm) ∨ s ∈ r.steps ∨ s = .seg [.stars] := fun s hs => by
    have hs' : s ∈ nms.map oneS ++ (r.steps ++ (if nms ≠ [] ∧ r.steps = [SF.deep] then [SF.seg [.stars]] else [])) := hs
    rcases List.mem_append.mp hs' with h1 | h1
    · obtain ⟨nm, hm, rfl⟩ := List.mem_map.mp h1
      exact .inl ⟨nm, hm, rfl⟩
    · rcases List.mem_append.mp h1 with h1 | h1
      · exact .inr (.inl h1)
      · split at h1
        · exact .inr (.inr (List.mem_singleton.mp h1))
        · cases h1
  refine ⟨?_, fun fs hf => ?_, dok_tup (all_cons (dok_tup fun d hd => ?_) (all_cons dok_bl (all_cons dok_bl all_nil)))⟩
  · show (nms.map oneS ++ (r.steps ++ (if nms ≠ [] ∧ r.steps = [SF.deep] then [SF.seg [.stars]] else []))).length ≤ 1000
    rw [List.length_append, List.length_append, List.length_map]
    have h1 : (if nms ≠ [] ∧ r.steps = [SF.deep] then [SF.seg [.stars]] else []).length ≤ 1 := by split <;> simp
    have := h.len
    omega
  · rcases mem _ hf with ⟨nm, hm, e⟩ | h1 | e
    · have e1 : fs = nm.map .one := SF.seg.inj e
      rw [e1, List.length_map]
      have := (hn nm hm).2.1
      omega
    · exact RF.len2 h fs h1
    · have e1 : fs = [.stars] := SF.seg.inj e
      rw [e1]
      decide
  · obtain ⟨s, hs, rfl⟩ := List.mem_map.mp hd
    rcases mem _ hs with ⟨nm, hm, rfl⟩ | h1 | rfl
    · exact one_dok (hn nm hm).2.2
    · exact SF.dok (h.ok s h1)
    · exact SF.dok (f := .seg [.stars]) (⟨by simp, fun f hf => by rw [List.mem_singleton.mp hf]; trivial, trivial, by decide⟩ : PartsOk [.stars])
theorem gath_tk {es es' : List LE} {n : Nat} (h : LEG es n) (srt : SrtE es es') : ∀ r ∈ gathR es', RTk r := fun r hr => by
  obtain ⟨e, he, hr1⟩ := List.mem_flatMap.mp hr
  obtain ⟨r0, h0, rfl⟩ := List.mem_map.mp hr1
  have hes := srt.1.mem_iff.mp he
  obtain ⟨nms, e1, l1, ok⟩ := h.fold e hes
  have ef : folderN e.1 = some nms := by rw [e1]; exact fold_names fun nm hn => ⟨(ok nm hn).1, (ok nm hn).2.2⟩
  rw [ef]
  exact placed_tk ((h.rows e hes).2 r0 h0) (by show nms.length ≤ 50; omega) ok
theorem gath_sz {es es' : List LE} {n : Nat} (h : LEG es n) (srt : SrtE es es') : ∀ r ∈ gathR es', RowSz r := fun r hr => ⟨(gath_tk h srt r hr).l1, (gath_tk h srt r hr).l2⟩
theorem gath_len {es es' : List LE} {n : Nat} (h : LEG es n) (hn : n ≤ 62) (srt : SrtE es es') : (gathR es').length ≤ 310 := by
  have key : ∀ l : List LE, (∀ e ∈ l, e.2.length ≤ 5) → (gathR l).length ≤ 5 * l.length := by
    intro l
    induction l with
    | nil => exact fun _ => Nat.le_refl _
    | cons e l ih =>
      intro hl
      have h1 := ih fun e he => hl e (List.mem_cons_of_mem _ he)
      have h2 := hl e List.mem_cons_self
      unfold gathR at h1 ⊢
      rw [List.flatMap_cons, List.length_append, List.length_map, List.length_cons]
      omega
  have h1 := key es' fun e he => (h.rows e (srt.1.mem_iff.mp he)).1
  have h2 := srt.1.length_eq
  have h3 := h.len
  omega

/-! ### a path's names, by the law; a folder's, too -/
structure CutP (w : List Nat) (nms : Names) (fo : Bool) : Prop where
  size : w.length ≤ 30000
  filt : (splW w).filter (fun l => !decide (l = [])) = nms
  lst : ∃ l, (nmsV (splW w)).getLast? = some (.str (S l)) ∧ (decide (l = []) = fo)
theorem GoodP.cut {w : List Nat} {nms : Names} {fo : Bool} (gp : GoodP w nms fo) : CutP w nms fo := by
  refine ⟨gp.size, gp.filt, ?_⟩
  rw [gp.spl]
  cases fo with
  | true => exact ⟨[], by rw [if_pos rfl, ← nms_app, List.getLast?_append]; rfl, rfl⟩
  | false =>
    rw [if_neg Bool.false_ne_true, List.append_nil]
    have hne := gp.ne
    refine ⟨nms.getLast hne, ?_, decide_eq_false (gp.nm _ (List.getLast_mem hne)).1⟩
    unfold nmsV
    rw [List.getLast?_map, List.getLast?_map, List.getLast?_eq_some_getLast hne]
    rfl
theorem cut_nil : CutP [] [] true := ⟨Nat.zero_le _, rfl, [], rfl, rfl⟩
def spCut (K : PySem.W.Frag) : Sp := fun vs H Q _ => ∃ wd nms fo, vs = [.str (S wd)] ∧ CutP wd nms fo ∧ ∀ p N H', Same H H' → H N = none → H' p = some (.tup [.ref N, .bl fo]) → H' N = some (.lst (nmsV nms)) → Q (.ref p) H'
theorem ok__law_cut (T : Txt K mg) : OkD P w K mg base 1 (fA K "_law_cut") ["_law_path"] [] (spCut K) := by
  refine okD T.F__law_cut sc__law_cut (fun _ _ _ _ _ _ us hl => match us, hl with | [_], _ => rfl) ?_ ?_
  · rintro vs H Q E ⟨wd, nms, fo, rfl, _⟩
    rfl
  · rintro cdv A outer s H vs Q E hr ⟨wd, nms, fo, rfl, gp, q⟩
    refine ⟨_, (pss_cons (ps_set (i := 1) sc__law_cut.nd rfl (Or.inl rfl) (pe_mid (pe_bmK (K := K) PySem.F.plainAttrs_str PySem.F.slot_str_split PySem.F.type_str_split mo_split (pv 0) (pa_cons pe_str pa_nil))))
  (pss_one (ps_ret (pe_tup (pa_cons (pe_mid (pe_lc (own := [("_law_name", 2)]) (g := (gName 2)) rfl sc__law_cut.nd (pi_mid (o_it (K := K) rfl (pv 1))) (blkOk_by (N := N__law_cut) (sc := defScope TX.s__law_cut) (by decide +kernel)) (fun _ _ _ _ _ => (pg_name (i := 2) sc__law_cut.nd rfl (Or.inl rfl))) (fun _ _ _ _ _ => (pts_one (pt_mid (pt_cmpR (o_ne (K := K) (hu64 hr)) (pv 2) pe_str (nomark _))))) (fun _ _ _ _ _ => (pe_mid (pv 2))))) (pa_cons (pe_cmpR (o_eq (K := K) (hu64 hr)) (pe_ix (o_ix (K := K)) (pv 1) (pe_un un_neg pe_int) (fun _ _ => rfl)) pe_str (nomark _)) pa_nil)))))), ?_⟩
    have tobj := T.obj
    have lw := gp.size
    refine q_midG (fun v H' => Same H H' ∧ ∃ N, v = .ref N ∧ H' N = some (.lst (nmsV (splW wd)))) ?_ ?_
    · walk_at "rd"
      have e : Txt.split (S wd) (S [47]) = (splW wd).map S := split_S (b := [47]) (by simp) (by decide)
      refine ⟨by decide, by rw [S_len, sizeLine_eq]; omega, fun p1 hp1 => ⟨same_new hp1, p1, rfl, ?_⟩⟩
      rw [upd_same, show Str.ofString "/" = S [47] from rfl, e]
      rfl
    rintro _ H1 ⟨s1, N, rfl, hN⟩
    have lsp : (splW wd).length ≤ wd.length + 1 := spl_cnt wd [] 0
    walk_at "rd"
    refine mid_of (fun v H' => Same H1 H' ∧ ∃ F, v = .ref F ∧ H1 F = none ∧ H' F = some (.lst (nmsV nms))) ?_ ?_
    · refine lc_midT (J0 := Itl K N) (H0 := H1) ?_ (walk_list (K := K) (a := N) (xs := nmsV (splW wd))) (by rw [nms_len]; omega) (fun k acc _ => acc = nmsV (((splW wd).take k).filter fun l => !decide (l = []))) (fun _ _ _ _ _ e => e) rfl (fun H' s => .inl (.inl (s _ _ hN))) (fun _ _ _ _ y => y_at y) (fun _ => rfl) ?_ ?_
      · walk_at "rd"
        exact .inl ⟨_, .inl (.inl hN)⟩
      · rintro k x acc H' H'' hk s' rfl ⟨rfl, hx⟩
        obtain ⟨nm, hnm, rfl⟩ := nms_at hx
        walk_at "rd"
        have tk : ((splW wd).take (k + 1)).filter (fun l => !decide (l = [])) = ((splW wd).take k).filter (fun l => !decide (l = [])) ++ (if nm = [] then [] else [nm]) := by
          rw [List.take_succ, hnm, List.filter_append]
          by_cases h : nm = [] <;> simp [h]
        rw [tk]
        by_cases h : nm = []
        · rw [if_neg fun z => z (by rw [h]; rfl), if_pos h, List.append_nil]
        · rw [if_pos (show ¬ S nm = Str.ofString "" from fun z => h (S_inj z)), if_neg h]
          simp [nmsV]
      · intro F acc H2 hF s2 hFl _ hacc
        rw [List.take_of_length_le (by rw [nms_len]; exact Nat.le_refl _), gp.filt] at hacc
        subst hacc
        exact ⟨s2, F, rfl, hF, hFl⟩
    rintro _ H2 ⟨s2, F, rfl, hFn, hF⟩
    obtain ⟨l, hl, hfo⟩ := gp.lst
    refine ⟨nmsV (splW wd), .inl (.inl (.inl (s2 _ _ hN))), _, atI_last hl, ?_⟩
    walk_at "rd"
    intro p1 hp1
    have n1 := same_new (o := .tup [V.ref F, V.bl (decide (S l = Str.ofString ""))]) hp1
    have e1 : decide (S l = Str.ofString "") = fo := by
      rw [← hfo]
      exact decide_eq_decide.mpr ⟨fun h => S_inj h, fun h => by rw [h]; rfl⟩
    refine q p1 F _ ((s1.trans s2).trans n1) (same_none s1 hFn) ?_ (n1 _ _ hF)
    rw [upd_same, e1]

/-! ### walks (plain) -/
def txtF (p : Names) : List Nat := p.flatMap fun x => x ++ [47]
def txtE (e : Names × Bool) : List Nat := txtF e.1.dropLast ++ e.1.getLastD [] ++ (if e.2 = true then [47] else [])
theorem txtF_app {p q : Names} : txtF (p ++ q) = txtF p ++ txtF q := by
  unfold txtF
  rw [List.flatMap_append]
theorem txtF_snoc {p : Names} {x : List Nat} : txtF (p ++ [x]) = txtF p ++ x ++ [47] := by
  rw [txtF_app]
  simp [txtF]
theorem txtE_snoc {p : Names} {x : List Nat} {fo : Bool} : txtE (p ++ [x], fo) = txtF p ++ x ++ (if fo = true then [47] else []) := by
  unfold txtE
  rw [show (p ++ [x], fo).1 = p ++ [x] from rfl, List.dropLast_concat, last_app]
/-- what is walked of a folder, in the walk's order -/
def entsE (E : List (Names × Bool)) : Nat → Names → List (Names × Bool)
  | 0, _ => []
  | n + 1, p => (srtW (kidN E p)).flatMap fun nm => if (p ++ [nm], true) ∈ E then (p ++ [nm], true) :: entsE E n (p ++ [nm]) else [(p ++ [nm], false)]
theorem paths_ents {E : List (Names × Bool)} : ∀ (n : Nat) (p : Names), pathsE E n p (txtF p) = (entsE E n p).map txtE
  | 0, _ => rfl
  | n + 1, p => by
    unfold pathsE entsE
    rw [List.map_flatMap]
    congr 1
    funext nm
    split
    · rw [List.map_cons, txtE_snoc, if_pos rfl, ← paths_ents n (p ++ [nm]), txtF_snoc]
    · rw [List.map_cons, txtE_snoc, if_neg Bool.false_ne_true, List.append_nil, List.map_nil]
theorem ents_mem {E : List (Names × Bool)} (ok : EOk E) : ∀ {n : Nat} {p : Names} {e : Names × Bool}, e ∈ entsE E n p → e ∈ E ∧ ∃ x t, e.1 = p ++ x :: t
  | 0, _, _, h => nomatch h
  | n + 1, p, e, h => by
    unfold entsE at h
    obtain ⟨nm, hnm, h⟩ := List.mem_flatMap.mp h
    obtain ⟨fo, hin⟩ := (kidN_mem ok).mp ((srt_perm _).mem_iff.mp hnm)
    split at h
    · rename_i ht
      rcases List.mem_cons.mp h with rfl | h
      · exact ⟨ht, nm, [], rfl⟩
      · obtain ⟨h1, x, t, h2⟩ := ents_mem ok h
        exact ⟨h1, nm, x :: t, by rw [h2]; simp⟩
    · rename_i ht
      rw [List.mem_singleton.mp h]
      refine ⟨?_, nm, [], rfl⟩
      cases fo with
      | true => exact absurd hin ht
      | false => exact hin
/-! prefixes -/
theorem txtE_one {x : List Nat} {fo : Bool} : txtE ([x], fo) = x ++ (if fo = true then [47] else []) := txtE_snoc (p := [])
theorem txtE_cons {x : List Nat} {q : Names} {fo : Bool} (h : q ≠ []) : txtE (x :: q, fo) = x ++ 47 :: txtE (q, fo) := by
  obtain e := drop_last h
  rw [e, ← List.cons_append, txtE_snoc, txtE_snoc, show txtF (x :: q.dropLast) = x ++ [47] ++ txtF q.dropLast from rfl]
  simp
/-! what is shunned -/
def shB (rs : List RF) (nms : Names) (fo : Bool) : Bool := (List.range nms.length).any fun k => stops rs (stepN rs nms fo (k + 1))
theorem down_sh {rs : List RF} {nms : Names} {fo b : Bool} {o : Option Nat} (h : IsDown rs nms fo b o) : b = shB rs nms fo := by
  rcases h with ⟨rfl, k, hk, rfl, hs, _⟩ | ⟨rfl, _, hj⟩
  · exact (List.any_eq_true.mpr ⟨k, List.mem_range.mpr hk, hs⟩).symm
  · exact (List.any_eq_false.mpr fun k hk => by rw [hj k (List.mem_range.mp hk)]; exact Bool.false_ne_true).symm
/-! the walk -/
/-- an entry's text is a good path -/
theorem ent_good {E : List (Names × Bool)} (ok : EOk E) (hb : ∀ e ∈ E, e.1.length ≤ 9 ∧ ∀ x ∈ e.1, x.length ≤ 400) {e : Names × Bool} (he : e ∈ E) : GoodP (txtE e) e.1 e.2 := by
  have hne := ok.ne e he
  refine ⟨?_, hne, by have := (hb e he).1; omega, fun nm hn => ⟨(ok.nm e he nm hn).1, (hb e he).2 nm hn, (ok.nm e he nm hn).2.2⟩⟩
  obtain ⟨q, fo⟩ := e
  have key : ∀ q : Names, q ≠ [] → txtE (q, fo) = TL.joinL [47] q ++ (if fo = true then [47] else []) := by
    intro q
    induction q with
    | nil => exact fun h => absurd rfl h
    | cons x r ih =>
      intro _
      cases r with
      | nil => exact txtE_one
      | cons y r =>
        rw [txtE_cons (by simp), ih (by simp)]
        show x ++ 47 :: (TL.joinL [47] (y :: r) ++ _) = (x ++ ([47] ++ TL.joinL [47] (y :: r))) ++ _
        simp
  exact key q hne

/-! ### the walk's entries: all of the tree, each once -/
theorem ents_all {E : List (Names × Bool)} (ok : EOk E) : ∀ (n : Nat) (t p : Names) {fo : Bool}, t ≠ [] → t.length ≤ n → (p ++ t, fo) ∈ E → (p ++ t, fo) ∈ entsE E n p
  | 0, t, p, _, hne, hl, _ => absurd (List.eq_nil_of_length_eq_zero (Nat.le_zero.mp hl)) hne
  | n + 1, [], _, _, h, _, _ => absurd rfl h
  | n + 1, x :: t, p, fo, _, hl, h => by
    unfold entsE
    by_cases ht : t = []
    · subst ht
      refine List.mem_flatMap.mpr ⟨x, (srt_perm _).mem_iff.mpr ((kidN_mem ok).mpr ⟨fo, h⟩), ?_⟩
      cases fo with
      | true =>
        rw [if_pos h]
        exact List.mem_cons_self
      | false =>
        rw [if_neg fun g => Bool.noConfusion (e_uniq ok h g)]
        exact List.mem_cons_self
    · have hx : (p ++ [x], true) ∈ E := up_all ok t (p ++ [x]) (by simp) ht (b := fo) (by rwa [List.append_assoc])
      refine List.mem_flatMap.mpr ⟨x, (srt_perm _).mem_iff.mpr ((kidN_mem ok).mpr ⟨true, hx⟩), ?_⟩
      rw [if_pos hx]
      have := ents_all ok n t (p ++ [x]) (fo := fo) ht (by simpa using hl) (by rwa [List.append_assoc])
      rw [List.append_assoc] at this
      exact List.mem_cons_of_mem _ this
theorem ents_in {E : List (Names × Bool)} (ok : EOk E) {e : Names × Bool} (he : e ∈ E) : e ∈ entsE E 10 [] := ents_all ok 10 e.1 [] (fo := e.2) (ok.ne e he) (Nat.le_trans (ok.deep e he) (by decide)) he
theorem ents_nd {E : List (Names × Bool)} (ok : EOk E) : ∀ (n : Nat) (p : Names), (entsE E n p).Nodup
  | 0, _ => .nil
  | n + 1, p => by
    unfold entsE List.Nodup
    rw [List.pairwise_flatMap]
    have blk : ∀ {nm : List Nat} {e : Names × Bool}, e ∈ (if (p ++ [nm], true) ∈ E then (p ++ [nm], true) :: entsE E n (p ++ [nm]) else [(p ++ [nm], false)]) → ∃ t, e.1 = p ++ nm :: t := fun {nm e} h => by
      split at h
      · rcases List.mem_cons.mp h with rfl | h
        · exact ⟨[], rfl⟩
        · obtain ⟨_, x, t, e2⟩ := ents_mem ok h
          exact ⟨x :: t, by rw [e2]; simp⟩
      · rw [List.mem_singleton.mp h]
        exact ⟨[], rfl⟩
    refine ⟨fun nm _ => ?_, ?_⟩
    · split
      · refine List.nodup_cons.mpr ⟨fun h => ?_, ents_nd ok n _⟩
        obtain ⟨_, x, t, e⟩ := ents_mem ok h
        have := congrArg List.length e
        simp at this
      · simp
    · refine ((srt_perm _).nodup_iff.mpr (kidN_nd ok)).imp fun ne x hx y hy e => ?_
      obtain ⟨t, e1⟩ := blk hx
      obtain ⟨t2, e2⟩ := blk hy
      rw [e, e2] at e1
      exact ne (List.cons.inj (List.append_cancel_left e1)).1.symm
theorem txt_inj {e f : Names × Bool} (g : GoodP (txtE e) e.1 e.2) (h : GoodP (txtE f) f.1 f.2) (he : txtE e = txtE f) : e = f := by
  have h1 := g.path
  rw [he, h.path] at h1
  obtain ⟨a, b⟩ := e
  obtain ⟨c, d⟩ := f
  cases h1
  rfl
theorem txt_nd : ∀ {L : List (Names × Bool)}, L.Nodup → (∀ e ∈ L, GoodP (txtE e) e.1 e.2) → (L.map txtE).Nodup
  | [], _, _ => .nil
  | e :: L, nd, g => by
    obtain ⟨n1, n2⟩ := List.nodup_cons.mp nd
    rw [List.map_cons]
    refine List.nodup_cons.mpr ⟨fun h => ?_, txt_nd n2 fun f hf => g f (List.mem_cons_of_mem _ hf)⟩
    obtain ⟨f, hf, e2⟩ := List.mem_map.mp h
    have := txt_inj (g f (List.mem_cons_of_mem _ hf)) (g e List.mem_cons_self) e2
    rw [this] at hf
    exact n1 hf
theorem perm_unmap {α β : Type} {f : α → β} {l m : List β} (p : l.Perm m) : ∀ V : List α, m = V.map f → ∃ U : List α, l = U.map f ∧ U.Perm V := by
  induction p with
  | nil =>
    intro V h
    exact ⟨[], rfl, by rw [List.map_eq_nil_iff.mp h.symm]⟩
  | cons x p ih =>
    intro V h
    cases V with
    | nil => cases h
    | cons v V =>
      obtain ⟨h1, h2⟩ := List.cons.inj h
      obtain ⟨U, e, q⟩ := ih V h2
      exact ⟨v :: U, by rw [List.map_cons, ← e, h1], q.cons v⟩
  | swap x y l =>
    intro V h
    match V, h with
    | a :: b :: V, h =>
      obtain ⟨h1, h2⟩ := List.cons.inj h
      obtain ⟨h2, h3⟩ := List.cons.inj h2
      exact ⟨b :: a :: V, by rw [List.map_cons, List.map_cons, ← h3, ← h1, ← h2], List.Perm.swap ..⟩
  | trans _ _ ih1 ih2 =>
    intro V h
    obtain ⟨U, e, q⟩ := ih2 V h
    obtain ⟨W, e2, q2⟩ := ih1 U e
    exact ⟨W, e2, q2.trans q⟩

/-! ### what is told of an entry -/
def dnO (rs : List RF) (nms : Names) (fo : Bool) : Option Nat := match (List.range nms.length).find? fun k => stops rs (stepN rs nms fo (k + 1)) with
  | some k => stepN rs nms fo (k + 1)
  | none => stepN rs nms fo nms.length
theorem down_is {rs : List RF} {nms : Names} {fo : Bool} : IsDown rs nms fo (shB rs nms fo) (dnO rs nms fo) := by
  unfold dnO shB
  cases h : (List.range nms.length).find? fun k => stops rs (stepN rs nms fo (k + 1)) with
  | some k =>
    obtain ⟨h1, h2, h3⟩ := List.find?_range_eq_some.mp h
    refine .inl ⟨List.any_eq_true.mpr ⟨k, h2, h1⟩, k, List.mem_range.mp h2, rfl, h1, fun j hj => ?_⟩
    have := h3 j hj
    simpa using this
  | none =>
    have h1 := List.find?_eq_none.mp h
    refine .inr ⟨List.any_eq_false.mpr h1, rfl, fun j hj => ?_⟩
    have := h1 j (List.mem_range.mpr hj)
    simpa using this
theorem down_o {rs : List RF} {nms : Names} {fo b : Bool} {o : Option Nat} (h : IsDown rs nms fo b o) : o = dnO rs nms fo := (h.uniq down_is).2

/-! ### the last sign of a path; what is good, what is high -/
theorem GoodP.last {w : List Nat} {nms : Names} {fo : Bool} (h : GoodP w nms fo) : ∃ u c, w = u ++ [c] ∧ decide (c = 47) = fo := by
  rcases List.eq_nil_or_concat w with e | ⟨u, c, e⟩
  · exfalso
    obtain ⟨x, r, hx⟩ := List.exists_cons_of_ne_nil h.ne
    have hn := (h.nm x (by rw [hx]; exact List.mem_cons_self)).1
    have h2 := h.eq.symm.trans e
    rw [hx] at h2
    cases r with
    | nil => exact hn (List.append_eq_nil_iff.mp h2).1
    | cons y r => exact hn (List.append_eq_nil_iff.mp (List.append_eq_nil_iff.mp h2).1).1
  · rw [List.concat_eq_append] at e
    refine ⟨u, c, e, ?_⟩
    have := h.ends
    rw [e, ends47] at this
    exact this
/-! ### frames: all but some stays; keepers -/
def Frm (S : Addr → Prop) (H H' : Hp) : Prop := ∀ a o, H a = some o → ¬ S a → H' a = some o
theorem Frm.of {S : Addr → Prop} {H H' : Hp} (s : Same H H') : Frm S H H' := fun a o h _ => s a o h
theorem Frm.trans {S : Addr → Prop} {H H1 H' : Hp} (a : Frm S H H1) (b : Frm S H1 H') : Frm S H H' := fun c o e n => b c o (a c o e n) n
theorem Frm.step {S S1 : Addr → Prop} {H H1 H' : Hp} (a : Frm S H H1) (b : Frm S1 H1 H') (h : ∀ c, S1 c → S c ∨ H c = none) : Frm S H H' := fun c o e n => b c o (a c o e n) fun z => (h c z).elim n fun q => by rw [q] at e; cases e
theorem Frm.upd {S : Addr → Prop} {H H1 : Hp} {d : Addr} {o : HO} (a : Frm S H H1) (h : S d ∨ H d = none) : Frm S H (upd H1 d o) := fun c u e n => by
  have hne : c ≠ d := fun z => by
    subst z
    rcases h with q | q
    · exact n q
    · rw [q] at e
      cases e
  rw [upd_ne hne]
  exact a c u e n
theorem Frm.same {H H' : Hp} (a : Frm (fun _ => False) H H') : Same H H' := fun c o e => a c o e id
theorem Frm.sub {S S1 : Addr → Prop} {H H' : Hp} (a : Frm S H H') (h : ∀ c, S c → S1 c ∨ H c = none) : Frm S1 H H' := fun c o e n => a c o e fun z => (h c z).elim n fun q => by rw [q] at e; cases e
theorem Frm.none {S : Addr → Prop} {H H' : Hp} (a : Frm S H H') {c : Addr} (h : H' c = .none) (n : ¬ S c) : H c = .none := by
  cases e : H c with
  | none => rfl
  | some o => rw [a c o e n] at h; cases h
theorem TreeE.frm {En : List (Names × Bool)} {al : Names → Addr} {S : Addr → Prop} {H H' : Hp} (t : TreeE En al H) (f : Frm S H H') (h : ∀ q, Fold En q → ¬ S (al q)) : TreeE En al H' := ⟨t.ok, fun p hp => f _ _ (t.at_ p hp) (h p hp), t.inj⟩
/-! what a keeper is -/
def keepO (K : PySem.W.Frag) (dx r l n : Addr) : HO := .ins (fA K "Keeper") dx [("root", .ref r), ("rulings", .ref l), ("news", .ref n)]
def KeepV (K : PySem.W.Frag) (v : V) (H : Hp) : Prop := ∃ p dx r l n, v = .ref p ∧ H p = some (keepO K dx r l n)
/-- all but lists, dicts, keepers -/
def IM (K : PySem.W.Frag) (H H' : Hp) : Prop := ∀ a o, H a = some o → (∀ l, o ≠ .lst l) → (∀ ks, o ≠ .dK ks) → (∀ q ks, o ≠ .frz q (.dK ks)) → (∀ dx r l n, o ≠ keepO K dx r l n) → H' a = some o
theorem IM.of {K : PySem.W.Frag} {H H' : Hp} (e : Same H H') : IM K H H' := fun a o h _ _ _ _ => e a o h
theorem IM.nd {K : PySem.W.Frag} {H H' : Hp} (e : ND H H') : IM K H H' := fun a o h a1 a2 a3 _ => e a o h a1 a2 a3
theorem IM.trans {K : PySem.W.Frag} {H H1 H2 : Hp} (a : IM K H H1) (b : IM K H1 H2) : IM K H H2 := fun c o e n m w z => b c o (a c o e n m w z) n m w z
theorem ins_keep {K : PySem.W.Frag} {C dx dx' r l n : Addr} {f : String} {v : V} {fs : List (Str × V)} (h : f ≠ "root") : HO.ins C dx ((Str.ofString f, v) :: fs) ≠ keepO K dx' r l n := fun e => by
  unfold keepO at e
  rw [HO.ins.injEq, List.cons.injEq, Prod.mk.injEq, strEq] at e
  exact h e.2.2.1.1
theorem ins_keep0 {K : PySem.W.Frag} {C dx dx' r l n : Addr} : HO.ins C dx [] ≠ keepO K dx' r l n := fun e => by
  unfold keepO at e
  rw [HO.ins.injEq] at e
  exact nomatch e.2.2
theorem PartO.nk {K : PySem.W.Frag} {dx dx' r l n : Addr} {f : PF} : PartO K dx f ≠ keepO K dx' r l n := by
  cases f with
  | one c => exact ins_keep (by decide)
  | among => exact ins_keep (by decide)
  | any => exact ins_keep0
  | stars => exact ins_keep0
theorem PartV.im {K : PySem.W.Frag} {f : PF} {v : V} {H H' : Hp} (h : PartV K f v H) (e : IM K H H') : PartV K f v H' := let ⟨p, dx, ev, hp⟩ := h; ⟨p, dx, ev, e _ _ hp PartO.nl PartO.nd PartO.nf fun _ _ _ _ => PartO.nk⟩
theorem PartsV.im {K : PySem.W.Frag} {fs : List PF} {us : List V} {H H' : Hp} (h : PartsV K fs us H) (e : IM K H H') : PartsV K fs us H' := ⟨h.1, fun i f hf => let ⟨u, a, b⟩ := h.2 i f hf; ⟨u, a, b.im e⟩⟩
theorem IM.tup {K : PySem.W.Frag} {H H' : Hp} (e : IM K H H') {a : Addr} {xs : List V} (h : H a = some (.tup xs)) : H' a = some (.tup xs) := e _ _ h (fun _ z => nomatch z) (fun _ z => nomatch z) (fun _ _ z => nomatch z) fun _ _ _ _ z => nomatch z
theorem StepV.im {K : PySem.W.Frag} {f : SF} {v : V} {H H' : Hp} (h : StepV K f v H) (e : IM K H H') : StepV K f v H' := by
  cases f with
  | deep => obtain ⟨p, dx, a, b⟩ := h; exact ⟨p, dx, a, e _ _ b (fun _ z => nomatch z) (fun _ z => nomatch z) (fun _ _ z => nomatch z) fun _ _ _ _ => ins_keep0⟩
  | seg fs => obtain ⟨p, dx, t, us, a, b, c, d, z⟩ := h; exact ⟨p, dx, t, us, a, e _ _ b (fun _ z => nomatch z) (fun _ z => nomatch z) (fun _ _ z => nomatch z) (fun _ _ _ _ => ins_keep (by decide)), e.tup c, d.im e, z⟩
theorem RowV.im {K : PySem.W.Frag} {r : RF} {v : V} {H H' : Hp} (h : RowV K r v H) (e : IM K H H') : RowV K r v H' := by
  obtain ⟨p, dx, t, us, a, b, c, d, z⟩ := h
  exact ⟨p, dx, t, us, a, e _ _ b (fun _ z => nomatch z) (fun _ z => nomatch z) (fun _ _ z => nomatch z) (fun _ _ _ _ => ins_keep (by decide)), e.tup c, d.imp fun _ _ s => s.im e, z⟩
theorem sqT_im {K : PySem.W.Frag} {H H' : Hp} {a : Addr} {xs : List V} (h : SqT K H a xs) (e : IM K H H') : SqT K H' a xs := by
  rcases h with (h | ⟨o, h⟩) | h
  · exact .inl (.inl (e.tup h))
  · exact .inl (.inr ⟨o, e _ _ h (fun _ z => nomatch z) (fun _ z => nomatch z) (fun _ _ z => nomatch z) fun _ _ _ _ z => nomatch z⟩)
  · exact .inr h
mutual
theorem dp_im {K : PySem.W.Frag} {H H' : Hp} (e : IM K H H') : ∀ (d : PyData) (v : V), tupB d = true → Dp K H v d → Dp K H' v d
  | .none, _, _, .non => .non
  | .bool _, _, _, .bl b => .bl b
  | .int _, _, _, .int i => .int i
  | .str _, _, _, .str x => .str x
  | .tuple ds, _, t, .tup h a => .tup (sqT_im h e) (dpAll_im e ds _ (by simpa only [tupB] using t) a)
  | .list ds, _, t, _ => by simp [tupB] at t
theorem dpAll_im {K : PySem.W.Frag} {H H' : Hp} (e : IM K H H') : ∀ (ds : List PyData) (vs : List V), tupBs ds = true → DpAll K H vs ds → DpAll K H' vs ds
  | [], _, _, .nil => .nil
  | d :: ds, _, t, .cons h a => by
    have t' : tupB d = true ∧ tupBs ds = true := by simpa only [tupBs, Bool.and_eq_true] using t
    exact .cons (dp_im e d _ t'.1 h) (dpAll_im e ds _ t'.2 a)
end
structure KeepG (K : PySem.W.Frag) (p dx l n : Addr) (En : List (Names × Bool)) (al : Names → Addr) (es : List LE) (kvs : List (Key × V)) (nw : List (List Nat)) (H : Hp) : Prop where
  obj : H p = some (keepO K dx (al []) l n)
  tree : TreeE En al H
  dict : H l = some (.dK kvs)
  rul : Lsts (RowV K) es kvs H
  news : H n = some (.lst (nmsV nw))
  sep : ∀ q, Fold En q → al q ≠ l
/-- what a keeper's deeds may change -/
def fpK (p l : Addr) (En : List (Names × Bool)) (al : Names → Addr) : Addr → Prop := fun a => a = p ∨ a = l ∨ ∃ q, Fold En q ∧ a = al q
/-- what a keeper rests on, that may change -/
def fpA (l n : Addr) (En : List (Names × Bool)) (al : Names → Addr) (kvs : List (Key × V)) : Addr → Prop := fun a => a = l ∨ a = n ∨ (∃ q, Fold En q ∧ a = al q) ∨ ∃ k, (k, V.ref a) ∈ kvs
section
variable {K : PySem.W.Frag} {p dx l n : Addr} {En : List (Names × Bool)} {al : Names → Addr} {es : List LE} {kvs : List (Key × V)} {nw : List (List Nat)} {H H' : Hp}
theorem KeepG.mono (h : KeepG K p dx l n En al es kvs nw H) (s : Same H H') : KeepG K p dx l n En al es kvs nw H' := ⟨s _ _ h.obj, h.tree.mono s, s _ _ h.dict, h.rul.mono s fun _ _ d => d.mono s, s _ _ h.news, h.sep⟩
theorem KeepG.v (h : KeepG K p dx l n En al es kvs nw H) : KeepV K (.ref p) H := ⟨p, dx, _, l, n, rfl, h.obj⟩
theorem KeepG.fp (h : KeepG K p dx l n En al es kvs nw H) {a : Addr} (ha : fpK p l En al a) : (a = p ∧ H a = some (keepO K dx (al []) l n)) ∨ ∃ ks, H a = some (.dK ks) := by
  rcases ha with rfl | rfl | ⟨q, hq, rfl⟩
  · exact .inl ⟨rfl, h.obj⟩
  · exact .inr ⟨_, h.dict⟩
  · exact .inr ⟨_, h.tree.at_ q hq⟩
theorem KeepG.im (h : KeepG K p dx l n En al es kvs nw H) (f : Frm (fpK p l En al) H H') : IM K H H' := fun a o e _ n2 _ n4 => f a o e fun z => by
  rcases h.fp z with ⟨_, e2⟩ | ⟨ks, e2⟩
  · rw [e] at e2
    exact n4 _ _ _ _ (Option.some.inj e2)
  · rw [e] at e2
    exact n2 _ (Option.some.inj e2)
theorem KeepG.lst (h : KeepG K p dx l n En al es kvs nw H) (f : Frm (fpK p l En al) H H') {a : Addr} {us : List V} (e : H a = some (.lst us)) : H' a = some (.lst us) := f a _ e fun z => by
  rcases h.fp z with ⟨_, e2⟩ | ⟨ks, e2⟩
  · rw [e] at e2
    cases e2
  · rw [e] at e2
    cases e2
theorem Lsts.frm {R : RF → V → Hp → Prop} (h : Lsts R es kvs H) (hl : ∀ (a : Addr) us, (∃ k, (k, V.ref a) ∈ kvs) → H a = some (.lst us) → H' a = some (.lst us)) (r : ∀ f u, R f u H → R f u H') : Lsts R es kvs H' := by
  refine ⟨h.keys, h.vals.1, fun i e he => ?_⟩
  obtain ⟨u, hu, L, us, rfl, l, x⟩ := h.vals.2 i e he
  rw [List.getElem?_map] at hu
  obtain ⟨kv, hkv, ekv⟩ := Option.map_eq_some_iff.mp hu
  refine ⟨.ref L, by rw [List.getElem?_map, hkv, Option.map_some, ekv], L, us, rfl, hl L us ⟨kv.1, ?_⟩ l, x.imp r⟩
  rw [← ekv]
  exact List.mem_of_getElem? hkv
/-- a keeper, where other things change -/
theorem KeepG.frm {S : Addr → Prop} (h : KeepG K p dx l n En al es kvs nw H) (f : Frm S H H') (hk : ∀ a, S a → (∃ us, H a = some (.lst us)) ∨ (∃ ks, H a = some (.dK ks)) ∨ H a = none) (hd : ∀ a, S a → ¬ fpA l n En al kvs a) : KeepG K p dx l n En al es kvs nw H' := by
  have nS : ∀ {a : Addr} {o : HO}, H a = some o → (∀ us, o ≠ .lst us) → (∀ ks, o ≠ .dK ks) → ¬ S a := fun {a o} e n1 n2 z => by
    rcases hk a z with ⟨us, e2⟩ | ⟨ks, e2⟩ | e2 <;> rw [e] at e2
    · exact n1 us (Option.some.inj e2)
    · exact n2 ks (Option.some.inj e2)
    · cases e2
  have im : IM K H H' := fun a o e n1 n2 _ _ => f a o e (nS e n1 n2)
  refine ⟨f _ _ h.obj (nS h.obj (fun _ z => nomatch z) fun _ z => nomatch z), h.tree.frm f fun q hq z => hd _ z (.inr (.inr (.inl ⟨q, hq, rfl⟩))), f _ _ h.dict fun z => hd _ z (.inl rfl), ?_, f _ _ h.news fun z => hd _ z (.inr (.inl rfl)), h.sep⟩
  exact h.rul.frm (fun a us m e => f _ _ e fun z => hd _ z (.inr (.inr (.inr m)))) fun _ _ d => d.im im
end
def leafs (En : List (Names × Bool)) : List (Names × Bool) := En.filter fun e => !e.2
structure SmallT (En : List (Names × Bool)) : Prop where
  len : En.length ≤ 1000
  kid : ∀ p, (kidN En p).length ≤ 60
  nm : ∀ e ∈ En, e.1.length ≤ 9 ∧ ∀ x ∈ e.1, x.length ≤ 400
  lf : (leafs En).length ≤ 63
/-- the leaves' paths, rising -/
def leafW (En : List (Names × Bool)) : List (List Nat) := srtW ((leafs En).map txtE)
/-- whether a path is shunned -/
def shT (rs : List RF) (w : List Nat) : Bool := match pathN w with
  | some (nms, fo) => shB rs nms fo
  | none => false
abbrev WB := List Nat × Bool
def wbK (e : WB) : Key × V := (.inr (S e.1), .bl e.2)
def nowW (rs : List RF) (En : List (Names × Bool)) : List WB := (leafW En).map fun w => (w, shT rs w)
def getW (ah : List WB) (w : List Nat) : Bool := match ah.find? fun e => decide (e.1 = w) with
  | some e => e.2
  | none => false
def newsW (ah now : List WB) : List (List Nat) := (now.map (·.1)).filter fun w => getW now w != getW ah w
theorem ents_perm {E : List (Names × Bool)} (ok : EOk E) : (entsE E 10 []).Perm E := by
  have nd : E.Nodup := (List.pairwise_map.mp ok.nd).imp fun h e => h (by rw [e])
  refine (List.perm_ext_iff_of_nodup (ents_nd ok 10 []) nd).mpr fun e => ⟨fun h => (ents_mem ok h).1, ents_in ok⟩
theorem wb_val {ah : List WB} {w : List Nat} : valV (ah.map wbK) (.inr (S w)) = (ah.find? fun e => decide (e.1 = w)).map fun e => V.bl e.2 := by
  induction ah with
  | nil => rfl
  | cons e r ih =>
    rw [List.map_cons, List.find?_cons]
    by_cases h : e.1 = w
    · rw [valV_pos (p := wbK e) (by unfold wbK; rw [h]), decide_eq_true h]
      rfl
    · rw [valV_neg (p := wbK e) (fun z => h (S_inj (Sum.inr.inj z))), decide_eq_false h]
      exact ih
theorem wb_keys {ah : List WB} : (ah.map wbK).map (·.1) = (ah.map (·.1)).map fun w => (Sum.inr (S w) : Key) := by
  rw [List.map_map, List.map_map]
  rfl
theorem SrtE.uniq {es a b : List LE} (nd : (es.map (·.1)).Nodup) (h : SrtE es a) (g : SrtE es b) : a = b := by
  refine List.Perm.eq_of_pairwise (fun x y hx hy h1 h2 => ?_) h.2 g.2 (h.1.trans g.1.symm)
  have e := congrArg (·.2) (ltK_tri h1 h2)
  have e1 : x.1 = y.1 := e.symm
  have hx' := h.1.mem_iff.mp hx
  have hy' := g.1.mem_iff.mp hy
  obtain ⟨i, hi⟩ := List.mem_iff_getElem?.mp hx'
  obtain ⟨j, hj⟩ := List.mem_iff_getElem?.mp hy'
  have : i = j := nodup_idx nd (x := x.1) (by rw [List.getElem?_map, hi]; rfl) (by rw [List.getElem?_map, hj, e1]; rfl)
  subst this
  rw [hi] at hj
  exact Option.some.inj hj
def srtL (es : List LE) : List LE := es.mergeSort fun a b => !ltK (kE b) (kE a)
theorem srtL_ok (es : List LE) : SrtE es (srtL es) := by
  have swo := swo_ltK (α := LE) kE
  refine ⟨List.mergeSort_perm _ _, (List.pairwise_mergeSort (le := fun a b => !ltK (kE b) (kE a)) (fun a b c h1 h2 => ?_) (fun a b => ?_) es).imp fun h => by simpa using h⟩
  · have h1' : ltK (kE b) (kE a) = false := by simpa using h1
    have h2' : ltK (kE c) (kE b) = false := by simpa using h2
    have := swo.tr a b c h1' h2'
    simpa using this
  · cases h : ltK (kE b) (kE a) with
    | false => simp
    | true =>
      have := swo.asym b a h
      simp [this]
theorem srtL_eq {es a : List LE} (nd : (es.map (·.1)).Nodup) (h : SrtE es a) : a = srtL es := h.uniq nd (srtL_ok es)
/-- the rows of lists, gathered -/
def gathS (es : List LE) : List RF := gathR (srtL es)
def spGathK (LE' : List LE → Prop) (K : PySem.W.Frag) : Sp := fun vs H Q _ => ∃ d es kvs, vs = [.ref d] ∧ H d = some (.dK kvs) ∧ Lsts (RowV K) es kvs H ∧ LE' es ∧ ∀ F us H', Same H H' → H F = none → H' F = some (.lst us) → Each (RowV K) (gathS es) us H' → Q (.ref F) H'
def spToldG (LR : List RF → Prop) (K : PySem.W.Frag) : Sp := fun vs H Q _ => ∃ l wd nms fo us rs, vs = [.ref l, .str (S wd)] ∧ GoodP wd nms fo ∧ SqL K H l us ∧ Each (RowV K) rs us H ∧ LR rs ∧ ∀ p H', Same H H' → H' p = some (.tup [.bl (shB rs nms fo), optV (dnO rs nms fo)]) → Q (.ref p) H'

/-! ### a keeper's lists -/
def LimE (es : List LE) : Prop := LEG es 62
def LimR (rs : List RF) : Prop := (∀ r ∈ rs, RowSz r) ∧ rs.length ≤ 1000
theorem lim_gath {es : List LE} (h : LimE es) : LimR (gathS es) := by
  have srt := srtL_ok es
  exact ⟨gath_sz h srt, Nat.le_trans (gath_len h (Nat.le_refl _) srt) (by decide)⟩
theorem ok_gathered_g (T : Txt K mg) : OkD P w K mg base 5 (fA K "gathered") ["lists"] [] (spGathK LimE K) := (ok_gathered T).imp fun vs H Q E ⟨d, es, kvs, e, hd, hl, lim, q⟩ =>
  ⟨d, es, kvs, e, hd, hl, (LEG.ok lim (Nat.le_refl _)).1, fun _ F us es' H' srt s hF hF' each => q F us H' s hF hF' (by unfold gathS; rw [← srtL_eq lim.nd srt]; exact each), fun ⟨e, he, h⟩ => absurd h ((LEG.ok lim (Nat.le_refl _)).2 e he)⟩
theorem ok_told_g (T : Txt K mg) : OkD P w K mg base 6 (fA K "told") ["rows", "path"] [] (spToldG LimR K) := (ok_told T).imp fun vs H Q E ⟨l, wd, nms, fo, us, rs, e, gp, hl, each, lim, q⟩ =>
  ⟨l, wd, rs, e, Nat.le_trans gp.size (by decide), ⟨us, hl, each, lim⟩, fun nms' fo' hp b o p H' s hp' hd => by
    rw [gp.path] at hp
    cases hp
    refine q p H' s ?_
    rw [← down_sh hd, ← down_o hd]
    exact hp', fun hp => by rw [gp.path] at hp; cases hp⟩
theorem lim_len {es : List LE} (h : LimE es) : es.length ≤ 62 ∧ ∀ e ∈ es, e.2.length ≤ 60 := ⟨LEG.len h, fun e he => Nat.le_trans (LEG.rows h e he).1 (by decide)⟩

/-! ### a keeper's deeds -/
theorem merge_nd : ∀ {ks acc : List (Key × V)}, ((acc ++ ks).map (·.1)).Nodup → mergeK acc ks = acc ++ ks
  | [], acc, _ => (List.append_nil _).symm
  | q :: ks, acc, h => by
    have h1 : (acc.any fun kv => decide (kv.1 = q.1)) = false := by
      rw [List.any_eq_false]
      intro x hx e
      have e := of_decide_eq_true e
      rw [List.map_append, List.map_cons] at h
      exact (List.nodup_append.mp h).2.2 x.1 (List.mem_map.mpr ⟨x, hx, rfl⟩) q.1 List.mem_cons_self e
    have e1 : mergeK acc (q :: ks) = mergeK (acc ++ [q]) ks := by
      show (q :: ks).foldl (fun acc kv => putK acc kv.1 kv.2) acc = ks.foldl (fun acc kv => putK acc kv.1 kv.2) (acc ++ [q])
      rw [List.foldl_cons]
      congr 1
      unfold putK
      rw [if_neg (by rw [h1]; exact Bool.false_ne_true)]
    rw [e1, merge_nd (by rw [List.append_assoc]; exact h), List.append_assoc]
    rfl
def EKV (rs : List RF) (e : Names × Bool) (u : V) (H : Hp) : Prop := ∃ t, u = .ref t ∧ H t = some (.tup [.str (S (txtE e)), .bl (shB rs e.1 e.2)])
theorem ekv_pair {K : PySem.W.Frag} {rs : List RF} {H : Hp} : ∀ {L : List (Names × Bool)} {us : List V}, Each (EKV rs) L us H → ∃ ps : List Addr, us = ps.map V.ref ∧ Paired (fun p (kv : Key × V) => SqT K H p [kV kv.1, kv.2]) ps (L.map fun e => ((.inr (S (txtE e)) : Key), V.bl (shB rs e.1 e.2)))
  | [], us, h => ⟨[], by rw [List.eq_nil_of_length_eq_zero h.1]; rfl, .nil⟩
  | e :: L, us, h => by
    obtain ⟨u, hu, t, rfl, ht⟩ := h.2 0 e rfl
    cases us with
    | nil => cases hu
    | cons a us =>
      cases hu
      obtain ⟨ps, e1, e2⟩ := ekv_pair (L := L) (us := us) ⟨Nat.succ.inj h.1, fun i f hf => h.2 (i + 1) f hf⟩
      exact ⟨t :: ps, by rw [e1]; rfl, .cons (.inl (.inl ht)) e2⟩
def spKInit (K : PySem.W.Frag) : Sp := fun vs H Q _ => ∃ p dx, vs = [.ref p] ∧ H p = some (.ins (fA K "Keeper") dx []) ∧
  ∀ r l n H', H r = none → H l = none → H n = none → KeepG K p dx l n [] (fun _ => r) [] [] [] H' → But p H H' → Q .non H'
theorem ok_Keeper___init__ (T : Txt K mg) : OkD P w K mg base 1 (mA K "Keeper" "__init__") ["self"] [] (spKInit K) := by
  refine okD T.F_Keeper___init__ sc_Keeper___init__ (fun _ _ _ _ _ _ us hl => match us, hl with | [_], _ => rfl) ?_ ?_
  · rintro vs H Q E ⟨p, dx, rfl, _⟩
    rfl
  · rintro cdv A outer s H vs Q E hr ⟨p, dx, rfl, hp, q⟩
    refine ⟨_, (pss_cons (ps_fld (pv 0) pe_dnewK rfl)
  (pss_cons (ps_fld (pv 0) pe_dnewK rfl)
  (pss_one (ps_fld (pv 0) (pe_lst pa_nil) rfl)))), ?_⟩
    have tobj := T.obj
    walk_at "rdh"
    intro r hr0
    have npr : p ≠ r := fun z => by rw [← z, hp] at hr0; cases hr0
    refine ⟨_, dx, _, by rw [upd_ne npr]; exact hp, T.c_Keeper, T.n_Keeper_root, (Nat.le_of_ble_eq_true rfl), fun l hl0 => ?_⟩
    have npl : p ≠ l := fun z => by rw [← z, upd_same] at hl0; cases hl0
    have hl1 : H l = none := by
      rw [upd_ne npl.symm] at hl0
      exact same_none (same_new hr0) hl0
    have nrl : r ≠ l := fun z => by rw [← z, upd_ne npr.symm, upd_same] at hl0; cases hl0
    refine ⟨_, dx, _, by rw [upd_ne npl, upd_same], T.c_Keeper, T.n_Keeper_rulings, (Nat.le_of_ble_eq_true rfl), fun n hn0 => ?_⟩
    have npn : p ≠ n := fun z => by rw [← z, upd_same] at hn0; cases hn0
    have nrn : r ≠ n := fun z => by rw [← z, upd_ne npr.symm, upd_ne nrl, upd_ne npr.symm, upd_same] at hn0; cases hn0
    have nln : l ≠ n := fun z => by rw [← z, upd_ne npl.symm, upd_same] at hn0; cases hn0
    have hn1 : H n = none := by
      rw [upd_ne npn.symm, upd_ne nln.symm, upd_ne npn.symm, upd_ne nrn.symm] at hn0
      exact hn0
    refine ⟨_, dx, _, by rw [upd_ne npn, upd_same], T.c_Keeper, T.n_Keeper_news, (Nat.le_of_ble_eq_true rfl), q r l n _ hr0 hl1 hn1 ⟨?_, tree_nil ?_, ?_, .nil, ?_, fun _ _ => nrl⟩ fun a o na e => ?_⟩
    · rw [upd_same]
      rfl
    · rw [upd_ne npr.symm, upd_ne nrn, upd_ne npr.symm, upd_ne nrl, upd_ne npr.symm, upd_same]
    · rw [upd_ne npl.symm, upd_ne nln, upd_ne npl.symm, upd_same]
    · rw [upd_ne npn.symm, upd_same]
      rfl
    · rw [upd_ne na, upd_ne (fun z => by rw [z, hn1] at e; cases e), upd_ne na, upd_ne (fun z => by rw [z, hl1] at e; cases e), upd_ne na, upd_ne (fun z => by rw [z, hr0] at e; cases e)]
      exact e
def spKShun (LE' : List LE → Prop) (K : PySem.W.Frag) : Sp := fun vs H Q _ => ∃ p dx l n En al es kvs nw, vs = [.ref p] ∧ KeepG K p dx l n En al es kvs nw H ∧ SmallT En ∧ LE' es ∧
  ∀ D H', Same H H' → H D = none → H' D = some (.dK ((nowW (gathS es) En).map wbK)) → Q (.ref D) H'
theorem ok_Keeper_shunned_leaves (T : Txt K mg) : OkD P w K mg base 14 (mA K "Keeper" "shunned_leaves") ["self"] [] (spKShun LimE K) := by
  refine okD T.F_Keeper_shunned_leaves sc_Keeper_shunned_leaves (fun _ _ _ _ _ _ us hl => match us, hl with | [_], _ => rfl) ?_ ?_
  · rintro vs H Q E ⟨p, dx, l, n, En, al, es, kvs, nw, rfl, _⟩
    rfl
  · rintro cdv A outer s H vs Q E hr ⟨p, dx, l, n, En, al, es, kvs, nw, rfl, ks, sm, lim, q⟩
    refine ⟨_, (pss_cons (ps_set (i := 1) sc_Keeper_shunned_leaves.nd rfl (Or.inr rfl) (pe_mid (pe_cal (ok_gathered_g T) (hr.mono (by decide)) rfl T.g_gathered (pasE (takes_of rfl rfl rfl rfl) (fun _ _ _ _ h => h)) (pa_cons (pe_fldK (K := K) (pv 0) rfl) pa_nil))))
  (pss_one (ps_ret (pe_callTy (call_dictP rfl) (by rfl) T.fr_dict (by decide +kernel) (pa_cons (pe_mid (pe_lc (own := [("path", 2)]) (g := (gName 2)) rfl sc_Keeper_shunned_leaves.nd (pi_mid (o_it (K := K) rfl (pe_cal (ok_paths_of T) (hr.mono (by decide)) rfl T.g_paths_of (pasE (takes_of rfl rfl rfl rfl) (fun _ _ _ _ h => h)) (pa_cons (pe_fldK (K := K) (pv 0) rfl) pa_nil)))) (blkOk_by (N := N_Keeper_shunned_leaves) (sc := defScope TX.s_Keeper_shunned_leaves) (by decide +kernel)) (fun _ _ _ _ _ => (pg_name (i := 2) sc_Keeper_shunned_leaves.nd rfl (Or.inl rfl))) (fun _ _ _ _ _ => (pts_one (pt_mid (pt_not (pt_tru (K := K) (pe_bmK (K := K) PySem.F.plainAttrs_str PySem.F.slot_str_endswith PySem.F.type_str_endswith mo_endswith (pv 2) (pa_cons pe_str pa_nil)) (by intro _; rfl)))))) (fun _ _ _ _ _ => (pe_mid (pe_tup (pa_cons (pv 2) (pa_cons (pe_ix (o_ix (K := K)) (pe_cal (ok_told_g T) (hr.mono (by decide)) rfl T.g_told pasN (pa_cons (pv 1) (pa_cons (pv 2) pa_nil))) pe_int (fun _ _ => rfl)) pa_nil))))))) pa_nil))))), ?_⟩
    have tobj := T.obj
    refine q_midG (fun v H' => Same H H' ∧ ∃ R, v = .ref R ∧ ∃ us, H' R = some (.lst us) ∧ Each (RowV K) (gathS es) us H') ?_ ?_
    · walk_at "rdh"
      exact ⟨_, _, _, ks.obj, T.c_Keeper, T.n_Keeper_rulings, _, rfl, l, es, kvs, rfl, ks.dict, ks.rul, lim, fun F us H' s hF hF' each => ⟨s, F, rfl, us, hF', each⟩⟩
    rintro _ H1 ⟨s1, R, rfl, us, hR, each⟩
    have ks1 := ks.mono s1
    have limr := lim_gath lim
    walk_at "rdh"
    obtain ⟨PE, hPE, pPE⟩ := perm_unmap (srt_perm ((entsE En 10 []).map txtE)) _ rfl
    have lEn : (entsE En 10 []).length ≤ 1000 := by rw [(ents_perm ks.tree.ok).length_eq]; exact sm.len
    have lPE : PE.length ≤ 1000 := by rw [pPE.length_eq]; exact lEn
    have goodP : ∀ e ∈ PE, GoodP (txtE e) e.1 e.2 := fun e he => ent_good ks.tree.ok sm.nm (ents_mem ks.tree.ok (pPE.mem_iff.mp he)).1
    refine ⟨_, ?_, fun _ _ h => h⟩
    refine lc_open (fun J H' => ∃ G, J = Itl K G ∧ Same H1 H' ∧ H' G = some (.lst (nmsV (PE.map txtE)))) ?_ ?_
    · walk_at "rdh"
      refine ⟨_, _, _, ks1.obj, T.c_Keeper, T.n_Keeper_root, _, rfl, En, al, rfl, ks1.tree, sm.len, sm.kid, fun F H' s hF hF' => .inl ⟨⟨_, .inl (.inl hF')⟩, F, rfl, s, ?_⟩⟩
      rw [hF', show ([] : List Nat) = txtF [] from rfl, paths_ents, hPE]
    rintro _ H2 ⟨G, rfl, s2, hG⟩
    refine lc_midT (J0 := Itl K G) (H0 := H2) ⟨rfl, rfl⟩ (walk_list (K := K) (a := G) (xs := nmsV (PE.map txtE))) (by rw [nms_len, List.length_map]; omega) (fun k acc H' => Each (EKV (gathS es)) ((PE.take k).filter fun e => !e.2) acc H') (fun k acc Ha Hb e h => h.imp fun _ _ ⟨t, a, b⟩ => ⟨t, a, e _ _ b fun _ z => nomatch z⟩) .nil (fun H' s => .inl (.inl (s _ _ hG))) (fun _ _ _ _ y => y_at y) (fun _ => rfl) ?_ ?_
    · rintro k x acc H' H'' hk s' hc ⟨rfl, hx⟩
      obtain ⟨ft, hft, rfl⟩ := nms_at hx
      rw [List.getElem?_map] at hft
      obtain ⟨e, he, rfl⟩ := Option.map_eq_some_iff.mp hft
      have gp := goodP e (List.mem_of_getElem? he)
      have tk : (PE.take (k + 1)).filter (fun e => !e.2) = (PE.take k).filter (fun e => !e.2) ++ (if (!e.2) = true then [e] else []) := by
        rw [List.take_succ, he, List.filter_append]
        cases h : e.2 <;> simp [h]
      rw [tk]
      have sR := (s2.trans s') _ _ hR
      have each' : Each (RowV K) (gathS es) us H'' := each.imp fun _ _ d => d.mono (s2.trans s')
      walk_at "rdh"
      refine ⟨_, rfl, Same.refl _, ?_⟩
      rw [show Txt.endswith (S (txtE e)) (Str.ofString "/") = e.2 from gp.ends]
      cases hfo : e.2 with
      | true =>
        rw [if_neg (by simp), if_neg (by simp), List.append_nil]
        exact hc
      | false =>
        rw [if_pos rfl, if_pos rfl]
        rw [hfo] at gp
        refine ⟨R, txtE e, e.1, false, us, gathS es, rfl, gp, .inl (.inl sR), each', limr, fun p H' s hp => ?_⟩
        exact ⟨_, .inr (.inl (.inl hp)), _, rfl, fun t ht => ⟨s.trans (same_new ht), (hc.imp fun _ _ ⟨t', a, b⟩ => ⟨t', a, (s.trans (same_new ht)) _ _ b⟩).snoc ⟨t, rfl, by rw [upd_same, hfo]⟩⟩⟩
    intro M acc H3 hM s3 hM3 _ hacc
    rw [nms_len, List.length_map, List.take_of_length_le (Nat.le_refl _)] at hacc
    have hperm : (PE.filter fun e => !e.2).Perm (leafs En) := (pPE.trans (ents_perm ks.tree.ok)).filter _
    obtain ⟨ps, rfl, hps⟩ := ekv_pair (K := K) hacc
    refine ⟨M, rfl, ps, .inl (.inl hM3), _, hps, fun D hD => ?_⟩
    have hnd : (((PE.filter fun e => !e.2).map fun e => ((.inr (S (txtE e)) : Key), V.bl (shB (gathS es) e.1 e.2))).map (·.1)).Nodup := by
      rw [List.map_map]
      have h1 := txt_nd (pPE.nodup_iff.mpr (ents_nd ks.tree.ok 10 [])) goodP
      have h1 : ((PE.filter fun e => !e.2).map txtE).Nodup := h1.sublist ((List.filter_sublist (l := PE)).map _)
      have h3 : (((PE.filter fun e => !e.2).map txtE).map fun w => (Sum.inr (S w) : Key)).Nodup := List.pairwise_map.mpr (h1.imp fun h z => h (S_inj (Sum.inr.inj z)))
      rw [List.map_map] at h3
      exact h3
    have em := merge_nd (acc := []) hnd
    have s13 := (s1.trans s2).trans s3
    have hlw : leafW En = (PE.filter fun e => !e.2).map txtE := by
      refine srt_uniq (srt_pw _) ?_ ((srt_perm _).trans (hperm.symm.map _))
      have h1 := srt_pw ((entsE En 10 []).map txtE)
      rw [hPE] at h1
      exact h1.sublist (List.filter_sublist.map _)
    have hnow : (nowW (gathS es) En).map wbK = (PE.filter fun e => !e.2).map fun e => ((.inr (S (txtE e)) : Key), V.bl (shB (gathS es) e.1 e.2)) := by
      unfold nowW
      rw [hlw, List.map_map, List.map_map]
      refine List.map_congr_left fun e he => ?_
      have := (goodP e (List.mem_filter.mp he).1).path
      show wbK (txtE e, shT (gathS es) (txtE e)) = _
      unfold wbK shT
      rw [this]
    refine q D _ (s13.trans (same_new hD)) (same_none s13 hD) ?_
    rw [upd_same, em, List.nil_append, hnow]
section
variable {X : Cx}
theorem md_K_shunned_leaves (T : Txt K mg) (h1 : X.prog = P := by rfl) (h2 : X.w = w := by rfl) (h3 : X.K = K := by rfl) (h4 : X.mg = mg := by rfl) (h5 : X.base = base := by rfl) : MetD X 14 "shunned_leaves" (fun (_ : Unit) => KeepV K) (fun _ => spKShun LimE K) := by
  subst h1 h2 h3 h4 h5
  rintro _ x H ⟨p, dx, r, l, n, rfl, hp⟩
  exact ⟨p, _, dx, _, _, _, rfl, hp, T.c_Keeper, T.m_Keeper_shunned_leaves, rfl, (ok_Keeper_shunned_leaves T).mono (by decide)⟩
end
def spKComp (LE' : List LE → Prop) (K : PySem.W.Frag) : Sp := fun vs H Q _ => ∃ p dx l n En al es kvs nw D ah, vs = [.ref p, .ref D] ∧ KeepG K p dx l n En al es kvs nw H ∧ SmallT En ∧ LE' es ∧ H D = some (.dK (ah.map wbK)) ∧
  ∀ n' H', But p H H' → H n' = none → KeepG K p dx l n' En al es kvs (newsW ah (nowW (gathS es) En)) H' → Q .non H'
theorem now_keys {rs : List RF} {En : List (Names × Bool)} : (nowW rs En).map (·.1) = leafW En := by
  unfold nowW
  rw [List.map_map]
  exact List.map_id _
theorem now_get {rs : List RF} {En : List (Names × Bool)} {w : List Nat} (h : w ∈ leafW En) : (nowW rs En).find? (fun e => decide (e.1 = w)) = some (w, shT rs w) := by
  unfold nowW
  generalize leafW En = L at *
  induction L with
  | nil => cases h
  | cons x r ih =>
    rw [List.map_cons, List.find?_cons]
    by_cases e : x = w
    · subst e
      rw [decide_eq_true rfl]
    · rw [decide_eq_false e]
      exact ih ((List.mem_cons.mp h).elim (fun z => absurd z.symm e) id)
theorem leafW_len {En : List (Names × Bool)} : (leafW En).length = (leafs En).length := by
  unfold leafW
  rw [(srt_perm _).length_eq, List.length_map]
theorem keep_put {a b c y : V} : putF (Str.ofString "news") y [(Str.ofString "root", a), (Str.ofString "rulings", b), (Str.ofString "news", c)] = [(Str.ofString "root", a), (Str.ofString "rulings", b), (Str.ofString "news", y)] := rfl
theorem ok_Keeper_compared (T : Txt K mg) : OkD P w K mg base 15 (mA K "Keeper" "compared") ["self", "ahead"] [] (spKComp LimE K) := by
  refine okD T.F_Keeper_compared sc_Keeper_compared (fun _ _ _ _ _ _ us hl => match us, hl with | [_, _], _ => rfl) ?_ ?_
  · rintro vs H Q E ⟨p, dx, l, n, En, al, es, kvs, nw, D, ah, rfl, _⟩
    rfl
  · rintro cdv A outer s H vs Q E hr ⟨p, dx, l, n, En, al, es, kvs, nw, D, ah, rfl, ks, sm, lim, hD, q⟩
    refine ⟨_, (pss_cons (ps_set (i := 2) sc_Keeper_compared.nd rfl (Or.inr rfl) (pe_mid (pe_metI0 (md_K_shunned_leaves T) (pv 0) (hr.mono (by decide)) (pasE (takes_of rfl rfl rfl rfl) (fun _ _ _ _ h => h)))))
  (pss_one (ps_fld (pv 0) (pe_mid (pe_lc (own := [("path", 3)]) (g := (gName 3)) rfl sc_Keeper_compared.nd (pi_mid (o_it (K := K) rfl (pe_callB (call_sortedD rfl) (by rfl) T.fr_sorted (by decide +kernel) (pa_cons (pv 2) pa_nil)))) (blkOk_by (N := N_Keeper_compared) (sc := defScope TX.s_Keeper_compared) (by decide +kernel)) (fun _ _ _ _ _ => (pg_name (i := 3) sc_Keeper_compared.nd rfl (Or.inl rfl))) (fun _ _ _ _ _ => (pts_one (pt_mid (pt_cmpR (o_ne (K := K) (hu64 hr)) (pe_dget (hu_of hr) (pv 2) (pv 3) (fun _ _ => rfl)) (pe_dget2 (hu_of hr) (pv 1) (pv 3) pe_bl ⟨by rfl, by rfl, by rfl, by rfl⟩) (nomark _))))) (fun _ _ _ _ _ => (pe_mid (pv 3))))) rfl))), ?_⟩
    have tobj := T.obj
    refine q_midG (fun v H' => Same H H' ∧ ∃ M, v = .ref M ∧ H M = none ∧ H' M = some (.dK ((nowW (gathS es) En).map wbK))) ?_ ?_
    · walk_at "rdh"
      exact ⟨ks.v, (), p, dx, l, n, En, al, es, kvs, nw, rfl, ks, sm, lim, fun M H' s hM hM' => ⟨s, M, rfl, hM, hM'⟩⟩
    rintro _ H1 ⟨s1, M, rfl, hMn, hM⟩
    have ks1 := ks.mono s1
    have hD1 := s1 _ _ hD
    have hlen : (leafW En).length ≤ 63 := by rw [leafW_len]; exact sm.lf
    unfold sFld
    refine mid_of (fun v H' => Same H1 H' ∧ ∃ N, v = .ref N ∧ H1 N = none ∧ H' N = some (.lst (nmsV (newsW ah (nowW (gathS es) En))))) ?_ ?_
    · refine lc_open (fun J H' => ∃ G, J = Itl K G ∧ Same H1 H' ∧ H' G = some (.lst (nmsV (leafW En)))) ?_ ?_
      · walk_at "rdh"
        refine ⟨_, .inl hM, (leafW En).map S, ?_, by rw [List.length_map]; omega, fun ys F perm so hF => .inl ⟨⟨_, .inl (.inl upd_same)⟩, F, rfl, same_new hF, ?_⟩⟩
        · rw [wb_keys, now_keys, List.map_map]
          rfl
        · rw [upd_same]
          have e := sorted_is perm so
          rw [e, List.map_map]
          have : srtW (leafW En) = leafW En := srt_uniq (srt_pw _) (srt_pw _) (srt_perm _)
          rw [this]
          unfold nmsV
          rw [List.map_map]
      rintro _ H2 ⟨G, rfl, s2, hG⟩
      refine lc_midT (J0 := Itl K G) (H0 := H2) ⟨rfl, rfl⟩ (walk_list (K := K) (a := G) (xs := nmsV (leafW En))) (by rw [nms_len]; omega) (fun k acc H' => acc = nmsV (((leafW En).take k).filter fun w => getW (nowW (gathS es) En) w != getW ah w)) (fun k acc Ha Hb e h => h) rfl (fun H' s => .inl (.inl (s _ _ hG))) (fun _ _ _ _ y => y_at y) (fun _ => rfl) ?_ ?_
      · rintro k x acc H' H'' hk s' rfl ⟨rfl, hx⟩
        obtain ⟨wt, hwt, rfl⟩ := nms_at hx
        have hM' := (s2.trans s') _ _ hM
        have hD' := (s2.trans s') _ _ hD1
        have hmem : wt ∈ leafW En := List.mem_of_getElem? hwt
        rw [List.take_succ, hwt, List.filter_append]
        walk_at "rdh"
        have g1 := DGet.k (k := .inr (S wt)) hM'
        have g2 := DGet.k (k := .inr (S wt)) hD'
        rw [wb_val, now_get hmem] at g1
        rw [wb_val] at g2
        refine ⟨_, g1, .inl ⟨_, .inl hD'⟩, _, g2, ?_⟩
        have e2 : ((ah.find? fun e => decide (e.1 = wt)).map fun e => V.bl e.2).getD (V.bl false) = V.bl (getW ah wt) := by
          unfold getW
          cases ah.find? fun e => decide (e.1 = wt) <;> rfl
        rw [e2]
        have e1 : getW (nowW (gathS es) En) wt = shT (gathS es) wt := by
          unfold getW
          rw [now_get hmem]
        refine (show scal (V.bl (shT (gathS es) wt)) (V.bl (getW ah wt)) = true ∧ _ from ⟨rfl, ?_⟩)
        split
        · rename_i h
          have hq : ¬ shT (gathS es) wt = getW ah wt := fun z => h (by show V.bl _ = V.bl _; rw [z])
          simp [nmsV, e1, hq]
        · rename_i h
          have hq : shT (gathS es) wt = getW ah wt := V.bl.inj (Classical.not_not.mp h)
          simp [nmsV, e1, hq]
      intro N acc H3 hN s3 hN3 _ hacc
      rw [nms_len, List.take_of_length_le (Nat.le_refl _)] at hacc
      refine ⟨s2.trans s3, N, rfl, same_none s2 hN, ?_⟩
      rw [hN3, hacc]
      unfold newsW
      rw [now_keys]
    rintro _ H2 ⟨s2, N, rfl, hN, hN2⟩
    have ks2 := ks1.mono s2
    walk_at "rdh"
    refine ⟨_, _, _, ks2.obj, T.c_Keeper, T.n_Keeper_news, Nat.le_of_ble_eq_true rfl, ?_⟩
    rw [keep_put]
    have fr : Frm (· = p) H2 (upd H2 p (keepO K dx (al []) l N)) := Frm.upd (fun _ _ e _ => e) (.inl rfl)
    have ks3 : KeepG K p dx l N En al es kvs (newsW ah (nowW (gathS es) En)) (upd H2 p (keepO K dx (al []) l N)) := by
      have im : IM K H2 (upd H2 p (keepO K dx (al []) l N)) := fun a o e _ _ _ n4 => by
        rw [upd_ne (fun z => by rw [z, ks2.obj] at e; exact n4 _ _ _ _ (Option.some.inj e).symm)]
        exact e
      have nd : ∀ {a : Addr} {o : HO}, H2 a = some o → (∀ dx r l n, o ≠ keepO K dx r l n) → upd H2 p (keepO K dx (al []) l N) a = some o := fun {a o} e n4 => by
        rw [upd_ne (fun z => by rw [z, ks2.obj] at e; exact n4 _ _ _ _ (Option.some.inj e).symm)]
        exact e
      refine ⟨upd_same, ⟨ks2.tree.ok, fun q hq => nd (ks2.tree.at_ q hq) fun _ _ _ _ z => (nomatch z), ks2.tree.inj⟩, nd ks2.dict fun _ _ _ _ z => (nomatch z), ?_, nd hN2 fun _ _ _ _ z => (nomatch z), ks.sep⟩
      exact ks2.rul.frm (fun a us _ e => nd e fun _ _ _ _ z => (nomatch z)) fun _ _ d => d.im im
    exact q N _ (fun a o na e => by rw [upd_ne na]; exact (s1.trans s2) a o e) (same_none s1 hN) ks3
section
variable {X : Cx}
theorem md_K_compared (T : Txt K mg) (h1 : X.prog = P := by rfl) (h2 : X.w = w := by rfl) (h3 : X.K = K := by rfl) (h4 : X.mg = mg := by rfl) (h5 : X.base = base := by rfl) : MetD X 15 "compared" (fun (_ : Unit) => KeepV K) (fun _ => spKComp LimE K) := by
  subst h1 h2 h3 h4 h5
  rintro _ x H ⟨p, dx, r, l, n, rfl, hp⟩
  exact ⟨p, _, dx, _, _, _, rfl, hp, T.c_Keeper, T.m_Keeper_compared, rfl, (ok_Keeper_compared T).mono (by decide)⟩
end
/-! a path put -/
theorem putN_iff {E E' : List (Names × Bool)} {nms : Names} {fo : Bool} (ok : EOk E') (g : Grow E E' nms nms.length) (h : (nms, fo) ∈ E') (e : Names × Bool) : e ∈ E' ↔ e ∈ E ∨ (∃ i, 0 < i ∧ i < nms.length ∧ e = (nms.take i, true)) ∨ e = (nms, fo) := by
  refine ⟨fun he => ?_, fun he => ?_⟩
  · rcases g.new e he with h1 | ⟨i, h0, h1, h2, h3⟩
    · exact .inl h1
    · rcases Nat.lt_or_ge i nms.length with h4 | h4
      · exact .inr (.inl ⟨i, h0, h4, Prod.ext h2 (h3 h4)⟩)
      · refine .inr (.inr (Prod.ext (by rw [h2, List.take_of_length_le h4]) ?_))
        rw [List.take_of_length_le h4] at h2
        have he' : (nms, e.2) ∈ E' := by rw [← h2]; exact he
        exact e_uniq ok he' h
  · rcases he with h1 | ⟨i, h0, h1, rfl⟩ | rfl
    · exact g.sub _ h1
    · exact up_take ok h h0 h1
    · exact h
theorem q_expr {te : TE} {u : TS} {D : Ends} {σ : L2.St} {H : Hp} (C : Hp → Prop) (h : te σ H fun _ H1 => C H1) (k : ∀ H1, C H1 → u D σ H1) : tSeq (tDrop (tMid te)) u D σ H := ⟨fun _ H1 => C H1, h, fun _ H1 c => k H1 c⟩
theorem NewT.sub {H0 H1 : Hp} {E : List (Names × Bool)} {al : Names → Addr} (h : NewT H0 E al) (s : ∀ a, H0 a = none → H1 a = none) : NewT H1 E al := fun p hp => s _ (h p hp)
/-- a heap without what a tree stands at -/
noncomputable def cutH (S : Addr → Prop) (H : Hp) : Hp := fun a => @ite _ (S a) (Classical.propDecidable _) none (H a)
theorem cutH_same {S : Addr → Prop} {H H' : Hp} : Same (cutH S H) H' ↔ Frm S H H' := by
  refine ⟨fun h a o e n => h a o (by unfold cutH; rw [if_neg n]; exact e), fun h a o e => ?_⟩
  unfold cutH at e
  split at e
  · cases e
  · exact h a o e ‹_›
theorem cutH_at {S : Addr → Prop} {H : Hp} {a : Addr} (h : S a) : cutH S H a = none := by
  unfold cutH
  exact if_pos h
theorem cutH_none {S : Addr → Prop} {H : Hp} {a : Addr} : cutH S H a = none ↔ S a ∨ H a = none := by
  unfold cutH
  split
  · exact ⟨fun _ => .inl ‹_›, fun _ => rfl⟩
  · exact ⟨.inr, fun h => h.elim (fun z => absurd z ‹_›) id⟩
/-- where a tree stands -/
def fpT (E : List (Names × Bool)) (al : Names → Addr) : Addr → Prop := fun a => ∃ q, Fold E q ∧ a = al q
def spKPut (LE' : List LE → Prop) (K : PySem.W.Frag) : Sp := fun vs H Q E => ∃ p dx l n En al es kvs nw wd, vs = [.ref p, .str (S wd)] ∧ wd.length ≤ 1000000 ∧ KeepG K p dx l n En al es kvs nw H ∧ SmallT En ∧ LE' es ∧
  (pathN wd = none → ∀ H', Same H H' → E (.ref (fA K "NoPath")) none H') ∧
  ∀ nms fo, pathN wd = some (nms, fo) → nms.length ≤ 9 ∧ (∀ x ∈ nms, NmOk x) ∧ (¬ OkPut En nms fo → ∀ H', Same H H' → E (.ref (fA K "NoLeaf")) none H') ∧
    (OkPut En nms fo → (∀ E', EOk E' → Grow En E' nms nms.length → (nms, fo) ∈ E' → SmallT E') ∧
      ∀ E' al' n' H', Grow En E' nms nms.length → (nms, fo) ∈ E' → Frm (fpK p l En al) H H' → (∀ q, Fold E' q → fpT En al (al' q) ∨ H (al' q) = none) → al' [] = al [] → (fpT En al n' ∨ H n' = none) →
        KeepG K p dx l n' E' al' es kvs (newsW (nowW (gathS es) En) (nowW (gathS es) E')) H' → Q .non H')
/-- nothing in the way so far -/
structure OkUp (En : List (Names × Bool)) (nms : Names) (fo : Bool) (k : Nat) : Prop where
  way : ∀ i, 0 < i → i ≤ k → i < nms.length → (nms.take i, false) ∉ En
  last : k = nms.length → (nms, !fo) ∉ En
theorem OkUp.zero {En : List (Names × Bool)} {nms : Names} {fo : Bool} (h : nms ≠ []) : OkUp En nms fo 0 := ⟨fun i a b _ => by omega, fun e => absurd (List.eq_nil_of_length_eq_zero e.symm) h⟩
theorem OkUp.all {En : List (Names × Bool)} {nms : Names} {fo : Bool} (h : OkUp En nms fo nms.length) : OkPut En nms fo := ⟨fun i a b => h.way i a (Nat.le_of_lt b) b, h.last rfl⟩
/-- where one is: in a folder, or nowhere -/
def HereP (En : List (Names × Bool)) (al : Names → Addr) (nms : Names) (H0 : Hp) (k : Nat) (Y : Addr) (H : Hp) : Prop := (Fold En (nms.take k) ∧ Y = al (nms.take k)) ∨ (H0 Y = none ∧ H Y = some (.dK []) ∧ ∀ j, k < j → j ≤ nms.length → ∀ fo', (nms.take j, fo') ∉ En)
theorem HereP.mono {En : List (Names × Bool)} {al : Names → Addr} {nms : Names} {H0 H H' : Hp} {k : Nat} {Y : Addr} (h : HereP En al nms H0 k Y H) (s : Same H H') : HereP En al nms H0 k Y H' := h.imp id fun ⟨a, b, c⟩ => ⟨a, s _ _ b, c⟩
theorem ok_Keeper_put (T : Txt K mg) : OkD P w K mg base 16 (mA K "Keeper" "put") ["self", "path"] [] (spKPut LimE K) := by
  refine okD T.F_Keeper_put sc_Keeper_put (fun _ _ _ _ _ _ us hl => match us, hl with | [_, _], _ => rfl) ?_ ?_
  · rintro vs H Q E ⟨p, dx, l, n, En, al, es, kvs, nw, wd, rfl, _⟩
    rfl
  · rintro cdv A outer s H vs Q E hr ⟨p, dx, l, n, En, al, es, kvs, nw, wd, rfl, hwd, ks, sm, lim, q1, q2⟩
    refine ⟨_, (pss_cons (ps_asg (pe_mid (pe_cal (ok_names_of T) (hr.mono (by decide)) rfl T.g_names_of (pasE (takes_of rfl rfl rfl rfl) (fun _ _ _ _ h => h)) (pa_cons (pv 1) pa_nil))) (pg_tup rfl (pgs_cons (pg_name (i := 2) sc_Keeper_put.nd rfl (Or.inl rfl)) (pgs_cons (pg_name (i := 3) sc_Keeper_put.nd rfl (Or.inl rfl)) pgs_nil))))
  (pss_cons (ps_set (i := 4) sc_Keeper_put.nd rfl (Or.inl rfl) (pe_mid (pe_fldK (K := K) (pv 0) rfl)))
  (pss_cons (ps_mid (ps_for (passes_of rfl) rfl (pi_mid (o_enum (K := K) rfl T.fr_enumerate (pv 2))) (pg_tup rfl (pgs_cons (pg_name (i := 5) sc_Keeper_put.nd rfl (Or.inl rfl)) (pgs_cons (pg_name (i := 6) sc_Keeper_put.nd rfl (Or.inl rfl)) pgs_nil))) (pss_cons (ps_set (i := 7) sc_Keeper_put.nd rfl (Or.inl rfl) (pe_mid (pe_dget2 (hu_of hr) (pv 4) (pv 6) pe_dnewK ⟨by rfl, by rfl, by rfl, by rfl⟩)))
  (pss_cons (ps_if (pt_mid (PW.pt (pw_and (pt_cmp (pc_din (hu_of hr) (pv 6) (pv 4)) rfl) (pw_and1 (pt_cmpR (o_ne (K := K) (hu64 hr)) (pe_cmp (pc_isN (pv 7)) rfl) (pe_andK (K := K) (pe_cmpR (o_eq (K := K) (hu64 hr)) (pe_op (o_add (K := K)) (pv 5) pe_int) (pe_callB (o_lenW (K := K) (w := w)) (by rfl) T.fr_len boot_len (pa_cons (pv 2) pa_nil)) (nomark _)) (pe_one (pe_notK (K := K) (pv 3)))) (nomark _)))))) (pss_one (ps_raise rfl (takes_of rfl rfl rfl rfl) (pmk_own PySem.F.excBase_ValueError T.x_NoLeaf.1 T.g_NoLeaf T.x_NoLeaf.2.1 (raises_own T.x_NoLeaf.2.2.1 T.x_NoLeaf.2.2.2) rfl))) pss_nil)
  (pss_one (ps_set (i := 4) sc_Keeper_put.nd rfl (Or.inl rfl) (pe_mid (pe_ifExp (pt_cmp (pc_isN (pv 7)) rfl) pe_dnewK (pv 7)))))))))
  (pss_cons (ps_set (i := 8) sc_Keeper_put.nd rfl (Or.inl rfl) (pe_mid (pe_metI0 (md_K_shunned_leaves T) (pv 0) (hr.mono (by decide)) (pasE (takes_of rfl rfl rfl rfl) (fun _ _ _ _ h => h)))))
  (pss_cons (ps_set (i := 4) sc_Keeper_put.nd rfl (Or.inl rfl) (pe_mid (pe_fldK (K := K) (pv 0) rfl)))
  (pss_cons (ps_mid (ps_for (passes_of rfl) rfl (pi_mid (o_it (K := K) rfl (pe_slice (o_sl (K := K)) (pv 2) po_none (po_some (pe_un un_neg pe_int))))) (pg_name (i := 6) sc_Keeper_put.nd rfl (Or.inl rfl)) (pss_one (ps_set (i := 4) sc_Keeper_put.nd rfl (Or.inl rfl) (pe_mid (pe_dsetd (pv 4) (pv 6) pe_dnewK ⟨by rfl, by rfl, by rfl, by rfl⟩))))))
  (pss_cons (ps_expr (pe_mid (pe_dsetd (pv 4) (pe_ix (o_ix (K := K)) (pv 2) (pe_un un_neg pe_int) (fun _ _ => rfl)) (pe_ifExp (pt_tru (K := K) (pv 3) (by intro _; rfl)) pe_dnewK pe_non) ⟨by rfl, by rfl, by rfl, by rfl⟩)))
  (pss_one (ps_expr (pe_metI (md_K_compared T) (pv 0) (hr.mono (by decide)) (pasE (takes_of rfl rfl rfl rfl) (fun _ _ _ _ h => h)) (pa_cons (pv 8) pa_nil))))))))))), ?_⟩
    have tobj := T.obj
    have ok := ks.tree.ok
    refine q_pair (fun x y H' => Same H H' ∧ ∃ F fo, x = .ref F ∧ y = .bl fo ∧ H F = none ∧ ∃ nms, H' F = some (.lst (nmsV nms)) ∧ pathN wd = some (nms, fo)) ?_ ?_
    · walk_at "rd"
      refine ⟨wd, rfl, hwd, fun ns fo F' F H' e s hp hF hFn => ?_, fun e H' s => q1 e H' s⟩
      exact ⟨F', rfl, _, _, .inl (.inl hp), s, F, rfl, fo, rfl, hFn, ns, hF, e⟩
    rintro _ _ H1 ⟨s1, F, fo, rfl, rfl, hFn, nms, hF, hpath⟩
    obtain ⟨hl9, hnm, q3, q4⟩ := q2 nms fo hpath
    have hne := pathN_ne hpath
    have hlen := List.length_pos_iff.mpr hne
    have ks1 := ks.mono s1
    refine q_midG (fun v H' => H' = H1 ∧ v = .ref (al [])) ?_ ?_
    · walk_at "rdh"
      exact ⟨_, _, _, ks1.obj, T.c_Keeper, T.n_Keeper_root, _, rfl, rfl⟩
    rintro _ _ ⟨rfl, rfl⟩
    rename_i H1
    refine q_stm (fun σ H' => Same H1 H' ∧ OkPut En nms fo ∧ ∃ x4 x5 x6 x7 x8, σ = [some (.ref p), some (.str (S wd)), some (.ref F), some (.bl fo), x4, x5, x6, x7, x8]) ?_ ?_
    · refine for_pair (J0 := Ite K F) (H0 := H1) ?_ (walk_enum (K := K) (a := F) (xs := nmsV nms)) (fun k σ H' => Same H1 H' ∧ OkUp En nms fo k ∧ ∃ Y, HereP En al nms H1 k Y H' ∧ ∃ x5 x6 x7 x8, σ = [some (.ref p), some (.str (S wd)), some (.ref F), some (.bl fo), some (.ref Y), x5, x6, x7, x8])
        ⟨Same.refl _, .zero hne, al [], .inl ⟨.inl rfl, rfl⟩, _, _, _, _, rfl⟩ (fun _ _ _ _ h => .inl (.inl (h.1 _ _ hF))) ?_ (fun σ H' h => ?_)
      · walk_at "rd"
        exact ⟨_, .inl (.inl hF)⟩
      · rintro k x y σ H2 H3 hk ⟨s2, up, Y, here, x5, x6, x7, x8, rfl⟩ s23 hx hy
        obtain rfl : x = .int (k : Nat) := (Option.some.inj hx).symm
        obtain ⟨nm, hnm1, rfl⟩ := nms_at hy
        have hkl : k < nms.length := (List.getElem?_eq_some_iff.mp hnm1).1
        have tk : nms.take (k + 1) = nms.take k ++ [nm] := by rw [List.take_succ, hnm1]; rfl
        have s3 := s2.trans s23
        have here3 := here.mono s23
        have hF3 := s3 _ _ hF
        -- what stands at the name
        have look : ∃ kvs o, H3 Y = some (.dK kvs) ∧ valV kvs (.inr (S nm)) = o ∧ ((o = none ∧ (∀ fo', (nms.take (k + 1), fo') ∉ En)) ∨ (o = some .non ∧ Fold En (nms.take k) ∧ (nms.take (k + 1), false) ∈ En) ∨ (o = some (.ref (al (nms.take (k + 1)))) ∧ (nms.take (k + 1), true) ∈ En)) := by
          rcases here3 with ⟨hf, rfl⟩ | ⟨_, hY, hno⟩
          · refine ⟨_, _, s3 _ _ (ks1.tree.at_ _ hf), rfl, ?_⟩
            by_cases he : ∃ fo', (nms.take (k + 1), fo') ∈ En
            · obtain ⟨fo', he⟩ := he
              rw [tk] at he
              rw [kid_val ok he, tk]
              cases fo' with
              | true => exact .inr (.inr ⟨rfl, he⟩)
              | false => exact .inr (.inl ⟨rfl, hf, he⟩)
            · refine .inl ⟨?_, fun fo' h => he ⟨fo', h⟩⟩
              exact kid_no ok fun fo' h => he ⟨fo', by rw [tk]; exact h⟩
          · exact ⟨[], none, hY, rfl, .inl ⟨rfl, fun fo' => hno (k + 1) (by omega) (by omega) fo'⟩⟩
        obtain ⟨kvs1, o, hY3, ho, hcase⟩ := look
        refine q_midG (fun v H' => Same H3 H' ∧ ∃ D, H3 D = none ∧ H' D = some (.dK []) ∧ v = o.getD (.ref D)) ?_ ?_
        · walk_at "rd"
          refine ⟨.inl ⟨_, .inl hY3⟩, fun D hD => ⟨o, ?_, same_new hD, D, hD, upd_same, rfl⟩⟩
          have hY4 : upd H3 D (.dK []) Y = some (.dK kvs1) := same_new hD _ _ hY3
          have g := DGet.k (k := .inr (S nm)) hY4
          rw [ho] at g
          exact g
        rintro v H4 ⟨s34, D, hDn, hD, rfl⟩
        have s4 := s3.trans s34
        have hY4 := s34 _ _ hY3
        have hF4 := s4 _ _ hF
        have hD1 : H1 D = none := same_none s3 hDn
        refine q_if (fun b H' => Same H4 H' ∧ b = (o.isSome && (decide (o = some .non) != (decide (k + 1 = nms.length) && !fo)))) ?_ (fun H5 h => ?_) fun H5 h => q_next ?_
        · have lF : LenV K (.ref F) H4 (nmsV nms).length := .inl ⟨_, .inl (.inl hF4), rfl⟩
          have e1 : (((k : Int) + 1 = (nms.length : Int)) : Prop) = (k + 1 = nms.length) := propext ⟨fun h => by omega, fun h => by omega⟩
          rcases hcase with ⟨rfl, hno⟩ | ⟨rfl, hf, he⟩ | ⟨rfl, he⟩
          · walk_at "rd"
            refine ⟨none, ?_, ?_⟩
            · have g := DGet.k (k := .inr (S nm)) hY4
              rw [ho] at g
              exact g
            · rw [if_neg (by simp)]
              simp
          · walk_at "rd"
            refine ⟨some .non, ?_, ?_⟩
            · have g := DGet.k (k := .inr (S nm)) hY4
              rw [ho] at g
              exact g
            · refine ite2 (fun _ => ?_) (fun h => absurd rfl h)
              refine .inr ⟨_, lF, ?_⟩
              rw [nms_len]
              by_cases hk1 : k + 1 = nms.length
              · rw [if_pos (show (k : Int) + 1 = (nms.length : Int) from by omega)]
                cases fo <;> simp [hk1]
              · have : ¬ ((k : Int) + 1 = (nms.length : Int)) := by omega
                rw [if_neg this]
                simp [hk1, this]
          · walk_at "rd"
            refine ⟨some (.ref (al (nms.take (k + 1)))), ?_, ?_⟩
            · have g := DGet.k (k := .inr (S nm)) hY4
              rw [ho] at g
              exact g
            · refine ite2 (fun _ => ?_) (fun h => absurd rfl h)
              refine .inr ⟨_, lF, ?_⟩
              rw [nms_len]
              by_cases hk1 : k + 1 = nms.length
              · rw [if_pos (show (k : Int) + 1 = (nms.length : Int) from by omega)]
                cases fo <;> simp [hk1]
              · have : ¬ ((k : Int) + 1 = (nms.length : Int)) := by omega
                rw [if_neg this]
                simp [hk1, this]
        · obtain ⟨s5, hb⟩ := h
          refine q3 (fun g => ?_) _ ((s1.trans s4).trans s5)
          rcases hcase with ⟨rfl, hno⟩ | ⟨rfl, hf, he⟩ | ⟨rfl, he⟩
          · simp at hb
          · by_cases hk1 : k + 1 = nms.length
            · have : fo = true := by simpa [hk1] using hb
              subst this
              rw [List.take_of_length_le (by omega)] at he
              exact g.2 he
            · exact g.1 (k + 1) (by omega) (by omega) he
          · have hb' : k + 1 = nms.length ∧ fo = false := by simpa using hb
            rw [List.take_of_length_le (by omega)] at he
            rw [hb'.2] at g
            exact g.2 he
        · obtain ⟨s5, hb⟩ := h
          have upk : OkUp En nms fo (k + 1) := by
            refine ⟨fun i h0 hi hl => ?_, fun e he' => ?_⟩
            · rcases Nat.lt_or_ge i (k + 1) with h1 | h1
              · exact up.way i h0 (by omega) hl
              · obtain rfl : i = k + 1 := by omega
                intro he'
                rcases hcase with ⟨rfl, hno⟩ | ⟨rfl, hf, he⟩ | ⟨rfl, he⟩
                · exact hno _ he'
                · have : ¬ k + 1 = nms.length := by omega
                  simp [this] at hb
                · exact Bool.noConfusion (e_uniq ok he he')
            · rw [← List.take_of_length_le (l := nms) (i := k + 1) (by omega)] at he'
              rcases hcase with ⟨rfl, hno⟩ | ⟨rfl, hf, he⟩ | ⟨rfl, he⟩
              · exact hno _ he'
              · have h1 : fo = false := by simpa [e] using hb
                rw [h1] at he'
                exact Bool.noConfusion (e_uniq ok he he')
              · have h1 : fo = true := by simpa [e] using hb
                rw [h1] at he'
                exact Bool.noConfusion (e_uniq ok he he')
          refine l_midG (fun v H' => Same H5 H' ∧ ∃ Y', v = .ref Y' ∧ HereP En al nms H1 (k + 1) Y' H') ?_ ?_
          · rcases hcase with ⟨rfl, hno⟩ | ⟨rfl, hf, he⟩ | ⟨rfl, he⟩
            · walk_at "rd"
              rw [if_neg (fun z => by cases z)]
              refine ⟨D, rfl, .inr ⟨hD1, s5 _ _ hD, fun j hj hl fo' h => ?_⟩⟩
              have h2 : (nms.take (k + 1), true) ∈ En ∨ ∃ b, (nms.take (k + 1), b) ∈ En := by
                rcases Nat.lt_or_ge (k + 1) j with h3 | h3
                · have := up_take ok h (i := k + 1) (by omega) (by rw [List.length_take]; omega)
                  rw [List.take_take, Nat.min_eq_left (by omega)] at this
                  exact .inl this
                · rw [show j = k + 1 from by omega] at h
                  exact .inr ⟨_, h⟩
              exact h2.elim (hno _) fun ⟨b, h⟩ => hno _ h
            · walk_at "rd"
              refine ite2 (fun _ => ?_) (fun h => absurd rfl h)
              intro D' hD'
              have hk1 : k + 1 = nms.length := by
                have := hb
                simp at this
                exact this.1
              exact ⟨same_new hD', .inr ⟨same_none (s4.trans s5) hD', upd_same, fun j hj hl => by omega⟩⟩
            · walk_at "rd"
              rw [if_neg (fun z => by cases z)]
              exact ⟨_, rfl, .inl ⟨.inr he, rfl⟩⟩
          rintro _ H6 ⟨s6, Y', rfl, here6⟩
          exact ⟨(s4.trans s5).trans s6, upk, Y', here6, _, _, _, _, rfl⟩
      · obtain ⟨s2, up, Y, _, x5, x6, x7, x8, rfl⟩ := h
        rw [nms_len] at up
        exact ⟨s2, up.all, _, _, _, _, _, rfl⟩
    rintro σ H2 ⟨s2, hok, x4, x5, x6, x7, x8, rfl⟩
    obtain ⟨q5, q6⟩ := q4 hok
    have ks2 := ks1.mono s2
    have hF2 := s2 _ _ hF
    refine q_midG (fun v H' => Same H2 H' ∧ ∃ M, v = .ref M ∧ H2 M = none ∧ H' M = some (.dK ((nowW (gathS es) En).map wbK))) ?_ ?_
    · walk_at "rdh"
      exact ⟨ks2.v, (), p, dx, l, n, En, al, es, kvs, nw, rfl, ks2, sm, lim, fun M H' s hM hM' => ⟨s, M, rfl, hM, hM'⟩⟩
    rintro _ H3 ⟨s3, M, rfl, hMn, hM⟩
    have ks3 := ks2.mono s3
    refine q_midG (fun v H' => H' = H3 ∧ v = .ref (al [])) ?_ ?_
    · walk_at "rdh"
      exact ⟨_, _, _, ks3.obj, T.c_Keeper, T.n_Keeper_root, _, rfl, rfl⟩
    rintro _ _ ⟨rfl, rfl⟩
    rename_i H3
    have hF3 := s3 _ _ hF2
    have nT : ∀ {a : Addr} {o : HO}, H3 a = some o → (∀ ks, o ≠ .dK ks) → ¬ fpT En al a := fun {a o} e n ⟨q, hq, ea⟩ => by
      rw [ea, ks3.tree.at_ q hq] at e
      exact n _ (Option.some.inj e).symm
    have hlast : nms[nms.length - 1]? = some (nms.getLastD []) := by
      rw [← List.getLast?_eq_getElem?, List.getLastD_eq_getLast?]
      cases h : nms.getLast? with
      | none => exact absurd (List.getLast?_eq_none_iff.mp h) hne
      | some x => rfl
    generalize hH0 : cutH (fpT En al) H3 = H0
    have frm : ∀ {H' : Hp}, Same H0 H' → Frm (fpT En al) H3 H' := fun {H'} s => cutH_same.mp (by rw [hH0]; exact s)
    have s03 : Same H0 H3 := by rw [← hH0]; exact cutH_same.mpr fun _ _ e _ => e
    have new0 : NewT H0 En al := fun q hq => by rw [← hH0]; exact cutH_at ⟨q, hq, rfl⟩
    have kl : ∀ {E' : List (Names × Bool)} {al' : Names → Addr} {j : Nat} {q : Names}, Grow En E' nms j → (kids E' al' q).length ≤ 1001 := fun {E' al' j q} g1 => by
      have h1 := congrArg List.length (kids_keys (E := E') (al := al') (p := q))
      rw [List.length_map, List.length_map] at h1
      have h2 := g1.kid q
      have h3 := sm.kid q
      split at h2 <;> omega
    refine q_stm (fun σ H' => Same H0 H' ∧ ∃ E' al' x6, σ = [some (.ref p), some (.str (S wd)), some (.ref F), some (.bl fo), some (.ref (al' (nms.take (nms.length - 1)))), x5, x6, x7, some (.ref M)] ∧ NewT H0 E' al' ∧ TreeE E' al' H' ∧ al' [] = al [] ∧ Fold E' (nms.take (nms.length - 1)) ∧ Grow En E' nms (nms.length - 1)) ?_ ?_
    · refine for_open (fun J H4 => ∃ L, J = Itl K L ∧ H3 L = none ∧ H4 = upd H3 L (.lst (nmsV (nms.take (nms.length - 1))))) ?_ ?_
      · walk_at "rd"
        refine .inl ⟨_, .inl (.inl hF3), fun L hL => .inl ⟨⟨_, .inl (.inl upd_same)⟩, L, rfl, hL, ?_⟩⟩
        have e : cutV (nmsV nms) none (some (-1)) = nmsV (nms.take (nms.length - 1)) := by
          unfold cutV
          have e : HT.sIx (nmsV nms).length (nmsV nms).length (some (-1)) = nms.length - 1 := by
            rw [nms_len]
            unfold HT.sIx
            simp
            omega
          rw [HT.sIx_none, e, List.drop_zero, Nat.sub_zero, nms_take]
        rw [e]
      rintro _ _ ⟨L, rfl, hLn, rfl⟩
      have sL : Same H3 (upd H3 L (.lst (nmsV (nms.take (nms.length - 1))))) := same_new hLn
      refine for_mid (J0 := Itl K L) (H0 := upd H3 L (.lst (nmsV (nms.take (nms.length - 1))))) ⟨rfl, rfl⟩ (walk_list (K := K) (a := L) (xs := nmsV (nms.take (nms.length - 1)))) (fun k σ H' => Same H0 H' ∧ H' L = some (.lst (nmsV (nms.take (nms.length - 1)))) ∧ ∃ E' al' x6, σ = [some (.ref p), some (.str (S wd)), some (.ref F), some (.bl fo), some (.ref (al' (nms.take k))), x5, x6, x7, some (.ref M)] ∧ NewT H0 E' al' ∧ TreeE E' al' H' ∧ al' [] = al [] ∧ Fold E' (nms.take k) ∧ Grow En E' nms k)
        ⟨s03.trans sL, upd_same, En, al, _, rfl, new0, ks3.tree.mono sL, rfl, .inl rfl, .refl⟩ (fun _ _ _ _ h => .inl (.inl h.2.1)) ?_ (fun σ H' h => ?_)
      · rintro k x σ H4 H4' hk ⟨s4, hL4, E', al', x6, rfl, new1, t1, e1, f1, g1⟩ ⟨rfl, hx⟩
        obtain ⟨nm, hnm0, rfl⟩ := nms_at hx
        have hk1 : k + 1 < nms.length := by
          rw [nms_len, List.length_take] at hk
          omega
        have hnm1 : nms[k]? = some nm := by rwa [List.getElem?_take_of_lt (by omega)] at hnm0
        have tk : nms.take (k + 1) = nms.take k ++ [nm] := by rw [List.take_succ, hnm1]; rfl
        have okp : ∀ x ∈ nms.take k, NmOk x := fun x h => hnm x (List.mem_of_mem_take h)
        have okn : NmOk nm := hnm nm (List.mem_of_getElem? hnm1)
        have hd := t1.at_ _ f1
        have ok1 := t1.ok
        have lk : (nms.take k).length < 9 := by rw [List.length_take]; omega
        have kl1 := kl (al' := al') (q := nms.take k) g1
        refine l_midG (fun v H' => Same H0 H' ∧ H' L = some (.lst (nmsV (nms.take (nms.length - 1)))) ∧ ∃ E' al', v = .ref (al' (nms.take (k + 1))) ∧ NewT H0 E' al' ∧ TreeE E' al' H' ∧ al' [] = al [] ∧ Fold E' (nms.take (k + 1)) ∧ Grow En E' nms (k + 1)) ?_ ?_
        · unfold tDSetd
          walk_at "rd"
          refine ⟨.inl ⟨_, .inl hd⟩, fun D hD => ?_⟩
          have hD0 := same_none s4 hD
          have sD := same_new (o := .dK []) hD
          refine ⟨_, sD _ _ hd, .inr (S nm), rfl, by omega, fun v hv => ?_, fun hv => ?_⟩
          · have hin : ∃ fo', (nms.take k ++ [nm], fo') ∈ E' := by
              refine Classical.byContradiction fun hno => ?_
              rw [kid_no ok1 fun fo' h => hno ⟨fo', h⟩] at hv
              cases hv
            obtain ⟨fo', he⟩ := hin
            have hfo : fo' = true := by
              rcases g1.new _ he with h | ⟨i, _, hi, e, _⟩
              · cases fo' with
                | true => rfl
                | false => rw [← tk] at h; exact absurd h (hok.1 (k + 1) (by omega) hk1)
              · have := congrArg List.length e
                rw [List.length_append, List.length_take, List.length_take, List.length_singleton] at this
                omega
            subst hfo
            rw [kid_val ok1 he] at hv
            refine ⟨s4.trans sD, sD _ _ hL4, E', al', ?_, new1, t1.mono sD, e1, by rw [tk]; exact .inr he, g1.same⟩
            rw [tk]
            exact (Option.some.inj hv).symm
          · have hno : ∀ fo', (nms.take k ++ [nm], fo') ∉ E' := fun fo' h => by
              rw [kid_val ok1 h] at hv
              cases hv
            have nn : ∀ {a : Addr} {l : List V}, H4' a = some (.lst l) → upd (upd H4' D (.dK [])) (al' (nms.take k)) (.dK (putK (kids E' al' (nms.take k)) (.inr (S nm)) (.ref D))) a = some (.lst l) := fun {a l} h => by
              rw [upd_ne (fun e => by rw [e, hd] at h; cases h), upd_ne (fun e => by rw [e, hD] at h; cases h)]
              exact h
            refine ⟨same_mut (same_mut s4 hD0) (new1 _ f1), nn hL4, _, upA al' (nms.take k ++ [nm]) D, ?_, new1.dir hD0, tree_dir t1 f1 hno okp okn lk hD, ?_, by rw [tk]; exact .inr (by simp), g1.snoc hnm1 fun _ => rfl⟩
            · rw [tk]
              exact (if_pos rfl).symm
            · rw [← e1]
              exact if_neg fun e => by simp at e
        rintro _ H5 ⟨s5, hL5, E2, al2, rfl, new2, t2, e2, f2, g2⟩
        exact ⟨s5, hL5, E2, al2, _, rfl, new2, t2, e2, f2, g2⟩
      · obtain ⟨s4, hL4, E', al', x6, rfl, new1, t1, e1, f1, g1⟩ := h
        rw [nms_len, List.length_take, Nat.min_eq_left (Nat.sub_le _ _)] at f1 g1
        rw [nms_len, List.length_take, Nat.min_eq_left (Nat.sub_le _ _)]
        exact ⟨s4, E', al', x6, rfl, new1, t1, e1, f1, g1⟩
    rintro σ H4 ⟨s4, E', al', x6, rfl, new1, t1, e1, f1, g1⟩
    have el : nms = nms.take (nms.length - 1) ++ [nms.getLastD []] := by
      conv => lhs; rw [drop_last hne]
      rw [List.dropLast_eq_take]
    generalize hlst : nms.getLastD [] = nm at el hlast
    have hat : atI (nmsV nms) (-1) = some (V.str (S nm)) := atI_last (by
      unfold nmsV
      rw [List.getLast?_map, List.getLast?_map, List.getLast?_eq_getElem?, hlast]
      rfl)
    have okp : ∀ x ∈ nms.take (nms.length - 1), NmOk x := fun x h => hnm x (List.mem_of_mem_take h)
    have okn : NmOk nm := hnm nm (List.mem_of_getElem? hlast)
    have hd := t1.at_ _ f1
    have ok1 := t1.ok
    have lk : (nms.take (nms.length - 1)).length < 9 := by rw [List.length_take]; omega
    have kl1 := kl (al' := al') (q := nms.take (nms.length - 1)) g1
    have tk : nms.take (nms.length - 1) ++ [nm] = nms := el.symm
    have g2 : ∀ fo', Grow En (E' ++ [(nms.take (nms.length - 1) ++ [nm], fo')]) nms nms.length := fun fo' => by
      have := g1.snoc (fo := fo') hlast (by omega)
      rwa [Nat.sub_add_cancel hlen] at this
    have hF4 := frm s4 _ _ hF3 (nT hF3 fun _ z => nomatch z)
    refine q_expr (fun H' => Same H0 H' ∧ ∃ E' al', NewT H0 E' al' ∧ TreeE E' al' H' ∧ al' [] = al [] ∧ Grow En E' nms nms.length ∧ (nms, fo) ∈ E') ?_ ?_
    · unfold tDSetd
      walk_at "rd"
      refine ⟨.inl ⟨_, .inl hd⟩, _, .inl (.inl (.inl hF4)), _, hat, ?_⟩
      have there : ∀ {al'' : Names → Addr} {v : V}, valV (kids E' al'' (nms.take (nms.length - 1))) (.inr (S nm)) = some v → (nms, fo) ∈ E' := fun {al'' v} hv => by
        have hin : ∃ fo', (nms.take (nms.length - 1) ++ [nm], fo') ∈ E' := by
          refine Classical.byContradiction fun hno => ?_
          rw [kid_no ok1 fun fo' h => hno ⟨fo', h⟩] at hv
          cases hv
        obtain ⟨fo', he⟩ := hin
        have hfo : fo' = fo := by
          rcases g1.new _ he with h | ⟨i, _, hi, e, _⟩
          · rw [tk] at h
            have := hok.2
            cases fo <;> cases fo' <;> first | rfl | exact absurd h this
          · have := congrArg List.length (tk.symm.trans e)
            rw [List.length_take] at this
            omega
        rw [tk, hfo] at he
        exact he
      have gs : Grow En E' nms nms.length := by
        have := g1.same
        rwa [Nat.sub_add_cancel hlen] at this
      have nothere : ∀ {al'' : Names → Addr}, valV (kids E' al'' (nms.take (nms.length - 1))) (.inr (S nm)) = none → ∀ fo', (nms.take (nms.length - 1) ++ [nm], fo') ∉ E' := fun {al''} hv fo' h => by
        rw [kid_val ok1 h] at hv
        cases hv
      refine ite2 (fun hfo => fun D hD => ?_) fun hfo => ?_
      · have hD0 := same_none s4 hD
        have sD := same_new (o := .dK []) hD
        refine ⟨_, sD _ _ hd, .inr (S nm), rfl, by omega, fun v hv => ⟨s4.trans sD, E', al', new1, t1.mono sD, e1, gs, there hv⟩, fun hv => ?_⟩
        refine ⟨same_mut (same_mut s4 hD0) (new1 _ f1), _, upA al' (nms.take (nms.length - 1) ++ [nm]) D, new1.dir hD0, tree_dir t1 f1 (nothere hv) okp okn lk hD, ?_, g2 true, by rw [tk, hfo]; simp⟩
        rw [← e1]
        exact if_neg fun e => by simp at e
      · have hfo : fo = false := by simpa using hfo
        refine ⟨_, hd, .inr (S nm), rfl, by omega, fun v hv => ⟨s4, E', al', new1, t1, e1, gs, there hv⟩, fun hv => ?_⟩
        exact ⟨same_mut s4 (new1 _ f1), _, al', new1.leaf, tree_leaf t1 f1 (nothere hv) okp okn lk, e1, g2 false, by rw [tk, hfo]; simp⟩
    rintro H5 ⟨s5, E2, al2, new2, t2, e2, g3, hin⟩
    have fr := frm s5
    have frK : Frm (fpK p l En al) H3 H5 := fr.sub fun a ⟨q, hq, e⟩ => .inl (.inr (.inr ⟨q, hq, e⟩))
    have im := ks3.im frK
    have nL : ∀ {a : Addr} {us : List V}, H3 a = some (.lst us) → H5 a = some (.lst us) := fun {a us} e => fr _ _ e (nT e fun _ z => nomatch z)
    have sep2 : ∀ q, Fold E2 q → al2 q ≠ l := fun q hq z => by
      have h1 := new2 q hq
      rw [← hH0, cutH_none] at h1
      rcases h1 with ⟨q0, h0, e0⟩ | h1
      · exact ks.sep q0 h0 (by rw [← e0, z])
      · rw [z, ks3.dict] at h1
        cases h1
    have nl : ¬ fpT En al l := fun ⟨q, hq, e⟩ => ks.sep q hq e.symm
    have ks5 : KeepG K p dx l n E2 al2 es kvs nw H5 := by
      refine ⟨?_, t2, fr _ _ ks3.dict nl, ?_, nL ks3.news, sep2⟩
      · rw [e2]
        exact fr _ _ ks3.obj (nT ks3.obj fun _ z => nomatch z)
      · exact ks3.rul.frm (fun a us _ e => nL e) fun _ _ d => d.im im
    have hM5 : H5 M = some (.dK ((nowW (gathS es) En).map wbK)) := fr _ _ hM fun ⟨q, hq, e⟩ => by
      rw [e] at hMn
      have := ks2.tree.at_ q hq
      rw [hMn] at this
      cases this
    have sm2 := q5 E2 t2.ok g3 hin
    walk_at "rd"
    refine ⟨ks5.v, (), p, dx, l, n, E2, al2, es, kvs, nw, M, _, rfl, ks5, sm2, lim, hM5, fun n' H6 b6 hn' ks6 => ?_⟩
    have s13 := (s1.trans s2).trans s3
    have fnone : ∀ {a : Addr}, H5 a = none → fpT En al a ∨ H a = none := fun {a} e => by
      by_cases ha : fpT En al a
      · exact .inl ha
      · exact .inr (same_none s13 (fr.none e ha))
    refine q6 E2 al2 n' H6 g3 hin ?_ (fun q hq => ?_) e2 (fnone hn') ks6
    · have f1 : Frm (fpK p l En al) H H5 := (Frm.of s13).trans frK
      exact f1.trans fun a o e ha => b6 a o (fun z => ha (.inl z)) e
    · have h1 := new2 q hq
      rw [← hH0, cutH_none] at h1
      exact h1.imp id fun h => same_none s13 h
section
variable {X : Cx}
theorem md_K_put (T : Txt K mg) (h1 : X.prog = P := by rfl) (h2 : X.w = w := by rfl) (h3 : X.K = K := by rfl) (h4 : X.mg = mg := by rfl) (h5 : X.base = base := by rfl) : MetD X 16 "put" (fun (_ : Unit) => KeepV K) (fun _ => spKPut LimE K) := by
  subst h1 h2 h3 h4 h5
  rintro _ x H ⟨p, dx, r, l, n, rfl, hp⟩
  exact ⟨p, _, dx, _, _, _, rfl, hp, T.c_Keeper, T.m_Keeper_put, rfl, (ok_Keeper_put T).mono (by decide)⟩
end
/-! a path taken -/
def takeE (E : List (Names × Bool)) (nms : Names) : List (Names × Bool) := E.filter fun e => !preB nms e.1
theorem preB_iff {p q : Names} : preB p q = true ↔ p <+: q := List.isPrefixOf_iff_prefix
theorem takeE_mem {E : List (Names × Bool)} {nms : Names} {e : Names × Bool} : e ∈ takeE E nms ↔ e ∈ E ∧ ¬ nms <+: e.1 := by
  unfold takeE
  rw [List.mem_filter, ← preB_iff]
  simp
theorem takeE_ok {E : List (Names × Bool)} (ok : EOk E) (nms : Names) : EOk (takeE E nms) := by
  refine ⟨ok.nd.sublist ((List.filter_sublist (l := E)).map _), fun e he => ok.ne e (takeE_mem.mp he).1, fun e he => ?_, fun e he => ok.nm e (takeE_mem.mp he).1, fun e he => ok.deep e (takeE_mem.mp he).1⟩
  obtain ⟨h1, h2⟩ := takeE_mem.mp he
  refine (ok.up e h1).imp id fun h => takeE_mem.mpr ⟨h, fun z => h2 (z.trans ?_)⟩
  exact List.dropLast_prefix _
theorem takeE_fold {E : List (Names × Bool)} {nms q : Names} (h : Fold (takeE E nms) q) : Fold E q := h.imp id fun z => (takeE_mem.mp z).1
theorem takeE_kidN {E : List (Names × Bool)} {nms q : Names} : (kidN (takeE E nms) q).length ≤ (kidN E q).length := by
  unfold kidN takeE
  rw [List.length_map, List.length_map, List.filter_filter, ← List.countP_eq_length_filter, ← List.countP_eq_length_filter]
  exact List.countP_mono_left fun e _ h => by simp at h; simp [h.1]
theorem tree_pop {E : List (Names × Bool)} {al : Names → Addr} {H : Hp} {p : Names} {nm : List Nat} (t : TreeE E al H) (hp : Fold E p) : TreeE (takeE E (p ++ [nm])) al (upd H (al p) (.dK (dropK (kids E al p) (.inr (S nm))))) := by
  refine ⟨takeE_ok t.ok _, fun q hq => ?_, fun a b ha hb => t.inj a b (takeE_fold ha) (takeE_fold hb)⟩
  have hq' := takeE_fold hq
  by_cases e : q = p
  · subst e
    rw [upd_same]
    unfold dropK kids takeE
    rw [List.filter_map, List.filter_filter, List.filter_filter]
    congr 3
    refine List.filter_congr fun e he => ?_
    by_cases h : inF q e = true
    · obtain ⟨_, h2⟩ := kid_of t.ok (List.mem_filter.mpr ⟨he, h⟩)
      rw [h, Bool.true_and, Bool.and_true]
      have h1 : preB (q ++ [nm]) e.1 = decide (e.1.getLastD [] = nm) := by
        rw [Bool.eq_iff_iff, preB_iff, decide_eq_true_eq]
        rw [h2]
        constructor
        · intro h3
          have := h3.eq_of_length (by simp)
          simpa using (List.append_cancel_left this).symm
        · intro h3
          rw [last_app] at h3
          rw [h3]
          exact List.prefix_refl _
      rw [h1]
      simp only [Function.comp]
      unfold kidE
      simp only [ne_eq, Sum.inr.injEq]
      have : (S (e.1.getLastD []) = S nm) = (e.1.getLastD [] = nm) := propext ⟨fun h => S_inj h, fun h => by rw [h]⟩
      simp [this]
    · simp [h]
  · rw [upd_ne fun z => e (t.inj q p hq' hp z), t.at_ q hq']
    unfold kids takeE
    rw [List.filter_filter]
    congr 3
    refine List.filter_congr fun e he => ?_
    by_cases h : inF q e = true
    · obtain ⟨_, h2⟩ := kid_of t.ok (List.mem_filter.mpr ⟨he, h⟩)
      have h1 : preB (p ++ [nm]) e.1 = false := by
        rw [← Bool.not_eq_true, preB_iff, h2]
        intro h3
        rcases Nat.lt_or_ge p.length q.length with hl | hl
        · have h4 : p ++ [nm] <+: q := by
            refine List.prefix_of_prefix_length_le h3 (List.prefix_append q _) (by simp; omega)
          rcases hq with rfl | hq
          · simp at hl
          · exact (takeE_mem.mp hq).2 h4
        · have h5 := h3.length_le
          simp at h5
          have h6 := h3.eq_of_length (by simp; omega)
          exact absurd (List.append_inj h6 (by omega)).1.symm ‹¬ q = p›
      simp [h, h1]
    · simp [h]
def spKTake (LE' : List LE → Prop) (K : PySem.W.Frag) : Sp := fun vs H Q E => ∃ p dx l n En al es kvs nw wd, vs = [.ref p, .str (S wd)] ∧ wd.length ≤ 1000000 ∧ KeepG K p dx l n En al es kvs nw H ∧ SmallT En ∧ LE' es ∧
  (pathN wd = none → ∀ H', Same H H' → E (.ref (fA K "NoPath")) none H') ∧
  ∀ nms fo, pathN wd = some (nms, fo) → ((nms, fo) ∉ En → ∀ H', Same H H' → E (.ref (fA K "NoLeaf")) none H') ∧
    ((nms, fo) ∈ En → ∀ n' H', Frm (fpK p l En al) H H' → H n' = none →
        KeepG K p dx l n' (takeE En nms) al es kvs (newsW (nowW (gathS es) En) (nowW (gathS es) (takeE En nms))) H' → Q .non H')
theorem leafs_take {E : List (Names × Bool)} {nms : Names} : (leafs (takeE E nms)).length ≤ (leafs E).length := by
  unfold leafs takeE
  rw [List.filter_filter, ← List.countP_eq_length_filter, ← List.countP_eq_length_filter]
  exact List.countP_mono_left fun e _ h => by simp at h; simp [h.1]
theorem SmallT.take {E : List (Names × Bool)} (h : SmallT E) (nms : Names) : SmallT (takeE E nms) :=
  ⟨Nat.le_trans (List.length_filter_le _ _) h.len, fun p => Nat.le_trans takeE_kidN (h.kid p), fun e he => h.nm e (takeE_mem.mp he).1, Nat.le_trans leafs_take h.lf⟩
theorem ok_Keeper_take (T : Txt K mg) : OkD P w K mg base 16 (mA K "Keeper" "take") ["self", "path"] [] (spKTake LimE K) := by
  refine okD T.F_Keeper_take sc_Keeper_take (fun _ _ _ _ _ _ us hl => match us, hl with | [_, _], _ => rfl) ?_ ?_
  · rintro vs H Q E ⟨p, dx, l, n, En, al, es, kvs, nw, wd, rfl, _⟩
    rfl
  · rintro cdv A outer s H vs Q E hr ⟨p, dx, l, n, En, al, es, kvs, nw, wd, rfl, hwd, ks, sm, lim, q1, q2⟩
    refine ⟨_, (pss_cons (ps_asg (pe_mid (pe_cal (ok_names_of T) (hr.mono (by decide)) rfl T.g_names_of (pasE (takes_of rfl rfl rfl rfl) (fun _ _ _ _ h => h)) (pa_cons (pv 1) pa_nil))) (pg_tup rfl (pgs_cons (pg_name (i := 2) sc_Keeper_take.nd rfl (Or.inl rfl)) (pgs_cons (pg_name (i := 3) sc_Keeper_take.nd rfl (Or.inl rfl)) pgs_nil))))
  (pss_cons (ps_set (i := 4) sc_Keeper_take.nd rfl (Or.inl rfl) (pe_mid (pe_fldK (K := K) (pv 0) rfl)))
  (pss_cons (ps_mid (ps_for (passes_of rfl) rfl (pi_mid (o_it (K := K) rfl (pe_slice (o_sl (K := K)) (pv 2) po_none (po_some (pe_un un_neg pe_int))))) (pg_name (i := 5) sc_Keeper_take.nd rfl (Or.inl rfl)) (pss_cons (ps_set (i := 4) sc_Keeper_take.nd rfl (Or.inl rfl) (pe_mid (pe_dget1 (hu_of hr) (pv 4) (pv 5) ⟨by rfl, by rfl, by rfl, by rfl⟩)))
  (pss_one (ps_if (pt_mid (pt_cmp (pc_isN (pv 4)) rfl)) (pss_one (ps_raise rfl (takes_of rfl rfl rfl rfl) (pmk_own PySem.F.excBase_ValueError T.x_NoLeaf.1 T.g_NoLeaf T.x_NoLeaf.2.1 (raises_own T.x_NoLeaf.2.2.1 T.x_NoLeaf.2.2.2) rfl))) pss_nil)))))
  (pss_cons (ps_if (pt_mid (PW.pt (pw_or (pt_cmp (pc_dnotin (hu_of hr) (pe_ix (o_ix (K := K)) (pv 2) (pe_un un_neg pe_int) (fun _ _ => rfl)) (pv 4)) rfl) (pw_or1 (pt_cmpR (o_eq (K := K) (hu64 hr)) (pe_cmp (pc_isN (pe_dget (hu_of hr) (pv 4) (pe_ix (o_ix (K := K)) (pv 2) (pe_un un_neg pe_int) (fun _ _ => rfl)) (fun _ _ => rfl))) rfl) (pv 3) (nomark _)))))) (pss_one (ps_raise rfl (takes_of rfl rfl rfl rfl) (pmk_own PySem.F.excBase_ValueError T.x_NoLeaf.1 T.g_NoLeaf T.x_NoLeaf.2.1 (raises_own T.x_NoLeaf.2.2.1 T.x_NoLeaf.2.2.2) rfl))) pss_nil)
  (pss_cons (ps_set (i := 6) sc_Keeper_take.nd rfl (Or.inl rfl) (pe_mid (pe_metI0 (md_K_shunned_leaves T) (pv 0) (hr.mono (by decide)) (pasE (takes_of rfl rfl rfl rfl) (fun _ _ _ _ h => h)))))
  (pss_cons (ps_expr (pe_mid (pe_dpop1 (pv 4) (pe_ix (o_ix (K := K)) (pv 2) (pe_un un_neg pe_int) (fun _ _ => rfl)) ⟨by rfl, by rfl, by rfl, by rfl⟩)))
  (pss_one (ps_expr (pe_metI (md_K_compared T) (pv 0) (hr.mono (by decide)) (pasE (takes_of rfl rfl rfl rfl) (fun _ _ _ _ h => h)) (pa_cons (pv 6) pa_nil)))))))))), ?_⟩
    have tobj := T.obj
    have ok := ks.tree.ok
    refine q_pair (fun x y H' => Same H H' ∧ ∃ F fo, x = .ref F ∧ y = .bl fo ∧ H F = none ∧ ∃ nms, H' F = some (.lst (nmsV nms)) ∧ pathN wd = some (nms, fo)) ?_ ?_
    · walk_at "rd"
      refine ⟨wd, rfl, hwd, fun ns fo F' F H' e s hp hF hFn => ?_, fun e H' s => q1 e H' s⟩
      exact ⟨F', rfl, _, _, .inl (.inl hp), s, F, rfl, fo, rfl, hFn, ns, hF, e⟩
    rintro _ _ H1 ⟨s1, F, fo, rfl, rfl, hFn, nms, hF, hpath⟩
    obtain ⟨q3, q4⟩ := q2 nms fo hpath
    have hne := pathN_ne hpath
    have hlen := List.length_pos_iff.mpr hne
    have ks1 := ks.mono s1
    refine q_midG (fun v H' => H' = H1 ∧ v = .ref (al [])) ?_ ?_
    · walk_at "rdh"
      exact ⟨_, _, _, ks1.obj, T.c_Keeper, T.n_Keeper_root, _, rfl, rfl⟩
    rintro _ _ ⟨rfl, rfl⟩
    rename_i H1
    have hlast : nms[nms.length - 1]? = some (nms.getLastD []) := by
      rw [← List.getLast?_eq_getElem?, List.getLastD_eq_getLast?]
      cases h : nms.getLast? with
      | none => exact absurd (List.getLast?_eq_none_iff.mp h) hne
      | some x => rfl
    have el : nms = nms.take (nms.length - 1) ++ [nms.getLastD []] := by
      conv => lhs; rw [drop_last hne]
      rw [List.dropLast_eq_take]
    have noway : ∀ i, 0 < i → i < nms.length → (nms.take i, true) ∉ En → (nms, fo) ∉ En := fun i h0 hi hn h => hn (up_take ok h h0 hi)
    refine q_stm (fun σ H' => Same H1 H' ∧ Fold En (nms.take (nms.length - 1)) ∧ ∃ x5 x6, σ = [some (.ref p), some (.str (S wd)), some (.ref F), some (.bl fo), some (.ref (al (nms.take (nms.length - 1)))), x5, x6]) ?_ ?_
    · refine for_open (fun J H4 => ∃ L, J = Itl K L ∧ H1 L = none ∧ H4 = upd H1 L (.lst (nmsV (nms.take (nms.length - 1))))) ?_ ?_
      · walk_at "rd"
        refine .inl ⟨_, .inl (.inl hF), fun L hL => .inl ⟨⟨_, .inl (.inl upd_same)⟩, L, rfl, hL, ?_⟩⟩
        have e : cutV (nmsV nms) none (some (-1)) = nmsV (nms.take (nms.length - 1)) := by
          unfold cutV
          have e : HT.sIx (nmsV nms).length (nmsV nms).length (some (-1)) = nms.length - 1 := by
            rw [nms_len]
            unfold HT.sIx
            simp
            omega
          rw [HT.sIx_none, e, List.drop_zero, Nat.sub_zero, nms_take]
        rw [e]
      rintro _ _ ⟨L, rfl, hLn, rfl⟩
      have sL : Same H1 (upd H1 L (.lst (nmsV (nms.take (nms.length - 1))))) := same_new hLn
      refine for_mid (J0 := Itl K L) (H0 := upd H1 L (.lst (nmsV (nms.take (nms.length - 1))))) ⟨rfl, rfl⟩ (walk_list (K := K) (a := L) (xs := nmsV (nms.take (nms.length - 1)))) (fun k σ H' => Same H1 H' ∧ H' L = some (.lst (nmsV (nms.take (nms.length - 1)))) ∧ Fold En (nms.take k) ∧ ∃ x5 x6, σ = [some (.ref p), some (.str (S wd)), some (.ref F), some (.bl fo), some (.ref (al (nms.take k))), x5, x6])
        ⟨sL, upd_same, .inl rfl, _, _, rfl⟩ (fun _ _ _ _ h => .inl (.inl h.2.1)) ?_ (fun σ H' h => ?_)
      · rintro k x σ H4 H4' hk ⟨s4, hL4, f1, x5, x6, rfl⟩ ⟨rfl, hx⟩
        obtain ⟨nm, hnm0, rfl⟩ := nms_at hx
        have hk1 : k + 1 < nms.length := by
          rw [nms_len, List.length_take] at hk
          omega
        have hnm1 : nms[k]? = some nm := by rwa [List.getElem?_take_of_lt (by omega)] at hnm0
        have tk : nms.take (k + 1) = nms.take k ++ [nm] := by rw [List.take_succ, hnm1]; rfl
        have hd := s4 _ _ (ks1.tree.at_ _ f1)
        refine q_midG (fun v H' => H' = H4' ∧ ((v = .non ∧ (nms, fo) ∉ En) ∨ (v = .ref (al (nms.take (k + 1))) ∧ (nms.take (k + 1), true) ∈ En))) ?_ ?_
        · walk_at "rd"
          have g := DGet.k (k := .inr (S nm)) hd
          by_cases he : ∃ fo', (nms.take k ++ [nm], fo') ∈ En
          · obtain ⟨fo', he⟩ := he
            rw [kid_val ok he] at g
            refine ⟨.inl ⟨_, .inl hd⟩, _, g, ?_⟩
            cases fo' with
            | true => exact .inr ⟨by rw [tk]; rfl, by rw [tk]; exact he⟩
            | false => exact .inl ⟨rfl, noway (k + 1) (by omega) hk1 fun h => by rw [tk] at h; exact Bool.noConfusion (e_uniq ok h he)⟩
          · rw [kid_no ok fun fo' h => he ⟨fo', h⟩] at g
            exact ⟨.inl ⟨_, .inl hd⟩, _, g, .inl ⟨rfl, noway (k + 1) (by omega) hk1 fun h => he ⟨true, by rw [← tk]; exact h⟩⟩⟩
        rintro v H5 ⟨rfl, hv⟩
        refine l_if (fun b H' => H' = H5 ∧ b = decide (v = .non)) ?_ (fun H6 h => ?_) fun H6 h => ?_
        · rcases hv with ⟨rfl, _⟩ | ⟨rfl, _⟩ <;> walk_at "rd"
        · obtain ⟨rfl, hb⟩ := h
          rcases hv with ⟨rfl, hno⟩ | ⟨rfl, _⟩
          · exact q3 hno _ (s1.trans s4)
          · simp at hb
        · obtain ⟨rfl, hb⟩ := h
          rcases hv with ⟨rfl, hno⟩ | ⟨rfl, hin⟩
          · simp at hb
          · exact ⟨s4, hL4, .inr hin, _, _, rfl⟩
      · obtain ⟨s4, hL4, f1, x5, x6, rfl⟩ := h
        rw [nms_len, List.length_take, Nat.min_eq_left (Nat.sub_le _ _)] at f1
        rw [nms_len, List.length_take, Nat.min_eq_left (Nat.sub_le _ _)]
        exact ⟨s4, f1, _, _, rfl⟩
    rintro σ H2 ⟨s2, f1, x5, x6, rfl⟩
    generalize hlst : nms.getLastD [] = nm at el hlast
    have hat : atI (nmsV nms) (-1) = some (V.str (S nm)) := atI_last (by
      unfold nmsV
      rw [List.getLast?_map, List.getLast?_map, List.getLast?_eq_getElem?, hlast]
      rfl)
    have tk : nms.take (nms.length - 1) ++ [nm] = nms := el.symm
    have ks2 := ks1.mono s2
    have hF2 := s2 _ _ hF
    have hd2 := ks2.tree.at_ _ f1
    refine q_if (fun b H' => H' = H2 ∧ b = !decide ((nms, fo) ∈ En)) ?_ (fun H3 h => ?_) fun H3 h => q_next ?_
    · have g := DGet.k (k := .inr (S nm)) hd2
      by_cases he : ∃ fo', (nms.take (nms.length - 1) ++ [nm], fo') ∈ En
      · obtain ⟨fo', he⟩ := he
        rw [kid_val ok he] at g
        have hin : decide ((nms, fo) ∈ En) = (fo == fo') := by
          rw [tk] at he
          cases hq : (fo == fo') with
          | true => exact decide_eq_true (by rw [eq_of_beq hq]; exact he)
          | false => exact decide_eq_false fun h => by rw [e_uniq ok h he] at hq; simp at hq
        walk_at "rd"
        refine ⟨_, .inl (.inl (.inl hF2)), _, hat, _, g, ite2 (fun h => nomatch h) fun _ => ⟨_, .inl (.inl (.inl hF2)), _, hat, _, g, ?_⟩⟩
        rw [hin]
        cases fo <;> cases fo' <;> simp
      · rw [kid_no ok fun fo' h => he ⟨fo', h⟩] at g
        have hin : decide ((nms, fo) ∈ En) = false := decide_eq_false fun h => he ⟨fo, by rw [tk]; exact h⟩
        walk_at "rd"
        refine ⟨_, .inl (.inl (.inl hF2)), _, hat, none, g, ite2 (fun _ => by rw [hin]; rfl) fun h => absurd rfl h⟩
    · obtain ⟨rfl, hb⟩ := h
      exact q3 (by simpa using hb) _ (s1.trans s2)
    obtain ⟨rfl, hb⟩ := h
    have hin : (nms, fo) ∈ En := by simpa using hb
    clear hb el
    refine q_midG (fun v H' => Same H3 H' ∧ ∃ M, v = .ref M ∧ H3 M = none ∧ H' M = some (.dK ((nowW (gathS es) En).map wbK))) ?_ ?_
    · walk_at "rdh"
      exact ⟨ks2.v, (), p, dx, l, n, En, al, es, kvs, nw, rfl, ks2, sm, lim, fun M H' s hM hM' => ⟨s, M, rfl, hM, hM'⟩⟩
    rintro _ H4 ⟨s4, M, rfl, hMn, hM⟩
    have ks4 := ks2.mono s4
    have hF4 := s4 _ _ hF2
    have hd4 := ks4.tree.at_ _ f1
    refine q_expr (fun H' => H' = upd H4 (al (nms.take (nms.length - 1))) (.dK (dropK (kids En al (nms.take (nms.length - 1))) (.inr (S nm))))) ?_ ?_
    · unfold tDPop1
      walk_at "rd"
      exact ⟨.inl ⟨_, .inl hd4⟩, _, .inl (.inl (.inl hF4)), _, hat, _, hd4, .inr (S nm), rfl, ⟨_, kid_val ok (by rw [tk]; exact hin)⟩, rfl⟩
    rintro H5 e5
    have t5 := tree_pop (nm := nm) ks4.tree f1
    rw [← e5, tk] at t5
    have fr : Frm (fpT En al) H4 H5 := by
      rw [e5]
      exact Frm.upd (fun _ _ e _ => e) (.inl ⟨_, f1, rfl⟩)
    have frK : Frm (fpK p l En al) H4 H5 := fr.sub fun a ⟨q, hq, e⟩ => .inl (.inr (.inr ⟨q, hq, e⟩))
    have im := ks4.im frK
    have nT : ∀ {a : Addr} {o : HO}, H4 a = some o → (∀ ks, o ≠ .dK ks) → ¬ fpT En al a := fun {a o} e n ⟨q, hq, ea⟩ => by
      rw [ea, ks4.tree.at_ q hq] at e
      exact n _ (Option.some.inj e).symm
    have nL : ∀ {a : Addr} {us : List V}, H4 a = some (.lst us) → H5 a = some (.lst us) := fun {a us} e => fr _ _ e (nT e fun _ z => nomatch z)
    have nl : ¬ fpT En al l := fun ⟨q, hq, e⟩ => ks.sep q hq e.symm
    have ks5 : KeepG K p dx l n (takeE En nms) al es kvs nw H5 := by
      refine ⟨fr _ _ ks4.obj (nT ks4.obj fun _ z => nomatch z), t5, fr _ _ ks4.dict nl, ?_, nL ks4.news, fun q hq => ks.sep q (takeE_fold hq)⟩
      exact ks4.rul.frm (fun a us _ e => nL e) fun _ _ d => d.im im
    have hM5 : H5 M = some (.dK ((nowW (gathS es) En).map wbK)) := fr _ _ hM fun ⟨q, hq, e⟩ => by
      rw [e] at hMn
      have := ks2.tree.at_ q hq
      rw [hMn] at this
      cases this
    walk_at "rd"
    refine ⟨ks5.v, (), p, dx, l, n, _, al, es, kvs, nw, M, _, rfl, ks5, sm.take nms, lim, hM5, fun n' H6 b6 hn' ks6 => ?_⟩
    have s04 := (s1.trans s2).trans s4
    have n5 : H4 n' = none := by
      by_cases z : n' = al (nms.take (nms.length - 1))
      · rw [z, e5, upd_same] at hn'
        cases hn'
      · rw [e5, upd_ne z] at hn'
        exact hn'
    refine q4 hin n' H6 ?_ (same_none s04 n5) ks6
    have f1 : Frm (fpK p l En al) H H5 := (Frm.of s04).trans frK
    exact f1.trans fun a o e ha => b6 a o (fun z => ha (.inl z)) e
section
variable {X : Cx}
theorem md_K_take (T : Txt K mg) (h1 : X.prog = P := by rfl) (h2 : X.w = w := by rfl) (h3 : X.K = K := by rfl) (h4 : X.mg = mg := by rfl) (h5 : X.base = base := by rfl) : MetD X 16 "take" (fun (_ : Unit) => KeepV K) (fun _ => spKTake LimE K) := by
  subst h1 h2 h3 h4 h5
  rintro _ x H ⟨p, dx, r, l, n, rfl, hp⟩
  exact ⟨p, _, dx, _, _, _, rfl, hp, T.c_Keeper, T.m_Keeper_take, rfl, (ok_Keeper_take T).mono (by decide)⟩
end
/-! what is told -/
def spKChanged (K : PySem.W.Frag) : Sp := fun vs H Q _ => ∃ p dx l n En al es kvs nw, vs = [.ref p] ∧ KeepG K p dx l n En al es kvs nw H ∧ ∀ D H', Same H H' → H D = none → H' D = some (.lst (nmsV nw)) → Q (.ref D) H'
theorem ok_Keeper_changed (T : Txt K mg) : OkD P w K mg base 1 (mA K "Keeper" "changed") ["self"] [] (spKChanged K) := by
  refine okD T.F_Keeper_changed sc_Keeper_changed (fun _ _ _ _ _ _ us hl => match us, hl with | [_], _ => rfl) ?_ ?_
  · rintro vs H Q E ⟨p, dx, l, n, En, al, es, kvs, nw, rfl, _⟩
    rfl
  · rintro cdv A outer s H vs Q E hr ⟨p, dx, l, n, En, al, es, kvs, nw, rfl, ks, q⟩
    refine ⟨_, (pss_one (ps_ret (pe_callTy (o_list (K := K) rfl) (by rfl) T.fr_list (by decide +kernel) (pa_cons (pe_fldK (K := K) (pv 0) rfl) pa_nil)))), ?_⟩
    have tobj := T.obj
    walk_at "rdh"
    exact ⟨_, _, _, ks.obj, T.c_Keeper, T.n_Keeper_news, _, rfl, _, .inl (.inl (.inl ks.news)), fun D hD => q D _ (same_new hD) hD upd_same⟩
section
variable {X : Cx}
theorem md_K_changed (T : Txt K mg) (h1 : X.prog = P := by rfl) (h2 : X.w = w := by rfl) (h3 : X.K = K := by rfl) (h4 : X.mg = mg := by rfl) (h5 : X.base = base := by rfl) : MetD X 1 "changed" (fun (_ : Unit) => KeepV K) (fun _ => spKChanged K) := by
  subst h1 h2 h3 h4 h5
  rintro _ x H ⟨p, dx, r, l, n, rfl, hp⟩
  exact ⟨p, _, dx, _, _, _, rfl, hp, T.c_Keeper, T.m_Keeper_changed, rfl, (ok_Keeper_changed T).mono (by decide)⟩
end
/-- how many of the leaves are told so -/
def cntW (b : Bool) (now : List WB) : Nat := now.countP fun e => e.2 == b
theorem cnt_wb {now : List WB} {b : Bool} : ((now.map wbK).map (·.2)).countP (fun z => eqV z (.bl b)) = cntW b now := by
  unfold cntW
  rw [List.map_map, List.countP_map]
  refine List.countP_congr fun e _ => ?_
  show (eqV (.bl e.2) (.bl b) = true) ↔ ((e.2 == b) = true)
  cases e.2 <;> cases b <;> simp [eqV, scal]
def spKCount (LE' : List LE → Prop) (K : PySem.W.Frag) : Sp := fun vs H Q _ => ∃ p dx l n En al es kvs nw, vs = [.ref p] ∧ KeepG K p dx l n En al es kvs nw H ∧ SmallT En ∧ LE' es ∧ ∀ t H', Same H H' → H' t = some (.tup [.int (cntW true (nowW (gathS es) En) : Nat), .int (cntW false (nowW (gathS es) En) : Nat)]) → Q (.ref t) H'
theorem ok_Keeper_count (T : Txt K mg) : OkD P w K mg base 15 (mA K "Keeper" "count") ["self"] [] (spKCount LimE K) := by
  refine okD T.F_Keeper_count sc_Keeper_count (fun _ _ _ _ _ _ us hl => match us, hl with | [_], _ => rfl) ?_ ?_
  · rintro vs H Q E ⟨p, dx, l, n, En, al, es, kvs, nw, rfl, _⟩
    rfl
  · rintro cdv A outer s H vs Q E hr ⟨p, dx, l, n, En, al, es, kvs, nw, rfl, ks, sm, lim, q⟩
    refine ⟨_, (pss_cons (ps_set (i := 1) sc_Keeper_count.nd rfl (Or.inl rfl) (pe_mid (pe_listVals rfl (pe_metI0 (md_K_shunned_leaves T) (pv 0) (hr.mono (by decide)) (pasE (takes_of rfl rfl rfl rfl) (fun _ _ _ _ h => h))) (by rfl) T.fr_list (by decide +kernel))))
  (pss_one (ps_ret (pe_tup (pa_cons (pe_bmK (K := K) PySem.F.plainAttrs_list PySem.F.slot_list_count PySem.F.type_list_count mt_countF (pv 1) (pa_cons pe_bl pa_nil)) (pa_cons (pe_bmK (K := K) PySem.F.plainAttrs_list PySem.F.slot_list_count PySem.F.type_list_count mt_countF (pv 1) (pa_cons pe_bl pa_nil)) pa_nil)))))), ?_⟩
    have tobj := T.obj
    refine q_midG (fun v H' => Same H H' ∧ ∃ M, v = .ref M ∧ H' M = some (.lst (((nowW (gathS es) En).map wbK).map (·.2)))) ?_ ?_
    · unfold tListVals
      walk_at "rdh"
      refine ⟨ks.v, (), p, dx, l, n, En, al, es, kvs, nw, rfl, ks, sm, lim, fun M H' s hM hM' => ⟨M, rfl, _, hM', fun R hR => ⟨s.trans (same_new hR), rfl⟩⟩⟩
    rintro _ H1 ⟨s1, M, rfl, hM⟩
    have fl : (((nowW (gathS es) En).map wbK).map (·.2)).all flatV = true := by
      rw [List.map_map, List.all_map]
      exact List.all_eq_true.mpr fun e _ => rfl
    walk_at "rdh"
    have sM : SqL K H1 M (((nowW (gathS es) En).map wbK).map (·.2)) := .inl (.inl hM)
    refine ⟨⟨_, sM⟩, M, _, .bl true, rfl, rfl, sM, rfl, fl, ⟨_, sM⟩, M, _, .bl false, rfl, rfl, sM, rfl, fl, fun t ht => ?_⟩
    rw [cnt_wb, cnt_wb]
    exact q t _ (s1.trans (same_new ht)) upd_same
section
variable {X : Cx}
theorem md_K_count (T : Txt K mg) (h1 : X.prog = P := by rfl) (h2 : X.w = w := by rfl) (h3 : X.K = K := by rfl) (h4 : X.mg = mg := by rfl) (h5 : X.base = base := by rfl) : MetD X 15 "count" (fun (_ : Unit) => KeepV K) (fun _ => spKCount LimE K) := by
  subst h1 h2 h3 h4 h5
  rintro _ x H ⟨p, dx, r, l, n, rfl, hp⟩
  exact ⟨p, _, dx, _, _, _, rfl, hp, T.c_Keeper, T.m_Keeper_count, rfl, (ok_Keeper_count T).mono (by decide)⟩
end
/-! the lists -/
/-- a folder and its list, the list a new one -/
def PairLV (K : PySem.W.Frag) (H0 : Hp) (D : Addr) (e : LE) (u : V) (H : Hp) : Prop := ∃ t L us, u = .ref t ∧ H t = some (.tup [.str (S e.1), .ref L]) ∧ H L = some (.lst us) ∧ Each (RowV K) e.2 us H ∧ L ≠ D ∧ H0 L = none
theorem PairLV.mono {K : PySem.W.Frag} {H0 H H' : Hp} {D : Addr} {e : LE} {u : V} (h : PairLV K H0 D e u H) (s : Same H H') : PairLV K H0 D e u H' := by
  obtain ⟨t, L, us, a, b, c, d, n1, n2⟩ := h
  exact ⟨t, L, us, a, s _ _ b, s _ _ c, d.imp fun _ _ x => x.mono s, n1, n2⟩
theorem PairLV.upd {K : PySem.W.Frag} {H0 H : Hp} {D : Addr} {e : LE} {u : V} {xs ys : List V} (h : PairLV K H0 D e u H) (hD : H D = some (.lst xs)) : PairLV K H0 D e u (upd H D (.lst ys)) := by
  obtain ⟨t, L, us, a, b, c, d, n1, n2⟩ := h
  have nl := nl_upd (o := .lst ys) hD
  exact ⟨t, L, us, a, nl _ _ b fun _ z => (nomatch z), by rw [upd_ne n1]; exact c, d.imp fun _ _ x => x.nl nl, n1, n2⟩
section
variable {X : Cx}
end
/-! the tree, copied -/
structure SubT (En : List (Names × Bool)) (p : Names) (al : Names → Addr) (H : Hp) : Prop where
  at_ : ∀ q, Fold En q → p <+: q → H (al q) = some (.dK (kids En al q))
  inj : ∀ q r, Fold En q → Fold En r → p <+: q → p <+: r → al q = al r → q = r
theorem SubT.mono {En : List (Names × Bool)} {p : Names} {al : Names → Addr} {H H' : Hp} (h : SubT En p al H) (s : Same H H') : SubT En p al H' := ⟨fun q a b => s _ _ (h.at_ q a b), h.inj⟩
def spCopied (n : Nat) : Sp := fun vs H Q _ => ∃ En al p, vs = [.ref (al p)] ∧ EOk En ∧ SubT En p al H ∧ Fold En p ∧ p.length + n = 10 ∧ En.length ≤ 1000 ∧ ∀ al2 H', Same H H' → SubT En p al2 H' → (∀ q, Fold En q → p <+: q → H (al2 q) = none) → Q (.ref (al2 p)) H'
theorem kids_congrP {E : List (Names × Bool)} {al al' : Names → Addr} {q : Names} (h : ∀ e ∈ E, e.2 = true → e.1.dropLast = q → al e.1 = al' e.1) : kids E al q = kids E al' q := by
  unfold kids
  refine List.map_congr_left fun e he => ?_
  obtain ⟨hm, hq⟩ := List.mem_filter.mp he
  unfold kidE
  cases hb : e.2 with
  | false => rfl
  | true => rw [h e hm hb (of_decide_eq_true hq)]
/-- one folder's copy beside the others -/
def mixA (r : Names) (al3 al2 : Names → Addr) : Names → Addr := fun q => if r <+: q then al3 q else al2 q
theorem mixA_in {r q : Names} {al3 al2 : Names → Addr} (h : r <+: q) : mixA r al3 al2 q = al3 q := if_pos h
theorem mixA_out {r q : Names} {al3 al2 : Names → Addr} (h : ¬ r <+: q) : mixA r al3 al2 q = al2 q := if_neg h
theorem pre_same {a b q : Names} (ha : a <+: q) (hb : b <+: q) (hl : a.length = b.length) : a = b := by
  have h1 := List.prefix_iff_eq_take.mp ha
  have h2 := List.prefix_iff_eq_take.mp hb
  rw [h1, h2, hl]
theorem kid_len {p : Names} {e : Names × Bool} (hne : e.1 ≠ []) (h : e.1.dropLast = p) : e.1.length = p.length + 1 := by
  have := congrArg List.length h
  rw [List.length_dropLast] at this
  have := List.length_pos_iff.mpr hne
  omega
/-- which folders are copied -/
def DoneC (L : List (Names × Bool)) (q : Names) : Prop := ∃ e ∈ L, e.2 = true ∧ e.1 <+: q
structure CopI (En L : List (Names × Bool)) (p : Names) (al2 : Names → Addr) (D : Addr) (H0 H : Hp) : Prop where
  dict : H D = some (.dK (L.map (kidE al2)))
  at_ : ∀ q, Fold En q → DoneC L q → H (al2 q) = some (.dK (kids En al2 q)) ∧ H0 (al2 q) = none ∧ al2 q ≠ D
  inj : ∀ q r, Fold En q → Fold En r → DoneC L q → DoneC L r → al2 q = al2 r → q = r
theorem doneC_snoc {L : List (Names × Bool)} {e : Names × Bool} {q : Names} : DoneC (L ++ [e]) q ↔ DoneC L q ∨ (e.2 = true ∧ e.1 <+: q) := by
  unfold DoneC
  constructor
  · rintro ⟨f, hf, h1, h2⟩
    rcases List.mem_append.mp hf with h | h
    · exact .inl ⟨f, h, h1, h2⟩
    · rw [List.mem_singleton.mp h] at h1 h2
      exact .inr ⟨h1, h2⟩
  · rintro (⟨f, hf, h⟩ | h)
    · exact ⟨f, List.mem_append_left _ hf, h⟩
    · exact ⟨e, by simp, h⟩
/-- a leaf comes to the copy -/
theorem CopI.leaf {En L : List (Names × Bool)} {p : Names} {al2 : Names → Addr} {D : Addr} {H0 H : Hp} {e : Names × Bool} (c : CopI En L p al2 D H0 H) (he : e.2 = false) (hno : valV (L.map (kidE al2)) (.inr (S (e.1.getLastD []))) = none) : CopI En (L ++ [e]) p al2 D H0 (upd H D (.dK (putK (L.map (kidE al2)) (.inr (S (e.1.getLastD []))) .non))) := by
  have dn : ∀ q, DoneC (L ++ [e]) q → DoneC L q := fun q h => (doneC_snoc.mp h).elim id fun z => by rw [he] at z; cases z.1
  refine ⟨?_, fun q hq h => ?_, fun q r a b h1 h2 => c.inj q r a b (dn q h1) (dn r h2)⟩
  · rw [upd_same, putK_new _ hno, List.map_append, List.map_singleton]
    unfold kidE
    rw [he]
    rfl
  · obtain ⟨h1, h2, h3⟩ := c.at_ q hq (dn q h)
    exact ⟨by rw [upd_ne h3]; exact h1, h2, h3⟩
/-- a folder comes to the copy -/
theorem CopI.dir {En L : List (Names × Bool)} {p : Names} {al2 al3 : Names → Addr} {D : Addr} {H0 H H4 : Hp} {e : Names × Bool} (ok : EOk En) (c : CopI En L p al2 D H0 H) (s : Same H H4) (s0 : Same H0 H) (he : e ∈ En) (hb : e.2 = true) (hp : e.1.dropLast = p) (hL : ∀ f ∈ L, f ∈ En ∧ f.1 ≠ e.1 ∧ f.1.dropLast = p)
    (t : SubT En e.1 al3 H4) (new : ∀ q, Fold En q → e.1 <+: q → H (al3 q) = none) (hno : valV (L.map (kidE al2)) (.inr (S (e.1.getLastD []))) = none) : CopI En (L ++ [e]) p (mixA e.1 al3 al2) D H0 (upd H4 D (.dK (putK (L.map (kidE al2)) (.inr (S (e.1.getLastD []))) (.ref (al3 e.1))))) := by
  have le := kid_len (ok.ne e he) hp
  have apart : ∀ {q : Names}, DoneC L q → ¬ e.1 <+: q := fun {q} ⟨f, hf, _, h2⟩ h => by
    obtain ⟨h3, h4, h5⟩ := hL f hf
    exact h4 (pre_same h2 h (by rw [le, kid_len (ok.ne f h3) h5]))
  have e1 : L.map (kidE al2) = L.map (kidE (mixA e.1 al3 al2)) := by
    refine List.map_congr_left fun f hf => ?_
    obtain ⟨h3, h4, h5⟩ := hL f hf
    unfold kidE
    rw [mixA_out fun h => h4 (h.eq_of_length (by rw [le, kid_len (ok.ne f h3) h5])).symm]
  have nD : ∀ q, Fold En q → e.1 <+: q → al3 q ≠ D := fun q hq h z => by
    have := new q hq h
    rw [z, c.dict] at this
    cases this
  have kin : ∀ q, e.1 <+: q → kids En (mixA e.1 al3 al2) q = kids En al3 q := fun q h => kids_congrP fun f _ _ hd => mixA_in (h.trans (by rw [← hd]; exact List.dropLast_prefix _))
  have kout : ∀ q, DoneC L q → kids En (mixA e.1 al3 al2) q = kids En al2 q := fun q h => kids_congrP fun f _ _ hd => mixA_out (apart (by
    obtain ⟨g, hg, h1, h2⟩ := h
    exact ⟨g, hg, h1, h2.trans (by rw [← hd]; exact List.dropLast_prefix _)⟩))
  have s04 := s0.trans s
  refine ⟨?_, fun q hq h => ?_, fun q r hq hr h1 h2 z => ?_⟩
  · rw [upd_same, putK_new _ hno, List.map_append, List.map_singleton, e1]
    congr 3
    unfold kidE
    rw [hb, mixA_in (List.prefix_refl _)]
    rfl
  · rcases doneC_snoc.mp h with h | ⟨_, h⟩
    · obtain ⟨h1, h2, h3⟩ := c.at_ q hq h
      rw [mixA_out (apart h), kout q h]
      exact ⟨by rw [upd_ne h3]; exact s _ _ h1, h2, h3⟩
    · rw [mixA_in h, kin q h]
      exact ⟨by rw [upd_ne (nD q hq h)]; exact t.at_ q hq h, same_none s0 (new q hq h), nD q hq h⟩
  · rcases doneC_snoc.mp h1 with h1 | ⟨_, h1⟩ <;> rcases doneC_snoc.mp h2 with h2 | ⟨_, h2⟩
    · rw [mixA_out (apart h1), mixA_out (apart h2)] at z
      exact c.inj q r hq hr h1 h2 z
    · rw [mixA_out (apart h1), mixA_in h2] at z
      have := new r hr h2
      rw [← z, (c.at_ q hq h1).1] at this
      cases this
    · rw [mixA_in h1, mixA_out (apart h2)] at z
      have := new q hq h1
      rw [z, (c.at_ r hr h2).1] at this
      cases this
    · rw [mixA_in h1, mixA_in h2] at z
      exact t.inj q r hq hr h1 h2 z
theorem q_newD {i : Nat} {u : TS} {D : Ends} {σ : L2.St} {H : Hp} (h : ∀ p, H p = none → u D (σ.set i (some (.ref p))) (upd H p (.dK []))) : tSeq (tAsg tDNewK (gName i)) u D σ H := h
theorem ok_copied (T : Txt K mg) : ∀ n, OkD P w K mg base (n + 2) (fA K "copied") ["tree"] [] (spCopied n)
  | 0 => by
    refine okD T.F_copied sc_copied (fun _ _ _ _ _ _ us hl => match us, hl with | [_], _ => rfl) ?_ ?_
    · rintro vs H Q E ⟨En, al, p, rfl, _⟩
      rfl
    · rintro cdv A outer s H vs Q X hr ⟨En, al, p, rfl, ok, ht, hf, hl, _⟩
      exfalso
      rcases hf with rfl | hf
      · simp at hl
      · have := ok.deep _ hf
        have h2 : p.length = 10 := by simpa using hl
        have h3 : p.length ≤ 9 := this
        omega
  | n + 1 => by
    have ih := ok_copied T n
    refine okD T.F_copied sc_copied (fun _ _ _ _ _ _ us hl => match us, hl with | [_], _ => rfl) ?_ ?_
    · rintro vs H Q E ⟨En, al, p, rfl, _⟩
      rfl
    · rintro cdv A outer s H vs Q X hr ⟨En, al, p, rfl, ok, ht, hf, hl, hsz, q⟩
      refine ⟨_, (pss_cons (ps_set (i := 1) sc_copied.nd rfl (Or.inl rfl) pe_dnewK)
  (pss_cons (ps_mid (ps_lock (ps_for (passes_of rfl) rfl (pi_mid (pi_items (pv 0))) (pg_tup rfl (pgs_cons (pg_name (i := 2) sc_copied.nd rfl (Or.inl rfl)) (pgs_cons (pg_name (i := 3) sc_copied.nd rfl (Or.inl rfl)) pgs_nil))) (pss_one (ps_dput (hu_of hr) (pv 1) (pv 2) (pe_ifExp (pt_cmp (pc_isN (pv 3)) rfl) pe_non (pe_cal ih (hr.mono (by omega)) rfl T.g_copied (pasE (takes_of rfl rfl rfl rfl) (fun _ _ _ _ h => h)) (pa_cons (pv 3) pa_nil))) rfl)))))
  (pss_one (ps_ret (pv 1))))), ?_⟩
      have tobj := T.obj
      have hd := ht.at_ p hf (List.prefix_refl _)
      refine q_newD fun D hD => ?_
      have sD := same_new (o := .dK []) hD
      have hDp : al p ≠ D := fun z => by rw [z, hD] at hd; cases hd
      generalize hLL : En.filter (inF p) = LL
      have hLen : LL.length ≤ 1000 := by rw [← hLL]; exact Nat.le_trans (List.length_filter_le _ _) hsz
      have hkid : kids En al p = LL.map (kidE al) := by rw [← hLL]; rfl
      have hmem : ∀ f ∈ LL, f ∈ En ∧ f.1.dropLast = p := fun f hf => by
        rw [← hLL] at hf
        exact ⟨(List.mem_filter.mp hf).1, of_decide_eq_true (List.mem_filter.mp hf).2⟩
      refine q_stm (fun σ H' => Same H H' ∧ ∃ al2 x2 x3, CopI En LL p al2 D H H' ∧ σ = [some (.ref (al p)), some (.ref D), x2, x3]) ?_ ?_
      · refine ⟨al p, _, sD _ _ hd, trivial, fun od => ?_⟩
        have hB : Same (upd H (al p) (.frz od (.dK (kids En al p)))) (upd (upd H D (.dK [])) (al p) (.frz od (.dK (kids En al p)))) := fun a u e => by
          by_cases ha : a = al p
          · subst ha
            rw [upd_same] at e ⊢
            exact e
          · rw [upd_ne ha] at e ⊢
            exact sD a u e
        have h0 : ∀ {a : Addr}, upd H (al p) (.frz od (.dK (kids En al p))) a = none → H a = none := fun {a} e => by
          by_cases ha : a = al p
          · rw [ha, upd_same] at e
            cases e
          · rwa [upd_ne ha] at e
        have hDn : upd H (al p) (.frz od (.dK (kids En al p))) D = none := by rw [upd_ne hDp.symm]; exact hD
        refine for_pair (J0 := Iti (al p) od (kids En al p)) (H0 := upd (upd H D (.dK [])) (al p) (.frz od (.dK (kids En al p)))) ?_ walk_items (fun k σ H' => Same (upd H (al p) (.frz od (.dK (kids En al p)))) H' ∧ ∃ al2 x2 x3, CopI En (LL.take k) p al2 D H H' ∧ σ = [some (.ref (al p)), some (.ref D), x2, x3])
          ⟨hB, fun _ => D, _, _, ⟨by rw [upd_ne hDp.symm, upd_same]; rfl, fun q _ h => ?_, fun q r _ _ h => ?_⟩, rfl⟩ (fun k σ H' _ h => h.1 _ _ upd_same) ?_ (fun σ H' h => ?_)
        · unfold iItems
          walk_at "rd"
          exact ⟨od, _, upd_same, rfl⟩
        · obtain ⟨e, he, _⟩ := h
          cases he
        · obtain ⟨e, he, _⟩ := h
          cases he
        · rintro k x y σ H2 H3 hk ⟨s2, al2, x2, x3, c, rfl⟩ s3 hx hy
          have hk' : k < LL.length := by rw [hkid, List.length_map] at hk; exact hk
          have he : LL[k]? = some LL[k] := List.getElem?_eq_getElem hk'
          generalize LL[k] = e at he
          obtain ⟨heE, hep⟩ := hmem e (List.mem_of_getElem? he)
          rw [hkid, List.getElem?_map, he] at hx hy
          obtain rfl : x = .str (S (e.1.getLastD [])) := (Option.some.inj hx).symm
          obtain rfl : y = if e.2 = true then .ref (al e.1) else .non := (Option.some.inj hy).symm
          have tk : LL.take (k + 1) = LL.take k ++ [e] := by rw [List.take_succ, he]; rfl
          have nd : (LL.map (·.1)).Nodup := by rw [← hLL]; exact ok.nd.sublist ((List.filter_sublist (l := En)).map _)
          have hdist : ∀ f ∈ LL.take k, f ∈ En ∧ f.1 ≠ e.1 ∧ f.1.dropLast = p := fun f hf => by
            obtain ⟨h1, h2⟩ := hmem f (List.mem_of_mem_take hf)
            refine ⟨h1, fun z => ?_, h2⟩
            obtain ⟨j, hj⟩ := List.mem_iff_getElem?.mp hf
            have hjk : j < k := by
              have := (List.getElem?_eq_some_iff.mp hj).1
              rw [List.length_take] at this
              omega
            rw [List.getElem?_take_of_lt hjk] at hj
            have := nodup_idx nd (x := e.1) (i := j) (j := k) (by rw [List.getElem?_map, hj, ← z]; rfl) (by rw [List.getElem?_map, he]; rfl)
            omega
          have hno : valV ((LL.take k).map (kidE al2)) (.inr (S (e.1.getLastD []))) = none := by
            cases hv : valV ((LL.take k).map (kidE al2)) (.inr (S (e.1.getLastD []))) with
            | none => rfl
            | some v =>
              have hm := valV_in hv
              rw [List.map_map] at hm
              obtain ⟨f, hf, ef⟩ := List.mem_map.mp hm
              obtain ⟨h1, h2, h3⟩ := hdist f hf
              have e1 : f.1.getLastD [] = e.1.getLastD [] := S_inj (Sum.inr.inj ef)
              exact absurd (by rw [drop_last (ok.ne f h1), drop_last (ok.ne e heE), h3, hep, e1]) h2
          have c3 : CopI En (LL.take k) p al2 D H H3 := ⟨s3 _ _ c.dict, fun q a b => ⟨s3 _ _ (c.at_ q a b).1, (c.at_ q a b).2⟩, c.inj⟩
          have s23 := s2.trans s3
          have hD3 := c3.dict
          have ltk : ((LL.take k).map (kidE al2)).length ≤ 1000 := by rw [List.length_map, List.length_take]; omega
          cases hb : e.2 with
          | false =>
            walk_at "rd"
            refine ⟨_, dput_s hD3 (by omega), ?_⟩
            have cl := c3.leaf (e := e) hb hno
            rw [← tk] at cl
            exact ⟨same_mut s23 hDn, al2, cl⟩
          | true =>
            walk_at "rd"
            have he' : (e.1, true) ∈ En := by rw [← hb]; exact heE
            have le := kid_len (ok.ne e heE) hep
            have pre : p <+: e.1 := by rw [← hep]; exact List.dropLast_prefix _
            have ne : ∀ q, e.1 <+: q → q ≠ p := fun q h z => by
              have := h.length_le
              rw [z] at this
              omega
            have sub : SubT En e.1 al H3 := ⟨fun q hq h => s23 _ _ (by
              rw [upd_ne fun z => ne q h (ht.inj q p hq hf (pre.trans h) (List.prefix_refl _) z)]
              exact ht.at_ q hq (pre.trans h)), fun q r a b h1 h2 => ht.inj q r a b (pre.trans h1) (pre.trans h2)⟩
            refine ⟨En, al, e.1, rfl, ok, sub, .inr he', by omega, hsz, fun al3 H4 s4 t4 new4 => ⟨_, dput_s (s4 _ _ hD3) (by omega), same_mut (s23.trans s4) hDn, mixA e.1 al3 al2, ?_⟩⟩
            rw [tk]
            have s03 : Same H (upd H3 (al p) (.dK (kids En al p))) := same_unlock hd s23
            have key := CopI.dir (H0 := upd H (al p) (.frz od (.dK (kids En al p)))) ok ⟨c3.dict, fun q a b => ⟨(c3.at_ q a b).1, by
              have h1 := (c3.at_ q a b).2.1
              rw [upd_ne fun z => by rw [z, hd] at h1; cases h1]
              exact h1, (c3.at_ q a b).2.2⟩, c3.inj⟩ s4 s23 heE hb hep hdist t4 new4 hno
            exact ⟨key.dict, fun q a b => ⟨(key.at_ q a b).1, h0 (key.at_ q a b).2.1, (key.at_ q a b).2.2⟩, key.inj⟩
        · obtain ⟨s2, al2, x2, x3, c, rfl⟩ := h
          rw [hkid, List.length_map, List.take_of_length_le (Nat.le_refl _)] at c
          refine ⟨s2 _ _ upd_same, same_unlock hd s2, al2, _, _, ⟨?_, fun q a b => ?_, c.inj⟩, rfl⟩
          · rw [upd_ne hDp.symm]
            exact c.dict
          · obtain ⟨h1, h2, h3⟩ := c.at_ q a b
            exact ⟨by rw [upd_ne fun z => by rw [z, hd] at h2; cases h2]; exact h1, h2, h3⟩
      rintro σ H1 ⟨s1, al2, x2, x3, c, rfl⟩
      walk_at "rd"
      have done : ∀ q, Fold En q → p <+: q → q ≠ p → DoneC LL q := fun q hq h hne => by
        obtain ⟨t, rfl⟩ := h
        cases t with
        | nil => simp at hne
        | cons x t =>
          have hq' : (p ++ x :: t, true) ∈ En := hq.elim (fun z => by simp at z) id
          have hx : (p ++ [x], true) ∈ En := by
            cases t with
            | nil => exact hq'
            | cons y t => exact up_all ok (y :: t) (p ++ [x]) (by simp) (by simp) (b := true) (by rw [List.append_assoc]; exact hq')
          refine ⟨(p ++ [x], true), by rw [← hLL]; exact kid_in hx, rfl, ⟨t, by simp⟩⟩
      have at_p : upA al2 p D p = D := if_pos rfl
      have at_q : ∀ q, q ≠ p → upA al2 p D q = al2 q := fun q h => if_neg h
      have kq : ∀ q, p <+: q → kids En (upA al2 p D) q = kids En al2 q := fun q h => kids_congrP fun e he _ hdq => at_q _ fun z => by
        have h1 := kid_len (ok.ne e he) hdq
        have h2 := h.length_le
        rw [z] at h1
        omega
      have res := q (upA al2 p D) H1 s1 ⟨fun q hq h => ?_, fun q r hq hr h1 h2 z => ?_⟩ fun q hq h => ?_
      · rw [at_p] at res
        exact res
      · rw [kq q h]
        by_cases hqp : q = p
        · subst hqp
          rw [at_p, c.dict, ← hLL]
          rfl
        · rw [at_q q hqp]
          exact (c.at_ q hq (done q hq h hqp)).1
      · by_cases a : q = p <;> by_cases b : r = p
        · rw [a, b]
        · rw [a, at_p, at_q r b] at z
          exact absurd z.symm (c.at_ r hr (done r hr h2 b)).2.2
        · rw [b, at_p, at_q q a] at z
          exact absurd z (c.at_ q hq (done q hq h1 a)).2.2
        · rw [at_q q a, at_q r b] at z
          exact c.inj q r hq hr (done q hq h1 a) (done r hr h2 b) z
      · by_cases a : q = p
        · rw [a, at_p]
          exact hD
        · rw [at_q q a]
          exact (c.at_ q hq (done q hq h a)).2.1
def spKTree (K : PySem.W.Frag) : Sp := fun vs H Q _ => ∃ p dx l n En al es kvs nw, vs = [.ref p] ∧ KeepG K p dx l n En al es kvs nw H ∧ En.length ≤ 1000 ∧ ∀ al2 H', Same H H' → TreeE En al2 H' → NewT H En al2 → Q (.ref (al2 [])) H'
theorem ok_Keeper_tree (T : Txt K mg) : OkD P w K mg base 13 (mA K "Keeper" "tree") ["self"] [] (spKTree K) := by
  refine okD T.F_Keeper_tree sc_Keeper_tree (fun _ _ _ _ _ _ us hl => match us, hl with | [_], _ => rfl) ?_ ?_
  · rintro vs H Q E ⟨p, dx, l, n, En, al, es, kvs, nw, rfl, _⟩
    rfl
  · rintro cdv A outer s H vs Q E hr ⟨p, dx, l, n, En, al, es, kvs, nw, rfl, ks, hl, q⟩
    refine ⟨_, (pss_one (ps_ret (pe_cal (ok_copied T 10) (hr.mono (by omega)) rfl T.g_copied (pasE (takes_of rfl rfl rfl rfl) (fun _ _ _ _ h => h)) (pa_cons (pe_fldK (K := K) (pv 0) rfl) pa_nil)))), ?_⟩
    have tobj := T.obj
    walk_at "rdh"
    exact ⟨_, _, _, ks.obj, T.c_Keeper, T.n_Keeper_root, _, rfl, En, al, [], rfl, ks.tree.ok, ⟨fun q hq _ => ks.tree.at_ q hq, fun q r a b _ _ => ks.tree.inj q r a b⟩, .inl rfl, rfl, hl, fun al2 H' s t new => q al2 H' s ⟨ks.tree.ok, fun q hq => t.at_ q hq (List.nil_prefix), fun a b ha hb => t.inj a b ha hb List.nil_prefix List.nil_prefix⟩ fun q hq => new q hq List.nil_prefix⟩
section
variable {X : Cx}
theorem md_K_tree (T : Txt K mg) (h1 : X.prog = P := by rfl) (h2 : X.w = w := by rfl) (h3 : X.K = K := by rfl) (h4 : X.mg = mg := by rfl) (h5 : X.base = base := by rfl) : MetD X 13 "tree" (fun (_ : Unit) => KeepV K) (fun _ => spKTree K) := by
  subst h1 h2 h3 h4 h5
  rintro _ x H ⟨p, dx, r, l, n, rfl, hp⟩
  exact ⟨p, _, dx, _, _, _, rfl, hp, T.c_Keeper, T.m_Keeper_tree, rfl, (ok_Keeper_tree T).mono (by decide)⟩
end
/-! ### a folder's list is told -/
theorem each_cons {α : Type} {R : α → V → Hp → Prop} {f : α} {fs : List α} {u : V} {us : List V} {H : Hp} : Each R (f :: fs) (u :: us) H ↔ R f u H ∧ Each R fs us H := by
  constructor
  · rintro ⟨h1, h2⟩
    obtain ⟨u', e, r⟩ := h2 0 f rfl
    cases e
    exact ⟨r, by simpa using h1, fun i g hg => h2 (i + 1) g hg⟩
  · rintro ⟨r, h1, h2⟩
    refine ⟨by simp [h1], fun i g hg => ?_⟩
    cases i with
    | zero => cases hg; exact ⟨u, rfl, r⟩
    | succ i => exact h2 i g hg
def dropE (es : List LE) (fw : List Nat) : List LE := es.filter fun e => !decide (e.1 = fw)
def ruleE (es : List LE) (fw : List Nat) (rs : List RF) : List LE := dropE es fw ++ (if rs = [] then [] else [(fw, rs)])
theorem Lsts.drop {R : RF → V → Hp → Prop} {fw : List Nat} {H : Hp} : ∀ {kvs : List (Key × V)} {es : List LE}, Lsts R es kvs H → Lsts R (dropE es fw) (dropK kvs (.inr (S fw))) H
  | [], es, h => by
    have e : es = [] := List.map_eq_nil_iff.mp h.keys.symm
    subst e
    exact h
  | kv :: kvs, [], h => by cases h.keys
  | kv :: kvs, e :: es, h => by
    have hk := h.keys
    rw [List.map_cons, List.map_cons, List.cons.injEq] at hk
    have hv := h.vals
    rw [List.map_cons, each_cons] at hv
    have ih := Lsts.drop (fw := fw) ⟨hk.2, hv.2⟩
    unfold dropE
    by_cases c : e.1 = fw
    · rw [List.filter_cons, if_neg (by simp [c]), dropK_pos (by rw [hk.1, c])]
      exact ih
    · rw [List.filter_cons, if_pos (by simp [c]), dropK_neg (by rw [hk.1]; exact fun z => c (S_inj (Sum.inr.inj z)))]
      refine ⟨?_, ?_⟩
      · rw [List.map_cons, List.map_cons, hk.1]
        exact congrArg _ ih.keys
      · rw [List.map_cons, each_cons]
        exact ⟨hv.1, ih.vals⟩
theorem drop_val {k : Key} : ∀ {kvs : List (Key × V)}, valV (dropK kvs k) k = none
  | [] => rfl
  | kv :: kvs => by
    by_cases h : kv.1 = k
    · rw [dropK_pos h]
      exact drop_val
    · rw [dropK_neg h, valV_neg h]
      exact drop_val
def spKRule (LE' : List LE → Prop) (K : PySem.W.Frag) : Sp := fun vs H Q E => ∃ p dx l n En al es kvs nw fw F us rs, vs = [.ref p, .str (S fw), .ref F] ∧ fw.length ≤ 1000000 ∧ KeepG K p dx l n En al es kvs nw H ∧ SmallT En ∧ LE' es ∧ H F = some (.lst us) ∧ Each (RowV K) rs us H ∧ rs.length ≤ 60 ∧
  (folderN fw = none → ∀ H', Same H H' → E (.ref (fA K "NoFolder")) none H') ∧
  (∀ ns, folderN fw = some ns → LE' (ruleE es fw rs) ∧ ∀ n' kvs' H', Frm (fpK p l En al) H H' → H n' = none → (∀ q ∈ kvs', q ∈ kvs ∨ ∃ L, q.2 = .ref L ∧ H L = none) →
    KeepG K p dx l n' En al (ruleE es fw rs) kvs' (newsW (nowW (gathS es) En) (nowW (gathS (ruleE es fw rs)) En)) H' → Q .non H')
theorem ok_Keeper_rule (T : Txt K mg) : OkD P w K mg base 16 (mA K "Keeper" "rule") ["self", "folder", "rows"] [] (spKRule LimE K) := by
  refine okD T.F_Keeper_rule sc_Keeper_rule (fun _ _ _ _ _ _ us hl => match us, hl with | [_, _, _], _ => rfl) ?_ ?_
  · rintro vs H Q E ⟨p, dx, l, n, En, al, es, kvs, nw, fw, F, us, rs, rfl, _⟩
    rfl
  · rintro cdv A outer s H vs Q E hr ⟨p, dx, l, n, En, al, es, kvs, nw, fw, F, us, rs, rfl, hfw, ks, sm, lim, hF, each, lrs, q1, q2⟩
    refine ⟨_, (pss_cons (ps_expr (pe_mid (pe_cal (ok_folder_names T) (hr.mono (by decide)) rfl T.g_folder_names (pasE (takes_of rfl rfl rfl rfl) (fun _ _ _ _ h => h)) (pa_cons (pv 1) pa_nil))))
  (pss_cons (ps_set (i := 3) sc_Keeper_rule.nd rfl (Or.inl rfl) (pe_mid (pe_metI0 (md_K_shunned_leaves T) (pv 0) (hr.mono (by decide)) (pasE (takes_of rfl rfl rfl rfl) (fun _ _ _ _ h => h)))))
  (pss_cons (ps_expr (pe_mid (pe_dpop2 (pe_fldK (K := K) (pv 0) rfl) (pv 1) pe_non ⟨by rfl, by rfl, by rfl, by rfl⟩)))
  (pss_cons (ps_mid (ps_if (pt_mid (pt_cmpR o_gt (pe_callB (o_lenW (K := K) (w := w)) (by rfl) T.fr_len boot_len (pa_cons (pv 2) pa_nil)) pe_int (nomark _))) (pss_one (ps_dput (hu_of hr) (pe_fldK (K := K) (pv 0) rfl) (pv 1) (pe_callTy (o_list (K := K) rfl) (by rfl) T.fr_list (by decide +kernel) (pa_cons (pv 2) pa_nil)) rfl)) pss_nil))
  (pss_one (ps_expr (pe_metI (md_K_compared T) (pv 0) (hr.mono (by decide)) (pasE (takes_of rfl rfl rfl rfl) (fun _ _ _ _ h => h)) (pa_cons (pv 3) pa_nil)))))))), ?_⟩
    have tobj := T.obj
    refine q_expr (fun H' => Same H H' ∧ ∃ ns, folderN fw = some ns) ?_ ?_
    · walk_at "rd"
      exact ⟨fw, rfl, hfw, fun ns F' H' h s _ _ => ⟨s, ns, h⟩, fun hn H' s => q1 hn H' s⟩
    rintro H1 ⟨s1, ns, hns⟩
    obtain ⟨lim', q2⟩ := q2 ns hns
    have ks1 := ks.mono s1
    refine q_midG (fun v H' => Same H1 H' ∧ ∃ M, v = .ref M ∧ H1 M = none ∧ H' M = some (.dK ((nowW (gathS es) En).map wbK))) ?_ ?_
    · walk_at "rdh"
      exact ⟨ks1.v, (), p, dx, l, n, En, al, es, kvs, nw, rfl, ks1, sm, lim, fun M H' s hM hM' => ⟨s, M, rfl, hM, hM'⟩⟩
    rintro _ H4 ⟨s4, M, rfl, hMn, hM⟩
    have ks4 := ks1.mono s4
    have hd4 := ks4.dict
    have hF4 := s4 _ _ (s1 _ _ hF)
    refine q_expr (fun H' => H' l = some (.dK (dropK kvs (.inr (S fw)))) ∧ ∀ a, a ≠ l → H' a = H4 a) ?_ ?_
    · unfold tDPop2
      have hobj := ks4.obj
      unfold keepO at hobj
      walk_at "rdh"
      refine ⟨_, rfl, l, rfl, .inl ⟨_, .inl hd4⟩, kvs, hd4, .inr (S fw), rfl, fun v _ => ⟨upd_same, fun a ha => upd_ne ha⟩, fun hno => ?_⟩
      rw [dropK_no (valV_not hno)]
      exact ⟨rfl, fun _ _ => trivial⟩
    rintro H5 ⟨hd5, oth5⟩
    have npl : p ≠ l := fun z => by
      have := ks4.obj
      rw [z, hd4] at this
      cases this
    have nFl : F ≠ l := fun z => by rw [z, hd4] at hF4; cases hF4
    have hobj5 : H5 p = some (keepO K dx (al []) l n) := by rw [oth5 p npl]; exact ks4.obj
    have hF5 : H5 F = some (.lst us) := by rw [oth5 F nFl]; exact hF4
    have fr5 : Frm (· = l) H4 H5 := fun a o e h => by rw [oth5 a h]; exact e
    have im5 : IM K H4 H5 := ks4.im (fr5.sub fun a h => .inl (.inr (.inl h)))
    have ls5 : Lsts (RowV K) (dropE es fw) (dropK kvs (.inr (S fw))) H5 := (ks4.rul.frm (fun a us _ e => fr5 _ _ e fun z => by rw [z, hd4] at e; cases e) fun _ _ d => d.im im5).drop
    refine q_stm (fun σ H' => ∃ kvs', H' l = some (.dK kvs') ∧ (∀ a, a ≠ l → H4 a ≠ none → H' a = H4 a) ∧ (∀ q ∈ kvs', q ∈ kvs ∨ ∃ L, q.2 = .ref L ∧ H4 L = none) ∧ Lsts (RowV K) (ruleE es fw rs) kvs' H' ∧ σ = [some (.ref p), some (.str (S fw)), some (.ref F), some (.ref M)]) ?_ ?_
    · refine l_if (fun b H' => H' = H5 ∧ b = !decide (rs = [])) ?_ (fun H6 h => ?_) fun H6 h => ?_
      · walk_at "rd"
        refine .inr ⟨_, .inl ⟨_, .inl (.inl hF5), rfl⟩, ?_⟩
        rw [each.1]
        cases rs <;> simp
      · obtain ⟨rfl, hb⟩ := h
        have hne : rs ≠ [] := by simpa using hb
        unfold keepO at hobj5
        walk_at "rd"
        refine ⟨us, .inl (.inl (.inl hF5)), fun L hL => ?_⟩
        have sL := same_new (o := .lst us) hL
        have hd6 := sL _ _ hd5
        refine ⟨_, _, _, sL _ _ hobj5, T.c_Keeper, T.n_Keeper_rulings, _, rfl, l, rfl, _, dput_s hd6 (by have := dropK_le kvs (.inr (S fw)); have := ks4.rul.len; have := (lim_len lim).1; omega), ?_⟩
        have hL4 : H4 L = none := by
          by_cases z : L = l
          · rw [z, hd5] at hL
            cases hL
          · rw [← oth5 L z]
            exact hL
        have nLl : L ≠ l := fun z => by rw [z, hd5] at hL; cases hL
        have ls6 := (ls5.mono sL fun _ _ d => d.mono sL)
        have each6 : Each (RowV K) rs us (upd H6 L (.lst us)) := each.imp fun _ _ d => ((((d.mono s1).mono s4).im im5).mono sL)
        have hput : putK (dropK kvs (.inr (S fw))) (.inr (S fw)) (.ref L) = dropK kvs (.inr (S fw)) ++ [(.inr (S fw), .ref L)] := putK_new _ drop_val
        refine ⟨_, upd_same, fun a h1 h2 => ?_, fun q hq => ?_, ?_⟩
        · rw [upd_ne h1, upd_ne fun z => h2 (by rw [z]; exact hL4)]
          exact oth5 a h1
        · rw [hput] at hq
          rcases List.mem_append.mp hq with h | h
          · exact .inl (List.mem_filter.mp h).1
          · rw [List.mem_singleton.mp h]
            exact .inr ⟨L, rfl, hL4⟩
        · have ls7 := ls6.put (f := fw) (rs := rs) hd6 upd_same each6 fun g u d => d.nd (ND.dict hd6)
          rw [putE_new fun e he => by simpa using (List.mem_filter.mp he).2] at ls7
          unfold ruleE
          rw [if_neg hne]
          exact ls7
      · obtain ⟨rfl, hb⟩ := h
        have hnil : rs = [] := by simpa using hb
        refine ⟨_, hd5, fun a h1 _ => oth5 a h1, fun q hq => .inl (List.mem_filter.mp hq).1, ?_, rfl⟩
        unfold ruleE
        rw [if_pos hnil, List.append_nil]
        exact ls5
    rintro σ H6 ⟨kvs', hd6, oth, fresh, ls6, rfl⟩
    have fr6 : Frm (· = l) H4 H6 := fun a o e h => by rw [oth a h (by rw [e]; exact fun z => nomatch z)]; exact e
    have ks6 : KeepG K p dx l n En al (ruleE es fw rs) kvs' nw H6 := ⟨fr6 _ _ ks4.obj npl, ks4.tree.frm fr6 fun q hq => ks4.sep q hq, hd6, ls6, fr6 _ _ ks4.news (fun z => by have := ks4.news; rw [z, hd4] at this; cases this), ks4.sep⟩
    have hM6 : H6 M = some (.dK ((nowW (gathS es) En).map wbK)) := fr6 _ _ hM fun z => by rw [z, ks1.dict] at hMn; cases hMn
    walk_at "rd"
    refine ⟨ks6.v, (), p, dx, l, n, En, al, _, kvs', nw, M, _, rfl, ks6, sm, lim', hM6, fun n' H7 b7 hn' ks7 => ?_⟩
    have s04 := s1.trans s4
    refine q2 n' kvs' H7 ?_ ?_ (fun q hq => (fresh q hq).imp id fun ⟨L, e, h⟩ => ⟨L, e, same_none s04 h⟩) ks7
    · exact (Frm.of s04).trans ((fr6.sub fun a h => .inl (.inr (.inl h))).trans fun a o e ha => b7 a o (fun z => ha (.inl z)) e)
    · refine same_none s04 ?_
      by_cases z : n' = l
      · rw [z, hd6] at hn'
        cases hn'
      · cases e : H4 n' with
        | none => rfl
        | some o => rw [oth n' z (by rw [e]; exact fun z => nomatch z), e] at hn'; cases hn'
section
variable {X : Cx}
theorem md_K_rule (T : Txt K mg) (h1 : X.prog = P := by rfl) (h2 : X.w = w := by rfl) (h3 : X.K = K := by rfl) (h4 : X.mg = mg := by rfl) (h5 : X.base = base := by rfl) : MetD X 16 "rule" (fun (_ : Unit) => KeepV K) (fun _ => spKRule LimE K) := by
  subst h1 h2 h3 h4 h5
  rintro _ x H ⟨p, dx, r, l, n, rfl, hp⟩
  exact ⟨p, _, dx, _, _, _, rfl, hp, T.c_Keeper, T.m_Keeper_rule, rfl, (ok_Keeper_rule T).mono (by decide)⟩
end
/-! ### lists in folders: going down by them -/
theorem fit_ones : ∀ {x w : List Nat}, Fit (x.map PF.one) w ↔ w = x
  | [], w => Iff.rfl
  | c :: x, w => by
    rw [List.map_cons, fit_one rfl]
    constructor
    · rintro ⟨d, v, rfl, h, g⟩
      have h : d = c := of_decide_eq_true h
      rw [h, fit_ones.mp g]
    · rintro rfl
      exact ⟨c, x, rfl, decide_eq_true rfl, fit_ones.mpr rfl⟩
theorem fitB_oneS {x nm : List Nat} : SF.fitB (oneS x) nm = true ↔ nm = x := fitB_iff.trans fit_ones
theorem rfit_ones {ss : List SF} : ∀ {ns nms : Names}, RFit (ns.map oneS ++ ss) nms ↔ ∃ v, nms = ns ++ v ∧ RFit ss v
  | [], nms => ⟨fun h => ⟨nms, rfl, h⟩, fun ⟨v, e, h⟩ => by rw [e]; exact h⟩
  | x :: ns, nms => by
    rw [List.map_cons, List.cons_append]
    refine (fitG_one (m := SF.deepB) rfl).trans ?_
    constructor
    · rintro ⟨c, v, rfl, h, g⟩
      obtain ⟨v', rfl, g'⟩ := rfit_ones.mp g
      exact ⟨v', by rw [fitB_oneS.mp h]; rfl, g'⟩
    · rintro ⟨v, rfl, g⟩
      exact ⟨x, ns ++ v, rfl, fitB_oneS.mpr rfl, rfit_ones.mpr ⟨v, rfl, g⟩⟩
theorem deeps_nil {ss : List SF} (h : NoTwoD ss) (hne : ss ≠ []) (g : RFit ss []) : ss = [.deep] := by
  match ss, h, hne, g with
  | .seg fs :: r, _, _, g =>
    obtain ⟨c, v, e, _⟩ := (fitG_one (m := SF.deepB) rfl).mp g
    cases e
  | [.deep], _, _, _ => rfl
  | .deep :: .deep :: r, h, _, _ => exact absurd ⟨rfl, rfl⟩ h.1
  | .deep :: .seg fs :: r, _, _, g =>
    obtain ⟨u, v, e, g⟩ := (fitG_star (m := SF.deepB) rfl).mp g
    obtain ⟨rfl, rfl⟩ := List.append_eq_nil_iff.mp e.symm
    obtain ⟨c, v, e, _⟩ := (fitG_one (m := SF.deepB) rfl).mp g
    cases e
theorem rfit_tail {ns v : Names} {ss : List SF} (h : NoTwoD ss) (hne : ss ≠ []) (hv : ns ≠ [] ∨ v ≠ []) : RFit (ss ++ (if ns ≠ [] ∧ ss = [SF.deep] then [SF.seg [.stars]] else [])) v ↔ v ≠ [] ∧ RFit ss v := by
  by_cases hc : ns ≠ [] ∧ ss = [SF.deep]
  · rw [if_pos hc, hc.2]
    constructor
    · intro g
      obtain ⟨u, w, rfl, g2⟩ := (fitG_star (m := SF.deepB) (ft := SF.fitB) (f := .deep) (fs := [SF.seg [.stars]]) rfl).mp g
      obtain ⟨c, x, rfl, _, _⟩ := (fitG_one (m := SF.deepB) (ft := SF.fitB) (f := SF.seg [.stars]) (fs := []) rfl).mp g2
      exact ⟨by simp, (fitG_star (m := SF.deepB) rfl).mpr ⟨_, [], (List.append_nil _).symm, rfl⟩⟩
    · rintro ⟨hv, _⟩
      refine (fitG_star (m := SF.deepB) rfl).mpr ⟨v.dropLast, [v.getLast hv], (List.dropLast_concat_getLast hv).symm, (fitG_one (m := SF.deepB) rfl).mpr ⟨_, [], rfl, ?_, rfl⟩⟩
      exact fitB_iff.mpr ((fit_star rfl).mpr ⟨_, [], (List.append_nil _).symm, rfl⟩)
  · rw [if_neg hc, List.append_nil]
    refine ⟨fun g => ⟨fun e => ?_, g⟩, fun g => g.2⟩
    rw [e] at g hv
    have := deeps_nil h hne g
    exact hc ⟨hv.elim id fun z => absurd rfl z, this⟩
theorem fit_placed {ns nms : Names} {r : RF} {fo : Bool} (ok : r.Ok) (hne : nms ≠ []) : rfit nms fo (placedR ns r) = (decide (ns.length < nms.length ∧ nms.take ns.length = ns) && rfit (nms.drop ns.length) fo r) := by
  refine Bool.eq_iff_iff.mpr ?_
  unfold rfit
  rw [Bool.and_eq_true, Bool.and_eq_true, Bool.and_eq_true, decide_eq_true_iff, fitGB_iff, fitGB_iff]
  have e1 : (placedR ns r).folders = r.folders := rfl
  have e2 : (placedR ns r).steps = ns.map oneS ++ (r.steps ++ (if ns ≠ [] ∧ r.steps = [SF.deep] then [SF.seg [.stars]] else [])) := rfl
  rw [e1, e2, show FitG SF.deepB SF.fitB (ns.map oneS ++ (r.steps ++ (if ns ≠ [] ∧ r.steps = [SF.deep] then [SF.seg [.stars]] else []))) nms ↔ _ from rfit_ones]
  constructor
  · rintro ⟨h1, v, rfl, g⟩
    have hv : ns ≠ [] ∨ v ≠ [] := by
      by_cases h : ns = []
      · exact .inr fun z => hne (by rw [h, z]; rfl)
      · exact .inl h
    obtain ⟨h2, h3⟩ := (rfit_tail ok.two ok.ne hv).mp g
    refine ⟨⟨?_, by rw [List.take_left']; rfl⟩, h1, by rw [List.drop_left' rfl]; exact h3⟩
    have := List.length_pos_iff.mpr h2
    rw [List.length_append]
    omega
  · rintro ⟨⟨h1, h2⟩, h3, h4⟩
    have hv : nms.drop ns.length ≠ [] := fun z => by
      have := congrArg List.length z
      rw [List.length_drop] at this
      simp at this
      omega
    exact ⟨h3, nms.drop ns.length, by conv => lhs; rw [← List.take_append_drop ns.length nms, h2], (rfit_tail ok.two ok.ne (.inr hv)).mpr ⟨hv, h4⟩⟩
/-! the last that fits, of lists one behind the other -/
theorem lastN_is (p : RF → Bool) (A : List RF) : IsLast p A (lastN p A) := hits_last
theorem lastN_app {p : RF → Bool} {A B : List RF} : lastN p (A ++ B) = match lastN p B with
  | some k => some (A.length + k)
  | none => lastN p A := by
  refine (last_is ?_).symm
  have hB := lastN_is p B
  have hA := lastN_is p A
  cases h : lastN p B with
  | some k =>
    rw [h] at hB
    obtain ⟨r, hr, pr⟩ := hB.1 k rfl
    refine ⟨fun i e => ?_, fun j r hj pj => ⟨_, rfl, ?_⟩⟩
    · cases e
      exact ⟨r, by rw [List.getElem?_append_right (Nat.le_add_right _ _), Nat.add_sub_cancel_left]; exact hr, pr⟩
    · by_cases hl : j < A.length
      · omega
      · rw [List.getElem?_append_right (by omega)] at hj
        obtain ⟨i, e, hi⟩ := hB.2 _ _ hj pj
        cases e
        omega
  | none =>
    rw [h] at hB
    refine ⟨fun i e => ?_, fun j r hj pj => ?_⟩
    · obtain ⟨r, hr, pr⟩ := hA.1 i e
      exact ⟨r, by rw [List.getElem?_append_left (List.getElem?_eq_some_iff.mp hr).1]; exact hr, pr⟩
    · by_cases hl : j < A.length
      · rw [List.getElem?_append_left hl] at hj
        exact hA.2 _ _ hj pj
      · rw [List.getElem?_append_right (by omega)] at hj
        obtain ⟨i, e, _⟩ := hB.2 _ _ hj pj
        cases e
theorem lastN_map {p : RF → Bool} {f : RF → RF} {A : List RF} : lastN p (A.map f) = lastN (fun r => p (f r)) A := by
  refine (last_is ⟨fun i e => ?_, fun j r hj pj => ?_⟩).symm
  · obtain ⟨r, hr, pr⟩ := (lastN_is (fun r => p (f r)) A).1 i e
    exact ⟨f r, by rw [List.getElem?_map, hr]; rfl, pr⟩
  · rw [List.getElem?_map] at hj
    obtain ⟨r', hr', rfl⟩ := Option.map_eq_some_iff.mp hj
    exact (lastN_is (fun r => p (f r)) A).2 j r' hr' pj
theorem lastN_congr {p q : RF → Bool} {A : List RF} (h : ∀ r ∈ A, p r = q r) : lastN p A = lastN q A := by
  refine last_is ⟨fun i e => ?_, fun j r hj pj => ?_⟩
  · obtain ⟨r, hr, pr⟩ := (lastN_is p A).1 i e
    exact ⟨r, hr, by rw [← h r (List.mem_of_getElem? hr)]; exact pr⟩
  · exact (lastN_is p A).2 j r hj (by rw [h r (List.mem_of_getElem? hj)]; exact pj)
theorem lastN_false {p : RF → Bool} {A : List RF} (h : ∀ r ∈ A, p r = false) : lastN p A = none := by
  cases e : lastN p A with
  | none => rfl
  | some k =>
    obtain ⟨r, hr, pr⟩ := (lastN_is p A).1 k e
    rw [h r (List.mem_of_getElem? hr)] at pr
    cases pr
def foldNs (e : LE) : Names := (folderN e.1).getD []
/-- the row of a folder's list that decides -/
def decE (nms : Names) (fo : Bool) (e : LE) : Option Nat := if (foldNs e).length < nms.length ∧ nms.take (foldNs e).length = foldNs e then lastN (rfit (nms.drop (foldNs e).length) fo) e.2 else none
def decF (nms : Names) (fo : Bool) : List LE → Option (LE × Nat)
  | [] => none
  | e :: r => match decF nms fo r with
    | some x => some x
    | none => (decE nms fo e).map fun k => (e, k)
theorem decE_last {nms : Names} {fo : Bool} {e : LE} (ok : ∀ r ∈ e.2, r.Ok) (hne : nms ≠ []) : lastN (rfit nms fo) (e.2.map (placedR (foldNs e))) = decE nms fo e := by
  rw [lastN_map]
  unfold decE
  by_cases h : (foldNs e).length < nms.length ∧ nms.take (foldNs e).length = foldNs e
  · rw [if_pos h]
    exact lastN_congr fun r hr => by rw [fit_placed (ok r hr) hne, decide_eq_true h, Bool.true_and]
  · rw [if_neg h]
    exact lastN_false fun r hr => by rw [fit_placed (ok r hr) hne, decide_eq_false h, Bool.false_and]
theorem decE_at {nms : Names} {fo : Bool} {e : LE} {k : Nat} (h : decE nms fo e = some k) : ∃ r, e.2[k]? = some r := by
  unfold decE at h
  split at h
  · obtain ⟨r, hr, _⟩ := (lastN_is _ e.2).1 k h
    exact ⟨r, hr⟩
  · cases h
/-- the number of a row of a folder's list, in the list gathered -/
def flatI (e : LE) (k : Nat) : List LE → Nat
  | [] => k
  | x :: r => if x.1 = e.1 then k else x.2.length + flatI e k r
theorem decF_mem {nms : Names} {fo : Bool} {e : LE} {k : Nat} : ∀ {es : List LE}, decF nms fo es = some (e, k) → e ∈ es ∧ decE nms fo e = some k
  | x :: r, h => by
    unfold decF at h
    cases h1 : decF nms fo r with
    | some y =>
      rw [h1] at h
      cases h
      obtain ⟨a, b⟩ := decF_mem h1
      exact ⟨List.mem_cons_of_mem _ a, b⟩
    | none =>
      rw [h1] at h
      obtain ⟨k', hk, e'⟩ := Option.map_eq_some_iff.mp h
      cases e'
      exact ⟨List.mem_cons_self, hk⟩
theorem gathR_cons {e : LE} {r : List LE} : gathR (e :: r) = e.2.map (placedR (foldNs e)) ++ gathR r := rfl
theorem dec_last {nms : Names} {fo : Bool} (hne : nms ≠ []) : ∀ {es : List LE}, (∀ e ∈ es, ∀ r ∈ e.2, r.Ok) → (es.map (·.1)).Nodup → lastN (rfit nms fo) (gathR es) = (decF nms fo es).map fun x => flatI x.1 x.2 es
  | [], _, _ => rfl
  | e :: r, ok, nd => by
    obtain ⟨n1, n2⟩ := List.nodup_cons.mp nd
    rw [gathR_cons, lastN_app, dec_last hne (fun x hx => ok x (List.mem_cons_of_mem _ hx)) n2, decE_last (ok e List.mem_cons_self) hne]
    show _ = (match decF nms fo r with
      | some x => some x
      | none => (decE nms fo e).map fun k => (e, k)).map _
    cases h : decF nms fo r with
    | some x =>
      have hx : x.1 ∈ r := (decF_mem (e := x.1) (k := x.2) h).1
      have hn : e.1 ≠ x.1.1 := fun z => n1 (List.mem_map.mpr ⟨x.1, hx, z.symm⟩)
      show some _ = some _
      rw [List.length_map]
      show _ = some (if e.1 = x.1.1 then x.2 else e.2.length + flatI x.1 x.2 r)
      rw [if_neg hn]
    | none =>
      show decE nms fo e = _
      cases decE nms fo e with
      | none => rfl
      | some k =>
        show some k = some (if e.1 = e.1 then k else _)
        rw [if_pos rfl]
theorem flatI_at {e : LE} {k : Nat} : ∀ {es : List LE}, (es.map (·.1)).Nodup → e ∈ es → ∀ {r : RF}, e.2[k]? = some r → (gathR es)[flatI e k es]? = some (placedR (foldNs e) r)
  | x :: t, nd, he, r, hr => by
    obtain ⟨n1, n2⟩ := List.nodup_cons.mp nd
    rw [gathR_cons]
    unfold flatI
    rcases List.mem_cons.mp he with rfl | he
    · rw [if_pos rfl, List.getElem?_append_left (by rw [List.length_map]; exact (List.getElem?_eq_some_iff.mp hr).1), List.getElem?_map, hr]
      rfl
    · have hn : x.1 ≠ e.1 := fun z => n1 (List.mem_map.mpr ⟨e, he, z.symm⟩)
      rw [if_neg hn, List.getElem?_append_right (by rw [List.length_map]; exact Nat.le_add_right _ _), List.length_map, Nat.add_sub_cancel_left]
      exact flatI_at n2 he hr
/-- whether a row that decides shuns -/
def stopF (o : Option (LE × Nat)) : Bool := match o with
  | some x => match x.1.2[x.2]? with
    | some r => !r.spares
    | none => false
  | none => false
theorem stop_gath {nms : Names} {fo : Bool} {es : List LE} (hne : nms ≠ []) (ok : ∀ e ∈ es, ∀ r ∈ e.2, r.Ok) (nd : (es.map (·.1)).Nodup) : stops (gathR es) (lastN (rfit nms fo) (gathR es)) = stopF (decF nms fo es) := by
  rw [dec_last hne ok nd]
  cases h : decF nms fo es with
  | none => rfl
  | some x =>
    obtain ⟨he, hk⟩ := decF_mem (e := x.1) (k := x.2) h
    obtain ⟨r, hr⟩ := decE_at hk
    show stops (gathR es) (some (flatI x.1 x.2 es)) = stopF (some x)
    unfold stops stopF
    simp only [flatI_at nd he hr, hr]
    rfl
def stepF (es : List LE) (nms : Names) (fo : Bool) (m : Nat) : Option (LE × Nat) := decF (nms.take m) (fo || decide (m < nms.length)) es
/-- going down by lists in folders: whether a path is shunned, and what decides -/
def shF (es : List LE) (nms : Names) (fo : Bool) : Bool := (List.range nms.length).any fun k => stopF (stepF es nms fo (k + 1))
def dnF (es : List LE) (nms : Names) (fo : Bool) : Option (LE × Nat) := match (List.range nms.length).find? fun k => stopF (stepF es nms fo (k + 1)) with
  | some k => stepF es nms fo (k + 1)
  | none => stepF es nms fo nms.length
theorem step_gath {es : List LE} {nms : Names} {fo : Bool} {k : Nat} (hk : k < nms.length) (ok : ∀ e ∈ es, ∀ r ∈ e.2, r.Ok) (nd : (es.map (·.1)).Nodup) : stops (gathR es) (stepN (gathR es) nms fo (k + 1)) = stopF (stepF es nms fo (k + 1)) ∧ stepN (gathR es) nms fo (k + 1) = (stepF es nms fo (k + 1)).map fun x => flatI x.1 x.2 es := by
  have hne : nms.take (k + 1) ≠ [] := fun z => by
    have := congrArg List.length z
    rw [List.length_take, List.length_nil] at this
    omega
  exact ⟨stop_gath hne ok nd, dec_last hne ok nd⟩
theorem sh_gath {es : List LE} {nms : Names} {fo : Bool} (ok : ∀ e ∈ es, ∀ r ∈ e.2, r.Ok) (nd : (es.map (·.1)).Nodup) : shB (gathR es) nms fo = shF es nms fo := by
  unfold shB shF
  refine Bool.eq_iff_iff.mpr ?_
  rw [List.any_eq_true, List.any_eq_true]
  exact exists_congr fun k => and_congr_right fun hk => by rw [(step_gath (List.mem_range.mp hk) ok nd).1]
/-! empty lists count for nothing -/
def fullE (es : List LE) : List LE := es.filter fun e => !decide (e.2 = [])
theorem decF_full {nms : Names} {fo : Bool} : ∀ {es : List LE}, decF nms fo (fullE es) = decF nms fo es
  | [] => rfl
  | e :: r => by
    unfold fullE
    rw [List.filter_cons]
    by_cases h : e.2 = []
    · rw [if_neg (by simp [h])]
      have hd : decE nms fo e = none := by
        unfold decE
        split
        · rw [h]
          rfl
        · rfl
      show decF nms fo (fullE r) = _
      rw [decF_full]
      show _ = (match decF nms fo r with
        | some x => some x
        | none => (decE nms fo e).map fun k => (e, k))
      rw [hd]
      cases decF nms fo r <;> rfl
    · rw [if_pos (by simp [h])]
      show (match decF nms fo (fullE r) with
        | some x => some x
        | none => (decE nms fo e).map fun k => (e, k)) = _
      rw [decF_full]
      rfl
theorem shF_full {es : List LE} {nms : Names} {fo : Bool} : shF (fullE es) nms fo = shF es nms fo := by
  unfold shF stepF
  simp only [decF_full]
theorem srtL_full {es : List LE} (nd : (es.map (·.1)).Nodup) : srtL (fullE es) = fullE (srtL es) := by
  have h := srtL_ok es
  have nd' : ((fullE es).map (·.1)).Nodup := nd.sublist (List.filter_sublist.map _)
  exact (srtL_eq nd' ⟨h.1.filter _, h.2.sublist List.filter_sublist⟩).symm
theorem srtL_perm {es es' : List LE} (nd : (es.map (·.1)).Nodup) (p : es'.Perm es) : srtL es' = srtL es := by
  have h := srtL_ok es'
  exact srtL_eq nd ⟨h.1.trans p, h.2⟩
/-- the keeper's lists, gathered, tell what going down by the law's lists tells -/
theorem sh_lists {es el : List LE} {nms : Names} {fo : Bool} (ok : ∀ e ∈ el, ∀ r ∈ e.2, r.Ok) (nd : (el.map (·.1)).Nodup) (p : es.Perm (fullE el)) : shB (gathS es) nms fo = shF (srtL el) nms fo := by
  have nd' : ((fullE el).map (·.1)).Nodup := nd.sublist (List.filter_sublist.map _)
  unfold gathS
  rw [srtL_perm nd' p, srtL_full nd, ← shF_full (es := srtL el)]
  have q := (srtL_ok el).1
  refine sh_gath (fun e he => ok e (q.mem_iff.mp (List.mem_filter.mp he).1)) ?_
  exact (((q.map _).nodup_iff).mpr nd).sublist (List.filter_sublist.map _)
theorem decF_drop {nms : Names} {fo : Bool} {x : LE × Nat} : ∀ {n : Nat} {es : List LE}, decF nms fo (es.drop n) = some x → decF nms fo es = some x
  | 0, _, h => by rwa [List.drop_zero] at h
  | n + 1, [], h => by cases h
  | n + 1, e :: r, h => by
    have h' : decF nms fo r = some x := decF_drop (n := n) h
    show (match decF nms fo r with
      | some x => some x
      | none => (decE nms fo e).map fun k => (e, k)) = _
    rw [h']
/-! lists of texts compared -/
theorem eqv_txts : ∀ (a b : Names), PyData.eqvAll (a.map fun w => .str (S w)) (b.map fun w => .str (S w)) = decide (a = b)
  | [], [] => rfl
  | [], _ :: _ => rfl
  | _ :: _, [] => rfl
  | x :: a, y :: b => by
    show ((S x == S y) && PyData.eqvAll (a.map fun w => .str (S w)) (b.map fun w => .str (S w))) = _
    rw [eqv_txts a b]
    by_cases h : x = y
    · rw [h]
      simp
    · have : (S x == S y) = false := by
        rw [beq_eq_false_iff_ne]
        exact fun z => h (S_inj z)
      rw [this, Bool.false_and]
      exact (decide_eq_false fun z => h (List.cons.inj z).1).symm
theorem eq_txts {H : Hp} {p q : Addr} {a b : Names} {Q : VK} (h1 : SqL K H p (nmsV a)) (h2 : SqL K H q (nmsV b)) (oa : ∀ w ∈ a, PyData.strOk (S w) = true) (ob : ∀ w ∈ b, PyData.strOk (S w) = true) (k : Q (.bl (decide (a = b))) H) : rEqR K (.ref p) (.ref q) H Q := by
  refine .inl ⟨_, _, txts_dp h1, txts_dp h2, (txts_ok oa).shaped (by decide), (txts_ok ob).shaped (by decide), ?_⟩
  rw [show PyData.eqv (.list (a.map fun w => .str (S w))) (.list (b.map fun w => .str (S w))) = _ from eqv_txts a b]
  exact k
theorem sig_ok {w : List Nat} (h : ∀ c ∈ w, c ∈ SIG) : PyData.strOk (S w) = true := by
  have k : ∀ c ∈ SIG, c < 128 := by decide +kernel
  unfold PyData.strOk
  rw [← Array.all_toList, List.all_eq_true]
  exact fun c hc => decide_eq_true (Nat.lt_trans (k c (h c hc)) (by decide))

/-! ### the law's own going down by lists in folders -/
def FndV (o : Option (LE × Nat)) (u : V) (H : Hp) : Prop := match o with
  | none => u = .non
  | some x => ∃ t, u = .ref t ∧ H t = some (.tup [.str (S x.1.1), .int (x.2 : Nat)])
theorem FndV.mono {o : Option (LE × Nat)} {u : V} {H H' : Hp} (h : FndV o u H) (s : Same H H') : FndV o u H' := by
  cases o with
  | none => exact h
  | some x => obtain ⟨t, a, b⟩ := h; exact ⟨t, a, s _ _ b⟩
def spDecides (K : PySem.W.Frag) : Sp := fun vs H Q _ => ∃ d es kvs n nms fo, vs = [.ref d, .ref n, .bl fo] ∧ H d = some (.dK kvs) ∧ Lsts (FmV K) es kvs H ∧ LEG es 62 ∧ SqL K H n (nmsV nms) ∧ nms ≠ [] ∧ nms.length ≤ 60 ∧ (∀ nm ∈ nms, nm ≠ [] ∧ nm.length ≤ 400 ∧ ∀ c ∈ nm, c ∈ SIG) ∧
  ∀ u H', Same H H' → FndV (decF nms fo (srtL es)) u H' → Q u H'
theorem ok__law_decides (T : Txt K mg) : OkD P w K mg base 4 (fA K "_law_decides") ["_law_lists", "_law_names_here", "_law_folder"] [] (spDecides K) := by
  refine okD T.F__law_decides sc__law_decides (fun _ _ _ _ _ _ us hl => match us, hl with | [_, _, _], _ => rfl) ?_ ?_
  · rintro vs H Q E ⟨d, es, kvs, n, nms, fo, rfl, _⟩
    rfl
  · rintro cdv A outer s H vs Q E hr ⟨d, es, kvs, n, nms, fo, rfl, hd, hl, ok, hn, hne, ln, lnm, q⟩
    refine ⟨_, (pss_cons (ps_mid (ps_for (passes_of rfl) rfl (pi_mid (o_it (K := K) rfl (pe_rev (K := K) (pe_cal (ok__law_ranked T) (hr.mono (by decide)) rfl T.g__law_ranked (pasE (takes_of rfl rfl rfl rfl) (fun _ _ _ _ h => h)) (pa_cons (pv 0) pa_nil))))) (pg_name (i := 3) sc__law_decides.nd rfl (Or.inl rfl)) (pss_cons (ps_asg (pe_mid (pe_cal (ok__law_cut T) (hr.mono (by decide)) rfl T.g__law_cut (pasE (takes_of rfl rfl rfl rfl) (fun _ _ _ _ h => h)) (pa_cons (pv 3) pa_nil))) (pg_tup rfl (pgs_cons (pg_name (i := 4) sc__law_decides.nd rfl (Or.inr rfl)) (pgs_cons (pg_name (i := 5) sc__law_decides.nd rfl (Or.inl rfl)) pgs_nil))))
  (pss_one (ps_if (pt_mid (PW.pt (pw_and (pt_cmpR o_lt (pe_callB (o_lenW (K := K) (w := w)) (by rfl) T.fr_len boot_len (pa_cons (pv 4) pa_nil)) (pe_callB (o_lenW (K := K) (w := w)) (by rfl) T.fr_len boot_len (pa_cons (pv 1) pa_nil)) (nomark _)) (pw_and1 (pt_cmpR (o_eq (K := K) (hu64 hr)) (pe_slice (o_sl (K := K)) (pv 1) po_none (po_some (pe_callB (o_lenW (K := K) (w := w)) (by rfl) T.fr_len boot_len (pa_cons (pv 4) pa_nil)))) (pv 4) (nomark _)))))) (pss_cons (ps_set (i := 6) sc__law_decides.nd rfl (Or.inr rfl) (pe_mid (pe_dget (hu_of hr) (pv 0) (pv 3) (fun _ _ => rfl))))
  (pss_cons (ps_setLc (own := [("_law_k", 8)]) (g := (gName 8)) (i := 7) rfl sc__law_decides.nd rfl rfl (sw_true rfl rfl rfl (by decide +kernel)) (pi_mid (pi_range1 rfl T.fr_range (pa_cons (pe_callB (o_lenW (K := K) (w := w)) (by rfl) T.fr_len boot_len (pa_cons (pv 6) pa_nil)) pa_nil))) (blkOk_by (N := N__law_decides) (sc := defScope TX.s__law_decides) (by decide +kernel)) (fun _ _ _ _ _ => (pg_name (i := 8) sc__law_decides.nd rfl (Or.inl rfl))) (fun _ _ _ _ _ => (pts_one (pt_mid (pt_tru (K := K) (pe_cal (ok__law_fits T) (hr.mono (by decide)) rfl T.g__law_fits pasN (pa_cons (pe_ix (o_ix (K := K)) (pv 6) (pv 8) (fun _ _ => rfl)) (pa_cons (pe_slice (o_sl (K := K)) (pv 1) (po_some (pe_callB (o_lenW (K := K) (w := w)) (by rfl) T.fr_len boot_len (pa_cons (pv 4) pa_nil))) po_none) (pa_cons (pv 2) pa_nil)))) (by intro _; rfl))))) (fun _ _ _ _ _ => (pe_mid (pv 8))))
  (pss_one (ps_if (pt_mid (pt_cmpR (o_ne (K := K) (hu64 hr)) (pv 7) (pe_lst pa_nil) (nomark _))) (pss_one (ps_ret (pe_tup (pa_cons (pv 3) (pa_cons (pe_ix (o_ix (K := K)) (pv 7) (pe_un un_neg pe_int) (fun _ _ => rfl)) pa_nil))))) pss_nil)))) pss_nil)))))
  (pss_one (ps_ret pe_non))), ?_⟩
    have tobj := T.obj
    have ns5 := srtL_ok es
    have hok : ∀ e ∈ srtL es, e ∈ es := fun e he => ns5.1.mem_iff.mp he
    have lS : (srtL es).length = es.length := ns5.1.length_eq
    have l5 := ok.len
    refine q_stm (fun σ H' => Same H H' ∧ decF nms fo (srtL es) = none) ?_ ?_
    · refine for_open (fun J H' => ∃ L, J = Itl K L ∧ Same H H' ∧ H' L = some (.lst (nmsV ((srtL es).map (·.1)).reverse))) ?_ ?_
      · walk_at "rd"
        refine ⟨d, es, kvs, rfl, hd, hl, ok, fun p es' H' srt s hp hp' => ?_⟩
        obtain rfl := srtL_eq ok.nd srt
        refine .inr ⟨_, .inl (.inl hp'), fun p2 hp2 => .inl ⟨⟨_, .inl (.inl upd_same)⟩, p2, rfl, s.trans (same_new hp2), ?_⟩⟩
        rw [upd_same]
        unfold nmsV
        rw [List.map_reverse, List.map_reverse]
      rintro _ H1 ⟨L, rfl, s1, hL⟩
      refine for_mid (J0 := Itl K L) (H0 := H1) ⟨rfl, rfl⟩ (walk_list (K := K) (a := L) (xs := nmsV ((srtL es).map (·.1)).reverse)) (fun k σ H' => Same H1 H' ∧ decF nms fo ((srtL es).drop ((srtL es).length - k)) = none ∧ ∃ x3 x4 x5 x6 x7 x8, σ = [some (.ref d), some (.ref n), some (.bl fo), x3, x4, x5, x6, x7, x8])
        ⟨Same.refl _, by rw [Nat.sub_zero, List.drop_length]; rfl, _, _, _, _, _, _, rfl⟩ (fun _ _ _ _ h => .inl (.inl (h.1 _ _ hL))) ?_ (fun σ H' h => ?_)
      · rintro k x σ H2 H2' hk ⟨s2, hdec, x3, x4, x5, x6, x7, x8, rfl⟩ ⟨rfl, hx⟩
        rw [nms_len, List.length_reverse, List.length_map] at hk
        obtain ⟨ft, hft, rfl⟩ := nms_at hx
        rw [List.getElem?_reverse (by rw [List.length_map]; exact hk), List.length_map, List.getElem?_map] at hft
        obtain ⟨e, he, rfl⟩ := Option.map_eq_some_iff.mp hft
        have heS := hok e (List.mem_of_getElem? he)
        obtain ⟨j, hj⟩ := List.mem_iff_getElem?.mp heS
        obtain ⟨fn, e1, lfn, fok⟩ := ok.fold e heS
        have efn : foldNs e = fn := by
          unfold foldNs
          rw [e1, fold_names fun nm h => ⟨(fok nm h).1, (fok nm h).2.2⟩]
          rfl
        have cut : CutP e.1 fn true := by
          rw [e1]
          by_cases h : fn = []
          · rw [h]
            exact cut_nil
          · exact GoodP.cut ⟨by rw [foldT_join h]; rfl, h, by omega, fok⟩
        have tk : (srtL es).drop ((srtL es).length - (k + 1)) = e :: (srtL es).drop ((srtL es).length - k) := by
          rw [List.drop_eq_getElem_cons (by omega)]
          have h1 : (srtL es).length - (k + 1) + 1 = (srtL es).length - k := by omega
          have h2 : (srtL es)[(srtL es).length - (k + 1)]'(by omega) = e := by
            have h3 : (srtL es).length - 1 - k = (srtL es).length - (k + 1) := by omega
            rw [h3, List.getElem?_eq_getElem (by omega)] at he
            exact Option.some.inj he
          rw [h1, h2]
        have dk : decF nms fo ((srtL es).drop ((srtL es).length - (k + 1))) = (decE nms fo e).map fun k => (e, k) := by
          rw [tk]
          show (match decF nms fo ((srtL es).drop ((srtL es).length - k)) with
            | some x => some x
            | none => (decE nms fo e).map fun k => (e, k)) = _
          rw [hdec]
        have s12 := s1.trans s2
        refine q_pair (fun x y H' => Same H2' H' ∧ ∃ N, x = .ref N ∧ y = .bl true ∧ H' N = some (.lst (nmsV fn))) ?_ ?_
        · walk_at "rd"
          refine ⟨e.1, fn, true, rfl, cut, fun p N H' s hN hp hN' => ?_⟩
          exact ⟨p, rfl, _, _, .inl (.inl hp), s, N, rfl, rfl, hN'⟩
        rintro _ _ H3 ⟨s3, N, rfl, rfl, hN⟩
        have s13 := s12.trans s3
        have hn3 := same_l s13 hn
        have lN : LenV K (.ref N) H3 (nmsV fn).length := .inl ⟨_, .inl (.inl hN), rfl⟩
        have ln3 : LenV K (.ref n) H3 (nmsV nms).length := .inl ⟨_, hn3, rfl⟩
        rw [nms_len] at lN ln3
        refine l_if (fun b H' => Same H3 H' ∧ b = decide (fn.length < nms.length ∧ nms.take fn.length = fn)) ?_ (fun H4 h => ?_) fun H4 h => ?_
        · walk_at "rd"
          refine .inr ⟨_, lN, .inr ⟨_, ln3, ite2 (fun h => ?_) fun h => ?_⟩⟩
          · refine .inr ⟨_, lN, .inl ⟨_, hn3, fun p hp => ?_⟩⟩
            have sp := same_new (o := .lst (cutV (nmsV nms) none (some (fn.length : Int)))) hp
            have hcut : (upd H3 p (.lst (cutV (nmsV nms) none (some (fn.length : Int))))) p = some (.lst (nmsV (nms.take fn.length))) := by rw [upd_same, cut_take, nms_take]
            refine eq_txts (.inl (.inl hcut)) (.inl (.inl (sp _ _ hN))) (fun w h => sig_ok (lnm w (List.mem_of_mem_take h)).2.2) (fun w h => sig_ok (fok w h).2.2) ⟨_, rfl, sp, ?_⟩
            refine decide_eq_decide.mpr ⟨fun e => ⟨by omega, e⟩, fun e => e.2⟩
          · exact (decide_eq_false fun z => h (by omega)).symm
        · obtain ⟨s4, hb⟩ := h
          have hc := of_decide_eq_true hb.symm
          have s14 := s13.trans s4
          have hd4 := (s14.trans (Same.refl _)) _ _ hd
          obtain ⟨F, us, hval, hF, each⟩ := (hl.mono s14 fun _ _ d => dp_mono s14 _ _ d).get ok.nd hj
          have rok := (ok.rows e heS).2
          have lus := each.1
          have l60 := (ok.rows e heS).1
          refine q_midG (fun v H' => H' = H4 ∧ v = .ref F) ?_ ?_
          · walk_at "rd"
            exact ⟨_, dget_s hd4 hval, rfl⟩
          rintro _ _ ⟨rfl, rfl⟩
          rename_i H4
          have lF : LenV K (.ref F) H4 us.length := .inl ⟨_, .inl (.inl hF), rfl⟩
          have hn4 := same_l s14 hn
          have lN4 : LenV K (.ref N) H4 (nmsV fn).length := .inl ⟨_, .inl (.inl (s4 _ _ hN)), rfl⟩
          rw [nms_len] at lN4
          refine q_val ?_
          refine lc_midT (J0 := Itr 0 us.length) (H0 := H4) ?_ walk_range (by omega) (fun j acc _ => acc = intsV (hitsN (rfit (nms.drop fn.length) fo) e.2 j)) (fun _ _ _ _ _ e => e) rfl (fun H' s => trivial) (fun _ _ _ _ y => y_fn y) (fun _ => rfl) ?_ ?_
          · walk_at "rd"
            exact .inr ⟨_, lF, by omega, by omega, rfl⟩
          · rintro i x acc H' H'' hi s' rfl ⟨rfl, rfl⟩
            obtain ⟨r, hr⟩ : ∃ r, e.2[i]? = some r := ⟨_, List.getElem?_eq_getElem (by omega)⟩
            obtain ⟨u, hu, du⟩ := each.2 i r hr
            have okr := rok r (List.mem_of_getElem? hr)
            walk_at "rd"
            have lN5 : LenV K (.ref N) H'' (nmsV fn).length := .inl ⟨_, .inl (.inl (s' _ _ (s4 _ _ hN))), rfl⟩
            rw [nms_len] at lN5
            refine ⟨us, .inl (.inl (.inl (s' _ _ hF))), u, atI_nat hu, .inr ⟨_, lN5, .inl ⟨_, same_l s' hn4, fun p hp => ?_⟩⟩⟩
            have sp := same_new (o := .lst (cutV (nmsV nms) (some (fn.length : Int)) none)) hp
            have hcut : (upd H'' p (.lst (cutV (nmsV nms) (some (fn.length : Int)) none))) p = some (.lst (nmsV (nms.drop fn.length))) := by rw [upd_same, cut_dropN, nms_drop]
            refine ⟨u, p, fo, r, nms.drop fn.length, rfl, dp_mono (s'.trans sp) _ _ du, RF.sz okr, .inl (.inl hcut), by rw [List.length_drop]; omega, fun nm h => Nat.le_trans (lnm nm (List.mem_of_mem_drop h)).2.1 (by decide), fun H' s => ⟨rfit (nms.drop fn.length) fo r, rfl, sp.trans s, ?_⟩⟩
            rw [hits_succ hr]
            refine ite2 (fun h => ?_) fun h => ?_
            · rw [if_pos h]
              unfold intsV
              rw [List.map_append]
              rfl
            · rw [if_neg h, List.append_nil]
          intro G acc H5 hG s5 hGl _ hacc
          have ehit : decE nms fo e = (hitsN (rfit (nms.drop fn.length) fo) e.2 e.2.length).getLast? := by
            unfold decE
            rw [efn, if_pos hc]
            rfl
          rw [lus] at hacc
          subst hacc
          have s15 := s14.trans s5
          refine l_if (fun b H' => Same H5 H' ∧ b = !decide (hitsN (rfit (nms.drop fn.length) fo) e.2 e.2.length = [])) ?_ (fun H6 h => ?_) fun H6 h => ?_
          · walk_at "rd"
            intro p hp
            have sp := same_new (o := .lst []) hp
            refine ne_nil (.inl (.inl (sp _ _ hGl))) (.inl (.inl upd_same)) ⟨_, rfl, sp, ?_⟩
            unfold intsV
            simp
          · obtain ⟨s6, hb⟩ := h
            have hne' : hitsN (rfit (nms.drop fn.length) fo) e.2 e.2.length ≠ [] := by simpa using hb.symm
            obtain ⟨m, hm⟩ : ∃ m, (hitsN (rfit (nms.drop fn.length) fo) e.2 e.2.length).getLast? = some m := ⟨_, List.getLast?_eq_some_getLast hne'⟩
            rw [hm] at ehit
            rw [ehit] at dk
            have hdec' := decF_drop dk
            walk_at "rd"
            refine ⟨_, .inl (.inl (.inl (s6 _ _ hGl))), .int (m : Nat), atI_last (by unfold intsV; rw [List.getLast?_map, hm]; rfl), fun p hp => ?_⟩
            refine q _ _ ((s15.trans s6).trans (same_new hp)) ?_
            rw [hdec']
            exact ⟨p, rfl, upd_same⟩
          · obtain ⟨s6, hb⟩ := h
            have hnil : hitsN (rfit (nms.drop fn.length) fo) e.2 e.2.length = [] := by simpa using hb.symm
            refine ⟨(((s2.trans s3).trans s4).trans s5).trans s6, ?_, _, _, _, _, _, _, rfl⟩
            rw [dk, ehit, hnil]
            rfl
        · obtain ⟨s4, hb⟩ := h
          have hc := of_decide_eq_false hb.symm
          refine ⟨(s2.trans s3).trans s4, ?_, _, _, _, _, _, _, rfl⟩
          rw [dk]
          unfold decE
          rw [efn, if_neg hc]
          rfl
      · obtain ⟨s2, hdec, _⟩ := h
        rw [nms_len, List.length_reverse, List.length_map, Nat.sub_self, List.drop_zero] at hdec
        exact ⟨s1.trans s2, hdec⟩
    rintro σ H1 ⟨s1, hdec⟩
    walk_at "rd"
    exact q _ _ s1 (by rw [hdec]; exact rfl)
def spDownL (K : PySem.W.Frag) : Sp := fun vs H Q _ => ∃ d es kvs n nms fo, vs = [.ref d, .ref n, .bl fo] ∧ H d = some (.dK kvs) ∧ Lsts (FmV K) es kvs H ∧ LEG es 62 ∧ SqL K H n (nmsV nms) ∧ nms ≠ [] ∧ nms.length ≤ 60 ∧ (∀ nm ∈ nms, nm ≠ [] ∧ nm.length ≤ 400 ∧ ∀ c ∈ nm, c ∈ SIG) ∧
  ∀ t u H', Same H H' → H' t = some (.tup [.bl (shF (srtL es) nms fo), u]) → FndV (dnF (srtL es) nms fo) u H' → Q (.ref t) H'
theorem ok__law_down_lists (T : Txt K mg) : OkD P w K mg base 5 (fA K "_law_down_lists") ["_law_lists", "_law_names_here", "_law_folder"] [] (spDownL K) := by
  refine okD T.F__law_down_lists sc__law_down_lists (fun _ _ _ _ _ _ us hl => match us, hl with | [_, _, _], _ => rfl) ?_ ?_
  · rintro vs H Q E ⟨d, es, kvs, n, nms, fo, rfl, _⟩
    rfl
  · rintro cdv A outer s H vs Q E hr ⟨d, es, kvs, n, nms, fo, rfl, hd, hl, ok, hn, hne, ln, lnm, q⟩
    refine ⟨_, (pss_cons (ps_set (i := 3) sc__law_down_lists.nd rfl (Or.inl rfl) (pe_mid pe_non))
  (pss_cons (ps_mid (ps_for (passes_of rfl) rfl (pi_mid (pi_range2 rfl T.fr_range (pa_cons pe_int (pa_cons (pe_op (o_add (K := K)) (pe_callB (o_lenW (K := K) (w := w)) (by rfl) T.fr_len boot_len (pa_cons (pv 1) pa_nil)) pe_int) pa_nil)))) (pg_name (i := 4) sc__law_down_lists.nd rfl (Or.inl rfl)) (pss_cons (ps_set (i := 3) sc__law_down_lists.nd rfl (Or.inl rfl) (pe_mid (pe_cal (ok__law_decides T) (hr.mono (by decide)) rfl T.g__law_decides (pasE (takes_of rfl rfl rfl rfl) (fun _ _ _ _ h => h)) (pa_cons (pv 0) (pa_cons (pe_slice (o_sl (K := K)) (pv 1) po_none (po_some (pv 4))) (pa_cons (pe_orK (K := K) (pv 2) (pe_one (pe_cmpR o_lt (pv 4) (pe_callB (o_lenW (K := K) (w := w)) (by rfl) T.fr_len boot_len (pa_cons (pv 1) pa_nil)) (nomark _)))) pa_nil))))))
  (pss_one (ps_if (pt_mid (PW.pt (pw_and (pt_cmp (pc_notN (pv 3)) rfl) (pw_and1 (pt_not (pt_tru (K := K) (pe_ix (o_ix (K := K)) (pe_ix (o_ix (K := K)) (pe_dget (hu_of hr) (pv 0) (pe_ix (o_ix (K := K)) (pv 3) pe_int (fun _ _ => rfl)) (fun _ _ => rfl)) (pe_ix (o_ix (K := K)) (pv 3) pe_int (fun _ _ => rfl)) (fun _ _ => rfl)) pe_int (fun _ _ => rfl)) (by intro _; rfl))))))) (pss_one (ps_ret (pe_tup (pa_cons pe_bl (pa_cons (pv 3) pa_nil))))) pss_nil)))))
  (pss_one (ps_ret (pe_tup (pa_cons pe_bl (pa_cons (pv 3) pa_nil))))))), ?_⟩
    have tobj := T.obj
    have s5 := srtL_ok es
    refine q_midG (fun v H' => v = .non ∧ H' = H) (by walk_at "rd") ?_
    rintro _ _ ⟨rfl, rfl⟩
    rename_i H
    have lpos := List.length_pos_iff.mpr hne
    have hl2 : LenV K (.ref n) H (nmsV nms).length := .inl ⟨_, hn, rfl⟩
    rw [nms_len] at hl2
    refine q_stm (fun σ H' => Same H H' ∧ (∀ j, j < nms.length → stopF (stepF (srtL es) nms fo (j + 1)) = false) ∧ ∃ u x4, FndV (stepF (srtL es) nms fo nms.length) u H' ∧ σ = [some (.ref d), some (.ref n), some (.bl fo), some u, x4]) ?_ ?_
    · refine for_mid (J0 := Itr 1 nms.length) (H0 := H) ?_ walk_range (fun k σ H' => Same H H' ∧ (∀ j, j < k → stopF (stepF (srtL es) nms fo (j + 1)) = false) ∧ ∃ u x4, (0 < k → FndV (stepF (srtL es) nms fo k) u H') ∧ σ = [some (.ref d), some (.ref n), some (.bl fo), some u, x4])
        ⟨Same.refl _, (fun j h => absurd h (Nat.not_lt_zero _)), .non, _, (fun h => absurd h (Nat.lt_irrefl _)), rfl⟩ (fun _ _ _ _ _ => trivial) ?_ (fun σ H' h => ?_)
      · walk_at "rd"
        refine .inr ⟨_, hl2, _, _, ⟨rfl, rfl⟩, ⟨by omega, by omega, by omega, by omega⟩, ?_⟩
        rw [show ((nms.length : Int) + 1 - 1).toNat = nms.length by omega]
      · rintro k x σ H1' H1 hk ⟨s1, hst, u, x4, h9, rfl⟩ ⟨rfl, rfl⟩
        clear h9
        have hn1 := same_l s1 hn
        have hl1 := hl.mono s1 fun _ _ d => dp_mono s1 _ _ d
        have ln1 : LenV K (.ref n) H1 (nmsV nms).length := .inl ⟨_, hn1, rfl⟩
        rw [nms_len] at ln1
        refine q_midG (fun v H' => Same H1 H' ∧ FndV (stepF (srtL es) nms fo (k + 1)) v H') ?_ ?_
        · walk_at "rd"
          refine .inl ⟨_, hn1, fun p hp => ?_⟩
          have sp := same_new (o := .lst (cutV (nmsV nms) none (some (1 + (k : Int))))) hp
          have hcut : (upd H1 p (.lst (cutV (nmsV nms) none (some (1 + (k : Int)))))) p = some (.lst (nmsV (nms.take (k + 1)))) := by rw [upd_same, show (1 + (k : Int)) = ((k + 1 : Nat) : Int) from by omega, cut_take, nms_take]
          have hne1 : nms.take (k + 1) ≠ [] := fun z => by
            have := congrArg List.length z
            rw [List.length_take, List.length_nil] at this
            omega
          have call : ∀ b, b = (fo || decide (k + 1 < nms.length)) → spDecides K [V.ref d, V.ref p, V.bl b] (upd H1 p (HO.lst (cutV (nmsV nms) none (some (1 + (k : Int)))))) (fun v H' => Same H1 H' ∧ FndV (stepF (srtL es) nms fo (k + 1)) v H') E := fun b hb =>
            ⟨d, es, kvs, p, nms.take (k + 1), b, rfl, sp _ _ (s1 _ _ hd), hl1.mono sp fun _ _ d => dp_mono sp _ _ d, ok, .inl (.inl hcut), hne1, by rw [List.length_take]; omega, fun nm h => lnm nm (List.mem_of_mem_take h), fun u H' s f => ⟨sp.trans s, by unfold stepF; rw [← hb]; exact f⟩⟩
          refine ite2 (fun h => call _ ?_) fun h => .inr ⟨_, .inl ⟨_, same_l sp hn1, rfl⟩, call _ ?_⟩
          · rw [h]
            rfl
          · rw [show fo = false from by simpa using h, Bool.false_or, nms_len]
            exact decide_eq_decide.mpr (by omega)
        rintro v H2 ⟨s2, fv⟩
        have s12 := s1.trans s2
        refine l_if (fun b H' => H' = H2 ∧ b = stopF (stepF (srtL es) nms fo (k + 1))) ?_ (fun H3 h => ?_) fun H3 h => ?_
        · have hd2 := s12 _ _ hd
          cases hst2 : stepF (srtL es) nms fo (k + 1) with
          | none =>
            rw [hst2] at fv
            obtain rfl := fv
            walk_at "rd"
            try rfl
          | some x =>
            rw [hst2] at fv
            obtain ⟨t, rfl, ht⟩ := fv
            obtain ⟨e, m⟩ := x
            obtain ⟨heS, hdE⟩ := decF_mem hst2
            obtain ⟨r, hr⟩ := decE_at hdE
            obtain ⟨j, hj⟩ := List.mem_iff_getElem?.mp (s5.1.mem_iff.mp heS)
            obtain ⟨L, us, hval, hL, each⟩ := (hl.mono s12 fun _ _ d => dp_mono s12 _ _ d).get ok.nd hj
            obtain ⟨u, hu, du⟩ := each.2 m r hr
            obtain ⟨p, t2, us2, rfl, hp, _⟩ := RF.inv du
            walk_at "rd"
            refine ⟨_, .inr (.inl (.inl ht)), _, rfl, _, dget_s hd2 hval, ?_⟩
            refine ⟨_, .inr (.inl (.inl ht)), _, rfl, ?_⟩
            refine ⟨_, .inl (.inl (.inl hL)), _, atI_nat hu, ?_⟩
            refine ⟨_, .inr hp, _, rfl, ?_⟩
            exact ⟨_, rfl, by unfold stopF; simp only [hr]⟩
        · obtain ⟨rfl, hb⟩ := h
          walk_at "rd"
          intro p hp
          have sp := same_new (o := .tup [V.bl true, v]) hp
          have hfind : (List.range nms.length).find? (fun j => stopF (stepF (srtL es) nms fo (j + 1))) = some k := List.find?_range_eq_some.mpr ⟨hb.symm, List.mem_range.mpr hk, fun j hj => by rw [hst j hj]; rfl⟩
          refine q p v _ (s12.trans sp) ?_ ?_
          · rw [upd_same, show shF (srtL es) nms fo = true from List.any_eq_true.mpr ⟨k, List.mem_range.mpr hk, hb.symm⟩]
          · unfold dnF
            rw [hfind]
            exact fv.mono sp
        · obtain ⟨rfl, hb⟩ := h
          refine ⟨s12, fun j hj => ?_, v, _, fun _ => fv, rfl⟩
          rcases Nat.lt_succ_iff_lt_or_eq.mp hj with hj | rfl
          · exact hst j hj
          · exact hb.symm
      · obtain ⟨s1, hst, u, x4, hf, rfl⟩ := h
        exact ⟨s1, hst, u, _, hf lpos, rfl⟩
    rintro σ H1 ⟨s1, hst, u, x4, hf, rfl⟩
    walk_at "rd"
    intro p hp
    have sp := same_new (o := .tup [V.bl false, u]) hp
    refine q p u _ (s1.trans sp) ?_ ?_
    · rw [upd_same, show shF (srtL es) nms fo = false from List.any_eq_false.mpr fun k hk => by rw [hst k (List.mem_range.mp hk)]; exact Bool.false_ne_true]
    · unfold dnF
      rw [List.find?_eq_none.mpr fun k hk => by rw [hst k (List.mem_range.mp hk)]; exact Bool.false_ne_true]
      exact hf.mono sp

/-! ### the leaves by the law's lists, what is news -/
def lawW (es : List LE) (w : List Nat) : Bool := match pathN w with
  | some (nms, fo) => shF (srtL es) nms fo
  | none => false
def lawNow (es : List LE) (En : List (Names × Bool)) : List WB := (((entsE En 10 []).filter fun e => !e.2).map txtE).map fun w => (w, lawW es w)
def spLeaves (K : PySem.W.Frag) : Sp := fun vs H Q _ => ∃ d es kvs En al, vs = [.ref (al []), .ref d] ∧ H d = some (.dK kvs) ∧ Lsts (FmV K) es kvs H ∧ LEG es 62 ∧ TreeE En al H ∧ SmallT En ∧
  ∀ D H', Same H H' → H D = none → H' D = some (.dK ((lawNow es En).map wbK)) → Q (.ref D) H'
theorem ok__law_leaves (T : Txt K mg) : OkD P w K mg base 13 (fA K "_law_leaves") ["_law_root", "_law_lists"] [] (spLeaves K) := by
  refine okD T.F__law_leaves sc__law_leaves (fun _ _ _ _ _ _ us hl => match us, hl with | [_, _], _ => rfl) ?_ ?_
  · rintro vs H Q E ⟨d, es, kvs, En, al, rfl, _⟩
    rfl
  · rintro cdv A outer s H vs Q E hr ⟨d, es, kvs, En, al, rfl, hd, hl, ok, ht, sm, q⟩
    refine ⟨_, (pss_cons (ps_set (i := 2) sc__law_leaves.nd rfl (Or.inl rfl) pe_dnewK)
  (pss_cons (ps_mid (ps_for (passes_of rfl) rfl (pi_mid (o_it (K := K) rfl (pe_cal (ok__law_paths T 10) (hr.mono (by omega)) rfl T.g__law_paths (pasE (takes_of rfl rfl rfl rfl) (fun _ _ _ _ h => h)) (pa_cons (pv 0) (pa_cons pe_str pa_nil))))) (pg_name (i := 3) sc__law_leaves.nd rfl (Or.inl rfl)) (pss_cons (ps_asg (pe_mid (pe_cal (ok__law_cut T) (hr.mono (by decide)) rfl T.g__law_cut (pasE (takes_of rfl rfl rfl rfl) (fun _ _ _ _ h => h)) (pa_cons (pv 3) pa_nil))) (pg_tup rfl (pgs_cons (pg_name (i := 4) sc__law_leaves.nd rfl (Or.inl rfl)) (pgs_cons (pg_name (i := 5) sc__law_leaves.nd rfl (Or.inl rfl)) pgs_nil))))
  (pss_one (ps_if (pt_mid (pt_not (pt_tru (K := K) (pv 5) (by intro _; rfl)))) (pss_one (ps_dput (hu_of hr) (pv 2) (pv 3) (pe_mid (pe_ix (o_ix (K := K)) (pe_cal (ok__law_down_lists T) (hr.mono (by decide)) rfl T.g__law_down_lists (pasE (takes_of rfl rfl rfl rfl) (fun _ _ _ _ h => h)) (pa_cons (pv 1) (pa_cons (pv 4) (pa_cons pe_bl pa_nil)))) pe_int (fun _ _ => rfl))) rfl)) pss_nil)))))
  (pss_one (ps_ret (pv 2))))), ?_⟩
    have tobj := T.obj
    have okT := ht.ok
    have lEn : (entsE En 10 []).length ≤ 1000 := by rw [(ents_perm okT).length_eq]; exact sm.len
    have goodP : ∀ e ∈ entsE En 10 [], GoodP (txtE e) e.1 e.2 := fun e he => ent_good okT sm.nm (ents_mem okT he).1
    refine q_newD fun D hD => ?_
    have sD := same_new (o := .dK []) hD
    refine q_stm (fun σ H' => Same H H' ∧ H' D = some (.dK ((lawNow es En).map wbK)) ∧ ∃ x3 x4 x5, σ = [some (.ref (al [])), some (.ref d), some (.ref D), x3, x4, x5]) ?_ ?_
    · refine for_open (fun J H' => ∃ G, J = Itl K G ∧ Same (upd H D (.dK [])) H' ∧ (upd H D (.dK [])) G = none ∧ H' G = some (.lst (nmsV ((entsE En 10 []).map txtE)))) ?_ ?_
      · walk_at "rd"
        refine ⟨En, al, [], [], rfl, ht.mono sD, .inl rfl, rfl, sm.len, sm.kid, Nat.zero_le _, fun G H' s hGn hG => ?_⟩
        rw [show ([] : List Nat) = txtF [] from rfl, paths_ents] at hG
        exact .inl ⟨⟨_, .inl (.inl hG)⟩, G, rfl, s, hGn, hG⟩
      rintro _ H1 ⟨G, rfl, s1, hGn, hG⟩
      have nGD : G ≠ D := fun z => by rw [z, upd_same] at hGn; cases hGn
      have hD1 : H1 D = some (.dK []) := s1 _ _ upd_same
      refine for_mid (J0 := Itl K G) (H0 := H1) ⟨rfl, rfl⟩ (walk_list (K := K) (a := G) (xs := nmsV ((entsE En 10 []).map txtE))) (fun k σ H' => Same H H' ∧ H' G = some (.lst (nmsV ((entsE En 10 []).map txtE))) ∧ H' D = some (.dK (((((entsE En 10 []).take k).filter fun e => !e.2).map fun e => (txtE e, lawW es (txtE e))).map wbK)) ∧ ∃ x3 x4 x5, σ = [some (.ref (al [])), some (.ref d), some (.ref D), x3, x4, x5])
        ⟨sD.trans s1, hG, hD1, _, _, _, rfl⟩ (fun _ _ _ _ h => .inl (.inl h.2.1)) ?_ (fun σ H' h => ?_)
      · rintro k x σ H2 H2' hk ⟨s2, hG2, hD2, x3, x4, x5, rfl⟩ ⟨rfl, hx⟩
        obtain ⟨ft, hft, rfl⟩ := nms_at hx
        rw [List.getElem?_map] at hft
        obtain ⟨e, he, rfl⟩ := Option.map_eq_some_iff.mp hft
        have gp := goodP e (List.mem_of_getElem? he)
        refine q_pair (fun x y H' => Same H2' H' ∧ ∃ N, x = .ref N ∧ y = .bl e.2 ∧ H' N = some (.lst (nmsV e.1))) ?_ ?_
        · walk_at "rd"
          exact ⟨txtE e, e.1, e.2, rfl, gp.cut, fun p N H' s hN hp hN' => ⟨p, rfl, _, _, .inl (.inl hp), s, N, rfl, rfl, hN'⟩⟩
        rintro _ _ H3 ⟨s3, N, rfl, rfl, hN⟩
        have s23 := s2.trans s3
        have hG3 := s3 _ _ hG2
        have hD3 := s3 _ _ hD2
        have tk : ((entsE En 10 []).take (k + 1)).filter (fun e => !e.2) = ((entsE En 10 []).take k).filter (fun e => !e.2) ++ (if (!e.2) = true then [e] else []) := by
          rw [List.take_succ, he, List.filter_append]
          cases h : e.2 <;> simp [h]
        refine l_if (fun b H' => H' = H3 ∧ b = !e.2) ?_ (fun H4 h => ?_) fun H4 h => ?_
        · walk_at "rd"
        · obtain ⟨rfl, hb⟩ := h
          have e2 : e.2 = false := by simpa using hb
          unfold sDPut
          refine mid_of (fun v H' => Same H4 H' ∧ v = .bl (lawW es (txtE e))) ?_ ?_
          · walk_at "rd"
            refine ⟨d, es, kvs, N, e.1, false, rfl, s23 _ _ hd, hl.mono s23 fun _ _ d => dp_mono s23 _ _ d, ok, .inl (.inl hN), gp.ne, gp.len, gp.nm, fun t u H' s ht' _ => ?_⟩
            refine ⟨_, .inr (.inl (.inl ht')), _, rfl, s, ?_⟩
            unfold lawW
            rw [gp.path, e2]
          rintro _ H5 ⟨s5, rfl⟩
          have hD5 := s5 _ _ hD3
          have hG5 := s5 _ _ hG3
          walk_at "rd"
          have hno : valV (((((entsE En 10 []).take k).filter fun e => !e.2).map fun e => (txtE e, lawW es (txtE e))).map wbK) (.inr (S (txtE e))) = none := by
            rw [wb_val]
            cases hf : (((((entsE En 10 []).take k).filter fun e => !e.2).map fun e => (txtE e, lawW es (txtE e)))).find? fun e' => decide (e'.1 = txtE e) with
            | none => rfl
            | some z =>
              exfalso
              have h1 := List.mem_of_find?_eq_some hf
              have h2 : z.1 = txtE e := by simpa using List.find?_some hf
              obtain ⟨e', he', rfl⟩ := List.mem_map.mp h1
              have h3 := (List.mem_filter.mp he').1
              have h4 := txt_inj (goodP e' (List.mem_of_mem_take h3)) gp h2
              subst h4
              obtain ⟨i, hi⟩ := List.mem_iff_getElem?.mp h3
              have hil : i < k := by
                have := (List.getElem?_eq_some_iff.mp hi).1
                rw [List.length_take] at this
                omega
              rw [List.getElem?_take_of_lt hil] at hi
              have := nodup_idx (ents_nd okT 10 []) hi he
              omega
          refine ⟨_, dput_s hD5 ?_, ?_⟩
          · rw [List.length_map, List.length_map]
            have l1 := List.length_filter_le (fun e => !e.2) ((entsE En 10 []).take k)
            rw [List.length_take] at l1
            omega
          · rw [putK_new _ hno]
            refine ⟨same_mut (s23.trans s5) hD, ?_, ?_⟩
            · rw [upd_ne nGD]
              exact hG5
            · rw [upd_same, tk, if_pos hb.symm, List.map_append, List.map_append]
              rfl
        · obtain ⟨rfl, hb⟩ := h
          refine ⟨s23, hG3, ?_, _, _, _, rfl⟩
          rw [tk, if_neg (by rw [← hb]; exact Bool.false_ne_true), List.append_nil]
          exact hD3
      · obtain ⟨s2, _, hD2, x3, x4, x5, rfl⟩ := h
        rw [nms_len, List.length_map, List.take_length] at hD2
        refine ⟨s2, ?_, _, _, _, rfl⟩
        rw [hD2]
        unfold lawNow
        simp only [List.map_map]
        rfl
    rintro σ H1 ⟨s1, hD1, x3, x4, x5, rfl⟩
    walk_at "rd"
    exact q D H1 s1 hD hD1
def spNews (K : PySem.W.Frag) : Sp := fun vs H Q _ => ∃ A B ah now, vs = [.ref A, .ref B] ∧ H A = some (.dK (List.map wbK ah)) ∧ H B = some (.dK (List.map wbK now)) ∧ now.length ≤ 63 ∧
  ∀ D H', Same H H' → H D = none → H' D = some (.lst (nmsV ((srtW (now.map (·.1))).filter fun w => getW now w != getW ah w))) → Q (.ref D) H'
theorem ok__law_news (T : Txt K mg) : OkD P w K mg base 1 (fA K "_law_news") ["_law_ahead", "_law_now"] [] (spNews K) := by
  refine okD T.F__law_news sc__law_news (fun _ _ _ _ _ _ us hl => match us, hl with | [_, _], _ => rfl) ?_ ?_
  · rintro vs H Q E ⟨A, B, ah, now, rfl, _⟩
    rfl
  · rintro cdv A1 outer s H vs Q E hr ⟨A, B, ah, now, rfl, hA, hB, lb, q⟩
    refine ⟨_, (pss_one (ps_ret (pe_lc (own := [("_law_path", 2)]) (g := (gName 2)) rfl sc__law_news.nd (pi_mid (o_it (K := K) rfl (pe_callB (call_sortedD rfl) (by rfl) T.fr_sorted (by decide +kernel) (pa_cons (pv 1) pa_nil)))) (blkOk_by (N := N__law_news) (sc := defScope TX.s__law_news) (by decide +kernel)) (fun _ _ _ _ _ => (pg_name (i := 2) sc__law_news.nd rfl (Or.inl rfl))) (fun _ _ _ _ _ => (pts_one (pt_mid (pt_cmpR (o_ne (K := K) (hu64 hr)) (pe_dget (hu_of hr) (pv 1) (pv 2) (fun _ _ => rfl)) (pe_dget2 (hu_of hr) (pv 0) (pv 2) pe_bl ⟨by rfl, by rfl, by rfl, by rfl⟩) (nomark _))))) (fun _ _ _ _ _ => (pe_mid (pv 2)))))), ?_⟩
    have tobj := T.obj
    have sp : (srtW (now.map (·.1))).Perm (now.map (·.1)) := srt_perm _
    have hlen : (srtW (now.map (·.1))).length = now.length := by rw [sp.length_eq, List.length_map]
    walk_at "rd"
    refine lc_open (fun J H' => ∃ G, J = Itl K G ∧ Same H H' ∧ H' G = some (.lst (nmsV (srtW (now.map (·.1)))))) ?_ ?_
    · walk_at "rdh"
      refine ⟨_, .inl hB, (now.map (·.1)).map S, ?_, by rw [List.length_map, List.length_map]; omega, fun ys F perm so hF => .inl ⟨⟨_, .inl (.inl upd_same)⟩, F, rfl, same_new hF, ?_⟩⟩
      · rw [wb_keys]
        simp only [List.map_map]
        rfl
      · rw [upd_same]
        have e := sorted_is perm so
        rw [e, List.map_map]
        unfold nmsV
        rw [List.map_map]
    rintro _ H2 ⟨G, rfl, s2, hG⟩
    refine lc_midT (J0 := Itl K G) (H0 := H2) ⟨rfl, rfl⟩ (walk_list (K := K) (a := G) (xs := nmsV (srtW (now.map (·.1))))) (by rw [nms_len]; omega) (fun k acc H' => acc = nmsV (((srtW (now.map (·.1))).take k).filter fun w => getW now w != getW ah w)) (fun k acc Ha Hb e h => h) rfl (fun H' s => .inl (.inl (s _ _ hG))) (fun _ _ _ _ y => y_at y) (fun _ => rfl) ?_ ?_
    · rintro k x acc H' H'' hk s' rfl ⟨rfl, hx⟩
      obtain ⟨wt, hwt, rfl⟩ := nms_at hx
      have hB' := (s2.trans s') _ _ hB
      have hA' := (s2.trans s') _ _ hA
      have hmem : wt ∈ now.map (·.1) := sp.mem_iff.mp (List.mem_of_getElem? hwt)
      rw [List.take_succ, hwt, List.filter_append]
      walk_at "rdh"
      have g1 := DGet.k (k := .inr (S wt)) hB'
      have g2 := DGet.k (k := .inr (S wt)) hA'
      rw [wb_val] at g1 g2
      obtain ⟨z, hz⟩ : ∃ z, now.find? (fun e => decide (e.1 = wt)) = some z := by
        obtain ⟨e, he, h⟩ := List.mem_map.mp hmem
        cases hf : now.find? fun e => decide (e.1 = wt) with
        | some z => exact ⟨z, rfl⟩
        | none => exact absurd (List.find?_eq_none.mp hf e he) (by simpa using h)
      have e1 : getW now wt = z.2 := by
        unfold getW
        rw [hz]
      rw [hz] at g1
      refine ⟨_, g1, .inl ⟨_, .inl hA'⟩, _, g2, ?_⟩
      have e2 : ((ah.find? fun e => decide (e.1 = wt)).map fun e => V.bl e.2).getD (V.bl false) = V.bl (getW ah wt) := by
        unfold getW
        cases ah.find? fun e => decide (e.1 = wt) <;> rfl
      rw [e2]
      refine (show scal (V.bl z.2) (V.bl (getW ah wt)) = true ∧ _ from ⟨rfl, ?_⟩)
      split
      · rename_i h
        have hq : ¬ z.2 = getW ah wt := fun z' => h (by show V.bl _ = V.bl _; rw [z'])
        simp [nmsV, e1, hq]
      · rename_i h
        have hq : z.2 = getW ah wt := V.bl.inj (Classical.not_not.mp h)
        simp [nmsV, e1, hq]
    intro N acc H3 hN s3 hN3 _ hacc
    rw [nms_len, List.take_of_length_le (Nat.le_refl _)] at hacc
    subst hacc
    exact q N H3 (s2.trans s3) (same_none s2 hN) hN3

/-! ### deeds drawn (k93, k94) -/
def spDeedN (K : PySem.W.Frag) : Sp := fun vs H Q _ => ∃ c F rs En al p ws, vs = [.int c, .ref F, .ref (al []), .ref p] ∧ RowsL K rs F H ∧ 1 ≤ rs.length ∧ rs.length ≤ 1000 ∧ TreeE En al H ∧ SmallT En ∧ H p = some (.lst ws) ∧ ws.length = 4 ∧ WsOk ws ∧ (∀ v ∈ ws, SignV v) ∧
  ∀ N nms H', Same H H' → H N = none → H' N = some (.lst (nmsV nms)) → nms ≠ [] → nms.length ≤ 5 → (∀ nm ∈ nms, nm ≠ [] ∧ nm.length ≤ 400 ∧ ∀ c ∈ nm, c ∈ SIG) → Q (.ref N) H'
theorem ok__law_deed_names (T : Txt K mg) : OkD P w K mg base 13 (fA K "_law_deed_names") ["_law_cell_here", "_law_forms", "_law_root", "_law_signs_here"] [] (spDeedN K) := by
  refine okD T.F__law_deed_names sc__law_deed_names (fun _ _ _ _ _ _ us hl => match us, hl with | [_, _, _, _], _ => rfl) ?_ ?_
  · rintro vs H Q E ⟨c, F, rs, En, al, p, ws, rfl, _⟩
    rfl
  · rintro cdv A outer s H vs Q E hr ⟨c, F, rs, En, al, p, ws, rfl, hrs, lrs1, lrs, ht, sm, hp, hl4, hnd, hw, q⟩
    refine ⟨_, (pss_cons (ps_set (i := 4) sc__law_deed_names.nd rfl (Or.inl rfl) (pe_mid (pe_cal (ok__law_paths T 10) (hr.mono (by omega)) rfl T.g__law_paths (pasE (takes_of rfl rfl rfl rfl) (fun _ _ _ _ h => h)) (pa_cons (pv 2) (pa_cons pe_str pa_nil)))))
  (pss_cons (ps_if (pt_mid (PW.pt (pw_and (pt_cmpR (o_ne (K := K) (hu64 hr)) (pv 4) (pe_lst pa_nil) (nomark _)) (pw_and1 (pt_cmpR (o_eq (K := K) (hu64 hr)) (pe_op op_mod (pe_op op_fdivW (pv 0) pe_int) pe_int) pe_int (nomark _)))))) (pss_cons (ps_set (i := 5) sc__law_deed_names.nd rfl (Or.inl rfl) (pe_mid (pe_ix (o_ix (K := K)) (pe_cal (ok__law_cut T) (hr.mono (by decide)) rfl T.g__law_cut (pasE (takes_of rfl rfl rfl rfl) (fun _ _ _ _ h => h)) (pa_cons (pe_ix (o_ix (K := K)) (pv 4) (pe_op op_mod (pe_op op_fdivW (pv 0) pe_int) (pe_callB (o_lenW (K := K) (w := w)) (by rfl) T.fr_len boot_len (pa_cons (pv 4) pa_nil))) (fun _ _ => rfl)) pa_nil)) pe_int (fun _ _ => rfl))))
  (pss_cons (ps_set (i := 6) sc__law_deed_names.nd rfl (Or.inl rfl) (pe_mid (pe_slice (o_sl (K := K)) (pe_op (o_add (K := K)) (pv 5) (pe_lst (pa_cons (pe_ix (o_ix (K := K)) (pv 3) (pe_op op_mod (pe_op op_fdivW (pv 0) pe_int) pe_int) (fun _ _ => rfl)) pa_nil))) po_none (po_some pe_int))))
  (pss_one (ps_ret (pe_slice (o_sl (K := K)) (pv 6) po_none (po_some (pe_op (o_add (K := K)) pe_int (pe_op op_mod (pe_op op_fdivW (pv 0) pe_int) (pe_callB (o_lenW (K := K) (w := w)) (by rfl) T.fr_len boot_len (pa_cons (pv 6) pa_nil)))))))))) pss_nil)
  (pss_one (ps_ret (pe_mid (pe_slice (o_sl (K := K)) (pe_cal (ok__law_names T) (hr.mono (by decide)) rfl T.g__law_names (pasE (takes_of rfl rfl rfl rfl) (fun _ _ _ _ h => h)) (pa_cons (pe_ix (o_ix (K := K)) (pv 1) (pe_op op_mod (pv 0) (pe_callB (o_lenW (K := K) (w := w)) (by rfl) T.fr_len boot_len (pa_cons (pv 1) pa_nil))) (fun _ _ => rfl)) (pa_cons (pe_cal (ok__law_mixed T) (hr.mono (by decide)) rfl T.g__law_mixed (pasE (takes_of rfl rfl rfl rfl) (fun _ _ _ _ h => h)) (pa_cons (pv 0) (pa_cons pe_int pa_nil))) (pa_cons (pv 3) pa_nil)))) po_none (po_some pe_int))))))), ?_⟩
    have tobj := T.obj
    have ok := ht.ok
    have lEn : (entsE En 10 []).length ≤ 1000 := by rw [(ents_perm ok).length_eq]; exact sm.len
    refine q_midG (fun v H' => Same H H' ∧ ∃ L, v = .ref L ∧ H' L = some (.lst (nmsV ((entsE En 10 []).map txtE)))) ?_ ?_
    · walk_at "rd"
      refine ⟨En, al, [], [], rfl, ht, .inl rfl, rfl, sm.len, sm.kid, Nat.zero_le _, fun L H' s hL hL' => ⟨s, L, rfl, ?_⟩⟩
      rw [hL', show ([] : List Nat) = txtF [] from rfl, paths_ents]
    rintro _ H1 ⟨s1, L, rfl, hL⟩
    have hp1 := s1 _ _ hp
    have hrs1 := hrs.mono s1
    have goodP : ∀ e ∈ entsE En 10 [], GoodP (txtE e) e.1 e.2 ∧ e ∈ En := fun e he => ⟨ent_good ok sm.nm (ents_mem ok he).1, (ents_mem ok he).1⟩
    refine q_if (fun b H' => Same H1 H' ∧ (b = true → entsE En 10 [] ≠ [])) ?_ (fun H2 h => ?_) fun H2 h => q_next ?_
    · walk_at "rd"
      intro a ha
      have sa := same_new (o := .lst []) ha
      have d0 : DOk 1 (.list []) := dok_lst fun _ h => nomatch h
      have d1 : DOk 1 (.list (((entsE En 10 []).map txtE).map fun w => .str (S w))) := txts_ok fun w hw => by
        obtain ⟨e, he, rfl⟩ := List.mem_map.mp hw
        exact (goodP e he).1.dok
      have e : PyData.eqv (.list (((entsE En 10 []).map txtE).map fun w => .str (S w))) (.list []) = decide (entsE En 10 [] = []) := by cases entsE En 10 [] <;> rfl
      refine .inl ⟨_, .list [], txts_dp (.inl (.inl (sa _ _ hL))), .lst (.inl (.inl upd_same)) .nil, d1.shaped (by decide), d0.shaped (by decide), _, rfl, ?_⟩
      rw [e]
      by_cases hne : entsE En 10 [] = []
      · rw [if_neg (by simp [hne])]
        exact ⟨sa, fun h => h.elim⟩
      · rw [if_pos (by simp [hne])]
        exact ⟨⟨by decide, by decide⟩, sa, fun _ => hne⟩
    · obtain ⟨s2, hne⟩ := h
      have hne := hne rfl
      have hL2 := s2 _ _ hL
      have hp2 := s2 _ _ hp1
      have lL : LenV K (.ref L) H2 (nmsV ((entsE En 10 []).map txtE)).length := .inl ⟨_, .inl (.inl hL2), rfl⟩
      rw [nms_len, List.length_map] at lL
      have lpos := List.length_pos_iff.mpr hne
      refine q_midG (fun v H' => Same H2 H' ∧ ∃ N, v = .ref N ∧ ∃ nms, H' N = some (.lst (nmsV nms)) ∧ nms.length ≤ 9 ∧ ∀ nm ∈ nms, nm ≠ [] ∧ nm.length ≤ 400 ∧ ∀ c ∈ nm, c ∈ SIG) ?_ ?_
      · walk_at "rd"
        obtain ⟨j, hj, hjl⟩ : ∃ j : Nat, c / 93 % ((entsE En 10 []).length : Int) = (j : Int) ∧ j < (entsE En 10 []).length := ⟨(c / 93 % ((entsE En 10 []).length : Int)).toNat, by have := Int.emod_nonneg (c / 93) (b := ((entsE En 10 []).length : Int)) (by omega); omega, by have := Int.emod_nonneg (c / 93) (b := ((entsE En 10 []).length : Int)) (by omega); have := Int.emod_lt_of_pos (c / 93) (b := ((entsE En 10 []).length : Int)) (by omega); omega⟩
        have he : (entsE En 10 [])[j]? = some (entsE En 10 [])[j] := List.getElem?_eq_getElem hjl
        generalize (entsE En 10 [])[j] = e at he
        obtain ⟨gp, heE⟩ := goodP e (List.mem_of_getElem? he)
        refine ⟨⟨by decide, by decide⟩, .inr ⟨_, lL, by omega, _, .inl (.inl (.inl hL2)), .str (S (txtE e)), ?_, txtE e, e.1, e.2, rfl, gp.cut, fun P N H' s hN hP hN' => ⟨_, .inr (.inl (.inl hP)), _, rfl, s, N, rfl, e.1, hN', (sm.nm e heE).1, fun nm h => ?_⟩⟩⟩
        · rw [hj]
          refine atI_nat ?_
          unfold nmsV
          rw [List.getElem?_map, List.getElem?_map, List.getElem?_map, he]
          rfl
        · have := ok.nm e heE nm h
          exact ⟨this.1, (sm.nm e heE).2 nm h, this.2.2⟩
      rintro _ H3 ⟨s3, N, rfl, nms, hN, ln, hnm⟩
      have hp3 := s3 _ _ hp2
      refine q_midG (fun v H' => Same H3 H' ∧ ∃ N, v = .ref N ∧ ∃ nms, H' N = some (.lst (nmsV nms)) ∧ nms ≠ [] ∧ nms.length ≤ 5 ∧ ∀ nm ∈ nms, nm ≠ [] ∧ nm.length ≤ 400 ∧ ∀ c ∈ nm, c ∈ SIG) ?_ ?_
      · obtain ⟨ca, hca, eca⟩ := at4 hl4 hw (c / 37)
        walk_at "rd"
        refine ⟨⟨by decide, by decide⟩, _, .inl (.inl (.inl hp3)), _, eca, fun a ha => .inl ?_⟩
        have sa := same_new (o := .lst [V.str (S [ca])]) ha
        refine ⟨_, sa _ _ hN, _, upd_same, by rw [nms_len]; simp; omega, fun b hb => .inl ⟨_, .inl (.inl upd_same), fun d hd => ⟨(sa.trans (same_new hb)).trans (same_new hd), (nms ++ [[ca]]).take 5, ?_, ?_, List.length_take_le _ _, fun nm h => ?_⟩⟩⟩
        · rw [upd_same, show (5 : Int) = ((5 : Nat) : Int) from rfl, cut_take, show [V.str (S [ca])] = nmsV [[ca]] from rfl, nms_app, nms_take]
        · intro e
          have := congrArg List.length e
          rw [List.length_take, List.length_append, List.length_nil] at this
          simp at this
        · rcases List.mem_append.mp (List.mem_of_mem_take h) with h | h
          · exact hnm nm h
          · rw [List.mem_singleton.mp h]
            exact ⟨by simp, by simp, fun c h => by rw [List.mem_singleton.mp h]; exact hca⟩
      clear hN ln hnm
      rintro _ H4 ⟨s4, N, rfl, nms, hN, nne, ln, hnm⟩
      have lN : LenV K (.ref N) H4 (nmsV nms).length := .inl ⟨_, .inl (.inl hN), rfl⟩
      rw [nms_len] at lN
      have ln0 := List.length_pos_iff.mpr nne
      walk_at "rd"
      obtain ⟨j, hj, hjl⟩ : ∃ j : Nat, c / 41 % (nms.length : Int) = (j : Int) ∧ j < nms.length := ⟨(c / 41 % (nms.length : Int)).toNat, by have := Int.emod_nonneg (c / 41) (b := (nms.length : Int)) (by omega); omega, by have := Int.emod_nonneg (c / 41) (b := (nms.length : Int)) (by omega); have := Int.emod_lt_of_pos (c / 41) (b := (nms.length : Int)) (by omega); omega⟩
      refine ⟨⟨by decide, by decide⟩, .inr ⟨_, lN, by omega, .inl ⟨_, .inl (.inl hN), fun p1 hp1 => ?_⟩⟩⟩
      rw [hj, show (1 + (j : Int)) = ((1 + j : Nat) : Int) from by omega, cut_take, nms_take]
      have s04 := ((s1.trans s2).trans s3).trans s4
      refine q p1 (nms.take (1 + j)) _ (s04.trans (same_new hp1)) (same_none s04 hp1) upd_same (fun e => ?_) (by rw [List.length_take]; omega) fun nm h => hnm nm (List.mem_of_mem_take h)
      have := congrArg List.length e
      rw [List.length_take, List.length_nil] at this
      omega
    obtain ⟨s2, _⟩ := h
    have hp2 := s2 _ _ hp1
    have hrs2 := hrs1.mono s2
    obtain ⟨us6, hF6, each6, oks6⟩ := id hrs2
    obtain ⟨j, hj, hjl⟩ : ∃ j : Nat, c % (rs.length : Int) = (j : Int) ∧ j < rs.length := ⟨(c % (rs.length : Int)).toNat, by have := Int.emod_nonneg c (b := (rs.length : Int)) (by omega); omega, by have := Int.emod_nonneg c (b := (rs.length : Int)) (by omega); have := Int.emod_lt_of_pos c (b := (rs.length : Int)) (by omega); omega⟩
    obtain ⟨u, hu, du⟩ := each6.2 j _ (List.getElem?_eq_getElem hjl)
    obtain ⟨okr, lor⟩ := oks6 _ (List.getElem_mem hjl)
    have okp : ∀ fs, SF.seg fs ∈ rs[j].steps → ∀ f ∈ fs, FOk f := fun fs h f hf => ⟨(show PartsOk fs from okr.ok _ h).ok f hf, lor fs h f hf⟩
    have lF : LenV K (V.ref F) H2 us6.length := .inl ⟨us6, .inl (.inl hF6), rfl⟩
    walk_at "rd"
    refine mid_of (fun v H' => Same H2 H' ∧ ∃ g nms, v = .ref g ∧ H2 g = none ∧ H' g = some (.lst (nmsV nms)) ∧ nms ≠ [] ∧ nms.length ≤ 5 ∧ ∀ nm ∈ nms, nm ≠ [] ∧ nm.length ≤ 400 ∧ ∀ c ∈ nm, c ∈ SIG) ?_ ?_
    · walk_at "rd"
      refine .inr ⟨_, lF, by have := each6.1; omega, us6, .inl (.inl (.inl hF6)), u, ?_, c, 48, rfl, fun m _ _ => ⟨u, m, p, ws, rs[j], rfl, du, okr, okp, .inl (.inl hp2), hl4, hnd, hw, fun G us H' hne hus hlen s h => ?_⟩⟩
      · rw [each6.1, hj]
        exact atI_nat hu
      obtain ⟨nms, rfl, hnm⟩ := names_list hus
      walk_at "rd"
      refine .inl ⟨nmsV nms, .inl (.inl h), fun p1 hp1 => ⟨s.trans (same_new hp1), same_none s hp1, nms.take 3, ?_, ?_, Nat.le_trans (List.length_take_le _ _) (by decide), fun nm h => hnm nm (List.mem_of_mem_take h)⟩⟩
      · rw [upd_same, show (3 : Int) = ((3 : Nat) : Int) from rfl, cut_take, nms_take]
      · intro e
        have : nms = [] := by
          cases nms with
          | nil => rfl
          | cons x r => simp at e
        exact hne (by rw [this]; rfl)
    rintro _ H3 ⟨s3, g, nms, rfl, hg0, hg, a1, a2, a3⟩
    exact q g nms H3 ((s1.trans s2).trans s3) (same_none (s1.trans s2) hg0) hg a1 a2 a3

def spRefK (K : PySem.W.Frag) : Sp := fun vs H Q _ => ∃ p dx l n En al es kvs nw b wd, vs = [.ref p, .bl b, .str (S wd)] ∧ wd.length ≤ 1000000 ∧ KeepG K p dx l n En al es kvs nw H ∧ SmallT En ∧ LimE es ∧
  (pathN wd = none → ∀ H', Same H H' → Q (.bl true) H') ∧
  ∀ nms fo, pathN wd = some (nms, fo) →
    (b = true → nms.length ≤ 9 ∧ (∀ x ∈ nms, NmOk x) ∧ (¬ OkPut En nms fo → ∀ H', Same H H' → Q (.bl true) H') ∧
      (OkPut En nms fo → (∀ E', EOk E' → Grow En E' nms nms.length → (nms, fo) ∈ E' → SmallT E') ∧
        ∀ E' al' n' H', Grow En E' nms nms.length → (nms, fo) ∈ E' → Frm (fpK p l En al) H H' → (∀ q, Fold E' q → fpT En al (al' q) ∨ H (al' q) = none) → al' [] = al [] → (fpT En al n' ∨ H n' = none) →
        KeepG K p dx l n' E' al' es kvs (newsW (nowW (gathS es) En) (nowW (gathS es) E')) H' → Q (.bl false) H')) ∧
    (b = false → ((nms, fo) ∉ En → ∀ H', Same H H' → Q (.bl true) H') ∧
      ((nms, fo) ∈ En → ∀ n' H', Frm (fpK p l En al) H H' → H n' = none →
        KeepG K p dx l n' (takeE En nms) al es kvs (newsW (nowW (gathS es) En) (nowW (gathS es) (takeE En nms))) H' → Q (.bl false) H'))
theorem ok__law_refused (T : Txt K mg) : OkD P w K mg base 17 (fA K "_law_refused") ["_law_keeper", "_law_puts", "_law_path"] [] (spRefK K) := by
  refine okD T.F__law_refused sc__law_refused (fun _ _ _ _ _ _ us hl => match us, hl with | [_, _, _], _ => rfl) ?_ ?_
  · rintro vs H Q E ⟨p, dx, l, n, En, al, es, kvs, nw, b, wd, rfl, _⟩
    rfl
  · rintro cdv A outer s H vs Q E hr ⟨p, dx, l, n, En, al, es, kvs, nw, b, wd, rfl, hwd, ks, sm, lim, q1, q2⟩
    refine ⟨_, (pss_cons (ps_set (i := 3) sc__law_refused.nd rfl (Or.inl rfl) pe_bl)
  (pss_cons (ps_mid (ps_try_only rfl rfl ⟨rfl, rfl, Or.inl T.g_ShunError⟩ (takes_of rfl rfl rfl rfl) (fun W pn xe tkW pxW => (pss_one (ps_if (pt_mid (pt_tru (K := K) (pv 1) (by intro _; rfl))) (pss_one (ps_expr (pe_metT (md_K_put T) (pv 0) (hr.mono (by decide)) tkW (pa_cons (pv 2) pa_nil)))) (pss_one (ps_expr (pe_metT (md_K_take T) (pv 0) (hr.mono (by decide)) tkW (pa_cons (pv 2) pa_nil))))))) (fun _ _ _ _ _ _ _ => (pss_one (ps_set (i := 3) sc__law_refused.nd rfl (Or.inl rfl) pe_bl)))))
  (pss_one (ps_ret (pv 3))))), ?_⟩
    have tobj := T.obj
    refine q_val ?_
    refine q_stm (fun σ H' => ∃ x3, σ = [some (.ref p), some (.bl b), some (.str (S wd)), some (.bl x3)] ∧ Q (.bl x3) H') ?_ ?_
    · refine l_if (fun c H' => H' = H ∧ c = b) ?_ (fun H1 h => ?_) fun H1 h => ?_
      · walk_at "rd"
        try exact ⟨_, rfl, rfl⟩
      · obtain ⟨rfl, rfl⟩ := h
        unfold tMeT
        walk_at "rd"
        refine ⟨ks.v, (), p, dx, l, n, En, al, es, kvs, nw, wd, rfl, hwd, ks, sm, lim, fun hn H' s => ?_, fun nms fo hp => ?_⟩
        · refine ⟨true, (kxB_ex T.kx (by decide)).1, fun _ e he => ?_, fun z => nomatch z⟩
          walk_at "rd"
          exact q1 hn _ s
        · obtain ⟨a1, a2, a3, a4⟩ := (q2 nms fo hp).1 rfl
          refine ⟨a1, a2, fun hno H' s => ?_, fun hok => ⟨(a4 hok).1, fun E' al' n' H' g1 g2 g3 g4 g5 g6 g7 => (a4 hok).2 E' al' n' H' g1 g2 g3 g4 g5 g6 g7⟩⟩
          refine ⟨true, (kxB_ex T.kx (by decide)).1, fun _ e he => ?_, fun z => nomatch z⟩
          walk_at "rd"
          exact a3 hno _ s
      · obtain ⟨rfl, rfl⟩ := h
        unfold tMeT
        walk_at "rd"
        refine ⟨ks.v, (), p, dx, l, n, En, al, es, kvs, nw, wd, rfl, hwd, ks, sm, lim, fun hn H' s => ?_, fun nms fo hp => ?_⟩
        · refine ⟨true, (kxB_ex T.kx (by decide)).1, fun _ e he => ?_, fun z => nomatch z⟩
          walk_at "rd"
          exact q1 hn _ s
        · obtain ⟨a3, a4⟩ := (q2 nms fo hp).2 rfl
          refine ⟨fun hno H' s => ?_, fun hok n' H' g1 g2 g3 => a4 hok n' H' g1 g2 g3⟩
          refine ⟨true, (kxB_ex T.kx (by decide)).1, fun _ e he => ?_, fun z => nomatch z⟩
          walk_at "rd"
          exact a3 hno _ s
    rintro σ H1 ⟨x3, rfl, hq⟩
    walk_at "rd"
    exact hq
theorem q_new1 {i : Nat} {v : V} {u : TS} {D : Ends} {σ : L2.St} {H : Hp} (h : ∀ p, H p = none → u D (σ.set i (some (.ref p))) (upd H p (.lst [v]))) : tSeq (tAsg (tLst (tCons (tC v) tNil)) (gName i)) u D σ H := by
  unfold tSeq tAsg tLst tCons tNil tC gName
  exact ⟨Nat.le_of_ble_eq_true rfl, fun p hp => h p hp⟩
/-- the folders that are drawn -/
def spFolds (K : PySem.W.Frag) : Sp := fun vs H Q _ => ∃ F rs c p ws, vs = [.ref F, .int c, .ref p] ∧ RowsL K rs F H ∧ rs.length = 3 ∧ SqL K H p ws ∧ ws.length = 4 ∧ ws.Nodup ∧ (∀ v ∈ ws, SignV v) ∧
  ∀ D (fs : List Names) H', Same H H' → H D = none → H' D = some (.lst (nmsV (fs.map foldT))) → fs.length = 4 → fs[0]? = some [] → (∀ f ∈ fs, f.length ≤ 3 ∧ ∀ nm ∈ f, nm ≠ [] ∧ nm.length ≤ 400 ∧ ∀ c ∈ nm, c ∈ SIG) → Q (.ref D) H'
theorem ok__law_folders (T : Txt K mg) : OkD P w K mg base 3 (fA K "_law_folders") ["_law_forms", "_law_cell_here", "_law_signs_here"] [] (spFolds K) := by
  refine okD T.F__law_folders sc__law_folders (fun _ _ _ _ _ _ us hl => match us, hl with | [_, _, _], _ => rfl) ?_ ?_
  · rintro vs H Q E ⟨F, rs, c, p, ws, rfl, _⟩
    rfl
  · rintro cdv A outer s H vs Q E hr ⟨F, rs, c, p, ws, rfl, hF, lrs, hs, hl, nd, hw, q⟩
    refine ⟨_, (pss_cons (ps_set (i := 3) sc__law_folders.nd rfl (Or.inl rfl) (pe_lst (pa_cons pe_str pa_nil)))
  (pss_cons (ps_mid (ps_for (passes_of rfl) rfl (pi_mid (pi_range1 rfl T.fr_range (pa_cons pe_int pa_nil))) (pg_name (i := 4) sc__law_folders.nd rfl (Or.inl rfl)) (pss_cons (ps_set (i := 5) sc__law_folders.nd rfl (Or.inl rfl) (pe_mid (pe_slice (o_sl (K := K)) (pe_cal (ok__law_names T) (hr.mono (by decide)) rfl T.g__law_names (pasE (takes_of rfl rfl rfl rfl) (fun _ _ _ _ h => h)) (pa_cons (pe_ix (o_ix (K := K)) (pv 0) (pv 4) (fun _ _ => rfl)) (pa_cons (pe_cal (ok__law_mixed T) (hr.mono (by decide)) rfl T.g__law_mixed (pasE (takes_of rfl rfl rfl rfl) (fun _ _ _ _ h => h)) (pa_cons (pv 1) (pa_cons (pe_op (o_add (K := K)) pe_int (pv 4)) pa_nil))) (pa_cons (pv 2) pa_nil)))) po_none (po_some (pe_op (o_add (K := K)) pe_int (pe_op op_mod (pe_op op_fdivW (pv 1) (pe_ix (o_ix (K := K)) (pe_lst (pa_cons pe_int (pa_cons pe_int (pa_cons pe_int pa_nil)))) (pv 4) (fun _ _ => rfl))) pe_int))))))
  (pss_one (ps_expr (pe_bmK (K := K) PySem.F.plainAttrs_list PySem.F.slot_list_append PySem.F.type_list_append mt_append (pv 3) (pa_cons (pe_mid (pe_mid (pe_bmK (K := K) PySem.F.plainAttrs_str PySem.F.slot_str_join PySem.F.type_str_join (mo_join (K := K)) pe_str (pa_cons (pe_lc (own := [("_law_name", 6)]) (g := (gName 6)) (tt := tYes) rfl sc__law_folders.nd (pi_mid (o_it (K := K) rfl (pv 5))) (blkOk_by (N := N__law_folders) (sc := defScope TX.s__law_folders) (by decide +kernel)) (fun _ _ _ _ _ => (pg_name (i := 6) sc__law_folders.nd rfl (Or.inl rfl))) (fun _ _ _ _ _ => pts_nil) (fun _ _ _ _ _ => (pe_mid (pe_op (o_add (K := K)) (pv 6) pe_str)))) pa_nil)))) pa_nil)))))))
  (pss_one (ps_ret (pv 3))))), ?_⟩
    have tobj := T.obj
    obtain ⟨us0, hF0, each0, oks0⟩ := id hF
    refine q_new1 fun D hD => ?_
    have sD := same_new (o := .lst [V.str (Str.ofString "")]) hD
    refine q_stm (fun σ H' => Same H H' ∧ ∃ (fs : List Names) (x4 x5 x6 : Option V), H' D = some (.lst (nmsV (fs.map foldT))) ∧ fs.length = 4 ∧ fs[0]? = some [] ∧ (∀ f ∈ fs, f.length ≤ 3 ∧ ∀ nm ∈ f, nm ≠ [] ∧ nm.length ≤ 400 ∧ ∀ c ∈ nm, c ∈ SIG) ∧ σ = [some (.ref F), some (.int c), some (.ref p), some (.ref D), x4, x5, x6]) ?_ ?_
    · refine for_mid (J0 := Itr 0 3) (H0 := upd H D (.lst [V.str (Str.ofString "")])) ?_ walk_range (fun k σ H' => Same H H' ∧ ∃ (fs : List Names) (x4 x5 x6 : Option V), H' D = some (.lst (nmsV (fs.map foldT))) ∧ fs.length = 1 + k ∧ fs[0]? = some [] ∧ (∀ f ∈ fs, f.length ≤ 3 ∧ ∀ nm ∈ f, nm ≠ [] ∧ nm.length ≤ 400 ∧ ∀ c ∈ nm, c ∈ SIG) ∧ σ = [some (.ref F), some (.int c), some (.ref p), some (.ref D), x4, x5, x6])
        ⟨sD, [[]], _, _, _, upd_same, rfl, rfl, (fun f h => by rw [List.mem_singleton.mp h]; exact ⟨Nat.zero_le _, fun _ h => nomatch h⟩), rfl⟩ (fun _ _ _ _ _ => trivial) ?_ (fun σ H' h => h)
      · walk_at "rd"
        exact ⟨by decide, by decide, rfl⟩
      · rintro k x σ H1' H1 hk ⟨s1, fs, x4, x5, x6, hD1, lfs, fs0, fok, rfl⟩ ⟨rfl, rfl⟩
        have hp1 := same_l s1 hs
        have hrs1 := hF.mono s1
        obtain ⟨us, hF1, each1, oks1⟩ := id hrs1
        have hjl : k < rs.length := by omega
        obtain ⟨u, hu, du⟩ := each1.2 k _ (List.getElem?_eq_getElem hjl)
        obtain ⟨okr, lor⟩ := oks1 _ (List.getElem_mem hjl)
        have okp : ∀ fs, SF.seg fs ∈ rs[k].steps → ∀ f ∈ fs, FOk f := fun fs h f hf => ⟨(show PartsOk fs from okr.ok _ h).ok f hf, lor fs h f hf⟩
        refine q_midG (fun v H' => Same H1 H' ∧ ∃ g nms, v = .ref g ∧ H' g = some (.lst (nmsV nms)) ∧ nms.length ≤ 3 ∧ ∀ nm ∈ nms, nm ≠ [] ∧ nm.length ≤ 400 ∧ ∀ c ∈ nm, c ∈ SIG) ?_ ?_
        · walk_at "rd"
          refine ⟨us, .inl (.inl (.inl hF1)), u, atI_nat hu, c, _, rfl, fun m _ _ => ⟨u, m, p, ws, rs[k], rfl, du, okr, okp, hp1, hl, nd, hw, fun G gs H' hne hus hlen s h => ?_⟩⟩
          obtain ⟨nms, rfl, hnm⟩ := names_list hus
          obtain ⟨d, hd, hd0, hd1⟩ : ∃ d : Int, atI [V.int 1, V.int 3, V.int 9] (k : Int) = some (.int d) ∧ 0 < d ∧ d < 10 := by
            match k, hk with
            | 0, _ => exact ⟨1, atI_nat rfl, by decide, by decide⟩
            | 1, _ => exact ⟨3, atI_nat rfl, by decide, by decide⟩
            | 2, _ => exact ⟨9, atI_nat rfl, by decide, by decide⟩
            | k + 3, h => exact absurd h (by omega)
          have h0 : 0 ≤ c / d % 2 := Int.emod_nonneg _ (by decide)
          have h1 : c / d % 2 < 2 := Int.emod_lt_of_pos _ (by decide)
          obtain ⟨i, hi⟩ : ∃ i : Nat, 1 + c / d % 2 = (i : Int) := ⟨(1 + c / d % 2).toNat, by omega⟩
          walk_at "rd"
          intro p1 hp1
          have t1 := same_new (o := .lst [V.int 1, V.int 3, V.int 9]) hp1
          refine ⟨_, .inl (.inl (.inl upd_same)), _, hd, _, rfl, ⟨hd0, ?_⟩, .inl ⟨nmsV nms, .inl (.inl (t1 _ _ h)), fun p2 hp2 => ⟨(s.trans t1).trans (same_new hp2), nms.take i, ?_, Nat.le_trans (by rw [List.length_take]; exact Nat.min_le_left _ _) (show i ≤ 3 by omega), fun nm h => hnm nm (List.mem_of_mem_take h)⟩⟩⟩
          · have : d = 1 ∨ d = 2 ∨ d = 3 ∨ d = 4 ∨ d = 5 ∨ d = 6 ∨ d = 7 ∨ d = 8 ∨ d = 9 := by omega
            rcases this with rfl | rfl | rfl | rfl | rfl | rfl | rfl | rfl | rfl <;> decide
          · rw [upd_same, hi, cut_toL, nms_take']
        rintro _ H2 ⟨s2, G, nms, rfl, hG, lnm, hnm⟩
        have hD2 := s2 _ _ hD1
        refine l_app rfl hD2 ?_
        refine mid_of (fun v H' => Same H2 H' ∧ v = .str (S (foldT nms))) ?_ ?_
        · walk_at "rd"
          refine lc_midM (J0 := Itl K G) (H0 := H2) ?_ (walk_list (K := K) (a := G) (xs := nmsV nms)) (by rw [nms_len]; omega) (fun k acc _ => acc = nmsV ((nms.take k).map (· ++ [47]))) (fun _ _ _ _ _ e => e) rfl (fun H' s => .inl (.inl (s _ _ hG))) (fun _ _ _ _ y => y_at y) (fun _ => rfl) ?_ ?_
          · walk_at "rd"
            exact .inl ⟨_, .inl (.inl hG)⟩
          · rintro jj x acc H' H'' hj s4 rfl ⟨rfl, hx⟩
            obtain ⟨nm, hnm1, rfl⟩ := nms_at hx
            have l400 := (hnm nm (List.mem_of_getElem? hnm1)).2.1
            refine mid_of (fun v H4 => H4 = H'' ∧ v = .str (S (nm ++ [47]))) ?_ ?_
            · walk_at "rd"
              exact ⟨by rw [S_len]; show nm.length + 1 ≤ _; omega, S_cat _ _⟩
            · rintro _ _ ⟨rfl, rfl⟩
              refine ⟨Same.refl _, ?_⟩
              rw [List.take_succ, hnm1]
              simp [nmsV]
          intro W acc H3 hWn s3 hW _ hacc
          rw [List.take_of_length_le (by rw [nms_len]; exact Nat.le_refl _)] at hacc
          subst hacc
          have wl : ∀ w ∈ nms.map (· ++ [47]), w.length ≤ 401 := fun w hw => by
            obtain ⟨nm, h, rfl⟩ := List.mem_map.mp hw
            have := (hnm nm h).2.1
            rw [List.length_append, List.length_singleton]
            omega
          have l1 := sum_len wl
          rw [List.length_map] at l1
          refine ⟨(nms.map (· ++ [47])).map S, .inl (.inl (.inl hW)), ?_, s3, ?_⟩
          · rw [show (Str.ofString "").length = 0 from rfl]
            have : 401 * nms.length ≤ 401 * 3 := Nat.mul_le_mul_left _ lnm
            omega
          · rw [show Str.ofString "" = S [] from rfl, join_S, join_nil']
            rfl
        rintro _ H3 ⟨s3, rfl⟩
        have hD3 := s3 _ _ hD2
        refine ⟨_, hD3, by rw [sizeLine_eq, nms_len, List.length_map]; omega, same_mut (s1.trans (s2.trans s3)) hD, fs ++ [nms], _, _, _, ?_, by rw [List.length_append, lfs]; rfl, ?_, fun f hf => ?_, rfl⟩
        · rw [upd_same, List.map_append]
          unfold nmsV
          simp
        · rw [List.getElem?_append_left (by omega)]
          exact fs0
        · rcases List.mem_append.mp hf with hf | hf
          · exact fok f hf
          · rw [List.mem_singleton.mp hf]
            exact ⟨lnm, hnm⟩
    rintro σ H1 ⟨s1, fs, x4, x5, x6, hD1, lfs, fs0, fok, rfl⟩
    walk_at "rd"
    exact q D fs H1 s1 hD hD1 lfs fs0 fok
def spNoneR (K : PySem.W.Frag) : Sp := fun vs H Q _ => ∃ p dx l n En al es kvs nw c, vs = [.ref p, .int c] ∧ KeepG K p dx l n En al es kvs nw H ∧ SmallT En ∧ LimE es ∧ ∀ H', Same H H' → Q (.bl true) H'
theorem ok__law_none_refused (T : Txt K mg) : OkD P w K mg base 17 (fA K "_law_none_refused") ["_law_keeper", "_law_cell_here"] [] (spNoneR K) := by
  refine okD T.F__law_none_refused sc__law_none_refused (fun _ _ _ _ _ _ us hl => match us, hl with | [_, _], _ => rfl) ?_ ?_
  · rintro vs H Q E ⟨p, dx, l, n, En, al, es, kvs, nw, c, rfl, _⟩
    rfl
  · rintro cdv A outer s H vs Q E hr ⟨p, dx, l, n, En, al, es, kvs, nw, c, rfl, ks, sm, lim, q⟩
    refine ⟨_, (pss_cons (ps_set (i := 2) sc__law_none_refused.nd rfl (Or.inl rfl) pe_bl)
  (pss_cons (ps_mid (ps_try_only rfl rfl ⟨rfl, rfl, Or.inl T.g_ShunError⟩ (takes_of rfl rfl rfl rfl) (fun W pn xe tkW pxW => (pss_one (ps_if (pt_mid (pt_cmpR (o_eq (K := K) (hu64 hr)) (pe_op op_mod (pv 1) pe_int) pe_int (nomark _))) (pss_one (ps_expr (pe_metT (md_K_rule T) (pv 0) (hr.mono (by decide)) tkW (pa_cons pe_str (pa_cons (pe_lst pa_nil) pa_nil))))) (pss_one (ps_if (pt_mid (pt_cmpR (o_eq (K := K) (hu64 hr)) (pe_op op_mod (pv 1) pe_int) pe_int (nomark _))) (pss_one (ps_expr (pe_metT (md_K_put T) (pv 0) (hr.mono (by decide)) tkW (pa_cons pe_str pa_nil)))) (pss_one (ps_expr (pe_metT (md_K_take T) (pv 0) (hr.mono (by decide)) tkW (pa_cons pe_str pa_nil))))))))) (fun _ _ _ _ _ _ _ => (pss_one (ps_set (i := 2) sc__law_none_refused.nd rfl (Or.inl rfl) pe_bl)))))
  (pss_one (ps_ret (pv 2))))), ?_⟩
    have tobj := T.obj
    refine q_val ?_
    refine q_stm (fun σ H' => Same H H' ∧ σ = [some (.ref p), some (.int c), some (.bl true)]) ?_ ?_
    · refine l_if (fun b H' => H' = H) ?_ (fun H1 h => ?_) fun H1 h => ?_
      · walk_at "rd"
        try decide
      · obtain rfl := h
        unfold tMeT
        walk_at "rd"
        refine ⟨ks.v, (), fun F hF => ?_⟩
        have sF := same_new (o := .lst []) hF
        have ks1 := ks.mono sF
        refine ⟨p, dx, l, n, En, al, es, kvs, nw, [97, 47, 98], F, [], [], rfl, by decide, ks1, sm, lim, upd_same, .nil, by decide, fun hn H' s => ?_, fun ns hns => ?_⟩
        · refine ⟨true, (kxB_ex T.kx (by decide)).1, fun _ e he => ?_, fun z => nomatch z⟩
          walk_at "rd"
          exact sF.trans s
        · rw [show folderN [97, 47, 98] = none by decide +kernel] at hns
          cases hns
      obtain rfl := h
      refine l_if (fun b H' => H' = H1) ?_ (fun H2 h => ?_) fun H2 h => ?_
      · walk_at "rd"
        try decide
      · obtain rfl := h
        unfold tMeT
        walk_at "rd"
        refine ⟨ks.v, (), p, dx, l, n, En, al, es, kvs, nw, [97, 47, 47], rfl, by decide, ks, sm, lim, fun hn H' s => ?_, fun nms fo hp => by rw [show pathN [97, 47, 47] = none by decide +kernel] at hp; cases hp⟩
        refine ⟨true, (kxB_ex T.kx (by decide)).1, fun _ e he => ?_, fun z => nomatch z⟩
        walk_at "rd"
        exact s
      · obtain rfl := h
        unfold tMeT
        walk_at "rd"
        refine ⟨ks.v, (), p, dx, l, n, En, al, es, kvs, nw, [], rfl, by decide, ks, sm, lim, fun hn H' s => ?_, fun nms fo hp => by rw [show pathN [] = none by decide +kernel] at hp; cases hp⟩
        refine ⟨true, (kxB_ex T.kx (by decide)).1, fun _ e he => ?_, fun z => nomatch z⟩
        walk_at "rd"
        exact s
    rintro σ H1 ⟨s1, rfl⟩
    walk_at "rd"
    exact q _ s1

/-! ### a path taken from the law's tree; more put into a copy -/
def spGone (K : PySem.W.Frag) : Sp := fun vs H Q _ => ∃ E al n fo nms, vs = [.ref (al []), .ref n, .bl fo] ∧ TreeE E al H ∧ H n = some (.lst (nmsV nms)) ∧ nms ≠ [] ∧ ((nms, fo) ∉ E → ∀ H', Same H H' → Q (.bl false) H') ∧ ((nms, fo) ∈ E → ∀ H', Frm (fpT E al) H H' → TreeE (takeE E nms) al H' → Q (.bl true) H')
theorem ok__law_gone (T : Txt K mg) : OkD P w K mg base 1 (fA K "_law_gone") ["_law_root", "_law_names_here", "_law_folder"] [] (spGone K) := by
  refine okD T.F__law_gone sc__law_gone (fun _ _ _ _ _ _ us hl => match us, hl with | [_, _, _], _ => rfl) ?_ ?_
  · rintro vs H Q E ⟨E, al, n, fo, nms, rfl, _⟩
    rfl
  · rintro cdv A outer s H vs Q X hr ⟨E, al, n, fo, nms, rfl, ht, hn, hne, q1, q2⟩
    refine ⟨_, (pss_cons (ps_set (i := 3) sc__law_gone.nd rfl (Or.inl rfl) (pe_mid (pv 0)))
  (pss_cons (ps_mid (ps_for (passes_of rfl) rfl (pi_mid (o_it (K := K) rfl (pe_slice (o_sl (K := K)) (pv 1) po_none (po_some (pe_un un_neg pe_int))))) (pg_name (i := 4) sc__law_gone.nd rfl (Or.inl rfl)) (pss_cons (ps_set (i := 3) sc__law_gone.nd rfl (Or.inl rfl) (pe_mid (pe_dget1 (hu_of hr) (pv 3) (pv 4) ⟨by rfl, by rfl, by rfl, by rfl⟩)))
  (pss_one (ps_if (pt_mid (pt_cmp (pc_isN (pv 3)) rfl)) (pss_one (ps_ret pe_bl)) pss_nil)))))
  (pss_cons (ps_if (pt_mid (PW.pt (pw_or (pt_cmp (pc_dnotin (hu_of hr) (pe_ix (o_ix (K := K)) (pv 1) (pe_un un_neg pe_int) (fun _ _ => rfl)) (pv 3)) rfl) (pw_or1 (pt_cmpR (o_eq (K := K) (hu64 hr)) (pe_cmp (pc_isN (pe_dget (hu_of hr) (pv 3) (pe_ix (o_ix (K := K)) (pv 1) (pe_un un_neg pe_int) (fun _ _ => rfl)) (fun _ _ => rfl))) rfl) (pv 2) (nomark _)))))) (pss_one (ps_ret pe_bl)) pss_nil)
  (pss_cons (ps_expr (pe_dpop1 (pv 3) (pe_ix (o_ix (K := K)) (pv 1) (pe_un un_neg pe_int) (fun _ _ => rfl)) ⟨by rfl, by rfl, by rfl, by rfl⟩))
  (pss_one (ps_ret pe_bl)))))), ?_⟩
    have tobj := T.obj
    have ok := ht.ok
    have hlen := List.length_pos_iff.mpr hne
    refine q_midG (fun v H' => v = .ref (al []) ∧ H' = H) (by walk_at "rd") ?_
    rintro _ _ ⟨rfl, rfl⟩
    rename_i H
    have hlast : nms[nms.length - 1]? = some (nms.getLastD []) := by
      rw [← List.getLast?_eq_getElem?, List.getLastD_eq_getLast?]
      cases h : nms.getLast? with
      | none => exact absurd (List.getLast?_eq_none_iff.mp h) hne
      | some x => rfl
    have el : nms = nms.take (nms.length - 1) ++ [nms.getLastD []] := by
      conv => lhs; rw [drop_last hne]
      rw [List.dropLast_eq_take]
    have noway : ∀ i, 0 < i → i < nms.length → (nms.take i, true) ∉ E → (nms, fo) ∉ E := fun i h0 hi hn h => hn (up_take ok h h0 hi)
    refine q_stm (fun σ H' => Same H H' ∧ Fold E (nms.take (nms.length - 1)) ∧ ∃ x5, σ = [some (.ref (al [])), some (.ref n), some (.bl fo), some (.ref (al (nms.take (nms.length - 1)))), x5]) ?_ ?_
    · refine for_open (fun J H4 => ∃ L, J = Itl K L ∧ H L = none ∧ H4 = upd H L (.lst (nmsV (nms.take (nms.length - 1))))) ?_ ?_
      · walk_at "rd"
        refine .inl ⟨_, .inl (.inl hn), fun L hL => .inl ⟨⟨_, .inl (.inl upd_same)⟩, L, rfl, hL, ?_⟩⟩
        have e : cutV (nmsV nms) none (some (-1)) = nmsV (nms.take (nms.length - 1)) := by
          unfold cutV
          have e : HT.sIx (nmsV nms).length (nmsV nms).length (some (-1)) = nms.length - 1 := by
            rw [nms_len]
            unfold HT.sIx
            simp
            omega
          rw [HT.sIx_none, e, List.drop_zero, Nat.sub_zero, nms_take]
        rw [e]
      rintro _ _ ⟨L, rfl, hLn, rfl⟩
      have sL : Same H (upd H L (.lst (nmsV (nms.take (nms.length - 1))))) := same_new hLn
      refine for_mid (J0 := Itl K L) (H0 := upd H L (.lst (nmsV (nms.take (nms.length - 1))))) ⟨rfl, rfl⟩ (walk_list (K := K) (a := L) (xs := nmsV (nms.take (nms.length - 1)))) (fun k σ H' => Same H H' ∧ H' L = some (.lst (nmsV (nms.take (nms.length - 1)))) ∧ Fold E (nms.take k) ∧ ∃ x5, σ = [some (.ref (al [])), some (.ref n), some (.bl fo), some (.ref (al (nms.take k))), x5])
        ⟨sL, upd_same, .inl rfl, _, rfl⟩ (fun _ _ _ _ h => .inl (.inl h.2.1)) ?_ (fun σ H' h => ?_)
      · rintro k x σ H4 H4' hk ⟨s4, hL4, f1, x5, rfl⟩ ⟨rfl, hx⟩
        obtain ⟨nm, hnm0, rfl⟩ := nms_at hx
        have hk1 : k + 1 < nms.length := by
          rw [nms_len, List.length_take] at hk
          omega
        have hnm1 : nms[k]? = some nm := by rwa [List.getElem?_take_of_lt (by omega)] at hnm0
        have tk : nms.take (k + 1) = nms.take k ++ [nm] := by rw [List.take_succ, hnm1]; rfl
        have hd := s4 _ _ (ht.at_ _ f1)
        refine q_midG (fun v H' => H' = H4' ∧ ((v = .non ∧ (nms, fo) ∉ E) ∨ (v = .ref (al (nms.take (k + 1))) ∧ (nms.take (k + 1), true) ∈ E))) ?_ ?_
        · walk_at "rd"
          have g := DGet.k (k := .inr (S nm)) hd
          by_cases he : ∃ fo', (nms.take k ++ [nm], fo') ∈ E
          · obtain ⟨fo', he⟩ := he
            rw [kid_val ok he] at g
            refine ⟨.inl ⟨_, .inl hd⟩, _, g, ?_⟩
            cases fo' with
            | true => exact .inr ⟨by rw [tk]; rfl, by rw [tk]; exact he⟩
            | false => exact .inl ⟨rfl, noway (k + 1) (by omega) hk1 fun h => by rw [tk] at h; exact Bool.noConfusion (e_uniq ok h he)⟩
          · rw [kid_no ok fun fo' h => he ⟨fo', h⟩] at g
            exact ⟨.inl ⟨_, .inl hd⟩, _, g, .inl ⟨rfl, noway (k + 1) (by omega) hk1 fun h => he ⟨true, by rw [← tk]; exact h⟩⟩⟩
        rintro v H5 ⟨rfl, hv⟩
        refine l_if (fun b H' => H' = H5 ∧ b = decide (v = .non)) ?_ (fun H6 h => ?_) fun H6 h => ?_
        · rcases hv with ⟨rfl, _⟩ | ⟨rfl, _⟩ <;> walk_at "rd"
        · obtain ⟨rfl, hb⟩ := h
          rcases hv with ⟨rfl, hno⟩ | ⟨rfl, _⟩
          · walk_at "rd"
            exact q1 hno _ s4
          · simp at hb
        · obtain ⟨rfl, hb⟩ := h
          rcases hv with ⟨rfl, hno⟩ | ⟨rfl, hin⟩
          · simp at hb
          · exact ⟨s4, hL4, .inr hin, _, rfl⟩
      · obtain ⟨s4, hL4, f1, x5, rfl⟩ := h
        rw [nms_len, List.length_take, Nat.min_eq_left (Nat.sub_le _ _)] at f1
        rw [nms_len, List.length_take, Nat.min_eq_left (Nat.sub_le _ _)]
        exact ⟨s4, f1, _, rfl⟩
    rintro σ H2 ⟨s2, f1, x5, rfl⟩
    generalize hlst : nms.getLastD [] = nm at el hlast
    have hat : atI (nmsV nms) (-1) = some (V.str (S nm)) := atI_last (by
      unfold nmsV
      rw [List.getLast?_map, List.getLast?_map, List.getLast?_eq_getElem?, hlast]
      rfl)
    have tk : nms.take (nms.length - 1) ++ [nm] = nms := el.symm
    have hn2 := s2 _ _ hn
    have hd2 := s2 _ _ (ht.at_ _ f1)
    refine q_if (fun b H' => H' = H2 ∧ b = !decide ((nms, fo) ∈ E)) ?_ (fun H3 h => ?_) fun H3 h => q_next ?_
    · have g := DGet.k (k := .inr (S nm)) hd2
      by_cases he : ∃ fo', (nms.take (nms.length - 1) ++ [nm], fo') ∈ E
      · obtain ⟨fo', he⟩ := he
        rw [kid_val ok he] at g
        have hin : decide ((nms, fo) ∈ E) = (fo == fo') := by
          rw [tk] at he
          cases hq : (fo == fo') with
          | true => exact decide_eq_true (by rw [eq_of_beq hq]; exact he)
          | false => exact decide_eq_false fun h => by rw [e_uniq ok h he] at hq; simp at hq
        walk_at "rd"
        refine ⟨_, .inl (.inl (.inl hn2)), _, hat, _, g, ite2 (fun h => nomatch h) fun _ => ⟨_, .inl (.inl (.inl hn2)), _, hat, _, g, ?_⟩⟩
        rw [hin]
        cases fo <;> cases fo' <;> simp
      · rw [kid_no ok fun fo' h => he ⟨fo', h⟩] at g
        have hin : decide ((nms, fo) ∈ E) = false := decide_eq_false fun h => he ⟨fo, by rw [tk]; exact h⟩
        walk_at "rd"
        refine ⟨_, .inl (.inl (.inl hn2)), _, hat, none, g, ite2 (fun _ => by rw [hin]; rfl) fun h => absurd rfl h⟩
    · obtain ⟨rfl, hb⟩ := h
      walk_at "rd"
      exact q1 (by simpa using hb) _ s2
    obtain ⟨rfl, hb⟩ := h
    have hin : (nms, fo) ∈ E := by simpa using hb
    clear hb el
    have t3 := ht.mono s2
    have t5 := tree_pop (nm := nm) t3 f1
    rw [tk] at t5
    unfold tDPop1
    walk_at "rd"
    refine ⟨.inl ⟨_, .inl hd2⟩, _, .inl (.inl (.inl hn2)), _, hat, _, hd2, .inr (S nm), rfl, ⟨_, kid_val ok (by rw [tk]; exact hin)⟩, q2 hin _ ?_ t5⟩
    exact (Frm.of s2).trans (Frm.upd (fun _ _ e _ => e) (.inl ⟨_, f1, rfl⟩))

/-! ### keepers beside other trees -/
section
variable {K : PySem.W.Frag} {p dx l n : Addr} {En Er : List (Names × Bool)} {al ar : Names → Addr} {es : List LE} {kvs : List (Key × V)} {nw : List (List Nat)} {H H' : Hp}
theorem Lsts.isl {R : RF → V → Hp → Prop} (h : Lsts R es kvs H) {k : Key} {a : Addr} (m : (k, V.ref a) ∈ kvs) : ∃ us, H a = some (.lst us) := by
  obtain ⟨i, hi⟩ := List.mem_iff_getElem?.mp m
  obtain ⟨e, L, us, _, _, e2, hL, _⟩ := h.at_ hi
  cases e2
  exact ⟨us, hL⟩
/-- another tree changes -/
theorem KeepG.frmT (h : KeepG K p dx l n En al es kvs nw H) (f : Frm (fpT Er ar) H H') (t : TreeE Er ar H) (sep : ∀ q, Fold Er q → ¬ fpK p l En al (ar q)) : KeepG K p dx l n En al es kvs nw H' := by
  refine h.frm f (fun a ⟨q, hq, e⟩ => .inr (.inl ⟨kids Er ar q, by rw [e]; exact t.at_ q hq⟩)) fun a ⟨q, hq, e⟩ z => ?_
  have hd := t.at_ q hq
  rw [← e] at hd
  rcases z with z | z | z | ⟨k, z⟩
  · exact sep q hq (e ▸ .inr (.inl z))
  · rw [z, h.news] at hd
    cases hd
  · exact sep q hq (e ▸ .inr (.inr z))
  · obtain ⟨us, hu⟩ := h.rul.isl z
    rw [hu] at hd
    cases hd
theorem TreeE.ex (t : TreeE Er ar H) {a : Addr} (h : fpT Er ar a) : ∃ ks, H a = some (.dK ks) := by
  obtain ⟨q, hq, rfl⟩ := h
  exact ⟨_, t.at_ q hq⟩
theorem KeepG.ex (h : KeepG K p dx l n En al es kvs nw H) {a : Addr} (ha : fpK p l En al a) : H a ≠ none := by
  rcases h.fp ha with ⟨_, e⟩ | ⟨ks, e⟩ <;> rw [e] <;> simp
theorem KeepG.nlst (h : KeepG K p dx l n En al es kvs nw H) {a : Addr} {us : List V} (e : H a = some (.lst us)) : ¬ fpK p l En al a := fun z => by
  rcases h.fp z with ⟨_, e2⟩ | ⟨ks, e2⟩ <;> rw [e] at e2 <;> cases e2
theorem TreeE.nlst (t : TreeE Er ar H) {a : Addr} {us : List V} (e : H a = some (.lst us)) : ¬ fpT Er ar a := fun z => by
  obtain ⟨ks, e2⟩ := t.ex z
  rw [e] at e2
  cases e2
end
/-- a tree told and kept, with its paths -/
def OldV (Bad : Addr → Prop) (u : V) (H : Hp) : Prop := ∃ (t : Addr) (E' : List (Names × Bool)) (al' : Names → Addr) (L : Addr), u = .ref t ∧ H t = some (.tup [.ref (al' []), .ref L]) ∧ TreeE E' al' H ∧ SmallT E' ∧ (∀ q, Fold E' q → ¬ Bad (al' q)) ∧ ¬ Bad L ∧ ¬ Bad t ∧ H L = some (.lst (nmsV (pathsE E' 10 [] [])))
theorem OldV.frm {Bad Bad' : Addr → Prop} {u : V} {H H' : Hp} (h : OldV Bad u H) (f : Frm Bad H H') (s : ∀ a, Bad' a → Bad a ∨ H a = none) : OldV Bad' u H' := by
  obtain ⟨t, E', al', L, e, ht, tr, sm, b1, b2, b3, hL⟩ := h
  have nb : ∀ {a : Addr} {o : HO}, H a = some o → ¬ Bad a → ¬ Bad' a := fun {a o} e n z => (s a z).elim n fun q => by rw [q] at e; cases e
  exact ⟨t, E', al', L, e, f _ _ ht b3, tr.frm f b1, sm, fun q hq => nb (tr.at_ q hq) (b1 q hq), nb hL b2, nb ht b3, f _ _ hL b2⟩
/-- trees with the same entries are equal -/
theorem tree_kv {K : PySem.W.Frag} {E1 E2 : List (Names × Bool)} {a1 a2 : Names → Addr} {H : Hp} (t1 : TreeE E1 a1 H) (t2 : TreeE E2 a2 H) (p : E1.Perm E2) : ∀ (n : Nat) (q : Names), Fold E1 q → q.length + n = 10 → (kids E1 a1 q).length = (kids E2 a2 q).length ∧ ∀ kv ∈ kids E1 a1 q, ∃ u, valV (kids E2 a2 q) kv.1 = some u ∧ EqV K H n kv.2 u
  | 0, q, hq, hl => by
    exfalso
    rcases hq with rfl | hq
    · simp at hl
    · have h3 : q.length ≤ 9 := t1.ok.deep _ hq
      omega
  | n + 1, q, hq, hl => by
    have hq2 : Fold E2 q := hq.imp id p.mem_iff.mp
    refine ⟨?_, fun kv hkv => ?_⟩
    · unfold kids
      rw [List.length_map, List.length_map, (p.filter _).length_eq]
    · unfold kids at hkv
      obtain ⟨e, he, rfl⟩ := List.mem_map.mp hkv
      obtain ⟨h1, h2⟩ := kid_of t1.ok he
      have hv := kid_val t2.ok (al := a2) (p := q) (nm := e.1.getLastD []) (fo := e.2) (by rw [← h2]; exact p.mem_iff.mp h1)
      rw [← h2] at hv
      refine ⟨_, hv, ?_⟩
      unfold kidE
      cases hb : e.2 with
      | false =>
        rw [if_neg (by simp), if_neg (by simp)]
        exact .inl ⟨rfl, rfl⟩
      | true =>
        rw [if_pos rfl, if_pos rfl]
        have := congrArg List.length h2
        rw [List.length_append, List.length_singleton] at this
        have he1 : Fold E1 e.1 := .inr (by rw [← hb]; exact h1)
        obtain ⟨g1, g2⟩ := tree_kv t1 t2 p n e.1 he1 (by omega)
        exact .inr (.inr (.inr ⟨_, _, _, _, rfl, rfl, t1.at_ _ he1, t2.at_ _ (he1.imp id p.mem_iff.mp), g1, g2⟩))
theorem tree_eqT {K : PySem.W.Frag} {E1 E2 : List (Names × Bool)} {a1 a2 : Names → Addr} {H : Hp} (t1 : TreeE E1 a1 H) (t2 : TreeE E2 a2 H) (p : E1.Perm E2) {Q : VK} (q : Q (.bl true) H) : rEqV K (.ref (a1 [])) (.ref (a2 [])) H Q := by
  obtain ⟨g1, g2⟩ := tree_kv (K := K) t1 t2 p 10 [] (.inl rfl) rfl
  exact ⟨10, by decide, .inr ⟨a1 [], a2 [], _, _, rfl, rfl, t1.at_ [] (.inl rfl), t2.at_ [] (.inl rfl), g1, g2⟩, q⟩
/-! comprehensions over pairs, with a test -/
/-! ### the state of the puts and takes -/
theorem PutN.perm {E1 E2 E1' E2' : List (Names × Bool)} {nms : Names} {fo : Bool} (p : E1.Perm E2) (o1 : EOk E1') (o2 : EOk E2') (g1 : Grow E1 E1' nms nms.length) (h1 : (nms, fo) ∈ E1') (g2 : Grow E2 E2' nms nms.length) (h2 : (nms, fo) ∈ E2') : E1'.Perm E2' := by
  have nd : ∀ {E : List (Names × Bool)}, EOk E → E.Nodup := fun ok => (List.pairwise_map.mp ok.nd).imp fun h e => h (by rw [e])
  refine (List.perm_ext_iff_of_nodup (nd o1) (nd o2)).mpr fun e => ?_
  rw [putN_iff o1 g1 h1, putN_iff o2 g2 h2, p.mem_iff]
theorem okPut_perm {E1 E2 : List (Names × Bool)} {nms : Names} {fo : Bool} (p : E1.Perm E2) : OkPut E1 nms fo ↔ OkPut E2 nms fo := by
  unfold OkPut
  simp only [p.mem_iff]
theorem leafs_grow {E E' : List (Names × Bool)} {nms : Names} {fo : Bool} (ok : EOk E') (g : Grow E E' nms nms.length) (h : (nms, fo) ∈ E') : (leafs E').length ≤ (leafs E).length + 1 := by
  have nd : E'.Nodup := (List.pairwise_map.mp ok.nd).imp fun h e => h (by rw [e])
  have hs : leafs E' ⊆ (nms, false) :: leafs E := fun e he => by
    obtain ⟨h1, h2⟩ := List.mem_filter.mp he
    have h2 : e.2 = false := by simpa using h2
    rcases (putN_iff ok g h e).mp h1 with h3 | ⟨i, _, _, rfl⟩ | rfl
    · exact List.mem_cons_of_mem _ (List.mem_filter.mpr ⟨h3, by simp [h2]⟩)
    · cases h2
    · have h2 : fo = false := h2
      rw [h2]
      exact List.mem_cons_self
  have := List.Nodup.length_le_of_subset (nd.filter _) hs
  rw [List.length_cons] at this
  exact this
/-- sizes after k deeds -/
structure Siz (En : List (Names × Bool)) (k : Nat) : Prop where
  len : En.length ≤ 5 * k
  kid : ∀ p, (kidN En p).length ≤ k
  nm : ∀ e ∈ En, e.1.length ≤ 5 ∧ ∀ x ∈ e.1, x.length ≤ 400
  lf : (leafs En).length ≤ k
theorem Siz.small {En : List (Names × Bool)} {k : Nat} (h : Siz En k) (hk : k ≤ 60) : SmallT En := ⟨by have := h.len; omega, fun p => Nat.le_trans (h.kid p) hk, fun e he => ⟨Nat.le_trans (h.nm e he).1 (by decide), (h.nm e he).2⟩, by have := h.lf; omega⟩
theorem Siz.up {En : List (Names × Bool)} {k : Nat} (h : Siz En k) : Siz En (k + 1) := ⟨by have := h.len; omega, fun p => Nat.le_succ_of_le (h.kid p), h.nm, Nat.le_succ_of_le h.lf⟩
theorem Siz.put {E E' : List (Names × Bool)} {k : Nat} {nms : Names} {fo : Bool} (h : Siz E k) (ok : EOk E') (g : Grow E E' nms nms.length) (hin : (nms, fo) ∈ E') (hl : nms.length ≤ 5) (hn : ∀ x ∈ nms, x.length ≤ 400) : Siz E' (k + 1) := by
  refine ⟨by have := g.len; have := h.len; omega, fun p => ?_, fun e he => ?_, ?_⟩
  · have h1 := g.kid p
    have h2 := h.kid p
    split at h1 <;> omega
  · rcases g.new e he with h1 | ⟨i, _, _, h1, _⟩
    · exact h.nm e h1
    · rw [h1]
      exact ⟨by rw [List.length_take]; omega, fun x hx => hn x (List.mem_of_mem_take hx)⟩
  · have := leafs_grow ok g hin
    have := h.lf
    omega
theorem Siz.take {E : List (Names × Bool)} {k : Nat} (h : Siz E k) (nms : Names) : Siz (takeE E nms) k := ⟨Nat.le_trans (List.length_filter_le _ _) h.len, fun p => Nat.le_trans takeE_kidN (h.kid p), fun e he => h.nm e (takeE_mem.mp he).1, Nat.le_trans leafs_take h.lf⟩
theorem Siz.perm {E E' : List (Names × Bool)} {k : Nat} (h : Siz E k) (pm : E.Perm E') : Siz E' k := ⟨by rw [pm.symm.length_eq]; exact h.len, fun q => by unfold kidN; rw [((pm.symm.filter _).map _).length_eq]; exact h.kid q, fun e he => h.nm e (pm.mem_iff.mpr he), by unfold leafs; rw [(pm.symm.filter _).length_eq]; exact h.lf⟩
theorem takeE_perm {E1 E2 : List (Names × Bool)} (p : E1.Perm E2) (nms : Names) : (takeE E1 nms).Perm (takeE E2 nms) := p.filter _

/-! ### the state of the deeds: keeper, tree, lists -/
def bad93 (p l : Addr) (En : List (Names × Bool)) (al : Names → Addr) (Er : List (Names × Bool)) (ar : Names → Addr) (d : Addr) : Addr → Prop := fun a => fpK p l En al a ∨ fpT Er ar a ∨ a = d
structure St93 (K : PySem.W.Frag) (p dx l n : Addr) (En : List (Names × Bool)) (al : Names → Addr) (es : List LE) (kvs : List (Key × V)) (nw : List (List Nat)) (Er : List (Names × Bool)) (ar : Names → Addr) (d : Addr) (el : List LE) (lvs : List (Key × V)) (HB H : Hp) : Prop where
  keep : KeepG K p dx l n En al es kvs nw H
  root : TreeE Er ar H
  dict : H d = some (.dK lvs)
  lsts : Lsts (FmV K) el lvs H
  sepR : ∀ q, Fold Er q → ¬ fpK p l En al (ar q)
  sepD : ¬ fpK p l En al d ∧ ¬ fpT Er ar d
  same : Same HB H
  new : ∀ a, bad93 p l En al Er ar d a → HB a = none
section
variable {K : PySem.W.Frag} {p dx l n n' d : Addr} {En En' Er Er' : List (Names × Bool)} {al al' ar ar' : Names → Addr} {es es' el el' : List LE} {kvs kvs' lvs lvs' : List (Key × V)} {nw nw' : List (List Nat)} {HB H H' : Hp}
theorem FmV.im {r : RF} {v : V} (h : FmV K r v H) (e : IM K H H') : FmV K r v H' := dp_im e _ _ (RF.tup r) h
theorem St93.mono (s : St93 K p dx l n En al es kvs nw Er ar d el lvs HB H) (e : Same H H') : St93 K p dx l n En al es kvs nw Er ar d el lvs HB H' :=
  ⟨s.keep.mono e, s.root.mono e, e _ _ s.dict, s.lsts.mono e fun _ _ d => dp_mono e _ _ d, s.sepR, s.sepD, s.same.trans e, s.new⟩
theorem St93.ex (s : St93 K p dx l n En al es kvs nw Er ar d el lvs HB H) {a : Addr} (h : bad93 p l En al Er ar d a) : H a ≠ none := by
  rcases h with h | h | rfl
  · exact s.keep.ex h
  · obtain ⟨ks, e⟩ := s.root.ex h
    rw [e]
    simp
  · rw [s.dict]
    simp
/-- the keeper's deed -/
theorem St93.deed (s : St93 K p dx l n En al es kvs nw Er ar d el lvs HB H) (f : Frm (fpK p l En al) H H') (t : KeepG K p dx l n' En' al' es' kvs' nw' H') (hn : ∀ q, Fold En' q → fpT En al (al' q) ∨ H (al' q) = none) : St93 K p dx l n' En' al' es' kvs' nw' Er ar d el lvs HB H' := by
  have up : ∀ c, fpK p l En' al' c → fpK p l En al c ∨ H c = none := fun c h => by
    rcases h with h | h | ⟨q, hq, rfl⟩
    · exact .inl (.inl h)
    · exact .inl (.inr (.inl h))
    · exact (hn q hq).imp (fun z => .inr (.inr z)) id
  have im := s.keep.im f
  refine ⟨t, s.root.frm f s.sepR, f _ _ s.dict s.sepD.1, s.lsts.frm (fun a us _ e => f _ _ e (s.keep.nlst e)) fun _ _ d => FmV.im d im, fun q hq z => ?_, ⟨fun z => ?_, s.sepD.2⟩, ?_, fun c h => ?_⟩
  · rcases up _ z with e | e
    · exact s.sepR q hq e
    · rw [s.root.at_ q hq] at e
      cases e
  · rcases up _ z with e | e
    · exact s.sepD.1 e
    · rw [s.dict] at e
      cases e
  · exact Frm.same ((Frm.of s.same).step f fun c h => .inr (s.new c (.inl h)))
  · rcases h with h | h | h
    · rcases up c h with h | h
      · exact s.new c (.inl h)
      · exact same_none s.same h
    · exact s.new c (.inr (.inl h))
    · exact s.new c (.inr (.inr h))
/-- the law's tree changes -/
theorem St93.tree (s : St93 K p dx l n En al es kvs nw Er ar d el lvs HB H) (f : Frm (fpT Er ar) H H') (t : TreeE Er' ar' H') (hn : ∀ q, Fold Er' q → fpT Er ar (ar' q) ∨ H (ar' q) = none) : St93 K p dx l n En al es kvs nw Er' ar' d el lvs HB H' := by
  have nl : ∀ {a : Addr} {us : List V}, H a = some (.lst us) → ¬ fpT Er ar a := fun e => s.root.nlst e
  have im : IM K H H' := fun a o e _ n2 _ _ => f a o e fun z => by
    obtain ⟨ks, e2⟩ := s.root.ex z
    rw [e] at e2
    exact n2 _ (Option.some.inj e2)
  refine ⟨s.keep.frmT f s.root s.sepR, t, f _ _ s.dict s.sepD.2, s.lsts.frm (fun a us _ e => f _ _ e (nl e)) fun _ _ d => FmV.im d im, fun q hq z => ?_, ⟨s.sepD.1, fun ⟨q, hq, e⟩ => ?_⟩, ?_, fun c h => ?_⟩
  · rcases hn q hq with ⟨r, hr, e⟩ | e
    · exact s.sepR r hr (e ▸ z)
    · exact s.keep.ex z e
  · rcases hn q hq with h | h
    · exact s.sepD.2 (e ▸ h)
    · rw [← e, s.dict] at h
      cases h
  · exact Frm.same ((Frm.of s.same).step f fun c h => .inr (s.new c (.inr (.inl h))))
  · rcases h with h | ⟨q, hq, rfl⟩ | h
    · exact s.new c (.inl h)
    · rcases hn q hq with h | h
      · exact s.new _ (.inr (.inl h))
      · exact same_none s.same h
    · exact s.new c (.inr (.inr h))
/-- the law's lists change -/
theorem St93.lists (s : St93 K p dx l n En al es kvs nw Er ar d el lvs HB H) (f : Frm (· = d) H H') (hd : H' d = some (.dK lvs')) (ls : Lsts (FmV K) el' lvs' H') : St93 K p dx l n En al es kvs nw Er ar d el' lvs' HB H' := by
  refine ⟨s.keep.frm f (fun a e => .inr (.inl ⟨lvs, e ▸ s.dict⟩)) fun a e z => ?_, s.root.frm f fun q hq e => s.sepD.2 ⟨q, hq, e.symm⟩, hd, ls, s.sepR, s.sepD, ?_, s.new⟩
  · subst e
    rcases z with z | z | z | ⟨k, z⟩
    · exact s.sepD.1 (.inr (.inl z))
    · have := s.keep.news
      rw [← z, s.dict] at this
      cases this
    · exact s.sepD.1 (.inr (.inr z))
    · obtain ⟨us, hu⟩ := s.keep.rul.isl z
      rw [s.dict] at hu
      cases hu
  · exact Frm.same ((Frm.of s.same).step f fun c h => .inr (s.new c (.inr (.inr h))))
end
/-! what the keeper and the law tell -/
theorem getW_map {f : List Nat → Bool} {L : List (List Nat)} {w : List Nat} : getW (L.map fun w => (w, f w)) w = (decide (w ∈ L) && f w) := by
  unfold getW
  by_cases h : w ∈ L
  · have : (L.map fun w => (w, f w)).find? (fun e => decide (e.1 = w)) = some (w, f w) := by
      induction L with
      | nil => cases h
      | cons x r ih =>
        rw [List.map_cons, List.find?_cons]
        by_cases hx : x = w
        · rw [decide_eq_true (show (x, f x).1 = w from hx), hx]
        · rw [decide_eq_false (show ¬ (x, f x).1 = w from hx)]
          exact ih ((List.mem_cons.mp h).resolve_left fun z => hx z.symm)
    rw [this, decide_eq_true h]
    rfl
  · have : (L.map fun w => (w, f w)).find? (fun e => decide (e.1 = w)) = none := List.find?_eq_none.mpr fun e he => by
      obtain ⟨x, hx, rfl⟩ := List.mem_map.mp he
      simp
      exact fun z => h (z ▸ hx)
    rw [this, decide_eq_false h]
    rfl
def lawL (En : List (Names × Bool)) : List (List Nat) := ((entsE En 10 []).filter fun e => !e.2).map txtE
theorem lawL_perm {En Er : List (Names × Bool)} (ok : EOk Er) (p : Er.Perm En) : (lawL Er).Perm (leafW En) := by
  unfold lawL leafW leafs
  exact ((((ents_perm ok).trans p).filter _).map _).trans (srt_perm _).symm
theorem lawW_sh {es el : List LE} (ok : ∀ e ∈ el, ∀ r ∈ e.2, r.Ok) (nd : (el.map (·.1)).Nodup) (p : es.Perm (fullE el)) (w : List Nat) : shT (gathS es) w = lawW el w := by
  unfold shT lawW
  cases pathN w with
  | none => rfl
  | some x => exact sh_lists ok nd p
theorem now_law {es el : List LE} {En Er : List (Names × Bool)} (ok : ∀ e ∈ el, ∀ r ∈ e.2, r.Ok) (nd : (el.map (·.1)).Nodup) (p : es.Perm (fullE el)) (okT : EOk Er) (q : Er.Perm En) (w : List Nat) : getW (nowW (gathS es) En) w = getW (lawNow el Er) w := by
  unfold nowW lawNow
  rw [getW_map, show (((entsE Er 10 []).filter fun e => !e.2).map txtE) = lawL Er from rfl, getW_map, lawW_sh ok nd p, decide_eq_decide.mpr (lawL_perm okT q).mem_iff]
theorem news_law {es es' el el' : List LE} {En En' Er Er' : List (Names × Bool)} (ok : ∀ e ∈ el, ∀ r ∈ e.2, r.Ok) (nd : (el.map (·.1)).Nodup) (p : es.Perm (fullE el)) (okT : EOk Er) (q : Er.Perm En) (ok' : ∀ e ∈ el', ∀ r ∈ e.2, r.Ok) (nd' : (el'.map (·.1)).Nodup) (p' : es'.Perm (fullE el')) (okT' : EOk Er') (q' : Er'.Perm En') :
    (srtW ((lawNow el' Er').map (·.1))).filter (fun w => getW (lawNow el' Er') w != getW (lawNow el Er) w) = newsW (nowW (gathS es) En) (nowW (gathS es') En') := by
  unfold newsW
  rw [now_keys]
  have e1 : (lawNow el' Er').map (·.1) = lawL Er' := by
    unfold lawNow lawL
    rw [List.map_map]
    exact List.map_id _
  have e2 : srtW (lawL Er') = leafW En' := by
    have h : srtW (leafW En') = leafW En' := srt_uniq (srt_pw _) (srt_pw _) (srt_perm _)
    rw [← h]
    exact srt_uniq (srt_pw _) (srt_pw _) ((srt_perm _).trans ((lawL_perm okT' q').trans (srt_perm _).symm))
  rw [e1, e2]
  exact List.filter_congr fun w _ => by rw [now_law ok nd p okT q, now_law ok' nd' p' okT' q']
theorem cnt_law {es el : List LE} {En Er : List (Names × Bool)} {b : Bool} (ok : ∀ e ∈ el, ∀ r ∈ e.2, r.Ok) (nd : (el.map (·.1)).Nodup) (p : es.Perm (fullE el)) (okT : EOk Er) (q : Er.Perm En) : cntW b (nowW (gathS es) En) = cntW b (lawNow el Er) := by
  unfold cntW nowW lawNow
  have e : (fun w => (w, shT (gathS es) w)) = fun w => (w, lawW el w) := funext fun w => by rw [lawW_sh ok nd p]
  rw [e]
  exact (((lawL_perm okT q).symm.map _).countP_eq _)
theorem lawNow_len {el : List LE} {En : List (Names × Bool)} (ok : EOk En) : (lawNow el En).length = (leafs En).length := by
  unfold lawNow leafs
  rw [List.length_map, List.length_map]
  exact ((ents_perm ok).filter _).length_eq
theorem putE_iff {es : List LE} {f : List Nat} {rs : List RF} {e : LE} (nd : (es.map (·.1)).Nodup) : e ∈ putE es f rs ↔ (e ∈ es ∧ e.1 ≠ f) ∨ e = (f, rs) := by
  unfold putE
  by_cases h : (es.any fun e => decide (e.1 = f)) = true
  · rw [if_pos h, List.mem_map]
    obtain ⟨e0, h0, h1⟩ := List.any_eq_true.mp h
    have h1 : e0.1 = f := of_decide_eq_true h1
    constructor
    · rintro ⟨x, hx, rfl⟩
      by_cases hx1 : x.1 = f
      · rw [if_pos hx1]
        exact .inr (by rw [hx1])
      · rw [if_neg hx1]
        exact .inl ⟨hx, hx1⟩
    · rintro (⟨h2, h3⟩ | rfl)
      · exact ⟨e, h2, by rw [if_neg h3]⟩
      · exact ⟨e0, h0, by rw [if_pos h1, h1]⟩
  · rw [if_neg h, List.mem_append, List.mem_singleton]
    have hno : ∀ x ∈ es, x.1 ≠ f := fun x hx z => h (List.any_eq_true.mpr ⟨x, hx, decide_eq_true z⟩)
    exact ⟨fun z => z.imp (fun z => ⟨z, hno e z⟩) id, fun z => z.imp (·.1) id⟩
theorem rule_perm {es el : List LE} {fw : List Nat} {rs : List RF} (nd : (el.map (·.1)).Nodup) (p : es.Perm (fullE el)) : (ruleE es fw rs).Perm (fullE (putE el fw rs)) := by
  have ndl : ∀ {l : List LE}, (l.map (·.1)).Nodup → l.Nodup := fun h => (List.pairwise_map.mp h).imp fun h e => h (by rw [e])
  have nes : es.Nodup := p.nodup_iff.mpr ((ndl nd).filter _)
  refine (List.perm_ext_iff_of_nodup ?_ ((ndl (putE_keys nd)).filter _)).mpr fun e => ?_
  · unfold ruleE
    refine List.nodup_append.mpr ⟨nes.filter _, by split <;> simp, fun a ha b hb => ?_⟩
    split at hb
    · cases hb
    · rw [List.mem_singleton.mp hb]
      have := (List.mem_filter.mp ha).2
      intro z
      rw [z] at this
      simp at this
  · unfold ruleE dropE
    rw [List.mem_append, List.mem_filter, List.mem_filter, p.mem_iff, putE_iff nd]
    unfold fullE
    rw [List.mem_filter]
    by_cases h : rs = []
    · simp only [h, if_true, List.not_mem_nil, or_false]
      constructor
      · rintro ⟨⟨h1, h2⟩, h3⟩
        exact ⟨.inl ⟨h1, by simpa using h3⟩, h2⟩
      · rintro ⟨h1 | rfl, h2⟩
        · exact ⟨⟨h1.1, h2⟩, by simpa using h1.2⟩
        · simp at h2
    · simp only [h, if_false, List.mem_singleton]
      constructor
      · rintro (⟨⟨h1, h2⟩, h3⟩ | rfl)
        · exact ⟨.inl ⟨h1, by simpa using h3⟩, h2⟩
        · exact ⟨.inr rfl, by simpa using h⟩
      · rintro ⟨h1 | rfl, h2⟩
        · exact .inl ⟨⟨h1.1, h2⟩, by simpa using h1.2⟩
        · exact .inr rfl

/-! ### a drawn deed -/
def RwsV (K : PySem.W.Frag) (b : Nat) (v : V) (H : Hp) : Prop := ∃ L us rr, v = .ref L ∧ H L = some (.lst us) ∧ Each (FmV K) rr us H ∧ rr.length ≤ b ∧ ∀ r ∈ rr, RF.Ok r
theorem LEG.full {el : List LE} {n : Nat} (h : LEG el n) : LEG (fullE el) n := ⟨h.nd.sublist (List.filter_sublist.map _), Nat.le_trans (List.length_filter_le _ _) h.len, fun e he => h.fold e (List.mem_filter.mp he).1, fun e he => h.rows e (List.mem_filter.mp he).1⟩
theorem LEG.perm {el es : List LE} {n : Nat} (h : LEG el n) (p : es.Perm el) : LEG es n := ⟨(p.map _).nodup_iff.mpr h.nd, by rw [p.length_eq]; exact h.len, fun e he => h.fold e (p.mem_iff.mp he), fun e he => h.rows e (p.mem_iff.mp he)⟩
theorem l_expr {te : TE} {D : Ends} {σ : L2.St} {H : Hp} (C : Hp → Prop) (h : te σ H fun _ H1 => C H1) (k : ∀ H1, C H1 → D.nx σ H1) : tDrop (tMid te) D σ H := ⟨fun _ H1 => C H1, h, fun _ H1 c => k H1 c⟩
/-- the law's own look at a deed; the deed at its tree -/
def Gd93 (K : PySem.W.Frag) (p dx l n : Addr) (En : List (Names × Bool)) (al : Names → Addr) (es : List LE) (kvs : List (Key × V)) (nw : List (List Nat)) (d : Addr) (el : List LE) (lvs : List (Key × V)) (HB : Hp) (r N : Addr) (nms : Names) (fo puts : Bool) (Er : List (Names × Bool)) (v : V) (H' : Hp) : Prop := ∃ b Er1 ar1, v = .bl b ∧ ar1 [] = r ∧ St93 K p dx l n En al es kvs nw Er1 ar1 d el lvs HB H' ∧ H' N = some (.lst (nmsV nms)) ∧ ((puts = true ∧ Er1 = Er ∧ (b = true → OkPut Er nms fo) ∧ (b = false → ¬ OkPut Er nms fo)) ∨ (puts = false ∧ ((b = false ∧ (nms, fo) ∉ Er ∧ Er1 = Er) ∨ (b = true ∧ (nms, fo) ∈ Er ∧ Er1 = takeE Er nms))))
def Pt93 (K : PySem.W.Frag) (p dx l n : Addr) (En : List (Names × Bool)) (al : Names → Addr) (es : List LE) (kvs : List (Key × V)) (nw : List (List Nat)) (d : Addr) (el : List LE) (lvs : List (Key × V)) (HB : Hp) (r N : Addr) (nms : Names) (fo puts : Bool) (Er : List (Names × Bool)) (b : Bool) (H' : Hp) : Prop := ∃ Er2 ar2, ar2 [] = r ∧ St93 K p dx l n En al es kvs nw Er2 ar2 d el lvs HB H' ∧ H' N = some (.lst (nmsV nms)) ∧ ((b = false ∧ Er2 = Er ∧ (puts = true → ¬ OkPut Er nms fo) ∧ (puts = false → (nms, fo) ∉ Er)) ∨ (b = true ∧ puts = true ∧ OkPut Er nms fo ∧ Grow Er Er2 nms nms.length ∧ (nms, fo) ∈ Er2) ∨ (b = true ∧ puts = false ∧ (nms, fo) ∈ Er ∧ Er2 = takeE Er nms))
/-- what a drawn deed comes to -/
structure Done93 (K : PySem.W.Frag) (p dx l : Addr) (En : List (Names × Bool)) (es : List LE) (nw : List (List Nat)) (Er : List (Names × Bool)) (r d : Addr) (el : List LE) (k : Nat) (HB : Hp) (done : Bool) (n' : Addr) (En' : List (Names × Bool)) (al' : Names → Addr) (es' : List LE) (kvs' : List (Key × V)) (nw' : List (List Nat)) (Er' : List (Names × Bool)) (ar' : Names → Addr) (el' : List LE) (lvs' : List (Key × V)) (H' : Hp) : Prop where
  st : St93 K p dx l n' En' al' es' kvs' nw' Er' ar' d el' lvs' HB H'
  root : ar' [] = r
  perm : Er'.Perm En'
  siz : Siz En' (k + 1)
  lim : LEG el' (k + 1)
  limK : LEG es' (k + 1)
  lists : es'.Perm (fullE el')
  no : done = false → En' = En ∧ es' = es ∧ nw' = nw ∧ Er' = Er ∧ el' = el
  yes : done = true → nw' = newsW (nowW (gathS es) En) (nowW (gathS es') En')
def spDone93 (K : PySem.W.Frag) : Sp := fun vs H Q _ => ∃ p dx l n En al es kvs nw Er ar d el lvs HB k F rs P ws c, vs = [.ref p, .ref (ar []), .ref d, .ref F, .ref P, .int c] ∧ St93 K p dx l n En al es kvs nw Er ar d el lvs HB H ∧ Er.Perm En ∧ Siz En k ∧ LEG el k ∧ LEG es k ∧ es.Perm (fullE el) ∧ k < 60 ∧ RowsL K rs F H ∧ rs.length = 3 ∧ H P = some (.lst ws) ∧ ws.length = 4 ∧ ws.Nodup ∧ (∀ v ∈ ws, SignV v) ∧
  ∀ t done n' En' al' es' kvs' nw' Er' ar' el' lvs' H', H' t = some (.tup [.bl true, .bl done]) → HB t = none → Done93 K p dx l En es nw Er (ar []) d el k HB done n' En' al' es' kvs' nw' Er' ar' el' lvs' H' → Q (.ref t) H'
theorem ok__law_done (T : Txt K mg) : OkD P w K mg base 18 (fA K "_law_done") ["_law_keeper", "_law_root", "_law_lists", "_law_forms", "_law_signs_here", "_law_cell_here"] [] (spDone93 K) := by
  refine okD T.F__law_done sc__law_done (fun _ _ _ _ _ _ us hl => match us, hl with | [_, _, _, _, _, _], _ => rfl) ?_ ?_
  · rintro vs H Q E ⟨p, dx, l, n, En, al, es, kvs, nw, Er, ar, d, el, lvs, HB, k, F, rs, P, ws, c, rfl, _⟩
    rfl
  · rintro cdv A outer s H vs Q E hr ⟨p, dx, l, n, En, al, es, kvs, nw, Er, ar, d, el, lvs, HB, k, F, rs, P, ws, c, rfl, st, pm, sz, leg, legK, lp, hk, hrs, lrs, hP, hl4, nd, hw, q⟩
    refine ⟨_, (pss_cons (ps_set (i := 6) sc__law_done.nd rfl (Or.inl rfl) (pe_mid (pe_cal (ok__law_deed_names T) (hr.mono (by decide)) rfl T.g__law_deed_names (pasE (takes_of rfl rfl rfl rfl) (fun _ _ _ _ h => h)) (pa_cons (pv 5) (pa_cons (pv 3) (pa_cons (pv 1) (pa_cons (pv 4) pa_nil)))))))
  (pss_cons (ps_set (i := 7) sc__law_done.nd rfl (Or.inl rfl) (pe_mid (pe_cmpR (o_eq (K := K) (hu64 hr)) (pe_op op_mod (pe_op op_fdivW (pv 5) pe_int) pe_int) pe_int (nomark _))))
  (pss_cons (ps_if (pt_mid (PW.pt (pw_and (pt_cmpR (o_eq (K := K) (hu64 hr)) (pe_op op_mod (pe_op op_fdivW (pv 5) pe_int) pe_int) pe_int (nomark _)) (pw_and1 (pt_cmpR (o_eq (K := K) (hu64 hr)) (pe_op op_mod (pe_op op_fdivW (pv 5) pe_int) pe_int) pe_int (nomark _)))))) (pss_one (ps_ret (pe_tup (pa_cons (pe_mid (pe_cal (ok__law_none_refused T) (hr.mono (by decide)) rfl T.g__law_none_refused (pasE (takes_of rfl rfl rfl rfl) (fun _ _ _ _ h => h)) (pa_cons (pv 0) (pa_cons (pe_op op_fdivW (pv 5) pe_int) pa_nil)))) (pa_cons pe_bl pa_nil))))) pss_nil)
  (pss_cons (ps_if (pt_mid (pt_cmpR (o_eq (K := K) (hu64 hr)) (pe_op op_mod (pe_op op_fdivW (pv 5) pe_int) pe_int) pe_int (nomark _))) (pss_cons (ps_set (i := 8) sc__law_done.nd rfl (Or.inl rfl) (pe_mid (pe_cal (ok__law_folders T) (hr.mono (by decide)) rfl T.g__law_folders (pasE (takes_of rfl rfl rfl rfl) (fun _ _ _ _ h => h)) (pa_cons (pv 3) (pa_cons pe_int (pa_cons (pv 4) pa_nil))))))
  (pss_cons (ps_set (i := 9) sc__law_done.nd rfl (Or.inl rfl) (pe_mid (pe_ix (o_ix (K := K)) (pv 8) (pe_op op_mod (pe_op op_fdivW (pv 5) pe_int) (pe_callB (o_lenW (K := K) (w := w)) (by rfl) T.fr_len boot_len (pa_cons (pv 8) pa_nil))) (fun _ _ => rfl))))
  (pss_cons (ps_set (i := 10) sc__law_done.nd rfl (Or.inl rfl) (pe_mid (pe_slice (o_sl (K := K)) (pe_mid (pe_op (o_add (K := K)) (pe_mid (pe_slice (o_sl (K := K)) (pv 3) (po_some (pe_un un_neg pe_int)) po_none)) (pe_lst (pa_cons (pe_cal (ok__law_row T) (hr.mono (by decide)) rfl T.g__law_row (pasE (takes_of rfl rfl rfl rfl) (fun _ _ _ _ h => h)) (pa_cons (pe_cal (ok__law_mixed T) (hr.mono (by decide)) rfl T.g__law_mixed (pasE (takes_of rfl rfl rfl rfl) (fun _ _ _ _ h => h)) (pa_cons (pv 5) (pa_cons pe_int pa_nil))) (pa_cons (pv 4) pa_nil))) pa_nil)))) (po_some (pe_op op_mod (pe_op op_fdivW (pv 5) pe_int) pe_int)) po_none)))
  (pss_cons (ps_mid (ps_if (pt_mid (PW.pt (pw_and (pt_cmpR (o_ne (K := K) (hu64 hr)) (pv 9) pe_str (nomark _)) (pw_and1 (pt_cmpR (o_eq (K := K) (hu64 hr)) (pe_op op_mod (pe_op op_fdivW (pv 5) pe_int) pe_int) pe_int (nomark _)))))) (pss_one (ps_set (i := 10) sc__law_done.nd rfl (Or.inl rfl) (pe_mid (pe_lst (pa_cons (pe_tup (pa_cons (pe_tup (pa_cons (pe_tup (pa_cons pe_str pa_nil)) pa_nil)) (pa_cons (pe_cmpR (o_eq (K := K) (hu64 hr)) (pe_op op_mod (pe_op op_fdivW (pv 5) pe_int) pe_int) pe_int (nomark _)) (pa_cons pe_bl pa_nil)))) pa_nil))))) pss_nil))
  (pss_cons (ps_expr (pe_mid (pe_metI (md_K_rule T) (pv 0) (hr.mono (by decide)) (pasE (takes_of rfl rfl rfl rfl) (fun _ _ _ _ h => h)) (pa_cons (pv 9) (pa_cons (pe_mid (pe_lc (own := [("_law_form", 13)]) (g := (gName 13)) (tt := tYes) rfl sc__law_done.nd (pi_mid (o_it (K := K) rfl (pv 10))) (blkOk_by (N := N__law_done) (sc := defScope TX.s__law_done) (by decide +kernel)) (fun _ _ _ _ _ => (pg_name (i := 13) sc__law_done.nd rfl (Or.inl rfl))) (fun _ _ _ _ _ => pts_nil) (fun _ _ _ _ _ => (pe_mid (pe_cal (ok__law_row_made T) (hr.mono (by decide)) rfl T.g__law_row_made pasN (pa_cons (pv 13) pa_nil)))))) pa_nil)))))
  (pss_cons (ps_dput (hu_of hr) (pv 2) (pv 9) (pv 10) rfl)
  (pss_one (ps_ret (pe_tup (pa_cons pe_bl (pa_cons pe_bl pa_nil))))))))))) pss_nil)
  (pss_cons (ps_set (i := 11) sc__law_done.nd rfl (Or.inl rfl) (pe_mid (pe_andK (K := K) (pe_cmpR o_lt (pe_op op_mod (pe_op op_fdivW (pv 5) pe_int) pe_int) pe_int (nomark _)) (pe_one (pe_cmpR o_lt (pe_callB (o_lenW (K := K) (w := w)) (by rfl) T.fr_len boot_len (pa_cons (pe_cal (ok__law_paths T 10) (hr.mono (by omega)) rfl T.g__law_paths (pasE (takes_of rfl rfl rfl rfl) (fun _ _ _ _ h => h)) (pa_cons (pv 1) (pa_cons pe_str pa_nil))) pa_nil)) pe_int (nomark _))))))
  (pss_cons (ps_set (i := 12) sc__law_done.nd rfl (Or.inl rfl) (pe_mid (pe_ifExp (pt_tru (K := K) (pv 11) (by intro _; rfl)) (pe_mid (pe_cal (ok__law_free T) (hr.mono (by decide)) rfl T.g__law_free (pasE (takes_of rfl rfl rfl rfl) (fun _ _ _ _ h => h)) (pa_cons (pv 1) (pa_cons (pv 6) (pa_cons (pv 7) pa_nil))))) (pe_mid (pe_cal (ok__law_gone T) (hr.mono (by decide)) rfl T.g__law_gone (pasE (takes_of rfl rfl rfl rfl) (fun _ _ _ _ h => h)) (pa_cons (pv 1) (pa_cons (pv 6) (pa_cons (pv 7) pa_nil))))))))
  (pss_cons (ps_mid (ps_if (pt_mid (PW.pt (pw_and (pt_tru (K := K) (pv 12) (by intro _; rfl)) (pw_and1 (pt_tru (K := K) (pv 11) (by intro _; rfl)))))) (pss_one (ps_expr (pe_mid (pe_cal (ok__law_put_in T) (hr.mono (by decide)) rfl T.g__law_put_in (pasE (takes_of rfl rfl rfl rfl) (fun _ _ _ _ h => h)) (pa_cons (pv 1) (pa_cons (pv 6) (pa_cons (pv 7) pa_nil))))))) pss_nil))
  (pss_one (ps_ret (pe_tup (pa_cons (pe_cmpR (o_ne (K := K) (hu64 hr)) (pe_mid (pe_cal (ok__law_refused T) (hr.mono (by decide)) rfl T.g__law_refused (pasE (takes_of rfl rfl rfl rfl) (fun _ _ _ _ h => h)) (pa_cons (pv 0) (pa_cons (pv 11) (pa_cons (pe_op (o_add (K := K)) (pe_mid (pe_bmK (K := K) PySem.F.plainAttrs_str PySem.F.slot_str_join PySem.F.type_str_join (mo_join (K := K)) pe_str (pa_cons (pv 6) pa_nil))) (pe_mid (pe_op o_mulStr pe_str (pe_callTy o_int (by rfl) T.fr_int (by decide +kernel) (pa_cons (pv 7) pa_nil))))) pa_nil))))) (pv 12) (nomark _)) (pa_cons (pv 12) pa_nil)))))))))))), ?_⟩
    have tobj := T.obj
    have szr := sz.perm pm.symm
    have smK := sz.small (Nat.le_of_lt hk)
    have smR := szr.small (Nat.le_of_lt hk)
    have okl : ∀ e ∈ el, ∀ r ∈ e.2, r.Ok := fun e he => (leg.rows e he).2
    refine q_midG (fun v H' => Same H H' ∧ ∃ N nms, v = .ref N ∧ H N = none ∧ H' N = some (.lst (nmsV nms)) ∧ nms ≠ [] ∧ nms.length ≤ 5 ∧ ∀ nm ∈ nms, nm ≠ [] ∧ nm.length ≤ 400 ∧ ∀ c ∈ nm, c ∈ SIG) ?_ ?_
    · walk_at "rd"
      exact ⟨c, F, rs, Er, ar, P, ws, rfl, hrs, by omega, by omega, st.root, smR, hP, hl4, nd, hw, fun N nms H' s hn hN h1 h2 h3 => ⟨s, N, rfl, hn, nms, hN, h1, h2, h3⟩⟩
    rintro _ H1 ⟨s1, N, nms, rfl, hN0, hN, nne, nlen, hnm⟩
    have st1 := st.mono s1
    refine q_midG (fun v H' => H' = H1 ∧ ∃ b, v = .bl b) ?_ ?_
    · walk_at "rd"
      exact ⟨by decide, by decide⟩
    rintro _ _ ⟨rfl, fo, rfl⟩
    rename_i H1
    refine q_if (fun b H' => H' = H1) ?_ (fun H2 h => ?_) fun H2 h => q_next ?_
    · walk_at "rd"
      refine ⟨⟨by decide, by decide⟩, ?_⟩
      split
      · exact ⟨by decide, by decide⟩
      · trivial
    · obtain rfl := h
      walk_at "rd"
      refine mid_of (fun v H' => Same H2 H' ∧ v = .bl true) ?_ ?_
      · walk_at "rd"
        exact ⟨⟨by decide, by decide⟩, p, dx, l, n, En, al, es, kvs, nw, _, rfl, st1.keep, smK, legK.up (by omega), fun H' s => ⟨s, rfl⟩⟩
      rintro _ H3 ⟨s3, rfl⟩ t ht
      have st3 := (st1.mono s3).mono (same_new (o := .tup [V.bl true, V.bl false]) ht)
      exact q t false n En al es kvs nw Er ar el lvs _ upd_same (same_none (st1.mono s3).same ht) ⟨st3, rfl, pm, sz.up, leg.up (by omega), legK.up (by omega), lp, fun _ => ⟨rfl, rfl, rfl, rfl, rfl⟩, fun h => nomatch h⟩
    obtain rfl := h
    refine q_if (fun b H' => H' = H2) ?_ (fun H3 h => ?_) fun H3 h => q_next ?_
    · walk_at "rd"
      exact ⟨by decide, by decide⟩
    · obtain rfl := h
      have hP3 := s1 _ _ hP
      refine q_midG (fun v H' => Same H3 H' ∧ ∃ (D : Addr) (fs : List Names), v = .ref D ∧ H' D = some (.lst (nmsV (fs.map foldT))) ∧ fs.length = 4 ∧ ∀ f ∈ fs, f.length ≤ 3 ∧ ∀ nm ∈ f, nm ≠ [] ∧ nm.length ≤ 400 ∧ ∀ c ∈ nm, c ∈ SIG) ?_ ?_
      · walk_at "rd"
        exact ⟨F, rs, 5, P, ws, rfl, hrs.mono s1, lrs, .inl (.inl hP3), hl4, nd, hw, fun D fs H' s hD hD' l _ ok => ⟨s, D, rfl, fs, hD', l, ok⟩⟩
      rintro _ H4 ⟨s4, D, fs, rfl, hD, lfs, fok⟩
      have lD : LenV K (.ref D) H4 (nmsV (fs.map foldT)).length := .inl ⟨_, .inl (.inl hD), rfl⟩
      rw [nms_len, List.length_map, lfs] at lD
      refine q_midG (fun v H' => H' = H4 ∧ ∃ fn ∈ fs, v = .str (S (foldT fn))) ?_ ?_
      · walk_at "rd"
        obtain ⟨j, hj, hjl⟩ : ∃ j : Nat, c / 5 % ((4 : Nat) : Int) = (j : Int) ∧ j < 4 := ⟨(c / 5 % 4).toNat, by have := Int.emod_nonneg (c / 5) (b := 4) (by decide); omega, by have := Int.emod_nonneg (c / 5) (b := 4) (by decide); have := Int.emod_lt_of_pos (c / 5) (b := 4) (by decide); omega⟩
        have hf : fs[j]? = some fs[j] := List.getElem?_eq_getElem (by omega)
        refine ⟨⟨by decide, by decide⟩, .inr ⟨_, lD, by decide, _, .inl (.inl (.inl hD)), .str (S (foldT fs[j])), ?_, fs[j], List.mem_of_getElem? hf, rfl⟩⟩
        rw [hj]
        refine atI_nat ?_
        unfold nmsV
        rw [List.getElem?_map, List.getElem?_map, List.getElem?_map, hf]
        rfl
      rintro _ _ ⟨rfl, fn, hfn, rfl⟩
      rename_i H4
      obtain ⟨lfn, nfn⟩ := fok fn hfn
      have s14 := s1.trans s4
      obtain ⟨usF, hF, eachF, oksF⟩ := id (hrs.mono s14)
      have lusF := eachF.1
      have hP4 := s14 _ _ hP
      refine q_midG (fun v H' => Same H4 H' ∧ RwsV K 5 v H') ?_ ?_
      · refine mid_of (fun v H' => Same H4 H' ∧ RwsV K 5 v H') ?_ ?_
        · refine mid_of (fun v H' => Same H4 H' ∧ RwsV K 4 v H') ?_ ?_
          · walk_at "rd"
            refine .inl ⟨_, .inl (.inl hF), fun p1 hp1 => ?_⟩
            have t1 := same_new (o := .lst (cutV usF (some (-1)) none)) hp1
            refine ⟨t1, p1, _, rs.drop (rs.length - 1), rfl, upd_same, ?_, by rw [List.length_drop]; omega, fun r h => (oksF r (List.mem_of_mem_drop h)).1⟩
            rw [cutV_last, lusF] at t1 ⊢
            exact (Each.drop eachF _).imp fun _ _ d => dp_mono t1 _ _ d
          rintro _ H5 ⟨s5, L0, us0, r0, rfl, hL0, each0, l0, ok0⟩
          walk_at "rd"
          refine ⟨c, 83, rfl, fun mm _ _ => ⟨mm, P, ws, rfl, .inl (.inl (s5 _ _ hP4)), hl4, hw, fun v r H6 okr lo _ s6 dd p1 hp1 => ?_⟩⟩
          have t1 := same_new (o := .lst [v]) hp1
          refine .inl ⟨us0, t1 _ _ (s6 _ _ hL0), [v], upd_same, by have := each0.1; simp; omega, fun p2 hp2 => ?_⟩
          have t2 := same_new (o := .lst (us0 ++ [v])) hp2
          exact ⟨((s5.trans s6).trans t1).trans t2, p2, _, r0 ++ [r], rfl, upd_same, ((each0.imp fun _ _ d => dp_mono ((s6.trans t1).trans t2) _ _ d).snoc (dp_mono (t1.trans t2) _ _ dd)), by rw [List.length_append]; show r0.length + 1 ≤ 5; omega, fun r' h => (List.mem_append.mp h).elim (ok0 r') fun h => by rw [List.mem_singleton.mp h]; exact okr⟩
        rintro _ H5 ⟨s5, L1, us1, r1, rfl, hL1, each1, l1, ok1⟩
        walk_at "rd"
        have h0 : 0 ≤ c / 15 % 3 := Int.emod_nonneg _ (by decide)
        obtain ⟨i, hi⟩ : ∃ i : Nat, c / 15 % 3 = (i : Int) := ⟨(c / 15 % 3).toNat, by omega⟩
        refine ⟨⟨by decide, by decide⟩, .inl ⟨_, .inl (.inl hL1), fun p1 hp1 => ?_⟩⟩
        rw [hi]
        have t1 := same_new (o := .lst (cutV us1 (some (i : Int)) none)) hp1
        refine ⟨s5.trans t1, p1, _, r1.drop i, rfl, upd_same, ?_, by rw [List.length_drop]; omega, fun r h => ok1 r (List.mem_of_mem_drop h)⟩
        rw [cut_dropN] at t1 ⊢
        exact (Each.drop each1 _).imp fun _ _ d => dp_mono t1 _ _ d
      rintro _ H5 ⟨s5, L1, us1, r1, rfl, hL1, each1, l1, ok1⟩
      refine q_stm (fun σ H' => Same H5 H' ∧ ∃ L us rr, H' L = some (.lst us) ∧ Each (FmV K) rr us H' ∧ rr.length ≤ 5 ∧ (∀ r ∈ rr, RF.Ok r) ∧ σ = [some (.ref p), some (.ref (ar [])), some (.ref d), some (.ref F), some (.ref P), some (.int c), some (.ref N), some (.bl fo), some (.ref D), some (.str (S (foldT fn))), some (.ref L), none, none, none]) ?_ ?_
      · refine l_if (fun b H' => H' = H5) ?_ (fun H6 h => ?_) fun H6 h => ?_
        · walk_at "rd"
          split
          · exact ⟨by decide, by decide⟩
          · trivial
        · obtain rfl := h
          refine l_midG (fun v H' => Same H6 H' ∧ RwsV K 5 v H') ?_ ?_
          · walk_at "rd"
            intro q1 hq1 q2 hq2
            have t1 := same_new (o := .tup [V.str (Str.ofString "deep")]) hq1
            have t2 := same_new (o := .tup [V.ref q1]) hq2
            refine ⟨⟨by decide, by decide⟩, fun q3 hq3 q4 hq4 => ?_⟩
            have t3 := same_new (o := .tup [V.ref q2, V.bl (decide (c / 124 % 2 = 1)), V.bl false]) hq3
            have t4 := same_new (o := .lst [V.ref q3]) hq4
            have D0 : Dp K (upd H6 q1 (.tup [V.str (Str.ofString "deep")])) (.ref q1) (SF.d .deep) := .tup (.inl (.inl upd_same)) (.cons (.str _) .nil)
            have D1 := Dp.tup (K := K) (.inl (.inl (upd_same (H := upd H6 q1 (.tup [V.str (Str.ofString "deep")])) (a := q2) (o := .tup [V.ref q1])))) (.cons (dp_mono t2 _ _ D0) .nil)
            have D2 : Dp K (upd (upd (upd H6 q1 (.tup [V.str (Str.ofString "deep")])) q2 (.tup [V.ref q1])) q3 (.tup [V.ref q2, V.bl (decide (c / 124 % 2 = 1)), V.bl false])) (.ref q3) (RF.d ⟨[.deep], decide (c / 124 % 2 = 1), false⟩) := .tup (.inl (.inl upd_same)) (.cons (dp_mono t3 _ _ D1) (.cons (.bl _) (.cons (.bl _) .nil)))
            refine ⟨((t1.trans t2).trans t3).trans t4, q4, _, [⟨[.deep], decide (c / 124 % 2 = 1), false⟩], rfl, upd_same, Each.snoc .nil (dp_mono t4 _ _ D2), Nat.le_of_ble_eq_true rfl, fun r hr => ?_⟩
            rw [List.mem_singleton.mp hr]
            exact ⟨by simp, fun s hs => by rw [List.mem_singleton.mp hs]; trivial, trivial, by show 1 ≤ 12; decide⟩
          rintro _ H7 ⟨s7, L, us, rr, rfl, h1, h2, h3, h4⟩
          exact ⟨s7, L, us, rr, h1, h2, h3, h4, rfl⟩
        · obtain rfl := h
          exact ⟨Same.refl _, L1, us1, r1, hL1, each1, l1, ok1, rfl⟩
      rintro σ H6 ⟨s6, L, us, rr, hL, eachL, lrr, rrok, rfl⟩
      have s36 := (s4.trans s5).trans s6
      have st6 := st1.mono s36
      have lus := eachL.1
      have hfw : folderN (foldT fn) = some fn := fold_names fun nm h => ⟨(nfn nm h).1, (nfn nm h).2.2⟩
      have legL := leg.put lfn nfn lrr rrok
      have lpR := rule_perm (fw := foldT fn) (rs := rr) leg.nd lp
      have legR := legL.full.perm lpR
      have lfw := foldT_len fun nm h => (nfn nm h).2.1
      have lfw2 : 401 * fn.length ≤ 401 * 3 := Nat.mul_le_mul_left _ lfn
      refine q_expr (fun H' => ∃ n' kvs' nw', St93 K p dx l n' En al (ruleE es (foldT fn) rr) kvs' nw' Er ar d el lvs HB H' ∧ nw' = newsW (nowW (gathS es) En) (nowW (gathS (ruleE es (foldT fn) rr)) En) ∧ H' L = some (.lst us) ∧ Each (FmV K) rr us H') ?_ ?_
      · walk_at "rd"
        refine ⟨st6.keep.v, (), ?_⟩
        refine mid_of (fun v H' => Same H6 H' ∧ ∃ G gus, v = .ref G ∧ H' G = some (.lst gus) ∧ Each (RowV K) rr gus H') ?_ ?_
        · refine lc_midM (J0 := Itl K L) (H0 := H6) ?_ (walk_list (K := K) (a := L) (xs := us)) (by omega) (fun k acc H' => Each (RowV K) (rr.take k) acc H') (fun k acc Ha Hb e h => h.imp fun _ _ d => d.nl e) .nil (fun H' s => .inl (.inl (s _ _ hL))) (fun _ _ _ _ y => y_at y) (fun _ => rfl) ?_ ?_
          · walk_at "rd"
            exact .inl ⟨us, .inl (.inl hL)⟩
          · rintro j x acc H' H'' hj s7 hc ⟨rfl, hx⟩
            obtain ⟨r, hr1, dr⟩ := eachL.at' hx
            refine mid_of (fun u H4 => Same H'' H4 ∧ RowV K r u H4) ?_ ?_
            · walk_at "rd"
              exact ⟨x, r, rfl, dp_mono s7 _ _ dr, rrok r (List.mem_of_getElem? hr1), fun u H4 s h => ⟨s, h⟩⟩
            · rintro u H4 ⟨s8, h⟩
              refine ⟨s8, ?_⟩
              rw [List.take_succ, hr1]
              exact (hc.imp fun _ _ d => d.mono s8).snoc h
          intro G gus H7 _ s7 hG lgus rows
          rw [List.take_of_length_le (by omega)] at rows
          exact ⟨s7, G, gus, rfl, hG, rows⟩
        rintro _ H7 ⟨s7, G, gus, rfl, hG, eachG⟩
        have st7 := st6.mono s7
        refine ⟨p, dx, l, n, En, al, es, kvs, nw, foldT fn, G, gus, rr, rfl, by omega, st7.keep, smK, legK.up (by omega), hG, eachG, by omega, fun h => (by rw [hfw] at h; cases h), fun ns _ => ⟨legR.up (by omega), fun n' kvs' H' fr hn' _ ks => ?_⟩⟩
        have im := st7.keep.im fr
        have hL7 := s7 _ _ hL
        exact ⟨n', kvs', _, st7.deed fr ks fun q hq => .inl ⟨q, hq, rfl⟩, rfl, fr _ _ hL7 (st7.keep.nlst hL7), (eachL.imp fun _ _ d => dp_mono s7 _ _ d).imp fun _ _ d => FmV.im d im⟩
      rintro H7 ⟨n', kvs', nw', st7, e7, hL7, each7⟩
      have hd7 := st7.dict
      have llv := st7.lsts.len
      walk_at "rd"
      refine ⟨_, dput_s hd7 (by have := leg.len; omega), fun t ht => ?_⟩
      have ls8 := st7.lsts.put (f := foldT fn) (rs := rr) hd7 hL7 each7 fun g u h => dp_nd (.dict hd7) _ _ (RF.tup g) h
      have st8 := st7.lists (H' := upd H7 d (.dK (putK lvs (.inr (S (foldT fn))) (.ref L)))) (Frm.upd (fun _ _ e _ => e) (.inl rfl)) upd_same ls8
      have st9 := st8.mono (same_new (o := .tup [V.bl true, V.bl true]) ht)
      exact q t true n' En al _ kvs' nw' Er ar _ _ _ upd_same (same_none st8.same ht) ⟨st9, rfl, pm, sz.up, legL, legR, lpR, (fun h => nomatch h), fun _ => e7⟩
    obtain rfl := h
    have nmo : ∀ x ∈ nms, NmOk x ∧ x.length ≤ 400 := fun x h => ⟨⟨(hnm x h).1, Nat.le_trans (hnm x h).2.1 (by decide), (hnm x h).2.2⟩, (hnm x h).2.1⟩
    refine q_midG (fun v H' => Same H3 H' ∧ ∃ b, v = .bl b) ?_ ?_
    · walk_at "rd"
      refine ⟨⟨by decide, by decide⟩, ite2 (fun h => ?_) fun h => trivial⟩
      refine ⟨Er, ar, [], [], rfl, st1.root, .inl rfl, rfl, smR.len, smR.kid, Nat.zero_le _, fun G H' s _ hG => .inr ⟨⟨_, .inl ⟨_, .inl (.inl hG), rfl⟩⟩, s⟩⟩
    rintro _ H4 ⟨s4, puts, rfl⟩
    have st4 := st1.mono s4
    have hN4 := s4 _ _ hN
    refine q_midG (Gd93 K p dx l n En al es kvs nw d el lvs HB (ar []) N nms fo puts Er) ?_ ?_
    · walk_at "rd"
      refine ite2 (fun h => ?_) fun h => ?_
      · refine mid_of (Gd93 K p dx l n En al es kvs nw d el lvs HB (ar []) N nms fo puts Er) ?_ fun _ _ h => h
        walk_at "rd"
        exact ⟨Er, ar, N, fo, nms, rfl, st4.root, .inl (.inl hN4), nne, by omega, fun x h => (nmo x h).1, fun b H' s h1 h2 => ⟨b, Er, ar, rfl, rfl, st4.mono s, s _ _ hN4, .inl ⟨h, rfl, h1, h2⟩⟩⟩
      · refine mid_of (Gd93 K p dx l n En al es kvs nw d el lvs HB (ar []) N nms fo puts Er) ?_ fun _ _ h => h
        have hp : puts = false := by simpa using h
        walk_at "rd"
        refine ⟨Er, ar, N, fo, nms, rfl, st4.root, hN4, nne, fun hno H' s => ⟨false, Er, ar, rfl, rfl, st4.mono s, s _ _ hN4, .inr ⟨hp, .inl ⟨rfl, hno, rfl⟩⟩⟩, fun hin H' fr t => ⟨true, takeE Er nms, ar, rfl, rfl, st4.tree fr t fun q hq => .inl ⟨q, takeE_fold hq, rfl⟩, fr _ _ hN4 (st4.root.nlst hN4), .inr ⟨hp, .inr ⟨rfl, hin, rfl⟩⟩⟩⟩
    rintro _ H5 ⟨b, Er1, ar1, rfl, hr1, st5, hN5, rel⟩
    refine q_stm (fun σ H' => Pt93 K p dx l n En al es kvs nw d el lvs HB (ar []) N nms fo puts Er b H' ∧ ∃ x8 x9 x10 x13, σ = [some (.ref p), some (.ref (ar [])), some (.ref d), some (.ref F), some (.ref P), some (.int c), some (.ref N), some (.bl fo), x8, x9, x10, some (.bl puts), some (.bl b), x13]) ?_ ?_
    · refine l_if (fun c H' => H' = H5 ∧ c = (b && puts)) ?_ (fun H6 h => ?_) fun H6 h => ?_
      · walk_at "rd"
        cases b <;> simp
      · obtain ⟨rfl, hb⟩ := h
        have hb2 : b = true ∧ puts = true := by simpa using hb.symm
        obtain ⟨rfl, rfl⟩ := hb2
        rcases rel with ⟨_, rfl, hok, _⟩ | ⟨h, _⟩
        · have hok := hok rfl
          refine l_expr (fun H' => Pt93 K p dx l n En al es kvs nw d el lvs HB (ar []) N nms fo true Er1 true H') ?_ fun H' h => ⟨h, _, _, _, _, rfl⟩
          walk_at "rd"
          generalize hH0 : cutH (fpT Er1 ar1) H6 = H0
          have frm : ∀ {H' : Hp}, Same H0 H' → Frm (fpT Er1 ar1) H6 H' := fun {H'} s => cutH_same.mp (by rw [hH0]; exact s)
          have s06 : Same H0 H6 := by rw [← hH0]; exact cutH_same.mpr fun _ _ e _ => e
          have new0 : NewT H0 Er1 ar1 := fun q hq => by rw [← hH0]; exact cutH_at ⟨q, hq, rfl⟩
          refine ⟨H0, Er1, ar1, N, fo, nms, by rw [hr1], s06, new0, st5.root, hN5, nne, by omega, fun x h => (nmo x h).1, hok, fun q => Nat.le_trans (szr.kid q) (by omega), fun E' al' H' s' new' t' e' g' hin => ?_⟩
          refine ⟨E', al', e'.trans hr1, st5.tree (frm s') t' fun q hq => ?_, frm s' _ _ hN5 (st5.root.nlst hN5), .inr (.inl ⟨rfl, rfl, hok, g', hin⟩)⟩
          have h1 := new' q hq
          rw [← hH0, cutH_none] at h1
          exact h1
        · cases h
      · obtain ⟨rfl, hb⟩ := h
        refine ⟨⟨Er1, ar1, hr1, st5, hN5, ?_⟩, _, _, _, _, rfl⟩
        rcases rel with ⟨rfl, rfl, _, h2⟩ | ⟨rfl, ⟨rfl, h, rfl⟩ | ⟨rfl, h, rfl⟩⟩
        · have : b = false := by simpa using hb.symm
          subst this
          exact .inl ⟨rfl, rfl, fun _ => h2 rfl, fun h => nomatch h⟩
        · exact .inl ⟨rfl, rfl, (fun h => nomatch h), fun _ => h⟩
        · exact .inr (.inr ⟨rfl, rfl, h, rfl⟩)
    rintro σ H6 ⟨⟨Er2, ar2, hr2, st6, hN6, rel⟩, x8, x9, x10, x13, rfl⟩
    have lj := join_len (b := 400) fun nm h => (hnm nm h).2.1
    generalize hwd : TL.joinL [47] nms ++ (if fo = true then [47] else []) = wd
    have good : GoodP wd nms fo := ⟨hwd.symm, nne, by omega, hnm⟩
    have sizP := fun (E' : List (Names × Bool)) (ok' : EOk E') (g : Grow En E' nms nms.length) (hin : (nms, fo) ∈ E') => sz.put ok' g hin nlen fun x h => (nmo x h).2
    have limK : LimE es := legK.up (by omega)
    walk_at "rd"
    refine mid_of (fun v H' => v = .bl (!b) ∧ ∃ n' En' al' nw', St93 K p dx l n' En' al' es kvs nw' Er2 ar2 d el lvs HB H' ∧ Er2.Perm En' ∧ Siz En' (k + 1) ∧ (b = false → En' = En ∧ nw' = nw ∧ Er2 = Er) ∧ (b = true → nw' = newsW (nowW (gathS es) En) (nowW (gathS es) En'))) ?_ ?_
    · walk_at "rd"
      refine mid_of (fun v H' => H' = H6 ∧ v = .str (S (TL.joinL [47] nms))) ?_ ?_
      · walk_at "rd"
        refine ⟨nms.map S, .inl (.inl (.inl hN6)), ?_, ?_⟩
        · have l1 := sum_len (b := 400) fun nm h => (hnm nm h).2.1
          rw [List.length_map, show (Str.ofString "/").length = 1 from rfl]
          omega
        · exact join_S [47] nms
      rintro _ _ ⟨rfl, rfl⟩
      rename_i H6
      refine mid_of (fun v H' => H' = H6 ∧ v = .str (S (if fo = true then [47] else []))) ?_ ?_
      · walk_at "rd"
        refine ⟨_, _, rfl, rfl, ?_⟩
        cases fo <;> exact ⟨by decide, by decide, by decide, rfl, by decide +kernel⟩
      rintro _ _ ⟨rfl, rfl⟩
      rename_i H6
      refine ⟨by rw [S_len, S_len]; split <;> simp <;> omega, ?_⟩
      rw [show S (TL.joinL [47] nms) ++ S (if fo = true then [47] else []) = S wd by rw [S_cat, hwd]]
      have hwl := good.size
      refine ⟨p, dx, l, n, En, al, es, kvs, nw, puts, wd, rfl, by omega, st6.keep, smK, limK, fun hn => (by rw [good.path] at hn; cases hn), fun nms1 fo1 hp1 => ?_⟩
      obtain ⟨rfl, rfl⟩ : nms = nms1 ∧ fo = fo1 := by
        rw [good.path] at hp1
        cases hp1
        exact ⟨rfl, rfl⟩
      refine ⟨fun hb => ⟨by omega, fun x h => (nmo x h).1, fun hno H' s => ?_, fun hok => ⟨fun E' ok g hin => (sizP E' ok g hin).small (by omega), fun E' al' n' H' g hin fr nw1 e nn ks => ?_⟩⟩, fun hb => ⟨fun hno H' s => ?_, fun hin n' H' fr nn ks => ?_⟩⟩
      · rcases rel with ⟨rfl, rfl, _⟩ | ⟨_, _, hok, _⟩ | ⟨_, h, _⟩
        · exact ⟨rfl, n, En, al, nw, st6.mono s, pm, sz.up, fun _ => ⟨rfl, rfl, rfl⟩, fun h => nomatch h⟩
        · exact absurd ((okPut_perm pm).mp hok) hno
        · rw [hb] at h
          cases h
      · rcases rel with ⟨_, _, h, _⟩ | ⟨rfl, _, hok2, g2, hin2⟩ | ⟨_, h, _⟩
        · exact absurd ((okPut_perm pm).mpr hok) (h hb)
        · exact ⟨rfl, n', E', al', _, st6.deed fr ks nw1, PutN.perm pm st6.root.ok ks.tree.ok g2 hin2 g hin, sizP E' ks.tree.ok g hin, (fun h => nomatch h), fun _ => rfl⟩
        · rw [hb] at h
          cases h
      · rcases rel with ⟨rfl, rfl, _⟩ | ⟨_, h, _⟩ | ⟨_, _, h, _⟩
        · exact ⟨rfl, n, En, al, nw, st6.mono s, pm, sz.up, fun _ => ⟨rfl, rfl, rfl⟩, fun h => nomatch h⟩
        · rw [hb] at h
          cases h
        · exact absurd (pm.mem_iff.mp h) hno
      · rcases rel with ⟨_, _, _, h⟩ | ⟨_, h, _⟩ | ⟨rfl, _, _, rfl⟩
        · exact absurd (pm.mem_iff.mpr hin) (h hb)
        · rw [hb] at h
          cases h
        · exact ⟨rfl, n', takeE En nms, al, _, st6.deed fr ks fun q hq => .inl ⟨q, takeE_fold hq, rfl⟩, takeE_perm pm nms, (sz.take nms).up, (fun h => nomatch h), fun _ => rfl⟩
    rintro _ H7 ⟨rfl, n', En', al', nw', st7, pm7, sz7, no7, yes7⟩
    walk_at "rd"
    intro t ht
    have e : (!decide ((!b) = b)) = true := by cases b <;> rfl
    rw [e] at *
    have st8 := st7.mono (same_new (o := .tup [V.bl true, V.bl b]) ht)
    exact q t b n' En' al' es kvs nw' Er2 ar2 el lvs _ upd_same (same_none st7.same ht) ⟨st8, hr2, pm7, sz7, leg.up (by omega), legK.up (by omega), lp, fun h => ⟨(no7 h).1, rfl, (no7 h).2.1, (no7 h).2.2, rfl⟩, yes7⟩

/-! ### the law -/
section
variable {K : PySem.W.Frag} {p dx l n n' d : Addr} {En En' Er Er' : List (Names × Bool)} {al al' ar ar' : Names → Addr} {es es' el el' : List LE} {kvs kvs' lvs lvs' : List (Key × V)} {nw nw' : List (List Nat)} {HB H H' : Hp}
theorem St93.cut (s : St93 K p dx l n En al es kvs nw Er ar d el lvs HB H) : St93 K p dx l n En al es kvs nw Er ar d el lvs (cutH (bad93 p l En al Er ar d) H) H :=
  ⟨s.keep, s.root, s.dict, s.lsts, s.sepR, s.sepD, cutH_same.mpr fun _ _ e _ => e, fun _ h => cutH_at h⟩
theorem St93.rebase (s : St93 K p dx l n En al es kvs nw Er ar d el lvs HB H) (t : St93 K p dx l n' En' al' es' kvs' nw' Er' ar' d el' lvs' (cutH (bad93 p l En al Er ar d) H) H') : St93 K p dx l n' En' al' es' kvs' nw' Er' ar' d el' lvs' HB H' ∧ Frm (bad93 p l En al Er ar d) H H' := by
  have f := cutH_same.mp t.same
  refine ⟨⟨t.keep, t.root, t.dict, t.lsts, t.sepR, t.sepD, Frm.same ((Frm.of s.same).step f fun c h => .inr (s.new c h)), fun a h => ?_⟩, f⟩
  rcases cutH_none.mp (t.new a h) with h | h
  · exact s.new a h
  · exact same_none s.same h
theorem St93.nlst (s : St93 K p dx l n En al es kvs nw Er ar d el lvs HB H) {a : Addr} {us : List V} (e : H a = some (.lst us)) : ¬ bad93 p l En al Er ar d a := fun z => by
  rcases z with z | z | z
  · exact s.keep.nlst e z
  · exact s.root.nlst e z
  · rw [z, s.dict] at e
    cases e
theorem news_ok {rs rs' : List RF} {E E' : List (Names × Bool)} (ok : EOk E') (sm : SmallT E') : ∀ w ∈ newsW (nowW rs E) (nowW rs' E'), PyData.strOk (S w) = true := fun w hw => by
  unfold newsW at hw
  rw [now_keys] at hw
  have h1 := (srt_perm _).mem_iff.mp (List.mem_filter.mp hw).1
  obtain ⟨e, he, rfl⟩ := List.mem_map.mp h1
  exact (ent_good ok sm.nm (List.mem_filter.mp he).1).dok
theorem news_len {rs rs' : List RF} {E E' : List (Names × Bool)} (sm : SmallT E') : (newsW (nowW rs E) (nowW rs' E')).length ≤ 63 := by
  unfold newsW
  rw [now_keys]
  refine Nat.le_trans (List.length_filter_le _ _) ?_
  rw [leafW_len]
  exact sm.lf
end
def Iv93 (K : PySem.W.Frag) (a P F kp dx l R d : Addr) (HB : Hp) (k : Nat) (σ : L2.St) (H' : Hp) : Prop := ∃ n En al es kvs nw Er ar el lvs N x7 x8 x9 x10 x11 x12 x13, σ = [some (.ref a), some (.ref P), some (.ref F), some (.ref kp), some (.ref R), some (.ref d), some (.ref N), x7, x8, x9, x10, x11, x12, x13] ∧ ar [] = R ∧ St93 K kp dx l n En al es kvs nw Er ar d el lvs HB H' ∧ Er.Perm En ∧ Siz En k ∧ LEG el k ∧ LEG es k ∧ es.Perm (fullE el) ∧ H' N = some (.lst (nmsV nw)) ∧ (∀ w ∈ nw, PyData.strOk (S w) = true) ∧ nw.length ≤ 63
theorem bd_law (T : Txt K mg) : BodyQ P w K mg base 18 (fA K "law") "law" (defBody TX.s_law) (defScope TX.s_law) N_law (spLaw K) := by
  rintro cdv A outer s H vs Q E hr ⟨a, ns, rfl, hs, hn, q⟩
  refine ⟨_, (pss_cons (ps_set (i := 1) sc_law.nd rfl (Or.inl rfl) (pe_mid (pe_cal (ok__law_signs T) (hr.mono (by decide)) rfl T.g__law_signs (pasE (takes_of rfl rfl rfl rfl) (fun _ _ _ _ h => h)) (pa_cons (pe_cal (ok__law_cell T) (hr.mono (by decide)) rfl T.g__law_cell (pasE (takes_of rfl rfl rfl rfl) (fun _ _ _ _ h => h)) (pa_cons (pv 0) (pa_cons pe_int pa_nil))) pa_nil))))
  (pss_cons (ps_set (i := 2) sc_law.nd rfl (Or.inl rfl) (pe_mid (pe_cal (ok__law_rows T) (hr.mono (by decide)) rfl T.g__law_rows (pasE (takes_of rfl rfl rfl rfl) (fun _ _ _ _ h => h)) (pa_cons (pv 0) (pa_cons pe_int (pa_cons pe_int (pa_cons (pv 1) pa_nil)))))))
  (pss_cons (ps_set (i := 2) sc_law.nd rfl (Or.inl rfl) (pe_mid (pe_cal (ok__law_with_long T) (hr.mono (by decide)) rfl T.g__law_with_long (pasE (takes_of rfl rfl rfl rfl) (fun _ _ _ _ h => h)) (pa_cons (pv 2) (pa_cons (pe_op op_fdivW (pe_cal (ok__law_cell T) (hr.mono (by decide)) rfl T.g__law_cell (pasE (takes_of rfl rfl rfl rfl) (fun _ _ _ _ h => h)) (pa_cons (pv 0) (pa_cons pe_int pa_nil))) pe_int) (pa_cons (pv 1) pa_nil))))))
  (pss_cons (ps_set (i := 3) sc_law.nd rfl (Or.inl rfl) (pe_mid (pe_mak0 T.mk_Keeper (ok_Keeper___init__ T) (hr.mono (by decide)) rfl T.g_Keeper (pasE (takes_of rfl rfl rfl rfl) (fun _ _ _ _ h => h)))))
  (pss_cons (ps_set (i := 4) sc_law.nd rfl (Or.inl rfl) pe_dnewK)
  (pss_cons (ps_set (i := 5) sc_law.nd rfl (Or.inl rfl) pe_dnewK)
  (pss_cons (ps_set (i := 6) sc_law.nd rfl (Or.inl rfl) (pe_mid (pe_metI0 (md_K_changed T) (pv 3) (hr.mono (by decide)) (pasE (takes_of rfl rfl rfl rfl) (fun _ _ _ _ h => h)))))
  (pss_cons (ps_if (pt_mid (pt_cmpR (o_ne (K := K) (hu64 hr)) (pv 6) (pe_lst pa_nil) (nomark _))) (pss_one (ps_ret pe_bl)) pss_nil)
  (pss_cons (ps_mid (ps_for (passes_of rfl) rfl (pi_mid (pi_range1 rfl T.fr_range (pa_cons (pe_callB (o_min (K := K) rfl) (by rfl) T.fr_min (by decide +kernel) (pa_cons pe_int (pa_cons (pe_callB (o_lenW (K := K) (w := w)) (by rfl) T.fr_len boot_len (pa_cons (pv 0) pa_nil)) pa_nil))) pa_nil))) (pg_name (i := 7) sc_law.nd rfl (Or.inl rfl)) (pss_cons (ps_set (i := 8) sc_law.nd rfl (Or.inl rfl) (pe_mid (pe_cal (ok__law_leaves T) (hr.mono (by decide)) rfl T.g__law_leaves (pasE (takes_of rfl rfl rfl rfl) (fun _ _ _ _ h => h)) (pa_cons (pv 4) (pa_cons (pv 5) pa_nil)))))
  (pss_cons (ps_asg (pe_mid (pe_cal (ok__law_done T) (hr.mono (by decide)) rfl T.g__law_done (pasE (takes_of rfl rfl rfl rfl) (fun _ _ _ _ h => h)) (pa_cons (pv 3) (pa_cons (pv 4) (pa_cons (pv 5) (pa_cons (pv 2) (pa_cons (pv 1) (pa_cons (pe_cal (ok__law_mixed T) (hr.mono (by decide)) rfl T.g__law_mixed (pasE (takes_of rfl rfl rfl rfl) (fun _ _ _ _ h => h)) (pa_cons (pe_cal (ok__law_cell T) (hr.mono (by decide)) rfl T.g__law_cell (pasE (takes_of rfl rfl rfl rfl) (fun _ _ _ _ h => h)) (pa_cons (pv 0) (pa_cons (pv 7) pa_nil))) (pa_cons pe_int pa_nil))) pa_nil)))))))) (pg_tup rfl (pgs_cons (pg_name (i := 9) sc_law.nd rfl (Or.inl rfl)) (pgs_cons (pg_name (i := 10) sc_law.nd rfl (Or.inl rfl)) pgs_nil))))
  (pss_cons (ps_set (i := 11) sc_law.nd rfl (Or.inl rfl) (pe_mid (pe_cal (ok__law_leaves T) (hr.mono (by decide)) rfl T.g__law_leaves (pasE (takes_of rfl rfl rfl rfl) (fun _ _ _ _ h => h)) (pa_cons (pv 4) (pa_cons (pv 5) pa_nil)))))
  (pss_cons (ps_mid (ps_if (pt_mid (pt_tru (K := K) (pv 10) (by intro _; rfl))) (pss_one (ps_set (i := 6) sc_law.nd rfl (Or.inl rfl) (pe_mid (pe_cal (ok__law_news T) (hr.mono (by decide)) rfl T.g__law_news (pasE (takes_of rfl rfl rfl rfl) (fun _ _ _ _ h => h)) (pa_cons (pv 8) (pa_cons (pv 11) pa_nil)))))) pss_nil))
  (pss_cons (ps_set (i := 12) sc_law.nd rfl (Or.inl rfl) (pe_mid (pe_metI0 (md_K_changed T) (pv 3) (hr.mono (by decide)) (pasE (takes_of rfl rfl rfl rfl) (fun _ _ _ _ h => h)))))
  (pss_cons (ps_if (pt_mid (PW.pt (pw_or (pt_not (pt_tru (K := K) (pv 9) (by intro _; rfl))) (pw_or (pt_not (pt_tru (K := K) (pe_callB (o_isi (K := K)) (by rfl) T.fr_isinstance (by decide +kernel) (pa_cons (pv 12) (pa_cons (pe_bltn (v := .ty "list") rfl T.fr_list (by decide +kernel) rfl) pa_nil))) (by intro _; rfl))) (pw_or1 (pt_cmpR (o_ne (K := K) (hu64 hr)) (pv 12) (pv 6) (nomark _))))))) (pss_one (ps_ret pe_bl)) pss_nil)
  (pss_cons (ps_expr (pe_bmK (K := K) PySem.F.plainAttrs_list PySem.F.slot_list_append PySem.F.type_list_append mt_append (pv 12) (pa_cons (pe_mid pe_str) pa_nil)))
  (pss_cons (ps_set (i := 13) sc_law.nd rfl (Or.inl rfl) (pe_mid (pe_mid (pe_listVals rfl (pv 11) (by rfl) T.fr_list (by decide +kernel)))))
  (pss_one (ps_if (pt_mid (pt_cmpR (o_ne (K := K) (hu64 hr)) (pe_metI0 (md_K_count T) (pv 3) (hr.mono (by decide)) (pasE (takes_of rfl rfl rfl rfl) (fun _ _ _ _ h => h))) (pe_tup (pa_cons (pe_bmK (K := K) PySem.F.plainAttrs_list PySem.F.slot_list_count PySem.F.type_list_count mt_countF (pv 13) (pa_cons pe_bl pa_nil)) (pa_cons (pe_bmK (K := K) PySem.F.plainAttrs_list PySem.F.slot_list_count PySem.F.type_list_count mt_countF (pv 13) (pa_cons pe_bl pa_nil)) pa_nil))) (nomark _))) (pss_one (ps_ret pe_bl)) pss_nil))))))))))))
  (pss_one (ps_ret (pe_andK (K := K) (pe_cmpR (o_eq (K := K) (hu64 hr)) (pe_metI0 (md_K_changed T) (pv 3) (hr.mono (by decide)) (pasE (takes_of rfl rfl rfl rfl) (fun _ _ _ _ h => h))) (pv 6) (nomark _)) (pe_one (pe_cmpR (o_eqT (K := K) (hu64 hr)) (pe_metI0 (md_K_tree T) (pv 3) (hr.mono (by decide)) (pasE (takes_of rfl rfl rfl rfl) (fun _ _ _ _ h => h))) (pv 4) (nomark _))))))))))))))), ?_⟩
  have tobj := T.obj
  refine q_midG (fun v H' => Same H H' ∧ ∃ P l, v = .ref P ∧ H' P = some (.lst l) ∧ l.length = 4 ∧ l.Nodup ∧ ∀ v ∈ l, SignV v) ?_ ?_
  · walk_at "rd"
    exact ⟨a, 0, ns, rfl, hs, hn, by decide, by decide, fun c => ⟨c, rfl, fun p l H' hl4 nd hw hp sm hp' => ⟨sm, p, rfl, l, hp', hl4, nd, hw⟩⟩⟩
  rintro _ H1 ⟨s1, P, ws, rfl, hP, hl4, nd, hw⟩
  have hs1 := same_l s1 hs
  refine q_midG (fun v H' => Same H1 H' ∧ ∃ F rs, v = .ref F ∧ RowsL K rs F H' ∧ rs.length = 3) ?_ ?_
  · walk_at "rd"
    exact ⟨a, ns, P, ws, 1, 3, rfl, hs1, hn, by omega, .inl (.inl hP), hl4, hw, fun F rs H' s _ h l => ⟨s, F, rfl, rs, h, by omega⟩⟩
  rintro _ H2 ⟨s2, F0, rs0, rfl, hrs0, lrs0⟩
  have hP2 := s2 _ _ hP
  refine q_midG (fun v H' => Same H2 H' ∧ ∃ F rs, v = .ref F ∧ RowsL K rs F H' ∧ rs.length = 3) ?_ ?_
  · walk_at "rd"
    exact ⟨a, 0, ns, rfl, same_l s2 hs1, hn, by decide, by decide, fun c => ⟨c, rfl, ⟨by decide, by decide⟩, F0, _, P, ws, rs0, rfl, hrs0, by omega, .inl (.inl hP2), hl4, nd, hw, fun G rs' H' s h l => ⟨s, G, rfl, rs', h, by omega⟩⟩⟩
  rintro _ HB ⟨s3, F, rs, rfl, hrs, lrs⟩
  have hPB := s3 _ _ hP2
  have hsB := same_l s3 (same_l s2 hs1)
  refine q_midG (fun v H' => Same HB H' ∧ ∃ kp dx r l n, v = .ref kp ∧ HB kp = none ∧ HB r = none ∧ HB l = none ∧ KeepG K kp dx l n [] (fun _ => r) [] [] [] H') ?_ ?_
  · walk_at "rd"
    intro x dx hx hdx hxd
    have n1 := new_two (o := .own x) (o' := .ins (fA K "Keeper") dx []) hx hdx hxd
    refine ⟨x, dx, rfl, upd_same, fun r l n H' hr' hl' hn' ks b => ⟨rfl, but_same hx hdx b, hx, dx, r, same_none n1 hr', l, same_none n1 hl', n, ks⟩⟩
  rintro _ H3 ⟨s3, kp, dx, r0, l, n0, rfl, nkp, nr0, nl, ks0⟩
  refine q_newD fun R hR => ?_
  have sR := same_new (o := .dK []) hR
  refine q_newD fun d hd => ?_
  have sd := same_new (o := .dK []) hd
  have ndR : d ≠ R := fun z => by rw [z, upd_same] at hd; cases hd
  have ks5 := (ks0.mono sR).mono sd
  have st0 : St93 K kp dx l n0 [] (fun _ => r0) [] [] [] [] (fun _ => R) d [] [] HB (upd (upd H3 R (.dK [])) d (.dK [])) := by
    have hR3 : ∀ {a : Addr}, fpK kp l [] (fun _ => r0) a → a ≠ R := fun {a} h z => ks0.ex h (z ▸ hR)
    have hd3 : ∀ {a : Addr}, fpK kp l [] (fun _ => r0) a → a ≠ d := fun {a} h z => (ks0.mono sR).ex h (z ▸ hd)
    refine ⟨ks5, tree_nil (sd _ _ upd_same), upd_same, .nil, fun q _ z => hR3 z rfl, ⟨fun z => hd3 z rfl, fun ⟨_, _, e⟩ => ndR e⟩, (s3.trans sR).trans sd, fun c h => ?_⟩
    rcases h with (rfl | rfl | ⟨q, _, rfl⟩) | ⟨q, _, rfl⟩ | rfl
    · exact nkp
    · exact nl
    · exact nr0
    · exact same_none s3 hR
    · exact same_none (s3.trans sR) hd
  generalize upd (upd H3 R (.dK [])) d (.dK []) = H5 at st0
  refine q_midG (fun v H' => Same H5 H' ∧ ∃ N, v = .ref N ∧ H' N = some (.lst (nmsV []))) ?_ ?_
  · walk_at "rd"
    exact ⟨st0.keep.v, (), kp, dx, l, n0, [], _, [], [], [], rfl, st0.keep, fun D H' s _ hD => ⟨s, D, rfl, hD⟩⟩
  rintro _ H6 ⟨s6, N0, rfl, hN0⟩
  have st6 := st0.mono s6
  refine q_if (fun b H' => Same H6 H' ∧ b = false) ?_ (fun _ h => nomatch h.2) fun H7 h => q_next ?_
  · walk_at "rd"
    intro p hp
    have sp := same_new (o := .lst []) hp
    exact ne_nil (.inl (.inl (sp _ _ hN0))) (.inl (.inl upd_same)) ⟨_, rfl, sp, rfl⟩
  obtain ⟨s7, _⟩ := h
  have st7 := st6.mono s7
  have hN7 := s7 _ _ hN0
  refine q_stm (Iv93 K a P F kp dx l R d HB 30) ?_ ?_
  · refine for_mid (J0 := Itr 0 (min 30 ns.length)) (H0 := H7) ?_ walk_range (fun k σ H' => Iv93 K a P F kp dx l R d HB k σ H')
      ⟨n0, [], _, [], [], [], [], _, [], [], N0, _, _, _, _, _, _, _, rfl, rfl, st7, .nil, ⟨Nat.zero_le _, fun _ => Nat.zero_le _, (fun _ h => nomatch h), Nat.zero_le _⟩, .nil, .nil, .nil, hN7, (fun _ h => nomatch h), Nat.zero_le _⟩ (fun _ _ _ _ _ => trivial) ?_ (fun σ H' h => ?_)
    · walk_at "rd"
      refine .inr ⟨_, .inl ⟨_, same_l st7.same hsB, rfl⟩, ?_⟩
      have hnn : (if ((ns.map V.int).length : Int) < 30 then ((ns.map V.int).length : Int) else 30) = ((min 30 ns.length : Nat) : Int) := by
        rw [List.length_map]
        split <;> omega
      rw [hnn]
      exact ⟨by omega, by omega, rfl⟩
    · rintro k x σ H8' H8 hk ⟨n, En, al, es, kvs, nw, Er, ar, el, lvs, N, x7, x8, x9, x10, x11, x12, x13, rfl, hR0, st, pm, sz, leg, legK, lp, hN, nwok, nwl⟩ ⟨rfl, rfl⟩
      have hk30 : k < 30 := by omega
      subst hR0
      have szr := sz.perm pm.symm
      have smR := szr.small (show k ≤ 60 by omega)
      have okl : ∀ e ∈ el, ∀ r ∈ e.2, r.Ok := fun e he => (leg.rows e he).2
      refine q_midG (fun v H' => Same H8 H' ∧ ∃ A, v = .ref A ∧ H8 A = none ∧ H' A = some (.dK ((lawNow el Er).map wbK))) ?_ ?_
      · walk_at "rd"
        exact ⟨d, el, lvs, Er, ar, rfl, st.dict, st.lsts, leg.up (by omega), st.root, smR, fun D H' s hD hD' => ⟨s, D, rfl, hD, hD'⟩⟩
      rintro _ H9 ⟨s9, A, rfl, hAn, hA⟩
      have st9 := st.mono s9
      have hN9 := s9 _ _ hN
      refine q_pair (fun x y H' => ∃ done n' En' al' es' kvs' nw' Er' ar' el' lvs', x = .bl true ∧ y = .bl done ∧ Done93 K kp dx l En es nw Er (ar []) d el k (cutH (bad93 kp l En al Er ar d) H9) done n' En' al' es' kvs' nw' Er' ar' el' lvs' H') ?_ ?_
      · walk_at "rd"
        exact ⟨a, _, ns, rfl, same_l st9.same hsB, hn, by omega, by omega, fun c => ⟨c, 84, rfl, fun m _ _ => ⟨kp, dx, l, n, En, al, es, kvs, nw, Er, ar, d, el, lvs, cutH (bad93 kp l En al Er ar d) H9, k, F, rs, P, ws, m, rfl, st9.cut, pm, sz, leg, legK, lp, by omega, hrs.mono st9.same, lrs, st9.same _ _ hPB, hl4, nd, hw, fun t done n' En' al' es' kvs' nw' Er' ar' el' lvs' H' ht htn dn => ⟨t, rfl, _, _, .inl (.inl ht), rfl, done, rfl, n', En', al', es', kvs', nw', Er', ar', el', lvs', dn⟩⟩⟩⟩
      rintro _ _ H10 ⟨done, n', En', al', es', kvs', nw', Er', ar', el', lvs', rfl, rfl, dn⟩
      obtain ⟨st10, fr10⟩ := st9.rebase dn.st
      have hN10 := fr10 _ _ hN9 (st9.nlst hN9)
      have hA10 := fr10 _ _ hA fun z => st.ex z hAn
      have szr' := dn.siz.perm dn.perm.symm
      have smR' := szr'.small (show k + 1 ≤ 60 by omega)
      have smK' := dn.siz.small (show k + 1 ≤ 60 by omega)
      have okl' : ∀ e ∈ el', ∀ r ∈ e.2, r.Ok := fun e he => (dn.lim.rows e he).2
      have hroot := dn.root
      rw [← hroot]
      have llaw : (lawNow el' Er').length ≤ 63 := by rw [lawNow_len st10.root.ok]; exact smR'.lf
      refine q_midG (fun v H' => Same H10 H' ∧ ∃ B, v = .ref B ∧ H10 B = none ∧ H' B = some (.dK ((lawNow el' Er').map wbK))) ?_ ?_
      · walk_at "rd"
        exact ⟨d, el', lvs', Er', ar', rfl, st10.dict, st10.lsts, dn.lim.up (by omega), st10.root, smR', fun D H' s hD hD' => ⟨s, D, rfl, hD, hD'⟩⟩
      rintro _ H11 ⟨s11, B, rfl, hBn, hB⟩
      have st11 := st10.mono s11
      have hA11 := s11 _ _ hA10
      have hN11 := s11 _ _ hN10
      have nwok' : ∀ w ∈ nw', PyData.strOk (S w) = true := by
        cases done with
        | false =>
          rw [(dn.no rfl).2.2.1]
          exact nwok
        | true =>
          rw [dn.yes rfl]
          exact news_ok st10.keep.tree.ok smK'
      have nwlen' : nw'.length ≤ 63 := by
        cases done with
        | false =>
          rw [(dn.no rfl).2.2.1]
          exact nwl
        | true =>
          rw [dn.yes rfl]
          exact news_len smK'
      refine q_stm (fun σ H' => Same H11 H' ∧ ∃ N', H' N' = some (.lst (nmsV nw')) ∧ ∃ i7 : Int, σ = [some (.ref a), some (.ref P), some (.ref F), some (.ref kp), some (.ref (ar' [])), some (.ref d), some (.ref N'), some (.int i7), some (.ref A), some (.bl true), some (.bl done), some (.ref B), x12, x13]) ?_ ?_
      · refine l_if (fun b H' => H' = H11 ∧ b = done) ?_ (fun H12 h => ?_) fun H12 h => ?_
        · walk_at "rd"
        · obtain ⟨rfl, hb⟩ := h
          refine l_midG (fun v H' => Same H12 H' ∧ ∃ D, v = .ref D ∧ H' D = some (.lst (nmsV nw'))) ?_ ?_
          · walk_at "rd"
            refine ⟨A, B, lawNow el Er, lawNow el' Er', rfl, hA11, hB, llaw, fun D H' s _ hD => ⟨s, D, rfl, ?_⟩⟩
            rw [hD, news_law okl leg.nd lp st.root.ok pm okl' dn.lim.nd dn.lists st10.root.ok dn.perm, dn.yes hb.symm]
          rintro _ H13 ⟨s13, D, rfl, hD⟩
          exact ⟨s13, D, hD, _, rfl⟩
        · obtain ⟨rfl, hb⟩ := h
          refine ⟨Same.refl _, N, ?_, _, rfl⟩
          rw [(dn.no hb.symm).2.2.1]
          exact hN11
      rintro σ H12 ⟨s12, N', hN', i7, rfl⟩
      have st12 := st11.mono s12
      have hB12 := s12 _ _ hB
      refine q_midG (fun v H' => Same H12 H' ∧ ∃ D, v = .ref D ∧ H12 D = none ∧ H' D = some (.lst (nmsV nw'))) ?_ ?_
      · walk_at "rd"
        exact ⟨st12.keep.v, (), kp, dx, l, n', En', al', es', kvs', nw', rfl, st12.keep, fun D H' s hn hD => ⟨s, D, rfl, hn, hD⟩⟩
      rintro _ H13 ⟨s13, D, rfl, hDn, hD⟩
      have hN13 := s13 _ _ hN'
      refine q_if (fun b H' => Same H13 H' ∧ b = false) ?_ (fun _ h => nomatch h.2) fun H14 h => q_next ?_
      · walk_at "rd"
        refine ⟨"list", .base (.lst hD), true, by decide +kernel, ?_⟩
        rw [if_neg (by decide)]
        exact ne_dat (txts_ok nwok') (by decide) (txts_dp (.inl (.inl hD))) (txts_dp (.inl (.inl hN13))) ⟨_, rfl, Same.refl _, rfl⟩
      obtain ⟨s14, _⟩ := h
      have hD14 := s14 _ _ hD
      refine q_app (xs := nmsV nw') rfl hD14 (show tC (V.str (Str.ofString "x")) _ _ _ from ⟨_, hD14, by rw [sizeLine_eq, nms_len]; omega, ?_⟩)
      have s15 : Same H12 (upd H14 D (.lst (nmsV nw' ++ [V.str (Str.ofString "x")]))) := same_mut (s13.trans s14) hDn
      generalize upd H14 D (.lst (nmsV nw' ++ [V.str (Str.ofString "x")])) = H15 at *
      have st15 := st12.mono s15
      have hB15 := s15 _ _ hB12
      refine q_midG (fun v H' => Same H15 H' ∧ ∃ M, v = .ref M ∧ H' M = some (.lst (((lawNow el' Er').map wbK).map (·.2)))) ?_ ?_
      · refine mid_of _ ?_ fun _ _ h => h
        unfold tListVals
        walk_at "rd"
        exact ⟨_, hB15, fun R hR => ⟨same_new hR, upd_same⟩⟩
      rintro _ H16 ⟨s16, M, rfl, hM⟩
      have st16 := st15.mono s16
      have hN16 := (s15.trans s16) _ _ hN'
      refine l_if (fun b H' => Same H16 H' ∧ b = false) ?_ (fun _ h => nomatch h.2) fun H17 h => ?_
      · walk_at "rd"
        refine ⟨st16.keep.v, (), kp, dx, l, n', En', al', es', kvs', nw', rfl, st16.keep, smK', dn.limK.up (by omega), fun t H' s ht => ?_⟩
        have fl : (((lawNow el' Er').map wbK).map (·.2)).all flatV = true := by
          rw [List.map_map, List.all_map]
          exact List.all_eq_true.mpr fun e _ => rfl
        have sM : SqL K H' M (((lawNow el' Er').map wbK).map (·.2)) := .inl (.inl (s _ _ hM))
        refine ⟨⟨_, sM⟩, M, _, .bl true, rfl, rfl, sM, rfl, fl, ⟨_, sM⟩, M, _, .bl false, rfl, rfl, sM, rfl, fl, fun p hp => ?_⟩
        rw [cnt_law okl' dn.lim.nd dn.lists st10.root.ok dn.perm, cnt_law okl' dn.lim.nd dn.lists st10.root.ok dn.perm] at ht
        rw [cnt_wb, cnt_wb]
        have sp := same_new (o := .tup [V.int (cntW true (lawNow el' Er') : Nat), V.int (cntW false (lawNow el' Er') : Nat)]) hp
        exact ne_dat (d := .tuple [.int (cntW true (lawNow el' Er') : Nat), .int (cntW false (lawNow el' Er') : Nat)]) (dok_tup (n := 1) (all_cons dok_int (all_cons dok_int all_nil))) (by decide) (.tup (.inl (.inl (sp _ _ ht))) (.cons (.int _) (.cons (.int _) .nil))) (.tup (.inl (.inl upd_same)) (.cons (.int _) (.cons (.int _) .nil))) ⟨_, rfl, s.trans sp, rfl⟩
      obtain ⟨s17, _⟩ := h
      exact ⟨n', En', al', es', kvs', nw', Er', ar', el', lvs', N', _, _, _, _, _, _, _, rfl, rfl, st16.mono s17, dn.perm, dn.siz, dn.lim, dn.limK, dn.lists, s17 _ _ hN16, nwok', nwlen'⟩
    · obtain ⟨n, En, al, es, kvs, nw, Er, ar, el, lvs, N, x7, x8, x9, x10, x11, x12, x13, rfl, hR0, st, pm, sz, leg, legK, lp, hN, nwok, nwl⟩ := h
      have h30 : min 30 ns.length ≤ 30 := Nat.min_le_left _ _
      exact ⟨n, En, al, es, kvs, nw, Er, ar, el, lvs, N, x7, x8, x9, x10, x11, x12, x13, rfl, hR0, st, pm, ⟨by have := sz.len; omega, fun p => Nat.le_trans (sz.kid p) h30, sz.nm, Nat.le_trans sz.lf h30⟩, leg.up h30, legK.up h30, lp, hN, nwok, nwl⟩
  rintro σ H8 ⟨n, En, al, es, kvs, nw, Er, ar, el, lvs, N, x7, x8, x9, x10, x11, x12, x13, rfl, hR0, st, pm, sz, leg, legK, lp, hN, nwok, nwl⟩
  subst hR0
  have smK := sz.small (show 30 ≤ 60 by decide)
  walk_at "rd"
  refine ⟨st.keep.v, (), kp, dx, l, n, En, al, es, kvs, nw, rfl, st.keep, fun D H9 s9 _ hD => ?_⟩
  have st9 := st.mono s9
  refine eq_dat (txts_ok nwok) (by decide) (txts_dp (.inl (.inl hD))) (txts_dp (.inl (.inl (s9 _ _ hN)))) ⟨_, rfl, ?_⟩
  rw [if_pos rfl]
  refine ⟨st9.keep.v, (), kp, dx, l, n, En, al, es, kvs, nw, rfl, st9.keep, smK.len, fun al2 H10 s10 tr10 _ => ?_⟩
  exact tree_eqT tr10 (st9.mono s10).root pm.symm (q _)

end
end SL
namespace SL
open PySem PySem.Spec PyProof.Rows L2
theorem txt_of {w : World} {K : PySem.W.Frag} {h : Heap} {mg : Str → Option Value} (X : K.In h) (G : h.Ns mainGlobals mg) (c : He.SaysX HD.fa HD.fn [] [] HD.ex w h K) : Txt K mg where
  F__wall := c.t.d.def_ 0 rfl
  F_is_sign := c.t.d.def_ 1 rfl
  F_spots_behind := c.t.d.def_ 2 rfl
  F_names_of := c.t.d.def_ 3 rfl
  F_folder_names := c.t.d.def_ 4 rfl
  F_placed := c.t.d.def_ 5 rfl
  F_gathered := c.t.d.def_ 6 rfl
  F_with_deeps := c.t.d.def_ 7 rfl
  F_fits := c.t.d.def_ 8 rfl
  F_last_fit := c.t.d.def_ 9 rfl
  F_told := c.t.d.def_ 10 rfl
  F_paths_within := c.t.d.def_ 11 rfl
  F_paths_of := c.t.d.def_ 12 rfl
  F_copied := c.t.d.def_ 13 rfl
  F__law_cell := c.t.d.def_ 14 rfl
  F__law_mixed := c.t.d.def_ 15 rfl
  F__law_signs := c.t.d.def_ 16 rfl
  F__law_part := c.t.d.def_ 17 rfl
  F__law_segment := c.t.d.def_ 18 rfl
  F__law_row := c.t.d.def_ 19 rfl
  F__law_rows := c.t.d.def_ 20 rfl
  F__law_part_made := c.t.d.def_ 21 rfl
  F__law_row_made := c.t.d.def_ 22 rfl
  F__law_long_row := c.t.d.def_ 23 rfl
  F__law_with_long := c.t.d.def_ 24 rfl
  F__law_filled := c.t.d.def_ 25 rfl
  F__law_names := c.t.d.def_ 26 rfl
  F__law_sign_fits := c.t.d.def_ 27 rfl
  F__law_good_behind := c.t.d.def_ 28 rfl
  F__law_name_fits := c.t.d.def_ 29 rfl
  F__law_fits := c.t.d.def_ 30 rfl
  F__law_free := c.t.d.def_ 31 rfl
  F__law_put_in := c.t.d.def_ 32 rfl
  F__law_paths := c.t.d.def_ 33 rfl
  F__law_cut := c.t.d.def_ 34 rfl
  F__law_ranked := c.t.d.def_ 35 rfl
  F__law_decides := c.t.d.def_ 36 rfl
  F__law_down_lists := c.t.d.def_ 37 rfl
  F__law_leaves := c.t.d.def_ 38 rfl
  F__law_news := c.t.d.def_ 39 rfl
  F__law_gone := c.t.d.def_ 40 rfl
  F__law_deed_names := c.t.d.def_ 41 rfl
  F__law_refused := c.t.d.def_ 42 rfl
  F__law_folders := c.t.d.def_ 43 rfl
  F__law_none_refused := c.t.d.def_ 44 rfl
  F__law_done := c.t.d.def_ 45 rfl
  F_law := c.t.d.def_ 46 rfl
  F_Part_fits := c.t.d.def_ 47 rfl
  F_Part_many := c.t.d.def_ 48 rfl
  F_Part_told := c.t.d.def_ 49 rfl
  F_Any_fits := c.t.d.def_ 50 rfl
  F_Any_many := c.t.d.def_ 51 rfl
  F_Any_told := c.t.d.def_ 52 rfl
  F_One_fits := c.t.d.def_ 53 rfl
  F_One_many := c.t.d.def_ 54 rfl
  F_One_told := c.t.d.def_ 55 rfl
  F_One___init__ := c.t.d.def_ 56 rfl
  F_Among_fits := c.t.d.def_ 57 rfl
  F_Among_many := c.t.d.def_ 58 rfl
  F_Among_told := c.t.d.def_ 59 rfl
  F_Among___init__ := c.t.d.def_ 60 rfl
  F_Stars_fits := c.t.d.def_ 61 rfl
  F_Stars_many := c.t.d.def_ 62 rfl
  F_Stars_told := c.t.d.def_ 63 rfl
  F_Step_deep := c.t.d.def_ 64 rfl
  F_Step_fits_name := c.t.d.def_ 65 rfl
  F_Step_told := c.t.d.def_ 66 rfl
  F_Deep_deep := c.t.d.def_ 67 rfl
  F_Deep_fits_name := c.t.d.def_ 68 rfl
  F_Deep_told := c.t.d.def_ 69 rfl
  F_Segment_deep := c.t.d.def_ 70 rfl
  F_Segment_fits_name := c.t.d.def_ 71 rfl
  F_Segment_told := c.t.d.def_ 72 rfl
  F_Segment___init__ := c.t.d.def_ 73 rfl
  F_Row___init__ := c.t.d.def_ 74 rfl
  F_Row_told := c.t.d.def_ 75 rfl
  F_Keeper___init__ := c.t.d.def_ 76 rfl
  F_Keeper_shunned_leaves := c.t.d.def_ 77 rfl
  F_Keeper_compared := c.t.d.def_ 78 rfl
  F_Keeper_put := c.t.d.def_ 79 rfl
  F_Keeper_take := c.t.d.def_ 80 rfl
  F_Keeper_rule := c.t.d.def_ 81 rfl
  F_Keeper_tree := c.t.d.def_ 82 rfl
  F_Keeper_lists := c.t.d.def_ 83 rfl
  F_Keeper_count := c.t.d.def_ 84 rfl
  F_Keeper_is_shunned := c.t.d.def_ 85 rfl
  F_Keeper_changed := c.t.d.def_ 86 rfl
  g__wall := He.glo_ok X G (c.t.d.fact 0 (f := .glo "_wall") rfl)
  g_is_sign := He.glo_ok X G (c.t.d.fact 1 (f := .glo "is_sign") rfl)
  g_spots_behind := He.glo_ok X G (c.t.d.fact 2 (f := .glo "spots_behind") rfl)
  g_names_of := He.glo_ok X G (c.t.d.fact 3 (f := .glo "names_of") rfl)
  g_folder_names := He.glo_ok X G (c.t.d.fact 4 (f := .glo "folder_names") rfl)
  g_placed := He.glo_ok X G (c.t.d.fact 5 (f := .glo "placed") rfl)
  g_gathered := He.glo_ok X G (c.t.d.fact 6 (f := .glo "gathered") rfl)
  g_with_deeps := He.glo_ok X G (c.t.d.fact 7 (f := .glo "with_deeps") rfl)
  g_fits := He.glo_ok X G (c.t.d.fact 8 (f := .glo "fits") rfl)
  g_last_fit := He.glo_ok X G (c.t.d.fact 9 (f := .glo "last_fit") rfl)
  g_told := He.glo_ok X G (c.t.d.fact 10 (f := .glo "told") rfl)
  g_paths_within := He.glo_ok X G (c.t.d.fact 11 (f := .glo "paths_within") rfl)
  g_paths_of := He.glo_ok X G (c.t.d.fact 12 (f := .glo "paths_of") rfl)
  g_copied := He.glo_ok X G (c.t.d.fact 13 (f := .glo "copied") rfl)
  g__law_cell := He.glo_ok X G (c.t.d.fact 14 (f := .glo "_law_cell") rfl)
  g__law_mixed := He.glo_ok X G (c.t.d.fact 15 (f := .glo "_law_mixed") rfl)
  g__law_signs := He.glo_ok X G (c.t.d.fact 16 (f := .glo "_law_signs") rfl)
  g__law_part := He.glo_ok X G (c.t.d.fact 17 (f := .glo "_law_part") rfl)
  g__law_segment := He.glo_ok X G (c.t.d.fact 18 (f := .glo "_law_segment") rfl)
  g__law_row := He.glo_ok X G (c.t.d.fact 19 (f := .glo "_law_row") rfl)
  g__law_rows := He.glo_ok X G (c.t.d.fact 20 (f := .glo "_law_rows") rfl)
  g__law_part_made := He.glo_ok X G (c.t.d.fact 21 (f := .glo "_law_part_made") rfl)
  g__law_row_made := He.glo_ok X G (c.t.d.fact 22 (f := .glo "_law_row_made") rfl)
  g__law_long_row := He.glo_ok X G (c.t.d.fact 23 (f := .glo "_law_long_row") rfl)
  g__law_with_long := He.glo_ok X G (c.t.d.fact 24 (f := .glo "_law_with_long") rfl)
  g__law_filled := He.glo_ok X G (c.t.d.fact 25 (f := .glo "_law_filled") rfl)
  g__law_names := He.glo_ok X G (c.t.d.fact 26 (f := .glo "_law_names") rfl)
  g__law_sign_fits := He.glo_ok X G (c.t.d.fact 27 (f := .glo "_law_sign_fits") rfl)
  g__law_good_behind := He.glo_ok X G (c.t.d.fact 28 (f := .glo "_law_good_behind") rfl)
  g__law_name_fits := He.glo_ok X G (c.t.d.fact 29 (f := .glo "_law_name_fits") rfl)
  g__law_fits := He.glo_ok X G (c.t.d.fact 30 (f := .glo "_law_fits") rfl)
  g__law_free := He.glo_ok X G (c.t.d.fact 31 (f := .glo "_law_free") rfl)
  g__law_put_in := He.glo_ok X G (c.t.d.fact 32 (f := .glo "_law_put_in") rfl)
  g__law_paths := He.glo_ok X G (c.t.d.fact 33 (f := .glo "_law_paths") rfl)
  g__law_cut := He.glo_ok X G (c.t.d.fact 34 (f := .glo "_law_cut") rfl)
  g__law_ranked := He.glo_ok X G (c.t.d.fact 35 (f := .glo "_law_ranked") rfl)
  g__law_decides := He.glo_ok X G (c.t.d.fact 36 (f := .glo "_law_decides") rfl)
  g__law_down_lists := He.glo_ok X G (c.t.d.fact 37 (f := .glo "_law_down_lists") rfl)
  g__law_leaves := He.glo_ok X G (c.t.d.fact 38 (f := .glo "_law_leaves") rfl)
  g__law_news := He.glo_ok X G (c.t.d.fact 39 (f := .glo "_law_news") rfl)
  g__law_gone := He.glo_ok X G (c.t.d.fact 40 (f := .glo "_law_gone") rfl)
  g__law_deed_names := He.glo_ok X G (c.t.d.fact 41 (f := .glo "_law_deed_names") rfl)
  g__law_refused := He.glo_ok X G (c.t.d.fact 42 (f := .glo "_law_refused") rfl)
  g__law_folders := He.glo_ok X G (c.t.d.fact 43 (f := .glo "_law_folders") rfl)
  g__law_none_refused := He.glo_ok X G (c.t.d.fact 44 (f := .glo "_law_none_refused") rfl)
  g__law_done := He.glo_ok X G (c.t.d.fact 45 (f := .glo "_law_done") rfl)
  g_law := He.glo_ok X G (c.t.d.fact 46 (f := .glo "law") rfl)
  g_ShunError := He.glo_ok X G (c.t.d.fact 47 (f := .glo "ShunError") rfl)
  k_ShunError := He.keep_ok (c.t.d.fact 48 (f := .keep "ShunError") rfl)
  x_ShunError := He.exc_ok (c.t.d.fact 49 (f := .exc "ShunError") rfl)
  g_NoPart := He.glo_ok X G (c.t.d.fact 50 (f := .glo "NoPart") rfl)
  k_NoPart := He.keep_ok (c.t.d.fact 51 (f := .keep "NoPart") rfl)
  x_NoPart := He.exc_ok (c.t.d.fact 52 (f := .exc "NoPart") rfl)
  g_NoPath := He.glo_ok X G (c.t.d.fact 53 (f := .glo "NoPath") rfl)
  k_NoPath := He.keep_ok (c.t.d.fact 54 (f := .keep "NoPath") rfl)
  x_NoPath := He.exc_ok (c.t.d.fact 55 (f := .exc "NoPath") rfl)
  g_NoFolder := He.glo_ok X G (c.t.d.fact 56 (f := .glo "NoFolder") rfl)
  k_NoFolder := He.keep_ok (c.t.d.fact 57 (f := .keep "NoFolder") rfl)
  x_NoFolder := He.exc_ok (c.t.d.fact 58 (f := .exc "NoFolder") rfl)
  g_NoLeaf := He.glo_ok X G (c.t.d.fact 59 (f := .glo "NoLeaf") rfl)
  k_NoLeaf := He.keep_ok (c.t.d.fact 60 (f := .keep "NoLeaf") rfl)
  x_NoLeaf := He.exc_ok (c.t.d.fact 61 (f := .exc "NoLeaf") rfl)
  g_Part := He.glo_ok X G (c.t.d.fact 62 (f := .glo "Part") rfl)
  k_Part := He.keep_ok (c.t.d.fact 63 (f := .keep "Part") rfl)
  c_Part := He.cls_ok (c.t.d.fact 64 (f := .cls "Part") rfl)
  m_Part_fits := He.meth_ok (c.t.d.fact 65 (f := .meth "Part" "fits") rfl)
  m_Part_many := He.meth_ok (c.t.d.fact 66 (f := .meth "Part" "many") rfl)
  m_Part_told := He.meth_ok (c.t.d.fact 67 (f := .meth "Part" "told") rfl)
  g_Any := He.glo_ok X G (c.t.d.fact 68 (f := .glo "Any") rfl)
  k_Any := He.keep_ok (c.t.d.fact 69 (f := .keep "Any") rfl)
  c_Any := He.cls_ok (c.t.d.fact 70 (f := .cls "Any") rfl)
  m_Any_fits := He.meth_ok (c.t.d.fact 71 (f := .meth "Any" "fits") rfl)
  m_Any_many := He.meth_ok (c.t.d.fact 72 (f := .meth "Any" "many") rfl)
  m_Any_told := He.meth_ok (c.t.d.fact 73 (f := .meth "Any" "told") rfl)
  g_One := He.glo_ok X G (c.t.d.fact 74 (f := .glo "One") rfl)
  k_One := He.keep_ok (c.t.d.fact 75 (f := .keep "One") rfl)
  c_One := He.cls_ok (c.t.d.fact 76 (f := .cls "One") rfl)
  n_One_sign := He.noat_ok (c.t.d.fact 77 (f := .noat "One" "sign") rfl)
  m_One_fits := He.meth_ok (c.t.d.fact 78 (f := .meth "One" "fits") rfl)
  m_One_many := He.meth_ok (c.t.d.fact 79 (f := .meth "One" "many") rfl)
  m_One_told := He.meth_ok (c.t.d.fact 80 (f := .meth "One" "told") rfl)
  m_One___init__ := He.meth_ok (c.t.d.fact 81 (f := .meth "One" "__init__") rfl)
  mk_One := He.mkr_ok (c.t.d.fact 82 (f := .mkr "One") rfl)
  g_Among := He.glo_ok X G (c.t.d.fact 83 (f := .glo "Among") rfl)
  k_Among := He.keep_ok (c.t.d.fact 84 (f := .keep "Among") rfl)
  c_Among := He.cls_ok (c.t.d.fact 85 (f := .cls "Among") rfl)
  n_Among_signs := He.noat_ok (c.t.d.fact 86 (f := .noat "Among" "signs") rfl)
  n_Among_outside := He.noat_ok (c.t.d.fact 87 (f := .noat "Among" "outside") rfl)
  m_Among_fits := He.meth_ok (c.t.d.fact 88 (f := .meth "Among" "fits") rfl)
  m_Among_many := He.meth_ok (c.t.d.fact 89 (f := .meth "Among" "many") rfl)
  m_Among_told := He.meth_ok (c.t.d.fact 90 (f := .meth "Among" "told") rfl)
  m_Among___init__ := He.meth_ok (c.t.d.fact 91 (f := .meth "Among" "__init__") rfl)
  mk_Among := He.mkr_ok (c.t.d.fact 92 (f := .mkr "Among") rfl)
  g_Stars := He.glo_ok X G (c.t.d.fact 93 (f := .glo "Stars") rfl)
  k_Stars := He.keep_ok (c.t.d.fact 94 (f := .keep "Stars") rfl)
  c_Stars := He.cls_ok (c.t.d.fact 95 (f := .cls "Stars") rfl)
  m_Stars_fits := He.meth_ok (c.t.d.fact 96 (f := .meth "Stars" "fits") rfl)
  m_Stars_many := He.meth_ok (c.t.d.fact 97 (f := .meth "Stars" "many") rfl)
  m_Stars_told := He.meth_ok (c.t.d.fact 98 (f := .meth "Stars" "told") rfl)
  g_Step := He.glo_ok X G (c.t.d.fact 99 (f := .glo "Step") rfl)
  k_Step := He.keep_ok (c.t.d.fact 100 (f := .keep "Step") rfl)
  c_Step := He.cls_ok (c.t.d.fact 101 (f := .cls "Step") rfl)
  m_Step_deep := He.meth_ok (c.t.d.fact 102 (f := .meth "Step" "deep") rfl)
  m_Step_fits_name := He.meth_ok (c.t.d.fact 103 (f := .meth "Step" "fits_name") rfl)
  m_Step_told := He.meth_ok (c.t.d.fact 104 (f := .meth "Step" "told") rfl)
  g_Deep := He.glo_ok X G (c.t.d.fact 105 (f := .glo "Deep") rfl)
  k_Deep := He.keep_ok (c.t.d.fact 106 (f := .keep "Deep") rfl)
  c_Deep := He.cls_ok (c.t.d.fact 107 (f := .cls "Deep") rfl)
  m_Deep_deep := He.meth_ok (c.t.d.fact 108 (f := .meth "Deep" "deep") rfl)
  m_Deep_fits_name := He.meth_ok (c.t.d.fact 109 (f := .meth "Deep" "fits_name") rfl)
  m_Deep_told := He.meth_ok (c.t.d.fact 110 (f := .meth "Deep" "told") rfl)
  g_Segment := He.glo_ok X G (c.t.d.fact 111 (f := .glo "Segment") rfl)
  k_Segment := He.keep_ok (c.t.d.fact 112 (f := .keep "Segment") rfl)
  c_Segment := He.cls_ok (c.t.d.fact 113 (f := .cls "Segment") rfl)
  n_Segment_parts := He.noat_ok (c.t.d.fact 114 (f := .noat "Segment" "parts") rfl)
  m_Segment_deep := He.meth_ok (c.t.d.fact 115 (f := .meth "Segment" "deep") rfl)
  m_Segment_fits_name := He.meth_ok (c.t.d.fact 116 (f := .meth "Segment" "fits_name") rfl)
  m_Segment_told := He.meth_ok (c.t.d.fact 117 (f := .meth "Segment" "told") rfl)
  m_Segment___init__ := He.meth_ok (c.t.d.fact 118 (f := .meth "Segment" "__init__") rfl)
  mk_Segment := He.mkr_ok (c.t.d.fact 119 (f := .mkr "Segment") rfl)
  g_Row := He.glo_ok X G (c.t.d.fact 120 (f := .glo "Row") rfl)
  k_Row := He.keep_ok (c.t.d.fact 121 (f := .keep "Row") rfl)
  c_Row := He.cls_ok (c.t.d.fact 122 (f := .cls "Row") rfl)
  n_Row_steps := He.noat_ok (c.t.d.fact 123 (f := .noat "Row" "steps") rfl)
  n_Row_spares := He.noat_ok (c.t.d.fact 124 (f := .noat "Row" "spares") rfl)
  n_Row_folders := He.noat_ok (c.t.d.fact 125 (f := .noat "Row" "folders") rfl)
  m_Row___init__ := He.meth_ok (c.t.d.fact 126 (f := .meth "Row" "__init__") rfl)
  m_Row_told := He.meth_ok (c.t.d.fact 127 (f := .meth "Row" "told") rfl)
  mk_Row := He.mkr_ok (c.t.d.fact 128 (f := .mkr "Row") rfl)
  g_Keeper := He.glo_ok X G (c.t.d.fact 129 (f := .glo "Keeper") rfl)
  k_Keeper := He.keep_ok (c.t.d.fact 130 (f := .keep "Keeper") rfl)
  c_Keeper := He.cls_ok (c.t.d.fact 131 (f := .cls "Keeper") rfl)
  n_Keeper_root := He.noat_ok (c.t.d.fact 132 (f := .noat "Keeper" "root") rfl)
  n_Keeper_rulings := He.noat_ok (c.t.d.fact 133 (f := .noat "Keeper" "rulings") rfl)
  n_Keeper_news := He.noat_ok (c.t.d.fact 134 (f := .noat "Keeper" "news") rfl)
  m_Keeper___init__ := He.meth_ok (c.t.d.fact 135 (f := .meth "Keeper" "__init__") rfl)
  m_Keeper_shunned_leaves := He.meth_ok (c.t.d.fact 136 (f := .meth "Keeper" "shunned_leaves") rfl)
  m_Keeper_compared := He.meth_ok (c.t.d.fact 137 (f := .meth "Keeper" "compared") rfl)
  m_Keeper_put := He.meth_ok (c.t.d.fact 138 (f := .meth "Keeper" "put") rfl)
  m_Keeper_take := He.meth_ok (c.t.d.fact 139 (f := .meth "Keeper" "take") rfl)
  m_Keeper_rule := He.meth_ok (c.t.d.fact 140 (f := .meth "Keeper" "rule") rfl)
  m_Keeper_tree := He.meth_ok (c.t.d.fact 141 (f := .meth "Keeper" "tree") rfl)
  m_Keeper_lists := He.meth_ok (c.t.d.fact 142 (f := .meth "Keeper" "lists") rfl)
  m_Keeper_count := He.meth_ok (c.t.d.fact 143 (f := .meth "Keeper" "count") rfl)
  m_Keeper_is_shunned := He.meth_ok (c.t.d.fact 144 (f := .meth "Keeper" "is_shunned") rfl)
  m_Keeper_changed := He.meth_ok (c.t.d.fact 145 (f := .meth "Keeper" "changed") rfl)
  mk_Keeper := He.mkr_ok (c.t.d.fact 146 (f := .mkr "Keeper") rfl)
  s_SIGNS := He.str_ok X G (c.t.d.fact 147 (f := .str "SIGNS" "-.0123456789_abcdefghijklmnopqrstuvwxyz") rfl)
  fr_len := He.free_ok X G (c.t.d.fact 148 (f := .free "len") rfl)
  fr_range := He.free_ok X G (c.t.d.fact 149 (f := .free "range") rfl)
  fr_all := He.free_ok X G (c.t.d.fact 150 (f := .free "all") rfl)
  fr_set := He.free_ok X G (c.t.d.fact 151 (f := .free "set") rfl)
  fr_sorted := He.free_ok X G (c.t.d.fact 152 (f := .free "sorted") rfl)
  fr_list := He.free_ok X G (c.t.d.fact 153 (f := .free "list") rfl)
  fr_tuple := He.free_ok X G (c.t.d.fact 154 (f := .free "tuple") rfl)
  fr_dict := He.free_ok X G (c.t.d.fact 155 (f := .free "dict") rfl)
  fr_isinstance := He.free_ok X G (c.t.d.fact 156 (f := .free "isinstance") rfl)
  fr_int := He.free_ok X G (c.t.d.fact 157 (f := .free "int") rfl)
  fr_enumerate := He.free_ok X G (c.t.d.fact 158 (f := .free "enumerate") rfl)
  fr_reversed := He.free_ok X G (c.t.d.fact 159 (f := .free "reversed") rfl)
  fr_max := He.free_ok X G (c.t.d.fact 160 (f := .free "max") rfl)
  fr_min := He.free_ok X G (c.t.d.fact 161 (f := .free "min") rfl)
  kx := HD.kx_ok c.more
  mn_Part := HD.mkn_ok c.more (by decide)
  mn_Any := HD.mkn_ok c.more (by decide)
  mn_Stars := HD.mkn_ok c.more (by decide)
  mn_Step := HD.mkn_ok c.more (by decide)
  mn_Deep := HD.mkn_ok c.more (by decide)
end SL
open PySem PySem.W PySem.Calls PyProof.Rows
theorem PySem.Challenge.cw_shunlist_k93_changed_holds : PySem.Challenge.rw_shunlist_k93_changed.Holds := by
  w_on; o_law
  refine HandSHeadRun.head_any (r := (PySem.W.OpenLaw.row PySem.Challenge.rw_shunlist_k93_changed)) (q := view (PySem.W.OpenLaw.row PySem.Challenge.rw_shunlist_k93_changed).prog [71]) (H := HD.hk) (ob := HD.ob) (M := 6000) (loose := HD.loose) (d := HandSHeadRun.topDef (PySem.W.OpenLaw.row PySem.Challenge.rw_shunlist_k93_changed).prog 71) (kwd := []) HD.ob_eq
    (by kernel_rfl) (fun s => by kernel_rfl) HD.run (by kernel_rfl) (by kernel_rfl) (by kernel_rfl) (by rfl) (by first | assumption | decide +kernel) (by decide +kernel) ⟨rfl, rfl, rfl, rfl, rfl, by decide +kernel⟩ ?hw ?hc
  case hw => w_witness2
  case hc =>
    refine LamX.walk_ofTsE (l := PySem.Challenge.rw_shunlist_k93_changed) (n := 63) (k := 19) (x := "_law_script") (CX := fun w => L2.CX (PySem.Challenge.rw_shunlist_k93_changed).prog w) rfl (by decide) (by kernel_rfl) ⟨rfl, by decide, by decide⟩ ?F (fun _ _ _ _ _ ⟨_, _, _, _, _, _, _, _, _, _, _, _, z⟩ => z)
    intro w mg fa h Y G hmg0
    obtain ⟨K, KX, c⟩ := Y
    have T := SL.txt_of KX G c
    have hmg : mg ("law" : PySem.Str) = some (.ref fa) := by
      have e : (HandSHeadRun.topDef (PySem.W.OpenLaw.row PySem.Challenge.rw_shunlist_k93_changed).prog 71).name = ("law" : PySem.Str) := by kernel_rfl
      rw [← e]
      exact hmg0
    have e := hmg.symm.trans T.g_law
    cases e
    obtain ⟨fd, F⟩ := T.F_law
    have b := L2.FunD.bindsA (ps := ["_law_script"]) F fun _ _ _ _ _ _ us hl => match us, hl with | [_], _ => rfl
    exact ⟨K, KX, fd, [], SL.spLaw K, (fun _ h => nomatch h), (fun _ h => nomatch h), (fun _ h => nomatch h), fun s v => b s [v] rfl, fun H a ns hl hb _ hS => SL.law_sp hS hl hb, fun base _ _ _ => F.ok SL.sc_law (fun vs H Q E h => SL.law_len h) (SL.bd_law T)⟩
