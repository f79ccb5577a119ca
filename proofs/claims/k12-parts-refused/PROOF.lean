import PyProof.Rows.All
import Wide.All
import OpenK.AllK
import Wide.FinOn
import KE.KStateDown
import HandS.Base
import HandS.Call
import HandS.List
import HandS.Comp
import HandS.Dict
import HandS.Iter
import HandS.Text
import HandS.Ends
import HandS.More
import HandS.Words
import HandS.WordsExc
import HandS.Defaults
import HandS.MakeKw
import HandS.Exc
import HandS.ExcOwn
import HandS.TryOnly
import HandS.Deep
import HandS.TupAny
import HandS.Head0
import HandS.Head1
import HandS.Head2
import HandS.HeadHook1
import HandS.HeadHook2
import HandS.HeadHook3
import HandS.HeadHook4
import HandS.HeadWalk
import HandS.Flow
import HandS.Style
import HandS.Wide
import HandS.MakeKw
import HandS.Steps
import HandS.Strs
import HandS.IsInst
import HandS.Zip
import HandS.SetKeys
import HandS.Set
import HandS.WordsDict
import HandS.WordsList
import HandS.Walk
import HandS.Iter
import PyProof.Draws
import PyProof.EnumMake
import HandS.Conv
import HandS.RevRange
import HandS.SetFor
import HandS.Strs
import HandS.Zip
import HandS.SortInts
import HandS.Codes
import HandS.TupSets
import HandS.ExcValue
import HandS.ExcIs
import HandS.HeadHook1
import PyProof.StrOps2
import HandS.CallSlots
import HandS.ExcOwn
import PySem.Challenge.RW_shunlist_k12_parts_refused
set_option Elab.async false
set_option linter.all false
set_option maxRecDepth 100000
set_option maxHeartbeats 4000000

/-! the layer of this proof: calls by promise, readings -/
namespace SL
open PySem PySem.Spec PyProof.Rows L2
/-- a def keeps the promise sp at level k; dvs: its last defaults, filled in -/
def OkD (P : Program) (w : World) (K : PySem.W.Frag) (mg : Str → Option Value) (base : Heap) (k : Nat) (f : Addr) (ps : List Str) (dvs : List V) (sp : Sp) : Prop :=
  ∃ (fd : FuncData) (ds : List Value), FnOk P w K mg base (L2.CX P w) k f fd ps sp ∧ Binds K fd ps ds ∧ Vals dvs ds ∧ PySem.W.keepIn K (.ref f) = true
/-- what the top tells of an error's class -/
def ExcK (K : PySem.W.Frag) (C : Addr) : Prop := PySem.W.excIn K C He.veBase "ValueError.__new__" = true ∧ PySem.W.keepIn K (.ref C) = true ∧ PySem.W.subIn K (.ref C) (.type "BaseException") = some true ∧ PySem.W.typeIn K (.ref C) = some (.type "type")
section
variable {P : Program} {w : World} {K : PySem.W.Frag} {mg : Str → Option Value} {base : Heap} {f : Addr} {name qual : Str} {params : Arguments} {body : List Stmt} {scope : Scope} {dvs : List V} {N ps : List Str} {k : Nat} {sp : Sp}
/-- the body's question of a def -/
abbrev BodyQ (P : Program) (w : World) (K : PySem.W.Frag) (mg : Str → Option Value) (base : Heap) (k : Nat) (f : Addr) (qual : Str) (body : List Stmt) (scope : Scope) (N : List Str) (sp : Sp) : Prop :=
  ∀ (cdv : Value) (A : Around) (outer : List Env) (s : Shared) (H : Hp) (vs : List V) (Q : VK) (E : XK), Room k (A.deeper (envOfC qual scope s.heap.objs.size f cdv)) → sp vs H Q E →
      ∃ t, PSs (cxOf (L2.CX P w) P w K mg base N qual scope f cdv A outer s H E) body t ∧ t { nx := fun _ H' => Q .non H', rt := Q } (start N vs) H
theorem okD (F : ∃ fd, FunD K name qual params body scope [] [] f fd) (S : FnScope N ps scope)
    (hb : ∀ (kV doc pm : Value) (an : Option Addr) (cdv ct : Value) (us : List Value), us.length = ps.length → bindArgs (PySem.W.fnOf name qual params body scope .none kV doc pm an cdv ct) ⟨us, []⟩ = pure (ps.zip us))
    (len : ∀ vs H Q E, sp vs H Q E → vs.length = ps.length) (h : BodyQ P w K mg base k f qual body scope N sp) : OkD P w K mg base (k + 1) f ps [] sp := by
  obtain ⟨fd, F⟩ := F
  exact ⟨fd, [], F.ok S len h, F.bindsN hb, .nil, F.kp⟩
/-- a def with defaults, called with all but the last dvs.drop j -/
theorem okDd (F : ∃ fd, FunD K name qual params body scope dvs [] f fd) (S : FnScope N ps scope) (n j : Nat) (hd : dvs ≠ []) (hn : n + (dvs.length - j) = ps.length)
    (hb : ∀ (T : Addr) (kV doc pm : Value) (an : Option Addr) (cdv ct : Value) (us its : List Value), us.length = n → its.length = dvs.length →
      ∃ k, bindArgs (PySem.W.fnOf name qual params body scope (.ref T) kV doc pm an cdv ct) ⟨us, []⟩ = seqItems? (.ref T) >>= k ∧ k (some its.toArray) = pure (ps.zip (us ++ its.drop j)))
    (len : ∀ vs H Q E, sp vs H Q E → vs.length = ps.length) (h : BodyQ P w K mg base k f qual body scope N sp) : OkD P w K mg base (k + 1) f ps (dvs.drop j) sp := by
  obtain ⟨fd, F⟩ := F
  obtain ⟨ds, h1, h2⟩ := F.binds1 n j hd hn hb
  exact ⟨fd, ds, F.ok S len h, h2, h1, F.kp⟩
end
section
variable {X : Cx} {k : Nat} {f : Addr} {ps : List Str} {dvs : List V} {sp : Sp} {E : XK} {x : Str} {p pos : Pos} {e : Expr} {es : List Expr} {t : TA}
theorem pe_cal (o : OkD X.prog X.w X.K X.mg X.base k f ps dvs sp) (hr : Room k X.A) (hg : Gl X x) (hm : X.mg x = some (.ref f)) (hx : Passes (L2.CX X.prog X.w) X E)
    (ha : PA X (e :: es) t) (hdb : (x == ("__debug__" : Str)) = false := by decide) (he : starEach (e :: es) X.env = (false, eval e X.env) :: starEach es X.env := by rfl) (hpl : (backTo pos (starEach es X.env)).any (·.1) = false := by rfl) :
    PE X (.Call (.Name x p) (e :: es) [] pos) (tCall sp dvs E t) := by
  obtain ⟨fd, ds, F, hb, hd, hk⟩ := o
  exact pe_call F hr hg hm hk hb hd hx ha hdb he hpl
/-- a module's text, a module's number -/
theorem pe_gstr {z : Str} (hg : Gl X x) (hm : ∃ t, X.mg x = some (.str z t)) (hd : (x == ("__debug__" : Str)) = false := by decide) : PE X (.Name x pos) (tC (.str z)) := by
  obtain ⟨t, hm⟩ := hm
  exact pe_glob hg hm ⟨t, rfl⟩ hd
theorem pe_gint {z : Int} (hg : Gl X x) (hm : ∃ t, X.mg x = some (.int z t)) (hd : (x == ("__debug__" : Str)) = false := by decide) : PE X (.Name x pos) (tC (.int z)) := by
  obtain ⟨t, hm⟩ := hm
  exact pe_glob hg hm ⟨t, rfl⟩ hd
/-- no error leaves the callee -/
theorem pasN : Passes (L2.CX X.prog X.w) X (fun _ _ _ => False) := fun _ _ _ _ _ _ _ ⟨_, _, _, _, _, _, _, _, _, _, _, _, h⟩ => h.elim
/-- an error of a callee leaves here, too -/
theorem pasE {W : WX} (tk : Takes X W) {E : XK} (h : ∀ c d σ H, E c d H → W c d σ H) : Passes (L2.CX X.prog X.w) X E := fun pins σ H s e s' I c => passes_call tk h pins σ H s e s' I c
end
end SL

namespace SL
open PySem PySem.Spec PyProof.Rows L2
section
variable {X : Cx} {k : Nat} {f C : Addr} {ps : List Str} {dvs : List V} {sp : Sp} {E : XK} {x m : Str} {p pos apos : Pos} {o e : Expr} {es : List Expr} {ta : TE} {t : TA}
/-- o.m(..), the class told by what stands there: i says it -/
def tMeI {ι : Type} (D : ι → V → Hp → Prop) (spI : ι → Sp) (E : XK) (ta : TE) (t : TA) : TE := fun σ H Q => ta σ H fun x H1 => ∃ i, D i x H1 ∧ t σ H1 fun vs H2 => spI i (x :: vs) H2 Q E
/-- what a value must be for a method m of promise spI i -/
def MetD {ι : Type} (X : Cx) (k : Nat) (m : Str) (D : ι → V → Hp → Prop) (spI : ι → Sp) : Prop :=
  ∀ i x H, D i x H → ∃ a C dx fs g ps, x = .ref a ∧ H a = some (.ins C dx fs) ∧ Cls X.K C ∧ Meth X.K C m g ∧ fs.lookup m = none ∧ OkD X.prog X.w X.K X.mg X.base k g ps [] (spI i)
theorem pe_metI {ι : Type} {D : ι → V → Hp → Prop} {spI : ι → Sp} {pl : Sem Bool} (hD : MetD X k m D spI) (he : PE X o ta) (hr : Room k X.A) (hx : Passes (L2.CX X.prog X.w) X E) (ha : PA X (e :: es) t)
    (hst : starEach (e :: es) X.env = (false, eval e X.env) :: starEach es X.env := by rfl) (hpl : (backTo pos (starEach es X.env)).any (·.1) = false := by rfl)
    (ht : eval (.Call (.Attribute o m apos) (e :: es) [] pos) X.env = (do
      let ov ← eval o X.env
      standAt apos.atName
      let (f, first) ← holding [ov] (getMethod ov m pl)
      callWith pos f first (backTo pos (starEach (e :: es) X.env)) (backToKw pos (keywordEach [] X.env))) := by rfl) :
    PE X (.Call (.Attribute o m apos) (e :: es) [] pos) (tMeI D spI E ta t) := by
  refine ⟨fun pins s σ H Q I h => ?_⟩
  refine PySem.W.methodCall_KW (pl := pl) (thn (he.run pins s σ H _ I h) fun u s1 ⟨x, H1, I1, rx, i, hi, q⟩ => ?_) ht
  obtain ⟨a, C, dx, fs, g, ps, rfl, ea, c, hm, l, fd, ds, F, hb, hd, hk⟩ := hD i x H1 hi
  obtain rfl : u = Value.ref a := rx
  cases hd
  refine getmeth_ok I1 ea c hm l (PySem.W.callWith_K (first := [.ref a]) (h₀ := X.base) I.ok.mod.kin hm.kp (thn (ha.run pos pins s1 σ H1 _ I1 q) fun us s2 ⟨vs, H2, I2, r, q2⟩ => ⟨I2.kIn, ?_⟩) hst hpl)
  have q3 : spI i (.ref a :: vs ++ []) H2 Q E := by rw [List.append_nil]; exact q2
  exact run_fn (us := .ref a :: us) (vs := .ref a :: vs) F hr hb .nil hx I2 (.cons rfl r) q3
theorem pe_metI0 {ι : Type} {D : ι → V → Hp → Prop} {spI : ι → Sp} {pl : Sem Bool} (hD : MetD X k m D spI) (he : PE X o ta) (hr : Room k X.A) (hx : Passes (L2.CX X.prog X.w) X E)
    (ht : eval (.Call (.Attribute o m apos) [] [] pos) X.env = (do
      let ov ← eval o X.env
      standAt apos.atName
      let (f, first) ← holding [ov] (getMethod ov m pl)
      callWith pos f first (backTo pos (starEach [] X.env)) (backToKw pos (keywordEach [] X.env))) := by rfl) :
    PE X (.Call (.Attribute o m apos) [] [] pos) (tMeI D spI E ta tNil) := by
  refine ⟨fun pins s σ H Q I h => ?_⟩
  refine PySem.W.methodCall_KW (pl := pl) (thn (he.run pins s σ H _ I h) fun u s1 ⟨x, H1, I1, rx, i, hi, q⟩ => ?_) ht
  obtain ⟨a, C, dx, fs, g, ps, rfl, ea, c, hm, l, fd, ds, F, hb, hd, hk⟩ := hD i x H1 hi
  obtain rfl : u = Value.ref a := rx
  cases hd
  refine getmeth_ok I1 ea c hm l (PySem.W.callWith_K0 (first := [.ref a]) I1.kIn hm.kp ?_)
  exact run_fn (us := [.ref a]) (vs := [.ref a]) F hr hb .nil hx I1 (.cons rfl .nil) q
/-- C(e, ..) by its __init__ -/
theorem pe_mak (M : Mk X.K C f) (o : OkD X.prog X.w X.K X.mg X.base k f ps dvs sp) (hr : Room (k + 1) X.A) (hg : Gl X x) (hm : X.mg x = some (.ref C)) (hx : Passes (L2.CX X.prog X.w) X E)
    (ha : PA X (e :: es) t) (hdb : (x == ("__debug__" : Str)) = false := by decide) (he : starEach (e :: es) X.env = (false, eval e X.env) :: starEach es X.env := by rfl) (hpl : (backTo pos (starEach es X.env)).any (·.1) = false := by rfl) :
    PE X (.Call (.Name x p) (e :: es) [] pos) (tMake C sp dvs E t) := by
  obtain ⟨fd, ds, F, hb, hd, _⟩ := o
  exact pe_make M F hr hg hm hb hd hx ha hdb he hpl
theorem pe_mak0 (M : Mk X.K C f) (o : OkD X.prog X.w X.K X.mg X.base k f ps dvs sp) (hr : Room (k + 1) X.A) (hg : Gl X x) (hm : X.mg x = some (.ref C)) (hx : Passes (L2.CX X.prog X.w) X E)
    (hdb : (x == ("__debug__" : Str)) = false := by decide) : PE X (.Call (.Name x p) [] [] pos) (tMake C sp dvs E tNil) := by
  obtain ⟨fd, ds, F, hb, hd, _⟩ := o
  exact pe_make0 M F hr hg hm hb hd hx hdb
/-- C() of a class that has no __init__ of its own -/
structure MkN (K : PySem.W.Frag) (C : Addr) : Prop where
  makes : PySem.W.makesIn K C = true
  init : PySem.W.findIn K (.ref C) "__init__" = some (some (.builtin "object.__init__"))
  kp : PySem.W.keepIn K (.ref C) = true
def tMakN (C : Addr) : TE := fun _ H Q => ∀ x dx, H x = none → H dx = none → dx ≠ x → Q (.ref x) (upd (upd H dx (.own x)) x (.ins C dx []))
theorem pe_makN (M : MkN X.K C) (hg : Gl X x) (hm : X.mg x = some (.ref C)) (hdb : (x == ("__debug__" : Str)) = false := by decide) : PE X (.Call (.Name x p) [] [] pos) (tMakN C) := by
  refine ⟨fun pins s σ H Q I h => ?_⟩
  refine wpAny_Call_Name_kw (ld_glob I hg hm ?_ hdb)
  refine PySem.W.callWith_K0 I.kIn M.kp (wpAny_call ?_)
  have I2 := Inv.made (C := C) I
  have hq := h (s.heap.objs.size + 1) s.heap.objs.size (I.hok.fresh (Nat.le_succ _)) (I.hok.fresh (Nat.le_refl _)) (Nat.ne_of_lt (Nat.lt_succ_self _))
  refine make_map0 I.kIn M.makes M.init (fun self => PySem.W.Looks.of_pure (PySem.W.oi_bind self)) ?_
  have Y := PySem.W.makes_of (M := model X.prog X.w) I.kIn M.makes
  have hx : ((s.heap.push PySem.W.emptyDict).push (PySem.W.instObj C s.heap.objs.size)).get? (s.heap.objs.size + 1) = some (PySem.W.instObj C s.heap.objs.size) := by
    have e := Heap.get?_push_size (s.heap.push PySem.W.emptyDict) (show (PySem.W.instObj C s.heap.objs.size).isFreed = false from rfl)
    rw [Heap.size_push] at e
    exact e
  have t1 : PySem.W.Looks (model X.prog X.w) ((s.heap.push PySem.W.emptyDict).push (PySem.W.instObj C s.heap.objs.size)) (isInstance (.ref (s.heap.objs.size + 1)) (.type "object")) true :=
    ((PySem.W.Looks.ld hx).andThen .now).andThen (Y.top.keeps fun b o e => Heap.get?_push_of_some _ (Heap.get?_push_of_some _ e))
  refine codeAny_call_builtin PySem.W.oi_plain PySem.W.entry_oi (@PySem.W.check_slot (model X.prog X.w) _ _ _ "object.__init__" "object" "__init__" (.ref (s.heap.objs.size + 1)) [] [] _ PySem.W.oi_kind PySem.W.oi_split t1 (PySem.W.oi_args (.ref (s.heap.objs.size + 1))) ?_)
  rw [PySem.W.oi_run]
  exact wpAny_pure ⟨rfl, .ref (s.heap.objs.size + 1), _, I2, rfl, hq⟩
end
/-- a def that keeps sp, called with n values and the keywords ks, in the order of its parameters -/
def OkK (P : Program) (w : World) (K : PySem.W.Frag) (mg : Str → Option Value) (base : Heap) (k : Nat) (f : Addr) (ps : List Str) (n : Nat) (ks : List Str) (sp : Sp) : Prop :=
  ∃ (fd : FuncData) (g : List Value → List Value → List Value) (gV : List V → List V → List V), FnOk P w K mg base (L2.CX P w) k f fd ps sp ∧ KBn K fd ps n ks g gV ∧ ∀ vs zs, gV vs zs = vs ++ zs
theorem okK {P : Program} {w : World} {K : PySem.W.Frag} {mg : Str → Option Value} {base : Heap} {f : Addr} {name qual : Str} {params : Arguments} {body : List Stmt} {scope : Scope} {dvs : List V} {N ps : List Str} {k : Nat} {sp : Sp}
    (F : ∃ fd, FunD K name qual params body scope dvs [] f fd) (S : FnScope N ps scope) (n : Nat) (ks : List Str) (hd : dvs ≠ [])
    (hb : ∀ (T : Addr) (kV doc pm : Value) (an : Option Addr) (cdv ct : Value) (us its ws : List Value), us.length = n → its.length = dvs.length → ws.length = ks.length →
      ∃ k, bindArgs (PySem.W.fnOf name qual params body scope (.ref T) kV doc pm an cdv ct) ⟨us, ks.zip ws⟩ = seqItems? (.ref T) >>= k ∧ k (some its.toArray) = pure (ps.zip (us ++ ws)))
    (len : ∀ vs H Q E, sp vs H Q E → vs.length = ps.length) (h : BodyQ P w K mg base k f qual body scope N sp) : OkK P w K mg base (k + 1) f ps n ks sp := by
  obtain ⟨fd, F⟩ := F
  obtain ⟨its, hk⟩ := F.kbindsD n ks (fun us _ ws => us ++ ws) hd (fun a _ c => a.append c) hb
  exact ⟨fd, _, _, F.ok S len h, hk, fun _ _ => rfl⟩
def tMakK (C : Addr) (n m : Nat) (sp : Sp) (E : XK) (t tk : TA) : TE := fun σ H Q => t σ H fun vs H1 => tk σ H1 fun zs H2 => vs.length = n ∧ zs.length = m ∧
  ∀ x dx, H2 x = none → H2 dx = none → dx ≠ x → sp (.ref x :: (vs ++ zs)) (upd (upd H2 dx (.own x)) x (.ins C dx [])) (fun v H3 => v = .non ∧ Q (.ref x) H3) E
theorem pe_makK {X : Cx} {k n : Nat} {f C : Addr} {ps ks : List Str} {sp : Sp} {E : XK} {x : Str} {p pos : Pos} {e : Expr} {es : List Expr} {kws : List Keyword} {t tk : TA} (M : Mk X.K C f) (o : OkK X.prog X.w X.K X.mg X.base k f ps (n + 1) ks sp) (hr : Room (k + 1) X.A) (hg : Gl X x) (hm : X.mg x = some (.ref C)) (hx : Passes (L2.CX X.prog X.w) X E)
    (ha : PA X (e :: es) t) (hkw : PK X kws tk) (hall : (backToKw pos (keywordEach kws X.env)).all (·.1.isSome) = true := by rfl) (hks : (backToKw pos (keywordEach kws X.env)).filterMap (·.1) = ks := by rfl)
    (hdb : (x == ("__debug__" : Str)) = false := by decide) (he : starEach (e :: es) X.env = (false, eval e X.env) :: starEach es X.env := by rfl)
    (hpl : ((backTo pos (starEach (e :: es) X.env)).any (·.1) || (backToKw pos (keywordEach kws X.env)).any (·.1.isNone)) = false := by rfl) :
    PE X (.Call (.Name x p) (e :: es) kws pos) (tMakK C n ks.length sp E t tk) := by
  obtain ⟨fd, g, gV, F, hb, hgv⟩ := o
  refine ⟨fun pins s σ H Q I h => (pe_makeN M F hr hg hm hb hx ha hkw hall hks hdb he hpl).run pins s σ H Q I ?_⟩
  unfold tMakeN
  unfold tMakK at h
  simp only [hgv]
  exact h
/-- keywords turned about -/
def OkKr (P : Program) (w : World) (K : PySem.W.Frag) (mg : Str → Option Value) (base : Heap) (k : Nat) (f : Addr) (ps : List Str) (n : Nat) (ks : List Str) (sp : Sp) : Prop :=
  ∃ (fd : FuncData) (g : List Value → List Value → List Value) (gV : List V → List V → List V), FnOk P w K mg base (L2.CX P w) k f fd ps sp ∧ KBn K fd ps n ks g gV ∧ ∀ vs zs, gV vs zs = vs ++ zs.reverse
theorem okKr {P : Program} {w : World} {K : PySem.W.Frag} {mg : Str → Option Value} {base : Heap} {f : Addr} {name qual : Str} {params : Arguments} {body : List Stmt} {scope : Scope} {dvs : List V} {N ps : List Str} {k : Nat} {sp : Sp}
    (F : ∃ fd, FunD K name qual params body scope dvs [] f fd) (S : FnScope N ps scope) (n : Nat) (ks : List Str) (hd : dvs ≠ [])
    (hb : ∀ (T : Addr) (kV doc pm : Value) (an : Option Addr) (cdv ct : Value) (us its ws : List Value), us.length = n → its.length = dvs.length → ws.length = ks.length →
      ∃ k, bindArgs (PySem.W.fnOf name qual params body scope (.ref T) kV doc pm an cdv ct) ⟨us, ks.zip ws⟩ = seqItems? (.ref T) >>= k ∧ k (some its.toArray) = pure (ps.zip (us ++ ws.reverse)))
    (len : ∀ vs H Q E, sp vs H Q E → vs.length = ps.length) (h : BodyQ P w K mg base k f qual body scope N sp) : OkKr P w K mg base (k + 1) f ps n ks sp := by
  obtain ⟨fd, F⟩ := F
  obtain ⟨its, hk⟩ := F.kbindsD n ks (fun us _ ws => us ++ ws.reverse) hd (fun a _ c => a.append c.reverse) hb
  exact ⟨fd, _, _, F.ok S len h, hk, fun _ _ => rfl⟩
def tMakKr (C : Addr) (n m : Nat) (sp : Sp) (E : XK) (t tk : TA) : TE := fun σ H Q => t σ H fun vs H1 => tk σ H1 fun zs H2 => vs.length = n ∧ zs.length = m ∧
  ∀ x dx, H2 x = none → H2 dx = none → dx ≠ x → sp (.ref x :: (vs ++ zs.reverse)) (upd (upd H2 dx (.own x)) x (.ins C dx [])) (fun v H3 => v = .non ∧ Q (.ref x) H3) E
theorem pe_makKr {X : Cx} {k n : Nat} {f C : Addr} {ps ks : List Str} {sp : Sp} {E : XK} {x : Str} {p pos : Pos} {e : Expr} {es : List Expr} {kws : List Keyword} {t tk : TA} (M : Mk X.K C f) (o : OkKr X.prog X.w X.K X.mg X.base k f ps (n + 1) ks sp) (hr : Room (k + 1) X.A) (hg : Gl X x) (hm : X.mg x = some (.ref C)) (hx : Passes (L2.CX X.prog X.w) X E)
    (ha : PA X (e :: es) t) (hkw : PK X kws tk) (hall : (backToKw pos (keywordEach kws X.env)).all (·.1.isSome) = true := by rfl) (hks : (backToKw pos (keywordEach kws X.env)).filterMap (·.1) = ks := by rfl)
    (hdb : (x == ("__debug__" : Str)) = false := by decide) (he : starEach (e :: es) X.env = (false, eval e X.env) :: starEach es X.env := by rfl)
    (hpl : ((backTo pos (starEach (e :: es) X.env)).any (·.1) || (backToKw pos (keywordEach kws X.env)).any (·.1.isNone)) = false := by rfl) :
    PE X (.Call (.Name x p) (e :: es) kws pos) (tMakKr C n ks.length sp E t tk) := by
  obtain ⟨fd, g, gV, F, hb, hgv⟩ := o
  refine ⟨fun pins s σ H Q I h => (pe_makeN M F hr hg hm hb hx ha hkw hall hks hdb he hpl).run pins s σ H Q I ?_⟩
  unfold tMakeN
  unfold tMakKr at h
  simp only [hgv]
  exact h
end SL

namespace SL
open PySem PySem.Spec PyProof.Rows L2
theorem hu64 {k : Nat} {A : Around} (hr : Room k A) : A.units + 64 < cLine := hr.units
section
variable {X : Cx}
theorem OpR.imp {f : Value → Value → Sem Value} {r r' : R2} (h : OpR X f r) (i : ∀ x y H Q, r' x y H Q → r x y H Q) : OpR X f r' := fun pins s σ H x y v u Q I rx ry q => h pins s σ H x y v u Q I rx ry (i _ _ _ _ q)
theorem IxR.imp {r r' : R2} (h : IxR X r) (i : ∀ x y H Q, r' x y H Q → r x y H Q) : IxR X r' := fun value slice pins s σ H x y v u Q I rx ry q hs => h value slice pins s σ H x y v u Q I rx ry (i _ _ _ _ q) hs
theorem CallR.imp {f : Value} {r r' : List V → Hp → VK → Prop} (h : CallR X f r) (i : ∀ xs H Q, r' xs H Q → r xs H Q) : CallR X f r' := fun pins s σ H xs us Q I rx q => h pins s σ H xs us Q I rx (i _ _ _ q)
/-! ### + and * -/
def rAddU (K : PySem.W.Frag) : R2 := fun x y H Q => match x, y with
  | .int i, .int j => Q (.int (i + j)) H
  | .int i, .bl b => Q (.int (i + b2i b)) H
  | .str a, .str b => a.length + b.length ≤ sizeLine ∧ Q (.str (a ++ b)) H
  | .ref a, .ref b => rCat (.ref a) (.ref b) H Q ∨ rCatT K (.ref a) (.ref b) H Q
  | _, _ => False
theorem o_add {K : PySem.W.Frag} (hK : X.K = K := by rfl) : OpR X (binaryOp .Add) (rAddU K) := by
  subst hK
  refine OpR.imp (op_add.or (op_add_ib.or (op_add_str.or (op_cat.or op_catT)))) fun x y H Q h => ?_
  cases x <;> cases y <;> first
    | exact absurd h id
    | exact .inl ⟨_, _, rfl, rfl, h⟩
    | exact .inr (.inl ⟨_, _, rfl, rfl, h⟩)
    | exact .inr (.inr (.inl ⟨_, _, rfl, rfl, h.1, h.2⟩))
    | exact .inr (.inr (.inr h))
def rMulU : R2 := fun x y H Q => match x, y with
  | .int i, .int j => CMul i j ∧ Q (.int (i * j)) H
  | .ref a, .int j => rRep (.ref a) (.int j) H Q
  | _, _ => False
theorem o_mul : OpR X (binaryOp .Mult) rMulU := by
  refine OpR.imp (op_mul.or op_rep) fun x y H Q h => ?_
  cases x <;> cases y <;> first
    | exact absurd h id
    | exact .inl ⟨_, _, rfl, rfl, h.1, h.2⟩
    | exact .inr h
/-! ### comparisons -/
def isRef : V → Bool
  | .ref _ => true
  | _ => false
/-- lists of different lengths -/
def lenNe (K : PySem.W.Frag) (b : Bool) : R2 := fun x y H Q => ∃ p q xs ys, x = .ref p ∧ y = .ref q ∧ SqL K H p xs ∧ SqL K H q ys ∧ xs.length ≠ ys.length ∧ Q (.bl b) H
theorem op_eqLen (hu : X.A.units + 64 < cLine) : OpR X (compareOp .Eq) (lenNe X.K false) := by
  intro pins s σ H x y v u Q I rx ry h
  obtain ⟨p, q, xs, ys, rfl, rfl, h1, h2, hn, k⟩ := h
  cases rx
  cases ry
  obtain ⟨its, r, pl, _⟩ := I.list h1
  obtain ⟨its2, r2, pl2, _⟩ := I.list h2
  have e1 := r.length
  have e2 := r2.length
  exact SeqAt.RcAt.lists_lengths pl.isList pl2.isList (by simp; omega) (by omega) _ _ _ _ ⟨.bl _, H, I, rfl, k⟩
theorem op_neLen (hu : X.A.units + 64 < cLine) : OpR X (compareOp .NotEq) (lenNe X.K true) := by
  intro pins s σ H x y v u Q I rx ry h
  obtain ⟨p, q, xs, ys, rfl, rfl, h1, h2, hn, k⟩ := h
  cases rx
  cases ry
  obtain ⟨its, r, pl, _⟩ := I.list h1
  obtain ⟨its2, r2, pl2, _⟩ := I.list h2
  have e1 := r.length
  have e2 := r2.length
  exact SeqAt.RcNeAt.lists_lengths pl.isList pl2.isList (by simp; omega) (by omega) _ _ _ _ ⟨.bl _, H, I, rfl, k⟩
def rEqR (K : PySem.W.Frag) : R2 := fun x y H Q => rEqD K x y H Q ∨ lenNe K false x y H Q
def rNeR (K : PySem.W.Frag) : R2 := fun x y H Q => rNeD K x y H Q ∨ lenNe K true x y H Q
def rEqU (K : PySem.W.Frag) : R2 := fun x y H Q => match isRef x || isRef y with
  | true => rEqR K x y H Q
  | false => scal x y = true ∧ Q (.bl (decide (x = y))) H
def rNeU (K : PySem.W.Frag) : R2 := fun x y H Q => match isRef x || isRef y with
  | true => rNeR K x y H Q
  | false => scal x y = true ∧ Q (.bl (!decide (x = y))) H
theorem o_eq {K : PySem.W.Frag} (hu : X.A.units + 64 < cLine) (hK : X.K = K := by rfl) : OpR X (compareOp .Eq) (rEqU K) := by
  subst hK
  refine OpR.imp (op_eq.or ((op_eqD hu).or (op_eqLen hu))) fun x y H Q h => ?_
  unfold rEqU at h
  split at h
  · exact .inr h
  · exact .inl h
theorem o_ne {K : PySem.W.Frag} (hu : X.A.units + 64 < cLine) (hK : X.K = K := by rfl) : OpR X (compareOp .NotEq) (rNeU K) := by
  subst hK
  refine OpR.imp (op_ne.or ((op_neD hu).or (op_neLen hu))) fun x y H Q h => ?_
  unfold rNeU at h
  split at h
  · exact .inr h
  · exact .inl h
/-- a list against the empty list -/
theorem eq_nil {K : PySem.W.Frag} {p q : Addr} {xs : List V} {H : Hp} {Q : VK} (h1 : SqL K H p xs) (h2 : SqL K H q []) (k : Q (.bl (decide (xs = []))) H) : rEqR K (.ref p) (.ref q) H Q := by
  cases xs with
  | nil => exact .inl ⟨.list [], .list [], .lst h1 .nil, .lst h2 .nil, rfl, rfl, k⟩
  | cons x r => exact .inr ⟨p, q, _, _, rfl, rfl, h1, h2, by simp, k⟩
theorem ne_nil {K : PySem.W.Frag} {p q : Addr} {xs : List V} {H : Hp} {Q : VK} (h1 : SqL K H p xs) (h2 : SqL K H q []) (k : Q (.bl (!decide (xs = []))) H) : rNeR K (.ref p) (.ref q) H Q := by
  cases xs with
  | nil => exact .inl ⟨.list [], .list [], .lst h1 .nil, .lst h2 .nil, rfl, rfl, k⟩
  | cons x r => exact .inr ⟨p, q, _, _, rfl, rfl, h1, h2, by simp, k⟩
/-! ### is, of truths and None -/
theorem op_isB : OpR X (compareOp .Is) (fun x y H Q => ∃ a b, x = .bl a ∧ y = .bl b ∧ Q (.bl (a == b)) H) := by
  intro pins s σ H x y v u Q I rx ry h
  obtain ⟨a, b, rfl, rfl, q⟩ := h
  cases rx
  cases ry
  exact PyProof.Rows.is_bool ⟨.bl _, H, I, rfl, q⟩
theorem op_notB : OpR X (compareOp .IsNot) (fun x y H Q => ∃ a b, x = .bl a ∧ y = .bl b ∧ Q (.bl (!(a == b))) H) := by
  intro pins s σ H x y v u Q I rx ry h
  obtain ⟨a, b, rfl, rfl, q⟩ := h
  cases rx
  cases ry
  exact PyProof.Rows.isnot_bool ⟨.bl _, H, I, rfl, q⟩
def rIsBo : R2 := fun x y H Q => match x, y with
  | .bl a, .bl b => Q (.bl (a == b)) H
  | _, _ => False
def rNotBo : R2 := fun x y H Q => match x, y with
  | .bl a, .bl b => Q (.bl (!(a == b))) H
  | _, _ => False
theorem o_isb : OpR X (compareOp .Is) rIsBo := OpR.imp op_isB fun x y H Q h => match x, y, h with
  | .bl a, .bl b, q => ⟨a, b, rfl, rfl, q⟩
theorem o_notb : OpR X (compareOp .IsNot) rNotBo := OpR.imp op_notB fun x y H Q h => match x, y, h with
  | .bl a, .bl b, q => ⟨a, b, rfl, rfl, q⟩
/-! ### int of a number or a truth -/
def rIntU : List V → Hp → VK → Prop := fun xs H Q => match xs with
  | [.int i] => Q (.int i) H
  | [.bl k] => Q (.int (if k then 1 else 0)) H
  | _ => False
theorem o_int : CallR X (.type "int") rIntU := CallR.imp call_int1 fun xs H Q h => match xs, h with
  | [.int i], q => .inl ⟨i, rfl, q⟩
  | [.bl k], q => .inr ⟨k, rfl, q⟩
/-! ### x += y -/
def rIadd : TIp := fun x y H Q => match x, y with
  | .int i, .int j => Q (.int (i + j)) H
  | .ref a, .ref b => rExt2 (.ref a) (.ref b) H Q
  | _, _ => False
theorem o_iadd : PIp X .Add rIadd := fun pins s σ H x y v u Q I rx ry h => match x, y, h with
  | .int i, .int j, q => ip_add pins s σ H _ _ v u Q I rx ry ⟨i, j, rfl, rfl, q⟩
  | .ref a, .ref b, q => iop_ext pins s σ H _ _ v u Q I rx ry q
def rCmp (f : Int → Int → Bool) (g : List Nat → List Nat → Bool) : R2 := fun x y H Q => match x, y with
  | .int i, .int j => Q (.bl (f i j)) H
  | .str a, .str b => Q (.bl (g a.cps.toList b.cps.toList)) H
  | _, _ => False
theorem o_lt : OpR X (compareOp .Lt) (rCmp (fun i j => decide (i < j)) (fun a b => decide (a < b))) := by
  refine OpR.imp (op_lt.or op_lt_str) fun x y H Q h => ?_
  cases x <;> cases y <;> first
    | exact absurd h id
    | exact .inl ⟨_, _, rfl, rfl, h⟩
    | exact .inr ⟨_, _, rfl, rfl, h⟩
theorem o_le : OpR X (compareOp .LtE) (rCmp (fun i j => decide (i ≤ j)) (fun a b => !decide (b < a))) := by
  refine OpR.imp (op_le.or op_le_str) fun x y H Q h => ?_
  cases x <;> cases y <;> first
    | exact absurd h id
    | exact .inl ⟨_, _, rfl, rfl, h⟩
    | exact .inr ⟨_, _, rfl, rfl, h⟩
theorem o_gt : OpR X (compareOp .Gt) (rCmp (fun i j => decide (j < i)) (fun a b => decide (b < a))) := by
  refine OpR.imp (op_gt.or op_gt_str) fun x y H Q h => ?_
  cases x <;> cases y <;> first
    | exact absurd h id
    | exact .inl ⟨_, _, rfl, rfl, h⟩
    | exact .inr ⟨_, _, rfl, rfl, h⟩
theorem o_ge : OpR X (compareOp .GtE) (rCmp (fun i j => decide (j ≤ i)) (fun a b => !decide (a < b))) := by
  refine OpR.imp (op_ge.or op_ge_str) fun x y H Q h => ?_
  cases x <;> cases y <;> first
    | exact absurd h id
    | exact .inl ⟨_, _, rfl, rfl, h⟩
    | exact .inr ⟨_, _, rfl, rfl, h⟩
/-- in: a sign in a text, a text in a text, data in a list of data, a flat thing in a list or a tuple -/
def rInU (K : PySem.W.Frag) : R2 := fun x y H Q => match x, y with
  | .str a, .str b => (∃ c, a = ⟨#[c]⟩ ∧ Q (.bl (decide (c ∈ b.cps.toList))) H) ∨ Q (.bl (!(Builtin.Str.occurrences b a 0 b.length 1).isEmpty)) H
  | .ref a, .ref b => rInD K (.ref a) (.ref b) H Q
  | x, .ref b => rIn K false x (.ref b) H Q
  | _, _ => False
theorem hu65 {k : Nat} {A : Around} (hr : Room k A) : A.units + 65 < cLine := by
  have := hr.un
  omega
theorem o_in {K : PySem.W.Frag} (hu : X.A.units + 65 < cLine) (hK : X.K = K := by rfl) : OpR X (compareOp .In) (rInU K) := by
  subst hK
  refine OpR.imp (op_in_sign.or (op_in_str.or (op_in_seq.or (op_inD hu)))) fun x y H Q h => ?_
  cases y with
  | ref b => cases x with
    | ref a => exact .inr (.inr (.inr h))
    | _ => exact .inr (.inr (.inl h))
  | str b =>
    cases x with
    | str a =>
      rcases h with ⟨c, rfl, q⟩ | q
      · exact .inl ⟨c, b, rfl, rfl, q⟩
      · exact .inr (.inl ⟨a, b, rfl, rfl, q⟩)
    | _ => exact absurd h id
  | _ => cases x <;> exact absurd h id
def rNotInU (K : PySem.W.Frag) : R2 := fun x y H Q => match x, y with
  | .str a, .str b => (∃ c, a = ⟨#[c]⟩ ∧ Q (.bl (!decide (c ∈ b.cps.toList))) H) ∨ Q (.bl (!(!(Builtin.Str.occurrences b a 0 b.length 1).isEmpty))) H
  | .ref a, .ref b => rNotInD K (.ref a) (.ref b) H Q
  | x, .ref b => rIn K true x (.ref b) H Q
  | _, _ => False
theorem o_notin {K : PySem.W.Frag} (hu : X.A.units + 65 < cLine) (hK : X.K = K := by rfl) : OpR X (compareOp .NotIn) (rNotInU K) := by
  subst hK
  refine OpR.imp (op_notIn_sign.or (op_notIn_str.or (op_notIn_seq.or (op_notInD hu)))) fun x y H Q h => ?_
  cases y with
  | ref b => cases x with
    | ref a => exact .inr (.inr (.inr h))
    | _ => exact .inr (.inr (.inl h))
  | str b =>
    cases x with
    | str a =>
      rcases h with ⟨c, rfl, q⟩ | q
      · exact .inl ⟨c, b, rfl, rfl, q⟩
      · exact .inr (.inl ⟨a, b, rfl, rfl, q⟩)
    | _ => exact absurd h id
  | _ => cases x <;> exact absurd h id
/-! ### items, slices, walks -/
def rIxU (K : PySem.W.Frag) : R2 := fun x y H Q => match x, y with
  | .ref p, .int i => ∃ xs v, (SqL K H p xs ∨ SqT K H p xs) ∧ atI xs i = some v ∧ Q v H
  | .str z, .int i => z.length ≤ sizeLine ∧ ∃ c, atI z.cps.toList i = some c ∧ Q (.str ⟨#[c]⟩) H
  | _, _ => False
theorem o_ix {K : PySem.W.Frag} (hK : X.K = K := by rfl) : IxR X (rIxU K) := by
  subst hK
  refine IxR.imp ix_seq fun x y H Q h => ?_
  cases y with
  | int i =>
    cases x with
    | ref p =>
      obtain ⟨xs, v, h1 | h1, h2, q⟩ := h
      · exact .inl ⟨p, xs, i, v, rfl, rfl, h1, h2, q⟩
      · exact .inr (.inl ⟨p, xs, i, v, rfl, rfl, h1, h2, q⟩)
    | str z =>
      obtain ⟨h0, c, h2, q⟩ := h
      exact .inr (.inr ⟨z, i, c, rfl, rfl, h0, h2, q⟩)
    | _ => exact absurd h id
  | _ => cases x <;> exact absurd h id
def iU (K : PySem.W.Frag) (te : TE) : TI := fun σ H R => te σ H fun x H1 => match x with
  | .ref a => ((∃ xs, SqL K H1 a xs) ∧ R (Itl K a) H1) ∨ ((∃ xs, SqT K H1 a xs) ∧ R (Itt K a) H1)
  | .str z => R (Its z) H1
  | _ => False
theorem o_it {K : PySem.W.Frag} {tg e : Expr} {te : TE} (hc : X.calm = true) (he : PE X e te) (hK : X.K = K := by rfl) : PI X tg e (iU K te) := by
  subst hK
  refine ⟨fun pins s σ H R I h => ?_⟩
  refine thn (he.run pins s σ H _ I h) fun v s1 ⟨x, H1, I1, r1, q1⟩ => ?_
  cases x with
  | ref a =>
    cases r1
    rcases q1 with ⟨⟨xs, hq⟩, q⟩ | ⟨⟨xs, hq⟩, q⟩
    · obtain ⟨its, rv, p, hz⟩ := I1.list hq
      exact wpAny_pyIter_list p.isList (pi_one (tk := s1.toks) I1 _ (turn_list a _) ⟨_, Heap.get?_push_size _ rfl, rfl, rfl⟩ q)
    · obtain ⟨its, rv, p, hz⟩ := I1.tuple hq
      exact wpAny_pyIter_tuple (show s1.heap.IsTuple a its.toArray from p) (pi_one (tk := s1.toks) I1 _ (turn_tuple a _) ⟨_, Heap.get?_push_size _ rfl, rfl, rfl⟩ q)
  | str z =>
    obtain ⟨t, rfl⟩ := r1
    cases ha : z.cps.all (· < 128)
    · exact wpAny_pyIter_wide ha (pi_one (tk := s1.toks) I1 _ (turn_str _ z t "str_iterator" (.inr rfl)) ⟨_, Heap.get?_push_size _ rfl, rfl, rfl⟩ q1)
    · exact wpAny_pyIter_ascii ha (pi_one (tk := s1.toks) I1 _ (turn_str _ z t "str_ascii_iterator" (.inl rfl)) ⟨_, Heap.get?_push_size _ rfl, rfl, rfl⟩ q1)
  | _ => exact absurd q1 id
/-! ### slices, len, list, the truth of a value -/
def rSlU (K : PySem.W.Frag) : V → Option Int → Option Int → Hp → VK → Prop := fun x lo hi H Q => match x with
  | .str z => z.length ≤ sizeLine ∧ Q (.str (cutS z lo hi)) H
  | .ref a => (∃ xs, SqL K H a xs ∧ ∀ p, H p = none → Q (.ref p) (upd H p (.lst (cutV xs lo hi)))) ∨
    ∃ xs, SqT K H a xs ∧ (HT.sIx xs.length 0 lo = 0 ∧ HT.sIx xs.length xs.length hi = xs.length → Q (.ref a) H) ∧
      (¬ (HT.sIx xs.length 0 lo = 0 ∧ HT.sIx xs.length xs.length hi = xs.length) → ∀ p, H p = none → Q (.ref p) (upd H p (.tup (cutV xs lo hi))))
  | _ => False
theorem SlR.imp {r r' : V → Option Int → Option Int → Hp → VK → Prop} (h : SlR X r) (i : ∀ x lo hi H Q, r' x lo hi H Q → r x lo hi H Q) : SlR X r' := fun pins s σ H x v vl vu lo hi sl Q I rx hs pl pu q => h pins s σ H x v vl vu lo hi sl Q I rx hs pl pu (i _ _ _ _ _ q)
theorem o_sl {K : PySem.W.Frag} (hK : X.K = K := by rfl) : SlR X (rSlU K) := by
  subst hK
  refine SlR.imp (sl_list.or (sl_tupA.or sl_str)) fun x lo hi H Q h => ?_
  match x, h with
  | .str z, ⟨h1, h2⟩ => exact .inr (.inr ⟨z, rfl, h1, h2⟩)
  | .ref a, .inl ⟨xs, h1, h2⟩ => exact .inl ⟨a, xs, rfl, h1, h2⟩
  | .ref a, .inr ⟨xs, h1, h2, h3⟩ => exact .inr (.inl ⟨a, xs, rfl, h1, h2, h3⟩)
def rLenU (K : PySem.W.Frag) : List V → Hp → VK → Prop := fun xs H Q => match xs with
  | [x] => ∃ n, LenV K x H n ∧ Q (.int n) H
  | _ => False
theorem o_len {K : PySem.W.Frag} (hK : X.K = K := by rfl) : CallR X (.builtin "len") (rLenU K) := by
  subst hK
  refine CallR.imp call_len fun xs H Q h => ?_
  match xs, h with
  | [x], ⟨n, h, q⟩ => exact ⟨x, n, rfl, h, q⟩
theorem pt_tru {K : PySem.W.Frag} {a : Expr} {ta : TE} (ha : PE X a ta) (he : ∀ whole, isTrue a X.env whole = (do let v ← whole; standAt a.pos; holding [v] (truthy v))) (hK : X.K = K := by rfl) : PT X a (fun σ H Q => ta σ H fun x H1 => ∃ k, TruV K x H1 k ∧ Q k H1) := by
  subst hK
  exact pt_truth ha he
theorem pe_notK {K : PySem.W.Frag} {a : Expr} {ta : TE} {pos : Pos} (ha : PE X a ta) (hK : X.K = K := by rfl) : PE X (.UnaryOp .Not a pos) (tNotT K ta) := by
  subst hK
  exact pe_notT ha
theorem pe_orK {K : PySem.W.Frag} {a b : Expr} {rest : List Expr} {ta tb : TE} {pos : Pos} (ha : PE X a ta) (hb : PE X (.BoolOp .Or (b :: rest) pos) tb) (hK : X.K = K := by rfl) : PE X (.BoolOp .Or (a :: b :: rest) pos) (tOrT K ta tb) := by
  subst hK
  exact pe_orT ha hb
theorem pe_andK {K : PySem.W.Frag} {a b : Expr} {rest : List Expr} {ta tb : TE} {pos : Pos} (ha : PE X a ta) (hb : PE X (.BoolOp .And (b :: rest) pos) tb) (hK : X.K = K := by rfl) : PE X (.BoolOp .And (a :: b :: rest) pos) (tAndT K ta tb) := by
  subst hK
  exact pe_andT ha hb
theorem pe_fldK {K : PySem.W.Frag} {e : Expr} {f : Str} {ta : TE} {pos : Pos} (he : PE X e ta) (hb : attributeBase e f X.env (eval e X.env) = eval e X.env) (hK : X.K = K := by rfl) : PE X (.Attribute e f pos) (tFld K ta f) := by
  subst hK
  exact pe_fld he hb
theorem o_all {K : PySem.W.Frag} (hc : X.calm = true) (hK : X.K = K := by rfl) : CallR X (.builtin "all") (rAll K) := by
  subst hK
  exact cr_all hc
theorem o_any {K : PySem.W.Frag} (hc : X.calm = true) (hK : X.K = K := by rfl) : CallR X (.builtin "any") (rAny K) := by
  subst hK
  exact cr_any hc
/-- isinstance(x, T), T built in -/
def rIsiU (K : PySem.W.Frag) : List V → Hp → VK → Prop := fun xs H Q => match xs with
  | [x, .ty n] => ∃ (t : String) (b : Bool), TyX K H x (.type t) ∧ kitB t n = some b ∧ Q (.bl b) H
  | _ => False
theorem o_isi {K : PySem.W.Frag} (hK : X.K = K := by rfl) : CallR X (.builtin "isinstance") (rIsiU K) := by
  subst hK
  refine CallR.imp call_isi fun xs H Q h => ?_
  match xs, h with
  | [x, .ty n], ⟨t, b, h1, h2, q⟩ => exact ⟨x, .ty n, .type t, .type n, b, rfl, .ty n, h1, kit_ty h2, q⟩
def rTupU (K : PySem.W.Frag) : List V → Hp → VK → Prop := fun xs H Q => match xs with
  | [.ref p] => ∃ ys, (SqL K H p ys ∧ ∀ l, H l = none → Q (.ref l) (upd H l (.tup ys))) ∨ (SqT K H p ys ∧ Q (.ref p) H)
  | _ => False
theorem o_tuple {K : PySem.W.Frag} (hK : X.K = K := by rfl) : CallR X (.type "tuple") (rTupU K) := by
  subst hK
  refine CallR.imp call_tuple_of fun xs H Q h => ?_
  match xs, h with
  | [.ref p], ⟨ys, h⟩ => exact ⟨p, ys, rfl, h⟩
end
end SL

namespace SL
open PySem PySem.Spec PyProof.Rows L2
section
variable {K : PySem.W.Frag} {H H' : Hp}
theorem same_new {p : Addr} {o : HO} (h : H p = none) : Same H (upd H p o) := fun a u e => by
  rw [upd_ne (ne_of_none e h)]
  exact e
/-- an object that H does not know may change -/
theorem same_mut {p : Addr} {o : HO} (e : Same H H') (h : H p = none) : Same H (upd H' p o) := fun a u ha => by
  rw [upd_ne (ne_of_none ha h)]
  exact e a u ha
theorem same_rd {a : Addr} {u : HO} (e : Same H H') (h : Rd H a u) : Rd H' a u := by
  rcases h with h | ⟨o, h⟩
  · exact .inl (e a _ h)
  · exact .inr ⟨o, e a _ h⟩
theorem same_l {a : Addr} {xs : List V} (e : Same H H') (h : SqL K H a xs) : SqL K H' a xs := e.seq h
theorem same_t {a : Addr} {xs : List V} (e : Same H H') (h : SqT K H a xs) : SqT K H' a xs := by
  rcases h with h | h
  · exact .inl (same_rd e h)
  · exact .inr h
mutual
theorem dp_mono (e : Same H H') : ∀ (d : PyData) (v : V), Dp K H v d → Dp K H' v d
  | .none, _, .non => .non
  | .bool _, _, .bl b => .bl b
  | .int _, _, .int i => .int i
  | .str _, _, .str x => .str x
  | .list ds, _, .lst h a => .lst (same_l e h) (dpAll_mono e ds _ a)
  | .tuple ds, _, .tup h a => .tup (same_t e h) (dpAll_mono e ds _ a)
theorem dpAll_mono (e : Same H H') : ∀ (ds : List PyData) (vs : List V), DpAll K H vs ds → DpAll K H' vs ds
  | [], _, .nil => .nil
  | d :: ds, _, .cons h t => .cons (dp_mono e d _ h) (dpAll_mono e ds _ t)
end
end
section
variable {CX : CXT} {P : Program} {w : World} {K : PySem.W.Frag} {mg : Str → Option Value} {base : Heap} {N : List Str} {qual : Str} {scope : Scope} {f : Addr} {cd : Value} {A : Around} {outer : List Env} {s : Shared} {H : Hp} {E : XK}
theorem cxK : (cxOf CX P w K mg base N qual scope f cd A outer s H E).K = K := rfl
theorem cxW : (cxOf CX P w K mg base N qual scope f cd A outer s H E).w = w := rfl
theorem cxP : (cxOf CX P w K mg base N qual scope f cd A outer s H E).prog = P := rfl
end
section
variable {K : PySem.W.Frag} {H : Hp} {k : Bool} {n : Nat}
theorem truBl {b : Bool} : TruV K (.bl b) H k = (k = b) := rfl
theorem truInt {i : Int} : TruV K (.int i) H k = (k = (i != 0)) := rfl
theorem truNon : TruV K .non H k = (k = false) := rfl
theorem truStr {y : Str} : TruV K (.str y) H k = (y.length ≤ sizeLine ∧ k = ((y.length : Int) != 0)) := rfl
theorem lenStr {z : Str} {R : Nat → Prop} : (∃ n, LenV K (.str z) H n ∧ R n) = (z.length ≤ sizeLine ∧ R z.length) := by
  refine propext ⟨fun ⟨n, ⟨h1, h2⟩, h⟩ => ?_, fun ⟨h1, h⟩ => ⟨_, ⟨h1, rfl⟩, h⟩⟩
  subst h2
  exact ⟨h1, h⟩
end
theorem sameT {H : Hp} : Same H H = True := propext ⟨fun _ => trivial, fun _ => Same.refl H⟩
theorem start_nil (N : List Str) : start N [] = List.replicate N.length none := rfl
theorem ite_tt {A B : Prop} : (if true = true then A else B) = A := by simp
theorem ite_ff {A B : Prop} : (if false = true then A else B) = B := by simp
theorem le_sz {n : Nat} : (n ≤ sizeLine) = (n ≤ 16777216) := by rw [sizeLine_eq]
theorem lt_sz {n : Nat} : (n < sizeLine) = (n < 16777216) := by rw [sizeLine_eq]
/-- a value by what is wanted of it alone -/
def tMid (te : TE) : TE := fun σ H Q => ∃ Q' : VK, te σ H Q' ∧ ∀ v H1, Q' v H1 → Q v H1
theorem pe_mid {X : Cx} {e : Expr} {te : TE} (h : PE X e te) : PE X e (tMid te) := ⟨fun pins s σ H Q I ⟨_, h1, h2⟩ => thn (h.run pins s σ H _ I h1) fun _ _ ⟨v, H1, I1, r, q⟩ => ⟨v, H1, I1, r, h2 v H1 q⟩⟩
theorem mid_int {te : TE} {σ : L2.St} {H : Hp} {Q : VK} (C : Int → Prop) (h : te σ H fun v H1 => H1 = H ∧ ∃ n, v = .int n ∧ C n) (k : ∀ n, C n → Q (.int n) H) : tMid te σ H Q :=
  ⟨_, h, fun v H1 ⟨e, n, ev, c⟩ => by rw [e, ev]; exact k n c⟩
theorem q_mid {i : Nat} {te : TE} {u : TS} {D : Ends} {σ : L2.St} {H : Hp} (C : Int → Prop) (h : te σ H fun v H1 => H1 = H ∧ ∃ n, v = .int n ∧ C n) (k : ∀ n, C n → u D (σ.set i (some (.int n))) H) : tSeq (tAsg (tMid te) (gName i)) u D σ H :=
  ⟨_, h, fun v H1 ⟨e, n, ev, c⟩ => by rw [e, ev]; exact k n c⟩
/-- a for over what is walked, the walk told -/
theorem tFor_it {wi : TI} {g : TG} {tb : TS} {D : Ends} {σ : L2.St} {H : Hp} (h : wi σ H fun J H1 => ∃ W : Nat → Nat → L2.St → Hp → Prop, (∃ m, W 0 m σ H1) ∧ ∀ i m σ H, W i m σ H →
  (J.stop i H ∧ D.nx σ H) ∨ (J.go i H ∧ ∃ N : L2.St → Hp → Prop, (∀ σ' H', N σ' H' → ∃ m', m' < m ∧ W (i + 1) m' σ' H') ∧ ∀ x H', J.yld i H x H' → g x σ H' fun σ2 H2 => tb { D with nx := N, ct := N, bk := D.nx } σ2 H2)) : tFor wi g tb D σ H := h
end SL

namespace SL
open PySem PySem.Spec PyProof.Rows L2
/-- all but the lists stay -/
def NL (H H' : Hp) : Prop := ∀ a o, H a = some o → (∀ l, o ≠ .lst l) → H' a = some o
theorem NL.of {H H' : Hp} (e : Same H H') : NL H H' := fun a o h _ => e a o h
theorem NL.refl {H : Hp} : NL H H := fun _ _ h _ => h
theorem NL.trans {H H1 H2 : Hp} (a : NL H H1) (b : NL H1 H2) : NL H H2 := fun c o h n => b c o (a c o h n) n
theorem nl_upd {H : Hp} {D : Addr} {l : List V} {o : HO} (h : H D = some (.lst l)) : NL H (upd H D o) := fun a u e n => by
  have q : a ≠ D := fun z => by
    rw [z, h] at e
    exact n l (Option.some.inj e).symm
  rw [upd_ne q]
  exact e
/-! ### walked things, by what is wanted of them alone -/
def iMid (wi : TI) : TI := fun σ H R => ∃ R' : It → Hp → Prop, wi σ H R' ∧ ∀ J H1, R' J H1 → R J H1
theorem pi_mid {X : Cx} {tg it : Expr} {wi : TI} (h : PI X tg it wi) : PI X tg it (iMid wi) := ⟨fun pins s σ H R I ⟨_, h1, h2⟩ => thn (h.run pins s σ H _ I h1) fun _ s1 q => thn q fun _ _ ⟨it, fp, tn, J, H', e, I', T, st, f, r⟩ => ⟨it, fp, tn, J, H', e, I', T, st, f, h2 J H' r⟩⟩
def tMidT (tt : TT) : TT := fun σ H Q => ∃ Q' : Bool → Hp → Prop, tt σ H Q' ∧ ∀ b H1, Q' b H1 → Q b H1
theorem pt_mid {X : Cx} {e : Expr} {tt : TT} (h : PT X e tt) : PT X e (tMidT tt) := ⟨fun pins s σ H Q I ⟨_, h1, h2⟩ => thn (h.run pins s σ H _ I h1) fun _ _ ⟨H1, I1, q⟩ => ⟨H1, I1, h2 _ H1 q⟩⟩
section
variable {J0 : It} {n : Nat} {G : Hp → Prop} {Y : Nat → Hp → V → Hp → Prop} {wi : TI} {i : Nat} {tb : TS} {D : Ends} {σ : L2.St} {H H0 : Hp}
theorem for_mid (h : wi σ H fun J H1 => J = J0 ∧ H1 = H0) (w : Walk J0 n G Y) (Pv : Nat → L2.St → Hp → Prop) (h0 : Pv 0 σ H0) (hG : ∀ i σ H, i ≤ n → Pv i σ H → G H)
    (hs : ∀ k x σ H H', k < n → Pv k σ H → Y k H x H' → tb { D with nx := Pv (k + 1), ct := Pv (k + 1), bk := D.nx } (σ.set i (some x)) H') (hd : ∀ σ H, Pv n σ H → D.nx σ H) : tFor (iMid wi) (gName i) tb D σ H := by
  refine ⟨_, h, ?_⟩
  rintro J H1 ⟨rfl, rfl⟩
  exact for_it w Pv h0 hG (fun k x σ H H' hk p y => hs k x σ H H' hk p y) hd
theorem for_midg {g : TG} (h : wi σ H fun J H1 => J = J0 ∧ H1 = H0) (w : Walk J0 n G Y) (Pv : Nat → L2.St → Hp → Prop) (h0 : Pv 0 σ H0) (hG : ∀ i σ H, i ≤ n → Pv i σ H → G H)
    (hs : ∀ k x σ H H', k < n → Pv k σ H → Y k H x H' → g x σ H' fun σ2 H2 => tb { D with nx := Pv (k + 1), ct := Pv (k + 1), bk := D.nx } σ2 H2) (hd : ∀ σ H, Pv n σ H → D.nx σ H) : tFor (iMid wi) g tb D σ H := by
  refine ⟨_, h, ?_⟩
  rintro J H1 ⟨rfl, rfl⟩
  exact for_it w Pv h0 hG (fun k x σ H H' hk p y => hs k x σ H H' hk p y) hd
/-- a comprehension: C by the turn, what is made so far, the heap (all but lists stay) -/
theorem lc_midM {vs : List Nat} {te : TE} {Q : VK} (h : wi σ H fun J H1 => J = J0 ∧ H1 = H0) (w : Walk J0 n G Y) (hn : n < 16777216) (C : Nat → List V → Hp → Prop) (hC : ∀ k acc Ha Hb, NL Ha Hb → C k acc Ha → C k acc Hb) (h0 : C 0 [] H0)
    (hG : ∀ H', Same H0 H' → G H') (hY : ∀ k H x H', Y k H x H' → Same H H') (hw : ∀ x, wipe ((wipe σ vs).set i (some x)) vs = wipe σ vs)
    (turn : ∀ k x acc H' H'', k < n → Same H0 H' → C k acc H' → Y k H' x H'' → tMid te ((wipe σ vs).set i (some x)) H'' fun y H4 => Same H'' H4 ∧ C (k + 1) (acc ++ [y]) H4)
    (done : ∀ p acc H', H0 p = none → Same H0 H' → H' p = some (.lst acc) → acc.length = n → C n acc H' → Q (.ref p) H') : tLc (iMid wi) (gName i) tYes (tMid te) vs σ H Q := by
  refine ⟨_, h, ?_⟩
  rintro J H1 ⟨rfl, rfl⟩ p hp
  refine lc_it w (fun k H' => ∃ acc, Same H1 H' ∧ H' p = some (.lst acc) ∧ acc.length = k ∧ C k acc H') ⟨[], same_new hp, upd_same, rfl, hC _ _ _ _ (NL.of (same_new hp)) h0⟩ (fun k H' _ ⟨acc, s, _⟩ => hG H' s) ?_ fun H' ⟨acc, s, hD, hl, c⟩ => done p acc H' hp s hD hl c
  rintro k x H' H'' hk ⟨acc, s, hD, hl, c⟩ y
  have s2 := hY k H' x H'' y
  refine ⟨hw x, ?_⟩
  obtain ⟨R, h1, h2⟩ := turn k x acc H' H'' hk s c y
  refine ⟨R, h1, ?_⟩
  rintro v H4 hR
  obtain ⟨s3, c'⟩ := h2 v H4 hR
  have hD4 : H4 p = some (.lst acc) := s3 _ _ (s2 _ _ hD)
  refine ⟨acc, hD4, by rw [sizeLine_eq]; omega, acc ++ [v], same_mut ((s.trans s2).trans s3) hp, upd_same, by rw [List.length_append, hl]; rfl, hC _ _ _ _ (nl_upd hD4) c'⟩
/-- a comprehension: C by the turn, what is made so far, the heap (all but lists stay) -/
theorem lc_mid {vs : List Nat} {te : TE} {Q : VK} (h : wi σ H fun J H1 => J = J0 ∧ H1 = H0) (w : Walk J0 n G Y) (hn : n < 16777216) (C : Nat → List V → Hp → Prop) (hC : ∀ k acc Ha Hb, NL Ha Hb → C k acc Ha → C k acc Hb) (h0 : C 0 [] H0)
    (hG : ∀ H', Same H0 H' → G H') (hY : ∀ k H x H', Y k H x H' → Same H H') (hw : ∀ x, wipe ((wipe σ vs).set i (some x)) vs = wipe σ vs)
    (turn : ∀ k x acc H' H'', k < n → Same H0 H' → C k acc H' → Y k H' x H'' → te ((wipe σ vs).set i (some x)) H'' fun y H4 => Same H'' H4 ∧ C (k + 1) (acc ++ [y]) H4)
    (done : ∀ p acc H', H0 p = none → Same H0 H' → H' p = some (.lst acc) → acc.length = n → C n acc H' → Q (.ref p) H') : tLc (iMid wi) (gName i) tYes (tMid te) vs σ H Q :=
  lc_midM h w hn C hC h0 hG hY hw (fun k x acc H' H'' a b c d => ⟨_, turn k x acc H' H'' a b c d, fun _ _ q => q⟩) done
/-- with a test -/
theorem lc_midT {vs : List Nat} {te : TE} {tt : TT} {Q : VK} (h : wi σ H fun J H1 => J = J0 ∧ H1 = H0) (w : Walk J0 n G Y) (hn : n < 16777216) (C : Nat → List V → Hp → Prop) (hC : ∀ k acc Ha Hb, NL Ha Hb → C k acc Ha → C k acc Hb) (h0 : C 0 [] H0)
    (hG : ∀ H', Same H0 H' → G H') (hY : ∀ k H x H', Y k H x H' → Same H H') (hw : ∀ x, wipe ((wipe σ vs).set i (some x)) vs = wipe σ vs)
    (turn : ∀ k x acc H' H'', k < n → Same H0 H' → C k acc H' → Y k H' x H'' → tt ((wipe σ vs).set i (some x)) H'' fun b H3 => Same H'' H3 ∧ if b = true then te ((wipe σ vs).set i (some x)) H3 fun y H4 => Same H3 H4 ∧ C (k + 1) (acc ++ [y]) H4 else C (k + 1) acc H3)
    (done : ∀ p acc H', H0 p = none → Same H0 H' → H' p = some (.lst acc) → acc.length ≤ n → C n acc H' → Q (.ref p) H') : tLc (iMid wi) (gName i) (tMidT tt) (tMid te) vs σ H Q := by
  refine ⟨_, h, ?_⟩
  rintro J H1 ⟨rfl, rfl⟩ p hp
  refine lc_it w (fun k H' => ∃ acc, Same H1 H' ∧ H' p = some (.lst acc) ∧ acc.length ≤ k ∧ C k acc H') ⟨[], same_new hp, upd_same, Nat.le_refl _, hC _ _ _ _ (NL.of (same_new hp)) h0⟩ (fun k H' _ ⟨acc, s, _⟩ => hG H' s) ?_ fun H' ⟨acc, s, hD, hl, c⟩ => done p acc H' hp s hD hl c
  rintro k x H' H'' hk ⟨acc, s, hD, hl, c⟩ y
  have s2 := hY k H' x H'' y
  refine ⟨hw x, _, turn k x acc H' H'' hk s c y, ?_⟩
  rintro b H3 ⟨s3, z⟩
  have hD3 : H3 p = some (.lst acc) := s3 _ _ (s2 _ _ hD)
  cases b with
  | false =>
    have z' : C (k + 1) acc H3 := z
    exact ⟨acc, (s.trans s2).trans s3, hD3, by omega, z'⟩
  | true =>
    have z' : te ((wipe σ vs).set i (some x)) H3 fun y H4 => Same H3 H4 ∧ C (k + 1) (acc ++ [y]) H4 := z
    refine ⟨_, z', ?_⟩
    rintro v H4 ⟨s4, c'⟩
    have hD4 : H4 p = some (.lst acc) := s4 _ _ hD3
    refine ⟨acc, hD4, by rw [sizeLine_eq]; omega, acc ++ [v], same_mut (((s.trans s2).trans s3).trans s4) hp, upd_same, by rw [List.length_append]; show acc.length + 1 ≤ k + 1; omega, hC _ _ _ _ (nl_upd hD4) c'⟩
end
theorem y_at {xs : List V} {k : Nat} {H : Hp} {x : V} {H' : Hp} (y : YAt xs k H x H') : Same H H' := by
  rw [y.1]
  exact Same.refl H
theorem y_fn {f : Nat → V} {k : Nat} {H : Hp} {x : V} {H' : Hp} (y : YFn f k H x H') : Same H H' := by
  rw [y.1]
  exact Same.refl H
/-- an assignment by what is wanted of its value -/
theorem q_midG {i : Nat} {te : TE} {u : TS} {D : Ends} {σ : L2.St} {H : Hp} (C : V → Hp → Prop) (h : te σ H C) (k : ∀ v H1, C v H1 → u D (σ.set i (some v)) H1) : tSeq (tAsg (tMid te) (gName i)) u D σ H := ⟨C, h, k⟩
theorem mid_of {te : TE} {σ : L2.St} {H : Hp} {Q : VK} (C : VK) (h : te σ H C) (k : ∀ v H1, C v H1 → Q v H1) : tMid te σ H Q := ⟨C, h, k⟩
/-- an if by what is wanted of its test -/
theorem q_if {tt : TT} {a b u : TS} {D : Ends} {σ : L2.St} {H : Hp} (C : Bool → Hp → Prop) (h : tt σ H C) (t : ∀ H1, C true H1 → tSeq a u D σ H1) (f : ∀ H1, C false H1 → tSeq b u D σ H1) : tSeq (tIfS (tMidT tt) a b) u D σ H :=
  ⟨C, h, fun c H1 hc => by
    cases c with
    | true => exact t H1 hc
    | false => exact f H1 hc⟩
theorem l_if {tt : TT} {a b : TS} {D : Ends} {σ : L2.St} {H : Hp} (C : Bool → Hp → Prop) (h : tt σ H C) (t : ∀ H1, C true H1 → a D σ H1) (f : ∀ H1, C false H1 → b D σ H1) : tIfS (tMidT tt) a b D σ H :=
  ⟨C, h, fun c H1 hc => by
    cases c with
    | true => exact t H1 hc
    | false => exact f H1 hc⟩
/-- a comprehension over a text, each sign by itself -/
theorem lc_text {z : Str} {wi : TI} {i : Nat} {te : TE} {vs : List Nat} {σ : L2.St} {H H0 : Hp} {Q : VK} (f : Nat → V) (h : wi σ H fun J H1 => J = Its z ∧ H1 = H0) (hn : z.length < 16777216) (hw : ∀ x, wipe ((wipe σ vs).set i (some x)) vs = wipe σ vs)
    (turn : ∀ c H', c ∈ z.cps.toList → Same H0 H' → te ((wipe σ vs).set i (some (.str ⟨#[c]⟩))) H' fun y H4 => Same H' H4 ∧ y = f c)
    (done : ∀ p H', H0 p = none → Same H0 H' → H' p = some (.lst (z.cps.toList.map f)) → Q (.ref p) H') : tLc (iMid wi) (gName i) tYes (tMid te) vs σ H Q := by
  refine lc_midM h walk_str hn (fun k acc _ => acc = (z.cps.toList.take k).map f) (fun _ _ _ _ _ e => e) rfl (fun _ _ => trivial) (fun _ _ _ _ y => by rw [y.1]; exact Same.refl _) hw ?_ ?_
  · rintro k x acc H' H'' hk sm ha ⟨rfl, c, hc, rfl⟩
    have hc' : z.cps.toList[k]? = some c := by rw [Array.getElem?_toList]; exact hc
    have r := turn c H'' (List.mem_of_getElem? hc') sm
    refine ⟨_, r, ?_⟩
    rintro y H4 ⟨s4, rfl⟩
    refine ⟨s4, ?_⟩
    have e : z.cps.toList.take (k + 1) = z.cps.toList.take k ++ [c] := by
      rw [List.take_succ, hc']
      rfl
    rw [e, List.map_append, ha]
    rfl
  · intro p acc H' hp sm hD hl ha
    rw [List.take_of_length_le (by rw [Array.length_toList]; exact Nat.le_refl _)] at ha
    rw [ha] at hD
    exact done p H' hp sm hD
/-- a walk that is told -/
theorem for_open {wi : TI} {g : TG} {tb : TS} {D : Ends} {σ : L2.St} {H : Hp} (C : It → Hp → Prop) (h : wi σ H C) (k : ∀ J H1, C J H1 → tFor (iMid (fun _ _ R => R J H1)) g tb D σ H) : tFor (iMid wi) g tb D σ H := ⟨C, h, fun J H1 c => let ⟨_, r, k'⟩ := k J H1 c; k' J H1 r⟩
theorem lc_open {wi : TI} {g : TG} {tt : TT} {te : TE} {vs : List Nat} {σ : L2.St} {H : Hp} {Q : VK} (C : It → Hp → Prop) (h : wi σ H C) (k : ∀ J H1, C J H1 → tLc (iMid (fun _ _ R => R J H1)) g tt te vs σ H Q) : tLc (iMid wi) g tt te vs σ H Q := ⟨C, h, fun J H1 c => let ⟨_, r, k'⟩ := k J H1 c; k' J H1 r⟩
theorem q_val {i : Nat} {te : TE} {u : TS} {D : Ends} {σ : L2.St} {H : Hp} (h : te σ H fun v H1 => u D (σ.set i (some v)) H1) : tSeq (tAsg te (gName i)) u D σ H := h
end SL

/-! the text by places -/
namespace TX
open PySem PySem.Spec PyProof.Rows L2
def topS (i : Nat) : Stmt := PySem.Challenge.pw_shunlist_k12_parts_refused.main.body.getD i (.Pass ⟨0, 0, 0, 0⟩)
abbrev s__wall : Stmt := (topS 0)
abbrev s_NoText___init__ : Stmt := (inClass (topS 5) 0)
abbrev s_is_sign : Stmt := (topS 11)
abbrev s_Part_fits : Stmt := (inClass (topS 12) 0)
abbrev s_Part_many : Stmt := (inClass (topS 12) 1)
abbrev s_Part_told : Stmt := (inClass (topS 12) 2)
abbrev s_One___init__ : Stmt := (inClass (topS 14) 0)
abbrev s_One_fits : Stmt := (inClass (topS 14) 1)
abbrev s_One_told : Stmt := (inClass (topS 14) 2)
abbrev s_Among___init__ : Stmt := (inClass (topS 15) 0)
abbrev s_Among_fits : Stmt := (inClass (topS 15) 1)
abbrev s_Among_told : Stmt := (inClass (topS 15) 2)
abbrev s_Stars_many : Stmt := (inClass (topS 16) 0)
abbrev s_Stars_told : Stmt := (inClass (topS 16) 1)
abbrev s_Step_deep : Stmt := (inClass (topS 18) 0)
abbrev s_Step_fits_name : Stmt := (inClass (topS 18) 1)
abbrev s_Step_told : Stmt := (inClass (topS 18) 2)
abbrev s_Deep_deep : Stmt := (inClass (topS 19) 0)
abbrev s_Segment___init__ : Stmt := (inClass (topS 20) 0)
abbrev s_Segment_fits_name : Stmt := (inClass (topS 20) 1)
abbrev s_Segment_told : Stmt := (inClass (topS 20) 2)
abbrev s_Row___init__ : Stmt := (inClass (topS 21) 0)
abbrev s_Row_told : Stmt := (inClass (topS 21) 1)
abbrev s__law_cell : Stmt := (topS 23)
abbrev s__law_signs : Stmt := (topS 24)
abbrev s__law_made : Stmt := (topS 25)
abbrev s__law_is_no_part : Stmt := (topS 26)
abbrev s_law : Stmt := (topS 27)
end TX
/-! ### sets of texts: made of a text or of a list of texts, counted, sorted -/
namespace SL
open PySem PySem.Spec PyProof.Rows L2
/-- the text of a set's entry -/
def txOf (e : Int × Value) : Str := match e.2 with
  | .str x _ => x
  | _ => Str.empty
def TxE (w : World) (e : Int × Value) : Prop := ∃ x tk, e.2 = Value.str x tk ∧ e.1 = hashStr w x
/-- the set at a holds just the texts l, each once, and can be walked -/
def TxSet (w : World) (h : Heap) (a : Addr) (l : List Str) : Prop :=
  ∃ o es ep t, h.get? a = some o ∧ o.ExactSet ∧ o.data = .set es ep t ∧ (∀ e ∈ es.toList, TxE w e) ∧ (es.toList.map txOf).Perm l ∧ l.Nodup ∧
    (es.size < scanBound ∧ t.fits es.size = true) ∧ (Ris t.place.toList ∧ (w.params.followText "set-order" = true ∨ t.led = true))
section
variable {P : Program} {w : World} {h h' : Heap} {a : Addr} {l : List Str}
theorem TxSet.at (R : TxSet w h a l) (k : ∀ o, h.get? a = some o → h'.get? a = some o) : TxSet w h' a l :=
  let ⟨o, es, ep, t, ho, r⟩ := R
  ⟨o, es, ep, t, k o ho, r⟩
theorem TxSet.perm {l' : List Str} (R : TxSet w h a l) (p : l.Perm l') : TxSet w h a l' :=
  let ⟨o, es, ep, t, ho, hx, hd, g, pm, nd, r⟩ := R
  ⟨o, es, ep, t, ho, hx, hd, g, pm.trans p, p.nodup_iff.mp nd, r⟩
theorem txE_elems {l : List (Int × Value)} (g : ∀ e ∈ l, TxE w e) : ElemsOf (strKind P w) l := by
  intro e he
  obtain ⟨x, tk, e1, e2⟩ := g e he
  refine ⟨⟨x, ?_, e2⟩, ?_⟩
  · rw [e1]
    show Value.isStrOf x (.str x tk) = true
    simp [Value.isStrOf]
  · rw [e1]
    rfl
theorem txE_is {e : Int × Value} (g : TxE w e) (x : Str) : (strKind P w).is x e.2 = true ↔ txOf e = x := by
  obtain ⟨y, tk, e1, _⟩ := g
  unfold txOf
  rw [e1]
  show Value.isStrOf x (.str y tk) = true ↔ y = x
  simp [Value.isStrOf]
theorem txE_mem {l : List (Int × Value)} (g : ∀ e ∈ l, TxE w e) (x : Str) : x ∈ l.map txOf ↔ ∃ e ∈ l, (strKind P w).is x e.2 = true := by
  rw [List.mem_map]
  exact ⟨fun ⟨e, he, q⟩ => ⟨e, he, (txE_is (g e he) x).2 q⟩, fun ⟨e, he, q⟩ => ⟨e, he, (txE_is (g e he) x).1 q⟩⟩
end
section
variable {P : Program} {w : World} {A : Around} {E : Value → Shared → Prop} {s : Shared} {a : Addr} {l : List Str}
theorem tx_tail {gv : Bool → Sem Unit} (hg : ∀ (b : Bool) (s₁ : Shared) (Q' : Unit → Shared → Prop), Q' () s₁ → wpAny (model P w) A (gv b) Q' E s₁)
    {o : Obj} {es : Array (Int × Value)} {ep : Nat} {t : SetTable} (ho : s.heap.get? a = some o) (hx : o.ExactSet) (hd : o.data = .set es ep t) {e1 : Array (Int × Value)} {t2 : SetTable} (g1 : ∀ e ∈ e1.toList, TxE w e)
    (p1 : (e1.toList.map txOf).Perm l) (nd : l.Nodup) (hb : e1.size < scanBound) (hf : t2.fits e1.size = true) (hr : Ris t2.place.toList) (hl : w.params.followText "set-order" = true ∨ t2.led = true) {dummy : Bool} {R : Option Bool → Shared → Prop}
    (hR : ∀ h', Heap.SameBut a s.heap h' → TxSet w h' a l → R (some true) { s with heap := h' }) :
    wpAny (model P w) A (do
        storeSet a e1 t2
        if (!dummy && t2.tooFull) = true then do
            gv (relayAll t2 e1 (SetTable.grown e1.size)).2.2
            storeSet a (relayAll t2 e1 (SetTable.grown e1.size)).1 (relayAll t2 e1 (SetTable.grown e1.size)).2.1
            pure (some true)
          else pure (some true)) R E s := by
  refine wpAny_bind (wpAny_storeSet_of ho hd ?_ (fits_of_scanBound hb))
  have o1 := store_at (es' := e1) (t' := t2) ho hd
  have b1 := Heap.SameBut.update s.heap a (Obj.putSet e1 t2)
  split
  · have pm := relayAll_perm t2 e1 (SetTable.grown e1.size)
    have f3 := relayAll_fits t2 e1 (SetTable.grown e1.size)
    have r3 := relayAll_ris t2 e1 (SetTable.grown e1.size)
    have l3 := relayAll_led t2 e1 (SetTable.grown e1.size)
    generalize relayAll t2 e1 (SetTable.grown e1.size) = Z at pm f3 r3 l3 ⊢
    obtain ⟨e2, t3, gave⟩ := Z
    dsimp only at pm f3 r3 l3 ⊢
    have sz : e2.size < scanBound := by
      have q := pm.length_eq
      rw [Array.length_toList, Array.length_toList] at q
      omega
    refine wpAny_bind (hg _ _ _ (wpAny_bind (wpAny_storeSet_of o1 rfl ?_ (fits_of_scanBound sz))))
    refine wpAny_pure (hR _ (b1.trans (Heap.SameBut.update _ a _)) ⟨_, e2, _, t3, store_at o1 rfl, hx, rfl, fun e he => g1 e (pm.mem_iff.mp he), (pm.map txOf).trans p1, nd, ⟨sz, f3⟩, r3, ?_⟩)
    rw [l3]
    exact hl
  · exact wpAny_pure (hR _ b1 ⟨_, e1, _, t2, o1, hx, rfl, g1, p1, nd, ⟨hb, hf⟩, hr, hl⟩)
/-- a text is added -/
theorem tx_add {x : Str} {tk : Tok} {Q : Bool → Shared → Prop} (R : TxSet w s.heap a l) (room : l.length + 1 < scanBound)
    (hQ : ∀ h', Heap.SameBut a s.heap h' → TxSet w h' a (if x ∈ l then l else x :: l) → Q (!decide (x ∈ l)) { s with heap := h' }) :
    wpAny (model P w) A (setAddHashed a (.str x tk) ((strKind P w).hash x)) Q E s := by
  obtain ⟨o, es, ep, t, ho, hx, hd, g, pm, nd, ⟨hb, hf⟩, hr, hl⟩ := R
  have key : (strKind P w).is x (.str x tk) = true := by
    show Value.isStrOf x (.str x tk) = true
    simp [Value.isStrOf]
  have sc : (Value.str x tk).scannable = true := rfl
  have el : ElemsOf (strKind P w) es.toList := txE_elems g
  unfold setAddHashed
  unfold setAddHashedIn
  refine wpAny_holding (wpAny_bind (wpAny_setState_of ho hd hf ?_))
  dsimp only
  rw [byScan_of sc hb el]
  simp only [if_true]
  unfold setAddByScan
  refine wpAny_bind (wpAny_bind (wpAny_rule (wpAny_bind (wpAny_setScan_of key ho hd hf el ?_))))
  cases fi : List.findIdx? (fun e => (strKind P w).is x e.2) es.toList with
  | some j =>
    dsimp only
    obtain ⟨hj, pj, _⟩ := List.findIdx?_eq_some_iff_getElem.mp fi
    have hm : x ∈ l := pm.mem_iff.mp ((txE_mem (P := P) g x).2 ⟨_, List.getElem_mem hj, pj⟩)
    have q := hQ s.heap (Heap.SameBut.refl a s.heap) (by
      rw [if_pos hm]
      exact ⟨o, es, ep, t, ho, hx, hd, g, pm, nd, ⟨hb, hf⟩, hr, hl⟩)
    rw [decide_eq_true hm] at q
    exact wpAny_pure (wpAny_pure q)
  | none =>
    dsimp only
    have hn : x ∉ l := fun z => by
      obtain ⟨e, he, q⟩ := (txE_mem (P := P) g x).1 (pm.mem_iff.mpr z)
      have c := List.findIdx?_eq_none_iff.mp fi e he
      rw [q] at c
      cases c
    have q0 : ∀ h', Heap.SameBut a s.heap h' → TxSet w h' a (x :: l) → Q true { s with heap := h' } := fun h' sb r => by
      have q := hQ h' sb (by rw [if_neg hn]; exact r)
      rw [decide_eq_false hn] at q
      exact q
    have tl : ∀ (b : Bool) {s₁ : Shared} {Q' : Unit → Shared → Prop}, Q' () s₁ → wpAny (model P w) A (match b with | true => rule "set.scan.the-table-gave-way" | false => pure ()) Q' E s₁ := by
      intro b s₁ Q' z
      cases b
      · exact wpAny_pure z
      · exact wpAny_rule z
    have p0 := layNew_perm t es ((strKind P w).hash x) (.str x tk)
    have f0 := layNew_fits t es ((strKind P w).hash x) (.str x tk)
    have r0 := layNew_ris t es ((strKind P w).hash x) (.str x tk) hr
    have l0 := layNew_led t es ((strKind P w).hash x) (.str x tk)
    generalize layNew t es ((strKind P w).hash x) (.str x tk) = Z at p0 f0 r0 l0 ⊢
    obtain ⟨e1, t1, dummy, gave⟩ := Z
    dsimp only at p0 f0 r0 l0 ⊢
    rw [Array.toList_push] at p0
    have pc : e1.toList.Perm (((strKind P w).hash x, Value.str x tk) :: es.toList) := p0.trans (List.perm_append_singleton _ _)
    have g1 : ∀ e ∈ e1.toList, TxE w e := by
      intro e he
      rcases List.mem_cons.mp (pc.mem_iff.mp he) with z | z
      · exact ⟨x, tk, by rw [z], by rw [z]; rfl⟩
      · exact g e z
    have pk : (e1.toList.map txOf).Perm (x :: l) := (pc.map txOf).trans (List.Perm.cons _ pm)
    have nd1 : (x :: l).Nodup := List.nodup_cons.mpr ⟨hn, nd⟩
    have sz : e1.size < scanBound := by
      have q := pk.length_eq
      rw [List.length_map, Array.length_toList, List.length_cons] at q
      omega
    have hl1 : w.params.followText "set-order" = true ∨ t1.led = true := by rw [l0]; exact hl
    refine wpAny_bind (tl _ ?_)
    split
    · refine wpAny_bind ?_
      rw [hashByValue_scannable 8 sc]
      refine wpAny_pure (tx_tail ?_ ho hx hd g1 pk nd1 sz ?_ ?_ ?_ fun h' sb r => ?_)
      · intro b s₁ Q' z
        exact tl b z
      · first | (split <;> first | exact f0 | exact SetTable.fits_plain_off f0) | exact f0
      · first | (split <;> exact r0) | exact r0
      · first | (split <;> exact hl1) | exact hl1
      · exact wpAny_pure (q0 h' sb r)
    · refine wpAny_bind (wpAny_pure ?_)
      simp only [if_true]
      exact tx_tail (fun b s₁ Q' z => tl b z) ho hx hd g1 pk nd1 sz f0 r0 hl1 fun h' sb r => wpAny_pure (q0 h' sb r)
/-- the distinct ones of texts -/
def dist (l : List Str) (x : Str) : List Str := if x ∈ l then l else x :: l
theorem dist_len (l : List Str) (x : Str) : (dist l x).length ≤ l.length + 1 := by
  unfold dist
  split <;> simp
theorem fold_len : ∀ (zs l : List Str), (zs.foldl dist l).length ≤ l.length + zs.length
  | [], l => by simp
  | x :: r, l => by
    have h1 := fold_len r (dist l x)
    have h2 := dist_len l x
    simp only [List.foldl_cons, List.length_cons]
    omega
theorem fold_mem : ∀ (zs l : List Str) (y : Str), y ∈ zs.foldl dist l ↔ y ∈ l ∨ y ∈ zs
  | [], l, y => by simp
  | x :: r, l, y => by
    rw [List.foldl_cons, fold_mem r (dist l x) y]
    unfold dist
    split
    · rename_i h
      constructor
      · rintro (h1 | h1)
        · exact .inl h1
        · exact .inr (List.mem_cons_of_mem _ h1)
      · rintro (h1 | h1)
        · exact .inl h1
        · rcases List.mem_cons.mp h1 with rfl | h1
          · exact .inl h
          · exact .inr h1
    · simp only [List.mem_cons]
      constructor
      · rintro ((h1 | h1) | h1) <;> simp [h1]
      · rintro (h1 | h1 | h1) <;> simp [h1]
theorem tx_loop {I : Addr} {fp wr : List Addr} {G : Array GenState → Array GenState → Prop} {n : Nat} {Pv : Nat → Value → Prop} {St : Nat → Shared → Prop} {R : Result → Shared → Prop}
    (W : WalksS P w A.in1 I fp wr G n Pv St) (S : Addr) (hSf : S ∉ fp) (zs : List Str) (hn : n = zs.length) (hb : zs.length + 1 < scanBound) (hv : ∀ i v, Pv i v → ∃ x t, zs[i]? = some x ∧ v = .str x t) :
    ∀ (k i : Nat) (s : Shared), n - i = k → i ≤ n → St i s → TxSet w s.heap S ((zs.take i).foldl dist []) →
      (∀ s', Moved (S :: wr) G s s' → TxSet w s'.heap S (zs.foldl dist []) → R (.ok (.ret .none)) s') → codeAny (model P w) A (.builtin "set.update.loop" ⟨[.ref S, .ref I], []⟩) R s := by
  have nw : S ∉ wr := fun z => hSf (W.sub _ z)
  have sub : ∀ b ∈ wr, b ∈ S :: wr := fun b z => List.mem_cons_of_mem _ z
  intro k
  induction k with
  | zero =>
    intro i s hk hi st hS hR
    refine codeAny_builtin PyProof.Rows.F.entry_set_update_loop ?_
    rw [Around.under_plainId PyProof.Rows.F.plain_set_update_loop]
    have hin : i = n := by omega
    subst hin
    show wpAny _ A.in1 (pyNext (.ref I) >>= fun _ => _) _ _ s
    refine wpAny_bind (W.done s _ _ st fun s' hm => wpAny_pure (hR s' (hm.mono sub) ?_))
    rw [List.take_of_length_le (by omega)] at hS
    exact hS.at fun o e => hm.heap S o nw e
  | succ k ih =>
    intro i s hk hi st hS hR
    have lt : i < n := by omega
    refine codeAny_builtin PyProof.Rows.F.entry_set_update_loop ?_
    rw [Around.under_plainId PyProof.Rows.F.plain_set_update_loop]
    show wpAny _ A.in1 (pyNext (.ref I) >>= fun _ => _) _ _ s
    refine wpAny_bind (W.item i s _ _ lt st fun v s' hP st' hm => ?_)
    obtain ⟨x, t, hz, rfl⟩ := hv i v hP
    have hS' : TxSet w s'.heap S ((zs.take i).foldl dist []) := hS.at fun o e => hm.heap S o nw e
    show wpAny _ A.in1 (holding [Value.str x t] (setAdd S (.str x t)) >>= fun _ => _) _ _ s'
    refine wpAny_bind (wpAny_holding ?_)
    unfold setAdd
    have hk2 : (strKind P w).is x (.str x t) = true := by
      show Value.isStrOf x (.str x t) = true
      simp [Value.isStrOf]
    refine wpAny_holding (wpAny_bind ((strKind P w).pyHash (k := x) hk2 ?_))
    have room : ((zs.take i).foldl dist []).length + 1 < scanBound := by
      have q := fold_len (zs.take i) []
      rw [List.length_take, List.length_nil] at q
      omega
    refine tx_add (s := { s' with toks := s'.toks + 1 }) hS' room fun h' sb r => ?_
    have r' : TxSet w h' S ((zs.take (i + 1)).foldl dist []) := by
      rw [List.take_add_one, hz, List.foldl_append]
      exact r
    refine wpAny_pure ⟨plainId_quiet PyProof.Rows.F.plain_set_update_loop _, ih (i + 1) _ (by omega) lt (W.frame _ s' _ _ st' (Nat.le_succ _) fun b z o e => ?_) r' fun s'' hm2 hS2 => ?_⟩
    · rw [sb.2 b fun q => hSf (q ▸ z)]
      exact e
    · refine hR s'' (Moved.trans W.gtrans ((hm.mono sub).then_heap (Nat.le_succ _) fun b o z e => ?_) hm2) hS2
      rw [sb.2 b fun q => z (by rw [q]; exact List.mem_cons_self)]
      exact e
end
end SL

namespace SL
open PySem PySem.Spec PyProof.Rows L2
/-- a value that gives the texts zs when it is walked: a text by its signs, a list of texts -/
structure Src (P : Program) (w : World) (h : Heap) (v : Value) (T : String) (zs : List Str) : Prop where
  ty : ∀ (s : Shared), (∀ b o, h.get? b = some o → s.heap.get? b = some o) → s.TypeIs v T
  s1 : isSubtype (.type T) (.type "set") = pure false
  s2 : isSubtype (.type T) (.type "frozenset") = pure false
  nd : (Value.type T == Value.type "dict") = false
  it : ∀ (A : Around) (Q : Value → Shared → Prop) (E : Value → Shared → Prop) (s : Shared), (∀ b o, h.get? b = some o → s.heap.get? b = some o) → h.objs.size ≤ s.heap.objs.size → A.handled = none →
    (∀ (o : Obj) (fp : List Addr) (St : Nat → Heap → Prop) (Pv : Nat → Value → Prop), (∀ A' : Around, A'.handled = none → Walks P w A' s.heap.objs.size fp [s.heap.objs.size] zs.length Pv St) → St 0 (s.heap.push o) →
      (∀ b ∈ fp, b = s.heap.objs.size ∨ b < h.objs.size) → (∀ i u, Pv i u → ∃ x t, zs[i]? = some x ∧ u = .str x t) → Q (.ref s.heap.objs.size) { s with heap := s.heap.push o }) → wpAny (model P w) A (pyIter v) Q E s
section
variable {P : Program} {w : World} {A : Around} {E : Value → Shared → Prop} {s : Shared}
theorem src_text {h : Heap} (x : Str) (t : Tok) : Src P w h (.str x t) "str" (x.cps.toList.map fun c => ⟨#[c]⟩) where
  ty := fun s _ => rfl
  s1 := PySem.F.sub_str_set
  s2 := PySem.F.sub_str_frozenset
  nd := by decide
  it := fun A Q E s _ _ _ k => by
    refine wpAny_pyIter_str fun o St W st => ?_
    have e : (x.cps.toList.map fun c => (⟨#[c]⟩ : Str)).length = x.cps.size := by rw [List.length_map, Array.length_toList]
    refine k o [s.heap.objs.size] St (SignAt x) (fun A' hA => by rw [e]; exact W A' hA) st (fun b hb => .inl (List.mem_singleton.mp hb)) fun i u hu => ?_
    obtain ⟨c, t', hc, rfl⟩ : ∃ c t', x.cps[i]? = some c ∧ u = .str ⟨#[c]⟩ t' := by
      first
        | exact hu
        | (obtain ⟨c, hc, t', e'⟩ := hu; exact ⟨c, t', hc, e'⟩)
    refine ⟨_, t', ?_, rfl⟩
    rw [List.getElem?_map, Array.getElem?_toList, hc]
    rfl
theorem src_list {h : Heap} {l : Addr} {items : Array Value} {zs : List Str} (hl : h.IsList l items) (hi : PyProof.Rows.StrsAre items.toList zs) : Src P w h (.ref l) "list" zs := by
  obtain ⟨ol, hol, hcl, nl, hdl⟩ := id hl
  have hz : items.size = zs.length := by
    have q := PyProof.Rows.StrsAre.length hi
    rw [Array.length_toList] at q
    exact q
  refine ⟨fun s k => ⟨ol, k _ _ hol, hcl⟩, PySem.F.sub_list_set, PySem.F.sub_list_frozenset, by decide, fun A Q E s k le hh c => ?_⟩
  have hl' : s.heap.IsList l items := ⟨ol, k _ _ hol, hcl, nl, hdl⟩
  have lt : l < h.objs.size := Heap.lt_size hol
  have ne : l ≠ s.heap.objs.size := Nat.ne_of_lt (Nat.lt_of_lt_of_le lt le)
  refine wpAny_pyIter_list hl' (c _ [s.heap.objs.size, l] _ (fun i v => items[i]? = some v) (fun A' hA => by rw [← hz]; exact Walks.list hA _ l ne items) (show Heap.IsListIter _ _ _ _ ∧ Heap.IsList _ _ _ from ⟨⟨_, Heap.get?_push_size _ rfl, rfl, rfl⟩, hl'.push _⟩) (fun b hb => ?_) fun i u hu => ?_)
  · rcases List.mem_cons.mp hb with e | e
    · exact .inl e
    · exact .inr (by rw [List.mem_singleton.mp e]; exact lt)
  · have hi2 : i < zs.length := by rw [← hz]; exact (Array.getElem?_eq_some_iff.mp hu).1
    obtain ⟨t, e⟩ := SS.strs_at hi i u (by rw [Array.getElem?_toList]; exact hu)
    refine ⟨zs[i], t, List.getElem?_eq_getElem hi2, ?_⟩
    rw [e, List.getD_eq_getElem?_getD, List.getElem?_eq_getElem hi2]
    rfl
/-- an empty set object, as set() lays it -/
def set0 (w : World) : Obj := { cls := .type "set", dict := none, data := .set #[] 0 (.fresh 0 0 (!w.params.followText "set-order")) }
theorem tx_empty {h : Heap} {a : Addr} (ho : h.get? a = some (set0 w)) : TxSet w h a [] := by
  refine ⟨_, #[], 0, _, ho, ⟨rfl, rfl, rfl⟩, rfl, fun e he => (nomatch he), by simp, by simp, ⟨by decide, rfl⟩, List.Pairwise.nil, ?_⟩
  show _ ∨ (!w.params.followText "set-order") = true
  cases w.params.followText "set-order"
  · exact .inr rfl
  · exact .inl rfl
set_option maxHeartbeats 8000000 in
theorem call_set_tx {v : Value} {T : String} {zs : List Str} {Q : Value → Shared → Prop} (hh : A.handled = none) (Z : Src P w s.heap v T zs) (hb : zs.length + 1 < scanBound)
    (k : ∀ (h' : Heap) (tk : Nat), TxSet w h' s.heap.objs.size (zs.foldl dist []) → (∀ b o, s.heap.get? b = some o → h'.get? b = some o) → Q (.ref s.heap.objs.size) { s with heap := h', toks := tk }) :
    wpAny (model P w) A (call (.type "set") [v]) Q E s := by
  obtain ⟨c, tl, hmro⟩ := PySem.F.called_set.mro
  have hmade := PySem.F.called_set.made
  have hsub := PySem.F.called_set.sub
  refine wpAny_call (codeAny_of_tree ?_)
  show wpAny _ _ (callAny (.type "set") _) _ _ _
  refine wpAny_pure ⟨Code.quiet_builtin _ (by decide +kernel), codeAny_builtin PySem.F.entry_type_call ?_⟩
  rw [Around.under_plain (weight_type_call_type "set" [v] []) rfl]
  have h1 := PySem.F.called_set.notType
  have h2 := PySem.F.called_set.canCreate
  have hct := PySem.F.typeCall_set_1 v
  repeat (any_goals (first | assumption | wp_step))
  refine codeAny_mono (code_set_led1 v (E := E) (Q₁ := fun obj s₁ => obj = .ref s.heap.objs.size ∧ s₁ = { s with heap := s.heap.push (set0 w) }) ⟨rfl, rfl⟩) fun r s₁ hr => ?_
  cases r with
  | error e => exact hr
  | ok fl =>
    cases fl with
    | ret obj =>
      obtain ⟨rfl, rfl⟩ := hr
      have hS : (s.heap.push (set0 w)).get? s.heap.objs.size = some (set0 w) := Heap.get?_push_size _ rfl
      have hT : Shared.TypeIs { s with heap := s.heap.push (set0 w) } (.ref s.heap.objs.size) "set" := ⟨_, hS, rfl⟩
      have hli := PySem.F.called_set.init.lookup
      have hbi := PySem.F.called_set.init.bind (.ref s.heap.objs.size)
      repeat (any_goals (first | assumption | wp_step))
      refine codeAny_mono (codeAny_call_builtin (R := wants (fun r s₂ => r = .none ∧ ∃ h' tk, s₂ = { s with heap := h', toks := tk } ∧ TxSet w h' s.heap.objs.size (zs.foldl dist []) ∧
          (∀ b o, s.heap.get? b = some o → h'.get? b = some o)) E) PySem.F.called_set.init.plain PySem.F.entry_set_init (check_set_init_1 hT ?_)) fun r₂ s₂ hr₂ => ?_
      · have kp : ∀ b o, s.heap.get? b = some o → (s.heap.push (set0 w)).get? b = some o := fun b o e => Heap.get?_push_of_some _ e
        have tv := Z.ty { s with heap := s.heap.push (set0 w) } kp
        have z1 := Z.s1
        have z2 := Z.s2
        have z3 := Z.nd
        unfold Builtin.«set.__init__» noKeywords
        unfold Builtin.Frozenset.updateFrom
        generalize hPI : pyIter = PI
        wp_walk
        subst hPI
        have hh2 : A.in1.in1.handled = none := by simp [hh]
        have hh3 : A.in1.in1.in1.handled = none := by simp [hh]
        have sz : (s.heap.push (set0 w)).objs.size = s.heap.objs.size + 1 := Heap.size_push ..
        refine Z.it _ _ _ _ kp (by rw [sz]; exact Nat.le_succ _) hh2 fun o fp St Pv W st hf hv => ?_
        have nS : s.heap.objs.size ∉ fp := fun z => by
          rcases hf _ z with e | e
          · rw [sz] at e
            exact absurd e (Nat.ne_of_lt (Nat.lt_succ_self _))
          · exact absurd e (Nat.lt_irrefl _)
        refine wpAny_bind (wpAny_runValue (tx_loop ((W _ hh3).toS) s.heap.objs.size nS zs rfl hb hv (zs.length - 0) 0 _ (by omega) (Nat.zero_le _) st ?_ fun s' hm hS' => ?_))
        · exact tx_empty (Heap.get?_push_of_some _ hS)
        · obtain ⟨h', g2, d', tk', os'⟩ := s'
          obtain rfl : g2 = s.gens := hm.gens
          obtain rfl : d' = s.drawn := hm.drawn
          obtain rfl : os' = s.os := hm.os
          refine wpAny_pure (wpAny_pure ⟨rfl, h', tk', rfl, hS', fun b u e => hm.heap b u (fun z => ?_) (Heap.get?_push_of_some _ (kp b u e))⟩)
          have lt := Heap.lt_size e
          rcases List.mem_cons.mp z with e2 | e2
          · exact absurd lt (by rw [e2]; exact Nat.lt_irrefl _)
          · rw [List.mem_singleton.mp e2] at lt
            rw [sz] at lt
            exact absurd lt (Nat.not_lt.mpr (Nat.le_succ _))
      · cases r₂ with
        | error e => exact hr₂
        | ok fl₂ =>
          cases fl₂ with
          | ret r =>
            obtain ⟨rfl, h', tk, rfl, hS', hk'⟩ := hr₂
            repeat (any_goals (first | assumption | wp_step))
            exact k _ _ hS' hk'
          | _ => exact hr₂.elim
    | _ => exact hr.elim
end
end SL

namespace SL
open PySem PySem.Spec PyProof.Rows L2
theorem fold_nd : ∀ (zs l : List Str), l.Nodup → (zs.foldl dist l).Nodup
  | [], l, h => h
  | x :: r, l, h => by
    refine fold_nd r _ ?_
    unfold dist
    split
    · exact h
    · rename_i n
      exact List.nodup_cons.mpr ⟨n, h⟩
/-- the set of texts at a -/
def SetS (w : World) (a : Addr) (l : List Str) : HO := .ext fun h => TxSet w h a l
def chars (z : Str) : List Str := z.cps.toList.map fun c => ⟨#[c]⟩
section
variable {X : Cx}
theorem setS_new {w : World} {P : Program} {H : Hp} {h : Heap} {a : Addr} {l : List Str} (R : TxSet w h a l) : ObjOk P w H h a (SetS w a l) := by
  have ⟨o, _, _, _, ho, _⟩ := R
  exact ⟨R, ⟨o, ho⟩, fun h1 h2 p k => TxSet.at p k⟩
theorem setS_get {pins : List (Addr × Obj)} {σ : L2.St} {H : Hp} {s : Shared} {a : Addr} {l : List Str} (I : Inv X pins σ H s) (ha : H a = some (SetS X.w a l)) : TxSet X.w s.heap a l := (I.hok a _ ha).1
/-- what set(x) gives, x with the texts zs -/
def NewSet (w : World) (zs : List Str) (H : Hp) (Q : VK) : Prop := zs.length < 1000 ∧ ∀ a l, H a = none → l.Nodup → (∀ x, x ∈ l ↔ x ∈ zs) → Q (.ref a) (upd H a (SetS w a l))
def rSetU (K : PySem.W.Frag) (w : World) : List V → Hp → VK → Prop := fun xs H Q => match xs with
  | [.str z] => NewSet w (chars z) H Q
  | [.ref p] => ∃ zs : List Str, SqL K H p (zs.map V.str) ∧ NewSet w zs H Q
  | _ => False
theorem new_set {pins : List (Addr × Obj)} {σ : L2.St} {H : Hp} {s : Shared} {Q : VK} {v : Value} {T : String} {zs : List Str} (hc : X.calm = true) (I : Inv X pins σ H s) (Z : Src X.prog X.w s.heap v T zs) (q : NewSet X.w zs H Q) :
    wpAny (model X.prog X.w) X.A (call (.type "set") [v]) (EP X pins σ Q) X.xe s := by
  have sb : zs.length + 1 < scanBound := Nat.lt_of_lt_of_le (Nat.succ_lt_succ q.1) (by decide)
  refine call_set_tx (I.ok.hd hc) Z sb fun h' tk R k => ?_
  have fr := I.hok.fresh (Nat.le_refl s.heap.objs.size)
  exact ⟨.ref s.heap.objs.size, _, I.laid (t' := tk) k (Nat.le_refl _) (setS_new R), rfl, q.2 _ _ fr (fold_nd zs [] .nil) fun x => by rw [fold_mem]; simp⟩
theorem o_set {K : PySem.W.Frag} {w : World} (hc : X.calm = true) (hK : X.K = K := by rfl) (hw : X.w = w := by rfl) : CallR X (.type "set") (rSetU K w) := by
  subst hK
  subst hw
  intro pins s σ H xs us Q I r h
  match xs, h with
  | [.str z], q =>
    obtain ⟨u, rfl, t, rfl⟩ := vals1 r
    exact new_set hc I (src_text z t) q
  | [.ref p], ⟨zs, hs, q⟩ =>
    obtain ⟨u, rfl, hu⟩ := vals1 r
    obtain rfl : u = Value.ref p := hu
    obtain ⟨its, rv, pl, _⟩ := I.list hs
    exact new_set hc I (src_list pl.isList (by simpa using strsAre_of rv)) q
/-- len of a set of texts -/
def rLenS (w : World) : List V → Hp → VK → Prop := fun xs H Q => match xs with
  | [.ref p] => ∃ l, H p = some (SetS w p l) ∧ Q (.int (l.length : Int)) H
  | _ => False
theorem len_setS {w : World} (hw : X.w = w := by rfl) : CallR X (.builtin "len") (rLenS w) := by
  subst hw
  intro pins s σ H xs us Q I r h
  match xs, h with
  | [.ref p], ⟨l, hp, q⟩ =>
    obtain ⟨u, rfl, hu⟩ := vals1 r
    obtain rfl : u = Value.ref p := hu
    obtain ⟨o, es, ep, t, ho, hx, hd, g, pm, nd, ⟨hb, hf⟩, _⟩ := setS_get I hp
    have hn : es.size = l.length := by
      have e := pm.length_eq
      rw [List.length_map, Array.length_toList] at e
      exact e
    refine call_len_set ho hx hd hf ?_ ?_
    · have e : scanBound < 2 ^ 63 := by decide
      omega
    · rw [hn]
      exact ⟨.int l.length, H, I.tok _, ⟨_, rfl⟩, q⟩
/-! ### sorted -/
theorem un_laid {fs ex : List Addr} {H : Hp} {h h' : Heap} {a : Addr} {o : HO} (k : ∀ b u, h.get? b = some u → h'.get? b = some u) (na : ∀ b u, h.get? b = some u → b ≠ a) (hn : H a = none) : Un fs ex H (upd H a o) h h' :=
  ⟨fun b u q _ _ _ => k b u q, fun b u q _ _ _ => ⟨u.slots, k b u q⟩, fun b u q n _ => by rw [upd_ne (na b u q)]; exact n, fun b u q _ => ⟨u, k b u q⟩, fun b xs q => by rw [upd_ne (ne_of_none q hn)]; exact q,
    fun b u xs q => by rw [upd_ne (ne_of_none q hn)]; exact q, fun b ps q => ⟨#[], by rw [upd_ne (ne_of_none q hn), q]; simp⟩⟩
theorem hok_laid {P : Program} {w : World} {H : Hp} {h h' : Heap} {a : Addr} {o : HO} (x : HOk P w H h) (k : ∀ b u, h.get? b = some u → h'.get? b = some u) (hn : H a = none) (new : ObjOk P w (upd H a o) h' a o) : HOk P w (upd H a o) h' := fun b u e => by
  by_cases hb : b = a
  · subst hb
    rw [upd_same] at e
    cases e
    exact new
  · rw [upd_ne hb] at e
    exact (x b u e).stay (fun c v _ q => k c v q) (fun c q => by rw [upd_ne (ne_of_none q hn)]; exact q) fun c xs q => by rw [upd_ne (ne_of_none q hn)]; exact q
theorem sorted_of {P : Program} {w : World} {A : Around} {E : Value → Shared → Prop} {s : Shared} {v : Value} {zs : List Str} {Q : Value → Shared → Prop} (h64 : zs.length < 64)
    (col : ∀ (A : Around) (Q' : List Value → Shared → Prop), A.handled = none → (∀ s' vs zs', (∀ b o, s.heap.get? b = some o → s'.heap.get? b = some o) → s'.gens = s.gens → s'.os = s.os → PyProof.Rows.StrsAre vs zs' → zs'.Perm zs → Q' vs s') → wpAny (model P w) A (collect v) Q' E s)
    (hh : A.handled = none)
    (hQ : ∀ s' p (out : Array Value) (c : Nat) (ys : List Str), (∀ b o, s.heap.get? b = some o → s'.heap.get? b = some o) → s'.gens = s.gens → s'.os = s.os → (∀ b o, s.heap.get? b = some o → b ≠ p) → s'.heap.get? p = some (seqObj "list" out c) → PyProof.Rows.StrsAre out.toList ys → ys.Perm zs → sortedS ys = true → Q (.ref p) s') :
    wpAny (model P w) A (call (.builtin "sorted") [v]) Q E s := by
  refine Calls.call_function_entry kind_sorted plain_sorted entry_sorted (args_sorted1 _) ?_
  unfold Builtin.«sorted»
  refine wpAny_bind (m := checkCount "sorted" 1 1 _) (wpAny_pure (wpAny_bind (col A.in1 _ (by simp [hh]) fun s1 vs zs' k1 g1 o1 hs pm => ?_)))
  have hl : vs.length = zs.length := by rw [PyProof.Rows.StrsAre.length hs, pm.length_eq]
  refine wpAny_bind (wpAny_newList ?_ (by rw [hl, sizeLine_eq]; omega))
  have oL : (s1.heap.push (seqObj "list" vs.toArray 0)).get? s1.heap.objs.size = some (seqObj "list" vs.toArray 0) := Heap.get?_push_size _ rfl
  refine wpAny_bind (wpAny_holding (wpAny_call_entry slot_list_sort ⟨_, oL, rfl⟩ entry_list_sort (list_sort_treeK strKind_oneLt oL hs.keysOf (fun v₁ v₂ rest e => keyKind_strs (by rw [← e]; exact hs)) (by rw [hl]; exact h64) fun st' a1 a2 => ⟨_, rfl, ?_⟩) (args_list_sort _)))
  obtain ⟨ys, b1, b2, b3⟩ := sorted_out_str hs a1 a2
  obtain ⟨c, hc⟩ := sortedHeap_at (vs := vs) (out := (arrOf st').map (·.2)) oL
  refine wpAny_pure ⟨_, rfl, hQ _ s1.heap.objs.size _ c ys (fun b u e => ?_) g1 o1 (fun b u e => Nat.ne_of_lt (Heap.lt_size (k1 b u e))) hc b1 (b2.trans pm) b3⟩
  have q := k1 b u e
  have lt := Heap.lt_size q
  show (sortedHeap (s1.heap.push (seqObj "list" vs.toArray 0)) s1.heap.objs.size vs ((arrOf st').map (·.2))).get? b = some u
  rw [sortedHeap_old (Nat.ne_of_lt lt) (by rw [size_push']; exact Nat.lt_succ_of_lt lt)]
  exact Heap.get?_push_of_some _ q
theorem items_strs {z : Str} {acc : Array Value} (h : ItemsOf (SignAt z) acc z.cps.size) : PyProof.Rows.StrsAre acc.toList (chars z) := by
  have key : ∀ (l : List Value) (cs : List Nat), l.length = cs.length → (∀ (j : Nat) (v : Value), l[j]? = some v → ∃ (c : Nat) (u : Tok), cs[j]? = some c ∧ v = Value.str ⟨#[c]⟩ u) → PyProof.Rows.StrsAre l (cs.map fun c => ⟨#[c]⟩) := by
    intro l
    induction l with
    | nil =>
      intro cs hl _
      cases cs with
      | nil => exact .nil
      | cons c r => simp at hl
    | cons v r ih =>
      intro cs hl hv
      cases cs with
      | nil => simp at hl
      | cons c cs =>
        obtain ⟨c', u, e1, rfl⟩ := hv 0 v rfl
        have e2 : c = c' := by simpa using e1
        subst e2
        exact .cons _ u (ih cs (by simpa using hl) fun j v hj => by simpa using hv (j + 1) v (by simpa using hj))
  refine key acc.toList z.cps.toList (by rw [Array.length_toList, Array.length_toList]; exact h.1) fun j v hj => ?_
  obtain ⟨c, u, e1, e2⟩ := h.2 j v (by rw [← Array.getElem?_toList]; exact hj)
  exact ⟨c, u, by rw [Array.getElem?_toList]; exact e1, e2⟩
/-- what sorted(x) gives, x with the texts zs -/
def NewSorted (zs : List Str) (H : Hp) (Q : VK) : Prop := zs.length < 64 ∧ ∀ ys p, ys.Perm zs → sortedS ys = true → H p = none → Q (.ref p) (upd H p (.lst (ys.map V.str)))
theorem new_sorted {pins : List (Addr × Obj)} {σ : L2.St} {H : Hp} {s : Shared} {Q : VK} {v : Value} {zs : List Str} (hc : X.calm = true) (I : Inv X pins σ H s) (q : NewSorted zs H Q)
    (col : ∀ (A : Around) (Q' : List Value → Shared → Prop), A.handled = none → (∀ s' vs zs', (∀ b o, s.heap.get? b = some o → s'.heap.get? b = some o) → s'.gens = s.gens → s'.os = s.os → PyProof.Rows.StrsAre vs zs' → zs'.Perm zs → Q' vs s') → wpAny (model X.prog X.w) A (collect v) Q' X.xe s) :
    wpAny (model X.prog X.w) X.A (call (.builtin "sorted") [v]) (EP X pins σ Q) X.xe s := by
  refine sorted_of q.1 col (I.ok.hd hc) fun s' p out c ys k g o hp hg hi pm so => ?_
  have fr : H p = none := by
    cases e : H p with
    | none => rfl
    | some u =>
      obtain ⟨ob, hob⟩ := objOk_get (I.hok p u e)
      exact absurd rfl (hp p ob hob)
  have hlen : (ys.map V.str).length ≤ sizeLine := by
    have h1 := q.1
    rw [List.length_map, pm.length_eq, sizeLine_eq]
    omega
  have J : Inv X pins σ (upd H p (.lst (ys.map V.str))) { s with heap := s'.heap, gens := s'.gens, drawn := s'.drawn, toks := s'.toks } :=
    I.call (ch := []) (un_laid k hp fr) (hok_laid I.hok k fr ⟨hlen, out.toList, c, vals_of_strs hi, hg⟩) (by rw [g]; exact I.bare) fun _ z => nomatch z
  obtain ⟨h2, g2, d2, t2, o2⟩ := s'
  obtain rfl : o2 = s.os := o
  exact ⟨.ref p, _, J, rfl, q.2 ys p pm so fr⟩
def rSortedU (K : PySem.W.Frag) (w : World) : List V → Hp → VK → Prop := fun xs H Q => match xs with
  | [.str z] => NewSorted (chars z) H Q
  | [.ref p] => (∃ l, H p = some (SetS w p l) ∧ NewSorted l H Q) ∨ (rSortedS K [.ref p] H Q ∨ rSortedI K [.ref p] H Q)
  | _ => False
theorem o_sorted {K : PySem.W.Frag} {w : World} (hc : X.calm = true) (hK : X.K = K := by rfl) (hw : X.w = w := by rfl) : CallR X (.builtin "sorted") (rSortedU K w) := by
  subst hK
  subst hw
  intro pins s σ H xs us Q I r h
  match xs, h with
  | [.str z], q =>
    obtain ⟨u, rfl, t, rfl⟩ := vals1 r
    have h64 : z.cps.size < 64 := by
      have e := q.1
      unfold chars at e
      rw [List.length_map, Array.length_toList] at e
      exact e
    refine new_sorted hc I q fun A Q' hA k => wpAny_collect_str hA z t (fun s' acc kp g d o it => k s' acc.toList (chars z) kp g o (items_strs it) (.refl _)) (by rw [sizeLine_eq]; omega)
  | [.ref p], .inl ⟨l, hp, q⟩ =>
    obtain ⟨u, rfl, hu⟩ := vals1 r
    obtain rfl : u = Value.ref p := hu
    obtain ⟨o, es, ep, t, ho, hx, hd, g, pm, nd, ⟨hb, hf⟩, hr, hl⟩ := setS_get I hp
    refine new_sorted hc I q fun A Q' hA k => collect_set hA ⟨o, ho, hx.1, hd⟩ hf hb hr hl fun s1 vs k1 _ g1 o1 p1 => ?_
    have key : ∀ (us : List Value), (∀ v ∈ us, ∃ x t, v = Value.str x t) → PyProof.Rows.StrsAre us (us.map fun v => txOf (0, v)) := by
      intro us
      induction us with
      | nil => exact fun _ => .nil
      | cons v r ih =>
        intro hv
        obtain ⟨x, t, rfl⟩ := hv v List.mem_cons_self
        exact .cons x t (ih fun u hu => hv u (List.mem_cons_of_mem _ hu))
    refine k s1 vs (vs.map fun v => txOf (0, v)) k1 g1 o1 (key vs fun v hv => ?_) ?_
    · obtain ⟨e, he, rfl⟩ := List.mem_map.mp (p1.mem_iff.mp hv)
      obtain ⟨x, tk, e1, _⟩ := g e he
      exact ⟨x, tk, e1⟩
    · have p2 := p1.map fun v => txOf (0, v)
      rw [List.map_map] at p2
      exact p2.trans pm
  | [.ref p], .inr h => exact (cr_sortedS.or cr_sortedI) pins s σ H [.ref p] us Q I r h
end
end SL

namespace SL
open PySem PySem.Spec PyProof.Rows L2 SX HT
section
variable {prog : Program} {w : World} {A : Around} {E : Value → Shared → Prop} {s : Shared}
theorem adjust_rev (n : Nat) : Builtin.Slice.sliceAdjust none none (-1) (n : Int) = ((n : Int) - 1, -1) := by
  unfold Builtin.Slice.sliceAdjust
  rfl
theorem places_rev (n : Nat) : Builtin.Slice.slicePlaces ((n : Int) - 1) (-1) (-1) = n := by
  unfold Builtin.Slice.slicePlaces
  have h1 : ¬ ((-1 : Int) > 0) := by decide
  simp only [h1, if_false]
  split
  · have e : (- (-1 : Int)) = 1 := by decide
    simp only [e, Int.ediv_one]
    omega
  · omega
theorem sliceApplied_rev {sl : Addr} {vl vu vs : Value} {n : Nat} {Q : Int × Int × Nat → Shared → Prop} (hs : s.heap.IsSliceOf sl vl vu vs) (pl : IsPart vl none) (pu : IsPart vu none) (ps : IsPart vs (some (-1)))
    (h : Q ((n : Int) - 1, -1, n) s) : wpAny (model prog w) A (Builtin.Slice.sliceApplied (.ref sl) (pure (n : Int))) Q E s := by
  obtain ⟨os, hos, hcs, hds⟩ := id hs
  unfold Builtin.Slice.sliceApplied Builtin.Slice.sliceFields
  refine wpAny_bind (wpAny_bind (wpAny_field hos hds (x := vl) rfl (wpAny_bind (wpAny_field hos hds (x := vu) rfl (wpAny_bind (wpAny_field hos hds (x := vs) rfl (wpAny_pure ?_)))))))
  refine wpAny_bind (slicePart_ ps ?_)
  show wpAny _ _ (if ((-1 : Int) == 0) = true then _ else _) _ _ s
  rw [if_neg (by decide)]
  refine wpAny_bind (slicePart_ pl (wpAny_bind (slicePart_ pu (wpAny_bind (wpAny_pure ?_)))))
  show wpAny _ _ (match Builtin.Slice.sliceAdjust none none (-1) (n : Int) with | (lo, hi) => pure (lo, (-1 : Int), Builtin.Slice.slicePlaces lo hi (-1))) _ _ s
  rw [adjust_rev n]
  show wpAny _ _ (pure ((n : Int) - 1, (-1 : Int), Builtin.Slice.slicePlaces ((n : Int) - 1) (-1) (-1))) _ _ s
  rw [places_rev]
  exact wpAny_pure h
theorem pick_rev (xs : Array Value) : ((List.range xs.size).filterMap fun (m : Nat) => xs[(((xs.size : Int) - 1) + (m : Int) * -1).toNat]?).toArray = xs.toList.reverse.toArray := by
  have e : (List.range xs.size).filterMap (fun (m : Nat) => xs[(((xs.size : Int) - 1) + (m : Int) * -1).toNat]?) = ((List.range xs.size).map fun k => xs.size - 1 - k).filterMap (xs[·]?) := by
    rw [List.filterMap_map]
    have key : ∀ (l : List Nat), (∀ m ∈ l, m < xs.size) → l.filterMap (fun (m : Nat) => xs[(((xs.size : Int) - 1) + (m : Int) * -1).toNat]?) = l.filterMap ((xs[·]?) ∘ fun k => xs.size - 1 - k) := by
      intro l
      induction l with
      | nil => exact fun _ => rfl
      | cons m r ih =>
        intro hm
        have e2 : (((xs.size : Int) - 1) + (m : Int) * -1).toNat = xs.size - 1 - m := by have := hm m List.mem_cons_self; omega
        rw [List.filterMap_cons, List.filterMap_cons, ih fun k hk => hm k (List.mem_cons_of_mem _ hk), e2]
        rfl
    exact key _ fun m hm => List.mem_range.mp hm
  rw [e, PySem.W.krv_range, List.filterMap_reverse, PySem.W.krv_all]
theorem getItem_tuple_rev {t sl : Addr} {items : Array Value} {vl vu vs : Value} {Q : Value → Shared → Prop} (ht : IsTup s.heap t items) (hs : s.heap.IsSliceOf sl vl vu vs) (pl : IsPart vl none) (pu : IsPart vu none) (ps : IsPart vs (some (-1)))
    (h : Q (.ref s.heap.objs.size) { s with heap := s.heap.push { cls := .type "tuple", data := .seq items.toList.reverse.toArray } }) (hsz : items.size ≤ sizeLine) : wpAny (model prog w) A (getItem (.ref t) (.ref sl)) Q E s := by
  have htake : sizeOk (.seq items.toList.reverse.toArray) := by
    show items.toList.reverse.toArray.size ≤ sizeLine
    rw [List.size_toArray, List.length_reverse, Array.length_toList]
    exact hsz
  obtain ⟨os, hos, hcs, hds⟩ := id hs
  have hTs : s.TypeIs (.ref sl) "slice" := ⟨os, hos, hcs⟩
  unfold getItem
  try with_reducible refine wpAny_holding ?_
  first | refine wpAny_bind (wpAny_pure ?_) | skip
  refine wpAny_bind (wpAny_sequenceKey ht.typeIs (by decide) ?_)
  refine wpAny_bind (wpAny_callSpecial?_slot (name := Str.ofString "__getitem__") ht.typeIs PyProof.Rows.slot_tuple_getitem
    (wpAny_call_entry PyProof.Rows.slot_tuple_getitem ht.typeIs entry_tuple_getitem ?_ (args_tuple_getitem _ _)))
  show wpAny _ _ (Builtin.Tuple.tupleItemsOf (.ref t) >>= _) _ _ s
  refine wpAny_bind (tupleItemsOf_ ht ?_)
  refine wpAny_bind (wpAny_typeOf hTs ?_)
  rw [if_pos (by decide)]
  refine wpAny_bind (sliceApplied_rev hs pl pu ps ?_)
  show wpAny _ _ (if (((items.size : Int) - 1) == 0 && (-1 : Int) == 1 && items.size == items.size) = true then _ else _) _ _ s
  rw [if_neg (by rw [show ((-1 : Int) == 1) = false from rfl, Bool.and_false, Bool.false_and]; exact Bool.false_ne_true), pick_rev]
  first
    | exact wpAny_bind (m := Builtin.Tuple.tupleExact _) (wpAny_newObj_type (wpAny_pure ⟨_, rfl, wpAny_pure h⟩) htake)
    | exact wpAny_bind (m := Builtin.Tuple.tupleExact _) (wpAny_newObj_type (wpAny_bind (wpAny_pure (wpAny_pure ⟨_, rfl, wpAny_pure h⟩))) htake)
    | exact wpAny_bind (wpAny_bind (m := Builtin.Tuple.tupleExact _) (wpAny_newObj_type (wpAny_pure (wpAny_pure ⟨_, rfl, wpAny_pure h⟩)) htake))
    | exact wpAny_bind (wpAny_bind (m := Builtin.Tuple.tupleExact _) (wpAny_newObj_type (wpAny_pure ⟨_, rfl, wpAny_pure h⟩) htake))
end
end SL

namespace SL
open PySem PySem.Spec PyProof.Rows L2 SX
theorem tyStr {K : PySem.W.Frag} {H : Hp} {z : Str} : tyV K "str" (.str z) H = True := propext ⟨fun _ => trivial, fun _ => rfl⟩
theorem tyLst {K : PySem.W.Frag} {H : Hp} {p : Addr} {xs : List V} (h : SqL K H p xs) : tyV K "list" (.ref p) H := .inl ⟨rfl, xs, h⟩
section
variable {X : Cx} {o e : Expr} {es : List Expr} {to : TE} {t : TA} {name : Str} {apos cpos : Pos} {T id : String} {r : V → List V → Hp → VK → Prop}
theorem pe_bmK {K : PySem.W.Frag} (pa : PlainAttrs T) (slot : Slot T name id) (hty : typeOf (.builtin id) = pure (.type "method_descriptor")) (hm : MtR X id r) (ho : PE X o to) (ha : PA X (e :: es) t)
    (hK : X.K = K := by rfl) (hbase : attributeBase o name X.env (eval o X.env) = eval o X.env := by rfl)
    (hfew : ((backTo cpos (starEach (e :: es) X.env)).all (fun x => !x.1) && (backToKw cpos (keywordEach [] X.env)).all (fun x => x.1.isSome)
      && decide ((e :: es).length + ([] : List Keyword).length + (if ([] : List Keyword).isEmpty then 0 else 1) < 30)) = true := by rfl)
    (hline : (apos.endLine == cpos.line) = true := by rfl) (hs : starEach (e :: es) X.env = (false, eval e X.env) :: starEach es X.env := by rfl) (hplain : (backTo cpos (starEach es X.env)).any (·.1) = false := by rfl) :
    PE X (.Call (.Attribute o name apos) (e :: es) [] cpos) (tBM K T r to t) := by
  subst hK
  exact pe_bm pa slot hty hm ho ha hbase hfew hline hs hplain
theorem pe_bm0K' {K : PySem.W.Frag} (pa : PlainAttrs T) (slot : Slot T name id) (hty : typeOf (.builtin id) = pure (.type "method_descriptor")) (hm : MtR X id r) (ho : PE X o to)
    (hK : X.K = K := by rfl) (hbase : attributeBase o name X.env (eval o X.env) = eval o X.env := by rfl) (hline : (apos.endLine == cpos.line) = true := by rfl) : PE X (.Call (.Attribute o name apos) [] [] cpos) (tBM0 K T r to) := by
  subst hK
  exact pe_bm0 pa slot hty hm ho hbase hline
theorem MtR.imp {r r' : V → List V → Hp → VK → Prop} (h : MtR X id r) (i : ∀ x xs H Q, r' x xs H Q → r x xs H Q) : MtR X id r' := fun pins s σ H x xs v us Q I rx rs q => h pins s σ H x xs v us Q I rx rs (i _ _ _ _ q)
def rJoin (K : PySem.W.Frag) : V → List V → Hp → VK → Prop := fun x xs H Q => match x, xs with
  | .str a, [.ref p] => ∃ ys : List Str, (SqL K H p (ys.map V.str) ∨ SqT K H p (ys.map V.str)) ∧ (ys.map (·.length)).sum + ys.length * a.length ≤ 16777216 ∧ Q (.str (Txt.join a ys)) H
  | _, _ => False
theorem mo_join {K : PySem.W.Frag} (hK : X.K = K := by rfl) : MtR X "str.join" (rJoin K) := by
  subst hK
  refine MtR.imp mt_join fun x xs H Q h => ?_
  match x, xs, h with
  | .str a, [.ref p], ⟨ys, h1, h2, q⟩ => exact ⟨a, p, ys, rfl, rfl, h1, h2, q⟩
def rCount : V → List V → Hp → VK → Prop := fun x xs H Q => match x, xs with
  | .str a, [.str b] => Q (.int (Txt.count a b)) H
  | _, _ => False
theorem mo_count : MtR X "str.count" rCount := by
  refine MtR.imp mt_count fun x xs H Q h => ?_
  match x, xs, h with
  | .str a, [.str b], q => exact ⟨a, b, rfl, rfl, q⟩
/-! ### len of anything -/
def rLenW (K : PySem.W.Frag) (w : World) : List V → Hp → VK → Prop := fun xs H Q => match xs with
  | [.str z] => z.length ≤ sizeLine ∧ Q (.int z.length) H
  | [.ref p] => (∃ l, H p = some (SetS w p l) ∧ Q (.int (l.length : Int)) H) ∨ ∃ n, LenV K (.ref p) H n ∧ Q (.int n) H
  | _ => False
theorem o_lenW {K : PySem.W.Frag} {w : World} (hK : X.K = K := by rfl) (hw : X.w = w := by rfl) : CallR X (.builtin "len") (rLenW K w) := by
  subst hK hw
  refine CallR.imp (CallR.or len_setS o_len) fun xs H Q h => ?_
  match xs, h with
  | [.str z], ⟨h1, h2⟩ => exact .inr ⟨_, ⟨h1, rfl⟩, h2⟩
  | [.ref p], .inl h => exact .inl h
  | [.ref p], .inr h => exact .inr h
/-! ### list of a text, a list, a tuple -/
def rListU (K : PySem.W.Frag) : List V → Hp → VK → Prop := fun xs H Q => match xs with
  | [.str z] => z.length ≤ sizeLine ∧ ∀ p, H p = none → Q (.ref p) (upd H p (.lst ((chars z).map V.str)))
  | [.ref p] => ∃ ys, (SqL K H p ys ∨ SqT K H p ys) ∧ ∀ l, H l = none → Q (.ref l) (upd H l (.lst ys))
  | _ => False
theorem o_list {K : PySem.W.Frag} (hc : X.calm = true) (hK : X.K = K := by rfl) : CallR X (.type "list") (rListU K) := by
  subst hK
  intro pins s σ H xs us Q I r h
  match xs, h with
  | [.str z], ⟨hz, q⟩ =>
    obtain ⟨u, rfl, t, rfl⟩ := vals1 r
    refine call_list_str (hn := hz) (I.ok.hd hc) z t fun h' tk acc' c' k e it => ?_
    have sa := items_strs it
    have fr := I.hok.fresh (Nat.le_refl s.heap.objs.size)
    have hl : ((chars z).map V.str).length ≤ sizeLine := by
      unfold chars
      rw [List.length_map, List.length_map, Array.length_toList]
      exact hz
    exact ⟨.ref s.heap.objs.size, _, I.laid (t' := tk) k (Nat.le_refl _) (show ObjOk X.prog X.w _ h' _ (.lst ((chars z).map V.str)) from ⟨hl, acc'.toList, c', vals_of_strs sa, e⟩), rfl, q _ fr⟩
  | [.ref p], ⟨ys, h1, q⟩ => exact call_list_of pins s σ H [.ref p] us Q I r ⟨p, ys, rfl, h1, q⟩
/-! ### x[::-1] -/
def rRevU (K : PySem.W.Frag) : V → Hp → VK → Prop := fun x H Q => match x with
  | .str z => z.length ≤ sizeLine ∧ Q (.str (S z.cps.toList.reverse)) H
  | .ref a => (∃ xs, SqT K H a xs ∧ ∀ p, H p = none → Q (.ref p) (upd H p (.tup xs.reverse))) ∨ ∃ xs, SqL K H a xs ∧ ∀ p, H p = none → Q (.ref p) (upd H p (.lst xs.reverse))
  | _ => False
theorem pe_rev {K : PySem.W.Frag} {e : Expr} {te : TE} {k : Nat} {p1 p2 p3 pos : Pos} (he : PE X e te) (hK : X.K = K := by rfl) : PE X (.Subscript e (.Slice none none (some (.UnaryOp .USub (.Constant (.int 1) k p1) p2)) p3) pos) (fun σ H Q => te σ H fun x H1 => rRevU K x H1 Q) := by
  subst hK
  refine ⟨fun pins s σ H Q I h => ?_⟩
  refine Subscript_ (thn (he.run pins s σ H _ I h) fun v s1 ⟨x, H1, I1, r1, q1⟩ => ?_)
  have hst : PO X (some (.UnaryOp .USub (.Constant (.int 1) k p1) p2)) (tPart (tUn (rU fun i => .int (-i)) (tC (.int 1)))) := po_some (pe_un un_neg pe_int)
  refine wpAny_Slice (thn (po_none.run pins s1 σ H1 (fun o H2 => o = none ∧ H2 = H1) I1 ⟨rfl, rfl⟩) fun vl s2 ⟨l, H2, I2, pl, el, e2⟩ => ?_)
  subst el e2
  refine thn (po_none.run pins s2 σ H2 (fun o H3 => o = none ∧ H3 = H2) I2 ⟨rfl, rfl⟩) fun vu s3 ⟨u, H3, I3, pu, eu, e3⟩ => ?_
  subst eu e3
  refine thn (hst.run pins s3 σ H3 (fun o H4 => o = some (-1) ∧ H4 = H3) I3 ⟨1, rfl, -1, rfl, rfl, rfl⟩) fun vs s4 ⟨o, H4, I4, ps, eo, e4⟩ => ?_
  subst eo e4
  have I5 : Inv X pins σ H4 { s4 with heap := s4.heap.push { cls := .type "slice", data := .fields #[vl, vu, vs] } } := I4.kept (t' := s4.toks) fun b ob q => Heap.get?_push_of_some _ q
  cases x with
  | ref a =>
    cases r1
    rcases q1 with ⟨xs, hx, q⟩ | ⟨xs, hx, q⟩
    · obtain ⟨its, r, ht, hz⟩ := I5.tuple hx
      have hlen := r.length
      refine tail_any (ops := [.ref a, .ref s4.heap.objs.size]) ht.typeIs (PyProof.Rows.slot_tuple_getitem.lookup) ?_ (by with_unfolding_all rfl)
      refine getItem_tuple_rev (items := its.toArray) ht (Heap.IsSliceOf.new _ vl vu vs) pl pu ps ?_ (by rw [List.size_toArray]; omega)
      refine ⟨.ref _, _, I5.laid (t' := s4.toks) (o := .tup xs.reverse) (fun b ob q => Heap.get?_push_of_some _ q) (Nat.le_refl _) ?_, rfl, q _ (I5.hok.fresh (Nat.le_refl _))⟩
      exact ⟨by rw [List.length_reverse]; exact hz, _, r.reverse, IsTup.new _ _⟩
    obtain ⟨its, r, ht, hz⟩ := I5.list hx
    have hlen := r.length
    refine tail_any (ops := [.ref a, .ref s4.heap.objs.size]) ht.isList.typeIs (PySem.slot_list_getitem.lookup) ?_ (by with_unfolding_all rfl)
    refine wpAny_getItem_list_slice ht.isList (Heap.IsSliceOf.new _ vl vu vs) pl pu ps (by decide) ?_ (by rw [List.size_toArray]; omega)
    rw [PySem.W.krv_pick]
    refine ⟨.ref _, _, I5.laid (t' := s4.toks) (o := .lst xs.reverse) (fun b ob q => Heap.get?_push_of_some _ q) (Nat.le_refl _) ?_, rfl, q _ (I5.hok.fresh (Nat.le_refl _))⟩
    exact ⟨by rw [List.length_reverse]; exact hz, _, 0, r.reverse, Heap.get?_push_size _ rfl⟩
  | str z =>
    obtain ⟨hz, q⟩ := q1
    obtain ⟨t, rfl⟩ := r1
    obtain ⟨l, rfl, hl⟩ := IsPart.raw pl
    obtain ⟨u, rfl, hu⟩ := IsPart.raw pu
    obtain ⟨st, rfl, hs⟩ := IsPart.raw ps
    refine tail_any (ops := [.str z t, .ref s4.heap.objs.size]) (typeIs_str _ _ _) (F.slot_str_getitem.lookup) ?_ (by with_unfolding_all rfl)
    refine wpAny_getItem_str_slice (l := l) (u := u) (st := st) ⟨_, Heap.get?_push_size _ rfl, rfl, rfl⟩ (by rw [hs]; rfl) ?_
    have hp : slicePicked z l u st = (List.range z.length).reverse := by
      unfold slicePicked
      rw [hl, hu, hs]
      show Builtin.Str.strSliceIndices none none (-1) z.length = _
      show sliceRange ((z.length : Int) - 1) (-1) (-1) = _
      rw [PySem.W.krv_sliceRange, PySem.W.krv_range]
    have ht : (List.range z.length).reverse.filterMap (z.cps[·]?) = z.cps.toList.reverse := by
      rw [List.filterMap_reverse, show z.length = z.cps.size from rfl, PySem.W.krv_all]
    unfold sliceMade
    rw [hs, hp, ht]
    show Made.post (if ((-1 : Int) == 1 && _) = true then _ else _) _ _
    rw [if_neg (by simp)]
    refine ⟨?_, .str _, H4, I5.tok _, ⟨_, rfl⟩, q⟩
    show (S z.cps.toList.reverse).length ≤ sizeLine
    rw [S_len, List.length_reverse, Array.length_toList]
    exact hz
  | _ => exact absurd q1 id
end
/-! ### texts by their signs -/
theorem cnt_one (a : List Nat) (c : Nat) : (0 < Txt.count (S a) (S [c])) = (c ∈ a) := by
  obtain ⟨f, h1, h2⟩ := StrLaws.occ_tight (S a) (S [c]) (Nat.le_refl 1)
  have e : Txt.count (S a) (S [c]) = ((Builtin.Str.occurrences (S a) (S [c]) 0 (S a).length ((S a).length + 1)).length : Nat) := rfl
  rw [e]
  refine propext ⟨fun h => ?_, fun h => ?_⟩
  · cases ho : Builtin.Str.occurrences (S a) (S [c]) 0 (S a).length ((S a).length + 1) with
    | nil => rw [ho] at h; exact absurd h (by decide)
    | cons i r =>
      rw [ho] at h1
      exact List.mem_of_getElem? ((StrLaws.subAt_one (S a) c i).mp h1.2.1)
  · obtain ⟨i, hi⟩ := List.mem_iff_getElem?.mp h
    cases ho : Builtin.Str.occurrences (S a) (S [c]) 0 (S a).length ((S a).length + 1) with
    | nil =>
      rw [ho] at h1
      cases (show f = 0 from h1)
      exact absurd ((StrLaws.subAt_one (S a) c i).mpr hi) (h2 i (Nat.zero_le _))
    | cons i r => exact Int.natCast_pos.mpr (Nat.succ_pos _)
theorem chars_S (a : List Nat) : chars (S a) = a.map fun c => S [c] := rfl
theorem join_chars : ∀ a : List Nat, Txt.join (S []) (a.map fun c => S [c]) = S a := by
  intro a
  have h : ∀ a : List Nat, TL.joinL [] (a.map fun c => [c]) = a := by
    intro a
    induction a with
    | nil => rfl
    | cons c r ih =>
      cases r with
      | nil => rfl
      | cons d r => exact congrArg (c :: ·) ih
  have e := SX.join_S [] (a.map fun c => [c])
  rw [h a, List.map_map] at e
  exact e
theorem len_chars (a : List Nat) : ((a.map fun c => S [c]).map (·.length)).sum + (a.map fun c => S [c]).length * (S []).length = a.length := by
  rw [S_len, List.length_nil, Nat.mul_zero, Nat.add_zero]
  induction a with
  | nil => rfl
  | cons c r ih =>
    rw [List.map_cons, List.map_cons, List.sum_cons, ih, S_len]
    simp; omega
end SL

namespace SL
open PySem PySem.Spec PyProof.Rows L2 SX
/-! ### enumerate of a text or a list -/
def Ites (z : Str) : It := ⟨fun i _ => i < z.cps.size, fun i H v H' => ∃ T c, v = .ref T ∧ H T = none ∧ H' = upd H T (.tup [.int (i : Nat), .str ⟨#[c]⟩]) ∧ z.cps[i]? = some c, fun i _ => z.cps.size ≤ i⟩
theorem turn_enumS {P : Program} {w : World} {K : PySem.W.Frag} {elts : List Expr} {kk : Nat} {tpos : Pos} (e it : Addr) (z : Str) (t : Tok) :
    Turn P w K (.Tuple elts kk tpos) (Ites z) [e, it] e (fun i h => (∃ old, IsEnum h e it ((i : Nat) : Int) old) ∧ h.IsStrIter it (strIterType z) z t i ∧ e ≠ it ∧ i ≤ z.cps.size) where
  mem := by simp
  obj := fun i h st b hb => by
    obtain ⟨⟨old, he⟩, ⟨o, ho, hc, hd⟩, _⟩ := st
    have e' : b = e ∨ b = it := by simpa using hb
    rcases e' with z | z
    · rw [z]; exact ⟨_, he, fun v q => nomatch q⟩
    · rw [z]; exact ⟨o, ho, fun v q => by rw [hd] at q; cases q⟩
  keep := fun i h h' st k => let ⟨⟨old, he⟩, ⟨o, ho, r⟩, hne, hi⟩ := st; ⟨⟨old, k e (by simp) _ he⟩, ⟨o, k it (by simp) o ho, r⟩, hne, hi⟩
  item := by
    intro X hP hw hK hc i pins s σ H E I hf st hg
    subst hP hw hK
    obtain ⟨⟨old, he⟩, hit, hne, hi⟩ := st
    have hg' : i < z.cps.size := hg
    have hel : e < s.heap.objs.size := Heap.lt_size he
    have hil : it < s.heap.objs.size := by obtain ⟨_, q, _⟩ := hit; exact Heap.lt_size q
    have D : Draws X.prog X.w X.A.in1 it [it] z.cps.size (fun i v => ∃ c u, z.cps[i]? = some c ∧ v = .str ⟨#[c]⟩ u) (fun i h => h.IsStrIter it (strIterType z) z t i) := by
      unfold strIterType
      split
      · exact Draws.strAscii (A := X.A.in1) (I.ok.hd hc) it z t
      · exact Draws.strWide (A := X.A.in1) (I.ok.hd hc) it z t
    refine wpAny_pyNext_enum_itemD D he hit hg' hne (by simpa using hne) fun x h' tk hPx ho hit' hT hsz hk => ?_
    obtain ⟨c, u, hcx, rfl⟩ := hPx
    refine ⟨_, rfl, wpAny_letOwnedTupleGo_enum (s := { s with heap := h', toks := tk + 1 }) ho fun h'' he' sb => ?_⟩
    have hT2 : h''.get? s.heap.objs.size = some { cls := .type "tuple", data := .seq #[.int i tk, .str ⟨#[c]⟩ u] } := (sb.2 _ (Nat.ne_of_gt hel)).trans hT
    have new : ObjOk X.prog X.w (upd H s.heap.objs.size (.tup [.int (i : Nat), .str ⟨#[c]⟩])) h'' s.heap.objs.size (.tup [.int (i : Nat), .str ⟨#[c]⟩]) :=
      ⟨by show 2 ≤ sizeLine; decide, [.int i tk, .str ⟨#[c]⟩ u], .cons ⟨_, rfl⟩ (.cons ⟨_, rfl⟩ .nil), ⟨_, hT2, rfl, _, rfl⟩⟩
    have I1 : Inv X pins σ (upd H s.heap.objs.size (.tup [.int (i : Nat), .str ⟨#[c]⟩])) { s with heap := h'', toks := tk + 1 } :=
      I.turnedNew (ch := [e, it]) (fun b ob hb q => (sb.2 b (fun z => hb (by simp [z]))).trans (hk b ob (fun z => hb (by simp [z])) (fun z => hb (by simp [z])) q)) hf (Nat.le_refl _) new
    refine ⟨.ref s.heap.objs.size, _, I1, rfl, ⟨_, c, rfl, I.hok.fresh (Nat.le_refl _), rfl, hcx⟩, ⟨⟨.str ⟨#[c]⟩ u, ?_⟩, ?_, hne, hg'⟩, fun b hb => ?_⟩
    · have e1 : ((i + 1 : Nat) : Int) = (i : Int) + 1 := by omega
      rw [e1]; exact he'
    · obtain ⟨o, ho', r⟩ := hit'
      exact ⟨o, (sb.2 it (Ne.symm hne)).trans ho', r⟩
    · have hb' : b < s.heap.objs.size := by
        have e' : b = e ∨ b = it := by simpa using hb
        rcases e' with z | z
        · rw [z]; exact hel
        · rw [z]; exact hil
      rw [upd_ne (Nat.ne_of_lt hb')]
      exact (hf b hb).1
  done := by
    intro X hP hw hK hc i pins s σ H E I hf st hg
    subst hP hw hK
    obtain ⟨⟨old, he⟩, hit, hne, hi⟩ := st
    have hg' : z.cps.size ≤ i := hg
    have ei : i = z.cps.size := by omega
    subst ei
    obtain ⟨f0, f1, f2, f3, f4, f5⟩ := hf it (by simp)
    have D : Draws X.prog X.w X.A.in1 it [it] z.cps.size (fun i v => ∃ c u, z.cps[i]? = some c ∧ v = .str ⟨#[c]⟩ u) (fun i h => h.IsStrIter it (strIterType z) z t i) := by
      unfold strIterType
      split
      · exact Draws.strAscii (A := X.A.in1) (I.ok.hd hc) it z t
      · exact Draws.strWide (A := X.A.in1) (I.ok.hd hc) it z t
    exact wpAny_pyNext_enum_endD D he hit fun h' eb => ⟨rfl, I.turned (t' := s.toks) (fun b o hb q => eb b o hb q) f0 f1 f3 f4 f5⟩
  self := fun A i s Q E st h => let ⟨⟨_, he⟩, _⟩ := st; wpAny_pyIter_enum he h
def iEnumU (K : PySem.W.Frag) (ta : TA) : TI := fun σ H R => ta σ H fun vs H1 => match vs with
  | [.ref a] => (∃ xs, SqL K H1 a xs) ∧ R (Ite K a) H1
  | [.str z] => R (Ites z) H1
  | _ => False
theorem pi_enumS {X : Cx} {e : Expr} {ta : TA} {p pos tpos : Pos} {elts : List Expr} {kk : Nat} (hg : Gl X "enumerate") (hm : X.mg "enumerate" = none) (ha : PA X [e] ta) (hs : starEach [e] X.env = [(false, eval e X.env)] := by rfl) :
    PI X (.Tuple elts kk tpos) (.Call (.Name "enumerate" p) [e] [] pos) (fun σ H R => ta σ H fun vs H1 => ∃ z, vs = [.str z] ∧ R (Ites z) H1) := by
  refine ⟨fun pins s σ H R I h => ?_⟩
  refine Call_ (ld_blt I hg hm boot_enumerate (PyProof.Rows.callWith_type1 (thn (ha.run pos pins s σ H _ I h) fun us s1 ⟨vs, H1, I1, r1, q1⟩ => ?_) hs rfl))
  obtain ⟨z, ex, q⟩ := q1
  subst ex
  cases r1 with
  | cons r rr =>
    cases rr
    obtain ⟨t, rfl⟩ := r
    refine call_enumerate_str fun h' he hit hsz hk => wpAny_pyIter_enum he ?_
    have I2 : Inv X pins σ H1 { s1 with heap := h' } := I1.kept (t' := s1.toks) hk
    refine ⟨s1.heap.objs.size + 1, [s1.heap.objs.size + 1, s1.heap.objs.size], _, _, H1, rfl, I2, turn_enumS (s1.heap.objs.size + 1) s1.heap.objs.size z t, ⟨⟨.none, he⟩, hit, Nat.succ_ne_self _, Nat.zero_le _⟩, fun b hb => ?_, q⟩
    have e' : b = s1.heap.objs.size + 1 ∨ b = s1.heap.objs.size := by simpa using hb
    have hle : s1.heap.objs.size ≤ b := by
      rcases e' with z | z
      · rw [z]; exact Nat.le_add_right _ _
      · rw [z]; exact Nat.le_refl _
    exact I1.fpOk hle (I1.hok.fresh hle)
theorem o_enum {X : Cx} {K : PySem.W.Frag} {e : Expr} {te : TE} {p pos tpos : Pos} {elts : List Expr} {kk : Nat} (hg : Gl X "enumerate") (hm : X.mg "enumerate" = none) (he : PE X e te) (hs : starEach [e] X.env = (false, eval e X.env) :: starEach [] X.env := by rfl) (hK : X.K = K := by rfl) :
    PI X (.Tuple elts kk tpos) (.Call (.Name "enumerate" p) [e] [] pos) (iEnumU K (tCons te tNil)) := by
  subst hK
  refine ⟨fun pins s σ H R I h => ?_⟩
  refine Call_ (ld_blt I hg hm boot_enumerate (PyProof.Rows.callWith_type1 (args_cons (thn (he.run pins s σ H _ I h) fun u s1 ⟨v, H1, I1, r1, q1⟩ => args_nil ?_) hs) hs rfl))
  have q2 : (match [v] with
    | [.ref a] => (∃ xs, SqL X.K H1 a xs) ∧ R (Ite X.K a) H1
    | [.str z] => R (Ites z) H1
    | _ => False) := q1
  cases v with
  | ref a =>
    obtain ⟨⟨xs, hq⟩, q⟩ := q2
    cases r1
    obtain ⟨its, rv, p', hz⟩ := I1.list hq
    refine call_enumerate_list p'.isList fun h' he hit hsz hk => wpAny_pyIter_enum he ?_
    have I2 : Inv X pins σ H1 { s1 with heap := h' } := I1.kept (t' := s1.toks) hk
    refine ⟨s1.heap.objs.size + 1, [s1.heap.objs.size + 1, s1.heap.objs.size], _, _, H1, rfl, I2, turn_enum a (s1.heap.objs.size + 1) s1.heap.objs.size, ⟨⟨.none, he⟩, hit, Nat.succ_ne_self _⟩, fun b hb => ?_, q⟩
    have e' : b = s1.heap.objs.size + 1 ∨ b = s1.heap.objs.size := by simpa using hb
    have hle : s1.heap.objs.size ≤ b := by
      rcases e' with z | z
      · rw [z]; exact Nat.le_add_right _ _
      · rw [z]; exact Nat.le_refl _
    exact I1.fpOk hle (I1.hok.fresh hle)
  | str z =>
    obtain ⟨t, rfl⟩ := r1
    refine call_enumerate_str fun h' he hit hsz hk => wpAny_pyIter_enum he ?_
    have I2 : Inv X pins σ H1 { s1 with heap := h' } := I1.kept (t' := s1.toks) hk
    refine ⟨s1.heap.objs.size + 1, [s1.heap.objs.size + 1, s1.heap.objs.size], _, _, H1, rfl, I2, turn_enumS (s1.heap.objs.size + 1) s1.heap.objs.size z t, ⟨⟨.none, he⟩, hit, Nat.succ_ne_self _, Nat.zero_le _⟩, fun b hb => ?_, q2⟩
    have e' : b = s1.heap.objs.size + 1 ∨ b = s1.heap.objs.size := by simpa using hb
    have hle : s1.heap.objs.size ≤ b := by
      rcases e' with z | z
      · rw [z]; exact Nat.le_add_right _ _
      · rw [z]; exact Nat.le_refl _
    exact I1.fpOk hle (I1.hok.fresh hle)
  | _ => exact absurd q2 id
theorem walk_enumS {z : Str} : Walk (Ites z) z.cps.size (fun _ => True) (YPair (fun i => some (.int (i : Nat))) (fun i => z.cps[i]?.map fun c => .str ⟨#[c]⟩)) :=
  ⟨fun _ _ hi _ => hi, fun _ _ => Nat.le_refl _, fun i H v H' _ _ y => by
    obtain ⟨T, c, h1, h2, h3, h4⟩ := y
    exact ⟨T, .int (i : Nat), .str ⟨#[c]⟩, h1, h2, h3, rfl, by simp [h4]⟩⟩
/-- a comprehension over pairs -/
theorem lc_pair {K : PySem.W.Frag} {J0 : It} {n : Nat} {G : Hp → Prop} {f g : Nat → Option V} {wi : TI} {i j : Nat} {te : TE} {vs : List Nat} {σ : L2.St} {H H0 : Hp} {Q : VK} (h : wi σ H fun J H1 => J = J0 ∧ H1 = H0) (w : Walk J0 n G (YPair f g)) (hn : n < 16777216) (C : Nat → List V → Hp → Prop) (hC : ∀ k acc Ha Hb, NL Ha Hb → C k acc Ha → C k acc Hb) (h0 : C 0 [] H0)
    (hG : ∀ H', Same H0 H' → G H') (hw : ∀ x y, wipe (((wipe σ vs).set i (some x)).set j (some y)) vs = wipe σ vs)
    (turn : ∀ k x y acc H' H'', k < n → Same H0 H' → C k acc H' → Same H' H'' → f k = some x → g k = some y → tMid te (((wipe σ vs).set i (some x)).set j (some y)) H'' fun v H4 => Same H'' H4 ∧ C (k + 1) (acc ++ [v]) H4)
    (done : ∀ p acc H', H0 p = none → Same H0 H' → H' p = some (.lst acc) → acc.length = n → C n acc H' → Q (.ref p) H') : tLc (iMid wi) (gTup K 2 (gCons (gName i) (gCons (gName j) gNil))) tYes (tMid te) vs σ H Q := by
  refine ⟨_, h, ?_⟩
  rintro J H1 ⟨rfl, rfl⟩ p hp
  refine lc_it w (fun k H' => ∃ acc, Same H1 H' ∧ H' p = some (.lst acc) ∧ acc.length = k ∧ C k acc H') ⟨[], same_new hp, upd_same, rfl, hC _ _ _ _ (NL.of (same_new hp)) h0⟩ (fun k H' _ ⟨acc, s, _⟩ => hG H' s) ?_ fun H' ⟨acc, s, hD, hl, c⟩ => done p acc H' hp s hD hl c
  rintro k v H' H'' hk ⟨acc, s, hD, hl, c⟩ ⟨T, x, y, rfl, hT, rfl, hx, hy⟩
  have s2 : Same H' (upd H' T (.tup [x, y])) := same_new hT
  refine ⟨T, [x, y], rfl, .inl (.inl upd_same), rfl, x, [y], rfl, y, [], rfl, rfl, hw x y, ?_⟩
  obtain ⟨R, h1, h2⟩ := turn k x y acc H' _ hk s c s2 hx hy
  refine ⟨R, h1, ?_⟩
  rintro v H4 hR
  obtain ⟨s3, c'⟩ := h2 v H4 hR
  have hD4 : H4 p = some (.lst acc) := s3 _ _ (s2 _ _ hD)
  refine ⟨acc, hD4, by rw [sizeLine_eq]; omega, acc ++ [v], same_mut ((s.trans s2).trans s3) hp, upd_same, by rw [List.length_append, hl]; rfl, hC _ _ _ _ (nl_upd hD4) c'⟩
/-! ### max, min, insert -/
section
variable {X : Cx}
def rMaxU (K : PySem.W.Frag) : List V → Hp → VK → Prop := fun xs H Q => match xs with
  | [.int i, .int j] => Q (.int (if j > i then j else i)) H
  | [.ref a] => rMax K [.ref a] H Q
  | _ => False
theorem o_max {K : PySem.W.Frag} (hc : X.calm = true) (hK : X.K = K := by rfl) : CallR X (.builtin "max") (rMaxU K) := by
  subst hK
  refine CallR.imp (CallR.or (call_max2 hc) (cr_max hc)) fun xs H Q h => ?_
  match xs, h with
  | [.int i, .int j], q => exact .inl ⟨i, j, rfl, q⟩
  | [.ref a], q => exact .inr q
def rMinU (K : PySem.W.Frag) : List V → Hp → VK → Prop := fun xs H Q => match xs with
  | [.int i, .int j] => Q (.int (if j < i then j else i)) H
  | [.ref a] => rMin K [.ref a] H Q
  | _ => False
theorem o_min {K : PySem.W.Frag} (hc : X.calm = true) (hK : X.K = K := by rfl) : CallR X (.builtin "min") (rMinU K) := by
  subst hK
  refine CallR.imp (CallR.or (call_min2 hc) (cr_min hc)) fun xs H Q h => ?_
  match xs, h with
  | [.int i, .int j], q => exact .inl ⟨i, j, rfl, q⟩
  | [.ref a], q => exact .inr q
def rInsert : V → List V → Hp → VK → Prop := fun x vs H Q => match x, vs with
  | .ref l, [.int i, y] => ∃ xs, H l = some (.lst xs) ∧ xs.length < sizeLine ∧ 0 ≤ i ∧ i < 2 ^ 63 ∧ Q .non (upd H l (.lst (xs.take i.toNat ++ [y] ++ xs.drop i.toNat)))
  | _, _ => False
theorem mo_insert : MtR X "list.insert" rInsert := by
  refine MtR.imp mt_insert fun x vs H Q h => ?_
  match x, vs, h with
  | .ref l, [.int i, y], ⟨xs, h1, h2, h3, h4, q⟩ => exact ⟨l, xs, i, y, rfl, rfl, h1, h2, h3, h4, q⟩
end
end SL

namespace SL
open PySem PySem.Spec PyProof.Rows L2 SX
theorem ifT {α : Sort _} {d : Decidable True} {a b : α} : @ite α True d a b = a := if_pos trivial
theorem ifF {α : Sort _} {d : Decidable False} {a b : α} : @ite α False d a b = b := if_neg id
/-- a statement by what is wanted behind it -/
def sMid (t : TS) : TS := fun D σ H => ∃ D' : Ends, t D' σ H ∧ (∀ σ H, D'.nx σ H → D.nx σ H) ∧ (∀ v H, D'.rt v H → D.rt v H) ∧ (∀ σ H, D'.bk σ H → D.bk σ H) ∧ ∀ σ H, D'.ct σ H → D.ct σ H
theorem ps_mid {X : Cx} {st : Stmt} {t : TS} (h : PS X st t) : PS X st (sMid t) := ⟨fun pins s σ H D I ⟨D', h1, n, r, b, c⟩ => thn (h.run pins s σ H D' I h1) fun f s' q => by
  cases f with
  | next => obtain ⟨σ', H', J, k⟩ := q; exact ⟨σ', H', J, n _ _ k⟩
  | brk => obtain ⟨σ', H', J, k⟩ := q; exact ⟨σ', H', J, b _ _ k⟩
  | cont => obtain ⟨σ', H', J, k⟩ := q; exact ⟨σ', H', J, c _ _ k⟩
  | ret u => obtain ⟨v, σ', H', J, e, k⟩ := q; exact ⟨v, σ', H', J, e, r _ _ k⟩⟩
/-- a statement, then the rest: Pm stands between -/
theorem q_stm {t u : TS} {D : Ends} {σ : L2.St} {H : Hp} (Pm : L2.St → Hp → Prop) (h : t { D with nx := Pm } σ H) (k : ∀ σ H, Pm σ H → u D σ H) : tSeq (sMid t) u D σ H :=
  ⟨{ D with nx := Pm }, h, k, fun _ _ q => q, fun _ _ q => q, fun _ _ q => q⟩
/-! ### forms of parts, as the laws write them -/
inductive PF where
  | one (c : Nat)
  | any
  | among (l : List Nat) (o : Bool)
  | stars
deriving DecidableEq
def SIG : List Nat := (Str.ofString "-.0123456789_abcdefghijklmnopqrstuvwxyz").cps.toList
theorem sig_str : Str.ofString "-.0123456789_abcdefghijklmnopqrstuvwxyz" = S SIG := rfl
theorem sig_len : SIG.length = 39 := by decide +kernel
theorem sig_nd : SIG.Nodup := by decide +kernel
theorem sig_up : SIG.Pairwise (· < ·) := by decide +kernel
def PF.d : PF → PyData
  | .one c => .tuple [.str "one", .str (S [c])]
  | .any => .tuple [.str "any"]
  | .among l o => .tuple [.str "among", .str (S l), .bool o]
  | .stars => .tuple [.str "stars"]
/-- a set of signs, rising -/
structure SigSet (l : List Nat) : Prop where
  ne : l ≠ []
  up : l.Pairwise (· < ·)
  sg : ∀ c ∈ l, c ∈ SIG
def PF.Ok : PF → Prop
  | .one c => c ∈ SIG
  | .among l _ => SigSet l ∧ l.length ≤ 12
  | _ => True
def PF.fits (f : PF) (c : Nat) : Bool := match f with
  | .one d => decide (c = d)
  | .among l o => (decide (c ∈ l)) != o
  | _ => true
def PF.many : PF → Bool
  | .stars => true
  | _ => false
/-- sets outside are of three signs at most -/
def PF.Low : PF → Prop
  | .among l true => l.length ≤ 3
  | _ => True
theorem PF.low_of {f : PF} (h : ∀ l o, f = .among l o → l.length ≤ 3) : f.Low := by
  cases f with
  | among l o =>
    cases o with
    | true => exact h l true rfl
    | false => trivial
  | _ => trivial
theorem manyOne {c : Nat} : (PF.one c).many = false := rfl
theorem manyAny : PF.any.many = false := rfl
theorem manyAmong {l : List Nat} {o : Bool} : (PF.among l o).many = false := rfl
theorem manyStars : PF.stars.many = true := rfl
theorem nd_up {l : List Nat} (h : l.Pairwise (· < ·)) : l.Nodup := h.imp fun h => Nat.ne_of_lt h
theorem str_nd_len : ∀ (l D : List Str), l.Nodup → (∀ x ∈ l, x ∈ D) → l.length ≤ D.length
  | [], _, _, _ => Nat.zero_le _
  | x :: l, D, hn, hs => by
    obtain ⟨h1, h2⟩ := List.nodup_cons.mp hn
    have hx : x ∈ D := hs x List.mem_cons_self
    have ih := str_nd_len l (D.erase x) h2 fun y hy => by
      have hne : y ≠ x := fun e => h1 (e ▸ hy)
      exact (List.mem_erase_of_ne hne).2 (hs y (List.mem_cons_of_mem _ hy))
    have e := List.length_erase_of_mem hx
    have hp : 0 < D.length := List.length_pos_of_mem hx
    rw [List.length_cons]
    omega
theorem nd_len {l : List Nat} (h : l.Nodup) (s : ∀ c ∈ l, c ∈ SIG) : l.length ≤ 39 := by
  have e := nat_nodup_len l SIG h s
  rw [sig_len] at e
  exact e
theorem SigSet.len {l : List Nat} (h : SigSet l) : l.length ≤ 39 := nd_len (nd_up h.up) h.sg
/-- data that may be compared, at most n deep -/
def DOk (n : Nat) (d : PyData) : Prop := d.canLay0 = true ∧ d.depth ≤ n
theorem DOk.up {n m : Nat} {d : PyData} (h : DOk n d) (e : n ≤ m) : DOk m d := ⟨h.1, Nat.le_trans h.2 e⟩
theorem dok_str {x : Str} {n : Nat} (h : PyData.strOk x = true) : DOk n (.str x) := ⟨by simp only [PyData.canLay0]; exact h, by simp only [PyData.depth]; omega⟩
theorem dok_bl {b : Bool} {n : Nat} : DOk n (.bool b) := ⟨by simp only [PyData.canLay0], by simp only [PyData.depth]; omega⟩
theorem dok_int {i : Int} {n : Nat} : DOk n (.int i) := ⟨by simp only [PyData.canLay0], by simp only [PyData.depth]; omega⟩
theorem dok_non {n : Nat} : DOk n .none := ⟨by simp only [PyData.canLay0], by simp only [PyData.depth]; omega⟩
theorem dok_all {n : Nat} : ∀ {ds : List PyData}, (∀ d ∈ ds, DOk n d) → PyData.canLayAll0 ds = true ∧ PyData.depthAll ds ≤ n
  | [], _ => ⟨by simp only [PyData.canLayAll0], by simp only [PyData.depthAll]; omega⟩
  | d :: r, h => by
    have h1 := h d List.mem_cons_self
    have h2 := dok_all (ds := r) fun e he => h e (List.mem_cons_of_mem _ he)
    refine ⟨by simp only [PyData.canLayAll0, h1.1, h2.1]; rfl, ?_⟩
    simp only [PyData.depthAll]
    have := h1.2
    have := h2.2
    omega
theorem dok_tup {n : Nat} {ds : List PyData} (h : ∀ d ∈ ds, DOk n d) : DOk (n + 1) (.tuple ds) := by
  have e := dok_all h
  exact ⟨by simp only [PyData.canLay0]; exact e.1, by simp only [PyData.depth]; omega⟩
theorem dok_lst {n : Nat} {ds : List PyData} (h : ∀ d ∈ ds, DOk n d) : DOk (n + 1) (.list ds) := by
  have e := dok_all h
  exact ⟨by simp only [PyData.canLay0]; exact e.1, by simp only [PyData.depth]; omega⟩
theorem DOk.shaped {n : Nat} {d : PyData} (h : DOk n d) (e : n ≤ 64) : SeqAt.shaped d = true := by
  show (d.canLay0 && decide (d.depth ≤ 64)) = true
  rw [Bool.and_eq_true]
  exact ⟨h.1, decide_eq_true (Nat.le_trans h.2 e)⟩
theorem DOk.eqv {n : Nat} {d : PyData} (h : DOk n d) : PyData.eqv d d = true := SeqAt.eqv_refl _ h.1
theorem all_nil {p : PyData → Prop} : ∀ d ∈ ([] : List PyData), p d := fun _ h => nomatch h
theorem all_cons {p : PyData → Prop} {x : PyData} {l : List PyData} (h : p x) (t : ∀ d ∈ l, p d) : ∀ d ∈ x :: l, p d := fun d h' => (List.mem_cons.mp h').elim (fun e => e ▸ h) (t d)
theorem ok_signs {l : List Nat} (h : ∀ c ∈ l, c ∈ SIG) : PyData.strOk (S l) = true := by
  have k : ∀ c ∈ SIG, c < 128 := by decide +kernel
  unfold PyData.strOk
  rw [← Array.all_toList, List.all_eq_true]
  exact fun c hc => decide_eq_true (Nat.lt_trans (k c (h c hc)) (by decide))
theorem PF.dok {f : PF} (h : f.Ok) : DOk 1 f.d := by
  cases f with
  | one c => exact dok_tup (all_cons (dok_str (by decide +kernel)) (all_cons (dok_str (ok_signs fun d hd => by rw [List.mem_singleton.mp hd]; exact h)) all_nil))
  | any => exact dok_tup (all_cons (dok_str (by decide +kernel)) all_nil)
  | among l o => exact dok_tup (all_cons (dok_str (by decide +kernel)) (all_cons (dok_str (ok_signs h.1.sg)) (all_cons dok_bl all_nil)))
  | stars => exact dok_tup (all_cons (dok_str (by decide +kernel)) all_nil)
/-! ### signs put in order -/
theorem S1_inj {a b : Nat} (h : S [a] = S [b]) : a = b := List.head_eq_of_cons_eq (S_inj h)
theorem map1_mem {cs : List Nat} {c : Nat} : S [c] ∈ (cs.map fun c => S [c]) ↔ c ∈ cs := by
  rw [List.mem_map]
  exact ⟨fun ⟨d, hd, e⟩ => by rw [← S1_inj e]; exact hd, fun h => ⟨c, h, rfl⟩⟩
theorem signs_of : ∀ {ys : List Str}, (∀ y ∈ ys, ∃ c, y = S [c]) → ∃ cs : List Nat, ys = cs.map fun c => S [c]
  | [], _ => ⟨[], rfl⟩
  | y :: r, h => by
    obtain ⟨c, rfl⟩ := h y List.mem_cons_self
    obtain ⟨cs, rfl⟩ := signs_of (ys := r) fun z hz => h z (List.mem_cons_of_mem _ hz)
    exact ⟨c :: cs, rfl⟩
theorem rising_codes : ∀ (cs : List Nat) (p : Nat), risingS (S [p]) (cs.map fun c => S [c]) = true → (p :: cs).Pairwise (· ≤ ·)
  | [], p, _ => by simp
  | c :: r, p, h => by
    have h' : (!ltCps [c] [p] && risingS (S [c]) (r.map fun c => S [c])) = true := h
    rw [Bool.and_eq_true] at h'
    have h1 : p ≤ c := by
      have e := h'.1
      unfold ltCps at e
      simp [ltCps] at e
      exact e
    have h2 := rising_codes r c h'.2
    refine List.pairwise_cons.mpr ⟨fun d hd => ?_, h2⟩
    rcases List.mem_cons.mp hd with rfl | hd
    · exact h1
    · exact Nat.le_trans h1 ((List.pairwise_cons.mp h2).1 d hd)
theorem sorted_codes : ∀ (cs : List Nat), sortedS (cs.map fun c => S [c]) = true → cs.Pairwise (· ≤ ·)
  | [], _ => .nil
  | c :: r, h => rising_codes r c h
theorem le_lt_nd : ∀ {l : List Nat}, l.Pairwise (· ≤ ·) → l.Nodup → l.Pairwise (· < ·)
  | [], _, _ => .nil
  | a :: r, h, n => by
    have h' := List.pairwise_cons.mp h
    have n' := List.nodup_cons.mp n
    refine List.pairwise_cons.mpr ⟨fun b hb => ?_, le_lt_nd h'.2 n'.2⟩
    have e := h'.1 b hb
    have q : a ≠ b := fun z => n'.1 (z ▸ hb)
    omega
theorem nd_unmap : ∀ {cs : List Nat}, (cs.map fun c => S [c]).Nodup → cs.Nodup
  | [], _ => .nil
  | c :: r, h => by
    have h' := List.nodup_cons.mp h
    exact List.nodup_cons.mpr ⟨fun q => h'.1 (map1_mem.mpr q), nd_unmap h'.2⟩
/-- sorted signs, each once -/
theorem sorted_signs {ys zs : List Str} (pm : ys.Perm zs) (so : sortedS ys = true) (nd : zs.Nodup) (h : ∀ z ∈ zs, ∃ c, z = S [c]) : ∃ cs : List Nat, ys = cs.map (fun c => S [c]) ∧ cs.Pairwise (· < ·) ∧ ∀ c, c ∈ cs ↔ S [c] ∈ zs := by
  obtain ⟨cs, rfl⟩ := signs_of (ys := ys) fun y hy => h y (pm.mem_iff.mp hy)
  exact ⟨cs, rfl, le_lt_nd (sorted_codes cs so) (nd_unmap (pm.nodup_iff.mpr nd)), fun c => by rw [← pm.mem_iff, map1_mem]⟩
/-- a text of different signs, one at least -/
def Good (z : Str) : Prop := ∃ l, SigSet l ∧ z.cps.toList.Perm l
theorem not_nd : ∀ {zs : List Str}, ¬ zs.Nodup → ∃ x ∈ zs, ∀ y ∈ zs, y ∈ zs.erase x
  | [], h => absurd .nil h
  | a :: r, h => by
    by_cases ha : a ∈ r
    · refine ⟨a, List.mem_cons_self, fun y hy => ?_⟩
      rw [List.erase_cons_head]
      exact (List.mem_cons.mp hy).elim (fun e => e ▸ ha) id
    · obtain ⟨x, hx, hs⟩ := not_nd (zs := r) fun n => h (List.nodup_cons.mpr ⟨ha, n⟩)
      have hne : a ≠ x := fun e => ha (e ▸ hx)
      refine ⟨x, List.mem_cons_of_mem _ hx, fun y hy => ?_⟩
      rw [List.erase_cons_tail (by simpa using hne)]
      exact (List.mem_cons.mp hy).elim (fun e => e ▸ List.mem_cons_self) fun q => List.mem_cons_of_mem _ (hs y q)
/-- how many different texts there are tells whether each is there once -/
theorem set_len {l zs : List Str} (nd : l.Nodup) (h : ∀ x, x ∈ l ↔ x ∈ zs) : (l.length < zs.length) = ¬ zs.Nodup := by
  refine propext ⟨fun hl n => ?_, fun hn => ?_⟩
  · have := str_nd_len zs l n fun x hx => (h x).mpr hx
    omega
  · obtain ⟨x, hx, hs⟩ := not_nd hn
    have a := str_nd_len l (zs.erase x) nd fun y hy => hs y ((h y).mp hy)
    have b := List.length_erase_of_mem hx
    have c := List.length_pos_of_mem hx
    omega
theorem nd_map1 : ∀ {cs : List Nat}, cs.Nodup → (cs.map fun c => S [c]).Nodup
  | [], _ => .nil
  | c :: r, h => by
    have h' := List.nodup_cons.mp h
    exact List.nodup_cons.mpr ⟨fun q => h'.1 (map1_mem.mp q), nd_map1 h'.2⟩
theorem insU_up (a : Nat) : ∀ (l : List Nat), l.Pairwise (· < ·) → a ∉ l → ∃ m : List Nat, m.Pairwise (· < ·) ∧ (a :: l).Perm m
  | [], _, _ => ⟨[a], List.pairwise_singleton _ _, .refl _⟩
  | b :: r, h, n => by
    have h' := List.pairwise_cons.mp h
    rcases Nat.lt_trichotomy a b with q | q | q
    · exact ⟨a :: b :: r, List.pairwise_cons.mpr ⟨fun c hc => (List.mem_cons.mp hc).elim (fun e => e ▸ q) fun e => Nat.lt_trans q (h'.1 c e), h⟩, .refl _⟩
    · exact absurd (q ▸ List.mem_cons_self) n
    · obtain ⟨m, m1, m2⟩ := insU_up a r h'.2 fun e => n (List.mem_cons_of_mem _ e)
      refine ⟨b :: m, List.pairwise_cons.mpr ⟨fun c hc => ?_, m1⟩, (List.Perm.swap b a r).trans (m2.cons b)⟩
      exact (List.mem_cons.mp (m2.mem_iff.mpr hc)).elim (fun e => e ▸ q) (h'.1 c)
theorem up_of : ∀ {l : List Nat}, l.Nodup → ∃ m : List Nat, m.Pairwise (· < ·) ∧ l.Perm m
  | [], _ => ⟨[], .nil, .refl _⟩
  | a :: r, h => by
    have h' := List.nodup_cons.mp h
    obtain ⟨m, m1, m2⟩ := up_of h'.2
    obtain ⟨k, k1, k2⟩ := insU_up a m m1 fun e => h'.1 (m2.mem_iff.mpr e)
    exact ⟨k, k1, (m2.cons a).trans k2⟩
theorem good_iff {z : Str} : Good z ↔ z ≠ S [] ∧ (chars z).Nodup ∧ ∀ c ∈ z.cps.toList, c ∈ SIG := by
  refine ⟨fun ⟨l, ok, pm⟩ => ⟨fun e => ?_, nd_map1 (pm.nodup_iff.mpr (nd_up ok.up)), fun c hc => ok.sg c (pm.mem_iff.mp hc)⟩, fun ⟨ne, nd, sg⟩ => ?_⟩
  · rw [e] at pm
    exact ok.ne (List.nil_perm.mp pm)
  · obtain ⟨m, m1, m2⟩ := up_of (nd_unmap nd)
    refine ⟨m, ⟨fun e => ne ?_, m1, fun c hc => sg c (m2.mem_iff.mpr hc)⟩, m2⟩
    rw [e] at m2
    have e2 := m2.eq_nil
    exact (S_tl z).symm.trans (congrArg S e2)
/-- two rising lists with the same members are one -/
theorem up_eq {a b : List Nat} (ha : a.Pairwise (· < ·)) (hb : b.Pairwise (· < ·)) (h : ∀ c, c ∈ a ↔ c ∈ b) : a = b := by
  have p : a.Perm b := (List.perm_ext_iff_of_nodup (nd_up ha) (nd_up hb)).mpr h
  exact p.eq_of_pairwise (fun x y _ _ h1 h2 => absurd h1 (Nat.lt_asymm h2)) ha hb
theorem lkSign {a : V} : List.lookup (Str.ofString "sign") [(Str.ofString "sign", a)] = some a := rfl
theorem lkSigns {a b : V} : List.lookup (Str.ofString "signs") [(Str.ofString "signs", a), (Str.ofString "outside", b)] = some a := rfl
theorem lkParts {a : V} : List.lookup (Str.ofString "parts") [(Str.ofString "parts", a)] = some a := rfl
theorem lkOut {a b : V} : List.lookup (Str.ofString "outside") [(Str.ofString "signs", a), (Str.ofString "outside", b)] = some b := rfl
theorem pfNil {f : Str} {y : V} : putF f y [] = [(f, y)] := rfl
theorem pfOut {a y : V} : putF (Str.ofString "outside") y [(Str.ofString "signs", a)] = [(Str.ofString "signs", a), (Str.ofString "outside", y)] := rfl
theorem lkSteps {a b c : V} : List.lookup (Str.ofString "steps") [(Str.ofString "steps", a), (Str.ofString "spares", b), (Str.ofString "folders", c)] = some a := rfl
theorem lkSpares {a b c : V} : List.lookup (Str.ofString "spares") [(Str.ofString "steps", a), (Str.ofString "spares", b), (Str.ofString "folders", c)] = some b := rfl
theorem lkFolders {a b c : V} : List.lookup (Str.ofString "folders") [(Str.ofString "steps", a), (Str.ofString "spares", b), (Str.ofString "folders", c)] = some c := rfl
theorem pfSpares {a y : V} : putF (Str.ofString "spares") y [(Str.ofString "steps", a)] = [(Str.ofString "steps", a), (Str.ofString "spares", y)] := rfl
theorem pfFolders {a b y : V} : putF (Str.ofString "folders") y [(Str.ofString "steps", a), (Str.ofString "spares", b)] = [(Str.ofString "steps", a), (Str.ofString "spares", b), (Str.ofString "folders", y)] := rfl
theorem strEq {a b : String} : (Str.ofString a = Str.ofString b) = (a = b) := by
  refine propext ⟨fun h => ?_, fun h => by rw [h]⟩
  rw [Str.ofString_eq_toList, Str.ofString_eq_toList] at h
  have h1 : a.toList.map Char.toNat = b.toList.map Char.toNat := by
    have e := congrArg (fun x : Str => x.cps.toList) h
    exact e
  have h2 : a.toList = b.toList := by
    generalize a.toList = l at h1
    generalize b.toList = m at h1
    induction l generalizing m with
    | nil => cases m with
      | nil => rfl
      | cons d t => exact absurd h1 (by simp)
    | cons c r ih => cases m with
      | nil => exact absurd h1 (by simp)
      | cons d t =>
        rw [List.map_cons, List.map_cons] at h1
        injection h1 with h3 h4
        have e : c = d := Char.ext (UInt32.toNat_inj.mp h3)
        rw [e, ih t h4]
  exact String.toList_inj.mp h2
/-- lists of data, one of each -/
theorem dp_map {K : PySem.W.Frag} {H : Hp} {α : Type} (f : α → V) (d : α → PyData) (h : ∀ x, Dp K H (f x) (d x)) : ∀ l : List α, DpAll K H (l.map f) (l.map d)
  | [] => .nil
  | x :: r => .cons (h x) (dp_map f d h r)
/-! ### parts as objects -/
section
variable {K : PySem.W.Frag}
def PartO (K : PySem.W.Frag) (dx : Addr) : PF → HO
  | .one c => .ins (He.ga K "One") dx [("sign", .str (S [c]))]
  | .any => .ins (He.ga K "Any") dx []
  | .among l o => .ins (He.ga K "Among") dx [("signs", .str (S l)), ("outside", .bl o)]
  | .stars => .ins (He.ga K "Stars") dx []
def PartV (K : PySem.W.Frag) (f : PF) (v : V) (H : Hp) : Prop := ∃ p dx, v = .ref p ∧ H p = some (PartO K dx f)
theorem PartO.nl {dx : Addr} {f : PF} (l : List V) : PartO K dx f ≠ .lst l := by cases f <;> exact fun h => nomatch h
theorem PartV.nl {f : PF} {v : V} {H H' : Hp} (h : PartV K f v H) (e : NL H H') : PartV K f v H' := let ⟨p, dx, ev, hp⟩ := h; ⟨p, dx, ev, e _ _ hp PartO.nl⟩
theorem PartV.mono {f : PF} {v : V} {H H' : Hp} (h : PartV K f v H) (e : Same H H') : PartV K f v H' := h.nl (.of e)
end
theorem OkD.imp {P : Program} {w : World} {K : PySem.W.Frag} {mg : Str → Option Value} {base : Heap} {k : Nat} {f : Addr} {ps : List Str} {dvs : List V} {sp sp' : Sp} (h : OkD P w K mg base k f ps dvs sp) (i : ∀ vs H Q E, sp' vs H Q E → sp vs H Q E) : OkD P w K mg base k f ps dvs sp' := by
  obtain ⟨fd, ds, F, r⟩ := h
  exact ⟨fd, ds, F.imp i, r⟩
end SL

namespace SL
open PySem PySem.Spec PyProof.Rows L2 SX
/-! ### names along parts -/
/-- the parts laid along the name -/
def Fit : List PF → List Nat → Prop
  | [], w => w = []
  | f :: fs, w => if f.many = true then ∃ u v, w = u ++ v ∧ Fit fs v else ∃ c v, w = c :: v ∧ f.fits c = true ∧ Fit fs v
theorem fit_nil {w : List Nat} : Fit [] w ↔ w = [] := Iff.rfl
theorem fit_star {f : PF} {fs : List PF} {w : List Nat} (h : f.many = true) : Fit (f :: fs) w ↔ ∃ u v, w = u ++ v ∧ Fit fs v := by
  show (if f.many = true then _ else _) ↔ _
  rw [if_pos h]
theorem fit_one {f : PF} {fs : List PF} {w : List Nat} (h : f.many = false) : Fit (f :: fs) w ↔ ∃ c v, w = c :: v ∧ f.fits c = true ∧ Fit fs v := by
  show (if f.many = true then _ else _) ↔ _
  rw [if_neg (by rw [h]; exact Bool.false_ne_true)]
theorem fit_app : ∀ (fs gs : List PF) (w : List Nat), Fit (fs ++ gs) w ↔ ∃ u v, w = u ++ v ∧ Fit fs u ∧ Fit gs v
  | [], gs, w => ⟨fun h => ⟨[], w, rfl, rfl, h⟩, fun ⟨u, v, e, h1, h2⟩ => by
    cases (show u = [] from h1)
    rw [e]
    exact h2⟩
  | f :: fs, gs, w => by
    rw [List.cons_append]
    cases h : f.many with
    | true =>
      rw [fit_star h]
      constructor
      · rintro ⟨u, v, rfl, hv⟩
        obtain ⟨a, b, rfl, ha, hb⟩ := (fit_app fs gs v).mp hv
        exact ⟨u ++ a, b, by rw [List.append_assoc], (fit_star h).mpr ⟨u, a, rfl, ha⟩, hb⟩
      · rintro ⟨a, b, rfl, ha, hb⟩
        obtain ⟨u, v, rfl, hv⟩ := (fit_star h).mp ha
        exact ⟨u, v ++ b, by rw [List.append_assoc], (fit_app fs gs _).mpr ⟨v, b, rfl, hv, hb⟩⟩
    | false =>
      rw [fit_one h]
      constructor
      · rintro ⟨c, v, rfl, hc, hv⟩
        obtain ⟨a, b, rfl, ha, hb⟩ := (fit_app fs gs v).mp hv
        exact ⟨c :: a, b, rfl, (fit_one h).mpr ⟨c, a, rfl, hc, ha⟩, hb⟩
      · rintro ⟨a, b, rfl, ha, hb⟩
        obtain ⟨c, v, rfl, hc, hv⟩ := (fit_one h).mp ha
        exact ⟨c, v ++ b, rfl, hc, (fit_app fs gs _).mpr ⟨v, b, rfl, hv, hb⟩⟩
def starAt (fs : List PF) (j : Nat) : Bool := match fs[j]? with
  | some f => f.many
  | none => false
theorem starAt_lt {fs : List PF} {j : Nat} (h : starAt fs j = true) : j < fs.length := by
  unfold starAt at h
  rcases Nat.lt_or_ge j fs.length with e | e
  · exact e
  · rw [List.getElem?_eq_none e] at h
    cases h
theorem starAt_eq {fs : List PF} {j : Nat} {f : PF} (h : fs[j]? = some f) : starAt fs j = f.many := by
  unfold starAt
  rw [h]
theorem take_succ' {fs : List PF} {j : Nat} {f : PF} (h : fs[j]? = some f) : fs.take (j + 1) = fs.take j ++ [f] := by
  rw [List.take_succ, h]
  rfl
theorem fit_take_star {fs : List PF} {j : Nat} {w : List Nat} (h : starAt fs j = true) : Fit (fs.take (j + 1)) w ↔ ∃ u v, w = u ++ v ∧ Fit (fs.take j) u := by
  have hl := starAt_lt h
  have hf : fs[j]? = some fs[j] := List.getElem?_eq_getElem hl
  rw [starAt_eq hf] at h
  rw [take_succ' hf, fit_app]
  constructor
  · rintro ⟨u, v, e, h1, _⟩
    exact ⟨u, v, e, h1⟩
  · rintro ⟨u, v, e, h1⟩
    exact ⟨u, v, e, h1, (fit_star h).mpr ⟨v, [], by rw [List.append_nil], rfl⟩⟩
theorem fit_take_one {fs : List PF} {j : Nat} {w : List Nat} {f : PF} (hf : fs[j]? = some f) (h : f.many = false) : Fit (fs.take (j + 1)) w ↔ ∃ u c, w = u ++ [c] ∧ Fit (fs.take j) u ∧ f.fits c = true := by
  rw [take_succ' hf, fit_app]
  constructor
  · rintro ⟨u, v, rfl, h1, h2⟩
    obtain ⟨c, v', rfl, hc, hv⟩ := (fit_one h).mp h2
    cases (show v' = [] from hv)
    exact ⟨u, c, rfl, h1, hc⟩
  · rintro ⟨u, c, rfl, h1, hc⟩
    exact ⟨u, [c], rfl, h1, (fit_one h).mpr ⟨c, [], rfl, hc, rfl⟩⟩
/-- from s on by stars alone -/
def Clos (fs : List PF) (s i : Nat) : Prop := s ≤ i ∧ ∀ k, s ≤ k → k < i → starAt fs k = true
theorem Clos.refl {fs : List PF} {s : Nat} : Clos fs s s := ⟨Nat.le_refl _, fun k a b => absurd b (by omega)⟩
theorem Clos.trans {fs : List PF} {a b c : Nat} (h : Clos fs a b) (g : Clos fs b c) : Clos fs a c := ⟨Nat.le_trans h.1 g.1, fun k h1 h2 => by
  rcases Nat.lt_or_ge k b with e | e
  · exact h.2 k h1 e
  · exact g.2 k e h2⟩
theorem Clos.snoc {fs : List PF} {a b : Nat} (h : Clos fs a b) (g : starAt fs b = true) : Clos fs a (b + 1) := h.trans ⟨Nat.le_succ _, fun k h1 h2 => by
  have e : k = b := by omega
  rw [e]
  exact g⟩
theorem Clos.le {fs : List PF} {s i n : Nat} (h : Clos fs s i) (hs : s ≤ fs.length) : i ≤ fs.length := by
  rcases Nat.eq_or_lt_of_le h.1 with e | e
  · omega
  · have := starAt_lt (h.2 (i - 1) (by omega) (by omega))
    omega
/-- spot i behind the signs w -/
def At (fs : List PF) (w : List Nat) (i : Nat) : Prop := i ≤ fs.length ∧ (Fit (fs.take i) w ∨ starAt fs i = true ∧ Fit (fs.take (i + 1)) w)
theorem fit_more {fs : List PF} {i : Nat} {w : List Nat} (h : starAt fs i = true) (g : Fit (fs.take i) w) : Fit (fs.take (i + 1)) w := (fit_take_star h).mpr ⟨w, [], by rw [List.append_nil], g⟩
theorem at_clos {fs : List PF} {w : List Nat} {s : Nat} (hs : s ≤ fs.length) (h : Fit (fs.take s) w) : ∀ i, Clos fs s i → Fit (fs.take i) w := by
  intro i hc
  obtain ⟨h1, h2⟩ := hc
  induction i with
  | zero =>
    have e : s = 0 := by omega
    rw [← e]
    exact h
  | succ i ih =>
    rcases Nat.eq_or_lt_of_le h1 with e | e
    · rw [← e]; exact h
    · exact fit_more (h2 i (by omega) (by omega)) (ih (by omega) fun k a b => h2 k a (by omega))
theorem at_nil {fs : List PF} {i : Nat} : At fs [] i ↔ Clos fs 0 i := by
  have key : ∀ j, Fit (fs.take j) [] → j ≤ fs.length → Clos fs 0 j := by
    intro j
    induction j with
    | zero => exact fun _ _ => Clos.refl
    | succ j ih =>
      intro h hl
      have hf : fs[j]? = some fs[j] := List.getElem?_eq_getElem hl
      cases hm : fs[j].many with
      | true =>
        have hst : starAt fs j = true := by rw [starAt_eq hf]; exact hm
        obtain ⟨u, v, e, hu⟩ := (fit_take_star hst).mp h
        have e2 := List.append_eq_nil_iff.mp e.symm
        rw [e2.1] at hu
        exact (ih hu (by omega)).snoc hst
      | false =>
        obtain ⟨u, c, e, _⟩ := (fit_take_one hf hm).mp h
        exact absurd e.symm (by simp)
  constructor
  · rintro ⟨hl, h | ⟨hs, h⟩⟩
    · exact key i h hl
    · have hlt := starAt_lt hs
      have := key (i + 1) h (by omega)
      exact ⟨Nat.zero_le _, fun k a b => this.2 k a (by omega)⟩
  · intro h
    exact ⟨h.le (n := 0) (Nat.zero_le _), .inl (at_clos (Nat.zero_le _) (by simp [Fit]) i h)⟩
/-- one sign on -/
theorem at_snoc {fs : List PF} {w : List Nat} {c i : Nat} : At fs (w ++ [c]) i ↔ ∃ s f, At fs w s ∧ fs[s]? = some f ∧ f.fits c = true ∧ Clos fs (if f.many = true then s else s + 1) i := by
  have key : ∀ j, j ≤ fs.length → Fit (fs.take j) (w ++ [c]) → ∃ s f, At fs w s ∧ fs[s]? = some f ∧ f.fits c = true ∧ Clos fs (if f.many = true then s else s + 1) j := by
    intro j
    induction j with
    | zero => exact fun _ h => absurd (show w ++ [c] = [] from by simpa [Fit] using h) (by simp)
    | succ j ih =>
      intro hl h
      have hf : fs[j]? = some fs[j] := List.getElem?_eq_getElem hl
      cases hm : fs[j].many with
      | true =>
        have hst : starAt fs j = true := by rw [starAt_eq hf]; exact hm
        obtain ⟨u, v, e, hu⟩ := (fit_take_star hst).mp h
        rcases List.eq_nil_or_concat v with rfl | ⟨v', d, rfl⟩
        · rw [List.append_nil] at e
          rw [← e] at hu
          obtain ⟨s, f, a1, a2, a3, a4⟩ := ih (by omega) hu
          exact ⟨s, f, a1, a2, a3, a4.snoc hst⟩
        · rw [List.concat_eq_append, ← List.append_assoc] at e
          obtain ⟨e1, e2⟩ := List.append_inj' e rfl
          refine ⟨j, fs[j], ⟨by omega, .inr ⟨hst, (fit_take_star hst).mpr ⟨u, v', e1, hu⟩⟩⟩, hf, ?_, ?_⟩
          · cases hq : fs[j] with
            | stars => rfl
            | _ => rw [hq] at hm; cases hm
          · rw [if_pos hm]
            exact Clos.refl.snoc hst
      | false =>
        obtain ⟨u, d, e, hu, hd⟩ := (fit_take_one hf hm).mp h
        obtain ⟨e1, e2⟩ := List.append_inj' e rfl
        injection e2 with e3
        subst e1 e3
        exact ⟨j, fs[j], ⟨by omega, .inl hu⟩, hf, hd, by rw [if_neg (by rw [hm]; exact Bool.false_ne_true)]; exact Clos.refl⟩
  constructor
  · rintro ⟨hl, h | ⟨hs, h⟩⟩
    · exact key i hl h
    · have hlt := starAt_lt hs
      obtain ⟨u, v, e, hu⟩ := (fit_take_star hs).mp h
      have hf : fs[i]? = some fs[i] := List.getElem?_eq_getElem hlt
      have hm : fs[i].many = true := by rw [← starAt_eq hf]; exact hs
      rcases List.eq_nil_or_concat v with rfl | ⟨v', d, rfl⟩
      · rw [List.append_nil] at e
        rw [← e] at hu
        exact key i hl hu
      · rw [List.concat_eq_append, ← List.append_assoc] at e
        obtain ⟨e1, e2⟩ := List.append_inj' e rfl
        refine ⟨i, fs[i], ⟨hl, .inr ⟨hs, (fit_take_star hs).mpr ⟨u, v', e1, hu⟩⟩⟩, hf, ?_, ?_⟩
        · cases hq : fs[i] with
          | stars => rfl
          | _ => rw [hq] at hm; cases hm
        · rw [if_pos hm]
          exact Clos.refl
  · rintro ⟨s, f, ⟨hl, ha⟩, hf, hc, hcl⟩
    have hlt : s < fs.length := (List.getElem?_eq_some_iff.mp hf).1
    cases hm : f.many with
    | true =>
      rw [if_pos hm] at hcl
      have hst : starAt fs s = true := by rw [starAt_eq hf]; exact hm
      have h1 : Fit (fs.take (s + 1)) (w ++ [c]) := by
        rcases ha with h | ⟨_, h⟩
        · exact (fit_take_star hst).mpr ⟨w, [c], rfl, h⟩
        · obtain ⟨u, v, rfl, hu⟩ := (fit_take_star hst).mp h
          exact (fit_take_star hst).mpr ⟨u, v ++ [c], by rw [List.append_assoc], hu⟩
      rcases Nat.eq_or_lt_of_le hcl.1 with e | e
      · rw [← e]
        exact ⟨hl, .inr ⟨hst, h1⟩⟩
      · have h2 := at_clos hlt h1 i ⟨e, fun k a b => hcl.2 k (by omega) b⟩
        exact ⟨hcl.le (n := 0) hl, .inl h2⟩
    | false =>
      rw [if_neg (by rw [hm]; exact Bool.false_ne_true)] at hcl
      have h0 : Fit (fs.take s) w := by
        rcases ha with h | ⟨h, _⟩
        · exact h
        · rw [starAt_eq hf, hm] at h
          cases h
      have h1 : Fit (fs.take (s + 1)) (w ++ [c]) := (fit_take_one hf hm).mpr ⟨w, c, rfl, h0, hc⟩
      exact ⟨hcl.le (n := 0) hlt, .inl (at_clos hlt h1 i hcl)⟩
theorem at_end {fs : List PF} {w : List Nat} : At fs w fs.length ↔ Fit fs w := by
  unfold At
  rw [List.take_length]
  constructor
  · rintro ⟨_, h | ⟨h, _⟩⟩
    · exact h
    · exact absurd (starAt_lt h) (Nat.lt_irrefl _)
  · exact fun h => ⟨Nat.le_refl _, .inl h⟩
/-! ### forms of steps, steps as objects -/
inductive SF where
  | deep
  | seg (fs : List PF)
deriving DecidableEq
def SF.d : SF → PyData
  | .deep => .tuple [.str "deep"]
  | .seg fs => .tuple [.str "segment", .tuple (fs.map PF.d)]
/-- no two stars next to one another -/
def NoTwo : List PF → Prop
  | f :: g :: r => ¬ (f.many = true ∧ g.many = true) ∧ NoTwo (g :: r)
  | _ => True
structure PartsOk (fs : List PF) : Prop where
  ne : fs ≠ []
  ok : ∀ f ∈ fs, f.Ok
  two : NoTwo fs
  len : fs.length ≤ 60
def SF.Ok : SF → Prop
  | .deep => True
  | .seg fs => PartsOk fs
def SF.deepB : SF → Bool
  | .deep => true
  | _ => false
def SF.fits : SF → List Nat → Prop
  | .deep, _ => True
  | .seg fs, w => Fit fs w
theorem SF.dok {f : SF} (h : f.Ok) : DOk 3 f.d := by
  cases f with
  | deep => exact (dok_tup (n := 0) (all_cons (dok_str (by decide +kernel)) all_nil)).up (by decide)
  | seg fs => exact dok_tup (all_cons (dok_str (by decide +kernel)) (all_cons (dok_tup fun d hd => by
      obtain ⟨f, hf, rfl⟩ := List.mem_map.mp hd
      exact PF.dok (h.ok f hf)) all_nil))
section
variable {K : PySem.W.Frag}
/-- us are the parts fs -/
def PartsV (K : PySem.W.Frag) (fs : List PF) (us : List V) (H : Hp) : Prop := us.length = fs.length ∧ ∀ (i : Nat) (f : PF), fs[i]? = some f → ∃ u, us[i]? = some u ∧ PartV K f u H
theorem PartsV.nl {fs : List PF} {us : List V} {H H' : Hp} (h : PartsV K fs us H) (e : NL H H') : PartsV K fs us H' := ⟨h.1, fun i f hf => let ⟨u, a, b⟩ := h.2 i f hf; ⟨u, a, b.nl e⟩⟩
theorem PartsV.mono {fs : List PF} {us : List V} {H H' : Hp} (h : PartsV K fs us H) (e : Same H H') : PartsV K fs us H' := h.nl (.of e)
theorem PartsV.nil {H : Hp} : PartsV K [] [] H := ⟨rfl, fun i f h => by simp at h⟩
theorem PartsV.snoc {fs : List PF} {us : List V} {H : Hp} {f : PF} {u : V} (h : PartsV K fs us H) (g : PartV K f u H) : PartsV K (fs ++ [f]) (us ++ [u]) H := by
  refine ⟨by rw [List.length_append, List.length_append, h.1]; rfl, fun i f' hf => ?_⟩
  rcases Nat.lt_trichotomy i fs.length with e | e | e
  · rw [List.getElem?_append_left e] at hf
    obtain ⟨w, a, b⟩ := h.2 i f' hf
    exact ⟨w, by rw [List.getElem?_append_left (by rw [h.1]; exact e)]; exact a, b⟩
  · subst e
    rw [List.getElem?_append_right (Nat.le_refl _), Nat.sub_self] at hf
    have ef : f = f' := Option.some.inj hf
    subst ef
    exact ⟨u, by rw [← h.1, List.getElem?_append_right (Nat.le_refl _), Nat.sub_self]; rfl, g⟩
  · rw [List.getElem?_eq_none (by rw [List.length_append]; exact e)] at hf
    cases hf
def StepV (K : PySem.W.Frag) (f : SF) (v : V) (H : Hp) : Prop := match f with
  | .deep => ∃ p dx, v = .ref p ∧ H p = some (.ins (He.ga K "Deep") dx [])
  | .seg fs => ∃ p dx t us, v = .ref p ∧ H p = some (.ins (He.ga K "Segment") dx [("parts", .ref t)]) ∧ H t = some (.tup us) ∧ PartsV K fs us H ∧ fs ≠ []
theorem StepV.nl {f : SF} {v : V} {H H' : Hp} (h : StepV K f v H) (e : NL H H') : StepV K f v H' := by
  cases f with
  | deep => obtain ⟨p, dx, a, b⟩ := h; exact ⟨p, dx, a, e _ _ b fun _ z => nomatch z⟩
  | seg fs => obtain ⟨p, dx, t, us, a, b, c, d, z⟩ := h; exact ⟨p, dx, t, us, a, e _ _ b fun _ z => (nomatch z), e _ _ c fun _ z => (nomatch z), d.nl e, z⟩
theorem StepV.mono {f : SF} {v : V} {H H' : Hp} (h : StepV K f v H) (e : Same H H') : StepV K f v H' := h.nl (.of e)
end
/-- parts with the second of two stars left out -/
def normP (fs : List PF) : List PF := fs.foldl (fun acc f => if acc = [] ∨ f.many = false ∨ acc.getLast?.map PF.many = some false then acc ++ [f] else acc) []
def normOne (acc : List PF) (f : PF) : List PF := if acc = [] ∨ f.many = false ∨ acc.getLast?.map PF.many = some false then acc ++ [f] else acc
theorem normP_eq (fs : List PF) : normP fs = fs.foldl normOne [] := rfl
theorem norm_take {fs : List PF} {k : Nat} {f : PF} (h : fs[k]? = some f) : (fs.take (k + 1)).foldl normOne [] = normOne ((fs.take k).foldl normOne []) f := by
  rw [take_succ' h, List.foldl_append]
  rfl
end SL

namespace SL
open PySem PySem.Spec PyProof.Rows L2
/-! ### a caught error that stays at hand behind its clause -/
/-- an error of the class cls, caught, at a -/
def ExF (cls : Value) (d : Option Addr) (a : Addr) : HO := .ext fun h => ∃ (oe : Obj) (vs : Array Value), h.get? a = some oe ∧ Zc cls d oe ∧ oe.data = .fields vs
theorem exF_ok {P : Program} {w : World} {H : Hp} {h : Heap} {a : Addr} {cls : Value} {d : Option Addr} {oe : Obj} {vs : Array Value} (e : h.get? a = some oe) (z : Zc cls d oe) (f : oe.data = .fields vs) : ObjOk P w H h a (ExF cls d a) :=
  ⟨⟨oe, vs, e, z, f⟩, ⟨oe, e⟩, fun _ _ ⟨o, v, q, r⟩ k => ⟨o, v, k o q, r⟩⟩
/-- a pinned object becomes a tracked one -/
theorem inv_track {X : Cx} {pins : List (Addr × Obj)} {σ : L2.St} {H : Hp} {s : Shared} {q : Addr × Obj} {o : HO} (I : Inv X (q :: pins) σ H s) (h0 : X.s_0.heap.get? q.1 = none) (hp : ∀ p ∈ X.pn ++ pins, p.1 ≠ q.1) (new : ObjOk X.prog X.w (upd H q.1 o) s.heap q.1 o) :
    Inv X pins σ (upd H q.1 o) s := by
  obtain ⟨e, hn, nl, nf, nc⟩ := I.pin q (List.mem_append_right _ List.mem_cons_self)
  have ne_at : ∀ {b : Addr} {u : HO}, H b = some u → b ≠ q.1 := fun hb z => by
    rw [z, hn] at hb
    cases hb
  refine ⟨I.ok, I.os, I.bare, ⟨I.base.keep, I.base.slot, fun b u e1 e2 e3 => ?_, I.base.there, fun b xs e1 => ?_, fun b u v e1 => ?_, fun b ps e1 => ?_⟩, I.loc, I.cell, ?_, fun x c hc => ?_, fun p hm => ?_, HOk.laidN I.hok (fun _ _ z => z) hn new, I.len⟩
  · rw [upd_ne fun z => by rw [z, h0] at e1; cases e1]
    exact I.base.free b u e1 e2 e3
  · have t := I.base.tups b xs e1
    rw [upd_ne (ne_at t)]
    exact t
  · have t := I.base.frzs b u v e1
    rw [upd_ne (ne_at t)]
    exact t
  · obtain ⟨more, t⟩ := I.base.tbls b ps e1
    exact ⟨more, by rw [upd_ne (ne_at t)]; exact t⟩
  · rw [upd_ne fun z => nl z.symm]
    exact I.free
  · have nq : c ≠ q.1 := fun z => by
      obtain ⟨v, oc, e1, e2⟩ := I.cell x c hc
      rw [z, e] at e1
      cases e1
      exact nc v e2
    rw [upd_ne nq]
    exact I.freeC x c hc
  · have m2 : p ∈ X.pn ++ (q :: pins) := (List.mem_append.mp hm).elim (fun z => List.mem_append_left _ z) fun z => List.mem_append_right _ (List.mem_cons_of_mem _ z)
    obtain ⟨a1, a2, a3, a4, a5⟩ := I.pin p m2
    exact ⟨a1, by rw [upd_ne (hp p hm)]; exact a2, a3, a4, a5⟩
/-- what 'except x as n' wishes of an exception of the body, where the error stays tracked behind the clause -/
def wKeep (K : PySem.W.Frag) (c : Value) (i : Nat) (ts : Addr → Value → Option Addr → TS) (Wout : WX) (D : Ends) : WX := fun cls d σ H =>
  ∃ b, PySem.W.exmOne K cls c = some b ∧
    (b = true → ∀ a, H a = none → ts a cls d { nx := fun σ' H' => D.nx (σ'.set i none) (upd H' a (ExF cls d a)), rt := D.rt, bk := fun σ' H' => D.bk (σ'.set i none) H', ct := fun σ' H' => D.ct (σ'.set i none) H' } (σ.set i (some (.ref a))) H) ∧
    (b = false → Wout cls d σ H)

/-- the pins of a suite, but for the caught error's, are the ground's; with it -/
theorem inv_outsuite {X : Cx} {a : Addr} {q : Addr × Obj} {pins pn' : List (Addr × Obj)} {σ : L2.St} {H : Hp} {s : Shared} (I : Inv (X.suite a (q :: (X.pn ++ pins))) pn' σ H s) (ok : X.Ok) : Inv X (q :: pins) σ H s :=
  ⟨ok, I.os, I.bare, I.base, I.loc, I.cell, I.free, I.freeC, fun p hp => by
    refine I.pin p (List.mem_append_left _ ?_)
    rcases List.mem_append.mp hp with z | z
    · exact List.mem_cons_of_mem _ (List.mem_append_left _ z)
    · rcases List.mem_cons.mp z with e | z2
      · exact e ▸ List.mem_cons_self
      · exact List.mem_cons_of_mem _ (List.mem_append_right _ z2), I.hok, I.len⟩

section
variable {X : Cx} {nm var : Str} {c : Value} {i : Nat} {body rest : List Stmt} {st0 : Stmt} {p1 p2 p3 : Pos} {tb : WX → TS} {ts : Addr → Value → Option Addr → TS} {Wout : WX}
theorem ps_try_keep (kex : X.ex = []) (kst : X.stack = X.env :: X.outer) (kfr : X.env.frame = some X.env.locals) (kN : X.N.Nodup) (ki : X.N[i]? = some var) (kl : X.env.kindOf var = some .local) (kc : Names X nm c) (kt : Takes X Wout)
    (kb : ∀ (W : WX) (pn : List (Addr × Obj)) (xe : Value → Shared → Prop), Takes (X.tr pn xe) W → PassesOwn (model X.prog X.w) X.A X.env xe → PSs (X.tr pn xe) body (tb W))
    (ks : ∀ (a : Addr) (oe : Obj) (cls : Value) (d : Option Addr) (pn : List (Addr × Obj)), Zc cls d oe → (∃ vs, oe.data = .fields vs) → PSs (X.suite a ((a, oe) :: pn)) (st0 :: rest) (ts a cls d)) :
    PS X (.Try body [.ExceptHandler (some (.Name nm p1)) (some var) (st0 :: rest) p2] [] [] p3) (fun D σ H => tb (wKeep X.K c i ts Wout D) D σ H) := by
  constructor
  intro pins s σ H D inv0 wish
  have okX := inv0.ok
  have frames : X.A.frames = some (X.env :: X.outer) := okX.frames.trans (congrArg some kst)
  have isLoc : Loc X.env.scope var := Or.inl kl
  let tail : Value → Shared → Prop := fun er u₁ => wpAny (model X.prog X.w) X.A (noteFrame er X.env) (fun _ u₂ => wpAny (model X.prog X.w) X.A (setFlight er none) (fun _ u₃ =>
      wpAny (model X.prog X.w) X.A (handleBy er X.env [.ExceptHandler (some (.Name nm p1)) (some var) (st0 :: rest) p2]) (SP X pins D) X.xe u₃) X.xe u₂) X.xe u₁
  have run := (kb (wKeep X.K c i ts Wout D) (X.pn ++ pins) tail (fun er u xr => ?caught) PassesOwn.looking).run [] s σ H D (inv0.toTry _) wish
  · refine wpAny_Try_except (wpAny_mono run (fun fl u through => ?_) fun _ _ z => z)
    cases fl with
    | next =>
      obtain ⟨σ₂, H₂, inv₂, w₂⟩ := through
      exact wpAny_execs_nil ⟨_, _, inv₂.ofTry okX, w₂⟩
    | brk =>
      obtain ⟨σ₂, H₂, inv₂, w₂⟩ := through
      exact ⟨_, _, inv₂.ofTry okX, w₂⟩
    | cont =>
      obtain ⟨σ₂, H₂, inv₂, w₂⟩ := through
      exact ⟨_, _, inv₂.ofTry okX, w₂⟩
    | ret val =>
      obtain ⟨v₂, σ₂, H₂, inv₂, r₂, w₂⟩ := through
      exact ⟨_, _, _, inv₂.ofTry okX, r₂, w₂⟩
  · obtain ⟨a, G, sI, pins₁, σ₁, H₁, cls, d, eqA, invT, ground, upG, skyT, aFree, osEq, bare, yes, test, onYes, onNo⟩ := xr
    subst eqA
    have inv₁ : Inv X pins σ₁ H₁ sI := invT.ofTry okX
    have skyE : Sky G (X.env :: X.outer) a (Zc cls d) X.env.locals u.heap := kst ▸ skyT
    show wpAny (model X.prog X.w) X.A (noteFrame (.ref a) X.env) _ _ _
    refine Sky.land Zc.steady frames kfr skyE fun hA flA stepA => ?_
    have invA : Inv X pins σ₁ H₁ { u with heap := hA } := inv₁.landed ground flA.1 (upG.trans stepA) osEq bare
    obtain ⟨oA, fsA, atA, zA, dataA⟩ := flA.there
    have outside : a ∉ frs (X.env :: X.outer) := fun inFr => by
      obtain ⟨_, o', at', nofs⟩ := flA.2.2.1.mem inFr
      rw [atA] at at'
      cases at'
      exact nofs _ dataA
    have noLoc : a ≠ X.env.locals := fun z => outside (List.mem_filterMap.mpr ⟨X.env, List.mem_cons_self, by rw [kfr, z]⟩)
    have noFs : a ∉ X.fs := fun inFs => by
      obtain ⟨en, inOut, isFr⟩ := List.mem_filterMap.mp inFs
      exact outside (List.mem_filterMap.mpr ⟨en, List.mem_cons_of_mem _ inOut, isFr⟩)
    have groundNone : G.get? a = none := flA.2.1
    have unborn : X.s_0.heap.get? a = none := by
      cases born : X.s_0.heap.get? a with
      | none => rfl
      | some o0 =>
        obtain ⟨o1, there1⟩ := inv₁.base.there a o0 born (by rw [kex]; exact List.not_mem_nil)
        have := ground a o1 there1 (by rw [kst]; exact outside)
        rw [groundNone] at this
        cases this
    have apart : ∀ p ∈ X.pn ++ pins, p.1 ≠ a := fun p inP same => by
      have there1 := (inv₁.pin p inP).1
      rw [same] at there1
      have := ground a p.2 there1 (by rw [kst]; exact outside)
      rw [groundNone] at this
      cases this
    have invS := invA.suite atA dataA aFree noLoc noFs
    refine wpAny_handleBy_cons (codeAny_handlers_test ?_) (by intro q; cases q)
    have looks : PySem.W.Looks (model X.prog X.w) hA (typeOf (.ref a)) cls := fun A Q E s k q => wpAny_typeOf_ref (k _ _ atA) (by rw [zA.1]; exact q)
    have matches_ := PySem.W.exm_one (M := model X.prog X.w) invA.kIn looks test
    have named : ∀ {Q : Value → Shared → Prop} {E : Value → Shared → Prop}, Q c { u with heap := hA } → wpAny (model X.prog X.w) (X.A.mark (some (.ref a))) (eval (.Name nm p1) X.env) Q E { u with heap := hA } := fun {Q E} w => by
      obtain ⟨gl, notDbg, inMod | ⟨notMod, inBlt, notNm⟩⟩ := kc
      · exact ld_glob (X := X.suite a ((a, oA) :: (X.pn ++ pins))) invS gl inMod w notDbg
      · exact ld_blt (X := X.suite a ((a, oA) :: (X.pn ++ pins))) invS gl notMod inBlt w notNm notDbg
    refine named (matches_.here ?_)
    cases yes with
    | false =>
      show wpAny _ X.A (handleBy (.ref a) X.env []) _ _ _
      refine wpAny_handleBy_nil ?_
      have whole := flA
      obtain ⟨_, _, _, oF, fsF, T, oT, tsF, atF, zF, dataF, at1, _⟩ := whole
      unfold PySem.passOn
      refine wpAny_bind (wpAny_field atF dataF at1 ?_)
      rw [if_neg (show ¬ ((Value.ref T == Value.none) = true) from by simp)]
      have away : wpAny (model X.prog X.w) X.A (setFlight (.ref a) X.env.frame) (fun _ u₄ => wpAny (model X.prog X.w) X.A (throw (.ref a) : Sem Flow) (SP X pins D) X.xe u₄) X.xe { u with heap := hA } := by
        rw [kfr]
        exact HandSPX.setFlight_upZ flA fun hB heldB stepB => wpAny_throw (kt _ _
          ⟨a, G, sI, pins, σ₁, H₁, cls, d, rfl, inv₁, ground, (upG.trans stepA).trans stepB, .inr (.inr (by rw [kst]; exact heldB)), aFree, osEq, bare, onNo rfl⟩)
      first
        | exact wpAny_bind away
        | exact wpAny_bind (wpAny_pure (wpAny_bind away))
    | true =>
      refine codeAny_handlers_suite_as (HandSPX.lands_againZ flA fun hB flB stepB => ?_)
      have invB : Inv X pins σ₁ H₁ { u with heap := hB } := inv₁.landed ground flB.1 ((upG.trans stepA).trans stepB) osEq bare
      obtain ⟨oB, fsB, atB, zB, dataB⟩ := flB.there
      refine store_ok (X := X.suite a ((a, oB) :: (X.pn ++ pins))) (v := .ref a) (invB.suite atB dataB aFree noLoc noFs) kN ki isLoc rfl (fun u₅ inv₅ => ?_) (.inr kl)
      refine wpAny_mono ((ks a oB cls d (X.pn ++ pins) zB ⟨fsB, dataB⟩).run [] u₅ _ H₁ _ inv₅ (onYes rfl a aFree)) (fun fl u₆ got => ?_) fun _ _ z => False.elim z
      have leave : ∀ {σ₆ : L2.St} {H₆ : Hp} {Q : Shared → Prop}, Inv (X.suite a ((a, oB) :: (X.pn ++ pins))) [] σ₆ H₆ u₆ → (∀ u₇, Inv X ((a, oB) :: pins) (σ₆.set i none) H₆ u₇ → Q u₇) →
          wpAny (model X.prog X.w) X.A (do bindName X.env var .none; unbindBehindTheSuite X.env var p2) (fun _ u₇ => Q u₇) X.xe u₆ := fun {σ₆ H₆ Q} inv₆ goal => gone_ok (inv_outsuite inv₆ okX) kN ki kl goal
      have forget : ∀ {σ₇ : L2.St} {H₇ : Hp} {u₇ : Shared}, Inv X ((a, oB) :: pins) σ₇ H₇ u₇ → Inv X pins σ₇ H₇ u₇ := fun {σ₇ H₇ u₇} I =>
        ⟨I.ok, I.os, I.bare, I.base, I.loc, I.cell, I.free, I.freeC, fun p hp => I.pin p ((List.mem_append.mp hp).elim (fun z => List.mem_append_left _ z) fun z => List.mem_append_right _ (List.mem_cons_of_mem _ z)), I.hok, I.len⟩
      cases fl with
      | next =>
        obtain ⟨σ₆, H₆, inv₆, w₆⟩ := got
        exact leave inv₆ fun u₇ inv₇ => ⟨_, _, inv_track inv₇ unborn apart (exF_ok (inv₇.pin (a, oB) (List.mem_append_right _ List.mem_cons_self)).1 zB dataB), w₆⟩
      | brk =>
        obtain ⟨σ₆, H₆, inv₆, w₆⟩ := got
        exact leave inv₆ fun u₇ inv₇ => ⟨_, _, forget inv₇, w₆⟩
      | cont =>
        obtain ⟨σ₆, H₆, inv₆, w₆⟩ := got
        exact leave inv₆ fun u₇ inv₇ => ⟨_, _, forget inv₇, w₆⟩
      | ret val =>
        obtain ⟨v₆, σ₆, H₆, inv₆, r₆, w₆⟩ := got
        exact leave inv₆ fun u₇ inv₇ => ⟨_, _, _, forget inv₇, r₆, w₆⟩
end

/-! ### isinstance of what may be a caught error -/
inductive TyE (K : PySem.W.Frag) (H : Hp) : V → Value → Prop where
  | old {x : V} {t : Value} (h : TyX K H x t) : TyE K H x t
  | exc {a C : Addr} (e : H a = some (ExF (.ref C) none a)) (c : ExcC K C) : TyE K H (.ref a) (.ref C)
theorem kit_ofE {X : Cx} {pins : List (Addr × Obj)} {σ : L2.St} {H : Hp} {s : Shared} {x : V} {u t : Value} (I : Inv X pins σ H s) (rx : RelV x u) (ty : TyE X.K H x t) : ∃ P : Heap → Prop, PySem.W.KitX X.K u t P ∧ P s.heap ∧ u ≠ .builtin "__main__.__loader__#opaque" := by
  cases ty with
  | old h => exact kit_of I rx h
  | @exc a C e c =>
    cases (show u = Value.ref a from rx)
    obtain ⟨⟨oe, vs, at_, z, f⟩, _⟩ := I.hok a _ e
    obtain ⟨oc, od, oda, osl⟩ := oe
    obtain ⟨z1, z2⟩ := z
    dsimp only at z1 z2 f
    subst z1 z2 f
    exact ⟨_, PySem.W.handS_kitx_exc c.hg c.hk c.hs c.hd c.ha c.hn c.ht c.hm, ⟨at_, rfl, rfl, trivial⟩, fun q => nomatch q⟩
/-- isinstance(x, c): c a class, or a tuple of classes -/
def rIsC (K : PySem.W.Frag) : List V → Hp → VK → Prop := fun xs H Q => ∃ (x c : V) (t : Value) (b : Bool), xs = [x, c] ∧ TyE K H x t ∧ Q (.bl b) H ∧
  ((∃ u, ClsV c u ∧ PySem.W.kitOne K t u = some b) ∨ ∃ (tp : Addr) (cs : List V) (us : List Value), c = .ref tp ∧ H tp = some (.tup cs) ∧ Paired ClsV cs us ∧ PySem.W.kitAny K t us = some b)
theorem call_isC {X : Cx} : CallR X (.builtin "isinstance") (rIsC X.K) := by
  intro pins s σ H xs us Q I r h
  obtain ⟨x, c, t, b, rfl, ty, q, h⟩ := h
  obtain ⟨u1, u2, rfl, r1, r2⟩ := vals2 r
  obtain ⟨P, Z, p, hx⟩ := kit_ofE I r1 ty
  rcases h with ⟨u, k, e⟩ | ⟨tp, cs, ws, rfl, hT, k, e⟩
  · have e2 := k.eq r2
    subst e2
    exact PySem.W.kia_one Z I.kIn p e hx fun tk => ⟨.bl b, H, I.tok tk, rfl, q⟩
  · cases (show u2 = Value.ref tp from r2)
    obtain ⟨_, its, rv, o, h1, h2, n, h3⟩ := (show ObjOk X.prog X.w H s.heap tp (.tup cs) from I.hok tp _ hT)
    have e3 := ClsV.all k rv
    subst e3
    obtain ⟨oc, od, dt, sl⟩ := o
    simp only at h2 h3
    subst h2 h3
    exact PySem.W.kia_tup Z I.kIn p h1 e hx fun tk => ⟨.bl b, H, I.tok tk, rfl, q⟩
theorem o_isc {X : Cx} {K : PySem.W.Frag} (hK : X.K = K := by rfl) : CallR X (.builtin "isinstance") (rIsC K) := hK ▸ call_isC
/-- what isinstance asks of the class D of errors -/
def excCB (K : PySem.W.Frag) (D : Addr) : Bool :=
  decide (PySem.W.findIn K (.ref D) "__getattribute__" = some (some (.builtin "BaseException.__getattribute__"))) && (decide (PySem.W.findIn K (.ref D) "__getattr__" = some none) &&
  (decide (PySem.W.subIn K (.ref D) (.type "BaseException") = some true) && (PySem.W.hasDictIn K D && (decide (PySem.W.findIn K (.ref D) "__class__" = some (some (.builtin "object.__class__"))) &&
  (decide (PySem.W.specialIn K (.builtin "object.__class__") "__get__" = some (some (.builtin "getset_descriptor.__get__"))) && (decide (PySem.W.takesIn K (.builtin "object.__class__") = some true) && decide (PySem.W.mroIn K D (.type "object") = some true)))))))
theorem excCB_ok {K : PySem.W.Frag} {D : Addr} (h : excCB K D = true) : ExcC K D := by
  unfold excCB at h
  simp only [Bool.and_eq_true, decide_eq_true_eq] at h
  obtain ⟨a, b, c, d, e, f, g, i⟩ := h
  exact ⟨a, b, c, d, e, f, g, i⟩
/-- an error of class x: caught by "except y", and of which classes it is -/
def kxB (K : PySem.W.Frag) (ex : List (Str × Str)) (is_ : List (Str × Str × Bool)) (no : List Str) : Bool :=
  ex.all (fun q => decide (PySem.W.exmOne K (.ref (He.ga K q.1)) (.ref (He.ga K q.2)) = some true) && (excCB K (He.ga K q.1) && decide (PySem.W.kitOne K (.ref (He.ga K q.1)) (.type "ValueError") = some true))) &&
  (is_.all (fun q => decide (PySem.W.kitOne K (.ref (He.ga K q.1)) (.ref (He.ga K q.2.1)) = some q.2.2)) && no.all fun y => decide (PySem.W.kitOne K (.type "NoneType") (.ref (He.ga K y)) = some false))
theorem kxB_ex {K : PySem.W.Frag} {ex : List (Str × Str)} {is_ : List (Str × Str × Bool)} {no : List Str} (h : kxB K ex is_ no = true) {x y : Str} (m : (x, y) ∈ ex) :
    PySem.W.exmOne K (.ref (He.ga K x)) (.ref (He.ga K y)) = some true ∧ ExcC K (He.ga K x) ∧ PySem.W.kitOne K (.ref (He.ga K x)) (.type "ValueError") = some true := by
  unfold kxB at h
  rw [Bool.and_eq_true] at h
  have e := List.all_eq_true.mp h.1 (x, y) m
  simp only [Bool.and_eq_true, decide_eq_true_eq] at e
  exact ⟨e.1, excCB_ok e.2.1, e.2.2⟩
theorem kxB_is {K : PySem.W.Frag} {ex : List (Str × Str)} {is_ : List (Str × Str × Bool)} {no : List Str} (h : kxB K ex is_ no = true) {x y : Str} {b : Bool} (m : (x, y, b) ∈ is_) : PySem.W.kitOne K (.ref (He.ga K x)) (.ref (He.ga K y)) = some b := by
  unfold kxB at h
  rw [Bool.and_eq_true, Bool.and_eq_true] at h
  exact of_decide_eq_true (List.all_eq_true.mp h.2.1 (x, y, b) m)
theorem kxB_no {K : PySem.W.Frag} {ex : List (Str × Str)} {is_ : List (Str × Str × Bool)} {no : List Str} (h : kxB K ex is_ no = true) {y : Str} (m : y ∈ no) : PySem.W.kitOne K (.type "NoneType") (.ref (He.ga K y)) = some false := by
  unfold kxB at h
  rw [Bool.and_eq_true, Bool.and_eq_true] at h
  exact of_decide_eq_true (List.all_eq_true.mp h.2.2 y m)

/-! ### calls within a try: what the error finds is wished for at the slots that stand -/
section
variable {X : Cx} {k : Nat} {f C : Addr} {ps : List Str} {sp : Sp} {dvs : List V} {W : WX} {x : Str} {p pos : Pos} {e : Expr} {es : List Expr} {t : TA}
theorem pe_calT (o : OkD X.prog X.w X.K X.mg X.base k f ps dvs sp) (hr : Room k X.A) (hg : Gl X x) (hm : X.mg x = some (.ref f)) (tk : Takes X W)
    (ha : PA X (e :: es) t) (hdb : (x == ("__debug__" : Str)) = false := by decide) (he : starEach (e :: es) X.env = (false, eval e X.env) :: starEach es X.env := by rfl) (hpl : (backTo pos (starEach es X.env)).any (·.1) = false := by rfl) :
    PE X (.Call (.Name x p) (e :: es) [] pos) (tCallSD sp dvs (WE W) t) := by
  obtain ⟨fd, ds, F, hb, hd, hk⟩ := o
  exact pe_callSD F hr hg hm hk hb hd (passAt tk) ha hdb he hpl
def tMakeT (C : Addr) (sp : Sp) (dvs : List V) (W : WX) (t : TA) : TE := fun σ H Q => t σ H fun vs H1 => ∀ x dx, H1 x = none → H1 dx = none → dx ≠ x →
  sp (.ref x :: (vs ++ dvs)) (upd (upd H1 dx (.own x)) x (.ins C dx [])) (fun v H2 => v = .non ∧ Q (.ref x) H2) fun c d H2 => W c d σ H2
theorem pe_makT (M : Mk X.K C f) (o : OkD X.prog X.w X.K X.mg X.base k f ps dvs sp) (hr : Room (k + 1) X.A) (hg : Gl X x) (hm : X.mg x = some (.ref C)) (tk : Takes X W)
    (ha : PA X (e :: es) t) (hdb : (x == ("__debug__" : Str)) = false := by decide) (he : starEach (e :: es) X.env = (false, eval e X.env) :: starEach es X.env := by rfl) (hpl : (backTo pos (starEach es X.env)).any (·.1) = false := by rfl) :
    PE X (.Call (.Name x p) (e :: es) [] pos) (tMakeT C sp dvs W t) := by
  obtain ⟨fd, ds, fn, binds, dv, _⟩ := o
  constructor
  intro pins s0 σ H0 Q J0 want
  refine wpAny_Call_Name_kw (ld_glob J0 hg hm ?_ hdb)
  refine PySem.W.callWith_K (h₀ := X.base) J0.ok.mod.kin M.kp (thn (ha.run pos pins s0 σ H0 _ J0 want) fun us s ⟨vs, H, J, rel, next⟩ => ⟨J.kIn, ?_⟩) he hpl
  let self := s.heap.objs.size + 1
  have made := Inv.made (C := C) J
  have sp1 := next self s.heap.objs.size (J.hok.fresh (Nat.le_succ _)) (J.hok.fresh (Nat.le_refl _)) (Nat.ne_of_lt (Nat.lt_succ_self _))
  have rel2 : Vals (V.ref self :: (vs ++ dvs)) (Value.ref self :: (us ++ ds)) := .cons rfl (rel.append dv)
  have len2 : (Value.ref self :: us ++ ds).length = ps.length := (rel2.length.symm.trans (fn.len _ _ _ _ sp1) : _)
  have inside := fn.run _ X.stack _ _ ⟨Value.ref self :: us, []⟩ (Value.ref self :: (us ++ ds)) _ _ _ (hr.make C us []) (made.env0.make C us []) (binds _ (Value.ref self :: us) made.kIn len2) rel2 sp1
  refine wpAny_call (make_map (f := f) J.kIn M.makes M.init (beq_iff_eq.mp M.fn) (codeAny_mono inside fun out s2 res => ?_))
  match out, res with
  | .error er, res => exact passAt tk σ pins _ _ er s2 made res
  | .ok (.ret u), res =>
    obtain ⟨v, H2, J2, relv, isNon, post⟩ := made.after res
    subst isNon
    exact ⟨relv, .ref self, H2, J2, rfl, post⟩
  | .ok .next, res => exact False.elim res
  | .ok .brk, res => exact False.elim res
  | .ok .cont, res => exact False.elim res
end

theorem kitAny_no {K : PySem.W.Frag} {t : Value} : ∀ {us : List Value}, (∀ u ∈ us, PySem.W.kitOne K t u = some false) → PySem.W.kitAny K t us = some false
  | [], _ => kitAny_nil
  | u :: us, h => kitAny_cons (h u List.mem_cons_self) (fun _ => kitAny_no fun v hv => h v (List.mem_cons_of_mem _ hv)) fun z => nomatch z
theorem cls_refs : ∀ as : List Addr, Paired ClsV (as.map V.ref) (as.map Value.ref)
  | [] => .nil
  | a :: r => .cons (.own a) (cls_refs r)
theorem isc_tup {K : PySem.W.Frag} {x : V} {t : Value} {p : Addr} {H : Hp} {Q : VK} (as : List Addr) (ty : TyE K H x t) (hp : H p = some (.tup (as.map V.ref))) (h : ∀ a ∈ as, PySem.W.kitOne K t (.ref a) = some false) (q : Q (.bl false) H) : rIsC K [x, .ref p] H Q :=
  ⟨x, _, t, false, rfl, ty, q, .inr ⟨p, _, _, rfl, hp, cls_refs as, kitAny_no fun u hu => by
    obtain ⟨a, ha, rfl⟩ := List.mem_map.mp hu
    exact h a ha⟩⟩
theorem isc_one {K : PySem.W.Frag} {x : V} {t : Value} {a : Addr} {H : Hp} {Q : VK} {b : Bool} (ty : TyE K H x t) (h : PySem.W.kitOne K t (.ref a) = some b) (q : Q (.bl b) H) : rIsC K [x, .ref a] H Q :=
  ⟨x, _, t, b, rfl, ty, q, .inl ⟨_, .own a, h⟩⟩
theorem isc_ty {K : PySem.W.Frag} {x : V} {t : Value} {n : String} {H : Hp} {Q : VK} {b : Bool} (ty : TyE K H x t) (h : PySem.W.kitOne K t (.type n) = some b) (q : Q (.bl b) H) : rIsC K [x, .ty n] H Q :=
  ⟨x, _, t, b, rfl, ty, q, .inl ⟨_, .ty n, h⟩⟩
theorem kx_no {K : PySem.W.Frag} {ex : List (Str × Str)} {is_ : List (Str × Str × Bool)} {no : List Str} (h : kxB K ex is_ no = true) (ys : List Str) (m : (ys.all fun y => decide (y ∈ no)) = true) : ∀ a ∈ ys.map (He.ga K), PySem.W.kitOne K (.type "NoneType") (.ref a) = some false := fun a ha => by
  obtain ⟨y, hy, rfl⟩ := List.mem_map.mp ha
  exact kxB_no h (of_decide_eq_true (List.all_eq_true.mp m y hy))
theorem kx_is {K : PySem.W.Frag} {ex : List (Str × Str)} {is_ : List (Str × Str × Bool)} {no : List Str} (h : kxB K ex is_ no = true) (x : Str) (ys : List Str) (m : (ys.all fun y => decide ((x, y, false) ∈ is_)) = true) : ∀ a ∈ ys.map (He.ga K), PySem.W.kitOne K (.ref (He.ga K x)) (.ref a) = some false := fun a ha => by
  obtain ⟨y, hy, rfl⟩ := List.mem_map.mp ha
  exact kxB_is h (of_decide_eq_true (List.all_eq_true.mp m y hy))
end SL

namespace SL
open PySem PySem.Spec PyProof.Rows L2
abbrev fA (K : PySem.W.Frag) (x : Str) : Addr := He.ga K x
abbrev mA (K : PySem.W.Frag) (C m : Str) : Addr := He.ma K (He.ga K C) m
structure Txt (K : PySem.W.Frag) (mg : Str → Option Value) : Prop where
  F__wall : ∃ fd, FunD K "_wall" "_wall" (defArgs TX.s__wall) (defBody TX.s__wall) (defScope TX.s__wall) [] [] (fA K "_wall") fd
  F_is_sign : ∃ fd, FunD K "is_sign" "is_sign" (defArgs TX.s_is_sign) (defBody TX.s_is_sign) (defScope TX.s_is_sign) [] [] (fA K "is_sign") fd
  F__law_cell : ∃ fd, FunD K "_law_cell" "_law_cell" (defArgs TX.s__law_cell) (defBody TX.s__law_cell) (defScope TX.s__law_cell) [] [] (fA K "_law_cell") fd
  F__law_signs : ∃ fd, FunD K "_law_signs" "_law_signs" (defArgs TX.s__law_signs) (defBody TX.s__law_signs) (defScope TX.s__law_signs) [] [] (fA K "_law_signs") fd
  F__law_made : ∃ fd, FunD K "_law_made" "_law_made" (defArgs TX.s__law_made) (defBody TX.s__law_made) (defScope TX.s__law_made) [] [] (fA K "_law_made") fd
  F__law_is_no_part : ∃ fd, FunD K "_law_is_no_part" "_law_is_no_part" (defArgs TX.s__law_is_no_part) (defBody TX.s__law_is_no_part) (defScope TX.s__law_is_no_part) [] [] (fA K "_law_is_no_part") fd
  F_law : ∃ fd, FunD K "law" "law" (defArgs TX.s_law) (defBody TX.s_law) (defScope TX.s_law) [] [] (fA K "law") fd
  F_NoText___init__ : ∃ fd, FunD K "__init__" "NoText.__init__" (defArgs TX.s_NoText___init__) (defBody TX.s_NoText___init__) (defScope TX.s_NoText___init__) [] [] (mA K "NoText" "__init__") fd
  F_Part_fits : ∃ fd, FunD K "fits" "Part.fits" (defArgs TX.s_Part_fits) (defBody TX.s_Part_fits) (defScope TX.s_Part_fits) [] [] (mA K "Part" "fits") fd
  F_Part_many : ∃ fd, FunD K "many" "Part.many" (defArgs TX.s_Part_many) (defBody TX.s_Part_many) (defScope TX.s_Part_many) [] [] (mA K "Part" "many") fd
  F_Part_told : ∃ fd, FunD K "told" "Part.told" (defArgs TX.s_Part_told) (defBody TX.s_Part_told) (defScope TX.s_Part_told) [] [] (mA K "Part" "told") fd
  F_Any_fits : ∃ fd, FunD K "fits" "Part.fits" (defArgs TX.s_Part_fits) (defBody TX.s_Part_fits) (defScope TX.s_Part_fits) [] [] (mA K "Any" "fits") fd
  F_Any_many : ∃ fd, FunD K "many" "Part.many" (defArgs TX.s_Part_many) (defBody TX.s_Part_many) (defScope TX.s_Part_many) [] [] (mA K "Any" "many") fd
  F_Any_told : ∃ fd, FunD K "told" "Part.told" (defArgs TX.s_Part_told) (defBody TX.s_Part_told) (defScope TX.s_Part_told) [] [] (mA K "Any" "told") fd
  F_One_fits : ∃ fd, FunD K "fits" "One.fits" (defArgs TX.s_One_fits) (defBody TX.s_One_fits) (defScope TX.s_One_fits) [] [] (mA K "One" "fits") fd
  F_One_many : ∃ fd, FunD K "many" "Part.many" (defArgs TX.s_Part_many) (defBody TX.s_Part_many) (defScope TX.s_Part_many) [] [] (mA K "One" "many") fd
  F_One_told : ∃ fd, FunD K "told" "One.told" (defArgs TX.s_One_told) (defBody TX.s_One_told) (defScope TX.s_One_told) [] [] (mA K "One" "told") fd
  F_One___init__ : ∃ fd, FunD K "__init__" "One.__init__" (defArgs TX.s_One___init__) (defBody TX.s_One___init__) (defScope TX.s_One___init__) [] [] (mA K "One" "__init__") fd
  F_Among_fits : ∃ fd, FunD K "fits" "Among.fits" (defArgs TX.s_Among_fits) (defBody TX.s_Among_fits) (defScope TX.s_Among_fits) [] [] (mA K "Among" "fits") fd
  F_Among_many : ∃ fd, FunD K "many" "Part.many" (defArgs TX.s_Part_many) (defBody TX.s_Part_many) (defScope TX.s_Part_many) [] [] (mA K "Among" "many") fd
  F_Among_told : ∃ fd, FunD K "told" "Among.told" (defArgs TX.s_Among_told) (defBody TX.s_Among_told) (defScope TX.s_Among_told) [] [] (mA K "Among" "told") fd
  F_Among___init__ : ∃ fd, FunD K "__init__" "Among.__init__" (defArgs TX.s_Among___init__) (defBody TX.s_Among___init__) (defScope TX.s_Among___init__) [V.bl false] [] (mA K "Among" "__init__") fd
  F_Stars_fits : ∃ fd, FunD K "fits" "Part.fits" (defArgs TX.s_Part_fits) (defBody TX.s_Part_fits) (defScope TX.s_Part_fits) [] [] (mA K "Stars" "fits") fd
  F_Stars_many : ∃ fd, FunD K "many" "Stars.many" (defArgs TX.s_Stars_many) (defBody TX.s_Stars_many) (defScope TX.s_Stars_many) [] [] (mA K "Stars" "many") fd
  F_Stars_told : ∃ fd, FunD K "told" "Stars.told" (defArgs TX.s_Stars_told) (defBody TX.s_Stars_told) (defScope TX.s_Stars_told) [] [] (mA K "Stars" "told") fd
  F_Step_deep : ∃ fd, FunD K "deep" "Step.deep" (defArgs TX.s_Step_deep) (defBody TX.s_Step_deep) (defScope TX.s_Step_deep) [] [] (mA K "Step" "deep") fd
  F_Step_fits_name : ∃ fd, FunD K "fits_name" "Step.fits_name" (defArgs TX.s_Step_fits_name) (defBody TX.s_Step_fits_name) (defScope TX.s_Step_fits_name) [] [] (mA K "Step" "fits_name") fd
  F_Step_told : ∃ fd, FunD K "told" "Step.told" (defArgs TX.s_Step_told) (defBody TX.s_Step_told) (defScope TX.s_Step_told) [] [] (mA K "Step" "told") fd
  F_Deep_deep : ∃ fd, FunD K "deep" "Deep.deep" (defArgs TX.s_Deep_deep) (defBody TX.s_Deep_deep) (defScope TX.s_Deep_deep) [] [] (mA K "Deep" "deep") fd
  F_Deep_fits_name : ∃ fd, FunD K "fits_name" "Step.fits_name" (defArgs TX.s_Step_fits_name) (defBody TX.s_Step_fits_name) (defScope TX.s_Step_fits_name) [] [] (mA K "Deep" "fits_name") fd
  F_Deep_told : ∃ fd, FunD K "told" "Step.told" (defArgs TX.s_Step_told) (defBody TX.s_Step_told) (defScope TX.s_Step_told) [] [] (mA K "Deep" "told") fd
  F_Segment_deep : ∃ fd, FunD K "deep" "Step.deep" (defArgs TX.s_Step_deep) (defBody TX.s_Step_deep) (defScope TX.s_Step_deep) [] [] (mA K "Segment" "deep") fd
  F_Segment_fits_name : ∃ fd, FunD K "fits_name" "Segment.fits_name" (defArgs TX.s_Segment_fits_name) (defBody TX.s_Segment_fits_name) (defScope TX.s_Segment_fits_name) [] [] (mA K "Segment" "fits_name") fd
  F_Segment_told : ∃ fd, FunD K "told" "Segment.told" (defArgs TX.s_Segment_told) (defBody TX.s_Segment_told) (defScope TX.s_Segment_told) [] [] (mA K "Segment" "told") fd
  F_Segment___init__ : ∃ fd, FunD K "__init__" "Segment.__init__" (defArgs TX.s_Segment___init__) (defBody TX.s_Segment___init__) (defScope TX.s_Segment___init__) [] [] (mA K "Segment" "__init__") fd
  F_Row___init__ : ∃ fd, FunD K "__init__" "Row.__init__" (defArgs TX.s_Row___init__) (defBody TX.s_Row___init__) (defScope TX.s_Row___init__) [V.bl false, V.bl false] [] (mA K "Row" "__init__") fd
  F_Row_told : ∃ fd, FunD K "told" "Row.told" (defArgs TX.s_Row_told) (defBody TX.s_Row_told) (defScope TX.s_Row_told) [] [] (mA K "Row" "told") fd
  g__wall : mg "_wall" = some (.ref (fA K "_wall"))
  g_is_sign : mg "is_sign" = some (.ref (fA K "is_sign"))
  g__law_cell : mg "_law_cell" = some (.ref (fA K "_law_cell"))
  g__law_signs : mg "_law_signs" = some (.ref (fA K "_law_signs"))
  g__law_made : mg "_law_made" = some (.ref (fA K "_law_made"))
  g__law_is_no_part : mg "_law_is_no_part" = some (.ref (fA K "_law_is_no_part"))
  g_law : mg "law" = some (.ref (fA K "law"))
  g_ShunError : mg "ShunError" = some (.ref (fA K "ShunError"))
  k_ShunError : PySem.W.keepIn K (.ref (fA K "ShunError")) = true
  x_ShunError : ExcK K (fA K "ShunError")
  g_NoPart : mg "NoPart" = some (.ref (fA K "NoPart"))
  k_NoPart : PySem.W.keepIn K (.ref (fA K "NoPart")) = true
  x_NoPart : ExcK K (fA K "NoPart")
  g_NoPath : mg "NoPath" = some (.ref (fA K "NoPath"))
  k_NoPath : PySem.W.keepIn K (.ref (fA K "NoPath")) = true
  x_NoPath : ExcK K (fA K "NoPath")
  g_NoText : mg "NoText" = some (.ref (fA K "NoText"))
  k_NoText : PySem.W.keepIn K (.ref (fA K "NoText")) = true
  g_TooMany : mg "TooMany" = some (.ref (fA K "TooMany"))
  k_TooMany : PySem.W.keepIn K (.ref (fA K "TooMany")) = true
  x_TooMany : ExcK K (fA K "TooMany")
  g_NoFolder : mg "NoFolder" = some (.ref (fA K "NoFolder"))
  k_NoFolder : PySem.W.keepIn K (.ref (fA K "NoFolder")) = true
  x_NoFolder : ExcK K (fA K "NoFolder")
  g_NoLeaf : mg "NoLeaf" = some (.ref (fA K "NoLeaf"))
  k_NoLeaf : PySem.W.keepIn K (.ref (fA K "NoLeaf")) = true
  x_NoLeaf : ExcK K (fA K "NoLeaf")
  g_Part : mg "Part" = some (.ref (fA K "Part"))
  k_Part : PySem.W.keepIn K (.ref (fA K "Part")) = true
  c_Part : Cls K (fA K "Part")
  m_Part_fits : Meth K (fA K "Part") "fits" (mA K "Part" "fits")
  m_Part_many : Meth K (fA K "Part") "many" (mA K "Part" "many")
  m_Part_told : Meth K (fA K "Part") "told" (mA K "Part" "told")
  g_Any : mg "Any" = some (.ref (fA K "Any"))
  k_Any : PySem.W.keepIn K (.ref (fA K "Any")) = true
  c_Any : Cls K (fA K "Any")
  m_Any_fits : Meth K (fA K "Any") "fits" (mA K "Any" "fits")
  m_Any_many : Meth K (fA K "Any") "many" (mA K "Any" "many")
  m_Any_told : Meth K (fA K "Any") "told" (mA K "Any" "told")
  g_One : mg "One" = some (.ref (fA K "One"))
  k_One : PySem.W.keepIn K (.ref (fA K "One")) = true
  c_One : Cls K (fA K "One")
  n_One_sign : NoAttr K (fA K "One") "sign"
  m_One_fits : Meth K (fA K "One") "fits" (mA K "One" "fits")
  m_One_many : Meth K (fA K "One") "many" (mA K "One" "many")
  m_One_told : Meth K (fA K "One") "told" (mA K "One" "told")
  m_One___init__ : Meth K (fA K "One") "__init__" (mA K "One" "__init__")
  mk_One : Mk K (fA K "One") (mA K "One" "__init__")
  g_Among : mg "Among" = some (.ref (fA K "Among"))
  k_Among : PySem.W.keepIn K (.ref (fA K "Among")) = true
  c_Among : Cls K (fA K "Among")
  n_Among_signs : NoAttr K (fA K "Among") "signs"
  n_Among_outside : NoAttr K (fA K "Among") "outside"
  m_Among_fits : Meth K (fA K "Among") "fits" (mA K "Among" "fits")
  m_Among_many : Meth K (fA K "Among") "many" (mA K "Among" "many")
  m_Among_told : Meth K (fA K "Among") "told" (mA K "Among" "told")
  m_Among___init__ : Meth K (fA K "Among") "__init__" (mA K "Among" "__init__")
  mk_Among : Mk K (fA K "Among") (mA K "Among" "__init__")
  g_Stars : mg "Stars" = some (.ref (fA K "Stars"))
  k_Stars : PySem.W.keepIn K (.ref (fA K "Stars")) = true
  c_Stars : Cls K (fA K "Stars")
  m_Stars_fits : Meth K (fA K "Stars") "fits" (mA K "Stars" "fits")
  m_Stars_many : Meth K (fA K "Stars") "many" (mA K "Stars" "many")
  m_Stars_told : Meth K (fA K "Stars") "told" (mA K "Stars" "told")
  g_Step : mg "Step" = some (.ref (fA K "Step"))
  k_Step : PySem.W.keepIn K (.ref (fA K "Step")) = true
  c_Step : Cls K (fA K "Step")
  m_Step_deep : Meth K (fA K "Step") "deep" (mA K "Step" "deep")
  m_Step_fits_name : Meth K (fA K "Step") "fits_name" (mA K "Step" "fits_name")
  m_Step_told : Meth K (fA K "Step") "told" (mA K "Step" "told")
  g_Deep : mg "Deep" = some (.ref (fA K "Deep"))
  k_Deep : PySem.W.keepIn K (.ref (fA K "Deep")) = true
  c_Deep : Cls K (fA K "Deep")
  m_Deep_deep : Meth K (fA K "Deep") "deep" (mA K "Deep" "deep")
  m_Deep_fits_name : Meth K (fA K "Deep") "fits_name" (mA K "Deep" "fits_name")
  m_Deep_told : Meth K (fA K "Deep") "told" (mA K "Deep" "told")
  g_Segment : mg "Segment" = some (.ref (fA K "Segment"))
  k_Segment : PySem.W.keepIn K (.ref (fA K "Segment")) = true
  c_Segment : Cls K (fA K "Segment")
  n_Segment_parts : NoAttr K (fA K "Segment") "parts"
  m_Segment_deep : Meth K (fA K "Segment") "deep" (mA K "Segment" "deep")
  m_Segment_fits_name : Meth K (fA K "Segment") "fits_name" (mA K "Segment" "fits_name")
  m_Segment_told : Meth K (fA K "Segment") "told" (mA K "Segment" "told")
  m_Segment___init__ : Meth K (fA K "Segment") "__init__" (mA K "Segment" "__init__")
  mk_Segment : Mk K (fA K "Segment") (mA K "Segment" "__init__")
  g_Row : mg "Row" = some (.ref (fA K "Row"))
  k_Row : PySem.W.keepIn K (.ref (fA K "Row")) = true
  c_Row : Cls K (fA K "Row")
  n_Row_steps : NoAttr K (fA K "Row") "steps"
  n_Row_spares : NoAttr K (fA K "Row") "spares"
  n_Row_folders : NoAttr K (fA K "Row") "folders"
  m_Row___init__ : Meth K (fA K "Row") "__init__" (mA K "Row" "__init__")
  m_Row_told : Meth K (fA K "Row") "told" (mA K "Row" "told")
  mk_Row : Mk K (fA K "Row") (mA K "Row" "__init__")
  s_SIGNS : ∃ t, mg "SIGNS" = some (.str "-.0123456789_abcdefghijklmnopqrstuvwxyz" t)
  fr_len : mg "len" = none
  fr_range : mg "range" = none
  fr_all : mg "all" = none
  fr_set : mg "set" = none
  fr_sorted : mg "sorted" = none
  fr_tuple : mg "tuple" = none
  fr_isinstance : mg "isinstance" = none
  fr_ValueError : mg "ValueError" = none
  kx : SL.kxB K [("NoPart", "ShunError")] [("NoPart", "NoFolder", false), ("NoPart", "NoLeaf", false), ("NoPart", "NoPath", false), ("NoPart", "NoText", false), ("NoPart", "TooMany", false), ("NoPart", "NoPart", true)] ["NoFolder", "NoLeaf", "NoPath", "NoText", "TooMany", "NoPart"] = true
  mn_Part : MkN K (fA K "Part")
  mn_Any : MkN K (fA K "Any")
  mn_Stars : MkN K (fA K "Stars")
  mn_Step : MkN K (fA K "Step")
  mn_Deep : MkN K (fA K "Deep")
theorem Txt.obj {K : PySem.W.Frag} {mg : Str → Option Value} (T : Txt K mg) : Cls K (fA K "Part") ∧ Cls K (fA K "Any") ∧ Cls K (fA K "One") ∧ Cls K (fA K "Among") ∧ Cls K (fA K "Stars") ∧ Cls K (fA K "Step") ∧ Cls K (fA K "Deep") ∧ Cls K (fA K "Segment") ∧ Cls K (fA K "Row") ∧ NoAttr K (fA K "One") "sign" ∧ NoAttr K (fA K "Among") "signs" ∧ NoAttr K (fA K "Among") "outside" ∧ NoAttr K (fA K "Segment") "parts" ∧ NoAttr K (fA K "Row") "steps" ∧ NoAttr K (fA K "Row") "spares" ∧ NoAttr K (fA K "Row") "folders" := ⟨T.c_Part, T.c_Any, T.c_One, T.c_Among, T.c_Stars, T.c_Step, T.c_Deep, T.c_Segment, T.c_Row, T.n_One_sign, T.n_Among_signs, T.n_Among_outside, T.n_Segment_parts, T.n_Row_steps, T.n_Row_spares, T.n_Row_folders⟩
end SL
namespace SL
open PySem PySem.Spec PyProof.Rows L2
abbrev N__wall : List Str := ["k"]
theorem sc__wall : FnScope ["k"] ["k"] (defScope TX.s__wall) := ⟨rfl, rfl, rfl, by decide +kernel, rfl, by decide +kernel, by decide +kernel⟩
abbrev N_NoText___init__ : List Str := ["self", "row"]
theorem sc_NoText___init__ : FnScope ["self", "row"] ["self", "row"] (defScope TX.s_NoText___init__) := ⟨rfl, rfl, rfl, by decide +kernel, rfl, by decide +kernel, by decide +kernel⟩
abbrev N_is_sign : List Str := ["thing"]
theorem sc_is_sign : FnScope ["thing"] ["thing"] (defScope TX.s_is_sign) := ⟨rfl, rfl, rfl, by decide +kernel, rfl, by decide +kernel, by decide +kernel⟩
abbrev N_Part_fits : List Str := ["self", "sign"]
theorem sc_Part_fits : FnScope ["self", "sign"] ["self", "sign"] (defScope TX.s_Part_fits) := ⟨rfl, rfl, rfl, by decide +kernel, rfl, by decide +kernel, by decide +kernel⟩
abbrev N_Part_many : List Str := ["self"]
theorem sc_Part_many : FnScope ["self"] ["self"] (defScope TX.s_Part_many) := ⟨rfl, rfl, rfl, by decide +kernel, rfl, by decide +kernel, by decide +kernel⟩
abbrev N_Part_told : List Str := ["self"]
theorem sc_Part_told : FnScope ["self"] ["self"] (defScope TX.s_Part_told) := ⟨rfl, rfl, rfl, by decide +kernel, rfl, by decide +kernel, by decide +kernel⟩
abbrev N_One___init__ : List Str := ["self", "sign"]
theorem sc_One___init__ : FnScope ["self", "sign"] ["self", "sign"] (defScope TX.s_One___init__) := ⟨rfl, rfl, rfl, by decide +kernel, rfl, by decide +kernel, by decide +kernel⟩
abbrev N_One_fits : List Str := ["self", "sign"]
theorem sc_One_fits : FnScope ["self", "sign"] ["self", "sign"] (defScope TX.s_One_fits) := ⟨rfl, rfl, rfl, by decide +kernel, rfl, by decide +kernel, by decide +kernel⟩
abbrev N_One_told : List Str := ["self"]
theorem sc_One_told : FnScope ["self"] ["self"] (defScope TX.s_One_told) := ⟨rfl, rfl, rfl, by decide +kernel, rfl, by decide +kernel, by decide +kernel⟩
abbrev N_Among___init__ : List Str := ["self", "signs", "outside", "sign"]
theorem sc_Among___init__ : FnScope ["self", "signs", "outside", "sign"] ["self", "signs", "outside"] (defScope TX.s_Among___init__) := ⟨rfl, rfl, rfl, by decide +kernel, rfl, by decide +kernel, by decide +kernel⟩
abbrev N_Among_fits : List Str := ["self", "sign"]
theorem sc_Among_fits : FnScope ["self", "sign"] ["self", "sign"] (defScope TX.s_Among_fits) := ⟨rfl, rfl, rfl, by decide +kernel, rfl, by decide +kernel, by decide +kernel⟩
abbrev N_Among_told : List Str := ["self"]
theorem sc_Among_told : FnScope ["self"] ["self"] (defScope TX.s_Among_told) := ⟨rfl, rfl, rfl, by decide +kernel, rfl, by decide +kernel, by decide +kernel⟩
abbrev N_Stars_many : List Str := ["self"]
theorem sc_Stars_many : FnScope ["self"] ["self"] (defScope TX.s_Stars_many) := ⟨rfl, rfl, rfl, by decide +kernel, rfl, by decide +kernel, by decide +kernel⟩
abbrev N_Stars_told : List Str := ["self"]
theorem sc_Stars_told : FnScope ["self"] ["self"] (defScope TX.s_Stars_told) := ⟨rfl, rfl, rfl, by decide +kernel, rfl, by decide +kernel, by decide +kernel⟩
abbrev N_Step_deep : List Str := ["self"]
theorem sc_Step_deep : FnScope ["self"] ["self"] (defScope TX.s_Step_deep) := ⟨rfl, rfl, rfl, by decide +kernel, rfl, by decide +kernel, by decide +kernel⟩
abbrev N_Step_fits_name : List Str := ["self", "name"]
theorem sc_Step_fits_name : FnScope ["self", "name"] ["self", "name"] (defScope TX.s_Step_fits_name) := ⟨rfl, rfl, rfl, by decide +kernel, rfl, by decide +kernel, by decide +kernel⟩
abbrev N_Step_told : List Str := ["self"]
theorem sc_Step_told : FnScope ["self"] ["self"] (defScope TX.s_Step_told) := ⟨rfl, rfl, rfl, by decide +kernel, rfl, by decide +kernel, by decide +kernel⟩
abbrev N_Deep_deep : List Str := ["self"]
theorem sc_Deep_deep : FnScope ["self"] ["self"] (defScope TX.s_Deep_deep) := ⟨rfl, rfl, rfl, by decide +kernel, rfl, by decide +kernel, by decide +kernel⟩
abbrev N_Segment___init__ : List Str := ["self", "parts", "found", "part"]
theorem sc_Segment___init__ : FnScope ["self", "parts", "found", "part"] ["self", "parts"] (defScope TX.s_Segment___init__) := ⟨rfl, rfl, rfl, by decide +kernel, rfl, by decide +kernel, by decide +kernel⟩
abbrev N_Segment_fits_name : List Str := ["self", "name"]
theorem sc_Segment_fits_name : FnScope ["self", "name"] ["self", "name"] (defScope TX.s_Segment_fits_name) := ⟨rfl, rfl, rfl, by decide +kernel, rfl, by decide +kernel, by decide +kernel⟩
abbrev N_Segment_told : List Str := ["self", "part"]
theorem sc_Segment_told : FnScope ["self", "part"] ["self"] (defScope TX.s_Segment_told) := ⟨rfl, rfl, rfl, by decide +kernel, rfl, by decide +kernel, by decide +kernel⟩
abbrev N_Row___init__ : List Str := ["self", "steps", "spares", "folders", "found", "step"]
theorem sc_Row___init__ : FnScope ["self", "steps", "spares", "folders", "found", "step"] ["self", "steps", "spares", "folders"] (defScope TX.s_Row___init__) := ⟨rfl, rfl, rfl, by decide +kernel, rfl, by decide +kernel, by decide +kernel⟩
abbrev N_Row_told : List Str := ["self", "step"]
theorem sc_Row_told : FnScope ["self", "step"] ["self"] (defScope TX.s_Row_told) := ⟨rfl, rfl, rfl, by decide +kernel, rfl, by decide +kernel, by decide +kernel⟩
abbrev N__law_cell : List Str := ["_law_script", "_law_k", "_law_cell_here", "_law_mark", "_law_high"]
theorem sc__law_cell : FnScope ["_law_script", "_law_k", "_law_cell_here", "_law_mark", "_law_high"] ["_law_script", "_law_k"] (defScope TX.s__law_cell) := ⟨rfl, rfl, rfl, by decide +kernel, rfl, by decide +kernel, by decide +kernel⟩
abbrev N__law_signs : List Str := ["_law_cell_here", "_law_all_signs", "_law_step", "_law_k"]
theorem sc__law_signs : FnScope ["_law_cell_here", "_law_all_signs", "_law_step", "_law_k"] ["_law_cell_here"] (defScope TX.s__law_signs) := ⟨rfl, rfl, rfl, by decide +kernel, rfl, by decide +kernel, by decide +kernel⟩
abbrev N__law_made : List Str := ["_law_way", "_law_sign", "_law_signs_here", "_law_outside", "_law_found", "_law_error"]
theorem sc__law_made : FnScope ["_law_way", "_law_sign", "_law_signs_here", "_law_outside", "_law_found", "_law_error"] ["_law_way", "_law_sign", "_law_signs_here", "_law_outside"] (defScope TX.s__law_made) := ⟨rfl, rfl, rfl, by decide +kernel, rfl, by decide +kernel, by decide +kernel⟩
abbrev N__law_is_no_part : List Str := ["_law_error"]
theorem sc__law_is_no_part : FnScope ["_law_error"] ["_law_error"] (defScope TX.s__law_is_no_part) := ⟨rfl, rfl, rfl, by decide +kernel, rfl, by decide +kernel, by decide +kernel⟩
abbrev N_law : List Str := ["_law_script", "_law_k", "_law_cell_here", "_law_good", "_law_wrong", "_law_outside", "_law_bad"]
theorem sc_law : FnScope ["_law_script", "_law_k", "_law_cell_here", "_law_good", "_law_wrong", "_law_outside", "_law_bad"] ["_law_script"] (defScope TX.s_law) := ⟨rfl, rfl, rfl, by decide +kernel, rfl, by decide +kernel, by decide +kernel⟩
end SL
open PySem PySem.Spec PyProof.Rows L2 SL in
local macro_rules | `(tactic| walk_at "rd") => `(tactic| simp only [tVar, tC, tOp, tUn, tCall, tMeI, tMake, tMakN, tMakK, tMakKr, tCB, tCons, tNil, tTup, tLst, tTest, tB, tAnd, tOr, tNot, tAndV, tOrV, tNotV, tOrT, tAndT, tNotT, tIf, tIfS, tSeq, tAsg, gName, tRet, tRetN, tNext, tDrop, tBreak, tCont, tIsN, tNotN, tFld, sFld, tPart, tNoPart, tSl,
  rI, rI0, rU, rAddU, rMulU, rEqU, rNeU, rCmp, rInU, rNotInU, rIxU, rSlU, rLenU, rLenW, rJoin, rCount, rListU, rRevU, rSetU, rSortedU, NewSet, NewSorted, tBM, tBM0, SL.tyStr, rTupU, rMaxU, rMinU, rInsert, rPop, rSetL, gSub, iEnumU, rIsiU, rAll, rAny, rIsBo, rNotBo, rIntU, rIadd, rIn, flatV, rAppend, tyV, tAug, rRep, rCat, iU, iRng1, iRng2, iRevR, tRg1, wipe, SL.sameT, Int.zero_add, isRef, scal, Bool.or_true, Bool.true_or, Bool.or_false, Bool.false_or, Bool.or_self,
  L2.start, SL.cxK, SL.cxW, SL.cxP, SL.truBl, SL.truInt, SL.truNon, SL.truStr, SL.lenStr, List.map_cons, List.map_nil, List.length_cons, List.length_nil, List.replicate, List.reverse_cons, List.reverse_nil, List.nil_append, List.cons_append, List.append_nil, List.set_cons_zero, List.set_cons_succ, List.getElem?_cons_zero, List.getElem?_cons_succ, Nat.zero_add, Nat.reduceAdd, Nat.reduceSub, Nat.sub_self, Nat.add_sub_cancel,
  List.cons.injEq, V.int.injEq, V.str.injEq, V.bl.injEq, V.ref.injEq, Option.some.injEq, reduceCtorEq, exists_eq_left', exists_eq_left, exists_eq', exists_eq, exists_and_left, exists_and_right, and_true, true_and, false_and, and_false, false_or, or_false, decide_eq_true_eq, Bool.not_eq_true', decide_eq_false_iff_not, SL.ite_tt, SL.ite_ff, ne_eq, not_true_eq_false, not_false_eq_true, forall_eq, forall_eq', Bool.not_true, Bool.not_false, decide_true, decide_false, SL.le_sz, SL.lt_sz, SL.ifT, SL.ifF, SL.strEq, String.reduceEq, SL.manyOne, SL.manyAny, SL.manyAmong, SL.manyStars, Nat.reduceLeDiff, Nat.reduceLT, Int.reduceLT, Int.reduceLE])

local macro_rules | `(tactic| walk_at "sm") => `(tactic| (first | exact L2.Same.refl _ | assumption | (repeat (first | exact L2.Same.refl _ | assumption | refine L2.Same.trans ?_ (SL.same_new (by assumption))))))
open PySem PySem.Spec PyProof.Rows L2 SL in
local macro_rules | `(tactic| walk_at "rdh") => `(tactic| (simp only [tVar, tC, tOp, tUn, tCall, tMeI, tMake, tMakN, tMakK, tMakKr, tCB, tCons, tNil, tTup, tLst, tTest, tB, tAnd, tOr, tNot, tAndV, tOrV, tNotV, tOrT, tAndT, tNotT, tIf, tIfS, tSeq, tAsg, gName, tRet, tRetN, tNext, tDrop, tBreak, tCont, tIsN, tNotN, tFld, sFld, tPart, tNoPart, tSl,
  rI, rI0, rU, rAddU, rMulU, rEqU, rNeU, rCmp, rInU, rNotInU, rIxU, rSlU, rLenU, rLenW, rJoin, rCount, rListU, rRevU, rSetU, rSortedU, NewSet, NewSorted, tBM, tBM0, SL.tyStr, rTupU, rMaxU, rMinU, rInsert, rPop, rSetL, gSub, iEnumU, rIsiU, rAll, rAny, rIsBo, rNotBo, rIntU, rIadd, rIn, flatV, rAppend, tyV, tAug, rRep, rCat, iU, iRng1, iRng2, iRevR, tRg1, wipe, SL.sameT, Int.zero_add, isRef, scal, Bool.or_true, Bool.true_or, Bool.or_false, Bool.false_or, Bool.or_self,
  L2.start, SL.cxK, SL.cxW, SL.cxP, SL.truBl, SL.truInt, SL.truNon, SL.truStr, SL.lenStr, List.map_cons, List.map_nil, List.length_cons, List.length_nil, List.replicate, List.reverse_cons, List.reverse_nil, List.nil_append, List.cons_append, List.append_nil, List.set_cons_zero, List.set_cons_succ, List.getElem?_cons_zero, List.getElem?_cons_succ, Nat.zero_add, Nat.reduceAdd, Nat.reduceSub, Nat.sub_self, Nat.add_sub_cancel,
  List.cons.injEq, V.int.injEq, V.str.injEq, V.bl.injEq, V.ref.injEq, Option.some.injEq, reduceCtorEq, exists_eq_left', exists_eq_left, exists_eq', exists_eq, exists_and_left, exists_and_right, and_true, true_and, false_and, and_false, false_or, or_false, decide_eq_true_eq, Bool.not_eq_true', decide_eq_false_iff_not, SL.ite_tt, SL.ite_ff, ne_eq, not_true_eq_false, not_false_eq_true, forall_eq, forall_eq', Bool.not_true, Bool.not_false, decide_true, decide_false, SL.le_sz, SL.lt_sz, SL.ifT, SL.ifF, SL.strEq, String.reduceEq, SL.manyOne, SL.manyAny, SL.manyAmong, SL.manyStars, Nat.reduceLeDiff, Nat.reduceLT, Int.reduceLT, Int.reduceLE, SL.PartO, SL.lkSign, SL.lkSigns, SL.lkOut, SL.lkParts, SL.lkSteps, SL.lkSpares, SL.lkFolders, SL.pfNil, SL.pfOut, SL.pfSpares, SL.pfFolders, L2.upd_same, L2.upd_upd, HO.ins.injEq, and_assoc, *]))
local macro_rules | `(tactic| walk_at "rdx") => `(tactic| (walk_at "rd"; repeat (refine ⟨_, Or.inr (by assumption), _, rfl, ?_⟩; try walk_at "rd")))
namespace SL
open PySem PySem.Spec PyProof.Rows L2 SX
section
variable {P : Program} {w : World} {K : PySem.W.Frag} {mg : Str → Option Value} {base : Heap}

/-! ### is_sign, the drawn numbers -/
def spIsSign : Sp := fun vs H Q _ => ∃ z, vs = [.str z] ∧ z.length ≤ sizeLine ∧ Q (.bl (decide (∃ c ∈ SIG, z = ⟨#[c]⟩))) H
theorem str_one {z : Str} (h : (z.length : Int) = 1) : ∃ c, z = ⟨#[c]⟩ := by
  obtain ⟨⟨l⟩⟩ := z
  have e : l.length = 1 := by
    have h' : ((l.length : Nat) : Int) = 1 := h
    omega
  match l, e with
  | [c], _ => exact ⟨c, rfl⟩
theorem ok_is_sign (T : Txt K mg) : OkD P w K mg base 1 (fA K "is_sign") ["thing"] [] spIsSign := by
  refine okD T.F_is_sign sc_is_sign (fun _ _ _ _ _ _ us hl => match us, hl with | [_], _ => rfl) ?_ ?_
  · rintro vs H Q E ⟨z, rfl, _⟩
    rfl
  · rintro cdv A outer s H vs Q E hr ⟨z, rfl, hz, q⟩
    refine ⟨_, (pss_one (ps_ret (pe_andK (K := K) (pe_cmpR (o_eq (K := K) (hu64 hr)) (pe_callB (o_lenW (K := K) (w := w)) (by rfl) T.fr_len boot_len (pa_cons (pv 0) pa_nil)) pe_int (nomark _)) (pe_one (pe_cmpR (o_in (K := K) (hu65 hr)) (pv 0) (pe_gstr rfl T.s_SIGNS) (by rfl)))))), ?_⟩
    walk_at "rd"
    rw [sizeLine_eq] at hz
    refine ⟨hz, ite2 (fun h => ?_) (fun h => ?_)⟩
    · obtain ⟨c, rfl⟩ := str_one h
      refine .inl ⟨c, rfl, ?_⟩
      have e : decide (∃ c' ∈ SIG, (⟨#[c]⟩ : Str) = ⟨#[c']⟩) = decide (c ∈ SIG) := by
        refine decide_eq_decide.mpr ⟨fun ⟨c', h1, h2⟩ => ?_, fun h1 => ⟨c, h1, rfl⟩⟩
        injection h2 with h2
        have h3 : c = c' := by simpa using h2
        rw [h3]
        exact h1
      rw [e] at q
      exact q
    · have e : decide (∃ c ∈ SIG, z = ⟨#[c]⟩) = false := decide_eq_false fun ⟨c, _, h2⟩ => h (by rw [h2]; rfl)
      rw [e] at q
      rw [decide_eq_false h]
      exact q
def spCell (K : PySem.W.Frag) : Sp := fun vs H Q _ => ∃ a k, ∃ ns : List Int, vs = [.ref a, .int k] ∧ SqL K H a (ns.map V.int) ∧ ns.length ≤ 63 ∧ 0 ≤ k ∧ k < 64 ∧ ∀ c, Q (.int c) H
theorem ok__law_cell (T : Txt K mg) : OkD P w K mg base 1 (fA K "_law_cell") ["_law_script", "_law_k"] [] (spCell K) := by
  refine okD T.F__law_cell sc__law_cell (fun _ _ _ _ _ _ us hl => match us, hl with | [_, _], _ => rfl) ?_ ?_
  · rintro vs H Q E ⟨a, k, ns, rfl, _⟩
    rfl
  · rintro cdv A outer s H vs Q E hr ⟨a, k, ns, rfl, hs, hn, h0, h1, q⟩
    refine ⟨_, (pss_cons (ps_set (i := 2) sc__law_cell.nd rfl (Or.inl rfl) (pe_mid (pe_ifExp (pt_cmpR o_lt (pv 1) (pe_callB (o_lenW (K := K) (w := w)) (by rfl) T.fr_len boot_len (pa_cons (pv 0) pa_nil)) (nomark _)) (pe_ix (o_ix (K := K)) (pv 0) (pv 1) (fun _ _ => rfl)) pe_int)))
  (pss_cons (ps_set (i := 3) sc__law_cell.nd rfl (Or.inl rfl) (pe_mid (pe_op op_mod (pe_op o_mul (pe_op (o_add (K := K)) (pe_op op_mod (pv 2) pe_int) (pe_op o_mul pe_int (pe_op (o_add (K := K)) (pv 1) pe_int))) pe_int) pe_int)))
  (pss_cons (ps_set (i := 3) sc__law_cell.nd rfl (Or.inl rfl) (pe_mid (pe_op op_mod (pe_op o_mul (pe_op op_mod (pe_op o_mul (pv 3) (pv 3)) pe_int) pe_int) pe_int)))
  (pss_cons (ps_set (i := 4) sc__law_cell.nd rfl (Or.inl rfl) (pe_mid (pe_op (o_add (K := K)) (pe_op o_mul (pe_op op_mod (pe_op op_fdivW (pv 2) pe_int) (pe_op op_pow pe_int pe_int)) pe_int) (pv 3))))
  (pss_one (ps_ret (pe_op (o_add (K := K)) (pe_op o_mul (pv 4) pe_int) (pe_op op_mod (pe_op o_mul (pv 3) (pv 3)) pe_int)))))))), ?_⟩
    have hl : LenV K (V.ref a) H (ns.map V.int).length := .inl ⟨_, hs, rfl⟩
    refine q_mid (fun _ => True) ?_ fun n _ => ?_
    · walk_at "rd"
      refine .inr ⟨_, hl, ite2 (fun hk => ?_) (fun _ => trivial)⟩
      obtain ⟨j, rfl⟩ : ∃ j : Nat, k = (j : Int) := ⟨k.toNat, by omega⟩
      have hj : j < (ns.map V.int).length := by omega
      have hj2 : j < ns.length := by rw [List.length_map] at hj; exact hj
      refine ⟨_, .inl hs, V.int ns[j], atI_nat ?_, _, rfl⟩
      rw [List.getElem?_map, List.getElem?_eq_getElem hj2]
      rfl
    have b : ∀ (x : Int), 0 ≤ x % 2147483647 ∧ x % 2147483647 < 2147483647 := fun x => ⟨Int.emod_nonneg _ (by decide), Int.emod_lt_of_pos _ (by decide)⟩
    have b2 : ∀ (x : Int), 0 ≤ x % 2147483629 ∧ x % 2147483629 < 2147483629 := fun x => ⟨Int.emod_nonneg _ (by decide), Int.emod_lt_of_pos _ (by decide)⟩
    have sm : ∀ (x y : Int), 0 ≤ x → x < 2147483647 → CMul x y := fun x y h1 h2 => .inl ⟨by omega, by omega⟩
    have sm2 : ∀ (x y : Int), 0 ≤ y → y ≤ 2147483647 → CMul x y := fun x y h1 h2 => .inr ⟨by omega, by omega⟩
    refine q_mid (fun m => 0 ≤ m ∧ m < 2147483647) ?_ fun m hm => ?_
    · walk_at "rd"
      exact ⟨sm _ _ (by decide) (by decide), sm2 _ _ (by decide) (by decide), b _⟩
    refine q_mid (fun m => 0 ≤ m ∧ m < 2147483647) ?_ fun m2 hm2 => ?_
    · walk_at "rd"
      exact ⟨sm _ _ hm.1 hm.2, sm2 _ _ (by decide) (by decide), b _⟩
    refine q_mid (fun _ => True) ?_ fun hgh _ => ?_
    · walk_at "rd"
      exact ⟨⟨by decide, by decide⟩, ⟨by decide, by decide, by decide⟩, by decide, sm2 _ _ (by decide) (by decide)⟩
    walk_at "rd"
    exact ⟨sm2 _ _ (by decide) (by decide), sm _ _ hm2.1 hm2.2, q _⟩
/-- four signs -/
def SignV (v : V) : Prop := ∃ c ∈ SIG, v = .str ⟨#[c]⟩
theorem sig_at {i : Int} (h0 : 0 ≤ i) (h1 : i < 39) : ∃ c ∈ SIG, atI SIG i = some c := by
  have hl : SIG.length = 39 := by decide +kernel
  obtain ⟨j, rfl⟩ : ∃ j : Nat, i = (j : Int) := ⟨i.toNat, by omega⟩
  have hj : j < SIG.length := by omega
  exact ⟨SIG[j], List.getElem_mem hj, atI_nat (List.getElem?_eq_getElem hj)⟩
/-- the sign at a place -/
def sgAt (i : Int) : V := .str (S [SIG.getD i.toNat 0])
theorem sig_get {i : Int} (h0 : 0 ≤ i) (h1 : i < 39) : atI SIG i = some (SIG.getD i.toNat 0) ∧ SIG.getD i.toNat 0 ∈ SIG := by
  obtain ⟨j, rfl⟩ : ∃ j : Nat, i = (j : Int) := ⟨i.toNat, by omega⟩
  have hj : j < SIG.length := by rw [sig_len]; omega
  have e : SIG.getD (j : Int).toNat 0 = SIG[j] := by
    rw [Int.toNat_natCast, List.getD_eq_getElem?_getD, List.getElem?_eq_getElem hj]
    rfl
  rw [e]
  exact ⟨atI_nat (List.getElem?_eq_getElem hj), List.getElem_mem hj⟩
theorem sgAt_ne {i j : Int} (h0 : 0 ≤ i) (h1 : i < 39) (g0 : 0 ≤ j) (g1 : j < 39) (h : i ≠ j) : sgAt i ≠ sgAt j := by
  intro e
  obtain ⟨a, rfl⟩ : ∃ a : Nat, i = (a : Int) := ⟨i.toNat, by omega⟩
  obtain ⟨b, rfl⟩ : ∃ b : Nat, j = (b : Int) := ⟨j.toNat, by omega⟩
  have ha : a < SIG.length := by rw [sig_len]; omega
  have hb : b < SIG.length := by rw [sig_len]; omega
  unfold sgAt at e
  rw [Int.toNat_natCast, Int.toNat_natCast, List.getD_eq_getElem?_getD, List.getD_eq_getElem?_getD, List.getElem?_eq_getElem ha, List.getElem?_eq_getElem hb] at e
  have e2 := S1_inj (V.str.inj e)
  rcases Nat.lt_trichotomy a b with q | q | q
  · have := List.pairwise_iff_getElem.mp sig_up a b ha hb q
    have e3 : SIG[a] = SIG[b] := e2
    omega
  · exact h (by rw [q])
  · have := List.pairwise_iff_getElem.mp sig_up b a hb ha q
    have e3 : SIG[a] = SIG[b] := e2
    omega
def spSigns : Sp := fun vs H Q _ => ∃ c, vs = [.int c] ∧ ∀ p l H', l.length = 4 → l.Nodup → (∀ v ∈ l, SignV v) → H p = none → Same H H' → H' p = some (.lst l) → Q (.ref p) H'
theorem ok__law_signs (T : Txt K mg) : OkD P w K mg base 1 (fA K "_law_signs") ["_law_cell_here"] [] spSigns := by
  refine okD T.F__law_signs sc__law_signs (fun _ _ _ _ _ _ us hl => match us, hl with | [_], _ => rfl) ?_ ?_
  · rintro vs H Q E ⟨c, rfl, _⟩
    rfl
  · rintro cdv A outer s H vs Q E hr ⟨c, rfl, q⟩
    refine ⟨_, (pss_cons (ps_set (i := 1) sc__law_signs.nd rfl (Or.inr rfl) pe_str)
  (pss_cons (ps_set (i := 2) sc__law_signs.nd rfl (Or.inr rfl) (pe_op o_mul pe_int (pe_op (o_add (K := K)) pe_int (pe_op op_mod (pe_op op_fdivW (pv 0) pe_int) pe_int))))
  (pss_one (ps_ret (pe_lc (own := [("_law_k", 3)]) (g := (gName 3)) (tt := tYes) rfl sc__law_signs.nd (pi_mid (pi_range1 rfl T.fr_range (pa_cons pe_int pa_nil))) (blkOk_by (N := N__law_signs) (sc := defScope TX.s__law_signs) (by decide +kernel)) (fun _ _ _ _ _ => (pg_name (i := 3) sc__law_signs.nd rfl (Or.inl rfl))) (fun _ _ _ _ _ => pts_nil) (fun _ _ _ _ _ => (pe_mid (pe_ix (o_ix (K := K)) (pv 1) (pe_op op_mod (pe_op (o_add (K := K)) (pv 0) (pe_op o_mul (pv 2) (pv 3))) pe_int) (fun _ _ => rfl))))))))), ?_⟩
    walk_at "rd"
    refine ⟨⟨by decide, by decide⟩, .inl ⟨by decide, by decide⟩, ?_⟩
    refine lc_mid (J0 := Itr 0 4) (H0 := H) ?_ walk_range (by decide) (fun k acc _ => acc = (List.range k).map fun (j : Nat) => sgAt ((c + 7 * (1 + c / 39 % 2) * (j : Int)) % 39)) (fun _ _ _ _ _ h => h) rfl (fun _ _ => trivial) (fun _ _ _ _ y => y_fn y) (fun _ => rfl) ?_ ?_
    · walk_at "rd"
      exact ⟨by decide, by decide, rfl⟩
    · rintro k x acc H' H'' hk sm hc ⟨rfl, rfl⟩
      walk_at "rd"
      refine ⟨.inl ⟨by omega, by omega⟩, by decide +kernel, ?_⟩
      have hg := sig_get (i := (c + 7 * (1 + c / 39 % 2) * k) % 39) (Int.emod_nonneg _ (by decide)) (Int.emod_lt_of_pos _ (by decide))
      refine ⟨_, hg.1, ?_⟩
      rw [List.range_succ, List.map_append, ← hc]
      rfl
    · intro p acc H' hp sm hD hl hc
      have b : ∀ x : Int, 0 ≤ x % 39 ∧ x % 39 < 39 := fun x => ⟨Int.emod_nonneg _ (by decide), Int.emod_lt_of_pos _ (by decide)⟩
      have hx : c / 39 % 2 = 0 ∨ c / 39 % 2 = 1 := by omega
      have hc4 : acc = [sgAt ((c + 7 * (1 + c / 39 % 2) * 0) % 39), sgAt ((c + 7 * (1 + c / 39 % 2) * 1) % 39), sgAt ((c + 7 * (1 + c / 39 % 2) * 2) % 39), sgAt ((c + 7 * (1 + c / 39 % 2) * 3) % 39)] := hc
      refine q p acc H' hl ?_ ?_ hp sm hD
      · rw [hc4]
        have ne : ∀ x y : Int, x % 39 ≠ y % 39 → sgAt (x % 39) ≠ sgAt (y % 39) := fun x y h => sgAt_ne (b x).1 (b x).2 (b y).1 (b y).2 h
        rcases hx with h | h <;> rw [h] <;>
          refine List.nodup_cons.mpr ⟨?_, List.nodup_cons.mpr ⟨?_, List.nodup_cons.mpr ⟨?_, List.nodup_cons.mpr ⟨List.not_mem_nil, .nil⟩⟩⟩⟩ <;>
          simp only [List.mem_cons, List.not_mem_nil, or_false, not_or] <;>
          (try refine ⟨ne _ _ (by omega), ne _ _ (by omega), ne _ _ (by omega)⟩) <;> (try refine ⟨ne _ _ (by omega), ne _ _ (by omega)⟩) <;> exact ne _ _ (by omega)
      · rw [hc4]
        have s : ∀ x : Int, SignV (sgAt (x % 39)) := fun x => ⟨_, (sig_get (b x).1 (b x).2).2, rfl⟩
        intro v hv
        simp only [List.mem_cons, List.not_mem_nil, or_false] at hv
        rcases hv with rfl | rfl | rfl | rfl <;> exact s _

/-! ### the parts -/
/-- all but p stays -/
def But (p : Addr) (H H' : Hp) : Prop := ∀ a o, a ≠ p → H a = some o → H' a = some o
theorem but_same {H H' : Hp} {p dx : Addr} {o u : HO} (h0 : H p = none) (h1 : H dx = none) (b : But p (upd (upd H dx u) p o) H') : Same H H' := fun a v e => by
  have n0 : a ≠ p := ne_of_none e h0
  refine b a v n0 ?_
  rw [upd_ne n0, upd_ne (ne_of_none e h1)]
  exact e
theorem But.upd {H : Hp} {p : Addr} {o : HO} : But p H (upd H p o) := fun a u n e => by rw [upd_ne n]; exact e
theorem But.same {H H1 H2 : Hp} {p : Addr} (s : Same H H1) (b : But p H1 H2) : But p H H2 := fun a o n e => b a o n (s a o e)
theorem OkD.mono {k j : Nat} {f : Addr} {ps : List Str} {dvs : List V} {sp : Sp} (h : OkD P w K mg base k f ps dvs sp) (e : k ≤ j) : OkD P w K mg base j f ps dvs sp := by
  obtain ⟨fd, ds, F, r⟩ := h
  exact ⟨fd, ds, F.mono e, r⟩
def spFits (K : PySem.W.Frag) (f : PF) : Sp := fun vs H Q _ => ∃ v c, vs = [v, .str (S [c])] ∧ PartV K f v H ∧ Q (.bl (f.fits c)) H
def spMany (K : PySem.W.Frag) (f : PF) : Sp := fun vs H Q _ => ∃ v, vs = [v] ∧ PartV K f v H ∧ Q (.bl f.many) H
def spToldP (K : PySem.W.Frag) (f : PF) : Sp := fun vs H Q _ => ∃ v, vs = [v] ∧ PartV K f v H ∧ ∀ u H', Same H H' → Dp K H' u f.d → Q u H'
theorem ok_Any_fits (T : Txt K mg) : OkD P w K mg base 1 (mA K "Any" "fits") ["self", "sign"] [] (spFits K .any) := by
  refine okD T.F_Any_fits sc_Part_fits (fun _ _ _ _ _ _ us hl => match us, hl with | [_, _], _ => rfl) ?_ ?_
  · rintro vs H Q E ⟨v, c, rfl, _⟩
    rfl
  · rintro cdv A outer s H vs Q E hr ⟨v, c, rfl, h, q⟩
    refine ⟨_, (pss_one (ps_ret pe_bl)), ?_⟩
    walk_at "rd"
    exact q
theorem ok_Stars_fits (T : Txt K mg) : OkD P w K mg base 1 (mA K "Stars" "fits") ["self", "sign"] [] (spFits K .stars) := by
  refine okD T.F_Stars_fits sc_Part_fits (fun _ _ _ _ _ _ us hl => match us, hl with | [_, _], _ => rfl) ?_ ?_
  · rintro vs H Q E ⟨v, c, rfl, _⟩
    rfl
  · rintro cdv A outer s H vs Q E hr ⟨v, c, rfl, h, q⟩
    refine ⟨_, (pss_one (ps_ret pe_bl)), ?_⟩
    walk_at "rd"
    exact q
theorem ok_One_fits {d : Nat} (T : Txt K mg) : OkD P w K mg base 1 (mA K "One" "fits") ["self", "sign"] [] (spFits K (.one d)) := by
  refine okD T.F_One_fits sc_One_fits (fun _ _ _ _ _ _ us hl => match us, hl with | [_, _], _ => rfl) ?_ ?_
  · rintro vs H Q E ⟨v, c, rfl, _⟩
    rfl
  · rintro cdv A outer s H vs Q E hr ⟨v, c, rfl, ⟨p, dx, rfl, hp⟩, q⟩
    refine ⟨_, (pss_one (ps_ret (pe_cmpR (o_eq (K := K) (hu64 hr)) (pv 1) (pe_fldK (K := K) (pv 0) rfl) (nomark _)))), ?_⟩
    have tobj := T.obj
    walk_at "rdh"
    have e : decide (S [c] = S [d]) = decide (c = d) := decide_eq_decide.mpr ⟨S1_inj, fun h => by rw [h]⟩
    rw [e]
    exact q
theorem b_ne (a b : Bool) : (!decide (a = b)) = (a != b) := by cases a <;> cases b <;> rfl
theorem ok_Among_fits {l : List Nat} {o : Bool} (T : Txt K mg) : OkD P w K mg base 1 (mA K "Among" "fits") ["self", "sign"] [] (spFits K (.among l o)) := by
  refine okD T.F_Among_fits sc_Among_fits (fun _ _ _ _ _ _ us hl => match us, hl with | [_, _], _ => rfl) ?_ ?_
  · rintro vs H Q E ⟨v, c, rfl, _⟩
    rfl
  · rintro cdv A outer s H vs Q E hr ⟨v, c, rfl, ⟨p, dx, rfl, hp⟩, q⟩
    refine ⟨_, (pss_one (ps_ret (pe_cmpR (o_ne (K := K) (hu64 hr)) (pe_cmpR (o_in (K := K) (hu65 hr)) (pv 1) (pe_fldK (K := K) (pv 0) rfl) (by rfl)) (pe_fldK (K := K) (pv 0) rfl) (nomark _)))), ?_⟩
    have tobj := T.obj
    walk_at "rdh"
    refine .inl ⟨c, rfl, ?_⟩
    rw [b_ne]
    exact q
theorem ok_Any_many (T : Txt K mg) : OkD P w K mg base 1 (mA K "Any" "many") ["self"] [] (spMany K .any) := by
  refine okD T.F_Any_many sc_Part_many (fun _ _ _ _ _ _ us hl => match us, hl with | [_], _ => rfl) ?_ ?_
  · rintro vs H Q E ⟨v, rfl, _⟩
    rfl
  · rintro cdv A outer s H vs Q E hr ⟨v, rfl, h, q⟩
    refine ⟨_, (pss_one (ps_ret pe_bl)), ?_⟩
    walk_at "rd"
    exact q
theorem ok_One_many {d : Nat} (T : Txt K mg) : OkD P w K mg base 1 (mA K "One" "many") ["self"] [] (spMany K (.one d)) := by
  refine okD T.F_One_many sc_Part_many (fun _ _ _ _ _ _ us hl => match us, hl with | [_], _ => rfl) ?_ ?_
  · rintro vs H Q E ⟨v, rfl, _⟩
    rfl
  · rintro cdv A outer s H vs Q E hr ⟨v, rfl, h, q⟩
    refine ⟨_, (pss_one (ps_ret pe_bl)), ?_⟩
    walk_at "rd"
    exact q
theorem ok_Among_many {l : List Nat} {o : Bool} (T : Txt K mg) : OkD P w K mg base 1 (mA K "Among" "many") ["self"] [] (spMany K (.among l o)) := by
  refine okD T.F_Among_many sc_Part_many (fun _ _ _ _ _ _ us hl => match us, hl with | [_], _ => rfl) ?_ ?_
  · rintro vs H Q E ⟨v, rfl, _⟩
    rfl
  · rintro cdv A outer s H vs Q E hr ⟨v, rfl, h, q⟩
    refine ⟨_, (pss_one (ps_ret pe_bl)), ?_⟩
    walk_at "rd"
    exact q
theorem ok_Stars_many (T : Txt K mg) : OkD P w K mg base 1 (mA K "Stars" "many") ["self"] [] (spMany K .stars) := by
  refine okD T.F_Stars_many sc_Stars_many (fun _ _ _ _ _ _ us hl => match us, hl with | [_], _ => rfl) ?_ ?_
  · rintro vs H Q E ⟨v, rfl, _⟩
    rfl
  · rintro cdv A outer s H vs Q E hr ⟨v, rfl, h, q⟩
    refine ⟨_, (pss_one (ps_ret pe_bl)), ?_⟩
    walk_at "rd"
    exact q
section
variable {X : Cx}
theorem md_fits (T : Txt K mg) (h1 : X.prog = P := by rfl) (h2 : X.w = w := by rfl) (h3 : X.K = K := by rfl) (h4 : X.mg = mg := by rfl) (h5 : X.base = base := by rfl) : MetD X 1 "fits" (PartV K) (spFits K) := by
  subst h1 h2 h3 h4 h5
  rintro i x H ⟨p, dx, rfl, hp⟩
  cases i with
  | one c => exact ⟨p, _, dx, _, _, _, rfl, hp, T.c_One, T.m_One_fits, rfl, (ok_One_fits T).mono (by decide)⟩
  | any => exact ⟨p, _, dx, _, _, _, rfl, hp, T.c_Any, T.m_Any_fits, rfl, (ok_Any_fits T).mono (by decide)⟩
  | among l o => exact ⟨p, _, dx, _, _, _, rfl, hp, T.c_Among, T.m_Among_fits, rfl, (ok_Among_fits T).mono (by decide)⟩
  | stars => exact ⟨p, _, dx, _, _, _, rfl, hp, T.c_Stars, T.m_Stars_fits, rfl, (ok_Stars_fits T).mono (by decide)⟩
theorem md_many (T : Txt K mg) (h1 : X.prog = P := by rfl) (h2 : X.w = w := by rfl) (h3 : X.K = K := by rfl) (h4 : X.mg = mg := by rfl) (h5 : X.base = base := by rfl) : MetD X 1 "many" (PartV K) (spMany K) := by
  subst h1 h2 h3 h4 h5
  rintro i x H ⟨p, dx, rfl, hp⟩
  cases i with
  | one c => exact ⟨p, _, dx, _, _, _, rfl, hp, T.c_One, T.m_One_many, rfl, (ok_One_many T).mono (by decide)⟩
  | any => exact ⟨p, _, dx, _, _, _, rfl, hp, T.c_Any, T.m_Any_many, rfl, (ok_Any_many T).mono (by decide)⟩
  | among l o => exact ⟨p, _, dx, _, _, _, rfl, hp, T.c_Among, T.m_Among_many, rfl, (ok_Among_many T).mono (by decide)⟩
  | stars => exact ⟨p, _, dx, _, _, _, rfl, hp, T.c_Stars, T.m_Stars_many, rfl, (ok_Stars_many T).mono (by decide)⟩
end

/-! ### what parts tell -/
theorem ok_Any_told (T : Txt K mg) : OkD P w K mg base 1 (mA K "Any" "told") ["self"] [] (spToldP K .any) := by
  refine okD T.F_Any_told sc_Part_told (fun _ _ _ _ _ _ us hl => match us, hl with | [_], _ => rfl) ?_ ?_
  · rintro vs H Q E ⟨v, rfl, _⟩
    rfl
  · rintro cdv A outer s H vs Q E hr ⟨v, rfl, h, q⟩
    refine ⟨_, (pss_one (ps_ret (pe_tup (pa_cons pe_str pa_nil)))), ?_⟩
    walk_at "rd"
    intro p hp
    exact q _ _ (same_new hp) (.tup (.inl (.inl upd_same)) (.cons (.str _) .nil))
theorem ok_Stars_told (T : Txt K mg) : OkD P w K mg base 1 (mA K "Stars" "told") ["self"] [] (spToldP K .stars) := by
  refine okD T.F_Stars_told sc_Stars_told (fun _ _ _ _ _ _ us hl => match us, hl with | [_], _ => rfl) ?_ ?_
  · rintro vs H Q E ⟨v, rfl, _⟩
    rfl
  · rintro cdv A outer s H vs Q E hr ⟨v, rfl, h, q⟩
    refine ⟨_, (pss_one (ps_ret (pe_tup (pa_cons pe_str pa_nil)))), ?_⟩
    walk_at "rd"
    intro p hp
    exact q _ _ (same_new hp) (.tup (.inl (.inl upd_same)) (.cons (.str _) .nil))
theorem ok_One_told {d : Nat} (T : Txt K mg) : OkD P w K mg base 1 (mA K "One" "told") ["self"] [] (spToldP K (.one d)) := by
  refine okD T.F_One_told sc_One_told (fun _ _ _ _ _ _ us hl => match us, hl with | [_], _ => rfl) ?_ ?_
  · rintro vs H Q E ⟨v, rfl, _⟩
    rfl
  · rintro cdv A outer s H vs Q E hr ⟨v, rfl, ⟨p, dx, rfl, hp⟩, q⟩
    refine ⟨_, (pss_one (ps_ret (pe_tup (pa_cons pe_str (pa_cons (pe_fldK (K := K) (pv 0) rfl) pa_nil))))), ?_⟩
    have tobj := T.obj
    walk_at "rdh"
    intro r hr
    exact q _ _ (same_new hr) (.tup (.inl (.inl upd_same)) (.cons (.str _) (.cons (.str _) .nil)))
theorem ok_Among_told {l : List Nat} {o : Bool} (T : Txt K mg) : OkD P w K mg base 1 (mA K "Among" "told") ["self"] [] (spToldP K (.among l o)) := by
  refine okD T.F_Among_told sc_Among_told (fun _ _ _ _ _ _ us hl => match us, hl with | [_], _ => rfl) ?_ ?_
  · rintro vs H Q E ⟨v, rfl, _⟩
    rfl
  · rintro cdv A outer s H vs Q E hr ⟨v, rfl, ⟨p, dx, rfl, hp⟩, q⟩
    refine ⟨_, (pss_one (ps_ret (pe_tup (pa_cons pe_str (pa_cons (pe_fldK (K := K) (pv 0) rfl) (pa_cons (pe_fldK (K := K) (pv 0) rfl) pa_nil)))))), ?_⟩
    have tobj := T.obj
    walk_at "rdh"
    intro r hr
    exact q _ _ (same_new hr) (.tup (.inl (.inl upd_same)) (.cons (.str _) (.cons (.str _) (.cons (.bl _) .nil))))
section
variable {X : Cx}
theorem md_toldP (T : Txt K mg) (h1 : X.prog = P := by rfl) (h2 : X.w = w := by rfl) (h3 : X.K = K := by rfl) (h4 : X.mg = mg := by rfl) (h5 : X.base = base := by rfl) : MetD X 1 "told" (PartV K) (spToldP K) := by
  subst h1 h2 h3 h4 h5
  rintro i x H ⟨p, dx, rfl, hp⟩
  cases i with
  | one c => exact ⟨p, _, dx, _, _, _, rfl, hp, T.c_One, T.m_One_told, rfl, (ok_One_told T).mono (by decide)⟩
  | any => exact ⟨p, _, dx, _, _, _, rfl, hp, T.c_Any, T.m_Any_told, rfl, (ok_Any_told T).mono (by decide)⟩
  | among l o => exact ⟨p, _, dx, _, _, _, rfl, hp, T.c_Among, T.m_Among_told, rfl, (ok_Among_told T).mono (by decide)⟩
  | stars => exact ⟨p, _, dx, _, _, _, rfl, hp, T.c_Stars, T.m_Stars_told, rfl, (ok_Stars_told T).mono (by decide)⟩
end

/-! ### the parts made -/
def spOne (K : PySem.W.Frag) : Sp := fun vs H Q E => ∃ p dx z, vs = [.ref p, .str z] ∧ H p = some (.ins (fA K "One") dx []) ∧ z.length ≤ 1000 ∧
  (∀ c H', c ∈ SIG → z = S [c] → H' p = some (PartO K dx (.one c)) → But p H H' → Q .non H') ∧ ((¬ ∃ c ∈ SIG, z = S [c]) → E (.ref (fA K "NoPart")) none H)
theorem ok_One___init__ (T : Txt K mg) : OkD P w K mg base 2 (mA K "One" "__init__") ["self", "sign"] [] (spOne K) := by
  refine okD T.F_One___init__ sc_One___init__ (fun _ _ _ _ _ _ us hl => match us, hl with | [_, _], _ => rfl) ?_ ?_
  · rintro vs H Q E ⟨p, dx, z, rfl, _⟩
    rfl
  · rintro cdv A outer s H vs Q E hr ⟨p, dx, z, rfl, hp, hz, q1, q2⟩
    refine ⟨_, (pss_cons (ps_if (pt_not (pt_tru (K := K) (pe_cal (ok_is_sign T) (hr.mono (by decide)) rfl T.g_is_sign (pasE (takes_of rfl rfl rfl rfl) (fun _ _ _ _ h => h)) (pa_cons (pv 1) pa_nil)) (by intro _; rfl))) (pss_one (ps_raise rfl (takes_of rfl rfl rfl rfl) (pmk_own PySem.F.excBase_ValueError T.x_NoPart.1 T.g_NoPart T.x_NoPart.2.1 (raises_own T.x_NoPart.2.2.1 T.x_NoPart.2.2.2) rfl))) pss_nil)
  (pss_one (ps_fld (pv 0) (pv 1) rfl))), ?_⟩
    have tobj := T.obj
    walk_at "rdh"
    refine ⟨z, rfl, by rw [sizeLine_eq]; omega, ?_⟩
    walk_at "rdh"
    refine ite2 (fun h => ?_) fun h => ?_
    · exact q2 h
    · obtain ⟨c, hc, rfl⟩ := Classical.not_not.mp h
      exact q1 c _ hc rfl upd_same But.upd
def spAmong (K : PySem.W.Frag) : Sp := fun vs H Q E => ∃ p dx z o, vs = [.ref p, .str z, .bl o] ∧ H p = some (.ins (fA K "Among") dx []) ∧ z.length < 1000 ∧
  (∀ l H', SigSet l → z.cps.toList.Perm l → H' p = some (PartO K dx (.among l o)) → But p H H' → Q .non H') ∧ ((¬ ∃ l, SigSet l ∧ z.cps.toList.Perm l) → ∀ H', Same H H' → E (.ref (fA K "NoPart")) none H')
theorem bd_Among___init__ (T : Txt K mg) : BodyQ P w K mg base 1 (mA K "Among" "__init__") "Among.__init__" (defBody TX.s_Among___init__) (defScope TX.s_Among___init__) N_Among___init__ (spAmong K) := by
  rintro cdv A outer s H vs Q E hr ⟨p, dx, z, o, rfl, hp, hz, q1, q2⟩
  refine ⟨_, (pss_cons (ps_if (pt_mid (PW.pt (pw_or (pt_cmpR (o_eq (K := K) (hu64 hr)) (pv 1) pe_str (nomark _)) (pw_or (pt_cmpR o_lt (pe_callB (o_lenW (K := K) (w := w)) (by rfl) T.fr_len boot_len (pa_cons (pe_callTy (o_set (K := K) (w := w) rfl) (by rfl) T.fr_set (by decide +kernel) (pa_cons (pv 1) pa_nil)) pa_nil)) (pe_callB (o_lenW (K := K) (w := w)) (by rfl) T.fr_len boot_len (pa_cons (pv 1) pa_nil)) (nomark _)) (pw_or1 (pt_not (pt_tru (K := K) (pe_callB (o_all (K := K) rfl) (by rfl) T.fr_all (by decide +kernel) (pa_cons (pe_lc (own := [("sign", 3)]) (g := (gName 3)) (tt := tYes) rfl sc_Among___init__.nd (pi_mid (o_it (K := K) rfl (pv 1))) (blkOk_by (N := N_Among___init__) (sc := defScope TX.s_Among___init__) (by decide +kernel)) (fun _ _ _ _ _ => (pg_name (i := 3) sc_Among___init__.nd rfl (Or.inl rfl))) (fun _ _ _ _ _ => pts_nil) (fun _ _ _ _ _ => (pe_mid (pe_cal (ok_is_sign T) (hr.mono (by decide)) rfl T.g_is_sign pasN (pa_cons (pv 3) pa_nil))))) pa_nil)) (by intro _; rfl)))))))) (pss_one (ps_raise rfl (takes_of rfl rfl rfl rfl) (pmk_own PySem.F.excBase_ValueError T.x_NoPart.1 T.g_NoPart T.x_NoPart.2.1 (raises_own T.x_NoPart.2.2.1 T.x_NoPart.2.2.2) rfl))) pss_nil)
  (pss_cons (ps_fld (pv 0) (pe_mid (pe_bmK (K := K) PySem.F.plainAttrs_str PySem.F.slot_str_join PySem.F.type_str_join (mo_join (K := K)) pe_str (pa_cons (pe_callB (o_sorted (K := K) (w := w) rfl) (by rfl) T.fr_sorted (by decide +kernel) (pa_cons (pv 1) pa_nil)) pa_nil))) rfl)
  (pss_one (ps_fld (pv 0) (pv 2) rfl)))), ?_⟩
  have tobj := T.obj
  refine q_if (fun b H1 => Same H H1 ∧ (b = true ↔ ¬ Good z)) ?_ (fun H1 ⟨s1, e1⟩ => ?_) fun H1 ⟨s1, e1⟩ => ?_
  · walk_at "rd"
    refine ite2 (fun h => ?_) fun h => ?_
    · exact ⟨fun _ g => (good_iff.mp g).1 h, fun _ => trivial⟩
    have hch : (chars z).length = z.length := by unfold chars; rw [List.length_map, Array.length_toList]; rfl
    refine ⟨by rw [hch]; exact hz, fun a l ha nd hm => .inl ⟨l, upd_same, by omega, ?_⟩⟩
    have sa := same_new (o := SetS w a l) ha
    have el : ((l.length : Int) < (z.length : Int)) = ¬ (chars z).Nodup := by
      rw [← set_len nd hm, hch]
      exact propext Int.ofNat_lt
    refine ite2 (fun hn => ?_) fun hn => ?_
    · exact ⟨sa, fun _ g => (el ▸ hn) (good_iff.mp g).2.1, fun _ => trivial⟩
    rw [el] at hn
    refine lc_text (z := z) (H0 := upd H a (SetS w a l)) (fun c => .bl (decide (c ∈ SIG))) ?_ (by omega) (fun _ => rfl) ?_ ?_
    · walk_at "rd"
    · intro c H' hc s2
      walk_at "rd"
      refine ⟨⟨#[c]⟩, rfl, (by rw [sizeLine_eq]; show 1 ≤ 16777216; decide), ?_⟩
      walk_at "rd"
      refine decide_eq_decide.mpr ⟨fun ⟨d, hd, e⟩ => ?_, fun hd => ⟨c, hd, rfl⟩⟩
      rw [S1_inj e]
      exact hd
    · intro p' H' hp' s2 hH'
      walk_at "rd"
      refine ⟨z.cps.toList.map fun c => decide (c ∈ SIG), .inl (.inl (by rw [hH', List.map_map]; rfl)), ?_⟩
      refine ⟨sa.trans s2, ?_⟩
      have e : (z.cps.toList.map fun c => decide (c ∈ SIG)).all id = decide (∀ c ∈ z.cps.toList, c ∈ SIG) := by
        rw [List.all_map]
        refine Bool.eq_iff_iff.mpr ?_
        rw [List.all_eq_true, decide_eq_true_eq]
        exact ⟨fun h c hc => of_decide_eq_true (h c hc), fun h c hc => decide_eq_true (h c hc)⟩
      rw [e]
      rw [decide_eq_false_iff_not]
      exact ⟨fun hs g => hs (good_iff.mp g).2.2, fun hg hs => hg (good_iff.mpr ⟨h, Classical.not_not.mp hn, hs⟩)⟩
  · walk_at "rd"
    exact q2 (e1.mp rfl) _ s1
  · have g : Good z := Classical.not_not.mp fun n => nomatch e1.mpr n
    obtain ⟨g1, g2, g3⟩ := good_iff.mp g
    obtain ⟨l, ok, pm⟩ := g
    have hp1 := s1 _ _ hp
    have c1 := T.c_Among
    walk_at "rd"
    refine mid_of (fun v H' => v = .str (S l) ∧ Same H1 H') ?_ ?_
    · walk_at "rd"
      have el := pm.length_eq
      have e39 := ok.len
      have hch : (chars z).length = l.length := by unfold chars; rw [List.length_map, el]
      refine ⟨by omega, fun ys p' p1 so hp' => ?_⟩
      obtain ⟨cs, rfl, up, mem⟩ := sorted_signs p1 so g2 fun x hx => by
        obtain ⟨c, _, rfl⟩ := List.mem_map.mp hx
        exact ⟨c, rfl⟩
      have ec : cs = l := up_eq up ok.up fun c => by rw [mem, ← pm.mem_iff]; exact map1_mem
      subst ec
      refine ⟨_, .inl (.inl (.inl upd_same)), ?_, join_chars cs, same_new hp'⟩
      have e := len_chars cs
      rw [show (Str.ofString "") = S [] from rfl, e]
      omega
    · rintro _ H2 ⟨rfl, s2⟩
      have hp2 := s2 _ _ hp1
      walk_at "rdh"
      exact q1 l _ ok pm upd_same (.same (s1.trans s2) .upd)
theorem ok_Among___init___1 (T : Txt K mg) : OkD P w K mg base 2 (mA K "Among" "__init__") ["self", "signs", "outside"] [V.bl false] (spAmong K) := okDd T.F_Among___init__ sc_Among___init__ 2 0 (fun q => nomatch q) rfl (fun _ _ _ _ _ _ _ us its hl hi => match us, hl, its, hi with | [_, _], _, [_], _ => ⟨_, rfl, rfl⟩) (by rintro vs H Q E ⟨p, dx, z, o, rfl, _⟩; rfl) (bd_Among___init__ T)
theorem ok_Among___init__ (T : Txt K mg) : OkD P w K mg base 2 (mA K "Among" "__init__") ["self", "signs", "outside"] [] (spAmong K) := okDd T.F_Among___init__ sc_Among___init__ 3 1 (fun q => nomatch q) rfl (fun _ _ _ _ _ _ _ us its hl hi => match us, hl, its, hi with | [_, _, _], _, [_], _ => ⟨_, rfl, rfl⟩) (by rintro vs H Q E ⟨p, dx, z, o, rfl, _⟩; rfl) (bd_Among___init__ T)
theorem okk_Among___init___outside (T : Txt K mg) : OkK P w K mg base 2 (mA K "Among" "__init__") ["self", "signs", "outside"] 2 ["outside"] (spAmong K) := okK T.F_Among___init__ sc_Among___init__ 2 ["outside"] (fun q => nomatch q) (fun _ _ _ _ _ _ _ us its ws hl hi hw => match us, hl, its, hi, ws, hw with | [_, _], _, [_], _, [_], _ => ⟨_, rfl, rfl⟩) (by rintro vs H Q E ⟨p, dx, z, o, rfl, _⟩; rfl) (bd_Among___init__ T)

/-! ### steps -/
theorem while_mid {c : TT} {tb : TS} {D : Ends} {σ : L2.St} {H : Hp} (W : Nat → L2.St → Hp → Prop) (m : Nat) (w0 : W m σ H)
    (turn : ∀ m σ H, W m σ H → ∃ C : Bool → Hp → Prop, c σ H C ∧ (∀ H1, C true H1 → tb { D with nx := fun σ' H' => ∃ m', m' < m ∧ W m' σ' H', ct := fun σ' H' => ∃ m', m' < m ∧ W m' σ' H', bk := D.nx } σ H1) ∧ ∀ H1, C false H1 → D.nx σ H1) :
    tWhile (tMidT c) tb D σ H := by
  refine ⟨W, ⟨m, w0⟩, fun m σ H w => ?_⟩
  obtain ⟨C, h1, h2, h3⟩ := turn m σ H w
  refine ⟨C, h1, fun b H1 hb => ?_⟩
  cases b with
  | true => exact ⟨_, fun _ _ h => h, h2 H1 hb⟩
  | false => exact h3 H1 hb
theorem q_new {i : Nat} {u : TS} {D : Ends} {σ : L2.St} {H : Hp} (h : ∀ p, H p = none → u D (σ.set i (some (.ref p))) (upd H p (.lst []))) : tSeq (tAsg (tLst tNil) (gName i)) u D σ H := by
  unfold tSeq tAsg tLst tNil gName
  exact ⟨Nat.zero_le _, fun p hp => h p hp⟩
theorem q_app {i : Nat} {te : TE} {u : TS} {D : Ends} {σ : L2.St} {H : Hp} {F : Addr} {xs : List V} (e : σ[i]? = some (some (.ref F))) (hl : H F = some (.lst xs))
    (h : te σ H fun y H1 => ∃ ys, H1 F = some (.lst ys) ∧ ys.length < sizeLine ∧ u D σ (upd H1 F (.lst (ys ++ [y])))) : tSeq (tDrop (tBM K "list" rAppend (tVar i) (tCons (tMid te) tNil))) u D σ H := by
  unfold tSeq tDrop tBM tVar tCons tNil
  exact ⟨_, e, .inl ⟨rfl, xs, .inl (.inl hl)⟩, _, h, fun y H1 ⟨ys, h1, h2, h3⟩ => ⟨F, ys, y, rfl, rfl, h1, h2, h3⟩⟩
theorem l_app {i : Nat} {te : TE} {D : Ends} {σ : L2.St} {H : Hp} {F : Addr} {xs : List V} (e : σ[i]? = some (some (.ref F))) (hl : H F = some (.lst xs))
    (h : te σ H fun y H1 => ∃ ys, H1 F = some (.lst ys) ∧ ys.length < sizeLine ∧ D.nx σ (upd H1 F (.lst (ys ++ [y])))) : tDrop (tBM K "list" rAppend (tVar i) (tCons (tMid te) tNil)) D σ H := by
  unfold tDrop tBM tVar tCons tNil
  exact ⟨_, e, .inl ⟨rfl, xs, .inl (.inl hl)⟩, _, h, fun y H1 ⟨ys, h1, h2, h3⟩ => ⟨F, ys, y, rfl, rfl, h1, h2, h3⟩⟩
theorem q_appV {i j : Nat} {u : TS} {D : Ends} {σ : L2.St} {H : Hp} {F : Addr} {xs : List V} {y : V} (e : σ[i]? = some (some (.ref F))) (e2 : σ[j]? = some (some y)) (hl : H F = some (.lst xs)) (hn : xs.length < 16777216)
    (h : u D σ (upd H F (.lst (xs ++ [y])))) : tSeq (tDrop (tBM K "list" rAppend (tVar i) (tCons (tMid (tVar j)) tNil))) u D σ H := q_app e hl ⟨y, e2, xs, hl, by rw [sizeLine_eq]; exact hn, h⟩
theorem l_appV {i j : Nat} {D : Ends} {σ : L2.St} {H : Hp} {F : Addr} {xs : List V} {y : V} (e : σ[i]? = some (some (.ref F))) (e2 : σ[j]? = some (some y)) (hl : H F = some (.lst xs)) (hn : xs.length < 16777216)
    (h : D.nx σ (upd H F (.lst (xs ++ [y])))) : tDrop (tBM K "list" rAppend (tVar i) (tCons (tMid (tVar j)) tNil)) D σ H := l_app e hl ⟨y, e2, xs, hl, by rw [sizeLine_eq]; exact hn, h⟩
def intsV (l : List Nat) : List V := l.map fun (i : Nat) => V.int (i : Int)
theorem inV_ints {j : Nat} : ∀ {l : List Nat}, inV (.int j) (intsV l) = decide (j ∈ l)
  | [] => rfl
  | i :: r => by
    have ih := inV_ints (j := j) (l := r)
    have e : inV (.int j) (intsV (i :: r)) = (decide ((i : Int) = (j : Int)) || inV (.int j) (intsV r)) := rfl
    rw [e, ih, ← Bool.decide_or]
    refine decide_eq_decide.mpr ?_
    rw [List.mem_cons, Int.natCast_inj]
    exact ⟨fun h => h.imp Eq.symm id, fun h => h.imp Eq.symm id⟩
theorem flat_ints : ∀ (l : List Nat), (intsV l).all flatV = true
  | [] => rfl
  | _ :: r => flat_ints r
theorem l_midG {i : Nat} {te : TE} {D : Ends} {σ : L2.St} {H : Hp} (C : V → Hp → Prop) (h : te σ H C) (k : ∀ v H1, C v H1 → D.nx (σ.set i (some v)) H1) : tAsg (tMid te) (gName i) D σ H := ⟨C, h, k⟩
theorem drop_le {α : Type} (k : Nat) (l : List α) : (l.drop k).length ≤ l.length := by rw [List.length_drop]; exact Nat.sub_le _ _
theorem atI_zero {α : Type} {x : α} {r : List α} : atI (x :: r) 0 = some x := by
  show atI (x :: r) ((0 : Nat) : Int) = some x
  exact atI_nat rfl
theorem add_str {K : PySem.W.Frag} {a b : List Nat} {H : Hp} {Q : VK} (h : a.length + b.length ≤ 1000000) (q : Q (.str (S (a ++ b))) H) : rAddU K (.str (S a)) (.str (S b)) H Q :=
  ⟨by rw [S_len, S_len, sizeLine_eq]; omega, by rw [S_cat]; exact q⟩

/-! ### segments -/
theorem PartsV.at' {fs : List PF} {us : List V} {H : Hp} {i : Nat} {x : V} (h : PartsV K fs us H) (e : us[i]? = some x) : ∃ f, fs[i]? = some f ∧ PartV K f x H := by
  have hl : i < us.length := (List.getElem?_eq_some_iff.mp e).1
  rw [h.1] at hl
  obtain ⟨u, e2, g⟩ := h.2 i fs[i] (List.getElem?_eq_getElem hl)
  rw [e2] at e
  cases e
  exact ⟨_, List.getElem?_eq_getElem hl, g⟩
theorem atI_last {xs : List V} {u : V} (h : xs.getLast? = some u) : atI xs (-1) = some u := by
  unfold atI ixN
  have hne : xs ≠ [] := fun e => by rw [e] at h; cases h
  have hl : 0 < xs.length := List.length_pos_iff.mpr hne
  rw [if_neg (by decide), if_pos (by omega)]
  have e : ((-1 : Int) + (xs.length : Int)).toNat = xs.length - 1 := by omega
  show xs[((-1 : Int) + (xs.length : Int)).toNat]? = some u
  rw [e, ← List.getLast?_eq_getElem?]
  exact h
theorem PartsV.last {fs : List PF} {us : List V} {H : Hp} {f : PF} (h : PartsV K fs us H) (e : fs.getLast? = some f) : ∃ u, us.getLast? = some u ∧ PartV K f u H := by
  rw [List.getLast?_eq_getElem?] at e
  obtain ⟨u, e2, g⟩ := h.2 _ f e
  refine ⟨u, ?_, g⟩
  rw [List.getLast?_eq_getElem?, h.1]
  exact e2
def addB (acc : List PF) (f : PF) : Bool := decide (acc = []) || (!f.many || match acc.getLast? with
  | some g => !g.many
  | none => true)
theorem normOne_eq (acc : List PF) (f : PF) : normOne acc f = if addB acc f = true then acc ++ [f] else acc := by
  unfold normOne addB
  rcases List.eq_nil_or_concat acc with rfl | ⟨r, g, rfl⟩
  · simp
  · rw [List.concat_eq_append]
    simp only [List.getLast?_append, List.getLast?_singleton, Option.some_or]
    cases f.many <;> cases h : g.many <;> simp [h]
def spSeg (K : PySem.W.Frag) : Sp := fun vs H Q E => ∃ p dx t us fs, vs = [.ref p, .ref t] ∧ (SqT K H t us ∨ SqL K H t us) ∧ PartsV K fs us H ∧ fs.length ≤ 1000 ∧ H p = some (.ins (fA K "Segment") dx []) ∧ (∀ u ∈ us, u ≠ .ref p) ∧
  (fs ≠ [] → ∀ H' tt us', But p H H' → H' p = some (.ins (fA K "Segment") dx [("parts", .ref tt)]) → H' tt = some (.tup us') → PartsV K (normP fs) us' H' → Q .non H') ∧ (fs = [] → E (.ref (fA K "NoPart")) none H)
theorem seq_walk {t : Addr} {us : List V} {H : Hp} (h : SqT K H t us ∨ SqL K H t us) : ∃ J0 G, (∀ (σ : L2.St) (H' : Hp) (i : Nat), σ[i]? = some (some (.ref t)) → Same H H' → iU K (tVar i) σ H' fun J H1 => J = J0 ∧ H1 = H') ∧ Walk J0 us.length G (YAt us) ∧ ∀ H', Same H H' → G H' := by
  rcases h with h | h
  · exact ⟨_, _, fun σ H' i e s => ⟨_, e, .inr ⟨⟨us, same_t s h⟩, rfl, rfl⟩⟩, walk_tup (K := K) (a := t) (xs := us), fun H' s => same_t s h⟩
  · exact ⟨_, _, fun σ H' i e s => ⟨_, e, .inl ⟨⟨us, same_l s h⟩, rfl, rfl⟩⟩, walk_list (K := K) (a := t) (xs := us), fun H' s => same_l s h⟩
theorem len_seq {t : Addr} {us : List V} {H : Hp} (h : SqT K H t us ∨ SqL K H t us) : LenV K (.ref t) H us.length := h.elim (fun h => .inr ⟨us, h, rfl⟩) fun h => .inl ⟨us, h, rfl⟩
theorem ok_Segment___init__ (T : Txt K mg) : OkD P w K mg base 2 (mA K "Segment" "__init__") ["self", "parts"] [] (spSeg K) := by
  refine okD T.F_Segment___init__ sc_Segment___init__ (fun _ _ _ _ _ _ us hl => match us, hl with | [_, _], _ => rfl) ?_ ?_
  · rintro vs H Q E ⟨p, dx, t, us, fs, rfl, _⟩
    rfl
  · rintro cdv A outer s H vs Q E hr ⟨p, dx, t, us, fs, rfl, ht, hp, hn, ho, hup, q1, q2⟩
    refine ⟨_, (pss_cons (ps_if (pt_mid (pt_cmpR (o_eq (K := K) (hu64 hr)) (pe_callB (o_lenW (K := K) (w := w)) (by rfl) T.fr_len boot_len (pa_cons (pv 1) pa_nil)) pe_int (nomark _))) (pss_one (ps_raise rfl (takes_of rfl rfl rfl rfl) (pmk_own PySem.F.excBase_ValueError T.x_NoPart.1 T.g_NoPart T.x_NoPart.2.1 (raises_own T.x_NoPart.2.2.1 T.x_NoPart.2.2.2) rfl))) pss_nil)
  (pss_cons (ps_set (i := 2) sc_Segment___init__.nd rfl (Or.inl rfl) (pe_lst pa_nil))
  (pss_cons (ps_mid (ps_for (passes_of rfl) rfl (pi_mid (o_it (K := K) rfl (pv 1))) (pg_name (i := 3) sc_Segment___init__.nd rfl (Or.inl rfl)) (pss_one (ps_if (pt_mid (PW.pt (pw_or (pt_cmpR (o_eq (K := K) (hu64 hr)) (pv 2) (pe_lst pa_nil) (nomark _)) (pw_or (pt_not (pt_tru (K := K) (pe_metI0 (md_many T) (pv 3) (hr.mono (by decide)) (pasE (takes_of rfl rfl rfl rfl) (fun _ _ _ _ h => h))) (by intro _; rfl))) (pw_or1 (pt_not (pt_tru (K := K) (pe_metI0 (md_many T) (pe_ix (o_ix (K := K)) (pv 2) (pe_un un_neg pe_int) (fun _ _ => rfl)) (hr.mono (by decide)) (pasE (takes_of rfl rfl rfl rfl) (fun _ _ _ _ h => h))) (by intro _; rfl)))))))) (pss_one (ps_expr (pe_bmK (K := K) PySem.F.plainAttrs_list PySem.F.slot_list_append PySem.F.type_list_append mt_append (pv 2) (pa_cons (pe_mid (pv 3)) pa_nil)))) pss_nil))))
  (pss_one (ps_fld (pv 0) (pe_mid (pe_callTy (o_tuple (K := K)) (by rfl) T.fr_tuple (by decide +kernel) (pa_cons (pv 2) pa_nil))) rfl))))), ?_⟩
    have tobj := T.obj
    refine q_if (fun b H' => H' = H ∧ b = decide (fs = [])) ?_ ?_ ?_
    · walk_at "rd"
      refine .inr ⟨_, len_seq ht, ?_⟩
      rw [hp.1]
      refine decide_eq_decide.mpr ⟨fun h => List.length_eq_zero_iff.mp (by omega), fun h => by rw [h]; rfl⟩
    · rintro _ ⟨rfl, hb⟩
      walk_at "rd"
      exact q2 (of_decide_eq_true hb.symm)
    rintro _ ⟨rfl, hb⟩
    have hne : fs ≠ [] := of_decide_eq_false hb.symm
    rename_i H
    refine q_new fun F hF => ?_
    have hFp : F ≠ p := fun e => by rw [e, ho] at hF; cases hF
    obtain ⟨J0, G, hw, wk, hG⟩ := seq_walk ht
    have sF : Same H (upd H F (.lst [])) := same_new hF
    refine q_stm (fun σ H' => ∃ acc x, σ = [some (.ref p), some (.ref t), some (.ref F), x] ∧ Same H H' ∧ H' F = some (.lst acc) ∧ PartsV K (normP fs) acc H' ∧ ∀ u ∈ acc, u ≠ .ref p) ?_ ?_
    · refine for_mid (J0 := J0) (H0 := upd H F (.lst [])) (hw _ _ _ rfl sF) wk
        (fun k σ H' => ∃ acc x, σ = [some (.ref p), some (.ref t), some (.ref F), x] ∧ Same H H' ∧ H' F = some (.lst acc) ∧ PartsV K ((fs.take k).foldl normOne []) acc H' ∧ ∀ u ∈ acc, u ≠ .ref p)
        ⟨[], none, rfl, sF, upd_same, .nil, fun _ h => nomatch h⟩ (fun k σ H' _ ⟨_, _, _, s, _⟩ => hG H' s) ?_ (fun σ H' h => ?_)
      · rintro k x σ H1 H1' hk ⟨acc, x0, rfl, sm, hl, pv, nup⟩ ⟨rfl, hx⟩
        obtain ⟨f, hf, hu⟩ := hp.at' hx
        have hu1 := hu.mono sm
        have len : acc.length ≤ fs.length := by
          rw [pv.1]
          have key : ∀ (l : List PF), (l.foldl normOne []).length ≤ l.length := fun l => by
            have g : ∀ (l a : List PF), (l.foldl normOne a).length ≤ a.length + l.length := by
              intro l
              induction l with
              | nil => exact fun a => Nat.le_refl _
              | cons y r ih =>
                intro a
                refine Nat.le_trans (ih (normOne a y)) ?_
                have e : (normOne a y).length ≤ a.length + 1 := by
                  unfold normOne
                  split
                  · rw [List.length_append]; exact Nat.le_refl _
                  · exact Nat.le_succ _
                rw [List.length_cons]
                omega
            have := g l []
            simpa using this
          have a := key (fs.take k)
          have b := List.length_take_le' k fs
          omega
        refine l_if (fun b H' => Same H1' H' ∧ b = addB ((fs.take k).foldl normOne []) f) ?_ ?_ ?_
        · walk_at "rd"
          intro n hn0
          have sn : Same H1' (upd H1' n (.lst [])) := same_new hn0
          have hln := sn _ _ hl
          have hun := hu1.mono sn
          have eacc : acc = [] ↔ (fs.take k).foldl normOne [] = [] := by
            rw [← List.length_eq_zero_iff, ← List.length_eq_zero_iff, pv.1]
          generalize ha0 : (fs.take k).foldl normOne [] = a0 at *
          refine eq_nil (.inl (.inl hln)) (.inl (.inl upd_same)) ⟨_, rfl, ite2 (fun h => ?_) fun h => ?_⟩
          · refine ⟨sn, ?_⟩
            unfold addB
            rw [decide_eq_true (eacc.mp (of_decide_eq_true h))]
            rfl
          have hna : a0 ≠ [] := fun e => h (decide_eq_true (eacc.mpr e))
          have e0 : addB a0 f = (!f.many || match a0.getLast? with
            | some g => !g.many
            | none => true) := by
            unfold addB
            rw [decide_eq_false hna]
            rfl
          refine ⟨f, hun, x, rfl, hun, _, rfl, ite2 (fun hm => ⟨sn, ?_⟩) fun hm => ?_⟩
          · rw [e0, hm]; rfl
          obtain ⟨g, hg⟩ : ∃ g, a0.getLast? = some g := by
            cases e : a0.getLast? with
            | none => exact absurd (List.getLast?_eq_none_iff.mp e) hna
            | some g => exact ⟨g, rfl⟩
          obtain ⟨u, h1, h2⟩ := pv.last hg
          have h2n := h2.mono sn
          refine ⟨acc, .inl (.inl (.inl hln)), u, atI_last h1, g, h2n, u, rfl, h2n, _, rfl, sn, ?_⟩
          have hm' : f.many = true := by simpa using hm
          rw [e0, hm', hg]
          rfl
        · rintro H2 ⟨s2, hb⟩
          have hl2 := s2 _ _ hl
          refine l_appV rfl rfl hl2 (by omega) ⟨acc ++ [x], _, rfl, same_mut (sm.trans s2) hF, upd_same, ?_, fun u hu => (List.mem_append.mp hu).elim (nup u) fun h => by rw [List.mem_singleton.mp h]; exact hup x (List.mem_of_getElem? hx)⟩
          rw [norm_take hf, normOne_eq, if_pos hb.symm]
          exact ((pv.mono s2).nl (nl_upd hl2)).snoc ((hu1.mono s2).nl (nl_upd hl2))
        · rintro H2 ⟨s2, hb⟩
          refine ⟨acc, _, rfl, sm.trans s2, s2 _ _ hl, ?_, nup⟩
          rw [norm_take hf, normOne_eq, if_neg (by rw [← hb]; exact Bool.false_ne_true)]
          exact pv.mono s2
      · obtain ⟨acc, x, e, sm, hl, pv, nup⟩ := h
        rw [List.take_of_length_le (by rw [hp.1]; exact Nat.le_refl _)] at pv
        exact ⟨acc, x, e, sm, hl, pv, nup⟩
    · rintro σ H1 ⟨acc, x, rfl, sm, hl, pv, nup⟩
      have ho1 := sm _ _ ho
      walk_at "rd"
      refine mid_of (fun v H' => ∃ tt, v = .ref tt ∧ H1 tt = none ∧ H' = upd H1 tt (.tup acc)) ?_ ?_
      · walk_at "rd"
        exact ⟨acc, .inl ⟨.inl (.inl hl), fun l h => ⟨h, rfl⟩⟩⟩
      · rintro _ _ ⟨tt, rfl, htt, rfl⟩
        have st : Same H1 (upd H1 tt (.tup acc)) := same_new htt
        have ho2 := st _ _ ho1
        have ntp : tt ≠ p := fun e => by rw [e, ho1] at htt; cases htt
        have nF : p ≠ F := fun e => hFp e.symm
        have sp : NL (upd H1 tt (.tup acc)) (upd (upd H1 tt (.tup acc)) p (.ins (fA K "Segment") dx [("parts", .ref tt)])) → True := fun _ => trivial
        walk_at "rdh"
        refine q1 hne _ tt acc (But.same (sm.trans st) .upd) upd_same ?_ ?_
        · rw [upd_ne ntp]; exact upd_same
        · have pvt := pv.mono st
          refine ⟨pvt.1, fun i f hf => ?_⟩
          obtain ⟨u, e1, pu, dx', e2, e3⟩ := pvt.2 i f hf
          refine ⟨u, e1, pu, dx', e2, ?_⟩
          rw [upd_ne fun e => nup u (List.mem_of_getElem? e1) (by rw [e2, e])]
          exact e3

/-! ### what steps tell -/
mutual
def tupB : PyData → Bool
  | .none => true
  | .bool _ => true
  | .int _ => true
  | .str _ => true
  | .tuple ds => tupBs ds
  | _ => false
def tupBs : List PyData → Bool
  | [] => true
  | d :: r => tupB d && tupBs r
end
theorem sqT_nl {H H' : Hp} {a : Addr} {xs : List V} (h : SqT K H a xs) (e : NL H H') : SqT K H' a xs := by
  rcases h with (h | ⟨o, h⟩) | h
  · exact .inl (.inl (e _ _ h fun _ z => nomatch z))
  · exact .inl (.inr ⟨o, e _ _ h fun _ z => nomatch z⟩)
  · exact .inr h
mutual
theorem dp_nl {H H' : Hp} (e : NL H H') : ∀ (d : PyData) (v : V), tupB d = true → Dp K H v d → Dp K H' v d
  | .none, _, _, .non => .non
  | .bool _, _, _, .bl b => .bl b
  | .int _, _, _, .int i => .int i
  | .str _, _, _, .str x => .str x
  | .tuple ds, _, t, .tup h a => .tup (sqT_nl h e) (dpAll_nl e ds _ (by simpa only [tupB] using t) a)
  | .list ds, _, t, _ => by simp [tupB] at t
theorem dpAll_nl {H H' : Hp} (e : NL H H') : ∀ (ds : List PyData) (vs : List V), tupBs ds = true → DpAll K H vs ds → DpAll K H' vs ds
  | [], _, _, .nil => .nil
  | d :: ds, _, t, .cons h a => by
    have t' : tupB d = true ∧ tupBs ds = true := by simpa only [tupBs, Bool.and_eq_true] using t
    exact .cons (dp_nl e d _ t'.1 h) (dpAll_nl e ds _ t'.2 a)
end
theorem tupBs_map {α : Type} (d : α → PyData) (h : ∀ x, tupB (d x) = true) : ∀ l : List α, tupBs (l.map d) = true
  | [] => by simp only [List.map_nil, tupBs]
  | x :: r => by simp only [List.map_cons, tupBs, h x, tupBs_map d h r, Bool.and_self]
theorem PF.tup (f : PF) : tupB f.d = true := by cases f <;> simp [PF.d, tupB, tupBs]
theorem SF.tup (f : SF) : tupB f.d = true := by
  cases f with
  | deep => simp [SF.d, tupB, tupBs]
  | seg fs => simp [SF.d, tupB, tupBs, tupBs_map PF.d PF.tup fs]
/-- us are the things fs, one by one -/
def Each {α : Type} (R : α → V → Hp → Prop) (fs : List α) (us : List V) (H : Hp) : Prop := us.length = fs.length ∧ ∀ (i : Nat) (f : α), fs[i]? = some f → ∃ u, us[i]? = some u ∧ R f u H
section
variable {α : Type} {R : α → V → Hp → Prop} {fs : List α} {us : List V} {H H' : Hp}
theorem Each.imp {R' : α → V → Hp → Prop} (h : Each R fs us H) (i : ∀ f u, R f u H → R' f u H') : Each R' fs us H' := ⟨h.1, fun j f hf => let ⟨u, a, b⟩ := h.2 j f hf; ⟨u, a, i f u b⟩⟩
theorem Each.nil : Each R [] [] H := ⟨rfl, fun i f h => by simp at h⟩
theorem Each.snoc {f : α} {u : V} (h : Each R fs us H) (g : R f u H) : Each R (fs ++ [f]) (us ++ [u]) H := by
  refine ⟨by rw [List.length_append, List.length_append, h.1]; rfl, fun i f' hf => ?_⟩
  rcases Nat.lt_trichotomy i fs.length with e | e | e
  · rw [List.getElem?_append_left e] at hf
    obtain ⟨w, a, b⟩ := h.2 i f' hf
    exact ⟨w, by rw [List.getElem?_append_left (by rw [h.1]; exact e)]; exact a, b⟩
  · subst e
    rw [List.getElem?_append_right (Nat.le_refl _), Nat.sub_self] at hf
    have ef : f = f' := Option.some.inj hf
    subst ef
    exact ⟨u, by rw [← h.1, List.getElem?_append_right (Nat.le_refl _), Nat.sub_self]; rfl, g⟩
  · rw [List.getElem?_eq_none (by rw [List.length_append]; exact e)] at hf
    cases hf
theorem Each.at' {i : Nat} {x : V} (h : Each R fs us H) (e : us[i]? = some x) : ∃ f, fs[i]? = some f ∧ R f x H := by
  have hl : i < us.length := (List.getElem?_eq_some_iff.mp e).1
  rw [h.1] at hl
  obtain ⟨u, e2, g⟩ := h.2 i fs[i] (List.getElem?_eq_getElem hl)
  rw [e2] at e
  cases e
  exact ⟨_, List.getElem?_eq_getElem hl, g⟩
theorem each_dp {d : α → PyData} : ∀ {fs : List α} {us : List V}, Each (fun f u H => Dp K H u (d f)) fs us H → DpAll K H us (fs.map d)
  | [], [], _ => .nil
  | [], _ :: _, h => absurd h.1 (by simp)
  | f :: r, [], h => absurd h.1 (by simp)
  | f :: r, u :: us, h => by
    obtain ⟨u', e, g⟩ := h.2 0 f rfl
    cases e
    exact .cons g (each_dp ⟨by simpa using h.1, fun i f' hf => h.2 (i + 1) f' hf⟩)
theorem dp_each {d : α → PyData} : ∀ {fs : List α} {us : List V}, DpAll K H us (fs.map d) → Each (fun f u H => Dp K H u (d f)) fs us H
  | [], _, .nil => .nil
  | f :: r, _, .cons h a => by
    have ih := dp_each (fs := r) a
    refine ⟨by simp [ih.1], fun i f' hf => ?_⟩
    cases i with
    | zero =>
      cases (show some f = some f' from hf)
      exact ⟨_, rfl, h⟩
    | succ i => exact ih.2 i f' hf
end
theorem parts_each {fs : List PF} {us : List V} {H : Hp} : PartsV K fs us H ↔ Each (PartV K) fs us H := Iff.rfl
def spToldS (K : PySem.W.Frag) (f : SF) : Sp := fun vs H Q _ => ∃ v, vs = [v] ∧ StepV K f v H ∧ (∀ fs, f = .seg fs → fs.length ≤ 1000) ∧ ∀ u H', Same H H' → Dp K H' u f.d → Q u H'
def spDeep (K : PySem.W.Frag) (f : SF) : Sp := fun vs H Q _ => ∃ v, vs = [v] ∧ StepV K f v H ∧ Q (.bl f.deepB) H
theorem ok_Deep_deep (T : Txt K mg) : OkD P w K mg base 1 (mA K "Deep" "deep") ["self"] [] (spDeep K .deep) := by
  refine okD T.F_Deep_deep sc_Deep_deep (fun _ _ _ _ _ _ us hl => match us, hl with | [_], _ => rfl) ?_ ?_
  · rintro vs H Q E ⟨v, rfl, _⟩
    rfl
  · rintro cdv A outer s H vs Q E hr ⟨v, rfl, h, q⟩
    refine ⟨_, (pss_one (ps_ret pe_bl)), ?_⟩
    walk_at "rd"
    exact q
theorem ok_Segment_deep {fs : List PF} (T : Txt K mg) : OkD P w K mg base 1 (mA K "Segment" "deep") ["self"] [] (spDeep K (.seg fs)) := by
  refine okD T.F_Segment_deep sc_Step_deep (fun _ _ _ _ _ _ us hl => match us, hl with | [_], _ => rfl) ?_ ?_
  · rintro vs H Q E ⟨v, rfl, _⟩
    rfl
  · rintro cdv A outer s H vs Q E hr ⟨v, rfl, h, q⟩
    refine ⟨_, (pss_one (ps_ret pe_bl)), ?_⟩
    walk_at "rd"
    exact q
section
variable {X : Cx}
theorem md_deep (T : Txt K mg) (h1 : X.prog = P := by rfl) (h2 : X.w = w := by rfl) (h3 : X.K = K := by rfl) (h4 : X.mg = mg := by rfl) (h5 : X.base = base := by rfl) : MetD X 1 "deep" (StepV K) (spDeep K) := by
  subst h1 h2 h3 h4 h5
  intro i x H h
  cases i with
  | deep => obtain ⟨p, dx, rfl, hp⟩ := id h; exact ⟨p, _, dx, _, _, _, rfl, hp, T.c_Deep, T.m_Deep_deep, rfl, (ok_Deep_deep T).mono (by decide)⟩
  | seg fs => obtain ⟨p, dx, t, us, rfl, hp, _⟩ := id h; exact ⟨p, _, dx, _, _, _, rfl, hp, T.c_Segment, T.m_Segment_deep, rfl, (ok_Segment_deep T).mono (by decide)⟩
end

/-! ### what steps tell -/
theorem ok_Deep_told (T : Txt K mg) : OkD P w K mg base 1 (mA K "Deep" "told") ["self"] [] (spToldS K .deep) := by
  refine okD T.F_Deep_told sc_Step_told (fun _ _ _ _ _ _ us hl => match us, hl with | [_], _ => rfl) ?_ ?_
  · rintro vs H Q E ⟨v, rfl, _⟩
    rfl
  · rintro cdv A outer s H vs Q E hr ⟨v, rfl, h, _, q⟩
    refine ⟨_, (pss_one (ps_ret (pe_tup (pa_cons pe_str pa_nil)))), ?_⟩
    walk_at "rd"
    intro p hp
    exact q _ _ (same_new hp) (.tup (.inl (.inl upd_same)) (.cons (.str _) .nil))
theorem ok_Segment_told {fs : List PF} (T : Txt K mg) : OkD P w K mg base 2 (mA K "Segment" "told") ["self"] [] (spToldS K (.seg fs)) := by
  refine okD T.F_Segment_told sc_Segment_told (fun _ _ _ _ _ _ us hl => match us, hl with | [_], _ => rfl) ?_ ?_
  · rintro vs H Q E ⟨v, rfl, _⟩
    rfl
  · rintro cdv A outer s H vs Q E hr ⟨v, rfl, ⟨p, dx, t, us, rfl, ho, ht, hp, hne⟩, hn0, q⟩
    have hn := hn0 fs rfl
    refine ⟨_, (pss_one (ps_ret (pe_tup (pa_cons pe_str (pa_cons (pe_callTy (o_tuple (K := K)) (by rfl) T.fr_tuple (by decide +kernel) (pa_cons (pe_lc (own := [("part", 1)]) (g := (gName 1)) (tt := tYes) rfl sc_Segment_told.nd (pi_mid (o_it (K := K) rfl (pe_fldK (K := K) (pv 0) rfl))) (blkOk_by (N := N_Segment_told) (sc := defScope TX.s_Segment_told) (by decide +kernel)) (fun _ _ _ _ _ => (pg_name (i := 1) sc_Segment_told.nd rfl (Or.inl rfl))) (fun _ _ _ _ _ => pts_nil) (fun _ _ _ _ _ => (pe_mid (pe_metI0 (md_toldP T) (pv 1) (hr.mono (by decide)) pasN)))) pa_nil)) pa_nil))))), ?_⟩
    have tobj := T.obj
    walk_at "rdh"
    refine lc_midM (J0 := Itt K t) (H0 := H) ?_ (walk_tup (K := K) (a := t) (xs := us)) (by rw [hp.1]; omega) (fun k acc H' => Each (fun f u H => Dp K H u (PF.d f)) (fs.take k) acc H') (fun k acc Ha Hb e h => h.imp fun f u d => dp_nl e _ _ f.tup d) .nil (fun H' s => same_t s (.inl (.inl ht))) (fun _ _ _ _ y => y_at y) (fun _ => rfl) ?_ ?_
    · walk_at "rdh"
      exact .inr ⟨us, .inl (.inl ht)⟩
    · rintro k x acc H' H'' hk sm hc ⟨rfl, hx⟩
      obtain ⟨f, hf, pu⟩ := parts_each.mp hp |>.at' hx
      have pu' := pu.mono sm
      refine mid_of (fun u H4 => Same H'' H4 ∧ Dp K H4 u f.d) ?_ ?_
      · walk_at "rd"
        exact ⟨f, pu', x, rfl, pu', fun u H4 s d => ⟨s, d⟩⟩
      · rintro u H4 ⟨s4, d⟩
        refine ⟨s4, ?_⟩
        rw [List.take_succ, hf]
        exact (hc.imp fun f u d => dp_mono s4 _ _ d).snoc d
    · intro l acc H' hl sm hD hlen hc
      rw [List.take_of_length_le (by rw [hp.1]; exact Nat.le_refl _)] at hc
      walk_at "rd"
      refine ⟨acc, .inl ⟨.inl (.inl hD), fun l2 hl2 p2 hp2 => ?_⟩⟩
      have s2 := same_new (o := .tup acc) hl2
      have s3 := same_new (o := .tup [V.str (Str.ofString "segment"), V.ref l2]) hp2
      exact q _ _ ((sm.trans s2).trans s3) (.tup (.inl (.inl upd_same)) (.cons (.str _) (.cons (.tup (.inl (.inl (s3 _ _ upd_same))) (each_dp (hc.imp fun f u d => dp_mono (s2.trans s3) _ _ d))) .nil)))
section
variable {X : Cx}
theorem md_toldS (T : Txt K mg) (h1 : X.prog = P := by rfl) (h2 : X.w = w := by rfl) (h3 : X.K = K := by rfl) (h4 : X.mg = mg := by rfl) (h5 : X.base = base := by rfl) : MetD X 2 "told" (StepV K) (spToldS K) := by
  subst h1 h2 h3 h4 h5
  intro i x H h
  cases i with
  | deep => obtain ⟨p, dx, rfl, hp⟩ := id h; exact ⟨p, _, dx, _, _, _, rfl, hp, T.c_Deep, T.m_Deep_told, rfl, (ok_Deep_told T).mono (by decide)⟩
  | seg fs => obtain ⟨p, dx, t, us, rfl, hp, _⟩ := id h; exact ⟨p, _, dx, _, _, _, rfl, hp, T.c_Segment, T.m_Segment_told, rfl, (ok_Segment_told T).mono (by decide)⟩
end

/-! ### stars twice, rows and segments made -/
theorem ne_false {f : PF} (ok : f.Ok) : (!PyData.eqv f.d f.d) = false := by rw [(PF.dok ok).eqv]; rfl
theorem ne_dat {n : Nat} {d : PyData} {u v : V} {H : Hp} {Q : VK} (ok : DOk n d) (hn : n ≤ 64) (h1 : Dp K H u d) (h2 : Dp K H v d) (q : Q (.bl false) H) : rNeR K u v H Q := by
  refine .inl ⟨d, d, h1, h2, ok.shaped hn, ok.shaped hn, ?_⟩
  rw [ok.eqv]
  exact q
/-- each star m times more -/
def dbl (m : Nat) (fs : List PF) : List PF := fs.flatMap fun f => List.replicate (1 + if f.many = true then m else 0) f
theorem norm_rep {acc : List PF} {f : PF} (hm : f.many = true) (hl : acc.getLast? = some f) : ∀ n, (List.replicate n f).foldl normOne acc = acc
  | 0 => rfl
  | n + 1 => by
    have e : normOne acc f = acc := by
      rw [normOne_eq, if_neg]
      unfold addB
      rw [hl, hm]
      have : acc ≠ [] := fun e => by rw [e] at hl; cases hl
      simp [this, hm]
    show (List.replicate n f).foldl normOne (normOne acc f) = acc
    rw [e]
    exact norm_rep hm hl n
theorem norm_dbl {m : Nat} : ∀ (fs acc : List PF), NoTwo (acc ++ fs) → (dbl m fs).foldl normOne acc = acc ++ fs
  | [], acc, _ => (List.append_nil acc).symm
  | f :: fs, acc, h => by
    have e1 : dbl m (f :: fs) = List.replicate (1 + if f.many = true then m else 0) f ++ dbl m fs := rfl
    have e2 : normOne acc f = acc ++ [f] := by
      rw [normOne_eq, if_pos]
      rcases List.eq_nil_or_concat acc with rfl | ⟨r, g, rfl⟩
      · rfl
      · have key : ∀ r : List PF, NoTwo (r ++ g :: f :: fs) → ¬ (g.many = true ∧ f.many = true) := by
          intro r
          induction r with
          | nil => exact fun h => h.1
          | cons x r ih =>
            intro h
            cases r with
            | nil => exact ih h.2
            | cons y r => exact ih h.2
        have k := key r (by simpa using h)
        unfold addB
        rw [List.concat_eq_append, List.getLast?_append]
        cases h1 : f.many <;> cases h2 : g.many <;> simp [h1, h2] at k ⊢
    have e3 : (acc ++ [f]) ++ fs = acc ++ f :: fs := by simp
    rw [e1, List.foldl_append, Nat.add_comm, List.replicate_succ, List.foldl_cons, e2]
    cases hm : f.many with
    | true => rw [norm_rep hm (by simp) _, norm_dbl fs (acc ++ [f]) (by rw [e3]; exact h), e3]
    | false => rw [if_neg Bool.false_ne_true]; show (dbl m fs).foldl normOne (acc ++ [f]) = _; rw [norm_dbl fs (acc ++ [f]) (by rw [e3]; exact h), e3]
theorem normP_dbl {m : Nat} {fs : List PF} (h : NoTwo fs) : normP (dbl m fs) = fs := norm_dbl fs [] h
theorem same_none {H H' : Hp} {a : Addr} (s : Same H H') (h : H' a = none) : H a = none := by
  cases e : H a with
  | none => rfl
  | some o => rw [s _ _ e] at h; cases h
theorem dbl_take {m k : Nat} {fs : List PF} {f : PF} (h : fs[k]? = some f) : dbl m (fs.take (k + 1)) = dbl m (fs.take k) ++ List.replicate (1 + if f.many = true then m else 0) f := by
  rw [take_succ' h]
  unfold dbl
  rw [List.flatMap_append]
  simp
theorem Each.rep {α : Type} {R : α → V → Hp → Prop} {fs : List α} {us : List V} {H : Hp} {f : α} {u : V} (h : Each R fs us H) (g : R f u H) : ∀ n, Each R (fs ++ List.replicate n f) (us ++ List.replicate n u) H
  | 0 => by simpa using h
  | n + 1 => by
    have e1 : fs ++ List.replicate (n + 1) f = (fs ++ List.replicate n f) ++ [f] := by rw [List.replicate_succ', List.append_assoc]
    have e2 : us ++ List.replicate (n + 1) u = (us ++ List.replicate n u) ++ [u] := by rw [List.replicate_succ', List.append_assoc]
    rw [e1, e2]
    exact (Each.rep h g n).snoc g
theorem dbl_len {m : Nat} (fs : List PF) : (dbl m fs).length ≤ fs.length * (1 + m) := by
  induction fs with
  | nil => exact Nat.zero_le _
  | cons f r ih =>
    have e : dbl m (f :: r) = List.replicate (1 + if f.many = true then m else 0) f ++ dbl m r := rfl
    rw [e, List.length_append, List.length_replicate, List.length_cons, Nat.succ_mul]
    have : (1 + if f.many = true then m else 0) ≤ 1 + m := by split <;> omega
    omega
theorem dbl_zero : ∀ fs : List PF, dbl 0 fs = fs
  | [] => rfl
  | f :: r => by
    have e : dbl 0 (f :: r) = List.replicate (1 + if f.many = true then 0 else 0) f ++ dbl 0 r := rfl
    rw [e, dbl_zero r]
    simp
theorem normP_id {fs : List PF} (h : NoTwo fs) : normP fs = fs := by
  have e := normP_dbl (m := 0) h
  rwa [dbl_zero] at e
theorem norm_ne : ∀ (l acc : List PF), acc ≠ [] → l.foldl normOne acc ≠ []
  | [], _, h => h
  | f :: r, acc, h => norm_ne r (normOne acc f) (by
      unfold normOne
      split
      · simp
      · exact h)
theorem normP_ne {fs : List PF} (h : fs ≠ []) : normP fs ≠ [] := by
  cases fs with
  | nil => exact absurd rfl h
  | cons f r => exact norm_ne r (normOne [] f) (by unfold normOne; simp)
theorem new_two {H1 : Hp} {x dx : Addr} {o o' : HO} (hx : H1 x = none) (hdx : H1 dx = none) (hne : ¬ dx = x) : Same H1 (upd (upd H1 dx o) x o') :=
  (same_new hdx).trans (same_new (by rw [upd_ne fun e => hne e.symm]; exact hx))
theorem seg_make {H1 : Hp} {l : Addr} {us : List V} {fs : List PF} {R : Addr → Hp → Prop} {E : XK} (ht : SqT K H1 l us ∨ SqL K H1 l us) (hp : PartsV K fs us H1) (hn : fs.length ≤ 1000) (hne : fs ≠ []) (q : ∀ x H', Same H1 H' → StepV K (.seg (normP fs)) (.ref x) H' → R x H') :
    ∀ x dx, H1 x = none → H1 dx = none → ¬ dx = x → spSeg K [.ref x, .ref l] (upd (upd H1 dx (.own x)) x (.ins (fA K "Segment") dx [])) (fun v H3 => v = .non ∧ R x H3) E := by
  intro x dx hx hdx hxd
  have s2 : Same H1 (upd (upd H1 dx (.own x)) x (.ins (fA K "Segment") dx [])) := new_two hx hdx hxd
  refine ⟨x, dx, l, us, fs, rfl, ht.imp (same_t s2) (same_l s2), hp.mono s2, hn, upd_same, fun u hu e => ?_, fun _ H' tt us' b h1 h2 h3 => ⟨rfl, q _ H' (but_same hx hdx b) ⟨x, dx, tt, us', rfl, h1, h2, h3, normP_ne hne⟩⟩, fun e => absurd e hne⟩
  obtain ⟨i, hi⟩ := List.mem_iff_getElem?.mp hu
  obtain ⟨f, _, p, dx', e2, e3⟩ := parts_each.mp hp |>.at' hi
  rw [e2] at e
  cases e
  rw [hx] at e3
  cases e3

/-! ### forms of rows, rows drawn large -/
structure RF where
  steps : List SF
  spares : Bool
  folders : Bool
def RF.d (r : RF) : PyData := .tuple [.tuple (r.steps.map SF.d), .bool r.spares, .bool r.folders]
def NoTwoD : List SF → Prop
  | a :: b :: r => ¬ (a = .deep ∧ b = .deep) ∧ NoTwoD (b :: r)
  | _ => True
structure RF.Ok (r : RF) : Prop where
  ne : r.steps ≠ []
  ok : ∀ s ∈ r.steps, s.Ok
  two : NoTwoD r.steps
  len : r.steps.length ≤ 12
theorem twoD_snoc : ∀ {acc : List SF} {f : SF}, NoTwoD acc → (f = .deep → acc.getLast? ≠ some .deep) → NoTwoD (acc ++ [f])
  | [], _, _, _ => trivial
  | [g], f, _, h => ⟨fun ⟨h1, h2⟩ => h h2 (by rw [h1]; rfl), trivial⟩
  | g :: g2 :: r, f, n, h => ⟨n.1, twoD_snoc (acc := g2 :: r) n.2 fun e => by
      have h' := h e
      rwa [List.getLast?_cons_cons] at h'⟩
theorem eqv_deep (s : SF) : PyData.eqv s.d (.tuple [.str "deep"]) = s.deepB := by
  have e1 : ((Str.ofString "segment") == (Str.ofString "deep")) = false := by decide +kernel
  cases s <;> simp [SF.d, SF.deepB, PyData.eqv, PyData.eqvAll, e1]
theorem cutV_last {us : List V} : cutV us (some (-1)) none = us.drop (us.length - 1) := by
  unfold cutV
  have e : HT.sIx us.length 0 (some (-1)) = us.length - 1 := by
    unfold HT.sIx
    simp
    omega
  rw [e, HT.sIx_none]
  refine List.take_of_length_le ?_
  rw [List.length_drop]
  exact Nat.le_refl _
theorem Each.drop {α : Type} {R : α → V → Hp → Prop} {fs : List α} {us : List V} {H : Hp} (h : Each R fs us H) (k : Nat) : Each R (fs.drop k) (us.drop k) H :=
  ⟨by rw [List.length_drop, List.length_drop, h.1], fun i f hf => by
    rw [List.getElem?_drop] at hf
    obtain ⟨u, e, g⟩ := h.2 _ f hf
    exact ⟨u, by rw [List.getElem?_drop]; exact e, g⟩⟩
theorem last_drop {α : Type} {ss : List α} {x : α} (h : ss.getLast? = some x) : ss.drop (ss.length - 1) = [x] := by
  rcases List.eq_nil_or_concat ss with rfl | ⟨r, y, rfl⟩
  · cases h
  · rw [List.concat_eq_append] at h ⊢
    rw [List.getLast?_append] at h
    cases (show some y = some x from h)
    rw [List.length_append, List.length_singleton, Nat.add_sub_cancel, List.drop_left]
/-- ("deep",) not in steps[-1:] -/
theorem deep_test {ss : List SF} {us : List V} {L : Addr} {H : Hp} {B : Addr → Prop} {R : Bool → Hp → Prop} (hl : H L = some (.lst us)) (e : Each (fun f u H => Dp K H u (SF.d f)) ss us H) (oks : ∀ s ∈ ss, s.Ok) (r : ∀ b H', Same H H' → (b = true → ss.getLast? ≠ some .deep) → R b H') : ∀ p, H p = none →
    (∃ xs, SqL K (upd H p (.tup [.str "deep"])) L xs ∧ ∀ p1, upd H p (.tup [.str "deep"]) p1 = none → rNotInD K (.ref p) (.ref p1) (upd (upd H p (.tup [.str "deep"])) p1 (.lst (cutV xs (some (-1)) none))) fun x H' => ∃ k, x = .bl k ∧ R k H') ∨ B p := by
  intro p hp
  have sp := same_new (o := .tup [V.str (Str.ofString "deep")]) hp
  refine .inl ⟨us, .inl (.inl (sp _ _ hl)), fun p1 hp1 => ?_⟩
  have s1 := same_new (o := .lst (cutV us (some (-1)) none)) hp1
  have e1 : Each (fun f u H => Dp K H u (SF.d f)) ss us (upd (upd H p (.tup [V.str (Str.ofString "deep")])) p1 (.lst (cutV us (some (-1)) none))) := e.imp fun f u d => dp_mono (sp.trans s1) _ _ d
  have e2 := e1.drop (ss.length - 1)
  have eq : us.drop (ss.length - 1) = cutV us (some (-1)) none := by rw [cutV_last, e.1]
  rw [eq] at e2
  have dl : DOk 4 (.list ((ss.drop (ss.length - 1)).map SF.d)) := dok_lst fun d hd => by
    obtain ⟨f, hf, rfl⟩ := List.mem_map.mp hd
    exact SF.dok (oks f (List.mem_of_mem_drop hf))
  have dd : DOk 3 (.tuple [.str "deep"]) := SF.dok (f := .deep) trivial
  refine ⟨.tuple [.str "deep"], (ss.drop (ss.length - 1)).map SF.d, .tup (.inl (.inl (s1 _ _ upd_same))) (.cons (.str _) .nil), .lst (.inl (.inl upd_same)) (each_dp e2), dd.shaped (by decide), dl.shaped (by decide), _, rfl, r _ _ (sp.trans s1) fun hb hlast => ?_⟩
  rw [last_drop hlast] at hb
  simp [eqv_deep, SF.deepB] at hb
theorem forms_snoc {ss : List SF} {us : List V} {s : SF} {y : V} {L : Addr} {H : Hp} (hl : H L = some (.lst us)) (e : Each (fun f u H => Dp K H u (SF.d f)) ss us H) (d : Dp K H y s.d) : Each (fun f u H => Dp K H u (SF.d f)) (ss ++ [s]) (us ++ [y]) (upd H L (.lst (us ++ [y]))) :=
  Each.snoc (e.imp fun f u d => dp_nl (nl_upd hl) _ _ f.tup d) (dp_nl (nl_upd hl) _ _ s.tup d)
theorem row_d {r : RF} {us : List V} {l p : Addr} {H : Hp} (e : Each (fun f u H => Dp K H u (SF.d f)) r.steps us H) (hl : H l = none) (hp : upd H l (.tup us) p = none) : Dp K (upd (upd H l (.tup us)) p (.tup [.ref l, .bl r.spares, .bl r.folders])) (.ref p) r.d := by
  have s2 := same_new (o := .tup us) hl
  have s3 := same_new (o := .tup [V.ref l, V.bl r.spares, V.bl r.folders]) hp
  exact .tup (.inl (.inl upd_same)) (.cons (.tup (.inl (.inl (s3 _ _ upd_same))) (each_dp (e.imp fun f u d => dp_mono (s2.trans s3) _ _ d))) (.cons (.bl _) (.cons (.bl _) .nil)))
theorem seg_d {fs : List PF} {us : List V} {l p : Addr} {H : Hp} (e : Each (fun f u H => Dp K H u (PF.d f)) fs us H) (hl : H l = none) (hp : upd H l (.tup us) p = none) : Dp K (upd (upd H l (.tup us)) p (.tup [.str "segment", .ref l])) (.ref p) (SF.seg fs).d := by
  have s2 := same_new (o := .tup us) hl
  have s3 := same_new (o := .tup [V.str (Str.ofString "segment"), V.ref l]) hp
  exact .tup (.inl (.inl upd_same)) (.cons (.str _) (.cons (.tup (.inl (.inl (s3 _ _ upd_same))) (each_dp (e.imp fun f u d => dp_mono (s2.trans s3) _ _ d))) .nil))
theorem SF.seg_inv {fs : List PF} {v : V} {H : Hp} (h : Dp K H v (SF.seg fs).d) : ∃ a t us, v = .ref a ∧ SqT K H a [.str "segment", .ref t] ∧ SqT K H t us ∧ Each (fun f u H => Dp K H u (PF.d f)) fs us H := by
  cases h with
  | tup hs ha => cases ha with | cons h1 ha => cases ha with | cons h2 ha =>
    cases ha; cases h1
    cases h2 with
    | tup ht hu => exact ⟨_, _, _, rfl, hs, ht, dp_each hu⟩
theorem SF.deep_inv {v : V} {H : Hp} (h : Dp K H v SF.deep.d) : ∃ a, v = .ref a ∧ SqT K H a [.str "deep"] := by
  cases h with | tup hs ha => cases ha with | cons h1 ha => cases ha; cases h1; exact ⟨_, rfl, hs⟩
theorem RF.inv {r : RF} {v : V} {H : Hp} (h : Dp K H v r.d) : ∃ a t us, v = .ref a ∧ SqT K H a [.ref t, .bl r.spares, .bl r.folders] ∧ SqT K H t us ∧ Each (fun f u H => Dp K H u (SF.d f)) r.steps us H := by
  cases h with
  | tup hs ha => cases ha with | cons h1 ha => cases ha with | cons h2 ha => cases ha with | cons h3 ha =>
    cases ha; cases h2; cases h3
    cases h1 with
    | tup ht hu => exact ⟨_, _, _, rfl, hs, ht, dp_each hu⟩
theorem RF.dok {r : RF} (h : r.Ok) : DOk 5 r.d := dok_tup (all_cons (dok_tup fun d hd => by
  obtain ⟨s, hs, rfl⟩ := List.mem_map.mp hd
  exact SF.dok (h.ok s hs)) (all_cons dok_bl (all_cons dok_bl all_nil)))
theorem RF.len1 {r : RF} (h : r.Ok) : r.steps.length ≤ 1000 := Nat.le_trans h.len (by decide)
theorem RF.len2 {r : RF} (h : r.Ok) (fs : List PF) (e : SF.seg fs ∈ r.steps) : fs.length ≤ 1000 := by
  have o : PartsOk fs := h.ok _ e
  exact Nat.le_trans o.len (by decide)

/-! ### rows as objects -/
theorem deep_iff {s : SF} : s.deepB = true ↔ s = .deep := by cases s <;> simp [SF.deepB]
def addS (acc : List SF) (f : SF) : Bool := decide (acc = []) || (!f.deepB || match acc.getLast? with
  | some g => !g.deepB
  | none => true)
def stepOne (acc : List SF) (f : SF) : List SF := if addS acc f = true then acc ++ [f] else acc
def normS (fs : List SF) : List SF := fs.foldl stepOne []
def dblS (m : Nat) (fs : List SF) : List SF := fs.flatMap fun f => List.replicate (1 + if f.deepB = true then m else 0) f
theorem stepOne_t {acc : List SF} {f : SF} (h : addS acc f = true) : stepOne acc f = acc ++ [f] := if_pos h
theorem stepOne_f {acc : List SF} {f : SF} (h : ¬ addS acc f = true) : stepOne acc f = acc := if_neg h
theorem stepS_take {fs : List SF} {k : Nat} {f : SF} (h : fs[k]? = some f) : (fs.take (k + 1)).foldl stepOne [] = stepOne ((fs.take k).foldl stepOne []) f := by
  rw [List.take_succ, h, List.foldl_append]
  rfl
theorem dblS_take {m k : Nat} {fs : List SF} {f : SF} (h : fs[k]? = some f) : dblS m (fs.take (k + 1)) = dblS m (fs.take k) ++ List.replicate (1 + if f.deepB = true then m else 0) f := by
  rw [List.take_succ, h]
  unfold dblS
  rw [List.flatMap_append]
  simp
theorem normS_rep {acc : List SF} {f : SF} (hm : f.deepB = true) (hl : acc.getLast? = some f) : ∀ n, (List.replicate n f).foldl stepOne acc = acc
  | 0 => rfl
  | n + 1 => by
    have e : stepOne acc f = acc := by
      unfold stepOne
      rw [if_neg]
      unfold addS
      rw [hl, hm]
      have : acc ≠ [] := fun e => by rw [e] at hl; cases hl
      simp [this, hm]
    show (List.replicate n f).foldl stepOne (stepOne acc f) = acc
    rw [e]
    exact normS_rep hm hl n
theorem normS_app {m : Nat} : ∀ (fs acc : List SF), NoTwoD (acc ++ fs) → (dblS m fs).foldl stepOne acc = acc ++ fs
  | [], acc, _ => (List.append_nil acc).symm
  | f :: fs, acc, h => by
    have e1 : dblS m (f :: fs) = List.replicate (1 + if f.deepB = true then m else 0) f ++ dblS m fs := rfl
    have e2 : stepOne acc f = acc ++ [f] := by
      unfold stepOne
      rw [if_pos]
      rcases List.eq_nil_or_concat acc with rfl | ⟨r, g, rfl⟩
      · rfl
      · have key : ∀ r : List SF, NoTwoD (r ++ g :: f :: fs) → ¬ (g = .deep ∧ f = .deep) := by
          intro r
          induction r with
          | nil => exact fun h => h.1
          | cons x r ih =>
            intro h
            cases r with
            | nil => exact ih h.2
            | cons y r => exact ih h.2
        have k := key r (by simpa using h)
        rw [← deep_iff, ← deep_iff] at k
        unfold addS
        rw [List.concat_eq_append, List.getLast?_append]
        cases h1 : f.deepB <;> cases h2 : g.deepB <;> simp [h1, h2] at k ⊢
    have e3 : (acc ++ [f]) ++ fs = acc ++ f :: fs := by simp
    rw [e1, List.foldl_append, Nat.add_comm, List.replicate_succ, List.foldl_cons, e2]
    cases hm : f.deepB with
    | true => rw [normS_rep hm (by simp) _, normS_app fs (acc ++ [f]) (by rw [e3]; exact h), e3]
    | false => rw [if_neg Bool.false_ne_true]; show (dblS m fs).foldl stepOne (acc ++ [f]) = _; rw [normS_app fs (acc ++ [f]) (by rw [e3]; exact h), e3]
theorem normS_dbl {m : Nat} {fs : List SF} (h : NoTwoD fs) : normS (dblS m fs) = fs := normS_app fs [] h
theorem dblS_zero : ∀ fs : List SF, dblS 0 fs = fs
  | [] => rfl
  | f :: r => by
    have e : dblS 0 (f :: r) = List.replicate (1 + if f.deepB = true then 0 else 0) f ++ dblS 0 r := rfl
    rw [e, dblS_zero r]
    simp
theorem normS_id {fs : List SF} (h : NoTwoD fs) : normS fs = fs := by
  have e := normS_dbl (m := 0) h
  rwa [dblS_zero] at e
theorem dblS_len {m : Nat} (fs : List SF) : (dblS m fs).length ≤ fs.length * (1 + m) := by
  induction fs with
  | nil => exact Nat.zero_le _
  | cons f r ih =>
    have e : dblS m (f :: r) = List.replicate (1 + if f.deepB = true then m else 0) f ++ dblS m r := rfl
    rw [e, List.length_append, List.length_replicate, List.length_cons, Nat.succ_mul]
    have : (1 + if f.deepB = true then m else 0) ≤ 1 + m := by split <;> omega
    omega
theorem stepS_len : ∀ (l a : List SF), (l.foldl stepOne a).length ≤ a.length + l.length
  | [], a => Nat.le_refl _
  | y :: r, a => by
    refine Nat.le_trans (stepS_len r (stepOne a y)) ?_
    have e : (stepOne a y).length ≤ a.length + 1 := by
      unfold stepOne
      split
      · rw [List.length_append]; exact Nat.le_refl _
      · exact Nat.le_succ _
    rw [List.length_cons]
    omega
abbrev rowO (K : PySem.W.Frag) (dx t : Addr) (a b : Bool) : HO := .ins (fA K "Row") dx [("steps", .ref t), ("spares", .bl a), ("folders", .bl b)]
def RowV (K : PySem.W.Frag) (r : RF) (v : V) (H : Hp) : Prop := ∃ p dx t us, v = .ref p ∧ H p = some (rowO K dx t r.spares r.folders) ∧ H t = some (.tup us) ∧ Each (StepV K) r.steps us H ∧ r.steps ≠ []
theorem Each.nl {us : List V} {ss : List SF} {H H' : Hp} (h : Each (StepV K) ss us H) (e : NL H H') : Each (StepV K) ss us H' := h.imp fun _ _ s => s.nl e
theorem Each.mono {us : List V} {ss : List SF} {H H' : Hp} (h : Each (StepV K) ss us H) (e : Same H H') : Each (StepV K) ss us H' := h.nl (.of e)
theorem RowV.nl {r : RF} {v : V} {H H' : Hp} (h : RowV K r v H) (e : NL H H') : RowV K r v H' := by
  obtain ⟨p, dx, t, us, a, b, c, d, z⟩ := h
  exact ⟨p, dx, t, us, a, e _ _ b (fun _ z => nomatch z), e _ _ c (fun _ z => nomatch z), d.nl e, z⟩
theorem RowV.mono {r : RF} {v : V} {H H' : Hp} (h : RowV K r v H) (e : Same H H') : RowV K r v H' := h.nl (.of e)
def spRow (K : PySem.W.Frag) : Sp := fun vs H Q E => ∃ H0 p dx t us ss a b, vs = [.ref p, .ref t, .bl a, .bl b] ∧ H0 p = none ∧ Same H0 H ∧ (SqT K H0 t us ∨ SqL K H0 t us) ∧ Each (StepV K) ss us H0 ∧ ss.length ≤ 1000 ∧ H p = some (.ins (fA K "Row") dx []) ∧
  (ss ≠ [] → ∀ H' tt us', Same H0 H' → H' p = some (rowO K dx tt a b) → H' tt = some (.tup us') → Each (StepV K) (normS ss) us' H' → Q .non H') ∧ (ss = [] → E (.ref (fA K "NoPart")) none H)
theorem bd_Row___init__ (T : Txt K mg) : BodyQ P w K mg base 1 (mA K "Row" "__init__") "Row.__init__" (defBody TX.s_Row___init__) (defScope TX.s_Row___init__) N_Row___init__ (spRow K) := by
  rintro cdv A outer s H vs Q E hr ⟨H0, p, dx, t, us, ss, a, b, rfl, h0p, s0, ht, hp, hn, ho, q1, q2⟩
  refine ⟨_, (pss_cons (ps_if (pt_mid (pt_cmpR (o_eq (K := K) (hu64 hr)) (pe_callB (o_lenW (K := K) (w := w)) (by rfl) T.fr_len boot_len (pa_cons (pv 1) pa_nil)) pe_int (nomark _))) (pss_one (ps_raise rfl (takes_of rfl rfl rfl rfl) (pmk_own PySem.F.excBase_ValueError T.x_NoPart.1 T.g_NoPart T.x_NoPart.2.1 (raises_own T.x_NoPart.2.2.1 T.x_NoPart.2.2.2) rfl))) pss_nil)
  (pss_cons (ps_set (i := 4) sc_Row___init__.nd rfl (Or.inl rfl) (pe_lst pa_nil))
  (pss_cons (ps_mid (ps_for (passes_of rfl) rfl (pi_mid (o_it (K := K) rfl (pv 1))) (pg_name (i := 5) sc_Row___init__.nd rfl (Or.inl rfl)) (pss_one (ps_if (pt_mid (PW.pt (pw_or (pt_cmpR (o_eq (K := K) (hu64 hr)) (pv 4) (pe_lst pa_nil) (nomark _)) (pw_or (pt_not (pt_tru (K := K) (pe_metI0 (md_deep T) (pv 5) (hr.mono (by decide)) (pasE (takes_of rfl rfl rfl rfl) (fun _ _ _ _ h => h))) (by intro _; rfl))) (pw_or1 (pt_not (pt_tru (K := K) (pe_metI0 (md_deep T) (pe_ix (o_ix (K := K)) (pv 4) (pe_un un_neg pe_int) (fun _ _ => rfl)) (hr.mono (by decide)) (pasE (takes_of rfl rfl rfl rfl) (fun _ _ _ _ h => h))) (by intro _; rfl)))))))) (pss_one (ps_expr (pe_bmK (K := K) PySem.F.plainAttrs_list PySem.F.slot_list_append PySem.F.type_list_append mt_append (pv 4) (pa_cons (pe_mid (pv 5)) pa_nil)))) pss_nil))))
  (pss_cons (ps_fld (pv 0) (pe_mid (pe_callTy (o_tuple (K := K)) (by rfl) T.fr_tuple (by decide +kernel) (pa_cons (pv 4) pa_nil))) rfl)
  (pss_cons (ps_fld (pv 0) (pv 2) rfl)
  (pss_one (ps_fld (pv 0) (pv 3) rfl))))))), ?_⟩
  have tobj := T.obj
  have ht1 : SqT K H t us ∨ SqL K H t us := ht.imp (same_t s0) (same_l s0)
  refine q_if (fun b H' => H' = H ∧ b = decide (ss = [])) ?_ ?_ ?_
  · walk_at "rd"
    refine .inr ⟨_, len_seq ht1, ?_⟩
    rw [hp.1]
    refine decide_eq_decide.mpr ⟨fun h => List.length_eq_zero_iff.mp (by omega), fun h => by rw [h]; rfl⟩
  · rintro _ ⟨rfl, hb⟩
    walk_at "rd"
    exact q2 (of_decide_eq_true hb.symm)
  rintro _ ⟨rfl, hb⟩
  have hne : ss ≠ [] := of_decide_eq_false hb.symm
  rename_i H
  refine q_new fun F hF => ?_
  have hF0 : H0 F = none := by
    cases e : H0 F with
    | none => rfl
    | some o => rw [s0 _ _ e] at hF; cases hF
  have hFp : F ≠ p := fun e => by rw [e, ho] at hF; cases hF
  obtain ⟨J0, G, hw, wk, hG⟩ := seq_walk ht
  have sF : Same H (upd H F (.lst [])) := same_new hF
  refine q_stm (fun σ H' => ∃ acc x, σ = [some (.ref p), some (.ref t), some (.bl a), some (.bl b), some (.ref F), x] ∧ Same H0 H' ∧ H' p = some (.ins (fA K "Row") dx []) ∧ H' F = some (.lst acc) ∧ Each (StepV K) (normS ss) acc H0) ?_ ?_
  · refine for_mid (J0 := J0) (H0 := upd H F (.lst [])) (hw _ _ _ rfl (s0.trans sF)) wk
      (fun k σ H' => ∃ acc x, σ = [some (.ref p), some (.ref t), some (.bl a), some (.bl b), some (.ref F), x] ∧ Same H0 H' ∧ H' p = some (.ins (fA K "Row") dx []) ∧ H' F = some (.lst acc) ∧ Each (StepV K) ((ss.take k).foldl stepOne []) acc H0)
      ⟨[], none, rfl, s0.trans sF, sF _ _ ho, upd_same, .nil⟩ (fun k σ H' _ ⟨_, _, _, s, _⟩ => hG H' s) ?_ (fun σ H' h => ?_)
    · rintro k x σ H1 H1' hk ⟨acc, x0, rfl, sm, ho1, hl, pv⟩ ⟨rfl, hx⟩
      obtain ⟨f, hf, hu⟩ := hp.at' hx
      have hu1 := hu.mono sm
      have len : acc.length ≤ ss.length := by
        rw [pv.1]
        have a := stepS_len (ss.take k) []
        have b := List.length_take_le' k ss
        simp only [List.length_nil, Nat.zero_add] at a
        omega
      refine l_if (fun b H' => Same H1' H' ∧ b = addS ((ss.take k).foldl stepOne []) f) ?_ ?_ ?_
      · walk_at "rd"
        intro n hn0
        have sn : Same H1' (upd H1' n (.lst [])) := same_new hn0
        have hln := sn _ _ hl
        have hun := hu1.mono sn
        have eacc : acc = [] ↔ (ss.take k).foldl stepOne [] = [] := by
          rw [← List.length_eq_zero_iff, ← List.length_eq_zero_iff, pv.1]
        generalize ha0 : (ss.take k).foldl stepOne [] = a0 at *
        refine eq_nil (.inl (.inl hln)) (.inl (.inl upd_same)) ⟨_, rfl, ite2 (fun h => ?_) fun h => ?_⟩
        · refine ⟨sn, ?_⟩
          unfold addS
          rw [decide_eq_true (eacc.mp (of_decide_eq_true h))]
          rfl
        have hna : a0 ≠ [] := fun e => h (decide_eq_true (eacc.mpr e))
        have e0 : addS a0 f = (!f.deepB || match a0.getLast? with
          | some g => !g.deepB
          | none => true) := by
          unfold addS
          rw [decide_eq_false hna]
          rfl
        refine ⟨f, hun, x, rfl, hun, _, rfl, ite2 (fun hm => ⟨sn, ?_⟩) fun hm => ?_⟩
        · rw [e0, hm]; rfl
        obtain ⟨g, hg⟩ : ∃ g, a0.getLast? = some g := by
          cases e : a0.getLast? with
          | none => exact absurd (List.getLast?_eq_none_iff.mp e) hna
          | some g => exact ⟨g, rfl⟩
        have hg' := hg
        rw [List.getLast?_eq_getElem?] at hg'
        obtain ⟨u, h1, h2⟩ := pv.2 _ g hg'
        have h2n := h2.mono (sm.trans sn)
        have hlast : acc.getLast? = some u := by rw [List.getLast?_eq_getElem?, pv.1]; exact h1
        refine ⟨acc, .inl (.inl (.inl hln)), u, atI_last hlast, g, h2n, u, rfl, h2n, _, rfl, sn, ?_⟩
        have hm' : f.deepB = true := by simpa using hm
        rw [e0, hm', hg]
        rfl
      · rintro H2 ⟨s2, hb⟩
        have hl2 := s2 _ _ hl
        have ne1 : p ≠ F := fun e => hFp e.symm
        refine l_appV rfl rfl hl2 (by omega) ⟨acc ++ [x], _, rfl, same_mut (sm.trans s2) hF0, ?_, upd_same, ?_⟩
        · rw [upd_ne ne1]; exact s2 _ _ ho1
        rw [stepS_take hf, stepOne_t hb.symm]
        exact pv.snoc hu
      · rintro H2 ⟨s2, hb⟩
        refine ⟨acc, _, rfl, sm.trans s2, s2 _ _ ho1, s2 _ _ hl, ?_⟩
        rw [stepS_take hf, stepOne_f (by rw [← hb]; exact Bool.false_ne_true)]
        exact pv
    · obtain ⟨acc, x, e, sm, ho1, hl, pv⟩ := h
      rw [List.take_of_length_le (by rw [hp.1]; exact Nat.le_refl _)] at pv
      exact ⟨acc, x, e, sm, ho1, hl, pv⟩
  · rintro σ H1 ⟨acc, x, rfl, sm, ho1, hl, pv⟩
    walk_at "rd"
    refine mid_of (fun v H' => ∃ tt, v = .ref tt ∧ H1 tt = none ∧ H' = upd H1 tt (.tup acc)) ?_ ?_
    · walk_at "rd"
      exact ⟨acc, .inl ⟨.inl (.inl hl), fun l h => ⟨h, rfl⟩⟩⟩
    · rintro _ _ ⟨tt, rfl, htt, rfl⟩
      have st : Same H1 (upd H1 tt (.tup acc)) := same_new htt
      have ho2 := st _ _ ho1
      have ntp : tt ≠ p := fun e => by rw [e, ho1] at htt; cases htt
      walk_at "rdh"
      have s5 : Same H0 (upd (upd H1 tt (.tup acc)) p (rowO K dx tt a b)) := same_mut (sm.trans st) h0p
      refine q1 hne _ tt acc s5 upd_same ?_ (pv.mono s5)
      rw [upd_ne ntp]
      exact upd_same
theorem ok_Row___init___1 (T : Txt K mg) : OkD P w K mg base 2 (mA K "Row" "__init__") ["self", "steps", "spares", "folders"] [V.bl false, V.bl false] (spRow K) := okDd T.F_Row___init__ sc_Row___init__ 2 0 (fun q => nomatch q) rfl (fun _ _ _ _ _ _ _ us its hl hi => match us, hl, its, hi with | [_, _], _, [_, _], _ => ⟨_, rfl, rfl⟩) (by rintro vs H Q E ⟨H0, p, dx, t, us, ss, a, b, rfl, _⟩; rfl) (bd_Row___init__ T)
theorem ok_Row___init___2 (T : Txt K mg) : OkD P w K mg base 2 (mA K "Row" "__init__") ["self", "steps", "spares", "folders"] [V.bl false] (spRow K) := okDd T.F_Row___init__ sc_Row___init__ 3 1 (fun q => nomatch q) rfl (fun _ _ _ _ _ _ _ us its hl hi => match us, hl, its, hi with | [_, _, _], _, [_, _], _ => ⟨_, rfl, rfl⟩) (by rintro vs H Q E ⟨H0, p, dx, t, us, ss, a, b, rfl, _⟩; rfl) (bd_Row___init__ T)
theorem ok_Row___init__ (T : Txt K mg) : OkD P w K mg base 2 (mA K "Row" "__init__") ["self", "steps", "spares", "folders"] [] (spRow K) := okDd T.F_Row___init__ sc_Row___init__ 4 2 (fun q => nomatch q) rfl (fun _ _ _ _ _ _ _ us its hl hi => match us, hl, its, hi with | [_, _, _, _], _, [_, _], _ => ⟨_, rfl, rfl⟩) (by rintro vs H Q E ⟨H0, p, dx, t, us, ss, a, b, rfl, _⟩; rfl) (bd_Row___init__ T)
theorem okk_Row___init___folders_spares (T : Txt K mg) : OkKr P w K mg base 2 (mA K "Row" "__init__") ["self", "steps", "spares", "folders"] 2 ["folders", "spares"] (spRow K) := okKr T.F_Row___init__ sc_Row___init__ 2 ["folders", "spares"] (fun q => nomatch q) (fun _ _ _ _ _ _ _ us its ws hl hi hw => match us, hl, its, hi, ws, hw with | [_, _], _, [_, _], _, [_, _], _ => ⟨_, rfl, rfl⟩) (by rintro vs H Q E ⟨H0, p, dx, t, us, ss, a, b, rfl, _⟩; rfl) (bd_Row___init__ T)
theorem normS_ne {ss : List SF} (h : ss ≠ []) : normS ss ≠ [] := by
  have key : ∀ (l acc : List SF), acc ≠ [] → l.foldl stepOne acc ≠ [] := by
    intro l
    induction l with
    | nil => exact fun _ h => h
    | cons f r ih =>
      intro acc h
      refine ih (stepOne acc f) ?_
      unfold stepOne
      split
      · simp
      · exact h
  cases ss with
  | nil => exact absurd rfl h
  | cons f r => exact key r (stepOne [] f) (by unfold stepOne addS; simp)
theorem row_make {H1 : Hp} {l : Addr} {us : List V} {ss : List SF} {a b : Bool} {R : Addr → Hp → Prop} {E : XK} (ht : SqT K H1 l us ∨ SqL K H1 l us) (hp : Each (StepV K) ss us H1) (hn : ss.length ≤ 1000) (hne : ss ≠ []) (q : ∀ x H', Same H1 H' → RowV K ⟨normS ss, a, b⟩ (.ref x) H' → R x H') :
    ∀ x dx, H1 x = none → H1 dx = none → ¬ dx = x → spRow K [.ref x, .ref l, .bl a, .bl b] (upd (upd H1 dx (.own x)) x (.ins (fA K "Row") dx [])) (fun v H3 => v = .non ∧ R x H3) E :=
  fun x dx hx hdx hxd => ⟨H1, x, dx, l, us, ss, a, b, rfl, hx, new_two hx hdx hxd, ht, hp, hn, upd_same, fun _ H' tt us' s h1 h2 h3 => ⟨rfl, q _ H' s ⟨x, dx, tt, us', rfl, h1, h2, h3, normS_ne hne⟩⟩, fun e => absurd e hne⟩

/-! ### what rows tell -/
def spToldR (K : PySem.W.Frag) (r : RF) : Sp := fun vs H Q _ => ∃ v, vs = [v] ∧ RowV K r v H ∧ r.steps.length ≤ 1000 ∧ (∀ fs, SF.seg fs ∈ r.steps → fs.length ≤ 1000) ∧ ∀ u H', Same H H' → Dp K H' u r.d → Q u H'
theorem ok_Row_told {r : RF} (T : Txt K mg) : OkD P w K mg base 3 (mA K "Row" "told") ["self"] [] (spToldR K r) := by
  refine okD T.F_Row_told sc_Row_told (fun _ _ _ _ _ _ us hl => match us, hl with | [_], _ => rfl) ?_ ?_
  · rintro vs H Q E ⟨v, rfl, _⟩
    rfl
  · rintro cdv A outer s H vs Q E hr ⟨v, rfl, ⟨p, dx, t, us, rfl, ho, ht, hp, hne⟩, hn, hn2, q⟩
    refine ⟨_, (pss_one (ps_ret (pe_tup (pa_cons (pe_callTy (o_tuple (K := K)) (by rfl) T.fr_tuple (by decide +kernel) (pa_cons (pe_lc (own := [("step", 1)]) (g := (gName 1)) (tt := tYes) rfl sc_Row_told.nd (pi_mid (o_it (K := K) rfl (pe_fldK (K := K) (pv 0) rfl))) (blkOk_by (N := N_Row_told) (sc := defScope TX.s_Row_told) (by decide +kernel)) (fun _ _ _ _ _ => (pg_name (i := 1) sc_Row_told.nd rfl (Or.inl rfl))) (fun _ _ _ _ _ => pts_nil) (fun _ _ _ _ _ => (pe_mid (pe_metI0 (md_toldS T) (pv 1) (hr.mono (by decide)) pasN)))) pa_nil)) (pa_cons (pe_fldK (K := K) (pv 0) rfl) (pa_cons (pe_fldK (K := K) (pv 0) rfl) pa_nil)))))), ?_⟩
    have tobj := T.obj
    walk_at "rdh"
    refine lc_midM (J0 := Itt K t) (H0 := H) ?_ (walk_tup (K := K) (a := t) (xs := us)) (by rw [hp.1]; omega) (fun k acc H' => Each (fun f u H => Dp K H u (SF.d f)) (r.steps.take k) acc H') (fun k acc Ha Hb e h => h.imp fun f u d => dp_nl e _ _ f.tup d) .nil (fun H' s => same_t s (.inl (.inl ht))) (fun _ _ _ _ y => y_at y) (fun _ => rfl) ?_ ?_
    · walk_at "rdh"
      exact .inr ⟨us, .inl (.inl ht)⟩
    · rintro k x acc H' H'' hk sm hc ⟨rfl, hx⟩
      obtain ⟨f, hf, pu⟩ := hp.at' hx
      have pu' := pu.mono sm
      refine mid_of (fun u H4 => Same H'' H4 ∧ Dp K H4 u f.d) ?_ ?_
      · walk_at "rd"
        exact ⟨f, pu', x, rfl, pu', fun fs e => hn2 fs (e ▸ List.mem_of_getElem? hf), fun u H4 s d => ⟨s, d⟩⟩
      · rintro u H4 ⟨s4, d⟩
        refine ⟨s4, ?_⟩
        rw [List.take_succ, hf]
        exact (hc.imp fun f u d => dp_mono s4 _ _ d).snoc d
    · intro l acc H' hl sm hD hlen hc
      rw [List.take_of_length_le (by rw [hp.1]; exact Nat.le_refl _)] at hc
      have ho' := sm _ _ ho
      walk_at "rd"
      refine ⟨acc, .inl ⟨.inl (.inl hD), fun l2 hl2 => ?_⟩⟩
      have s2 := same_new (o := .tup acc) hl2
      have ho2 := s2 _ _ ho'
      walk_at "rdh"
      intro p2 hp2
      have s3 := same_new (o := .tup [V.ref l2, V.bl r.spares, V.bl r.folders]) hp2
      exact q _ _ ((sm.trans s2).trans s3) (row_d hc hl2 hp2)
section
variable {X : Cx}
theorem md_toldR (T : Txt K mg) (h1 : X.prog = P := by rfl) (h2 : X.w = w := by rfl) (h3 : X.K = K := by rfl) (h4 : X.mg = mg := by rfl) (h5 : X.base = base := by rfl) : MetD X 3 "told" (RowV K) (spToldR K) := by
  subst h1 h2 h3 h4 h5
  intro r x H h
  obtain ⟨p, dx, t, us, rfl, hp, _⟩ := id h
  exact ⟨p, _, dx, _, _, _, rfl, hp, T.c_Row, T.m_Row_told, rfl, (ok_Row_told T).mono (by decide)⟩
end

/-! ### a text, several times -/
theorem foldl_rep (a : Array Nat) : ∀ (n : Nat) (b : Array Nat), ((List.replicate n a).foldl (· ++ ·) b).toList = b.toList ++ (List.replicate n a.toList).flatten
  | 0, b => by simp
  | n + 1, b => by
    rw [List.replicate_succ, List.replicate_succ, List.foldl_cons, foldl_rep a n, Array.toList_append, List.flatten_cons, List.append_assoc]
def repS (z : Str) (n : Nat) : Str := ⟨(List.replicate n z.cps.toList).flatten.toArray⟩
theorem repS_eq (z : Str) (n : Nat) : (⟨(List.replicate n z.cps).foldl (· ++ ·) #[]⟩ : Str) = repS z n := by
  have h := foldl_rep z.cps n #[]
  unfold repS
  congr 1
  refine Array.ext' ?_
  rw [h]
  simp
theorem repS_len (z : Str) (n : Nat) : (repS z n).length = n * z.length := by
  show (List.toArray _).size = n * z.cps.size
  simp
def rMulStr : R2 := fun x y H Q => ∃ (z : Str) (n : Int), x = .str z ∧ y = .int n ∧ 0 ≤ n ∧ n ≤ 1000 ∧ z.length ≤ 1000 ∧ Q (.str (repS z n.toNat)) H
theorem o_mulStr {X : Cx} : OpR X (binaryOp .Mult) rMulStr := by
  intro pins s σ H x y v u Q I rx ry h
  obtain ⟨z, n, rfl, rfl, h0, h1, h2, q⟩ := h
  obtain ⟨t, rfl⟩ := rx
  obtain ⟨t', rfl⟩ := ry
  refine P.mul_str ?_ (fun a b => ?_) (fun a b => ?_) ?_
  · rw [decide_eq_false (by omega), decide_eq_false (by omega)]; rfl
  · have h3 : (1000 : Int) ≤ (2 ^ 63 - 1) / n := Int.le_ediv_of_mul_le (by omega) (by omega)
    omega
  · have h3 : z.length * n.toNat ≤ 1000 * 1000 := Nat.mul_le_mul h2 (by omega)
    unfold Builtin.Str.tooLong
    rw [decide_eq_false (by rw [sizeLine_eq]; omega)]
  · split
    · rename_i hn
      have e : repS z n.toNat = Str.empty := by
        rw [show n.toNat = 0 from by omega]
        rfl
      exact ⟨by decide, .str (repS z n.toNat), H, I.tok _, ⟨_, by rw [e]⟩, q⟩
    · rename_i hn
      split
      · rename_i hc
        have e : repS z n.toNat = z := by
          rw [Bool.or_eq_true] at hc
          rcases hc with hc | hc
          · rw [show n.toNat = 1 from by have := eq_of_beq hc; omega]
            unfold repS
            simp
          · have hz : z.cps = #[] := Array.eq_empty_of_size_eq_zero (eq_of_beq hc)
            unfold repS
            rw [hz]
            obtain ⟨c⟩ := z
            cases hz
            simp
        exact ⟨.str (repS z n.toNat), H, I, ⟨t, by rw [e]⟩, q⟩
      · rw [repS_eq]
        refine ⟨?_, .str (repS z n.toNat), H, I.tok _, ⟨_, rfl⟩, q⟩
        rw [repS_len, sizeLine_eq]
        have h3 : n.toNat * z.length ≤ 1000 * 1000 := Nat.mul_le_mul (by omega) h2
        omega

/-! ### what every law here promises -/
def spLaw (K : PySem.W.Frag) : Sp := fun vs H Q _ => ∃ a, ∃ ns : List Int, vs = [.ref a] ∧ SqL K H a (ns.map V.int) ∧ ns.length ≤ 63 ∧ ∀ H', Q (.bl true) H'
theorem law_len {vs : List V} {H : Hp} {Q : VK} {E : XK} (h : spLaw K vs H Q E) : vs.length = ["_law_script"].length := by
  obtain ⟨a, ns, rfl, _⟩ := h
  rfl
theorem law_sp {a : Addr} {ns : List Int} {H : Hp} (hs : SqL K H a (ns.map V.int)) (hl : ns.length ≤ 63) (hb : ∀ z ∈ ns, Builtin.Int.intBits z ≤ 1048576) : spLaw K [.ref a] H (fun v _ => v = .bl true) fun _ _ _ => False := ⟨a, ns, rfl, hs, hl, fun _ => rfl⟩

/-! ### what is made, or refused -/
/-- the thing is made: nothing is caught; it is refused: its error is at hand -/
def Caught (K : PySem.W.Frag) (bad : Prop) (v : V) (H : Hp) : Prop := (v = .non ∧ ¬ bad) ∨ ∃ a, v = .ref a ∧ bad ∧ H a = some (ExF (.ref (fA K "NoPart")) none a)
def BadM (n : Int) (z zs : Str) : Prop := if n = 0 then ¬ ∃ c ∈ SIG, z = S [c] else if n = 1 then ¬ ∃ l, SigSet l ∧ zs.cps.toList.Perm l else True
def spMadeK (K : PySem.W.Frag) : Sp := fun vs H Q _ => ∃ (n : Int) (z zs : Str) (o : Bool), vs = [.int n, .str z, .str zs, .bl o] ∧ z.length ≤ 1000 ∧ zs.length < 1000 ∧ ∀ v H', Same H H' → Caught K (BadM n z zs) v H' → Q v H'
theorem ok__law_made (T : Txt K mg) : OkD P w K mg base 4 (fA K "_law_made") ["_law_way", "_law_sign", "_law_signs_here", "_law_outside"] [] (spMadeK K) := by
  refine okD T.F__law_made sc__law_made (fun _ _ _ _ _ _ us hl => match us, hl with | [_, _, _, _], _ => rfl) ?_ ?_
  · rintro vs H Q E ⟨n, z, zs, o, rfl, _⟩
    rfl
  · rintro cdv A outer s H vs Q E hr ⟨n, z, zs, o, rfl, hz, hzs, q⟩
    refine ⟨_, (pss_cons (ps_set (i := 4) sc__law_made.nd rfl (Or.inl rfl) pe_non)
  (pss_cons (ps_try_keep (i := 5) rfl rfl rfl sc__law_made.nd rfl rfl ⟨rfl, rfl, Or.inl T.g_ShunError⟩ (takes_of rfl rfl rfl rfl) (fun W pn xe tkW pxW => (pss_one (ps_if (pt_mid (pt_cmpR (o_eq (K := K) (hu64 hr)) (pv 0) pe_int (nomark _))) (pss_one (ps_expr (pe_makT T.mk_One (ok_One___init__ T) (hr.mono (by decide)) rfl T.g_One tkW (pa_cons (pv 1) pa_nil)))) (pss_one (ps_if (pt_mid (pt_cmpR (o_eq (K := K) (hu64 hr)) (pv 0) pe_int (nomark _))) (pss_one (ps_expr (pe_makT T.mk_Among (ok_Among___init__ T) (hr.mono (by decide)) rfl T.g_Among tkW (pa_cons (pv 2) (pa_cons (pv 3) pa_nil))))) (pss_one (ps_if (pt_mid (pt_cmpR (o_eq (K := K) (hu64 hr)) (pv 0) pe_int (nomark _))) (pss_one (ps_expr (pe_makT T.mk_Segment (ok_Segment___init__ T) (hr.mono (by decide)) rfl T.g_Segment tkW (pa_cons (pe_tup pa_nil) pa_nil)))) (pss_one (ps_expr (pe_makT T.mk_Row (ok_Row___init__ T) (hr.mono (by decide)) rfl T.g_Row tkW (pa_cons (pe_tup pa_nil) (pa_cons (pv 3) (pa_cons (pe_notK (K := K) (pv 3)) pa_nil))))))))))))) (fun _ _ _ _ _ _ _ => (pss_one (ps_set (i := 4) sc__law_made.nd rfl (Or.inl rfl) (pv 5)))))
  (pss_one (ps_ret (pv 4))))), ?_⟩
    have tobj := T.obj
    walk_at "rd"
    have caught : ∀ H', Same H H' → BadM n z zs → wKeep K (.ref (fA K "ShunError")) 5 (fun _ _ _ => tAsg (tVar 5) (gName 4)) (fun cls d _ H => E cls d H) { nx := tRet (tVar 4) { nx := fun _ H' => Q V.non H', rt := Q }, rt := Q } (.ref (fA K "NoPart")) none
        [some (V.int n), some (V.str z), some (V.str zs), some (V.bl o), some V.non, none] H' := fun H' s hb => by
      refine ⟨true, (kxB_ex T.kx (by decide)).1, fun _ e he => ?_, fun z => nomatch z⟩
      walk_at "rd"
      exact q _ _ (s.trans (same_new he)) (.inr ⟨e, rfl, hb, upd_same⟩)
    refine ⟨fun b H' => H' = H ∧ b = decide (n = 0), by walk_at "rd", ?_⟩
    rintro _ _ ⟨rfl, rfl⟩
    rename_i H
    refine ite2 (fun h => ?_) fun h0 => ?_
    · have h := of_decide_eq_true h
      unfold tMakeT
      walk_at "rd"
      intro x dx hx hdx hne
      refine ⟨x, dx, z, rfl, upd_same, hz, fun c H' hc e h1 b => ⟨rfl, q _ _ (but_same hx hdx b) (.inl ⟨rfl, ?_⟩)⟩, fun hn => caught _ (new_two hx hdx hne) ?_⟩
      · unfold BadM
        rw [if_pos h]
        exact fun g => g ⟨c, hc, e⟩
      · unfold BadM
        rw [if_pos h]
        exact hn
    refine ⟨fun b H' => H' = H ∧ b = decide (n = 1), by walk_at "rd", ?_⟩
    rintro _ _ ⟨rfl, rfl⟩
    rename_i H
    refine ite2 (fun h => ?_) fun h1 => ?_
    · have h := of_decide_eq_true h
      have e : BadM n z zs = ¬ ∃ l, SigSet l ∧ zs.cps.toList.Perm l := by
        unfold BadM
        rw [if_neg (by omega), if_pos h]
      unfold tMakeT
      walk_at "rd"
      intro x dx hx hdx hne
      refine ⟨x, dx, zs, o, rfl, upd_same, hzs, fun l H' ok pm h1 b => ⟨rfl, q _ _ (but_same hx hdx b) (.inl ⟨rfl, ?_⟩)⟩, fun hn H' s => caught _ ((new_two hx hdx hne).trans s) ?_⟩
      · rw [e]
        exact fun g => g ⟨l, ok, pm⟩
      · rw [e]
        exact hn
    have e : BadM n z zs := by
      unfold BadM
      rw [if_neg fun z => h0 (decide_eq_true z), if_neg fun z => h1 (decide_eq_true z)]
      trivial
    refine ⟨fun b H' => H' = H, by walk_at "rd", ?_⟩
    rintro b _ rfl
    rename_i H
    refine ite2 (fun h => ?_) fun h => ?_
    · unfold tMakeT
      walk_at "rd"
      intro t ht x dx hx hdx hne
      have s2 := same_new (o := .tup []) ht
      have s3 := new_two hx hdx hne (o := .own x) (o' := .ins (fA K "Segment") dx [])
      exact ⟨x, dx, t, [], [], rfl, .inl (.inl (.inl (s3 _ _ upd_same))), .nil, by decide, upd_same, fun _ h => (nomatch h), fun h => absurd rfl h, fun _ => caught _ (s2.trans s3) e⟩
    · unfold tMakeT
      walk_at "rd"
      intro t ht x dx hx hdx hne
      have s2 := same_new (o := .tup []) ht
      have s3 := new_two hx hdx hne (o := .own x) (o' := .ins (fA K "Row") dx [])
      exact ⟨_, x, dx, t, [], [], o, !o, rfl, hx, s3, .inl (.inl (.inl upd_same)), .nil, by decide, upd_same, fun h => absurd rfl h, fun _ => caught _ (s2.trans s3) e⟩
def spIsNo (K : PySem.W.Frag) : Sp := fun vs H Q _ => ∃ v bad, vs = [v] ∧ Caught K bad v H ∧ ∀ b H', Same H H' → (b = true ↔ bad) → Q (.bl b) H'
theorem ok__law_is_no_part (T : Txt K mg) : OkD P w K mg base 1 (fA K "_law_is_no_part") ["_law_error"] [] (spIsNo K) := by
  refine okD T.F__law_is_no_part sc__law_is_no_part (fun _ _ _ _ _ _ us hl => match us, hl with | [_], _ => rfl) ?_ ?_
  · rintro vs H Q E ⟨v, bad, rfl, _⟩
    rfl
  · rintro cdv A outer s H vs Q E hr ⟨v, bad, rfl, hc, q⟩
    refine ⟨_, (pss_cons (ps_if (pt_tru (K := K) (pe_callB (o_isc (K := K)) (by rfl) T.fr_isinstance (by decide +kernel) (pa_cons (pv 0) (pa_cons (pe_tup (pa_cons (pe_glob (v := .ref (fA K "NoFolder")) rfl T.g_NoFolder rfl) (pa_cons (pe_glob (v := .ref (fA K "NoLeaf")) rfl T.g_NoLeaf rfl) (pa_cons (pe_glob (v := .ref (fA K "NoPath")) rfl T.g_NoPath rfl) (pa_cons (pe_glob (v := .ref (fA K "NoText")) rfl T.g_NoText rfl) (pa_cons (pe_glob (v := .ref (fA K "TooMany")) rfl T.g_TooMany rfl) pa_nil)))))) pa_nil))) (by intro _; rfl)) (pss_one (ps_ret pe_bl)) pss_nil)
  (pss_one (ps_ret (pe_andK (K := K) (pe_callB (o_isc (K := K)) (by rfl) T.fr_isinstance (by decide +kernel) (pa_cons (pv 0) (pa_cons (pe_glob (v := .ref (fA K "NoPart")) rfl T.g_NoPart rfl) pa_nil))) (pe_one (pe_callB (o_isc (K := K)) (by rfl) T.fr_isinstance (by decide +kernel) (pa_cons (pv 0) (pa_cons (pe_bltn (v := .ty "ValueError") rfl T.fr_ValueError (by decide +kernel) rfl) pa_nil)))))))), ?_⟩
    have tobj := T.obj
    walk_at "rd"
    intro p hp
    have s1 := same_new (o := .tup [V.ref (fA K "NoFolder"), V.ref (fA K "NoLeaf"), V.ref (fA K "NoPath"), V.ref (fA K "NoText"), V.ref (fA K "TooMany")]) hp
    rcases hc with ⟨rfl, hb⟩ | ⟨e, rfl, hb, he⟩
    · have ty : ∀ H, TyE K H .non (.type "NoneType") := fun H => .old (.base .non)
      refine isc_tup [fA K "NoFolder", fA K "NoLeaf", fA K "NoPath", fA K "NoText", fA K "TooMany"] (ty _) upd_same (kx_no T.kx ["NoFolder", "NoLeaf", "NoPath", "NoText", "TooMany"] (by decide)) ?_
      walk_at "rd"
      refine isc_one (ty _) (kxB_no T.kx (by decide)) ?_
      walk_at "rd"
      exact q _ _ s1 ⟨fun z => (nomatch z), fun z => absurd z hb⟩
    · have ty : TyE K (upd H p (.tup [V.ref (fA K "NoFolder"), V.ref (fA K "NoLeaf"), V.ref (fA K "NoPath"), V.ref (fA K "NoText"), V.ref (fA K "TooMany")])) (.ref e) (.ref (fA K "NoPart")) := .exc (s1 _ _ he) (kxB_ex T.kx (y := "ShunError") (by decide)).2.1
      refine isc_tup [fA K "NoFolder", fA K "NoLeaf", fA K "NoPath", fA K "NoText", fA K "TooMany"] ty upd_same (kx_is T.kx "NoPart" ["NoFolder", "NoLeaf", "NoPath", "NoText", "TooMany"] (by decide)) ?_
      walk_at "rd"
      refine isc_one ty (kxB_is T.kx (b := true) (by decide)) ?_
      walk_at "rd"
      exact isc_ty ty (kxB_ex T.kx (y := "ShunError") (by decide)).2.2 (q _ _ s1 ⟨fun _ => hb, fun _ => rfl⟩)
theorem q_nx {u : TS} {D : Ends} {σ : L2.St} {H : Hp} (h : u D σ H) : tSeq tNext u D σ H := h
theorem badB {z : Str} (h : (SIG.all fun c => !decide (z = S [c])) = true) : ¬ ∃ c ∈ SIG, z = S [c] := fun ⟨c, hc, e⟩ => by
  have := List.all_eq_true.mp h c hc
  rw [decide_eq_true e] at this
  cases this
theorem badS {l : List Nat} (h : l = [] ∨ ¬ l.Nodup ∨ ∃ c ∈ l, c ∉ SIG) : ¬ ∃ m, SigSet m ∧ (S l).cps.toList.Perm m := fun ⟨m, ok, pm⟩ => by
  have pm : l.Perm m := pm
  rcases h with h | h | ⟨c, hc, h⟩
  · subst h
    exact ok.ne (List.nil_perm.mp pm)
  · exact h (pm.nodup_iff.mpr (ok.up.imp fun h e => by omega))
  · exact h (ok.sg c (pm.mem_iff.mp hc))
theorem four {l : List V} (hl : l.length = 4) (nd : l.Nodup) (hw : ∀ v ∈ l, SignV v) : ∃ c0 c1 c2 c3, l = [V.str (S [c0]), V.str (S [c1]), V.str (S [c2]), V.str (S [c3])] ∧ [c0, c1, c2, c3].Nodup ∧ ∀ c ∈ [c0, c1, c2, c3], c ∈ SIG := by
  match l, hl with
  | [v0, v1, v2, v3], _ =>
    obtain ⟨c0, h0, rfl⟩ := hw v0 (by simp)
    obtain ⟨c1, h1, rfl⟩ := hw v1 (by simp)
    obtain ⟨c2, h2, rfl⟩ := hw v2 (by simp)
    obtain ⟨c3, h3, rfl⟩ := hw v3 (by simp)
    refine ⟨c0, c1, c2, c3, rfl, ?_, fun c hc => ?_⟩
    · have e : [V.str (S [c0]), V.str (S [c1]), V.str (S [c2]), V.str (S [c3])] = [c0, c1, c2, c3].map fun c => V.str (S [c]) := rfl
      rw [e] at nd
      exact (List.pairwise_map.mp nd).imp fun h e => h (by rw [e])
    · simp only [List.mem_cons, List.not_mem_nil, or_false] at hc
      rcases hc with rfl | rfl | rfl | rfl <;> assumption
theorem at_all {l : List V} {i : Int} {C : V → Prop} (h0 : 0 ≤ i) (h1 : i < (l.length : Int)) (h : ∀ v ∈ l, C v) : ∃ v, atI l i = some v ∧ C v := by
  obtain ⟨j, rfl⟩ : ∃ j : Nat, i = (j : Int) := ⟨i.toNat, by omega⟩
  have hj : j < l.length := by omega
  exact ⟨l[j], atI_nat (List.getElem?_eq_getElem hj), h _ (List.getElem_mem hj)⟩
theorem bd_law (T : Txt K mg) : BodyQ P w K mg base 4 (fA K "law") "law" (defBody TX.s_law) (defScope TX.s_law) N_law (spLaw K) := by
    rintro cdv A outer s H vs Q E hr ⟨a, ns, rfl, hs, hn, q⟩
    refine ⟨_, (pss_cons (ps_mid (ps_for (passes_of rfl) rfl (pi_mid (pi_range1 rfl T.fr_range (pa_cons (pe_callB (o_lenW (K := K) (w := w)) (by rfl) T.fr_len boot_len (pa_cons (pv 0) pa_nil)) pa_nil))) (pg_name (i := 1) sc_law.nd rfl (Or.inl rfl)) (pss_cons (ps_set (i := 2) sc_law.nd rfl (Or.inl rfl) (pe_mid (pe_cal (ok__law_cell T) (hr.mono (by decide)) rfl T.g__law_cell (pasE (takes_of rfl rfl rfl rfl) (fun _ _ _ _ h => h)) (pa_cons (pv 0) (pa_cons (pv 1) pa_nil)))))
  (pss_cons (ps_set (i := 3) sc_law.nd rfl (Or.inl rfl) (pe_mid (pe_cal (ok__law_signs T) (hr.mono (by decide)) rfl T.g__law_signs (pasE (takes_of rfl rfl rfl rfl) (fun _ _ _ _ h => h)) (pa_cons (pv 2) pa_nil))))
  (pss_cons (ps_set (i := 4) sc_law.nd rfl (Or.inl rfl) (pe_mid (pe_ix (o_ix (K := K)) (pe_lst (pa_cons pe_str (pa_cons pe_str (pa_cons pe_str (pa_cons pe_str (pa_cons pe_str (pa_cons pe_str (pa_cons pe_str (pa_cons pe_str (pa_cons pe_str (pa_cons (pe_op (o_add (K := K)) (pe_ix (o_ix (K := K)) (pv 3) pe_int (fun _ _ => rfl)) (pe_ix (o_ix (K := K)) (pv 3) pe_int (fun _ _ => rfl))) pa_nil))))))))))) (pe_op op_mod (pe_op op_fdivW (pv 2) pe_int) pe_int) (fun _ _ => rfl))))
  (pss_cons (ps_set (i := 5) sc_law.nd rfl (Or.inl rfl) (pe_mid (pe_cmpR (o_eq (K := K) (hu64 hr)) (pe_op op_mod (pe_op op_fdivW (pv 2) pe_int) pe_int) pe_int (nomark _))))
  (pss_cons (ps_if (pt_mid (pt_not (pt_tru (K := K) (pe_cal (ok__law_is_no_part T) (hr.mono (by decide)) rfl T.g__law_is_no_part (pasE (takes_of rfl rfl rfl rfl) (fun _ _ _ _ h => h)) (pa_cons (pe_cal (ok__law_made T) (hr.mono (by decide)) rfl T.g__law_made (pasE (takes_of rfl rfl rfl rfl) (fun _ _ _ _ h => h)) (pa_cons pe_int (pa_cons (pv 4) (pa_cons pe_str (pa_cons (pv 5) pa_nil))))) pa_nil)) (by intro _; rfl)))) (pss_one (ps_ret pe_bl)) pss_nil)
  (pss_cons (ps_set (i := 6) sc_law.nd rfl (Or.inl rfl) (pe_mid (pe_ix (o_ix (K := K)) (pe_lst (pa_cons pe_str (pa_cons pe_str (pa_cons (pe_mid (pe_op (o_add (K := K)) (pe_op (o_add (K := K)) (pe_ix (o_ix (K := K)) (pv 3) pe_int (fun _ _ => rfl)) (pe_ix (o_ix (K := K)) (pv 3) pe_int (fun _ _ => rfl))) (pe_ix (o_ix (K := K)) (pv 3) pe_int (fun _ _ => rfl)))) (pa_cons (pe_mid (pe_op (o_add (K := K)) (pe_ix (o_ix (K := K)) (pv 3) pe_int (fun _ _ => rfl)) pe_str)) (pa_cons (pe_mid (pe_op (o_add (K := K)) pe_str (pe_ix (o_ix (K := K)) (pv 3) pe_int (fun _ _ => rfl)))) (pa_cons (pe_mid (pe_op o_mulStr (pe_ix (o_ix (K := K)) (pv 3) pe_int (fun _ _ => rfl)) pe_int)) pa_nil))))))) (pe_op op_mod (pe_op op_fdivW (pv 2) pe_int) pe_int) (fun _ _ => rfl))))
  (pss_cons (ps_if (pt_mid (pt_not (pt_tru (K := K) (pe_cal (ok__law_is_no_part T) (hr.mono (by decide)) rfl T.g__law_is_no_part (pasE (takes_of rfl rfl rfl rfl) (fun _ _ _ _ h => h)) (pa_cons (pe_cal (ok__law_made T) (hr.mono (by decide)) rfl T.g__law_made (pasE (takes_of rfl rfl rfl rfl) (fun _ _ _ _ h => h)) (pa_cons pe_int (pa_cons pe_str (pa_cons (pv 6) (pa_cons (pv 5) pa_nil))))) pa_nil)) (by intro _; rfl)))) (pss_one (ps_ret pe_bl)) pss_nil)
  (pss_cons (ps_if (pt_mid (pt_not (pt_tru (K := K) (pe_cal (ok__law_is_no_part T) (hr.mono (by decide)) rfl T.g__law_is_no_part (pasE (takes_of rfl rfl rfl rfl) (fun _ _ _ _ h => h)) (pa_cons (pe_cal (ok__law_made T) (hr.mono (by decide)) rfl T.g__law_made (pasE (takes_of rfl rfl rfl rfl) (fun _ _ _ _ h => h)) (pa_cons (pe_op (o_add (K := K)) pe_int (pe_op op_mod (pe_op op_fdivW (pv 2) pe_int) pe_int)) (pa_cons pe_str (pa_cons pe_str (pa_cons (pv 5) pa_nil))))) pa_nil)) (by intro _; rfl)))) (pss_one (ps_ret pe_bl)) pss_nil)
  (pss_cons (ps_if (pt_mid (PW.pt (pw_or (pt_cmp (pc_notN (pe_cal (ok__law_made T) (hr.mono (by decide)) rfl T.g__law_made (pasE (takes_of rfl rfl rfl rfl) (fun _ _ _ _ h => h)) (pa_cons pe_int (pa_cons (pe_ix (o_ix (K := K)) (pv 3) pe_int (fun _ _ => rfl)) (pa_cons pe_str (pa_cons (pv 5) pa_nil)))))) rfl) (pw_or1 (pt_cmp (pc_notN (pe_cal (ok__law_made T) (hr.mono (by decide)) rfl T.g__law_made (pasE (takes_of rfl rfl rfl rfl) (fun _ _ _ _ h => h)) (pa_cons pe_int (pa_cons pe_str (pa_cons (pe_bmK (K := K) PySem.F.plainAttrs_str PySem.F.slot_str_join PySem.F.type_str_join (mo_join (K := K)) pe_str (pa_cons (pv 3) pa_nil)) (pa_cons (pv 5) pa_nil)))))) rfl))))) (pss_one (ps_ret pe_bl)) pss_nil)
  (pss_one (ps_if (pt_mid (pt_cmpR (o_ne (K := K) (hu64 hr)) (pe_metI0 (md_toldR T) (pe_mid (pe_mak T.mk_Row (ok_Row___init___1 T) (hr.mono (by decide)) rfl T.g_Row (pasE (takes_of rfl rfl rfl rfl) (fun _ _ _ _ h => h)) (pa_cons (pe_tup (pa_cons (pe_makN T.mn_Deep rfl T.g_Deep) pa_nil)) pa_nil))) (hr.mono (by decide)) (pasE (takes_of rfl rfl rfl rfl) (fun _ _ _ _ h => h))) (pe_tup (pa_cons (pe_tup (pa_cons (pe_tup (pa_cons pe_str pa_nil)) pa_nil)) (pa_cons pe_bl (pa_cons pe_bl pa_nil)))) (nomark _))) (pss_one (ps_ret pe_bl)) pss_nil)))))))))))))
  (pss_one (ps_ret (pe_cmpR (o_eq (K := K) (hu64 hr)) (pe_metI0 (md_toldS T) (pe_mid (pe_mak T.mk_Segment (ok_Segment___init__ T) (hr.mono (by decide)) rfl T.g_Segment (pasE (takes_of rfl rfl rfl rfl) (fun _ _ _ _ h => h)) (pa_cons (pe_tup (pa_cons (pe_makN T.mn_Any rfl T.g_Any) (pa_cons (pe_makN T.mn_Stars rfl T.g_Stars) pa_nil))) pa_nil))) (hr.mono (by decide)) (pasE (takes_of rfl rfl rfl rfl) (fun _ _ _ _ h => h))) (pe_tup (pa_cons pe_str (pa_cons (pe_tup (pa_cons (pe_tup (pa_cons pe_str pa_nil)) (pa_cons (pe_tup (pa_cons pe_str pa_nil)) pa_nil))) pa_nil))) (nomark _))))), ?_⟩
    have tobj := T.obj
    have hl : LenV K (V.ref a) H (ns.map V.int).length := .inl ⟨_, hs, rfl⟩
    refine q_stm (fun σ H' => Same H H' ∧ ∃ x1 x2 x3 x4 x5 x6, σ = [some (.ref a), x1, x2, x3, x4, x5, x6]) ?_ ?_
    · refine for_mid (J0 := Itr 0 ns.length) (H0 := H) ?_ walk_range (fun _ σ H' => Same H H' ∧ ∃ x1 x2 x3 x4 x5 x6, σ = [some (.ref a), x1, x2, x3, x4, x5, x6]) ⟨Same.refl _, _, _, _, _, _, _, rfl⟩ (fun _ _ _ _ _ => trivial) ?_ (fun _ _ h => h)
      · walk_at "rd"
        refine .inr ⟨_, hl, by omega, ?_, ?_⟩
        · rw [List.length_map]; omega
        · rw [List.length_map]; rfl
      rintro k x σ H2 H3 hk ⟨s3, x1, x2, x3, x4, x5, x6, rfl⟩ ⟨rfl, rfl⟩
      refine q_mid (fun _ => True) ?_ fun cell _ => ?_
      · walk_at "rd"
        exact ⟨a, _, ns, rfl, same_l s3 hs, hn, by omega, by omega, fun c => ⟨rfl, c, rfl⟩⟩
      refine q_midG (fun v H' => Same H3 H' ∧ ∃ p l, v = .ref p ∧ H' p = some (.lst l) ∧ l.length = 4 ∧ l.Nodup ∧ ∀ v ∈ l, SignV v) ?_ ?_
      · walk_at "rd"
        exact ⟨cell, rfl, fun p l H' hl4 hnd hw hp sm hp' => ⟨sm, p, rfl, l, hp', hl4, hnd, hw⟩⟩
      rintro _ H4 ⟨s4, p, ws, rfl, hp, hl4, hnd, hw⟩
      obtain ⟨c0, c1, c2, c3, rfl, hcn, hcs⟩ := four hl4 hnd hw
      refine q_midG (fun v H' => Same H4 H' ∧ ∃ z, v = .str z ∧ z.length ≤ 2 ∧ ¬ ∃ c ∈ SIG, z = S [c]) ?_ ?_
      · walk_at "rd"
        refine ⟨_, .inl (.inl (.inl hp)), _, rfl, _, .inl (.inl (.inl hp)), _, rfl, ?_⟩
        walk_at "rd"
        refine ⟨(by show 1 + 1 ≤ 16777216; decide), fun p2 hp2 => ⟨⟨by decide, by decide⟩, _, .inl (.inl (.inl upd_same)), ?_⟩⟩
        obtain ⟨v, e, z, rfl, h1, h2⟩ := at_all (l := [V.str (Str.ofString ""), V.str (Str.ofString "A"), V.str (Str.ofString "/"), V.str (Str.ofString " "), V.str (Str.ofString "*"), V.str (Str.ofString "!"), V.str (Str.ofString "ab"), V.str (Str.ofString "\n"), V.str (Str.ofString "~"), V.str (S [c0] ++ S [c1])])
          (i := cell / 117 % 10) (C := fun v => ∃ z, v = .str z ∧ z.length ≤ 2 ∧ ¬ ∃ c ∈ SIG, z = S [c]) (Int.emod_nonneg _ (by decide)) (Int.emod_lt_of_pos _ (by decide)) fun v hv => by
            simp only [List.mem_cons, List.not_mem_nil, or_false] at hv
            rcases hv with rfl | rfl | rfl | rfl | rfl | rfl | rfl | rfl | rfl | rfl
            all_goals try exact ⟨_, rfl, by decide +kernel, badB (by decide +kernel)⟩
            exact ⟨_, rfl, (by rw [S_cat, S_len]; exact Nat.le_refl 2), fun ⟨c, _, e⟩ => absurd (congrArg Str.length e) (by rw [S_cat, S_len, S_len]; exact (by decide : ¬ (2 : Nat) = 1))⟩
        exact ⟨_, e, same_new hp2, z, rfl, h1, h2⟩
      rintro _ H5 ⟨s5, z, rfl, hz, hbad⟩
      have hp5 := s5 _ _ hp
      refine q_midG (fun v H' => H' = H5 ∧ ∃ o, v = .bl o) ?_ ?_
      · walk_at "rd"
        exact ⟨by decide, by decide⟩
      rintro _ _ ⟨rfl, o, rfl⟩
      rename_i H5
      /- the error is one of NoPart -/
      have err : ∀ {Hc : Hp} {n : Int} {z zs : Str}, BadM n z zs → z.length ≤ 1000 → zs.length < 1000 → spMadeK K [V.int n, V.str z, V.str zs, V.bl o] Hc (fun x H1 => spIsNo K [x] H1 (fun x H1 => ∃ k, TruV K x H1 k ∧ Same Hc H1 ∧ (!k) = false) E) E := fun {Hc n z zs} hb h1 h2 =>
        ⟨n, z, zs, o, rfl, h1, h2, fun v H' s hc => ⟨v, _, rfl, hc, fun b H2 s2 e => ⟨true, (by rw [e.mpr hb]; exact truBl ▸ rfl), s.trans s2, rfl⟩⟩⟩
      refine q_if (fun b H' => Same H5 H' ∧ b = false) ?_ (fun H6 h => nomatch h.2) fun H6 ⟨s6, _⟩ => q_nx ?_
      · walk_at "rd"
        exact err (by unfold BadM; rw [if_pos rfl]; exact hbad) (by omega) (by decide)
      have hp6 := s6 _ _ hp5
      refine q_midG (fun v H' => Same H6 H' ∧ ∃ l, v = .str (S l) ∧ l.length ≤ 3 ∧ (l = [] ∨ ¬ l.Nodup ∨ ∃ c ∈ l, c ∉ SIG)) ?_ ?_
      · walk_at "rd"
        refine mid_of (fun v H' => H' = H6 ∧ v = .str (S [c0, c1, c0])) ?_ ?_
        · walk_at "rd"
          refine ⟨_, .inl (.inl (.inl hp6)), _, rfl, _, .inl (.inl (.inl hp6)), _, rfl, ?_⟩
          walk_at "rd"
          refine ⟨(by show 1 + 1 ≤ 16777216; decide), _, .inl (.inl (.inl hp6)), _, rfl, ?_⟩
          refine ⟨?_, ?_⟩
          · show (S [c0] ++ S [c1]).length + 1 ≤ 16777216
            rw [S_cat, S_len]
            show 2 + 1 ≤ 16777216
            decide
          · rw [S_cat, S_cat]
            try rfl
        rintro _ H6 ⟨rfl, rfl⟩
        refine mid_of (fun v H' => H' = H6 ∧ v = .str (S [c2, 65])) ?_ ?_
        · walk_at "rd"
          refine ⟨_, .inl (.inl (.inl hp6)), _, rfl, ?_⟩
          exact ⟨(by show 1 + 1 ≤ 16777216; decide), rfl⟩
        rintro _ H6 ⟨rfl, rfl⟩
        refine mid_of (fun v H' => H' = H6 ∧ v = .str (S [32, c0])) ?_ ?_
        · walk_at "rd"
          refine ⟨_, .inl (.inl (.inl hp6)), _, rfl, ?_⟩
          exact ⟨(by show 1 + 1 ≤ 16777216; decide), rfl⟩
        rintro _ H6 ⟨rfl, rfl⟩
        refine mid_of (fun v H' => H' = H6 ∧ v = .str (S [c3, c3])) ?_ ?_
        · walk_at "rd"
          refine ⟨_, .inl (.inl (.inl hp6)), _, rfl, ?_⟩
          exact ⟨_, 2, rfl, rfl, by decide, by decide, (by show 1 ≤ 1000; decide), rfl, rfl⟩
        rintro _ H6 ⟨rfl, rfl⟩
        intro p2 hp2
        refine ⟨⟨by decide, by decide⟩, _, .inl (.inl (.inl upd_same)), ?_⟩
        obtain ⟨v, e, l, rfl, h1, h2⟩ := at_all (l := [V.str (Str.ofString ""), V.str (Str.ofString "a/"), V.str (S [c0, c1, c0]), V.str (S [c2, 65]), V.str (S [32, c0]), V.str (S [c3, c3])])
          (i := cell / 4000 % 6) (C := fun v => ∃ l, v = .str (S l) ∧ l.length ≤ 3 ∧ (l = [] ∨ ¬ l.Nodup ∨ ∃ c ∈ l, c ∉ SIG)) (Int.emod_nonneg _ (by decide)) (Int.emod_lt_of_pos _ (by decide)) fun v hv => by
            simp only [List.mem_cons, List.not_mem_nil, or_false] at hv
            rcases hv with rfl | rfl | rfl | rfl | rfl | rfl
            · exact ⟨[], rfl, by decide, .inl rfl⟩
            · exact ⟨[97, 47], rfl, by decide, .inr (.inr ⟨47, by decide, by decide +kernel⟩)⟩
            · exact ⟨[c0, c1, c0], rfl, by simp, .inr (.inl fun n => (List.nodup_cons.mp n).1 (by simp))⟩
            · exact ⟨[c2, 65], rfl, by simp, .inr (.inr ⟨65, by simp, by decide +kernel⟩)⟩
            · exact ⟨[32, c0], rfl, by simp, .inr (.inr ⟨32, by simp, by decide +kernel⟩)⟩
            · exact ⟨[c3, c3], rfl, by simp, .inr (.inl fun n => (List.nodup_cons.mp n).1 (by simp))⟩
        exact ⟨_, e, same_new hp2, l, rfl, h1, h2⟩
      rintro _ H7 ⟨s7, l, rfl, hll, hbl⟩
      have hp7 := s7 _ _ hp6
      refine q_if (fun b H' => Same H7 H' ∧ b = false) ?_ (fun H8 h => nomatch h.2) fun H8 ⟨s8, _⟩ => q_nx ?_
      · walk_at "rd"
        exact err (by unfold BadM; rw [if_neg (by decide), if_pos rfl]; exact badS hbl) (by decide) (by rw [S_len]; omega)
      have hp8 := s8 _ _ hp7
      refine q_if (fun b H' => Same H8 H' ∧ b = false) ?_ (fun H9 h => nomatch h.2) fun H9 ⟨s9, _⟩ => q_nx ?_
      · walk_at "rd"
        refine ⟨⟨by decide, by decide⟩, err ?_ (by decide) (by decide)⟩
        unfold BadM
        rw [if_neg (by omega)]
        split
        · exact badS (l := []) (.inl rfl)
        · trivial
      have hp9 := s9 _ _ hp8
      /- nothing is caught -/
      have fine : ∀ {Hc : Hp} {n : Int} {z zs : Str} {R : VK}, ¬ BadM n z zs → z.length ≤ 1000 → zs.length < 1000 → (∀ H', Same Hc H' → R .non H') → spMadeK K [V.int n, V.str z, V.str zs, V.bl o] Hc R E := fun {Hc n z zs R} hb h1 h2 hR =>
        ⟨n, z, zs, o, rfl, h1, h2, fun v H' s hc => by
          rcases hc with ⟨rfl, _⟩ | ⟨_, _, b, _⟩
          · exact hR _ s
          · exact absurd b hb⟩
      refine q_if (fun b H' => Same H9 H' ∧ b = false) ?_ (fun H10 h => nomatch h.2) fun H10 ⟨s10, _⟩ => q_nx ?_
      · walk_at "rd"
        refine ⟨_, .inl (.inl (.inl hp9)), _, rfl, fine ?_ (by show 1 ≤ 1000; decide) (by decide) fun Ha sa => ?_⟩
        · unfold BadM
          rw [if_pos rfl]
          exact fun n => n ⟨c0, hcs _ (by simp), rfl⟩
        rw [if_neg fun n => n rfl]
        refine ⟨[c0, c1, c2, c3].map fun c => S [c], .inl (.inl (.inl (sa _ _ hp9))), ?_, ?_⟩
        · have e := len_chars [c0, c1, c2, c3]
          rw [show (Str.ofString "") = S [] from rfl, e]
          show 4 ≤ 16777216
          decide
        · have e := join_chars [c0, c1, c2, c3]
          rw [show (Str.ofString "") = S [] from rfl, e]
          refine fine ?_ (by decide) (by show 4 < 1000; decide) fun Hb sb => ⟨sa.trans sb, rfl⟩
          unfold BadM
          rw [if_neg (by decide), if_pos rfl]
          exact fun n => n (good_iff.mpr ⟨fun e => (nomatch S_inj e), nd_map1 hcn, hcs⟩)
      refine l_if (fun b H' => Same H10 H' ∧ b = false) ?_ (fun H11 h => nomatch h.2) fun H11 ⟨s11, _⟩ => ?_
      · walk_at "rd"
        refine mid_of (fun v H' => Same H10 H' ∧ RowV K ⟨[.deep], false, false⟩ v H') ?_ ?_
        · walk_at "rd"
          intro x dx hx hdx hne p2 hp2
          have n1 := new_two hx hdx hne (o := .own x) (o' := .ins (fA K "Deep") dx [])
          have n2 := same_new (o := .tup [V.ref x]) hp2
          exact row_make (us := [V.ref x]) (ss := [SF.deep]) (.inl (.inl (.inl upd_same))) (Each.snoc .nil ⟨x, dx, rfl, n2 _ _ upd_same⟩) (by decide) (by simp) fun y H' s hr => ⟨(n1.trans n2).trans s, hr⟩
        · rintro u Ha ⟨sa, hr⟩
          refine ⟨_, hr, _, rfl, hr, by decide, fun fs h => ?_, fun v H' s d p hp p1 hp1 p2 hp2 => ?_⟩
          · cases List.mem_singleton.mp h
          have s1 := same_new (o := .tup [V.str (Str.ofString "deep")]) hp
          have s2 := same_new (o := .tup [V.ref p]) hp1
          have s3 := same_new (o := .tup [V.ref p1, V.bl false, V.bl false]) hp2
          have ok : RF.Ok ⟨[.deep], false, false⟩ := ⟨by simp, fun s hs => (by cases List.mem_singleton.mp hs; trivial), trivial, by decide⟩
          exact ne_dat (RF.dok ok) (by decide) (dp_mono ((s1.trans s2).trans s3) _ _ d) (.tup (.inl (.inl upd_same)) (.cons (.tup (.inl (.inl (s3 _ _ upd_same))) (.cons (.tup (.inl (.inl (s3 _ _ (s2 _ _ upd_same)))) (.cons (.str _) .nil)) .nil)) (.cons (.bl _) (.cons (.bl _) .nil))))
            ⟨_, rfl, (((sa.trans s).trans s1).trans s2).trans s3, rfl⟩
      · exact ⟨(((((((s3.trans s4).trans s5).trans s6).trans s7).trans s8).trans s9).trans s10).trans s11, _, _, _, _, _, _, rfl⟩
    · rintro σ H1 ⟨s1, x1, x2, x3, x4, x5, x6, rfl⟩
      walk_at "rd"
      refine mid_of (fun v H' => StepV K (.seg [.any, .stars]) v H') ?_ ?_
      · walk_at "rd"
        intro x dx hx hdx hne y dy hy hdy hne2 p hp
        have n1 := new_two hx hdx hne (o := .own x) (o' := .ins (fA K "Any") dx [])
        have n2 := new_two hy hdy hne2 (o := .own y) (o' := .ins (fA K "Stars") dy [])
        have n3 := same_new (o := .tup [V.ref x, V.ref y]) hp
        exact seg_make (us := [V.ref x, V.ref y]) (fs := [PF.any, PF.stars]) (.inl (.inl (.inl upd_same))) (parts_each.mpr (Each.snoc (Each.snoc .nil ⟨x, dx, rfl, n3 _ _ (n2 _ _ upd_same)⟩) ⟨y, dy, rfl, n3 _ _ upd_same⟩)) (by decide) (by simp) fun z H' s hr => hr
      · rintro u Ha hr
        refine ⟨_, hr, _, rfl, hr, fun fs h => ?_, fun v H' s d p hp p1 hp1 p2 hp2 p3 hp3 => ?_⟩
        · cases h
          decide
        have s2 := same_new (o := .tup [V.str (Str.ofString "stars")]) hp1
        have s3 := same_new (o := .tup [V.ref p, V.ref p1]) hp2
        have s4 := same_new (o := .tup [V.str (Str.ofString "segment"), V.ref p2]) hp3
        have s1 := same_new (o := .tup [V.str (Str.ofString "any")]) hp
        have ok : SF.Ok (.seg [.any, .stars]) := ⟨by simp, fun f hf => (by
          simp only [List.mem_cons, List.not_mem_nil, or_false] at hf
          rcases hf with rfl | rfl <;> trivial), by simp [NoTwo, PF.many], by decide⟩
        have ok2 := SF.dok ok
        refine .inl ⟨_, (SF.seg [.any, .stars]).d, dp_mono (((s1.trans s2).trans s3).trans s4) _ _ d, .tup (.inl (.inl upd_same)) (.cons (.str _) (.cons (.tup (.inl (.inl (s4 _ _ upd_same))) (.cons (.tup (.inl (.inl (s4 _ _ (s3 _ _ (s2 _ _ upd_same))))) (.cons (.str _) .nil)) (.cons (.tup (.inl (.inl (s4 _ _ (s3 _ _ upd_same)))) (.cons (.str _) .nil)) .nil))) .nil)), ok2.shaped (by decide), ok2.shaped (by decide), ?_⟩
        rw [ok2.eqv]
        exact q _

end
end SL
namespace HD
open PySem PySem.Spec PyProof.Rows L2
def fn : List He.DefD := [
  ⟨("_wall", none), "_wall", "_wall", defArgs TX.s__wall, defBody TX.s__wall, defScope TX.s__wall, [], []⟩,
  ⟨("is_sign", none), "is_sign", "is_sign", defArgs TX.s_is_sign, defBody TX.s_is_sign, defScope TX.s_is_sign, [], []⟩,
  ⟨("_law_cell", none), "_law_cell", "_law_cell", defArgs TX.s__law_cell, defBody TX.s__law_cell, defScope TX.s__law_cell, [], []⟩,
  ⟨("_law_signs", none), "_law_signs", "_law_signs", defArgs TX.s__law_signs, defBody TX.s__law_signs, defScope TX.s__law_signs, [], []⟩,
  ⟨("_law_made", none), "_law_made", "_law_made", defArgs TX.s__law_made, defBody TX.s__law_made, defScope TX.s__law_made, [], []⟩,
  ⟨("_law_is_no_part", none), "_law_is_no_part", "_law_is_no_part", defArgs TX.s__law_is_no_part, defBody TX.s__law_is_no_part, defScope TX.s__law_is_no_part, [], []⟩,
  ⟨("law", none), "law", "law", defArgs TX.s_law, defBody TX.s_law, defScope TX.s_law, [], []⟩,
  ⟨("NoText", some "__init__"), "__init__", "NoText.__init__", defArgs TX.s_NoText___init__, defBody TX.s_NoText___init__, defScope TX.s_NoText___init__, [], []⟩,
  ⟨("Part", some "fits"), "fits", "Part.fits", defArgs TX.s_Part_fits, defBody TX.s_Part_fits, defScope TX.s_Part_fits, [], []⟩,
  ⟨("Part", some "many"), "many", "Part.many", defArgs TX.s_Part_many, defBody TX.s_Part_many, defScope TX.s_Part_many, [], []⟩,
  ⟨("Part", some "told"), "told", "Part.told", defArgs TX.s_Part_told, defBody TX.s_Part_told, defScope TX.s_Part_told, [], []⟩,
  ⟨("Any", some "fits"), "fits", "Part.fits", defArgs TX.s_Part_fits, defBody TX.s_Part_fits, defScope TX.s_Part_fits, [], []⟩,
  ⟨("Any", some "many"), "many", "Part.many", defArgs TX.s_Part_many, defBody TX.s_Part_many, defScope TX.s_Part_many, [], []⟩,
  ⟨("Any", some "told"), "told", "Part.told", defArgs TX.s_Part_told, defBody TX.s_Part_told, defScope TX.s_Part_told, [], []⟩,
  ⟨("One", some "fits"), "fits", "One.fits", defArgs TX.s_One_fits, defBody TX.s_One_fits, defScope TX.s_One_fits, [], []⟩,
  ⟨("One", some "many"), "many", "Part.many", defArgs TX.s_Part_many, defBody TX.s_Part_many, defScope TX.s_Part_many, [], []⟩,
  ⟨("One", some "told"), "told", "One.told", defArgs TX.s_One_told, defBody TX.s_One_told, defScope TX.s_One_told, [], []⟩,
  ⟨("One", some "__init__"), "__init__", "One.__init__", defArgs TX.s_One___init__, defBody TX.s_One___init__, defScope TX.s_One___init__, [], []⟩,
  ⟨("Among", some "fits"), "fits", "Among.fits", defArgs TX.s_Among_fits, defBody TX.s_Among_fits, defScope TX.s_Among_fits, [], []⟩,
  ⟨("Among", some "many"), "many", "Part.many", defArgs TX.s_Part_many, defBody TX.s_Part_many, defScope TX.s_Part_many, [], []⟩,
  ⟨("Among", some "told"), "told", "Among.told", defArgs TX.s_Among_told, defBody TX.s_Among_told, defScope TX.s_Among_told, [], []⟩,
  ⟨("Among", some "__init__"), "__init__", "Among.__init__", defArgs TX.s_Among___init__, defBody TX.s_Among___init__, defScope TX.s_Among___init__, [.bl false], []⟩,
  ⟨("Stars", some "fits"), "fits", "Part.fits", defArgs TX.s_Part_fits, defBody TX.s_Part_fits, defScope TX.s_Part_fits, [], []⟩,
  ⟨("Stars", some "many"), "many", "Stars.many", defArgs TX.s_Stars_many, defBody TX.s_Stars_many, defScope TX.s_Stars_many, [], []⟩,
  ⟨("Stars", some "told"), "told", "Stars.told", defArgs TX.s_Stars_told, defBody TX.s_Stars_told, defScope TX.s_Stars_told, [], []⟩,
  ⟨("Step", some "deep"), "deep", "Step.deep", defArgs TX.s_Step_deep, defBody TX.s_Step_deep, defScope TX.s_Step_deep, [], []⟩,
  ⟨("Step", some "fits_name"), "fits_name", "Step.fits_name", defArgs TX.s_Step_fits_name, defBody TX.s_Step_fits_name, defScope TX.s_Step_fits_name, [], []⟩,
  ⟨("Step", some "told"), "told", "Step.told", defArgs TX.s_Step_told, defBody TX.s_Step_told, defScope TX.s_Step_told, [], []⟩,
  ⟨("Deep", some "deep"), "deep", "Deep.deep", defArgs TX.s_Deep_deep, defBody TX.s_Deep_deep, defScope TX.s_Deep_deep, [], []⟩,
  ⟨("Deep", some "fits_name"), "fits_name", "Step.fits_name", defArgs TX.s_Step_fits_name, defBody TX.s_Step_fits_name, defScope TX.s_Step_fits_name, [], []⟩,
  ⟨("Deep", some "told"), "told", "Step.told", defArgs TX.s_Step_told, defBody TX.s_Step_told, defScope TX.s_Step_told, [], []⟩,
  ⟨("Segment", some "deep"), "deep", "Step.deep", defArgs TX.s_Step_deep, defBody TX.s_Step_deep, defScope TX.s_Step_deep, [], []⟩,
  ⟨("Segment", some "fits_name"), "fits_name", "Segment.fits_name", defArgs TX.s_Segment_fits_name, defBody TX.s_Segment_fits_name, defScope TX.s_Segment_fits_name, [], []⟩,
  ⟨("Segment", some "told"), "told", "Segment.told", defArgs TX.s_Segment_told, defBody TX.s_Segment_told, defScope TX.s_Segment_told, [], []⟩,
  ⟨("Segment", some "__init__"), "__init__", "Segment.__init__", defArgs TX.s_Segment___init__, defBody TX.s_Segment___init__, defScope TX.s_Segment___init__, [], []⟩,
  ⟨("Row", some "__init__"), "__init__", "Row.__init__", defArgs TX.s_Row___init__, defBody TX.s_Row___init__, defScope TX.s_Row___init__, [.bl false, .bl false], []⟩,
  ⟨("Row", some "told"), "told", "Row.told", defArgs TX.s_Row_told, defBody TX.s_Row_told, defScope TX.s_Row_told, [], []⟩]
def fa : List He.Fa := [.glo "_wall", .glo "is_sign", .glo "_law_cell", .glo "_law_signs", .glo "_law_made", .glo "_law_is_no_part", .glo "law", .glo "ShunError", .keep "ShunError", .exc "ShunError", .glo "NoPart", .keep "NoPart", .exc "NoPart", .glo "NoPath", .keep "NoPath", .exc "NoPath", .glo "NoText", .keep "NoText", .glo "TooMany", .keep "TooMany", .exc "TooMany", .glo "NoFolder", .keep "NoFolder", .exc "NoFolder", .glo "NoLeaf", .keep "NoLeaf", .exc "NoLeaf", .glo "Part", .keep "Part", .cls "Part", .meth "Part" "fits", .meth "Part" "many", .meth "Part" "told", .glo "Any", .keep "Any", .cls "Any", .meth "Any" "fits", .meth "Any" "many", .meth "Any" "told", .glo "One", .keep "One", .cls "One", .noat "One" "sign", .meth "One" "fits", .meth "One" "many", .meth "One" "told", .meth "One" "__init__", .mkr "One", .glo "Among", .keep "Among", .cls "Among", .noat "Among" "signs", .noat "Among" "outside", .meth "Among" "fits", .meth "Among" "many", .meth "Among" "told", .meth "Among" "__init__", .mkr "Among", .glo "Stars", .keep "Stars", .cls "Stars", .meth "Stars" "fits", .meth "Stars" "many", .meth "Stars" "told", .glo "Step", .keep "Step", .cls "Step", .meth "Step" "deep", .meth "Step" "fits_name", .meth "Step" "told", .glo "Deep", .keep "Deep", .cls "Deep", .meth "Deep" "deep", .meth "Deep" "fits_name", .meth "Deep" "told", .glo "Segment", .keep "Segment", .cls "Segment", .noat "Segment" "parts", .meth "Segment" "deep", .meth "Segment" "fits_name", .meth "Segment" "told", .meth "Segment" "__init__", .mkr "Segment", .glo "Row", .keep "Row", .cls "Row", .noat "Row" "steps", .noat "Row" "spares", .noat "Row" "folders", .meth "Row" "__init__", .meth "Row" "told", .mkr "Row", .str "SIGNS" "-.0123456789_abcdefghijklmnopqrstuvwxyz", .free "len", .free "range", .free "all", .free "set", .free "sorted", .free "tuple", .free "isinstance", .free "ValueError"]
def mkn (K : PySem.W.Frag) (x : Str) : Bool := PySem.W.makesIn K (He.ga K x) && (He.eqO (PySem.W.findIn K (.ref (He.ga K x)) "__init__") (some (some (.builtin "object.__init__"))) && PySem.W.keepIn K (.ref (He.ga K x)))
def kx (K : PySem.W.Frag) : Bool := SL.kxB K [("NoPart", "ShunError")] [("NoPart", "NoFolder", false), ("NoPart", "NoLeaf", false), ("NoPart", "NoPath", false), ("NoPart", "NoText", false), ("NoPart", "TooMany", false), ("NoPart", "NoPart", true)] ["NoFolder", "NoLeaf", "NoPath", "NoText", "TooMany", "NoPart"]
def ex (K : PySem.W.Frag) : Bool := (["Part", "Any", "Stars", "Step", "Deep"] : List Str).all (mkn K) && kx K
theorem kx_ok {K : PySem.W.Frag} (h : ex K = true) : SL.kxB K [("NoPart", "ShunError")] [("NoPart", "NoFolder", false), ("NoPart", "NoLeaf", false), ("NoPart", "NoPath", false), ("NoPart", "NoText", false), ("NoPart", "TooMany", false), ("NoPart", "NoPart", true)] ["NoFolder", "NoLeaf", "NoPath", "NoText", "TooMany", "NoPart"] = true := (Bool.and_eq_true _ _ ▸ h).2
theorem mkn_ok {K : PySem.W.Frag} {x : Str} (h : ex K = true) (m : x ∈ (["Part", "Any", "Stars", "Step", "Deep"] : List Str)) : SL.MkN K (He.ga K x) := by
  have e := List.all_eq_true.mp (Bool.and_eq_true _ _ ▸ h).1 x m
  unfold mkn at e
  rw [Bool.and_eq_true, Bool.and_eq_true] at e
  exact ⟨e.1, He.eqO_ok e.2.1, e.2.2⟩
abbrev R : PySem.W.OpenRow := PySem.W.OpenLaw.row PySem.Challenge.rw_shunlist_k12_parts_refused
abbrev hk : PySem.W.Hook := He.hookX 5 fa fn [] [] ex
def ob (s : PySem.W.SharedT) : He.AlX := He.obsX 5 fa fn [] [] ex (HandSHeadRun.getT s)
theorem ob_eq (s : PySem.W.SharedT) : ob s = hk.obs s.abs := He.obsX_eq (HandSHeadRun.getT_eq s)
def loose : List Str := (["_wall", "ShunError", "NoPart", "NoPath", "NoText", "TooMany", "NoFolder", "NoLeaf", "SIGNS", "is_sign", "Part", "Any", "One", "Among", "Stars", "Step", "Deep", "Segment", "Row", "_law_cell", "_law_signs", "_law_made", "_law_is_no_part"] : List Str)
theorem run (w : World) : HandSHeadRun.RunEq R (PySem.W.view R.prog [27]) hk ob 6000 loose w := by
  intro os
  kernel_rfl
end HD
namespace SL
open PySem PySem.Spec PyProof.Rows L2
theorem txt_of {w : World} {K : PySem.W.Frag} {h : Heap} {mg : Str → Option Value} (X : K.In h) (G : h.Ns mainGlobals mg) (c : He.SaysX HD.fa HD.fn [] [] HD.ex w h K) : Txt K mg where
  F__wall := c.t.d.def_ 0 rfl
  F_is_sign := c.t.d.def_ 1 rfl
  F__law_cell := c.t.d.def_ 2 rfl
  F__law_signs := c.t.d.def_ 3 rfl
  F__law_made := c.t.d.def_ 4 rfl
  F__law_is_no_part := c.t.d.def_ 5 rfl
  F_law := c.t.d.def_ 6 rfl
  F_NoText___init__ := c.t.d.def_ 7 rfl
  F_Part_fits := c.t.d.def_ 8 rfl
  F_Part_many := c.t.d.def_ 9 rfl
  F_Part_told := c.t.d.def_ 10 rfl
  F_Any_fits := c.t.d.def_ 11 rfl
  F_Any_many := c.t.d.def_ 12 rfl
  F_Any_told := c.t.d.def_ 13 rfl
  F_One_fits := c.t.d.def_ 14 rfl
  F_One_many := c.t.d.def_ 15 rfl
  F_One_told := c.t.d.def_ 16 rfl
  F_One___init__ := c.t.d.def_ 17 rfl
  F_Among_fits := c.t.d.def_ 18 rfl
  F_Among_many := c.t.d.def_ 19 rfl
  F_Among_told := c.t.d.def_ 20 rfl
  F_Among___init__ := c.t.d.def_ 21 rfl
  F_Stars_fits := c.t.d.def_ 22 rfl
  F_Stars_many := c.t.d.def_ 23 rfl
  F_Stars_told := c.t.d.def_ 24 rfl
  F_Step_deep := c.t.d.def_ 25 rfl
  F_Step_fits_name := c.t.d.def_ 26 rfl
  F_Step_told := c.t.d.def_ 27 rfl
  F_Deep_deep := c.t.d.def_ 28 rfl
  F_Deep_fits_name := c.t.d.def_ 29 rfl
  F_Deep_told := c.t.d.def_ 30 rfl
  F_Segment_deep := c.t.d.def_ 31 rfl
  F_Segment_fits_name := c.t.d.def_ 32 rfl
  F_Segment_told := c.t.d.def_ 33 rfl
  F_Segment___init__ := c.t.d.def_ 34 rfl
  F_Row___init__ := c.t.d.def_ 35 rfl
  F_Row_told := c.t.d.def_ 36 rfl
  g__wall := He.glo_ok X G (c.t.d.fact 0 (f := .glo "_wall") rfl)
  g_is_sign := He.glo_ok X G (c.t.d.fact 1 (f := .glo "is_sign") rfl)
  g__law_cell := He.glo_ok X G (c.t.d.fact 2 (f := .glo "_law_cell") rfl)
  g__law_signs := He.glo_ok X G (c.t.d.fact 3 (f := .glo "_law_signs") rfl)
  g__law_made := He.glo_ok X G (c.t.d.fact 4 (f := .glo "_law_made") rfl)
  g__law_is_no_part := He.glo_ok X G (c.t.d.fact 5 (f := .glo "_law_is_no_part") rfl)
  g_law := He.glo_ok X G (c.t.d.fact 6 (f := .glo "law") rfl)
  g_ShunError := He.glo_ok X G (c.t.d.fact 7 (f := .glo "ShunError") rfl)
  k_ShunError := He.keep_ok (c.t.d.fact 8 (f := .keep "ShunError") rfl)
  x_ShunError := He.exc_ok (c.t.d.fact 9 (f := .exc "ShunError") rfl)
  g_NoPart := He.glo_ok X G (c.t.d.fact 10 (f := .glo "NoPart") rfl)
  k_NoPart := He.keep_ok (c.t.d.fact 11 (f := .keep "NoPart") rfl)
  x_NoPart := He.exc_ok (c.t.d.fact 12 (f := .exc "NoPart") rfl)
  g_NoPath := He.glo_ok X G (c.t.d.fact 13 (f := .glo "NoPath") rfl)
  k_NoPath := He.keep_ok (c.t.d.fact 14 (f := .keep "NoPath") rfl)
  x_NoPath := He.exc_ok (c.t.d.fact 15 (f := .exc "NoPath") rfl)
  g_NoText := He.glo_ok X G (c.t.d.fact 16 (f := .glo "NoText") rfl)
  k_NoText := He.keep_ok (c.t.d.fact 17 (f := .keep "NoText") rfl)
  g_TooMany := He.glo_ok X G (c.t.d.fact 18 (f := .glo "TooMany") rfl)
  k_TooMany := He.keep_ok (c.t.d.fact 19 (f := .keep "TooMany") rfl)
  x_TooMany := He.exc_ok (c.t.d.fact 20 (f := .exc "TooMany") rfl)
  g_NoFolder := He.glo_ok X G (c.t.d.fact 21 (f := .glo "NoFolder") rfl)
  k_NoFolder := He.keep_ok (c.t.d.fact 22 (f := .keep "NoFolder") rfl)
  x_NoFolder := He.exc_ok (c.t.d.fact 23 (f := .exc "NoFolder") rfl)
  g_NoLeaf := He.glo_ok X G (c.t.d.fact 24 (f := .glo "NoLeaf") rfl)
  k_NoLeaf := He.keep_ok (c.t.d.fact 25 (f := .keep "NoLeaf") rfl)
  x_NoLeaf := He.exc_ok (c.t.d.fact 26 (f := .exc "NoLeaf") rfl)
  g_Part := He.glo_ok X G (c.t.d.fact 27 (f := .glo "Part") rfl)
  k_Part := He.keep_ok (c.t.d.fact 28 (f := .keep "Part") rfl)
  c_Part := He.cls_ok (c.t.d.fact 29 (f := .cls "Part") rfl)
  m_Part_fits := He.meth_ok (c.t.d.fact 30 (f := .meth "Part" "fits") rfl)
  m_Part_many := He.meth_ok (c.t.d.fact 31 (f := .meth "Part" "many") rfl)
  m_Part_told := He.meth_ok (c.t.d.fact 32 (f := .meth "Part" "told") rfl)
  g_Any := He.glo_ok X G (c.t.d.fact 33 (f := .glo "Any") rfl)
  k_Any := He.keep_ok (c.t.d.fact 34 (f := .keep "Any") rfl)
  c_Any := He.cls_ok (c.t.d.fact 35 (f := .cls "Any") rfl)
  m_Any_fits := He.meth_ok (c.t.d.fact 36 (f := .meth "Any" "fits") rfl)
  m_Any_many := He.meth_ok (c.t.d.fact 37 (f := .meth "Any" "many") rfl)
  m_Any_told := He.meth_ok (c.t.d.fact 38 (f := .meth "Any" "told") rfl)
  g_One := He.glo_ok X G (c.t.d.fact 39 (f := .glo "One") rfl)
  k_One := He.keep_ok (c.t.d.fact 40 (f := .keep "One") rfl)
  c_One := He.cls_ok (c.t.d.fact 41 (f := .cls "One") rfl)
  n_One_sign := He.noat_ok (c.t.d.fact 42 (f := .noat "One" "sign") rfl)
  m_One_fits := He.meth_ok (c.t.d.fact 43 (f := .meth "One" "fits") rfl)
  m_One_many := He.meth_ok (c.t.d.fact 44 (f := .meth "One" "many") rfl)
  m_One_told := He.meth_ok (c.t.d.fact 45 (f := .meth "One" "told") rfl)
  m_One___init__ := He.meth_ok (c.t.d.fact 46 (f := .meth "One" "__init__") rfl)
  mk_One := He.mkr_ok (c.t.d.fact 47 (f := .mkr "One") rfl)
  g_Among := He.glo_ok X G (c.t.d.fact 48 (f := .glo "Among") rfl)
  k_Among := He.keep_ok (c.t.d.fact 49 (f := .keep "Among") rfl)
  c_Among := He.cls_ok (c.t.d.fact 50 (f := .cls "Among") rfl)
  n_Among_signs := He.noat_ok (c.t.d.fact 51 (f := .noat "Among" "signs") rfl)
  n_Among_outside := He.noat_ok (c.t.d.fact 52 (f := .noat "Among" "outside") rfl)
  m_Among_fits := He.meth_ok (c.t.d.fact 53 (f := .meth "Among" "fits") rfl)
  m_Among_many := He.meth_ok (c.t.d.fact 54 (f := .meth "Among" "many") rfl)
  m_Among_told := He.meth_ok (c.t.d.fact 55 (f := .meth "Among" "told") rfl)
  m_Among___init__ := He.meth_ok (c.t.d.fact 56 (f := .meth "Among" "__init__") rfl)
  mk_Among := He.mkr_ok (c.t.d.fact 57 (f := .mkr "Among") rfl)
  g_Stars := He.glo_ok X G (c.t.d.fact 58 (f := .glo "Stars") rfl)
  k_Stars := He.keep_ok (c.t.d.fact 59 (f := .keep "Stars") rfl)
  c_Stars := He.cls_ok (c.t.d.fact 60 (f := .cls "Stars") rfl)
  m_Stars_fits := He.meth_ok (c.t.d.fact 61 (f := .meth "Stars" "fits") rfl)
  m_Stars_many := He.meth_ok (c.t.d.fact 62 (f := .meth "Stars" "many") rfl)
  m_Stars_told := He.meth_ok (c.t.d.fact 63 (f := .meth "Stars" "told") rfl)
  g_Step := He.glo_ok X G (c.t.d.fact 64 (f := .glo "Step") rfl)
  k_Step := He.keep_ok (c.t.d.fact 65 (f := .keep "Step") rfl)
  c_Step := He.cls_ok (c.t.d.fact 66 (f := .cls "Step") rfl)
  m_Step_deep := He.meth_ok (c.t.d.fact 67 (f := .meth "Step" "deep") rfl)
  m_Step_fits_name := He.meth_ok (c.t.d.fact 68 (f := .meth "Step" "fits_name") rfl)
  m_Step_told := He.meth_ok (c.t.d.fact 69 (f := .meth "Step" "told") rfl)
  g_Deep := He.glo_ok X G (c.t.d.fact 70 (f := .glo "Deep") rfl)
  k_Deep := He.keep_ok (c.t.d.fact 71 (f := .keep "Deep") rfl)
  c_Deep := He.cls_ok (c.t.d.fact 72 (f := .cls "Deep") rfl)
  m_Deep_deep := He.meth_ok (c.t.d.fact 73 (f := .meth "Deep" "deep") rfl)
  m_Deep_fits_name := He.meth_ok (c.t.d.fact 74 (f := .meth "Deep" "fits_name") rfl)
  m_Deep_told := He.meth_ok (c.t.d.fact 75 (f := .meth "Deep" "told") rfl)
  g_Segment := He.glo_ok X G (c.t.d.fact 76 (f := .glo "Segment") rfl)
  k_Segment := He.keep_ok (c.t.d.fact 77 (f := .keep "Segment") rfl)
  c_Segment := He.cls_ok (c.t.d.fact 78 (f := .cls "Segment") rfl)
  n_Segment_parts := He.noat_ok (c.t.d.fact 79 (f := .noat "Segment" "parts") rfl)
  m_Segment_deep := He.meth_ok (c.t.d.fact 80 (f := .meth "Segment" "deep") rfl)
  m_Segment_fits_name := He.meth_ok (c.t.d.fact 81 (f := .meth "Segment" "fits_name") rfl)
  m_Segment_told := He.meth_ok (c.t.d.fact 82 (f := .meth "Segment" "told") rfl)
  m_Segment___init__ := He.meth_ok (c.t.d.fact 83 (f := .meth "Segment" "__init__") rfl)
  mk_Segment := He.mkr_ok (c.t.d.fact 84 (f := .mkr "Segment") rfl)
  g_Row := He.glo_ok X G (c.t.d.fact 85 (f := .glo "Row") rfl)
  k_Row := He.keep_ok (c.t.d.fact 86 (f := .keep "Row") rfl)
  c_Row := He.cls_ok (c.t.d.fact 87 (f := .cls "Row") rfl)
  n_Row_steps := He.noat_ok (c.t.d.fact 88 (f := .noat "Row" "steps") rfl)
  n_Row_spares := He.noat_ok (c.t.d.fact 89 (f := .noat "Row" "spares") rfl)
  n_Row_folders := He.noat_ok (c.t.d.fact 90 (f := .noat "Row" "folders") rfl)
  m_Row___init__ := He.meth_ok (c.t.d.fact 91 (f := .meth "Row" "__init__") rfl)
  m_Row_told := He.meth_ok (c.t.d.fact 92 (f := .meth "Row" "told") rfl)
  mk_Row := He.mkr_ok (c.t.d.fact 93 (f := .mkr "Row") rfl)
  s_SIGNS := He.str_ok X G (c.t.d.fact 94 (f := .str "SIGNS" "-.0123456789_abcdefghijklmnopqrstuvwxyz") rfl)
  fr_len := He.free_ok X G (c.t.d.fact 95 (f := .free "len") rfl)
  fr_range := He.free_ok X G (c.t.d.fact 96 (f := .free "range") rfl)
  fr_all := He.free_ok X G (c.t.d.fact 97 (f := .free "all") rfl)
  fr_set := He.free_ok X G (c.t.d.fact 98 (f := .free "set") rfl)
  fr_sorted := He.free_ok X G (c.t.d.fact 99 (f := .free "sorted") rfl)
  fr_tuple := He.free_ok X G (c.t.d.fact 100 (f := .free "tuple") rfl)
  fr_isinstance := He.free_ok X G (c.t.d.fact 101 (f := .free "isinstance") rfl)
  fr_ValueError := He.free_ok X G (c.t.d.fact 102 (f := .free "ValueError") rfl)
  kx := HD.kx_ok c.more
  mn_Part := HD.mkn_ok c.more (by decide)
  mn_Any := HD.mkn_ok c.more (by decide)
  mn_Stars := HD.mkn_ok c.more (by decide)
  mn_Step := HD.mkn_ok c.more (by decide)
  mn_Deep := HD.mkn_ok c.more (by decide)
end SL
open PySem PySem.W PySem.Calls PyProof.Rows
theorem PySem.Challenge.cw_shunlist_k12_parts_refused_holds : PySem.Challenge.rw_shunlist_k12_parts_refused.Holds := by
  w_on; o_law
  refine HandSHeadRun.head_any (r := (PySem.W.OpenLaw.row PySem.Challenge.rw_shunlist_k12_parts_refused)) (q := view (PySem.W.OpenLaw.row PySem.Challenge.rw_shunlist_k12_parts_refused).prog [27]) (H := HD.hk) (ob := HD.ob) (M := 6000) (loose := HD.loose) (d := HandSHeadRun.topDef (PySem.W.OpenLaw.row PySem.Challenge.rw_shunlist_k12_parts_refused).prog 27) (kwd := []) HD.ob_eq
    (by kernel_rfl) (fun s => by kernel_rfl) HD.run (by kernel_rfl) (by kernel_rfl) (by kernel_rfl) (by rfl) (by first | assumption | decide +kernel) (by decide +kernel) ⟨rfl, rfl, rfl, rfl, rfl, by decide +kernel⟩ ?hw ?hc
  case hw => w_witness2
  case hc =>
    refine LamX.walk_ofTsE (l := PySem.Challenge.rw_shunlist_k12_parts_refused) (n := 63) (k := 5) (x := "_law_script") (CX := fun w => L2.CX (PySem.Challenge.rw_shunlist_k12_parts_refused).prog w) rfl (by decide) (by kernel_rfl) ⟨rfl, by decide, by decide⟩ ?F (fun _ _ _ _ _ ⟨_, _, _, _, _, _, _, _, _, _, _, _, z⟩ => z)
    intro w mg fa h Y G hmg0
    obtain ⟨K, KX, c⟩ := Y
    have T := SL.txt_of KX G c
    have hmg : mg ("law" : PySem.Str) = some (.ref fa) := by
      have e : (HandSHeadRun.topDef (PySem.W.OpenLaw.row PySem.Challenge.rw_shunlist_k12_parts_refused).prog 27).name = ("law" : PySem.Str) := by kernel_rfl
      rw [← e]
      exact hmg0
    have e := hmg.symm.trans T.g_law
    cases e
    obtain ⟨fd, F⟩ := T.F_law
    have b := L2.FunD.bindsA (ps := ["_law_script"]) F fun _ _ _ _ _ _ us hl => match us, hl with | [_], _ => rfl
    exact ⟨K, KX, fd, [], SL.spLaw K, (fun _ h => nomatch h), (fun _ h => nomatch h), (fun _ h => nomatch h), fun s v => b s [v] rfl, fun H a ns hl hb _ hS => SL.law_sp hS hl hb, fun base _ _ _ => F.ok SL.sc_law (fun vs H Q E h => SL.law_len h) (SL.bd_law T)⟩
