import PyProof.Rows.All
import Wide.All
import OpenK.AllK
import Wide.FinOn
import KE.KStateDown
import HandS.Base
import HandS.Call
import HandS.List
import HandS.Comp
import HandS.Dict
import HandS.Iter
import HandS.Text
import HandS.Ends
import HandS.More
import HandS.Words
import HandS.WordsExc
import HandS.Defaults
import HandS.MakeKw
import HandS.Exc
import HandS.ExcOwn
import HandS.TryOnly
import HandS.Deep
import HandS.TupAny
import HandS.Head0
import HandS.Head1
import HandS.Head2
import HandS.HeadHook1
import HandS.HeadHook2
import HandS.HeadHook3
import HandS.HeadHook4
import HandS.HeadWalk
import HandS.Flow
import HandS.Style
import HandS.Wide
import HandS.MakeKw
import HandS.Steps
import HandS.Strs
import HandS.IsInst
import HandS.Zip
import HandS.SetKeys
import HandS.Set
import HandS.WordsDict
import HandS.WordsList
import HandS.Walk
import HandS.Iter
import PyProof.Draws
import PyProof.EnumMake
import HandS.Conv
import HandS.RevRange
import HandS.SetFor
import HandS.Strs
import HandS.Zip
import HandS.SortInts
import HandS.Codes
import HandS.TupSets
import HandS.StrMore
import HandS.Replace
import PyProof.StrLawsFirst
import PyProof.Rows.SortShellAny
import KE.KxAffix
import HandS.DictComp
import HandS.Finally
import HandS.SortRule
import KE.KSortTupAny
import HandS.SortKw
import KE.SortKeyHeap
import PySem.Challenge.RW_shunlist_k43_whole_rows_and_paths
set_option Elab.async false
set_option linter.all false
set_option maxRecDepth 100000
set_option maxHeartbeats 4000000

/-! the layer of this proof: calls by promise, readings -/
namespace SL
open PySem PySem.Spec PyProof.Rows L2
/-- a def keeps the promise sp at level k; dvs: its last defaults, filled in -/
def OkD (P : Program) (w : World) (K : PySem.W.Frag) (mg : Str → Option Value) (base : Heap) (k : Nat) (f : Addr) (ps : List Str) (dvs : List V) (sp : Sp) : Prop :=
  ∃ (fd : FuncData) (ds : List Value), FnOk P w K mg base (L2.CX P w) k f fd ps sp ∧ Binds K fd ps ds ∧ Vals dvs ds ∧ PySem.W.keepIn K (.ref f) = true
/-- what the top tells of an error's class -/
def ExcK (K : PySem.W.Frag) (C : Addr) : Prop := PySem.W.excIn K C He.veBase "ValueError.__new__" = true ∧ PySem.W.keepIn K (.ref C) = true ∧ PySem.W.subIn K (.ref C) (.type "BaseException") = some true ∧ PySem.W.typeIn K (.ref C) = some (.type "type")
section
variable {P : Program} {w : World} {K : PySem.W.Frag} {mg : Str → Option Value} {base : Heap} {f : Addr} {name qual : Str} {params : Arguments} {body : List Stmt} {scope : Scope} {dvs : List V} {N ps : List Str} {k : Nat} {sp : Sp}
/-- the body's question of a def -/
abbrev BodyQ (P : Program) (w : World) (K : PySem.W.Frag) (mg : Str → Option Value) (base : Heap) (k : Nat) (f : Addr) (qual : Str) (body : List Stmt) (scope : Scope) (N : List Str) (sp : Sp) : Prop :=
  ∀ (cdv : Value) (A : Around) (outer : List Env) (s : Shared) (H : Hp) (vs : List V) (Q : VK) (E : XK), Room k (A.deeper (envOfC qual scope s.heap.objs.size f cdv)) → sp vs H Q E →
      ∃ t, PSs (cxOf (L2.CX P w) P w K mg base N qual scope f cdv A outer s H E) body t ∧ t { nx := fun _ H' => Q .non H', rt := Q } (start N vs) H
theorem okD (F : ∃ fd, FunD K name qual params body scope [] [] f fd) (S : FnScope N ps scope)
    (hb : ∀ (kV doc pm : Value) (an : Option Addr) (cdv ct : Value) (us : List Value), us.length = ps.length → bindArgs (PySem.W.fnOf name qual params body scope .none kV doc pm an cdv ct) ⟨us, []⟩ = pure (ps.zip us))
    (len : ∀ vs H Q E, sp vs H Q E → vs.length = ps.length) (h : BodyQ P w K mg base k f qual body scope N sp) : OkD P w K mg base (k + 1) f ps [] sp := by
  obtain ⟨fd, F⟩ := F
  exact ⟨fd, [], F.ok S len h, F.bindsN hb, .nil, F.kp⟩
/-- a def with defaults, called with all but the last dvs.drop j -/
theorem okDd (F : ∃ fd, FunD K name qual params body scope dvs [] f fd) (S : FnScope N ps scope) (n j : Nat) (hd : dvs ≠ []) (hn : n + (dvs.length - j) = ps.length)
    (hb : ∀ (T : Addr) (kV doc pm : Value) (an : Option Addr) (cdv ct : Value) (us its : List Value), us.length = n → its.length = dvs.length →
      ∃ k, bindArgs (PySem.W.fnOf name qual params body scope (.ref T) kV doc pm an cdv ct) ⟨us, []⟩ = seqItems? (.ref T) >>= k ∧ k (some its.toArray) = pure (ps.zip (us ++ its.drop j)))
    (len : ∀ vs H Q E, sp vs H Q E → vs.length = ps.length) (h : BodyQ P w K mg base k f qual body scope N sp) : OkD P w K mg base (k + 1) f ps (dvs.drop j) sp := by
  obtain ⟨fd, F⟩ := F
  obtain ⟨ds, h1, h2⟩ := F.binds1 n j hd hn hb
  exact ⟨fd, ds, F.ok S len h, h2, h1, F.kp⟩
end
section
variable {X : Cx} {k : Nat} {f : Addr} {ps : List Str} {dvs : List V} {sp : Sp} {E : XK} {x : Str} {p pos : Pos} {e : Expr} {es : List Expr} {t : TA}
theorem pe_cal (o : OkD X.prog X.w X.K X.mg X.base k f ps dvs sp) (hr : Room k X.A) (hg : Gl X x) (hm : X.mg x = some (.ref f)) (hx : Passes (L2.CX X.prog X.w) X E)
    (ha : PA X (e :: es) t) (hdb : (x == ("__debug__" : Str)) = false := by decide) (he : starEach (e :: es) X.env = (false, eval e X.env) :: starEach es X.env := by rfl) (hpl : (backTo pos (starEach es X.env)).any (·.1) = false := by rfl) :
    PE X (.Call (.Name x p) (e :: es) [] pos) (tCall sp dvs E t) := by
  obtain ⟨fd, ds, F, hb, hd, hk⟩ := o
  exact pe_call F hr hg hm hk hb hd hx ha hdb he hpl
/-- a module's text, a module's number -/
theorem pe_gstr {z : Str} (hg : Gl X x) (hm : ∃ t, X.mg x = some (.str z t)) (hd : (x == ("__debug__" : Str)) = false := by decide) : PE X (.Name x pos) (tC (.str z)) := by
  obtain ⟨t, hm⟩ := hm
  exact pe_glob hg hm ⟨t, rfl⟩ hd
/-- no error leaves the callee -/
theorem pasN : Passes (L2.CX X.prog X.w) X (fun _ _ _ => False) := fun _ _ _ _ _ _ _ ⟨_, _, _, _, _, _, _, _, _, _, _, _, h⟩ => h.elim
/-- an error of a callee leaves here, too -/
theorem pasE {W : WX} (tk : Takes X W) {E : XK} (h : ∀ c d σ H, E c d H → W c d σ H) : Passes (L2.CX X.prog X.w) X E := fun pins σ H s e s' I c => passes_call tk h pins σ H s e s' I c
end
end SL
namespace SL
open PySem PySem.Spec PyProof.Rows L2
section
variable {X : Cx} {k : Nat} {f C : Addr} {ps : List Str} {dvs : List V} {sp : Sp} {E : XK} {x m : Str} {p pos apos : Pos} {o e : Expr} {es : List Expr} {ta : TE} {t : TA}
/-- o.m(..), the class told by what stands there: i says it -/
def tMeI {ι : Type} (D : ι → V → Hp → Prop) (spI : ι → Sp) (E : XK) (ta : TE) (t : TA) : TE := fun σ H Q => ta σ H fun x H1 => ∃ i, D i x H1 ∧ t σ H1 fun vs H2 => spI i (x :: vs) H2 Q E
/-- what a value must be for a method m of promise spI i -/
def MetD {ι : Type} (X : Cx) (k : Nat) (m : Str) (D : ι → V → Hp → Prop) (spI : ι → Sp) : Prop :=
  ∀ i x H, D i x H → ∃ a C dx fs g ps, x = .ref a ∧ H a = some (.ins C dx fs) ∧ Cls X.K C ∧ Meth X.K C m g ∧ fs.lookup m = none ∧ OkD X.prog X.w X.K X.mg X.base k g ps [] (spI i)
theorem pe_metI {ι : Type} {D : ι → V → Hp → Prop} {spI : ι → Sp} {pl : Sem Bool} (hD : MetD X k m D spI) (he : PE X o ta) (hr : Room k X.A) (hx : Passes (L2.CX X.prog X.w) X E) (ha : PA X (e :: es) t)
    (hst : starEach (e :: es) X.env = (false, eval e X.env) :: starEach es X.env := by rfl) (hpl : (backTo pos (starEach es X.env)).any (·.1) = false := by rfl)
    (ht : eval (.Call (.Attribute o m apos) (e :: es) [] pos) X.env = (do
      let ov ← eval o X.env
      standAt apos.atName
      let (f, first) ← holding [ov] (getMethod ov m pl)
      callWith pos f first (backTo pos (starEach (e :: es) X.env)) (backToKw pos (keywordEach [] X.env))) := by rfl) :
    PE X (.Call (.Attribute o m apos) (e :: es) [] pos) (tMeI D spI E ta t) := by
  refine ⟨fun pins s σ H Q I h => ?_⟩
  refine PySem.W.methodCall_KW (pl := pl) (thn (he.run pins s σ H _ I h) fun u s1 ⟨x, H1, I1, rx, i, hi, q⟩ => ?_) ht
  obtain ⟨a, C, dx, fs, g, ps, rfl, ea, c, hm, l, fd, ds, F, hb, hd, hk⟩ := hD i x H1 hi
  obtain rfl : u = Value.ref a := rx
  cases hd
  refine getmeth_ok I1 ea c hm l (PySem.W.callWith_K (first := [.ref a]) (h₀ := X.base) I.ok.mod.kin hm.kp (thn (ha.run pos pins s1 σ H1 _ I1 q) fun us s2 ⟨vs, H2, I2, r, q2⟩ => ⟨I2.kIn, ?_⟩) hst hpl)
  have q3 : spI i (.ref a :: vs ++ []) H2 Q E := by rw [List.append_nil]; exact q2
  exact run_fn (us := .ref a :: us) (vs := .ref a :: vs) F hr hb .nil hx I2 (.cons rfl r) q3
theorem pe_metI0 {ι : Type} {D : ι → V → Hp → Prop} {spI : ι → Sp} {pl : Sem Bool} (hD : MetD X k m D spI) (he : PE X o ta) (hr : Room k X.A) (hx : Passes (L2.CX X.prog X.w) X E)
    (ht : eval (.Call (.Attribute o m apos) [] [] pos) X.env = (do
      let ov ← eval o X.env
      standAt apos.atName
      let (f, first) ← holding [ov] (getMethod ov m pl)
      callWith pos f first (backTo pos (starEach [] X.env)) (backToKw pos (keywordEach [] X.env))) := by rfl) :
    PE X (.Call (.Attribute o m apos) [] [] pos) (tMeI D spI E ta tNil) := by
  refine ⟨fun pins s σ H Q I h => ?_⟩
  refine PySem.W.methodCall_KW (pl := pl) (thn (he.run pins s σ H _ I h) fun u s1 ⟨x, H1, I1, rx, i, hi, q⟩ => ?_) ht
  obtain ⟨a, C, dx, fs, g, ps, rfl, ea, c, hm, l, fd, ds, F, hb, hd, hk⟩ := hD i x H1 hi
  obtain rfl : u = Value.ref a := rx
  cases hd
  refine getmeth_ok I1 ea c hm l (PySem.W.callWith_K0 (first := [.ref a]) I1.kIn hm.kp ?_)
  exact run_fn (us := [.ref a]) (vs := [.ref a]) F hr hb .nil hx I1 (.cons rfl .nil) q
/-- C(e, ..) by its __init__ -/
theorem pe_mak (M : Mk X.K C f) (o : OkD X.prog X.w X.K X.mg X.base k f ps dvs sp) (hr : Room (k + 1) X.A) (hg : Gl X x) (hm : X.mg x = some (.ref C)) (hx : Passes (L2.CX X.prog X.w) X E)
    (ha : PA X (e :: es) t) (hdb : (x == ("__debug__" : Str)) = false := by decide) (he : starEach (e :: es) X.env = (false, eval e X.env) :: starEach es X.env := by rfl) (hpl : (backTo pos (starEach es X.env)).any (·.1) = false := by rfl) :
    PE X (.Call (.Name x p) (e :: es) [] pos) (tMake C sp dvs E t) := by
  obtain ⟨fd, ds, F, hb, hd, _⟩ := o
  exact pe_make M F hr hg hm hb hd hx ha hdb he hpl
/-- C() of a class that has no __init__ of its own -/
structure MkN (K : PySem.W.Frag) (C : Addr) : Prop where
  makes : PySem.W.makesIn K C = true
  init : PySem.W.findIn K (.ref C) "__init__" = some (some (.builtin "object.__init__"))
  kp : PySem.W.keepIn K (.ref C) = true
def tMakN (C : Addr) : TE := fun _ H Q => ∀ x dx, H x = none → H dx = none → dx ≠ x → Q (.ref x) (upd (upd H dx (.own x)) x (.ins C dx []))
theorem pe_makN (M : MkN X.K C) (hg : Gl X x) (hm : X.mg x = some (.ref C)) (hdb : (x == ("__debug__" : Str)) = false := by decide) : PE X (.Call (.Name x p) [] [] pos) (tMakN C) := by
  refine ⟨fun pins s σ H Q I h => ?_⟩
  refine wpAny_Call_Name_kw (ld_glob I hg hm ?_ hdb)
  refine PySem.W.callWith_K0 I.kIn M.kp (wpAny_call ?_)
  have I2 := Inv.made (C := C) I
  have hq := h (s.heap.objs.size + 1) s.heap.objs.size (I.hok.fresh (Nat.le_succ _)) (I.hok.fresh (Nat.le_refl _)) (Nat.ne_of_lt (Nat.lt_succ_self _))
  refine make_map0 I.kIn M.makes M.init (fun self => PySem.W.Looks.of_pure (PySem.W.oi_bind self)) ?_
  have Y := PySem.W.makes_of (M := model X.prog X.w) I.kIn M.makes
  have hx : ((s.heap.push PySem.W.emptyDict).push (PySem.W.instObj C s.heap.objs.size)).get? (s.heap.objs.size + 1) = some (PySem.W.instObj C s.heap.objs.size) := by
    have e := Heap.get?_push_size (s.heap.push PySem.W.emptyDict) (show (PySem.W.instObj C s.heap.objs.size).isFreed = false from rfl)
    rw [Heap.size_push] at e
    exact e
  have t1 : PySem.W.Looks (model X.prog X.w) ((s.heap.push PySem.W.emptyDict).push (PySem.W.instObj C s.heap.objs.size)) (isInstance (.ref (s.heap.objs.size + 1)) (.type "object")) true :=
    ((PySem.W.Looks.ld hx).andThen .now).andThen (Y.top.keeps fun b o e => Heap.get?_push_of_some _ (Heap.get?_push_of_some _ e))
  refine codeAny_call_builtin PySem.W.oi_plain PySem.W.entry_oi (@PySem.W.check_slot (model X.prog X.w) _ _ _ "object.__init__" "object" "__init__" (.ref (s.heap.objs.size + 1)) [] [] _ PySem.W.oi_kind PySem.W.oi_split t1 (PySem.W.oi_args (.ref (s.heap.objs.size + 1))) ?_)
  rw [PySem.W.oi_run]
  exact wpAny_pure ⟨rfl, .ref (s.heap.objs.size + 1), _, I2, rfl, hq⟩
end
/-- a def that keeps sp, called with n values and the keywords ks, in the order of its parameters -/
def OkK (P : Program) (w : World) (K : PySem.W.Frag) (mg : Str → Option Value) (base : Heap) (k : Nat) (f : Addr) (ps : List Str) (n : Nat) (ks : List Str) (sp : Sp) : Prop :=
  ∃ (fd : FuncData) (g : List Value → List Value → List Value) (gV : List V → List V → List V), FnOk P w K mg base (L2.CX P w) k f fd ps sp ∧ KBn K fd ps n ks g gV ∧ ∀ vs zs, gV vs zs = vs ++ zs
theorem okK {P : Program} {w : World} {K : PySem.W.Frag} {mg : Str → Option Value} {base : Heap} {f : Addr} {name qual : Str} {params : Arguments} {body : List Stmt} {scope : Scope} {dvs : List V} {N ps : List Str} {k : Nat} {sp : Sp}
    (F : ∃ fd, FunD K name qual params body scope dvs [] f fd) (S : FnScope N ps scope) (n : Nat) (ks : List Str) (hd : dvs ≠ [])
    (hb : ∀ (T : Addr) (kV doc pm : Value) (an : Option Addr) (cdv ct : Value) (us its ws : List Value), us.length = n → its.length = dvs.length → ws.length = ks.length →
      ∃ k, bindArgs (PySem.W.fnOf name qual params body scope (.ref T) kV doc pm an cdv ct) ⟨us, ks.zip ws⟩ = seqItems? (.ref T) >>= k ∧ k (some its.toArray) = pure (ps.zip (us ++ ws)))
    (len : ∀ vs H Q E, sp vs H Q E → vs.length = ps.length) (h : BodyQ P w K mg base k f qual body scope N sp) : OkK P w K mg base (k + 1) f ps n ks sp := by
  obtain ⟨fd, F⟩ := F
  obtain ⟨its, hk⟩ := F.kbindsD n ks (fun us _ ws => us ++ ws) hd (fun a _ c => a.append c) hb
  exact ⟨fd, _, _, F.ok S len h, hk, fun _ _ => rfl⟩
def tMakK (C : Addr) (n m : Nat) (sp : Sp) (E : XK) (t tk : TA) : TE := fun σ H Q => t σ H fun vs H1 => tk σ H1 fun zs H2 => vs.length = n ∧ zs.length = m ∧
  ∀ x dx, H2 x = none → H2 dx = none → dx ≠ x → sp (.ref x :: (vs ++ zs)) (upd (upd H2 dx (.own x)) x (.ins C dx [])) (fun v H3 => v = .non ∧ Q (.ref x) H3) E
/-- keywords turned about -/
def OkKr (P : Program) (w : World) (K : PySem.W.Frag) (mg : Str → Option Value) (base : Heap) (k : Nat) (f : Addr) (ps : List Str) (n : Nat) (ks : List Str) (sp : Sp) : Prop :=
  ∃ (fd : FuncData) (g : List Value → List Value → List Value) (gV : List V → List V → List V), FnOk P w K mg base (L2.CX P w) k f fd ps sp ∧ KBn K fd ps n ks g gV ∧ ∀ vs zs, gV vs zs = vs ++ zs.reverse
theorem okKr {P : Program} {w : World} {K : PySem.W.Frag} {mg : Str → Option Value} {base : Heap} {f : Addr} {name qual : Str} {params : Arguments} {body : List Stmt} {scope : Scope} {dvs : List V} {N ps : List Str} {k : Nat} {sp : Sp}
    (F : ∃ fd, FunD K name qual params body scope dvs [] f fd) (S : FnScope N ps scope) (n : Nat) (ks : List Str) (hd : dvs ≠ [])
    (hb : ∀ (T : Addr) (kV doc pm : Value) (an : Option Addr) (cdv ct : Value) (us its ws : List Value), us.length = n → its.length = dvs.length → ws.length = ks.length →
      ∃ k, bindArgs (PySem.W.fnOf name qual params body scope (.ref T) kV doc pm an cdv ct) ⟨us, ks.zip ws⟩ = seqItems? (.ref T) >>= k ∧ k (some its.toArray) = pure (ps.zip (us ++ ws.reverse)))
    (len : ∀ vs H Q E, sp vs H Q E → vs.length = ps.length) (h : BodyQ P w K mg base k f qual body scope N sp) : OkKr P w K mg base (k + 1) f ps n ks sp := by
  obtain ⟨fd, F⟩ := F
  obtain ⟨its, hk⟩ := F.kbindsD n ks (fun us _ ws => us ++ ws.reverse) hd (fun a _ c => a.append c.reverse) hb
  exact ⟨fd, _, _, F.ok S len h, hk, fun _ _ => rfl⟩
def tMakKr (C : Addr) (n m : Nat) (sp : Sp) (E : XK) (t tk : TA) : TE := fun σ H Q => t σ H fun vs H1 => tk σ H1 fun zs H2 => vs.length = n ∧ zs.length = m ∧
  ∀ x dx, H2 x = none → H2 dx = none → dx ≠ x → sp (.ref x :: (vs ++ zs.reverse)) (upd (upd H2 dx (.own x)) x (.ins C dx [])) (fun v H3 => v = .non ∧ Q (.ref x) H3) E
end SL
namespace SL
open PySem PySem.Spec PyProof.Rows L2
theorem hu64 {k : Nat} {A : Around} (hr : Room k A) : A.units + 64 < cLine := hr.units
section
variable {X : Cx}
theorem OpR.imp {f : Value → Value → Sem Value} {r r' : R2} (h : OpR X f r) (i : ∀ x y H Q, r' x y H Q → r x y H Q) : OpR X f r' := fun pins s σ H x y v u Q I rx ry q => h pins s σ H x y v u Q I rx ry (i _ _ _ _ q)
theorem IxR.imp {r r' : R2} (h : IxR X r) (i : ∀ x y H Q, r' x y H Q → r x y H Q) : IxR X r' := fun value slice pins s σ H x y v u Q I rx ry q hs => h value slice pins s σ H x y v u Q I rx ry (i _ _ _ _ q) hs
theorem CallR.imp {f : Value} {r r' : List V → Hp → VK → Prop} (h : CallR X f r) (i : ∀ xs H Q, r' xs H Q → r xs H Q) : CallR X f r' := fun pins s σ H xs us Q I rx q => h pins s σ H xs us Q I rx (i _ _ _ q)
/-! ### + and * -/
def rAddU (K : PySem.W.Frag) : R2 := fun x y H Q => match x, y with
  | .int i, .int j => Q (.int (i + j)) H
  | .int i, .bl b => Q (.int (i + b2i b)) H
  | .str a, .str b => a.length + b.length ≤ sizeLine ∧ Q (.str (a ++ b)) H
  | .ref a, .ref b => rCat (.ref a) (.ref b) H Q ∨ rCatT K (.ref a) (.ref b) H Q
  | _, _ => False
theorem o_add {K : PySem.W.Frag} (hK : X.K = K := by rfl) : OpR X (binaryOp .Add) (rAddU K) := by
  subst hK
  refine OpR.imp (op_add.or (op_add_ib.or (op_add_str.or (op_cat.or op_catT)))) fun x y H Q h => ?_
  cases x <;> cases y <;> first
    | exact absurd h id
    | exact .inl ⟨_, _, rfl, rfl, h⟩
    | exact .inr (.inl ⟨_, _, rfl, rfl, h⟩)
    | exact .inr (.inr (.inl ⟨_, _, rfl, rfl, h.1, h.2⟩))
    | exact .inr (.inr (.inr h))
def rMulU : R2 := fun x y H Q => match x, y with
  | .int i, .int j => CMul i j ∧ Q (.int (i * j)) H
  | .ref a, .int j => rRep (.ref a) (.int j) H Q
  | _, _ => False
theorem o_mul : OpR X (binaryOp .Mult) rMulU := by
  refine OpR.imp (op_mul.or op_rep) fun x y H Q h => ?_
  cases x <;> cases y <;> first
    | exact absurd h id
    | exact .inl ⟨_, _, rfl, rfl, h.1, h.2⟩
    | exact .inr h
/-! ### comparisons -/
def isRef : V → Bool
  | .ref _ => true
  | _ => false
/-- lists of different lengths -/
def lenNe (K : PySem.W.Frag) (b : Bool) : R2 := fun x y H Q => ∃ p q xs ys, x = .ref p ∧ y = .ref q ∧ SqL K H p xs ∧ SqL K H q ys ∧ xs.length ≠ ys.length ∧ Q (.bl b) H
theorem op_eqLen (hu : X.A.units + 64 < cLine) : OpR X (compareOp .Eq) (lenNe X.K false) := by
  intro pins s σ H x y v u Q I rx ry h
  obtain ⟨p, q, xs, ys, rfl, rfl, h1, h2, hn, k⟩ := h
  cases rx
  cases ry
  obtain ⟨its, r, pl, _⟩ := I.list h1
  obtain ⟨its2, r2, pl2, _⟩ := I.list h2
  have e1 := r.length
  have e2 := r2.length
  exact SeqAt.RcAt.lists_lengths pl.isList pl2.isList (by simp; omega) (by omega) _ _ _ _ ⟨.bl _, H, I, rfl, k⟩
theorem op_neLen (hu : X.A.units + 64 < cLine) : OpR X (compareOp .NotEq) (lenNe X.K true) := by
  intro pins s σ H x y v u Q I rx ry h
  obtain ⟨p, q, xs, ys, rfl, rfl, h1, h2, hn, k⟩ := h
  cases rx
  cases ry
  obtain ⟨its, r, pl, _⟩ := I.list h1
  obtain ⟨its2, r2, pl2, _⟩ := I.list h2
  have e1 := r.length
  have e2 := r2.length
  exact SeqAt.RcNeAt.lists_lengths pl.isList pl2.isList (by simp; omega) (by omega) _ _ _ _ ⟨.bl _, H, I, rfl, k⟩
def rEqR (K : PySem.W.Frag) : R2 := fun x y H Q => rEqD K x y H Q ∨ lenNe K false x y H Q
def rNeR (K : PySem.W.Frag) : R2 := fun x y H Q => rNeD K x y H Q ∨ lenNe K true x y H Q
def rEqU (K : PySem.W.Frag) : R2 := fun x y H Q => match isRef x || isRef y with
  | true => rEqR K x y H Q
  | false => scal x y = true ∧ Q (.bl (decide (x = y))) H
def rNeU (K : PySem.W.Frag) : R2 := fun x y H Q => match isRef x || isRef y with
  | true => rNeR K x y H Q
  | false => scal x y = true ∧ Q (.bl (!decide (x = y))) H
theorem o_eq {K : PySem.W.Frag} (hu : X.A.units + 64 < cLine) (hK : X.K = K := by rfl) : OpR X (compareOp .Eq) (rEqU K) := by
  subst hK
  refine OpR.imp (op_eq.or ((op_eqD hu).or (op_eqLen hu))) fun x y H Q h => ?_
  unfold rEqU at h
  split at h
  · exact .inr h
  · exact .inl h
theorem o_ne {K : PySem.W.Frag} (hu : X.A.units + 64 < cLine) (hK : X.K = K := by rfl) : OpR X (compareOp .NotEq) (rNeU K) := by
  subst hK
  refine OpR.imp (op_ne.or ((op_neD hu).or (op_neLen hu))) fun x y H Q h => ?_
  unfold rNeU at h
  split at h
  · exact .inr h
  · exact .inl h
/-- a list against the empty list -/
theorem eq_nil {K : PySem.W.Frag} {p q : Addr} {xs : List V} {H : Hp} {Q : VK} (h1 : SqL K H p xs) (h2 : SqL K H q []) (k : Q (.bl (decide (xs = []))) H) : rEqR K (.ref p) (.ref q) H Q := by
  cases xs with
  | nil => exact .inl ⟨.list [], .list [], .lst h1 .nil, .lst h2 .nil, rfl, rfl, k⟩
  | cons x r => exact .inr ⟨p, q, _, _, rfl, rfl, h1, h2, by simp, k⟩
theorem ne_nil {K : PySem.W.Frag} {p q : Addr} {xs : List V} {H : Hp} {Q : VK} (h1 : SqL K H p xs) (h2 : SqL K H q []) (k : Q (.bl (!decide (xs = []))) H) : rNeR K (.ref p) (.ref q) H Q := by
  cases xs with
  | nil => exact .inl ⟨.list [], .list [], .lst h1 .nil, .lst h2 .nil, rfl, rfl, k⟩
  | cons x r => exact .inr ⟨p, q, _, _, rfl, rfl, h1, h2, by simp, k⟩
/-! ### is, of truths and None -/
def rIsBo : R2 := fun x y H Q => match x, y with
  | .bl a, .bl b => Q (.bl (a == b)) H
  | _, _ => False
def rNotBo : R2 := fun x y H Q => match x, y with
  | .bl a, .bl b => Q (.bl (!(a == b))) H
  | _, _ => False
/-! ### int of a number or a truth -/
def rIntU : List V → Hp → VK → Prop := fun xs H Q => match xs with
  | [.int i] => Q (.int i) H
  | [.bl k] => Q (.int (if k then 1 else 0)) H
  | _ => False
theorem o_int : CallR X (.type "int") rIntU := CallR.imp call_int1 fun xs H Q h => match xs, h with
  | [.int i], q => .inl ⟨i, rfl, q⟩
  | [.bl k], q => .inr ⟨k, rfl, q⟩
/-! ### x += y -/
def rIadd : TIp := fun x y H Q => match x, y with
  | .int i, .int j => Q (.int (i + j)) H
  | .str a, .str b => a.length + b.length ≤ sizeLine ∧ Q (.str (a ++ b)) H
  | .ref a, .ref b => rExt2 (.ref a) (.ref b) H Q
  | _, _ => False
theorem o_iadd : PIp X .Add rIadd := fun pins s σ H x y v u Q I rx ry h => match x, y, h with
  | .int i, .int j, q => ip_add pins s σ H _ _ v u Q I rx ry ⟨i, j, rfl, rfl, q⟩
  | .str a, .str b, q => iop_add_str pins s σ H _ _ v u Q I rx ry ⟨a, b, rfl, rfl, q⟩
  | .ref a, .ref b, q => iop_ext pins s σ H _ _ v u Q I rx ry q
def rCmp (f : Int → Int → Bool) (g : List Nat → List Nat → Bool) : R2 := fun x y H Q => match x, y with
  | .int i, .int j => Q (.bl (f i j)) H
  | .str a, .str b => Q (.bl (g a.cps.toList b.cps.toList)) H
  | _, _ => False
theorem o_lt : OpR X (compareOp .Lt) (rCmp (fun i j => decide (i < j)) (fun a b => decide (a < b))) := by
  refine OpR.imp (op_lt.or op_lt_str) fun x y H Q h => ?_
  cases x <;> cases y <;> first
    | exact absurd h id
    | exact .inl ⟨_, _, rfl, rfl, h⟩
    | exact .inr ⟨_, _, rfl, rfl, h⟩
theorem o_gt : OpR X (compareOp .Gt) (rCmp (fun i j => decide (j < i)) (fun a b => decide (b < a))) := by
  refine OpR.imp (op_gt.or op_gt_str) fun x y H Q h => ?_
  cases x <;> cases y <;> first
    | exact absurd h id
    | exact .inl ⟨_, _, rfl, rfl, h⟩
    | exact .inr ⟨_, _, rfl, rfl, h⟩
/-- in: a sign in a text, a text in a text, data in a list of data, a flat thing in a list or a tuple -/
def rInU (K : PySem.W.Frag) : R2 := fun x y H Q => match x, y with
  | .str a, .str b => (∃ c, a = ⟨#[c]⟩ ∧ Q (.bl (decide (c ∈ b.cps.toList))) H) ∨ Q (.bl (!(Builtin.Str.occurrences b a 0 b.length 1).isEmpty)) H
  | .ref a, .ref b => rInD K (.ref a) (.ref b) H Q
  | x, .ref b => rIn K false x (.ref b) H Q
  | _, _ => False
theorem hu65 {k : Nat} {A : Around} (hr : Room k A) : A.units + 65 < cLine := by
  have := hr.un
  omega
theorem o_in {K : PySem.W.Frag} (hu : X.A.units + 65 < cLine) (hK : X.K = K := by rfl) : OpR X (compareOp .In) (rInU K) := by
  subst hK
  refine OpR.imp (op_in_sign.or (op_in_str.or (op_in_seq.or (op_inD hu)))) fun x y H Q h => ?_
  cases y with
  | ref b => cases x with
    | ref a => exact .inr (.inr (.inr h))
    | _ => exact .inr (.inr (.inl h))
  | str b =>
    cases x with
    | str a =>
      rcases h with ⟨c, rfl, q⟩ | q
      · exact .inl ⟨c, b, rfl, rfl, q⟩
      · exact .inr (.inl ⟨a, b, rfl, rfl, q⟩)
    | _ => exact absurd h id
  | _ => cases x <;> exact absurd h id
def rNotInU (K : PySem.W.Frag) : R2 := fun x y H Q => match x, y with
  | .str a, .str b => (∃ c, a = ⟨#[c]⟩ ∧ Q (.bl (!decide (c ∈ b.cps.toList))) H) ∨ Q (.bl (!(!(Builtin.Str.occurrences b a 0 b.length 1).isEmpty))) H
  | .ref a, .ref b => rNotInD K (.ref a) (.ref b) H Q
  | x, .ref b => rIn K true x (.ref b) H Q
  | _, _ => False
theorem o_notin {K : PySem.W.Frag} (hu : X.A.units + 65 < cLine) (hK : X.K = K := by rfl) : OpR X (compareOp .NotIn) (rNotInU K) := by
  subst hK
  refine OpR.imp (op_notIn_sign.or (op_notIn_str.or (op_notIn_seq.or (op_notInD hu)))) fun x y H Q h => ?_
  cases y with
  | ref b => cases x with
    | ref a => exact .inr (.inr (.inr h))
    | _ => exact .inr (.inr (.inl h))
  | str b =>
    cases x with
    | str a =>
      rcases h with ⟨c, rfl, q⟩ | q
      · exact .inl ⟨c, b, rfl, rfl, q⟩
      · exact .inr (.inl ⟨a, b, rfl, rfl, q⟩)
    | _ => exact absurd h id
  | _ => cases x <;> exact absurd h id
/-! ### items, slices, walks -/
def rIxU (K : PySem.W.Frag) : R2 := fun x y H Q => match x, y with
  | .ref p, .int i => ∃ xs v, (SqL K H p xs ∨ SqT K H p xs) ∧ atI xs i = some v ∧ Q v H
  | .str z, .int i => z.length ≤ sizeLine ∧ ∃ c, atI z.cps.toList i = some c ∧ Q (.str ⟨#[c]⟩) H
  | _, _ => False
theorem o_ix {K : PySem.W.Frag} (hK : X.K = K := by rfl) : IxR X (rIxU K) := by
  subst hK
  refine IxR.imp ix_seq fun x y H Q h => ?_
  cases y with
  | int i =>
    cases x with
    | ref p =>
      obtain ⟨xs, v, h1 | h1, h2, q⟩ := h
      · exact .inl ⟨p, xs, i, v, rfl, rfl, h1, h2, q⟩
      · exact .inr (.inl ⟨p, xs, i, v, rfl, rfl, h1, h2, q⟩)
    | str z =>
      obtain ⟨h0, c, h2, q⟩ := h
      exact .inr (.inr ⟨z, i, c, rfl, rfl, h0, h2, q⟩)
    | _ => exact absurd h id
  | _ => cases x <;> exact absurd h id
def iU (K : PySem.W.Frag) (te : TE) : TI := fun σ H R => te σ H fun x H1 => match x with
  | .ref a => ((∃ xs, SqL K H1 a xs) ∧ R (Itl K a) H1) ∨ ((∃ xs, SqT K H1 a xs) ∧ R (Itt K a) H1)
  | .str z => R (Its z) H1
  | _ => False
theorem o_it {K : PySem.W.Frag} {tg e : Expr} {te : TE} (hc : X.calm = true) (he : PE X e te) (hK : X.K = K := by rfl) : PI X tg e (iU K te) := by
  subst hK
  refine ⟨fun pins s σ H R I h => ?_⟩
  refine thn (he.run pins s σ H _ I h) fun v s1 ⟨x, H1, I1, r1, q1⟩ => ?_
  cases x with
  | ref a =>
    cases r1
    rcases q1 with ⟨⟨xs, hq⟩, q⟩ | ⟨⟨xs, hq⟩, q⟩
    · obtain ⟨its, rv, p, hz⟩ := I1.list hq
      exact wpAny_pyIter_list p.isList (pi_one (tk := s1.toks) I1 _ (turn_list a _) ⟨_, Heap.get?_push_size _ rfl, rfl, rfl⟩ q)
    · obtain ⟨its, rv, p, hz⟩ := I1.tuple hq
      exact wpAny_pyIter_tuple (show s1.heap.IsTuple a its.toArray from p) (pi_one (tk := s1.toks) I1 _ (turn_tuple a _) ⟨_, Heap.get?_push_size _ rfl, rfl, rfl⟩ q)
  | str z =>
    obtain ⟨t, rfl⟩ := r1
    cases ha : z.cps.all (· < 128)
    · exact wpAny_pyIter_wide ha (pi_one (tk := s1.toks) I1 _ (turn_str _ z t "str_iterator" (.inr rfl)) ⟨_, Heap.get?_push_size _ rfl, rfl, rfl⟩ q1)
    · exact wpAny_pyIter_ascii ha (pi_one (tk := s1.toks) I1 _ (turn_str _ z t "str_ascii_iterator" (.inl rfl)) ⟨_, Heap.get?_push_size _ rfl, rfl, rfl⟩ q1)
  | _ => exact absurd q1 id
/-! ### slices, len, list, the truth of a value -/
def rSlU (K : PySem.W.Frag) : V → Option Int → Option Int → Hp → VK → Prop := fun x lo hi H Q => match x with
  | .str z => z.length ≤ sizeLine ∧ Q (.str (cutS z lo hi)) H
  | .ref a => (∃ xs, SqL K H a xs ∧ ∀ p, H p = none → Q (.ref p) (upd H p (.lst (cutV xs lo hi)))) ∨
    ∃ xs, SqT K H a xs ∧ (HT.sIx xs.length 0 lo = 0 ∧ HT.sIx xs.length xs.length hi = xs.length → Q (.ref a) H) ∧
      (¬ (HT.sIx xs.length 0 lo = 0 ∧ HT.sIx xs.length xs.length hi = xs.length) → ∀ p, H p = none → Q (.ref p) (upd H p (.tup (cutV xs lo hi))))
  | _ => False
theorem SlR.imp {r r' : V → Option Int → Option Int → Hp → VK → Prop} (h : SlR X r) (i : ∀ x lo hi H Q, r' x lo hi H Q → r x lo hi H Q) : SlR X r' := fun pins s σ H x v vl vu lo hi sl Q I rx hs pl pu q => h pins s σ H x v vl vu lo hi sl Q I rx hs pl pu (i _ _ _ _ _ q)
theorem o_sl {K : PySem.W.Frag} (hK : X.K = K := by rfl) : SlR X (rSlU K) := by
  subst hK
  refine SlR.imp (sl_list.or (sl_tupA.or sl_str)) fun x lo hi H Q h => ?_
  match x, h with
  | .str z, ⟨h1, h2⟩ => exact .inr (.inr ⟨z, rfl, h1, h2⟩)
  | .ref a, .inl ⟨xs, h1, h2⟩ => exact .inl ⟨a, xs, rfl, h1, h2⟩
  | .ref a, .inr ⟨xs, h1, h2, h3⟩ => exact .inr (.inl ⟨a, xs, rfl, h1, h2, h3⟩)
def rLenU (K : PySem.W.Frag) : List V → Hp → VK → Prop := fun xs H Q => match xs with
  | [x] => ∃ n, LenV K x H n ∧ Q (.int n) H
  | _ => False
theorem o_len {K : PySem.W.Frag} (hK : X.K = K := by rfl) : CallR X (.builtin "len") (rLenU K) := by
  subst hK
  refine CallR.imp call_len fun xs H Q h => ?_
  match xs, h with
  | [x], ⟨n, h, q⟩ => exact ⟨x, n, rfl, h, q⟩
theorem pt_tru {K : PySem.W.Frag} {a : Expr} {ta : TE} (ha : PE X a ta) (he : ∀ whole, isTrue a X.env whole = (do let v ← whole; standAt a.pos; holding [v] (truthy v))) (hK : X.K = K := by rfl) : PT X a (fun σ H Q => ta σ H fun x H1 => ∃ k, TruV K x H1 k ∧ Q k H1) := by
  subst hK
  exact pt_truth ha he
theorem pe_notK {K : PySem.W.Frag} {a : Expr} {ta : TE} {pos : Pos} (ha : PE X a ta) (hK : X.K = K := by rfl) : PE X (.UnaryOp .Not a pos) (tNotT K ta) := by
  subst hK
  exact pe_notT ha
theorem pe_orK {K : PySem.W.Frag} {a b : Expr} {rest : List Expr} {ta tb : TE} {pos : Pos} (ha : PE X a ta) (hb : PE X (.BoolOp .Or (b :: rest) pos) tb) (hK : X.K = K := by rfl) : PE X (.BoolOp .Or (a :: b :: rest) pos) (tOrT K ta tb) := by
  subst hK
  exact pe_orT ha hb
theorem pe_andK {K : PySem.W.Frag} {a b : Expr} {rest : List Expr} {ta tb : TE} {pos : Pos} (ha : PE X a ta) (hb : PE X (.BoolOp .And (b :: rest) pos) tb) (hK : X.K = K := by rfl) : PE X (.BoolOp .And (a :: b :: rest) pos) (tAndT K ta tb) := by
  subst hK
  exact pe_andT ha hb
theorem pe_fldK {K : PySem.W.Frag} {e : Expr} {f : Str} {ta : TE} {pos : Pos} (he : PE X e ta) (hb : attributeBase e f X.env (eval e X.env) = eval e X.env) (hK : X.K = K := by rfl) : PE X (.Attribute e f pos) (tFld K ta f) := by
  subst hK
  exact pe_fld he hb
theorem o_all {K : PySem.W.Frag} (hc : X.calm = true) (hK : X.K = K := by rfl) : CallR X (.builtin "all") (rAll K) := by
  subst hK
  exact cr_all hc
/-- isinstance(x, T), T built in -/
def rIsiU (K : PySem.W.Frag) : List V → Hp → VK → Prop := fun xs H Q => match xs with
  | [x, .ty n] => ∃ (t : String) (b : Bool), TyX K H x (.type t) ∧ kitB t n = some b ∧ Q (.bl b) H
  | _ => False
def rTupU (K : PySem.W.Frag) : List V → Hp → VK → Prop := fun xs H Q => match xs with
  | [.ref p] => ∃ ys, (SqL K H p ys ∧ ∀ l, H l = none → Q (.ref l) (upd H l (.tup ys))) ∨ (SqT K H p ys ∧ Q (.ref p) H)
  | _ => False
theorem o_tuple {K : PySem.W.Frag} (hK : X.K = K := by rfl) : CallR X (.type "tuple") (rTupU K) := by
  subst hK
  refine CallR.imp call_tuple_of fun xs H Q h => ?_
  match xs, h with
  | [.ref p], ⟨ys, h⟩ => exact ⟨p, ys, rfl, h⟩
end
end SL
namespace SL
open PySem PySem.Spec PyProof.Rows L2
section
variable {K : PySem.W.Frag} {H H' : Hp}
theorem same_new {p : Addr} {o : HO} (h : H p = none) : Same H (upd H p o) := fun a u e => by
  rw [upd_ne (ne_of_none e h)]
  exact e
/-- an object that H does not know may change -/
theorem same_mut {p : Addr} {o : HO} (e : Same H H') (h : H p = none) : Same H (upd H' p o) := fun a u ha => by
  rw [upd_ne (ne_of_none ha h)]
  exact e a u ha
theorem same_rd {a : Addr} {u : HO} (e : Same H H') (h : Rd H a u) : Rd H' a u := by
  rcases h with h | ⟨o, h⟩
  · exact .inl (e a _ h)
  · exact .inr ⟨o, e a _ h⟩
theorem same_l {a : Addr} {xs : List V} (e : Same H H') (h : SqL K H a xs) : SqL K H' a xs := e.seq h
theorem same_t {a : Addr} {xs : List V} (e : Same H H') (h : SqT K H a xs) : SqT K H' a xs := by
  rcases h with h | h
  · exact .inl (same_rd e h)
  · exact .inr h
mutual
theorem dp_mono (e : Same H H') : ∀ (d : PyData) (v : V), Dp K H v d → Dp K H' v d
  | .none, _, .non => .non
  | .bool _, _, .bl b => .bl b
  | .int _, _, .int i => .int i
  | .str _, _, .str x => .str x
  | .list ds, _, .lst h a => .lst (same_l e h) (dpAll_mono e ds _ a)
  | .tuple ds, _, .tup h a => .tup (same_t e h) (dpAll_mono e ds _ a)
theorem dpAll_mono (e : Same H H') : ∀ (ds : List PyData) (vs : List V), DpAll K H vs ds → DpAll K H' vs ds
  | [], _, .nil => .nil
  | d :: ds, _, .cons h t => .cons (dp_mono e d _ h) (dpAll_mono e ds _ t)
end
end
section
variable {CX : CXT} {P : Program} {w : World} {K : PySem.W.Frag} {mg : Str → Option Value} {base : Heap} {N : List Str} {qual : Str} {scope : Scope} {f : Addr} {cd : Value} {A : Around} {outer : List Env} {s : Shared} {H : Hp} {E : XK}
theorem cxK : (cxOf CX P w K mg base N qual scope f cd A outer s H E).K = K := rfl
theorem cxW : (cxOf CX P w K mg base N qual scope f cd A outer s H E).w = w := rfl
theorem cxP : (cxOf CX P w K mg base N qual scope f cd A outer s H E).prog = P := rfl
end
section
variable {K : PySem.W.Frag} {H : Hp} {k : Bool} {n : Nat}
theorem truBl {b : Bool} : TruV K (.bl b) H k = (k = b) := rfl
theorem truInt {i : Int} : TruV K (.int i) H k = (k = (i != 0)) := rfl
theorem truNon : TruV K .non H k = (k = false) := rfl
theorem truStr {y : Str} : TruV K (.str y) H k = (y.length ≤ sizeLine ∧ k = ((y.length : Int) != 0)) := rfl
theorem lenStr {z : Str} {R : Nat → Prop} : (∃ n, LenV K (.str z) H n ∧ R n) = (z.length ≤ sizeLine ∧ R z.length) := by
  refine propext ⟨fun ⟨n, ⟨h1, h2⟩, h⟩ => ?_, fun ⟨h1, h⟩ => ⟨_, ⟨h1, rfl⟩, h⟩⟩
  subst h2
  exact ⟨h1, h⟩
end
theorem sameT {H : Hp} : Same H H = True := propext ⟨fun _ => trivial, fun _ => Same.refl H⟩
theorem ite_tt {A B : Prop} : (if true = true then A else B) = A := by simp
theorem ite_ff {A B : Prop} : (if false = true then A else B) = B := by simp
theorem le_sz {n : Nat} : (n ≤ sizeLine) = (n ≤ 16777216) := by rw [sizeLine_eq]
theorem lt_sz {n : Nat} : (n < sizeLine) = (n < 16777216) := by rw [sizeLine_eq]
/-- a value by what is wanted of it alone -/
def tMid (te : TE) : TE := fun σ H Q => ∃ Q' : VK, te σ H Q' ∧ ∀ v H1, Q' v H1 → Q v H1
theorem pe_mid {X : Cx} {e : Expr} {te : TE} (h : PE X e te) : PE X e (tMid te) := ⟨fun pins s σ H Q I ⟨_, h1, h2⟩ => thn (h.run pins s σ H _ I h1) fun _ _ ⟨v, H1, I1, r, q⟩ => ⟨v, H1, I1, r, h2 v H1 q⟩⟩
theorem q_mid {i : Nat} {te : TE} {u : TS} {D : Ends} {σ : L2.St} {H : Hp} (C : Int → Prop) (h : te σ H fun v H1 => H1 = H ∧ ∃ n, v = .int n ∧ C n) (k : ∀ n, C n → u D (σ.set i (some (.int n))) H) : tSeq (tAsg (tMid te) (gName i)) u D σ H :=
  ⟨_, h, fun v H1 ⟨e, n, ev, c⟩ => by rw [e, ev]; exact k n c⟩
end SL
namespace SL
open PySem PySem.Spec PyProof.Rows L2
/-- all but the lists stay -/
def NL (H H' : Hp) : Prop := ∀ a o, H a = some o → (∀ l, o ≠ .lst l) → H' a = some o
theorem NL.of {H H' : Hp} (e : Same H H') : NL H H' := fun a o h _ => e a o h
theorem NL.refl {H : Hp} : NL H H := fun _ _ h _ => h
theorem NL.trans {H H1 H2 : Hp} (a : NL H H1) (b : NL H1 H2) : NL H H2 := fun c o h n => b c o (a c o h n) n
theorem nl_upd {H : Hp} {D : Addr} {l : List V} {o : HO} (h : H D = some (.lst l)) : NL H (upd H D o) := fun a u e n => by
  have q : a ≠ D := fun z => by
    rw [z, h] at e
    exact n l (Option.some.inj e).symm
  rw [upd_ne q]
  exact e
/-! ### walked things, by what is wanted of them alone -/
def iMid (wi : TI) : TI := fun σ H R => ∃ R' : It → Hp → Prop, wi σ H R' ∧ ∀ J H1, R' J H1 → R J H1
theorem pi_mid {X : Cx} {tg it : Expr} {wi : TI} (h : PI X tg it wi) : PI X tg it (iMid wi) := ⟨fun pins s σ H R I ⟨_, h1, h2⟩ => thn (h.run pins s σ H _ I h1) fun _ s1 q => thn q fun _ _ ⟨it, fp, tn, J, H', e, I', T, st, f, r⟩ => ⟨it, fp, tn, J, H', e, I', T, st, f, h2 J H' r⟩⟩
def tMidT (tt : TT) : TT := fun σ H Q => ∃ Q' : Bool → Hp → Prop, tt σ H Q' ∧ ∀ b H1, Q' b H1 → Q b H1
theorem pt_mid {X : Cx} {e : Expr} {tt : TT} (h : PT X e tt) : PT X e (tMidT tt) := ⟨fun pins s σ H Q I ⟨_, h1, h2⟩ => thn (h.run pins s σ H _ I h1) fun _ _ ⟨H1, I1, q⟩ => ⟨H1, I1, h2 _ H1 q⟩⟩
section
variable {J0 : It} {n : Nat} {G : Hp → Prop} {Y : Nat → Hp → V → Hp → Prop} {wi : TI} {i : Nat} {tb : TS} {D : Ends} {σ : L2.St} {H H0 : Hp}
theorem for_mid (h : wi σ H fun J H1 => J = J0 ∧ H1 = H0) (w : Walk J0 n G Y) (Pv : Nat → L2.St → Hp → Prop) (h0 : Pv 0 σ H0) (hG : ∀ i σ H, i ≤ n → Pv i σ H → G H)
    (hs : ∀ k x σ H H', k < n → Pv k σ H → Y k H x H' → tb { D with nx := Pv (k + 1), ct := Pv (k + 1), bk := D.nx } (σ.set i (some x)) H') (hd : ∀ σ H, Pv n σ H → D.nx σ H) : tFor (iMid wi) (gName i) tb D σ H := by
  refine ⟨_, h, ?_⟩
  rintro J H1 ⟨rfl, rfl⟩
  exact for_it w Pv h0 hG (fun k x σ H H' hk p y => hs k x σ H H' hk p y) hd
theorem for_midg {g : TG} (h : wi σ H fun J H1 => J = J0 ∧ H1 = H0) (w : Walk J0 n G Y) (Pv : Nat → L2.St → Hp → Prop) (h0 : Pv 0 σ H0) (hG : ∀ i σ H, i ≤ n → Pv i σ H → G H)
    (hs : ∀ k x σ H H', k < n → Pv k σ H → Y k H x H' → g x σ H' fun σ2 H2 => tb { D with nx := Pv (k + 1), ct := Pv (k + 1), bk := D.nx } σ2 H2) (hd : ∀ σ H, Pv n σ H → D.nx σ H) : tFor (iMid wi) g tb D σ H := by
  refine ⟨_, h, ?_⟩
  rintro J H1 ⟨rfl, rfl⟩
  exact for_it w Pv h0 hG (fun k x σ H H' hk p y => hs k x σ H H' hk p y) hd
/-- a comprehension: C by the turn, what is made so far, the heap (all but lists stay) -/
theorem lc_midM {vs : List Nat} {te : TE} {Q : VK} (h : wi σ H fun J H1 => J = J0 ∧ H1 = H0) (w : Walk J0 n G Y) (hn : n < 16777216) (C : Nat → List V → Hp → Prop) (hC : ∀ k acc Ha Hb, NL Ha Hb → C k acc Ha → C k acc Hb) (h0 : C 0 [] H0)
    (hG : ∀ H', Same H0 H' → G H') (hY : ∀ k H x H', Y k H x H' → Same H H') (hw : ∀ x, wipe ((wipe σ vs).set i (some x)) vs = wipe σ vs)
    (turn : ∀ k x acc H' H'', k < n → Same H0 H' → C k acc H' → Y k H' x H'' → tMid te ((wipe σ vs).set i (some x)) H'' fun y H4 => Same H'' H4 ∧ C (k + 1) (acc ++ [y]) H4)
    (done : ∀ p acc H', H0 p = none → Same H0 H' → H' p = some (.lst acc) → acc.length = n → C n acc H' → Q (.ref p) H') : tLc (iMid wi) (gName i) tYes (tMid te) vs σ H Q := by
  refine ⟨_, h, ?_⟩
  rintro J H1 ⟨rfl, rfl⟩ p hp
  refine lc_it w (fun k H' => ∃ acc, Same H1 H' ∧ H' p = some (.lst acc) ∧ acc.length = k ∧ C k acc H') ⟨[], same_new hp, upd_same, rfl, hC _ _ _ _ (NL.of (same_new hp)) h0⟩ (fun k H' _ ⟨acc, s, _⟩ => hG H' s) ?_ fun H' ⟨acc, s, hD, hl, c⟩ => done p acc H' hp s hD hl c
  rintro k x H' H'' hk ⟨acc, s, hD, hl, c⟩ y
  have s2 := hY k H' x H'' y
  refine ⟨hw x, ?_⟩
  obtain ⟨R, h1, h2⟩ := turn k x acc H' H'' hk s c y
  refine ⟨R, h1, ?_⟩
  rintro v H4 hR
  obtain ⟨s3, c'⟩ := h2 v H4 hR
  have hD4 : H4 p = some (.lst acc) := s3 _ _ (s2 _ _ hD)
  refine ⟨acc, hD4, by rw [sizeLine_eq]; omega, acc ++ [v], same_mut ((s.trans s2).trans s3) hp, upd_same, by rw [List.length_append, hl]; rfl, hC _ _ _ _ (nl_upd hD4) c'⟩
/-- a comprehension: C by the turn, what is made so far, the heap (all but lists stay) -/
theorem lc_mid {vs : List Nat} {te : TE} {Q : VK} (h : wi σ H fun J H1 => J = J0 ∧ H1 = H0) (w : Walk J0 n G Y) (hn : n < 16777216) (C : Nat → List V → Hp → Prop) (hC : ∀ k acc Ha Hb, NL Ha Hb → C k acc Ha → C k acc Hb) (h0 : C 0 [] H0)
    (hG : ∀ H', Same H0 H' → G H') (hY : ∀ k H x H', Y k H x H' → Same H H') (hw : ∀ x, wipe ((wipe σ vs).set i (some x)) vs = wipe σ vs)
    (turn : ∀ k x acc H' H'', k < n → Same H0 H' → C k acc H' → Y k H' x H'' → te ((wipe σ vs).set i (some x)) H'' fun y H4 => Same H'' H4 ∧ C (k + 1) (acc ++ [y]) H4)
    (done : ∀ p acc H', H0 p = none → Same H0 H' → H' p = some (.lst acc) → acc.length = n → C n acc H' → Q (.ref p) H') : tLc (iMid wi) (gName i) tYes (tMid te) vs σ H Q :=
  lc_midM h w hn C hC h0 hG hY hw (fun k x acc H' H'' a b c d => ⟨_, turn k x acc H' H'' a b c d, fun _ _ q => q⟩) done
/-- with a test -/
theorem lc_midT {vs : List Nat} {te : TE} {tt : TT} {Q : VK} (h : wi σ H fun J H1 => J = J0 ∧ H1 = H0) (w : Walk J0 n G Y) (hn : n < 16777216) (C : Nat → List V → Hp → Prop) (hC : ∀ k acc Ha Hb, NL Ha Hb → C k acc Ha → C k acc Hb) (h0 : C 0 [] H0)
    (hG : ∀ H', Same H0 H' → G H') (hY : ∀ k H x H', Y k H x H' → Same H H') (hw : ∀ x, wipe ((wipe σ vs).set i (some x)) vs = wipe σ vs)
    (turn : ∀ k x acc H' H'', k < n → Same H0 H' → C k acc H' → Y k H' x H'' → tt ((wipe σ vs).set i (some x)) H'' fun b H3 => Same H'' H3 ∧ if b = true then te ((wipe σ vs).set i (some x)) H3 fun y H4 => Same H3 H4 ∧ C (k + 1) (acc ++ [y]) H4 else C (k + 1) acc H3)
    (done : ∀ p acc H', H0 p = none → Same H0 H' → H' p = some (.lst acc) → acc.length ≤ n → C n acc H' → Q (.ref p) H') : tLc (iMid wi) (gName i) (tMidT tt) (tMid te) vs σ H Q := by
  refine ⟨_, h, ?_⟩
  rintro J H1 ⟨rfl, rfl⟩ p hp
  refine lc_it w (fun k H' => ∃ acc, Same H1 H' ∧ H' p = some (.lst acc) ∧ acc.length ≤ k ∧ C k acc H') ⟨[], same_new hp, upd_same, Nat.le_refl _, hC _ _ _ _ (NL.of (same_new hp)) h0⟩ (fun k H' _ ⟨acc, s, _⟩ => hG H' s) ?_ fun H' ⟨acc, s, hD, hl, c⟩ => done p acc H' hp s hD hl c
  rintro k x H' H'' hk ⟨acc, s, hD, hl, c⟩ y
  have s2 := hY k H' x H'' y
  refine ⟨hw x, _, turn k x acc H' H'' hk s c y, ?_⟩
  rintro b H3 ⟨s3, z⟩
  have hD3 : H3 p = some (.lst acc) := s3 _ _ (s2 _ _ hD)
  cases b with
  | false =>
    have z' : C (k + 1) acc H3 := z
    exact ⟨acc, (s.trans s2).trans s3, hD3, by omega, z'⟩
  | true =>
    have z' : te ((wipe σ vs).set i (some x)) H3 fun y H4 => Same H3 H4 ∧ C (k + 1) (acc ++ [y]) H4 := z
    refine ⟨_, z', ?_⟩
    rintro v H4 ⟨s4, c'⟩
    have hD4 : H4 p = some (.lst acc) := s4 _ _ hD3
    refine ⟨acc, hD4, by rw [sizeLine_eq]; omega, acc ++ [v], same_mut (((s.trans s2).trans s3).trans s4) hp, upd_same, by rw [List.length_append]; show acc.length + 1 ≤ k + 1; omega, hC _ _ _ _ (nl_upd hD4) c'⟩
end
theorem y_at {xs : List V} {k : Nat} {H : Hp} {x : V} {H' : Hp} (y : YAt xs k H x H') : Same H H' := by
  rw [y.1]
  exact Same.refl H
theorem y_fn {f : Nat → V} {k : Nat} {H : Hp} {x : V} {H' : Hp} (y : YFn f k H x H') : Same H H' := by
  rw [y.1]
  exact Same.refl H
/-- an assignment by what is wanted of its value -/
theorem q_midG {i : Nat} {te : TE} {u : TS} {D : Ends} {σ : L2.St} {H : Hp} (C : V → Hp → Prop) (h : te σ H C) (k : ∀ v H1, C v H1 → u D (σ.set i (some v)) H1) : tSeq (tAsg (tMid te) (gName i)) u D σ H := ⟨C, h, k⟩
theorem mid_of {te : TE} {σ : L2.St} {H : Hp} {Q : VK} (C : VK) (h : te σ H C) (k : ∀ v H1, C v H1 → Q v H1) : tMid te σ H Q := ⟨C, h, k⟩
/-- an if by what is wanted of its test -/
theorem q_if {tt : TT} {a b u : TS} {D : Ends} {σ : L2.St} {H : Hp} (C : Bool → Hp → Prop) (h : tt σ H C) (t : ∀ H1, C true H1 → tSeq a u D σ H1) (f : ∀ H1, C false H1 → tSeq b u D σ H1) : tSeq (tIfS (tMidT tt) a b) u D σ H :=
  ⟨C, h, fun c H1 hc => by
    cases c with
    | true => exact t H1 hc
    | false => exact f H1 hc⟩
theorem l_if {tt : TT} {a b : TS} {D : Ends} {σ : L2.St} {H : Hp} (C : Bool → Hp → Prop) (h : tt σ H C) (t : ∀ H1, C true H1 → a D σ H1) (f : ∀ H1, C false H1 → b D σ H1) : tIfS (tMidT tt) a b D σ H :=
  ⟨C, h, fun c H1 hc => by
    cases c with
    | true => exact t H1 hc
    | false => exact f H1 hc⟩
/-- a comprehension over a text, each sign by itself -/
theorem lc_text {z : Str} {wi : TI} {i : Nat} {te : TE} {vs : List Nat} {σ : L2.St} {H H0 : Hp} {Q : VK} (f : Nat → V) (h : wi σ H fun J H1 => J = Its z ∧ H1 = H0) (hn : z.length < 16777216) (hw : ∀ x, wipe ((wipe σ vs).set i (some x)) vs = wipe σ vs)
    (turn : ∀ c H', c ∈ z.cps.toList → Same H0 H' → te ((wipe σ vs).set i (some (.str ⟨#[c]⟩))) H' fun y H4 => Same H' H4 ∧ y = f c)
    (done : ∀ p H', H0 p = none → Same H0 H' → H' p = some (.lst (z.cps.toList.map f)) → Q (.ref p) H') : tLc (iMid wi) (gName i) tYes (tMid te) vs σ H Q := by
  refine lc_midM h walk_str hn (fun k acc _ => acc = (z.cps.toList.take k).map f) (fun _ _ _ _ _ e => e) rfl (fun _ _ => trivial) (fun _ _ _ _ y => by rw [y.1]; exact Same.refl _) hw ?_ ?_
  · rintro k x acc H' H'' hk sm ha ⟨rfl, c, hc, rfl⟩
    have hc' : z.cps.toList[k]? = some c := by rw [Array.getElem?_toList]; exact hc
    have r := turn c H'' (List.mem_of_getElem? hc') sm
    refine ⟨_, r, ?_⟩
    rintro y H4 ⟨s4, rfl⟩
    refine ⟨s4, ?_⟩
    have e : z.cps.toList.take (k + 1) = z.cps.toList.take k ++ [c] := by
      rw [List.take_succ, hc']
      rfl
    rw [e, List.map_append, ha]
    rfl
  · intro p acc H' hp sm hD hl ha
    rw [List.take_of_length_le (by rw [Array.length_toList]; exact Nat.le_refl _)] at ha
    rw [ha] at hD
    exact done p H' hp sm hD
/-- a walk that is told -/
theorem for_open {wi : TI} {g : TG} {tb : TS} {D : Ends} {σ : L2.St} {H : Hp} (C : It → Hp → Prop) (h : wi σ H C) (k : ∀ J H1, C J H1 → tFor (iMid (fun _ _ R => R J H1)) g tb D σ H) : tFor (iMid wi) g tb D σ H := ⟨C, h, fun J H1 c => let ⟨_, r, k'⟩ := k J H1 c; k' J H1 r⟩
theorem q_val {i : Nat} {te : TE} {u : TS} {D : Ends} {σ : L2.St} {H : Hp} (h : te σ H fun v H1 => u D (σ.set i (some v)) H1) : tSeq (tAsg te (gName i)) u D σ H := h
end SL
/-! the text by places -/
namespace TX
open PySem PySem.Spec PyProof.Rows L2
def topS (i : Nat) : Stmt := PySem.Challenge.pw_shunlist_k43_whole_rows_and_paths.main.body.getD i (.Pass ⟨0, 0, 0, 0⟩)
abbrev s__wall : Stmt := (topS 0)
abbrev s_spot_rank : Stmt := (topS 2)
abbrev s_rising : Stmt := (topS 3)
abbrev s_at_begin : Stmt := (topS 4)
abbrev s_within : Stmt := (topS 5)
abbrev s_begin : Stmt := (topS 6)
abbrev s_by_part : Stmt := (topS 7)
abbrev s_by_sign : Stmt := (topS 8)
abbrev s_by_slash : Stmt := (topS 9)
abbrev s_fits_folder : Stmt := (topS 10)
abbrev s_fits_leaf : Stmt := (topS 11)
abbrev s_is_sign : Stmt := (topS 17)
abbrev s_Part_fits : Stmt := (inClass (topS 18) 0)
abbrev s_Part_many : Stmt := (inClass (topS 18) 1)
abbrev s_Part_told : Stmt := (inClass (topS 18) 2)
abbrev s_One___init__ : Stmt := (inClass (topS 20) 0)
abbrev s_One_fits : Stmt := (inClass (topS 20) 1)
abbrev s_One_told : Stmt := (inClass (topS 20) 2)
abbrev s_Among___init__ : Stmt := (inClass (topS 21) 0)
abbrev s_Among_fits : Stmt := (inClass (topS 21) 1)
abbrev s_Among_told : Stmt := (inClass (topS 21) 2)
abbrev s_Stars_many : Stmt := (inClass (topS 22) 0)
abbrev s_Stars_told : Stmt := (inClass (topS 22) 1)
abbrev s_Step_deep : Stmt := (inClass (topS 24) 0)
abbrev s_Step_fits_name : Stmt := (inClass (topS 24) 1)
abbrev s_Step_told : Stmt := (inClass (topS 24) 2)
abbrev s_Deep_deep : Stmt := (inClass (topS 25) 0)
abbrev s_Segment___init__ : Stmt := (inClass (topS 26) 0)
abbrev s_Segment_fits_name : Stmt := (inClass (topS 26) 1)
abbrev s_Segment_told : Stmt := (inClass (topS 26) 2)
abbrev s_Row___init__ : Stmt := (inClass (topS 27) 0)
abbrev s_Row_told : Stmt := (inClass (topS 27) 1)
abbrev s__law_cell : Stmt := (topS 29)
abbrev s__law_mixed : Stmt := (topS 30)
abbrev s__law_signs : Stmt := (topS 31)
abbrev s__law_part : Stmt := (topS 32)
abbrev s__law_segment : Stmt := (topS 33)
abbrev s__law_row : Stmt := (topS 34)
abbrev s__law_long : Stmt := (topS 35)
abbrev s__law_part_made : Stmt := (topS 36)
abbrev s__law_row_made : Stmt := (topS 37)
abbrev s__law_filled : Stmt := (topS 38)
abbrev s__law_names : Stmt := (topS 39)
abbrev s__law_path : Stmt := (topS 40)
abbrev s__law_fits_sign : Stmt := (topS 41)
abbrev s__law_fits_parts : Stmt := (topS 42)
abbrev s__law_fits_steps : Stmt := (topS 43)
abbrev s__law_stand : Stmt := (topS 44)
abbrev s__law_right : Stmt := (topS 45)
abbrev s__law_read : Stmt := (topS 46)
abbrev s_law : Stmt := (topS 47)
end TX
/-! ### sets of texts: made of a text or of a list of texts, counted, sorted -/
namespace SL
open PySem PySem.Spec PyProof.Rows L2
/-- the text of a set's entry -/
def txOf (e : Int × Value) : Str := match e.2 with
  | .str x _ => x
  | _ => Str.empty
def TxE (w : World) (e : Int × Value) : Prop := ∃ x tk, e.2 = Value.str x tk ∧ e.1 = hashStr w x
/-- the set at a holds just the texts l, each once, and can be walked -/
def TxSet (w : World) (h : Heap) (a : Addr) (l : List Str) : Prop :=
  ∃ o es ep t, h.get? a = some o ∧ o.ExactSet ∧ o.data = .set es ep t ∧ (∀ e ∈ es.toList, TxE w e) ∧ (es.toList.map txOf).Perm l ∧ l.Nodup ∧
    (es.size < scanBound ∧ t.fits es.size = true) ∧ (Ris t.place.toList ∧ (w.params.followText "set-order" = true ∨ t.led = true))
section
variable {P : Program} {w : World} {h h' : Heap} {a : Addr} {l : List Str}
theorem TxSet.at (R : TxSet w h a l) (k : ∀ o, h.get? a = some o → h'.get? a = some o) : TxSet w h' a l :=
  let ⟨o, es, ep, t, ho, r⟩ := R
  ⟨o, es, ep, t, k o ho, r⟩
theorem txE_elems {l : List (Int × Value)} (g : ∀ e ∈ l, TxE w e) : ElemsOf (strKind P w) l := by
  intro e he
  obtain ⟨x, tk, e1, e2⟩ := g e he
  refine ⟨⟨x, ?_, e2⟩, ?_⟩
  · rw [e1]
    show Value.isStrOf x (.str x tk) = true
    simp [Value.isStrOf]
  · rw [e1]
    rfl
theorem txE_is {e : Int × Value} (g : TxE w e) (x : Str) : (strKind P w).is x e.2 = true ↔ txOf e = x := by
  obtain ⟨y, tk, e1, _⟩ := g
  unfold txOf
  rw [e1]
  show Value.isStrOf x (.str y tk) = true ↔ y = x
  simp [Value.isStrOf]
theorem txE_mem {l : List (Int × Value)} (g : ∀ e ∈ l, TxE w e) (x : Str) : x ∈ l.map txOf ↔ ∃ e ∈ l, (strKind P w).is x e.2 = true := by
  rw [List.mem_map]
  exact ⟨fun ⟨e, he, q⟩ => ⟨e, he, (txE_is (g e he) x).2 q⟩, fun ⟨e, he, q⟩ => ⟨e, he, (txE_is (g e he) x).1 q⟩⟩
end
section
variable {P : Program} {w : World} {A : Around} {E : Value → Shared → Prop} {s : Shared} {a : Addr} {l : List Str}
theorem tx_tail {gv : Bool → Sem Unit} (hg : ∀ (b : Bool) (s₁ : Shared) (Q' : Unit → Shared → Prop), Q' () s₁ → wpAny (model P w) A (gv b) Q' E s₁)
    {o : Obj} {es : Array (Int × Value)} {ep : Nat} {t : SetTable} (ho : s.heap.get? a = some o) (hx : o.ExactSet) (hd : o.data = .set es ep t) {e1 : Array (Int × Value)} {t2 : SetTable} (g1 : ∀ e ∈ e1.toList, TxE w e)
    (p1 : (e1.toList.map txOf).Perm l) (nd : l.Nodup) (hb : e1.size < scanBound) (hf : t2.fits e1.size = true) (hr : Ris t2.place.toList) (hl : w.params.followText "set-order" = true ∨ t2.led = true) {dummy : Bool} {R : Option Bool → Shared → Prop}
    (hR : ∀ h', Heap.SameBut a s.heap h' → TxSet w h' a l → R (some true) { s with heap := h' }) :
    wpAny (model P w) A (do
        storeSet a e1 t2
        if (!dummy && t2.tooFull) = true then do
            gv (relayAll t2 e1 (SetTable.grown e1.size)).2.2
            storeSet a (relayAll t2 e1 (SetTable.grown e1.size)).1 (relayAll t2 e1 (SetTable.grown e1.size)).2.1
            pure (some true)
          else pure (some true)) R E s := by
  refine wpAny_bind (wpAny_storeSet_of ho hd ?_ (fits_of_scanBound hb))
  have o1 := store_at (es' := e1) (t' := t2) ho hd
  have b1 := Heap.SameBut.update s.heap a (Obj.putSet e1 t2)
  split
  · have pm := relayAll_perm t2 e1 (SetTable.grown e1.size)
    have f3 := relayAll_fits t2 e1 (SetTable.grown e1.size)
    have r3 := relayAll_ris t2 e1 (SetTable.grown e1.size)
    have l3 := relayAll_led t2 e1 (SetTable.grown e1.size)
    generalize relayAll t2 e1 (SetTable.grown e1.size) = Z at pm f3 r3 l3 ⊢
    obtain ⟨e2, t3, gave⟩ := Z
    dsimp only at pm f3 r3 l3 ⊢
    have sz : e2.size < scanBound := by
      have q := pm.length_eq
      rw [Array.length_toList, Array.length_toList] at q
      omega
    refine wpAny_bind (hg _ _ _ (wpAny_bind (wpAny_storeSet_of o1 rfl ?_ (fits_of_scanBound sz))))
    refine wpAny_pure (hR _ (b1.trans (Heap.SameBut.update _ a _)) ⟨_, e2, _, t3, store_at o1 rfl, hx, rfl, fun e he => g1 e (pm.mem_iff.mp he), (pm.map txOf).trans p1, nd, ⟨sz, f3⟩, r3, ?_⟩)
    rw [l3]
    exact hl
  · exact wpAny_pure (hR _ b1 ⟨_, e1, _, t2, o1, hx, rfl, g1, p1, nd, ⟨hb, hf⟩, hr, hl⟩)
/-- a text is added -/
theorem tx_add {x : Str} {tk : Tok} {Q : Bool → Shared → Prop} (R : TxSet w s.heap a l) (room : l.length + 1 < scanBound)
    (hQ : ∀ h', Heap.SameBut a s.heap h' → TxSet w h' a (if x ∈ l then l else x :: l) → Q (!decide (x ∈ l)) { s with heap := h' }) :
    wpAny (model P w) A (setAddHashed a (.str x tk) ((strKind P w).hash x)) Q E s := by
  obtain ⟨o, es, ep, t, ho, hx, hd, g, pm, nd, ⟨hb, hf⟩, hr, hl⟩ := R
  have key : (strKind P w).is x (.str x tk) = true := by
    show Value.isStrOf x (.str x tk) = true
    simp [Value.isStrOf]
  have sc : (Value.str x tk).scannable = true := rfl
  have el : ElemsOf (strKind P w) es.toList := txE_elems g
  unfold setAddHashed
  unfold setAddHashedIn
  refine wpAny_holding (wpAny_bind (wpAny_setState_of ho hd hf ?_))
  dsimp only
  rw [byScan_of sc hb el]
  simp only [if_true]
  unfold setAddByScan
  refine wpAny_bind (wpAny_bind (wpAny_rule (wpAny_bind (wpAny_setScan_of key ho hd hf el ?_))))
  cases fi : List.findIdx? (fun e => (strKind P w).is x e.2) es.toList with
  | some j =>
    dsimp only
    obtain ⟨hj, pj, _⟩ := List.findIdx?_eq_some_iff_getElem.mp fi
    have hm : x ∈ l := pm.mem_iff.mp ((txE_mem (P := P) g x).2 ⟨_, List.getElem_mem hj, pj⟩)
    have q := hQ s.heap (Heap.SameBut.refl a s.heap) (by
      rw [if_pos hm]
      exact ⟨o, es, ep, t, ho, hx, hd, g, pm, nd, ⟨hb, hf⟩, hr, hl⟩)
    rw [decide_eq_true hm] at q
    exact wpAny_pure (wpAny_pure q)
  | none =>
    dsimp only
    have hn : x ∉ l := fun z => by
      obtain ⟨e, he, q⟩ := (txE_mem (P := P) g x).1 (pm.mem_iff.mpr z)
      have c := List.findIdx?_eq_none_iff.mp fi e he
      rw [q] at c
      cases c
    have q0 : ∀ h', Heap.SameBut a s.heap h' → TxSet w h' a (x :: l) → Q true { s with heap := h' } := fun h' sb r => by
      have q := hQ h' sb (by rw [if_neg hn]; exact r)
      rw [decide_eq_false hn] at q
      exact q
    have tl : ∀ (b : Bool) {s₁ : Shared} {Q' : Unit → Shared → Prop}, Q' () s₁ → wpAny (model P w) A (match b with | true => rule "set.scan.the-table-gave-way" | false => pure ()) Q' E s₁ := by
      intro b s₁ Q' z
      cases b
      · exact wpAny_pure z
      · exact wpAny_rule z
    have p0 := layNew_perm t es ((strKind P w).hash x) (.str x tk)
    have f0 := layNew_fits t es ((strKind P w).hash x) (.str x tk)
    have r0 := layNew_ris t es ((strKind P w).hash x) (.str x tk) hr
    have l0 := layNew_led t es ((strKind P w).hash x) (.str x tk)
    generalize layNew t es ((strKind P w).hash x) (.str x tk) = Z at p0 f0 r0 l0 ⊢
    obtain ⟨e1, t1, dummy, gave⟩ := Z
    dsimp only at p0 f0 r0 l0 ⊢
    rw [Array.toList_push] at p0
    have pc : e1.toList.Perm (((strKind P w).hash x, Value.str x tk) :: es.toList) := p0.trans (List.perm_append_singleton _ _)
    have g1 : ∀ e ∈ e1.toList, TxE w e := by
      intro e he
      rcases List.mem_cons.mp (pc.mem_iff.mp he) with z | z
      · exact ⟨x, tk, by rw [z], by rw [z]; rfl⟩
      · exact g e z
    have pk : (e1.toList.map txOf).Perm (x :: l) := (pc.map txOf).trans (List.Perm.cons _ pm)
    have nd1 : (x :: l).Nodup := List.nodup_cons.mpr ⟨hn, nd⟩
    have sz : e1.size < scanBound := by
      have q := pk.length_eq
      rw [List.length_map, Array.length_toList, List.length_cons] at q
      omega
    have hl1 : w.params.followText "set-order" = true ∨ t1.led = true := by rw [l0]; exact hl
    refine wpAny_bind (tl _ ?_)
    split
    · refine wpAny_bind ?_
      rw [hashByValue_scannable 8 sc]
      refine wpAny_pure (tx_tail ?_ ho hx hd g1 pk nd1 sz ?_ ?_ ?_ fun h' sb r => ?_)
      · intro b s₁ Q' z
        exact tl b z
      · first | (split <;> first | exact f0 | exact SetTable.fits_plain_off f0) | exact f0
      · first | (split <;> exact r0) | exact r0
      · first | (split <;> exact hl1) | exact hl1
      · exact wpAny_pure (q0 h' sb r)
    · refine wpAny_bind (wpAny_pure ?_)
      simp only [if_true]
      exact tx_tail (fun b s₁ Q' z => tl b z) ho hx hd g1 pk nd1 sz f0 r0 hl1 fun h' sb r => wpAny_pure (q0 h' sb r)
/-- the distinct ones of texts -/
def dist (l : List Str) (x : Str) : List Str := if x ∈ l then l else x :: l
theorem dist_len (l : List Str) (x : Str) : (dist l x).length ≤ l.length + 1 := by
  unfold dist
  split <;> simp
theorem fold_len : ∀ (zs l : List Str), (zs.foldl dist l).length ≤ l.length + zs.length
  | [], l => by simp
  | x :: r, l => by
    have h1 := fold_len r (dist l x)
    have h2 := dist_len l x
    simp only [List.foldl_cons, List.length_cons]
    omega
theorem fold_mem : ∀ (zs l : List Str) (y : Str), y ∈ zs.foldl dist l ↔ y ∈ l ∨ y ∈ zs
  | [], l, y => by simp
  | x :: r, l, y => by
    rw [List.foldl_cons, fold_mem r (dist l x) y]
    unfold dist
    split
    · rename_i h
      constructor
      · rintro (h1 | h1)
        · exact .inl h1
        · exact .inr (List.mem_cons_of_mem _ h1)
      · rintro (h1 | h1)
        · exact .inl h1
        · rcases List.mem_cons.mp h1 with rfl | h1
          · exact .inl h
          · exact .inr h1
    · simp only [List.mem_cons]
      constructor
      · rintro ((h1 | h1) | h1) <;> simp [h1]
      · rintro (h1 | h1 | h1) <;> simp [h1]
theorem tx_loop {I : Addr} {fp wr : List Addr} {G : Array GenState → Array GenState → Prop} {n : Nat} {Pv : Nat → Value → Prop} {St : Nat → Shared → Prop} {R : Result → Shared → Prop}
    (W : WalksS P w A.in1 I fp wr G n Pv St) (S : Addr) (hSf : S ∉ fp) (zs : List Str) (hn : n = zs.length) (hb : zs.length + 1 < scanBound) (hv : ∀ i v, Pv i v → ∃ x t, zs[i]? = some x ∧ v = .str x t) :
    ∀ (k i : Nat) (s : Shared), n - i = k → i ≤ n → St i s → TxSet w s.heap S ((zs.take i).foldl dist []) →
      (∀ s', Moved (S :: wr) G s s' → TxSet w s'.heap S (zs.foldl dist []) → R (.ok (.ret .none)) s') → codeAny (model P w) A (.builtin "set.update.loop" ⟨[.ref S, .ref I], []⟩) R s := by
  have nw : S ∉ wr := fun z => hSf (W.sub _ z)
  have sub : ∀ b ∈ wr, b ∈ S :: wr := fun b z => List.mem_cons_of_mem _ z
  intro k
  induction k with
  | zero =>
    intro i s hk hi st hS hR
    refine codeAny_builtin PyProof.Rows.F.entry_set_update_loop ?_
    rw [Around.under_plainId PyProof.Rows.F.plain_set_update_loop]
    have hin : i = n := by omega
    subst hin
    show wpAny _ A.in1 (pyNext (.ref I) >>= fun _ => _) _ _ s
    refine wpAny_bind (W.done s _ _ st fun s' hm => wpAny_pure (hR s' (hm.mono sub) ?_))
    rw [List.take_of_length_le (by omega)] at hS
    exact hS.at fun o e => hm.heap S o nw e
  | succ k ih =>
    intro i s hk hi st hS hR
    have lt : i < n := by omega
    refine codeAny_builtin PyProof.Rows.F.entry_set_update_loop ?_
    rw [Around.under_plainId PyProof.Rows.F.plain_set_update_loop]
    show wpAny _ A.in1 (pyNext (.ref I) >>= fun _ => _) _ _ s
    refine wpAny_bind (W.item i s _ _ lt st fun v s' hP st' hm => ?_)
    obtain ⟨x, t, hz, rfl⟩ := hv i v hP
    have hS' : TxSet w s'.heap S ((zs.take i).foldl dist []) := hS.at fun o e => hm.heap S o nw e
    show wpAny _ A.in1 (holding [Value.str x t] (setAdd S (.str x t)) >>= fun _ => _) _ _ s'
    refine wpAny_bind (wpAny_holding ?_)
    unfold setAdd
    have hk2 : (strKind P w).is x (.str x t) = true := by
      show Value.isStrOf x (.str x t) = true
      simp [Value.isStrOf]
    refine wpAny_holding (wpAny_bind ((strKind P w).pyHash (k := x) hk2 ?_))
    have room : ((zs.take i).foldl dist []).length + 1 < scanBound := by
      have q := fold_len (zs.take i) []
      rw [List.length_take, List.length_nil] at q
      omega
    refine tx_add (s := { s' with toks := s'.toks + 1 }) hS' room fun h' sb r => ?_
    have r' : TxSet w h' S ((zs.take (i + 1)).foldl dist []) := by
      rw [List.take_add_one, hz, List.foldl_append]
      exact r
    refine wpAny_pure ⟨plainId_quiet PyProof.Rows.F.plain_set_update_loop _, ih (i + 1) _ (by omega) lt (W.frame _ s' _ _ st' (Nat.le_succ _) fun b z o e => ?_) r' fun s'' hm2 hS2 => ?_⟩
    · rw [sb.2 b fun q => hSf (q ▸ z)]
      exact e
    · refine hR s'' (Moved.trans W.gtrans ((hm.mono sub).then_heap (Nat.le_succ _) fun b o z e => ?_) hm2) hS2
      rw [sb.2 b fun q => z (by rw [q]; exact List.mem_cons_self)]
      exact e
end
end SL
namespace SL
open PySem PySem.Spec PyProof.Rows L2
/-- a value that gives the texts zs when it is walked: a text by its signs, a list of texts -/
structure Src (P : Program) (w : World) (h : Heap) (v : Value) (T : String) (zs : List Str) : Prop where
  ty : ∀ (s : Shared), (∀ b o, h.get? b = some o → s.heap.get? b = some o) → s.TypeIs v T
  s1 : isSubtype (.type T) (.type "set") = pure false
  s2 : isSubtype (.type T) (.type "frozenset") = pure false
  nd : (Value.type T == Value.type "dict") = false
  it : ∀ (A : Around) (Q : Value → Shared → Prop) (E : Value → Shared → Prop) (s : Shared), (∀ b o, h.get? b = some o → s.heap.get? b = some o) → h.objs.size ≤ s.heap.objs.size → A.handled = none →
    (∀ (o : Obj) (fp : List Addr) (St : Nat → Heap → Prop) (Pv : Nat → Value → Prop), (∀ A' : Around, A'.handled = none → Walks P w A' s.heap.objs.size fp [s.heap.objs.size] zs.length Pv St) → St 0 (s.heap.push o) →
      (∀ b ∈ fp, b = s.heap.objs.size ∨ b < h.objs.size) → (∀ i u, Pv i u → ∃ x t, zs[i]? = some x ∧ u = .str x t) → Q (.ref s.heap.objs.size) { s with heap := s.heap.push o }) → wpAny (model P w) A (pyIter v) Q E s
section
variable {P : Program} {w : World} {A : Around} {E : Value → Shared → Prop} {s : Shared}
theorem src_text {h : Heap} (x : Str) (t : Tok) : Src P w h (.str x t) "str" (x.cps.toList.map fun c => ⟨#[c]⟩) where
  ty := fun s _ => rfl
  s1 := PySem.F.sub_str_set
  s2 := PySem.F.sub_str_frozenset
  nd := by decide
  it := fun A Q E s _ _ _ k => by
    refine wpAny_pyIter_str fun o St W st => ?_
    have e : (x.cps.toList.map fun c => (⟨#[c]⟩ : Str)).length = x.cps.size := by rw [List.length_map, Array.length_toList]
    refine k o [s.heap.objs.size] St (SignAt x) (fun A' hA => by rw [e]; exact W A' hA) st (fun b hb => .inl (List.mem_singleton.mp hb)) fun i u hu => ?_
    obtain ⟨c, t', hc, rfl⟩ : ∃ c t', x.cps[i]? = some c ∧ u = .str ⟨#[c]⟩ t' := by
      first
        | exact hu
        | (obtain ⟨c, hc, t', e'⟩ := hu; exact ⟨c, t', hc, e'⟩)
    refine ⟨_, t', ?_, rfl⟩
    rw [List.getElem?_map, Array.getElem?_toList, hc]
    rfl
theorem src_list {h : Heap} {l : Addr} {items : Array Value} {zs : List Str} (hl : h.IsList l items) (hi : PyProof.Rows.StrsAre items.toList zs) : Src P w h (.ref l) "list" zs := by
  obtain ⟨ol, hol, hcl, nl, hdl⟩ := id hl
  have hz : items.size = zs.length := by
    have q := PyProof.Rows.StrsAre.length hi
    rw [Array.length_toList] at q
    exact q
  refine ⟨fun s k => ⟨ol, k _ _ hol, hcl⟩, PySem.F.sub_list_set, PySem.F.sub_list_frozenset, by decide, fun A Q E s k le hh c => ?_⟩
  have hl' : s.heap.IsList l items := ⟨ol, k _ _ hol, hcl, nl, hdl⟩
  have lt : l < h.objs.size := Heap.lt_size hol
  have ne : l ≠ s.heap.objs.size := Nat.ne_of_lt (Nat.lt_of_lt_of_le lt le)
  refine wpAny_pyIter_list hl' (c _ [s.heap.objs.size, l] _ (fun i v => items[i]? = some v) (fun A' hA => by rw [← hz]; exact Walks.list hA _ l ne items) (show Heap.IsListIter _ _ _ _ ∧ Heap.IsList _ _ _ from ⟨⟨_, Heap.get?_push_size _ rfl, rfl, rfl⟩, hl'.push _⟩) (fun b hb => ?_) fun i u hu => ?_)
  · rcases List.mem_cons.mp hb with e | e
    · exact .inl e
    · exact .inr (by rw [List.mem_singleton.mp e]; exact lt)
  · have hi2 : i < zs.length := by rw [← hz]; exact (Array.getElem?_eq_some_iff.mp hu).1
    obtain ⟨t, e⟩ := SS.strs_at hi i u (by rw [Array.getElem?_toList]; exact hu)
    refine ⟨zs[i], t, List.getElem?_eq_getElem hi2, ?_⟩
    rw [e, List.getD_eq_getElem?_getD, List.getElem?_eq_getElem hi2]
    rfl
/-- an empty set object, as set() lays it -/
def set0 (w : World) : Obj := { cls := .type "set", dict := none, data := .set #[] 0 (.fresh 0 0 (!w.params.followText "set-order")) }
theorem tx_empty {h : Heap} {a : Addr} (ho : h.get? a = some (set0 w)) : TxSet w h a [] := by
  refine ⟨_, #[], 0, _, ho, ⟨rfl, rfl, rfl⟩, rfl, fun e he => (nomatch he), by simp, by simp, ⟨by decide, rfl⟩, List.Pairwise.nil, ?_⟩
  show _ ∨ (!w.params.followText "set-order") = true
  cases w.params.followText "set-order"
  · exact .inr rfl
  · exact .inl rfl
set_option maxHeartbeats 8000000 in
theorem call_set_tx {v : Value} {T : String} {zs : List Str} {Q : Value → Shared → Prop} (hh : A.handled = none) (Z : Src P w s.heap v T zs) (hb : zs.length + 1 < scanBound)
    (k : ∀ (h' : Heap) (tk : Nat), TxSet w h' s.heap.objs.size (zs.foldl dist []) → (∀ b o, s.heap.get? b = some o → h'.get? b = some o) → Q (.ref s.heap.objs.size) { s with heap := h', toks := tk }) :
    wpAny (model P w) A (call (.type "set") [v]) Q E s := by
  obtain ⟨c, tl, hmro⟩ := PySem.F.called_set.mro
  have hmade := PySem.F.called_set.made
  have hsub := PySem.F.called_set.sub
  refine wpAny_call (codeAny_of_tree ?_)
  show wpAny _ _ (callAny (.type "set") _) _ _ _
  refine wpAny_pure ⟨Code.quiet_builtin _ (by decide +kernel), codeAny_builtin PySem.F.entry_type_call ?_⟩
  rw [Around.under_plain (weight_type_call_type "set" [v] []) rfl]
  have h1 := PySem.F.called_set.notType
  have h2 := PySem.F.called_set.canCreate
  have hct := PySem.F.typeCall_set_1 v
  repeat (any_goals (first | assumption | wp_step))
  refine codeAny_mono (code_set_led1 v (E := E) (Q₁ := fun obj s₁ => obj = .ref s.heap.objs.size ∧ s₁ = { s with heap := s.heap.push (set0 w) }) ⟨rfl, rfl⟩) fun r s₁ hr => ?_
  cases r with
  | error e => exact hr
  | ok fl =>
    cases fl with
    | ret obj =>
      obtain ⟨rfl, rfl⟩ := hr
      have hS : (s.heap.push (set0 w)).get? s.heap.objs.size = some (set0 w) := Heap.get?_push_size _ rfl
      have hT : Shared.TypeIs { s with heap := s.heap.push (set0 w) } (.ref s.heap.objs.size) "set" := ⟨_, hS, rfl⟩
      have hli := PySem.F.called_set.init.lookup
      have hbi := PySem.F.called_set.init.bind (.ref s.heap.objs.size)
      repeat (any_goals (first | assumption | wp_step))
      refine codeAny_mono (codeAny_call_builtin (R := wants (fun r s₂ => r = .none ∧ ∃ h' tk, s₂ = { s with heap := h', toks := tk } ∧ TxSet w h' s.heap.objs.size (zs.foldl dist []) ∧
          (∀ b o, s.heap.get? b = some o → h'.get? b = some o)) E) PySem.F.called_set.init.plain PySem.F.entry_set_init (check_set_init_1 hT ?_)) fun r₂ s₂ hr₂ => ?_
      · have kp : ∀ b o, s.heap.get? b = some o → (s.heap.push (set0 w)).get? b = some o := fun b o e => Heap.get?_push_of_some _ e
        have tv := Z.ty { s with heap := s.heap.push (set0 w) } kp
        have z1 := Z.s1
        have z2 := Z.s2
        have z3 := Z.nd
        unfold Builtin.«set.__init__» noKeywords
        unfold Builtin.Frozenset.updateFrom
        generalize hPI : pyIter = PI
        wp_walk
        subst hPI
        have hh2 : A.in1.in1.handled = none := by simp [hh]
        have hh3 : A.in1.in1.in1.handled = none := by simp [hh]
        have sz : (s.heap.push (set0 w)).objs.size = s.heap.objs.size + 1 := Heap.size_push ..
        refine Z.it _ _ _ _ kp (by rw [sz]; exact Nat.le_succ _) hh2 fun o fp St Pv W st hf hv => ?_
        have nS : s.heap.objs.size ∉ fp := fun z => by
          rcases hf _ z with e | e
          · rw [sz] at e
            exact absurd e (Nat.ne_of_lt (Nat.lt_succ_self _))
          · exact absurd e (Nat.lt_irrefl _)
        refine wpAny_bind (wpAny_runValue (tx_loop ((W _ hh3).toS) s.heap.objs.size nS zs rfl hb hv (zs.length - 0) 0 _ (by omega) (Nat.zero_le _) st ?_ fun s' hm hS' => ?_))
        · exact tx_empty (Heap.get?_push_of_some _ hS)
        · obtain ⟨h', g2, d', tk', os'⟩ := s'
          obtain rfl : g2 = s.gens := hm.gens
          obtain rfl : d' = s.drawn := hm.drawn
          obtain rfl : os' = s.os := hm.os
          refine wpAny_pure (wpAny_pure ⟨rfl, h', tk', rfl, hS', fun b u e => hm.heap b u (fun z => ?_) (Heap.get?_push_of_some _ (kp b u e))⟩)
          have lt := Heap.lt_size e
          rcases List.mem_cons.mp z with e2 | e2
          · exact absurd lt (by rw [e2]; exact Nat.lt_irrefl _)
          · rw [List.mem_singleton.mp e2] at lt
            rw [sz] at lt
            exact absurd lt (Nat.not_lt.mpr (Nat.le_succ _))
      · cases r₂ with
        | error e => exact hr₂
        | ok fl₂ =>
          cases fl₂ with
          | ret r =>
            obtain ⟨rfl, h', tk, rfl, hS', hk'⟩ := hr₂
            repeat (any_goals (first | assumption | wp_step))
            exact k _ _ hS' hk'
          | _ => exact hr₂.elim
    | _ => exact hr.elim
end
end SL
namespace SL
open PySem PySem.Spec PyProof.Rows L2
theorem fold_nd : ∀ (zs l : List Str), l.Nodup → (zs.foldl dist l).Nodup
  | [], l, h => h
  | x :: r, l, h => by
    refine fold_nd r _ ?_
    unfold dist
    split
    · exact h
    · rename_i n
      exact List.nodup_cons.mpr ⟨n, h⟩
/-- the set of texts at a -/
def SetS (w : World) (a : Addr) (l : List Str) : HO := .ext fun h => TxSet w h a l
def chars (z : Str) : List Str := z.cps.toList.map fun c => ⟨#[c]⟩
section
variable {X : Cx}
theorem setS_new {w : World} {P : Program} {H : Hp} {h : Heap} {a : Addr} {l : List Str} (R : TxSet w h a l) : ObjOk P w H h a (SetS w a l) := by
  have ⟨o, _, _, _, ho, _⟩ := R
  exact ⟨R, ⟨o, ho⟩, fun h1 h2 p k => TxSet.at p k⟩
theorem setS_get {pins : List (Addr × Obj)} {σ : L2.St} {H : Hp} {s : Shared} {a : Addr} {l : List Str} (I : Inv X pins σ H s) (ha : H a = some (SetS X.w a l)) : TxSet X.w s.heap a l := (I.hok a _ ha).1
/-- what set(x) gives, x with the texts zs -/
def NewSet (w : World) (zs : List Str) (H : Hp) (Q : VK) : Prop := zs.length < 1000 ∧ ∀ a l, H a = none → l.Nodup → (∀ x, x ∈ l ↔ x ∈ zs) → Q (.ref a) (upd H a (SetS w a l))
def rSetU (K : PySem.W.Frag) (w : World) : List V → Hp → VK → Prop := fun xs H Q => match xs with
  | [.str z] => NewSet w (chars z) H Q
  | [.ref p] => ∃ zs : List Str, SqL K H p (zs.map V.str) ∧ NewSet w zs H Q
  | _ => False
theorem new_set {pins : List (Addr × Obj)} {σ : L2.St} {H : Hp} {s : Shared} {Q : VK} {v : Value} {T : String} {zs : List Str} (hc : X.calm = true) (I : Inv X pins σ H s) (Z : Src X.prog X.w s.heap v T zs) (q : NewSet X.w zs H Q) :
    wpAny (model X.prog X.w) X.A (call (.type "set") [v]) (EP X pins σ Q) X.xe s := by
  have sb : zs.length + 1 < scanBound := Nat.lt_of_lt_of_le (Nat.succ_lt_succ q.1) (by decide)
  refine call_set_tx (I.ok.hd hc) Z sb fun h' tk R k => ?_
  have fr := I.hok.fresh (Nat.le_refl s.heap.objs.size)
  exact ⟨.ref s.heap.objs.size, _, I.laid (t' := tk) k (Nat.le_refl _) (setS_new R), rfl, q.2 _ _ fr (fold_nd zs [] .nil) fun x => by rw [fold_mem]; simp⟩
theorem o_set {K : PySem.W.Frag} {w : World} (hc : X.calm = true) (hK : X.K = K := by rfl) (hw : X.w = w := by rfl) : CallR X (.type "set") (rSetU K w) := by
  subst hK
  subst hw
  intro pins s σ H xs us Q I r h
  match xs, h with
  | [.str z], q =>
    obtain ⟨u, rfl, t, rfl⟩ := vals1 r
    exact new_set hc I (src_text z t) q
  | [.ref p], ⟨zs, hs, q⟩ =>
    obtain ⟨u, rfl, hu⟩ := vals1 r
    obtain rfl : u = Value.ref p := hu
    obtain ⟨its, rv, pl, _⟩ := I.list hs
    exact new_set hc I (src_list pl.isList (by simpa using strsAre_of rv)) q
/-- len of a set of texts -/
def rLenS (w : World) : List V → Hp → VK → Prop := fun xs H Q => match xs with
  | [.ref p] => ∃ l, H p = some (SetS w p l) ∧ Q (.int (l.length : Int)) H
  | _ => False
theorem len_setS {w : World} (hw : X.w = w := by rfl) : CallR X (.builtin "len") (rLenS w) := by
  subst hw
  intro pins s σ H xs us Q I r h
  match xs, h with
  | [.ref p], ⟨l, hp, q⟩ =>
    obtain ⟨u, rfl, hu⟩ := vals1 r
    obtain rfl : u = Value.ref p := hu
    obtain ⟨o, es, ep, t, ho, hx, hd, g, pm, nd, ⟨hb, hf⟩, _⟩ := setS_get I hp
    have hn : es.size = l.length := by
      have e := pm.length_eq
      rw [List.length_map, Array.length_toList] at e
      exact e
    refine call_len_set ho hx hd hf ?_ ?_
    · have e : scanBound < 2 ^ 63 := by decide
      omega
    · rw [hn]
      exact ⟨.int l.length, H, I.tok _, ⟨_, rfl⟩, q⟩
/-! ### sorted -/
theorem un_laid {fs ex : List Addr} {H : Hp} {h h' : Heap} {a : Addr} {o : HO} (k : ∀ b u, h.get? b = some u → h'.get? b = some u) (na : ∀ b u, h.get? b = some u → b ≠ a) (hn : H a = none) : Un fs ex H (upd H a o) h h' :=
  ⟨fun b u q _ _ _ => k b u q, fun b u q _ _ _ => ⟨u.slots, k b u q⟩, fun b u q n _ => by rw [upd_ne (na b u q)]; exact n, fun b u q _ => ⟨u, k b u q⟩, fun b xs q => by rw [upd_ne (ne_of_none q hn)]; exact q,
    fun b u xs q => by rw [upd_ne (ne_of_none q hn)]; exact q, fun b ps q => ⟨#[], by rw [upd_ne (ne_of_none q hn), q]; simp⟩⟩
theorem hok_laid {P : Program} {w : World} {H : Hp} {h h' : Heap} {a : Addr} {o : HO} (x : HOk P w H h) (k : ∀ b u, h.get? b = some u → h'.get? b = some u) (hn : H a = none) (new : ObjOk P w (upd H a o) h' a o) : HOk P w (upd H a o) h' := fun b u e => by
  by_cases hb : b = a
  · subst hb
    rw [upd_same] at e
    cases e
    exact new
  · rw [upd_ne hb] at e
    exact (x b u e).stay (fun c v _ q => k c v q) (fun c q => by rw [upd_ne (ne_of_none q hn)]; exact q) fun c xs q => by rw [upd_ne (ne_of_none q hn)]; exact q
theorem sorted_of {P : Program} {w : World} {A : Around} {E : Value → Shared → Prop} {s : Shared} {v : Value} {zs : List Str} {Q : Value → Shared → Prop} (h64 : zs.length < 64)
    (col : ∀ (A : Around) (Q' : List Value → Shared → Prop), A.handled = none → (∀ s' vs zs', (∀ b o, s.heap.get? b = some o → s'.heap.get? b = some o) → s'.gens = s.gens → s'.os = s.os → PyProof.Rows.StrsAre vs zs' → zs'.Perm zs → Q' vs s') → wpAny (model P w) A (collect v) Q' E s)
    (hh : A.handled = none)
    (hQ : ∀ s' p (out : Array Value) (c : Nat) (ys : List Str), (∀ b o, s.heap.get? b = some o → s'.heap.get? b = some o) → s'.gens = s.gens → s'.os = s.os → (∀ b o, s.heap.get? b = some o → b ≠ p) → s'.heap.get? p = some (seqObj "list" out c) → PyProof.Rows.StrsAre out.toList ys → ys.Perm zs → sortedS ys = true → Q (.ref p) s') :
    wpAny (model P w) A (call (.builtin "sorted") [v]) Q E s := by
  refine Calls.call_function_entry kind_sorted plain_sorted entry_sorted (args_sorted1 _) ?_
  unfold Builtin.«sorted»
  refine wpAny_bind (m := checkCount "sorted" 1 1 _) (wpAny_pure (wpAny_bind (col A.in1 _ (by simp [hh]) fun s1 vs zs' k1 g1 o1 hs pm => ?_)))
  have hl : vs.length = zs.length := by rw [PyProof.Rows.StrsAre.length hs, pm.length_eq]
  refine wpAny_bind (wpAny_newList ?_ (by rw [hl, sizeLine_eq]; omega))
  have oL : (s1.heap.push (seqObj "list" vs.toArray 0)).get? s1.heap.objs.size = some (seqObj "list" vs.toArray 0) := Heap.get?_push_size _ rfl
  refine wpAny_bind (wpAny_holding (wpAny_call_entry slot_list_sort ⟨_, oL, rfl⟩ entry_list_sort (list_sort_treeK strKind_oneLt oL hs.keysOf (fun v₁ v₂ rest e => keyKind_strs (by rw [← e]; exact hs)) (by rw [hl]; exact h64) fun st' a1 a2 => ⟨_, rfl, ?_⟩) (args_list_sort _)))
  obtain ⟨ys, b1, b2, b3⟩ := sorted_out_str hs a1 a2
  obtain ⟨c, hc⟩ := sortedHeap_at (vs := vs) (out := (arrOf st').map (·.2)) oL
  refine wpAny_pure ⟨_, rfl, hQ _ s1.heap.objs.size _ c ys (fun b u e => ?_) g1 o1 (fun b u e => Nat.ne_of_lt (Heap.lt_size (k1 b u e))) hc b1 (b2.trans pm) b3⟩
  have q := k1 b u e
  have lt := Heap.lt_size q
  show (sortedHeap (s1.heap.push (seqObj "list" vs.toArray 0)) s1.heap.objs.size vs ((arrOf st').map (·.2))).get? b = some u
  rw [sortedHeap_old (Nat.ne_of_lt lt) (by rw [size_push']; exact Nat.lt_succ_of_lt lt)]
  exact Heap.get?_push_of_some _ q
theorem items_strs {z : Str} {acc : Array Value} (h : ItemsOf (SignAt z) acc z.cps.size) : PyProof.Rows.StrsAre acc.toList (chars z) := by
  have key : ∀ (l : List Value) (cs : List Nat), l.length = cs.length → (∀ (j : Nat) (v : Value), l[j]? = some v → ∃ (c : Nat) (u : Tok), cs[j]? = some c ∧ v = Value.str ⟨#[c]⟩ u) → PyProof.Rows.StrsAre l (cs.map fun c => ⟨#[c]⟩) := by
    intro l
    induction l with
    | nil =>
      intro cs hl _
      cases cs with
      | nil => exact .nil
      | cons c r => simp at hl
    | cons v r ih =>
      intro cs hl hv
      cases cs with
      | nil => simp at hl
      | cons c cs =>
        obtain ⟨c', u, e1, rfl⟩ := hv 0 v rfl
        have e2 : c = c' := by simpa using e1
        subst e2
        exact .cons _ u (ih cs (by simpa using hl) fun j v hj => by simpa using hv (j + 1) v (by simpa using hj))
  refine key acc.toList z.cps.toList (by rw [Array.length_toList, Array.length_toList]; exact h.1) fun j v hj => ?_
  obtain ⟨c, u, e1, e2⟩ := h.2 j v (by rw [← Array.getElem?_toList]; exact hj)
  exact ⟨c, u, by rw [Array.getElem?_toList]; exact e1, e2⟩
/-- what sorted(x) gives, x with the texts zs -/
def NewSorted (zs : List Str) (H : Hp) (Q : VK) : Prop := zs.length < 64 ∧ ∀ ys p, ys.Perm zs → sortedS ys = true → H p = none → Q (.ref p) (upd H p (.lst (ys.map V.str)))
theorem new_sorted {pins : List (Addr × Obj)} {σ : L2.St} {H : Hp} {s : Shared} {Q : VK} {v : Value} {zs : List Str} (hc : X.calm = true) (I : Inv X pins σ H s) (q : NewSorted zs H Q)
    (col : ∀ (A : Around) (Q' : List Value → Shared → Prop), A.handled = none → (∀ s' vs zs', (∀ b o, s.heap.get? b = some o → s'.heap.get? b = some o) → s'.gens = s.gens → s'.os = s.os → PyProof.Rows.StrsAre vs zs' → zs'.Perm zs → Q' vs s') → wpAny (model X.prog X.w) A (collect v) Q' X.xe s) :
    wpAny (model X.prog X.w) X.A (call (.builtin "sorted") [v]) (EP X pins σ Q) X.xe s := by
  refine sorted_of q.1 col (I.ok.hd hc) fun s' p out c ys k g o hp hg hi pm so => ?_
  have fr : H p = none := by
    cases e : H p with
    | none => rfl
    | some u =>
      obtain ⟨ob, hob⟩ := objOk_get (I.hok p u e)
      exact absurd rfl (hp p ob hob)
  have hlen : (ys.map V.str).length ≤ sizeLine := by
    have h1 := q.1
    rw [List.length_map, pm.length_eq, sizeLine_eq]
    omega
  have J : Inv X pins σ (upd H p (.lst (ys.map V.str))) { s with heap := s'.heap, gens := s'.gens, drawn := s'.drawn, toks := s'.toks } :=
    I.call (ch := []) (un_laid k hp fr) (hok_laid I.hok k fr ⟨hlen, out.toList, c, vals_of_strs hi, hg⟩) (by rw [g]; exact I.bare) fun _ z => nomatch z
  obtain ⟨h2, g2, d2, t2, o2⟩ := s'
  obtain rfl : o2 = s.os := o
  exact ⟨.ref p, _, J, rfl, q.2 ys p pm so fr⟩
def rSortedU (K : PySem.W.Frag) (w : World) : List V → Hp → VK → Prop := fun xs H Q => match xs with
  | [.str z] => NewSorted (chars z) H Q
  | [.ref p] => (∃ l, H p = some (SetS w p l) ∧ NewSorted l H Q) ∨ (rSortedS K [.ref p] H Q ∨ rSortedI K [.ref p] H Q)
  | _ => False
theorem o_sorted {K : PySem.W.Frag} {w : World} (hc : X.calm = true) (hK : X.K = K := by rfl) (hw : X.w = w := by rfl) : CallR X (.builtin "sorted") (rSortedU K w) := by
  subst hK
  subst hw
  intro pins s σ H xs us Q I r h
  match xs, h with
  | [.str z], q =>
    obtain ⟨u, rfl, t, rfl⟩ := vals1 r
    have h64 : z.cps.size < 64 := by
      have e := q.1
      unfold chars at e
      rw [List.length_map, Array.length_toList] at e
      exact e
    refine new_sorted hc I q fun A Q' hA k => wpAny_collect_str hA z t (fun s' acc kp g d o it => k s' acc.toList (chars z) kp g o (items_strs it) (.refl _)) (by rw [sizeLine_eq]; omega)
  | [.ref p], .inl ⟨l, hp, q⟩ =>
    obtain ⟨u, rfl, hu⟩ := vals1 r
    obtain rfl : u = Value.ref p := hu
    obtain ⟨o, es, ep, t, ho, hx, hd, g, pm, nd, ⟨hb, hf⟩, hr, hl⟩ := setS_get I hp
    refine new_sorted hc I q fun A Q' hA k => collect_set hA ⟨o, ho, hx.1, hd⟩ hf hb hr hl fun s1 vs k1 _ g1 o1 p1 => ?_
    have key : ∀ (us : List Value), (∀ v ∈ us, ∃ x t, v = Value.str x t) → PyProof.Rows.StrsAre us (us.map fun v => txOf (0, v)) := by
      intro us
      induction us with
      | nil => exact fun _ => .nil
      | cons v r ih =>
        intro hv
        obtain ⟨x, t, rfl⟩ := hv v List.mem_cons_self
        exact .cons x t (ih fun u hu => hv u (List.mem_cons_of_mem _ hu))
    refine k s1 vs (vs.map fun v => txOf (0, v)) k1 g1 o1 (key vs fun v hv => ?_) ?_
    · obtain ⟨e, he, rfl⟩ := List.mem_map.mp (p1.mem_iff.mp hv)
      obtain ⟨x, tk, e1, _⟩ := g e he
      exact ⟨x, tk, e1⟩
    · have p2 := p1.map fun v => txOf (0, v)
      rw [List.map_map] at p2
      exact p2.trans pm
  | [.ref p], .inr h => exact (cr_sortedS.or cr_sortedI) pins s σ H [.ref p] us Q I r h
end
end SL
namespace SL
open PySem PySem.Spec PyProof.Rows L2 SX HT
section
variable {prog : Program} {w : World} {A : Around} {E : Value → Shared → Prop} {s : Shared}
end
end SL
namespace SL
open PySem PySem.Spec PyProof.Rows L2 SX
theorem tyStr {K : PySem.W.Frag} {H : Hp} {z : Str} : tyV K "str" (.str z) H = True := propext ⟨fun _ => trivial, fun _ => rfl⟩
section
variable {X : Cx} {o e : Expr} {es : List Expr} {to : TE} {t : TA} {name : Str} {apos cpos : Pos} {T id : String} {r : V → List V → Hp → VK → Prop}
theorem pe_bmK {K : PySem.W.Frag} (pa : PlainAttrs T) (slot : Slot T name id) (hty : typeOf (.builtin id) = pure (.type "method_descriptor")) (hm : MtR X id r) (ho : PE X o to) (ha : PA X (e :: es) t)
    (hK : X.K = K := by rfl) (hbase : attributeBase o name X.env (eval o X.env) = eval o X.env := by rfl)
    (hfew : ((backTo cpos (starEach (e :: es) X.env)).all (fun x => !x.1) && (backToKw cpos (keywordEach [] X.env)).all (fun x => x.1.isSome)
      && decide ((e :: es).length + ([] : List Keyword).length + (if ([] : List Keyword).isEmpty then 0 else 1) < 30)) = true := by rfl)
    (hline : (apos.endLine == cpos.line) = true := by rfl) (hs : starEach (e :: es) X.env = (false, eval e X.env) :: starEach es X.env := by rfl) (hplain : (backTo cpos (starEach es X.env)).any (·.1) = false := by rfl) :
    PE X (.Call (.Attribute o name apos) (e :: es) [] cpos) (tBM K T r to t) := by
  subst hK
  exact pe_bm pa slot hty hm ho ha hbase hfew hline hs hplain
theorem MtR.imp {r r' : V → List V → Hp → VK → Prop} (h : MtR X id r) (i : ∀ x xs H Q, r' x xs H Q → r x xs H Q) : MtR X id r' := fun pins s σ H x xs v us Q I rx rs q => h pins s σ H x xs v us Q I rx rs (i _ _ _ _ q)
def rJoin (K : PySem.W.Frag) : V → List V → Hp → VK → Prop := fun x xs H Q => match x, xs with
  | .str a, [.ref p] => ∃ ys : List Str, (SqL K H p (ys.map V.str) ∨ SqT K H p (ys.map V.str)) ∧ (ys.map (·.length)).sum + ys.length * a.length ≤ 16777216 ∧ Q (.str (Txt.join a ys)) H
  | _, _ => False
theorem mo_join {K : PySem.W.Frag} (hK : X.K = K := by rfl) : MtR X "str.join" (rJoin K) := by
  subst hK
  refine MtR.imp mt_join fun x xs H Q h => ?_
  match x, xs, h with
  | .str a, [.ref p], ⟨ys, h1, h2, q⟩ => exact ⟨a, p, ys, rfl, rfl, h1, h2, q⟩
def rCount : V → List V → Hp → VK → Prop := fun x xs H Q => match x, xs with
  | .str a, [.str b] => Q (.int (Txt.count a b)) H
  | _, _ => False
/-! ### len of anything -/
def rLenW (K : PySem.W.Frag) (w : World) : List V → Hp → VK → Prop := fun xs H Q => match xs with
  | [.str z] => z.length ≤ sizeLine ∧ Q (.int z.length) H
  | [.ref p] => (∃ l, H p = some (SetS w p l) ∧ Q (.int (l.length : Int)) H) ∨ ∃ n, LenV K (.ref p) H n ∧ Q (.int n) H
  | _ => False
theorem o_lenW {K : PySem.W.Frag} {w : World} (hK : X.K = K := by rfl) (hw : X.w = w := by rfl) : CallR X (.builtin "len") (rLenW K w) := by
  subst hK hw
  refine CallR.imp (CallR.or len_setS o_len) fun xs H Q h => ?_
  match xs, h with
  | [.str z], ⟨h1, h2⟩ => exact .inr ⟨_, ⟨h1, rfl⟩, h2⟩
  | [.ref p], .inl h => exact .inl h
  | [.ref p], .inr h => exact .inr h
/-! ### list of a text, a list, a tuple -/
def rListU (K : PySem.W.Frag) : List V → Hp → VK → Prop := fun xs H Q => match xs with
  | [.str z] => z.length ≤ sizeLine ∧ ∀ p, H p = none → Q (.ref p) (upd H p (.lst ((chars z).map V.str)))
  | [.ref p] => ∃ ys, (SqL K H p ys ∨ SqT K H p ys) ∧ ∀ l, H l = none → Q (.ref l) (upd H l (.lst ys))
  | _ => False
theorem o_list {K : PySem.W.Frag} (hc : X.calm = true) (hK : X.K = K := by rfl) : CallR X (.type "list") (rListU K) := by
  subst hK
  intro pins s σ H xs us Q I r h
  match xs, h with
  | [.str z], ⟨hz, q⟩ =>
    obtain ⟨u, rfl, t, rfl⟩ := vals1 r
    refine call_list_str (hn := hz) (I.ok.hd hc) z t fun h' tk acc' c' k e it => ?_
    have sa := items_strs it
    have fr := I.hok.fresh (Nat.le_refl s.heap.objs.size)
    have hl : ((chars z).map V.str).length ≤ sizeLine := by
      unfold chars
      rw [List.length_map, List.length_map, Array.length_toList]
      exact hz
    exact ⟨.ref s.heap.objs.size, _, I.laid (t' := tk) k (Nat.le_refl _) (show ObjOk X.prog X.w _ h' _ (.lst ((chars z).map V.str)) from ⟨hl, acc'.toList, c', vals_of_strs sa, e⟩), rfl, q _ fr⟩
  | [.ref p], ⟨ys, h1, q⟩ => exact call_list_of pins s σ H [.ref p] us Q I r ⟨p, ys, rfl, h1, q⟩
/-! ### x[::-1] -/
def rRevU (K : PySem.W.Frag) : V → Hp → VK → Prop := fun x H Q => match x with
  | .str z => z.length ≤ sizeLine ∧ Q (.str (S z.cps.toList.reverse)) H
  | .ref a => (∃ xs, SqT K H a xs ∧ ∀ p, H p = none → Q (.ref p) (upd H p (.tup xs.reverse))) ∨ ∃ xs, SqL K H a xs ∧ ∀ p, H p = none → Q (.ref p) (upd H p (.lst xs.reverse))
  | _ => False
end
/-! ### texts by their signs -/
theorem join_chars : ∀ a : List Nat, Txt.join (S []) (a.map fun c => S [c]) = S a := by
  intro a
  have h : ∀ a : List Nat, TL.joinL [] (a.map fun c => [c]) = a := by
    intro a
    induction a with
    | nil => rfl
    | cons c r ih =>
      cases r with
      | nil => rfl
      | cons d r => exact congrArg (c :: ·) ih
  have e := SX.join_S [] (a.map fun c => [c])
  rw [h a, List.map_map] at e
  exact e
theorem len_chars (a : List Nat) : ((a.map fun c => S [c]).map (·.length)).sum + (a.map fun c => S [c]).length * (S []).length = a.length := by
  rw [S_len, List.length_nil, Nat.mul_zero, Nat.add_zero]
  induction a with
  | nil => rfl
  | cons c r ih =>
    rw [List.map_cons, List.map_cons, List.sum_cons, ih, S_len]
    simp; omega
end SL
namespace SL
open PySem PySem.Spec PyProof.Rows L2 SX
/-! ### enumerate of a text or a list -/
def Ites (z : Str) : It := ⟨fun i _ => i < z.cps.size, fun i H v H' => ∃ T c, v = .ref T ∧ H T = none ∧ H' = upd H T (.tup [.int (i : Nat), .str ⟨#[c]⟩]) ∧ z.cps[i]? = some c, fun i _ => z.cps.size ≤ i⟩
def iEnumU (K : PySem.W.Frag) (ta : TA) : TI := fun σ H R => ta σ H fun vs H1 => match vs with
  | [.ref a] => (∃ xs, SqL K H1 a xs) ∧ R (Ite K a) H1
  | [.str z] => R (Ites z) H1
  | _ => False
/-! ### max, min, insert -/
section
variable {X : Cx}
def rMaxU (K : PySem.W.Frag) : List V → Hp → VK → Prop := fun xs H Q => match xs with
  | [.int i, .int j] => Q (.int (if j > i then j else i)) H
  | [.ref a] => rMax K [.ref a] H Q
  | _ => False
theorem o_max {K : PySem.W.Frag} (hc : X.calm = true) (hK : X.K = K := by rfl) : CallR X (.builtin "max") (rMaxU K) := by
  subst hK
  refine CallR.imp (CallR.or (call_max2 hc) (cr_max hc)) fun xs H Q h => ?_
  match xs, h with
  | [.int i, .int j], q => exact .inl ⟨i, j, rfl, q⟩
  | [.ref a], q => exact .inr q
def rMinU (K : PySem.W.Frag) : List V → Hp → VK → Prop := fun xs H Q => match xs with
  | [.int i, .int j] => Q (.int (if j < i then j else i)) H
  | [.ref a] => rMin K [.ref a] H Q
  | _ => False
theorem o_min {K : PySem.W.Frag} (hc : X.calm = true) (hK : X.K = K := by rfl) : CallR X (.builtin "min") (rMinU K) := by
  subst hK
  refine CallR.imp (CallR.or (call_min2 hc) (cr_min hc)) fun xs H Q h => ?_
  match xs, h with
  | [.int i, .int j], q => exact .inl ⟨i, j, rfl, q⟩
  | [.ref a], q => exact .inr q
def rInsert : V → List V → Hp → VK → Prop := fun x vs H Q => match x, vs with
  | .ref l, [.int i, y] => ∃ xs, H l = some (.lst xs) ∧ xs.length < sizeLine ∧ 0 ≤ i ∧ i < 2 ^ 63 ∧ Q .non (upd H l (.lst (xs.take i.toNat ++ [y] ++ xs.drop i.toNat)))
  | _, _ => False
end
end SL
namespace SL
open PySem PySem.Spec PyProof.Rows L2
open PySem.W (EachIs dataLe AllAlike Sortable KeyedOut KeepsBut keyedOut_each keyH_end copyHeap copyHeap_at copyHeap_old sorted_of_sort SortsAt each_snoc)
/-! ### sorted by a def's keys, pairs of numbers -/
def kD (x : Int × Int) : PyData := .tuple [.int x.1, .int x.2]
def rSortK (sp : Sp) (f : Addr) (K : PySem.W.Frag) : List V → List V → Hp → VK → Prop := fun vs zs H Q => ∃ (a : Addr) (xs : List V) (κ : V → Int × Int), vs = [.ref a] ∧ zs = [.ref f] ∧ SqL K H a xs ∧
  (∀ x ∈ xs, ∀ H1, Same H H1 → sp [x] H1 (fun v H2 => Same H1 H2 ∧ Dp K H2 v (kD (κ x))) (fun _ _ _ => False)) ∧
  ∀ p H', Same H H' → H p = none → H' p = some (.lst (xs.mergeSort (dataLe false fun x => kD (κ x)))) → Q (.ref p) H'
theorem un_but {fs ex : List Addr} {H H' : Hp} {h h1 h2 : Heap} {b0 : Addr} (u : Un fs ex H H' h h1) (hn : h.get? b0 = none) (k : ∀ b, b ≠ b0 → h2.get? b = h1.get? b) : Un fs ex H H' h h2 := by
  have ne : ∀ {b o}, h.get? b = some o → b ≠ b0 := fun e z => by rw [z, hn] at e; cases e
  refine ⟨fun b o e n c d => (k b (ne e)).trans (u.keep b o e n c d), fun b o e n c d => ?_, u.free, fun b o e d => ?_, u.tups, u.frzs, u.tbls⟩
  · obtain ⟨sl, q⟩ := u.slot b o e n c d
    exact ⟨sl, (k b (ne e)).trans q⟩
  · obtain ⟨o', q⟩ := u.there b o e d
    exact ⟨o', (k b (ne e)).trans q⟩
theorem vals_at {xs : List V} {us : List Value} (r : Vals xs us) {j : Nat} {u : Value} (h : us[j]? = some u) : ∃ x, xs[j]? = some x ∧ RelV x u := by
  cases e : xs[j]? with
  | none => rw [r.none_of e] at h; cases h
  | some x =>
    obtain ⟨u', h', q⟩ := r.get e
    rw [h] at h'
    cases h'
    exact ⟨x, rfl, q⟩
theorem each_vals : ∀ {us : List Value} {xs : List V}, EachIs (fun u x => RelV x u) us xs → Vals xs us
  | _, _, .nil => .nil
  | _, _, .cons h t => .cons h (each_vals t)
theorem vals_each : ∀ {xs : List V} {us : List Value}, Vals xs us → EachIs (fun u x => RelV x u) us xs
  | _, _, .nil => .nil
  | _, _, .cons h t => .cons h (vals_each t)
theorem un_add {fs ex : List Addr} {H H' : Hp} {h h1 h2 : Heap} {a0 b0 : Addr} {o : HO} (u : Un fs ex H H' h h1) (ha : h.get? a0 = none) (hb : h.get? b0 = none) (fa : H' a0 = none) (k : ∀ b q, b ≠ a0 → b ≠ b0 → h1.get? b = some q → h2.get? b = some q) : Un fs ex H (upd H' a0 o) h h2 := by
  have na : ∀ {b q}, h.get? b = some q → b ≠ a0 := fun e z => by rw [z, ha] at e; cases e
  have nb : ∀ {b q}, h.get? b = some q → b ≠ b0 := fun e z => by rw [z, hb] at e; cases e
  have nt : ∀ {b q}, H' b = some q → b ≠ a0 := fun e z => by rw [z, fa] at e; cases e
  refine ⟨fun b q e n c d => k b q (na e) (nb e) (u.keep b q e n c d), fun b q e n c d => ?_, fun b q e n d => ?_, fun b q e d => ?_, fun b xs e => ?_, fun b q v e => ?_, fun b ps e => ?_⟩
  · obtain ⟨sl, y⟩ := u.slot b q e n c d
    exact ⟨sl, k b _ (na e) (nb e) y⟩
  · rw [upd_ne (na e)]
    exact u.free b q e n d
  · obtain ⟨q', y⟩ := u.there b q e d
    exact ⟨q', k b _ (na e) (nb e) y⟩
  · have y := u.tups b xs e
    rw [upd_ne (nt y)]
    exact y
  · have y := u.frzs b q v e
    rw [upd_ne (nt y)]
    exact y
  · obtain ⟨m, y⟩ := u.tbls b ps e
    exact ⟨m, by rw [upd_ne (nt y)]; exact y⟩
theorem hok_add {P : Program} {w : World} {H : Hp} {h h2 : Heap} {a0 b0 : Addr} {o : HO} (ok : HOk P w H h) (fa : H a0 = none) (fb : H b0 = none) (k : ∀ b q, b ≠ a0 → b ≠ b0 → h.get? b = some q → h2.get? b = some q) (new : ObjOk P w (upd H a0 o) h2 a0 o) : HOk P w (upd H a0 o) h2 := fun b u e => by
  by_cases hb : b = a0
  · subst hb
    rw [upd_same] at e
    cases e
    exact new
  · rw [upd_ne hb] at e
    have nt : ∀ {c q}, H c = some q → c ≠ a0 := fun e z => by rw [z, fa] at e; cases e
    have nb : ∀ {c q}, H c = some q → c ≠ b0 := fun e z => by rw [z, fb] at e; cases e
    refine (ok b u e).stay (fun c v hc q => ?_) (fun c q => by rw [upd_ne (nt q)]; exact q) fun c xs q => by rw [upd_ne (nt q)]; exact q
    rcases hc with z | z
    · rw [z] at q ⊢
      exact k b v hb (nb e) q
    · exact k c v (nt z) (nb z) q
theorem hok_but {P : Program} {w : World} {H : Hp} {h h2 : Heap} {b0 : Addr} (ok : HOk P w H h) (hn : H b0 = none) (k : ∀ b, b ≠ b0 → h2.get? b = h.get? b) : HOk P w H h2 := fun b u e => by
  refine (ok b u e).stay (fun c v hc q => (k c ?_).trans q) (fun _ q => q) fun _ _ q => q
  rcases hc with z | z
  · rw [z]; exact fun y => by rw [y, hn] at e; cases e
  · exact fun y => by rw [y, hn] at z; cases z
section
variable {X : Cx} {k : Nat} {f : Addr} {ps : List Str} {sp : Sp} {pins : List (Addr × Obj)} {σ : L2.St} {H : Hp} {s : Shared}
theorem run_key (o : OkD X.prog X.w X.K X.mg X.base k f ps [] sp) (hr : Room (k + 2) X.A) (I : Inv X pins σ H s) {v : V} {u : Value} {Q : VK} (r : RelV v u) (h : sp [v] H Q (fun _ _ _ => False)) :
    wpAny (model X.prog X.w) X.A.in1.in1 (call (.ref f) [u]) (fun u' s' => CE X.stack X.prog X.w H s Q u' s') (fun _ _ => False) s := by
  obtain ⟨fd, ds, F, hb, hd, hk⟩ := o
  cases hd
  have r2 : Vals [v] [u] := .cons r .nil
  have hl : ([u] ++ ([] : List Value)).length = ps.length := F.len _ _ _ _ h
  refine wpAny_call (codeAny_mono (F.run X.A.in1.in1 X.stack s H ⟨[u], []⟩ ([u] ++ []) [v] Q _ (hr.in1.in1) I.env0.in1.in1 (hb s [u] I.kIn hl) r2 h) fun r s' hq => ?_)
  cases r with
  | error e =>
    obtain ⟨_, _, _, _, _, _, _, _, _, _, _, _, z⟩ := hq
    exact z
  | ok fl =>
    cases fl with
    | ret u => exact hq
    | next => exact False.elim hq
    | brk => exact False.elim hq
    | cont => exact False.elim hq
theorem kD_alike (a b : Int × Int) : PySem.W.alike (kD a) (kD b) = true := by simp [kD, PySem.W.alike, PySem.W.alikeAll]
/-- the keys so far -/
def KeysAt (X : Cx) (H : Hp) (h0 : Heap) (s0 : Shared) (xs : List V) (κ : V → Int × Int) (kS a : Addr) (e1 : Nat) (i : Nat) (s' : Shared) : Prop := ∃ (H1 : Hp) (kA : Array Value) (e : Nat), s'.os = s0.os ∧ AllBare s'.gens ∧ Un (frs X.stack) [] H H1 h0 s'.heap ∧ HOk X.prog X.w H1 s'.heap ∧ Same H H1 ∧
  s'.heap.get? kS = some (seqObj "list" kA e) ∧ s'.heap.get? a = some (seqObj "list" #[] e1) ∧ H1 kS = none ∧ H1 a = none ∧ EachIs (fun v d => ∃ v', RelV v' v ∧ Dp X.K H1 v' d) kA.toList ((xs.map fun x => kD (κ x)).take i)
theorem o_sortedKey {K : PySem.W.Frag} (o : OkD X.prog X.w X.K X.mg X.base k f ps [] sp) (hr : Room (k + 2) X.A) (hK : X.K = K := by rfl) : CallRK X (.builtin "sorted") [Str.ofString "key"] (rSortK sp f K) := by
  subst hK
  intro pins s σ H vs zs us ws Q I r rz h
  obtain ⟨l, xs, κ, rfl, rfl, hs, hk, q⟩ := h
  obtain ⟨its, rv, hl, hz'⟩ := I.list hs
  obtain ⟨u, rfl, ru⟩ := vals1 r
  obtain rfl : u = Value.ref l := ru
  obtain ⟨z, rfl, rz'⟩ := vals1 rz
  obtain rfl : z = Value.ref f := rz'
  have hZ : its.length ≤ sizeLine := by rw [← rv.length]; exact hz'
  show wpAny _ X.A (call (.builtin "sorted") [.ref l] [(Str.ofString "key", .ref f)]) _ _ s
  refine sorted_of_sort hl.isList hZ (ksk_s1 _ _) (fun _ => ksk_l1 _ _) fun E' => ?_
  rw [ksk_t1]
  generalize ha : s.heap.objs.size + 1 = a
  have hn : s.heap.get? a = none := Heap.get?_none_of_le (by omega)
  have ho : (copyHeap s.heap its).get? a = some (seqObj "list" its.toArray 0) := by rw [← ha]; exact copyHeap_at s.heap its
  have hlt := Heap.lt_size ho
  obtain ⟨e1, ho1⟩ : ∃ e1, ((copyHeap s.heap its).update a (Obj.mapSeq fun _ => (#[] : Array Value))).get? a = some (seqObj "list" #[] e1) := ⟨_, get?_update_seq ho fun _ => #[]⟩
  have s1 := Heap.SameBut.update (copyHeap s.heap its) a (Obj.mapSeq fun _ => (#[] : Array Value))
  have hsz : (copyHeap s.heap its).objs.size = s.heap.objs.size + 2 := by
    unfold copyHeap
    rw [size_push', Heap.size_update, size_push']
  obtain ⟨g1, hg1⟩ : ∃ g1, g1 = (copyHeap s.heap its).update a (Obj.mapSeq fun _ => (#[] : Array Value)) := ⟨_, rfl⟩
  obtain ⟨g2, hg2⟩ : ∃ g2, g2 = g1.push (seqObj "tuple" its.toArray 0) := ⟨_, rfl⟩
  obtain ⟨g, hg⟩ : ∃ g, g = g2.push (seqObj "list" #[] 0) := ⟨_, rfl⟩
  obtain ⟨kS, hkS⟩ : ∃ kS, kS = g2.objs.size := ⟨_, rfl⟩
  have hz2 : kS = s.heap.objs.size + 3 := by rw [hkS, hg2, size_push', hg1, Heap.size_update, hsz]
  have nkS : s.heap.get? kS = none := Heap.get?_none_of_le (by omega)
  have ka : kS ≠ a := by omega
  have na : g.get? a = some (seqObj "list" #[] e1) := by
    rw [hg, hg2, hg1]
    exact Heap.get?_push_of_some _ (Heap.get?_push_of_some _ ho1)
  have nk : g.get? kS = some (seqObj "list" #[] 0) := by
    rw [hg, hkS]
    exact Heap.get?_push_size _ rfl
  have up : ∀ b ob, s.heap.get? b = some ob → g.get? b = some ob := fun b ob e => by
    have hb : b ≠ a := fun y => by rw [y, hn] at e; cases e
    rw [hg, hg2, hg1]
    exact Heap.get?_push_of_some _ (Heap.get?_push_of_some _ ((s1.2 b hb).trans (copyHeap_old e)))
  unfold ksk_tree
  refine wpAny_bind (listItems_at (a := a) ho rfl ?_)
  refine wpAny_bind (listUpdate_at (a := a) ho rfl ?_ (by rw [List.size_toArray]; exact hZ) (Nat.zero_le _))
  refine wpAny_bind (seqEpoch_at (a := a) ho1 rfl ?_)
  refine wpAny_bind (wpAny_newTuple ?_ (show its.length ≤ _ from hZ))
  refine wpAny_bind (wpAny_newList ?_ (Nat.zero_le _))
  refine wpAny_holding ?_
  have e0 : its.toArray.toList.toArray = its.toArray := rfl
  show wpAny _ _ (ksk_rest a (.ref f) false its.toArray e1 (.ref (((copyHeap s.heap its).update a (Obj.mapSeq fun _ => (#[] : Array Value))).push (seqObj "tuple" its.toArray 0)).objs.size)) _ _ { s with heap := (((copyHeap s.heap its).update a (Obj.mapSeq fun _ => (#[] : Array Value))).push (seqObj "tuple" its.toArray 0)).push (seqObj "list" #[] 0) }
  rw [← hg1, ← hg2, ← hg, ← hkS]
  have fs : ∀ b, s.heap.objs.size ≤ b → b ∉ frs X.stack := fun b hb y => by
    rcases List.mem_cons.mp (I.stkSub b y) with y | y
    · exact absurd (Nat.lt_of_lt_of_le I.lt hb) (by rw [y]; exact Nat.lt_irrefl _)
    · exact I.nofs hb y
  unfold ksk_rest
  refine wpAny_bind (wpAny_rule (show wpAny _ _ _ _ _ _ from ?_))
  rw [List.forIn_toArray]
  refine wpAny_bind (ksk_fold (KeysAt X H s.heap s xs κ kS a e1) its 0 _ ?_ ?_ ?_)
  · exact ⟨H, #[], 0, rfl, I.bare, Un.kept up, I.hok.kept up, Same.refl _, nk, na, I.hok.fresh (by omega), I.hok.fresh (by omega), by rw [List.take_zero]; exact EachIs.nil⟩
  · rintro j x s' hx ⟨H1, kA, e, os1, bare1, un1, hok1, sm1, nk1, na1, fk1, fa1, each1⟩
    simp only [Nat.zero_add] at each1 ⊢
    obtain ⟨v, hv, rx⟩ : ∃ v, xs[j]? = some v ∧ RelV v x := vals_at rv hx
    have I1 : Inv X pins σ H1 s' := I.call' (ch := []) os1 un1 hok1 bare1 (fun _ y => nomatch y)
    have hvm := List.mem_of_getElem? hv
    have hjl : kA.size ≤ its.length := by
      have h1 := each1.length
      rw [Array.length_toList, List.length_take, List.length_map, rv.length] at h1
      omega
    refine wpAny_bind (wpAny_attempt (wpAny_mono (run_key o hr I1 rx (hk v hvm H1 sm1)) (fun y s2 hy => ?_) fun _ _ hF => hF.elim))
    obtain ⟨vk, H2, os2, bare2, un2, hok2, rk, sm2, dk⟩ := hy
    have nk2 : s2.heap.get? kS = some (seqObj "list" kA e) := un2.keep _ _ nk1 fk1 (fs _ (by omega)) (by simp)
    have na2 : s2.heap.get? a = some (seqObj "list" #[] e1) := un2.keep _ _ na1 fa1 (fs _ (by omega)) (by simp)
    have fk2 := un2.free _ _ nk1 fk1 (by simp)
    have fa2 := un2.free _ _ na1 fa1 (by simp)
    have sb := Heap.SameBut.update s2.heap kS (Obj.mapSeq (·.push y))
    obtain ⟨c2, hc2⟩ : ∃ c2, (s2.heap.update kS (Obj.mapSeq (·.push y))).get? kS = some (seqObj "list" (kA.push y) c2) := ⟨_, get?_update_seq nk2 (·.push y)⟩
    dsimp only
    refine wpAny_bind (listUpdate_at (a := kS) nk2 rfl ?_ (Nat.le_trans hjl hZ) (Nat.le_trans (Nat.le_of_eq (Array.size_push _)) (Nat.succ_le_succ (Nat.le_trans hjl hZ))))
    refine wpAny_pure ⟨rfl, H2, kA.push y, c2, os2.trans os1, bare2, un_but (un1.trans un2) nkS sb.2, hok_but hok2 fk2 sb.2, sm1.trans sm2, hc2, (sb.2 a ka.symm).trans na2, fk2, fa2, ?_⟩
    have ea : (kA.push y).toList = kA.toList ++ [y] := by simp
    have ek : (xs.map fun x => kD (κ x)).take (j + 1) = (xs.map fun x => kD (κ x)).take j ++ [kD (κ v)] := by rw [List.take_succ, List.getElem?_map, hv]; rfl
    rw [ea, ek]
    exact each_snoc ⟨vk, rk, dk⟩ (each1.mono fun _ _ ⟨v', r', d'⟩ => ⟨v', r', dp_mono sm2 _ _ d'⟩)
  · rintro s' ⟨H1, kA, e, os1, bare1, un1, hok1, sm1, nk1, na1, fk1, fa1, each1⟩
    rw [Nat.zero_add, List.take_of_length_le (by rw [List.length_map, rv.length]; exact Nat.le_refl _)] at each1
    have I1 : Inv X pins σ H1 s' := I.call' (ch := []) os1 un1 hok1 bare1 (fun _ y => nomatch y)
    obtain ⟨G, g1, g2⟩ := L2.restrict s'.heap fun b => !decide (b = kS)
    have gk : G.get? kS = none := g2 kS (by simp)
    have gs : ∀ b, b ≠ kS → G.get? b = s'.heap.get? b := fun b hb => g1 b (by simp [hb])
    have kp : KeepsBut a G s'.heap := fun b q _ e => by
      have hb : b ≠ kS := fun z => by rw [z, gk] at e; cases e
      rw [gs b hb] at e
      exact e
    have hz : kA.size = its.length := by
      have h1 := each1.length
      rw [Array.length_toList, List.length_map, rv.length] at h1
      exact h1
    have hR : EachIs (fun v d => ∃ as, Reads s'.heap v d as) kA.toList (xs.map fun x => kD (κ x)) := each1.mono fun u d ⟨v, r', dd⟩ => Dp.reads I1 d v u dd r'
    have hal : AllAlike (xs.map fun x => kD (κ x)) := AllAlike.of fun _ _ => kD_alike _ _
    have hso : Sortable (xs.map fun x => kD (κ x)) := Sortable.tuples fun _ => ⟨_, _, rfl⟩
    refine wpAny_bind (listItems_at (a := kS) nk1 rfl ?_)
    refine keyH_end (κ := PySem.W.dataKind s'.heap (xs.map fun x => kD (κ x))) (h₁ := G) kp gk nk1 na1 ka (SortsAt.data hR hal hso fun d hd => ?_) hz hZ fun h3 tk c k3 n3 => ?_
    · obtain ⟨x, _, rfl⟩ := List.mem_map.mp hd
      have hd : (kD (κ x)).depth ≤ 1 := by simp [kD, PyData.depth, PyData.depthAll]
      have := hr.units
      show X.A.units + 1 + 1 + _ < _
      omega
    have ko : KeyedOut false (xs.map fun x => kD (κ x)) its (PySem.W.sortVals (PySem.W.dataKind s'.heap (xs.map fun x => kD (κ x))) false kA.toList its) := ⟨s'.heap, kA.toList, hal, rfl, hR⟩
    have ev := each_vals (keyedOut_each (fun x => kD (κ x)) ko (vals_each rv))
    generalize PySem.W.sortVals (PySem.W.dataKind s'.heap (xs.map fun x => kD (κ x))) false kA.toList its = out at *
    have kf : ∀ b q, b ≠ a → b ≠ kS → s'.heap.get? b = some q → h3.get? b = some q := fun b q ha hb e => k3 b q ha (by rw [gs b hb]; exact e)
    have lo : (xs.mergeSort (dataLe false fun x => kD (κ x))).length ≤ sizeLine := by rw [List.length_mergeSort]; exact hz'
    have un3 := un_add (o := .lst (xs.mergeSort (dataLe false fun x => kD (κ x)))) un1 hn nkS fa1 kf
    have hok3 := hok_add (o := .lst (xs.mergeSort (dataLe false fun x => kD (κ x)))) hok1 fa1 fk1 kf ⟨lo, out, c, ev, n3⟩
    refine ⟨rfl, .ref a, _, I.call' (s' := { s' with heap := h3, toks := tk }) (ch := []) os1 un3 hok3 bare1 (fun _ y => nomatch y), rfl, q a _ (same_mut sm1 (I.hok.fresh (by omega))) (I.hok.fresh (by omega)) upd_same⟩
end
end SL
namespace SL
open PySem PySem.Spec PyProof.Rows L2 SX
theorem ifT {α : Sort _} {d : Decidable True} {a b : α} : @ite α True d a b = a := if_pos trivial
theorem ifF {α : Sort _} {d : Decidable False} {a b : α} : @ite α False d a b = b := if_neg id
/-- a statement by what is wanted behind it -/
def sMid (t : TS) : TS := fun D σ H => ∃ D' : Ends, t D' σ H ∧ (∀ σ H, D'.nx σ H → D.nx σ H) ∧ (∀ v H, D'.rt v H → D.rt v H) ∧ (∀ σ H, D'.bk σ H → D.bk σ H) ∧ ∀ σ H, D'.ct σ H → D.ct σ H
theorem ps_mid {X : Cx} {st : Stmt} {t : TS} (h : PS X st t) : PS X st (sMid t) := ⟨fun pins s σ H D I ⟨D', h1, n, r, b, c⟩ => thn (h.run pins s σ H D' I h1) fun f s' q => by
  cases f with
  | next => obtain ⟨σ', H', J, k⟩ := q; exact ⟨σ', H', J, n _ _ k⟩
  | brk => obtain ⟨σ', H', J, k⟩ := q; exact ⟨σ', H', J, b _ _ k⟩
  | cont => obtain ⟨σ', H', J, k⟩ := q; exact ⟨σ', H', J, c _ _ k⟩
  | ret u => obtain ⟨v, σ', H', J, e, k⟩ := q; exact ⟨v, σ', H', J, e, r _ _ k⟩⟩
/-- a statement, then the rest: Pm stands between -/
theorem q_stm {t u : TS} {D : Ends} {σ : L2.St} {H : Hp} (Pm : L2.St → Hp → Prop) (h : t { D with nx := Pm } σ H) (k : ∀ σ H, Pm σ H → u D σ H) : tSeq (sMid t) u D σ H :=
  ⟨{ D with nx := Pm }, h, k, fun _ _ q => q, fun _ _ q => q, fun _ _ q => q⟩
/-! ### forms of parts, as the laws write them -/
inductive PF where
  | one (c : Nat)
  | any
  | among (l : List Nat) (o : Bool)
  | stars
deriving DecidableEq
def SIG : List Nat := (Str.ofString "-.0123456789_abcdefghijklmnopqrstuvwxyz").cps.toList
theorem sig_len : SIG.length = 39 := by decide +kernel
theorem sig_nd : SIG.Nodup := by decide +kernel
theorem sig_up : SIG.Pairwise (· < ·) := by decide +kernel
def PF.d : PF → PyData
  | .one c => .tuple [.str "one", .str (S [c])]
  | .any => .tuple [.str "any"]
  | .among l o => .tuple [.str "among", .str (S l), .bool o]
  | .stars => .tuple [.str "stars"]
/-- a set of signs, rising -/
structure SigSet (l : List Nat) : Prop where
  ne : l ≠ []
  up : l.Pairwise (· < ·)
  sg : ∀ c ∈ l, c ∈ SIG
def PF.Ok : PF → Prop
  | .one c => c ∈ SIG
  | .among l _ => SigSet l ∧ l.length ≤ 12
  | _ => True
def PF.fits (f : PF) (c : Nat) : Bool := match f with
  | .one d => decide (c = d)
  | .among l o => (decide (c ∈ l)) != o
  | _ => true
def PF.many : PF → Bool
  | .stars => true
  | _ => false
/-- sets outside are of three signs at most -/
def PF.Low : PF → Prop
  | .among l true => l.length ≤ 3
  | _ => True
theorem manyOne {c : Nat} : (PF.one c).many = false := rfl
theorem manyAny : PF.any.many = false := rfl
theorem manyAmong {l : List Nat} {o : Bool} : (PF.among l o).many = false := rfl
theorem manyStars : PF.stars.many = true := rfl
theorem nd_up {l : List Nat} (h : l.Pairwise (· < ·)) : l.Nodup := h.imp fun h => Nat.ne_of_lt h
theorem str_nd_len : ∀ (l D : List Str), l.Nodup → (∀ x ∈ l, x ∈ D) → l.length ≤ D.length
  | [], _, _, _ => Nat.zero_le _
  | x :: l, D, hn, hs => by
    obtain ⟨h1, h2⟩ := List.nodup_cons.mp hn
    have hx : x ∈ D := hs x List.mem_cons_self
    have ih := str_nd_len l (D.erase x) h2 fun y hy => by
      have hne : y ≠ x := fun e => h1 (e ▸ hy)
      exact (List.mem_erase_of_ne hne).2 (hs y (List.mem_cons_of_mem _ hy))
    have e := List.length_erase_of_mem hx
    have hp : 0 < D.length := List.length_pos_of_mem hx
    rw [List.length_cons]
    omega
theorem nd_len {l : List Nat} (h : l.Nodup) (s : ∀ c ∈ l, c ∈ SIG) : l.length ≤ 39 := by
  have e := nat_nodup_len l SIG h s
  rw [sig_len] at e
  exact e
theorem SigSet.len {l : List Nat} (h : SigSet l) : l.length ≤ 39 := nd_len (nd_up h.up) h.sg
/-- data that may be compared, at most n deep -/
def DOk (n : Nat) (d : PyData) : Prop := d.canLay0 = true ∧ d.depth ≤ n
theorem DOk.up {n m : Nat} {d : PyData} (h : DOk n d) (e : n ≤ m) : DOk m d := ⟨h.1, Nat.le_trans h.2 e⟩
theorem dok_str {x : Str} {n : Nat} (h : PyData.strOk x = true) : DOk n (.str x) := ⟨by simp only [PyData.canLay0]; exact h, by simp only [PyData.depth]; omega⟩
theorem dok_bl {b : Bool} {n : Nat} : DOk n (.bool b) := ⟨by simp only [PyData.canLay0], by simp only [PyData.depth]; omega⟩
theorem dok_int {i : Int} {n : Nat} : DOk n (.int i) := ⟨by simp only [PyData.canLay0], by simp only [PyData.depth]; omega⟩
theorem dok_non {n : Nat} : DOk n .none := ⟨by simp only [PyData.canLay0], by simp only [PyData.depth]; omega⟩
theorem dok_all {n : Nat} : ∀ {ds : List PyData}, (∀ d ∈ ds, DOk n d) → PyData.canLayAll0 ds = true ∧ PyData.depthAll ds ≤ n
  | [], _ => ⟨by simp only [PyData.canLayAll0], by simp only [PyData.depthAll]; omega⟩
  | d :: r, h => by
    have h1 := h d List.mem_cons_self
    have h2 := dok_all (ds := r) fun e he => h e (List.mem_cons_of_mem _ he)
    refine ⟨by simp only [PyData.canLayAll0, h1.1, h2.1]; rfl, ?_⟩
    simp only [PyData.depthAll]
    have := h1.2
    have := h2.2
    omega
theorem dok_tup {n : Nat} {ds : List PyData} (h : ∀ d ∈ ds, DOk n d) : DOk (n + 1) (.tuple ds) := by
  have e := dok_all h
  exact ⟨by simp only [PyData.canLay0]; exact e.1, by simp only [PyData.depth]; omega⟩
theorem dok_lst {n : Nat} {ds : List PyData} (h : ∀ d ∈ ds, DOk n d) : DOk (n + 1) (.list ds) := by
  have e := dok_all h
  exact ⟨by simp only [PyData.canLay0]; exact e.1, by simp only [PyData.depth]; omega⟩
theorem DOk.shaped {n : Nat} {d : PyData} (h : DOk n d) (e : n ≤ 64) : SeqAt.shaped d = true := by
  show (d.canLay0 && decide (d.depth ≤ 64)) = true
  rw [Bool.and_eq_true]
  exact ⟨h.1, decide_eq_true (Nat.le_trans h.2 e)⟩
theorem DOk.eqv {n : Nat} {d : PyData} (h : DOk n d) : PyData.eqv d d = true := SeqAt.eqv_refl _ h.1
theorem all_nil {p : PyData → Prop} : ∀ d ∈ ([] : List PyData), p d := fun _ h => nomatch h
theorem all_cons {p : PyData → Prop} {x : PyData} {l : List PyData} (h : p x) (t : ∀ d ∈ l, p d) : ∀ d ∈ x :: l, p d := fun d h' => (List.mem_cons.mp h').elim (fun e => e ▸ h) (t d)
theorem ok_signs {l : List Nat} (h : ∀ c ∈ l, c ∈ SIG) : PyData.strOk (S l) = true := by
  have k : ∀ c ∈ SIG, c < 128 := by decide +kernel
  unfold PyData.strOk
  rw [← Array.all_toList, List.all_eq_true]
  exact fun c hc => decide_eq_true (Nat.lt_trans (k c (h c hc)) (by decide))
theorem PF.dok {f : PF} (h : f.Ok) : DOk 1 f.d := by
  cases f with
  | one c => exact dok_tup (all_cons (dok_str (by decide +kernel)) (all_cons (dok_str (ok_signs fun d hd => by rw [List.mem_singleton.mp hd]; exact h)) all_nil))
  | any => exact dok_tup (all_cons (dok_str (by decide +kernel)) all_nil)
  | among l o => exact dok_tup (all_cons (dok_str (by decide +kernel)) (all_cons (dok_str (ok_signs h.1.sg)) (all_cons dok_bl all_nil)))
  | stars => exact dok_tup (all_cons (dok_str (by decide +kernel)) all_nil)
/-! ### signs put in order -/
theorem S1_inj {a b : Nat} (h : S [a] = S [b]) : a = b := List.head_eq_of_cons_eq (S_inj h)
theorem map1_mem {cs : List Nat} {c : Nat} : S [c] ∈ (cs.map fun c => S [c]) ↔ c ∈ cs := by
  rw [List.mem_map]
  exact ⟨fun ⟨d, hd, e⟩ => by rw [← S1_inj e]; exact hd, fun h => ⟨c, h, rfl⟩⟩
theorem signs_of : ∀ {ys : List Str}, (∀ y ∈ ys, ∃ c, y = S [c]) → ∃ cs : List Nat, ys = cs.map fun c => S [c]
  | [], _ => ⟨[], rfl⟩
  | y :: r, h => by
    obtain ⟨c, rfl⟩ := h y List.mem_cons_self
    obtain ⟨cs, rfl⟩ := signs_of (ys := r) fun z hz => h z (List.mem_cons_of_mem _ hz)
    exact ⟨c :: cs, rfl⟩
theorem rising_codes : ∀ (cs : List Nat) (p : Nat), risingS (S [p]) (cs.map fun c => S [c]) = true → (p :: cs).Pairwise (· ≤ ·)
  | [], p, _ => by simp
  | c :: r, p, h => by
    have h' : (!ltCps [c] [p] && risingS (S [c]) (r.map fun c => S [c])) = true := h
    rw [Bool.and_eq_true] at h'
    have h1 : p ≤ c := by
      have e := h'.1
      unfold ltCps at e
      simp [ltCps] at e
      exact e
    have h2 := rising_codes r c h'.2
    refine List.pairwise_cons.mpr ⟨fun d hd => ?_, h2⟩
    rcases List.mem_cons.mp hd with rfl | hd
    · exact h1
    · exact Nat.le_trans h1 ((List.pairwise_cons.mp h2).1 d hd)
theorem sorted_codes : ∀ (cs : List Nat), sortedS (cs.map fun c => S [c]) = true → cs.Pairwise (· ≤ ·)
  | [], _ => .nil
  | c :: r, h => rising_codes r c h
theorem le_lt_nd : ∀ {l : List Nat}, l.Pairwise (· ≤ ·) → l.Nodup → l.Pairwise (· < ·)
  | [], _, _ => .nil
  | a :: r, h, n => by
    have h' := List.pairwise_cons.mp h
    have n' := List.nodup_cons.mp n
    refine List.pairwise_cons.mpr ⟨fun b hb => ?_, le_lt_nd h'.2 n'.2⟩
    have e := h'.1 b hb
    have q : a ≠ b := fun z => n'.1 (z ▸ hb)
    omega
theorem nd_unmap : ∀ {cs : List Nat}, (cs.map fun c => S [c]).Nodup → cs.Nodup
  | [], _ => .nil
  | c :: r, h => by
    have h' := List.nodup_cons.mp h
    exact List.nodup_cons.mpr ⟨fun q => h'.1 (map1_mem.mpr q), nd_unmap h'.2⟩
/-- sorted signs, each once -/
theorem sorted_signs {ys zs : List Str} (pm : ys.Perm zs) (so : sortedS ys = true) (nd : zs.Nodup) (h : ∀ z ∈ zs, ∃ c, z = S [c]) : ∃ cs : List Nat, ys = cs.map (fun c => S [c]) ∧ cs.Pairwise (· < ·) ∧ ∀ c, c ∈ cs ↔ S [c] ∈ zs := by
  obtain ⟨cs, rfl⟩ := signs_of (ys := ys) fun y hy => h y (pm.mem_iff.mp hy)
  exact ⟨cs, rfl, le_lt_nd (sorted_codes cs so) (nd_unmap (pm.nodup_iff.mpr nd)), fun c => by rw [← pm.mem_iff, map1_mem]⟩
/-- a text of different signs, one at least -/
def Good (z : Str) : Prop := ∃ l, SigSet l ∧ z.cps.toList.Perm l
theorem not_nd : ∀ {zs : List Str}, ¬ zs.Nodup → ∃ x ∈ zs, ∀ y ∈ zs, y ∈ zs.erase x
  | [], h => absurd .nil h
  | a :: r, h => by
    by_cases ha : a ∈ r
    · refine ⟨a, List.mem_cons_self, fun y hy => ?_⟩
      rw [List.erase_cons_head]
      exact (List.mem_cons.mp hy).elim (fun e => e ▸ ha) id
    · obtain ⟨x, hx, hs⟩ := not_nd (zs := r) fun n => h (List.nodup_cons.mpr ⟨ha, n⟩)
      have hne : a ≠ x := fun e => ha (e ▸ hx)
      refine ⟨x, List.mem_cons_of_mem _ hx, fun y hy => ?_⟩
      rw [List.erase_cons_tail (by simpa using hne)]
      exact (List.mem_cons.mp hy).elim (fun e => e ▸ List.mem_cons_self) fun q => List.mem_cons_of_mem _ (hs y q)
/-- how many different texts there are tells whether each is there once -/
theorem set_len {l zs : List Str} (nd : l.Nodup) (h : ∀ x, x ∈ l ↔ x ∈ zs) : (l.length < zs.length) = ¬ zs.Nodup := by
  refine propext ⟨fun hl n => ?_, fun hn => ?_⟩
  · have := str_nd_len zs l n fun x hx => (h x).mpr hx
    omega
  · obtain ⟨x, hx, hs⟩ := not_nd hn
    have a := str_nd_len l (zs.erase x) nd fun y hy => hs y ((h y).mp hy)
    have b := List.length_erase_of_mem hx
    have c := List.length_pos_of_mem hx
    omega
theorem nd_map1 : ∀ {cs : List Nat}, cs.Nodup → (cs.map fun c => S [c]).Nodup
  | [], _ => .nil
  | c :: r, h => by
    have h' := List.nodup_cons.mp h
    exact List.nodup_cons.mpr ⟨fun q => h'.1 (map1_mem.mp q), nd_map1 h'.2⟩
theorem insU_up (a : Nat) : ∀ (l : List Nat), l.Pairwise (· < ·) → a ∉ l → ∃ m : List Nat, m.Pairwise (· < ·) ∧ (a :: l).Perm m
  | [], _, _ => ⟨[a], List.pairwise_singleton _ _, .refl _⟩
  | b :: r, h, n => by
    have h' := List.pairwise_cons.mp h
    rcases Nat.lt_trichotomy a b with q | q | q
    · exact ⟨a :: b :: r, List.pairwise_cons.mpr ⟨fun c hc => (List.mem_cons.mp hc).elim (fun e => e ▸ q) fun e => Nat.lt_trans q (h'.1 c e), h⟩, .refl _⟩
    · exact absurd (q ▸ List.mem_cons_self) n
    · obtain ⟨m, m1, m2⟩ := insU_up a r h'.2 fun e => n (List.mem_cons_of_mem _ e)
      refine ⟨b :: m, List.pairwise_cons.mpr ⟨fun c hc => ?_, m1⟩, (List.Perm.swap b a r).trans (m2.cons b)⟩
      exact (List.mem_cons.mp (m2.mem_iff.mpr hc)).elim (fun e => e ▸ q) (h'.1 c)
theorem up_of : ∀ {l : List Nat}, l.Nodup → ∃ m : List Nat, m.Pairwise (· < ·) ∧ l.Perm m
  | [], _ => ⟨[], .nil, .refl _⟩
  | a :: r, h => by
    have h' := List.nodup_cons.mp h
    obtain ⟨m, m1, m2⟩ := up_of h'.2
    obtain ⟨k, k1, k2⟩ := insU_up a m m1 fun e => h'.1 (m2.mem_iff.mpr e)
    exact ⟨k, k1, (m2.cons a).trans k2⟩
theorem good_iff {z : Str} : Good z ↔ z ≠ S [] ∧ (chars z).Nodup ∧ ∀ c ∈ z.cps.toList, c ∈ SIG := by
  refine ⟨fun ⟨l, ok, pm⟩ => ⟨fun e => ?_, nd_map1 (pm.nodup_iff.mpr (nd_up ok.up)), fun c hc => ok.sg c (pm.mem_iff.mp hc)⟩, fun ⟨ne, nd, sg⟩ => ?_⟩
  · rw [e] at pm
    exact ok.ne (List.nil_perm.mp pm)
  · obtain ⟨m, m1, m2⟩ := up_of (nd_unmap nd)
    refine ⟨m, ⟨fun e => ne ?_, m1, fun c hc => sg c (m2.mem_iff.mpr hc)⟩, m2⟩
    rw [e] at m2
    have e2 := m2.eq_nil
    exact (S_tl z).symm.trans (congrArg S e2)
/-- two rising lists with the same members are one -/
theorem up_eq {a b : List Nat} (ha : a.Pairwise (· < ·)) (hb : b.Pairwise (· < ·)) (h : ∀ c, c ∈ a ↔ c ∈ b) : a = b := by
  have p : a.Perm b := (List.perm_ext_iff_of_nodup (nd_up ha) (nd_up hb)).mpr h
  exact p.eq_of_pairwise (fun x y _ _ h1 h2 => absurd h1 (Nat.lt_asymm h2)) ha hb
theorem lkSign {a : V} : List.lookup (Str.ofString "sign") [(Str.ofString "sign", a)] = some a := rfl
theorem lkSigns {a b : V} : List.lookup (Str.ofString "signs") [(Str.ofString "signs", a), (Str.ofString "outside", b)] = some a := rfl
theorem lkParts {a : V} : List.lookup (Str.ofString "parts") [(Str.ofString "parts", a)] = some a := rfl
theorem lkOut {a b : V} : List.lookup (Str.ofString "outside") [(Str.ofString "signs", a), (Str.ofString "outside", b)] = some b := rfl
theorem pfNil {f : Str} {y : V} : putF f y [] = [(f, y)] := rfl
theorem pfOut {a y : V} : putF (Str.ofString "outside") y [(Str.ofString "signs", a)] = [(Str.ofString "signs", a), (Str.ofString "outside", y)] := rfl
theorem lkSteps {a b c : V} : List.lookup (Str.ofString "steps") [(Str.ofString "steps", a), (Str.ofString "spares", b), (Str.ofString "folders", c)] = some a := rfl
theorem lkSpares {a b c : V} : List.lookup (Str.ofString "spares") [(Str.ofString "steps", a), (Str.ofString "spares", b), (Str.ofString "folders", c)] = some b := rfl
theorem lkFolders {a b c : V} : List.lookup (Str.ofString "folders") [(Str.ofString "steps", a), (Str.ofString "spares", b), (Str.ofString "folders", c)] = some c := rfl
theorem pfSpares {a y : V} : putF (Str.ofString "spares") y [(Str.ofString "steps", a)] = [(Str.ofString "steps", a), (Str.ofString "spares", y)] := rfl
theorem pfFolders {a b y : V} : putF (Str.ofString "folders") y [(Str.ofString "steps", a), (Str.ofString "spares", b)] = [(Str.ofString "steps", a), (Str.ofString "spares", b), (Str.ofString "folders", y)] := rfl
theorem strEq {a b : String} : (Str.ofString a = Str.ofString b) = (a = b) := by
  refine propext ⟨fun h => ?_, fun h => by rw [h]⟩
  rw [Str.ofString_eq_toList, Str.ofString_eq_toList] at h
  have h1 : a.toList.map Char.toNat = b.toList.map Char.toNat := by
    have e := congrArg (fun x : Str => x.cps.toList) h
    exact e
  have h2 : a.toList = b.toList := by
    generalize a.toList = l at h1
    generalize b.toList = m at h1
    induction l generalizing m with
    | nil => cases m with
      | nil => rfl
      | cons d t => exact absurd h1 (by simp)
    | cons c r ih => cases m with
      | nil => exact absurd h1 (by simp)
      | cons d t =>
        rw [List.map_cons, List.map_cons] at h1
        injection h1 with h3 h4
        have e : c = d := Char.ext (UInt32.toNat_inj.mp h3)
        rw [e, ih t h4]
  exact String.toList_inj.mp h2
/-! ### parts as objects -/
section
variable {K : PySem.W.Frag}
def PartO (K : PySem.W.Frag) (dx : Addr) : PF → HO
  | .one c => .ins (He.ga K "One") dx [("sign", .str (S [c]))]
  | .any => .ins (He.ga K "Any") dx []
  | .among l o => .ins (He.ga K "Among") dx [("signs", .str (S l)), ("outside", .bl o)]
  | .stars => .ins (He.ga K "Stars") dx []
def PartV (K : PySem.W.Frag) (f : PF) (v : V) (H : Hp) : Prop := ∃ p dx, v = .ref p ∧ H p = some (PartO K dx f)
theorem PartO.nl {dx : Addr} {f : PF} (l : List V) : PartO K dx f ≠ .lst l := by cases f <;> exact fun h => nomatch h
theorem PartV.nl {f : PF} {v : V} {H H' : Hp} (h : PartV K f v H) (e : NL H H') : PartV K f v H' := let ⟨p, dx, ev, hp⟩ := h; ⟨p, dx, ev, e _ _ hp PartO.nl⟩
theorem PartV.mono {f : PF} {v : V} {H H' : Hp} (h : PartV K f v H) (e : Same H H') : PartV K f v H' := h.nl (.of e)
end
theorem OkD.imp {P : Program} {w : World} {K : PySem.W.Frag} {mg : Str → Option Value} {base : Heap} {k : Nat} {f : Addr} {ps : List Str} {dvs : List V} {sp sp' : Sp} (h : OkD P w K mg base k f ps dvs sp) (i : ∀ vs H Q E, sp' vs H Q E → sp vs H Q E) : OkD P w K mg base k f ps dvs sp' := by
  obtain ⟨fd, ds, F, r⟩ := h
  exact ⟨fd, ds, F.imp i, r⟩
end SL
namespace SL
open PySem PySem.Spec PyProof.Rows L2 SX
/-! ### names along parts -/
/-- the parts laid along the name -/
def Fit : List PF → List Nat → Prop
  | [], w => w = []
  | f :: fs, w => if f.many = true then ∃ u v, w = u ++ v ∧ Fit fs v else ∃ c v, w = c :: v ∧ f.fits c = true ∧ Fit fs v
theorem fit_star {f : PF} {fs : List PF} {w : List Nat} (h : f.many = true) : Fit (f :: fs) w ↔ ∃ u v, w = u ++ v ∧ Fit fs v := by
  show (if f.many = true then _ else _) ↔ _
  rw [if_pos h]
theorem fit_one {f : PF} {fs : List PF} {w : List Nat} (h : f.many = false) : Fit (f :: fs) w ↔ ∃ c v, w = c :: v ∧ f.fits c = true ∧ Fit fs v := by
  show (if f.many = true then _ else _) ↔ _
  rw [if_neg (by rw [h]; exact Bool.false_ne_true)]
theorem fit_app : ∀ (fs gs : List PF) (w : List Nat), Fit (fs ++ gs) w ↔ ∃ u v, w = u ++ v ∧ Fit fs u ∧ Fit gs v
  | [], gs, w => ⟨fun h => ⟨[], w, rfl, rfl, h⟩, fun ⟨u, v, e, h1, h2⟩ => by
    cases (show u = [] from h1)
    rw [e]
    exact h2⟩
  | f :: fs, gs, w => by
    rw [List.cons_append]
    cases h : f.many with
    | true =>
      rw [fit_star h]
      constructor
      · rintro ⟨u, v, rfl, hv⟩
        obtain ⟨a, b, rfl, ha, hb⟩ := (fit_app fs gs v).mp hv
        exact ⟨u ++ a, b, by rw [List.append_assoc], (fit_star h).mpr ⟨u, a, rfl, ha⟩, hb⟩
      · rintro ⟨a, b, rfl, ha, hb⟩
        obtain ⟨u, v, rfl, hv⟩ := (fit_star h).mp ha
        exact ⟨u, v ++ b, by rw [List.append_assoc], (fit_app fs gs _).mpr ⟨v, b, rfl, hv, hb⟩⟩
    | false =>
      rw [fit_one h]
      constructor
      · rintro ⟨c, v, rfl, hc, hv⟩
        obtain ⟨a, b, rfl, ha, hb⟩ := (fit_app fs gs v).mp hv
        exact ⟨c :: a, b, rfl, (fit_one h).mpr ⟨c, a, rfl, hc, ha⟩, hb⟩
      · rintro ⟨a, b, rfl, ha, hb⟩
        obtain ⟨c, v, rfl, hc, hv⟩ := (fit_one h).mp ha
        exact ⟨c, v ++ b, rfl, hc, (fit_app fs gs _).mpr ⟨v, b, rfl, hv, hb⟩⟩
def starAt (fs : List PF) (j : Nat) : Bool := match fs[j]? with
  | some f => f.many
  | none => false
theorem starAt_lt {fs : List PF} {j : Nat} (h : starAt fs j = true) : j < fs.length := by
  unfold starAt at h
  rcases Nat.lt_or_ge j fs.length with e | e
  · exact e
  · rw [List.getElem?_eq_none e] at h
    cases h
theorem starAt_eq {fs : List PF} {j : Nat} {f : PF} (h : fs[j]? = some f) : starAt fs j = f.many := by
  unfold starAt
  rw [h]
theorem take_succ' {fs : List PF} {j : Nat} {f : PF} (h : fs[j]? = some f) : fs.take (j + 1) = fs.take j ++ [f] := by
  rw [List.take_succ, h]
  rfl
theorem fit_take_star {fs : List PF} {j : Nat} {w : List Nat} (h : starAt fs j = true) : Fit (fs.take (j + 1)) w ↔ ∃ u v, w = u ++ v ∧ Fit (fs.take j) u := by
  have hl := starAt_lt h
  have hf : fs[j]? = some fs[j] := List.getElem?_eq_getElem hl
  rw [starAt_eq hf] at h
  rw [take_succ' hf, fit_app]
  constructor
  · rintro ⟨u, v, e, h1, _⟩
    exact ⟨u, v, e, h1⟩
  · rintro ⟨u, v, e, h1⟩
    exact ⟨u, v, e, h1, (fit_star h).mpr ⟨v, [], by rw [List.append_nil], rfl⟩⟩
theorem fit_take_one {fs : List PF} {j : Nat} {w : List Nat} {f : PF} (hf : fs[j]? = some f) (h : f.many = false) : Fit (fs.take (j + 1)) w ↔ ∃ u c, w = u ++ [c] ∧ Fit (fs.take j) u ∧ f.fits c = true := by
  rw [take_succ' hf, fit_app]
  constructor
  · rintro ⟨u, v, rfl, h1, h2⟩
    obtain ⟨c, v', rfl, hc, hv⟩ := (fit_one h).mp h2
    cases (show v' = [] from hv)
    exact ⟨u, c, rfl, h1, hc⟩
  · rintro ⟨u, c, rfl, h1, hc⟩
    exact ⟨u, [c], rfl, h1, (fit_one h).mpr ⟨c, [], rfl, hc, rfl⟩⟩
/-- from s on by stars alone -/
def Clos (fs : List PF) (s i : Nat) : Prop := s ≤ i ∧ ∀ k, s ≤ k → k < i → starAt fs k = true
theorem Clos.refl {fs : List PF} {s : Nat} : Clos fs s s := ⟨Nat.le_refl _, fun k a b => absurd b (by omega)⟩
theorem Clos.trans {fs : List PF} {a b c : Nat} (h : Clos fs a b) (g : Clos fs b c) : Clos fs a c := ⟨Nat.le_trans h.1 g.1, fun k h1 h2 => by
  rcases Nat.lt_or_ge k b with e | e
  · exact h.2 k h1 e
  · exact g.2 k e h2⟩
theorem Clos.snoc {fs : List PF} {a b : Nat} (h : Clos fs a b) (g : starAt fs b = true) : Clos fs a (b + 1) := h.trans ⟨Nat.le_succ _, fun k h1 h2 => by
  have e : k = b := by omega
  rw [e]
  exact g⟩
theorem Clos.le {fs : List PF} {s i n : Nat} (h : Clos fs s i) (hs : s ≤ fs.length) : i ≤ fs.length := by
  rcases Nat.eq_or_lt_of_le h.1 with e | e
  · omega
  · have := starAt_lt (h.2 (i - 1) (by omega) (by omega))
    omega
/-- spot i behind the signs w -/
def At (fs : List PF) (w : List Nat) (i : Nat) : Prop := i ≤ fs.length ∧ (Fit (fs.take i) w ∨ starAt fs i = true ∧ Fit (fs.take (i + 1)) w)
theorem fit_more {fs : List PF} {i : Nat} {w : List Nat} (h : starAt fs i = true) (g : Fit (fs.take i) w) : Fit (fs.take (i + 1)) w := (fit_take_star h).mpr ⟨w, [], by rw [List.append_nil], g⟩
theorem at_clos {fs : List PF} {w : List Nat} {s : Nat} (hs : s ≤ fs.length) (h : Fit (fs.take s) w) : ∀ i, Clos fs s i → Fit (fs.take i) w := by
  intro i hc
  obtain ⟨h1, h2⟩ := hc
  induction i with
  | zero =>
    have e : s = 0 := by omega
    rw [← e]
    exact h
  | succ i ih =>
    rcases Nat.eq_or_lt_of_le h1 with e | e
    · rw [← e]; exact h
    · exact fit_more (h2 i (by omega) (by omega)) (ih (by omega) fun k a b => h2 k a (by omega))
theorem at_nil {fs : List PF} {i : Nat} : At fs [] i ↔ Clos fs 0 i := by
  have key : ∀ j, Fit (fs.take j) [] → j ≤ fs.length → Clos fs 0 j := by
    intro j
    induction j with
    | zero => exact fun _ _ => Clos.refl
    | succ j ih =>
      intro h hl
      have hf : fs[j]? = some fs[j] := List.getElem?_eq_getElem hl
      cases hm : fs[j].many with
      | true =>
        have hst : starAt fs j = true := by rw [starAt_eq hf]; exact hm
        obtain ⟨u, v, e, hu⟩ := (fit_take_star hst).mp h
        have e2 := List.append_eq_nil_iff.mp e.symm
        rw [e2.1] at hu
        exact (ih hu (by omega)).snoc hst
      | false =>
        obtain ⟨u, c, e, _⟩ := (fit_take_one hf hm).mp h
        exact absurd e.symm (by simp)
  constructor
  · rintro ⟨hl, h | ⟨hs, h⟩⟩
    · exact key i h hl
    · have hlt := starAt_lt hs
      have := key (i + 1) h (by omega)
      exact ⟨Nat.zero_le _, fun k a b => this.2 k a (by omega)⟩
  · intro h
    exact ⟨h.le (n := 0) (Nat.zero_le _), .inl (at_clos (Nat.zero_le _) (by simp [Fit]) i h)⟩
/-- one sign on -/
theorem at_snoc {fs : List PF} {w : List Nat} {c i : Nat} : At fs (w ++ [c]) i ↔ ∃ s f, At fs w s ∧ fs[s]? = some f ∧ f.fits c = true ∧ Clos fs (if f.many = true then s else s + 1) i := by
  have key : ∀ j, j ≤ fs.length → Fit (fs.take j) (w ++ [c]) → ∃ s f, At fs w s ∧ fs[s]? = some f ∧ f.fits c = true ∧ Clos fs (if f.many = true then s else s + 1) j := by
    intro j
    induction j with
    | zero => exact fun _ h => absurd (show w ++ [c] = [] from by simpa [Fit] using h) (by simp)
    | succ j ih =>
      intro hl h
      have hf : fs[j]? = some fs[j] := List.getElem?_eq_getElem hl
      cases hm : fs[j].many with
      | true =>
        have hst : starAt fs j = true := by rw [starAt_eq hf]; exact hm
        obtain ⟨u, v, e, hu⟩ := (fit_take_star hst).mp h
        rcases List.eq_nil_or_concat v with rfl | ⟨v', d, rfl⟩
        · rw [List.append_nil] at e
          rw [← e] at hu
          obtain ⟨s, f, a1, a2, a3, a4⟩ := ih (by omega) hu
          exact ⟨s, f, a1, a2, a3, a4.snoc hst⟩
        · rw [List.concat_eq_append, ← List.append_assoc] at e
          obtain ⟨e1, e2⟩ := List.append_inj' e rfl
          refine ⟨j, fs[j], ⟨by omega, .inr ⟨hst, (fit_take_star hst).mpr ⟨u, v', e1, hu⟩⟩⟩, hf, ?_, ?_⟩
          · cases hq : fs[j] with
            | stars => rfl
            | _ => rw [hq] at hm; cases hm
          · rw [if_pos hm]
            exact Clos.refl.snoc hst
      | false =>
        obtain ⟨u, d, e, hu, hd⟩ := (fit_take_one hf hm).mp h
        obtain ⟨e1, e2⟩ := List.append_inj' e rfl
        injection e2 with e3
        subst e1 e3
        exact ⟨j, fs[j], ⟨by omega, .inl hu⟩, hf, hd, by rw [if_neg (by rw [hm]; exact Bool.false_ne_true)]; exact Clos.refl⟩
  constructor
  · rintro ⟨hl, h | ⟨hs, h⟩⟩
    · exact key i hl h
    · have hlt := starAt_lt hs
      obtain ⟨u, v, e, hu⟩ := (fit_take_star hs).mp h
      have hf : fs[i]? = some fs[i] := List.getElem?_eq_getElem hlt
      have hm : fs[i].many = true := by rw [← starAt_eq hf]; exact hs
      rcases List.eq_nil_or_concat v with rfl | ⟨v', d, rfl⟩
      · rw [List.append_nil] at e
        rw [← e] at hu
        exact key i hl hu
      · rw [List.concat_eq_append, ← List.append_assoc] at e
        obtain ⟨e1, e2⟩ := List.append_inj' e rfl
        refine ⟨i, fs[i], ⟨hl, .inr ⟨hs, (fit_take_star hs).mpr ⟨u, v', e1, hu⟩⟩⟩, hf, ?_, ?_⟩
        · cases hq : fs[i] with
          | stars => rfl
          | _ => rw [hq] at hm; cases hm
        · rw [if_pos hm]
          exact Clos.refl
  · rintro ⟨s, f, ⟨hl, ha⟩, hf, hc, hcl⟩
    have hlt : s < fs.length := (List.getElem?_eq_some_iff.mp hf).1
    cases hm : f.many with
    | true =>
      rw [if_pos hm] at hcl
      have hst : starAt fs s = true := by rw [starAt_eq hf]; exact hm
      have h1 : Fit (fs.take (s + 1)) (w ++ [c]) := by
        rcases ha with h | ⟨_, h⟩
        · exact (fit_take_star hst).mpr ⟨w, [c], rfl, h⟩
        · obtain ⟨u, v, rfl, hu⟩ := (fit_take_star hst).mp h
          exact (fit_take_star hst).mpr ⟨u, v ++ [c], by rw [List.append_assoc], hu⟩
      rcases Nat.eq_or_lt_of_le hcl.1 with e | e
      · rw [← e]
        exact ⟨hl, .inr ⟨hst, h1⟩⟩
      · have h2 := at_clos hlt h1 i ⟨e, fun k a b => hcl.2 k (by omega) b⟩
        exact ⟨hcl.le (n := 0) hl, .inl h2⟩
    | false =>
      rw [if_neg (by rw [hm]; exact Bool.false_ne_true)] at hcl
      have h0 : Fit (fs.take s) w := by
        rcases ha with h | ⟨h, _⟩
        · exact h
        · rw [starAt_eq hf, hm] at h
          cases h
      have h1 : Fit (fs.take (s + 1)) (w ++ [c]) := (fit_take_one hf hm).mpr ⟨w, c, rfl, h0, hc⟩
      exact ⟨hcl.le (n := 0) hlt, .inl (at_clos hlt h1 i hcl)⟩
theorem at_end {fs : List PF} {w : List Nat} : At fs w fs.length ↔ Fit fs w := by
  unfold At
  rw [List.take_length]
  constructor
  · rintro ⟨_, h | ⟨h, _⟩⟩
    · exact h
    · exact absurd (starAt_lt h) (Nat.lt_irrefl _)
  · exact fun h => ⟨Nat.le_refl _, .inl h⟩
/-! ### forms of steps, steps as objects -/
inductive SF where
  | deep
  | seg (fs : List PF)
deriving DecidableEq
def SF.d : SF → PyData
  | .deep => .tuple [.str "deep"]
  | .seg fs => .tuple [.str "segment", .tuple (fs.map PF.d)]
/-- no two stars next to one another -/
def NoTwo : List PF → Prop
  | f :: g :: r => ¬ (f.many = true ∧ g.many = true) ∧ NoTwo (g :: r)
  | _ => True
structure PartsOk (fs : List PF) : Prop where
  ne : fs ≠ []
  ok : ∀ f ∈ fs, f.Ok
  two : NoTwo fs
  len : fs.length ≤ 60
def SF.Ok : SF → Prop
  | .deep => True
  | .seg fs => PartsOk fs
def SF.deepB : SF → Bool
  | .deep => true
  | _ => false
def SF.fits : SF → List Nat → Prop
  | .deep, _ => True
  | .seg fs, w => Fit fs w
theorem SF.dok {f : SF} (h : f.Ok) : DOk 3 f.d := by
  cases f with
  | deep => exact (dok_tup (n := 0) (all_cons (dok_str (by decide +kernel)) all_nil)).up (by decide)
  | seg fs => exact dok_tup (all_cons (dok_str (by decide +kernel)) (all_cons (dok_tup fun d hd => by
      obtain ⟨f, hf, rfl⟩ := List.mem_map.mp hd
      exact PF.dok (h.ok f hf)) all_nil))
section
variable {K : PySem.W.Frag}
/-- us are the parts fs -/
def PartsV (K : PySem.W.Frag) (fs : List PF) (us : List V) (H : Hp) : Prop := us.length = fs.length ∧ ∀ (i : Nat) (f : PF), fs[i]? = some f → ∃ u, us[i]? = some u ∧ PartV K f u H
theorem PartsV.nl {fs : List PF} {us : List V} {H H' : Hp} (h : PartsV K fs us H) (e : NL H H') : PartsV K fs us H' := ⟨h.1, fun i f hf => let ⟨u, a, b⟩ := h.2 i f hf; ⟨u, a, b.nl e⟩⟩
theorem PartsV.mono {fs : List PF} {us : List V} {H H' : Hp} (h : PartsV K fs us H) (e : Same H H') : PartsV K fs us H' := h.nl (.of e)
theorem PartsV.nil {H : Hp} : PartsV K [] [] H := ⟨rfl, fun i f h => by simp at h⟩
theorem PartsV.snoc {fs : List PF} {us : List V} {H : Hp} {f : PF} {u : V} (h : PartsV K fs us H) (g : PartV K f u H) : PartsV K (fs ++ [f]) (us ++ [u]) H := by
  refine ⟨by rw [List.length_append, List.length_append, h.1]; rfl, fun i f' hf => ?_⟩
  rcases Nat.lt_trichotomy i fs.length with e | e | e
  · rw [List.getElem?_append_left e] at hf
    obtain ⟨w, a, b⟩ := h.2 i f' hf
    exact ⟨w, by rw [List.getElem?_append_left (by rw [h.1]; exact e)]; exact a, b⟩
  · subst e
    rw [List.getElem?_append_right (Nat.le_refl _), Nat.sub_self] at hf
    have ef : f = f' := Option.some.inj hf
    subst ef
    exact ⟨u, by rw [← h.1, List.getElem?_append_right (Nat.le_refl _), Nat.sub_self]; rfl, g⟩
  · rw [List.getElem?_eq_none (by rw [List.length_append]; exact e)] at hf
    cases hf
def StepV (K : PySem.W.Frag) (f : SF) (v : V) (H : Hp) : Prop := match f with
  | .deep => ∃ p dx, v = .ref p ∧ H p = some (.ins (He.ga K "Deep") dx [])
  | .seg fs => ∃ p dx t us, v = .ref p ∧ H p = some (.ins (He.ga K "Segment") dx [("parts", .ref t)]) ∧ H t = some (.tup us) ∧ PartsV K fs us H ∧ fs ≠ []
theorem StepV.nl {f : SF} {v : V} {H H' : Hp} (h : StepV K f v H) (e : NL H H') : StepV K f v H' := by
  cases f with
  | deep => obtain ⟨p, dx, a, b⟩ := h; exact ⟨p, dx, a, e _ _ b fun _ z => nomatch z⟩
  | seg fs => obtain ⟨p, dx, t, us, a, b, c, d, z⟩ := h; exact ⟨p, dx, t, us, a, e _ _ b fun _ z => (nomatch z), e _ _ c fun _ z => (nomatch z), d.nl e, z⟩
theorem StepV.mono {f : SF} {v : V} {H H' : Hp} (h : StepV K f v H) (e : Same H H') : StepV K f v H' := h.nl (.of e)
end
/-- parts with the second of two stars left out -/
def normP (fs : List PF) : List PF := fs.foldl (fun acc f => if acc = [] ∨ f.many = false ∨ acc.getLast?.map PF.many = some false then acc ++ [f] else acc) []
def normOne (acc : List PF) (f : PF) : List PF := if acc = [] ∨ f.many = false ∨ acc.getLast?.map PF.many = some false then acc ++ [f] else acc
theorem norm_take {fs : List PF} {k : Nat} {f : PF} (h : fs[k]? = some f) : (fs.take (k + 1)).foldl normOne [] = normOne ((fs.take k).foldl normOne []) f := by
  rw [take_succ' h, List.foldl_append]
  rfl
end SL
namespace SL
open PySem PySem.Spec PyProof.Rows L2
abbrev fA (K : PySem.W.Frag) (x : Str) : Addr := He.ga K x
abbrev mA (K : PySem.W.Frag) (C m : Str) : Addr := He.ma K (He.ga K C) m
structure Txt (K : PySem.W.Frag) (mg : Str → Option Value) : Prop where
  F__wall : ∃ fd, FunD K "_wall" "_wall" (defArgs TX.s__wall) (defBody TX.s__wall) (defScope TX.s__wall) [] [] (fA K "_wall") fd
  F_spot_rank : ∃ fd, FunD K "spot_rank" "spot_rank" (defArgs TX.s_spot_rank) (defBody TX.s_spot_rank) (defScope TX.s_spot_rank) [] [] (fA K "spot_rank") fd
  F_rising : ∃ fd, FunD K "rising" "rising" (defArgs TX.s_rising) (defBody TX.s_rising) (defScope TX.s_rising) [] [] (fA K "rising") fd
  F_at_begin : ∃ fd, FunD K "at_begin" "at_begin" (defArgs TX.s_at_begin) (defBody TX.s_at_begin) (defScope TX.s_at_begin) [] [] (fA K "at_begin") fd
  F_within : ∃ fd, FunD K "within" "within" (defArgs TX.s_within) (defBody TX.s_within) (defScope TX.s_within) [] [] (fA K "within") fd
  F_begin : ∃ fd, FunD K "begin" "begin" (defArgs TX.s_begin) (defBody TX.s_begin) (defScope TX.s_begin) [] [] (fA K "begin") fd
  F_by_part : ∃ fd, FunD K "by_part" "by_part" (defArgs TX.s_by_part) (defBody TX.s_by_part) (defScope TX.s_by_part) [] [] (fA K "by_part") fd
  F_by_sign : ∃ fd, FunD K "by_sign" "by_sign" (defArgs TX.s_by_sign) (defBody TX.s_by_sign) (defScope TX.s_by_sign) [] [] (fA K "by_sign") fd
  F_by_slash : ∃ fd, FunD K "by_slash" "by_slash" (defArgs TX.s_by_slash) (defBody TX.s_by_slash) (defScope TX.s_by_slash) [] [] (fA K "by_slash") fd
  F_fits_folder : ∃ fd, FunD K "fits_folder" "fits_folder" (defArgs TX.s_fits_folder) (defBody TX.s_fits_folder) (defScope TX.s_fits_folder) [] [] (fA K "fits_folder") fd
  F_fits_leaf : ∃ fd, FunD K "fits_leaf" "fits_leaf" (defArgs TX.s_fits_leaf) (defBody TX.s_fits_leaf) (defScope TX.s_fits_leaf) [] [] (fA K "fits_leaf") fd
  F_is_sign : ∃ fd, FunD K "is_sign" "is_sign" (defArgs TX.s_is_sign) (defBody TX.s_is_sign) (defScope TX.s_is_sign) [] [] (fA K "is_sign") fd
  F__law_cell : ∃ fd, FunD K "_law_cell" "_law_cell" (defArgs TX.s__law_cell) (defBody TX.s__law_cell) (defScope TX.s__law_cell) [] [] (fA K "_law_cell") fd
  F__law_mixed : ∃ fd, FunD K "_law_mixed" "_law_mixed" (defArgs TX.s__law_mixed) (defBody TX.s__law_mixed) (defScope TX.s__law_mixed) [] [] (fA K "_law_mixed") fd
  F__law_signs : ∃ fd, FunD K "_law_signs" "_law_signs" (defArgs TX.s__law_signs) (defBody TX.s__law_signs) (defScope TX.s__law_signs) [] [] (fA K "_law_signs") fd
  F__law_part : ∃ fd, FunD K "_law_part" "_law_part" (defArgs TX.s__law_part) (defBody TX.s__law_part) (defScope TX.s__law_part) [] [] (fA K "_law_part") fd
  F__law_segment : ∃ fd, FunD K "_law_segment" "_law_segment" (defArgs TX.s__law_segment) (defBody TX.s__law_segment) (defScope TX.s__law_segment) [] [] (fA K "_law_segment") fd
  F__law_row : ∃ fd, FunD K "_law_row" "_law_row" (defArgs TX.s__law_row) (defBody TX.s__law_row) (defScope TX.s__law_row) [] [] (fA K "_law_row") fd
  F__law_long : ∃ fd, FunD K "_law_long" "_law_long" (defArgs TX.s__law_long) (defBody TX.s__law_long) (defScope TX.s__law_long) [] [] (fA K "_law_long") fd
  F__law_part_made : ∃ fd, FunD K "_law_part_made" "_law_part_made" (defArgs TX.s__law_part_made) (defBody TX.s__law_part_made) (defScope TX.s__law_part_made) [] [] (fA K "_law_part_made") fd
  F__law_row_made : ∃ fd, FunD K "_law_row_made" "_law_row_made" (defArgs TX.s__law_row_made) (defBody TX.s__law_row_made) (defScope TX.s__law_row_made) [] [] (fA K "_law_row_made") fd
  F__law_filled : ∃ fd, FunD K "_law_filled" "_law_filled" (defArgs TX.s__law_filled) (defBody TX.s__law_filled) (defScope TX.s__law_filled) [] [] (fA K "_law_filled") fd
  F__law_names : ∃ fd, FunD K "_law_names" "_law_names" (defArgs TX.s__law_names) (defBody TX.s__law_names) (defScope TX.s__law_names) [] [] (fA K "_law_names") fd
  F__law_path : ∃ fd, FunD K "_law_path" "_law_path" (defArgs TX.s__law_path) (defBody TX.s__law_path) (defScope TX.s__law_path) [] [] (fA K "_law_path") fd
  F__law_fits_sign : ∃ fd, FunD K "_law_fits_sign" "_law_fits_sign" (defArgs TX.s__law_fits_sign) (defBody TX.s__law_fits_sign) (defScope TX.s__law_fits_sign) [] [] (fA K "_law_fits_sign") fd
  F__law_fits_parts : ∃ fd, FunD K "_law_fits_parts" "_law_fits_parts" (defArgs TX.s__law_fits_parts) (defBody TX.s__law_fits_parts) (defScope TX.s__law_fits_parts) [] [] (fA K "_law_fits_parts") fd
  F__law_fits_steps : ∃ fd, FunD K "_law_fits_steps" "_law_fits_steps" (defArgs TX.s__law_fits_steps) (defBody TX.s__law_fits_steps) (defScope TX.s__law_fits_steps) [] [] (fA K "_law_fits_steps") fd
  F__law_stand : ∃ fd, FunD K "_law_stand" "_law_stand" (defArgs TX.s__law_stand) (defBody TX.s__law_stand) (defScope TX.s__law_stand) [] [] (fA K "_law_stand") fd
  F__law_right : ∃ fd, FunD K "_law_right" "_law_right" (defArgs TX.s__law_right) (defBody TX.s__law_right) (defScope TX.s__law_right) [] [] (fA K "_law_right") fd
  F__law_read : ∃ fd, FunD K "_law_read" "_law_read" (defArgs TX.s__law_read) (defBody TX.s__law_read) (defScope TX.s__law_read) [] [] (fA K "_law_read") fd
  F_law : ∃ fd, FunD K "law" "law" (defArgs TX.s_law) (defBody TX.s_law) (defScope TX.s_law) [] [] (fA K "law") fd
  F_Part_fits : ∃ fd, FunD K "fits" "Part.fits" (defArgs TX.s_Part_fits) (defBody TX.s_Part_fits) (defScope TX.s_Part_fits) [] [] (mA K "Part" "fits") fd
  F_Part_many : ∃ fd, FunD K "many" "Part.many" (defArgs TX.s_Part_many) (defBody TX.s_Part_many) (defScope TX.s_Part_many) [] [] (mA K "Part" "many") fd
  F_Part_told : ∃ fd, FunD K "told" "Part.told" (defArgs TX.s_Part_told) (defBody TX.s_Part_told) (defScope TX.s_Part_told) [] [] (mA K "Part" "told") fd
  F_Any_fits : ∃ fd, FunD K "fits" "Part.fits" (defArgs TX.s_Part_fits) (defBody TX.s_Part_fits) (defScope TX.s_Part_fits) [] [] (mA K "Any" "fits") fd
  F_Any_many : ∃ fd, FunD K "many" "Part.many" (defArgs TX.s_Part_many) (defBody TX.s_Part_many) (defScope TX.s_Part_many) [] [] (mA K "Any" "many") fd
  F_Any_told : ∃ fd, FunD K "told" "Part.told" (defArgs TX.s_Part_told) (defBody TX.s_Part_told) (defScope TX.s_Part_told) [] [] (mA K "Any" "told") fd
  F_One_fits : ∃ fd, FunD K "fits" "One.fits" (defArgs TX.s_One_fits) (defBody TX.s_One_fits) (defScope TX.s_One_fits) [] [] (mA K "One" "fits") fd
  F_One_many : ∃ fd, FunD K "many" "Part.many" (defArgs TX.s_Part_many) (defBody TX.s_Part_many) (defScope TX.s_Part_many) [] [] (mA K "One" "many") fd
  F_One_told : ∃ fd, FunD K "told" "One.told" (defArgs TX.s_One_told) (defBody TX.s_One_told) (defScope TX.s_One_told) [] [] (mA K "One" "told") fd
  F_One___init__ : ∃ fd, FunD K "__init__" "One.__init__" (defArgs TX.s_One___init__) (defBody TX.s_One___init__) (defScope TX.s_One___init__) [] [] (mA K "One" "__init__") fd
  F_Among_fits : ∃ fd, FunD K "fits" "Among.fits" (defArgs TX.s_Among_fits) (defBody TX.s_Among_fits) (defScope TX.s_Among_fits) [] [] (mA K "Among" "fits") fd
  F_Among_many : ∃ fd, FunD K "many" "Part.many" (defArgs TX.s_Part_many) (defBody TX.s_Part_many) (defScope TX.s_Part_many) [] [] (mA K "Among" "many") fd
  F_Among_told : ∃ fd, FunD K "told" "Among.told" (defArgs TX.s_Among_told) (defBody TX.s_Among_told) (defScope TX.s_Among_told) [] [] (mA K "Among" "told") fd
  F_Among___init__ : ∃ fd, FunD K "__init__" "Among.__init__" (defArgs TX.s_Among___init__) (defBody TX.s_Among___init__) (defScope TX.s_Among___init__) [V.bl false] [] (mA K "Among" "__init__") fd
  F_Stars_fits : ∃ fd, FunD K "fits" "Part.fits" (defArgs TX.s_Part_fits) (defBody TX.s_Part_fits) (defScope TX.s_Part_fits) [] [] (mA K "Stars" "fits") fd
  F_Stars_many : ∃ fd, FunD K "many" "Stars.many" (defArgs TX.s_Stars_many) (defBody TX.s_Stars_many) (defScope TX.s_Stars_many) [] [] (mA K "Stars" "many") fd
  F_Stars_told : ∃ fd, FunD K "told" "Stars.told" (defArgs TX.s_Stars_told) (defBody TX.s_Stars_told) (defScope TX.s_Stars_told) [] [] (mA K "Stars" "told") fd
  F_Step_deep : ∃ fd, FunD K "deep" "Step.deep" (defArgs TX.s_Step_deep) (defBody TX.s_Step_deep) (defScope TX.s_Step_deep) [] [] (mA K "Step" "deep") fd
  F_Step_fits_name : ∃ fd, FunD K "fits_name" "Step.fits_name" (defArgs TX.s_Step_fits_name) (defBody TX.s_Step_fits_name) (defScope TX.s_Step_fits_name) [] [] (mA K "Step" "fits_name") fd
  F_Step_told : ∃ fd, FunD K "told" "Step.told" (defArgs TX.s_Step_told) (defBody TX.s_Step_told) (defScope TX.s_Step_told) [] [] (mA K "Step" "told") fd
  F_Deep_deep : ∃ fd, FunD K "deep" "Deep.deep" (defArgs TX.s_Deep_deep) (defBody TX.s_Deep_deep) (defScope TX.s_Deep_deep) [] [] (mA K "Deep" "deep") fd
  F_Deep_fits_name : ∃ fd, FunD K "fits_name" "Step.fits_name" (defArgs TX.s_Step_fits_name) (defBody TX.s_Step_fits_name) (defScope TX.s_Step_fits_name) [] [] (mA K "Deep" "fits_name") fd
  F_Deep_told : ∃ fd, FunD K "told" "Step.told" (defArgs TX.s_Step_told) (defBody TX.s_Step_told) (defScope TX.s_Step_told) [] [] (mA K "Deep" "told") fd
  F_Segment_deep : ∃ fd, FunD K "deep" "Step.deep" (defArgs TX.s_Step_deep) (defBody TX.s_Step_deep) (defScope TX.s_Step_deep) [] [] (mA K "Segment" "deep") fd
  F_Segment_fits_name : ∃ fd, FunD K "fits_name" "Segment.fits_name" (defArgs TX.s_Segment_fits_name) (defBody TX.s_Segment_fits_name) (defScope TX.s_Segment_fits_name) [] [] (mA K "Segment" "fits_name") fd
  F_Segment_told : ∃ fd, FunD K "told" "Segment.told" (defArgs TX.s_Segment_told) (defBody TX.s_Segment_told) (defScope TX.s_Segment_told) [] [] (mA K "Segment" "told") fd
  F_Segment___init__ : ∃ fd, FunD K "__init__" "Segment.__init__" (defArgs TX.s_Segment___init__) (defBody TX.s_Segment___init__) (defScope TX.s_Segment___init__) [] [] (mA K "Segment" "__init__") fd
  F_Row___init__ : ∃ fd, FunD K "__init__" "Row.__init__" (defArgs TX.s_Row___init__) (defBody TX.s_Row___init__) (defScope TX.s_Row___init__) [V.bl false, V.bl false] [] (mA K "Row" "__init__") fd
  F_Row_told : ∃ fd, FunD K "told" "Row.told" (defArgs TX.s_Row_told) (defBody TX.s_Row_told) (defScope TX.s_Row_told) [] [] (mA K "Row" "told") fd
  g__wall : mg "_wall" = some (.ref (fA K "_wall"))
  g_spot_rank : mg "spot_rank" = some (.ref (fA K "spot_rank"))
  g_rising : mg "rising" = some (.ref (fA K "rising"))
  g_at_begin : mg "at_begin" = some (.ref (fA K "at_begin"))
  g_within : mg "within" = some (.ref (fA K "within"))
  g_begin : mg "begin" = some (.ref (fA K "begin"))
  g_by_part : mg "by_part" = some (.ref (fA K "by_part"))
  g_by_sign : mg "by_sign" = some (.ref (fA K "by_sign"))
  g_by_slash : mg "by_slash" = some (.ref (fA K "by_slash"))
  g_fits_folder : mg "fits_folder" = some (.ref (fA K "fits_folder"))
  g_fits_leaf : mg "fits_leaf" = some (.ref (fA K "fits_leaf"))
  g_is_sign : mg "is_sign" = some (.ref (fA K "is_sign"))
  g__law_cell : mg "_law_cell" = some (.ref (fA K "_law_cell"))
  g__law_mixed : mg "_law_mixed" = some (.ref (fA K "_law_mixed"))
  g__law_signs : mg "_law_signs" = some (.ref (fA K "_law_signs"))
  g__law_part : mg "_law_part" = some (.ref (fA K "_law_part"))
  g__law_segment : mg "_law_segment" = some (.ref (fA K "_law_segment"))
  g__law_row : mg "_law_row" = some (.ref (fA K "_law_row"))
  g__law_long : mg "_law_long" = some (.ref (fA K "_law_long"))
  g__law_part_made : mg "_law_part_made" = some (.ref (fA K "_law_part_made"))
  g__law_row_made : mg "_law_row_made" = some (.ref (fA K "_law_row_made"))
  g__law_filled : mg "_law_filled" = some (.ref (fA K "_law_filled"))
  g__law_names : mg "_law_names" = some (.ref (fA K "_law_names"))
  g__law_path : mg "_law_path" = some (.ref (fA K "_law_path"))
  g__law_fits_sign : mg "_law_fits_sign" = some (.ref (fA K "_law_fits_sign"))
  g__law_fits_parts : mg "_law_fits_parts" = some (.ref (fA K "_law_fits_parts"))
  g__law_fits_steps : mg "_law_fits_steps" = some (.ref (fA K "_law_fits_steps"))
  g__law_stand : mg "_law_stand" = some (.ref (fA K "_law_stand"))
  g__law_right : mg "_law_right" = some (.ref (fA K "_law_right"))
  g__law_read : mg "_law_read" = some (.ref (fA K "_law_read"))
  g_law : mg "law" = some (.ref (fA K "law"))
  g_ShunError : mg "ShunError" = some (.ref (fA K "ShunError"))
  k_ShunError : PySem.W.keepIn K (.ref (fA K "ShunError")) = true
  x_ShunError : ExcK K (fA K "ShunError")
  g_NoPart : mg "NoPart" = some (.ref (fA K "NoPart"))
  k_NoPart : PySem.W.keepIn K (.ref (fA K "NoPart")) = true
  x_NoPart : ExcK K (fA K "NoPart")
  g_Part : mg "Part" = some (.ref (fA K "Part"))
  k_Part : PySem.W.keepIn K (.ref (fA K "Part")) = true
  c_Part : Cls K (fA K "Part")
  m_Part_fits : Meth K (fA K "Part") "fits" (mA K "Part" "fits")
  m_Part_many : Meth K (fA K "Part") "many" (mA K "Part" "many")
  m_Part_told : Meth K (fA K "Part") "told" (mA K "Part" "told")
  g_Any : mg "Any" = some (.ref (fA K "Any"))
  k_Any : PySem.W.keepIn K (.ref (fA K "Any")) = true
  c_Any : Cls K (fA K "Any")
  m_Any_fits : Meth K (fA K "Any") "fits" (mA K "Any" "fits")
  m_Any_many : Meth K (fA K "Any") "many" (mA K "Any" "many")
  m_Any_told : Meth K (fA K "Any") "told" (mA K "Any" "told")
  g_One : mg "One" = some (.ref (fA K "One"))
  k_One : PySem.W.keepIn K (.ref (fA K "One")) = true
  c_One : Cls K (fA K "One")
  n_One_sign : NoAttr K (fA K "One") "sign"
  m_One_fits : Meth K (fA K "One") "fits" (mA K "One" "fits")
  m_One_many : Meth K (fA K "One") "many" (mA K "One" "many")
  m_One_told : Meth K (fA K "One") "told" (mA K "One" "told")
  m_One___init__ : Meth K (fA K "One") "__init__" (mA K "One" "__init__")
  mk_One : Mk K (fA K "One") (mA K "One" "__init__")
  g_Among : mg "Among" = some (.ref (fA K "Among"))
  k_Among : PySem.W.keepIn K (.ref (fA K "Among")) = true
  c_Among : Cls K (fA K "Among")
  n_Among_signs : NoAttr K (fA K "Among") "signs"
  n_Among_outside : NoAttr K (fA K "Among") "outside"
  m_Among_fits : Meth K (fA K "Among") "fits" (mA K "Among" "fits")
  m_Among_many : Meth K (fA K "Among") "many" (mA K "Among" "many")
  m_Among_told : Meth K (fA K "Among") "told" (mA K "Among" "told")
  m_Among___init__ : Meth K (fA K "Among") "__init__" (mA K "Among" "__init__")
  mk_Among : Mk K (fA K "Among") (mA K "Among" "__init__")
  g_Stars : mg "Stars" = some (.ref (fA K "Stars"))
  k_Stars : PySem.W.keepIn K (.ref (fA K "Stars")) = true
  c_Stars : Cls K (fA K "Stars")
  m_Stars_fits : Meth K (fA K "Stars") "fits" (mA K "Stars" "fits")
  m_Stars_many : Meth K (fA K "Stars") "many" (mA K "Stars" "many")
  m_Stars_told : Meth K (fA K "Stars") "told" (mA K "Stars" "told")
  g_Step : mg "Step" = some (.ref (fA K "Step"))
  k_Step : PySem.W.keepIn K (.ref (fA K "Step")) = true
  c_Step : Cls K (fA K "Step")
  m_Step_deep : Meth K (fA K "Step") "deep" (mA K "Step" "deep")
  m_Step_fits_name : Meth K (fA K "Step") "fits_name" (mA K "Step" "fits_name")
  m_Step_told : Meth K (fA K "Step") "told" (mA K "Step" "told")
  g_Deep : mg "Deep" = some (.ref (fA K "Deep"))
  k_Deep : PySem.W.keepIn K (.ref (fA K "Deep")) = true
  c_Deep : Cls K (fA K "Deep")
  m_Deep_deep : Meth K (fA K "Deep") "deep" (mA K "Deep" "deep")
  m_Deep_fits_name : Meth K (fA K "Deep") "fits_name" (mA K "Deep" "fits_name")
  m_Deep_told : Meth K (fA K "Deep") "told" (mA K "Deep" "told")
  g_Segment : mg "Segment" = some (.ref (fA K "Segment"))
  k_Segment : PySem.W.keepIn K (.ref (fA K "Segment")) = true
  c_Segment : Cls K (fA K "Segment")
  n_Segment_parts : NoAttr K (fA K "Segment") "parts"
  m_Segment_deep : Meth K (fA K "Segment") "deep" (mA K "Segment" "deep")
  m_Segment_fits_name : Meth K (fA K "Segment") "fits_name" (mA K "Segment" "fits_name")
  m_Segment_told : Meth K (fA K "Segment") "told" (mA K "Segment" "told")
  m_Segment___init__ : Meth K (fA K "Segment") "__init__" (mA K "Segment" "__init__")
  mk_Segment : Mk K (fA K "Segment") (mA K "Segment" "__init__")
  g_Row : mg "Row" = some (.ref (fA K "Row"))
  k_Row : PySem.W.keepIn K (.ref (fA K "Row")) = true
  c_Row : Cls K (fA K "Row")
  n_Row_steps : NoAttr K (fA K "Row") "steps"
  n_Row_spares : NoAttr K (fA K "Row") "spares"
  n_Row_folders : NoAttr K (fA K "Row") "folders"
  m_Row___init__ : Meth K (fA K "Row") "__init__" (mA K "Row" "__init__")
  m_Row_told : Meth K (fA K "Row") "told" (mA K "Row" "told")
  mk_Row : Mk K (fA K "Row") (mA K "Row" "__init__")
  s_SIGNS : ∃ t, mg "SIGNS" = some (.str "-.0123456789_abcdefghijklmnopqrstuvwxyz" t)
  fr_len : mg "len" = none
  fr_range : mg "range" = none
  fr_all : mg "all" = none
  fr_set : mg "set" = none
  fr_sorted : mg "sorted" = none
  fr_list : mg "list" = none
  fr_tuple : mg "tuple" = none
  fr_int : mg "int" = none
  fr_max : mg "max" = none
  fr_min : mg "min" = none
  mn_Part : MkN K (fA K "Part")
  mn_Any : MkN K (fA K "Any")
  mn_Stars : MkN K (fA K "Stars")
  mn_Step : MkN K (fA K "Step")
  mn_Deep : MkN K (fA K "Deep")
theorem Txt.obj {K : PySem.W.Frag} {mg : Str → Option Value} (T : Txt K mg) : Cls K (fA K "Part") ∧ Cls K (fA K "Any") ∧ Cls K (fA K "One") ∧ Cls K (fA K "Among") ∧ Cls K (fA K "Stars") ∧ Cls K (fA K "Step") ∧ Cls K (fA K "Deep") ∧ Cls K (fA K "Segment") ∧ Cls K (fA K "Row") ∧ NoAttr K (fA K "One") "sign" ∧ NoAttr K (fA K "Among") "signs" ∧ NoAttr K (fA K "Among") "outside" ∧ NoAttr K (fA K "Segment") "parts" ∧ NoAttr K (fA K "Row") "steps" ∧ NoAttr K (fA K "Row") "spares" ∧ NoAttr K (fA K "Row") "folders" := ⟨T.c_Part, T.c_Any, T.c_One, T.c_Among, T.c_Stars, T.c_Step, T.c_Deep, T.c_Segment, T.c_Row, T.n_One_sign, T.n_Among_signs, T.n_Among_outside, T.n_Segment_parts, T.n_Row_steps, T.n_Row_spares, T.n_Row_folders⟩
end SL
namespace SL
open PySem PySem.Spec PyProof.Rows L2
abbrev N__wall : List Str := ["k"]
theorem sc__wall : FnScope ["k"] ["k"] (defScope TX.s__wall) := ⟨rfl, rfl, rfl, by decide +kernel, rfl, by decide +kernel, by decide +kernel⟩
abbrev N_spot_rank : List Str := ["spot"]
theorem sc_spot_rank : FnScope ["spot"] ["spot"] (defScope TX.s_spot_rank) := ⟨rfl, rfl, rfl, by decide +kernel, rfl, by decide +kernel, by decide +kernel⟩
abbrev N_rising : List Str := ["spots", "found", "spot"]
theorem sc_rising : FnScope ["spots", "found", "spot"] ["spots"] (defScope TX.s_rising) := ⟨rfl, rfl, rfl, by decide +kernel, rfl, by decide +kernel, by decide +kernel⟩
abbrev N_at_begin : List Str := ["row", "number", "found"]
theorem sc_at_begin : FnScope ["row", "number", "found"] ["row", "number"] (defScope TX.s_at_begin) := ⟨rfl, rfl, rfl, by decide +kernel, rfl, by decide +kernel, by decide +kernel⟩
abbrev N_within : List Str := ["row", "number", "spot", "parts", "found"]
theorem sc_within : FnScope ["row", "number", "spot", "parts", "found"] ["row", "number", "spot"] (defScope TX.s_within) := ⟨rfl, rfl, rfl, by decide +kernel, rfl, by decide +kernel, by decide +kernel⟩
abbrev N_begin : List Str := ["row"]
theorem sc_begin : FnScope ["row"] ["row"] (defScope TX.s_begin) := ⟨rfl, rfl, rfl, by decide +kernel, rfl, by decide +kernel, by decide +kernel⟩
abbrev N_by_part : List Str := ["row", "number", "spot", "sign", "parts"]
theorem sc_by_part : FnScope ["row", "number", "spot", "sign", "parts"] ["row", "number", "spot", "sign"] (defScope TX.s_by_part) := ⟨rfl, rfl, rfl, by decide +kernel, rfl, by decide +kernel, by decide +kernel⟩
abbrev N_by_sign : List Str := ["row", "stand", "sign", "found", "number", "spot", "number_too", "first"]
theorem sc_by_sign : FnScope ["row", "stand", "sign", "found", "number", "spot", "number_too", "first"] ["row", "stand", "sign"] (defScope TX.s_by_sign) := ⟨rfl, rfl, rfl, by decide +kernel, rfl, by decide +kernel, by decide +kernel⟩
abbrev N_by_slash : List Str := ["row", "stand", "found", "number", "spot"]
theorem sc_by_slash : FnScope ["row", "stand", "found", "number", "spot"] ["row", "stand"] (defScope TX.s_by_slash) := ⟨rfl, rfl, rfl, by decide +kernel, rfl, by decide +kernel, by decide +kernel⟩
abbrev N_fits_folder : List Str := ["row", "stand"]
theorem sc_fits_folder : FnScope ["row", "stand"] ["row", "stand"] (defScope TX.s_fits_folder) := ⟨rfl, rfl, rfl, by decide +kernel, rfl, by decide +kernel, by decide +kernel⟩
abbrev N_fits_leaf : List Str := ["row", "stand"]
theorem sc_fits_leaf : FnScope ["row", "stand"] ["row", "stand"] (defScope TX.s_fits_leaf) := ⟨rfl, rfl, rfl, by decide +kernel, rfl, by decide +kernel, by decide +kernel⟩
abbrev N_is_sign : List Str := ["thing"]
theorem sc_is_sign : FnScope ["thing"] ["thing"] (defScope TX.s_is_sign) := ⟨rfl, rfl, rfl, by decide +kernel, rfl, by decide +kernel, by decide +kernel⟩
abbrev N_Part_fits : List Str := ["self", "sign"]
theorem sc_Part_fits : FnScope ["self", "sign"] ["self", "sign"] (defScope TX.s_Part_fits) := ⟨rfl, rfl, rfl, by decide +kernel, rfl, by decide +kernel, by decide +kernel⟩
abbrev N_Part_many : List Str := ["self"]
theorem sc_Part_many : FnScope ["self"] ["self"] (defScope TX.s_Part_many) := ⟨rfl, rfl, rfl, by decide +kernel, rfl, by decide +kernel, by decide +kernel⟩
abbrev N_Part_told : List Str := ["self"]
theorem sc_Part_told : FnScope ["self"] ["self"] (defScope TX.s_Part_told) := ⟨rfl, rfl, rfl, by decide +kernel, rfl, by decide +kernel, by decide +kernel⟩
abbrev N_One___init__ : List Str := ["self", "sign"]
theorem sc_One___init__ : FnScope ["self", "sign"] ["self", "sign"] (defScope TX.s_One___init__) := ⟨rfl, rfl, rfl, by decide +kernel, rfl, by decide +kernel, by decide +kernel⟩
abbrev N_One_fits : List Str := ["self", "sign"]
theorem sc_One_fits : FnScope ["self", "sign"] ["self", "sign"] (defScope TX.s_One_fits) := ⟨rfl, rfl, rfl, by decide +kernel, rfl, by decide +kernel, by decide +kernel⟩
abbrev N_One_told : List Str := ["self"]
theorem sc_One_told : FnScope ["self"] ["self"] (defScope TX.s_One_told) := ⟨rfl, rfl, rfl, by decide +kernel, rfl, by decide +kernel, by decide +kernel⟩
abbrev N_Among___init__ : List Str := ["self", "signs", "outside", "sign"]
theorem sc_Among___init__ : FnScope ["self", "signs", "outside", "sign"] ["self", "signs", "outside"] (defScope TX.s_Among___init__) := ⟨rfl, rfl, rfl, by decide +kernel, rfl, by decide +kernel, by decide +kernel⟩
abbrev N_Among_fits : List Str := ["self", "sign"]
theorem sc_Among_fits : FnScope ["self", "sign"] ["self", "sign"] (defScope TX.s_Among_fits) := ⟨rfl, rfl, rfl, by decide +kernel, rfl, by decide +kernel, by decide +kernel⟩
abbrev N_Among_told : List Str := ["self"]
theorem sc_Among_told : FnScope ["self"] ["self"] (defScope TX.s_Among_told) := ⟨rfl, rfl, rfl, by decide +kernel, rfl, by decide +kernel, by decide +kernel⟩
abbrev N_Stars_many : List Str := ["self"]
theorem sc_Stars_many : FnScope ["self"] ["self"] (defScope TX.s_Stars_many) := ⟨rfl, rfl, rfl, by decide +kernel, rfl, by decide +kernel, by decide +kernel⟩
abbrev N_Stars_told : List Str := ["self"]
theorem sc_Stars_told : FnScope ["self"] ["self"] (defScope TX.s_Stars_told) := ⟨rfl, rfl, rfl, by decide +kernel, rfl, by decide +kernel, by decide +kernel⟩
abbrev N_Step_deep : List Str := ["self"]
theorem sc_Step_deep : FnScope ["self"] ["self"] (defScope TX.s_Step_deep) := ⟨rfl, rfl, rfl, by decide +kernel, rfl, by decide +kernel, by decide +kernel⟩
abbrev N_Step_fits_name : List Str := ["self", "name"]
theorem sc_Step_fits_name : FnScope ["self", "name"] ["self", "name"] (defScope TX.s_Step_fits_name) := ⟨rfl, rfl, rfl, by decide +kernel, rfl, by decide +kernel, by decide +kernel⟩
abbrev N_Step_told : List Str := ["self"]
theorem sc_Step_told : FnScope ["self"] ["self"] (defScope TX.s_Step_told) := ⟨rfl, rfl, rfl, by decide +kernel, rfl, by decide +kernel, by decide +kernel⟩
abbrev N_Deep_deep : List Str := ["self"]
theorem sc_Deep_deep : FnScope ["self"] ["self"] (defScope TX.s_Deep_deep) := ⟨rfl, rfl, rfl, by decide +kernel, rfl, by decide +kernel, by decide +kernel⟩
abbrev N_Segment___init__ : List Str := ["self", "parts", "found", "part"]
theorem sc_Segment___init__ : FnScope ["self", "parts", "found", "part"] ["self", "parts"] (defScope TX.s_Segment___init__) := ⟨rfl, rfl, rfl, by decide +kernel, rfl, by decide +kernel, by decide +kernel⟩
abbrev N_Segment_fits_name : List Str := ["self", "name"]
theorem sc_Segment_fits_name : FnScope ["self", "name"] ["self", "name"] (defScope TX.s_Segment_fits_name) := ⟨rfl, rfl, rfl, by decide +kernel, rfl, by decide +kernel, by decide +kernel⟩
abbrev N_Segment_told : List Str := ["self", "part"]
theorem sc_Segment_told : FnScope ["self", "part"] ["self"] (defScope TX.s_Segment_told) := ⟨rfl, rfl, rfl, by decide +kernel, rfl, by decide +kernel, by decide +kernel⟩
abbrev N_Row___init__ : List Str := ["self", "steps", "spares", "folders", "found", "step"]
theorem sc_Row___init__ : FnScope ["self", "steps", "spares", "folders", "found", "step"] ["self", "steps", "spares", "folders"] (defScope TX.s_Row___init__) := ⟨rfl, rfl, rfl, by decide +kernel, rfl, by decide +kernel, by decide +kernel⟩
abbrev N_Row_told : List Str := ["self", "step"]
theorem sc_Row_told : FnScope ["self", "step"] ["self"] (defScope TX.s_Row_told) := ⟨rfl, rfl, rfl, by decide +kernel, rfl, by decide +kernel, by decide +kernel⟩
abbrev N__law_cell : List Str := ["_law_script", "_law_k", "_law_cell_here", "_law_mark", "_law_more"]
theorem sc__law_cell : FnScope ["_law_script", "_law_k", "_law_cell_here", "_law_mark", "_law_more"] ["_law_script", "_law_k"] (defScope TX.s__law_cell) := ⟨rfl, rfl, rfl, by decide +kernel, rfl, by decide +kernel, by decide +kernel⟩
abbrev N__law_mixed : List Str := ["_law_cell_here", "_law_k", "_law_mark"]
theorem sc__law_mixed : FnScope ["_law_cell_here", "_law_k", "_law_mark"] ["_law_cell_here", "_law_k"] (defScope TX.s__law_mixed) := ⟨rfl, rfl, rfl, by decide +kernel, rfl, by decide +kernel, by decide +kernel⟩
abbrev N__law_signs : List Str := ["_law_cell_here", "_law_all_signs", "_law_step", "_law_k"]
theorem sc__law_signs : FnScope ["_law_cell_here", "_law_all_signs", "_law_step", "_law_k"] ["_law_cell_here"] (defScope TX.s__law_signs) := ⟨rfl, rfl, rfl, by decide +kernel, rfl, by decide +kernel, by decide +kernel⟩
abbrev N__law_part : List Str := ["_law_cell_here", "_law_signs_here", "_law_way", "_law_one", "_law_some"]
theorem sc__law_part : FnScope ["_law_cell_here", "_law_signs_here", "_law_way", "_law_one", "_law_some"] ["_law_cell_here", "_law_signs_here"] (defScope TX.s__law_part) := ⟨rfl, rfl, rfl, by decide +kernel, rfl, by decide +kernel, by decide +kernel⟩
abbrev N__law_segment : List Str := ["_law_cell_here", "_law_signs_here", "_law_parts", "_law_k", "_law_part_here"]
theorem sc__law_segment : FnScope ["_law_cell_here", "_law_signs_here", "_law_parts", "_law_k", "_law_part_here"] ["_law_cell_here", "_law_signs_here"] (defScope TX.s__law_segment) := ⟨rfl, rfl, rfl, by decide +kernel, rfl, by decide +kernel, by decide +kernel⟩
abbrev N__law_row : List Str := ["_law_cell_here", "_law_signs_here", "_law_steps", "_law_k", "_law_mark"]
theorem sc__law_row : FnScope ["_law_cell_here", "_law_signs_here", "_law_steps", "_law_k", "_law_mark"] ["_law_cell_here", "_law_signs_here"] (defScope TX.s__law_row) := ⟨rfl, rfl, rfl, by decide +kernel, rfl, by decide +kernel, by decide +kernel⟩
abbrev N__law_long : List Str := ["_law_cell_here", "_law_signs_here", "_law_all_signs", "_law_some", "_law_steps", "_law_k", "_law_mark", "_law_parts", "_law_at", "_law_others", "_law_j"]
theorem sc__law_long : FnScope ["_law_cell_here", "_law_signs_here", "_law_all_signs", "_law_some", "_law_steps", "_law_k", "_law_mark", "_law_parts", "_law_at", "_law_others", "_law_j"] ["_law_cell_here", "_law_signs_here"] (defScope TX.s__law_long) := ⟨rfl, rfl, rfl, by decide +kernel, rfl, by decide +kernel, by decide +kernel⟩
abbrev N__law_part_made : List Str := ["_law_form"]
theorem sc__law_part_made : FnScope ["_law_form"] ["_law_form"] (defScope TX.s__law_part_made) := ⟨rfl, rfl, rfl, by decide +kernel, rfl, by decide +kernel, by decide +kernel⟩
abbrev N__law_row_made : List Str := ["_law_form", "_law_steps", "_law_step", "_law_part_here"]
theorem sc__law_row_made : FnScope ["_law_form", "_law_steps", "_law_step", "_law_part_here"] ["_law_form"] (defScope TX.s__law_row_made) := ⟨rfl, rfl, rfl, by decide +kernel, rfl, by decide +kernel, by decide +kernel⟩
abbrev N__law_filled : List Str := ["_law_part_here", "_law_cell_here", "_law_signs_here", "_law_some", "_law_sign"]
theorem sc__law_filled : FnScope ["_law_part_here", "_law_cell_here", "_law_signs_here", "_law_some", "_law_sign"] ["_law_part_here", "_law_cell_here", "_law_signs_here"] (defScope TX.s__law_filled) := ⟨rfl, rfl, rfl, by decide +kernel, rfl, by decide +kernel, by decide +kernel⟩
abbrev N__law_names : List Str := ["_law_form", "_law_cell_here", "_law_signs_here", "_law_names_here", "_law_k", "_law_step", "_law_mark", "_law_more", "_law_some", "_law_j", "_law_way", "_law_at"]
theorem sc__law_names : FnScope ["_law_form", "_law_cell_here", "_law_signs_here", "_law_names_here", "_law_k", "_law_step", "_law_mark", "_law_more", "_law_some", "_law_j", "_law_way", "_law_at"] ["_law_form", "_law_cell_here", "_law_signs_here"] (defScope TX.s__law_names) := ⟨rfl, rfl, rfl, by decide +kernel, rfl, by decide +kernel, by decide +kernel⟩
abbrev N__law_path : List Str := ["_law_form", "_law_cell_here", "_law_signs_here", "_law_slash"]
theorem sc__law_path : FnScope ["_law_form", "_law_cell_here", "_law_signs_here", "_law_slash"] ["_law_form", "_law_cell_here", "_law_signs_here"] (defScope TX.s__law_path) := ⟨rfl, rfl, rfl, by decide +kernel, rfl, by decide +kernel, by decide +kernel⟩
abbrev N__law_fits_sign : List Str := ["_law_part_here", "_law_sign"]
theorem sc__law_fits_sign : FnScope ["_law_part_here", "_law_sign"] ["_law_part_here", "_law_sign"] (defScope TX.s__law_fits_sign) := ⟨rfl, rfl, rfl, by decide +kernel, rfl, by decide +kernel, by decide +kernel⟩
abbrev N__law_fits_parts : List Str := ["_law_parts", "_law_signs_here", "_law_spots", "_law_k", "_law_spot", "_law_stay", "_law_go"]
theorem sc__law_fits_parts : FnScope ["_law_parts", "_law_signs_here", "_law_spots", "_law_k", "_law_spot", "_law_stay", "_law_go"] ["_law_parts", "_law_signs_here"] (defScope TX.s__law_fits_parts) := ⟨rfl, rfl, rfl, by decide +kernel, rfl, by decide +kernel, by decide +kernel⟩
abbrev N__law_fits_steps : List Str := ["_law_steps", "_law_names_here", "_law_spots", "_law_k", "_law_spot", "_law_stay", "_law_go"]
theorem sc__law_fits_steps : FnScope ["_law_steps", "_law_names_here", "_law_spots", "_law_k", "_law_spot", "_law_stay", "_law_go"] ["_law_steps", "_law_names_here"] (defScope TX.s__law_fits_steps) := ⟨rfl, rfl, rfl, by decide +kernel, rfl, by decide +kernel, by decide +kernel⟩
abbrev N__law_stand : List Str := ["_law_steps", "_law_names_here", "_law_signs_here", "_law_found", "_law_k", "_law_ahead", "_law_taken", "_law_parts", "_law_j", "_law_open_stars"]
theorem sc__law_stand : FnScope ["_law_steps", "_law_names_here", "_law_signs_here", "_law_found", "_law_k", "_law_ahead", "_law_taken", "_law_parts", "_law_j", "_law_open_stars"] ["_law_steps", "_law_names_here", "_law_signs_here"] (defScope TX.s__law_stand) := ⟨rfl, rfl, rfl, by decide +kernel, rfl, by decide +kernel, by decide +kernel⟩
abbrev N__law_right : List Str := ["_law_row_here", "_law_form", "_law_stand_here", "_law_names_here", "_law_here"]
theorem sc__law_right : FnScope ["_law_row_here", "_law_form", "_law_stand_here", "_law_names_here", "_law_here"] ["_law_row_here", "_law_form", "_law_stand_here", "_law_names_here", "_law_here"] (defScope TX.s__law_right) := ⟨rfl, rfl, rfl, by decide +kernel, rfl, by decide +kernel, by decide +kernel⟩
abbrev N__law_read : List Str := ["_law_pairs", "_law_path_here", "_law_names_here", "_law_here", "_law_stands", "_law_sign", "_law_k", "_law_form", "_law_row_here", "_law_stand_here"]
theorem sc__law_read : FnScope ["_law_pairs", "_law_path_here", "_law_names_here", "_law_here", "_law_stands", "_law_sign", "_law_k", "_law_form", "_law_row_here", "_law_stand_here"] ["_law_pairs", "_law_path_here"] (defScope TX.s__law_read) := ⟨rfl, rfl, rfl, by decide +kernel, rfl, by decide +kernel, by decide +kernel⟩
abbrev N_law : List Str := ["_law_script", "_law_signs_here", "_law_ahead", "_law_k", "_law_cell_here", "_law_form", "_law_pairs", "_law_path_here"]
theorem sc_law : FnScope ["_law_script", "_law_signs_here", "_law_ahead", "_law_k", "_law_cell_here", "_law_form", "_law_pairs", "_law_path_here"] ["_law_script"] (defScope TX.s_law) := ⟨rfl, rfl, rfl, by decide +kernel, rfl, by decide +kernel, by decide +kernel⟩
end SL
open PySem PySem.Spec PyProof.Rows L2 SL in
local macro_rules | `(tactic| walk_at "rd") => `(tactic| simp only [tVar, tC, tOp, tUn, tCall, tMeI, tMake, tMakN, tMakK, tMakKr, tCB, tCons, tNil, tTup, tLst, tTest, tB, tAnd, tOr, tNot, tAndV, tOrV, tNotV, tOrT, tAndT, tNotT, tIf, tIfS, tSeq, tAsg, gName, tRet, tRetN, tNext, tDrop, tBreak, tCont, tIsN, tNotN, tFld, sFld, tPart, tNoPart, tCKw, tSl,
  rI, rI0, rU, rAddU, rMulU, rEqU, rNeU, rCmp, rInU, rNotInU, rIxU, rSlU, rLenU, rLenW, rJoin, rCount, rListU, rRevU, rSetU, rSortedU, NewSet, NewSorted, tBM, tBM0, SL.tyStr, rTupU, rMaxU, rMinU, rInsert, rPop, rSetL, gSub, iEnumU, rIsiU, rAll, rAny, rIsBo, rNotBo, rIntU, rIadd, rIn, flatV, rAppend, tyV, tAug, rRep, rCat, sDPut, tDGet, tDIn, tDNotIn, tDNewK, tDisp, tPairs, tDGet1, tDGet2, rListD, rDClear, iZip, iU, iRng1, iRng2, iRevR, tRg1, wipe, SL.sameT, Int.zero_add, isRef, scal, Bool.or_true, Bool.true_or, Bool.or_false, Bool.false_or, Bool.or_self,
  L2.start, SL.cxK, SL.cxW, SL.cxP, SL.truBl, SL.truInt, SL.truNon, SL.truStr, SL.lenStr, List.map_cons, List.map_nil, List.length_cons, List.length_nil, List.replicate, List.reverse_cons, List.reverse_nil, List.nil_append, List.cons_append, List.append_nil, List.set_cons_zero, List.set_cons_succ, List.getElem?_cons_zero, List.getElem?_cons_succ, Nat.zero_add, Nat.reduceAdd, Nat.reduceSub, Nat.sub_self, Nat.add_sub_cancel,
  List.cons.injEq, V.int.injEq, V.str.injEq, V.bl.injEq, V.ref.injEq, Option.some.injEq, reduceCtorEq, exists_eq_left', exists_eq_left, exists_eq', exists_eq, exists_and_left, exists_and_right, and_true, true_and, false_and, and_false, false_or, or_false, decide_eq_true_eq, Bool.not_eq_true', decide_eq_false_iff_not, SL.ite_tt, SL.ite_ff, ne_eq, not_true_eq_false, not_false_eq_true, forall_eq, forall_eq', Bool.not_true, Bool.not_false, decide_true, decide_false, SL.le_sz, SL.lt_sz, SL.ifT, SL.ifF, SL.strEq, String.reduceEq, SL.manyOne, SL.manyAny, SL.manyAmong, SL.manyStars, Nat.reduceLeDiff, Nat.reduceLT, Int.reduceLT, Int.reduceLE])

local macro_rules | `(tactic| walk_at "sm") => `(tactic| (first | exact L2.Same.refl _ | assumption | (repeat (first | exact L2.Same.refl _ | assumption | refine L2.Same.trans ?_ (SL.same_new (by assumption))))))
open PySem PySem.Spec PyProof.Rows L2 SL in
local macro_rules | `(tactic| walk_at "rdh") => `(tactic| (simp only [tVar, tC, tOp, tUn, tCall, tMeI, tMake, tMakN, tMakK, tMakKr, tCB, tCons, tNil, tTup, tLst, tTest, tB, tAnd, tOr, tNot, tAndV, tOrV, tNotV, tOrT, tAndT, tNotT, tIf, tIfS, tSeq, tAsg, gName, tRet, tRetN, tNext, tDrop, tBreak, tCont, tIsN, tNotN, tFld, sFld, tPart, tNoPart, tCKw, tSl,
  rI, rI0, rU, rAddU, rMulU, rEqU, rNeU, rCmp, rInU, rNotInU, rIxU, rSlU, rLenU, rLenW, rJoin, rCount, rListU, rRevU, rSetU, rSortedU, NewSet, NewSorted, tBM, tBM0, SL.tyStr, rTupU, rMaxU, rMinU, rInsert, rPop, rSetL, gSub, iEnumU, rIsiU, rAll, rAny, rIsBo, rNotBo, rIntU, rIadd, rIn, flatV, rAppend, tyV, tAug, rRep, rCat, sDPut, tDGet, tDIn, tDNotIn, tDNewK, tDisp, tPairs, tDGet1, tDGet2, rListD, rDClear, iZip, iU, iRng1, iRng2, iRevR, tRg1, wipe, SL.sameT, Int.zero_add, isRef, scal, Bool.or_true, Bool.true_or, Bool.or_false, Bool.false_or, Bool.or_self,
  L2.start, SL.cxK, SL.cxW, SL.cxP, SL.truBl, SL.truInt, SL.truNon, SL.truStr, SL.lenStr, List.map_cons, List.map_nil, List.length_cons, List.length_nil, List.replicate, List.reverse_cons, List.reverse_nil, List.nil_append, List.cons_append, List.append_nil, List.set_cons_zero, List.set_cons_succ, List.getElem?_cons_zero, List.getElem?_cons_succ, Nat.zero_add, Nat.reduceAdd, Nat.reduceSub, Nat.sub_self, Nat.add_sub_cancel,
  List.cons.injEq, V.int.injEq, V.str.injEq, V.bl.injEq, V.ref.injEq, Option.some.injEq, reduceCtorEq, exists_eq_left', exists_eq_left, exists_eq', exists_eq, exists_and_left, exists_and_right, and_true, true_and, false_and, and_false, false_or, or_false, decide_eq_true_eq, Bool.not_eq_true', decide_eq_false_iff_not, SL.ite_tt, SL.ite_ff, ne_eq, not_true_eq_false, not_false_eq_true, forall_eq, forall_eq', Bool.not_true, Bool.not_false, decide_true, decide_false, SL.le_sz, SL.lt_sz, SL.ifT, SL.ifF, SL.strEq, String.reduceEq, SL.manyOne, SL.manyAny, SL.manyAmong, SL.manyStars, Nat.reduceLeDiff, Nat.reduceLT, Int.reduceLT, Int.reduceLE, SL.PartO, SL.lkSign, SL.lkSigns, SL.lkOut, SL.lkParts, SL.lkSteps, SL.lkSpares, SL.lkFolders, SL.pfNil, SL.pfOut, SL.pfSpares, SL.pfFolders, L2.upd_same, L2.upd_upd, HO.ins.injEq, and_assoc, *]))
local macro_rules | `(tactic| walk_at "rdx") => `(tactic| (walk_at "rd"; repeat (refine ⟨_, Or.inr (by assumption), _, rfl, ?_⟩; try walk_at "rd")))
namespace SL
open PySem PySem.Spec PyProof.Rows L2 SX
section
variable {P : Program} {w : World} {K : PySem.W.Frag} {mg : Str → Option Value} {base : Heap}

/-! ### is_sign, the drawn numbers -/
def spIsSign : Sp := fun vs H Q _ => ∃ z, vs = [.str z] ∧ z.length ≤ sizeLine ∧ Q (.bl (decide (∃ c ∈ SIG, z = ⟨#[c]⟩))) H
theorem str_one {z : Str} (h : (z.length : Int) = 1) : ∃ c, z = ⟨#[c]⟩ := by
  obtain ⟨⟨l⟩⟩ := z
  have e : l.length = 1 := by
    have h' : ((l.length : Nat) : Int) = 1 := h
    omega
  match l, e with
  | [c], _ => exact ⟨c, rfl⟩
theorem ok_is_sign (T : Txt K mg) : OkD P w K mg base 1 (fA K "is_sign") ["thing"] [] spIsSign := by
  refine okD T.F_is_sign sc_is_sign (fun _ _ _ _ _ _ us hl => match us, hl with | [_], _ => rfl) ?_ ?_
  · rintro vs H Q E ⟨z, rfl, _⟩
    rfl
  · rintro cdv A outer s H vs Q E hr ⟨z, rfl, hz, q⟩
    refine ⟨_, (pss_one (ps_ret (pe_andK (K := K) (pe_cmpR (o_eq (K := K) (hu64 hr)) (pe_callB (o_lenW (K := K) (w := w)) (by rfl) T.fr_len boot_len (pa_cons (pv 0) pa_nil)) pe_int (nomark _)) (pe_one (pe_cmpR (o_in (K := K) (hu65 hr)) (pv 0) (pe_gstr rfl T.s_SIGNS) (by rfl)))))), ?_⟩
    walk_at "rd"
    rw [sizeLine_eq] at hz
    refine ⟨hz, ite2 (fun h => ?_) (fun h => ?_)⟩
    · obtain ⟨c, rfl⟩ := str_one h
      refine .inl ⟨c, rfl, ?_⟩
      have e : decide (∃ c' ∈ SIG, (⟨#[c]⟩ : Str) = ⟨#[c']⟩) = decide (c ∈ SIG) := by
        refine decide_eq_decide.mpr ⟨fun ⟨c', h1, h2⟩ => ?_, fun h1 => ⟨c, h1, rfl⟩⟩
        injection h2 with h2
        have h3 : c = c' := by simpa using h2
        rw [h3]
        exact h1
      rw [e] at q
      exact q
    · have e : decide (∃ c ∈ SIG, z = ⟨#[c]⟩) = false := decide_eq_false fun ⟨c, _, h2⟩ => h (by rw [h2]; rfl)
      rw [e] at q
      rw [decide_eq_false h]
      exact q
def spCell (K : PySem.W.Frag) : Sp := fun vs H Q _ => ∃ a k, ∃ ns : List Int, vs = [.ref a, .int k] ∧ SqL K H a (ns.map V.int) ∧ ns.length ≤ 63 ∧ 0 ≤ k ∧ k < 64 ∧ ∀ c, Q (.int c) H
theorem ok__law_cell (T : Txt K mg) : OkD P w K mg base 1 (fA K "_law_cell") ["_law_script", "_law_k"] [] (spCell K) := by
  refine okD T.F__law_cell sc__law_cell (fun _ _ _ _ _ _ us hl => match us, hl with | [_, _], _ => rfl) ?_ ?_
  · rintro vs H Q E ⟨a, k, ns, rfl, _⟩
    rfl
  · rintro cdv A outer s H vs Q E hr ⟨a, k, ns, rfl, hs, hn, h0, h1, q⟩
    refine ⟨_, (pss_cons (ps_set (i := 2) sc__law_cell.nd rfl (Or.inl rfl) (pe_mid pe_int))
  (pss_cons (ps_mid (ps_if (pt_mid (pt_cmpR o_gt (pe_callB (o_lenW (K := K) (w := w)) (by rfl) T.fr_len boot_len (pa_cons (pv 0) pa_nil)) pe_int (nomark _))) (pss_one (ps_set (i := 2) sc__law_cell.nd rfl (Or.inl rfl) (pe_mid (pe_ix (o_ix (K := K)) (pv 0) (pe_op op_mod (pv 1) (pe_callB (o_lenW (K := K) (w := w)) (by rfl) T.fr_len boot_len (pa_cons (pv 0) pa_nil))) (fun _ _ => rfl))))) pss_nil))
  (pss_cons (ps_set (i := 3) sc__law_cell.nd rfl (Or.inl rfl) (pe_mid (pe_op op_mod (pe_op o_mul (pe_op (o_add (K := K)) (pe_op op_mod (pv 2) pe_int) (pe_op o_mul pe_int (pe_op (o_add (K := K)) (pv 1) pe_int))) pe_int) pe_int)))
  (pss_cons (ps_set (i := 3) sc__law_cell.nd rfl (Or.inl rfl) (pe_mid (pe_op op_mod (pe_op o_mul (pe_op op_mod (pe_op o_mul (pv 3) (pv 3)) pe_int) pe_int) pe_int)))
  (pss_cons (ps_set (i := 4) sc__law_cell.nd rfl (Or.inl rfl) (pe_mid (pe_op op_mod (pe_op op_fdivW (pv 2) pe_int) (pe_op op_pow pe_int pe_int))))
  (pss_one (ps_ret (pe_op (o_add (K := K)) (pe_op o_mul (pe_op (o_add (K := K)) (pe_op o_mul (pv 4) pe_int) (pv 3)) pe_int) (pe_op op_mod (pe_op o_mul (pv 3) (pv 3)) pe_int))))))))), ?_⟩
    have hl : LenV K (V.ref a) H (ns.map V.int).length := .inl ⟨_, hs, rfl⟩
    refine q_mid (fun c => c = 0) ?_ fun n hn0 => ?_
    · walk_at "rd"
    subst hn0
    refine q_stm (fun σ H' => H' = H ∧ ∃ c : Int, σ = [some (.ref a), some (.int k), some (.int c), none, none]) ?_ ?_
    · refine l_if (fun b H' => H' = H ∧ b = decide (0 < ns.length)) ?_ (fun H1 h => ?_) (fun H1 h => ?_)
      · walk_at "rd"
        refine .inr ⟨_, hl, ?_⟩
        rw [List.length_map]
        exact decide_eq_decide.mpr (by omega)
      · obtain ⟨rfl, hb⟩ := h
        have h0' := of_decide_eq_true hb.symm
        walk_at "rd"
        refine mid_of (fun v H' => H' = H1 ∧ ∃ c : Int, v = .int c) ?_ (fun v H' h => h)
        have e0 : 0 ≤ k % (ns.length : Int) := Int.emod_nonneg _ (by omega)
        have e1 : k % (ns.length : Int) < ns.length := Int.emod_lt_of_pos _ (by omega)
        obtain ⟨j, hj⟩ : ∃ j : Nat, k % (ns.length : Int) = (j : Int) := ⟨(k % (ns.length : Int)).toNat, by omega⟩
        walk_at "rd"
        refine .inr ⟨_, hl, ?_⟩
        rw [List.length_map]
        refine ⟨by omega, _, .inl hs, V.int ns[j], ?_, _, rfl⟩
        rw [hj]
        refine atI_nat ?_
        rw [List.getElem?_map, List.getElem?_eq_getElem (by omega)]
        rfl
      · obtain ⟨rfl, hb⟩ := h
        exact ⟨rfl, _, rfl⟩
    rintro σ _ ⟨rfl, c, rfl⟩
    have b : ∀ (x : Int), 0 ≤ x % 2147483647 ∧ x % 2147483647 < 2147483647 := fun x => ⟨Int.emod_nonneg _ (by decide), Int.emod_lt_of_pos _ (by decide)⟩
    have b2 : ∀ (x : Int), 0 ≤ x % 2147483629 ∧ x % 2147483629 < 2147483629 := fun x => ⟨Int.emod_nonneg _ (by decide), Int.emod_lt_of_pos _ (by decide)⟩
    have sm : ∀ (x y : Int), 0 ≤ x → x < 2147483647 → CMul x y := fun x y h1 h2 => .inl ⟨by omega, by omega⟩
    have sm2 : ∀ (x y : Int), 0 ≤ y → y ≤ 2147483647 → CMul x y := fun x y h1 h2 => .inr ⟨by omega, by omega⟩
    refine q_mid (fun m => 0 ≤ m ∧ m < 2147483647) ?_ fun m hm => ?_
    · walk_at "rd"
      exact ⟨sm _ _ (by decide) (by decide), sm2 _ _ (by decide) (by decide), b _⟩
    refine q_mid (fun m => 0 ≤ m ∧ m < 2147483647) ?_ fun m2 hm2 => ?_
    · walk_at "rd"
      exact ⟨sm _ _ hm.1 hm.2, sm2 _ _ (by decide) (by decide), b _⟩
    refine q_mid (fun _ => True) ?_ fun hgh _ => ?_
    · walk_at "rd"
      exact ⟨⟨by decide, by decide⟩, ⟨by decide, by decide, by decide⟩, by decide⟩
    walk_at "rd"
    exact ⟨sm2 _ _ (by decide) (by decide), sm2 _ _ (by decide) (by decide), sm _ _ hm2.1 hm2.2, q _⟩
/-- four signs -/
def SignV (v : V) : Prop := ∃ c ∈ SIG, v = .str ⟨#[c]⟩
/-- the sign at a place -/
def sgAt (i : Int) : V := .str (S [SIG.getD i.toNat 0])
theorem sig_get {i : Int} (h0 : 0 ≤ i) (h1 : i < 39) : atI SIG i = some (SIG.getD i.toNat 0) ∧ SIG.getD i.toNat 0 ∈ SIG := by
  obtain ⟨j, rfl⟩ : ∃ j : Nat, i = (j : Int) := ⟨i.toNat, by omega⟩
  have hj : j < SIG.length := by rw [sig_len]; omega
  have e : SIG.getD (j : Int).toNat 0 = SIG[j] := by
    rw [Int.toNat_natCast, List.getD_eq_getElem?_getD, List.getElem?_eq_getElem hj]
    rfl
  rw [e]
  exact ⟨atI_nat (List.getElem?_eq_getElem hj), List.getElem_mem hj⟩
theorem sgAt_ne {i j : Int} (h0 : 0 ≤ i) (h1 : i < 39) (g0 : 0 ≤ j) (g1 : j < 39) (h : i ≠ j) : sgAt i ≠ sgAt j := by
  intro e
  obtain ⟨a, rfl⟩ : ∃ a : Nat, i = (a : Int) := ⟨i.toNat, by omega⟩
  obtain ⟨b, rfl⟩ : ∃ b : Nat, j = (b : Int) := ⟨j.toNat, by omega⟩
  have ha : a < SIG.length := by rw [sig_len]; omega
  have hb : b < SIG.length := by rw [sig_len]; omega
  unfold sgAt at e
  rw [Int.toNat_natCast, Int.toNat_natCast, List.getD_eq_getElem?_getD, List.getD_eq_getElem?_getD, List.getElem?_eq_getElem ha, List.getElem?_eq_getElem hb] at e
  have e2 := S1_inj (V.str.inj e)
  rcases Nat.lt_trichotomy a b with q | q | q
  · have := List.pairwise_iff_getElem.mp sig_up a b ha hb q
    have e3 : SIG[a] = SIG[b] := e2
    omega
  · exact h (by rw [q])
  · have := List.pairwise_iff_getElem.mp sig_up b a hb ha q
    have e3 : SIG[a] = SIG[b] := e2
    omega
def spSigns : Sp := fun vs H Q _ => ∃ c, vs = [.int c] ∧ ∀ p l H', l.length = 4 → l.Nodup → (∀ v ∈ l, SignV v) → H p = none → Same H H' → H' p = some (.lst l) → Q (.ref p) H'
theorem ok__law_signs (T : Txt K mg) : OkD P w K mg base 1 (fA K "_law_signs") ["_law_cell_here"] [] spSigns := by
  refine okD T.F__law_signs sc__law_signs (fun _ _ _ _ _ _ us hl => match us, hl with | [_], _ => rfl) ?_ ?_
  · rintro vs H Q E ⟨c, rfl, _⟩
    rfl
  · rintro cdv A outer s H vs Q E hr ⟨c, rfl, q⟩
    refine ⟨_, (pss_cons (ps_set (i := 1) sc__law_signs.nd rfl (Or.inr rfl) pe_str)
  (pss_cons (ps_set (i := 2) sc__law_signs.nd rfl (Or.inr rfl) (pe_op o_mul pe_int (pe_op (o_add (K := K)) pe_int (pe_op op_mod (pe_op op_fdivW (pv 0) pe_int) pe_int))))
  (pss_one (ps_ret (pe_lc (own := [("_law_k", 3)]) (g := (gName 3)) (tt := tYes) rfl sc__law_signs.nd (pi_mid (pi_range1 rfl T.fr_range (pa_cons pe_int pa_nil))) (blkOk_by (N := N__law_signs) (sc := defScope TX.s__law_signs) (by decide +kernel)) (fun _ _ _ _ _ => (pg_name (i := 3) sc__law_signs.nd rfl (Or.inl rfl))) (fun _ _ _ _ _ => pts_nil) (fun _ _ _ _ _ => (pe_mid (pe_ix (o_ix (K := K)) (pv 1) (pe_op op_mod (pe_op (o_add (K := K)) (pv 0) (pe_op o_mul (pv 2) (pv 3))) pe_int) (fun _ _ => rfl))))))))), ?_⟩
    walk_at "rd"
    refine ⟨⟨by decide, by decide⟩, .inl ⟨by decide, by decide⟩, ?_⟩
    refine lc_mid (J0 := Itr 0 4) (H0 := H) ?_ walk_range (by decide) (fun k acc _ => acc = (List.range k).map fun (j : Nat) => sgAt ((c + 7 * (1 + c / 39 % 2) * (j : Int)) % 39)) (fun _ _ _ _ _ h => h) rfl (fun _ _ => trivial) (fun _ _ _ _ y => y_fn y) (fun _ => rfl) ?_ ?_
    · walk_at "rd"
      exact ⟨by decide, by decide, rfl⟩
    · rintro k x acc H' H'' hk sm hc ⟨rfl, rfl⟩
      walk_at "rd"
      refine ⟨.inl ⟨by omega, by omega⟩, by decide +kernel, ?_⟩
      have hg := sig_get (i := (c + 7 * (1 + c / 39 % 2) * k) % 39) (Int.emod_nonneg _ (by decide)) (Int.emod_lt_of_pos _ (by decide))
      refine ⟨_, hg.1, ?_⟩
      rw [List.range_succ, List.map_append, ← hc]
      rfl
    · intro p acc H' hp sm hD hl hc
      have b : ∀ x : Int, 0 ≤ x % 39 ∧ x % 39 < 39 := fun x => ⟨Int.emod_nonneg _ (by decide), Int.emod_lt_of_pos _ (by decide)⟩
      have hx : c / 39 % 2 = 0 ∨ c / 39 % 2 = 1 := by omega
      have hc4 : acc = [sgAt ((c + 7 * (1 + c / 39 % 2) * 0) % 39), sgAt ((c + 7 * (1 + c / 39 % 2) * 1) % 39), sgAt ((c + 7 * (1 + c / 39 % 2) * 2) % 39), sgAt ((c + 7 * (1 + c / 39 % 2) * 3) % 39)] := hc
      refine q p acc H' hl ?_ ?_ hp sm hD
      · rw [hc4]
        have ne : ∀ x y : Int, x % 39 ≠ y % 39 → sgAt (x % 39) ≠ sgAt (y % 39) := fun x y h => sgAt_ne (b x).1 (b x).2 (b y).1 (b y).2 h
        rcases hx with h | h <;> rw [h] <;>
          refine List.nodup_cons.mpr ⟨?_, List.nodup_cons.mpr ⟨?_, List.nodup_cons.mpr ⟨?_, List.nodup_cons.mpr ⟨List.not_mem_nil, .nil⟩⟩⟩⟩ <;>
          simp only [List.mem_cons, List.not_mem_nil, or_false, not_or] <;>
          (try refine ⟨ne _ _ (by omega), ne _ _ (by omega), ne _ _ (by omega)⟩) <;> (try refine ⟨ne _ _ (by omega), ne _ _ (by omega)⟩) <;> exact ne _ _ (by omega)
      · rw [hc4]
        have s : ∀ x : Int, SignV (sgAt (x % 39)) := fun x => ⟨_, (sig_get (b x).1 (b x).2).2, rfl⟩
        intro v hv
        simp only [List.mem_cons, List.not_mem_nil, or_false] at hv
        rcases hv with rfl | rfl | rfl | rfl <;> exact s _

/-! ### lists of signs -/
theorem signs_list : ∀ {ws : List V}, (∀ v ∈ ws, SignV v) → ∃ cs : List Nat, ws = (cs.map fun c => S [c]).map V.str ∧ ∀ c ∈ cs, c ∈ SIG
  | [], _ => ⟨[], rfl, fun _ h => nomatch h⟩
  | v :: r, h => by
    obtain ⟨c, hc, rfl⟩ := h v List.mem_cons_self
    obtain ⟨cs, rfl, hs⟩ := signs_list (ws := r) fun u hu => h u (List.mem_cons_of_mem _ hu)
    exact ⟨c :: cs, rfl, fun d hd => (List.mem_cons.mp hd).elim (fun e => e ▸ hc) (hs d)⟩
theorem q_next {u : TS} {D : Ends} {σ : L2.St} {H : Hp} (h : u D σ H) : tSeq tNext u D σ H := h

def spPart (K : PySem.W.Frag) : Sp := fun vs H Q _ => ∃ c p ws, vs = [.int c, .ref p] ∧ SqL K H p ws ∧ ws.length = 4 ∧ (∀ v ∈ ws, SignV v) ∧ ∀ v f H', PF.Ok f → PF.Low f → Same H H' → Dp K H' v f.d → Q v H'
theorem at4 {ws : List V} (hl : ws.length = 4) (hw : ∀ v ∈ ws, SignV v) (i : Int) : ∃ c ∈ SIG, atI ws (i % 4) = some (.str (S [c])) := by
  have h0 : 0 ≤ i % 4 := Int.emod_nonneg _ (by decide)
  have h1 : i % 4 < 4 := Int.emod_lt_of_pos _ (by decide)
  obtain ⟨j, hj⟩ : ∃ j : Nat, i % 4 = (j : Int) := ⟨(i % 4).toNat, by omega⟩
  have hj2 : j < ws.length := by omega
  obtain ⟨c, hc, e⟩ := hw ws[j] (List.getElem_mem hj2)
  refine ⟨c, hc, ?_⟩
  rw [hj]
  refine atI_nat ?_
  rw [List.getElem?_eq_getElem hj2, e]
theorem at5 {a b c d e : V} {i : Int} {Q : V → Prop} (h0 : 0 ≤ i) (h1 : i < 5) (h : Q a ∧ Q b ∧ Q c ∧ Q d ∧ Q e) : ∃ v, atI [a, b, c, d, e] i = some v ∧ Q v := by
  have : i = 0 ∨ i = 1 ∨ i = 2 ∨ i = 3 ∨ i = 4 := by omega
  rcases this with rfl | rfl | rfl | rfl | rfl
  · exact ⟨a, rfl, h.1⟩
  · exact ⟨b, rfl, h.2.1⟩
  · exact ⟨c, rfl, h.2.2.1⟩
  · exact ⟨d, rfl, h.2.2.2.1⟩
  · exact ⟨e, rfl, h.2.2.2.2⟩
theorem ok__law_part (T : Txt K mg) : OkD P w K mg base 1 (fA K "_law_part") ["_law_cell_here", "_law_signs_here"] [] (spPart K) := by
  refine okD T.F__law_part sc__law_part (fun _ _ _ _ _ _ us hl => match us, hl with | [_, _], _ => rfl) ?_ ?_
  · rintro vs H Q E ⟨c, p, ws, rfl, _⟩
    rfl
  · rintro cdv A outer s H vs Q E hr ⟨c, p, ws, rfl, hs, hl, hw, q⟩
    refine ⟨_, (pss_cons (ps_set (i := 2) sc__law_part.nd rfl (Or.inl rfl) (pe_op op_mod (pv 0) pe_int))
  (pss_cons (ps_set (i := 3) sc__law_part.nd rfl (Or.inl rfl) (pe_ix (o_ix (K := K)) (pv 1) (pe_op op_mod (pe_op op_fdivW (pv 0) pe_int) pe_int) (fun _ _ => rfl)))
  (pss_cons (ps_set (i := 4) sc__law_part.nd rfl (Or.inl rfl) (pe_mid (pe_bmK (K := K) PySem.F.plainAttrs_str PySem.F.slot_str_join PySem.F.type_str_join (mo_join (K := K)) pe_str (pa_cons (pe_callB (o_sorted (K := K) (w := w) rfl) (by rfl) T.fr_sorted (by decide +kernel) (pa_cons (pe_callTy (o_set (K := K) (w := w) rfl) (by rfl) T.fr_set (by decide +kernel) (pa_cons (pe_lst (pa_cons (pv 3) (pa_cons (pe_ix (o_ix (K := K)) (pv 1) (pe_op op_mod (pe_op op_fdivW (pv 0) pe_int) pe_int) (fun _ _ => rfl)) pa_nil))) pa_nil)) pa_nil)) pa_nil))))
  (pss_cons (ps_if (pt_cmpR o_lt (pv 2) pe_int (nomark _)) (pss_one (ps_ret (pe_tup (pa_cons pe_str (pa_cons (pv 3) pa_nil))))) pss_nil)
  (pss_one (ps_ret (pe_ix (o_ix (K := K)) (pe_lst (pa_cons (pe_tup (pa_cons pe_str pa_nil)) (pa_cons (pe_tup (pa_cons pe_str (pa_cons (pv 4) (pa_cons pe_bl pa_nil)))) (pa_cons (pe_tup (pa_cons pe_str (pa_cons (pv 4) (pa_cons pe_bl pa_nil)))) (pa_cons (pe_tup (pa_cons pe_str pa_nil)) (pa_cons (pe_tup (pa_cons pe_str pa_nil)) pa_nil)))))) (pe_op op_sub (pv 2) pe_int) (fun _ _ => rfl)))))))), ?_⟩
    obtain ⟨c1, hc1, e1⟩ := at4 hl hw (c / 11)
    obtain ⟨c2, hc2, e2⟩ := at4 hl hw (c / 44)
    walk_at "rd"
    refine ⟨⟨by decide, by decide⟩, ws, .inl hs, _, e1, ?_⟩
    refine mid_of (fun v H' => ∃ l, (SigSet l ∧ l.length ≤ 2) ∧ v = .str (S l) ∧ Same H H') ?_ ?_
    · walk_at "rd"
      refine ⟨⟨by decide, by decide⟩, ws, .inl hs, _, e2, fun p1 hp1 => ⟨[S [c1], S [c2]], .inl (.inl upd_same), (by show (2 : Nat) < 1000; decide), fun p2 zs hp2 nd hz => .inl ⟨zs, upd_same, ?_, fun ys p3 pm so hp3 => ?_⟩⟩⟩
      · have e : zs.length ≤ 2 := str_nd_len zs [S [c1], S [c2]] nd fun x hx => (hz x).mp hx
        exact Nat.lt_of_le_of_lt e (by decide)
      · obtain ⟨cs, rfl, up, mem⟩ := sorted_signs pm so nd fun z hz' => by
          rcases List.mem_cons.mp ((hz z).mp hz') with rfl | h
          · exact ⟨_, rfl⟩
          · exact ⟨c2, List.mem_singleton.mp h⟩
        have sg : ∀ c ∈ cs, c ∈ SIG := fun c hc => by
          rcases List.mem_cons.mp ((hz _).mp ((mem c).mp hc)) with h | h
          · rw [S1_inj h]; exact hc1
          · rw [S1_inj (List.mem_singleton.mp h)]; exact hc2
        have ne : cs ≠ [] := fun e => by
          have h := (mem c1).mpr ((hz _).mpr List.mem_cons_self)
          rw [e] at h
          cases h
        have ok : SigSet cs := ⟨ne, up, sg⟩
        have l2 : zs.length ≤ 2 := str_nd_len zs [S [c1], S [c2]] nd fun x hx => (hz x).mp hx
        have l3 : cs.length ≤ 2 := by
          have e := pm.length_eq
          rw [List.length_map] at e
          omega
        refine ⟨_, .inl (.inl (.inl upd_same)), ?_, cs, ⟨ok, by omega⟩, join_chars cs, by walk_at "sm"⟩
        have e := len_chars cs
        have e2 := ok.len
        rw [show (Str.ofString "") = S [] from rfl, e]
        omega
    · rintro _ H1 ⟨l, hl, rfl, sm⟩
      refine ite2 (fun h6 => ?_) fun h6 => ?_
      · intro p1 hp1
        exact q _ (.one c1) _ hc1 trivial (by walk_at "sm") (.tup (.inl (.inl upd_same)) (.cons (.str _) (.cons (.str _) .nil)))
      · intro p1 hp1 p2 hp2 p3 hp3 p4 hp4 p5 hp5 p6 hp6
        have h0 : 0 ≤ c % 11 := Int.emod_nonneg _ (by decide)
        have h1 : c % 11 < 11 := Int.emod_lt_of_pos _ (by decide)
        refine ⟨_, .inl (.inl (.inl upd_same)), at5 (by omega) (by omega) ?_⟩
        refine ⟨q _ .any _ trivial trivial (by walk_at "sm") ?_, q _ (.among l false) _ ⟨hl.1, by omega⟩ trivial (by walk_at "sm") ?_, q _ (.among l true) _ ⟨hl.1, by omega⟩ (Nat.le_trans hl.2 (by decide)) (by walk_at "sm") ?_, q _ .stars _ trivial trivial (by walk_at "sm") ?_, q _ .stars _ trivial trivial (by walk_at "sm") ?_⟩
        · exact dp_mono (by walk_at "sm") _ _ (.tup (.inl (.inl (upd_same (H := H1) (a := p1)))) (.cons (.str _) .nil))
        · exact dp_mono (by walk_at "sm") _ _ (.tup (.inl (.inl (upd_same (a := p2)))) (.cons (.str _) (.cons (.str _) (.cons (.bl _) .nil))))
        · exact dp_mono (by walk_at "sm") _ _ (.tup (.inl (.inl (upd_same (a := p3)))) (.cons (.str _) (.cons (.str _) (.cons (.bl _) .nil))))
        · exact dp_mono (by walk_at "sm") _ _ (.tup (.inl (.inl (upd_same (a := p4)))) (.cons (.str _) .nil))
        · exact dp_mono (by walk_at "sm") _ _ (.tup (.inl (.inl (upd_same (a := p5)))) (.cons (.str _) .nil))

/-! ### the parts -/
/-- all but p stays -/
def But (p : Addr) (H H' : Hp) : Prop := ∀ a o, a ≠ p → H a = some o → H' a = some o
theorem but_same {H H' : Hp} {p dx : Addr} {o u : HO} (h0 : H p = none) (h1 : H dx = none) (b : But p (upd (upd H dx u) p o) H') : Same H H' := fun a v e => by
  have n0 : a ≠ p := ne_of_none e h0
  refine b a v n0 ?_
  rw [upd_ne n0, upd_ne (ne_of_none e h1)]
  exact e
theorem But.upd {H : Hp} {p : Addr} {o : HO} : But p H (upd H p o) := fun a u n e => by rw [upd_ne n]; exact e
theorem But.same {H H1 H2 : Hp} {p : Addr} (s : Same H H1) (b : But p H1 H2) : But p H H2 := fun a o n e => b a o n (s a o e)
theorem OkD.mono {k j : Nat} {f : Addr} {ps : List Str} {dvs : List V} {sp : Sp} (h : OkD P w K mg base k f ps dvs sp) (e : k ≤ j) : OkD P w K mg base j f ps dvs sp := by
  obtain ⟨fd, ds, F, r⟩ := h
  exact ⟨fd, ds, F.mono e, r⟩
def spFits (K : PySem.W.Frag) (f : PF) : Sp := fun vs H Q _ => ∃ v c, vs = [v, .str (S [c])] ∧ PartV K f v H ∧ Q (.bl (f.fits c)) H
def spMany (K : PySem.W.Frag) (f : PF) : Sp := fun vs H Q _ => ∃ v, vs = [v] ∧ PartV K f v H ∧ Q (.bl f.many) H
theorem ok_Any_fits (T : Txt K mg) : OkD P w K mg base 1 (mA K "Any" "fits") ["self", "sign"] [] (spFits K .any) := by
  refine okD T.F_Any_fits sc_Part_fits (fun _ _ _ _ _ _ us hl => match us, hl with | [_, _], _ => rfl) ?_ ?_
  · rintro vs H Q E ⟨v, c, rfl, _⟩
    rfl
  · rintro cdv A outer s H vs Q E hr ⟨v, c, rfl, h, q⟩
    refine ⟨_, (pss_one (ps_ret pe_bl)), ?_⟩
    walk_at "rd"
    exact q
theorem ok_Stars_fits (T : Txt K mg) : OkD P w K mg base 1 (mA K "Stars" "fits") ["self", "sign"] [] (spFits K .stars) := by
  refine okD T.F_Stars_fits sc_Part_fits (fun _ _ _ _ _ _ us hl => match us, hl with | [_, _], _ => rfl) ?_ ?_
  · rintro vs H Q E ⟨v, c, rfl, _⟩
    rfl
  · rintro cdv A outer s H vs Q E hr ⟨v, c, rfl, h, q⟩
    refine ⟨_, (pss_one (ps_ret pe_bl)), ?_⟩
    walk_at "rd"
    exact q
theorem ok_One_fits {d : Nat} (T : Txt K mg) : OkD P w K mg base 1 (mA K "One" "fits") ["self", "sign"] [] (spFits K (.one d)) := by
  refine okD T.F_One_fits sc_One_fits (fun _ _ _ _ _ _ us hl => match us, hl with | [_, _], _ => rfl) ?_ ?_
  · rintro vs H Q E ⟨v, c, rfl, _⟩
    rfl
  · rintro cdv A outer s H vs Q E hr ⟨v, c, rfl, ⟨p, dx, rfl, hp⟩, q⟩
    refine ⟨_, (pss_one (ps_ret (pe_cmpR (o_eq (K := K) (hu64 hr)) (pv 1) (pe_fldK (K := K) (pv 0) rfl) (nomark _)))), ?_⟩
    have tobj := T.obj
    walk_at "rdh"
    have e : decide (S [c] = S [d]) = decide (c = d) := decide_eq_decide.mpr ⟨S1_inj, fun h => by rw [h]⟩
    rw [e]
    exact q
theorem b_ne (a b : Bool) : (!decide (a = b)) = (a != b) := by cases a <;> cases b <;> rfl
theorem ok_Among_fits {l : List Nat} {o : Bool} (T : Txt K mg) : OkD P w K mg base 1 (mA K "Among" "fits") ["self", "sign"] [] (spFits K (.among l o)) := by
  refine okD T.F_Among_fits sc_Among_fits (fun _ _ _ _ _ _ us hl => match us, hl with | [_, _], _ => rfl) ?_ ?_
  · rintro vs H Q E ⟨v, c, rfl, _⟩
    rfl
  · rintro cdv A outer s H vs Q E hr ⟨v, c, rfl, ⟨p, dx, rfl, hp⟩, q⟩
    refine ⟨_, (pss_one (ps_ret (pe_cmpR (o_ne (K := K) (hu64 hr)) (pe_cmpR (o_in (K := K) (hu65 hr)) (pv 1) (pe_fldK (K := K) (pv 0) rfl) (by rfl)) (pe_fldK (K := K) (pv 0) rfl) (nomark _)))), ?_⟩
    have tobj := T.obj
    walk_at "rdh"
    refine .inl ⟨c, rfl, ?_⟩
    rw [b_ne]
    exact q
theorem ok_Any_many (T : Txt K mg) : OkD P w K mg base 1 (mA K "Any" "many") ["self"] [] (spMany K .any) := by
  refine okD T.F_Any_many sc_Part_many (fun _ _ _ _ _ _ us hl => match us, hl with | [_], _ => rfl) ?_ ?_
  · rintro vs H Q E ⟨v, rfl, _⟩
    rfl
  · rintro cdv A outer s H vs Q E hr ⟨v, rfl, h, q⟩
    refine ⟨_, (pss_one (ps_ret pe_bl)), ?_⟩
    walk_at "rd"
    exact q
theorem ok_One_many {d : Nat} (T : Txt K mg) : OkD P w K mg base 1 (mA K "One" "many") ["self"] [] (spMany K (.one d)) := by
  refine okD T.F_One_many sc_Part_many (fun _ _ _ _ _ _ us hl => match us, hl with | [_], _ => rfl) ?_ ?_
  · rintro vs H Q E ⟨v, rfl, _⟩
    rfl
  · rintro cdv A outer s H vs Q E hr ⟨v, rfl, h, q⟩
    refine ⟨_, (pss_one (ps_ret pe_bl)), ?_⟩
    walk_at "rd"
    exact q
theorem ok_Among_many {l : List Nat} {o : Bool} (T : Txt K mg) : OkD P w K mg base 1 (mA K "Among" "many") ["self"] [] (spMany K (.among l o)) := by
  refine okD T.F_Among_many sc_Part_many (fun _ _ _ _ _ _ us hl => match us, hl with | [_], _ => rfl) ?_ ?_
  · rintro vs H Q E ⟨v, rfl, _⟩
    rfl
  · rintro cdv A outer s H vs Q E hr ⟨v, rfl, h, q⟩
    refine ⟨_, (pss_one (ps_ret pe_bl)), ?_⟩
    walk_at "rd"
    exact q
theorem ok_Stars_many (T : Txt K mg) : OkD P w K mg base 1 (mA K "Stars" "many") ["self"] [] (spMany K .stars) := by
  refine okD T.F_Stars_many sc_Stars_many (fun _ _ _ _ _ _ us hl => match us, hl with | [_], _ => rfl) ?_ ?_
  · rintro vs H Q E ⟨v, rfl, _⟩
    rfl
  · rintro cdv A outer s H vs Q E hr ⟨v, rfl, h, q⟩
    refine ⟨_, (pss_one (ps_ret pe_bl)), ?_⟩
    walk_at "rd"
    exact q
section
variable {X : Cx}
theorem md_fits (T : Txt K mg) (h1 : X.prog = P := by rfl) (h2 : X.w = w := by rfl) (h3 : X.K = K := by rfl) (h4 : X.mg = mg := by rfl) (h5 : X.base = base := by rfl) : MetD X 1 "fits" (PartV K) (spFits K) := by
  subst h1 h2 h3 h4 h5
  rintro i x H ⟨p, dx, rfl, hp⟩
  cases i with
  | one c => exact ⟨p, _, dx, _, _, _, rfl, hp, T.c_One, T.m_One_fits, rfl, (ok_One_fits T).mono (by decide)⟩
  | any => exact ⟨p, _, dx, _, _, _, rfl, hp, T.c_Any, T.m_Any_fits, rfl, (ok_Any_fits T).mono (by decide)⟩
  | among l o => exact ⟨p, _, dx, _, _, _, rfl, hp, T.c_Among, T.m_Among_fits, rfl, (ok_Among_fits T).mono (by decide)⟩
  | stars => exact ⟨p, _, dx, _, _, _, rfl, hp, T.c_Stars, T.m_Stars_fits, rfl, (ok_Stars_fits T).mono (by decide)⟩
theorem md_many (T : Txt K mg) (h1 : X.prog = P := by rfl) (h2 : X.w = w := by rfl) (h3 : X.K = K := by rfl) (h4 : X.mg = mg := by rfl) (h5 : X.base = base := by rfl) : MetD X 1 "many" (PartV K) (spMany K) := by
  subst h1 h2 h3 h4 h5
  rintro i x H ⟨p, dx, rfl, hp⟩
  cases i with
  | one c => exact ⟨p, _, dx, _, _, _, rfl, hp, T.c_One, T.m_One_many, rfl, (ok_One_many T).mono (by decide)⟩
  | any => exact ⟨p, _, dx, _, _, _, rfl, hp, T.c_Any, T.m_Any_many, rfl, (ok_Any_many T).mono (by decide)⟩
  | among l o => exact ⟨p, _, dx, _, _, _, rfl, hp, T.c_Among, T.m_Among_many, rfl, (ok_Among_many T).mono (by decide)⟩
  | stars => exact ⟨p, _, dx, _, _, _, rfl, hp, T.c_Stars, T.m_Stars_many, rfl, (ok_Stars_many T).mono (by decide)⟩
end
/-! ### what parts tell -/
section
variable {X : Cx}
end
/-! ### the parts made -/
def spOne (K : PySem.W.Frag) : Sp := fun vs H Q E => ∃ p dx z, vs = [.ref p, .str z] ∧ H p = some (.ins (fA K "One") dx []) ∧ z.length ≤ 1000 ∧
  (∀ c H', c ∈ SIG → z = S [c] → H' p = some (PartO K dx (.one c)) → But p H H' → Q .non H') ∧ ((¬ ∃ c ∈ SIG, z = S [c]) → E (.ref (fA K "NoPart")) none H)
theorem ok_One___init__ (T : Txt K mg) : OkD P w K mg base 2 (mA K "One" "__init__") ["self", "sign"] [] (spOne K) := by
  refine okD T.F_One___init__ sc_One___init__ (fun _ _ _ _ _ _ us hl => match us, hl with | [_, _], _ => rfl) ?_ ?_
  · rintro vs H Q E ⟨p, dx, z, rfl, _⟩
    rfl
  · rintro cdv A outer s H vs Q E hr ⟨p, dx, z, rfl, hp, hz, q1, q2⟩
    refine ⟨_, (pss_cons (ps_if (pt_not (pt_tru (K := K) (pe_cal (ok_is_sign T) (hr.mono (by decide)) rfl T.g_is_sign (pasE (takes_of rfl rfl rfl rfl) (fun _ _ _ _ h => h)) (pa_cons (pv 1) pa_nil)) (by intro _; rfl))) (pss_one (ps_raise rfl (takes_of rfl rfl rfl rfl) (pmk_own PySem.F.excBase_ValueError T.x_NoPart.1 T.g_NoPart T.x_NoPart.2.1 (raises_own T.x_NoPart.2.2.1 T.x_NoPart.2.2.2) rfl))) pss_nil)
  (pss_one (ps_fld (pv 0) (pv 1) rfl))), ?_⟩
    have tobj := T.obj
    walk_at "rdh"
    refine ⟨z, rfl, by rw [sizeLine_eq]; omega, ?_⟩
    walk_at "rdh"
    refine ite2 (fun h => ?_) fun h => ?_
    · exact q2 h
    · obtain ⟨c, hc, rfl⟩ := Classical.not_not.mp h
      exact q1 c _ hc rfl upd_same But.upd
def spAmong (K : PySem.W.Frag) : Sp := fun vs H Q E => ∃ p dx z o, vs = [.ref p, .str z, .bl o] ∧ H p = some (.ins (fA K "Among") dx []) ∧ z.length < 1000 ∧
  (∀ l H', SigSet l → z.cps.toList.Perm l → H' p = some (PartO K dx (.among l o)) → But p H H' → Q .non H') ∧ ((¬ ∃ l, SigSet l ∧ z.cps.toList.Perm l) → ∀ H', Same H H' → E (.ref (fA K "NoPart")) none H')
theorem bd_Among___init__ (T : Txt K mg) : BodyQ P w K mg base 1 (mA K "Among" "__init__") "Among.__init__" (defBody TX.s_Among___init__) (defScope TX.s_Among___init__) N_Among___init__ (spAmong K) := by
  rintro cdv A outer s H vs Q E hr ⟨p, dx, z, o, rfl, hp, hz, q1, q2⟩
  refine ⟨_, (pss_cons (ps_if (pt_mid (PW.pt (pw_or (pt_cmpR (o_eq (K := K) (hu64 hr)) (pv 1) pe_str (nomark _)) (pw_or (pt_cmpR o_lt (pe_callB (o_lenW (K := K) (w := w)) (by rfl) T.fr_len boot_len (pa_cons (pe_callTy (o_set (K := K) (w := w) rfl) (by rfl) T.fr_set (by decide +kernel) (pa_cons (pv 1) pa_nil)) pa_nil)) (pe_callB (o_lenW (K := K) (w := w)) (by rfl) T.fr_len boot_len (pa_cons (pv 1) pa_nil)) (nomark _)) (pw_or1 (pt_not (pt_tru (K := K) (pe_callB (o_all (K := K) rfl) (by rfl) T.fr_all (by decide +kernel) (pa_cons (pe_lc (own := [("sign", 3)]) (g := (gName 3)) (tt := tYes) rfl sc_Among___init__.nd (pi_mid (o_it (K := K) rfl (pv 1))) (blkOk_by (N := N_Among___init__) (sc := defScope TX.s_Among___init__) (by decide +kernel)) (fun _ _ _ _ _ => (pg_name (i := 3) sc_Among___init__.nd rfl (Or.inl rfl))) (fun _ _ _ _ _ => pts_nil) (fun _ _ _ _ _ => (pe_mid (pe_cal (ok_is_sign T) (hr.mono (by decide)) rfl T.g_is_sign pasN (pa_cons (pv 3) pa_nil))))) pa_nil)) (by intro _; rfl)))))))) (pss_one (ps_raise rfl (takes_of rfl rfl rfl rfl) (pmk_own PySem.F.excBase_ValueError T.x_NoPart.1 T.g_NoPart T.x_NoPart.2.1 (raises_own T.x_NoPart.2.2.1 T.x_NoPart.2.2.2) rfl))) pss_nil)
  (pss_cons (ps_fld (pv 0) (pe_mid (pe_bmK (K := K) PySem.F.plainAttrs_str PySem.F.slot_str_join PySem.F.type_str_join (mo_join (K := K)) pe_str (pa_cons (pe_callB (o_sorted (K := K) (w := w) rfl) (by rfl) T.fr_sorted (by decide +kernel) (pa_cons (pv 1) pa_nil)) pa_nil))) rfl)
  (pss_one (ps_fld (pv 0) (pv 2) rfl)))), ?_⟩
  have tobj := T.obj
  refine q_if (fun b H1 => Same H H1 ∧ (b = true ↔ ¬ Good z)) ?_ (fun H1 ⟨s1, e1⟩ => ?_) fun H1 ⟨s1, e1⟩ => ?_
  · walk_at "rd"
    refine ite2 (fun h => ?_) fun h => ?_
    · exact ⟨fun _ g => (good_iff.mp g).1 h, fun _ => trivial⟩
    have hch : (chars z).length = z.length := by unfold chars; rw [List.length_map, Array.length_toList]; rfl
    refine ⟨by rw [hch]; exact hz, fun a l ha nd hm => .inl ⟨l, upd_same, by omega, ?_⟩⟩
    have sa := same_new (o := SetS w a l) ha
    have el : ((l.length : Int) < (z.length : Int)) = ¬ (chars z).Nodup := by
      rw [← set_len nd hm, hch]
      exact propext Int.ofNat_lt
    refine ite2 (fun hn => ?_) fun hn => ?_
    · exact ⟨sa, fun _ g => (el ▸ hn) (good_iff.mp g).2.1, fun _ => trivial⟩
    rw [el] at hn
    refine lc_text (z := z) (H0 := upd H a (SetS w a l)) (fun c => .bl (decide (c ∈ SIG))) ?_ (by omega) (fun _ => rfl) ?_ ?_
    · walk_at "rd"
    · intro c H' hc s2
      walk_at "rd"
      refine ⟨⟨#[c]⟩, rfl, (by rw [sizeLine_eq]; show 1 ≤ 16777216; decide), ?_⟩
      walk_at "rd"
      refine decide_eq_decide.mpr ⟨fun ⟨d, hd, e⟩ => ?_, fun hd => ⟨c, hd, rfl⟩⟩
      rw [S1_inj e]
      exact hd
    · intro p' H' hp' s2 hH'
      walk_at "rd"
      refine ⟨z.cps.toList.map fun c => decide (c ∈ SIG), .inl (.inl (by rw [hH', List.map_map]; rfl)), ?_⟩
      refine ⟨sa.trans s2, ?_⟩
      have e : (z.cps.toList.map fun c => decide (c ∈ SIG)).all id = decide (∀ c ∈ z.cps.toList, c ∈ SIG) := by
        rw [List.all_map]
        refine Bool.eq_iff_iff.mpr ?_
        rw [List.all_eq_true, decide_eq_true_eq]
        exact ⟨fun h c hc => of_decide_eq_true (h c hc), fun h c hc => decide_eq_true (h c hc)⟩
      rw [e]
      rw [decide_eq_false_iff_not]
      exact ⟨fun hs g => hs (good_iff.mp g).2.2, fun hg hs => hg (good_iff.mpr ⟨h, Classical.not_not.mp hn, hs⟩)⟩
  · walk_at "rd"
    exact q2 (e1.mp rfl) _ s1
  · have g : Good z := Classical.not_not.mp fun n => nomatch e1.mpr n
    obtain ⟨g1, g2, g3⟩ := good_iff.mp g
    obtain ⟨l, ok, pm⟩ := g
    have hp1 := s1 _ _ hp
    have c1 := T.c_Among
    walk_at "rd"
    refine mid_of (fun v H' => v = .str (S l) ∧ Same H1 H') ?_ ?_
    · walk_at "rd"
      have el := pm.length_eq
      have e39 := ok.len
      have hch : (chars z).length = l.length := by unfold chars; rw [List.length_map, el]
      refine ⟨by omega, fun ys p' p1 so hp' => ?_⟩
      obtain ⟨cs, rfl, up, mem⟩ := sorted_signs p1 so g2 fun x hx => by
        obtain ⟨c, _, rfl⟩ := List.mem_map.mp hx
        exact ⟨c, rfl⟩
      have ec : cs = l := up_eq up ok.up fun c => by rw [mem, ← pm.mem_iff]; exact map1_mem
      subst ec
      refine ⟨_, .inl (.inl (.inl upd_same)), ?_, join_chars cs, same_new hp'⟩
      have e := len_chars cs
      rw [show (Str.ofString "") = S [] from rfl, e]
      omega
    · rintro _ H2 ⟨rfl, s2⟩
      have hp2 := s2 _ _ hp1
      walk_at "rdh"
      exact q1 l _ ok pm upd_same (.same (s1.trans s2) .upd)
theorem ok_Among___init___1 (T : Txt K mg) : OkD P w K mg base 2 (mA K "Among" "__init__") ["self", "signs", "outside"] [V.bl false] (spAmong K) := okDd T.F_Among___init__ sc_Among___init__ 2 0 (fun q => nomatch q) rfl (fun _ _ _ _ _ _ _ us its hl hi => match us, hl, its, hi with | [_, _], _, [_], _ => ⟨_, rfl, rfl⟩) (by rintro vs H Q E ⟨p, dx, z, o, rfl, _⟩; rfl) (bd_Among___init__ T)
theorem ok_Among___init__ (T : Txt K mg) : OkD P w K mg base 2 (mA K "Among" "__init__") ["self", "signs", "outside"] [] (spAmong K) := okDd T.F_Among___init__ sc_Among___init__ 3 1 (fun q => nomatch q) rfl (fun _ _ _ _ _ _ _ us its hl hi => match us, hl, its, hi with | [_, _, _], _, [_], _ => ⟨_, rfl, rfl⟩) (by rintro vs H Q E ⟨p, dx, z, o, rfl, _⟩; rfl) (bd_Among___init__ T)
theorem okk_Among___init___outside (T : Txt K mg) : OkK P w K mg base 2 (mA K "Among" "__init__") ["self", "signs", "outside"] 2 ["outside"] (spAmong K) := okK T.F_Among___init__ sc_Among___init__ 2 ["outside"] (fun q => nomatch q) (fun _ _ _ _ _ _ _ us its ws hl hi hw => match us, hl, its, hi, ws, hw with | [_, _], _, [_], _, [_], _ => ⟨_, rfl, rfl⟩) (by rintro vs H Q E ⟨p, dx, z, o, rfl, _⟩; rfl) (bd_Among___init__ T)

def PF.vs : PF → List V
  | .one c => [.str "one", .str (S [c])]
  | .any => [.str "any"]
  | .among l o => [.str "among", .str (S l), .bl o]
  | .stars => [.str "stars"]
theorem PF.inv {f : PF} {v : V} {H : Hp} (h : Dp K H v f.d) : ∃ a, v = .ref a ∧ SqT K H a f.vs := by
  cases f with
  | one c =>
    cases h with
    | tup hs ha => cases ha with | cons h1 ha => cases ha with | cons h2 ha => cases ha; cases h1; cases h2; exact ⟨_, rfl, hs⟩
  | any =>
    cases h with
    | tup hs ha => cases ha with | cons h1 ha => cases ha; cases h1; exact ⟨_, rfl, hs⟩
  | among l o =>
    cases h with
    | tup hs ha => cases ha with | cons h1 ha => cases ha with | cons h2 ha => cases ha with | cons h3 ha => cases ha; cases h1; cases h2; cases h3; exact ⟨_, rfl, hs⟩
  | stars =>
    cases h with
    | tup hs ha => cases ha with | cons h1 ha => cases ha; cases h1; exact ⟨_, rfl, hs⟩
def spMade (K : PySem.W.Frag) : Sp := fun vs H Q _ => ∃ v f, vs = [v] ∧ Dp K H v f.d ∧ PF.Ok f ∧ ∀ u H', Same H H' → PartV K f u H' → Q u H'
theorem ok__law_part_made (T : Txt K mg) : OkD P w K mg base 4 (fA K "_law_part_made") ["_law_form"] [] (spMade K) := by
  refine okD T.F__law_part_made sc__law_part_made (fun _ _ _ _ _ _ us hl => match us, hl with | [_], _ => rfl) ?_ ?_
  · rintro vs H Q E ⟨v, f, rfl, _⟩
    rfl
  · rintro cdv A outer s H vs Q E hr ⟨v, f, rfl, hd, ok, q⟩
    refine ⟨_, (pss_cons (ps_if (pt_mid (pt_cmpR (o_eq (K := K) (hu64 hr)) (pe_ix (o_ix (K := K)) (pv 0) pe_int (fun _ _ => rfl)) pe_str (nomark _))) (pss_one (ps_ret (pe_mak T.mk_One (ok_One___init__ T) (hr.mono (by decide)) rfl T.g_One (pasE (takes_of rfl rfl rfl rfl) (fun _ _ _ _ h => h)) (pa_cons (pe_ix (o_ix (K := K)) (pv 0) pe_int (fun _ _ => rfl)) pa_nil)))) pss_nil)
  (pss_cons (ps_if (pt_mid (pt_cmpR (o_eq (K := K) (hu64 hr)) (pe_ix (o_ix (K := K)) (pv 0) pe_int (fun _ _ => rfl)) pe_str (nomark _))) (pss_one (ps_ret (pe_makN T.mn_Any rfl T.g_Any))) pss_nil)
  (pss_cons (ps_if (pt_mid (pt_cmpR (o_eq (K := K) (hu64 hr)) (pe_ix (o_ix (K := K)) (pv 0) pe_int (fun _ _ => rfl)) pe_str (nomark _))) (pss_one (ps_ret (pe_mak T.mk_Among (ok_Among___init__ T) (hr.mono (by decide)) rfl T.g_Among (pasE (takes_of rfl rfl rfl rfl) (fun _ _ _ _ h => h)) (pa_cons (pe_ix (o_ix (K := K)) (pv 0) pe_int (fun _ _ => rfl)) (pa_cons (pe_ix (o_ix (K := K)) (pv 0) pe_int (fun _ _ => rfl)) pa_nil))))) pss_nil)
  (pss_one (ps_ret (pe_makN T.mn_Stars rfl T.g_Stars)))))), ?_⟩
    have tobj := T.obj
    obtain ⟨a, rfl, hs⟩ := PF.inv hd
    cases f with
    | one c =>
      refine q_if (fun b H1 => b = true ∧ H1 = H) (by walk_at "rdx") (fun H1 h => ?_) (fun H1 h => nomatch h.1)
      obtain ⟨_, rfl⟩ := h
      walk_at "rdx"
      intro x dx hx hdx hne
      refine ⟨x, dx, S [c], rfl, upd_same, (by show 1 ≤ 1000; decide), fun c' H' _ e h1 h2 => ⟨rfl, ?_⟩, fun n => absurd ⟨c, ok, rfl⟩ n⟩
      rw [← S1_inj e] at h1
      exact q _ _ (but_same hx hdx h2) ⟨x, dx, rfl, h1⟩
    | any =>
      refine q_if (fun b H1 => b = false ∧ H1 = H) (by walk_at "rdx") (fun H1 h => nomatch h.1) (fun H1 h => ?_)
      obtain ⟨_, rfl⟩ := h
      refine q_if (fun b H1' => b = true ∧ H1' = H1) (by walk_at "rdx") (fun H2 h => ?_) (fun H1 h => nomatch h.1)
      obtain ⟨_, rfl⟩ := h
      walk_at "rdx"
      intro x dx hx hdx hne
      exact q _ _ (but_same hx hdx (fun _ _ _ e => e)) ⟨x, dx, rfl, upd_same⟩
    | among l o =>
      refine q_if (fun b H1 => b = false ∧ H1 = H) (by walk_at "rdx") (fun H1 h => nomatch h.1) (fun H1 h => ?_)
      obtain ⟨_, rfl⟩ := h
      refine q_if (fun b H1' => b = false ∧ H1' = H1) (by walk_at "rdx") (fun H1 h => nomatch h.1) (fun H2 h => ?_)
      obtain ⟨_, rfl⟩ := h
      refine q_if (fun b H1' => b = true ∧ H1' = H2) (by walk_at "rdx") (fun H3 h => ?_) (fun H1 h => nomatch h.1)
      obtain ⟨_, rfl⟩ := h
      walk_at "rdx"
      intro x dx hx hdx hne
      refine ⟨x, dx, S l, o, rfl, upd_same, ?_, fun m H' ok' pm h1 h2 => ⟨rfl, ?_⟩, fun n => absurd ⟨l, ok.1, .refl _⟩ n⟩
      · rw [S_len]
        have := ok.1.len
        omega
      · have e : m = l := up_eq ok'.up ok.1.up fun c => pm.mem_iff.symm
        rw [e] at h1
        exact q _ _ (but_same hx hdx h2) ⟨x, dx, rfl, h1⟩
    | stars =>
      refine q_if (fun b H1 => b = false ∧ H1 = H) (by walk_at "rdx") (fun H1 h => nomatch h.1) (fun H1 h => ?_)
      obtain ⟨_, rfl⟩ := h
      refine q_if (fun b H1' => b = false ∧ H1' = H1) (by walk_at "rdx") (fun H1 h => nomatch h.1) (fun H2 h => ?_)
      obtain ⟨_, rfl⟩ := h
      refine q_if (fun b H1' => b = false ∧ H1' = H2) (by walk_at "rdx") (fun H1 h => nomatch h.1) (fun H3 h => ?_)
      obtain ⟨_, rfl⟩ := h
      walk_at "rdx"
      intro x dx hx hdx hne
      exact q _ _ (but_same hx hdx (fun _ _ _ e => e)) ⟨x, dx, rfl, upd_same⟩

/-! ### steps -/
theorem while_mid {c : TT} {tb : TS} {D : Ends} {σ : L2.St} {H : Hp} (W : Nat → L2.St → Hp → Prop) (m : Nat) (w0 : W m σ H)
    (turn : ∀ m σ H, W m σ H → ∃ C : Bool → Hp → Prop, c σ H C ∧ (∀ H1, C true H1 → tb { D with nx := fun σ' H' => ∃ m', m' < m ∧ W m' σ' H', ct := fun σ' H' => ∃ m', m' < m ∧ W m' σ' H', bk := D.nx } σ H1) ∧ ∀ H1, C false H1 → D.nx σ H1) :
    tWhile (tMidT c) tb D σ H := by
  refine ⟨W, ⟨m, w0⟩, fun m σ H w => ?_⟩
  obtain ⟨C, h1, h2, h3⟩ := turn m σ H w
  refine ⟨C, h1, fun b H1 hb => ?_⟩
  cases b with
  | true => exact ⟨_, fun _ _ h => h, h2 H1 hb⟩
  | false => exact h3 H1 hb
theorem q_new {i : Nat} {u : TS} {D : Ends} {σ : L2.St} {H : Hp} (h : ∀ p, H p = none → u D (σ.set i (some (.ref p))) (upd H p (.lst []))) : tSeq (tAsg (tLst tNil) (gName i)) u D σ H := by
  unfold tSeq tAsg tLst tNil gName
  exact ⟨Nat.zero_le _, fun p hp => h p hp⟩
theorem l_app {i : Nat} {te : TE} {D : Ends} {σ : L2.St} {H : Hp} {F : Addr} {xs : List V} (e : σ[i]? = some (some (.ref F))) (hl : H F = some (.lst xs))
    (h : te σ H fun y H1 => ∃ ys, H1 F = some (.lst ys) ∧ ys.length < sizeLine ∧ D.nx σ (upd H1 F (.lst (ys ++ [y])))) : tDrop (tBM K "list" rAppend (tVar i) (tCons (tMid te) tNil)) D σ H := by
  unfold tDrop tBM tVar tCons tNil
  exact ⟨_, e, .inl ⟨rfl, xs, .inl (.inl hl)⟩, _, h, fun y H1 ⟨ys, h1, h2, h3⟩ => ⟨F, ys, y, rfl, rfl, h1, h2, h3⟩⟩
theorem l_appV {i j : Nat} {D : Ends} {σ : L2.St} {H : Hp} {F : Addr} {xs : List V} {y : V} (e : σ[i]? = some (some (.ref F))) (e2 : σ[j]? = some (some y)) (hl : H F = some (.lst xs)) (hn : xs.length < 16777216)
    (h : D.nx σ (upd H F (.lst (xs ++ [y])))) : tDrop (tBM K "list" rAppend (tVar i) (tCons (tMid (tVar j)) tNil)) D σ H := l_app e hl ⟨y, e2, xs, hl, by rw [sizeLine_eq]; exact hn, h⟩
def intsV (l : List Nat) : List V := l.map fun (i : Nat) => V.int (i : Int)
theorem inV_ints {j : Nat} : ∀ {l : List Nat}, inV (.int j) (intsV l) = decide (j ∈ l)
  | [] => rfl
  | i :: r => by
    have ih := inV_ints (j := j) (l := r)
    have e : inV (.int j) (intsV (i :: r)) = (decide ((i : Int) = (j : Int)) || inV (.int j) (intsV r)) := rfl
    rw [e, ih, ← Bool.decide_or]
    refine decide_eq_decide.mpr ?_
    rw [List.mem_cons, Int.natCast_inj]
    exact ⟨fun h => h.imp Eq.symm id, fun h => h.imp Eq.symm id⟩
theorem flat_ints : ∀ (l : List Nat), (intsV l).all flatV = true
  | [] => rfl
  | _ :: r => flat_ints r
theorem l_midG {i : Nat} {te : TE} {D : Ends} {σ : L2.St} {H : Hp} (C : V → Hp → Prop) (h : te σ H C) (k : ∀ v H1, C v H1 → D.nx (σ.set i (some v)) H1) : tAsg (tMid te) (gName i) D σ H := ⟨C, h, k⟩
theorem drop_le {α : Type} (k : Nat) (l : List α) : (l.drop k).length ≤ l.length := by rw [List.length_drop]; exact Nat.sub_le _ _
theorem atI_zero {α : Type} {x : α} {r : List α} : atI (x :: r) 0 = some x := by
  show atI (x :: r) ((0 : Nat) : Int) = some x
  exact atI_nat rfl
/-! ### segments -/
theorem PartsV.at' {fs : List PF} {us : List V} {H : Hp} {i : Nat} {x : V} (h : PartsV K fs us H) (e : us[i]? = some x) : ∃ f, fs[i]? = some f ∧ PartV K f x H := by
  have hl : i < us.length := (List.getElem?_eq_some_iff.mp e).1
  rw [h.1] at hl
  obtain ⟨u, e2, g⟩ := h.2 i fs[i] (List.getElem?_eq_getElem hl)
  rw [e2] at e
  cases e
  exact ⟨_, List.getElem?_eq_getElem hl, g⟩
theorem atI_last {xs : List V} {u : V} (h : xs.getLast? = some u) : atI xs (-1) = some u := by
  unfold atI ixN
  have hne : xs ≠ [] := fun e => by rw [e] at h; cases h
  have hl : 0 < xs.length := List.length_pos_iff.mpr hne
  rw [if_neg (by decide), if_pos (by omega)]
  have e : ((-1 : Int) + (xs.length : Int)).toNat = xs.length - 1 := by omega
  show xs[((-1 : Int) + (xs.length : Int)).toNat]? = some u
  rw [e, ← List.getLast?_eq_getElem?]
  exact h
theorem PartsV.last {fs : List PF} {us : List V} {H : Hp} {f : PF} (h : PartsV K fs us H) (e : fs.getLast? = some f) : ∃ u, us.getLast? = some u ∧ PartV K f u H := by
  rw [List.getLast?_eq_getElem?] at e
  obtain ⟨u, e2, g⟩ := h.2 _ f e
  refine ⟨u, ?_, g⟩
  rw [List.getLast?_eq_getElem?, h.1]
  exact e2
def addB (acc : List PF) (f : PF) : Bool := decide (acc = []) || (!f.many || match acc.getLast? with
  | some g => !g.many
  | none => true)
theorem normOne_eq (acc : List PF) (f : PF) : normOne acc f = if addB acc f = true then acc ++ [f] else acc := by
  unfold normOne addB
  rcases List.eq_nil_or_concat acc with rfl | ⟨r, g, rfl⟩
  · simp
  · rw [List.concat_eq_append]
    simp only [List.getLast?_append, List.getLast?_singleton, Option.some_or]
    cases f.many <;> cases h : g.many <;> simp [h]
def spSeg (K : PySem.W.Frag) : Sp := fun vs H Q E => ∃ p dx t us fs, vs = [.ref p, .ref t] ∧ (SqT K H t us ∨ SqL K H t us) ∧ PartsV K fs us H ∧ fs.length ≤ 1000 ∧ H p = some (.ins (fA K "Segment") dx []) ∧ (∀ u ∈ us, u ≠ .ref p) ∧
  (fs ≠ [] → ∀ H' tt us', But p H H' → H' p = some (.ins (fA K "Segment") dx [("parts", .ref tt)]) → H' tt = some (.tup us') → PartsV K (normP fs) us' H' → Q .non H') ∧ (fs = [] → E (.ref (fA K "NoPart")) none H)
theorem seq_walk {t : Addr} {us : List V} {H : Hp} (h : SqT K H t us ∨ SqL K H t us) : ∃ J0 G, (∀ (σ : L2.St) (H' : Hp) (i : Nat), σ[i]? = some (some (.ref t)) → Same H H' → iU K (tVar i) σ H' fun J H1 => J = J0 ∧ H1 = H') ∧ Walk J0 us.length G (YAt us) ∧ ∀ H', Same H H' → G H' := by
  rcases h with h | h
  · exact ⟨_, _, fun σ H' i e s => ⟨_, e, .inr ⟨⟨us, same_t s h⟩, rfl, rfl⟩⟩, walk_tup (K := K) (a := t) (xs := us), fun H' s => same_t s h⟩
  · exact ⟨_, _, fun σ H' i e s => ⟨_, e, .inl ⟨⟨us, same_l s h⟩, rfl, rfl⟩⟩, walk_list (K := K) (a := t) (xs := us), fun H' s => same_l s h⟩
theorem len_seq {t : Addr} {us : List V} {H : Hp} (h : SqT K H t us ∨ SqL K H t us) : LenV K (.ref t) H us.length := h.elim (fun h => .inr ⟨us, h, rfl⟩) fun h => .inl ⟨us, h, rfl⟩
theorem ok_Segment___init__ (T : Txt K mg) : OkD P w K mg base 2 (mA K "Segment" "__init__") ["self", "parts"] [] (spSeg K) := by
  refine okD T.F_Segment___init__ sc_Segment___init__ (fun _ _ _ _ _ _ us hl => match us, hl with | [_, _], _ => rfl) ?_ ?_
  · rintro vs H Q E ⟨p, dx, t, us, fs, rfl, _⟩
    rfl
  · rintro cdv A outer s H vs Q E hr ⟨p, dx, t, us, fs, rfl, ht, hp, hn, ho, hup, q1, q2⟩
    refine ⟨_, (pss_cons (ps_if (pt_mid (pt_cmpR (o_eq (K := K) (hu64 hr)) (pe_callB (o_lenW (K := K) (w := w)) (by rfl) T.fr_len boot_len (pa_cons (pv 1) pa_nil)) pe_int (nomark _))) (pss_one (ps_raise rfl (takes_of rfl rfl rfl rfl) (pmk_own PySem.F.excBase_ValueError T.x_NoPart.1 T.g_NoPart T.x_NoPart.2.1 (raises_own T.x_NoPart.2.2.1 T.x_NoPart.2.2.2) rfl))) pss_nil)
  (pss_cons (ps_set (i := 2) sc_Segment___init__.nd rfl (Or.inl rfl) (pe_lst pa_nil))
  (pss_cons (ps_mid (ps_for (passes_of rfl) rfl (pi_mid (o_it (K := K) rfl (pv 1))) (pg_name (i := 3) sc_Segment___init__.nd rfl (Or.inl rfl)) (pss_one (ps_if (pt_mid (PW.pt (pw_or (pt_cmpR (o_eq (K := K) (hu64 hr)) (pv 2) (pe_lst pa_nil) (nomark _)) (pw_or (pt_not (pt_tru (K := K) (pe_metI0 (md_many T) (pv 3) (hr.mono (by decide)) (pasE (takes_of rfl rfl rfl rfl) (fun _ _ _ _ h => h))) (by intro _; rfl))) (pw_or1 (pt_not (pt_tru (K := K) (pe_metI0 (md_many T) (pe_ix (o_ix (K := K)) (pv 2) (pe_un un_neg pe_int) (fun _ _ => rfl)) (hr.mono (by decide)) (pasE (takes_of rfl rfl rfl rfl) (fun _ _ _ _ h => h))) (by intro _; rfl)))))))) (pss_one (ps_expr (pe_bmK (K := K) PySem.F.plainAttrs_list PySem.F.slot_list_append PySem.F.type_list_append mt_append (pv 2) (pa_cons (pe_mid (pv 3)) pa_nil)))) pss_nil))))
  (pss_one (ps_fld (pv 0) (pe_mid (pe_callTy (o_tuple (K := K)) (by rfl) T.fr_tuple (by decide +kernel) (pa_cons (pv 2) pa_nil))) rfl))))), ?_⟩
    have tobj := T.obj
    refine q_if (fun b H' => H' = H ∧ b = decide (fs = [])) ?_ ?_ ?_
    · walk_at "rd"
      refine .inr ⟨_, len_seq ht, ?_⟩
      rw [hp.1]
      refine decide_eq_decide.mpr ⟨fun h => List.length_eq_zero_iff.mp (by omega), fun h => by rw [h]; rfl⟩
    · rintro _ ⟨rfl, hb⟩
      walk_at "rd"
      exact q2 (of_decide_eq_true hb.symm)
    rintro _ ⟨rfl, hb⟩
    have hne : fs ≠ [] := of_decide_eq_false hb.symm
    rename_i H
    refine q_new fun F hF => ?_
    have hFp : F ≠ p := fun e => by rw [e, ho] at hF; cases hF
    obtain ⟨J0, G, hw, wk, hG⟩ := seq_walk ht
    have sF : Same H (upd H F (.lst [])) := same_new hF
    refine q_stm (fun σ H' => ∃ acc x, σ = [some (.ref p), some (.ref t), some (.ref F), x] ∧ Same H H' ∧ H' F = some (.lst acc) ∧ PartsV K (normP fs) acc H' ∧ ∀ u ∈ acc, u ≠ .ref p) ?_ ?_
    · refine for_mid (J0 := J0) (H0 := upd H F (.lst [])) (hw _ _ _ rfl sF) wk
        (fun k σ H' => ∃ acc x, σ = [some (.ref p), some (.ref t), some (.ref F), x] ∧ Same H H' ∧ H' F = some (.lst acc) ∧ PartsV K ((fs.take k).foldl normOne []) acc H' ∧ ∀ u ∈ acc, u ≠ .ref p)
        ⟨[], none, rfl, sF, upd_same, .nil, fun _ h => nomatch h⟩ (fun k σ H' _ ⟨_, _, _, s, _⟩ => hG H' s) ?_ (fun σ H' h => ?_)
      · rintro k x σ H1 H1' hk ⟨acc, x0, rfl, sm, hl, pv, nup⟩ ⟨rfl, hx⟩
        obtain ⟨f, hf, hu⟩ := hp.at' hx
        have hu1 := hu.mono sm
        have len : acc.length ≤ fs.length := by
          rw [pv.1]
          have key : ∀ (l : List PF), (l.foldl normOne []).length ≤ l.length := fun l => by
            have g : ∀ (l a : List PF), (l.foldl normOne a).length ≤ a.length + l.length := by
              intro l
              induction l with
              | nil => exact fun a => Nat.le_refl _
              | cons y r ih =>
                intro a
                refine Nat.le_trans (ih (normOne a y)) ?_
                have e : (normOne a y).length ≤ a.length + 1 := by
                  unfold normOne
                  split
                  · rw [List.length_append]; exact Nat.le_refl _
                  · exact Nat.le_succ _
                rw [List.length_cons]
                omega
            have := g l []
            simpa using this
          have a := key (fs.take k)
          have b := List.length_take_le' k fs
          omega
        refine l_if (fun b H' => Same H1' H' ∧ b = addB ((fs.take k).foldl normOne []) f) ?_ ?_ ?_
        · walk_at "rd"
          intro n hn0
          have sn : Same H1' (upd H1' n (.lst [])) := same_new hn0
          have hln := sn _ _ hl
          have hun := hu1.mono sn
          have eacc : acc = [] ↔ (fs.take k).foldl normOne [] = [] := by
            rw [← List.length_eq_zero_iff, ← List.length_eq_zero_iff, pv.1]
          generalize ha0 : (fs.take k).foldl normOne [] = a0 at *
          refine eq_nil (.inl (.inl hln)) (.inl (.inl upd_same)) ⟨_, rfl, ite2 (fun h => ?_) fun h => ?_⟩
          · refine ⟨sn, ?_⟩
            unfold addB
            rw [decide_eq_true (eacc.mp (of_decide_eq_true h))]
            rfl
          have hna : a0 ≠ [] := fun e => h (decide_eq_true (eacc.mpr e))
          have e0 : addB a0 f = (!f.many || match a0.getLast? with
            | some g => !g.many
            | none => true) := by
            unfold addB
            rw [decide_eq_false hna]
            rfl
          refine ⟨f, hun, x, rfl, hun, _, rfl, ite2 (fun hm => ⟨sn, ?_⟩) fun hm => ?_⟩
          · rw [e0, hm]; rfl
          obtain ⟨g, hg⟩ : ∃ g, a0.getLast? = some g := by
            cases e : a0.getLast? with
            | none => exact absurd (List.getLast?_eq_none_iff.mp e) hna
            | some g => exact ⟨g, rfl⟩
          obtain ⟨u, h1, h2⟩ := pv.last hg
          have h2n := h2.mono sn
          refine ⟨acc, .inl (.inl (.inl hln)), u, atI_last h1, g, h2n, u, rfl, h2n, _, rfl, sn, ?_⟩
          have hm' : f.many = true := by simpa using hm
          rw [e0, hm', hg]
          rfl
        · rintro H2 ⟨s2, hb⟩
          have hl2 := s2 _ _ hl
          refine l_appV rfl rfl hl2 (by omega) ⟨acc ++ [x], _, rfl, same_mut (sm.trans s2) hF, upd_same, ?_, fun u hu => (List.mem_append.mp hu).elim (nup u) fun h => by rw [List.mem_singleton.mp h]; exact hup x (List.mem_of_getElem? hx)⟩
          rw [norm_take hf, normOne_eq, if_pos hb.symm]
          exact ((pv.mono s2).nl (nl_upd hl2)).snoc ((hu1.mono s2).nl (nl_upd hl2))
        · rintro H2 ⟨s2, hb⟩
          refine ⟨acc, _, rfl, sm.trans s2, s2 _ _ hl, ?_, nup⟩
          rw [norm_take hf, normOne_eq, if_neg (by rw [← hb]; exact Bool.false_ne_true)]
          exact pv.mono s2
      · obtain ⟨acc, x, e, sm, hl, pv, nup⟩ := h
        rw [List.take_of_length_le (by rw [hp.1]; exact Nat.le_refl _)] at pv
        exact ⟨acc, x, e, sm, hl, pv, nup⟩
    · rintro σ H1 ⟨acc, x, rfl, sm, hl, pv, nup⟩
      have ho1 := sm _ _ ho
      walk_at "rd"
      refine mid_of (fun v H' => ∃ tt, v = .ref tt ∧ H1 tt = none ∧ H' = upd H1 tt (.tup acc)) ?_ ?_
      · walk_at "rd"
        exact ⟨acc, .inl ⟨.inl (.inl hl), fun l h => ⟨h, rfl⟩⟩⟩
      · rintro _ _ ⟨tt, rfl, htt, rfl⟩
        have st : Same H1 (upd H1 tt (.tup acc)) := same_new htt
        have ho2 := st _ _ ho1
        have ntp : tt ≠ p := fun e => by rw [e, ho1] at htt; cases htt
        have nF : p ≠ F := fun e => hFp e.symm
        have sp : NL (upd H1 tt (.tup acc)) (upd (upd H1 tt (.tup acc)) p (.ins (fA K "Segment") dx [("parts", .ref tt)])) → True := fun _ => trivial
        walk_at "rdh"
        refine q1 hne _ tt acc (But.same (sm.trans st) .upd) upd_same ?_ ?_
        · rw [upd_ne ntp]; exact upd_same
        · have pvt := pv.mono st
          refine ⟨pvt.1, fun i f hf => ?_⟩
          obtain ⟨u, e1, pu, dx', e2, e3⟩ := pvt.2 i f hf
          refine ⟨u, e1, pu, dx', e2, ?_⟩
          rw [upd_ne fun e => nup u (List.mem_of_getElem? e1) (by rw [e2, e])]
          exact e3

/-! ### what steps tell -/
mutual
def tupB : PyData → Bool
  | .none => true
  | .bool _ => true
  | .int _ => true
  | .str _ => true
  | .tuple ds => tupBs ds
  | _ => false
def tupBs : List PyData → Bool
  | [] => true
  | d :: r => tupB d && tupBs r
end
theorem sqT_nl {H H' : Hp} {a : Addr} {xs : List V} (h : SqT K H a xs) (e : NL H H') : SqT K H' a xs := by
  rcases h with (h | ⟨o, h⟩) | h
  · exact .inl (.inl (e _ _ h fun _ z => nomatch z))
  · exact .inl (.inr ⟨o, e _ _ h fun _ z => nomatch z⟩)
  · exact .inr h
mutual
theorem dp_nl {H H' : Hp} (e : NL H H') : ∀ (d : PyData) (v : V), tupB d = true → Dp K H v d → Dp K H' v d
  | .none, _, _, .non => .non
  | .bool _, _, _, .bl b => .bl b
  | .int _, _, _, .int i => .int i
  | .str _, _, _, .str x => .str x
  | .tuple ds, _, t, .tup h a => .tup (sqT_nl h e) (dpAll_nl e ds _ (by simpa only [tupB] using t) a)
  | .list ds, _, t, _ => by simp [tupB] at t
theorem dpAll_nl {H H' : Hp} (e : NL H H') : ∀ (ds : List PyData) (vs : List V), tupBs ds = true → DpAll K H vs ds → DpAll K H' vs ds
  | [], _, _, .nil => .nil
  | d :: ds, _, t, .cons h a => by
    have t' : tupB d = true ∧ tupBs ds = true := by simpa only [tupBs, Bool.and_eq_true] using t
    exact .cons (dp_nl e d _ t'.1 h) (dpAll_nl e ds _ t'.2 a)
end
theorem tupBs_map {α : Type} (d : α → PyData) (h : ∀ x, tupB (d x) = true) : ∀ l : List α, tupBs (l.map d) = true
  | [] => by simp only [List.map_nil, tupBs]
  | x :: r => by simp only [List.map_cons, tupBs, h x, tupBs_map d h r, Bool.and_self]
theorem PF.tup (f : PF) : tupB f.d = true := by cases f <;> simp [PF.d, tupB, tupBs]
theorem SF.tup (f : SF) : tupB f.d = true := by
  cases f with
  | deep => simp [SF.d, tupB, tupBs]
  | seg fs => simp [SF.d, tupB, tupBs, tupBs_map PF.d PF.tup fs]
/-- us are the things fs, one by one -/
def Each {α : Type} (R : α → V → Hp → Prop) (fs : List α) (us : List V) (H : Hp) : Prop := us.length = fs.length ∧ ∀ (i : Nat) (f : α), fs[i]? = some f → ∃ u, us[i]? = some u ∧ R f u H
section
variable {α : Type} {R : α → V → Hp → Prop} {fs : List α} {us : List V} {H H' : Hp}
theorem Each.imp {R' : α → V → Hp → Prop} (h : Each R fs us H) (i : ∀ f u, R f u H → R' f u H') : Each R' fs us H' := ⟨h.1, fun j f hf => let ⟨u, a, b⟩ := h.2 j f hf; ⟨u, a, i f u b⟩⟩
theorem Each.nil : Each R [] [] H := ⟨rfl, fun i f h => by simp at h⟩
theorem Each.snoc {f : α} {u : V} (h : Each R fs us H) (g : R f u H) : Each R (fs ++ [f]) (us ++ [u]) H := by
  refine ⟨by rw [List.length_append, List.length_append, h.1]; rfl, fun i f' hf => ?_⟩
  rcases Nat.lt_trichotomy i fs.length with e | e | e
  · rw [List.getElem?_append_left e] at hf
    obtain ⟨w, a, b⟩ := h.2 i f' hf
    exact ⟨w, by rw [List.getElem?_append_left (by rw [h.1]; exact e)]; exact a, b⟩
  · subst e
    rw [List.getElem?_append_right (Nat.le_refl _), Nat.sub_self] at hf
    have ef : f = f' := Option.some.inj hf
    subst ef
    exact ⟨u, by rw [← h.1, List.getElem?_append_right (Nat.le_refl _), Nat.sub_self]; rfl, g⟩
  · rw [List.getElem?_eq_none (by rw [List.length_append]; exact e)] at hf
    cases hf
theorem Each.at' {i : Nat} {x : V} (h : Each R fs us H) (e : us[i]? = some x) : ∃ f, fs[i]? = some f ∧ R f x H := by
  have hl : i < us.length := (List.getElem?_eq_some_iff.mp e).1
  rw [h.1] at hl
  obtain ⟨u, e2, g⟩ := h.2 i fs[i] (List.getElem?_eq_getElem hl)
  rw [e2] at e
  cases e
  exact ⟨_, List.getElem?_eq_getElem hl, g⟩
theorem each_dp {d : α → PyData} : ∀ {fs : List α} {us : List V}, Each (fun f u H => Dp K H u (d f)) fs us H → DpAll K H us (fs.map d)
  | [], [], _ => .nil
  | [], _ :: _, h => absurd h.1 (by simp)
  | f :: r, [], h => absurd h.1 (by simp)
  | f :: r, u :: us, h => by
    obtain ⟨u', e, g⟩ := h.2 0 f rfl
    cases e
    exact .cons g (each_dp ⟨by simpa using h.1, fun i f' hf => h.2 (i + 1) f' hf⟩)
theorem dp_each {d : α → PyData} : ∀ {fs : List α} {us : List V}, DpAll K H us (fs.map d) → Each (fun f u H => Dp K H u (d f)) fs us H
  | [], _, .nil => .nil
  | f :: r, _, .cons h a => by
    have ih := dp_each (fs := r) a
    refine ⟨by simp [ih.1], fun i f' hf => ?_⟩
    cases i with
    | zero =>
      cases (show some f = some f' from hf)
      exact ⟨_, rfl, h⟩
    | succ i => exact ih.2 i f' hf
end
theorem parts_each {fs : List PF} {us : List V} {H : Hp} : PartsV K fs us H ↔ Each (PartV K) fs us H := Iff.rfl
def spDeep (K : PySem.W.Frag) (f : SF) : Sp := fun vs H Q _ => ∃ v, vs = [v] ∧ StepV K f v H ∧ Q (.bl f.deepB) H
theorem ok_Deep_deep (T : Txt K mg) : OkD P w K mg base 1 (mA K "Deep" "deep") ["self"] [] (spDeep K .deep) := by
  refine okD T.F_Deep_deep sc_Deep_deep (fun _ _ _ _ _ _ us hl => match us, hl with | [_], _ => rfl) ?_ ?_
  · rintro vs H Q E ⟨v, rfl, _⟩
    rfl
  · rintro cdv A outer s H vs Q E hr ⟨v, rfl, h, q⟩
    refine ⟨_, (pss_one (ps_ret pe_bl)), ?_⟩
    walk_at "rd"
    exact q
theorem ok_Segment_deep {fs : List PF} (T : Txt K mg) : OkD P w K mg base 1 (mA K "Segment" "deep") ["self"] [] (spDeep K (.seg fs)) := by
  refine okD T.F_Segment_deep sc_Step_deep (fun _ _ _ _ _ _ us hl => match us, hl with | [_], _ => rfl) ?_ ?_
  · rintro vs H Q E ⟨v, rfl, _⟩
    rfl
  · rintro cdv A outer s H vs Q E hr ⟨v, rfl, h, q⟩
    refine ⟨_, (pss_one (ps_ret pe_bl)), ?_⟩
    walk_at "rd"
    exact q
section
variable {X : Cx}
theorem md_deep (T : Txt K mg) (h1 : X.prog = P := by rfl) (h2 : X.w = w := by rfl) (h3 : X.K = K := by rfl) (h4 : X.mg = mg := by rfl) (h5 : X.base = base := by rfl) : MetD X 1 "deep" (StepV K) (spDeep K) := by
  subst h1 h2 h3 h4 h5
  intro i x H h
  cases i with
  | deep => obtain ⟨p, dx, rfl, hp⟩ := id h; exact ⟨p, _, dx, _, _, _, rfl, hp, T.c_Deep, T.m_Deep_deep, rfl, (ok_Deep_deep T).mono (by decide)⟩
  | seg fs => obtain ⟨p, dx, t, us, rfl, hp, _⟩ := id h; exact ⟨p, _, dx, _, _, _, rfl, hp, T.c_Segment, T.m_Segment_deep, rfl, (ok_Segment_deep T).mono (by decide)⟩
end
/-! ### what steps tell -/
section
variable {X : Cx}
end
/-! ### spots -/
/-! ### a segment fits a name -/
section
variable {X : Cx}
end
/-! ### drawn segments -/
def spMixed : Sp := fun vs H Q _ => ∃ c k, vs = [.int c, .int k] ∧ ∀ m, 0 ≤ m → m < 2147483647 → Q (.int m) H
theorem ok__law_mixed (T : Txt K mg) : OkD P w K mg base 1 (fA K "_law_mixed") ["_law_cell_here", "_law_k"] [] spMixed := by
  refine okD T.F__law_mixed sc__law_mixed (fun _ _ _ _ _ _ us hl => match us, hl with | [_, _], _ => rfl) ?_ ?_
  · rintro vs H Q E ⟨c, k, rfl, _⟩
    rfl
  · rintro cdv A outer s H vs Q E hr ⟨c, k, rfl, q⟩
    refine ⟨_, (pss_cons (ps_set (i := 2) sc__law_mixed.nd rfl (Or.inl rfl) (pe_mid (pe_op op_mod (pe_op o_mul (pe_op (o_add (K := K)) (pe_op op_mod (pv 0) pe_int) (pe_op o_mul pe_int (pe_op (o_add (K := K)) (pv 1) pe_int))) pe_int) pe_int)))
  (pss_one (ps_ret (pe_op op_mod (pe_op o_mul (pe_op op_mod (pe_op o_mul (pv 2) (pv 2)) pe_int) pe_int) pe_int)))), ?_⟩
    have b : ∀ (x : Int), 0 ≤ x % 2147483647 ∧ x % 2147483647 < 2147483647 := fun x => ⟨Int.emod_nonneg _ (by decide), Int.emod_lt_of_pos _ (by decide)⟩
    have sm : ∀ (x y : Int), 0 ≤ x → x < 2147483647 → CMul x y := fun x y h1 h2 => .inl ⟨by omega, by omega⟩
    have sm2 : ∀ (x y : Int), 0 ≤ y → y ≤ 2147483647 → CMul x y := fun x y h1 h2 => .inr ⟨by omega, by omega⟩
    refine q_mid (fun m => 0 ≤ m ∧ m < 2147483647) ?_ fun m hm => ?_
    · walk_at "rd"
      exact ⟨sm _ _ (by decide) (by decide), sm2 _ _ (by decide) (by decide), b _⟩
    walk_at "rd"
    exact ⟨sm _ _ hm.1 hm.2, sm2 _ _ (by decide) (by decide), q _ (b _).1 (b _).2⟩
theorem eqv_stars (f : PF) : PyData.eqv f.d (.tuple [.str "stars"]) = f.many := by
  have e1 : ((Str.ofString "one") == (Str.ofString "stars")) = false := by decide +kernel
  have e2 : ((Str.ofString "any") == (Str.ofString "stars")) = false := by decide +kernel
  have e3 : ((Str.ofString "among") == (Str.ofString "stars")) = false := by decide +kernel
  cases f <;> simp [PF.d, PF.many, PyData.eqv, PyData.eqvAll, e1, e2, e3]
theorem two_snoc : ∀ {acc : List PF} {f : PF}, NoTwo acc → addB acc f = true → NoTwo (acc ++ [f])
  | [], _, _, _ => trivial
  | [g], f, _, h => by
    refine ⟨fun ⟨h1, h2⟩ => ?_, trivial⟩
    unfold addB at h
    simp [h1, h2] at h
  | g :: g2 :: r, f, n, h => by
    refine ⟨n.1, two_snoc (acc := g2 :: r) n.2 ?_⟩
    unfold addB at h ⊢
    have e : (g :: g2 :: r).getLast? = (g2 :: r).getLast? := by simp [List.getLast?_cons_cons]
    rw [e] at h
    simpa using h
/-- the list acc of forms at F -/
def FormsL (K : PySem.W.Frag) (acc : List PF) (F : Addr) (H : Hp) : Prop := ∃ us, H F = some (.lst us) ∧ Each (fun f u H => Dp K H u (PF.d f)) acc us H
theorem FormsL.mono {acc : List PF} {F : Addr} {H H' : Hp} (h : FormsL K acc F H) (s : Same H H') : FormsL K acc F H' := let ⟨us, a, b⟩ := h; ⟨us, s _ _ a, b.imp fun f u d => dp_mono s _ _ d⟩
theorem FormsL.len {acc : List PF} {F : Addr} {H : Hp} {us : List V} (h : Each (fun f u H => Dp K H u (PF.d f)) acc us H) : us = [] ↔ acc = [] := by rw [← List.length_eq_zero_iff, ← List.length_eq_zero_iff, h.1]
/-- the test ahead of an append -/
theorem add_test {acc : List PF} {f : PF} {F p : Addr} {v : V} {H : Hp} {us : List V} (hf : H F = some (.lst us)) (hu : Each (fun f u H => Dp K H u (PF.d f)) acc us H) (hv : Dp K H v f.d) (ok : f.Ok) (hok : ∀ g ∈ acc, g.Ok) {Q : Bool → Hp → Prop} (q : ∀ H', Same H H' → Q (addB acc f) H') : ∀ p, H p = none →
    rEqR K (.ref F) (.ref p) (upd H p (.lst [])) fun x H1 => ∃ k, x = .bl k ∧ if k = true then Q true H1 else ∀ r, H1 r = none → rNeR K v (.ref r) (upd H1 r (.tup [.str "stars"])) fun x H2 => ∃ k, x = .bl k ∧ if k = true then Q true H2 else
      ∃ xs, (SqL K H2 F xs ∨ SqT K H2 F xs) ∧ ∃ y, atI xs (-1) = some y ∧ rNeR K y v H2 fun x H3 => ∃ k, x = .bl k ∧ Q k H3 := by
  intro p hp
  have sp := same_new (o := .lst []) hp
  refine eq_nil (.inl (.inl (sp _ _ hf))) (.inl (.inl upd_same)) ⟨_, rfl, ite2 (fun h => ?_) fun h => ?_⟩
  · have e : acc = [] := (FormsL.len (F := F) hu).mp (of_decide_eq_true h)
    have q' := q _ sp
    unfold addB at q'
    rw [decide_eq_true e] at q'
    exact q'
  have hne : acc ≠ [] := fun e => h (decide_eq_true ((FormsL.len (F := F) hu).mpr e))
  intro r hr
  have sr := same_new (o := .tup [.str "stars"]) hr
  have s2 := sp.trans sr
  have dst : Dp K (upd (upd H p (.lst [])) r (.tup [.str "stars"])) (.ref r) (.tuple [.str "stars"]) := .tup (.inl (.inl upd_same)) (.cons (.str _) .nil)
  have dok : DOk 1 (.tuple [.str "stars"]) := PF.dok (f := .stars) trivial
  refine .inl ⟨f.d, _, dp_mono s2 _ _ hv, dst, (PF.dok ok).shaped (by decide), dok.shaped (by decide), ?_⟩
  rw [eqv_stars]
  refine ⟨_, rfl, ite2 (fun hm => ?_) fun hm => ?_⟩
  · have q' := q _ s2
    unfold addB at q'
    rw [decide_eq_false hne, hm] at q'
    exact q'
  have hm' : f.many = true := by simpa using hm
  have ef : f = .stars := by cases f <;> first | rfl | cases hm'
  obtain ⟨g, hg⟩ : ∃ g, acc.getLast? = some g := by
    cases e : acc.getLast? with
    | none => exact absurd (List.getLast?_eq_none_iff.mp e) hne
    | some g => exact ⟨g, rfl⟩
  have hg' := hg
  rw [List.getLast?_eq_getElem?] at hg'
  obtain ⟨y, e2, dy⟩ := hu.2 _ g hg'
  have hy : us.getLast? = some y := by rw [List.getLast?_eq_getElem?, hu.1]; exact e2
  have okg : g.Ok := hok g (List.mem_of_getElem? hg')
  refine ⟨us, .inl (.inl (.inl (s2 _ _ hf))), y, atI_last hy, .inl ⟨g.d, f.d, dp_mono s2 _ _ dy, dp_mono s2 _ _ hv, (PF.dok okg).shaped (by decide), (PF.dok ok).shaped (by decide), ?_⟩⟩
  have q' := q _ s2
  unfold addB at q'
  rw [decide_eq_false hne, hm', hg] at q'
  refine ⟨_, rfl, ?_⟩
  rw [ef]
  show Q (!PyData.eqv g.d (.tuple [.str "stars"])) _
  rw [eqv_stars]
  exact q'
def spSegm (K : PySem.W.Frag) : Sp := fun vs H Q _ => ∃ c p ws, vs = [.int c, .ref p] ∧ SqL K H p ws ∧ ws.length = 4 ∧ (∀ v ∈ ws, SignV v) ∧ ∀ v fs H', PartsOk fs → fs.length ≤ 3 → (∀ f ∈ fs, f.Low) → Same H H' → Dp K H' v (SF.seg fs).d → Q v H'
theorem ok__law_segment (T : Txt K mg) : OkD P w K mg base 2 (fA K "_law_segment") ["_law_cell_here", "_law_signs_here"] [] (spSegm K) := by
  refine okD T.F__law_segment sc__law_segment (fun _ _ _ _ _ _ us hl => match us, hl with | [_, _], _ => rfl) ?_ ?_
  · rintro vs H Q E ⟨c, p, ws, rfl, _⟩
    rfl
  · rintro cdv A outer s H vs Q E hr ⟨c, p, ws, rfl, hs, hl, hw, q⟩
    refine ⟨_, (pss_cons (ps_set (i := 2) sc__law_segment.nd rfl (Or.inl rfl) (pe_lst pa_nil))
  (pss_cons (ps_mid (ps_for (passes_of rfl) rfl (pi_mid (pi_range1 rfl T.fr_range (pa_cons (pe_op (o_add (K := K)) pe_int (pe_op op_mod (pv 0) pe_int)) pa_nil))) (pg_name (i := 3) sc__law_segment.nd rfl (Or.inl rfl)) (pss_cons (ps_set (i := 4) sc__law_segment.nd rfl (Or.inl rfl) (pe_mid (pe_cal (ok__law_part T) (hr.mono (by decide)) rfl T.g__law_part (pasE (takes_of rfl rfl rfl rfl) (fun _ _ _ _ h => h)) (pa_cons (pe_cal (ok__law_mixed T) (hr.mono (by decide)) rfl T.g__law_mixed (pasE (takes_of rfl rfl rfl rfl) (fun _ _ _ _ h => h)) (pa_cons (pv 0) (pa_cons (pv 3) pa_nil))) (pa_cons (pv 1) pa_nil)))))
  (pss_one (ps_if (pt_mid (PW.pt (pw_or (pt_cmpR (o_eq (K := K) (hu64 hr)) (pv 2) (pe_lst pa_nil) (nomark _)) (pw_or (pt_cmpR (o_ne (K := K) (hu64 hr)) (pv 4) (pe_tup (pa_cons pe_str pa_nil)) (nomark _)) (pw_or1 (pt_cmpR (o_ne (K := K) (hu64 hr)) (pe_ix (o_ix (K := K)) (pv 2) (pe_un un_neg pe_int) (fun _ _ => rfl)) (pv 4) (nomark _))))))) (pss_one (ps_expr (pe_bmK (K := K) PySem.F.plainAttrs_list PySem.F.slot_list_append PySem.F.type_list_append mt_append (pv 2) (pa_cons (pe_mid (pv 4)) pa_nil)))) pss_nil)))))
  (pss_one (ps_ret (pe_tup (pa_cons pe_str (pa_cons (pe_callTy (o_tuple (K := K)) (by rfl) T.fr_tuple (by decide +kernel) (pa_cons (pv 2) pa_nil)) pa_nil))))))), ?_⟩
    have tobj := T.obj
    refine q_new fun F hF => ?_
    have sF := same_new (o := .lst []) hF
    have hm0 : 0 ≤ c % 3 := Int.emod_nonneg _ (by decide)
    have hm1 : c % 3 < 3 := Int.emod_lt_of_pos _ (by decide)
    obtain ⟨n, hn, hn1, hn3⟩ : ∃ n : Nat, 1 + c % 3 = (n : Int) ∧ 1 ≤ n ∧ n ≤ 3 := ⟨(1 + c % 3).toNat, by omega, by omega, by omega⟩
    refine q_stm (fun σ H' => ∃ acc us x y, σ = [some (.int c), some (.ref p), some (.ref F), x, y] ∧ Same H H' ∧ H' F = some (.lst us) ∧ Each (fun f u H => Dp K H u (PF.d f)) acc us H' ∧ PartsOk acc ∧ acc.length ≤ 3 ∧ ∀ f ∈ acc, f.Low) ?_ ?_
    · refine for_mid (J0 := Itr 0 n) (H0 := upd H F (.lst [])) ?_ walk_range
        (fun k σ H' => ∃ acc us x y, σ = [some (.int c), some (.ref p), some (.ref F), x, y] ∧ Same H H' ∧ H' F = some (.lst us) ∧ Each (fun f u H => Dp K H u (PF.d f)) acc us H' ∧ (0 < k → acc ≠ []) ∧ (∀ f ∈ acc, f.Ok ∧ f.Low) ∧ NoTwo acc ∧ acc.length ≤ k)
        ⟨[], [], none, none, rfl, sF, upd_same, .nil, fun h => absurd h (by decide), fun _ h => (nomatch h), trivial, Nat.le_refl _⟩ (fun _ _ _ _ _ => trivial) ?_ (fun σ H' h => ?_)
      · walk_at "rd"
        rw [hn]
        exact ⟨by omega, by omega, rfl⟩
      · rintro k x σ H1 H1' hk ⟨acc, us, x0, y0, rfl, sm, hl1, each, ne, oks, two, len⟩ ⟨rfl, rfl⟩
        refine q_midG (fun v H' => Same H1' H' ∧ ∃ f, (PF.Ok f ∧ PF.Low f) ∧ Dp K H' v f.d) ?_ ?_
        · walk_at "rd"
          exact ⟨c, _, rfl, fun m _ _ => ⟨m, p, ws, rfl, same_l sm hs, hl, hw, fun v f H'' ok lo s hd => ⟨s, f, ⟨ok, lo⟩, hd⟩⟩⟩
        · rintro v H2 ⟨s2, f, ⟨ok, lo⟩, hd⟩
          obtain ⟨va, rfl, _⟩ := PF.inv hd
          have hl2 := s2 _ _ hl1
          have each2 : Each (fun f u H => Dp K H u (PF.d f)) acc us H2 := each.imp fun f u d => dp_mono s2 _ _ d
          refine l_if (fun b H' => Same H2 H' ∧ b = addB acc f) ?_ ?_ ?_
          · walk_at "rd"
            exact add_test (p := va) (Q := fun b H' => Same H2 H' ∧ b = addB acc f) hl2 each2 hd ok (fun g h => (oks g h).1) fun H' s => ⟨s, rfl⟩
          · rintro H3 ⟨s3, hb⟩
            have hl3 := s3 _ _ hl2
            have s13 := (sm.trans s2).trans s3
            refine l_appV rfl rfl hl3 (by rw [each.1]; omega) ⟨acc ++ [f], us ++ [.ref va], _, _, rfl, same_mut s13 hF, upd_same, ?_, fun _ e => ?_, fun g hg => ?_, two_snoc two hb.symm, ?_⟩
            · exact Each.snoc (each2.imp fun f u d => dp_nl (NL.trans (.of s3) (nl_upd hl3)) _ _ f.tup d) (dp_nl (NL.trans (.of s3) (nl_upd hl3)) _ _ f.tup hd)
            · exact absurd e (by simp)
            · exact (List.mem_append.mp hg).elim (oks g) fun h => by rw [List.mem_singleton.mp h]; exact ⟨ok, lo⟩
            · rw [List.length_append]; exact Nat.succ_le_succ len
          · rintro H3 ⟨s3, hb⟩
            refine ⟨acc, us, _, _, rfl, (sm.trans s2).trans s3, s3 _ _ hl2, each2.imp fun f u d => dp_mono s3 _ _ d, fun _ e => ?_, oks, two, by omega⟩
            rw [e] at hb
            cases hb
      · obtain ⟨acc, us, x, y, e, s1, h1, h2, h3, h4, h5, h6⟩ := h
        exact ⟨acc, us, x, y, e, s1, h1, h2, ⟨h3 (by omega), fun f hf => (h4 f hf).1, h5, by omega⟩, by omega, fun f hf => (h4 f hf).2⟩
    · rintro σ H1 ⟨acc, us, x, y, rfl, s1, h1, h2, h3, h4, h5⟩
      walk_at "rd"
      refine ⟨us, .inl ⟨.inl (.inl h1), fun l2 hl2 p2 hp2 => ?_⟩⟩
      have s2 := same_new (o := .tup us) hl2
      have s3 := same_new (o := .tup [V.str (Str.ofString "segment"), V.ref l2]) hp2
      exact q _ acc _ h3 h4 h5 ((s1.trans s2).trans s3) (.tup (.inl (.inl upd_same)) (.cons (.str _) (.cons (.tup (.inl (.inl (s3 _ _ upd_same))) (each_dp (h2.imp fun f u d => dp_mono (s2.trans s3) _ _ d))) .nil)))

/-! ### stars twice, rows and segments made -/
theorem ne_dat {n : Nat} {d : PyData} {u v : V} {H : Hp} {Q : VK} (ok : DOk n d) (hn : n ≤ 64) (h1 : Dp K H u d) (h2 : Dp K H v d) (q : Q (.bl false) H) : rNeR K u v H Q := by
  refine .inl ⟨d, d, h1, h2, ok.shaped hn, ok.shaped hn, ?_⟩
  rw [ok.eqv]
  exact q
/-- each star m times more -/
def dbl (m : Nat) (fs : List PF) : List PF := fs.flatMap fun f => List.replicate (1 + if f.many = true then m else 0) f
theorem norm_rep {acc : List PF} {f : PF} (hm : f.many = true) (hl : acc.getLast? = some f) : ∀ n, (List.replicate n f).foldl normOne acc = acc
  | 0 => rfl
  | n + 1 => by
    have e : normOne acc f = acc := by
      rw [normOne_eq, if_neg]
      unfold addB
      rw [hl, hm]
      have : acc ≠ [] := fun e => by rw [e] at hl; cases hl
      simp [this, hm]
    show (List.replicate n f).foldl normOne (normOne acc f) = acc
    rw [e]
    exact norm_rep hm hl n
theorem norm_dbl {m : Nat} : ∀ (fs acc : List PF), NoTwo (acc ++ fs) → (dbl m fs).foldl normOne acc = acc ++ fs
  | [], acc, _ => (List.append_nil acc).symm
  | f :: fs, acc, h => by
    have e1 : dbl m (f :: fs) = List.replicate (1 + if f.many = true then m else 0) f ++ dbl m fs := rfl
    have e2 : normOne acc f = acc ++ [f] := by
      rw [normOne_eq, if_pos]
      rcases List.eq_nil_or_concat acc with rfl | ⟨r, g, rfl⟩
      · rfl
      · have key : ∀ r : List PF, NoTwo (r ++ g :: f :: fs) → ¬ (g.many = true ∧ f.many = true) := by
          intro r
          induction r with
          | nil => exact fun h => h.1
          | cons x r ih =>
            intro h
            cases r with
            | nil => exact ih h.2
            | cons y r => exact ih h.2
        have k := key r (by simpa using h)
        unfold addB
        rw [List.concat_eq_append, List.getLast?_append]
        cases h1 : f.many <;> cases h2 : g.many <;> simp [h1, h2] at k ⊢
    have e3 : (acc ++ [f]) ++ fs = acc ++ f :: fs := by simp
    rw [e1, List.foldl_append, Nat.add_comm, List.replicate_succ, List.foldl_cons, e2]
    cases hm : f.many with
    | true => rw [norm_rep hm (by simp) _, norm_dbl fs (acc ++ [f]) (by rw [e3]; exact h), e3]
    | false => rw [if_neg Bool.false_ne_true]; show (dbl m fs).foldl normOne (acc ++ [f]) = _; rw [norm_dbl fs (acc ++ [f]) (by rw [e3]; exact h), e3]
theorem normP_dbl {m : Nat} {fs : List PF} (h : NoTwo fs) : normP (dbl m fs) = fs := norm_dbl fs [] h
theorem same_none {H H' : Hp} {a : Addr} (s : Same H H') (h : H' a = none) : H a = none := by
  cases e : H a with
  | none => rfl
  | some o => rw [s _ _ e] at h; cases h
theorem dbl_zero : ∀ fs : List PF, dbl 0 fs = fs
  | [] => rfl
  | f :: r => by
    have e : dbl 0 (f :: r) = List.replicate (1 + if f.many = true then 0 else 0) f ++ dbl 0 r := rfl
    rw [e, dbl_zero r]
    simp
theorem normP_id {fs : List PF} (h : NoTwo fs) : normP fs = fs := by
  have e := normP_dbl (m := 0) h
  rwa [dbl_zero] at e
theorem norm_ne : ∀ (l acc : List PF), acc ≠ [] → l.foldl normOne acc ≠ []
  | [], _, h => h
  | f :: r, acc, h => norm_ne r (normOne acc f) (by
      unfold normOne
      split
      · simp
      · exact h)
theorem normP_ne {fs : List PF} (h : fs ≠ []) : normP fs ≠ [] := by
  cases fs with
  | nil => exact absurd rfl h
  | cons f r => exact norm_ne r (normOne [] f) (by unfold normOne; simp)
theorem new_two {H1 : Hp} {x dx : Addr} {o o' : HO} (hx : H1 x = none) (hdx : H1 dx = none) (hne : ¬ dx = x) : Same H1 (upd (upd H1 dx o) x o') :=
  (same_new hdx).trans (same_new (by rw [upd_ne fun e => hne e.symm]; exact hx))
theorem seg_make {H1 : Hp} {l : Addr} {us : List V} {fs : List PF} {R : Addr → Hp → Prop} {E : XK} (ht : SqT K H1 l us ∨ SqL K H1 l us) (hp : PartsV K fs us H1) (hn : fs.length ≤ 1000) (hne : fs ≠ []) (q : ∀ x H', Same H1 H' → StepV K (.seg (normP fs)) (.ref x) H' → R x H') :
    ∀ x dx, H1 x = none → H1 dx = none → ¬ dx = x → spSeg K [.ref x, .ref l] (upd (upd H1 dx (.own x)) x (.ins (fA K "Segment") dx [])) (fun v H3 => v = .non ∧ R x H3) E := by
  intro x dx hx hdx hxd
  have s2 : Same H1 (upd (upd H1 dx (.own x)) x (.ins (fA K "Segment") dx [])) := new_two hx hdx hxd
  refine ⟨x, dx, l, us, fs, rfl, ht.imp (same_t s2) (same_l s2), hp.mono s2, hn, upd_same, fun u hu e => ?_, fun _ H' tt us' b h1 h2 h3 => ⟨rfl, q _ H' (but_same hx hdx b) ⟨x, dx, tt, us', rfl, h1, h2, h3, normP_ne hne⟩⟩, fun e => absurd e hne⟩
  obtain ⟨i, hi⟩ := List.mem_iff_getElem?.mp hu
  obtain ⟨f, _, p, dx', e2, e3⟩ := parts_each.mp hp |>.at' hi
  rw [e2] at e
  cases e
  rw [hx] at e3
  cases e3

/-! ### forms of rows, rows drawn large -/
structure RF where
  steps : List SF
  spares : Bool
  folders : Bool
def RF.d (r : RF) : PyData := .tuple [.tuple (r.steps.map SF.d), .bool r.spares, .bool r.folders]
def NoTwoD : List SF → Prop
  | a :: b :: r => ¬ (a = .deep ∧ b = .deep) ∧ NoTwoD (b :: r)
  | _ => True
structure RF.Ok (r : RF) : Prop where
  ne : r.steps ≠ []
  ok : ∀ s ∈ r.steps, s.Ok
  two : NoTwoD r.steps
  len : r.steps.length ≤ 12
theorem twoD_snoc : ∀ {acc : List SF} {f : SF}, NoTwoD acc → (f = .deep → acc.getLast? ≠ some .deep) → NoTwoD (acc ++ [f])
  | [], _, _, _ => trivial
  | [g], f, _, h => ⟨fun ⟨h1, h2⟩ => h h2 (by rw [h1]; rfl), trivial⟩
  | g :: g2 :: r, f, n, h => ⟨n.1, twoD_snoc (acc := g2 :: r) n.2 fun e => by
      have h' := h e
      rwa [List.getLast?_cons_cons] at h'⟩
theorem eqv_deep (s : SF) : PyData.eqv s.d (.tuple [.str "deep"]) = s.deepB := by
  have e1 : ((Str.ofString "segment") == (Str.ofString "deep")) = false := by decide +kernel
  cases s <;> simp [SF.d, SF.deepB, PyData.eqv, PyData.eqvAll, e1]
theorem cutV_last {us : List V} : cutV us (some (-1)) none = us.drop (us.length - 1) := by
  unfold cutV
  have e : HT.sIx us.length 0 (some (-1)) = us.length - 1 := by
    unfold HT.sIx
    simp
    omega
  rw [e, HT.sIx_none]
  refine List.take_of_length_le ?_
  rw [List.length_drop]
  exact Nat.le_refl _
theorem Each.drop {α : Type} {R : α → V → Hp → Prop} {fs : List α} {us : List V} {H : Hp} (h : Each R fs us H) (k : Nat) : Each R (fs.drop k) (us.drop k) H :=
  ⟨by rw [List.length_drop, List.length_drop, h.1], fun i f hf => by
    rw [List.getElem?_drop] at hf
    obtain ⟨u, e, g⟩ := h.2 _ f hf
    exact ⟨u, by rw [List.getElem?_drop]; exact e, g⟩⟩
theorem last_drop {α : Type} {ss : List α} {x : α} (h : ss.getLast? = some x) : ss.drop (ss.length - 1) = [x] := by
  rcases List.eq_nil_or_concat ss with rfl | ⟨r, y, rfl⟩
  · cases h
  · rw [List.concat_eq_append] at h ⊢
    rw [List.getLast?_append] at h
    cases (show some y = some x from h)
    rw [List.length_append, List.length_singleton, Nat.add_sub_cancel, List.drop_left]
/-- ("deep",) not in steps[-1:] -/
theorem deep_test {ss : List SF} {us : List V} {L : Addr} {H : Hp} {B : Addr → Prop} {R : Bool → Hp → Prop} (hl : H L = some (.lst us)) (e : Each (fun f u H => Dp K H u (SF.d f)) ss us H) (oks : ∀ s ∈ ss, s.Ok) (r : ∀ b H', Same H H' → (b = true → ss.getLast? ≠ some .deep) → R b H') : ∀ p, H p = none →
    (∃ xs, SqL K (upd H p (.tup [.str "deep"])) L xs ∧ ∀ p1, upd H p (.tup [.str "deep"]) p1 = none → rNotInD K (.ref p) (.ref p1) (upd (upd H p (.tup [.str "deep"])) p1 (.lst (cutV xs (some (-1)) none))) fun x H' => ∃ k, x = .bl k ∧ R k H') ∨ B p := by
  intro p hp
  have sp := same_new (o := .tup [V.str (Str.ofString "deep")]) hp
  refine .inl ⟨us, .inl (.inl (sp _ _ hl)), fun p1 hp1 => ?_⟩
  have s1 := same_new (o := .lst (cutV us (some (-1)) none)) hp1
  have e1 : Each (fun f u H => Dp K H u (SF.d f)) ss us (upd (upd H p (.tup [V.str (Str.ofString "deep")])) p1 (.lst (cutV us (some (-1)) none))) := e.imp fun f u d => dp_mono (sp.trans s1) _ _ d
  have e2 := e1.drop (ss.length - 1)
  have eq : us.drop (ss.length - 1) = cutV us (some (-1)) none := by rw [cutV_last, e.1]
  rw [eq] at e2
  have dl : DOk 4 (.list ((ss.drop (ss.length - 1)).map SF.d)) := dok_lst fun d hd => by
    obtain ⟨f, hf, rfl⟩ := List.mem_map.mp hd
    exact SF.dok (oks f (List.mem_of_mem_drop hf))
  have dd : DOk 3 (.tuple [.str "deep"]) := SF.dok (f := .deep) trivial
  refine ⟨.tuple [.str "deep"], (ss.drop (ss.length - 1)).map SF.d, .tup (.inl (.inl (s1 _ _ upd_same))) (.cons (.str _) .nil), .lst (.inl (.inl upd_same)) (each_dp e2), dd.shaped (by decide), dl.shaped (by decide), _, rfl, r _ _ (sp.trans s1) fun hb hlast => ?_⟩
  rw [last_drop hlast] at hb
  simp [eqv_deep, SF.deepB] at hb
theorem forms_snoc {ss : List SF} {us : List V} {s : SF} {y : V} {L : Addr} {H : Hp} (hl : H L = some (.lst us)) (e : Each (fun f u H => Dp K H u (SF.d f)) ss us H) (d : Dp K H y s.d) : Each (fun f u H => Dp K H u (SF.d f)) (ss ++ [s]) (us ++ [y]) (upd H L (.lst (us ++ [y]))) :=
  Each.snoc (e.imp fun f u d => dp_nl (nl_upd hl) _ _ f.tup d) (dp_nl (nl_upd hl) _ _ s.tup d)
theorem row_d {r : RF} {us : List V} {l p : Addr} {H : Hp} (e : Each (fun f u H => Dp K H u (SF.d f)) r.steps us H) (hl : H l = none) (hp : upd H l (.tup us) p = none) : Dp K (upd (upd H l (.tup us)) p (.tup [.ref l, .bl r.spares, .bl r.folders])) (.ref p) r.d := by
  have s2 := same_new (o := .tup us) hl
  have s3 := same_new (o := .tup [V.ref l, V.bl r.spares, V.bl r.folders]) hp
  exact .tup (.inl (.inl upd_same)) (.cons (.tup (.inl (.inl (s3 _ _ upd_same))) (each_dp (e.imp fun f u d => dp_mono (s2.trans s3) _ _ d))) (.cons (.bl _) (.cons (.bl _) .nil)))
theorem seg_d {fs : List PF} {us : List V} {l p : Addr} {H : Hp} (e : Each (fun f u H => Dp K H u (PF.d f)) fs us H) (hl : H l = none) (hp : upd H l (.tup us) p = none) : Dp K (upd (upd H l (.tup us)) p (.tup [.str "segment", .ref l])) (.ref p) (SF.seg fs).d := by
  have s2 := same_new (o := .tup us) hl
  have s3 := same_new (o := .tup [V.str (Str.ofString "segment"), V.ref l]) hp
  exact .tup (.inl (.inl upd_same)) (.cons (.str _) (.cons (.tup (.inl (.inl (s3 _ _ upd_same))) (each_dp (e.imp fun f u d => dp_mono (s2.trans s3) _ _ d))) .nil))
theorem SF.seg_inv {fs : List PF} {v : V} {H : Hp} (h : Dp K H v (SF.seg fs).d) : ∃ a t us, v = .ref a ∧ SqT K H a [.str "segment", .ref t] ∧ SqT K H t us ∧ Each (fun f u H => Dp K H u (PF.d f)) fs us H := by
  cases h with
  | tup hs ha => cases ha with | cons h1 ha => cases ha with | cons h2 ha =>
    cases ha; cases h1
    cases h2 with
    | tup ht hu => exact ⟨_, _, _, rfl, hs, ht, dp_each hu⟩
theorem SF.deep_inv {v : V} {H : Hp} (h : Dp K H v SF.deep.d) : ∃ a, v = .ref a ∧ SqT K H a [.str "deep"] := by
  cases h with | tup hs ha => cases ha with | cons h1 ha => cases ha; cases h1; exact ⟨_, rfl, hs⟩
theorem RF.inv {r : RF} {v : V} {H : Hp} (h : Dp K H v r.d) : ∃ a t us, v = .ref a ∧ SqT K H a [.ref t, .bl r.spares, .bl r.folders] ∧ SqT K H t us ∧ Each (fun f u H => Dp K H u (SF.d f)) r.steps us H := by
  cases h with
  | tup hs ha => cases ha with | cons h1 ha => cases ha with | cons h2 ha => cases ha with | cons h3 ha =>
    cases ha; cases h2; cases h3
    cases h1 with
    | tup ht hu => exact ⟨_, _, _, rfl, hs, ht, dp_each hu⟩
/-! ### rows as objects -/
theorem deep_iff {s : SF} : s.deepB = true ↔ s = .deep := by cases s <;> simp [SF.deepB]
def addS (acc : List SF) (f : SF) : Bool := decide (acc = []) || (!f.deepB || match acc.getLast? with
  | some g => !g.deepB
  | none => true)
def stepOne (acc : List SF) (f : SF) : List SF := if addS acc f = true then acc ++ [f] else acc
def normS (fs : List SF) : List SF := fs.foldl stepOne []
def dblS (m : Nat) (fs : List SF) : List SF := fs.flatMap fun f => List.replicate (1 + if f.deepB = true then m else 0) f
theorem stepOne_t {acc : List SF} {f : SF} (h : addS acc f = true) : stepOne acc f = acc ++ [f] := if_pos h
theorem stepOne_f {acc : List SF} {f : SF} (h : ¬ addS acc f = true) : stepOne acc f = acc := if_neg h
theorem stepS_take {fs : List SF} {k : Nat} {f : SF} (h : fs[k]? = some f) : (fs.take (k + 1)).foldl stepOne [] = stepOne ((fs.take k).foldl stepOne []) f := by
  rw [List.take_succ, h, List.foldl_append]
  rfl
theorem normS_rep {acc : List SF} {f : SF} (hm : f.deepB = true) (hl : acc.getLast? = some f) : ∀ n, (List.replicate n f).foldl stepOne acc = acc
  | 0 => rfl
  | n + 1 => by
    have e : stepOne acc f = acc := by
      unfold stepOne
      rw [if_neg]
      unfold addS
      rw [hl, hm]
      have : acc ≠ [] := fun e => by rw [e] at hl; cases hl
      simp [this, hm]
    show (List.replicate n f).foldl stepOne (stepOne acc f) = acc
    rw [e]
    exact normS_rep hm hl n
theorem normS_app {m : Nat} : ∀ (fs acc : List SF), NoTwoD (acc ++ fs) → (dblS m fs).foldl stepOne acc = acc ++ fs
  | [], acc, _ => (List.append_nil acc).symm
  | f :: fs, acc, h => by
    have e1 : dblS m (f :: fs) = List.replicate (1 + if f.deepB = true then m else 0) f ++ dblS m fs := rfl
    have e2 : stepOne acc f = acc ++ [f] := by
      unfold stepOne
      rw [if_pos]
      rcases List.eq_nil_or_concat acc with rfl | ⟨r, g, rfl⟩
      · rfl
      · have key : ∀ r : List SF, NoTwoD (r ++ g :: f :: fs) → ¬ (g = .deep ∧ f = .deep) := by
          intro r
          induction r with
          | nil => exact fun h => h.1
          | cons x r ih =>
            intro h
            cases r with
            | nil => exact ih h.2
            | cons y r => exact ih h.2
        have k := key r (by simpa using h)
        rw [← deep_iff, ← deep_iff] at k
        unfold addS
        rw [List.concat_eq_append, List.getLast?_append]
        cases h1 : f.deepB <;> cases h2 : g.deepB <;> simp [h1, h2] at k ⊢
    have e3 : (acc ++ [f]) ++ fs = acc ++ f :: fs := by simp
    rw [e1, List.foldl_append, Nat.add_comm, List.replicate_succ, List.foldl_cons, e2]
    cases hm : f.deepB with
    | true => rw [normS_rep hm (by simp) _, normS_app fs (acc ++ [f]) (by rw [e3]; exact h), e3]
    | false => rw [if_neg Bool.false_ne_true]; show (dblS m fs).foldl stepOne (acc ++ [f]) = _; rw [normS_app fs (acc ++ [f]) (by rw [e3]; exact h), e3]
theorem normS_dbl {m : Nat} {fs : List SF} (h : NoTwoD fs) : normS (dblS m fs) = fs := normS_app fs [] h
theorem dblS_zero : ∀ fs : List SF, dblS 0 fs = fs
  | [] => rfl
  | f :: r => by
    have e : dblS 0 (f :: r) = List.replicate (1 + if f.deepB = true then 0 else 0) f ++ dblS 0 r := rfl
    rw [e, dblS_zero r]
    simp
theorem normS_id {fs : List SF} (h : NoTwoD fs) : normS fs = fs := by
  have e := normS_dbl (m := 0) h
  rwa [dblS_zero] at e
theorem stepS_len : ∀ (l a : List SF), (l.foldl stepOne a).length ≤ a.length + l.length
  | [], a => Nat.le_refl _
  | y :: r, a => by
    refine Nat.le_trans (stepS_len r (stepOne a y)) ?_
    have e : (stepOne a y).length ≤ a.length + 1 := by
      unfold stepOne
      split
      · rw [List.length_append]; exact Nat.le_refl _
      · exact Nat.le_succ _
    rw [List.length_cons]
    omega
abbrev rowO (K : PySem.W.Frag) (dx t : Addr) (a b : Bool) : HO := .ins (fA K "Row") dx [("steps", .ref t), ("spares", .bl a), ("folders", .bl b)]
def RowV (K : PySem.W.Frag) (r : RF) (v : V) (H : Hp) : Prop := ∃ p dx t us, v = .ref p ∧ H p = some (rowO K dx t r.spares r.folders) ∧ H t = some (.tup us) ∧ Each (StepV K) r.steps us H ∧ r.steps ≠ []
theorem Each.nl {us : List V} {ss : List SF} {H H' : Hp} (h : Each (StepV K) ss us H) (e : NL H H') : Each (StepV K) ss us H' := h.imp fun _ _ s => s.nl e
theorem Each.mono {us : List V} {ss : List SF} {H H' : Hp} (h : Each (StepV K) ss us H) (e : Same H H') : Each (StepV K) ss us H' := h.nl (.of e)
theorem RowV.nl {r : RF} {v : V} {H H' : Hp} (h : RowV K r v H) (e : NL H H') : RowV K r v H' := by
  obtain ⟨p, dx, t, us, a, b, c, d, z⟩ := h
  exact ⟨p, dx, t, us, a, e _ _ b (fun _ z => nomatch z), e _ _ c (fun _ z => nomatch z), d.nl e, z⟩
theorem RowV.mono {r : RF} {v : V} {H H' : Hp} (h : RowV K r v H) (e : Same H H') : RowV K r v H' := h.nl (.of e)
def spRow (K : PySem.W.Frag) : Sp := fun vs H Q E => ∃ H0 p dx t us ss a b, vs = [.ref p, .ref t, .bl a, .bl b] ∧ H0 p = none ∧ Same H0 H ∧ (SqT K H0 t us ∨ SqL K H0 t us) ∧ Each (StepV K) ss us H0 ∧ ss.length ≤ 1000 ∧ H p = some (.ins (fA K "Row") dx []) ∧
  (ss ≠ [] → ∀ H' tt us', Same H0 H' → H' p = some (rowO K dx tt a b) → H' tt = some (.tup us') → Each (StepV K) (normS ss) us' H' → Q .non H') ∧ (ss = [] → E (.ref (fA K "NoPart")) none H)
theorem bd_Row___init__ (T : Txt K mg) : BodyQ P w K mg base 1 (mA K "Row" "__init__") "Row.__init__" (defBody TX.s_Row___init__) (defScope TX.s_Row___init__) N_Row___init__ (spRow K) := by
  rintro cdv A outer s H vs Q E hr ⟨H0, p, dx, t, us, ss, a, b, rfl, h0p, s0, ht, hp, hn, ho, q1, q2⟩
  refine ⟨_, (pss_cons (ps_if (pt_mid (pt_cmpR (o_eq (K := K) (hu64 hr)) (pe_callB (o_lenW (K := K) (w := w)) (by rfl) T.fr_len boot_len (pa_cons (pv 1) pa_nil)) pe_int (nomark _))) (pss_one (ps_raise rfl (takes_of rfl rfl rfl rfl) (pmk_own PySem.F.excBase_ValueError T.x_NoPart.1 T.g_NoPart T.x_NoPart.2.1 (raises_own T.x_NoPart.2.2.1 T.x_NoPart.2.2.2) rfl))) pss_nil)
  (pss_cons (ps_set (i := 4) sc_Row___init__.nd rfl (Or.inl rfl) (pe_lst pa_nil))
  (pss_cons (ps_mid (ps_for (passes_of rfl) rfl (pi_mid (o_it (K := K) rfl (pv 1))) (pg_name (i := 5) sc_Row___init__.nd rfl (Or.inl rfl)) (pss_one (ps_if (pt_mid (PW.pt (pw_or (pt_cmpR (o_eq (K := K) (hu64 hr)) (pv 4) (pe_lst pa_nil) (nomark _)) (pw_or (pt_not (pt_tru (K := K) (pe_metI0 (md_deep T) (pv 5) (hr.mono (by decide)) (pasE (takes_of rfl rfl rfl rfl) (fun _ _ _ _ h => h))) (by intro _; rfl))) (pw_or1 (pt_not (pt_tru (K := K) (pe_metI0 (md_deep T) (pe_ix (o_ix (K := K)) (pv 4) (pe_un un_neg pe_int) (fun _ _ => rfl)) (hr.mono (by decide)) (pasE (takes_of rfl rfl rfl rfl) (fun _ _ _ _ h => h))) (by intro _; rfl)))))))) (pss_one (ps_expr (pe_bmK (K := K) PySem.F.plainAttrs_list PySem.F.slot_list_append PySem.F.type_list_append mt_append (pv 4) (pa_cons (pe_mid (pv 5)) pa_nil)))) pss_nil))))
  (pss_cons (ps_fld (pv 0) (pe_mid (pe_callTy (o_tuple (K := K)) (by rfl) T.fr_tuple (by decide +kernel) (pa_cons (pv 4) pa_nil))) rfl)
  (pss_cons (ps_fld (pv 0) (pv 2) rfl)
  (pss_one (ps_fld (pv 0) (pv 3) rfl))))))), ?_⟩
  have tobj := T.obj
  have ht1 : SqT K H t us ∨ SqL K H t us := ht.imp (same_t s0) (same_l s0)
  refine q_if (fun b H' => H' = H ∧ b = decide (ss = [])) ?_ ?_ ?_
  · walk_at "rd"
    refine .inr ⟨_, len_seq ht1, ?_⟩
    rw [hp.1]
    refine decide_eq_decide.mpr ⟨fun h => List.length_eq_zero_iff.mp (by omega), fun h => by rw [h]; rfl⟩
  · rintro _ ⟨rfl, hb⟩
    walk_at "rd"
    exact q2 (of_decide_eq_true hb.symm)
  rintro _ ⟨rfl, hb⟩
  have hne : ss ≠ [] := of_decide_eq_false hb.symm
  rename_i H
  refine q_new fun F hF => ?_
  have hF0 : H0 F = none := by
    cases e : H0 F with
    | none => rfl
    | some o => rw [s0 _ _ e] at hF; cases hF
  have hFp : F ≠ p := fun e => by rw [e, ho] at hF; cases hF
  obtain ⟨J0, G, hw, wk, hG⟩ := seq_walk ht
  have sF : Same H (upd H F (.lst [])) := same_new hF
  refine q_stm (fun σ H' => ∃ acc x, σ = [some (.ref p), some (.ref t), some (.bl a), some (.bl b), some (.ref F), x] ∧ Same H0 H' ∧ H' p = some (.ins (fA K "Row") dx []) ∧ H' F = some (.lst acc) ∧ Each (StepV K) (normS ss) acc H0) ?_ ?_
  · refine for_mid (J0 := J0) (H0 := upd H F (.lst [])) (hw _ _ _ rfl (s0.trans sF)) wk
      (fun k σ H' => ∃ acc x, σ = [some (.ref p), some (.ref t), some (.bl a), some (.bl b), some (.ref F), x] ∧ Same H0 H' ∧ H' p = some (.ins (fA K "Row") dx []) ∧ H' F = some (.lst acc) ∧ Each (StepV K) ((ss.take k).foldl stepOne []) acc H0)
      ⟨[], none, rfl, s0.trans sF, sF _ _ ho, upd_same, .nil⟩ (fun k σ H' _ ⟨_, _, _, s, _⟩ => hG H' s) ?_ (fun σ H' h => ?_)
    · rintro k x σ H1 H1' hk ⟨acc, x0, rfl, sm, ho1, hl, pv⟩ ⟨rfl, hx⟩
      obtain ⟨f, hf, hu⟩ := hp.at' hx
      have hu1 := hu.mono sm
      have len : acc.length ≤ ss.length := by
        rw [pv.1]
        have a := stepS_len (ss.take k) []
        have b := List.length_take_le' k ss
        simp only [List.length_nil, Nat.zero_add] at a
        omega
      refine l_if (fun b H' => Same H1' H' ∧ b = addS ((ss.take k).foldl stepOne []) f) ?_ ?_ ?_
      · walk_at "rd"
        intro n hn0
        have sn : Same H1' (upd H1' n (.lst [])) := same_new hn0
        have hln := sn _ _ hl
        have hun := hu1.mono sn
        have eacc : acc = [] ↔ (ss.take k).foldl stepOne [] = [] := by
          rw [← List.length_eq_zero_iff, ← List.length_eq_zero_iff, pv.1]
        generalize ha0 : (ss.take k).foldl stepOne [] = a0 at *
        refine eq_nil (.inl (.inl hln)) (.inl (.inl upd_same)) ⟨_, rfl, ite2 (fun h => ?_) fun h => ?_⟩
        · refine ⟨sn, ?_⟩
          unfold addS
          rw [decide_eq_true (eacc.mp (of_decide_eq_true h))]
          rfl
        have hna : a0 ≠ [] := fun e => h (decide_eq_true (eacc.mpr e))
        have e0 : addS a0 f = (!f.deepB || match a0.getLast? with
          | some g => !g.deepB
          | none => true) := by
          unfold addS
          rw [decide_eq_false hna]
          rfl
        refine ⟨f, hun, x, rfl, hun, _, rfl, ite2 (fun hm => ⟨sn, ?_⟩) fun hm => ?_⟩
        · rw [e0, hm]; rfl
        obtain ⟨g, hg⟩ : ∃ g, a0.getLast? = some g := by
          cases e : a0.getLast? with
          | none => exact absurd (List.getLast?_eq_none_iff.mp e) hna
          | some g => exact ⟨g, rfl⟩
        have hg' := hg
        rw [List.getLast?_eq_getElem?] at hg'
        obtain ⟨u, h1, h2⟩ := pv.2 _ g hg'
        have h2n := h2.mono (sm.trans sn)
        have hlast : acc.getLast? = some u := by rw [List.getLast?_eq_getElem?, pv.1]; exact h1
        refine ⟨acc, .inl (.inl (.inl hln)), u, atI_last hlast, g, h2n, u, rfl, h2n, _, rfl, sn, ?_⟩
        have hm' : f.deepB = true := by simpa using hm
        rw [e0, hm', hg]
        rfl
      · rintro H2 ⟨s2, hb⟩
        have hl2 := s2 _ _ hl
        have ne1 : p ≠ F := fun e => hFp e.symm
        refine l_appV rfl rfl hl2 (by omega) ⟨acc ++ [x], _, rfl, same_mut (sm.trans s2) hF0, ?_, upd_same, ?_⟩
        · rw [upd_ne ne1]; exact s2 _ _ ho1
        rw [stepS_take hf, stepOne_t hb.symm]
        exact pv.snoc hu
      · rintro H2 ⟨s2, hb⟩
        refine ⟨acc, _, rfl, sm.trans s2, s2 _ _ ho1, s2 _ _ hl, ?_⟩
        rw [stepS_take hf, stepOne_f (by rw [← hb]; exact Bool.false_ne_true)]
        exact pv
    · obtain ⟨acc, x, e, sm, ho1, hl, pv⟩ := h
      rw [List.take_of_length_le (by rw [hp.1]; exact Nat.le_refl _)] at pv
      exact ⟨acc, x, e, sm, ho1, hl, pv⟩
  · rintro σ H1 ⟨acc, x, rfl, sm, ho1, hl, pv⟩
    walk_at "rd"
    refine mid_of (fun v H' => ∃ tt, v = .ref tt ∧ H1 tt = none ∧ H' = upd H1 tt (.tup acc)) ?_ ?_
    · walk_at "rd"
      exact ⟨acc, .inl ⟨.inl (.inl hl), fun l h => ⟨h, rfl⟩⟩⟩
    · rintro _ _ ⟨tt, rfl, htt, rfl⟩
      have st : Same H1 (upd H1 tt (.tup acc)) := same_new htt
      have ho2 := st _ _ ho1
      have ntp : tt ≠ p := fun e => by rw [e, ho1] at htt; cases htt
      walk_at "rdh"
      have s5 : Same H0 (upd (upd H1 tt (.tup acc)) p (rowO K dx tt a b)) := same_mut (sm.trans st) h0p
      refine q1 hne _ tt acc s5 upd_same ?_ (pv.mono s5)
      rw [upd_ne ntp]
      exact upd_same
theorem ok_Row___init___1 (T : Txt K mg) : OkD P w K mg base 2 (mA K "Row" "__init__") ["self", "steps", "spares", "folders"] [V.bl false, V.bl false] (spRow K) := okDd T.F_Row___init__ sc_Row___init__ 2 0 (fun q => nomatch q) rfl (fun _ _ _ _ _ _ _ us its hl hi => match us, hl, its, hi with | [_, _], _, [_, _], _ => ⟨_, rfl, rfl⟩) (by rintro vs H Q E ⟨H0, p, dx, t, us, ss, a, b, rfl, _⟩; rfl) (bd_Row___init__ T)
theorem ok_Row___init___2 (T : Txt K mg) : OkD P w K mg base 2 (mA K "Row" "__init__") ["self", "steps", "spares", "folders"] [V.bl false] (spRow K) := okDd T.F_Row___init__ sc_Row___init__ 3 1 (fun q => nomatch q) rfl (fun _ _ _ _ _ _ _ us its hl hi => match us, hl, its, hi with | [_, _, _], _, [_, _], _ => ⟨_, rfl, rfl⟩) (by rintro vs H Q E ⟨H0, p, dx, t, us, ss, a, b, rfl, _⟩; rfl) (bd_Row___init__ T)
theorem ok_Row___init__ (T : Txt K mg) : OkD P w K mg base 2 (mA K "Row" "__init__") ["self", "steps", "spares", "folders"] [] (spRow K) := okDd T.F_Row___init__ sc_Row___init__ 4 2 (fun q => nomatch q) rfl (fun _ _ _ _ _ _ _ us its hl hi => match us, hl, its, hi with | [_, _, _, _], _, [_, _], _ => ⟨_, rfl, rfl⟩) (by rintro vs H Q E ⟨H0, p, dx, t, us, ss, a, b, rfl, _⟩; rfl) (bd_Row___init__ T)
theorem okk_Row___init___folders_spares (T : Txt K mg) : OkKr P w K mg base 2 (mA K "Row" "__init__") ["self", "steps", "spares", "folders"] 2 ["folders", "spares"] (spRow K) := okKr T.F_Row___init__ sc_Row___init__ 2 ["folders", "spares"] (fun q => nomatch q) (fun _ _ _ _ _ _ _ us its ws hl hi hw => match us, hl, its, hi, ws, hw with | [_, _], _, [_, _], _, [_, _], _ => ⟨_, rfl, rfl⟩) (by rintro vs H Q E ⟨H0, p, dx, t, us, ss, a, b, rfl, _⟩; rfl) (bd_Row___init__ T)
theorem normS_ne {ss : List SF} (h : ss ≠ []) : normS ss ≠ [] := by
  have key : ∀ (l acc : List SF), acc ≠ [] → l.foldl stepOne acc ≠ [] := by
    intro l
    induction l with
    | nil => exact fun _ h => h
    | cons f r ih =>
      intro acc h
      refine ih (stepOne acc f) ?_
      unfold stepOne
      split
      · simp
      · exact h
  cases ss with
  | nil => exact absurd rfl h
  | cons f r => exact key r (stepOne [] f) (by unfold stepOne addS; simp)
theorem row_make {H1 : Hp} {l : Addr} {us : List V} {ss : List SF} {a b : Bool} {R : Addr → Hp → Prop} {E : XK} (ht : SqT K H1 l us ∨ SqL K H1 l us) (hp : Each (StepV K) ss us H1) (hn : ss.length ≤ 1000) (hne : ss ≠ []) (q : ∀ x H', Same H1 H' → RowV K ⟨normS ss, a, b⟩ (.ref x) H' → R x H') :
    ∀ x dx, H1 x = none → H1 dx = none → ¬ dx = x → spRow K [.ref x, .ref l, .bl a, .bl b] (upd (upd H1 dx (.own x)) x (.ins (fA K "Row") dx [])) (fun v H3 => v = .non ∧ R x H3) E :=
  fun x dx hx hdx hxd => ⟨H1, x, dx, l, us, ss, a, b, rfl, hx, new_two hx hdx hxd, ht, hp, hn, upd_same, fun _ H' tt us' s h1 h2 h3 => ⟨rfl, q _ H' s ⟨x, dx, tt, us', rfl, h1, h2, h3, normS_ne hne⟩⟩, fun e => absurd e hne⟩

/-! ### what rows tell -/
section
variable {X : Cx}
end
/-! ### drawn rows, rows made -/
def RF.Low (r : RF) : Prop := ∀ fs, SF.seg fs ∈ r.steps → ∀ f ∈ fs, f.Low
theorem range4 {i : Int} {Q : V → Prop} (h : ∀ n : Nat, 1 ≤ n → n ≤ 3 → Q (.int n)) : ∃ v, atI [V.int 1, V.int 2, V.int 2, V.int 3] (i % 4) = some v ∧ Q v := by
  have h0 : 0 ≤ i % 4 := Int.emod_nonneg _ (by decide)
  have h1 : i % 4 < 4 := Int.emod_lt_of_pos _ (by decide)
  have : i % 4 = 0 ∨ i % 4 = 1 ∨ i % 4 = 2 ∨ i % 4 = 3 := by omega
  rcases this with e | e | e | e <;> rw [e]
  · exact ⟨_, rfl, h 1 (by decide) (by decide)⟩
  · exact ⟨_, rfl, h 2 (by decide) (by decide)⟩
  · exact ⟨_, rfl, h 2 (by decide) (by decide)⟩
  · exact ⟨_, rfl, h 3 (by decide) (by decide)⟩
def spRowL (K : PySem.W.Frag) : Sp := fun vs H Q _ => ∃ c p ws, vs = [.int c, .ref p] ∧ SqL K H p ws ∧ ws.length = 4 ∧ (∀ v ∈ ws, SignV v) ∧ ∀ v r H', RF.Ok r → r.Low → r.steps.length ≤ 3 → Same H H' → Dp K H' v r.d → Q v H'
theorem ok__law_row (T : Txt K mg) : OkD P w K mg base 3 (fA K "_law_row") ["_law_cell_here", "_law_signs_here"] [] (spRowL K) := by
  refine okD T.F__law_row sc__law_row (fun _ _ _ _ _ _ us hl => match us, hl with | [_, _], _ => rfl) ?_ ?_
  · rintro vs H Q E ⟨c, p, ws, rfl, _⟩
    rfl
  · rintro cdv A outer s H vs Q E hr ⟨c, p, ws, rfl, hs, hl, hw, q⟩
    refine ⟨_, (pss_cons (ps_set (i := 2) sc__law_row.nd rfl (Or.inl rfl) (pe_lst pa_nil))
  (pss_cons (ps_mid (ps_for (passes_of rfl) rfl (pi_mid (pi_range1 rfl T.fr_range (pa_cons (pe_ix (o_ix (K := K)) (pe_lst (pa_cons pe_int (pa_cons pe_int (pa_cons pe_int (pa_cons pe_int pa_nil))))) (pe_op op_mod (pv 0) pe_int) (fun _ _ => rfl)) pa_nil))) (pg_name (i := 3) sc__law_row.nd rfl (Or.inl rfl)) (pss_cons (ps_set (i := 4) sc__law_row.nd rfl (Or.inl rfl) (pe_mid (pe_cal (ok__law_mixed T) (hr.mono (by decide)) rfl T.g__law_mixed (pasE (takes_of rfl rfl rfl rfl) (fun _ _ _ _ h => h)) (pa_cons (pv 0) (pa_cons (pe_op (o_add (K := K)) pe_int (pv 3)) pa_nil)))))
  (pss_one (ps_if (pt_mid (PW.pt (pw_and (pt_cmpR (o_eq (K := K) (hu64 hr)) (pe_op op_mod (pv 4) pe_int) pe_int (nomark _)) (pw_and1 (pt_cmpR (o_notin (K := K) (hu65 hr)) (pe_tup (pa_cons pe_str pa_nil)) (pe_slice (o_sl (K := K)) (pv 2) (po_some (pe_un un_neg pe_int)) po_none) (by rfl)))))) (pss_one (ps_expr (pe_bmK (K := K) PySem.F.plainAttrs_list PySem.F.slot_list_append PySem.F.type_list_append mt_append (pv 2) (pa_cons (pe_mid (pe_tup (pa_cons pe_str pa_nil))) pa_nil)))) (pss_one (ps_expr (pe_bmK (K := K) PySem.F.plainAttrs_list PySem.F.slot_list_append PySem.F.type_list_append mt_append (pv 2) (pa_cons (pe_mid (pe_cal (ok__law_segment T) (hr.mono (by decide)) rfl T.g__law_segment (pasE (takes_of rfl rfl rfl rfl) (fun _ _ _ _ h => h)) (pa_cons (pe_op op_fdivW (pv 4) pe_int) (pa_cons (pv 1) pa_nil)))) pa_nil)))))))))
  (pss_one (ps_ret (pe_tup (pa_cons (pe_callTy (o_tuple (K := K)) (by rfl) T.fr_tuple (by decide +kernel) (pa_cons (pv 2) pa_nil)) (pa_cons (pe_cmpR (o_eq (K := K) (hu64 hr)) (pe_op op_mod (pe_op op_fdivW (pv 0) pe_int) pe_int) pe_int (nomark _)) (pa_cons (pe_cmpR (o_eq (K := K) (hu64 hr)) (pe_op op_mod (pe_op op_fdivW (pv 0) pe_int) pe_int) pe_int (nomark _)) pa_nil)))))))), ?_⟩
    have tobj := T.obj
    refine q_new fun L hL => ?_
    have sL := same_new (o := .lst []) hL
    refine q_stm (fun σ H' => ∃ ss us x1 x2, σ = [some (.int c), some (.ref p), some (.ref L), x1, x2] ∧ Same H H' ∧ H' L = some (.lst us) ∧ Each (fun f u H => Dp K H u (SF.d f)) ss us H' ∧ ss ≠ [] ∧ (∀ s ∈ ss, s.Ok) ∧ NoTwoD ss ∧ ss.length ≤ 3 ∧ ∀ fs, SF.seg fs ∈ ss → ∀ f ∈ fs, f.Low) ?_ ?_
    · refine for_open (fun J H' => ∃ n : Nat, J = Itr 0 n ∧ Same (upd H L (.lst [])) H' ∧ 1 ≤ n ∧ n ≤ 3) ?_ ?_
      · walk_at "rd"
        intro p' hp'
        exact ⟨_, .inl (.inl (.inl upd_same)), range4 (Q := fun v => ∃ j, v = V.int j ∧ _) fun n h1 h3 => ⟨n, rfl, by omega, by omega, n, rfl, same_new hp', h1, h3⟩⟩
      rintro _ H0 ⟨n, rfl, s0, hn1, hn3⟩
      have s00 := sL.trans s0
      refine for_mid (J0 := Itr 0 n) (H0 := H0) ⟨rfl, rfl⟩ walk_range
        (fun k σ H' => ∃ ss us x1 x2, σ = [some (.int c), some (.ref p), some (.ref L), x1, x2] ∧ Same H H' ∧ H' L = some (.lst us) ∧ Each (fun f u H => Dp K H u (SF.d f)) ss us H' ∧ (0 < k → ss ≠ []) ∧ (∀ s ∈ ss, s.Ok) ∧ NoTwoD ss ∧ ss.length ≤ k ∧ ∀ fs, SF.seg fs ∈ ss → ∀ f ∈ fs, f.Low)
        ⟨[], [], none, none, rfl, s00, s0 _ _ upd_same, .nil, fun h => absurd h (by decide), fun _ h => (nomatch h), trivial, Nat.le_refl _, fun _ h => nomatch h⟩ (fun _ _ _ _ _ => trivial) ?_ (fun σ H' h => ?_)
      · rintro k x σ H1 H1' hk ⟨ss, us, x1, x2, rfl, sm, hl1, each, ne, oks, two, len, low⟩ ⟨rfl, rfl⟩
        refine q_mid (fun m => 0 ≤ m ∧ m < 2147483647) ?_ fun mk hmk => ?_
        · walk_at "rd"
          exact ⟨c, _, rfl, fun m h1 h2 => ⟨rfl, m, rfl, h1, h2⟩⟩
        refine l_if (fun b H' => Same H1' H' ∧ (b = true → ss.getLast? ≠ some .deep)) ?_ ?_ ?_
        · walk_at "rd"
          refine ite2 (fun _ => ?_) fun _ h => h.elim
          exact deep_test (R := fun k H' => Same H1' H' ∧ (k = true → ¬ss.getLast? = some SF.deep)) hl1 each oks fun b H' s h => ⟨s, h⟩
        · rintro H3 ⟨s3, hb⟩
          have hL3 := s3 _ _ hl1
          refine l_app rfl hL3 ?_
          walk_at "rd"
          intro p' hp'
          have sp := same_new (o := .tup [V.str (Str.ofString "deep")]) hp'
          have s13 := (sm.trans s3).trans sp
          refine ⟨us, sp _ _ hL3, by rw [each.1]; omega, same_mut s13 hL, ss ++ [.deep], _, upd_same, forms_snoc (sp _ _ hL3) (each.imp fun f u d => dp_mono (s3.trans sp) _ _ d) (.tup (.inl (.inl upd_same)) (.cons (.str _) .nil)), fun _ => by simp, fun s h => ?_, twoD_snoc two fun _ => hb rfl, ?_, fun fs h => ?_⟩
          · exact (List.mem_append.mp h).elim (oks s) fun e => by rw [List.mem_singleton.mp e]; trivial
          · rw [List.length_append]; exact Nat.succ_le_succ len
          · exact (List.mem_append.mp h).elim (low fs) fun e => nomatch (List.mem_singleton.mp e)
        · rintro H3 ⟨s3, hb⟩
          have hL3 := s3 _ _ hl1
          refine l_app rfl hL3 ?_
          walk_at "rd"
          refine ⟨⟨by decide, by decide⟩, mk / 5, p, ws, rfl, same_l (sm.trans s3) hs, hl, hw, fun v fs H4 okf _ lo s4 d => ⟨us, s4 _ _ hL3, by rw [each.1]; omega, same_mut ((sm.trans s3).trans s4) hL, ss ++ [.seg fs], _, upd_same, forms_snoc (s4 _ _ hL3) (each.imp fun f u d => dp_mono (s3.trans s4) _ _ d) d, fun _ => by simp, fun s h => ?_, twoD_snoc two (fun e => nomatch e), ?_, fun gs h => ?_⟩⟩
          · exact (List.mem_append.mp h).elim (oks s) fun e => by rw [List.mem_singleton.mp e]; exact okf
          · rw [List.length_append]; exact Nat.succ_le_succ len
          · exact (List.mem_append.mp h).elim (low gs) fun e => by cases List.mem_singleton.mp e; exact lo
      · obtain ⟨ss, us, x1, x2, e, s1, h1, h2, h3, h4, h5, h6, h7⟩ := h
        exact ⟨ss, us, x1, x2, e, s1, h1, h2, h3 (by omega), h4, h5, by omega, h7⟩
    · rintro σ H1 ⟨ss, us, x1, x2, rfl, s1, h1, h2, h3, h4, h5, h6, h7⟩
      walk_at "rd"
      refine ⟨us, .inl ⟨.inl (.inl h1), fun l hl' => ⟨⟨by decide, by decide⟩, ⟨by decide, by decide⟩, fun p' hp' => ?_⟩⟩⟩
      exact q _ ⟨ss, _, _⟩ _ ⟨h3, h4, h5, Nat.le_trans h6 (by decide)⟩ h7 h6 ((s1.trans (same_new hl')).trans (same_new hp')) (row_d (r := ⟨ss, _, _⟩) h2 hl' hp')
def spRowMade (K : PySem.W.Frag) : Sp := fun vs H Q _ => ∃ v r, vs = [v] ∧ Dp K H v (RF.d r) ∧ RF.Ok r ∧ ∀ u H', Same H H' → RowV K r u H' → Q u H'
theorem ok__law_row_made (T : Txt K mg) : OkD P w K mg base 5 (fA K "_law_row_made") ["_law_form"] [] (spRowMade K) := by
  refine okD T.F__law_row_made sc__law_row_made (fun _ _ _ _ _ _ us hl => match us, hl with | [_], _ => rfl) ?_ ?_
  · rintro vs H Q E ⟨v, r, rfl, _⟩
    rfl
  · rintro cdv A outer s H vs Q E hr ⟨v, r, rfl, hd, ok, q⟩
    refine ⟨_, (pss_cons (ps_set (i := 1) sc__law_row_made.nd rfl (Or.inl rfl) (pe_lst pa_nil))
  (pss_cons (ps_mid (ps_for (passes_of rfl) rfl (pi_mid (o_it (K := K) rfl (pe_ix (o_ix (K := K)) (pv 0) pe_int (fun _ _ => rfl)))) (pg_name (i := 2) sc__law_row_made.nd rfl (Or.inl rfl)) (pss_one (ps_if (pt_mid (pt_cmpR (o_eq (K := K) (hu64 hr)) (pe_ix (o_ix (K := K)) (pv 2) pe_int (fun _ _ => rfl)) pe_str (nomark _))) (pss_one (ps_expr (pe_bmK (K := K) PySem.F.plainAttrs_list PySem.F.slot_list_append PySem.F.type_list_append mt_append (pv 1) (pa_cons (pe_mid (pe_makN T.mn_Deep rfl T.g_Deep)) pa_nil)))) (pss_one (ps_expr (pe_bmK (K := K) PySem.F.plainAttrs_list PySem.F.slot_list_append PySem.F.type_list_append mt_append (pv 1) (pa_cons (pe_mid (pe_mak T.mk_Segment (ok_Segment___init__ T) (hr.mono (by decide)) rfl T.g_Segment (pasE (takes_of rfl rfl rfl rfl) (fun _ _ _ _ h => h)) (pa_cons (pe_callTy (o_tuple (K := K)) (by rfl) T.fr_tuple (by decide +kernel) (pa_cons (pe_lc (own := [("_law_part_here", 3)]) (g := (gName 3)) (tt := tYes) rfl sc__law_row_made.nd (pi_mid (o_it (K := K) rfl (pe_ix (o_ix (K := K)) (pv 2) pe_int (fun _ _ => rfl)))) (blkOk_by (N := N__law_row_made) (sc := defScope TX.s__law_row_made) (by decide +kernel)) (fun _ _ _ _ _ => (pg_name (i := 3) sc__law_row_made.nd rfl (Or.inl rfl))) (fun _ _ _ _ _ => pts_nil) (fun _ _ _ _ _ => (pe_mid (pe_cal (ok__law_part_made T) (hr.mono (by decide)) rfl T.g__law_part_made pasN (pa_cons (pv 3) pa_nil))))) pa_nil)) pa_nil))) pa_nil))))))))
  (pss_one (ps_ret (pe_mak T.mk_Row (ok_Row___init__ T) (hr.mono (by decide)) rfl T.g_Row (pasE (takes_of rfl rfl rfl rfl) (fun _ _ _ _ h => h)) (pa_cons (pe_callTy (o_tuple (K := K)) (by rfl) T.fr_tuple (by decide +kernel) (pa_cons (pv 1) pa_nil)) (pa_cons (pe_ix (o_ix (K := K)) (pv 0) pe_int (fun _ _ => rfl)) (pa_cons (pe_ix (o_ix (K := K)) (pv 0) pe_int (fun _ _ => rfl)) pa_nil)))))))), ?_⟩
    have tobj := T.obj
    obtain ⟨a, t, ts, rfl, ha, ht, each⟩ := RF.inv hd
    refine q_new fun L hL => ?_
    have sL := same_new (o := .lst []) hL
    refine q_stm (fun σ H' => ∃ us x2 x3, σ = [some (.ref a), some (.ref L), x2, x3] ∧ Same H H' ∧ H' L = some (.lst us) ∧ Each (StepV K) r.steps us H') ?_ ?_
    · refine for_mid (J0 := Itt K t) (H0 := upd H L (.lst [])) ?_ (walk_tup (K := K) (a := t) (xs := ts))
        (fun k σ H' => ∃ us x2 x3, σ = [some (.ref a), some (.ref L), x2, x3] ∧ Same H H' ∧ H' L = some (.lst us) ∧ Each (StepV K) (r.steps.take k) us H')
        ⟨[], none, none, rfl, sL, upd_same, .nil⟩ (fun k σ H' _ ⟨_, _, _, _, s3, _⟩ => same_t s3 ht) ?_ (fun σ H' h => ?_)
      · have ha1 := same_t sL ha
        have ht1 := same_t sL ht
        walk_at "rdx"
        exact .inr ⟨ts, ht1⟩
      · rintro k x σ H1 H1' hk ⟨us, x2, x3, rfl, sm, hl1, es⟩ ⟨rfl, hx⟩
        obtain ⟨f, hf, hdf⟩ := each.at' hx
        have hd1 := dp_mono sm _ _ hdf
        have hok := ok.ok f (List.mem_of_getElem? hf)
        have hlen : us.length ≤ 12 := by
          rw [es.1]
          have := ok.len
          have := List.length_take_le' k r.steps
          omega
        have tk : r.steps.take (k + 1) = r.steps.take k ++ [f] := by rw [List.take_succ, hf]; rfl
        have fin : ∀ (y : V) (H5 : Hp), Same H1' H5 → StepV K f y H5 → ∃ ys, H5 L = some (.lst ys) ∧ ys.length < 16777216 ∧ Same H (upd H5 L (.lst (ys ++ [y]))) ∧ ∃ us, upd H5 L (.lst (ys ++ [y])) L = some (.lst us) ∧ Each (StepV K) (r.steps.take (k + 1)) us (upd H5 L (.lst (ys ++ [y]))) := by
          intro y H5 s5 hy
          have hl5 := s5 _ _ hl1
          refine ⟨us, hl5, by omega, same_mut (sm.trans s5) hL, us ++ [y], upd_same, ?_⟩
          rw [tk]
          exact ((es.mono s5).nl (nl_upd hl5)).snoc (hy.nl (nl_upd hl5))
        cases f with
        | deep =>
          obtain ⟨va, rfl, hv⟩ := SF.deep_inv hd1
          refine l_if (fun b H' => b = true ∧ H' = H1') (by walk_at "rdx") (fun H5 h => ?_) (fun H1 h => nomatch h.1)
          obtain ⟨_, rfl⟩ := h
          refine l_app rfl hl1 ?_
          walk_at "rd"
          intro x dx hx' hdx hne
          exact fin _ _ (new_two hx' hdx hne) ⟨x, dx, rfl, upd_same⟩
        | seg fs =>
          obtain ⟨va, t1, us1, rfl, hv, ht1, each1⟩ := SF.seg_inv hd1
          have okf : PartsOk fs := hok
          refine l_if (fun b H' => b = false ∧ H' = H1') (by walk_at "rdx") (fun H1 h => nomatch h.1) (fun H5 h => ?_)
          obtain ⟨_, rfl⟩ := h
          refine l_app rfl hl1 ?_
          walk_at "rd"
          refine lc_midM (J0 := Itt K t1) (H0 := H5) ?_ (walk_tup (K := K) (a := t1) (xs := us1)) (by rw [each1.1]; have := okf.len; omega) (fun k acc H' => Each (PartV K) (fs.take k) acc H') (fun k acc Ha Hb e h => h.imp fun f u d => d.nl e) .nil (fun H' s => same_t s ht1) (fun _ _ _ _ y => y_at y) (fun _ => rfl) ?_ ?_
          · walk_at "rdx"
            exact .inr ⟨us1, ht1⟩
          · rintro j x acc H' H'' hj s6 hc ⟨rfl, hx⟩
            obtain ⟨f, hf1, df⟩ := each1.at' hx
            refine mid_of (fun u H4 => Same H'' H4 ∧ PartV K f u H4) ?_ ?_
            · walk_at "rd"
              exact ⟨x, f, rfl, dp_mono s6 _ _ df, okf.ok f (List.mem_of_getElem? hf1), fun u H4 s h => ⟨s, h⟩⟩
            · rintro u H4 ⟨s4, h⟩
              refine ⟨s4, ?_⟩
              rw [List.take_succ, hf1]
              exact (hc.imp fun f u d => d.mono s4).snoc h
          · intro l acc H6 hl6 s6 hD6 hlen6 hc
            rw [List.take_of_length_le (by rw [each1.1]; exact Nat.le_refl _)] at hc
            walk_at "rd"
            refine ⟨acc, .inl ⟨.inl (.inl hD6), fun l' hl' => ?_⟩⟩
            have s7 := same_new (o := .tup acc) hl'
            exact seg_make (.inl (.inl (.inl upd_same))) ((parts_each.mpr hc).mono s7) (Nat.le_trans okf.len (by decide)) okf.ne fun v H' s h => fin _ H' ((s6.trans s7).trans s) (by rw [normP_id okf.two] at h; exact h)
      · obtain ⟨us, x2, x3, e, s1, h1, h2⟩ := h
        rw [List.take_of_length_le (by rw [each.1]; exact Nat.le_refl _)] at h2
        exact ⟨us, x2, x3, e, s1, h1, h2⟩
    · rintro σ H1 ⟨us, x2, x3, rfl, s1, h1, h2⟩
      have ha1 := same_t s1 ha
      walk_at "rdx"
      refine ⟨us, .inl ⟨.inl (.inl h1), fun l hl' => ?_⟩⟩
      have s2 := same_new (o := .tup us) hl'
      have ha2 := same_t s2 ha1
      refine ⟨_, .inr ha2, _, rfl, _, .inr ha2, _, rfl, ?_⟩
      refine row_make (.inl (.inl (.inl upd_same))) (h2.mono s2) (Nat.le_trans ok.len (by decide)) ok.ne fun v H' s h => ?_
      rw [normS_id ok.two] at h
      exact q _ H' ((s1.trans s2).trans s) h

/-! ### signs that a part fits -/
def FOk (f : PF) : Prop := f.Ok
def WsOk (ws : List V) : Prop := True
def LIT : List Nat := [45, 46, 48, 49, 50, 51, 52, 53, 54, 55, 56, 57, 95]
theorem lit_sig : ∀ c ∈ LIT, c ∈ SIG := by decide +kernel
theorem lit_out {l : List Nat} (h : l.length ≤ 12) : ∃ c ∈ LIT, c ∉ l := by
  refine Classical.byContradiction fun n => ?_
  have a : ∀ c ∈ LIT, c ∈ l := fun c hc => Classical.byContradiction fun q => n ⟨c, hc, q⟩
  have e := nat_nodup_len LIT l (by decide +kernel) a
  have : LIT.length = 13 := rfl
  omega
def spFilled (K : PySem.W.Frag) : Sp := fun vs H Q _ => ∃ v c p ws f, vs = [v, .int c, .ref p] ∧ Dp K H v (PF.d f) ∧ FOk f ∧ H p = some (.lst ws) ∧ ws.length = 4 ∧ WsOk ws ∧ (∀ v ∈ ws, SignV v) ∧ ∀ l H', l.length ≤ 2 → (∀ c ∈ l, c ∈ SIG) → Same H H' → Q (.str (S l)) H'
theorem ok__law_filled (T : Txt K mg) : OkD P w K mg base 1 (fA K "_law_filled") ["_law_part_here", "_law_cell_here", "_law_signs_here"] [] (spFilled K) := by
  refine okD T.F__law_filled sc__law_filled (fun _ _ _ _ _ _ us hl => match us, hl with | [_, _, _], _ => rfl) ?_ ?_
  · rintro vs H Q E ⟨v, c, p, ws, f, rfl, _⟩
    rfl
  · rintro cdv A outer s H vs Q E hr ⟨v, c, p, ws, f, rfl, hd, ok, hs, hl, _, hw, q⟩
    have ok : f.Ok := ok
    have hs0 := hs
    have hs : SqL K H p ws := .inl (.inl hs0)
    refine ⟨_, (pss_cons (ps_if (pt_mid (pt_cmpR (o_eq (K := K) (hu64 hr)) (pe_ix (o_ix (K := K)) (pv 0) pe_int (fun _ _ => rfl)) pe_str (nomark _))) (pss_one (ps_ret (pe_ix (o_ix (K := K)) (pv 0) pe_int (fun _ _ => rfl)))) pss_nil)
  (pss_cons (ps_if (pt_mid (pt_cmpR (o_eq (K := K) (hu64 hr)) (pe_ix (o_ix (K := K)) (pv 0) pe_int (fun _ _ => rfl)) pe_str (nomark _))) (pss_one (ps_ret (pe_ix (o_ix (K := K)) (pv 2) (pe_op op_mod (pv 1) pe_int) (fun _ _ => rfl)))) pss_nil)
  (pss_cons (ps_if (pt_mid (pt_cmpR (o_eq (K := K) (hu64 hr)) (pe_ix (o_ix (K := K)) (pv 0) pe_int (fun _ _ => rfl)) pe_str (nomark _))) (pss_cons (ps_set (i := 3) sc__law_filled.nd rfl (Or.inl rfl) (pe_mid (pe_op (o_add (K := K)) (pe_ix (o_ix (K := K)) (pv 2) (pe_op op_mod (pv 1) pe_int) (fun _ _ => rfl)) (pe_ix (o_ix (K := K)) (pv 2) (pe_op op_mod (pe_op op_fdivW (pv 1) pe_int) pe_int) (fun _ _ => rfl)))))
  (pss_one (ps_ret (pe_slice (o_sl (K := K)) (pv 3) po_none (po_some (pe_op op_mod (pe_op op_fdivW (pv 1) pe_int) pe_int)))))) pss_nil)
  (pss_cons (ps_if (pt_mid (pt_tru (K := K) (pe_ix (o_ix (K := K)) (pv 0) pe_int (fun _ _ => rfl)) (by intro _; rfl))) (pss_cons (ps_set (i := 3) sc__law_filled.nd rfl (Or.inl rfl) (pe_mid (pe_op (o_add (K := K)) (pv 2) (pe_lst (pa_cons pe_str (pa_cons pe_str (pa_cons pe_str (pa_cons pe_str (pa_cons pe_str (pa_cons pe_str (pa_cons pe_str (pa_cons pe_str (pa_cons pe_str (pa_cons pe_str (pa_cons pe_str (pa_cons pe_str (pa_cons pe_str pa_nil)))))))))))))))))
  (pss_one (ps_ret (pe_ix (o_ix (K := K)) (pe_lc (own := [("_law_sign", 4)]) (g := (gName 4)) rfl sc__law_filled.nd (pi_mid (o_it (K := K) rfl (pv 3))) (blkOk_by (N := N__law_filled) (sc := defScope TX.s__law_filled) (by decide +kernel)) (fun _ _ _ _ _ => (pg_name (i := 4) sc__law_filled.nd rfl (Or.inl rfl))) (fun _ _ _ _ _ => (pts_one (pt_mid (pt_cmpR (o_notin (K := K) (hu65 hr)) (pv 4) (pe_ix (o_ix (K := K)) (pv 0) pe_int (fun _ _ => rfl)) (by rfl))))) (fun _ _ _ _ _ => (pe_mid (pv 4)))) pe_int (fun _ _ => rfl))))) pss_nil)
  (pss_one (ps_ret (pe_ix (o_ix (K := K)) (pe_ix (o_ix (K := K)) (pv 0) pe_int (fun _ _ => rfl)) (pe_op op_mod (pv 1) (pe_callB (o_lenW (K := K) (w := w)) (by rfl) T.fr_len boot_len (pa_cons (pe_ix (o_ix (K := K)) (pv 0) pe_int (fun _ _ => rfl)) pa_nil))) (fun _ _ => rfl)))))))), ?_⟩
    have tobj := T.obj
    obtain ⟨a, rfl, hv⟩ := PF.inv hd
    obtain ⟨c1, hc1, e1⟩ := at4 hl hw c
    obtain ⟨c2, hc2, e2⟩ := at4 hl hw (c / 4)
    cases f with
    | one d =>
      refine q_if (fun b H1 => b = true ∧ H1 = H) (by walk_at "rdx") (fun H1 h => ?_) (fun H1 h => nomatch h.1)
      obtain ⟨_, rfl⟩ := h
      walk_at "rdx"
      exact q [d] _ (by simp) (fun c hc => by rw [List.mem_singleton.mp hc]; exact ok) (Same.refl _)
    | any =>
      refine q_if (fun b H1 => b = false ∧ H1 = H) (by walk_at "rdx") (fun H1 h => nomatch h.1) (fun H1 h => ?_)
      obtain ⟨_, rfl⟩ := h
      refine q_if (fun b H1' => b = true ∧ H1' = H1) (by walk_at "rdx") (fun H2 h => ?_) (fun H1 h => nomatch h.1)
      obtain ⟨_, rfl⟩ := h
      walk_at "rd"
      exact ⟨ws, .inl hs, _, e1, q [c1] _ (by simp) (fun c hc => by rw [List.mem_singleton.mp hc]; exact hc1) (Same.refl _)⟩
    | stars =>
      refine q_if (fun b H1 => b = false ∧ H1 = H) (by walk_at "rdx") (fun H1 h => nomatch h.1) (fun H1 h => ?_)
      obtain ⟨_, rfl⟩ := h
      refine q_if (fun b H1' => b = false ∧ H1' = H1) (by walk_at "rdx") (fun H1 h => nomatch h.1) (fun H2 h => ?_)
      obtain ⟨_, rfl⟩ := h
      refine q_if (fun b H1' => b = true ∧ H1' = H2) (by walk_at "rdx") (fun H3 h => ?_) (fun H1 h => nomatch h.1)
      obtain ⟨_, rfl⟩ := h
      refine q_midG (fun v H' => v = .str (S [c1, c2]) ∧ H' = H3) ?_ ?_
      · walk_at "rd"
        refine ⟨ws, .inl hs, _, e1, ⟨by decide, by decide⟩, ws, .inl hs, _, e2, ?_⟩
        show (S [c1]).length + (S [c2]).length ≤ 16777216 ∧ S [c1] ++ S [c2] = S [c1, c2]
        rw [S_cat]
        exact ⟨by rw [S_len, S_len]; simp, rfl⟩
      rintro _ _ ⟨rfl, rfl⟩
      rename_i H4
      walk_at "rd"
      refine ⟨⟨by decide, by decide⟩, by rw [S_len]; simp, ?_⟩
      refine q _ _ ?_ (fun c hc => ?_) (Same.refl _)
      · exact Nat.le_trans (List.length_take_le' _ _) (Nat.le_trans (drop_le _ _) (Nat.le_refl 2))
      · have h := List.mem_of_mem_drop (List.mem_of_mem_take hc)
        rcases List.mem_cons.mp h with rfl | h
        · exact hc1
        · rw [List.mem_singleton.mp h]; exact hc2
    | among l o =>
      refine q_if (fun b H1 => b = false ∧ H1 = H) (by walk_at "rdx") (fun H1 h => nomatch h.1) (fun H1 h => ?_)
      obtain ⟨_, rfl⟩ := h
      refine q_if (fun b H1' => b = false ∧ H1' = H1) (by walk_at "rdx") (fun H1 h => nomatch h.1) (fun H2 h => ?_)
      obtain ⟨_, rfl⟩ := h
      refine q_if (fun b H1' => b = false ∧ H1' = H2) (by walk_at "rdx") (fun H1 h => nomatch h.1) (fun H3 h => ?_)
      obtain ⟨_, rfl⟩ := h
      refine q_next ?_
      refine q_if (fun b H1' => b = o ∧ H1' = H3) ?_ (fun H4 h => ?_) (fun H4 h => ?_)
      · walk_at "rdx"
      · obtain ⟨_, rfl⟩ := h
        obtain ⟨cs, rfl, hcs⟩ := signs_list hw
        have lcs : cs.length = 4 := by simpa using hl
        refine q_midG (fun v H' => Same H4 H' ∧ ∃ P, v = .ref P ∧ H' P = some (.lst (((cs ++ LIT).map fun c => S [c]).map V.str))) ?_ ?_
        · walk_at "rd"
          refine fun p1 hp1 => .inl ⟨_, same_new hp1 _ _ hs0, _, upd_same, ?_, fun p2 hp2 => ⟨(same_new hp1).trans (same_new hp2), ?_⟩⟩
          · show (List.map V.str (List.map (fun c => S [c]) cs)).length + 13 ≤ _
            rw [hl]
            decide
          · rw [upd_same, List.map_append, List.map_append]
            rfl
        rintro _ H5 ⟨s5, P, rfl, hP⟩
        have lq : (((cs ++ LIT).map fun c => S [c]).map V.str).length = 17 := by rw [List.length_map, List.length_map, List.length_append, lcs]; rfl
        have hv5 := same_t s5 hv
        walk_at "rd"
        refine lc_midT (J0 := Itl K P) (H0 := H5) ?_ (walk_list (K := K) (a := P) (xs := ((cs ++ LIT).map fun c => S [c]).map V.str)) (by rw [lq]; decide) (fun k acc _ => acc = (((cs ++ LIT).take k).filter fun c => !decide (c ∈ l)).map fun c => V.str (S [c])) (fun _ _ _ _ _ h => h) rfl (fun H' s => .inl (.inl (s _ _ hP))) (fun _ _ _ _ y => y_at y) (fun _ => rfl) ?_ ?_
        · walk_at "rd"
          exact .inl ⟨_, .inl (.inl hP)⟩
        · rintro k x acc H' H'' hk sm ha ⟨rfl, hx⟩
          obtain ⟨c, hc', rfl⟩ : ∃ c, (cs ++ LIT)[k]? = some c ∧ x = .str (S [c]) := by
            rw [List.getElem?_map, List.getElem?_map] at hx
            cases e : (cs ++ LIT)[k]? with
            | none => rw [e] at hx; cases hx
            | some c => rw [e] at hx; exact ⟨c, rfl, (Option.some.inj hx).symm⟩
          have hv' := same_t sm hv5
          have tk : (cs ++ LIT).take (k + 1) = (cs ++ LIT).take k ++ [c] := by rw [List.take_succ, hc']; rfl
          walk_at "rdx"
          refine .inl ⟨c, rfl, ?_⟩
          rw [tk, List.filter_append, List.map_append, ← ha]
          by_cases h : c ∈ l <;> simp [h]
        · rintro r acc H' hp0 sm hD hle ha
          rw [List.take_of_length_le (by rw [lq, List.length_append, lcs]; exact Nat.le_refl _)] at ha
          obtain ⟨d, hd1, hd2⟩ := lit_out ok.2
          have hmem : d ∈ (cs ++ LIT).filter fun c => !decide (c ∈ l) := List.mem_filter.mpr ⟨List.mem_append_right _ hd1, by simp [hd2]⟩
          cases hf : (cs ++ LIT).filter fun c => !decide (c ∈ l) with
          | nil => rw [hf] at hmem; cases hmem
          | cons y r' =>
            rw [hf] at ha
            have hy : y ∈ cs ++ LIT := (List.mem_filter.mp (by rw [hf]; exact List.mem_cons_self)).1
            refine ⟨acc, .inl (.inl (.inl hD)), V.str (S [y]), ?_, ?_⟩
            · rw [ha]; exact atI_zero
            · exact q [y] _ (by simp) (fun c hc => by rw [List.mem_singleton.mp hc]; exact (List.mem_append.mp hy).elim (hcs y) (lit_sig y)) (s5.trans sm)
      · obtain ⟨_, rfl⟩ := h
        have hl0 : 0 < l.length := List.length_pos_iff.mpr ok.1.ne
        obtain ⟨j, hj⟩ : ∃ j : Nat, c % (l.length : Int) = (j : Int) := ⟨(c % (l.length : Int)).toNat, by have := Int.emod_nonneg c (b := (l.length : Int)) (by omega); omega⟩
        have hj2 : j < l.length := by
          have := Int.emod_lt_of_pos c (b := (l.length : Int)) (by omega)
          omega
        have h12 := ok.2
        walk_at "rdx"
        rw [S_len, hj]
        exact ⟨by omega, by omega, by omega, l[j], atI_nat (List.getElem?_eq_getElem hj2), q [l[j]] _ (by simp) (fun c hc => by rw [List.mem_singleton.mp hc]; exact ok.1.sg _ (List.getElem_mem hj2)) (Same.refl _)⟩

/-! ### names about a row -/
/-- a name: signs, one at least -/
def NmV (b : Nat) (v : V) : Prop := ∃ l : List Nat, v = .str (S l) ∧ l ≠ [] ∧ l.length ≤ b ∧ ∀ c ∈ l, c ∈ SIG
theorem NmV.up {b b' : Nat} {v : V} (h : NmV b v) (e : b ≤ b') : NmV b' v := let ⟨l, a, c, d, f⟩ := h; ⟨l, a, c, Nat.le_trans d e, f⟩
def NmL (H : Hp) (F : Addr) (b : Nat) (us : List V) (n : Nat) (H' : Hp) : Prop := Same H H' ∧ H F = none ∧ H' F = some (.lst us) ∧ (∀ u ∈ us, NmV b u) ∧ us.length ≤ n
theorem nm_one {c b : Nat} (h : c ∈ SIG) : NmV (b + 2) (.str (S [c])) := ⟨[c], rfl, by simp, by simp, fun d hd => by rw [List.mem_singleton.mp hd]; exact h⟩
theorem nm_two {c d b : Nat} (h : c ∈ SIG) (g : d ∈ SIG) : NmV (b + 2) (.str (S [c, d])) := ⟨[c, d], rfl, by simp, by simp, fun e he => (List.mem_cons.mp he).elim (fun q => q ▸ h) fun q => by rw [List.mem_singleton.mp q]; exact g⟩
theorem all_snoc {p : V → Prop} {us : List V} {u : V} (h : ∀ v ∈ us, p v) (g : p u) : ∀ v ∈ us ++ [u], p v := fun v hv => (List.mem_append.mp hv).elim (h v) fun e => by rw [List.mem_singleton.mp e]; exact g
theorem all_app {p : V → Prop} {us ws : List V} (h : ∀ v ∈ us, p v) (g : ∀ v ∈ ws, p v) : ∀ v ∈ us ++ ws, p v := fun v hv => (List.mem_append.mp hv).elim (h v) (g v)
theorem cut_mem {us : List V} {lo hi : Option Int} {v : V} (h : v ∈ cutV us lo hi) : v ∈ us := List.mem_of_mem_drop (List.mem_of_mem_take h)
theorem cut_len {us : List V} {lo hi : Option Int} : (cutV us lo hi).length ≤ us.length := Nat.le_trans (List.length_take_le' _ _) (drop_le _ _)
theorem ix_nat {n j : Nat} (h : j < n) : ixN n (j : Int) = some j := by
  unfold ixN
  rw [if_pos (Int.natCast_nonneg _), if_pos (by omega), Int.toNat_natCast]
theorem at_name {us : List V} {i : Int} (hne : us ≠ []) (h0 : 0 ≤ i) (h1 : i < max 1 (us.length : Int)) {b : Nat} (h : ∀ u ∈ us, NmV b u) : ∃ (j : Nat), i = (j : Int) ∧ j < us.length ∧ ∃ l : List Nat, atI us i = some (.str (S l)) ∧ l ≠ [] ∧ l.length ≤ b ∧ ∀ c ∈ l, c ∈ SIG := by
  have hl : 0 < us.length := List.length_pos_iff.mpr hne
  obtain ⟨j, rfl⟩ : ∃ j : Nat, i = (j : Int) := ⟨i.toNat, by omega⟩
  have hj : j < us.length := by omega
  obtain ⟨l, e, a, b, c⟩ := h us[j] (List.getElem_mem hj)
  refine ⟨j, rfl, hj, l, atI_nat ?_, a, b, c⟩
  rw [List.getElem?_eq_getElem hj, e]
theorem cutS_sub (l : List Nat) (lo hi : Option Int) : ∃ m : List Nat, cutS (S l) lo hi = S m ∧ m.length ≤ l.length ∧ ∀ c ∈ m, c ∈ l :=
  ⟨_, rfl, Nat.le_trans (List.length_take_le' _ _) (drop_le _ _), fun _ h => List.mem_of_mem_drop (List.mem_of_mem_take h)⟩
def spNames (K : PySem.W.Frag) : Sp := fun vs H Q _ => ∃ v c p ws r, vs = [v, .int c, .ref p] ∧ Dp K H v (RF.d r) ∧ RF.Ok r ∧ (∀ fs, SF.seg fs ∈ r.steps → ∀ f ∈ fs, FOk f) ∧ H p = some (.lst ws) ∧ ws.length = 4 ∧ WsOk ws ∧ (∀ v ∈ ws, SignV v) ∧
  ∀ F us H', us ≠ [] → (∀ u ∈ us, NmV 400 u) → us.length ≤ 50 → Same H H' → H' F = some (.lst us) → Q (.ref F) H'
theorem ok__law_names (T : Txt K mg) : OkD P w K mg base 2 (fA K "_law_names") ["_law_form", "_law_cell_here", "_law_signs_here"] [] (spNames K) := by
  refine okD T.F__law_names sc__law_names (fun _ _ _ _ _ _ us hl => match us, hl with | [_, _, _], _ => rfl) ?_ ?_
  · rintro vs H Q E ⟨v, c, p, ws, r, rfl, _⟩
    rfl
  · rintro cdv A outer s H vs Q E hr ⟨v, c, p, ws, r, rfl, hd, okr, okp, hs, hl, wok, hw, q⟩
    refine ⟨_, (pss_cons (ps_set (i := 3) sc__law_names.nd rfl (Or.inl rfl) (pe_mid (pe_lst pa_nil)))
  (pss_cons (ps_mid (ps_for (passes_of rfl) rfl (pi_mid (pi_range1 rfl T.fr_range (pa_cons (pe_callB (o_lenW (K := K) (w := w)) (by rfl) T.fr_len boot_len (pa_cons (pe_ix (o_ix (K := K)) (pv 0) pe_int (fun _ _ => rfl)) pa_nil)) pa_nil))) (pg_name (i := 4) sc__law_names.nd rfl (Or.inl rfl)) (pss_cons (ps_set (i := 5) sc__law_names.nd rfl (Or.inl rfl) (pe_mid (pe_ix (o_ix (K := K)) (pe_ix (o_ix (K := K)) (pv 0) pe_int (fun _ _ => rfl)) (pv 4) (fun _ _ => rfl))))
  (pss_cons (ps_set (i := 6) sc__law_names.nd rfl (Or.inl rfl) (pe_mid (pe_cal (ok__law_mixed T) (hr.mono (by decide)) rfl T.g__law_mixed (pasE (takes_of rfl rfl rfl rfl) (fun _ _ _ _ h => h)) (pa_cons (pv 1) (pa_cons (pe_op (o_add (K := K)) pe_int (pv 4)) pa_nil)))))
  (pss_one (ps_if (pt_mid (pt_cmpR (o_eq (K := K) (hu64 hr)) (pe_ix (o_ix (K := K)) (pv 5) pe_int (fun _ _ => rfl)) pe_str (nomark _))) (pss_cons (ps_set (i := 7) sc__law_names.nd rfl (Or.inl rfl) (pe_mid (pe_lst (pa_cons (pe_ix (o_ix (K := K)) (pv 2) (pe_op op_mod (pe_op op_fdivW (pv 6) pe_int) pe_int) (fun _ _ => rfl)) (pa_cons (pe_op (o_add (K := K)) (pe_ix (o_ix (K := K)) (pv 2) (pe_op op_mod (pe_op op_fdivW (pv 6) pe_int) pe_int) (fun _ _ => rfl)) (pe_ix (o_ix (K := K)) (pv 2) (pe_op op_mod (pe_op op_fdivW (pv 6) pe_int) pe_int) (fun _ _ => rfl))) pa_nil)))))
  (pss_one (ps_set (i := 3) sc__law_names.nd rfl (Or.inl rfl) (pe_mid (pe_op (o_add (K := K)) (pv 3) (pe_slice (o_sl (K := K)) (pv 7) po_none (po_some (pe_op op_mod (pv 6) pe_int)))))))) (pss_cons (ps_set (i := 8) sc__law_names.nd rfl (Or.inl rfl) (pe_mid pe_str))
  (pss_cons (ps_mid (ps_for (passes_of rfl) rfl (pi_mid (pi_range1 rfl T.fr_range (pa_cons (pe_callB (o_lenW (K := K) (w := w)) (by rfl) T.fr_len boot_len (pa_cons (pe_ix (o_ix (K := K)) (pv 5) pe_int (fun _ _ => rfl)) pa_nil)) pa_nil))) (pg_name (i := 9) sc__law_names.nd rfl (Or.inl rfl)) (pss_cons (ps_set (i := 7) sc__law_names.nd rfl (Or.inl rfl) (pe_mid (pe_cal (ok__law_filled T) (hr.mono (by decide)) rfl T.g__law_filled (pasE (takes_of rfl rfl rfl rfl) (fun _ _ _ _ h => h)) (pa_cons (pe_ix (o_ix (K := K)) (pe_ix (o_ix (K := K)) (pv 5) pe_int (fun _ _ => rfl)) (pv 9) (fun _ _ => rfl)) (pa_cons (pe_cal (ok__law_mixed T) (hr.mono (by decide)) rfl T.g__law_mixed (pasE (takes_of rfl rfl rfl rfl) (fun _ _ _ _ h => h)) (pa_cons (pv 6) (pa_cons (pv 9) pa_nil))) (pa_cons (pv 2) pa_nil))))))
  (pss_one (ps_set (i := 8) sc__law_names.nd rfl (Or.inl rfl) (pe_mid (pe_op (o_add (K := K)) (pv 8) (pv 7))))))))
  (pss_one (ps_expr (pe_bmK (K := K) PySem.F.plainAttrs_list PySem.F.slot_list_append PySem.F.type_list_append mt_append (pv 3) (pa_cons (pe_mid (pe_orK (K := K) (pv 8) (pe_one (pe_ix (o_ix (K := K)) (pv 2) pe_int (fun _ _ => rfl))))) pa_nil))))))))))))
  (pss_cons (ps_set (i := 10) sc__law_names.nd rfl (Or.inl rfl) (pe_mid (pe_op op_mod (pe_op op_fdivW (pv 1) pe_int) pe_int)))
  (pss_cons (ps_set (i := 11) sc__law_names.nd rfl (Or.inl rfl) (pe_mid (pe_op op_mod (pe_op op_fdivW (pv 1) pe_int) (pe_callB (o_max (K := K) rfl) (by rfl) T.fr_max (by decide +kernel) (pa_cons pe_int (pa_cons (pe_callB (o_lenW (K := K) (w := w)) (by rfl) T.fr_len boot_len (pa_cons (pv 3) pa_nil)) pa_nil))))))
  (pss_cons (ps_mid (ps_if (pt_mid (pt_cmpR (o_eq (K := K) (hu64 hr)) (pv 10) pe_int (nomark _))) (pss_one (ps_set (i := 3) sc__law_names.nd rfl (Or.inl rfl) (pe_mid (pe_op (o_add (K := K)) (pv 3) (pe_lst (pa_cons (pe_ix (o_ix (K := K)) (pv 2) (pe_op op_mod (pe_op op_fdivW (pv 1) pe_int) pe_int) (fun _ _ => rfl)) pa_nil)))))) pss_nil))
  (pss_cons (ps_mid (ps_if (pt_mid (pt_cmpR (o_eq (K := K) (hu64 hr)) (pv 10) pe_int (nomark _))) (pss_one (ps_set (i := 3) sc__law_names.nd rfl (Or.inl rfl) (pe_mid (pe_op (o_add (K := K)) (pe_slice (o_sl (K := K)) (pv 3) po_none (po_some (pv 11))) (pe_slice (o_sl (K := K)) (pv 3) (po_some (pe_op (o_add (K := K)) (pv 11) pe_int)) po_none))))) pss_nil))
  (pss_cons (ps_mid (ps_if (pt_mid (PW.pt (pw_and (pt_cmpR (o_eq (K := K) (hu64 hr)) (pv 10) pe_int (nomark _)) (pw_and1 (pt_cmpR (o_ne (K := K) (hu64 hr)) (pv 3) (pe_lst pa_nil) (nomark _)))))) (pss_one (ps_asg (pe_op (o_add (K := K)) (pe_ix (o_ix (K := K)) (pv 3) (pv 11) (fun _ _ => rfl)) (pe_ix (o_ix (K := K)) (pv 2) (pe_op op_mod (pe_op op_fdivW (pv 1) pe_int) pe_int) (fun _ _ => rfl))) (pg_sub (pv 3) (pv 11) set_list))) pss_nil))
  (pss_cons (ps_mid (ps_if (pt_mid (PW.pt (pw_and (pt_cmpR (o_eq (K := K) (hu64 hr)) (pv 10) pe_int (nomark _)) (pw_and1 (pt_cmpR (o_ne (K := K) (hu64 hr)) (pv 3) (pe_lst pa_nil) (nomark _)))))) (pss_one (ps_asg (pe_op (o_add (K := K)) (pe_ix (o_ix (K := K)) (pv 2) (pe_op op_mod (pe_op op_fdivW (pv 1) pe_int) pe_int) (fun _ _ => rfl)) (pe_slice (o_sl (K := K)) (pe_ix (o_ix (K := K)) (pv 3) (pv 11) (fun _ _ => rfl)) (po_some pe_int) po_none)) (pg_sub (pv 3) (pv 11) set_list))) pss_nil))
  (pss_one (ps_ret (pe_orK (K := K) (pv 3) (pe_one (pe_lst (pa_cons (pe_ix (o_ix (K := K)) (pv 2) (pe_op op_mod (pe_op op_fdivW (pv 1) pe_int) pe_int) (fun _ _ => rfl)) pa_nil)))))))))))))), ?_⟩
    have tobj := T.obj
    have hs0 := hs
    have hs : SqL K H p ws := .inl (.inl hs0)
    obtain ⟨a, t, ts, rfl, ha, ht, each⟩ := RF.inv hd
    obtain ⟨c0, hc0, e0⟩ := at4 hl hw 0
    have e0' : atI ws 0 = some (.str (S [c0])) := e0
    obtain ⟨cx, hcx, ex⟩ := at4 hl hw (c / 100)
    refine q_midG (fun v H' => ∃ F, v = .ref F ∧ NmL H F 398 [] 0 H') ?_ ?_
    · walk_at "rd"
      exact fun p hp => ⟨same_new hp, hp, upd_same, fun _ h => (nomatch h), Nat.le_refl _⟩
    rintro _ H0 ⟨F0, rfl, n0⟩
    refine q_stm (fun σ H' => ∃ F us x4 x5 x6 x7 x8 x9 x10 x11, σ = [some (.ref a), some (.int c), some (.ref p), some (.ref F), x4, x5, x6, x7, x8, x9, x10, x11] ∧ NmL H F 398 us 24 H') ?_ ?_
    · refine for_mid (J0 := Itr 0 r.steps.length) (H0 := H0) ?_ walk_range
        (fun k σ H' => ∃ F us x4 x5 x6 x7 x8 x9 x10 x11, σ = [some (.ref a), some (.int c), some (.ref p), some (.ref F), x4, x5, x6, x7, x8, x9, x10, x11] ∧ NmL H F 398 us (2 * k) H')
        ⟨F0, [], none, none, none, none, none, none, none, none, rfl, n0⟩ (fun _ _ _ _ _ => trivial) ?_ (fun σ H' h => ?_)
      · have ha1 := same_t n0.1 ha
        have ht1 := same_t n0.1 ht
        walk_at "rdx"
        refine .inr ⟨_, .inr ⟨ts, ht1, rfl⟩, ?_⟩
        have := okr.len
        rw [each.1]
        exact ⟨by omega, by omega, rfl⟩
      · rintro k x σ H1 H1' hk ⟨F, us, x4, x5, x6, x7, x8, x9, x10, x11, rfl, sm, hF0, hF, nus, lus⟩ ⟨rfl, rfl⟩
        have hfk : r.steps[k]? = some r.steps[k] := List.getElem?_eq_getElem hk
        have okk := okr.ok _ (List.getElem_mem hk)
        have okpk : ∀ fs, r.steps[k] = SF.seg fs → ∀ f ∈ fs, FOk f := fun fs e => okp fs (e ▸ List.getElem_mem hk)
        generalize r.steps[k] = sf at hfk okk okpk
        obtain ⟨u, hu, du⟩ := each.2 k sf hfk
        have ha1 := same_t sm ha
        have ht1 := same_t sm ht
        have hs1 := same_l sm hs
        have du1 := dp_mono sm _ _ du
        refine q_midG (fun v H' => v = u ∧ H' = H1') ?_ ?_
        · walk_at "rdx"
          exact ⟨ts, .inr ht1, u, atI_nat hu, rfl⟩
        rintro _ _ ⟨rfl, rfl⟩
        rename_i v H2
        refine q_mid (fun m => 0 ≤ m ∧ m < 2147483647) ?_ fun mk hmk => ?_
        · walk_at "rd"
          exact ⟨c, _, rfl, fun m h1 h2 => ⟨rfl, m, rfl, h1, h2⟩⟩
        cases sf with
        | deep =>
          obtain ⟨va, rfl, hv⟩ := SF.deep_inv du1
          refine l_if (fun b H' => b = true ∧ H' = H2) (by walk_at "rdx") (fun H5 h => ?_) (fun H1 h => nomatch h.1)
          obtain ⟨_, rfl⟩ := h
          obtain ⟨c1, hc1, e1⟩ := at4 hl hw (mk / 3)
          obtain ⟨c2, hc2, e2⟩ := at4 hl hw (mk / 12)
          obtain ⟨c3, hc3, e3⟩ := at4 hl hw (mk / 48)
          refine q_midG (fun v H' => ∃ G, v = .ref G ∧ Same H5 H' ∧ H' G = some (.lst [.str (S [c1]), .str (S [c2, c3])])) ?_ ?_
          · walk_at "rd"
            refine ⟨⟨by decide, by decide⟩, ws, .inl hs1, _, e1, ⟨by decide, by decide⟩, ws, .inl hs1, _, e2, ⟨by decide, by decide⟩, ws, .inl hs1, _, e3, ?_⟩
            show (S [c2]).length + (S [c3]).length ≤ 16777216 ∧ _
            rw [S_cat, S_len, S_len]
            exact ⟨by simp, fun p hp => ⟨same_new hp, upd_same⟩⟩
          rintro _ H6 ⟨G, rfl, s6, hG⟩
          have hF6 := s6 _ _ hF
          refine l_midG (fun v H' => ∃ F us', v = .ref F ∧ NmL H F 398 us' (2 * (k + 1)) H') ?_ ?_
          · walk_at "rd"
            refine .inl ⟨_, .inl (.inl hG), fun p1 hp1 => .inl ⟨us, (same_new hp1) _ _ hF6, _, upd_same, ?_, fun p2 hp2 => ⟨us ++ cutV [.str (S [c1]), .str (S [c2, c3])] none (some (mk % 3)), ?_⟩⟩⟩
            · have hcl := cut_len (us := [V.str (S [c1]), V.str (S [c2, c3])]) (lo := none) (hi := some (mk % 3))
              have := okr.len
              simp only [List.length_cons, List.length_nil] at hcl
              omega
            · have sx := ((sm.trans s6).trans (same_new hp1)).trans (same_new (o := .lst (us ++ cutV [.str (S [c1]), .str (S [c2, c3])] none (some (mk % 3)))) hp2)
              refine ⟨sx, same_none ((sm.trans s6).trans (same_new hp1)) hp2, upd_same, all_app nus fun v hv => ?_, ?_⟩
              · have h := cut_mem hv
                rcases List.mem_cons.mp h with rfl | h
                · exact nm_one hc1
                · rw [List.mem_singleton.mp h]; exact nm_two hc2 hc3
              · have := cut_len (us := [V.str (S [c1]), V.str (S [c2, c3])]) (lo := none) (hi := some (mk % 3))
                simp only [List.length_cons, List.length_nil] at this
                rw [List.length_append]
                omega
          · rintro _ H7 ⟨F, us', rfl, n7⟩
            exact ⟨F, us', _, _, _, _, _, _, _, _, rfl, n7⟩
        | seg fs =>
          obtain ⟨va, t1, us1, rfl, hv, ht1', each1⟩ := SF.seg_inv du1
          have okf : PartsOk fs := okk
          refine l_if (fun b H' => b = false ∧ H' = H2) (by walk_at "rdx") (fun H1 h => nomatch h.1) (fun H5 h => ?_)
          obtain ⟨_, rfl⟩ := h
          refine q_midG (fun v H' => v = .str (S []) ∧ H' = H5) (by walk_at "rd"; rfl) ?_
          rintro _ _ ⟨rfl, rfl⟩
          rename_i H6
          refine q_stm (fun σ H' => Same H6 H' ∧ ∃ l x7 x9, σ = [some (.ref a), some (.int c), some (.ref p), some (.ref F), some (.int (0 + k)), some (.ref va), some (.int mk), x7, some (.str (S l)), x9, x10, x11] ∧ l.length ≤ 120 ∧ ∀ c ∈ l, c ∈ SIG) ?_ ?_
          · refine for_mid (J0 := Itr 0 fs.length) (H0 := H6) ?_ walk_range (fun j σ H' => Same H6 H' ∧ ∃ l x7 x9, σ = [some (.ref a), some (.int c), some (.ref p), some (.ref F), some (.int (0 + k)), some (.ref va), some (.int mk), x7, some (.str (S l)), x9, x10, x11] ∧ l.length ≤ 2 * j ∧ ∀ c ∈ l, c ∈ SIG)
              ⟨Same.refl _, [], x7, x9, rfl, Nat.le_refl _, fun _ h => nomatch h⟩ (fun _ _ _ _ _ => trivial) ?_ (fun σ H' h => ?_)
            · walk_at "rdx"
              refine .inr ⟨_, .inr ⟨us1, ht1', rfl⟩, ?_⟩
              have := okf.len
              rw [each1.1]
              exact ⟨by omega, by omega, rfl⟩
            · rintro j x σ H7 H7' hj ⟨s7, l, x7, x9, rfl, ll, hlc⟩ ⟨rfl, rfl⟩
              have hfj : fs[j]? = some fs[j] := List.getElem?_eq_getElem hj
              have okj := okpk fs rfl _ (List.getElem_mem hj)
              generalize fs[j] = f at hfj okj
              obtain ⟨u, hu, du⟩ := each1.2 j f hfj
              have hv7 := same_t s7 hv
              have ht7 := same_t s7 ht1'
              have hs7 := same_l s7 hs1
              have := okf.len
              refine q_midG (fun v H' => Same H7' H' ∧ ∃ m : List Nat, v = .str (S m) ∧ m.length ≤ 2 ∧ ∀ c ∈ m, c ∈ SIG) ?_ ?_
              · walk_at "rdx"
                refine ⟨us1, .inr ht7, u, atI_nat hu, mk, _, rfl, fun m _ _ => ⟨u, m, p, ws, f, rfl, dp_mono s7 _ _ du, okj, s7 _ _ (sm _ _ hs0), hl, wok, hw, fun l2 H8 ll2 lc2 s8 => ?_⟩⟩
                exact ⟨s8, l2, rfl, ll2, lc2⟩
              rintro _ H8 ⟨s8, m, rfl, lm, hm⟩
              refine l_midG (fun v H' => H' = H8 ∧ v = .str (S (l ++ m))) ?_ ?_
              · walk_at "rd"
                show (S l).length + (S m).length ≤ 16777216 ∧ _
                rw [S_cat, S_len, S_len]
                exact ⟨by omega, rfl⟩
              · rintro _ _ ⟨rfl, rfl⟩
                refine ⟨s7.trans s8, l ++ m, _, _, rfl, by rw [List.length_append]; omega, fun c hc => (List.mem_append.mp hc).elim (hlc c) (hm c)⟩
            · obtain ⟨s7, l, x7, x9, e, h1, h2⟩ := h
              have := okf.len
              exact ⟨s7, l, x7, x9, e, by omega, h2⟩
          · rintro σ H7 ⟨s7, l, x7, x9, rfl, ll, hlc⟩
            have hF7 := s7 _ _ hF
            have hs7 := same_l s7 hs1
            refine l_app rfl hF7 ?_
            walk_at "rd"
            have := okr.len
            refine ⟨_, ⟨by rw [S_len]; omega, rfl⟩, ite2 (fun hne => ?_) fun _ => ?_⟩
            · exact ⟨us, hF7, by omega, us ++ [.str (S l)], same_mut (sm.trans s7) hF0, hF0, upd_same, all_snoc nus ⟨l, rfl, fun e => by rw [e] at hne; simp [S_len] at hne, by omega, hlc⟩, by rw [List.length_append, List.length_singleton]; omega⟩
            · exact ⟨ws, .inl hs7, _, e0', us, hF7, by omega, _, same_mut (sm.trans s7) hF0, hF0, upd_same, all_snoc nus (nm_one hc0), by rw [List.length_append, List.length_singleton]; omega⟩
      · obtain ⟨F, us, x4, x5, x6, x7, x8, x9, x10, x11, e, h1, h2, h3, h4, h5⟩ := h
        have := okr.len
        exact ⟨F, us, x4, x5, x6, x7, x8, x9, x10, x11, e, h1, h2, h3, h4, by omega⟩
    rintro σ H1 ⟨F, us, x4, x5, x6, x7, x8, x9, x10, x11, rfl, n1⟩
    refine q_mid (fun _ => True) (by walk_at "rd"; exact ⟨by decide, by decide⟩) fun way _ => ?_
    refine q_mid (fun i => 0 ≤ i ∧ i < max 1 (us.length : Int)) ?_ fun at' hat => ?_
    · have h3 := n1.2.2.1
      walk_at "rd"
      refine ⟨⟨by decide, by decide⟩, .inr ⟨_, .inl ⟨us, .inl (.inl h3), rfl⟩, ?_⟩⟩
      have e : (if (us.length : Int) > 1 then (us.length : Int) else 1) = max 1 (us.length : Int) := by split <;> omega
      rw [e]
      exact ⟨by omega, Int.emod_nonneg _ (by omega), Int.emod_lt_of_pos _ (by omega)⟩
    refine q_stm (fun σ H' => ∃ F us, σ = [some (.ref a), some (.int c), some (.ref p), some (.ref F), x4, x5, x6, x7, x8, x9, some (.int way), some (.int at')] ∧ NmL H F 398 us 25 H' ∧ (way ≠ 0 → at' < max 1 (us.length : Int))) ?_ ?_
    · refine l_if (fun b H' => H' = H1 ∧ (b = true → way = 0)) (by walk_at "rd"; exact id) (fun H2 h => ?_) (fun H2 h => ?_)
      · obtain ⟨rfl, hw0⟩ := h
        refine l_midG (fun v H' => ∃ F us', v = .ref F ∧ NmL H F 398 us' 25 H') ?_ ?_
        · have h3 := n1.2.2.1
          have hs1 := same_l n1.1 hs
          walk_at "rd"
          have hl24 := n1.2.2.2.2
          refine ⟨⟨by decide, by decide⟩, ws, .inl hs1, _, ex, fun p1 hp1 => .inl ⟨us, (same_new hp1) _ _ h3, _, upd_same, ?_, fun p2 hp2 => ⟨us ++ [.str (S [cx])], ?_⟩⟩⟩
          · rw [List.length_singleton]; omega
          · exact ⟨(n1.1.trans (same_new hp1)).trans (same_new hp2), same_none (n1.1.trans (same_new hp1)) hp2, upd_same, all_snoc n1.2.2.2.1 (nm_one hcx), by rw [List.length_append, List.length_singleton]; omega⟩
        · rintro _ H3 ⟨F, us', rfl, n3⟩
          exact ⟨F, us', rfl, n3, fun h => absurd (hw0 rfl) h⟩
      · obtain ⟨rfl, _⟩ := h
        exact ⟨F, us, rfl, ⟨n1.1, n1.2.1, n1.2.2.1, n1.2.2.2.1, by have := n1.2.2.2.2; omega⟩, fun _ => hat.2⟩
    rintro σ H2 ⟨F, us, rfl, n2, hlt⟩
    refine q_stm (fun σ H' => ∃ F us, σ = [some (.ref a), some (.int c), some (.ref p), some (.ref F), x4, x5, x6, x7, x8, x9, some (.int way), some (.int at')] ∧ NmL H F 398 us 50 H' ∧ ((way = 2 ∨ way = 3) → at' < max 1 (us.length : Int))) ?_ ?_
    · refine l_if (fun b H' => H' = H2 ∧ (b = true → way = 1)) (by walk_at "rd"; exact id) (fun H3 h => ?_) (fun H3 h => ?_)
      · obtain ⟨rfl, hw0⟩ := h
        have hw1 := hw0 rfl
        refine l_midG (fun v H' => ∃ F us', v = .ref F ∧ NmL H F 398 us' 50 H') ?_ ?_
        · have h3 := n2.2.2.1
          walk_at "rd"
          have hl25 := n2.2.2.2.2
          have l1 := cut_len (us := us) (lo := none) (hi := some at')
          have l2 := cut_len (us := us) (lo := some (at' + 1)) (hi := none)
          refine .inl ⟨us, .inl (.inl h3), fun p1 hp1 => .inl ⟨us, .inl (.inl ((same_new hp1) _ _ h3)), fun p2 hp2 => .inl ⟨_, (same_new hp2) _ _ upd_same, _, upd_same, by omega, fun p3 hp3 => ⟨cutV us none (some at') ++ cutV us (some (at' + 1)) none, ?_⟩⟩⟩⟩
          have sx := (n2.1.trans (same_new hp1)).trans (same_new (o := .lst (cutV us (some (at' + 1)) none)) hp2)
          exact ⟨sx.trans (same_new hp3), same_none sx hp3, upd_same, all_app (fun v h => n2.2.2.2.1 v (cut_mem h)) (fun v h => n2.2.2.2.1 v (cut_mem h)), by rw [List.length_append]; omega⟩
        · rintro _ H4 ⟨F, us', rfl, n4⟩
          exact ⟨F, us', rfl, n4, fun h => by omega⟩
      · obtain ⟨rfl, _⟩ := h
        exact ⟨F, us, rfl, ⟨n2.1, n2.2.1, n2.2.2.1, n2.2.2.2.1, by have := n2.2.2.2.2; omega⟩, fun h => hlt (by omega)⟩
    rintro σ H3 ⟨F, us, rfl, n3, hlt⟩
    refine q_stm (fun σ H' => ∃ us, σ = [some (.ref a), some (.int c), some (.ref p), some (.ref F), x4, x5, x6, x7, x8, x9, some (.int way), some (.int at')] ∧ NmL H F 399 us 50 H' ∧ ((way = 2 ∨ way = 3) → at' < max 1 (us.length : Int))) ?_ ?_
    · refine l_if (fun b H' => Same H3 H' ∧ (b = true → way = 2 ∧ us ≠ [])) ?_ (fun H4 h => ?_) (fun H4 h => ?_)
      · have h3 := n3.2.2.1
        walk_at "rd"
        refine ite2 (fun hw2 p hp => ?_) fun _ h => h.elim
        have sp := same_new (o := .lst []) hp
        exact ne_nil (.inl (.inl (sp _ _ h3))) (.inl (.inl upd_same)) ⟨_, rfl, sp, fun h => ⟨hw2, by simpa using h⟩⟩
      · obtain ⟨s4, hw0⟩ := h
        obtain ⟨hw2, hne⟩ := hw0 rfl
        have h4 := s4 _ _ n3.2.2.1
        have hs4 := same_l (n3.1.trans s4) hs
        walk_at "rd"
        obtain ⟨j, hj, hj2, l, ej, l1, l2, l3⟩ := at_name hne hat.1 (hlt (.inl hw2)) n3.2.2.2.1
        refine ⟨us, .inl (.inl (.inl h4)), _, ej, ⟨by decide, by decide⟩, ws, .inl hs4, _, ex, ?_⟩
        show (S l).length + (S [cx]).length ≤ 16777216 ∧ _
        rw [S_cat, S_len, S_len]
        refine ⟨by rw [List.length_singleton]; omega, ?_⟩
        subst hj
        refine ⟨us, h4, j, ix_nat hj2, us.set j (.str (S (l ++ [cx]))), ⟨same_mut (n3.1.trans s4) n3.2.1, n3.2.1, upd_same, fun u hu => ?_, by rw [List.length_set]; exact n3.2.2.2.2⟩, fun h => by rw [List.length_set]; exact hlt h⟩
        rcases List.mem_or_eq_of_mem_set hu with h | rfl
        · exact (n3.2.2.2.1 u h).up (by decide)
        · refine ⟨l ++ [cx], rfl, by simp, ?_, fun d hd => (List.mem_append.mp hd).elim (l3 d) fun e => by rw [List.mem_singleton.mp e]; exact hcx⟩
          rw [List.length_append, List.length_singleton]
          omega
      · obtain ⟨s4, _⟩ := h
        exact ⟨us, rfl, ⟨n3.1.trans s4, n3.2.1, s4 _ _ n3.2.2.1, fun u hu => (n3.2.2.2.1 u hu).up (by decide), n3.2.2.2.2⟩, hlt⟩
    rintro σ H4 ⟨us, rfl, n4, hlt⟩
    refine q_stm (fun σ H' => ∃ us, σ = [some (.ref a), some (.int c), some (.ref p), some (.ref F), x4, x5, x6, x7, x8, x9, some (.int way), some (.int at')] ∧ NmL H F 400 us 50 H') ?_ ?_
    · refine l_if (fun b H' => Same H4 H' ∧ (b = true → way = 3 ∧ us ≠ [])) ?_ (fun H5 h => ?_) (fun H5 h => ?_)
      · have h3 := n4.2.2.1
        walk_at "rd"
        refine ite2 (fun hw2 p hp => ?_) fun _ h => h.elim
        have sp := same_new (o := .lst []) hp
        exact ne_nil (.inl (.inl (sp _ _ h3))) (.inl (.inl upd_same)) ⟨_, rfl, sp, fun h => ⟨hw2, by simpa using h⟩⟩
      · obtain ⟨s5, hw0⟩ := h
        obtain ⟨hw3, hne⟩ := hw0 rfl
        have h4 := s5 _ _ n4.2.2.1
        have hs5 := same_l (n4.1.trans s5) hs
        walk_at "rd"
        obtain ⟨j, hj, hj2, l, ej, l1, l2, l3⟩ := at_name hne hat.1 (hlt (.inr hw3)) n4.2.2.2.1
        refine ⟨⟨by decide, by decide⟩, ws, .inl hs5, _, ex, us, .inl (.inl (.inl h4)), _, ej, by rw [S_len]; omega, ?_⟩
        obtain ⟨m, em, lm, hm⟩ := cutS_sub l (some 1) none
        rw [em]
        show (S [cx]).length + (S m).length ≤ 16777216 ∧ _
        rw [S_cat, S_len, S_len]
        refine ⟨by rw [List.length_singleton]; omega, ?_⟩
        subst hj
        refine ⟨us, h4, j, ix_nat hj2, us.set j (.str (S ([cx] ++ m))), ⟨same_mut (n4.1.trans s5) n4.2.1, n4.2.1, upd_same, fun u hu => ?_, by rw [List.length_set]; exact n4.2.2.2.2⟩⟩
        rcases List.mem_or_eq_of_mem_set hu with h | rfl
        · exact (n4.2.2.2.1 u h).up (by decide)
        · refine ⟨[cx] ++ m, rfl, by simp, ?_, fun d hd => (List.mem_append.mp hd).elim (fun e => by rw [List.mem_singleton.mp e]; exact hcx) fun h => l3 d (hm d h)⟩
          rw [List.length_append, List.length_singleton]
          omega
      · obtain ⟨s5, _⟩ := h
        exact ⟨us, rfl, n4.1.trans s5, n4.2.1, s5 _ _ n4.2.2.1, fun u hu => (n4.2.2.2.1 u hu).up (by decide), n4.2.2.2.2⟩
    rintro σ H5 ⟨us, rfl, n5⟩
    have h5 := n5.2.2.1
    have hs5 := same_l n5.1 hs
    walk_at "rd"
    have hl50 := n5.2.2.2.2
    refine ⟨_, .inl ⟨us, .inl (.inl h5), rfl⟩, ite2 (fun h => ?_) fun h => ?_⟩
    · exact q F us H5 (fun e => by rw [e] at h; simp at h) n5.2.2.2.1 hl50 n5.1 h5
    · exact ⟨⟨by decide, by decide⟩, ws, .inl hs5, _, ex, fun p1 hp1 => q p1 [.str (S [cx])] _ (by simp) (fun u hu => by rw [List.mem_singleton.mp hu]; exact nm_one hcx) (by simp) (n5.1.trans (same_new hp1)) upd_same⟩

/-! ### the law's own fitting of a name, from its end on -/
/-- p of each end of a list -/
def ends {β : Type} (p : List β → Bool) : List β → List Bool
  | [] => [p []]
  | c :: w => p (c :: w) :: ends p w
def fitB : List PF → List Nat → Bool
  | [], w => w.isEmpty
  | f :: fs, w => if f.many = true then (ends (fitB fs) w).any id else match w with
    | [] => false
    | c :: v => f.fits c && fitB fs v
theorem ends_any {β : Type} {p : List β → Bool} : ∀ {w : List β}, (ends p w).any id = true ↔ ∃ u v, w = u ++ v ∧ p v = true
  | [] => by
    constructor
    · intro h
      exact ⟨[], [], rfl, by simpa [ends] using h⟩
    · rintro ⟨u, v, e, h⟩
      obtain ⟨_, rfl⟩ := List.append_eq_nil_iff.mp e.symm
      simpa [ends] using h
  | c :: w => by
    have ih := ends_any (p := p) (w := w)
    show (p (c :: w) || (ends p w).any id) = true ↔ _
    rw [Bool.or_eq_true, ih]
    constructor
    · rintro (h | ⟨u, v, rfl, h⟩)
      · exact ⟨[], c :: w, rfl, h⟩
      · exact ⟨c :: u, v, rfl, h⟩
    · rintro ⟨u, v, e, h⟩
      cases u with
      | nil => exact .inl (by rw [e]; exact h)
      | cons d u =>
        injection e with e1 e2
        exact .inr ⟨u, v, e2, h⟩
theorem fitB_star {f : PF} {fs : List PF} {w : List Nat} (h : f.many = true) : fitB (f :: fs) w = (ends (fitB fs) w).any id := by
  show (if f.many = true then _ else _) = _
  rw [if_pos h]
theorem fitB_cons {f : PF} {fs : List PF} {c : Nat} {v : List Nat} (h : f.many = false) : fitB (f :: fs) (c :: v) = (f.fits c && fitB fs v) := by
  show (if f.many = true then _ else _) = _
  rw [if_neg (by rw [h]; exact Bool.false_ne_true)]
theorem fitB_nil {f : PF} {fs : List PF} (h : f.many = false) : fitB (f :: fs) [] = false := by
  show (if f.many = true then _ else _) = _
  rw [if_neg (by rw [h]; exact Bool.false_ne_true)]
theorem fitB_iff : ∀ {fs : List PF} {w : List Nat}, fitB fs w = true ↔ Fit fs w
  | [], w => by
    show w.isEmpty = true ↔ w = []
    exact List.isEmpty_iff
  | f :: fs, w => by
    cases h : f.many with
    | true =>
      rw [fit_star h, fitB_star h, ends_any]
      exact exists_congr fun u => exists_congr fun v => and_congr_right fun _ => fitB_iff
    | false =>
      rw [fit_one h]
      cases w with
      | nil =>
        rw [fitB_nil h]
        exact ⟨fun h => absurd h Bool.false_ne_true, fun ⟨_, _, e, _⟩ => nomatch e⟩
      | cons c v =>
        rw [fitB_cons h, Bool.and_eq_true, fitB_iff]
        constructor
        · rintro ⟨h1, h2⟩
          exact ⟨c, v, rfl, h1, h2⟩
        · rintro ⟨c', v', e, h1, h2⟩
          injection e with e1 e2
          subst e1 e2
          exact ⟨h1, h2⟩
/-! ### things laid along a row of other things -/
section
variable {α β : Type} {m : α → Bool} {ft : α → β → Bool}
/-- the parts laid along the name -/
def FitG (m : α → Bool) (ft : α → β → Bool) : List α → List β → Prop
  | [], w => w = []
  | f :: fs, w => if m f = true then ∃ u v, w = u ++ v ∧ FitG m ft fs v else ∃ c v, w = c :: v ∧ ft f c = true ∧ FitG m ft fs v
theorem fitG_star {f : α} {fs : List α} {w : List β} (h : m f = true) : FitG m ft (f :: fs) w ↔ ∃ u v, w = u ++ v ∧ FitG m ft fs v := by
  show (if m f = true then _ else _) ↔ _
  rw [if_pos h]
theorem fitG_one {f : α} {fs : List α} {w : List β} (h : m f = false) : FitG m ft (f :: fs) w ↔ ∃ c v, w = c :: v ∧ ft f c = true ∧ FitG m ft fs v := by
  show (if m f = true then _ else _) ↔ _
  rw [if_neg (by rw [h]; exact Bool.false_ne_true)]
theorem fitG_app : ∀ (fs gs : List α) (w : List β), FitG m ft (fs ++ gs) w ↔ ∃ u v, w = u ++ v ∧ FitG m ft fs u ∧ FitG m ft gs v
  | [], gs, w => ⟨fun h => ⟨[], w, rfl, rfl, h⟩, fun ⟨u, v, e, h1, h2⟩ => by
    cases (show u = [] from h1)
    rw [e]
    exact h2⟩
  | f :: fs, gs, w => by
    rw [List.cons_append]
    cases h : m f with
    | true =>
      rw [fitG_star h]
      constructor
      · rintro ⟨u, v, rfl, hv⟩
        obtain ⟨a, b, rfl, ha, hb⟩ := (fitG_app fs gs v).mp hv
        exact ⟨u ++ a, b, by rw [List.append_assoc], (fitG_star h).mpr ⟨u, a, rfl, ha⟩, hb⟩
      · rintro ⟨a, b, rfl, ha, hb⟩
        obtain ⟨u, v, rfl, hv⟩ := (fitG_star h).mp ha
        exact ⟨u, v ++ b, by rw [List.append_assoc], (fitG_app fs gs _).mpr ⟨v, b, rfl, hv, hb⟩⟩
    | false =>
      rw [fitG_one h]
      constructor
      · rintro ⟨c, v, rfl, hc, hv⟩
        obtain ⟨a, b, rfl, ha, hb⟩ := (fitG_app fs gs v).mp hv
        exact ⟨c :: a, b, rfl, (fitG_one h).mpr ⟨c, a, rfl, hc, ha⟩, hb⟩
      · rintro ⟨a, b, rfl, ha, hb⟩
        obtain ⟨c, v, rfl, hc, hv⟩ := (fitG_one h).mp ha
        exact ⟨c, v ++ b, rfl, hc, (fitG_app fs gs _).mpr ⟨v, b, rfl, hv, hb⟩⟩
def starG (m : α → Bool) (fs : List α) (j : Nat) : Bool := match fs[j]? with
  | some f => m f
  | none => false
theorem starG_lt {fs : List α} {j : Nat} (h : starG m fs j = true) : j < fs.length := by
  unfold starG at h
  rcases Nat.lt_or_ge j fs.length with e | e
  · exact e
  · rw [List.getElem?_eq_none e] at h
    cases h
theorem starG_eq {fs : List α} {j : Nat} {f : α} (h : fs[j]? = some f) : starG m fs j = m f := by
  unfold starG
  rw [h]
theorem takeG_succ {fs : List α} {j : Nat} {f : α} (h : fs[j]? = some f) : fs.take (j + 1) = fs.take j ++ [f] := by
  rw [List.take_succ, h]
  rfl
theorem fitG_take_star {fs : List α} {j : Nat} {w : List β} (h : starG m fs j = true) : FitG m ft (fs.take (j + 1)) w ↔ ∃ u v, w = u ++ v ∧ FitG m ft (fs.take j) u := by
  have hl := starG_lt h
  have hf : fs[j]? = some fs[j] := List.getElem?_eq_getElem hl
  rw [starG_eq hf] at h
  rw [takeG_succ hf, fitG_app]
  constructor
  · rintro ⟨u, v, e, h1, _⟩
    exact ⟨u, v, e, h1⟩
  · rintro ⟨u, v, e, h1⟩
    exact ⟨u, v, e, h1, (fitG_star h).mpr ⟨v, [], by rw [List.append_nil], rfl⟩⟩
theorem fitG_take_one {fs : List α} {j : Nat} {w : List β} {f : α} (hf : fs[j]? = some f) (h : m f = false) : FitG m ft (fs.take (j + 1)) w ↔ ∃ u c, w = u ++ [c] ∧ FitG m ft (fs.take j) u ∧ ft f c = true := by
  rw [takeG_succ hf, fitG_app]
  constructor
  · rintro ⟨u, v, rfl, h1, h2⟩
    obtain ⟨c, v', rfl, hc, hv⟩ := (fitG_one h).mp h2
    cases (show v' = [] from hv)
    exact ⟨u, c, rfl, h1, hc⟩
  · rintro ⟨u, c, rfl, h1, hc⟩
    exact ⟨u, [c], rfl, h1, (fitG_one h).mpr ⟨c, [], rfl, hc, rfl⟩⟩
/-- from s on by stars alone -/
def ClosG (m : α → Bool) (fs : List α) (s i : Nat) : Prop := s ≤ i ∧ ∀ k, s ≤ k → k < i → starG m fs k = true
theorem ClosG.refl {fs : List α} {s : Nat} : ClosG m fs s s := ⟨Nat.le_refl _, fun k a b => absurd b (by omega)⟩
theorem ClosG.trans {fs : List α} {a b c : Nat} (h : ClosG m fs a b) (g : ClosG m fs b c) : ClosG m fs a c := ⟨Nat.le_trans h.1 g.1, fun k h1 h2 => by
  rcases Nat.lt_or_ge k b with e | e
  · exact h.2 k h1 e
  · exact g.2 k e h2⟩
theorem ClosG.snoc {fs : List α} {a b : Nat} (h : ClosG m fs a b) (g : starG m fs b = true) : ClosG m fs a (b + 1) := h.trans ⟨Nat.le_succ _, fun k h1 h2 => by
  have e : k = b := by omega
  rw [e]
  exact g⟩
theorem ClosG.le {fs : List α} {s i n : Nat} (h : ClosG m fs s i) (hs : s ≤ fs.length) : i ≤ fs.length := by
  rcases Nat.eq_or_lt_of_le h.1 with e | e
  · omega
  · have := starG_lt (h.2 (i - 1) (by omega) (by omega))
    omega
/-- spot i behind the signs w -/
def AtG (m : α → Bool) (ft : α → β → Bool) (fs : List α) (w : List β) (i : Nat) : Prop := i ≤ fs.length ∧ (FitG m ft (fs.take i) w ∨ starG m fs i = true ∧ FitG m ft (fs.take (i + 1)) w)
theorem fitG_more {fs : List α} {i : Nat} {w : List β} (h : starG m fs i = true) (g : FitG m ft (fs.take i) w) : FitG m ft (fs.take (i + 1)) w := (fitG_take_star h).mpr ⟨w, [], by rw [List.append_nil], g⟩
theorem atG_clos {fs : List α} {w : List β} {s : Nat} (hs : s ≤ fs.length) (h : FitG m ft (fs.take s) w) : ∀ i, ClosG m fs s i → FitG m ft (fs.take i) w := by
  intro i hc
  obtain ⟨h1, h2⟩ := hc
  induction i with
  | zero =>
    have e : s = 0 := by omega
    rw [← e]
    exact h
  | succ i ih =>
    rcases Nat.eq_or_lt_of_le h1 with e | e
    · rw [← e]; exact h
    · exact fitG_more (h2 i (by omega) (by omega)) (ih (by omega) fun k a b => h2 k a (by omega))
theorem atG_nil {fs : List α} {i : Nat} : AtG m ft fs [] i ↔ ClosG m fs 0 i := by
  have key : ∀ j, FitG m ft (fs.take j) [] → j ≤ fs.length → ClosG m fs 0 j := by
    intro j
    induction j with
    | zero => exact fun _ _ => ClosG.refl
    | succ j ih =>
      intro h hl
      have hf : fs[j]? = some fs[j] := List.getElem?_eq_getElem hl
      cases hm : m fs[j] with
      | true =>
        have hst : starG m fs j = true := by rw [starG_eq hf]; exact hm
        obtain ⟨u, v, e, hu⟩ := (fitG_take_star hst).mp h
        have e2 := List.append_eq_nil_iff.mp e.symm
        rw [e2.1] at hu
        exact (ih hu (by omega)).snoc hst
      | false =>
        obtain ⟨u, c, e, _⟩ := (fitG_take_one hf hm).mp h
        exact absurd e.symm (by simp)
  constructor
  · rintro ⟨hl, h | ⟨hs, h⟩⟩
    · exact key i h hl
    · have hlt := starG_lt hs
      have := key (i + 1) h (by omega)
      exact ⟨Nat.zero_le _, fun k a b => this.2 k a (by omega)⟩
  · intro h
    exact ⟨h.le (n := 0) (Nat.zero_le _), .inl (atG_clos (Nat.zero_le _) (by simp [FitG]) i h)⟩
/-- one sign on -/
theorem atG_snoc {fs : List α} {w : List β} {c : β} {i : Nat} (hmf : ∀ f c, m f = true → ft f c = true) : AtG m ft fs (w ++ [c]) i ↔ ∃ s f, AtG m ft fs w s ∧ fs[s]? = some f ∧ ft f c = true ∧ ClosG m fs (if m f = true then s else s + 1) i := by
  have key : ∀ j, j ≤ fs.length → FitG m ft (fs.take j) (w ++ [c]) → ∃ s f, AtG m ft fs w s ∧ fs[s]? = some f ∧ ft f c = true ∧ ClosG m fs (if m f = true then s else s + 1) j := by
    intro j
    induction j with
    | zero => exact fun _ h => absurd (show w ++ [c] = [] from by simpa [FitG] using h) (by simp)
    | succ j ih =>
      intro hl h
      have hf : fs[j]? = some fs[j] := List.getElem?_eq_getElem hl
      cases hm : m fs[j] with
      | true =>
        have hst : starG m fs j = true := by rw [starG_eq hf]; exact hm
        obtain ⟨u, v, e, hu⟩ := (fitG_take_star hst).mp h
        rcases List.eq_nil_or_concat v with rfl | ⟨v', d, rfl⟩
        · rw [List.append_nil] at e
          rw [← e] at hu
          obtain ⟨s, f, a1, a2, a3, a4⟩ := ih (by omega) hu
          exact ⟨s, f, a1, a2, a3, a4.snoc hst⟩
        · rw [List.concat_eq_append, ← List.append_assoc] at e
          obtain ⟨e1, e2⟩ := List.append_inj' e rfl
          refine ⟨j, fs[j], ⟨by omega, .inr ⟨hst, (fitG_take_star hst).mpr ⟨u, v', e1, hu⟩⟩⟩, hf, ?_, ?_⟩
          · exact hmf _ _ hm
          · rw [if_pos hm]
            exact ClosG.refl.snoc hst
      | false =>
        obtain ⟨u, d, e, hu, hd⟩ := (fitG_take_one hf hm).mp h
        obtain ⟨e1, e2⟩ := List.append_inj' e rfl
        injection e2 with e3
        subst e1 e3
        exact ⟨j, fs[j], ⟨by omega, .inl hu⟩, hf, hd, by rw [if_neg (by rw [hm]; exact Bool.false_ne_true)]; exact ClosG.refl⟩
  constructor
  · rintro ⟨hl, h | ⟨hs, h⟩⟩
    · exact key i hl h
    · have hlt := starG_lt hs
      obtain ⟨u, v, e, hu⟩ := (fitG_take_star hs).mp h
      have hf : fs[i]? = some fs[i] := List.getElem?_eq_getElem hlt
      have hm : m fs[i] = true := by rw [← starG_eq (m := m) hf]; exact hs
      rcases List.eq_nil_or_concat v with rfl | ⟨v', d, rfl⟩
      · rw [List.append_nil] at e
        rw [← e] at hu
        exact key i hl hu
      · rw [List.concat_eq_append, ← List.append_assoc] at e
        obtain ⟨e1, e2⟩ := List.append_inj' e rfl
        refine ⟨i, fs[i], ⟨hl, .inr ⟨hs, (fitG_take_star hs).mpr ⟨u, v', e1, hu⟩⟩⟩, hf, ?_, ?_⟩
        · exact hmf _ _ hm
        · rw [if_pos hm]
          exact ClosG.refl
  · rintro ⟨s, f, ⟨hl, ha⟩, hf, hc, hcl⟩
    have hlt : s < fs.length := (List.getElem?_eq_some_iff.mp hf).1
    cases hm : m f with
    | true =>
      rw [if_pos hm] at hcl
      have hst : starG m fs s = true := by rw [starG_eq hf]; exact hm
      have h1 : FitG m ft (fs.take (s + 1)) (w ++ [c]) := by
        rcases ha with h | ⟨_, h⟩
        · exact (fitG_take_star hst).mpr ⟨w, [c], rfl, h⟩
        · obtain ⟨u, v, rfl, hu⟩ := (fitG_take_star hst).mp h
          exact (fitG_take_star hst).mpr ⟨u, v ++ [c], by rw [List.append_assoc], hu⟩
      rcases Nat.eq_or_lt_of_le hcl.1 with e | e
      · rw [← e]
        exact ⟨hl, .inr ⟨hst, h1⟩⟩
      · have h2 := atG_clos hlt h1 i ⟨e, fun k a b => hcl.2 k (by omega) b⟩
        exact ⟨hcl.le (n := 0) hl, .inl h2⟩
    | false =>
      rw [if_neg (by rw [hm]; exact Bool.false_ne_true)] at hcl
      have h0 : FitG m ft (fs.take s) w := by
        rcases ha with h | ⟨h, _⟩
        · exact h
        · rw [starG_eq hf, hm] at h
          cases h
      have h1 : FitG m ft (fs.take (s + 1)) (w ++ [c]) := (fitG_take_one hf hm).mpr ⟨w, c, rfl, h0, hc⟩
      exact ⟨hcl.le (n := 0) hlt, .inl (atG_clos hlt h1 i hcl)⟩
theorem atG_end {fs : List α} {w : List β} : AtG m ft fs w fs.length ↔ FitG m ft fs w := by
  unfold AtG
  rw [List.take_length]
  constructor
  · rintro ⟨_, h | ⟨h, _⟩⟩
    · exact h
    · exact absurd (starG_lt h) (Nat.lt_irrefl _)
  · exact fun h => ⟨Nat.le_refl _, .inl h⟩
end
/-- from where on something good comes -/
def behind : List Bool → List Bool
  | [] => []
  | b :: r => (b || r.any id) :: behind r
/-! ### places -/
/-! ### a row fits names -/
def SF.fitB (s : SF) (nm : List Nat) : Bool := match s with
  | .deep => true
  | .seg fs => SL.fitB fs nm
theorem SF.deep_fits (s : SF) (nm : List Nat) (h : s.deepB = true) : s.fitB nm = true := by
  cases s with
  | deep => rfl
  | seg fs => cases h
abbrev RFit (ss : List SF) (nms : List (List Nat)) : Prop := FitG SF.deepB SF.fitB ss nms
def nmsV (nms : List (List Nat)) : List V := (nms.map S).map V.str
theorem nms_len {nms : List (List Nat)} : (nmsV nms).length = nms.length := by unfold nmsV; rw [List.length_map, List.length_map]
structure RowSz (r : RF) : Prop where
  len : r.steps.length ≤ 1000
  parts : ∀ fs, SF.seg fs ∈ r.steps → fs.length ≤ 1000
/-! ### the law's own fitting of a name -/
/-! ### names that parts fit, or nearly fit -/
/-! ### the law's own fitting -/
/-! ### rows near the bounds -/
/-! ### lists of rows -/
theorem RF.tup (r : RF) : tupB r.d = true := by simp [RF.d, tupB, tupBs, tupBs_map SF.d SF.tup r.steps]
abbrev RowsE (K : PySem.W.Frag) (rs : List RF) (us : List V) (H : Hp) : Prop := Each (fun f u H => Dp K H u (RF.d f)) rs us H
def RowsL (K : PySem.W.Frag) (rs : List RF) (F : Addr) (H : Hp) : Prop := ∃ us, H F = some (.lst us) ∧ RowsE K rs us H ∧ ∀ r ∈ rs, r.Ok ∧ r.Low
theorem RowsL.mono {rs : List RF} {F : Addr} {H H' : Hp} (h : RowsL K rs F H) (s : Same H H') : RowsL K rs F H' := let ⟨us, a, b, c⟩ := h; ⟨us, s _ _ a, b.imp fun _ _ d => dp_mono s _ _ d, c⟩
/-! ### the last row that fits -/
/-! ### long rows -/
theorem notwo_of : ∀ {fs : List PF}, (∀ f ∈ fs, f.many = false) → NoTwo fs
  | [], _ => trivial
  | [_], _ => trivial
  | f :: g :: r, h => ⟨fun ⟨h1, _⟩ => (by rw [h f List.mem_cons_self] at h1; cases h1), notwo_of (fs := g :: r) fun x hx => h x (List.mem_cons_of_mem _ hx)⟩
theorem Each.take {α : Type} {R : α → V → Hp → Prop} {fs : List α} {us : List V} {H : Hp} (h : Each R fs us H) (k : Nat) : Each R (fs.take k) (us.take k) H :=
  ⟨by rw [List.length_take, List.length_take, h.1], fun i f hf => by
    rw [List.getElem?_take] at hf
    split at hf
    · obtain ⟨u, e, g⟩ := h.2 i f hf
      exact ⟨u, by rw [List.getElem?_take, if_pos (by assumption)]; exact e, g⟩
    · cases hf⟩
/-! ### names as texts -/
theorem names_list : ∀ {us : List V}, (∀ u ∈ us, NmV 400 u) → ∃ nms : List (List Nat), us = nmsV nms ∧ ∀ nm ∈ nms, nm ≠ [] ∧ nm.length ≤ 400 ∧ ∀ c ∈ nm, c ∈ SIG
  | [], _ => ⟨[], rfl, fun _ h => nomatch h⟩
  | u :: r, h => by
    obtain ⟨l, rfl, h1, h2, h3⟩ := h u List.mem_cons_self
    obtain ⟨nms, rfl, hs⟩ := names_list (us := r) fun v hv => h v (List.mem_cons_of_mem _ hv)
    exact ⟨l :: nms, rfl, fun nm hnm => (List.mem_cons.mp hnm).elim (fun e => e ▸ ⟨h1, h2, h3⟩) (hs nm)⟩
/-! ### the numbers of the rows that fit -/
/-! ### split, startswith, endswith -/
section
variable {X : Cx}
end
/-! ### the names of a path -/
/-! ### names_of -/
/-! ### a path, sign by sign (plain) -/
/-! ### going down -/
def RowsO (K : PySem.W.Frag) (rs : List RF) (l : Addr) (H : Hp) : Prop := ∃ us, SqL K H l us ∧ Each (RowV K) rs us H ∧ (∀ r ∈ rs, RowSz r) ∧ rs.length ≤ 1000
theorem RowsO.mono {rs : List RF} {l : Addr} {H H' : Hp} (h : RowsO K rs l H) (s : Same H H') : RowsO K rs l H' := let ⟨us, a, b, c⟩ := h; ⟨us, same_l s a, b.imp fun _ _ d => d.mono s, c⟩
/-! ### a text, several times -/
theorem foldl_rep (a : Array Nat) : ∀ (n : Nat) (b : Array Nat), ((List.replicate n a).foldl (· ++ ·) b).toList = b.toList ++ (List.replicate n a.toList).flatten
  | 0, b => by simp
  | n + 1, b => by
    rw [List.replicate_succ, List.replicate_succ, List.foldl_cons, foldl_rep a n, Array.toList_append, List.flatten_cons, List.append_assoc]
def repS (z : Str) (n : Nat) : Str := ⟨(List.replicate n z.cps.toList).flatten.toArray⟩
theorem repS_eq (z : Str) (n : Nat) : (⟨(List.replicate n z.cps).foldl (· ++ ·) #[]⟩ : Str) = repS z n := by
  have h := foldl_rep z.cps n #[]
  unfold repS
  congr 1
  refine Array.ext' ?_
  rw [h]
  simp
theorem repS_len (z : Str) (n : Nat) : (repS z n).length = n * z.length := by
  show (List.toArray _).size = n * z.cps.size
  simp
def rMulStr : R2 := fun x y H Q => ∃ (z : Str) (n : Int), x = .str z ∧ y = .int n ∧ 0 ≤ n ∧ n ≤ 1000 ∧ z.length ≤ 1000 ∧ Q (.str (repS z n.toNat)) H
theorem o_mulStr {X : Cx} : OpR X (binaryOp .Mult) rMulStr := by
  intro pins s σ H x y v u Q I rx ry h
  obtain ⟨z, n, rfl, rfl, h0, h1, h2, q⟩ := h
  obtain ⟨t, rfl⟩ := rx
  obtain ⟨t', rfl⟩ := ry
  refine P.mul_str ?_ (fun a b => ?_) (fun a b => ?_) ?_
  · rw [decide_eq_false (by omega), decide_eq_false (by omega)]; rfl
  · have h3 : (1000 : Int) ≤ (2 ^ 63 - 1) / n := Int.le_ediv_of_mul_le (by omega) (by omega)
    omega
  · have h3 : z.length * n.toNat ≤ 1000 * 1000 := Nat.mul_le_mul h2 (by omega)
    unfold Builtin.Str.tooLong
    rw [decide_eq_false (by rw [sizeLine_eq]; omega)]
  · split
    · rename_i hn
      have e : repS z n.toNat = Str.empty := by
        rw [show n.toNat = 0 from by omega]
        rfl
      exact ⟨by decide, .str (repS z n.toNat), H, I.tok _, ⟨_, by rw [e]⟩, q⟩
    · rename_i hn
      split
      · rename_i hc
        have e : repS z n.toNat = z := by
          rw [Bool.or_eq_true] at hc
          rcases hc with hc | hc
          · rw [show n.toNat = 1 from by have := eq_of_beq hc; omega]
            unfold repS
            simp
          · have hz : z.cps = #[] := Array.eq_empty_of_size_eq_zero (eq_of_beq hc)
            unfold repS
            rw [hz]
            obtain ⟨c⟩ := z
            cases hz
            simp
        exact ⟨.str (repS z n.toNat), H, I, ⟨t, by rw [e]⟩, q⟩
      · rw [repS_eq]
        refine ⟨?_, .str (repS z n.toNat), H, I.tok _, ⟨_, rfl⟩, q⟩
        rw [repS_len, sizeLine_eq]
        have h3 : n.toNat * z.length ≤ 1000 * 1000 := Nat.mul_le_mul (by omega) h2
        omega

/-! ### dicts: their data compared; zip -/
section
variable {X : Cx}
end
/-! ### plain: going down, one name more -/
theorem join_len {b : Nat} : ∀ {ls : List (List Nat)}, (∀ l ∈ ls, l.length ≤ b) → (TL.joinL [47] ls).length ≤ (b + 1) * ls.length
  | [], _ => Nat.zero_le _
  | [p], h => by
    have := h p List.mem_cons_self
    show p.length ≤ _
    simp only [List.length_cons, List.length_nil]
    omega
  | p :: q :: r, h => by
    have h1 := h p List.mem_cons_self
    have h2 := join_len (ls := q :: r) fun l hl => h l (List.mem_cons_of_mem _ hl)
    show (p ++ ([47] ++ TL.joinL [47] (q :: r))).length ≤ _
    rw [List.length_append, List.length_append, List.length_cons (as := q :: r), Nat.mul_succ]
    simp only [List.length_cons, List.length_nil] at h2 ⊢
    omega
theorem sum_len {b : Nat} : ∀ {ls : List (List Nat)}, (∀ l ∈ ls, l.length ≤ b) → ((ls.map S).map (·.length)).sum ≤ b * ls.length
  | [], _ => Nat.zero_le _
  | p :: r, h => by
    have h1 := h p List.mem_cons_self
    have h2 := sum_len (ls := r) fun l hl => h l (List.mem_cons_of_mem _ hl)
    rw [List.map_cons, List.map_cons, List.sum_cons, S_len, List.length_cons, Nat.mul_succ]
    omega
theorem nms_app (A B : List (List Nat)) : nmsV A ++ nmsV B = nmsV (A ++ B) := by
  unfold nmsV
  rw [List.map_append, List.map_append]
theorem cut_take {us : List V} {k : Nat} : cutV us none (some (k : Int)) = us.take k := by
  unfold cutV
  have e : HT.sIx us.length us.length (some (k : Int)) = min k us.length := by
    unfold HT.sIx
    simp
    omega
  rw [HT.sIx_none, e, List.drop_zero, Nat.sub_zero]
  rcases Nat.le_total k us.length with h | h
  · rw [Nat.min_eq_left h]
  · rw [Nat.min_eq_right h, List.take_of_length_le (Nat.le_refl _), List.take_of_length_le h]
theorem Each.app {α : Type} {R : α → V → Hp → Prop} {as bs : List α} {us vs : List V} {H : Hp} (h : Each R as us H) (g : Each R bs vs H) : Each R (as ++ bs) (us ++ vs) H := by
  refine ⟨by rw [List.length_append, List.length_append, h.1, g.1], fun i f hf => ?_⟩
  rcases Nat.lt_or_ge i as.length with e | e
  · rw [List.getElem?_append_left e] at hf
    obtain ⟨u, a, b⟩ := h.2 i f hf
    exact ⟨u, by rw [List.getElem?_append_left (by rw [h.1]; exact e)]; exact a, b⟩
  · rw [List.getElem?_append_right e] at hf
    obtain ⟨u, a, b⟩ := g.2 _ f hf
    exact ⟨u, by rw [List.getElem?_append_right (by rw [h.1]; exact e), h.1]; exact a, b⟩
/-! ### texts put in order: the one list -/
section
variable {X : Cx}
end
/-! ### trees as dicts -/
/-- a name of a tree: signs of names, one at least -/
def NmOk (nm : List Nat) : Prop := nm ≠ [] ∧ nm.length ≤ 1000 ∧ ∀ c ∈ nm, c ∈ SIG
abbrev Names := List (List Nat)
/-- what stands in a folder, in the dict's order -/
def kidE (al : Names → Addr) (e : Names × Bool) : Key × V := (.inr (S (e.1.getLastD [])), if e.2 = true then .ref (al e.1) else .non)
def inF (p : Names) (e : Names × Bool) : Bool := decide (e.1.dropLast = p)
def kids (E : List (Names × Bool)) (al : Names → Addr) (p : Names) : List (Key × V) := (E.filter (inF p)).map (kidE al)
def kidN (E : List (Names × Bool)) (p : Names) : List (List Nat) := (E.filter (inF p)).map fun e => e.1.getLastD []
/-- the entries of a tree: each once, folders ahead, names of signs -/
structure EOk (E : List (Names × Bool)) : Prop where
  nd : (E.map (·.1)).Nodup
  ne : ∀ e ∈ E, e.1 ≠ []
  up : ∀ e ∈ E, e.1.dropLast = [] ∨ (e.1.dropLast, true) ∈ E
  nm : ∀ e ∈ E, ∀ nm ∈ e.1, NmOk nm
  deep : ∀ e ∈ E, e.1.length ≤ 9
def Fold (E : List (Names × Bool)) (p : Names) : Prop := p = [] ∨ (p, true) ∈ E
structure TreeE (E : List (Names × Bool)) (al : Names → Addr) (H : Hp) : Prop where
  ok : EOk E
  at_ : ∀ p, Fold E p → H (al p) = some (.dK (kids E al p))
  inj : ∀ p q, Fold E p → Fold E q → al p = al q → p = q
theorem TreeE.mono {E : List (Names × Bool)} {al : Names → Addr} {H H' : Hp} (h : TreeE E al H) (s : Same H H') : TreeE E al H' := ⟨h.ok, fun p hp => s _ _ (h.at_ p hp), h.inj⟩
/-! how many there are -/
/-! ### the paths within a folder, by the program and by the law -/
/-! ### a tree that grows -/
theorem kidN_snoc {E : List (Names × Bool)} {e : Names × Bool} {q : Names} : kidN (E ++ [e]) q = kidN E q ++ (if e.1.dropLast = q then [e.1.getLastD []] else []) := by
  unfold kidN
  rw [List.filter_append, List.map_append]
  congr 1
  unfold inF
  by_cases h : e.1.dropLast = q <;> simp [h]
theorem Fold.more {E E' : List (Names × Bool)} {p : Names} (h : Fold E p) (s : ∀ e ∈ E, e ∈ E') : Fold E' p := h.imp id (s _)
structure Grow (E E' : List (Names × Bool)) (nms : Names) (k : Nat) : Prop where
  sub : ∀ e ∈ E, e ∈ E'
  new : ∀ e ∈ E', e ∈ E ∨ ∃ i, 0 < i ∧ i ≤ k ∧ e.1 = nms.take i ∧ (i < nms.length → e.2 = true)
  len : E'.length ≤ E.length + k
  kid : ∀ p, (kidN E' p).length ≤ (kidN E p).length + if p.length < k then 1 else 0
theorem Grow.refl {E : List (Names × Bool)} {nms : Names} : Grow E E nms 0 := ⟨fun _ h => h, fun _ h => .inl h, Nat.le_refl _, fun p => Nat.le_add_right _ _⟩
theorem Grow.snoc {E E' : List (Names × Bool)} {nms : Names} {k : Nat} {nm : List Nat} {fo : Bool} (g : Grow E E' nms k) (hk : nms[k]? = some nm) (hf : k + 1 < nms.length → fo = true) : Grow E (E' ++ [(nms.take k ++ [nm], fo)]) nms (k + 1) := by
  have tk : nms.take (k + 1) = nms.take k ++ [nm] := by rw [List.take_succ, hk]; rfl
  have hl : k < nms.length := (List.getElem?_eq_some_iff.mp hk).1
  refine ⟨fun e he => List.mem_append_left _ (g.sub e he), fun e he => ?_, by rw [List.length_append, List.length_singleton]; have := g.len; omega, fun p => ?_⟩
  · rcases List.mem_append.mp he with h | h
    · exact (g.new e h).imp id fun ⟨i, a, b, c⟩ => ⟨i, a, by omega, c⟩
    · rw [List.mem_singleton.mp h]
      exact .inr ⟨k + 1, by omega, Nat.le_refl _, tk.symm, hf⟩
  · have h := g.kid p
    rw [kidN_snoc, List.length_append]
    by_cases e : nms.take k = p
    · rw [if_pos (by simpa using e)]
      have lp : p.length = k := by rw [← e, List.length_take]; omega
      rw [if_neg (by omega)] at h
      rw [if_pos (by omega)]
      simp only [List.length_singleton]
      omega
    · rw [if_neg (by simpa using e)]
      split at h <;> split <;> simp only [List.length_nil] <;> omega
/-! ### trees drawn -/
/-! ### what every law here promises -/
def spLaw (K : PySem.W.Frag) : Sp := fun vs H Q _ => ∃ a, ∃ ns : List Int, vs = [.ref a] ∧ SqL K H a (ns.map V.int) ∧ ns.length ≤ 63 ∧ ∀ H', Q (.bl true) H'
theorem law_len {vs : List V} {H : Hp} {Q : VK} {E : XK} (h : spLaw K vs H Q E) : vs.length = ["_law_script"].length := by
  obtain ⟨a, ns, rfl, _⟩ := h
  rfl
theorem law_sp {a : Addr} {ns : List Int} {H : Hp} (hs : SqL K H a (ns.map V.int)) (hl : ns.length ≤ 63) (hb : ∀ z ∈ ns, Builtin.Int.intBits z ≤ 1048576) : spLaw K [.ref a] H (fun v _ => v = .bl true) fun _ _ _ => False := ⟨a, ns, rfl, hs, hl, fun _ => rfl⟩

/-! ### what is written of parts, steps and rows -/
theorem at0 {us : List V} {u : V} (h : us[0]? = some u) : atI us 0 = some u := by
  show atI us ((0 : Nat) : Int) = some u
  exact atI_nat h
/-! ### the place of a sign in a text; blanks cut off -/
section
variable {X : Cx}
end
/-! ### the signs of a set's text -/
/-! ### a set's text, a step's text -/
/-! ### a step's text, a row's text -/
/-! ### lists written, lists read -/
section
variable {X : Cx}
end
/-! ### reading gives what was written -/
/-! ### a row's text, a list's text read -/
/-! ### the law's own texts -/
/-! ### spots of a row, rising -/
abbrev Spot := Nat × Int
def vJ (j : Int) : V := if j = -2 then .non else .int j
def dJ (j : Int) : PyData := if j = -2 then .none else .int j
def spotD (x : Spot) : PyData := .tuple [.int x.1, dJ x.2]
def SpotV (x : Spot) (v : V) (H : Hp) : Prop := ∃ t, v = .ref t ∧ H t = some (.tup [.int (x.1 : Nat), vJ x.2])
theorem SpotV.nl {x : Spot} {v : V} {H H' : Hp} (h : SpotV x v H) (e : NL H H') : SpotV x v H' := let ⟨t, a, b⟩ := h; ⟨t, a, e _ _ b (fun _ z => nomatch z)⟩
theorem SpotV.mono {x : Spot} {v : V} {H H' : Hp} (h : SpotV x v H) (e : Same H H') : SpotV x v H' := let ⟨t, a, b⟩ := h; ⟨t, a, e _ _ b⟩
theorem dp_J {H : Hp} {j : Int} : Dp K H (vJ j) (dJ j) := by
  unfold vJ dJ
  by_cases h : j = -2
  · rw [if_pos h, if_pos h]; exact .non
  · rw [if_neg h, if_neg h]; exact .int _
theorem SpotV.dp {x : Spot} {v : V} {H : Hp} (h : SpotV x v H) : Dp K H v (spotD x) := by
  obtain ⟨t, rfl, e⟩ := h
  exact .tup (.inl (.inl e)) (.cons (.int _) (.cons dp_J .nil))
theorem spot_ok {x : Spot} : DOk 1 (spotD x) := dok_tup (all_cons dok_int (all_cons (by
  unfold dJ
  split
  · exact dok_non
  · exact dok_int) all_nil))
theorem vJ_non {j : Int} : decide (vJ j = V.non) = decide (j = -2) := by
  unfold vJ
  by_cases h : j = -2
  · simp [h]
  · simp [h]
theorem vJ_int {j : Int} (h : j ≠ -2) : vJ j = .int j := if_neg h
theorem eqv_J (i j : Int) : PyData.eqv (dJ i) (dJ j) = decide (i = j) := by
  unfold dJ
  by_cases h : i = -2 <;> by_cases g : j = -2
  · rw [if_pos h, if_pos g, h, g]; rfl
  · rw [if_pos h, if_neg g, h]
    exact (decide_eq_false fun z => g z.symm).symm
  · rw [if_neg h, if_pos g, g]
    exact (decide_eq_false h).symm
  · rw [if_neg h, if_neg g]
    show (i == j) = _
    by_cases z : i = j <;> simp [z]
theorem eqv_spot (x y : Spot) : PyData.eqv (spotD x) (spotD y) = decide (x = y) := by
  show (((x.1 : Int) == (y.1 : Int)) && (PyData.eqv (dJ x.2) (dJ y.2) && true)) = _
  rw [eqv_J]
  obtain ⟨a, b⟩ := x
  obtain ⟨c, d⟩ := y
  have e : ((a : Int) == (c : Int)) = decide (a = c) := by
    by_cases h : a = c
    · rw [h]; simp
    · rw [decide_eq_false h]
      exact beq_false_of_ne fun z => h (Int.ofNat.inj z)
  show (((a : Int) == (c : Int)) && (decide (b = d) && true)) = _
  rw [e, Bool.and_true, ← Bool.decide_and]
  exact decide_eq_decide.mpr ⟨fun ⟨h, g⟩ => by rw [h, g], fun h => ⟨congrArg (·.1) h, congrArg (·.2) h⟩⟩
def ltS (x y : Spot) : Prop := x.1 < y.1 ∨ (x.1 = y.1 ∧ x.2 < y.2)
theorem ltS_irr {x : Spot} : ¬ ltS x x := fun h => by unfold ltS at h; omega
theorem ltS_trans {x y z : Spot} (h : ltS x y) (g : ltS y z) : ltS x z := by unfold ltS at *; omega
def spRank (K : PySem.W.Frag) : Sp := fun vs H Q _ => ∃ v x, vs = [v] ∧ SpotV x v H ∧ ∀ u H', Same H H' → Dp K H' u (kD ((x.1 : Int), x.2)) → Q u H'
theorem ok_spot_rank (T : Txt K mg) : OkD P w K mg base 1 (fA K "spot_rank") ["spot"] [] (spRank K) := by
  refine okD T.F_spot_rank sc_spot_rank (fun _ _ _ _ _ _ us hl => match us, hl with | [_], _ => rfl) ?_ ?_
  · rintro vs H Q E ⟨v, x, rfl, _⟩
    rfl
  · rintro cdv A outer s H vs Q E hr ⟨v, x, rfl, ⟨t, rfl, ht⟩, q⟩
    refine ⟨_, (pss_cons (ps_if (pt_mid (pt_cmp (pc_isN (pe_ix (o_ix (K := K)) (pv 0) pe_int (fun _ _ => rfl))) rfl)) (pss_one (ps_ret (pe_tup (pa_cons (pe_ix (o_ix (K := K)) (pv 0) pe_int (fun _ _ => rfl)) (pa_cons (pe_un un_neg pe_int) pa_nil))))) pss_nil)
  (pss_one (ps_ret (pv 0)))), ?_⟩
    have tobj := T.obj
    have hs : SqT K H t [.int (x.1 : Nat), vJ x.2] := .inl (.inl ht)
    refine q_if (fun b H' => H' = H ∧ b = decide (x.2 = -2)) ?_ ?_ ?_
    · walk_at "rd"
      exact ⟨_, .inr hs, _, rfl, vJ_non⟩
    · rintro _ ⟨rfl, hb⟩
      walk_at "rd"
      refine ⟨_, .inr hs, _, rfl, fun p hp => q _ _ (same_new hp) ?_⟩
      rw [of_decide_eq_true hb.symm]
      exact .tup (.inl (.inl upd_same)) (.cons (.int _) (.cons (.int _) .nil))
    · rintro _ ⟨rfl, hb⟩
      walk_at "rd"
      refine q _ _ (Same.refl _) ?_
      have e : vJ x.2 = .int x.2 := if_neg (of_decide_eq_false hb.symm)
      rw [e] at hs
      exact .tup hs (.cons (.int _) (.cons (.int _) .nil))
def κS (H : Hp) (v : V) : Int × Int := match v with
  | .ref t => match H t with
    | some (.tup [.int n, .int j]) => (n, j)
    | some (.tup [.int n, _]) => (n, -2)
    | _ => (0, 0)
  | _ => (0, 0)
theorem κ_spot {x : Spot} {v : V} {H : Hp} (h : SpotV x v H) : κS H v = ((x.1 : Int), x.2) := by
  obtain ⟨t, rfl, e⟩ := h
  unfold κS
  simp only [e]
  unfold vJ
  by_cases h : x.2 = -2
  · simp [h]
  · simp [h]
def sortS (H : Hp) (us : List V) : List V := us.mergeSort (PySem.W.dataLe false fun v => kD (κS H v))
def unS (p : Int × Int) : Spot := (p.1.toNat, p.2)
theorem unS_eq {x : Spot} : unS ((x.1 : Int), x.2) = x := by unfold unS; exact Prod.ext (Int.toNat_natCast _) rfl
def leS (x y : Spot) : Prop := x.1 < y.1 ∨ (x.1 = y.1 ∧ x.2 ≤ y.2)
/-- what sorting gives: the spots in order -/
theorem sortS_spec {xs : List Spot} {us : List V} {H : Hp} (h : Each SpotV xs us H) : ∃ zs, zs.Perm xs ∧ zs.Pairwise leS ∧ Each SpotV zs (sortS H us) H := by
  have key : xs = us.map fun v => unS (κS H v) := by
    refine List.ext_getElem? fun i => ?_
    rw [List.getElem?_map]
    cases e : xs[i]? with
    | none =>
      rw [List.getElem?_eq_none (by rw [h.1]; exact List.getElem?_eq_none_iff.mp e)]
      rfl
    | some x =>
      obtain ⟨u, hu, su⟩ := h.2 i x e
      rw [hu]
      show some x = some _
      show some x = some (unS (κS H u))
      rw [κ_spot su, unS_eq]
  have each : ∀ v ∈ us, SpotV (unS (κS H v)) v H := fun v hv => by
    obtain ⟨i, hi⟩ := List.mem_iff_getElem?.mp hv
    obtain ⟨x, hx, sx⟩ := h.at' hi
    rw [κ_spot sx, unS_eq]
    exact sx
  have hp : (sortS H us).Perm us := List.mergeSort_perm _ _
  refine ⟨(sortS H us).map fun v => unS (κS H v), ?_, ?_, ?_⟩
  · rw [key]
    exact hp.map _
  · rw [List.pairwise_map]
    unfold sortS
    rw [show (fun v => kD (κS H v)) = fun v => PyData.tuple [.int (κS H v).1, .int (κS H v).2] from rfl, PySem.W.dataLe_ii (fun v => (κS H v).1) fun v => (κS H v).2]
    have st := List.pairwise_mergeSort (le := fun p q : V => decide ((κS H p).1 < (κS H q).1 ∨ ((κS H p).1 = (κS H q).1 ∧ (κS H p).2 ≤ (κS H q).2))) (fun a b c h1 h2 => by
      have h1 := of_decide_eq_true h1
      have h2 := of_decide_eq_true h2
      exact decide_eq_true (by omega)) (fun a b => by
      by_cases h : ((κS H a).1 < (κS H b).1 ∨ ((κS H a).1 = (κS H b).1 ∧ (κS H a).2 ≤ (κS H b).2))
      · simp [h]
      · have : ((κS H b).1 < (κS H a).1 ∨ ((κS H b).1 = (κS H a).1 ∧ (κS H b).2 ≤ (κS H a).2)) := by omega
        simp [this]) us
    refine List.Pairwise.imp_of_mem (fun {a b} ha hb h => ?_) st
    have h := of_decide_eq_true h
    have na : ∃ x : Spot, κS H a = ((x.1 : Int), x.2) := by
      obtain ⟨i, hi⟩ := List.mem_iff_getElem?.mp ((List.mergeSort_perm _ _).mem_iff.mp ha)
      obtain ⟨x, _, sx⟩ := Each.at' ‹Each SpotV xs us H› hi
      exact ⟨x, κ_spot sx⟩
    have nb : ∃ x : Spot, κS H b = ((x.1 : Int), x.2) := by
      obtain ⟨i, hi⟩ := List.mem_iff_getElem?.mp ((List.mergeSort_perm _ _).mem_iff.mp hb)
      obtain ⟨x, _, sx⟩ := Each.at' ‹Each SpotV xs us H› hi
      exact ⟨x, κ_spot sx⟩
    obtain ⟨x, ex⟩ := na
    obtain ⟨y, ey⟩ := nb
    rw [ex, ey] at h ⊢
    rw [unS_eq, unS_eq]
    unfold leS
    simp only at h
    omega
  · refine ⟨by rw [List.length_map], fun i x hx => ?_⟩
    rw [List.getElem?_map] at hx
    obtain ⟨v, hv, rfl⟩ := Option.map_eq_some_iff.mp hx
    exact ⟨v, hv, each v (hp.mem_iff.mp (List.mem_of_getElem? hv))⟩
theorem nodup_len {α : Type} : ∀ {a b : List α}, a.Nodup → (∀ x ∈ a, x ∈ b) → a.length ≤ b.length
  | [], _, _, _ => Nat.zero_le _
  | x :: r, b, nd, h => by
    obtain ⟨l1, l2, rfl⟩ := List.append_of_mem (h x List.mem_cons_self)
    have hx := (List.nodup_cons.mp nd)
    have := nodup_len (a := r) (b := l1 ++ l2) hx.2 fun y hy => by
      have hne : y ≠ x := fun e => hx.1 (e ▸ hy)
      have := h y (List.mem_cons_of_mem _ hy)
      simp only [List.mem_append, List.mem_cons] at this ⊢
      rcases this with h | h | h
      · exact .inl h
      · exact absurd h hne
      · exact .inr h
    rw [List.length_append] at this
    simp only [List.length_append, List.length_cons]
    omega
theorem leS_eq {x y : Spot} (h : leS x y) (n : x ≠ y) : ltS x y := by
  unfold leS ltS at *
  rcases h with h | ⟨h, g⟩
  · exact .inl h
  · refine .inr ⟨h, ?_⟩
    rcases Int.lt_or_eq_of_le g with z | z
    · exact z
    · exact absurd (Prod.ext h z) n
theorem ne_spot {x y : Spot} {u v : V} {H : Hp} {Q : VK} (h : SpotV x u H) (g : SpotV y v H) (q : Q (.bl (!decide (x = y))) H) : rNeR K u v H Q := by
  refine .inl ⟨spotD x, spotD y, h.dp, g.dp, spot_ok.shaped (by decide), spot_ok.shaped (by decide), ?_⟩
  rw [eqv_spot]
  exact q
/-- a list of spots -/
abbrev Spots (xs : List Spot) (us : List V) (H : Hp) : Prop := Each SpotV xs us H
def spRising (K : PySem.W.Frag) : Sp := fun vs H Q _ => ∃ a us xs, vs = [.ref a] ∧ SqL K H a us ∧ Spots xs us H ∧ xs.length ≤ 5000000 ∧ ∀ p H' us' ys, Same H H' → H p = none → H' p = some (.lst us') → Spots ys us' H' → ys.Pairwise ltS → (∀ x, x ∈ ys ↔ x ∈ xs) → Q (.ref p) H'
theorem ok_rising (T : Txt K mg) : OkD P w K mg base 4 (fA K "rising") ["spots"] [] (spRising K) := by
  refine okD T.F_rising sc_rising (fun _ _ _ _ _ _ us hl => match us, hl with | [_], _ => rfl) ?_ ?_
  · rintro vs H Q E ⟨a, us, xs, rfl, _⟩
    rfl
  · rintro cdv A outer s H vs Q E hr ⟨a, us, xs, rfl, hs, hx, hn, q⟩
    refine ⟨_, (pss_cons (ps_set (i := 1) sc_rising.nd rfl (Or.inl rfl) (pe_lst pa_nil))
  (pss_cons (ps_mid (ps_for (passes_of rfl) rfl (pi_mid (o_it (K := K) rfl (pe_callBK (o_sortedKey (K := K) (ok_spot_rank T) (hr.mono (by decide))) (by rfl) T.fr_sorted (by decide +kernel) (pa_cons (pv 0) pa_nil) (pk_cons (pe_glob (v := .ref (fA K "spot_rank")) rfl T.g_spot_rank rfl) pk_nil)))) (pg_name (i := 2) sc_rising.nd rfl (Or.inl rfl)) (pss_one (ps_if (pt_mid (PW.pt (pw_or (pt_cmpR (o_eq (K := K) (hu64 hr)) (pv 1) (pe_lst pa_nil) (nomark _)) (pw_or1 (pt_cmpR (o_ne (K := K) (hu64 hr)) (pe_ix (o_ix (K := K)) (pv 1) (pe_un un_neg pe_int) (fun _ _ => rfl)) (pv 2) (nomark _)))))) (pss_one (ps_expr (pe_bmK (K := K) PySem.F.plainAttrs_list PySem.F.slot_list_append PySem.F.type_list_append mt_append (pv 1) (pa_cons (pe_mid (pv 2)) pa_nil)))) pss_nil))))
  (pss_one (ps_ret (pv 1))))), ?_⟩
    have tobj := T.obj
    obtain ⟨zs, zp, zo, zv⟩ := sortS_spec hx
    refine q_new fun F hF => ?_
    have sF : Same H (upd H F (.lst [])) := same_new hF
    have hF0 : upd H F (.lst []) F = some (.lst []) := upd_same
    generalize upd H F (.lst []) = H1 at *
    refine q_stm (fun σ H' => Same H H' ∧ ∃ ys us' x, σ = [some (.ref a), some (.ref F), x] ∧ H' F = some (.lst us') ∧ Spots ys us' H' ∧ ys.Pairwise ltS ∧ ∀ x, x ∈ ys ↔ x ∈ zs) ?_ ?_
    · refine for_open (fun J H' => ∃ R, J = Itl K R ∧ Same H1 H' ∧ H' R = some (.lst (sortS H us)) ∧ H1 R = none) ?_ ?_
      · walk_at "rd"
        refine ⟨a, us, κS H, rfl, rfl, same_l sF hs, fun v hv H2 s2 => ?_, fun R H' s hR0 hR => .inl ⟨⟨_, .inl (.inl hR)⟩, R, rfl, s, hR, hR0⟩⟩
        obtain ⟨i, hi⟩ := List.mem_iff_getElem?.mp hv
        obtain ⟨x, _, sx⟩ := hx.at' hi
        refine ⟨v, x, rfl, sx.mono (sF.trans s2), fun u H3 s3 d => ⟨s3, ?_⟩⟩
        rw [κ_spot sx]
        exact d
      rintro _ H2 ⟨R, rfl, s2, hR, hR0⟩
      have ln : (sortS H us).length = us.length := (List.mergeSort_perm _ _).length_eq
      refine for_mid (J0 := Itl K R) (H0 := H2) ⟨rfl, rfl⟩ (walk_list (K := K) (a := R) (xs := sortS H us)) (fun k σ H' => Same H H' ∧ H' R = some (.lst (sortS H us)) ∧ R ≠ F ∧ ∃ ys us' x, σ = [some (.ref a), some (.ref F), x] ∧ H' F = some (.lst us') ∧ Spots ys us' H' ∧ ys.Pairwise ltS ∧ ∀ x, x ∈ ys ↔ x ∈ zs.take k)
        ⟨sF.trans s2, hR, (fun z => by rw [z, hF0] at hR0; cases hR0), [], [], _, rfl, s2 _ _ hF0, .nil, .nil, fun x => by simp⟩ (fun _ _ _ _ h => .inl (.inl h.2.1)) ?_ (fun σ H' h => ?_)
      · rintro k v σ H3 H3' hk ⟨s3, hR3, hRF, ys, us', x0, rfl, hF3, hys, so, mem⟩ ⟨rfl, hv⟩
        obtain ⟨z, hz, sz⟩ := zv.at' hv
        have sz3 := sz.mono s3
        have lys := hys.1
        have tk : zs.take (k + 1) = zs.take k ++ [z] := by rw [List.take_succ, hz]; rfl
        have below : ∀ y ∈ ys, leS y z := fun y hy => by
          obtain ⟨i, hi⟩ := List.mem_iff_getElem?.mp ((mem y).mp hy)
          have hik : i < k := by
            have h1 := (List.getElem?_eq_some_iff.mp hi).1
            rw [List.length_take] at h1
            omega
          rw [List.getElem?_take_of_lt hik] at hi
          obtain ⟨h1, e1⟩ := List.getElem?_eq_some_iff.mp hi
          obtain ⟨h2, e2⟩ := List.getElem?_eq_some_iff.mp hz
          have := List.pairwise_iff_getElem.mp zo i k h1 h2 hik
          rw [e1, e2] at this
          exact this
        refine l_if (fun b H' => Same H3' H' ∧ b = !decide (ys.getLast? = some z)) ?_ (fun H4 h => ?_) (fun H4 h => ?_)
        · walk_at "rd"
          intro p hp
          have sn := same_new (o := .lst []) hp
          have hF3n := sn _ _ hF3
          refine eq_nil (.inl (.inl hF3n)) (.inl (.inl upd_same)) ⟨_, rfl, ite2 (fun h => ⟨sn, ?_⟩) fun h => ?_⟩
          · have e : ys = [] := List.length_eq_zero_iff.mp (by rw [← lys, of_decide_eq_true h]; rfl)
            rw [e]
            rfl
          · have hne : us' ≠ [] := fun e => h (decide_eq_true e)
            obtain ⟨u, hu⟩ : ∃ u, us'.getLast? = some u := ⟨_, List.getLast?_eq_some_getLast hne⟩
            have hu2 := hu
            rw [List.getLast?_eq_getElem?] at hu2
            obtain ⟨y, hy, sy⟩ := hys.at' hu2
            have yl : ys.getLast? = some y := by rw [List.getLast?_eq_getElem?, ← lys]; exact hy
            refine ⟨us', .inl (.inl (.inl hF3n)), u, atI_last hu, ?_⟩
            obtain ⟨ru, rfl, _⟩ := id sy
            show rNeR K _ _ _ _
            refine ne_spot (sy.mono sn) (sz3.mono sn) ⟨_, rfl, sn, ?_⟩
            rw [yl]
            exact congrArg (!·) (decide_eq_decide.mpr ⟨fun h => by rw [h], fun h => Option.some.inj h⟩)
        · obtain ⟨s4, hb⟩ := h
          have nl : ys.getLast? ≠ some z := by simpa using hb
          have hF4 := s4 _ _ hF3
          have ltz : ∀ y ∈ ys, ltS y z := fun y hy => by
            rcases List.eq_nil_or_concat ys with e | ⟨l, w, e⟩
            · rw [e] at hy; cases hy
            · rw [List.concat_eq_append] at e
              have wz : ltS w z := leS_eq (below w (by rw [e]; simp)) fun h => nl (by rw [e, h]; simp)
              rw [e] at hy
              rcases List.mem_append.mp hy with h | h
              · have so' := so
                rw [e, List.pairwise_append] at so'
                exact ltS_trans (so'.2.2 y h w (by simp)) wz
              · rw [List.mem_singleton.mp h]; exact wz
          have lz : ys.length ≤ 5000000 := by
            have h1 : ys.length ≤ zs.length := nodup_len (so.imp fun h e => by rw [e] at h; exact ltS_irr h) fun y hy => List.mem_of_mem_take ((mem y).mp hy)
            rw [zp.length_eq] at h1
            omega
          refine l_appV rfl rfl hF4 (by omega) ⟨same_mut (s3.trans s4) hF, by rw [upd_ne hRF]; exact s4 _ _ hR3, hRF, ys ++ [z], _, _, rfl, upd_same, ((hys.imp fun _ _ h => h.mono s4).imp fun _ _ h => h.nl (nl_upd hF4)).snoc ((sz3.mono s4).nl (nl_upd hF4)), ?_, fun y => ?_⟩
          · rw [List.pairwise_append]
            exact ⟨so, List.pairwise_singleton _ _, fun y hy w hw => by rw [List.mem_singleton.mp hw]; exact ltz y hy⟩
          · rw [tk, List.mem_append, List.mem_append, mem]
        · obtain ⟨s4, hb⟩ := h
          have nl : ys.getLast? = some z := by simpa using hb
          refine ⟨s3.trans s4, s4 _ _ hR3, hRF, ys, us', _, rfl, s4 _ _ hF3, hys.imp fun _ _ h => h.mono s4, so, fun y => ?_⟩
          rw [tk]
          constructor
          · exact fun h => List.mem_append_left _ ((mem y).mp h)
          · intro h
            rcases List.mem_append.mp h with h | h
            · exact (mem y).mpr h
            · rw [List.mem_singleton.mp h]
              exact List.mem_of_getLast? nl
      · obtain ⟨s3, hR3, hRF, ys, us', x0, rfl, hF3, hys, so, mem⟩ := h
        refine ⟨s3, ys, us', _, rfl, hF3, hys, so, fun x => ?_⟩
        rw [mem, List.take_of_length_le (by rw [ln, hx.1, ← zp.length_eq]; exact Nat.le_refl _)]
    rintro σ H2 ⟨s2, ys, us', x, rfl, hF2, hys, so, mem⟩
    walk_at "rd"
    exact q F _ _ _ s2 hF hF2 hys so fun x => (mem x).trans zp.mem_iff
theorem mem_seg {c : Int} {k m : Nat} {xs : List Spot} (h : ∀ x, x ∈ xs ↔ ∃ i, x = (i, c) ∧ k ≤ i ∧ i ≤ m) (hk : k ≤ m + 1) : ∀ x, x ∈ xs ++ [(m + 1, c)] ↔ ∃ i, x = (i, c) ∧ k ≤ i ∧ i ≤ m + 1 := fun x => by
  rw [List.mem_append, h, List.mem_singleton]
  constructor
  · rintro (⟨i, rfl, h1, h2⟩ | rfl)
    · exact ⟨i, rfl, h1, by omega⟩
    · exact ⟨m + 1, rfl, hk, Nat.le_refl _⟩
  · rintro ⟨i, rfl, h1, h2⟩
    rcases Nat.lt_or_ge m i with e | e
    · have : i = m + 1 := by omega
      exact .inr (by rw [this])
    · exact .inl ⟨i, rfl, h1, e⟩
theorem mem_segI {n k m : Nat} {xs : List Spot} (h : ∀ x, x ∈ xs ↔ ∃ i : Nat, x = (n, (i : Int)) ∧ k ≤ i ∧ i ≤ m) (hk : k ≤ m + 1) : ∀ x, x ∈ xs ++ [(n, ((m + 1 : Nat) : Int))] ↔ ∃ i : Nat, x = (n, (i : Int)) ∧ k ≤ i ∧ i ≤ m + 1 := fun x => by
  rw [List.mem_append, h, List.mem_singleton]
  constructor
  · rintro (⟨i, rfl, h1, h2⟩ | rfl)
    · exact ⟨i, rfl, h1, by omega⟩
    · exact ⟨m + 1, rfl, hk, Nat.le_refl _⟩
  · rintro ⟨i, rfl, h1, h2⟩
    rcases Nat.lt_or_ge m i with e | e
    · have : i = m + 1 := by omega
      exact .inr (by rw [this])
    · exact .inl ⟨i, rfl, h1, e⟩
def spAtBegin (K : PySem.W.Frag) : Sp := fun vs H Q _ => ∃ v r, ∃ k : Nat, vs = [v, .int k] ∧ RowV K r v H ∧ k ≤ r.steps.length ∧ r.steps.length ≤ 1000 ∧
  ∀ F us xs H', Same H H' → H F = none → H' F = some (.lst us) → Spots xs us H' → xs.length ≤ r.steps.length + 1 → (∀ x, x ∈ xs ↔ ∃ i : Nat, x = (i, (-2 : Int)) ∧ ClosG SF.deepB r.steps k i) → Q (.ref F) H'
theorem ok_at_begin (T : Txt K mg) : OkD P w K mg base 2 (fA K "at_begin") ["row", "number"] [] (spAtBegin K) := by
  refine okD T.F_at_begin sc_at_begin (fun _ _ _ _ _ _ us hl => match us, hl with | [_, _], _ => rfl) ?_ ?_
  · rintro vs H Q E ⟨v, r, k, rfl, _⟩
    rfl
  · rintro cdv A outer s H vs Q E hr ⟨v, r, k, rfl, ⟨p, dx, t, us, rfl, ho, ht, hp, hne⟩, hk, hl, q⟩
    refine ⟨_, (pss_cons (ps_set (i := 2) sc_at_begin.nd rfl (Or.inl rfl) (pe_mid (pe_lst (pa_cons (pe_tup (pa_cons (pv 1) (pa_cons pe_non pa_nil))) pa_nil))))
  (pss_cons (ps_mid (ps_while (passes_of rfl) (pt_mid (PW.pt (pw_and (pt_cmpR o_lt (pv 1) (pe_callB (o_lenW (K := K) (w := w)) (by rfl) T.fr_len boot_len (pa_cons (pe_fldK (K := K) (pv 0) rfl) pa_nil)) (nomark _)) (pw_and1 (pt_tru (K := K) (pe_metI0 (md_deep T) (pe_ix (o_ix (K := K)) (pe_fldK (K := K) (pv 0) rfl) (pv 1) (fun _ _ => rfl)) (hr.mono (by decide)) (pasE (takes_of rfl rfl rfl rfl) (fun _ _ _ _ h => h))) (by intro _; rfl)))))) (pss_cons (ps_aug (i := 1) sc_at_begin.nd rfl (Or.inl rfl) pe_int o_iadd)
  (pss_one (ps_expr (pe_bmK (K := K) PySem.F.plainAttrs_list PySem.F.slot_list_append PySem.F.type_list_append mt_append (pv 2) (pa_cons (pe_mid (pe_tup (pa_cons (pv 1) (pa_cons pe_non pa_nil)))) pa_nil)))))))
  (pss_one (ps_ret (pv 2))))), ?_⟩
    have tobj := T.obj
    refine q_midG (fun v H' => Same H H' ∧ ∃ F ps, v = .ref F ∧ H F = none ∧ H' F = some (.lst ps) ∧ Spots [(k, -2)] ps H') ?_ ?_
    · walk_at "rd"
      intro p1 hp1 p2 hp2
      have t1 := same_new (o := .tup [.int (k : Nat), .non]) hp1
      have t2 := same_new (o := .lst [.ref p1]) hp2
      refine ⟨t1.trans t2, same_none t1 hp2, _, upd_same, Each.nil.snoc ⟨p1, rfl, ?_⟩⟩
      exact t2 _ _ upd_same
    rintro _ H1 ⟨s1, F, ps, rfl, hF0, hF, hps⟩
    refine q_stm (fun σ H' => ∃ ps xs, ∃ m : Nat, σ = [some (.ref p), some (.int (m : Nat)), some (.ref F)] ∧ Same H H' ∧ H' F = some (.lst ps) ∧ Spots xs ps H' ∧ xs.length ≤ r.steps.length + 1 ∧ (∀ x, x ∈ xs ↔ ∃ i : Nat, x = (i, (-2 : Int)) ∧ k ≤ i ∧ i ≤ m) ∧ ClosG SF.deepB r.steps k m ∧ starG SF.deepB r.steps m = false) ?_ ?_
    · refine while_mid (fun w σ H' => ∃ ps xs, ∃ m : Nat, σ = [some (.ref p), some (.int (m : Nat)), some (.ref F)] ∧ Same H H' ∧ H' F = some (.lst ps) ∧ Spots xs ps H' ∧ xs.length = m - k + 1 ∧ (∀ x, x ∈ xs ↔ ∃ i : Nat, x = (i, (-2 : Int)) ∧ k ≤ i ∧ i ≤ m) ∧ ClosG SF.deepB r.steps k m ∧ w = r.steps.length + 1 - m) _
          ⟨ps, [(k, -2)], k, rfl, s1, hF, hps, by simp, fun x => ?_, ClosG.refl, rfl⟩ ?_
      · rw [List.mem_singleton]
        exact ⟨fun h => ⟨k, h, Nat.le_refl _, Nat.le_refl _⟩, fun ⟨i, h, h1, h2⟩ => by rw [h, Nat.le_antisymm h2 h1]⟩
      · rintro w σ H2 ⟨ps, xs, m, rfl, s2, hF2, hps, lxs, mem, cl, rfl⟩
        have ml := cl.le (n := 0) hk
        refine ⟨fun b H' => H' = H2 ∧ b = starG SF.deepB r.steps m, ?_, ?_, ?_⟩
        · have ho2 := s2 _ _ ho
          have ht2 := s2 _ _ ht
          have hp2 := hp.mono s2
          walk_at "rdh"
          refine .inr ⟨_, .inr ⟨us, .inl (.inl ht2), rfl⟩, ?_⟩
          rw [hp2.1]
          refine ite2 (fun hlt => ?_) fun hge => ?_
          · have hlt' : m < r.steps.length := Int.ofNat_lt.mp hlt
            obtain ⟨u, hu, pu⟩ := hp2.2 m r.steps[m] (List.getElem?_eq_getElem hlt')
            refine ⟨us, .inr (.inl (.inl ht2)), u, atI_nat hu, r.steps[m], pu, u, rfl, pu, ?_⟩
            rw [starG_eq (List.getElem?_eq_getElem hlt')]
            exact ⟨_, rfl, rfl, rfl⟩
          · cases hq : starG SF.deepB r.steps m with
            | false => rfl
            | true => exact absurd (Int.ofNat_lt.mpr (starG_lt hq)) hge
        · rintro H3 ⟨rfl, hb⟩
          have hlt := starG_lt hb.symm
          walk_at "rd"
          refine ⟨⟨_, .inl (.inl hF2)⟩, mid_of (fun v H' => Same H3 H' ∧ SpotV (m + 1, -2) v H') ?_ ?_⟩
          · walk_at "rd"
            exact fun p1 hp1 => ⟨same_new hp1, p1, rfl, upd_same⟩
          rintro v H4 ⟨s4, sv⟩
          have lp := hps.1
          refine ⟨_, s4 _ _ hF2, by omega, _, ?_, _, xs ++ [(m + 1, -2)], m + 1, rfl, same_mut (s2.trans s4) hF0, upd_same, ((hps.imp fun _ _ h => h.mono s4).imp fun _ _ h => h.nl (nl_upd (s4 _ _ hF2))).snoc (sv.nl (nl_upd (s4 _ _ hF2))), ?_, mem_seg mem (by have := cl.1; omega), cl.snoc hb.symm, rfl⟩
          · omega
          · have := cl.1
            rw [List.length_append, lxs]
            show m - k + 1 + 1 = _
            omega
        · rintro H3 ⟨rfl, hb⟩
          exact ⟨ps, xs, m, rfl, s2, hF2, hps, by omega, mem, cl, hb.symm⟩
    · rintro σ H2 ⟨ps, xs, m, rfl, s2, hF2, hps, lxs, mem, cl, hst⟩
      walk_at "rd"
      refine q F ps xs H2 s2 hF0 hF2 hps lxs fun x => ?_
      rw [mem]
      refine exists_congr fun i => and_congr_right fun _ => ⟨fun ⟨h1, h2⟩ => ⟨h1, fun j a b => cl.2 j a (by omega)⟩, fun h => ⟨h.1, ?_⟩⟩
      rcases Nat.lt_or_ge m i with e | e
      · have := h.2 m cl.1 e
        rw [hst] at this
        cases this
      · exact e
def spWithin (K : PySem.W.Frag) : Sp := fun vs H Q _ => ∃ v r, ∃ n s : Nat, ∃ fs, vs = [v, .int n, .int s] ∧ RowV K r v H ∧ r.steps[n]? = some (.seg fs) ∧ s ≤ fs.length ∧ fs.length ≤ 1000 ∧
  ∀ F us xs H', Same H H' → H F = none → H' F = some (.lst us) → Spots xs us H' → xs.length ≤ fs.length + 1 → (∀ x, x ∈ xs ↔ ∃ i : Nat, x = (n, (i : Int)) ∧ Clos fs s i) → Q (.ref F) H'
theorem ok_within (T : Txt K mg) : OkD P w K mg base 2 (fA K "within") ["row", "number", "spot"] [] (spWithin K) := by
  refine okD T.F_within sc_within (fun _ _ _ _ _ _ us hl => match us, hl with | [_, _, _], _ => rfl) ?_ ?_
  · rintro vs H Q E ⟨v, r, n, s0, fs, rfl, _⟩
    rfl
  · rintro cdv A outer s H vs Q E hr ⟨v, r, n, s0, fs, rfl, ⟨p, dx, t, us, rfl, ho, ht, hp, hne⟩, hn, hk, hl, q⟩
    refine ⟨_, (pss_cons (ps_set (i := 3) sc_within.nd rfl (Or.inl rfl) (pe_mid (pe_fldK (K := K) (pe_ix (o_ix (K := K)) (pe_fldK (K := K) (pv 0) rfl) (pv 1) (fun _ _ => rfl)) rfl)))
  (pss_cons (ps_set (i := 4) sc_within.nd rfl (Or.inl rfl) (pe_mid (pe_lst (pa_cons (pe_tup (pa_cons (pv 1) (pa_cons (pv 2) pa_nil))) pa_nil))))
  (pss_cons (ps_mid (ps_while (passes_of rfl) (pt_mid (PW.pt (pw_and (pt_cmpR o_lt (pv 2) (pe_callB (o_lenW (K := K) (w := w)) (by rfl) T.fr_len boot_len (pa_cons (pv 3) pa_nil)) (nomark _)) (pw_and1 (pt_tru (K := K) (pe_metI0 (md_many T) (pe_ix (o_ix (K := K)) (pv 3) (pv 2) (fun _ _ => rfl)) (hr.mono (by decide)) (pasE (takes_of rfl rfl rfl rfl) (fun _ _ _ _ h => h))) (by intro _; rfl)))))) (pss_cons (ps_aug (i := 2) sc_within.nd rfl (Or.inl rfl) pe_int o_iadd)
  (pss_one (ps_expr (pe_bmK (K := K) PySem.F.plainAttrs_list PySem.F.slot_list_append PySem.F.type_list_append mt_append (pv 4) (pa_cons (pe_mid (pe_tup (pa_cons (pv 1) (pa_cons (pv 2) pa_nil)))) pa_nil)))))))
  (pss_one (ps_ret (pv 4)))))), ?_⟩
    have tobj := T.obj
    obtain ⟨u, hu, pS, dS, tS, usS, rfl, hoS, htS, hpS, hneS⟩ := hp.2 n _ hn
    refine q_midG (fun v H' => H' = H ∧ v = .ref tS) ?_ ?_
    · walk_at "rdh"
      exact ⟨us, .inr (.inl (.inl ht)), _, atI_nat hu, pS, rfl, _, _, _, hoS, tobj.2.2.2.2.2.2.2.1, by simp [tobj], .ref tS, rfl, rfl⟩
    rintro _ _ ⟨rfl, rfl⟩
    rename_i H
    refine q_midG (fun v H' => Same H H' ∧ ∃ F ps, v = .ref F ∧ H F = none ∧ H' F = some (.lst ps) ∧ Spots [(n, (s0 : Int))] ps H') ?_ ?_
    · walk_at "rd"
      intro p1 hp1 p2 hp2
      have t1 := same_new (o := .tup [.int (n : Nat), .int (s0 : Nat)]) hp1
      have t2 := same_new (o := .lst [.ref p1]) hp2
      refine ⟨t1.trans t2, same_none t1 hp2, _, upd_same, Each.nil.snoc ⟨p1, rfl, ?_⟩⟩
      rw [show vJ (s0 : Int) = V.int (s0 : Int) from vJ_int (by omega)]
      exact t2 _ _ upd_same
    rintro _ H1 ⟨s1, F, ps, rfl, hF0, hF, hps⟩
    refine q_stm (fun σ H' => ∃ ps xs, ∃ m : Nat, σ = [some (.ref p), some (.int (n : Nat)), some (.int (m : Nat)), some (.ref tS), some (.ref F)] ∧ Same H H' ∧ H' F = some (.lst ps) ∧ Spots xs ps H' ∧ xs.length ≤ fs.length + 1 ∧ (∀ x, x ∈ xs ↔ ∃ i : Nat, x = (n, (i : Int)) ∧ s0 ≤ i ∧ i ≤ m) ∧ Clos fs s0 m ∧ starAt fs m = false) ?_ ?_
    · refine while_mid (fun w σ H' => ∃ ps xs, ∃ m : Nat, σ = [some (.ref p), some (.int (n : Nat)), some (.int (m : Nat)), some (.ref tS), some (.ref F)] ∧ Same H H' ∧ H' F = some (.lst ps) ∧ Spots xs ps H' ∧ xs.length = m - s0 + 1 ∧ (∀ x, x ∈ xs ↔ ∃ i : Nat, x = (n, (i : Int)) ∧ s0 ≤ i ∧ i ≤ m) ∧ Clos fs s0 m ∧ w = fs.length + 1 - m) _
          ⟨ps, [(n, (s0 : Int))], s0, rfl, s1, hF, hps, by simp, fun x => ?_, Clos.refl, rfl⟩ ?_
      · rw [List.mem_singleton]
        exact ⟨fun h => ⟨s0, h, Nat.le_refl _, Nat.le_refl _⟩, fun ⟨i, h, h1, h2⟩ => by rw [h, Nat.le_antisymm h2 h1]⟩
      · rintro w σ H2 ⟨ps, xs, m, rfl, s2, hF2, hps, lxs, mem, cl, rfl⟩
        have ml := cl.le (n := 0) hk
        have hpS2 := hpS.mono s2
        refine ⟨fun b H' => H' = H2 ∧ b = starAt fs m, ?_, ?_, ?_⟩
        · walk_at "rd"
          refine .inr ⟨_, .inr ⟨usS, .inl (.inl (s2 _ _ htS)), rfl⟩, ?_⟩
          rw [hpS2.1]
          refine ite2 (fun hlt => ?_) fun hge => ?_
          · have hlt' : m < fs.length := Int.ofNat_lt.mp hlt
            obtain ⟨u, hu, pu⟩ := hpS2.2 m fs[m] (List.getElem?_eq_getElem hlt')
            refine ⟨usS, .inr (.inl (.inl (s2 _ _ htS))), u, atI_nat hu, fs[m], pu, u, rfl, pu, ?_⟩
            rw [starAt_eq (List.getElem?_eq_getElem hlt')]
            exact ⟨_, rfl, rfl, rfl⟩
          · cases hq : starAt fs m with
            | false => rfl
            | true => exact absurd (Int.ofNat_lt.mpr (starAt_lt hq)) hge
        · rintro H3 ⟨rfl, hb⟩
          have hlt := starAt_lt hb.symm
          walk_at "rd"
          refine ⟨⟨_, .inl (.inl hF2)⟩, mid_of (fun v H' => Same H3 H' ∧ SpotV (n, ((m + 1 : Nat) : Int)) v H') ?_ ?_⟩
          · walk_at "rd"
            refine fun p1 hp1 => ⟨same_new hp1, p1, rfl, ?_⟩
            rw [vJ_int (by show ((m + 1 : Nat) : Int) ≠ -2; omega)]
            exact upd_same
          rintro v H4 ⟨s4, sv⟩
          have lp := hps.1
          refine ⟨_, s4 _ _ hF2, by omega, _, ?_, _, xs ++ [(n, ((m + 1 : Nat) : Int))], m + 1, rfl, same_mut (s2.trans s4) hF0, upd_same, ((hps.imp fun _ _ h => h.mono s4).imp fun _ _ h => h.nl (nl_upd (s4 _ _ hF2))).snoc (sv.nl (nl_upd (s4 _ _ hF2))), ?_, mem_segI mem (by have := cl.1; omega), cl.snoc hb.symm, rfl⟩
          · omega
          · have := cl.1
            rw [List.length_append, lxs]
            show m - s0 + 1 + 1 = _
            omega
        · rintro H3 ⟨rfl, hb⟩
          exact ⟨ps, xs, m, rfl, s2, hF2, hps, by omega, mem, cl, hb.symm⟩
    · rintro σ H2 ⟨ps, xs, m, rfl, s2, hF2, hps, lxs, mem, cl, hst⟩
      walk_at "rd"
      refine q F ps xs H2 s2 hF0 hF2 hps lxs fun x => ?_
      rw [mem]
      refine exists_congr fun i => and_congr_right fun _ => ⟨fun ⟨h1, h2⟩ => ⟨h1, fun j a b => cl.2 j a (by omega)⟩, fun h => ⟨h.1, ?_⟩⟩
      rcases Nat.lt_or_ge m i with e | e
      · have := h.2 m cl.1 e
        rw [hst] at this
        cases this
      · exact e
/-! ### stands -/
def fitAt (fs : List PF) (s c : Nat) : Bool := match fs[s]? with
  | some f => f.fits c
  | none => false
theorem fitAt_iff {fs : List PF} {s c : Nat} : fitAt fs s c = true ↔ ∃ f, fs[s]? = some f ∧ f.fits c = true := by
  unfold fitAt
  cases fs[s]? with
  | none => exact ⟨fun h => (nomatch h), fun ⟨_, h, _⟩ => (nomatch h)⟩
  | some f => exact ⟨fun h => ⟨f, rfl, h⟩, fun ⟨_, h, g⟩ => by cases h; exact g⟩
def PartStep (fs : List PF) (j c i : Nat) : Prop := ∃ f, fs[j]? = some f ∧ f.fits c = true ∧ Clos fs (if f.many = true then j else j + 1) i
def spByPart (K : PySem.W.Frag) : Sp := fun vs H Q _ => ∃ v r, ∃ n s c : Nat, ∃ fs, vs = [v, .int n, .int s, .str (S [c])] ∧ RowV K r v H ∧ r.steps[n]? = some (.seg fs) ∧ s ≤ fs.length ∧ fs.length ≤ 1000 ∧
  ∀ F us xs H', Same H H' → H F = none → H' F = some (.lst us) → Spots xs us H' → xs.length ≤ fs.length + 1 → (∀ x, x ∈ xs ↔ ∃ i : Nat, x = (n, (i : Int)) ∧ PartStep fs s c i) → Q (.ref F) H'
theorem ok_by_part (T : Txt K mg) : OkD P w K mg base 3 (fA K "by_part") ["row", "number", "spot", "sign"] [] (spByPart K) := by
  refine okD T.F_by_part sc_by_part (fun _ _ _ _ _ _ us hl => match us, hl with | [_, _, _, _], _ => rfl) ?_ ?_
  · rintro vs H Q E ⟨v, r, n, s0, c, fs, rfl, _⟩
    rfl
  · rintro cdv A outer s H vs Q E hr ⟨v, r, n, s0, c, fs, rfl, hv, hn, hk, hl, q⟩
    refine ⟨_, (pss_cons (ps_set (i := 4) sc_by_part.nd rfl (Or.inl rfl) (pe_mid (pe_fldK (K := K) (pe_ix (o_ix (K := K)) (pe_fldK (K := K) (pv 0) rfl) (pv 1) (fun _ _ => rfl)) rfl)))
  (pss_cons (ps_if (pt_mid (PW.pt (pw_or (pt_cmpR (o_eq (K := K) (hu64 hr)) (pv 2) (pe_callB (o_lenW (K := K) (w := w)) (by rfl) T.fr_len boot_len (pa_cons (pv 4) pa_nil)) (nomark _)) (pw_or1 (pt_not (pt_tru (K := K) (pe_metI (md_fits T) (pe_ix (o_ix (K := K)) (pv 4) (pv 2) (fun _ _ => rfl)) (hr.mono (by decide)) (pasE (takes_of rfl rfl rfl rfl) (fun _ _ _ _ h => h)) (pa_cons (pv 3) pa_nil)) (by intro _; rfl))))))) (pss_one (ps_ret (pe_lst pa_nil))) pss_nil)
  (pss_one (ps_ret (pe_cal (ok_within T) (hr.mono (by decide)) rfl T.g_within (pasE (takes_of rfl rfl rfl rfl) (fun _ _ _ _ h => h)) (pa_cons (pv 0) (pa_cons (pv 1) (pa_cons (pe_op (o_add (K := K)) (pv 2) (pe_callTy o_int (by rfl) T.fr_int (by decide +kernel) (pa_cons (pe_notK (K := K) (pe_metI0 (md_many T) (pe_ix (o_ix (K := K)) (pv 4) (pv 2) (fun _ _ => rfl)) (hr.mono (by decide)) (pasE (takes_of rfl rfl rfl rfl) (fun _ _ _ _ h => h)))) pa_nil))) pa_nil)))))))), ?_⟩
    have tobj := T.obj
    obtain ⟨p, dx, t, us, rfl, ho, ht, hp, hne⟩ := id hv
    obtain ⟨u, hu, pS, dS, tS, usS, rfl, hoS, htS, hpS, hneS⟩ := hp.2 n _ hn
    refine q_midG (fun v H' => H' = H ∧ v = .ref tS) ?_ ?_
    · walk_at "rdh"
      exact ⟨us, .inr (.inl (.inl ht)), _, atI_nat hu, pS, rfl, _, _, _, hoS, tobj.2.2.2.2.2.2.2.1, by simp [tobj], .ref tS, rfl, rfl⟩
    rintro _ _ ⟨rfl, rfl⟩
    rename_i H
    refine q_if (fun b H' => Same H H' ∧ b = !fitAt fs s0 c) ?_ ?_ ?_
    · walk_at "rd"
      refine .inr ⟨_, .inr ⟨usS, .inl (.inl htS), rfl⟩, ?_⟩
      rw [hpS.1]
      refine ite2 (fun he => ?_) fun hge => ?_
      · unfold fitAt
        rw [List.getElem?_eq_none (by have := Int.ofNat.inj he; omega)]
        rfl
      · have hlt : s0 < fs.length := Nat.lt_of_le_of_ne hk fun e => hge (congrArg Int.ofNat e)
        obtain ⟨pu, hpu, pv⟩ := hpS.2 s0 fs[s0] (List.getElem?_eq_getElem hlt)
        refine ⟨usS, .inr (.inl (.inl htS)), pu, atI_nat hpu, fs[s0], pv, pu, c, rfl, pv, _, rfl, Same.refl _, ?_⟩
        unfold fitAt
        rw [List.getElem?_eq_getElem hlt]
    · rintro H1 ⟨s1, hb⟩
      walk_at "rd"
      refine fun F hF => q F [] [] _ (s1.trans (same_new hF)) (same_none s1 hF) upd_same .nil (by simp) fun x => ?_
      constructor
      · exact fun h => nomatch h
      · rintro ⟨i, rfl, f, hf, hc, _⟩
        rw [fitAt_iff.mpr ⟨f, hf, hc⟩] at hb
        cases hb
    · rintro H1 ⟨s1, hb⟩
      obtain ⟨f, hf, hc⟩ : ∃ f, fs[s0]? = some f ∧ f.fits c = true := fitAt_iff.mp (by simpa using hb.symm)
      have hlt := (List.getElem?_eq_some_iff.mp hf).1
      obtain ⟨pu, hpu, pv⟩ := hpS.2 s0 f hf
      walk_at "rd"
      have e : (if f.many = false then (1 : Int) else 0) = ((if f.many = true then 0 else 1 : Nat) : Int) := by cases f.many <;> rfl
      refine ⟨usS, .inr (.inl (.inl (s1 _ _ htS))), pu, atI_nat hpu, f, pv.mono s1, pu, rfl, pv.mono s1, _, rfl, _, r, n, s0 + (if f.many = true then 0 else 1), fs, ?_, hv.mono s1, hn, ?_, hl, fun F us xs H' s2 hF0 hF sp lx mem => q F us xs H' (s1.trans s2) (same_none s1 hF0) hF sp lx fun x => ?_⟩
      · rw [e]
        rfl
      · split <;> omega
      · rw [mem]
        refine exists_congr fun i => and_congr_right fun _ => ?_
        have e2 : s0 + (if f.many = true then 0 else 1) = if f.many = true then s0 else s0 + 1 := by split <;> rfl
        rw [e2]
        exact ⟨fun h => ⟨f, hf, hc, h⟩, fun ⟨f', h1, _, h3⟩ => by rw [hf] at h1; cases h1; exact h3⟩
def StandB (r : RF) (ws : List (List Nat)) (x : Spot) : Prop := ∃ k : Nat, x = (k, (-2 : Int)) ∧ AtG SF.deepB SF.fitB r.steps ws k
def StandW (r : RF) (ws : List (List Nat)) (w : List Nat) (x : Spot) : Prop := ∃ k : Nat, AtG SF.deepB SF.fitB r.steps ws k ∧ ((r.steps[k]? = some .deep ∧ x = (k, (-1 : Int))) ∨ ∃ fs, ∃ j : Nat, r.steps[k]? = some (.seg fs) ∧ At fs w j ∧ x = (k, (j : Int)))
def Stand (r : RF) (ws : List (List Nat)) (w : List Nat) (x : Spot) : Prop := if w = [] then StandB r ws x else StandW r ws w x
/-- a row of few steps, few parts -/
structure Few (r : RF) : Prop where
  ne : r.steps ≠ []
  steps : r.steps.length ≤ 12
  parts : ∀ fs, SF.seg fs ∈ r.steps → fs.length ≤ 60
theorem Few.seg {r : RF} (h : Few r) {k : Nat} {fs : List PF} (e : r.steps[k]? = some (.seg fs)) : fs.length ≤ 60 := h.parts fs (List.mem_of_getElem? e)
theorem stand_len {r : RF} {ws : List (List Nat)} {w : List Nat} {xs : List Spot} (f : Few r) (so : xs.Pairwise ltS) (mem : ∀ x ∈ xs, Stand r ws w x) : xs.length ≤ 1000 := by
  have nd : xs.Nodup := so.imp fun h e => by rw [e] at h; exact ltS_irr h
  have h := nodup_len nd (b := (List.range 13).flatMap fun k => (List.range 63).map fun (j : Nat) => ((k, (j : Int) - 2) : Spot)) fun x hx => ?_
  · have e : ((List.range 13).flatMap fun k => (List.range 63).map fun (j : Nat) => ((k, (j : Int) - 2) : Spot)).length = 819 := by decide +kernel
    rw [e] at h
    omega
  · rw [List.mem_flatMap]
    have m := mem x hx
    have key : ∃ k : Nat, k ≤ 12 ∧ ∃ j : Nat, j ≤ 62 ∧ x = (k, (j : Int) - 2) := by
      unfold Stand at m
      have fl := f.steps
      split at m
      · obtain ⟨k, rfl, h1⟩ := m
        exact ⟨k, Nat.le_trans h1.1 fl, 0, by omega, rfl⟩
      · obtain ⟨k, h1, ⟨_, rfl⟩ | ⟨fs, j, e, h2, rfl⟩⟩ := m
        · exact ⟨k, Nat.le_trans h1.1 fl, 1, by omega, rfl⟩
        · have := f.seg e
          have := h2.1
          exact ⟨k, Nat.le_trans h1.1 fl, j + 2, by omega, Prod.ext rfl (by show (j : Int) = ((j + 2 : Nat) : Int) - 2; omega)⟩
    obtain ⟨k, hk, j, hj, rfl⟩ := key
    exact ⟨k, List.mem_range.mpr (by omega), List.mem_map.mpr ⟨j, List.mem_range.mpr (by omega), rfl⟩⟩
theorem stand_b {r : RF} {ws : List (List Nat)} {w : List Nat} {x : Spot} (h : w = []) : Stand r ws w x ↔ StandB r ws x := by
  unfold Stand
  rw [if_pos h]
theorem stand_w {r : RF} {ws : List (List Nat)} {w : List Nat} {x : Spot} (h : w ≠ []) : Stand r ws w x ↔ StandW r ws w x := by
  unfold Stand
  rw [if_neg h]
/-- where a sign leads -/
def SignStep (r : RF) (c : Nat) (x y : Spot) : Prop := ∃ k : Nat, (r.steps[k]? = some .deep ∧ x.1 = k ∧ y = (k, (-1 : Int))) ∨ ∃ fs, r.steps[k]? = some (.seg fs) ∧
  ((x = (k, (-2 : Int)) ∧ ∃ j i : Nat, Clos fs 0 j ∧ PartStep fs j c i ∧ y = (k, (i : Int))) ∨ ∃ j i : Nat, x = (k, (j : Int)) ∧ PartStep fs j c i ∧ y = (k, (i : Int)))
theorem stand_sign {r : RF} {ws : List (List Nat)} {w : List Nat} {c : Nat} {y : Spot} : Stand r ws (w ++ [c]) y ↔ ∃ x, Stand r ws w x ∧ SignStep r c x y := by
  rw [stand_w (by simp : w ++ [c] ≠ [])]
  constructor
  · rintro ⟨k, h1, ⟨e, rfl⟩ | ⟨fs, i, e, h2, rfl⟩⟩
    · by_cases hw : w = []
      · exact ⟨(k, -2), (stand_b hw).mpr ⟨k, rfl, h1⟩, k, .inl ⟨e, rfl, rfl⟩⟩
      · exact ⟨(k, -1), (stand_w hw).mpr ⟨k, h1, .inl ⟨e, rfl⟩⟩, k, .inl ⟨e, rfl, rfl⟩⟩
    · obtain ⟨j, f, a1, a2, a3, a4⟩ := at_snoc.mp h2
      by_cases hw : w = []
      · rw [hw] at a1
        exact ⟨(k, -2), (stand_b hw).mpr ⟨k, rfl, h1⟩, k, .inr ⟨fs, e, .inl ⟨rfl, j, i, at_nil.mp a1, ⟨f, a2, a3, a4⟩, rfl⟩⟩⟩
      · exact ⟨(k, j), (stand_w hw).mpr ⟨k, h1, .inr ⟨fs, j, e, a1, rfl⟩⟩, k, .inr ⟨fs, e, .inr ⟨j, i, rfl, ⟨f, a2, a3, a4⟩, rfl⟩⟩⟩
  · rintro ⟨x, hx, k, ⟨e, rfl, rfl⟩ | ⟨fs, e, ⟨rfl, j, i, h2, ⟨f, a2, a3, a4⟩, rfl⟩ | ⟨j, i, rfl, ⟨f, a2, a3, a4⟩, rfl⟩⟩⟩
    · unfold Stand at hx
      split at hx
      · obtain ⟨k, rfl, h1⟩ := hx
        exact ⟨k, h1, .inl ⟨e, rfl⟩⟩
      · obtain ⟨k, h1, ⟨_, rfl⟩ | ⟨_, _, _, _, rfl⟩⟩ := hx
        · exact ⟨k, h1, .inl ⟨e, rfl⟩⟩
        · exact ⟨k, h1, .inl ⟨e, rfl⟩⟩
    · unfold Stand at hx
      split at hx
      · rename_i hw
        obtain ⟨k', e', h1⟩ := hx
        obtain rfl : k = k' := congrArg (·.1) e'
        refine ⟨k, h1, .inr ⟨fs, i, e, at_snoc.mpr ⟨j, f, ?_, a2, a3, a4⟩, rfl⟩⟩
        rw [hw]
        exact at_nil.mpr h2
      · obtain ⟨k', h1, ⟨_, e'⟩ | ⟨_, j', _, _, e'⟩⟩ := hx
        · have : (-2 : Int) = -1 := congrArg (·.2) e'
          omega
        · have : (-2 : Int) = (j' : Int) := congrArg (·.2) e'
          omega
    · unfold Stand at hx
      split at hx
      · obtain ⟨k', e', h1⟩ := hx
        have : (j : Int) = -2 := congrArg (·.2) e'
        omega
      · obtain ⟨k', h1, ⟨_, e'⟩ | ⟨fs', j', e2, h2, e'⟩⟩ := hx
        · have : (j : Int) = -1 := congrArg (·.2) e'
          omega
        · obtain rfl : k = k' := congrArg (·.1) e'
          have ej : (j : Int) = (j' : Int) := congrArg (·.2) e'
          obtain rfl : j = j' := by omega
          rw [e] at e2
          cases e2
          exact ⟨k, h1, .inr ⟨fs, i, e, at_snoc.mpr ⟨j, f, h2, a2, a3, a4⟩, rfl⟩⟩
/-- where a slash leads -/
def SlashStep (r : RF) (x y : Spot) : Prop := ∃ k : Nat, (x = (k, (-1 : Int)) ∧ ∃ i : Nat, y = (i, (-2 : Int)) ∧ ClosG SF.deepB r.steps k i) ∨ ∃ fs, r.steps[k]? = some (.seg fs) ∧ x = (k, (fs.length : Int)) ∧ ∃ i : Nat, y = (i, (-2 : Int)) ∧ ClosG SF.deepB r.steps (k + 1) i
theorem stand_slash {r : RF} {ws : List (List Nat)} {w : List Nat} {y : Spot} (hw : w ≠ []) : Stand r (ws ++ [w]) [] y ↔ ∃ x, Stand r ws w x ∧ SlashStep r x y := by
  rw [stand_b rfl]
  constructor
  · rintro ⟨i, rfl, h⟩
    obtain ⟨s, f, a1, a2, a3, a4⟩ := (atG_snoc SF.deep_fits).mp h
    cases f with
    | deep => exact ⟨(s, -1), (stand_w hw).mpr ⟨s, a1, .inl ⟨a2, rfl⟩⟩, s, .inl ⟨rfl, i, rfl, a4⟩⟩
    | seg fs => exact ⟨(s, fs.length), (stand_w hw).mpr ⟨s, a1, .inr ⟨fs, fs.length, a2, at_end.mpr (SL.fitB_iff.mp a3), rfl⟩⟩, s, .inr ⟨fs, a2, rfl, i, rfl, a4⟩⟩
  · rintro ⟨x, hx, k, ⟨rfl, i, rfl, hc⟩ | ⟨fs, e, rfl, i, rfl, hc⟩⟩ <;> obtain ⟨k', h1, hx⟩ := (stand_w hw).mp hx
    · rcases hx with ⟨e, e'⟩ | ⟨_, j, _, _, e'⟩
      · obtain rfl : k = k' := congrArg (·.1) e'
        exact ⟨i, rfl, (atG_snoc SF.deep_fits).mpr ⟨k, .deep, h1, e, rfl, hc⟩⟩
      · have : (-1 : Int) = (j : Int) := congrArg (·.2) e'
        omega
    · rcases hx with ⟨_, e'⟩ | ⟨fs', j, e2, h2, e'⟩
      · have : (fs.length : Int) = -1 := congrArg (·.2) e'
        omega
      · obtain rfl : k = k' := congrArg (·.1) e'
        rw [e] at e2
        cases e2
        have ej : (fs.length : Int) = (j : Int) := congrArg (·.2) e'
        obtain rfl : fs.length = j := by omega
        exact ⟨i, rfl, (atG_snoc SF.deep_fits).mpr ⟨k, .seg fs, h1, e, SL.fitB_iff.mpr (at_end.mp h2), hc⟩⟩
theorem stand_nil {r : RF} {y : Spot} : Stand r [] [] y ↔ ∃ i : Nat, y = (i, (-2 : Int)) ∧ ClosG SF.deepB r.steps 0 i := by
  unfold Stand
  rw [if_pos rfl]
  exact exists_congr fun i => and_congr_right fun _ => atG_nil
theorem stand_fits {r : RF} {ws : List (List Nat)} : Stand r ws [] (r.steps.length, -2) ↔ RFit r.steps ws := by
  unfold Stand
  rw [if_pos rfl]
  constructor
  · rintro ⟨k, e, h⟩
    obtain rfl : r.steps.length = k := congrArg (·.1) e
    exact atG_end.mp h
  · exact fun h => ⟨_, rfl, atG_end.mpr h⟩
theorem signStep_lt {r : RF} {c : Nat} {x y : Spot} (h : SignStep r c x y) : x.1 < r.steps.length := by
  obtain ⟨k, ⟨e, rfl, _⟩ | ⟨fs, e, ⟨rfl, _⟩ | ⟨_, _, rfl, _⟩⟩⟩ := h
  · exact (List.getElem?_eq_some_iff.mp e).1
  · exact (List.getElem?_eq_some_iff.mp e).1
  · exact (List.getElem?_eq_some_iff.mp e).1
theorem signStep_deep {r : RF} {c n : Nat} {j : Int} {y : Spot} (h : r.steps[n]? = some .deep) : SignStep r c (n, j) y ↔ y = (n, -1) := by
  constructor
  · rintro ⟨k, ⟨e, h1, h2⟩ | ⟨fs, e, ⟨h1, _⟩ | ⟨_, _, h1, _⟩⟩⟩
    · obtain rfl : n = k := h1
      exact h2
    · obtain rfl : n = k := congrArg (·.1) h1
      rw [h] at e; cases e
    · obtain rfl : n = k := congrArg (·.1) h1
      rw [h] at e; cases e
  · exact fun e => ⟨n, .inl ⟨h, rfl, e⟩⟩
theorem signStep_begin {r : RF} {c n : Nat} {fs : List PF} {y : Spot} (h : r.steps[n]? = some (.seg fs)) : SignStep r c (n, -2) y ↔ ∃ j, Clos fs 0 j ∧ ∃ i : Nat, y = (n, (i : Int)) ∧ PartStep fs j c i := by
  constructor
  · rintro ⟨k, ⟨e, h1, h2⟩ | ⟨fs', e, ⟨h1, j, i, h2, h3, h4⟩ | ⟨j, i, h1, _⟩⟩⟩
    · obtain rfl : n = k := h1
      rw [h] at e; cases e
    · obtain rfl : n = k := congrArg (·.1) h1
      rw [h] at e; cases e
      exact ⟨j, h2, i, h4, h3⟩
    · have : (-2 : Int) = (j : Int) := congrArg (·.2) h1
      omega
  · rintro ⟨j, h1, i, h2, h3⟩
    exact ⟨n, .inr ⟨fs, h, .inl ⟨rfl, j, i, h1, h3, h2⟩⟩⟩
theorem signStep_in {r : RF} {c n j : Nat} {fs : List PF} {y : Spot} (h : r.steps[n]? = some (.seg fs)) : SignStep r c (n, (j : Int)) y ↔ ∃ i : Nat, y = (n, (i : Int)) ∧ PartStep fs j c i := by
  constructor
  · rintro ⟨k, ⟨e, h1, h2⟩ | ⟨fs', e, ⟨h1, _⟩ | ⟨j', i, h1, h3, h4⟩⟩⟩
    · obtain rfl : n = k := h1
      rw [h] at e; cases e
    · have : (j : Int) = -2 := congrArg (·.2) h1
      omega
    · obtain rfl : n = k := congrArg (·.1) h1
      have ej : (j : Int) = (j' : Int) := congrArg (·.2) h1
      obtain rfl : j = j' := by omega
      rw [h] at e; cases e
      exact ⟨i, h4, h3⟩
  · rintro ⟨i, h2, h3⟩
    exact ⟨n, .inr ⟨fs, h, .inr ⟨j, i, rfl, h3, h2⟩⟩⟩
theorem stand_le {r : RF} {ws : List (List Nat)} {w : List Nat} {x : Spot} (h : Stand r ws w x) : x.1 ≤ r.steps.length := by
  unfold Stand at h
  split at h
  · obtain ⟨k, rfl, h1⟩ := h
    exact h1.1
  · obtain ⟨k, h1, ⟨_, rfl⟩ | ⟨_, _, _, _, rfl⟩⟩ := h
    · exact h1.1
    · exact h1.1
theorem stand_seg {r : RF} {ws : List (List Nat)} {w : List Nat} {n : Nat} {j : Int} {fs : List PF} (h : Stand r ws w (n, j)) (e : r.steps[n]? = some (.seg fs)) (hj : j ≠ -2) : ∃ i : Nat, j = (i : Int) ∧ i ≤ fs.length := by
  unfold Stand at h
  split at h
  · obtain ⟨k, e', h1⟩ := h
    exact absurd (congrArg (·.2) e') hj
  · obtain ⟨k, h1, ⟨e2, e'⟩ | ⟨fs', i, e2, h2, e'⟩⟩ := h
    · obtain rfl : n = k := congrArg (·.1) e'
      rw [e] at e2
      cases e2
    · obtain rfl : n = k := congrArg (·.1) e'
      rw [e] at e2
      cases e2
      exact ⟨i, congrArg (·.2) e', h2.1⟩
def spBegin (K : PySem.W.Frag) : Sp := fun vs H Q _ => ∃ v r, vs = [v] ∧ RowV K r v H ∧ Few r ∧ ∀ F us xs H', Same H H' → H F = none → H' F = some (.lst us) → Spots xs us H' → xs.Pairwise ltS → (∀ x, x ∈ xs ↔ Stand r [] [] x) → Q (.ref F) H'
theorem ok_begin (T : Txt K mg) : OkD P w K mg base 5 (fA K "begin") ["row"] [] (spBegin K) := by
  refine okD T.F_begin sc_begin (fun _ _ _ _ _ _ us hl => match us, hl with | [_], _ => rfl) ?_ ?_
  · rintro vs H Q E ⟨v, r, rfl, _⟩
    rfl
  · rintro cdv A outer s H vs Q E hr ⟨v, r, rfl, hv, few, q⟩
    refine ⟨_, (pss_one (ps_ret (pe_cal (ok_rising T) (hr.mono (by decide)) rfl T.g_rising (pasE (takes_of rfl rfl rfl rfl) (fun _ _ _ _ h => h)) (pa_cons (pe_cal (ok_at_begin T) (hr.mono (by decide)) rfl T.g_at_begin (pasE (takes_of rfl rfl rfl rfl) (fun _ _ _ _ h => h)) (pa_cons (pv 0) (pa_cons pe_int pa_nil))) pa_nil)))), ?_⟩
    have tobj := T.obj
    have fl := few.steps
    walk_at "rd"
    refine ⟨v, r, 0, rfl, hv, Nat.zero_le _, by omega, fun F us xs H1 s1 hF0 hF sp lx mem => ⟨F, us, xs, rfl, .inl (.inl hF), sp, by omega, fun p H' us' ys s2 hp0 hp sp2 so mem2 => q p us' ys H' (s1.trans s2) (same_none s1 hp0) hp sp2 so fun x => ?_⟩⟩
    rw [mem2, mem, stand_nil]
def spBySign (K : PySem.W.Frag) : Sp := fun vs H Q _ => ∃ v r a us xs, ∃ ws w, ∃ c : Nat, vs = [v, .ref a, .str (S [c])] ∧ RowV K r v H ∧ Few r ∧ (SqT K H a us ∨ SqL K H a us) ∧ Spots xs us H ∧ xs.Pairwise ltS ∧ (∀ x, x ∈ xs ↔ Stand r ws w x) ∧
  ∀ F us xs H', Same H H' → H F = none → H' F = some (.lst us) → Spots xs us H' → xs.Pairwise ltS → (∀ x, x ∈ xs ↔ Stand r ws (w ++ [c]) x) → Q (.ref F) H'
theorem ok_by_sign (T : Txt K mg) : OkD P w K mg base 5 (fA K "by_sign") ["row", "stand", "sign"] [] (spBySign K) := by
  refine okD T.F_by_sign sc_by_sign (fun _ _ _ _ _ _ us hl => match us, hl with | [_, _, _], _ => rfl) ?_ ?_
  · rintro vs H Q E ⟨v, r, a, us, xs, ws, nm, c, rfl, _⟩
    rfl
  · rintro cdv A outer s H vs Q E hr ⟨v, r, a, us, xs, ws, nm, c, rfl, hv, few, ha, hsp, so, mem, q⟩
    refine ⟨_, (pss_cons (ps_set (i := 3) sc_by_sign.nd rfl (Or.inl rfl) (pe_lst pa_nil))
  (pss_cons (ps_mid (ps_for (passes_of rfl) rfl (pi_mid (o_it (K := K) rfl (pv 1))) (pg_tup rfl (pgs_cons (pg_name (i := 4) sc_by_sign.nd rfl (Or.inl rfl)) (pgs_cons (pg_name (i := 5) sc_by_sign.nd rfl (Or.inl rfl)) pgs_nil))) (pss_cons (ps_if (pt_mid (pt_cmpR (o_eq (K := K) (hu64 hr)) (pv 4) (pe_callB (o_lenW (K := K) (w := w)) (by rfl) T.fr_len boot_len (pa_cons (pe_fldK (K := K) (pv 0) rfl) pa_nil)) (nomark _))) (pss_one ps_continue) pss_nil)
  (pss_one (ps_if (pt_mid (pt_tru (K := K) (pe_metI0 (md_deep T) (pe_ix (o_ix (K := K)) (pe_fldK (K := K) (pv 0) rfl) (pv 4) (fun _ _ => rfl)) (hr.mono (by decide)) (pasE (takes_of rfl rfl rfl rfl) (fun _ _ _ _ h => h))) (by intro _; rfl))) (pss_one (ps_expr (pe_bmK (K := K) PySem.F.plainAttrs_list PySem.F.slot_list_append PySem.F.type_list_append mt_append (pv 3) (pa_cons (pe_mid (pe_tup (pa_cons (pv 4) (pa_cons (pe_un un_neg pe_int) pa_nil)))) pa_nil)))) (pss_one (ps_if (pt_mid (pt_cmp (pc_isN (pv 5)) rfl)) (pss_one (ps_for (passes_of rfl) rfl (pi_mid (o_it (K := K) rfl (pe_cal (ok_within T) (hr.mono (by decide)) rfl T.g_within (pasE (takes_of rfl rfl rfl rfl) (fun _ _ _ _ h => h)) (pa_cons (pv 0) (pa_cons (pv 4) (pa_cons pe_int pa_nil)))))) (pg_tup rfl (pgs_cons (pg_name (i := 6) sc_by_sign.nd rfl (Or.inl rfl)) (pgs_cons (pg_name (i := 7) sc_by_sign.nd rfl (Or.inl rfl)) pgs_nil))) (pss_one (ps_aug (i := 3) sc_by_sign.nd rfl (Or.inl rfl) (pe_cal (ok_by_part T) (hr.mono (by decide)) rfl T.g_by_part (pasE (takes_of rfl rfl rfl rfl) (fun _ _ _ _ h => h)) (pa_cons (pv 0) (pa_cons (pv 4) (pa_cons (pv 7) (pa_cons (pv 2) pa_nil))))) o_iadd)))) (pss_one (ps_aug (i := 3) sc_by_sign.nd rfl (Or.inl rfl) (pe_cal (ok_by_part T) (hr.mono (by decide)) rfl T.g_by_part (pasE (takes_of rfl rfl rfl rfl) (fun _ _ _ _ h => h)) (pa_cons (pv 0) (pa_cons (pv 4) (pa_cons (pv 5) (pa_cons (pv 2) pa_nil))))) o_iadd)))))))))
  (pss_one (ps_ret (pe_cal (ok_rising T) (hr.mono (by decide)) rfl T.g_rising (pasE (takes_of rfl rfl rfl rfl) (fun _ _ _ _ h => h)) (pa_cons (pv 3) pa_nil)))))), ?_⟩
    have tobj := T.obj
    have fl := few.steps
    have lx := stand_len few so fun x hx => (mem x).mp hx
    have lus := hsp.1
    obtain ⟨J0, G, hw, wk, hG⟩ := seq_walk ha
    refine q_new fun F hF => ?_
    have sF : Same H (upd H F (.lst [])) := same_new hF
    refine q_stm (fun σ H' => Same H H' ∧ ∃ ys ps x4 x5 x6 x7, σ = [some v, some (.ref a), some (.str (S [c])), some (.ref F), x4, x5, x6, x7] ∧ H' F = some (.lst ps) ∧ Spots ys ps H' ∧ ys.length ≤ 4000 * us.length ∧ ∀ y, y ∈ ys ↔ ∃ x ∈ xs, SignStep r c x y) ?_ ?_
    · refine for_midg (J0 := J0) (H0 := upd H F (.lst [])) (hw _ _ _ rfl sF) wk
        (fun k σ H' => Same H H' ∧ ∃ ys ps x4 x5 x6 x7, σ = [some v, some (.ref a), some (.str (S [c])), some (.ref F), x4, x5, x6, x7] ∧ H' F = some (.lst ps) ∧ Spots ys ps H' ∧ ys.length ≤ 4000 * k ∧ ∀ y, y ∈ ys ↔ ∃ x ∈ xs.take k, SignStep r c x y)
        ⟨sF, [], [], _, _, _, _, rfl, upd_same, .nil, Nat.le_refl _, fun y => by simp⟩ (fun k σ H' _ h => hG H' h.1) ?_ (fun σ H' h => ?_)
      · rintro k x σ H1 H1' hk ⟨s1, ys, ps, x4, x5, x6, x7, rfl, hF1, hys, ly, memy⟩ ⟨rfl, hx⟩
        obtain ⟨sp, hspk, sv⟩ := hsp.at' hx
        obtain ⟨t, rfl, ht⟩ := sv.mono s1
        obtain ⟨n, j⟩ := sp
        have st := (mem _).mp (List.mem_of_getElem? hspk)
        have nle : n ≤ r.steps.length := stand_le st
        have tk : xs.take (k + 1) = xs.take k ++ [(n, j)] := by rw [List.take_succ, hspk]; rfl
        have memk : ∀ y, (∃ x ∈ xs.take (k + 1), SignStep r c x y) ↔ (y ∈ ys ∨ SignStep r c (n, j) y) := fun y => by
          rw [tk, memy]
          constructor
          · rintro ⟨x, h1, h2⟩
            rcases List.mem_append.mp h1 with h | h
            · exact .inl ⟨x, h, h2⟩
            · rw [List.mem_singleton.mp h] at h2
              exact .inr h2
          · rintro (⟨x, h1, h2⟩ | h)
            · exact ⟨x, List.mem_append_left _ h1, h2⟩
            · exact ⟨_, List.mem_append_right _ List.mem_cons_self, h⟩
        have hv1 := hv.mono s1
        obtain ⟨rp, rdx, rt, rus, rfl, hrp, hrt, reach, rne⟩ := id hv1
        refine ⟨t, [.int (n : Nat), vJ j], rfl, .inl (.inl ht), rfl, _, _, rfl, _, [], rfl, rfl, ?_⟩
        refine q_if (fun b H' => H' = H1' ∧ b = decide (n = r.steps.length)) ?_ (fun H2 h => ?_) (fun H2 h => ?_)
        · walk_at "rdh"
          refine .inr ⟨_, .inr ⟨rus, .inl (.inl hrt), rfl⟩, ?_⟩
          rw [reach.1]
          exact decide_eq_decide.mpr ⟨fun h => Int.ofNat.inj h, fun h => congrArg Int.ofNat h⟩
        · obtain ⟨rfl, hb⟩ := h
          have e := of_decide_eq_true hb.symm
          refine ⟨s1, ys, ps, _, _, _, _, rfl, hF1, hys, by omega, fun y => ?_⟩
          rw [memk]
          refine ⟨.inl, fun h => h.elim id fun ⟨k', h⟩ => ?_⟩
          exact absurd e (Nat.ne_of_lt (signStep_lt ⟨k', h⟩))
        · obtain ⟨rfl, hb⟩ := h
          have nlt : n < r.steps.length := Nat.lt_of_le_of_ne nle (of_decide_eq_false hb.symm)
          have hst : r.steps[n]? = some r.steps[n] := List.getElem?_eq_getElem nlt
          generalize r.steps[n] = f at hst
          obtain ⟨fu, hfu, fv⟩ := reach.2 n f hst
          refine q_next ?_
          refine l_if (fun b H' => H' = H2 ∧ b = f.deepB) ?_ (fun H3 h => ?_) (fun H3 h => ?_)
          · walk_at "rdh"
            exact ⟨rus, .inr (.inl (.inl hrt)), fu, atI_nat hfu, f, fv, fu, rfl, fv, _, rfl, rfl, rfl⟩
          · obtain ⟨rfl, hb⟩ := h
            have fd : f = .deep := by cases f with | deep => rfl | seg fs => cases hb
            walk_at "rd"
            refine ⟨⟨_, .inl (.inl hF1)⟩, mid_of (fun v H' => Same H3 H' ∧ SpotV (n, -1) v H') ?_ ?_⟩
            · walk_at "rd"
              exact fun p1 hp1 => ⟨same_new hp1, p1, rfl, upd_same⟩
            rintro v H4 ⟨s4, sv4⟩
            have lp := hys.1
            have nl4 := nl_upd (o := .lst (ps ++ [v])) (s4 _ _ hF1)
            refine ⟨ps, s4 _ _ hF1, by omega, same_mut (s1.trans s4) hF, ys ++ [(n, -1)], _, upd_same, ((hys.imp fun _ _ h => h.mono s4).imp fun _ _ h => h.nl nl4).snoc (sv4.nl nl4), by rw [List.length_append]; show ys.length + 1 ≤ _; omega, fun y => ?_⟩
            rw [memk, List.mem_append, List.mem_singleton, signStep_deep (fd ▸ hst)]
          · obtain ⟨rfl, hb⟩ := h
            obtain ⟨fs, rfl⟩ : ∃ fs, f = .seg fs := by cases f with | deep => cases hb | seg fs => exact ⟨fs, rfl⟩
            have fl2 := few.seg hst
            refine l_if (fun b H' => H' = H3 ∧ b = decide (j = -2)) ?_ (fun H4 h => ?_) (fun H4 h => ?_)
            · walk_at "rd"
              exact vJ_non
            · obtain ⟨rfl, hb⟩ := h
              have ej := of_decide_eq_true hb.symm
              subst ej
              refine for_open (fun J H' => ∃ W wus wxs, J = Itl K W ∧ Same H4 H' ∧ H4 W = none ∧ H' W = some (.lst wus) ∧ Spots wxs wus H' ∧ wxs.length ≤ fs.length + 1 ∧ ∀ x, x ∈ wxs ↔ ∃ i : Nat, x = (n, (i : Int)) ∧ Clos fs 0 i) ?_ ?_
              · walk_at "rd"
                exact ⟨_, r, n, 0, fs, rfl, hv1, hst, Nat.zero_le _, by omega, fun W wus wxs H' s hW0 hW spw lw memw => .inl ⟨⟨_, .inl (.inl hW)⟩, W, rfl, s, hW0, wus, hW, wxs, spw, lw, memw⟩⟩
              rintro _ H5 ⟨W, wus, wxs, rfl, s5, hW0, hW, spw, lw, memw⟩
              have hWF : W ≠ F := fun z => by rw [z, hF1] at hW0; cases hW0
              have lwu := spw.1
              refine for_midg (J0 := Itl K W) (H0 := H5) ⟨rfl, rfl⟩ (walk_list (K := K) (a := W) (xs := wus))
                (fun m σ H' => Same H H' ∧ H' W = some (.lst wus) ∧ Spots wxs wus H' ∧ ∃ ys' ps' x6 x7, σ = [some (.ref rp), some (.ref a), some (.str (S [c])), some (.ref F), some (.int (n : Nat)), some (vJ (-2)), x6, x7] ∧ H' F = some (.lst ps') ∧ Spots ys' ps' H' ∧ ys'.length ≤ 4000 * k + 61 * m ∧ ∀ y, y ∈ ys' ↔ (y ∈ ys ∨ ∃ x ∈ wxs.take m, ∃ i : Nat, y = (n, (i : Int)) ∧ PartStep fs x.2.toNat c i))
                ⟨s1.trans s5, hW, spw, ys, ps, _, _, rfl, s5 _ _ hF1, hys.imp fun _ _ h => h.mono s5, by omega, fun y => by simp⟩ (fun _ _ _ _ h => .inl (.inl h.2.1)) ?_ (fun σ H' h => ?_)
              · rintro m x σ H6 H6' hm ⟨s6, hW6, spw6, ys', ps', x6, x7, rfl, hF6, hys6, ly6, mem6⟩ ⟨rfl, hx⟩
                obtain ⟨sp, hspm, t6, rfl, ht6⟩ := spw6.at' hx
                obtain ⟨i, rfl, cl⟩ := (memw sp).mp (List.mem_of_getElem? hspm)
                have hi := cl.le (n := 0) (Nat.zero_le _)
                rw [vJ_int (by show (i : Int) ≠ -2; omega)] at ht6
                refine ⟨t6, [.int (n : Nat), .int (i : Nat)], rfl, .inl (.inl ht6), rfl, _, _, rfl, _, [], rfl, rfl, ?_⟩
                have lp6 := hys6.1
                have hv6 := hv.mono s6
                unfold tAug
                refine ⟨.ref F, rfl, ?_⟩
                walk_at "rd"
                refine ⟨_, r, n, i, c, fs, rfl, hv6, hst, hi, by omega, fun P pus pxs H7 s7 hP0 hP spp lpp memp => ?_⟩
                show rExt2 _ _ _ _
                have hF7 := s7 _ _ hF6
                have lpu := spp.1
                refine ⟨F, P, ps', pus, rfl, rfl, hF7, hP, by rw [sizeLine_eq]; omega, ?_⟩
                have nl7 := nl_upd (o := .lst (ps' ++ pus)) hF7
                have t2 : wxs.take (m + 1) = wxs.take m ++ [(n, (i : Int))] := by rw [List.take_succ, hspm]; rfl
                refine ⟨same_mut (s6.trans s7) hF, by rw [upd_ne hWF]; exact s7 _ _ hW6, (spw6.imp fun _ _ h => h.mono s7).imp fun _ _ h => h.nl nl7, rfl, ys' ++ pxs, ps' ++ pus, upd_same, ((hys6.imp fun _ _ h => h.mono s7).app spp).imp fun _ _ h => h.nl nl7, by rw [List.length_append]; omega, fun y => ?_⟩
                rw [List.mem_append, mem6, memp, t2]
                constructor
                · rintro ((h | ⟨x, h1, h2⟩) | h)
                  · exact .inl h
                  · exact .inr ⟨x, List.mem_append_left _ h1, h2⟩
                  · exact .inr ⟨_, List.mem_append_right _ List.mem_cons_self, h⟩
                · rintro (h | ⟨x, h1, h2⟩)
                  · exact .inl (.inl h)
                  · rcases List.mem_append.mp h1 with h | h
                    · exact .inl (.inr ⟨x, h, h2⟩)
                    · rw [List.mem_singleton.mp h] at h2
                      exact .inr h2
              · obtain ⟨s6, hW6, spw6, ys', ps', x6, x7, rfl, hF6, hys6, ly6, mem6⟩ := h
                rw [List.take_of_length_le (by rw [lwu]; exact Nat.le_refl _)] at mem6
                refine ⟨s6, ys', ps', _, _, _, _, rfl, hF6, hys6, by omega, fun y => ?_⟩
                rw [mem6, memk, signStep_begin hst]
                refine or_congr_right ⟨fun ⟨x, h1, h2⟩ => ?_, fun ⟨i, h1, h2⟩ => ?_⟩
                · obtain ⟨i, rfl, cl⟩ := (memw x).mp h1
                  exact ⟨i, cl, h2⟩
                · exact ⟨(n, (i : Int)), (memw _).mpr ⟨i, rfl, h1⟩, h2⟩
            · obtain ⟨rfl, hb⟩ := h
              have ej := of_decide_eq_false hb.symm
              obtain ⟨i, rfl, hi⟩ := stand_seg st hst ej
              have lp := hys.1
              unfold tAug
              refine ⟨.ref F, rfl, ?_⟩
              walk_at "rd"
              refine ⟨_, r, n, i, c, fs, by rw [vJ_int ej], hv1, hst, hi, by omega, fun P pus pxs H7 s7 hP0 hP spp lpp memp => ?_⟩
              show rExt2 _ _ _ _
              have hF7 := s7 _ _ hF1
              have lpu := spp.1
              refine ⟨F, P, ps, pus, rfl, rfl, hF7, hP, by rw [sizeLine_eq]; omega, ?_⟩
              have nl7 := nl_upd (o := .lst (ps ++ pus)) hF7
              refine ⟨same_mut (s1.trans s7) hF, rfl, ys ++ pxs, ps ++ pus, upd_same, ((hys.imp fun _ _ h => h.mono s7).app spp).imp fun _ _ h => h.nl nl7, by rw [List.length_append]; omega, fun y => ?_⟩
              rw [List.mem_append, memp, memk, signStep_in hst]
      · obtain ⟨s1, ys, ps, x4, x5, x6, x7, rfl, hF1, hys, ly, memy⟩ := h
        rw [List.take_of_length_le (by rw [hsp.1]; exact Nat.le_refl _)] at memy
        exact ⟨s1, ys, ps, _, _, _, _, rfl, hF1, hys, ly, memy⟩
    · rintro σ H1 ⟨s1, ys, ps, x4, x5, x6, x7, rfl, hF1, hys, ly, memy⟩
      have lu := hsp.1
      walk_at "rd"
      refine ⟨F, ps, ys, rfl, .inl (.inl hF1), hys, by omega, fun p H' us' zs s2 hp0 hp sp2 so2 mem2 => q p us' zs H' (s1.trans s2) (same_none s1 hp0) hp sp2 so2 fun x => ?_⟩
      rw [mem2, memy, stand_sign]
      exact exists_congr fun y => and_congr_left fun _ => mem y
theorem stand_in {r : RF} {ws : List (List Nat)} {w : List Nat} {n : Nat} {j : Int} (hw : w ≠ []) (h : Stand r ws w (n, j)) : (j = -1 ∧ r.steps[n]? = some .deep) ∨ ∃ fs, ∃ i : Nat, r.steps[n]? = some (.seg fs) ∧ j = (i : Int) ∧ i ≤ fs.length := by
  obtain ⟨k, h1, ⟨e2, e'⟩ | ⟨fs', i, e2, h2, e'⟩⟩ := (stand_w hw).mp h
  · obtain rfl : n = k := congrArg (·.1) e'
    exact .inl ⟨congrArg (·.2) e', e2⟩
  · obtain rfl : n = k := congrArg (·.1) e'
    exact .inr ⟨fs', i, e2, congrArg (·.2) e', h2.1⟩
theorem slashStep_deep {r : RF} {n : Nat} {y : Spot} : SlashStep r (n, -1) y ↔ ∃ i : Nat, y = (i, (-2 : Int)) ∧ ClosG SF.deepB r.steps n i := by
  constructor
  · rintro ⟨k, ⟨h1, i, h2, h3⟩ | ⟨fs, e, h1, _⟩⟩
    · obtain rfl : n = k := congrArg (·.1) h1
      exact ⟨i, h2, h3⟩
    · have : (-1 : Int) = (fs.length : Int) := congrArg (·.2) h1
      omega
  · rintro ⟨i, h2, h3⟩
    exact ⟨n, .inl ⟨rfl, i, h2, h3⟩⟩
theorem slashStep_end {r : RF} {n : Nat} {fs : List PF} {y : Spot} (e : r.steps[n]? = some (.seg fs)) : SlashStep r (n, (fs.length : Int)) y ↔ ∃ i : Nat, y = (i, (-2 : Int)) ∧ ClosG SF.deepB r.steps (n + 1) i := by
  constructor
  · rintro ⟨k, ⟨h1, i, h2, h3⟩ | ⟨fs', e', h1, i, h2, h3⟩⟩
    · have : (fs.length : Int) = -1 := congrArg (·.2) h1
      omega
    · obtain rfl : n = k := congrArg (·.1) h1
      exact ⟨i, h2, h3⟩
  · rintro ⟨i, h2, h3⟩
    exact ⟨n, .inr ⟨fs, e, rfl, i, h2, h3⟩⟩
theorem slashStep_no {r : RF} {n j : Nat} {fs : List PF} {y : Spot} (e : r.steps[n]? = some (.seg fs)) (hj : j ≠ fs.length) : ¬ SlashStep r (n, (j : Int)) y := by
  rintro ⟨k, ⟨h1, _⟩ | ⟨fs', e', h1, _⟩⟩
  · have : (j : Int) = -1 := congrArg (·.2) h1
    omega
  · obtain rfl : n = k := congrArg (·.1) h1
    rw [e] at e'
    cases e'
    have : (j : Int) = (fs.length : Int) := congrArg (·.2) h1
    omega
def spBySlash (K : PySem.W.Frag) : Sp := fun vs H Q _ => ∃ v r a us xs, ∃ ws nm, vs = [v, .ref a] ∧ RowV K r v H ∧ Few r ∧ (SqT K H a us ∨ SqL K H a us) ∧ Spots xs us H ∧ xs.Pairwise ltS ∧ nm ≠ [] ∧ (∀ x, x ∈ xs ↔ Stand r ws nm x) ∧
  ∀ F us xs H', Same H H' → H F = none → H' F = some (.lst us) → Spots xs us H' → xs.Pairwise ltS → (∀ x, x ∈ xs ↔ Stand r (ws ++ [nm]) [] x) → Q (.ref F) H'
theorem ok_by_slash (T : Txt K mg) : OkD P w K mg base 5 (fA K "by_slash") ["row", "stand"] [] (spBySlash K) := by
  refine okD T.F_by_slash sc_by_slash (fun _ _ _ _ _ _ us hl => match us, hl with | [_, _], _ => rfl) ?_ ?_
  · rintro vs H Q E ⟨v, r, a, us, xs, ws, nm, rfl, _⟩
    rfl
  · rintro cdv A outer s H vs Q E hr ⟨v, r, a, us, xs, ws, nm, rfl, hv, few, ha, hsp, so, hnm, mem, q⟩
    refine ⟨_, (pss_cons (ps_set (i := 2) sc_by_slash.nd rfl (Or.inl rfl) (pe_lst pa_nil))
  (pss_cons (ps_mid (ps_for (passes_of rfl) rfl (pi_mid (o_it (K := K) rfl (pv 1))) (pg_tup rfl (pgs_cons (pg_name (i := 3) sc_by_slash.nd rfl (Or.inl rfl)) (pgs_cons (pg_name (i := 4) sc_by_slash.nd rfl (Or.inl rfl)) pgs_nil))) (pss_one (ps_if (pt_mid (pt_cmpR (o_eq (K := K) (hu64 hr)) (pv 4) (pe_un un_neg pe_int) (nomark _))) (pss_one (ps_aug (i := 2) sc_by_slash.nd rfl (Or.inl rfl) (pe_cal (ok_at_begin T) (hr.mono (by decide)) rfl T.g_at_begin (pasE (takes_of rfl rfl rfl rfl) (fun _ _ _ _ h => h)) (pa_cons (pv 0) (pa_cons (pv 3) pa_nil))) o_iadd)) (pss_one (ps_if (pt_mid (pt_cmpR (o_eq (K := K) (hu64 hr)) (pv 4) (pe_callB (o_lenW (K := K) (w := w)) (by rfl) T.fr_len boot_len (pa_cons (pe_fldK (K := K) (pe_ix (o_ix (K := K)) (pe_fldK (K := K) (pv 0) rfl) (pv 3) (fun _ _ => rfl)) rfl) pa_nil)) (nomark _))) (pss_one (ps_aug (i := 2) sc_by_slash.nd rfl (Or.inl rfl) (pe_cal (ok_at_begin T) (hr.mono (by decide)) rfl T.g_at_begin (pasE (takes_of rfl rfl rfl rfl) (fun _ _ _ _ h => h)) (pa_cons (pv 0) (pa_cons (pe_op (o_add (K := K)) (pv 3) pe_int) pa_nil))) o_iadd)) pss_nil))))))
  (pss_one (ps_ret (pe_cal (ok_rising T) (hr.mono (by decide)) rfl T.g_rising (pasE (takes_of rfl rfl rfl rfl) (fun _ _ _ _ h => h)) (pa_cons (pv 2) pa_nil)))))), ?_⟩
    have tobj := T.obj
    have fl := few.steps
    have lx := stand_len few so fun x hx => (mem x).mp hx
    have lus := hsp.1
    obtain ⟨J0, G, hw, wk, hG⟩ := seq_walk ha
    refine q_new fun F hF => ?_
    have sF : Same H (upd H F (.lst [])) := same_new hF
    refine q_stm (fun σ H' => Same H H' ∧ ∃ ys ps x4 x5, σ = [some v, some (.ref a), some (.ref F), x4, x5] ∧ H' F = some (.lst ps) ∧ Spots ys ps H' ∧ ys.length ≤ 4000 * us.length ∧ ∀ y, y ∈ ys ↔ ∃ x ∈ xs, SlashStep r x y) ?_ ?_
    · refine for_midg (J0 := J0) (H0 := upd H F (.lst [])) (hw _ _ _ rfl sF) wk
        (fun k σ H' => Same H H' ∧ ∃ ys ps x4 x5, σ = [some v, some (.ref a), some (.ref F), x4, x5] ∧ H' F = some (.lst ps) ∧ Spots ys ps H' ∧ ys.length ≤ 4000 * k ∧ ∀ y, y ∈ ys ↔ ∃ x ∈ xs.take k, SlashStep r x y)
        ⟨sF, [], [], _, _, rfl, upd_same, .nil, Nat.le_refl _, fun y => by simp⟩ (fun k σ H' _ h => hG H' h.1) ?_ (fun σ H' h => ?_)
      · rintro k x σ H1 H1' hk ⟨s1, ys, ps, x4, x5, rfl, hF1, hys, ly, memy⟩ ⟨rfl, hx⟩
        obtain ⟨sp, hspk, sv⟩ := hsp.at' hx
        obtain ⟨t, rfl, ht⟩ := sv.mono s1
        obtain ⟨n, j⟩ := sp
        have st := (mem _).mp (List.mem_of_getElem? hspk)
        have tk : xs.take (k + 1) = xs.take k ++ [(n, j)] := by rw [List.take_succ, hspk]; rfl
        have memk : ∀ y, (∃ x ∈ xs.take (k + 1), SlashStep r x y) ↔ (y ∈ ys ∨ SlashStep r (n, j) y) := fun y => by
          rw [tk, memy]
          constructor
          · rintro ⟨x, h1, h2⟩
            rcases List.mem_append.mp h1 with h | h
            · exact .inl ⟨x, h, h2⟩
            · rw [List.mem_singleton.mp h] at h2
              exact .inr h2
          · rintro (⟨x, h1, h2⟩ | h)
            · exact ⟨x, List.mem_append_left _ h1, h2⟩
            · exact ⟨_, List.mem_append_right _ List.mem_cons_self, h⟩
        have hv1 := hv.mono s1
        obtain ⟨rp, rdx, rt, rus, rfl, hrp, hrt, reach, rne⟩ := id hv1
        have lp := hys.1
        have jne : j ≠ -2 := by
          rcases stand_in hnm st with ⟨h, _⟩ | ⟨_, i, _, h, _⟩ <;> omega
        have ej := vJ_int jne
        refine ⟨t, [.int (n : Nat), vJ j], rfl, .inl (.inl ht), rfl, _, _, rfl, _, [], rfl, rfl, ?_⟩
        rw [ej]
        refine l_if (fun b H' => H' = H1' ∧ b = decide (j = -1)) ?_ (fun H2 h => ?_) (fun H2 h => ?_)
        · walk_at "rd"
        · obtain ⟨rfl, hb⟩ := h
          obtain rfl := of_decide_eq_true hb.symm
          unfold tAug
          refine ⟨.ref F, rfl, ?_⟩
          walk_at "rd"
          refine ⟨_, r, n, rfl, hv1, stand_le st, by omega, fun P pus pxs H7 s7 hP0 hP spp lpp memp => ?_⟩
          show rExt2 _ _ _ _
          have hF7 := s7 _ _ hF1
          have lpu := spp.1
          refine ⟨F, P, ps, pus, rfl, rfl, hF7, hP, by rw [sizeLine_eq]; omega, ?_⟩
          have nl7 := nl_upd (o := .lst (ps ++ pus)) hF7
          refine ⟨same_mut (s1.trans s7) hF, rfl, ys ++ pxs, ps ++ pus, upd_same, ((hys.imp fun _ _ h => h.mono s7).app spp).imp fun _ _ h => h.nl nl7, by rw [List.length_append]; omega, fun y => ?_⟩
          rw [List.mem_append, memp, memk, slashStep_deep]
        · obtain ⟨rfl, hb⟩ := h
          have jn1 := of_decide_eq_false hb.symm
          obtain ⟨fs, i, hst, rfl, hi⟩ : ∃ fs, ∃ i : Nat, r.steps[n]? = some (.seg fs) ∧ j = (i : Int) ∧ i ≤ fs.length := by
            rcases stand_in hnm st with ⟨h, _⟩ | h
            · exact absurd h jn1
            · exact h
          obtain ⟨fu, hfu, pS, dS, tS, usS, rfl, hoS, htS, hpS, hneS⟩ := reach.2 n _ hst
          have nlt := (List.getElem?_eq_some_iff.mp hst).1
          refine l_if (fun b H' => H' = H2 ∧ b = decide (i = fs.length)) ?_ (fun H3 h => ?_) (fun H3 h => ?_)
          · clear memk memy mem st tk q hG wk hw hb jn1 few hys hsp so ha
            walk_at "rdh"
            refine ⟨rus, .inr (.inl (.inl hrt)), _, atI_nat hfu, pS, rfl, _, _, _, hoS, tobj.2.2.2.2.2.2.2.1, by simp [tobj], .ref tS, rfl, .inr ⟨_, .inr ⟨usS, .inl (.inl htS), rfl⟩, ?_⟩⟩
            rw [hpS.1]
            exact decide_eq_decide.mpr ⟨fun h => Int.ofNat.inj h, fun h => congrArg Int.ofNat h⟩
          · obtain ⟨rfl, hb⟩ := h
            obtain rfl := of_decide_eq_true hb.symm
            unfold tAug
            refine ⟨.ref F, rfl, ?_⟩
            walk_at "rd"
            refine ⟨_, r, n + 1, rfl, hv1, nlt, by omega, fun P pus pxs H7 s7 hP0 hP spp lpp memp => ?_⟩
            show rExt2 _ _ _ _
            have hF7 := s7 _ _ hF1
            have lpu := spp.1
            refine ⟨F, P, ps, pus, rfl, rfl, hF7, hP, by rw [sizeLine_eq]; omega, ?_⟩
            have nl7 := nl_upd (o := .lst (ps ++ pus)) hF7
            refine ⟨same_mut (s1.trans s7) hF, rfl, ys ++ pxs, ps ++ pus, upd_same, ((hys.imp fun _ _ h => h.mono s7).app spp).imp fun _ _ h => h.nl nl7, by rw [List.length_append]; omega, fun y => ?_⟩
            rw [List.mem_append, memp, memk, slashStep_end hst]
          · obtain ⟨rfl, hb⟩ := h
            have jn := of_decide_eq_false hb.symm
            refine ⟨s1, ys, ps, _, _, rfl, hF1, hys, by omega, fun y => ?_⟩
            rw [memk]
            exact ⟨.inl, fun h => h.elim id fun h => absurd h (slashStep_no hst jn)⟩
      · obtain ⟨s1, ys, ps, x4, x5, rfl, hF1, hys, ly, memy⟩ := h
        rw [List.take_of_length_le (by rw [hsp.1]; exact Nat.le_refl _)] at memy
        exact ⟨s1, ys, ps, _, _, rfl, hF1, hys, ly, memy⟩
    · rintro σ H1 ⟨s1, ys, ps, x4, x5, rfl, hF1, hys, ly, memy⟩
      walk_at "rd"
      refine ⟨F, ps, ys, rfl, .inl (.inl hF1), hys, by omega, fun p H' us' zs s2 hp0 hp sp2 so2 mem2 => q p us' zs H' (s1.trans s2) (same_none s1 hp0) hp sp2 so2 fun x => ?_⟩
      rw [mem2, memy, stand_slash hnm]
      exact exists_congr fun y => and_congr_left fun _ => mem y
theorem op_inDT {X : Cx} (hu : X.A.units + 65 < cLine) : OpR X (compareOp .In) (fun x y H Q => ∃ d ds, Dp X.K H x d ∧ Dp X.K H y (.tuple ds) ∧ SeqAt.shaped d = true ∧ SeqAt.shaped (.tuple ds) = true ∧ Q (.bl (ds.any fun z => PyData.eqv z d)) H) := by
  intro pins s σ H x y v u Q I rv ru ⟨d, ds, h1, h2, h3, h4, q⟩
  obtain ⟨as, r1⟩ := Dp.reads I d x v h1 rv
  obtain ⟨bs, r2⟩ := Dp.reads I (.tuple ds) y u h2 ru
  refine SeqAt.in_tuple_reads r2 r1 (SeqAt.canLay_of_shaped h4) (SeqAt.canLay_of_shaped h3) ?_ ?_
  · exact room_in_shaped h3 hu
  exact ⟨.bl _, H, I, rfl, q⟩
/-- in: data in a list or a tuple of data -/
def rInB (K : PySem.W.Frag) : R2 := fun x y H Q => ∃ d ds, Dp K H x d ∧ (Dp K H y (.list ds) ∨ Dp K H y (.tuple ds)) ∧ SeqAt.shaped d = true ∧ SeqAt.shaped (.list ds) = true ∧ Q (.bl (ds.any fun z => PyData.eqv z d)) H
theorem o_inB {X : Cx} {K : PySem.W.Frag} (hu : X.A.units + 65 < cLine) (hK : X.K = K := by rfl) : OpR X (compareOp .In) (rInB K) := by
  subst hK
  refine OpR.imp ((op_inD hu).or (op_inDT hu)) fun x y H Q ⟨d, ds, h1, h2, h3, h4, q⟩ => ?_
  rcases h2 with h2 | h2
  · exact .inl ⟨d, ds, h1, h2, h3, h4, q⟩
  · exact .inr ⟨d, ds, h1, h2, h3, h4, q⟩
def spFitsFo (K : PySem.W.Frag) : Sp := fun vs H Q _ => ∃ v r a us xs, vs = [v, .ref a] ∧ RowV K r v H ∧ (SqL K H a us ∨ SqT K H a us) ∧ Spots xs us H ∧ xs.length ≤ 1000 ∧ ∀ H', Same H H' → Q (.bl (decide ((r.steps.length, (-2 : Int)) ∈ xs))) H'
theorem ok_fits_folder (T : Txt K mg) : OkD P w K mg base 1 (fA K "fits_folder") ["row", "stand"] [] (spFitsFo K) := by
  refine okD T.F_fits_folder sc_fits_folder (fun _ _ _ _ _ _ us hl => match us, hl with | [_, _], _ => rfl) ?_ ?_
  · rintro vs H Q E ⟨v, r, a, us, xs, rfl, _⟩
    rfl
  · rintro cdv A outer s H vs Q E hr ⟨v, r, a, us, xs, rfl, hv, ha, hsp, lx, q⟩
    refine ⟨_, (pss_one (ps_ret (pe_cmpR (o_inB (K := K) (hu65 hr)) (pe_tup (pa_cons (pe_callB (o_lenW (K := K) (w := w)) (by rfl) T.fr_len boot_len (pa_cons (pe_fldK (K := K) (pv 0) rfl) pa_nil)) (pa_cons pe_non pa_nil))) (pv 1) (by rfl)))), ?_⟩
    have tobj := T.obj
    obtain ⟨rp, rdx, rt, rus, rfl, hrp, hrt, reach, rne⟩ := id hv
    walk_at "rdh"
    refine .inr ⟨_, .inr ⟨rus, .inl (.inl hrt), rfl⟩, fun p hp => ?_⟩
    rw [reach.1]
    have sp := same_new (o := .tup [.int (r.steps.length : Nat), .non]) hp
    have sv : SpotV (r.steps.length, -2) (.ref p) (upd H p (.tup [.int (r.steps.length : Nat), .non])) := ⟨p, rfl, upd_same⟩
    have edp := each_dp (hsp.imp fun _ _ h => (h.mono sp).dp (K := K))
    unfold rInB
    refine ⟨spotD (r.steps.length, -2), xs.map spotD, sv.dp, ha.imp (fun ha => .lst (same_l sp ha) edp) (fun ha => .tup (same_t sp ha) edp), spot_ok.shaped (by decide), (dok_lst (n := 1) fun d hd => ?_).shaped (by decide), ?_⟩
    · obtain ⟨x, _, rfl⟩ := List.mem_map.mp hd
      exact spot_ok
    · have e : ((xs.map spotD).any fun z => PyData.eqv z (spotD (r.steps.length, -2))) = decide ((r.steps.length, (-2 : Int)) ∈ xs) := by
        rw [List.any_map]
        by_cases h : (r.steps.length, (-2 : Int)) ∈ xs
        · rw [decide_eq_true h]
          refine List.any_eq_true.mpr ⟨_, h, ?_⟩
          show PyData.eqv _ _ = true
          rw [eqv_spot, decide_eq_true rfl]
        · rw [decide_eq_false h]
          refine List.any_eq_false.mpr fun x hx => ?_
          show ¬ PyData.eqv _ _ = true
          rw [eqv_spot]
          exact fun z => h (of_decide_eq_true z ▸ hx)
      rw [e]
      exact q _ sp
def spFitsLe (K : PySem.W.Frag) : Sp := fun vs H Q _ => ∃ v r a us xs, ∃ ws nm, vs = [v, .ref a] ∧ RowV K r v H ∧ Few r ∧ (SqL K H a us ∨ SqT K H a us) ∧ Spots xs us H ∧ xs.Pairwise ltS ∧ nm ≠ [] ∧ (∀ x, x ∈ xs ↔ Stand r ws nm x) ∧ ∀ b H', Same H H' → (b = true ↔ r.folders = false ∧ RFit r.steps (ws ++ [nm])) → Q (.bl b) H'
theorem ok_fits_leaf (T : Txt K mg) : OkD P w K mg base 6 (fA K "fits_leaf") ["row", "stand"] [] (spFitsLe K) := by
  refine okD T.F_fits_leaf sc_fits_leaf (fun _ _ _ _ _ _ us hl => match us, hl with | [_, _], _ => rfl) ?_ ?_
  · rintro vs H Q E ⟨v, r, a, us, xs, ws, nm, rfl, _⟩
    rfl
  · rintro cdv A outer s H vs Q E hr ⟨v, r, a, us, xs, ws, nm, rfl, hv, few, ha, hsp, so, hnm, mem, q⟩
    refine ⟨_, (pss_one (ps_ret (pe_andK (K := K) (pe_notK (K := K) (pe_fldK (K := K) (pv 0) rfl)) (pe_one (pe_mid (pe_cal (ok_fits_folder T) (hr.mono (by decide)) rfl T.g_fits_folder (pasE (takes_of rfl rfl rfl rfl) (fun _ _ _ _ h => h)) (pa_cons (pv 0) (pa_cons (pe_cal (ok_by_slash T) (hr.mono (by decide)) rfl T.g_by_slash (pasE (takes_of rfl rfl rfl rfl) (fun _ _ _ _ h => h)) (pa_cons (pv 0) (pa_cons (pv 1) pa_nil))) pa_nil)))))))), ?_⟩
    have tobj := T.obj
    obtain ⟨rp, rdx, rt, rus, rfl, hrp, hrt, reach, rne⟩ := id hv
    walk_at "rdh"
    refine ite2 (fun hf => ?_) fun hf => ?_
    · refine mid_of Q ?_ fun v H' h => h
      walk_at "rd"
      refine ⟨_, r, a, us, xs, ws, nm, rfl, hv, few, ha.symm, hsp, so, hnm, mem, fun F us' ys H' s hF0 hF sp so2 mem2 => ⟨_, r, F, us', ys, rfl, hv.mono s, .inl (.inl (.inl hF)), sp, ?_, fun H2 s2 => q _ _ (s.trans s2) ?_⟩⟩
      · exact Nat.le_trans (stand_len few so2 fun x hx => (mem2 x).mp hx) (by decide)
      · rw [decide_eq_true_iff, mem2, stand_fits]
        exact ⟨fun h => ⟨hf, h⟩, fun h => h.2⟩
    · refine q _ _ (Same.refl _) ⟨fun h => ?_, fun h => absurd h.1 hf⟩
      simp at h
      exact absurd h hf

/-! ### the law's own fitting, by spots -/
def spSign2 (K : PySem.W.Frag) : Sp := fun vs H Q _ => ∃ v f c, vs = [v, .str (S [c])] ∧ Dp K H v (PF.d f) ∧ Q (.bl (f.fits c)) H
theorem ok__law_fits_sign (T : Txt K mg) : OkD P w K mg base 1 (fA K "_law_fits_sign") ["_law_part_here", "_law_sign"] [] (spSign2 K) := by
  refine okD T.F__law_fits_sign sc__law_fits_sign (fun _ _ _ _ _ _ us hl => match us, hl with | [_, _], _ => rfl) ?_ ?_
  · rintro vs H Q E ⟨v, f, c, rfl, _⟩
    rfl
  · rintro cdv A outer s H vs Q E hr ⟨v, f, c, rfl, hd, q⟩
    refine ⟨_, (pss_cons (ps_if (pt_mid (pt_cmpR (o_eq (K := K) (hu64 hr)) (pe_ix (o_ix (K := K)) (pv 0) pe_int (fun _ _ => rfl)) pe_str (nomark _))) (pss_one (ps_ret (pe_cmpR (o_eq (K := K) (hu64 hr)) (pe_ix (o_ix (K := K)) (pv 0) pe_int (fun _ _ => rfl)) (pv 1) (nomark _)))) pss_nil)
  (pss_cons (ps_if (pt_mid (pt_cmpR (o_eq (K := K) (hu64 hr)) (pe_ix (o_ix (K := K)) (pv 0) pe_int (fun _ _ => rfl)) pe_str (nomark _))) (pss_one (ps_ret (pe_cmpR (o_ne (K := K) (hu64 hr)) (pe_cmpR (o_in (K := K) (hu65 hr)) (pv 1) (pe_ix (o_ix (K := K)) (pv 0) pe_int (fun _ _ => rfl)) (by rfl)) (pe_ix (o_ix (K := K)) (pv 0) pe_int (fun _ _ => rfl)) (nomark _)))) pss_nil)
  (pss_one (ps_ret pe_bl)))), ?_⟩
    have tobj := T.obj
    obtain ⟨va, rfl, hv⟩ := PF.inv hd
    cases f with
    | stars =>
      refine q_if (fun b H1 => b = false ∧ H1 = H) (by walk_at "rdx") (fun H1 h => nomatch h.1) (fun H1 h => q_next ?_)
      obtain ⟨_, rfl⟩ := h
      refine q_if (fun b H2 => b = false ∧ H2 = H1) (by walk_at "rdx") (fun H2 h => nomatch h.1) (fun H2 h => q_next ?_)
      obtain ⟨_, rfl⟩ := h
      walk_at "rd"
      exact q
    | one d =>
      refine q_if (fun b H1 => b = true ∧ H1 = H) (by walk_at "rdx") (fun H1 h => ?_) (fun H1 h => nomatch h.1)
      obtain ⟨_, rfl⟩ := h
      walk_at "rdx"
      have e : decide (S [d] = S [c]) = decide (c = d) := decide_eq_decide.mpr ⟨fun h => (S1_inj h).symm, fun h => by rw [h]⟩
      rw [e]
      exact q
    | any =>
      refine q_if (fun b H1 => b = false ∧ H1 = H) (by walk_at "rdx") (fun H1 h => nomatch h.1) (fun H1 h => q_next ?_)
      obtain ⟨_, rfl⟩ := h
      refine q_if (fun b H2 => b = false ∧ H2 = H1) (by walk_at "rdx") (fun H2 h => nomatch h.1) (fun H2 h => q_next ?_)
      obtain ⟨_, rfl⟩ := h
      walk_at "rd"
      exact q
    | among l o =>
      refine q_if (fun b H1 => b = false ∧ H1 = H) (by walk_at "rdx") (fun H1 h => nomatch h.1) (fun H1 h => q_next ?_)
      obtain ⟨_, rfl⟩ := h
      refine q_if (fun b H2 => b = true ∧ H2 = H1) (by walk_at "rdx") (fun H2 h => ?_) (fun H2 h => nomatch h.1)
      obtain ⟨_, rfl⟩ := h
      walk_at "rdx"
      refine .inl ⟨c, rfl, _, .inr hv, _, rfl, ?_⟩
      walk_at "rd"
      rw [b_ne]
      exact q
/-! the closure, spot by spot -/
section
variable {α β : Type} {m : α → Bool}
def CloAt (m : α → Bool) (fs : List α) (ss ss' : List Nat) (k : Nat) : Prop := (∀ s ∈ ss, s ∈ ss') ∧ (∀ i ∈ ss', ∃ s ∈ ss, ClosG m fs s i) ∧ ∀ j, j < k → j ∈ ss' → starG m fs j = true → j + 1 ∈ ss'
theorem CloAt.zero {fs : List α} {ss : List Nat} : CloAt m fs ss ss 0 := ⟨fun _ h => h, fun i h => ⟨i, h, ClosG.refl⟩, fun j h => absurd h (by omega)⟩
theorem CloAt.keep {fs : List α} {ss ss' : List Nat} {k : Nat} (h : CloAt m fs ss ss' k) (g : k ∈ ss' → starG m fs k = true → k + 1 ∈ ss') : CloAt m fs ss ss' (k + 1) := ⟨h.1, h.2.1, fun j hj a b => by
  rcases Nat.lt_or_ge j k with e | e
  · exact h.2.2 j e a b
  · have : j = k := by omega
    rw [this] at a b ⊢
    exact g a b⟩
theorem CloAt.add {fs : List α} {ss ss' : List Nat} {k : Nat} (h : CloAt m fs ss ss' k) (g1 : k ∈ ss') (g2 : starG m fs k = true) : CloAt m fs ss (ss' ++ [k + 1]) (k + 1) := by
  refine ⟨fun s hs => List.mem_append_left _ (h.1 s hs), fun i hi => ?_, fun j hj a b => ?_⟩
  · rcases List.mem_append.mp hi with e | e
    · exact h.2.1 i e
    · rw [List.mem_singleton.mp e]
      obtain ⟨s, hs, hc⟩ := h.2.1 k g1
      exact ⟨s, hs, hc.snoc g2⟩
  · rcases List.mem_append.mp a with e | e
    · rcases Nat.lt_or_ge j k with e2 | e2
      · exact List.mem_append_left _ (h.2.2 j e2 e b)
      · have : j = k := by omega
        rw [this]
        exact List.mem_append_right _ List.mem_cons_self
    · have := List.mem_singleton.mp e
      omega
theorem CloAt.done {fs : List α} {ss ss' : List Nat} {n : Nat} (h : CloAt m fs ss ss' n) (hn : fs.length ≤ n) (i : Nat) : i ∈ ss' ↔ ∃ s ∈ ss, ClosG m fs s i := by
  refine ⟨h.2.1 i, fun ⟨s, hs, hc⟩ => ?_⟩
  obtain ⟨h1, h2⟩ := hc
  induction i with
  | zero =>
    have : s = 0 := by omega
    rw [← this]
    exact h.1 s hs
  | succ i ih =>
    rcases Nat.eq_or_lt_of_le h1 with e | e
    · rw [← e]; exact h.1 s hs
    · have hst := h2 i (by omega) (by omega)
      exact h.2.2 i (Nat.lt_of_lt_of_le (starG_lt hst) hn) (ih ⟨s, hs, by omega, fun k a b => h2 k a (by omega)⟩ (by omega) fun k a b => h2 k a (by omega)) hst
/-- what is behind one sign more -/
theorem atG_next {ft : α → β → Bool} {fs : List α} {w : List β} {c : β} {ss nx : List Nat} (hmf : ∀ f c, m f = true → ft f c = true) (h : ∀ i, i ∈ ss ↔ AtG m ft fs w i) (hn : ∀ i, i ∈ nx ↔ ∃ s ∈ ss, ∃ f, fs[s]? = some f ∧ ft f c = true ∧ i = if m f = true then s else s + 1) (i : Nat) :
    (∃ s ∈ nx, ClosG m fs s i) ↔ AtG m ft fs (w ++ [c]) i := by
  rw [atG_snoc hmf]
  constructor
  · rintro ⟨s, h1, h2⟩
    obtain ⟨s0, h3, f, h4, h5, rfl⟩ := (hn s).mp h1
    exact ⟨s0, f, (h s0).mp h3, h4, h5, h2⟩
  · rintro ⟨s, f, h1, h2, h3, h4⟩
    exact ⟨_, (hn _).mpr ⟨s, (h s).mpr h1, f, h2, h3, rfl⟩, h4⟩
end
theorem fit_eq : ∀ {fs : List PF} {w : List Nat}, FitG PF.many PF.fits fs w ↔ Fit fs w
  | [], w => Iff.rfl
  | f :: fs, w => by
    cases h : f.many with
    | true =>
      rw [fitG_star h, fit_star h]
      exact exists_congr fun u => exists_congr fun v => and_congr_right fun _ => fit_eq
    | false =>
      rw [fitG_one h, fit_one h]
      exact exists_congr fun c => exists_congr fun v => and_congr_right fun _ => and_congr_right fun _ => fit_eq
theorem many_fits (f : PF) (c : Nat) (h : f.many = true) : f.fits c = true := by
  cases f with
  | stars => rfl
  | one d => cases h
  | any => cases h
  | among l o => cases h
theorem ints_at {ss : List Nat} {k : Nat} {x : V} (h : (intsV ss)[k]? = some x) : ∃ s, ss[k]? = some s ∧ x = .int (s : Nat) := by
  unfold intsV at h
  rw [List.getElem?_map] at h
  obtain ⟨s, hs, rfl⟩ := Option.map_eq_some_iff.mp h
  exact ⟨s, hs, rfl⟩
theorem nms_get {nm : List (List Nat)} {k : Nat} {c : List Nat} (h : nm[k]? = some c) : (nmsV nm)[k]? = some (.str (S c)) := by
  unfold nmsV
  rw [List.getElem?_map, List.getElem?_map, h]
  rfl
theorem filt_take {p : Nat → Bool} {ss : List Nat} {m s : Nat} (h : ss[m]? = some s) : (ss.take (m + 1)).filter p = (ss.take m).filter p ++ (if p s = true then [s] else []) := by
  rw [List.take_succ, h, List.filter_append]
  congr 1
  by_cases hp : p s = true
  · simp [hp]
  · simp [hp]
theorem ints_snoc {l : List Nat} {s : Nat} : intsV (l ++ [s]) = intsV l ++ [.int (s : Nat)] := by
  unfold intsV
  rw [List.map_append]
  rfl
theorem star_eq' {fs : List PF} {j : Nat} (h : j < fs.length) : starG PF.many fs j = fs[j].many := starG_eq (List.getElem?_eq_getElem h)
theorem filt_two {p q : Nat → Bool} (h : ∀ x, p x = true → q x = false) : ∀ l : List Nat, (l.filter p).length + (l.filter q).length ≤ l.length
  | [] => Nat.le_refl _
  | x :: r => by
    have ih := filt_two h r
    rw [List.filter_cons, List.filter_cons, List.length_cons]
    by_cases hp : p x = true
    · rw [if_pos hp, if_neg (by rw [h x hp]; exact Bool.false_ne_true), List.length_cons]
      omega
    · rw [if_neg hp]
      split
      · rw [List.length_cons]; omega
      · omega
theorem part_word {K : PySem.W.Frag} {f : PF} {v : V} {H : Hp} (h : Dp K H v (PF.d f)) : ∃ va xs z, v = .ref va ∧ SqT K H va xs ∧ atI xs 0 = some (.str z) ∧ decide (z = Str.ofString "stars") = f.many := by
  obtain ⟨va, rfl, hv⟩ := PF.inv h
  cases f with
  | one c => exact ⟨va, _, _, rfl, hv, rfl, (by decide +kernel : decide (Str.ofString "one" = Str.ofString "stars") = false)⟩
  | any => exact ⟨va, _, _, rfl, hv, rfl, by decide +kernel⟩
  | among l o => exact ⟨va, _, _, rfl, hv, rfl, (by decide +kernel : decide (Str.ofString "among" = Str.ofString "stars") = false)⟩
  | stars => exact ⟨va, _, _, rfl, hv, rfl, by decide +kernel⟩
def spFitsP (K : PySem.W.Frag) : Sp := fun vs H Q _ => ∃ t us nm, ∃ fs : List PF, vs = [.ref t, .str (S nm)] ∧ SqT K H t us ∧ Each (fun f u H => Dp K H u (PF.d f)) fs us H ∧ fs.length ≤ 60 ∧ nm.length ≤ 100000 ∧
  ∀ b H', Same H H' → (b = true ↔ Fit fs nm) → Q (.bl b) H'
theorem ok__law_fits_parts (T : Txt K mg) : OkD P w K mg base 2 (fA K "_law_fits_parts") ["_law_parts", "_law_signs_here"] [] (spFitsP K) := by
  refine okD T.F__law_fits_parts sc__law_fits_parts (fun _ _ _ _ _ _ us hl => match us, hl with | [_, _], _ => rfl) ?_ ?_
  · rintro vs H Q E ⟨t, us, nm, fs, rfl, _⟩
    rfl
  · rintro cdv A outer s H vs Q E hr ⟨t, us, nm, fs, rfl, ht, hp, hl, hn, q⟩
    refine ⟨_, (pss_cons (ps_set (i := 2) sc__law_fits_parts.nd rfl (Or.inl rfl) (pe_mid (pe_lst (pa_cons pe_int pa_nil))))
  (pss_cons (ps_mid (ps_for (passes_of rfl) rfl (pi_mid (pi_range1 rfl T.fr_range (pa_cons (pe_op (o_add (K := K)) (pe_callB (o_lenW (K := K) (w := w)) (by rfl) T.fr_len boot_len (pa_cons (pv 1) pa_nil)) pe_int) pa_nil))) (pg_name (i := 3) sc__law_fits_parts.nd rfl (Or.inr rfl)) (pss_cons (ps_mid (ps_for (passes_of rfl) rfl (pi_mid (pi_range1 rfl T.fr_range (pa_cons (pe_callB (o_lenW (K := K) (w := w)) (by rfl) T.fr_len boot_len (pa_cons (pv 0) pa_nil)) pa_nil))) (pg_name (i := 4) sc__law_fits_parts.nd rfl (Or.inl rfl)) (pss_one (ps_if (pt_mid (PW.pt (pw_and (pt_cmpR (o_in (K := K) (hu65 hr)) (pv 4) (pv 2) (by rfl)) (pw_and (pt_cmpR (o_eq (K := K) (hu64 hr)) (pe_ix (o_ix (K := K)) (pe_ix (o_ix (K := K)) (pv 0) (pv 4) (fun _ _ => rfl)) pe_int (fun _ _ => rfl)) pe_str (nomark _)) (pw_and1 (pt_cmpR (o_notin (K := K) (hu65 hr)) (pe_op (o_add (K := K)) (pv 4) pe_int) (pv 2) (by rfl))))))) (pss_one (ps_expr (pe_bmK (K := K) PySem.F.plainAttrs_list PySem.F.slot_list_append PySem.F.type_list_append mt_append (pv 2) (pa_cons (pe_mid (pe_op (o_add (K := K)) (pv 4) pe_int)) pa_nil)))) pss_nil))))
  (pss_cons (ps_if (pt_mid (pt_cmpR (o_eq (K := K) (hu64 hr)) (pv 3) (pe_callB (o_lenW (K := K) (w := w)) (by rfl) T.fr_len boot_len (pa_cons (pv 1) pa_nil)) (nomark _))) (pss_one (ps_ret (pe_cmpR (o_in (K := K) (hu65 hr)) (pe_callB (o_lenW (K := K) (w := w)) (by rfl) T.fr_len boot_len (pa_cons (pv 0) pa_nil)) (pv 2) (by rfl)))) pss_nil)
  (pss_cons (ps_setLc (own := [("_law_spot", 4)]) (g := (gName 4)) (i := 5) rfl sc__law_fits_parts.nd rfl rfl (sw_true rfl rfl rfl (by decide +kernel)) (pi_mid (o_it (K := K) rfl (pv 2))) (blkOk_by (N := N__law_fits_parts) (sc := defScope TX.s__law_fits_parts) (by decide +kernel)) (fun _ _ _ _ _ => (pg_name (i := 4) sc__law_fits_parts.nd rfl (Or.inl rfl))) (fun _ _ _ _ _ => (pts_one (pt_mid (PW.pt (pw_and (pt_cmpR o_lt (pv 4) (pe_callB (o_lenW (K := K) (w := w)) (by rfl) T.fr_len boot_len (pa_cons (pv 0) pa_nil)) (nomark _)) (pw_and1 (pt_cmpR (o_eq (K := K) (hu64 hr)) (pe_ix (o_ix (K := K)) (pe_ix (o_ix (K := K)) (pv 0) (pv 4) (fun _ _ => rfl)) pe_int (fun _ _ => rfl)) pe_str (nomark _)))))))) (fun _ _ _ _ _ => (pe_mid (pv 4))))
  (pss_cons (ps_setLc (own := [("_law_spot", 4)]) (g := (gName 4)) (i := 6) rfl sc__law_fits_parts.nd rfl rfl (sw_true rfl rfl rfl (by decide +kernel)) (pi_mid (o_it (K := K) rfl (pv 2))) (blkOk_by (N := N__law_fits_parts) (sc := defScope TX.s__law_fits_parts) (by decide +kernel)) (fun _ _ _ _ _ => (pg_name (i := 4) sc__law_fits_parts.nd rfl (Or.inl rfl))) (fun _ _ _ _ _ => (pts_one (pt_mid (PW.pt (pw_and (pt_cmpR o_lt (pv 4) (pe_callB (o_lenW (K := K) (w := w)) (by rfl) T.fr_len boot_len (pa_cons (pv 0) pa_nil)) (nomark _)) (pw_and1 (pt_cmpR (o_ne (K := K) (hu64 hr)) (pe_ix (o_ix (K := K)) (pe_ix (o_ix (K := K)) (pv 0) (pv 4) (fun _ _ => rfl)) pe_int (fun _ _ => rfl)) pe_str (nomark _)))))))) (fun _ _ _ _ _ => (pe_mid (pv 4))))
  (pss_one (ps_set (i := 2) sc__law_fits_parts.nd rfl (Or.inl rfl) (pe_mid (pe_op (o_add (K := K)) (pv 5) (pe_lc (own := [("_law_spot", 4)]) (g := (gName 4)) rfl sc__law_fits_parts.nd (pi_mid (o_it (K := K) rfl (pv 6))) (blkOk_by (N := N__law_fits_parts) (sc := defScope TX.s__law_fits_parts) (by decide +kernel)) (fun _ _ _ _ _ => (pg_name (i := 4) sc__law_fits_parts.nd rfl (Or.inl rfl))) (fun _ _ _ _ _ => (pts_one (pt_mid (pt_tru (K := K) (pe_cal (ok__law_fits_sign T) (hr.mono (by decide)) rfl T.g__law_fits_sign pasN (pa_cons (pe_ix (o_ix (K := K)) (pv 0) (pv 4) (fun _ _ => rfl)) (pa_cons (pe_ix (o_ix (K := K)) (pv 1) (pv 3) (fun _ _ => rfl)) pa_nil))) (by intro _; rfl))))) (fun _ _ _ _ _ => (pe_mid (pe_op (o_add (K := K)) (pv 4) pe_int))))))))))))))
  (pss_one (ps_ret pe_bl)))), ?_⟩
    have tobj := T.obj
    refine q_midG (fun v H' => Same H H' ∧ ∃ P, v = .ref P ∧ H P = none ∧ H' P = some (.lst (intsV [0]))) ?_ ?_
    · walk_at "rd"
      exact fun p hp => ⟨same_new hp, hp, upd_same⟩
    rintro _ H1 ⟨s1, P0, rfl, hP00, hP0⟩
    refine q_stm (fun σ H' => False) ?_ (fun _ _ h => h.elim)
    refine for_mid (J0 := Itr 0 (nm.length + 1)) (H0 := H1) ?_ walk_range
      (fun k σ H' => k ≤ nm.length ∧ Same H H' ∧ ∃ P ss x3 x4 x5 x6, σ = [some (.ref t), some (.str (S nm)), some (.ref P), x3, x4, x5, x6] ∧ H' P = some (.lst (intsV ss)) ∧ H P = none ∧ (∀ s ∈ ss, s ≤ fs.length) ∧ ss.length ≤ 1 + 60 * k ∧ ∀ i, (∃ s ∈ ss, ClosG PF.many fs s i) ↔ AtG PF.many PF.fits fs (nm.take k) i)
      ⟨Nat.zero_le _, s1, P0, [0], _, _, _, _, rfl, hP0, hP00, fun s hs => by rw [List.mem_singleton.mp hs]; exact Nat.zero_le _, by simp, fun i => ?_⟩ (fun _ _ _ _ _ => trivial) ?_ (fun σ H' h => ?_)
    · walk_at "rd"
      rw [S_len]
      exact ⟨by omega, by omega, by omega, by congr 1⟩
    · rw [List.take_zero, atG_nil]
      exact ⟨fun ⟨s, hs, h⟩ => by rw [List.mem_singleton.mp hs] at h; exact h, fun h => ⟨0, List.mem_cons_self, h⟩⟩
    · rintro k x σ H2 H2' hk ⟨hkn, s2, P, ss, x3, x4, x5, x6, rfl, hP, hPn, sle, sl, at0⟩ ⟨rfl, rfl⟩
      simp only [Int.zero_add, List.set_cons_zero, List.set_cons_succ]
      have ht2 := same_t s2 ht
      have hp2 : Each (fun f u H => Dp K H u (PF.d f)) fs us H2' := hp.imp fun _ _ d => dp_mono s2 _ _ d
      refine q_stm (fun σ H' => Same H H' ∧ ∃ ss' x4, σ = [some (.ref t), some (.str (S nm)), some (.ref P), some (.int (k : Nat)), x4, x5, x6] ∧ H' P = some (.lst (intsV ss')) ∧ (∀ s ∈ ss', s ≤ fs.length) ∧ ss'.length ≤ ss.length + 60 ∧ ∀ i, i ∈ ss' ↔ AtG PF.many PF.fits fs (nm.take k) i) ?_ ?_
      · refine for_mid (J0 := Itr 0 fs.length) (H0 := H2') ?_ walk_range
          (fun j σ H' => Same H H' ∧ ∃ ss' x4, σ = [some (.ref t), some (.str (S nm)), some (.ref P), some (.int (k : Nat)), x4, x5, x6] ∧ H' P = some (.lst (intsV ss')) ∧ (∀ s ∈ ss', s ≤ fs.length) ∧ ss'.length ≤ ss.length + j ∧ CloAt PF.many fs ss ss' j)
          ⟨s2, ss, _, rfl, hP, sle, Nat.le_refl _, .zero⟩ (fun _ _ _ _ _ => trivial) ?_ (fun σ H' h => ?_)
        · walk_at "rd"
          refine .inr ⟨_, .inr ⟨us, ht2, rfl⟩, ?_⟩
          rw [hp2.1]
          exact ⟨by omega, by omega, rfl⟩
        · rintro j x σ H3 H3' hj ⟨s3, ss', x4, rfl, hP3, sle3, sl3, clo⟩ ⟨rfl, rfl⟩
          simp only [Int.zero_add, List.set_cons_zero, List.set_cons_succ]
          have ht4 := same_t s3 ht
          have hp4 : Each (fun f u H => Dp K H u (PF.d f)) fs us H3' := hp.imp fun _ _ d => dp_mono s3 _ _ d
          refine l_if (fun b H' => H' = H3' ∧ b = (decide (j ∈ ss') && (starG PF.many fs j && !decide (j + 1 ∈ ss')))) ?_ (fun H4 h => ?_) (fun H4 h => ?_)
          · walk_at "rd"
            refine ⟨_, .inl (.inl (.inl hP3)), flat_ints ss', ?_⟩
            rw [inV_ints]
            refine ite2 (fun h => ?_) fun h => ?_
            · obtain ⟨u, hu, pu⟩ := hp4.2 j fs[j] (List.getElem?_eq_getElem hj)
              obtain ⟨va, xs, z, rfl, hxs, hz, ew⟩ := part_word pu
              refine ⟨us, .inr ht4, .ref va, atI_nat hu, xs, .inr hxs, _, hz, ?_⟩
              walk_at "rd"
              rw [show decide (j ∈ ss') = true from h, Bool.true_and, star_eq' hj, ← ew]
              refine ite2 (fun hz => ?_) fun hz => ?_
              · refine ⟨_, .inl (.inl (.inl hP3)), flat_ints ss', ?_⟩
                rw [decide_eq_true hz, Bool.true_and]
                exact congrArg (!·) (inV_ints (j := j + 1))
              · rw [decide_eq_false hz]
                rfl
            · rw [show decide (j ∈ ss') = false from by simpa using h]
              rfl
          · obtain ⟨rfl, hb⟩ := h
            rw [eq_comm, Bool.and_eq_true, Bool.and_eq_true] at hb
            have h1 := of_decide_eq_true hb.1
            have hlt := starG_lt hb.2.1
            walk_at "rd"
            refine ⟨⟨_, .inl (.inl hP3)⟩, mid_of (fun v H' => H' = H4 ∧ v = .int ((j + 1 : Nat) : Int)) ?_ ?_⟩
            · walk_at "rd"
              rfl
            rintro _ _ ⟨rfl, rfl⟩
            rename_i H4
            refine ⟨_, hP3, by unfold intsV; rw [List.length_map]; omega, same_mut s3 hPn, ss' ++ [j + 1], ?_, fun s hs => ?_, by rw [List.length_append]; show ss'.length + 1 ≤ _; omega, clo.add h1 hb.2.1⟩
            · rw [upd_same]
              unfold intsV
              rw [List.map_append]
              rfl
            · rcases List.mem_append.mp hs with e | e
              · exact sle3 s e
              · rw [List.mem_singleton.mp e]; exact hlt
          · obtain ⟨rfl, hb⟩ := h
            refine ⟨s3, ss', _, rfl, hP3, sle3, by omega, clo.keep fun a b => ?_⟩
            rw [decide_eq_true a, b] at hb
            simpa using hb.symm
        · obtain ⟨s3, ss', x4, rfl, hP3, sle3, sl3, clo⟩ := h
          exact ⟨s3, ss', _, rfl, hP3, sle3, by omega, fun i => by rw [clo.done (Nat.le_refl _), at0]⟩
      rintro σ H3 ⟨s3, ss', x4, rfl, hP3, sle3, sl3, at3⟩
      have ht3 := same_t s3 ht
      have hp3 : Each (fun f u H => Dp K H u (PF.d f)) fs us H3 := hp.imp fun _ _ d => dp_mono s3 _ _ d
      refine q_if (fun b H' => H' = H3 ∧ b = decide (k = nm.length)) ?_ (fun H4 h => ?_) (fun H4 h => ?_)
      · walk_at "rd"
        rw [S_len]
        exact ⟨by omega, decide_eq_decide.mpr ⟨fun h => Int.ofNat.inj h, fun h => congrArg Int.ofNat h⟩⟩
      · obtain ⟨rfl, hb⟩ := h
        obtain rfl := of_decide_eq_true hb.symm
        rw [List.take_length] at at3
        walk_at "rd"
        refine .inr ⟨_, .inr ⟨us, ht3, rfl⟩, _, .inl (.inl (.inl hP3)), flat_ints ss', ?_⟩
        rw [hp3.1, inV_ints]
        exact q _ _ s3 (by rw [decide_eq_true_iff, at3, atG_end, fit_eq])
      obtain ⟨rfl, hb⟩ := h
      have hkn' : k < nm.length := Nat.lt_of_le_of_ne hkn (of_decide_eq_false hb.symm)
      refine q_next ?_
      refine q_val ?_
      refine lc_midT (J0 := Itl K P) (H0 := H4) ?_ (walk_list (K := K) (a := P) (xs := intsV ss')) (by unfold intsV; rw [List.length_map]; omega) (fun m acc H' => acc = intsV ((ss'.take m).filter fun s => starG PF.many fs s)) (fun _ _ _ _ _ h => h) rfl (fun H' s => .inl (.inl (s _ _ hP3))) (fun _ _ _ _ y => y_at y) (fun _ => rfl) ?_ ?_
      · walk_at "rd"
        exact .inl ⟨_, .inl (.inl hP3)⟩
      · rintro m x acc H' H'' hm s' hc ⟨rfl, hx⟩
        obtain ⟨s0, hs0, rfl⟩ := ints_at hx
        have hp5 : Each (fun f u H => Dp K H u (PF.d f)) fs us H'' := hp3.imp fun _ _ d => dp_mono s' _ _ d
        have ht5 := same_t s' ht3
        walk_at "rd"
        refine .inr ⟨_, .inr ⟨us, ht5, rfl⟩, ?_⟩
        rw [hp5.1, filt_take hs0, hc]
        refine ite2 (fun hlt => ?_) fun hge => ?_
        · have hlt' : s0 < fs.length := Int.ofNat_lt.mp hlt
          obtain ⟨u, hu, pu⟩ := hp5.2 s0 fs[s0] (List.getElem?_eq_getElem hlt')
          obtain ⟨va, xs, z, rfl, hxs, hz, ew⟩ := part_word pu
          refine ⟨us, .inr ht5, .ref va, atI_nat hu, xs, .inr hxs, _, hz, ?_⟩
          walk_at "rd"
          rw [← star_eq' hlt'] at ew
          refine ite2 (fun hz => ?_) fun hz => ?_
          · rw [decide_eq_true hz] at ew
            rw [if_pos ew.symm, ints_snoc]
          · rw [decide_eq_false hz] at ew
            rw [if_neg (by rw [← ew]; exact Bool.false_ne_true), List.append_nil]
        · have e : starG PF.many fs s0 = false := by
            cases hq : starG PF.many fs s0 with
            | false => rfl
            | true => exact absurd (Int.ofNat_lt.mpr (starG_lt hq)) hge
          rw [if_neg (by rw [e]; exact Bool.false_ne_true), List.append_nil]
      intro S1 acc1 H5 hS10 s5 hS1 lacc1 e1
      rw [List.take_of_length_le (by unfold intsV; rw [List.length_map]; exact Nat.le_refl _)] at e1
      subst e1
      have hP5 := s5 _ _ hP3
      have ht5 := same_t s5 ht3
      have hp5 : Each (fun f u H => Dp K H u (PF.d f)) fs us H5 := hp3.imp fun _ _ d => dp_mono s5 _ _ d
      have l5 : ((ss'.filter fun s => starG PF.many fs s)).length ≤ ss'.length := List.length_filter_le _ _
      refine q_val ?_
      refine lc_midT (J0 := Itl K P) (H0 := H5) ?_ (walk_list (K := K) (a := P) (xs := intsV ss')) (by unfold intsV; rw [List.length_map]; omega) (fun m acc H' => acc = intsV ((ss'.take m).filter fun s => decide (s < fs.length) && !starG PF.many fs s)) (fun _ _ _ _ _ h => h) rfl (fun H' s => .inl (.inl (s _ _ hP5))) (fun _ _ _ _ y => y_at y) (fun _ => rfl) ?_ ?_
      · walk_at "rd"
        exact .inl ⟨_, .inl (.inl hP5)⟩
      · rintro m x acc H' H'' hm s' hc ⟨rfl, hx⟩
        obtain ⟨s0, hs0, rfl⟩ := ints_at hx
        have hp6 : Each (fun f u H => Dp K H u (PF.d f)) fs us H'' := hp5.imp fun _ _ d => dp_mono s' _ _ d
        have ht6 := same_t s' ht5
        walk_at "rd"
        refine .inr ⟨_, .inr ⟨us, ht6, rfl⟩, ?_⟩
        rw [hp6.1, filt_take hs0, hc]
        refine ite2 (fun hlt => ?_) fun hge => ?_
        · have hlt' : s0 < fs.length := Int.ofNat_lt.mp hlt
          obtain ⟨u, hu, pu⟩ := hp6.2 s0 fs[s0] (List.getElem?_eq_getElem hlt')
          obtain ⟨va, xs, z, rfl, hxs, hz, ew⟩ := part_word pu
          refine ⟨us, .inr ht6, .ref va, atI_nat hu, xs, .inr hxs, _, hz, ?_⟩
          walk_at "rd"
          rw [← star_eq' hlt'] at ew
          have e0 : decide (s0 < fs.length) = true := decide_eq_true hlt'
          rw [e0, Bool.true_and]
          refine ite2 (fun hz => ?_) fun hz => ?_
          · rw [decide_eq_false hz] at ew
            rw [if_pos (by rw [← ew]; rfl), ints_snoc]
          · rw [decide_eq_true (Classical.byContradiction hz)] at ew
            rw [if_neg (by rw [← ew]; exact Bool.false_ne_true), List.append_nil]
        · rw [if_neg (by rw [decide_eq_false fun h => hge (Int.ofNat_lt.mpr h)]; exact Bool.false_ne_true), List.append_nil]
      intro S2 acc2 H6 hS20 s6 hS2 lacc2 e2
      rw [List.take_of_length_le (by unfold intsV; rw [List.length_map]; exact Nat.le_refl _)] at e2
      subst e2
      have ht6 := same_t s6 ht5
      have hp6 : Each (fun f u H => Dp K H u (PF.d f)) fs us H6 := hp5.imp fun _ _ d => dp_mono s6 _ _ d
      obtain ⟨c, hck⟩ : ∃ c, nm[k]? = some c := ⟨_, List.getElem?_eq_getElem hkn'⟩
      have l6 : (ss'.filter fun s => decide (s < fs.length) && !starG PF.many fs s).length ≤ ss'.length := List.length_filter_le _ _
      refine l_midG (fun v H' => Same H6 H' ∧ ∃ P2 nx, v = .ref P2 ∧ H6 P2 = none ∧ H' P2 = some (.lst (intsV nx)) ∧ nx.length ≤ ss'.length ∧ nx = (ss'.filter fun s => starG PF.many fs s) ++ (((ss'.filter fun s => decide (s < fs.length) && !starG PF.many fs s).filter fun s => fitAt fs s c).map (· + 1))) ?_ ?_
      · walk_at "rd"
        refine lc_midT (J0 := Itl K S2) (H0 := H6) ?_ (walk_list (K := K) (a := S2) (xs := intsV (ss'.filter fun s => decide (s < fs.length) && !starG PF.many fs s))) (by unfold intsV; rw [List.length_map]; omega) (fun m acc H' => acc = intsV ((((ss'.filter fun s => decide (s < fs.length) && !starG PF.many fs s).take m).filter fun s => fitAt fs s c).map (· + 1))) (fun _ _ _ _ _ h => h) rfl (fun H' s => .inl (.inl (s _ _ hS2))) (fun _ _ _ _ y => y_at y) (fun _ => rfl) ?_ ?_
        · walk_at "rd"
          exact .inl ⟨_, .inl (.inl hS2)⟩
        · rintro m x acc H' H'' hm s' hc ⟨rfl, hx⟩
          obtain ⟨s0, hs0, rfl⟩ := ints_at hx
          have hs0m := List.mem_of_getElem? hs0
          have hs0p : s0 < fs.length := by
            have := (List.mem_filter.mp hs0m).2
            rw [Bool.and_eq_true] at this
            exact of_decide_eq_true this.1
          obtain ⟨u, hu, pu⟩ := hp6.2 s0 fs[s0] (List.getElem?_eq_getElem hs0p)
          walk_at "rd"
          refine ⟨us, .inr (same_t s' ht6), u, atI_nat hu, by rw [S_len]; omega, c, atI_nat hck, u, fs[s0], c, rfl, dp_mono s' _ _ pu, _, rfl, Same.refl _, ?_⟩
          have ef : fitAt fs s0 c = fs[s0].fits c := by
            unfold fitAt
            rw [List.getElem?_eq_getElem hs0p]
          rw [filt_take hs0, hc, ← ef]
          refine ite2 (fun hf => ?_) fun hf => ?_
          · rw [if_pos hf, List.map_append]
            exact (ints_snoc (s := s0 + 1)).symm
          · rw [if_neg hf, List.append_nil]
        · intro S3 acc3 H7 hS30 s7 hS3 lacc3 e3
          rw [List.take_of_length_le (by unfold intsV; rw [List.length_map]; exact Nat.le_refl _)] at e3
          subst e3
          have lf := filt_two (p := fun s => starG PF.many fs s) (q := fun s => decide (s < fs.length) && !starG PF.many fs s) (fun x h => by simp [show starG PF.many fs x = true from h]) ss'
          have lg : ((ss'.filter fun s => decide (s < fs.length) && !starG PF.many fs s).filter fun s => fitAt fs s c).length ≤ (ss'.filter fun s => decide (s < fs.length) && !starG PF.many fs s).length := List.length_filter_le _ _
          refine .inl ⟨_, s7 _ _ (s6 _ _ hS1), _, hS3, ?_, fun p hp => ⟨s7.trans (same_new hp), same_none s7 hp, _, ?_, ?_, rfl⟩⟩
          · unfold intsV
            rw [List.length_map, List.length_map, List.length_map]
            omega
          · rw [upd_same]
            unfold intsV
            rw [List.map_append]
          · rw [List.length_append, List.length_map]
            omega
      · rintro _ H7 ⟨s7, P2, nx, rfl, hP20, hP2, ln, enx⟩
        have sA : Same H H7 := s3.trans (s5.trans (s6.trans s7))
        refine ⟨hkn', sA, P2, nx, _, _, _, _, rfl, hP2, same_none (s3.trans (s5.trans s6)) hP20, fun s hs => ?_, by omega, fun i => ?_⟩
        · rw [enx] at hs
          rcases List.mem_append.mp hs with e | e
          · exact Nat.le_of_lt (starG_lt (List.mem_filter.mp e).2)
          · obtain ⟨s0, e', rfl⟩ := List.mem_map.mp e
            have := (List.mem_filter.mp (List.mem_filter.mp e').1).2
            rw [Bool.and_eq_true] at this
            exact of_decide_eq_true this.1
        · have tk : nm.take (k + 1) = nm.take k ++ [c] := by rw [List.take_succ, hck]; rfl
          rw [tk]
          refine atG_next many_fits at3 (fun j => ?_) i
          rw [enx, List.mem_append, List.mem_filter, List.mem_map]
          constructor
          · rintro (⟨h1, h2⟩ | ⟨s0, h1, rfl⟩)
            · have hlt := starG_lt h2
              have hm : fs[j].many = true := by rw [← star_eq' hlt]; exact h2
              exact ⟨j, h1, fs[j], List.getElem?_eq_getElem hlt, many_fits _ _ hm, by rw [if_pos hm]⟩
            · obtain ⟨h2, h3⟩ := List.mem_filter.mp h1
              obtain ⟨h4, h5⟩ := List.mem_filter.mp h2
              rw [Bool.and_eq_true] at h5
              obtain ⟨f, hf, hc⟩ := fitAt_iff.mp h3
              refine ⟨s0, h4, f, hf, hc, ?_⟩
              have : f.many = false := by
                have e := h5.2
                rw [starG_eq hf] at e
                simpa using e
              rw [this]
              rfl
          · rintro ⟨s0, h1, f, hf, hc, rfl⟩
            cases hm : f.many with
            | true =>
              rw [if_pos rfl]
              exact .inl ⟨h1, by rw [starG_eq hf]; exact hm⟩
            | false =>
              rw [if_neg Bool.false_ne_true]
              refine .inr ⟨s0, List.mem_filter.mpr ⟨List.mem_filter.mpr ⟨h1, ?_⟩, fitAt_iff.mpr ⟨f, hf, hc⟩⟩, rfl⟩
              rw [starG_eq hf, hm, decide_eq_true (List.getElem?_eq_some_iff.mp hf).1]
              rfl
    · omega
theorem step_word {K : PySem.W.Frag} {f : SF} {v : V} {H : Hp} (h : Dp K H v (SF.d f)) : ∃ va xs z, v = .ref va ∧ SqT K H va xs ∧ atI xs 0 = some (.str z) ∧ decide (z = Str.ofString "deep") = f.deepB ∧ decide (z = Str.ofString "segment") = !f.deepB ∧ ∀ fs, f = .seg fs → ∃ tb us, atI xs 1 = some (.ref tb) ∧ SqT K H tb us ∧ Each (fun f u H => Dp K H u (PF.d f)) fs us H := by
  cases f with
  | deep =>
    cases h with
    | tup hs ha =>
      cases ha with
      | cons h1 ha =>
      cases ha
      cases h1
      exact ⟨_, _, _, rfl, hs, rfl, (by decide +kernel : decide (Str.ofString "deep" = Str.ofString "deep") = true), (by decide +kernel : decide (Str.ofString "deep" = Str.ofString "segment") = false), fun _ h => nomatch h⟩
  | seg fs =>
    cases h with
    | tup hs ha =>
      cases ha with
      | cons h1 ha =>
      cases ha with
      | cons h2 ha =>
      cases ha
      cases h1
      cases h2 with
      | tup h3 h4 =>
      refine ⟨_, _, _, rfl, hs, rfl, (by decide +kernel : decide (Str.ofString "segment" = Str.ofString "deep") = false), (by decide +kernel : decide (Str.ofString "segment" = Str.ofString "segment") = true), fun fs' e => ?_⟩
      cases e
      exact ⟨_, _, rfl, h3, dp_each h4⟩
def fitAtS (fs : List SF) (s : Nat) (c : List Nat) : Bool := match fs[s]? with
  | some f => f.fitB c
  | none => false
theorem fitAtS_iff {fs : List SF} {s : Nat} {c : List Nat} : fitAtS fs s c = true ↔ ∃ f, fs[s]? = some f ∧ f.fitB c = true := by
  unfold fitAtS
  cases fs[s]? with
  | none => exact ⟨fun h => (nomatch h), fun ⟨_, h, _⟩ => (nomatch h)⟩
  | some f => exact ⟨fun h => ⟨f, rfl, h⟩, fun ⟨_, h, g⟩ => by cases h; exact g⟩
theorem deep_eq' {fs : List SF} {j : Nat} (h : j < fs.length) : starG SF.deepB fs j = fs[j].deepB := starG_eq (List.getElem?_eq_getElem h)
theorem SF.deep_fits' (f : SF) (c : List Nat) (h : f.deepB = true) : f.fitB c = true := SF.deep_fits f c h
def spFitsS (K : PySem.W.Frag) : Sp := fun vs H Q _ => ∃ t us nl nm, ∃ fs : List SF, vs = [.ref t, .ref nl] ∧ SqT K H t us ∧ Each (fun f u H => Dp K H u (SF.d f)) fs us H ∧ fs.length ≤ 60 ∧ (∀ gs, SF.seg gs ∈ fs → gs.length ≤ 60) ∧ SqL K H nl (nmsV nm) ∧ nm.length ≤ 100000 ∧ (∀ w ∈ nm, w.length ≤ 100000) ∧
  ∀ b H', Same H H' → (b = true ↔ RFit fs nm) → Q (.bl b) H'
theorem ok__law_fits_steps (T : Txt K mg) : OkD P w K mg base 3 (fA K "_law_fits_steps") ["_law_steps", "_law_names_here"] [] (spFitsS K) := by
  refine okD T.F__law_fits_steps sc__law_fits_steps (fun _ _ _ _ _ _ us hl => match us, hl with | [_, _], _ => rfl) ?_ ?_
  · rintro vs H Q E ⟨t, us, nl, nm, fs, rfl, _⟩
    rfl
  · rintro cdv A outer s H vs Q E hr ⟨t, us, nl, nm, fs, rfl, ht, hp, hl, hgl, hnl, hn, hwl, q⟩
    refine ⟨_, (pss_cons (ps_set (i := 2) sc__law_fits_steps.nd rfl (Or.inl rfl) (pe_mid (pe_lst (pa_cons pe_int pa_nil))))
  (pss_cons (ps_mid (ps_for (passes_of rfl) rfl (pi_mid (pi_range1 rfl T.fr_range (pa_cons (pe_op (o_add (K := K)) (pe_callB (o_lenW (K := K) (w := w)) (by rfl) T.fr_len boot_len (pa_cons (pv 1) pa_nil)) pe_int) pa_nil))) (pg_name (i := 3) sc__law_fits_steps.nd rfl (Or.inr rfl)) (pss_cons (ps_mid (ps_for (passes_of rfl) rfl (pi_mid (pi_range1 rfl T.fr_range (pa_cons (pe_callB (o_lenW (K := K) (w := w)) (by rfl) T.fr_len boot_len (pa_cons (pv 0) pa_nil)) pa_nil))) (pg_name (i := 4) sc__law_fits_steps.nd rfl (Or.inl rfl)) (pss_one (ps_if (pt_mid (PW.pt (pw_and (pt_cmpR (o_in (K := K) (hu65 hr)) (pv 4) (pv 2) (by rfl)) (pw_and (pt_cmpR (o_eq (K := K) (hu64 hr)) (pe_ix (o_ix (K := K)) (pe_ix (o_ix (K := K)) (pv 0) (pv 4) (fun _ _ => rfl)) pe_int (fun _ _ => rfl)) pe_str (nomark _)) (pw_and1 (pt_cmpR (o_notin (K := K) (hu65 hr)) (pe_op (o_add (K := K)) (pv 4) pe_int) (pv 2) (by rfl))))))) (pss_one (ps_expr (pe_bmK (K := K) PySem.F.plainAttrs_list PySem.F.slot_list_append PySem.F.type_list_append mt_append (pv 2) (pa_cons (pe_mid (pe_op (o_add (K := K)) (pv 4) pe_int)) pa_nil)))) pss_nil))))
  (pss_cons (ps_if (pt_mid (pt_cmpR (o_eq (K := K) (hu64 hr)) (pv 3) (pe_callB (o_lenW (K := K) (w := w)) (by rfl) T.fr_len boot_len (pa_cons (pv 1) pa_nil)) (nomark _))) (pss_one (ps_ret (pe_cmpR (o_in (K := K) (hu65 hr)) (pe_callB (o_lenW (K := K) (w := w)) (by rfl) T.fr_len boot_len (pa_cons (pv 0) pa_nil)) (pv 2) (by rfl)))) pss_nil)
  (pss_cons (ps_setLc (own := [("_law_spot", 4)]) (g := (gName 4)) (i := 5) rfl sc__law_fits_steps.nd rfl rfl (sw_true rfl rfl rfl (by decide +kernel)) (pi_mid (o_it (K := K) rfl (pv 2))) (blkOk_by (N := N__law_fits_steps) (sc := defScope TX.s__law_fits_steps) (by decide +kernel)) (fun _ _ _ _ _ => (pg_name (i := 4) sc__law_fits_steps.nd rfl (Or.inl rfl))) (fun _ _ _ _ _ => (pts_one (pt_mid (PW.pt (pw_and (pt_cmpR o_lt (pv 4) (pe_callB (o_lenW (K := K) (w := w)) (by rfl) T.fr_len boot_len (pa_cons (pv 0) pa_nil)) (nomark _)) (pw_and1 (pt_cmpR (o_eq (K := K) (hu64 hr)) (pe_ix (o_ix (K := K)) (pe_ix (o_ix (K := K)) (pv 0) (pv 4) (fun _ _ => rfl)) pe_int (fun _ _ => rfl)) pe_str (nomark _)))))))) (fun _ _ _ _ _ => (pe_mid (pv 4))))
  (pss_cons (ps_setLc (own := [("_law_spot", 4)]) (g := (gName 4)) (i := 6) rfl sc__law_fits_steps.nd rfl rfl (sw_true rfl rfl rfl (by decide +kernel)) (pi_mid (o_it (K := K) rfl (pv 2))) (blkOk_by (N := N__law_fits_steps) (sc := defScope TX.s__law_fits_steps) (by decide +kernel)) (fun _ _ _ _ _ => (pg_name (i := 4) sc__law_fits_steps.nd rfl (Or.inl rfl))) (fun _ _ _ _ _ => (pts_one (pt_mid (PW.pt (pw_and (pt_cmpR o_lt (pv 4) (pe_callB (o_lenW (K := K) (w := w)) (by rfl) T.fr_len boot_len (pa_cons (pv 0) pa_nil)) (nomark _)) (pw_and1 (pt_cmpR (o_eq (K := K) (hu64 hr)) (pe_ix (o_ix (K := K)) (pe_ix (o_ix (K := K)) (pv 0) (pv 4) (fun _ _ => rfl)) pe_int (fun _ _ => rfl)) pe_str (nomark _)))))))) (fun _ _ _ _ _ => (pe_mid (pv 4))))
  (pss_one (ps_set (i := 2) sc__law_fits_steps.nd rfl (Or.inl rfl) (pe_mid (pe_op (o_add (K := K)) (pv 5) (pe_lc (own := [("_law_spot", 4)]) (g := (gName 4)) rfl sc__law_fits_steps.nd (pi_mid (o_it (K := K) rfl (pv 6))) (blkOk_by (N := N__law_fits_steps) (sc := defScope TX.s__law_fits_steps) (by decide +kernel)) (fun _ _ _ _ _ => (pg_name (i := 4) sc__law_fits_steps.nd rfl (Or.inl rfl))) (fun _ _ _ _ _ => (pts_one (pt_mid (pt_tru (K := K) (pe_cal (ok__law_fits_parts T) (hr.mono (by decide)) rfl T.g__law_fits_parts pasN (pa_cons (pe_ix (o_ix (K := K)) (pe_ix (o_ix (K := K)) (pv 0) (pv 4) (fun _ _ => rfl)) pe_int (fun _ _ => rfl)) (pa_cons (pe_ix (o_ix (K := K)) (pv 1) (pv 3) (fun _ _ => rfl)) pa_nil))) (by intro _; rfl))))) (fun _ _ _ _ _ => (pe_mid (pe_op (o_add (K := K)) (pv 4) pe_int))))))))))))))
  (pss_one (ps_ret pe_bl)))), ?_⟩
    have tobj := T.obj
    have lnm := nms_len (nms := nm)
    refine q_midG (fun v H' => Same H H' ∧ ∃ P, v = .ref P ∧ H P = none ∧ H' P = some (.lst (intsV [0]))) ?_ ?_
    · walk_at "rd"
      exact fun p hp => ⟨same_new hp, hp, upd_same⟩
    rintro _ H1 ⟨s1, P0, rfl, hP00, hP0⟩
    refine q_stm (fun σ H' => False) ?_ (fun _ _ h => h.elim)
    refine for_mid (J0 := Itr 0 (nm.length + 1)) (H0 := H1) ?_ walk_range
      (fun k σ H' => k ≤ nm.length ∧ Same H H' ∧ ∃ P ss x3 x4 x5 x6, σ = [some (.ref t), some (.ref nl), some (.ref P), x3, x4, x5, x6] ∧ H' P = some (.lst (intsV ss)) ∧ H P = none ∧ (∀ s ∈ ss, s ≤ fs.length) ∧ ss.length ≤ 1 + 60 * k ∧ ∀ i, (∃ s ∈ ss, ClosG SF.deepB fs s i) ↔ AtG SF.deepB SF.fitB fs (nm.take k) i)
      ⟨Nat.zero_le _, s1, P0, [0], _, _, _, _, rfl, hP0, hP00, fun s hs => by rw [List.mem_singleton.mp hs]; exact Nat.zero_le _, by simp, fun i => ?_⟩ (fun _ _ _ _ _ => trivial) ?_ (fun σ H' h => ?_)
    · walk_at "rd"
      refine .inr ⟨_, .inl ⟨_, same_l s1 hnl, rfl⟩, ?_⟩
      rw [lnm]
      exact ⟨by omega, by omega, by congr 1⟩
    · rw [List.take_zero, atG_nil]
      exact ⟨fun ⟨s, hs, h⟩ => by rw [List.mem_singleton.mp hs] at h; exact h, fun h => ⟨0, List.mem_cons_self, h⟩⟩
    · rintro k x σ H2 H2' hk ⟨hkn, s2, P, ss, x3, x4, x5, x6, rfl, hP, hPn, sle, sl, at0⟩ ⟨rfl, rfl⟩
      simp only [Int.zero_add, List.set_cons_zero, List.set_cons_succ]
      have ht2 := same_t s2 ht
      have hp2 : Each (fun f u H => Dp K H u (SF.d f)) fs us H2' := hp.imp fun _ _ d => dp_mono s2 _ _ d
      refine q_stm (fun σ H' => Same H H' ∧ ∃ ss' x4, σ = [some (.ref t), some (.ref nl), some (.ref P), some (.int (k : Nat)), x4, x5, x6] ∧ H' P = some (.lst (intsV ss')) ∧ (∀ s ∈ ss', s ≤ fs.length) ∧ ss'.length ≤ ss.length + 60 ∧ ∀ i, i ∈ ss' ↔ AtG SF.deepB SF.fitB fs (nm.take k) i) ?_ ?_
      · refine for_mid (J0 := Itr 0 fs.length) (H0 := H2') ?_ walk_range
          (fun j σ H' => Same H H' ∧ ∃ ss' x4, σ = [some (.ref t), some (.ref nl), some (.ref P), some (.int (k : Nat)), x4, x5, x6] ∧ H' P = some (.lst (intsV ss')) ∧ (∀ s ∈ ss', s ≤ fs.length) ∧ ss'.length ≤ ss.length + j ∧ CloAt SF.deepB fs ss ss' j)
          ⟨s2, ss, _, rfl, hP, sle, Nat.le_refl _, .zero⟩ (fun _ _ _ _ _ => trivial) ?_ (fun σ H' h => ?_)
        · walk_at "rd"
          refine .inr ⟨_, .inr ⟨us, ht2, rfl⟩, ?_⟩
          rw [hp2.1]
          exact ⟨by omega, by omega, rfl⟩
        · rintro j x σ H3 H3' hj ⟨s3, ss', x4, rfl, hP3, sle3, sl3, clo⟩ ⟨rfl, rfl⟩
          simp only [Int.zero_add, List.set_cons_zero, List.set_cons_succ]
          have ht4 := same_t s3 ht
          have hp4 : Each (fun f u H => Dp K H u (SF.d f)) fs us H3' := hp.imp fun _ _ d => dp_mono s3 _ _ d
          refine l_if (fun b H' => H' = H3' ∧ b = (decide (j ∈ ss') && (starG SF.deepB fs j && !decide (j + 1 ∈ ss')))) ?_ (fun H4 h => ?_) (fun H4 h => ?_)
          · walk_at "rd"
            refine ⟨_, .inl (.inl (.inl hP3)), flat_ints ss', ?_⟩
            rw [inV_ints]
            refine ite2 (fun h => ?_) fun h => ?_
            · obtain ⟨u, hu, pu⟩ := hp4.2 j fs[j] (List.getElem?_eq_getElem hj)
              obtain ⟨va, xs, z, rfl, hxs, hz, ew, ew2, esg⟩ := step_word pu
              refine ⟨us, .inr ht4, .ref va, atI_nat hu, xs, .inr hxs, _, hz, ?_⟩
              walk_at "rd"
              rw [show decide (j ∈ ss') = true from h, Bool.true_and, deep_eq' hj, ← ew]
              refine ite2 (fun hz => ?_) fun hz => ?_
              · refine ⟨_, .inl (.inl (.inl hP3)), flat_ints ss', ?_⟩
                rw [decide_eq_true hz, Bool.true_and]
                exact congrArg (!·) (inV_ints (j := j + 1))
              · rw [decide_eq_false hz]
                rfl
            · rw [show decide (j ∈ ss') = false from by simpa using h]
              rfl
          · obtain ⟨rfl, hb⟩ := h
            rw [eq_comm, Bool.and_eq_true, Bool.and_eq_true] at hb
            have h1 := of_decide_eq_true hb.1
            have hlt := starG_lt hb.2.1
            walk_at "rd"
            refine ⟨⟨_, .inl (.inl hP3)⟩, mid_of (fun v H' => H' = H4 ∧ v = .int ((j + 1 : Nat) : Int)) ?_ ?_⟩
            · walk_at "rd"
              rfl
            rintro _ _ ⟨rfl, rfl⟩
            rename_i H4
            refine ⟨_, hP3, by unfold intsV; rw [List.length_map]; omega, same_mut s3 hPn, ss' ++ [j + 1], ?_, fun s hs => ?_, by rw [List.length_append]; show ss'.length + 1 ≤ _; omega, clo.add h1 hb.2.1⟩
            · rw [upd_same]
              unfold intsV
              rw [List.map_append]
              rfl
            · rcases List.mem_append.mp hs with e | e
              · exact sle3 s e
              · rw [List.mem_singleton.mp e]; exact hlt
          · obtain ⟨rfl, hb⟩ := h
            refine ⟨s3, ss', _, rfl, hP3, sle3, by omega, clo.keep fun a b => ?_⟩
            rw [decide_eq_true a, b] at hb
            simpa using hb.symm
        · obtain ⟨s3, ss', x4, rfl, hP3, sle3, sl3, clo⟩ := h
          exact ⟨s3, ss', _, rfl, hP3, sle3, by omega, fun i => by rw [clo.done (Nat.le_refl _), at0]⟩
      rintro σ H3 ⟨s3, ss', x4, rfl, hP3, sle3, sl3, at3⟩
      have ht3 := same_t s3 ht
      have hp3 : Each (fun f u H => Dp K H u (SF.d f)) fs us H3 := hp.imp fun _ _ d => dp_mono s3 _ _ d
      refine q_if (fun b H' => H' = H3 ∧ b = decide (k = nm.length)) ?_ (fun H4 h => ?_) (fun H4 h => ?_)
      · walk_at "rd"
        refine .inr ⟨_, .inl ⟨_, same_l s3 hnl, rfl⟩, ?_⟩
        rw [lnm]
        exact decide_eq_decide.mpr ⟨fun h => Int.ofNat.inj h, fun h => congrArg Int.ofNat h⟩
      · obtain ⟨rfl, hb⟩ := h
        obtain rfl := of_decide_eq_true hb.symm
        rw [List.take_length] at at3
        walk_at "rd"
        refine .inr ⟨_, .inr ⟨us, ht3, rfl⟩, _, .inl (.inl (.inl hP3)), flat_ints ss', ?_⟩
        rw [hp3.1, inV_ints]
        exact q _ _ s3 (by rw [decide_eq_true_iff, at3, atG_end])
      obtain ⟨rfl, hb⟩ := h
      have hkn' : k < nm.length := Nat.lt_of_le_of_ne hkn (of_decide_eq_false hb.symm)
      refine q_next ?_
      refine q_val ?_
      refine lc_midT (J0 := Itl K P) (H0 := H4) ?_ (walk_list (K := K) (a := P) (xs := intsV ss')) (by unfold intsV; rw [List.length_map]; omega) (fun m acc H' => acc = intsV ((ss'.take m).filter fun s => starG SF.deepB fs s)) (fun _ _ _ _ _ h => h) rfl (fun H' s => .inl (.inl (s _ _ hP3))) (fun _ _ _ _ y => y_at y) (fun _ => rfl) ?_ ?_
      · walk_at "rd"
        exact .inl ⟨_, .inl (.inl hP3)⟩
      · rintro m x acc H' H'' hm s' hc ⟨rfl, hx⟩
        obtain ⟨s0, hs0, rfl⟩ := ints_at hx
        have hp5 : Each (fun f u H => Dp K H u (SF.d f)) fs us H'' := hp3.imp fun _ _ d => dp_mono s' _ _ d
        have ht5 := same_t s' ht3
        walk_at "rd"
        refine .inr ⟨_, .inr ⟨us, ht5, rfl⟩, ?_⟩
        rw [hp5.1, filt_take hs0, hc]
        refine ite2 (fun hlt => ?_) fun hge => ?_
        · have hlt' : s0 < fs.length := Int.ofNat_lt.mp hlt
          obtain ⟨u, hu, pu⟩ := hp5.2 s0 fs[s0] (List.getElem?_eq_getElem hlt')
          obtain ⟨va, xs, z, rfl, hxs, hz, ew, ew2, esg⟩ := step_word pu
          refine ⟨us, .inr ht5, .ref va, atI_nat hu, xs, .inr hxs, _, hz, ?_⟩
          walk_at "rd"
          rw [← deep_eq' hlt'] at ew
          refine ite2 (fun hz => ?_) fun hz => ?_
          · rw [decide_eq_true hz] at ew
            rw [if_pos ew.symm, ints_snoc]
          · rw [decide_eq_false hz] at ew
            rw [if_neg (by rw [← ew]; exact Bool.false_ne_true), List.append_nil]
        · have e : starG SF.deepB fs s0 = false := by
            cases hq : starG SF.deepB fs s0 with
            | false => rfl
            | true => exact absurd (Int.ofNat_lt.mpr (starG_lt hq)) hge
          rw [if_neg (by rw [e]; exact Bool.false_ne_true), List.append_nil]
      intro S1 acc1 H5 hS10 s5 hS1 lacc1 e1
      rw [List.take_of_length_le (by unfold intsV; rw [List.length_map]; exact Nat.le_refl _)] at e1
      subst e1
      have hP5 := s5 _ _ hP3
      have ht5 := same_t s5 ht3
      have hp5 : Each (fun f u H => Dp K H u (SF.d f)) fs us H5 := hp3.imp fun _ _ d => dp_mono s5 _ _ d
      have l5 : ((ss'.filter fun s => starG SF.deepB fs s)).length ≤ ss'.length := List.length_filter_le _ _
      refine q_val ?_
      refine lc_midT (J0 := Itl K P) (H0 := H5) ?_ (walk_list (K := K) (a := P) (xs := intsV ss')) (by unfold intsV; rw [List.length_map]; omega) (fun m acc H' => acc = intsV ((ss'.take m).filter fun s => decide (s < fs.length) && !starG SF.deepB fs s)) (fun _ _ _ _ _ h => h) rfl (fun H' s => .inl (.inl (s _ _ hP5))) (fun _ _ _ _ y => y_at y) (fun _ => rfl) ?_ ?_
      · walk_at "rd"
        exact .inl ⟨_, .inl (.inl hP5)⟩
      · rintro m x acc H' H'' hm s' hc ⟨rfl, hx⟩
        obtain ⟨s0, hs0, rfl⟩ := ints_at hx
        have hp6 : Each (fun f u H => Dp K H u (SF.d f)) fs us H'' := hp5.imp fun _ _ d => dp_mono s' _ _ d
        have ht6 := same_t s' ht5
        walk_at "rd"
        refine .inr ⟨_, .inr ⟨us, ht6, rfl⟩, ?_⟩
        rw [hp6.1, filt_take hs0, hc]
        refine ite2 (fun hlt => ?_) fun hge => ?_
        · have hlt' : s0 < fs.length := Int.ofNat_lt.mp hlt
          obtain ⟨u, hu, pu⟩ := hp6.2 s0 fs[s0] (List.getElem?_eq_getElem hlt')
          obtain ⟨va, xs, z, rfl, hxs, hz, ew, ew2, esg⟩ := step_word pu
          refine ⟨us, .inr ht6, .ref va, atI_nat hu, xs, .inr hxs, _, hz, ?_⟩
          walk_at "rd"
          rw [← deep_eq' hlt'] at ew2
          have e0 : decide (s0 < fs.length) = true := decide_eq_true hlt'
          rw [e0, Bool.true_and]
          refine ite2 (fun hz => ?_) fun hz => ?_
          · rw [decide_eq_true hz] at ew2
            rw [if_pos ew2.symm, ints_snoc]
          · rw [decide_eq_false hz] at ew2
            rw [if_neg (by rw [← ew2]; exact Bool.false_ne_true), List.append_nil]
        · rw [if_neg (by rw [decide_eq_false fun h => hge (Int.ofNat_lt.mpr h)]; exact Bool.false_ne_true), List.append_nil]
      intro S2 acc2 H6 hS20 s6 hS2 lacc2 e2
      rw [List.take_of_length_le (by unfold intsV; rw [List.length_map]; exact Nat.le_refl _)] at e2
      subst e2
      have ht6 := same_t s6 ht5
      have hp6 : Each (fun f u H => Dp K H u (SF.d f)) fs us H6 := hp5.imp fun _ _ d => dp_mono s6 _ _ d
      obtain ⟨c, hck⟩ : ∃ c, nm[k]? = some c := ⟨_, List.getElem?_eq_getElem hkn'⟩
      have l6 : (ss'.filter fun s => decide (s < fs.length) && !starG SF.deepB fs s).length ≤ ss'.length := List.length_filter_le _ _
      refine l_midG (fun v H' => Same H6 H' ∧ ∃ P2 nx, v = .ref P2 ∧ H6 P2 = none ∧ H' P2 = some (.lst (intsV nx)) ∧ nx.length ≤ ss'.length ∧ nx = (ss'.filter fun s => starG SF.deepB fs s) ++ (((ss'.filter fun s => decide (s < fs.length) && !starG SF.deepB fs s).filter fun s => fitAtS fs s c).map (· + 1))) ?_ ?_
      · walk_at "rd"
        refine lc_midT (J0 := Itl K S2) (H0 := H6) ?_ (walk_list (K := K) (a := S2) (xs := intsV (ss'.filter fun s => decide (s < fs.length) && !starG SF.deepB fs s))) (by unfold intsV; rw [List.length_map]; omega) (fun m acc H' => acc = intsV ((((ss'.filter fun s => decide (s < fs.length) && !starG SF.deepB fs s).take m).filter fun s => fitAtS fs s c).map (· + 1))) (fun _ _ _ _ _ h => h) rfl (fun H' s => .inl (.inl (s _ _ hS2))) (fun _ _ _ _ y => y_at y) (fun _ => rfl) ?_ ?_
        · walk_at "rd"
          exact .inl ⟨_, .inl (.inl hS2)⟩
        · rintro m x acc H' H'' hm s' hc ⟨rfl, hx⟩
          obtain ⟨s0, hs0, rfl⟩ := ints_at hx
          have hs0m := List.mem_of_getElem? hs0
          have hs0p : s0 < fs.length := by
            have := (List.mem_filter.mp hs0m).2
            rw [Bool.and_eq_true] at this
            exact of_decide_eq_true this.1
          obtain ⟨u, hu, pu⟩ := hp6.2 s0 fs[s0] (List.getElem?_eq_getElem hs0p)
          walk_at "rd"
          have hs0d : fs[s0].deepB = false := by
            have := (List.mem_filter.mp hs0m).2
            rw [Bool.and_eq_true, deep_eq' hs0p] at this
            simpa using this.2
          obtain ⟨gs, egs⟩ : ∃ gs, fs[s0] = .seg gs := by
            cases e : fs[s0] with
            | deep => rw [e] at hs0d; cases hs0d
            | seg gs => exact ⟨gs, rfl⟩
          have lgs := hgl gs (by rw [← egs]; exact List.getElem_mem hs0p)
          obtain ⟨va, xs, z, rfl, hxs, hz, ew, ew2, esg⟩ := step_word (dp_mono s' _ _ pu)
          obtain ⟨tb, tus, htb, hts, htp⟩ := esg gs egs
          have hwc := hwl c (List.mem_of_getElem? hck)
          refine ⟨us, .inr (same_t s' ht6), .ref va, atI_nat hu, ?_⟩
          walk_at "rd"
          refine ⟨xs, .inr hxs, .ref tb, htb, _, .inl (same_l (s3.trans (s5.trans (s6.trans s'))) hnl), .str (S c), atI_nat (nms_get hck), tb, tus, c, gs, rfl, hts, htp, lgs, hwc, fun b H9 s9 hb => ⟨_, rfl, s9, ?_⟩⟩
          have eb : b = fitAtS fs s0 c := by
            have e1 : fitAtS fs s0 c = fs[s0].fitB c := by
              unfold fitAtS
              rw [List.getElem?_eq_getElem hs0p]
            rw [e1, egs]
            exact Bool.eq_iff_iff.mpr (hb.trans SL.fitB_iff.symm)
          rw [filt_take hs0, hc, eb]
          refine ite2 (fun hf => ?_) fun hf => ?_
          · rw [if_pos hf, List.map_append]
            exact (ints_snoc (s := s0 + 1)).symm
          · rw [if_neg hf, List.append_nil]
        · intro S3 acc3 H7 hS30 s7 hS3 lacc3 e3
          rw [List.take_of_length_le (by unfold intsV; rw [List.length_map]; exact Nat.le_refl _)] at e3
          subst e3
          have lf := filt_two (p := fun s => starG SF.deepB fs s) (q := fun s => decide (s < fs.length) && !starG SF.deepB fs s) (fun x h => by simp [show starG SF.deepB fs x = true from h]) ss'
          have lg : ((ss'.filter fun s => decide (s < fs.length) && !starG SF.deepB fs s).filter fun s => fitAtS fs s c).length ≤ (ss'.filter fun s => decide (s < fs.length) && !starG SF.deepB fs s).length := List.length_filter_le _ _
          refine .inl ⟨_, s7 _ _ (s6 _ _ hS1), _, hS3, ?_, fun p hp => ⟨s7.trans (same_new hp), same_none s7 hp, _, ?_, ?_, rfl⟩⟩
          · unfold intsV
            rw [List.length_map, List.length_map, List.length_map]
            omega
          · rw [upd_same]
            unfold intsV
            rw [List.map_append]
          · rw [List.length_append, List.length_map]
            omega
      · rintro _ H7 ⟨s7, P2, nx, rfl, hP20, hP2, ln, enx⟩
        have sA : Same H H7 := s3.trans (s5.trans (s6.trans s7))
        refine ⟨hkn', sA, P2, nx, _, _, _, _, rfl, hP2, same_none (s3.trans (s5.trans s6)) hP20, fun s hs => ?_, by omega, fun i => ?_⟩
        · rw [enx] at hs
          rcases List.mem_append.mp hs with e | e
          · exact Nat.le_of_lt (starG_lt (List.mem_filter.mp e).2)
          · obtain ⟨s0, e', rfl⟩ := List.mem_map.mp e
            have := (List.mem_filter.mp (List.mem_filter.mp e').1).2
            rw [Bool.and_eq_true] at this
            exact of_decide_eq_true this.1
        · have tk : nm.take (k + 1) = nm.take k ++ [c] := by rw [List.take_succ, hck]; rfl
          rw [tk]
          refine atG_next SF.deep_fits' at3 (fun j => ?_) i
          rw [enx, List.mem_append, List.mem_filter, List.mem_map]
          constructor
          · rintro (⟨h1, h2⟩ | ⟨s0, h1, rfl⟩)
            · have hlt := starG_lt h2
              have hm : fs[j].deepB = true := by rw [← deep_eq' hlt]; exact h2
              exact ⟨j, h1, fs[j], List.getElem?_eq_getElem hlt, SF.deep_fits' _ _ hm, by rw [if_pos hm]⟩
            · obtain ⟨h2, h3⟩ := List.mem_filter.mp h1
              obtain ⟨h4, h5⟩ := List.mem_filter.mp h2
              rw [Bool.and_eq_true] at h5
              obtain ⟨f, hf, hc⟩ := fitAtS_iff.mp h3
              refine ⟨s0, h4, f, hf, hc, ?_⟩
              have : f.deepB = false := by
                have e := h5.2
                rw [starG_eq hf] at e
                simpa using e
              rw [this]
              rfl
          · rintro ⟨s0, h1, f, hf, hc, rfl⟩
            cases hm : f.deepB with
            | true =>
              rw [if_pos rfl]
              exact .inl ⟨h1, by rw [starG_eq hf]; exact hm⟩
            | false =>
              rw [if_neg Bool.false_ne_true]
              refine .inr ⟨s0, List.mem_filter.mpr ⟨List.mem_filter.mpr ⟨h1, ?_⟩, fitAtS_iff.mpr ⟨f, hf, hc⟩⟩, rfl⟩
              rw [starG_eq hf, hm, decide_eq_true (List.getElem?_eq_some_iff.mp hf).1]
              rfl
    · omega

/-! ### paths about rows, sign by sign -/
def pOk : Bool → List Nat → Prop
  | _, [] => True
  | b, c :: r => if c = 47 then b = true ∧ pOk false r else c ∈ SIG ∧ pOk true r
theorem pOk_take : ∀ {b : Bool} {w : List Nat} (n : Nat), pOk b w → pOk b (w.take n)
  | _, [], n, _ => by rw [List.take_nil]; trivial
  | _, _ :: _, 0, _ => trivial
  | b, c :: r, n + 1, h => by
    rw [List.take_succ_cons]
    unfold pOk at h ⊢
    split
    · rename_i e
      rw [if_pos e] at h
      exact ⟨h.1, pOk_take n h.2⟩
    · rename_i e
      rw [if_neg e] at h
      exact ⟨h.1, pOk_take n h.2⟩
theorem sig_ne47 {c : Nat} (h : c ∈ SIG) : c ≠ 47 := fun e => by
  rw [e] at h
  exact absurd h (by decide +kernel)
theorem pOk_name : ∀ {b : Bool} {nm w : List Nat}, nm ≠ [] → (∀ c ∈ nm, c ∈ SIG) → pOk true w → pOk b (nm ++ w)
  | _, [], _, h, _, _ => absurd rfl h
  | b, c :: r, w, _, h, g => by
    have hc := h c List.mem_cons_self
    show if c = 47 then _ else _
    rw [if_neg (sig_ne47 hc)]
    refine ⟨hc, ?_⟩
    cases r with
    | nil => exact g
    | cons d r => exact pOk_name (by simp) (fun x hx => h x (List.mem_cons_of_mem _ hx)) g
theorem pOk_end {fo : Bool} : pOk true (if fo = true then [47] else []) := by
  cases fo with
  | true => exact ⟨rfl, trivial⟩
  | false => trivial
theorem pOk_join {fo : Bool} : ∀ {nms : List (List Nat)}, nms ≠ [] → (∀ nm ∈ nms, nm ≠ [] ∧ ∀ c ∈ nm, c ∈ SIG) → pOk false (TL.joinL [47] nms ++ (if fo = true then [47] else []))
  | [], h, _ => absurd rfl h
  | [p], _, h => pOk_name (h p List.mem_cons_self).1 (h p List.mem_cons_self).2 pOk_end
  | p :: q :: r, _, h => by
    have e : TL.joinL [47] (p :: q :: r) ++ (if fo = true then [47] else []) = p ++ (47 :: (TL.joinL [47] (q :: r) ++ (if fo = true then [47] else []))) := by
      show (p ++ ([47] ++ TL.joinL [47] (q :: r))) ++ _ = _
      simp
    rw [e]
    exact pOk_name (h p List.mem_cons_self).1 (h p List.mem_cons_self).2 ⟨rfl, pOk_join (by simp) fun x hx => h x (List.mem_cons_of_mem _ hx)⟩
def spPath4 (K : PySem.W.Frag) : Sp := fun vs H Q _ => ∃ v c p ws r, vs = [v, .int c, .ref p] ∧ Dp K H v (RF.d r) ∧ RF.Ok r ∧ H p = some (.lst ws) ∧ ws.length = 4 ∧ (∀ v ∈ ws, SignV v) ∧ ∀ (w : List Nat) H', pOk false w → w.length ≤ 30000 → Same H H' → Q (.str (S w)) H'
theorem ok__law_path (T : Txt K mg) : OkD P w K mg base 3 (fA K "_law_path") ["_law_form", "_law_cell_here", "_law_signs_here"] [] (spPath4 K) := by
  refine okD T.F__law_path sc__law_path (fun _ _ _ _ _ _ us hl => match us, hl with | [_, _, _], _ => rfl) ?_ ?_
  · rintro vs H Q E ⟨v, c, p, ws, r, rfl, _⟩
    rfl
  · rintro cdv A outer s H vs Q E hr ⟨v, c, p, ws, r, rfl, hd, okr, hs, hl, hw, q⟩
    refine ⟨_, (pss_cons (ps_set (i := 3) sc__law_path.nd rfl (Or.inl rfl) (pe_mid (pe_op op_xor (pe_callTy o_int (by rfl) T.fr_int (by decide +kernel) (pa_cons (pe_ix (o_ix (K := K)) (pv 0) pe_int (fun _ _ => rfl)) pa_nil)) (pe_callTy o_int (by rfl) T.fr_int (by decide +kernel) (pa_cons (pe_cmpR (o_eq (K := K) (hu64 hr)) (pe_op op_mod (pv 1) pe_int) pe_int (nomark _)) pa_nil)))))
  (pss_one (ps_ret (pe_op (o_add (K := K)) (pe_mid (pe_bmK (K := K) PySem.F.plainAttrs_str PySem.F.slot_str_join PySem.F.type_str_join (mo_join (K := K)) pe_str (pa_cons (pe_cal (ok__law_names T) (hr.mono (by decide)) rfl T.g__law_names (pasE (takes_of rfl rfl rfl rfl) (fun _ _ _ _ h => h)) (pa_cons (pv 0) (pa_cons (pe_op op_fdivW (pv 1) pe_int) (pa_cons (pv 2) pa_nil)))) pa_nil))) (pe_op o_mulStr pe_str (pv 3)))))), ?_⟩
    have tobj := T.obj
    obtain ⟨fa, ft, fus, rfl, hfa, hft, feach⟩ := RF.inv hd
    have okp : ∀ fs, SF.seg fs ∈ r.steps → ∀ f ∈ fs, FOk f := fun fs h f hf => (show PartsOk fs from okr.ok _ h).ok f hf
    refine q_midG (fun v H' => ∃ b : Bool, v = .int (if b = true then 1 else 0) ∧ H' = H) ?_ ?_
    · walk_at "rd"
      refine ⟨_, .inr hfa, _, rfl, ?_⟩
      show ∃ b : Bool, Builtin.bitXor (if r.folders = true then 1 else 0) (if c % 4 = 0 then 1 else 0) = if b = true then 1 else 0
      cases r.folders <;> by_cases h4 : c % 4 = 0 <;> simp only [h4, if_true, if_false, Bool.false_eq_true]
      · exact ⟨true, by decide +kernel⟩
      · exact ⟨false, by decide +kernel⟩
      · exact ⟨false, by decide +kernel⟩
      · exact ⟨true, by decide +kernel⟩
    rintro _ _ ⟨b, rfl, rfl⟩
    rename_i H
    walk_at "rd"
    refine mid_of (fun v H' => Same H H' ∧ ∃ nms : List (List Nat), v = .str (S (TL.joinL [47] nms)) ∧ (nms ≠ [] ∧ (∀ nm ∈ nms, nm ≠ [] ∧ nm.length ≤ 400 ∧ ∀ c ∈ nm, c ∈ SIG) ∧ nms.length ≤ 50) ∧ (TL.joinL [47] nms).length ≤ 401 * 50) ?_ ?_
    · walk_at "rd"
      refine ⟨⟨by decide, by decide⟩, _, _, p, ws, r, rfl, hd, okr, okp, hs, hl, trivial, hw, fun F us H' hne hus hlen s hF => ?_⟩
      obtain ⟨nms, rfl, hn⟩ := names_list hus
      have ln : nms.length ≤ 50 := by rw [nms_len] at hlen; exact hlen
      have l1 := sum_len (b := 400) fun nm h => (hn nm h).2.1
      have l2 := join_len (b := 400) fun nm h => (hn nm h).2.1
      refine ⟨nms.map S, .inl (.inl (.inl hF)), ?_, s, nms, ?_, ⟨fun e => hne (by rw [e]; rfl), hn, ln⟩, ?_⟩
      · rw [List.length_map, show (Str.ofString "/").length = 1 from rfl]
        omega
      · exact join_S [47] nms
      · omega
    · rintro _ H1 ⟨s1, nms, rfl, ⟨n1, n2, n3⟩, hm⟩
      have ps := pOk_join (fo := b) n1 fun nm h => ⟨(n2 nm h).1, (n2 nm h).2.2⟩
      refine ⟨_, _, rfl, rfl, by cases b <;> decide, by cases b <;> decide, by decide, ?_⟩
      have e : repS (Str.ofString "/") (if b = true then (1 : Int) else 0).toNat = S (if b = true then [47] else []) := by cases b <;> decide +kernel
      rw [e]
      show (S _).length + (S _).length ≤ 16777216 ∧ Q (.str (S _ ++ S _)) H1
      have l2 : (if b = true then [47] else [] : List Nat).length ≤ 1 := by cases b <;> decide
      rw [S_cat, S_len, S_len]
      exact ⟨by omega, q _ _ ps (by rw [List.length_append]; omega) s1⟩

/-! ### long rows, with a set of up to twelve signs -/
theorem Each.set {α : Type} {R : α → V → Hp → Prop} {fs : List α} {us : List V} {H : Hp} (h : Each R fs us H) {f : α} {u : V} (g : R f u H) (i : Nat) : Each R (fs.set i f) (us.set i u) H := by
  refine ⟨by rw [List.length_set, List.length_set, h.1], fun j f' hf => ?_⟩
  rw [List.getElem?_set] at hf
  rw [List.getElem?_set]
  split at hf
  · rename_i e
    rw [if_pos e]
    split at hf
    · rename_i hl
      rw [if_pos (by rw [h.1]; exact hl)]
      cases hf
      exact ⟨u, rfl, g⟩
    · cases hf
  · rename_i e
    rw [if_neg e]
    exact h.2 j f' hf
theorem notwo_at : ∀ {fs : List PF} (i : Nat), (∀ j f, fs[j]? = some f → j ≠ i → f.many = false) → NoTwo fs
  | [], _, _ => trivial
  | [_], _, _ => trivial
  | f :: g :: r, i, h => by
    refine ⟨fun ⟨h1, h2⟩ => ?_, ?_⟩
    · by_cases hi : i = 0
      · have := h 1 g rfl (by omega)
        rw [this] at h2; cases h2
      · have := h 0 f rfl (fun e => hi e.symm)
        rw [this] at h1; cases h1
    · cases i with
      | zero =>
        refine notwo_of fun x hx => ?_
        obtain ⟨j, hj⟩ := List.mem_iff_getElem?.mp hx
        exact h (j + 1) x (by rw [List.getElem?_cons_succ]; exact hj) (by omega)
      | succ i => exact notwo_at (fs := g :: r) i fun j x hj hne => h (j + 1) x (by rw [List.getElem?_cons_succ]; exact hj) (by omega)
theorem nd_idx4 {α : Type} : ∀ {l : List α}, l.Nodup → ∀ {x : α} {i j : Nat}, l[i]? = some x → l[j]? = some x → i = j
  | [], _, _, i, _, h, _ => by simp at h
  | y :: r, nd, x, i, j, h, g => by
    have hd := List.nodup_cons.mp nd
    match i, j, h, g with
    | 0, 0, _, _ => rfl
    | 0, j + 1, h, g =>
      rw [List.getElem?_cons_succ] at g
      have e : y = x := Option.some.inj h
      exact absurd (List.mem_of_getElem? g) (e ▸ hd.1)
    | i + 1, 0, h, g =>
      rw [List.getElem?_cons_succ] at h
      have e : y = x := Option.some.inj g
      exact absurd (List.mem_of_getElem? h) (e ▸ hd.1)
    | i + 1, j + 1, h, g =>
      rw [List.getElem?_cons_succ] at h g
      exact congrArg (· + 1) (nd_idx4 hd.2 h g)
/-- the signs of a set, five apart -/
def apart (c : Int) (n : Nat) : List Nat := (List.range n).map fun (k : Nat) => SIG.getD ((c + 5 * (k : Int)) % 39).toNat 0
theorem apart_take {c : Int} {k : Nat} : apart c (k + 1) = apart c k ++ [SIG.getD ((c + 5 * (k : Int)) % 39).toNat 0] := by
  unfold apart
  rw [List.range_succ, List.map_append]
  rfl
theorem apart_nd {c : Int} {n : Nat} (h : n ≤ 39) : (apart c n).Nodup := by
  unfold apart
  refine List.pairwise_map.mpr (List.Pairwise.imp_of_mem (fun {i j} hi hj hne e => hne ?_) (List.nodup_range (n := n)))
  have hi := List.mem_range.mp hi
  have hj := List.mem_range.mp hj
  have b1 := Int.emod_nonneg (c + 5 * (i : Int)) (b := 39) (by decide)
  have b2 := Int.emod_lt_of_pos (c + 5 * (i : Int)) (b := 39) (by decide)
  have b3 := Int.emod_nonneg (c + 5 * (j : Int)) (b := 39) (by decide)
  have b4 := Int.emod_lt_of_pos (c + 5 * (j : Int)) (b := 39) (by decide)
  have l1 : ((c + 5 * (i : Int)) % 39).toNat < SIG.length := by rw [sig_len]; omega
  have l2 : ((c + 5 * (j : Int)) % 39).toNat < SIG.length := by rw [sig_len]; omega
  rw [List.getD_eq_getElem?_getD, List.getD_eq_getElem?_getD, List.getElem?_eq_getElem l1, List.getElem?_eq_getElem l2] at e
  have e2 : ((c + 5 * (i : Int)) % 39).toNat = ((c + 5 * (j : Int)) % 39).toNat := nd_idx4 sig_nd (x := SIG[((c + 5 * (i : Int)) % 39).toNat]) (List.getElem?_eq_getElem l1) (by rw [List.getElem?_eq_getElem l2]; exact congrArg some e.symm)
  omega
theorem q_abs {t u : TS} {D : Ends} {σ : L2.St} {H : Hp} (C : L2.St → Hp → Prop) (h : ∀ U : L2.St → Hp → Prop, (∀ σ' H', C σ' H' → U σ' H') → tSeq t (fun _ => U) D σ H) (k : ∀ σ' H', C σ' H' → u D σ' H') : tSeq t u D σ H := h (u D) k
def spLong4 (K : PySem.W.Frag) : Sp := fun vs H Q _ => ∃ c p ws, vs = [.int c, .ref p] ∧ SqL K H p ws ∧ ws.length = 4 ∧ (∀ v ∈ ws, SignV v) ∧ ∀ v r H', RF.Ok r → Same H H' → Dp K H' v (RF.d r) → Q v H'
theorem ok__law_long (T : Txt K mg) : OkD P w K mg base 2 (fA K "_law_long") ["_law_cell_here", "_law_signs_here"] [] (spLong4 K) := by
  refine okD T.F__law_long sc__law_long (fun _ _ _ _ _ _ us hl => match us, hl with | [_, _], _ => rfl) ?_ ?_
  · rintro vs H Q E ⟨c, p, ws, rfl, _⟩
    rfl
  · rintro cdv A outer s H vs Q E hr ⟨c, p, ws, rfl, hs, hl, hw, q⟩
    refine ⟨_, (pss_cons (ps_set (i := 2) sc__law_long.nd rfl (Or.inr rfl) pe_str)
  (pss_cons (ps_set (i := 3) sc__law_long.nd rfl (Or.inl rfl) (pe_mid (pe_bmK (K := K) PySem.F.plainAttrs_str PySem.F.slot_str_join PySem.F.type_str_join (mo_join (K := K)) pe_str (pa_cons (pe_callB (o_sorted (K := K) (w := w) rfl) (by rfl) T.fr_sorted (by decide +kernel) (pa_cons (pe_lc (own := [("_law_k", 5)]) (g := (gName 5)) (tt := tYes) rfl sc__law_long.nd (pi_mid (pi_range1 rfl T.fr_range (pa_cons (pe_op (o_add (K := K)) pe_int (pe_op op_mod (pv 0) pe_int)) pa_nil))) (blkOk_by (N := N__law_long) (sc := defScope TX.s__law_long) (by decide +kernel)) (fun _ _ _ _ _ => (pg_name (i := 5) sc__law_long.nd rfl (Or.inl rfl))) (fun _ _ _ _ _ => pts_nil) (fun _ _ _ _ _ => (pe_mid (pe_ix (o_ix (K := K)) (pv 2) (pe_op op_mod (pe_op (o_add (K := K)) (pv 0) (pe_op o_mul pe_int (pv 5))) pe_int) (fun _ _ => rfl))))) pa_nil)) pa_nil))))
  (pss_cons (ps_set (i := 4) sc__law_long.nd rfl (Or.inl rfl) (pe_lst pa_nil))
  (pss_cons (ps_mid (ps_for (passes_of rfl) rfl (pi_mid (pi_range1 rfl T.fr_range (pa_cons (pe_op (o_add (K := K)) pe_int (pe_op op_mod (pe_op op_fdivW (pv 0) pe_int) pe_int)) pa_nil))) (pg_name (i := 5) sc__law_long.nd rfl (Or.inl rfl)) (pss_cons (ps_set (i := 6) sc__law_long.nd rfl (Or.inr rfl) (pe_mid (pe_cal (ok__law_mixed T) (hr.mono (by decide)) rfl T.g__law_mixed (pasE (takes_of rfl rfl rfl rfl) (fun _ _ _ _ h => h)) (pa_cons (pv 0) (pa_cons (pe_op (o_add (K := K)) pe_int (pv 5)) pa_nil)))))
  (pss_one (ps_if (pt_mid (PW.pt (pw_and (pt_cmpR (o_eq (K := K) (hu64 hr)) (pe_op op_mod (pv 6) pe_int) pe_int (nomark _)) (pw_and1 (pt_cmpR (o_notin (K := K) (hu65 hr)) (pe_tup (pa_cons pe_str pa_nil)) (pe_slice (o_sl (K := K)) (pv 4) (po_some (pe_un un_neg pe_int)) po_none) (by rfl)))))) (pss_one (ps_expr (pe_bmK (K := K) PySem.F.plainAttrs_list PySem.F.slot_list_append PySem.F.type_list_append mt_append (pv 4) (pa_cons (pe_mid (pe_tup (pa_cons pe_str pa_nil))) pa_nil)))) (pss_cons (ps_setLc (own := [("_law_j", 10)]) (g := (gName 10)) (tt := tYes) (i := 7) rfl sc__law_long.nd rfl rfl (sw_true rfl rfl rfl (by decide +kernel)) (pi_mid (pi_range1 rfl T.fr_range (pa_cons (pe_op (o_add (K := K)) pe_int (pe_op op_mod (pe_op op_fdivW (pv 6) pe_int) pe_int)) pa_nil))) (blkOk_by (N := N__law_long) (sc := defScope TX.s__law_long) (by decide +kernel)) (fun _ _ _ _ _ => (pg_name (i := 10) sc__law_long.nd rfl (Or.inl rfl))) (fun _ _ _ _ _ => pts_nil) (fun _ _ _ _ _ => (pe_mid (pe_tup (pa_cons pe_str (pa_cons (pe_ix (o_ix (K := K)) (pv 1) (pe_op op_mod (pe_cal (ok__law_mixed T) (hr.mono (by decide)) rfl T.g__law_mixed pasN (pa_cons (pv 6) (pa_cons (pv 10) pa_nil))) pe_int) (fun _ _ => rfl)) pa_nil))))))
  (pss_cons (ps_set (i := 8) sc__law_long.nd rfl (Or.inl rfl) (pe_mid (pe_op op_mod (pe_op op_fdivW (pv 6) pe_int) (pe_callB (o_lenW (K := K) (w := w)) (by rfl) T.fr_len boot_len (pa_cons (pv 7) pa_nil)))))
  (pss_cons (ps_set (i := 9) sc__law_long.nd rfl (Or.inl rfl) (pe_mid (pe_lst (pa_cons (pe_ix (o_ix (K := K)) (pv 7) (pv 8) (fun _ _ => rfl)) (pa_cons (pe_tup (pa_cons pe_str pa_nil)) (pa_cons (pe_tup (pa_cons pe_str (pa_cons (pv 3) (pa_cons (pe_cmpR (o_eq (K := K) (hu64 hr)) (pe_op op_mod (pe_op op_fdivW (pv 6) pe_int) pe_int) pe_int (nomark _)) pa_nil)))) (pa_cons (pe_tup (pa_cons pe_str pa_nil)) pa_nil)))))))
  (pss_cons (ps_asg (pe_ix (o_ix (K := K)) (pv 9) (pe_op op_mod (pe_op op_fdivW (pv 6) pe_int) pe_int) (fun _ _ => rfl)) (pg_sub (pv 7) (pv 8) set_list))
  (pss_one (ps_expr (pe_bmK (K := K) PySem.F.plainAttrs_list PySem.F.slot_list_append PySem.F.type_list_append mt_append (pv 4) (pa_cons (pe_mid (pe_tup (pa_cons pe_str (pa_cons (pe_callTy (o_tuple (K := K)) (by rfl) T.fr_tuple (by decide +kernel) (pa_cons (pv 7) pa_nil)) pa_nil)))) pa_nil)))))))))))))
  (pss_one (ps_ret (pe_tup (pa_cons (pe_callTy (o_tuple (K := K)) (by rfl) T.fr_tuple (by decide +kernel) (pa_cons (pv 4) pa_nil)) (pa_cons (pe_cmpR (o_eq (K := K) (hu64 hr)) (pe_op op_mod (pe_op op_fdivW (pv 0) pe_int) pe_int) pe_int (nomark _)) (pa_cons (pe_cmpR (o_eq (K := K) (hu64 hr)) (pe_op op_mod (pe_op op_fdivW (pv 0) pe_int) pe_int) pe_int (nomark _)) pa_nil)))))))))), ?_⟩
    have tobj := T.obj
    have c0 : 0 ≤ c % 11 := Int.emod_nonneg _ (by decide)
    have c1 : c % 11 < 11 := Int.emod_lt_of_pos _ (by decide)
    obtain ⟨n0, hn0, hn01, hn02⟩ : ∃ n : Nat, 2 + c % 11 = (n : Int) ∧ 2 ≤ n ∧ n ≤ 12 := ⟨(2 + c % 11).toNat, by omega, by omega, by omega⟩
    refine q_val ?_
    refine q_midG (fun v H' => Same H H' ∧ ∃ l, v = .str (S l) ∧ SigSet l ∧ l.length ≤ 12) ?_ ?_
    · walk_at "rd"
      have as : (Str.ofString "-.0123456789_abcdefghijklmnopqrstuvwxyz") = S SIG := by decide +kernel
      refine lc_midM (J0 := Itr 0 n0) (H0 := H) ?_ walk_range (by omega) (fun k acc H' => acc = ((apart c k).map fun d => S [d]).map V.str) (fun _ _ _ _ _ h => h) rfl (fun _ _ => trivial) (fun _ _ _ _ y => y_fn y) (fun _ => rfl) ?_ ?_
      · walk_at "rd"
        rw [hn0]
        exact ⟨by omega, by omega, rfl⟩
      · rintro k x acc H' H'' hk s' hc ⟨rfl, rfl⟩
        obtain ⟨g1, g2⟩ := sig_get (i := (c + 5 * (k : Int)) % 39) (Int.emod_nonneg _ (by decide)) (Int.emod_lt_of_pos _ (by decide))
        refine mid_of (fun v H4 => H4 = H'' ∧ v = .str (S [SIG.getD ((c + 5 * (k : Int)) % 39).toNat 0])) ?_ ?_
        · walk_at "rd"
          rw [as]
          exact ⟨.inl ⟨by decide, by decide⟩, by rw [S_len, sig_len]; decide, _, g1, rfl⟩
        · rintro _ _ ⟨rfl, rfl⟩
          refine ⟨Same.refl _, ?_⟩
          rw [apart_take, hc, List.map_append, List.map_append]
          rfl
      · intro P acc H2 hP s2 hP2 lacc hc
        subst hc
        have nd := apart_nd (c := c) (n := n0) (by omega)
        walk_at "rd"
        have lap : (apart c n0).length = n0 := by unfold apart; rw [List.length_map, List.length_range]
        refine .inr (.inl ⟨P, (apart c n0).map fun d => S [d], rfl, .inl (.inl hP2), by rw [List.length_map, lap]; omega, fun ys p2 pm so hp2 => ?_⟩)
        obtain ⟨l, rfl, up, mem⟩ := sorted_signs pm so (nd_map1 nd) fun z hz => by
          obtain ⟨d, _, rfl⟩ := List.mem_map.mp hz
          exact ⟨d, rfl⟩
        have ll : l.length = n0 := by
          have e := pm.length_eq
          rw [List.length_map, List.length_map, lap] at e
          exact e
        refine ⟨_, .inl (.inl (.inl upd_same)), ?_, s2.trans (same_new hp2), l, join_chars l, ⟨fun e => by rw [e] at ll; simp at ll; omega, up, fun d h => ?_⟩, by omega⟩
        · have e := len_chars l
          rw [show (Str.ofString "") = S [] from rfl, e]
          omega
        · have h2 := map1_mem.mp ((mem d).mp h)
          unfold apart at h2
          obtain ⟨k, _, rfl⟩ := List.mem_map.mp h2
          exact (sig_get (i := (c + 5 * (k : Int)) % 39) (Int.emod_nonneg _ (by decide)) (Int.emod_lt_of_pos _ (by decide))).2
    rintro _ H1 ⟨s1, l, rfl, okl, ll⟩
    refine q_new fun L hL => ?_
    have sL := same_new (o := .lst []) hL
    have s1L := s1.trans sL
    have hm0 : 0 ≤ c / 11 % 5 := Int.emod_nonneg _ (by decide)
    have hm1 : c / 11 % 5 < 5 := Int.emod_lt_of_pos _ (by decide)
    obtain ⟨n, hn, hn1, hn3⟩ : ∃ n : Nat, 2 + c / 11 % 5 = (n : Int) ∧ 2 ≤ n ∧ n ≤ 6 := ⟨(2 + c / 11 % 5).toNat, by omega, by omega, by omega⟩
    refine q_stm (fun σ H' => ∃ x2 ss us x5 x6 x7 x8 x9 x10, σ = [some (.int c), some (.ref p), x2, some (.str (S l)), some (.ref L), x5, x6, x7, x8, x9, x10] ∧ Same H H' ∧ H' L = some (.lst us) ∧ Each (fun f u H => Dp K H u (SF.d f)) ss us H' ∧ ss ≠ [] ∧ (∀ s ∈ ss, s.Ok) ∧ NoTwoD ss ∧ ss.length ≤ 6) ?_ ?_
    · refine for_mid (J0 := Itr 0 n) (H0 := upd H1 L (.lst [])) ?_ walk_range
        (fun k σ H' => ∃ x2 ss us x5 x6 x7 x8 x9 x10, σ = [some (.int c), some (.ref p), x2, some (.str (S l)), some (.ref L), x5, x6, x7, x8, x9, x10] ∧ Same H H' ∧ H' L = some (.lst us) ∧ Each (fun f u H => Dp K H u (SF.d f)) ss us H' ∧ (0 < k → ss ≠ []) ∧ (∀ s ∈ ss, s.Ok) ∧ NoTwoD ss ∧ ss.length ≤ k)
        ⟨_, [], [], _, _, _, _, _, _, rfl, s1L, upd_same, .nil, fun h => absurd h (by decide), fun _ h => (nomatch h), trivial, Nat.le_refl _⟩ (fun _ _ _ _ _ => trivial) ?_ (fun σ H' h => ?_)
      · walk_at "rd"
        rw [hn]
        exact ⟨⟨by decide, by decide⟩, by omega, by omega, rfl⟩
      · rintro k x σ H2 H2' hk ⟨x2, ss, us, x5, x6, x7, x8, x9, x10, rfl, sm, hl1, each, ne, oks, two, len⟩ ⟨rfl, rfl⟩
        simp only [Int.zero_add, List.set_cons_zero, List.set_cons_succ]
        have hLH : H L = none := same_none s1 hL
        refine q_mid (fun m => 0 ≤ m ∧ m < 2147483647) ?_ fun mk hmk => ?_
        · walk_at "rd"
          exact ⟨c, _, rfl, fun m h1 h2 => ⟨rfl, m, rfl, h1, h2⟩⟩
        refine l_if (fun b H' => Same H2' H' ∧ (b = true → ss.getLast? ≠ some .deep)) ?_ ?_ ?_
        · walk_at "rd"
          refine ite2 (fun _ => ?_) fun _ h => h.elim
          exact deep_test (R := fun k H' => Same H2' H' ∧ (k = true → ¬ss.getLast? = some SF.deep)) hl1 each oks fun b H' s h => ⟨s, h⟩
        · rintro H3 ⟨s3, hb⟩
          have hL3 := s3 _ _ hl1
          refine l_app rfl hL3 ?_
          walk_at "rd"
          intro p' hp'
          have sp := same_new (o := .tup [V.str (Str.ofString "deep")]) hp'
          have s13 := (sm.trans s3).trans sp
          refine ⟨us, sp _ _ hL3, by rw [each.1]; omega, same_mut s13 hLH, ss ++ [.deep], _, upd_same, forms_snoc (sp _ _ hL3) (each.imp fun f u d => dp_mono (s3.trans sp) _ _ d) (.tup (.inl (.inl upd_same)) (.cons (.str _) .nil)), fun _ => by simp, fun s h => ?_, twoD_snoc two (fun _ => hb rfl), ?_⟩
          · exact (List.mem_append.mp h).elim (oks s) fun e => by rw [List.mem_singleton.mp e]; trivial
          · rw [List.length_append]; exact Nat.succ_le_succ len
        · rintro H3 ⟨s3, _⟩
          have hL3 := s3 _ _ hl1
          have sm3 := sm.trans s3
          have hfm0 : 0 ≤ mk / 5 % 12 := Int.emod_nonneg _ (by decide)
          have hfm1 : mk / 5 % 12 < 12 := Int.emod_lt_of_pos _ (by decide)
          obtain ⟨n2, hn2, hn21, hn22⟩ : ∃ n : Nat, 1 + mk / 5 % 12 = (n : Int) ∧ 1 ≤ n ∧ n ≤ 12 := ⟨(1 + mk / 5 % 12).toNat, by omega, by omega, by omega⟩
          refine q_val ?_
          refine lc_midM (J0 := Itr 0 n2) (H0 := H3) ?_ walk_range (by omega) (fun k acc H' => ∃ fs : List PF, Each (fun f u H => Dp K H u (PF.d f)) fs acc H' ∧ ∀ f ∈ fs, f.Ok ∧ f.many = false) (fun k acc Ha Hb e ⟨fs, a, b⟩ => ⟨fs, a.imp fun f u d => dp_nl e _ _ f.tup d, b⟩) ⟨[], .nil, fun _ h => nomatch h⟩ (fun _ _ => trivial) (fun _ _ _ _ y => y_fn y) (fun _ => rfl) ?_ ?_
          · walk_at "rd"
            rw [hn2]
            exact ⟨⟨by decide, by decide⟩, by omega, by omega, rfl⟩
          · rintro j x acc H' H'' hj s2 ⟨fs, ef, of⟩ ⟨rfl, rfl⟩
            refine mid_of (fun u H4 => Same H'' H4 ∧ ∃ d ∈ SIG, Dp K H4 u (PF.d (.one d))) ?_ ?_
            · walk_at "rd"
              refine ⟨mk, _, rfl, fun m _ _ => ?_⟩
              obtain ⟨d, hd1, e1⟩ := at4 hl hw m
              exact ⟨m, rfl, _, .inl (same_l s2 (same_l sm3 hs)), _, e1, fun p' hp' => ⟨same_new hp', d, hd1, .tup (.inl (.inl upd_same)) (.cons (.str _) (.cons (.str _) .nil))⟩⟩
            · rintro u H4 ⟨s4, d, hd, du⟩
              refine ⟨s4, fs ++ [.one d], (ef.imp fun f u d => dp_mono s4 _ _ d).snoc du, fun f hf => ?_⟩
              exact (List.mem_append.mp hf).elim (of f) fun e => by rw [List.mem_singleton.mp e]; exact ⟨hd, rfl⟩
          intro F vs0 H4 hF s4 hF4 lvs ⟨fs0, ef0, of0⟩
          have lf0 : fs0.length = n2 := by rw [← ef0.1, lvs]
          have hpp : 0 < n2 := hn21
          obtain ⟨at0, hat, hat2⟩ : ∃ j : Nat, mk / 60 % (n2 : Int) = (j : Int) ∧ j < n2 := ⟨(mk / 60 % (n2 : Int)).toNat, by have := Int.emod_nonneg (mk / 60) (b := (n2 : Int)) (by omega); omega, by have := Int.emod_lt_of_pos (mk / 60) (b := (n2 : Int)) (by omega); have := Int.emod_nonneg (mk / 60) (b := (n2 : Int)) (by omega); omega⟩
          refine q_midG (fun v H' => v = .int (at0 : Nat) ∧ H' = H4) ?_ ?_
          · walk_at "rd"
            refine ⟨⟨by decide, by decide⟩, .inr ⟨n2, .inl ⟨vs0, .inl (.inl hF4), lvs.symm⟩, by omega, ?_⟩⟩
            rw [hat]
          rintro _ _ ⟨rfl, rfl⟩
          rename_i H4
          obtain ⟨u0, hu0, du0⟩ := ef0.2 at0 fs0[at0] (List.getElem?_eq_getElem (by omega))
          have hFH : H3 F = none := hF
          have okf0 := of0 fs0[at0] (List.getElem_mem _)
          refine q_midG (fun v H' => Same H4 H' ∧ ∃ P, v = .ref P ∧ H4 P = none ∧ ∃ os : List PF, ∃ ovs, H' P = some (.lst ovs) ∧ os.length = 4 ∧ (∀ f ∈ os, f.Ok) ∧ Each (fun f u H => Dp K H u (PF.d f)) os ovs H') ?_ ?_
          · walk_at "rd"
            refine ⟨vs0, .inl (.inl (.inl hF4)), u0, atI_nat hu0, fun p1 hp1 => ⟨⟨by decide, by decide⟩, fun p2 hp2 p3 hp3 p4 hp4 => ?_⟩⟩
            have t1 := same_new (o := .tup [V.str (Str.ofString "any")]) hp1
            have t2 := same_new (o := .tup [V.str (Str.ofString "among"), V.str (S l), V.bl (decide (mk / 2880 % 2 = 1))]) hp2
            have t3 := same_new (o := .tup [V.str (Str.ofString "stars")]) hp3
            have t4 := same_new (o := .lst [u0, V.ref p1, V.ref p2, V.ref p3]) hp4
            have t34 := t3.trans t4
            have t24 := t2.trans t34
            have t14 := t1.trans t24
            refine ⟨t14, same_none (t1.trans (t2.trans t3)) hp4, [fs0[at0], .any, .among l (decide (mk / 2880 % 2 = 1)), .stars], _, upd_same, rfl, fun f hf => ?_, ?_⟩
            · simp only [List.mem_cons, List.not_mem_nil, or_false] at hf
              rcases hf with rfl | rfl | rfl | rfl
              · exact okf0.1
              · trivial
              · exact ⟨okl, ll⟩
              · trivial
            · refine (((Each.nil.snoc ?_).snoc ?_).snoc ?_).snoc ?_
              · exact dp_mono t14 _ _ du0
              · exact .tup (.inl (.inl (t24 _ _ upd_same))) (.cons (.str _) .nil)
              · exact .tup (.inl (.inl (t34 _ _ upd_same))) (.cons (.str _) (.cons (.str _) (.cons (.bl _) .nil)))
              · exact .tup (.inl (.inl (t4 _ _ upd_same))) (.cons (.str _) .nil)
          rintro _ H5 ⟨s5, P, rfl, hP0, os, ovs, hP, los, oos, eos⟩
          have hx0 : 0 ≤ mk / 720 % 4 := Int.emod_nonneg _ (by decide)
          have hx1 : mk / 720 % 4 < 4 := Int.emod_lt_of_pos _ (by decide)
          obtain ⟨xo, hxo, hxo2⟩ : ∃ j : Nat, mk / 720 % 4 = (j : Int) ∧ j < 4 := ⟨(mk / 720 % 4).toNat, by omega, by omega⟩
          obtain ⟨uo, huo, duo⟩ := eos.2 xo os[xo] (List.getElem?_eq_getElem (by omega))
          have oko := oos os[xo] (List.getElem_mem _)
          have hF5 := s5 _ _ hF4
          have ef5 : Each (fun f u H => Dp K H u (PF.d f)) fs0 vs0 H5 := ef0.imp fun _ _ d => dp_mono s5 _ _ d
          refine q_abs (fun σ' H' => σ' = [some (.int c), some (.ref p), x2, some (.str (S l)), some (.ref L), some (.int (k : Nat)), some (.int mk), some (.ref F), some (.int (at0 : Nat)), some (.ref P), x10] ∧ H' = upd H5 F (.lst (vs0.set at0 uo))) (fun U hU => ?_) ?_
          · walk_at "rd"
            refine ⟨⟨by decide, by decide⟩, ovs, .inl (.inl (.inl hP)), uo, by rw [hxo]; exact atI_nat huo, vs0, hF5, at0, ix_nat (by omega), hU _ _ ⟨rfl, rfl⟩⟩
          rintro _ _ ⟨rfl, rfl⟩
          have nlF := nl_upd (o := .lst (vs0.set at0 uo)) hF5
          have ef6 : Each (fun f u H => Dp K H u (PF.d f)) (fs0.set at0 os[xo]) (vs0.set at0 uo) (upd H5 F (.lst (vs0.set at0 uo))) := (ef5.set duo at0).imp fun f u d => dp_nl nlF _ _ f.tup d
          have sF : Same H3 (upd H5 F (.lst (vs0.set at0 uo))) := same_mut (s4.trans s5) hF
          have hFu : upd H5 F (.lst (vs0.set at0 uo)) F = some (.lst (vs0.set at0 uo)) := upd_same
          have okP : PartsOk (fs0.set at0 os[xo]) := by
            refine ⟨fun e => ?_, fun f hf => ?_, notwo_at at0 fun j f hf hne => ?_, by rw [List.length_set]; omega⟩
            · have h := congrArg List.length e
              rw [List.length_set, List.length_nil] at h
              omega
            · rcases List.mem_or_eq_of_mem_set hf with h | h
              · exact (of0 f h).1
              · rw [h]; exact oko
            · rw [List.getElem?_set_ne (fun e => hne e.symm)] at hf
              exact (of0 f (List.mem_of_getElem? hf)).2
          generalize upd H5 F (.lst (vs0.set at0 uo)) = H6 at *
          have hL6 := sF _ _ hL3
          have eachS : Each (fun f u H => Dp K H u (SF.d f)) ss us H6 := each.imp fun f u d => dp_mono (s3.trans sF) _ _ d
          refine l_app rfl hL6 ?_
          walk_at "rd"
          refine ⟨_, .inl ⟨.inl (.inl hFu), fun l2 hl2 p' hp' => ?_⟩⟩
          have sl := same_new (o := .tup (vs0.set at0 uo)) hl2
          have sp := same_new (o := .tup [V.str (Str.ofString "segment"), V.ref l2]) hp'
          have s5' := sl.trans sp
          refine ⟨us, s5' _ _ hL6, by rw [each.1]; omega, same_mut ((sm3.trans sF).trans s5') hLH, ss ++ [.seg (fs0.set at0 os[xo])], _, upd_same, forms_snoc (s5' _ _ hL6) (eachS.imp fun f u d => dp_mono s5' _ _ d) (seg_d ef6 hl2 hp'), fun _ => by simp, fun s h => ?_, twoD_snoc two (fun e => nomatch e), ?_⟩
          · exact (List.mem_append.mp h).elim (oks s) fun e => by rw [List.mem_singleton.mp e]; exact okP
          · rw [List.length_append]; exact Nat.succ_le_succ len
      · obtain ⟨x2, ss, us, x5, x6, x7, x8, x9, x10, e, s1, h1, h2, h3, h4, h5, h6⟩ := h
        exact ⟨x2, ss, us, x5, x6, x7, x8, x9, x10, e, s1, h1, h2, h3 (by omega), h4, h5, by omega⟩
    · rintro σ H1 ⟨x2, ss, us, x5, x6, x7, x8, x9, x10, rfl, s1, h1, h2, h3, h4, h5, h6⟩
      walk_at "rd"
      refine ⟨us, .inl ⟨.inl (.inl h1), fun l hl' => ⟨⟨by decide, by decide⟩, ⟨by decide, by decide⟩, fun p' hp' => ?_⟩⟩⟩
      exact q _ ⟨ss, _, _⟩ _ ⟨h3, h4, h5, Nat.le_trans h6 (by decide)⟩ ((s1.trans (same_new hl')).trans (same_new hp')) (row_d (r := ⟨ss, _, _⟩) h2 hl' hp')

/-! ### stands are the same -/
theorem srtS_uniq : ∀ {a b : List Spot}, a.Pairwise ltS → b.Pairwise ltS → (∀ x, x ∈ a ↔ x ∈ b) → a = b
  | [], [], _, _, _ => rfl
  | [], y :: _, _, _, h => nomatch (h y).mpr List.mem_cons_self
  | x :: _, [], _, _, h => nomatch (h x).mp List.mem_cons_self
  | x :: r, y :: s, ha, hb, h => by
    obtain ⟨a1, a2⟩ := List.pairwise_cons.mp ha
    obtain ⟨b1, b2⟩ := List.pairwise_cons.mp hb
    have e : x = y := by
      rcases List.mem_cons.mp ((h x).mp List.mem_cons_self) with e | hx
      · exact e
      · rcases List.mem_cons.mp ((h y).mpr List.mem_cons_self) with e | hy
        · exact e.symm
        · exact absurd (ltS_trans (a1 y hy) (b1 x hx)) ltS_irr
    subst e
    rw [srtS_uniq a2 b2 fun z => ?_]
    constructor
    · intro hz
      rcases List.mem_cons.mp ((h z).mp (List.mem_cons_of_mem _ hz)) with e | h'
      · rw [e] at hz
        exact absurd (a1 _ hz) ltS_irr
      · exact h'
    · intro hz
      rcases List.mem_cons.mp ((h z).mpr (List.mem_cons_of_mem _ hz)) with e | h'
      · rw [e] at hz
        exact absurd (b1 _ hz) ltS_irr
      · exact h'
theorem spots_dok {xs : List Spot} : DOk 2 (.list (xs.map spotD)) := dok_lst fun d hd => by
  obtain ⟨x, _, rfl⟩ := List.mem_map.mp hd
  exact spot_ok
theorem Spots.lst {xs : List Spot} {us : List V} {F : Addr} {H : Hp} (h : SqL K H F us) (sp : Spots xs us H) : Dp K H (.ref F) (.list (xs.map spotD)) := .lst h (each_dp (sp.imp fun _ _ h => h.dp))
/-! ### the stand that is due -/
theorem deep_at {fs : List SF} {k : Nat} : starG SF.deepB fs k = true ↔ fs[k]? = some .deep := by
  unfold starG
  cases e : fs[k]? with
  | none => simp
  | some f => cases f <;> simp [SF.deepB]
theorem stand_lo {r : RF} {ws : List (List Nat)} {w : List Nat} {x : Spot} (h : Stand r ws w x) : -2 ≤ x.2 := by
  unfold Stand at h
  split at h
  · obtain ⟨k, rfl, _⟩ := h
    exact Int.le_refl _
  · obtain ⟨k, _, ⟨_, rfl⟩ | ⟨_, j, _, _, rfl⟩⟩ := h
    · show (-2 : Int) ≤ -1
      omega
    · show (-2 : Int) ≤ (j : Int)
      omega
theorem stand_at2 {r : RF} {ws : List (List Nat)} {w : List Nat} {k : Nat} (hk : k ≤ r.steps.length) : Stand r ws w (k, -2) ↔ w = [] ∧ (RFit (r.steps.take k) ws ∨ (r.steps[k]? = some .deep ∧ RFit (r.steps.take (k + 1)) ws)) := by
  constructor
  · intro h
    by_cases hw : w = []
    · obtain ⟨k', e, h⟩ := (stand_b hw).mp h
      obtain rfl : k = k' := congrArg (·.1) e
      exact ⟨hw, h.2.imp id fun ⟨a, b⟩ => ⟨deep_at.mp a, b⟩⟩
    · obtain ⟨k', _, ⟨_, e⟩ | ⟨_, j, _, _, e⟩⟩ := (stand_w hw).mp h
      · have : (-2 : Int) = -1 := congrArg (·.2) e
        omega
      · have : (-2 : Int) = (j : Int) := congrArg (·.2) e
        omega
  · rintro ⟨hw, h⟩
    exact (stand_b hw).mpr ⟨k, rfl, hk, h.imp id fun ⟨a, b⟩ => ⟨deep_at.mpr a, b⟩⟩
theorem stand_at1 {r : RF} {ws : List (List Nat)} {w : List Nat} {k : Nat} : Stand r ws w (k, -1) ↔ w ≠ [] ∧ r.steps[k]? = some .deep ∧ RFit (r.steps.take (k + 1)) ws := by
  constructor
  · intro h
    by_cases hw : w = []
    · obtain ⟨k', e, _⟩ := (stand_b hw).mp h
      have : (-1 : Int) = -2 := congrArg (·.2) e
      omega
    · obtain ⟨k', at', ⟨hd, e⟩ | ⟨_, j, _, _, e⟩⟩ := (stand_w hw).mp h
      · obtain rfl : k = k' := congrArg (·.1) e
        have st := deep_at.mpr hd
        exact ⟨hw, hd, at'.2.elim (fun h => fitG_more st h) (·.2)⟩
      · have : (-1 : Int) = (j : Int) := congrArg (·.2) e
        omega
  · rintro ⟨hw, hd, h⟩
    have st := deep_at.mpr hd
    exact (stand_w hw).mpr ⟨k, ⟨Nat.le_of_lt (starG_lt st), .inr ⟨st, h⟩⟩, .inl ⟨hd, rfl⟩⟩
theorem stand_atj {r : RF} {ws : List (List Nat)} {w : List Nat} {k j : Nat} : Stand r ws w (k, (j : Int)) ↔ w ≠ [] ∧ ∃ fs, r.steps[k]? = some (.seg fs) ∧ RFit (r.steps.take k) ws ∧ At fs w j := by
  constructor
  · intro h
    by_cases hw : w = []
    · obtain ⟨k', e, _⟩ := (stand_b hw).mp h
      have : (j : Int) = -2 := congrArg (·.2) e
      omega
    · obtain ⟨k', at', ⟨_, e⟩ | ⟨fs, j', hs, ha, e⟩⟩ := (stand_w hw).mp h
      · have : (j : Int) = -1 := congrArg (·.2) e
        omega
      · obtain rfl : k = k' := congrArg (·.1) e
        have e2 : (j : Int) = (j' : Int) := congrArg (·.2) e
        obtain rfl : j = j' := by omega
        refine ⟨hw, fs, hs, at'.2.elim id fun h => ?_, ha⟩
        have := deep_at.mp h.1
        rw [hs] at this
        cases this
  · rintro ⟨hw, fs, hs, h, ha⟩
    exact (stand_w hw).mpr ⟨k, ⟨Nat.le_of_lt (List.getElem?_eq_some_iff.mp hs).1, .inl h⟩, .inr ⟨fs, j, hs, ha, rfl⟩⟩
/-- the spots below y, rising -/
def Below (r : RF) (ws : List (List Nat)) (w : List Nat) (y : Spot) (xs : List Spot) : Prop := xs.Pairwise ltS ∧ ∀ x, x ∈ xs ↔ Stand r ws w x ∧ ltS x y
section
variable {r : RF} {ws : List (List Nat)} {w : List Nat} {xs : List Spot} {k : Nat} {c : Int}
theorem Below.yes (h : Below r ws w (k, c) xs) (s : Stand r ws w (k, c)) : Below r ws w (k, c + 1) (xs ++ [(k, c)]) := by
  refine ⟨List.pairwise_append.mpr ⟨h.1, List.pairwise_singleton _ _, fun x hx y hy => ?_⟩, fun x => ?_⟩
  · rw [List.mem_singleton.mp hy]
    exact ((h.2 x).mp hx).2
  · rw [List.mem_append, List.mem_singleton, h.2]
    obtain ⟨n, i⟩ := x
    constructor
    · rintro (⟨a, b⟩ | e)
      · refine ⟨a, ?_⟩
        unfold ltS at *
        simp only at *
        omega
      · rw [e]
        exact ⟨s, .inr ⟨rfl, by show c < c + 1; omega⟩⟩
    · rintro ⟨a, b⟩
      unfold ltS at b
      simp only at b
      by_cases e : n = k ∧ i = c
      · exact .inr (by rw [e.1, e.2])
      · refine .inl ⟨a, ?_⟩
        unfold ltS
        simp only
        omega
theorem Below.no (h : Below r ws w (k, c) xs) (s : ¬ Stand r ws w (k, c)) : Below r ws w (k, c + 1) xs := by
  refine ⟨h.1, fun x => ?_⟩
  rw [h.2]
  refine and_congr_right fun a => ?_
  obtain ⟨n, i⟩ := x
  have : ¬ (n = k ∧ i = c) := fun ⟨e1, e2⟩ => s (by rw [← e1, ← e2]; exact a)
  unfold ltS
  simp only
  omega
theorem Below.next (h : Below r ws w (k, c) xs) (s : ∀ j : Int, c ≤ j → ¬ Stand r ws w (k, j)) : Below r ws w (k + 1, -2) xs := by
  refine ⟨h.1, fun x => ?_⟩
  rw [h.2]
  refine and_congr_right fun a => ?_
  have lo := stand_lo a
  obtain ⟨n, i⟩ := x
  by_cases e : n = k ∧ c ≤ i
  · exact absurd (by rw [← e.1]; exact a) (s i e.2)
  · unfold ltS
    simp only at *
    omega
theorem Below.len (h : Below r ws w (k, c) xs) (f : Few r) : xs.length ≤ 1000 := stand_len f h.1 fun x hx => ((h.2 x).mp hx).1
theorem Below.zero : Below r ws w (0, -2) [] := ⟨.nil, fun x => ⟨fun h => (nomatch h), fun ⟨a, b⟩ => by
  have := stand_lo a
  unfold ltS at b
  simp only at b
  omega⟩⟩
theorem Below.all (h : Below r ws w (r.steps.length + 1, -2) xs) (x : Spot) : x ∈ xs ↔ Stand r ws w x := by
  rw [h.2]
  refine ⟨(·.1), fun a => ⟨a, ?_⟩⟩
  have := stand_le a
  unfold ltS
  simp only
  omega
end
theorem Few.take {r : RF} (f : Few r) (k : Nat) : (r.steps.take k).length ≤ 60 ∧ ∀ gs, SF.seg gs ∈ r.steps.take k → gs.length ≤ 60 := ⟨Nat.le_trans (List.length_take_le' _ _) (Nat.le_trans f.steps (by decide)), fun gs h => f.parts gs (List.mem_of_mem_take h)⟩
/-- the beginning of a tuple -/
theorem sl_tup {K : PySem.W.Frag} {L : Prop} {H : Hp} {t : Addr} {us : List V} {j : Nat} (ht : SqT K H t us) (G : Addr → Hp → Prop) (h : ∀ pt Hx, Same H Hx → SqT K Hx pt (us.take j) → G pt Hx) :
    L ∨ ∃ xs, SqT K H t xs ∧ (HT.sIx xs.length 0 none = 0 ∧ HT.sIx xs.length xs.length (some (j : Int)) = xs.length → G t H) ∧ (¬(HT.sIx xs.length 0 none = 0 ∧ HT.sIx xs.length xs.length (some (j : Int)) = xs.length) → ∀ p, H p = none → G p (upd H p (.tup (cutV xs none (some (j : Int)))))) := by
  refine .inr ⟨us, ht, fun ⟨_, e⟩ => h t H (Same.refl _) ?_, fun _ p hp => h p _ (same_new hp) (.inl (.inl ?_))⟩
  · rw [HT.sIx_nat] at e
    rw [List.take_of_length_le (by omega)]
    exact ht
  · rw [upd_same, cut_take]
theorem fits_cut {K : PySem.W.Frag} {H Hx : Hp} {us : List V} {nl : Addr} {ws : List (List Nat)} {r : RF} {pt : Addr} {j : Nat} (few : Few r) (s : Same H Hx) (hp : Each (fun f u H => Dp K H u (SF.d f)) r.steps us H) (hnl : SqL K H nl (nmsV ws)) (lws : ws.length ≤ 100000) (lnm : ∀ n ∈ ws, n.length ≤ 100000) (hpt : SqT K Hx pt (us.take j)) {Q : VK} {E : XK} (q : ∀ b H', Same Hx H' → (b = true ↔ RFit (r.steps.take j) ws) → Q (.bl b) H') : spFitsS K [.ref pt, .ref nl] Hx Q E :=
  ⟨pt, us.take j, nl, ws, r.steps.take j, rfl, hpt, (hp.take j).imp fun _ _ d => dp_mono s _ _ d, (few.take j).1, (few.take j).2, same_l s hnl, lws, lnm, q⟩
theorem fitsP_cut {K : PySem.W.Frag} {H Hx : Hp} {us : List V} {w : List Nat} {fs : List PF} {pt : Addr} {j : Nat} (lf : fs.length ≤ 60) (s : Same H Hx) (hp : Each (fun f u H => Dp K H u (PF.d f)) fs us H) (lw : w.length ≤ 100000) (hpt : SqT K Hx pt (us.take j)) {Q : VK} {E : XK} (q : ∀ b H', Same Hx H' → (b = true ↔ Fit (fs.take j) w) → Q (.bl b) H') : spFitsP K [.ref pt, .str (S w)] Hx Q E :=
  ⟨pt, us.take j, w, fs.take j, rfl, hpt, (hp.take j).imp fun _ _ d => dp_mono s _ _ d, Nat.le_trans (List.length_take_le' _ _) lf, lw, q⟩
/-- a spot put behind the others -/
theorem put_spot {H H' : Hp} {F p : Addr} {ps : List V} {xs : List Spot} {n : Nat} {j : Int} {v : V} (hv : v = vJ j) (s : Same H H') (hF : H F = none) (hF' : H' F = some (.lst ps)) (sp : Spots xs ps H') (hp : H' p = none) :
    upd H' p (.tup [.int (n : Nat), v]) F = some (.lst ps) ∧ Same H (upd (upd H' p (.tup [.int (n : Nat), v])) F (.lst (ps ++ [.ref p]))) ∧ Spots (xs ++ [(n, j)]) (ps ++ [.ref p]) (upd (upd H' p (.tup [.int (n : Nat), v])) F (.lst (ps ++ [.ref p]))) := by
  subst hv
  have sp1 := same_new (o := .tup [V.int (n : Nat), vJ j]) hp
  have hF1 := sp1 _ _ hF'
  have ne : p ≠ F := fun e => by rw [← e, hp] at hF'; cases hF'
  refine ⟨hF1, same_mut (s.trans sp1) hF, Each.snoc (sp.imp fun _ _ h => (h.mono sp1).nl (nl_upd hF1)) ⟨p, rfl, ?_⟩⟩
  rw [upd_ne ne]
  exact upd_same
theorem S_empty {w : List Nat} : S w = Str.ofString "" ↔ w = [] := ⟨fun h => S_inj (h.trans (by rfl : Str.ofString "" = S [])), fun h => by rw [h]; rfl⟩
def spLStand (K : PySem.W.Frag) : Sp := fun vs H Q _ => ∃ t us nl r ws w, vs = [.ref t, .ref nl, .str (S w)] ∧ SqT K H t us ∧ Each (fun f u H => Dp K H u (SF.d f)) r.steps us H ∧ Few r ∧ SqL K H nl (nmsV ws) ∧ ws.length ≤ 100000 ∧ (∀ n ∈ ws, n.length ≤ 100000) ∧ w.length ≤ 100000 ∧
  ∀ F us xs H', Same H H' → H F = none → H' F = some (.lst us) → Spots xs us H' → xs.Pairwise ltS → (∀ x, x ∈ xs ↔ Stand r ws w x) → Q (.ref F) H'
theorem ok__law_stand (T : Txt K mg) : OkD P w K mg base 4 (fA K "_law_stand") ["_law_steps", "_law_names_here", "_law_signs_here"] [] (spLStand K) := by
  refine okD T.F__law_stand sc__law_stand (fun _ _ _ _ _ _ us hl => match us, hl with | [_, _, _], _ => rfl) ?_ ?_
  · rintro vs H Q E ⟨t, us, nl, r, ws, w, rfl, _⟩
    rfl
  · rintro cdv A outer s H vs Q E hr ⟨t, us, nl, r, ws, wd, rfl, ht, hp, few, hnl, lws, lnm, lw, q⟩
    refine ⟨_, (pss_cons (ps_set (i := 3) sc__law_stand.nd rfl (Or.inl rfl) (pe_lst pa_nil))
  (pss_cons (ps_mid (ps_for (passes_of rfl) rfl (pi_mid (pi_range1 rfl T.fr_range (pa_cons (pe_op (o_add (K := K)) (pe_callB (o_lenW (K := K) (w := w)) (by rfl) T.fr_len boot_len (pa_cons (pv 0) pa_nil)) pe_int) pa_nil))) (pg_name (i := 4) sc__law_stand.nd rfl (Or.inl rfl)) (pss_cons (ps_set (i := 5) sc__law_stand.nd rfl (Or.inl rfl) (pe_mid (pe_cal (ok__law_fits_steps T) (hr.mono (by decide)) rfl T.g__law_fits_steps (pasE (takes_of rfl rfl rfl rfl) (fun _ _ _ _ h => h)) (pa_cons (pe_slice (o_sl (K := K)) (pv 0) po_none (po_some (pv 4))) (pa_cons (pv 1) pa_nil)))))
  (pss_cons (ps_set (i := 6) sc__law_stand.nd rfl (Or.inl rfl) (pe_mid (pe_andK (K := K) (pe_cmpR o_lt (pv 4) (pe_callB (o_lenW (K := K) (w := w)) (by rfl) T.fr_len boot_len (pa_cons (pv 0) pa_nil)) (nomark _)) (pe_andK (K := K) (pe_cmpR (o_eq (K := K) (hu64 hr)) (pe_ix (o_ix (K := K)) (pe_ix (o_ix (K := K)) (pv 0) (pv 4) (fun _ _ => rfl)) pe_int (fun _ _ => rfl)) pe_str (nomark _)) (pe_one (pe_cal (ok__law_fits_steps T) (hr.mono (by decide)) rfl T.g__law_fits_steps (pasE (takes_of rfl rfl rfl rfl) (fun _ _ _ _ h => h)) (pa_cons (pe_slice (o_sl (K := K)) (pv 0) po_none (po_some (pe_op (o_add (K := K)) (pv 4) pe_int))) (pa_cons (pv 1) pa_nil))))))))
  (pss_cons (ps_mid (ps_if (pt_mid (PW.pt (pw_and (pt_cmpR (o_eq (K := K) (hu64 hr)) (pv 2) pe_str (nomark _)) (pw_and1 (PW.pt (pw_or (pt_tru (K := K) (pv 5) (by intro _; rfl)) (pw_or1 (pt_tru (K := K) (pv 6) (by intro _; rfl))))))))) (pss_one (ps_expr (pe_bmK (K := K) PySem.F.plainAttrs_list PySem.F.slot_list_append PySem.F.type_list_append mt_append (pv 3) (pa_cons (pe_mid (pe_tup (pa_cons (pv 4) (pa_cons pe_non pa_nil)))) pa_nil)))) pss_nil))
  (pss_cons (ps_mid (ps_if (pt_mid (PW.pt (pw_and (pt_cmpR (o_ne (K := K) (hu64 hr)) (pv 2) pe_str (nomark _)) (pw_and1 (pt_tru (K := K) (pv 6) (by intro _; rfl)))))) (pss_one (ps_expr (pe_bmK (K := K) PySem.F.plainAttrs_list PySem.F.slot_list_append PySem.F.type_list_append mt_append (pv 3) (pa_cons (pe_mid (pe_tup (pa_cons (pv 4) (pa_cons (pe_un un_neg pe_int) pa_nil)))) pa_nil)))) pss_nil))
  (pss_one (ps_if (pt_mid (PW.pt (pw_and (pt_cmpR (o_ne (K := K) (hu64 hr)) (pv 2) pe_str (nomark _)) (pw_and (pt_cmpR o_lt (pv 4) (pe_callB (o_lenW (K := K) (w := w)) (by rfl) T.fr_len boot_len (pa_cons (pv 0) pa_nil)) (nomark _)) (pw_and (pt_cmpR (o_eq (K := K) (hu64 hr)) (pe_ix (o_ix (K := K)) (pe_ix (o_ix (K := K)) (pv 0) (pv 4) (fun _ _ => rfl)) pe_int (fun _ _ => rfl)) pe_str (nomark _)) (pw_and1 (pt_tru (K := K) (pv 5) (by intro _; rfl)))))))) (pss_cons (ps_set (i := 7) sc__law_stand.nd rfl (Or.inl rfl) (pe_mid (pe_ix (o_ix (K := K)) (pe_ix (o_ix (K := K)) (pv 0) (pv 4) (fun _ _ => rfl)) pe_int (fun _ _ => rfl))))
  (pss_one (ps_mid (ps_for (passes_of rfl) rfl (pi_mid (pi_range1 rfl T.fr_range (pa_cons (pe_op (o_add (K := K)) (pe_callB (o_lenW (K := K) (w := w)) (by rfl) T.fr_len boot_len (pa_cons (pv 7) pa_nil)) pe_int) pa_nil))) (pg_name (i := 8) sc__law_stand.nd rfl (Or.inl rfl)) (pss_cons (ps_set (i := 9) sc__law_stand.nd rfl (Or.inl rfl) (pe_mid (pe_andK (K := K) (pe_cmpR o_lt (pv 8) (pe_callB (o_lenW (K := K) (w := w)) (by rfl) T.fr_len boot_len (pa_cons (pv 7) pa_nil)) (nomark _)) (pe_andK (K := K) (pe_cmpR (o_eq (K := K) (hu64 hr)) (pe_ix (o_ix (K := K)) (pe_ix (o_ix (K := K)) (pv 7) (pv 8) (fun _ _ => rfl)) pe_int (fun _ _ => rfl)) pe_str (nomark _)) (pe_one (pe_cal (ok__law_fits_parts T) (hr.mono (by decide)) rfl T.g__law_fits_parts (pasE (takes_of rfl rfl rfl rfl) (fun _ _ _ _ h => h)) (pa_cons (pe_slice (o_sl (K := K)) (pv 7) po_none (po_some (pe_op (o_add (K := K)) (pv 8) pe_int))) (pa_cons (pv 2) pa_nil))))))))
  (pss_one (ps_if (pt_mid (PW.pt (pw_or (pt_tru (K := K) (pv 9) (by intro _; rfl)) (pw_or1 (pt_tru (K := K) (pe_cal (ok__law_fits_parts T) (hr.mono (by decide)) rfl T.g__law_fits_parts (pasE (takes_of rfl rfl rfl rfl) (fun _ _ _ _ h => h)) (pa_cons (pe_slice (o_sl (K := K)) (pv 7) po_none (po_some (pv 8))) (pa_cons (pv 2) pa_nil))) (by intro _; rfl)))))) (pss_one (ps_expr (pe_bmK (K := K) PySem.F.plainAttrs_list PySem.F.slot_list_append PySem.F.type_list_append mt_append (pv 3) (pa_cons (pe_mid (pe_tup (pa_cons (pv 4) (pa_cons (pv 8) pa_nil)))) pa_nil)))) pss_nil))))))) pss_nil))))))))
  (pss_one (ps_ret (pv 3))))), ?_⟩
    have tobj := T.obj
    refine q_new fun F hF => ?_
    have sF : Same H (upd H F (.lst [])) := same_new hF
    have fl := few.steps
    refine q_stm (fun σ H' => Same H H' ∧ ∃ ps xs x4 x5 x6 x7 x8 x9, σ = [some (.ref t), some (.ref nl), some (.str (S wd)), some (.ref F), x4, x5, x6, x7, x8, x9] ∧ H' F = some (.lst ps) ∧ Spots xs ps H' ∧ Below r ws wd (r.steps.length + 1, -2) xs) ?_ ?_
    · refine for_mid (J0 := Itr 0 (r.steps.length + 1)) (H0 := upd H F (.lst [])) ?_ walk_range
        (fun k σ H' => Same H H' ∧ ∃ ps xs x4 x5 x6 x7 x8 x9, σ = [some (.ref t), some (.ref nl), some (.str (S wd)), some (.ref F), x4, x5, x6, x7, x8, x9] ∧ H' F = some (.lst ps) ∧ Spots xs ps H' ∧ Below r ws wd (k, -2) xs)
        ⟨sF, [], [], _, _, _, _, _, _, rfl, upd_same, .nil, .zero⟩ (fun _ _ _ _ _ => trivial) ?_ (fun _ _ h => h)
      · walk_at "rd"
        refine .inr ⟨_, .inr ⟨us, same_t sF ht, rfl⟩, ?_⟩
        rw [hp.1]
        exact ⟨by omega, by omega, by congr 1⟩
      rintro k x σ H1 H1' hk ⟨s1, ps, xs, x4, x5, x6, x7, x8, x9, rfl, hF1, sp, be⟩ ⟨rfl, rfl⟩
      simp only [Int.zero_add, List.set_cons_zero, List.set_cons_succ]
      have ht1 := same_t s1 ht
      have hnl1 := same_l s1 hnl
      have hp1 : Each (fun f u H => Dp K H u (SF.d f)) r.steps us H1' := hp.imp fun _ _ d => dp_mono s1 _ _ d
      refine q_midG (fun v H' => Same H1' H' ∧ ∃ b : Bool, v = .bl b ∧ (b = true ↔ RFit (r.steps.take k) ws)) ?_ ?_
      · walk_at "rd"
        refine sl_tup ht1 (fun pt Hx => spFitsS K [.ref pt, .ref nl] Hx _ _) fun pt Hx s hpt => ?_
        exact fits_cut few s hp1 hnl1 lws lnm hpt fun b H' s2 h => ⟨s.trans s2, b, rfl, h⟩
      rintro _ H2 ⟨s2, ah, rfl, hah⟩
      have ht2 := same_t s2 ht1
      have hnl2 := same_l s2 hnl1
      have hp2 : Each (fun f u H => Dp K H u (SF.d f)) r.steps us H2 := hp1.imp fun _ _ d => dp_mono s2 _ _ d
      refine q_midG (fun v H' => Same H2 H' ∧ ∃ b : Bool, v = .bl b ∧ (b = true ↔ r.steps[k]? = some .deep ∧ RFit (r.steps.take (k + 1)) ws)) ?_ ?_
      · walk_at "rd"
        refine .inr ⟨_, .inr ⟨us, ht2, rfl⟩, ?_⟩
        rw [hp2.1]
        refine ite2 (fun hlt => ?_) fun hlt => ?_
        · have hlt : k < r.steps.length := by omega
          obtain ⟨u, hu, pu⟩ := hp2.2 k r.steps[k] (List.getElem?_eq_getElem hlt)
          obtain ⟨va, xs, z, rfl, hxs, hz, ew, ew2, esg⟩ := step_word pu
          refine ⟨us, .inr ht2, .ref va, atI_nat hu, xs, .inr hxs, _, hz, ?_⟩
          walk_at "rd"
          refine ite2 (fun hz => ?_) fun hz => ?_
          · rw [show ((k : Int) + 1) = ((k + 1 : Nat) : Int) from rfl]
            have hd : r.steps[k]? = some .deep := deep_at.mp (by rw [deep_eq' hlt, ← ew, decide_eq_true hz])
            refine sl_tup ht2 (fun pt Hx => spFitsS K [.ref pt, .ref nl] Hx _ _) fun pt Hx s hpt => ?_
            exact fits_cut few s hp2 hnl2 lws lnm hpt fun b H' s2 h => ⟨s.trans s2, b, rfl, h.trans ⟨fun h => ⟨hd, h⟩, fun h => h.2⟩⟩
          · have hd : ¬ r.steps[k]? = some .deep := fun h => by
              have := deep_at.mpr h
              rw [deep_eq' hlt, ← ew] at this
              exact hz (of_decide_eq_true this)
            exact ⟨fun h => absurd h hz, fun h => absurd h.1 hd⟩
        · have hd : ¬ r.steps[k]? = some .deep := fun h => hlt (by have := (List.getElem?_eq_some_iff.mp h).1; omega)
          exact ⟨fun h => absurd h hlt, fun h => absurd h.1 hd⟩
      rintro _ H3 ⟨s3, tk, rfl, htk⟩
      have s13 := s1.trans (s2.trans s3)
      have hF3 := (s2.trans s3) _ _ hF1
      have sp3 : Spots xs ps H3 := sp.imp fun _ _ h => h.mono (s2.trans s3)
      have e2 : Stand r ws wd (k, -2) ↔ wd = [] ∧ (ah = true ∨ tk = true) := by rw [stand_at2 (by omega), hah, htk]
      have e1 : Stand r ws wd (k, -1) ↔ wd ≠ [] ∧ tk = true := by rw [stand_at1, htk]
      refine q_stm (fun σ H' => Same H H' ∧ ∃ ps xs, σ = [some (.ref t), some (.ref nl), some (.str (S wd)), some (.ref F), some (.int (k : Nat)), some (.bl ah), some (.bl tk), x7, x8, x9] ∧ H' F = some (.lst ps) ∧ Spots xs ps H' ∧ Below r ws wd (k, -1) xs) ?_ ?_
      · refine l_if (fun b H' => H' = H3 ∧ b = (decide (wd = []) && (ah || tk))) ?_ (fun H4 h => ?_) (fun H4 h => ?_)
        · walk_at "rd"
          refine ite2 (fun h => ?_) fun h => ?_
          · rw [decide_eq_true (S_empty.mp h), Bool.true_and]
            cases ah <;> rfl
          · rw [decide_eq_false (fun z => h (S_empty.mpr z))]
            rfl
        · obtain ⟨rfl, hb⟩ := h
          refine l_app (xs := ps) rfl hF3 ?_
          walk_at "rd"
          intro p1 hp1
          obtain ⟨h1, h2, h3⟩ := put_spot (j := -2) (n := k) rfl s13 hF hF3 sp3 hp1
          refine ⟨ps, h1, by rw [sp.1]; have := be.len few; omega, h2, _, upd_same, _, h3, be.yes (e2.mpr ?_)⟩
          rw [eq_comm, Bool.and_eq_true, Bool.or_eq_true, decide_eq_true_eq] at hb
          exact hb
        · obtain ⟨rfl, hb⟩ := h
          refine ⟨s13, ps, xs, rfl, hF3, sp3, be.no fun z => ?_⟩
          obtain ⟨h1, h2⟩ := e2.mp z
          rw [decide_eq_true h1] at hb
          rcases h2 with h2 | h2 <;> rw [h2] at hb <;> simp at hb
      rintro σ H4 ⟨s4, ps2, xs2, rfl, hF4, sp4, be4⟩
      refine q_stm (fun σ H' => Same H H' ∧ ∃ ps xs, σ = [some (.ref t), some (.ref nl), some (.str (S wd)), some (.ref F), some (.int (k : Nat)), some (.bl ah), some (.bl tk), x7, x8, x9] ∧ H' F = some (.lst ps) ∧ Spots xs ps H' ∧ Below r ws wd (k, 0) xs) ?_ ?_
      · refine l_if (fun b H' => H' = H4 ∧ b = (decide (wd ≠ []) && tk)) ?_ (fun H5 h => ?_) (fun H5 h => ?_)
        · walk_at "rd"
          refine ite2 (fun h => ?_) fun h => ?_
          · exact (by rw [show decide (¬ wd = []) = true from decide_eq_true fun z => h (S_empty.mpr z)]; rfl)
          · have h' : wd = [] := S_empty.mp (by simpa using h)
            rw [show decide (¬ wd = []) = false from decide_eq_false fun z => z h']
            rfl
        · obtain ⟨rfl, hb⟩ := h
          refine l_app (xs := ps2) rfl hF4 ?_
          walk_at "rd"
          intro p1 hp1
          obtain ⟨h1, h2, h3⟩ := put_spot (j := -1) (n := k) rfl s4 hF hF4 sp4 hp1
          refine ⟨ps2, h1, by rw [sp4.1]; have := be4.len few; omega, h2, _, upd_same, _, h3, be4.yes (e1.mpr ?_)⟩
          rw [eq_comm, Bool.and_eq_true, decide_eq_true_eq] at hb
          exact hb
        · obtain ⟨rfl, hb⟩ := h
          refine ⟨s4, ps2, xs2, rfl, hF4, sp4, be4.no fun z => ?_⟩
          obtain ⟨h1, h2⟩ := e1.mp z
          rw [decide_eq_true h1, h2] at hb
          cases hb
      rintro σ H5 ⟨s5, ps3, xs3, rfl, hF5, sp5, be5⟩
      have ht5 := same_t s5 ht
      have hp5 : Each (fun f u H => Dp K H u (SF.d f)) r.steps us H5 := hp.imp fun _ _ d => dp_mono s5 _ _ d
      refine l_if (fun b H' => H' = H5 ∧ (b = true ↔ wd ≠ [] ∧ ah = true ∧ ∃ fs, r.steps[k]? = some (.seg fs))) ?_ (fun H6 h => ?_) (fun H6 h => ?_)
      · walk_at "rd"
        refine ite2 (fun h => ?_) fun h => ?_
        · have hw : wd ≠ [] := fun z => h (S_empty.mpr z)
          refine .inr ⟨_, .inr ⟨us, ht5, rfl⟩, ?_⟩
          rw [hp5.1]
          refine ite2 (fun hlt => ?_) fun hlt => ?_
          · have hlt : k < r.steps.length := by omega
            obtain ⟨u, hu, pu⟩ := hp5.2 k r.steps[k] (List.getElem?_eq_getElem hlt)
            obtain ⟨va, xs, z, rfl, hxs, hz, ew, ew2, esg⟩ := step_word pu
            refine ⟨us, .inr ht5, .ref va, atI_nat hu, xs, .inr hxs, _, hz, ?_⟩
            walk_at "rd"
            have key : z = Str.ofString "segment" ↔ ∃ fs, r.steps[k]? = some (.seg fs) := by
              rw [← decide_eq_true_iff (p := z = Str.ofString "segment"), ew2, List.getElem?_eq_getElem hlt]
              cases r.steps[k] with
              | deep => exact ⟨fun h => (nomatch h), fun ⟨_, h⟩ => (nomatch h)⟩
              | seg fs => exact ⟨fun _ => ⟨fs, rfl⟩, fun _ => rfl⟩
            refine ite2 (fun hz => ?_) fun hz => ?_
            · obtain ⟨fs, hf⟩ := key.mp hz
              exact ⟨fun h => ⟨hw, h, fs, hf⟩, fun h => h.2.1⟩
            · exact ⟨fun h => h.elim, fun h => hz (key.mpr h.2.2)⟩
          · exact ⟨fun h => h.elim, fun ⟨_, _, fs, h⟩ => hlt (by have := (List.getElem?_eq_some_iff.mp h).1; omega)⟩
        · exact ⟨fun h => h.elim, fun h' => absurd (S_empty.mp (by simpa using h)) h'.1⟩
      · obtain ⟨rfl, hb⟩ := h
        obtain ⟨hw, ha, fs, hfs⟩ := hb.mp rfl
        have e0 : ∀ j : Nat, Stand r ws wd (k, (j : Int)) ↔ At fs wd j := fun j => by
          rw [stand_atj]
          exact ⟨fun ⟨_, fs', h, _, g⟩ => by rw [hfs] at h; cases h; exact g, fun g => ⟨hw, fs, hfs, hah.mp ha, g⟩⟩
        have lfs := few.seg hfs
        obtain ⟨u, hu, pu⟩ := hp.2 k _ hfs
        obtain ⟨va, vxs, z, rfl, hxs, hz, ew, ew2, esg⟩ := step_word pu
        obtain ⟨tb, pus, h1, h2, h3⟩ := esg fs rfl
        refine q_midG (fun v H' => H' = H6 ∧ v = .ref tb) ?_ ?_
        · walk_at "rd"
          exact ⟨us, .inr ht5, .ref va, atI_nat hu, vxs, .inr (same_t s5 hxs), _, h1, rfl⟩
        rintro _ _ ⟨rfl, rfl⟩
        rename_i H6
        refine ⟨_, ?_, fun _ _ h => h, fun _ _ h => h, fun _ _ h => h, fun _ _ h => h⟩
        refine for_mid (J0 := Itr 0 (fs.length + 1)) (H0 := H6) ?_ walk_range
          (fun j σ H' => Same H H' ∧ ∃ ps xs x8 x9, σ = [some (.ref t), some (.ref nl), some (.str (S wd)), some (.ref F), some (.int (k : Nat)), some (.bl ah), some (.bl tk), some (.ref tb), x8, x9] ∧ H' F = some (.lst ps) ∧ Spots xs ps H' ∧ Below r ws wd (k, (j : Nat)) xs)
          ⟨s5, ps3, xs3, _, _, rfl, hF5, sp5, be5⟩ (fun _ _ _ _ _ => trivial) ?_ (fun σ H' h => ?_)
        · walk_at "rd"
          refine .inr ⟨_, .inr ⟨pus, same_t s5 h2, rfl⟩, ?_⟩
          rw [h3.1]
          exact ⟨by omega, by omega, by congr 1⟩
        · rintro j x σ H7 H7' hj ⟨s7, ps, xs, x8, x9, rfl, hF7, sp7, be7⟩ ⟨rfl, rfl⟩
          simp only [Int.zero_add, List.set_cons_zero, List.set_cons_succ]
          have htb7 := same_t s7 h2
          have ep7 : Each (fun f u H => Dp K H u (PF.d f)) fs pus H7' := h3.imp fun _ _ d => dp_mono s7 _ _ d
          refine q_midG (fun v H' => Same H7' H' ∧ ∃ b : Bool, v = .bl b ∧ (b = true ↔ starAt fs j = true ∧ Fit (fs.take (j + 1)) wd)) ?_ ?_
          · walk_at "rd"
            refine .inr ⟨_, .inr ⟨pus, htb7, rfl⟩, ?_⟩
            rw [ep7.1]
            refine ite2 (fun hlt => ?_) fun hlt => ?_
            · have hlt : j < fs.length := by omega
              obtain ⟨u, hu, pu⟩ := ep7.2 j fs[j] (List.getElem?_eq_getElem hlt)
              obtain ⟨va, xs, z, rfl, hxs, hz, ew⟩ := part_word pu
              refine ⟨pus, .inr htb7, .ref va, atI_nat hu, xs, .inr hxs, _, hz, ?_⟩
              walk_at "rd"
              have st : z = Str.ofString "stars" ↔ starAt fs j = true := by rw [starAt_eq (List.getElem?_eq_getElem hlt), ← ew, decide_eq_true_iff]
              refine ite2 (fun hz => ?_) fun hz => ?_
              · rw [show ((j : Int) + 1) = ((j + 1 : Nat) : Int) from rfl]
                refine sl_tup htb7 (fun pt Hx => spFitsP K [.ref pt, .str (S wd)] Hx _ _) fun pt Hx s hpt => ?_
                exact fitsP_cut lfs s ep7 lw hpt fun b H' s2 h => ⟨s.trans s2, b, rfl, h.trans ⟨fun h => ⟨st.mp hz, h⟩, fun h => h.2⟩⟩
              · exact ⟨fun h => absurd h hz, fun h => absurd (st.mpr h.1) hz⟩
            · exact ⟨fun h => absurd h hlt, fun h => absurd (by have := starAt_lt h.1; omega) hlt⟩
          rintro _ H8 ⟨s8, os, rfl, hos⟩
          have htb8 := same_t s8 htb7
          have ep8 : Each (fun f u H => Dp K H u (PF.d f)) fs pus H8 := ep7.imp fun _ _ d => dp_mono s8 _ _ d
          refine l_if (fun b H' => Same H8 H' ∧ (b = true ↔ At fs wd j)) ?_ (fun H9 h => ?_) (fun H9 h => ?_)
          · walk_at "rd"
            have atd : At fs wd j ↔ (Fit (fs.take j) wd ∨ (starAt fs j = true ∧ Fit (fs.take (j + 1)) wd)) := ⟨fun h => h.2, fun h => ⟨by omega, h⟩⟩
            refine ite2 (fun ho => ?_) fun ho => ?_
            · exact ⟨fun _ => atd.mpr (.inr (hos.mp ho)), fun _ => trivial⟩
            · refine sl_tup htb8 (fun pt Hx => spFitsP K [.ref pt, .str (S wd)] Hx _ _) fun pt Hx s hpt => ?_
              exact fitsP_cut lfs s ep8 lw hpt fun b H' s2 h => ⟨b, rfl, s.trans s2, h.trans ⟨fun h => atd.mpr (.inl h), fun h => (atd.mp h).elim id fun z => absurd (hos.mpr z) ho⟩⟩
          · obtain ⟨s9, hb⟩ := h
            have at' : Stand r ws wd (k, (j : Int)) := (e0 j).mpr (hb.mp rfl)
            have s79 := s7.trans (s8.trans s9)
            have hF9 := (s8.trans s9) _ _ hF7
            refine l_app (xs := ps) rfl hF9 ?_
            walk_at "rd"
            intro p1 hp1
            obtain ⟨g1, g2, g3⟩ := put_spot (j := (j : Int)) (n := k) (v := .int (j : Nat)) (vJ_int (by omega)).symm s79 hF hF9 (sp7.imp fun _ _ h => h.mono (s8.trans s9)) hp1
            exact ⟨ps, g1, by rw [sp7.1]; have := be7.len few; omega, g2, _, upd_same, _, g3, be7.yes at'⟩
          · obtain ⟨s9, hb⟩ := h
            refine ⟨s7.trans (s8.trans s9), ps, xs, _, _, rfl, (s8.trans s9) _ _ hF7, sp7.imp fun _ _ h => h.mono (s8.trans s9), be7.no fun z => ?_⟩
            have := hb.mpr ((e0 j).mp z)
            cases this
        · obtain ⟨s7, ps, xs, x8, x9, rfl, hF7, sp7, be7⟩ := h
          refine ⟨s7, ps, xs, _, _, _, _, _, _, rfl, hF7, sp7, be7.next fun i hi z => ?_⟩
          obtain ⟨j, rfl⟩ := Int.eq_ofNat_of_zero_le (show 0 ≤ i by omega)
          have := ((e0 j).mp z).1
          omega
      · obtain ⟨rfl, hb⟩ := h
        refine ⟨s5, ps3, xs3, _, _, _, _, _, _, rfl, hF5, sp5, be5.next fun j hj z => ?_⟩
        obtain ⟨i, rfl⟩ := Int.eq_ofNat_of_zero_le hj
        obtain ⟨h1, fs, h2, h3, _⟩ := stand_atj.mp z
        have := hb.mpr ⟨h1, hah.mpr h3, fs, h2⟩
        cases this
    · rintro σ H2 ⟨s2, ps, xs, x4, x5, x6, x7, x8, x9, rfl, hF2, sp, be⟩
      walk_at "rd"
      exact q F ps xs H2 s2 hF hF2 sp be.1 be.all

/-! ### k43 -/
theorem cutS_upto {l : List Nat} {n : Nat} : cutS (S l) none (some (n : Int)) = S (l.take n) := by
  unfold cutS
  rw [HT.sIx_none, HT.sIx_nat]
  rw [S_len, show (S l).cps.toList = l from by simp]
  show S _ = S _
  congr 1
  rw [List.drop_zero, Nat.sub_zero]
  exact List.take_eq_take_min.symm
theorem few_ok {r : RF} (h : r.Ok) : Few r := ⟨h.ne, h.len, fun fs hf => (show PartsOk fs from h.ok _ hf).len⟩
/-- a stand: a list, or (b) a tuple -/
def StandV (K : PySem.W.Frag) (b : Bool) (r : RF) (ws : List (List Nat)) (nm : List Nat) (v : V) (H : Hp) : Prop := ∃ T us xs, v = .ref T ∧ (H T = some (.lst us) ∨ (b = true ∧ H T = some (.tup us))) ∧ Spots xs us H ∧ xs.Pairwise ltS ∧ ∀ x, x ∈ xs ↔ Stand r ws nm x
section
variable {K : PySem.W.Frag} {b : Bool} {r : RF} {ws : List (List Nat)} {nm : List Nat} {v : V} {H H' : Hp}
theorem StandV.mono (h : StandV K b r ws nm v H) (s : Same H H') : StandV K b r ws nm v H' := by
  obtain ⟨T, us, xs, e, hT, sp, so, mem⟩ := h
  exact ⟨T, us, xs, e, hT.imp (s _ _) fun ⟨a, g⟩ => ⟨a, s _ _ g⟩, sp.imp fun _ _ h => h.mono s, so, mem⟩
theorem StandV.upd {p : Addr} {xs ys : List V} (h : StandV K b r ws nm v H) (hp : H p = some (.lst xs)) (hv : v ≠ .ref p) : StandV K b r ws nm v (L2.upd H p (.lst ys)) := by
  obtain ⟨T, us, zs, e, hT, sp, so, mem⟩ := h
  have ne : T ≠ p := fun z => hv (by rw [e, z])
  exact ⟨T, us, zs, e, by rw [upd_ne ne]; exact hT, sp.imp fun _ _ h => h.nl (nl_upd hp), so, mem⟩
theorem StandV.any (h : StandV K false r ws nm v H) : StandV K true r ws nm v H := by
  obtain ⟨T, us, xs, e, hT | hT, g⟩ := h
  · exact ⟨T, us, xs, e, .inl hT, g⟩
  · cases hT.1
end
/-- a comprehension that makes lists -/
theorem lc_own {J0 : It} {n : Nat} {G : Hp → Prop} {Y : Nat → Hp → V → Hp → Prop} {wi : TI} {i : Nat} {σ : L2.St} {H H0 : Hp} {vs : List Nat} {te : TE} {Q : VK} (h : wi σ H fun J H1 => J = J0 ∧ H1 = H0) (w : Walk J0 n G Y) (hn : n < 16777216) (C : Nat → V → Hp → Prop)
    (hC : ∀ k v p xs ys Ha, C k v Ha → Ha p = some (.lst xs) → v ≠ .ref p → C k v (upd Ha p (.lst ys))) (hS : ∀ k v Ha Hb, C k v Ha → Same Ha Hb → C k v Hb)
    (hG : ∀ H', Same H0 H' → G H') (hY : ∀ k H x H', Y k H x H' → Same H H') (hw : ∀ x, wipe ((wipe σ vs).set i (some x)) vs = wipe σ vs)
    (turn : ∀ k x H' H'', k < n → Same H0 H' → Y k H' x H'' → tMid te ((wipe σ vs).set i (some x)) H'' fun y H4 => Same H'' H4 ∧ C k y H4 ∧ ∀ p, y = .ref p → H'' p = none)
    (done : ∀ p acc H', H0 p = none → Same H0 H' → H' p = some (.lst acc) → acc.length = n → (∀ k v, acc[k]? = some v → C k v H') → Q (.ref p) H') : tLc (iMid wi) (gName i) tYes (tMid te) vs σ H Q := by
  refine ⟨_, h, ?_⟩
  rintro J H1 ⟨rfl, rfl⟩ p hp
  refine lc_it w (fun k H' => ∃ acc, Same H1 H' ∧ H' p = some (.lst acc) ∧ acc.length = k ∧ ∀ j v, acc[j]? = some v → C j v H' ∧ v ≠ .ref p) ⟨[], same_new hp, upd_same, rfl, fun j v h => by simp at h⟩ (fun k H' _ ⟨acc, s, _⟩ => hG H' s) ?_ fun H' ⟨acc, s, hD, hl, c⟩ => done p acc H' hp s hD hl fun k v h => (c k v h).1
  rintro k x H' H'' hk ⟨acc, s, hD, hl, c⟩ y
  have s2 := hY k H' x H'' y
  refine ⟨hw x, ?_⟩
  obtain ⟨R, h1, h2⟩ := turn k x H' H'' hk s y
  refine ⟨R, h1, ?_⟩
  rintro v H4 hR
  obtain ⟨s3, c', hf⟩ := h2 v H4 hR
  have hD2 := s2 _ _ hD
  have hD4 : H4 p = some (.lst acc) := s3 _ _ hD2
  have hv : v ≠ .ref p := fun e => by
    have := hf p e
    rw [hD2] at this
    cases this
  refine ⟨acc, hD4, by rw [sizeLine_eq]; omega, acc ++ [v], same_mut ((s.trans s2).trans s3) hp, upd_same, by rw [List.length_append, hl]; rfl, fun j u hj => ?_⟩
  rcases Nat.lt_or_ge j acc.length with e | e
  · rw [List.getElem?_append_left e] at hj
    obtain ⟨c1, c2⟩ := c j u hj
    exact ⟨hC _ _ _ _ _ _ (hS _ _ _ _ c1 (s2.trans s3)) hD4 c2, c2⟩
  · rw [List.getElem?_append_right e] at hj
    have e0 : j - acc.length = 0 := by
      rcases Nat.eq_zero_or_pos (j - acc.length) with z | z
      · exact z
      · rw [List.getElem?_eq_none (by rw [List.length_singleton]; omega)] at hj
        cases hj
    rw [e0] at hj
    cases hj
    have ej : j = k := by omega
    subst ej
    exact ⟨hC _ _ _ _ _ _ c' hD4 hv, hv⟩
/-- .. over pairs that stand -/
theorem lc_pairs {K : PySem.W.Frag} {a : Addr} {ps : List V} {wi : TI} {i j : Nat} {σ : L2.St} {H H0 : Hp} {vs : List Nat} {te : TE} {Q : VK} (h : wi σ H fun J H1 => J = Itl K a ∧ H1 = H0) (hn : ps.length < 16777216) (C : Nat → V → Hp → Prop)
    (hC : ∀ k v p xs ys Ha, C k v Ha → Ha p = some (.lst xs) → v ≠ .ref p → C k v (upd Ha p (.lst ys))) (hS : ∀ k v Ha Hb, C k v Ha → Same Ha Hb → C k v Hb)
    (ha : SqL K H0 a ps) (hps : ∀ (k : Nat) v, ps[k]? = some v → ∃ t x y, v = .ref t ∧ H0 t = some (.tup [x, y])) (hw : ∀ x y, wipe (((wipe σ vs).set i (some x)).set j (some y)) vs = wipe σ vs)
    (turn : ∀ k t x y H', ps[k]? = some (.ref t) → H0 t = some (.tup [x, y]) → Same H0 H' → tMid te (((wipe σ vs).set i (some x)).set j (some y)) H' fun y H4 => Same H' H4 ∧ C k y H4 ∧ ∀ p, y = .ref p → H' p = none)
    (done : ∀ p acc H', H0 p = none → Same H0 H' → H' p = some (.lst acc) → acc.length = ps.length → (∀ k v, acc[k]? = some v → C k v H') → Q (.ref p) H') : tLc (iMid wi) (gTup K 2 (gCons (gName i) (gCons (gName j) gNil))) tYes (tMid te) vs σ H Q := by
  refine ⟨_, h, ?_⟩
  rintro J H1 ⟨rfl, rfl⟩ p hp
  refine lc_it (walk_list (K := K) (a := a) (xs := ps)) (fun k H' => ∃ acc, Same H1 H' ∧ H' p = some (.lst acc) ∧ acc.length = k ∧ ∀ j v, acc[j]? = some v → C j v H' ∧ v ≠ .ref p) ⟨[], same_new hp, upd_same, rfl, fun j v h => by simp at h⟩ (fun k H' _ ⟨acc, s, _⟩ => same_l s ha) ?_ fun H' ⟨acc, s, hD, hl, c⟩ => done p acc H' hp s hD hl fun k v h => (c k v h).1
  rintro k x H' H'' hk ⟨acc, s, hD, hl, c⟩ ⟨rfl, hx⟩
  obtain ⟨t, x, y, rfl, ht⟩ := hps k x hx
  refine ⟨t, [x, y], rfl, .inl (.inl (s _ _ ht)), rfl, x, [y], rfl, y, [], rfl, rfl, hw _ _, ?_⟩
  obtain ⟨R, h1, h2⟩ := turn k t x y _ hx ht s
  refine ⟨R, h1, ?_⟩
  rintro v H4 hR
  obtain ⟨s3, c', hf⟩ := h2 v H4 hR
  have hD4 : H4 p = some (.lst acc) := s3 _ _ hD
  have hv : v ≠ .ref p := fun e => by
    have := hf p e
    rw [hD] at this
    cases this
  refine ⟨acc, hD4, by rw [sizeLine_eq]; omega, acc ++ [v], same_mut (s.trans s3) hp, upd_same, by rw [List.length_append, hl]; rfl, fun j u hj => ?_⟩
  rcases Nat.lt_or_ge j acc.length with e | e
  · rw [List.getElem?_append_left e] at hj
    obtain ⟨c1, c2⟩ := c j u hj
    exact ⟨hC _ _ _ _ _ _ (hS _ _ _ _ c1 s3) hD4 c2, c2⟩
  · rw [List.getElem?_append_right e] at hj
    have e0 : j - acc.length = 0 := by
      rcases Nat.eq_zero_or_pos (j - acc.length) with z | z
      · exact z
      · rw [List.getElem?_eq_none (by rw [List.length_singleton]; omega)] at hj
        cases hj
    rw [e0] at hj
    cases hj
    have ej : j = k := by omega
    subst ej
    exact ⟨hC _ _ _ _ _ _ c' hD4 hv, hv⟩
theorem each_of {α : Type} {R : α → V → Hp → Prop} {fs : List α} {us : List V} {H : Hp} (hl : us.length = fs.length) (h : ∀ (k : Nat) v, us[k]? = some v → ∀ r, fs[k]? = some r → R r v H) : Each R fs us H := ⟨hl, fun i f hf => by
  have hi := (List.getElem?_eq_some_iff.mp hf).1
  have e : us[i]? = some us[i] := List.getElem?_eq_getElem (by omega)
  exact ⟨us[i], e, h i _ e f hf⟩⟩
def spRight (K : PySem.W.Frag) : Sp := fun vs H Q _ => ∃ row f v nl r ws nm, vs = [row, f, v, .ref nl, .str (S nm)] ∧ RowV K r row H ∧ Dp K H f (RF.d r) ∧ RF.Ok r ∧ StandV K true r ws nm v H ∧ H nl = some (.lst (nmsV ws)) ∧ ws.length ≤ 1000 ∧ (∀ n ∈ ws, n.length ≤ 1000) ∧ nm.length ≤ 1000 ∧ ∀ H', Same H H' → Q (.bl true) H'
theorem ok__law_right (T : Txt K mg) : OkD P w K mg base 7 (fA K "_law_right") ["_law_row_here", "_law_form", "_law_stand_here", "_law_names_here", "_law_here"] [] (spRight K) := by
  refine okD T.F__law_right sc__law_right (fun _ _ _ _ _ _ us hl => match us, hl with | [_, _, _, _, _], _ => rfl) ?_ ?_
  · rintro vs H Q E ⟨row, f, v, nl, r, ws, nm, rfl, _⟩
    rfl
  · rintro cdv A outer s H vs Q E hr ⟨row, f, v, nl, r, ws, nm, rfl, hrow, hd, ok, hst, hnl0, lws, lnm, ln, q⟩
    refine ⟨_, (pss_cons (ps_if (pt_mid (pt_cmpR (o_ne (K := K) (hu64 hr)) (pe_callTy (o_list (K := K) rfl) (by rfl) T.fr_list (by decide +kernel) (pa_cons (pv 2) pa_nil)) (pe_cal (ok__law_stand T) (hr.mono (by decide)) rfl T.g__law_stand (pasE (takes_of rfl rfl rfl rfl) (fun _ _ _ _ h => h)) (pa_cons (pe_ix (o_ix (K := K)) (pv 1) pe_int (fun _ _ => rfl)) (pa_cons (pv 3) (pa_cons (pv 4) pa_nil)))) (nomark _))) (pss_one (ps_ret pe_bl)) pss_nil)
  (pss_cons (ps_if (pt_mid (pt_cmpR (o_eq (K := K) (hu64 hr)) (pv 4) pe_str (nomark _))) (pss_one (ps_ret (pe_cmpR (o_eq (K := K) (hu64 hr)) (pe_cal (ok_fits_folder T) (hr.mono (by decide)) rfl T.g_fits_folder (pasE (takes_of rfl rfl rfl rfl) (fun _ _ _ _ h => h)) (pa_cons (pv 0) (pa_cons (pv 2) pa_nil))) (pe_cal (ok__law_fits_steps T) (hr.mono (by decide)) rfl T.g__law_fits_steps (pasE (takes_of rfl rfl rfl rfl) (fun _ _ _ _ h => h)) (pa_cons (pe_ix (o_ix (K := K)) (pv 1) pe_int (fun _ _ => rfl)) (pa_cons (pv 3) pa_nil))) (nomark _)))) pss_nil)
  (pss_one (ps_ret (pe_cmpR (o_eq (K := K) (hu64 hr)) (pe_cal (ok_fits_leaf T) (hr.mono (by decide)) rfl T.g_fits_leaf (pasE (takes_of rfl rfl rfl rfl) (fun _ _ _ _ h => h)) (pa_cons (pv 0) (pa_cons (pv 2) pa_nil))) (pe_andK (K := K) (pe_notK (K := K) (pe_ix (o_ix (K := K)) (pv 1) pe_int (fun _ _ => rfl))) (pe_one (pe_mid (pe_cal (ok__law_fits_steps T) (hr.mono (by decide)) rfl T.g__law_fits_steps (pasE (takes_of rfl rfl rfl rfl) (fun _ _ _ _ h => h)) (pa_cons (pe_ix (o_ix (K := K)) (pv 1) pe_int (fun _ _ => rfl)) (pa_cons (pe_op (o_add (K := K)) (pv 3) (pe_lst (pa_cons (pv 4) pa_nil))) pa_nil)))))) (nomark _)))))), ?_⟩
    have tobj := T.obj
    have hnl : SqL K H nl (nmsV ws) := .inl (.inl hnl0)
    have few := few_ok ok
    obtain ⟨fa, ft, fus, rfl, hfa, hft, feach⟩ := RF.inv hd
    obtain ⟨T, us, xs, rfl, hT, sp, so, mem⟩ := id hst
    have lxs := stand_len few so fun x hx => (mem x).mp hx
    refine q_if (fun b H' => b = false ∧ Same H H') ?_ (fun H1 h => nomatch h.1) (fun H1 h => ?_)
    · walk_at "rd"
      refine ⟨us, hT.elim (fun h => .inl (.inl (.inl h))) (fun h => .inr (.inl (.inl h.2))), fun l hl => ?_⟩
      have sl := same_new (o := .lst us) hl
      refine ⟨_, .inr (same_t sl hfa), .ref ft, rfl, ft, fus, nl, r, ws, nm, rfl, same_t sl hft, feach.imp fun _ _ d => dp_mono sl _ _ d, few, same_l sl hnl, by omega, (fun n hn => Nat.le_trans (lnm n hn) (by decide)), by omega, fun F vs ys H' s' _ hF sp2 so2 mem2 => ?_⟩
      have e := srtS_uniq so so2 fun x => (mem x).trans (mem2 x).symm
      subst e
      exact ne_dat spots_dok (by decide) (Spots.lst (.inl (.inl (s' _ _ upd_same))) (sp.imp fun _ _ h => h.mono (sl.trans s'))) (Spots.lst (.inl (.inl hF)) sp2) ⟨false, rfl, rfl, sl.trans s'⟩
    obtain ⟨_, s1⟩ := h
    refine q_next ?_
    refine q_if (fun b H' => H' = H1 ∧ b = decide (nm = [])) ?_ (fun H2 h => ?_) (fun H2 h => ?_)
    · walk_at "rd"
      exact decide_eq_decide.mpr S_empty
    · obtain ⟨rfl, hb⟩ := h
      walk_at "rd"
      have hnm := of_decide_eq_true hb.symm
      subst hnm
      refine ⟨row, r, T, us, xs, rfl, hrow.mono s1, hT.elim (fun h => .inl (.inl (.inl (s1 _ _ h)))) (fun h => .inr (.inl (.inl (s1 _ _ h.2)))), sp.imp fun _ _ h => h.mono s1, lxs, fun H' s' => ?_⟩
      have sx := s1.trans s'
      refine ⟨_, .inr (same_t sx hfa), .ref ft, rfl, ft, fus, nl, ws, r.steps, rfl, same_t sx hft, feach.imp fun _ _ d => dp_mono sx _ _ d, Nat.le_trans few.steps (by decide), few.parts, same_l sx hnl, by omega, (fun n hn => Nat.le_trans (lnm n hn) (by decide)), fun b2 H2 s2 h2 => ?_⟩
      have e : decide ((r.steps.length, (-2 : Int)) ∈ xs) = b2 := Bool.eq_iff_iff.mpr (by rw [decide_eq_true_iff, mem, stand_fits]; exact h2.symm)
      rw [e]
      show true = true ∧ _
      exact ⟨rfl, by rw [decide_eq_true rfl]; exact q _ (sx.trans s2)⟩
    · obtain ⟨rfl, hb⟩ := h
      walk_at "rd"
      have hnm : nm ≠ [] := of_decide_eq_false hb.symm
      refine ⟨row, r, T, us, xs, ws, nm, rfl, hrow.mono s1, few, hT.elim (fun h => .inl (.inl (.inl (s1 _ _ h)))) (fun h => .inr (.inl (.inl (s1 _ _ h.2)))), sp.imp fun _ _ h => h.mono s1, so, hnm, mem, fun b H' s' hb' => ?_⟩
      have sx := s1.trans s'
      refine ⟨_, .inr (same_t sx hfa), _, rfl, r.folders, rfl, ?_⟩
      refine ite2 (fun hf => ?_) fun hf => ?_
      · refine mid_of (fun v H2 => Same H' H2 ∧ v = .bl b) ?_ ?_
        · walk_at "rd"
          refine ⟨_, .inr (same_t sx hfa), .ref ft, rfl, fun p1 hp1 => .inl ⟨nmsV ws, ?_, [V.str (S nm)], upd_same, ?_, fun p2 hp2 => ?_⟩⟩
          · exact same_new hp1 _ _ (sx _ _ hnl0)
          · rw [nms_len, List.length_singleton]; omega
          have s12 := (same_new (o := .lst [V.str (S nm)]) hp1).trans (same_new (o := .lst (nmsV ws ++ [V.str (S nm)])) hp2)
          refine ⟨ft, fus, p2, ws ++ [nm], r.steps, rfl, same_t (sx.trans s12) hft, feach.imp fun _ _ d => dp_mono (sx.trans s12) _ _ d, Nat.le_trans few.steps (by decide), few.parts, .inl (.inl ?_), ?_, fun n hn => ?_, fun b2 H' s h2 => ⟨s12.trans s, ?_⟩⟩
          · rw [upd_same]; exact congrArg (fun x => some (HO.lst x)) (nms_app ws [nm])
          · rw [List.length_append, List.length_singleton]; omega
          · rcases List.mem_append.mp hn with h | h
            · exact Nat.le_trans (lnm n h) (by decide)
            · rw [List.mem_singleton.mp h]; omega
          · refine congrArg V.bl (Bool.eq_iff_iff.mpr (h2.trans ?_))
            rw [hb']
            exact ⟨fun h => ⟨hf, h⟩, fun h => h.2⟩
        · rintro _ H2 ⟨s2, rfl⟩
          show true = true ∧ _
          exact ⟨rfl, by rw [decide_eq_true rfl]; exact q _ (sx.trans s2)⟩
      · have e : b = !r.folders := by
          cases b with
          | false =>
            have hf' : r.folders = true := by simpa using hf
            rw [hf']; rfl
          | true => exact absurd (hb'.mp rfl).1 hf
        rw [← e]
        show true = true ∧ _
        exact ⟨rfl, by rw [decide_eq_true rfl]; exact q _ sx⟩
/-- a row, told and made -/
def PairV (K : PySem.W.Frag) (r : RF) (v : V) (H : Hp) : Prop := ∃ t f row, v = .ref t ∧ H t = some (.tup [f, row]) ∧ Dp K H f (RF.d r) ∧ RowV K r row H ∧ RF.Ok r
theorem PairV.mono {K : PySem.W.Frag} {r : RF} {v : V} {H H' : Hp} (h : PairV K r v H) (s : Same H H') : PairV K r v H' := by
  obtain ⟨t, f, row, e, ht, d, hr, ok⟩ := h
  exact ⟨t, f, row, e, s _ _ ht, dp_mono s _ _ d, hr.mono s, ok⟩
abbrev StandsV (K : PySem.W.Frag) (b : Bool) (rs : List RF) (ws : List (List Nat)) (nm : List Nat) (us : List V) (H : Hp) : Prop := Each (fun r v H => StandV K b r ws nm v H) rs us H
def spReadP (K : PySem.W.Frag) : Sp := fun vs H Q _ => ∃ a ps rs, ∃ w : List Nat, vs = [.ref a, .str (S w)] ∧ SqL K H a ps ∧ Each (PairV K) rs ps H ∧ rs.length ≤ 10 ∧ pOk false w ∧ w.length ≤ 30 ∧ ∀ H', Same H H' → Q (.bl true) H'
theorem ok__law_read (T : Txt K mg) : OkD P w K mg base 8 (fA K "_law_read") ["_law_pairs", "_law_path_here"] [] (spReadP K) := by
  refine okD T.F__law_read sc__law_read (fun _ _ _ _ _ _ us hl => match us, hl with | [_, _], _ => rfl) ?_ ?_
  · rintro vs H Q E ⟨a, ps, rs, w, rfl, _⟩
    rfl
  · rintro cdv A outer s H vs Q E hr ⟨a, ps, rs, wd, rfl, ha, eps, lrs, pw, lw, q⟩
    refine ⟨_, (pss_cons (ps_set (i := 2) sc__law_read.nd rfl (Or.inl rfl) (pe_mid (pe_lst pa_nil)))
  (pss_cons (ps_set (i := 3) sc__law_read.nd rfl (Or.inl rfl) (pe_mid pe_str))
  (pss_cons (ps_set (i := 4) sc__law_read.nd rfl (Or.inr rfl) (pe_mid (pe_lc (own := [("_law_form", 7), ("_law_row_here", 8)]) (g := (gTup K 2 (gCons (gName 7) (gCons (gName 8) gNil)))) (tt := tYes) rfl sc__law_read.nd (pi_mid (o_it (K := K) rfl (pv 0))) (blkOk_by (N := N__law_read) (sc := defScope TX.s__law_read) (by decide +kernel)) (fun _ _ _ _ _ => (pg_tup rfl (pgs_cons (pg_name (i := 7) sc__law_read.nd rfl (Or.inl rfl)) (pgs_cons (pg_name (i := 8) sc__law_read.nd rfl (Or.inl rfl)) pgs_nil)))) (fun _ _ _ _ _ => pts_nil) (fun _ _ _ _ _ => (pe_mid (pe_cal (ok_begin T) (hr.mono (by decide)) rfl T.g_begin pasN (pa_cons (pv 8) pa_nil)))))))
  (pss_cons (ps_mid (ps_for (passes_of rfl) rfl (pi_mid (o_it (K := K) rfl (pv 1))) (pg_name (i := 5) sc__law_read.nd rfl (Or.inr rfl)) (pss_cons (ps_mid (ps_if (pt_mid (pt_cmpR (o_eq (K := K) (hu64 hr)) (pv 5) pe_str (nomark _))) (pss_cons (ps_set (i := 2) sc__law_read.nd rfl (Or.inl rfl) (pe_mid (pe_op (o_add (K := K)) (pv 2) (pe_lst (pa_cons (pv 3) pa_nil)))))
  (pss_cons (ps_set (i := 3) sc__law_read.nd rfl (Or.inl rfl) (pe_mid pe_str))
  (pss_one (ps_set (i := 4) sc__law_read.nd rfl (Or.inr rfl) (pe_mid (pe_lc (own := [("_law_k", 6)]) (g := (gName 6)) (tt := tYes) rfl sc__law_read.nd (pi_mid (pi_range1 rfl T.fr_range (pa_cons (pe_callB (o_lenW (K := K) (w := w)) (by rfl) T.fr_len boot_len (pa_cons (pv 0) pa_nil)) pa_nil))) (blkOk_by (N := N__law_read) (sc := defScope TX.s__law_read) (by decide +kernel)) (fun _ _ _ _ _ => (pg_name (i := 6) sc__law_read.nd rfl (Or.inl rfl))) (fun _ _ _ _ _ => pts_nil) (fun _ _ _ _ _ => (pe_mid (pe_cal (ok_by_slash T) (hr.mono (by decide)) rfl T.g_by_slash pasN (pa_cons (pe_ix (o_ix (K := K)) (pe_ix (o_ix (K := K)) (pv 0) (pv 6) (fun _ _ => rfl)) pe_int (fun _ _ => rfl)) (pa_cons (pe_ix (o_ix (K := K)) (pv 4) (pv 6) (fun _ _ => rfl)) pa_nil))))))))))) (pss_cons (ps_set (i := 3) sc__law_read.nd rfl (Or.inl rfl) (pe_mid (pe_op (o_add (K := K)) (pv 3) (pv 5))))
  (pss_one (ps_set (i := 4) sc__law_read.nd rfl (Or.inr rfl) (pe_mid (pe_lc (own := [("_law_k", 6)]) (g := (gName 6)) (tt := tYes) rfl sc__law_read.nd (pi_mid (pi_range1 rfl T.fr_range (pa_cons (pe_callB (o_lenW (K := K) (w := w)) (by rfl) T.fr_len boot_len (pa_cons (pv 0) pa_nil)) pa_nil))) (blkOk_by (N := N__law_read) (sc := defScope TX.s__law_read) (by decide +kernel)) (fun _ _ _ _ _ => (pg_name (i := 6) sc__law_read.nd rfl (Or.inl rfl))) (fun _ _ _ _ _ => pts_nil) (fun _ _ _ _ _ => (pe_mid (pe_cal (ok_by_sign T) (hr.mono (by decide)) rfl T.g_by_sign pasN (pa_cons (pe_ix (o_ix (K := K)) (pe_ix (o_ix (K := K)) (pv 0) (pv 6) (fun _ _ => rfl)) pe_int (fun _ _ => rfl)) (pa_cons (pe_ix (o_ix (K := K)) (pv 4) (pv 6) (fun _ _ => rfl)) (pa_cons (pv 5) pa_nil)))))))))))))
  (pss_cons (ps_mid (ps_if (pt_mid (pt_cmpR (o_eq (K := K) (hu64 hr)) (pe_op op_mod (pe_callB (o_lenW (K := K) (w := w)) (by rfl) T.fr_len boot_len (pa_cons (pv 3) pa_nil)) pe_int) pe_int (nomark _))) (pss_one (ps_set (i := 4) sc__law_read.nd rfl (Or.inr rfl) (pe_mid (pe_lc (own := [("_law_stand_here", 9)]) (g := (gName 9)) (tt := tYes) rfl sc__law_read.nd (pi_mid (o_it (K := K) rfl (pv 4))) (blkOk_by (N := N__law_read) (sc := defScope TX.s__law_read) (by decide +kernel)) (fun _ _ _ _ _ => (pg_name (i := 9) sc__law_read.nd rfl (Or.inl rfl))) (fun _ _ _ _ _ => pts_nil) (fun _ _ _ _ _ => (pe_mid (pe_callTy (o_tuple (K := K)) (by rfl) T.fr_tuple (by decide +kernel) (pa_cons (pv 9) pa_nil)))))))) pss_nil))
  (pss_one (ps_mid (ps_for (passes_of rfl) rfl (pi_mid (pi_range1 rfl T.fr_range (pa_cons (pe_callB (o_lenW (K := K) (w := w)) (by rfl) T.fr_len boot_len (pa_cons (pv 0) pa_nil)) pa_nil))) (pg_name (i := 6) sc__law_read.nd rfl (Or.inl rfl)) (pss_one (ps_if (pt_mid (pt_not (pt_tru (K := K) (pe_cal (ok__law_right T) (hr.mono (by decide)) rfl T.g__law_right (pasE (takes_of rfl rfl rfl rfl) (fun _ _ _ _ h => h)) (pa_cons (pe_ix (o_ix (K := K)) (pe_ix (o_ix (K := K)) (pv 0) (pv 6) (fun _ _ => rfl)) pe_int (fun _ _ => rfl)) (pa_cons (pe_ix (o_ix (K := K)) (pe_ix (o_ix (K := K)) (pv 0) (pv 6) (fun _ _ => rfl)) pe_int (fun _ _ => rfl)) (pa_cons (pe_ix (o_ix (K := K)) (pv 4) (pv 6) (fun _ _ => rfl)) (pa_cons (pv 2) (pa_cons (pv 3) pa_nil)))))) (by intro _; rfl)))) (pss_one (ps_ret pe_bl)) pss_nil)))))))))
  (pss_one (ps_ret pe_bl)))))), ?_⟩
    have tobj := T.obj
    have lps : ps.length = rs.length := eps.1
    have pair : ∀ {k : Nat} {r : RF} {H' : Hp}, rs[k]? = some r → Same H H' → ∃ t f row, ps[k]? = some (.ref t) ∧ H' t = some (.tup [f, row]) ∧ Dp K H' f (RF.d r) ∧ RowV K r row H' ∧ RF.Ok r := fun {k r H'} hk s => by
      obtain ⟨u, hu, pu⟩ := eps.2 k r hk
      obtain ⟨t, f, row, e, g⟩ := pu.mono s
      exact ⟨t, f, row, by rw [hu, e], g⟩
    refine q_midG (fun v H' => Same H H' ∧ ∃ N, v = .ref N ∧ H' N = some (.lst (nmsV []))) ?_ ?_
    · walk_at "rd"
      exact fun p hp => ⟨same_new hp, upd_same⟩
    rintro _ H1 ⟨s1, N, rfl, hN⟩
    refine q_midG (fun v H' => H' = H1 ∧ v = .str (S [])) ?_ ?_
    · walk_at "rd"
      rfl
    rintro _ _ ⟨rfl, rfl⟩
    rename_i H1
    refine q_midG (fun v H' => Same H1 H' ∧ ∃ L us, v = .ref L ∧ H' L = some (.lst us) ∧ StandsV K false rs [] [] us H') ?_ ?_
    · refine lc_pairs (a := a) (ps := ps) ?_ (by omega) (fun k v H' => ∀ r, rs[k]? = some r → StandV K false r [] [] v H') (fun k v p xs ys Ha c hp hv r hr => (c r hr).upd hp hv) (fun k v Ha Hb c s r hr => (c r hr).mono s) (same_l s1 ha) (fun k v hv => ?_) (fun _ _ => rfl) ?_ ?_
      · walk_at "rd"
        exact .inl ⟨ps, same_l s1 ha⟩
      · obtain ⟨r, hr, pv⟩ := eps.at' hv
        obtain ⟨t, f, row, rfl, ht, _⟩ := pv.mono s1
        exact ⟨t, f, row, rfl, ht⟩
      · intro k t x y H' hk ht s'
        obtain ⟨r, hr, pv⟩ := eps.at' hk
        obtain ⟨t', f, row, e, ht', d, hrow, ok⟩ := pv.mono (s1.trans s')
        cases e
        have e2 := (s' _ _ ht).symm.trans ht'
        cases e2
        refine mid_of (fun v H4 => Same H' H4 ∧ StandV K false r [] [] v H4 ∧ ∀ p, v = .ref p → H' p = none) ?_ fun v H4 ⟨a1, a2, a3⟩ => ⟨a1, fun r' hr' => (by rw [hr] at hr'; cases hr'; exact a2), a3⟩
        walk_at "rd"
        exact ⟨_, r, rfl, hrow, few_ok ok, fun F us xs H2 s2 hn hF sp so mem => ⟨s2, ⟨F, us, xs, rfl, .inl hF, sp, so, mem⟩, fun p e => by cases e; exact hn⟩⟩
      · intro p acc H' hp s' hD hl hc
        exact ⟨s', p, acc, rfl, hD, each_of (by rw [hl, lps]) hc⟩
    rintro _ H2 ⟨s2, L, us, rfl, hL, est⟩
    refine q_stm (fun σ H' => Same H H' ∧ ∃ x2 x3 x4 x5 x6 x7 x8 x9, σ = [some (.ref a), some (.str (S wd)), x2, x3, x4, x5, x6, x7, x8, x9]) ?_ ?_
    · refine for_mid (J0 := Its (S wd)) (H0 := H2) (by walk_at "rd") walk_str (fun k σ H' => Same H H' ∧ ∃ ws nm us N L x5 x6 x7 x8 x9, σ = [some (.ref a), some (.str (S wd)), some (.ref N), some (.str (S nm)), some (.ref L), x5, x6, x7, x8, x9] ∧ H' N = some (.lst (nmsV ws)) ∧ H' L = some (.lst us) ∧ StandsV K true rs ws nm us H' ∧ pOk (decide (nm ≠ [])) (wd.drop k) ∧ ws.length ≤ k ∧ nm.length ≤ k ∧ ∀ n ∈ ws, n.length ≤ 90)
        ⟨s1.trans s2, [], [], us, N, L, _, _, _, _, _, rfl, s2 _ _ hN, hL, est.imp fun _ _ h => h.any, pw, Nat.zero_le _, Nat.zero_le _, fun _ h => nomatch h⟩ (fun _ _ _ _ _ => trivial) ?_ (fun σ H' h => ?_)
      · rintro k x σ H3 H3' hk ⟨s3, ws, nm, us, N, L, x5, x6, x7, x8, x9, rfl, hN, hL, est, pk, lk, ln, lw2⟩ ⟨rfl, c, hc, rfl⟩
        have hc' : wd[k]? = some c := by
          have e : (S wd).cps[k]? = wd[k]? := by simp
          rw [← e]; exact hc
        have hkw : k < wd.length := (List.getElem?_eq_some_iff.mp hc').1
        have dk : wd.drop k = c :: wd.drop (k + 1) := by
          rw [List.drop_eq_getElem_cons hkw]
          rw [List.getElem?_eq_getElem hkw] at hc'
          rw [Option.some.inj hc']
        rw [dk] at pk
        unfold pOk at pk
        refine q_stm (fun σ H' => Same H H' ∧ ∃ ws nm us N L, σ = [some (.ref a), some (.str (S wd)), some (.ref N), some (.str (S nm)), some (.ref L), some (.str (S [c])), x6, x7, x8, x9] ∧ H' N = some (.lst (nmsV ws)) ∧ H' L = some (.lst us) ∧ StandsV K false rs ws nm us H' ∧ pOk (decide (nm ≠ [])) (wd.drop (k + 1)) ∧ ws.length ≤ k + 1 ∧ nm.length ≤ k + 1 ∧ ∀ n ∈ ws, n.length ≤ 90) ?_ ?_
        · refine l_if (fun b H' => H' = H3' ∧ b = decide (c = 47)) ?_ (fun H4 h => ?_) (fun H4 h => ?_)
          · walk_at "rd"
            exact decide_eq_decide.mpr ⟨fun h => S1_inj h, fun h => by rw [h]; rfl⟩
          · obtain ⟨rfl, hb⟩ := h
            have e47 := of_decide_eq_true hb.symm
            rw [if_pos e47] at pk
            have hnm : nm ≠ [] := of_decide_eq_true pk.1
            refine q_midG (fun v H' => Same H4 H' ∧ ∃ N, v = .ref N ∧ H' N = some (.lst (nmsV (ws ++ [nm])))) ?_ ?_
            · walk_at "rd"
              intro p1 hp1
              refine .inl ⟨nmsV ws, same_new hp1 _ _ hN, [V.str (S nm)], upd_same, ?_, fun p2 hp2 => ⟨(same_new hp1).trans (same_new hp2), ?_⟩⟩
              · rw [nms_len, List.length_singleton]; omega
              · rw [upd_same]; exact congrArg (fun x => some (HO.lst x)) (nms_app ws [nm])
            rintro _ H5 ⟨s5, N2, rfl, hN2⟩
            refine q_midG (fun v H' => H' = H5 ∧ v = .str (S [])) ?_ ?_
            · walk_at "rd"
              rfl
            rintro _ _ ⟨rfl, rfl⟩
            rename_i H5
            refine l_midG (fun v H' => Same H5 H' ∧ ∃ L us, v = .ref L ∧ H' L = some (.lst us) ∧ StandsV K false rs (ws ++ [nm]) [] us H') ?_ ?_
            · refine lc_own (J0 := Itr 0 rs.length) (H0 := H5) ?_ walk_range (by omega) (fun k v H' => ∀ r, rs[k]? = some r → StandV K false r (ws ++ [nm]) [] v H') (fun k v p xs ys Ha c hp hv r hr => (c r hr).upd hp hv) (fun k v Ha Hb c s r hr => (c r hr).mono s) (fun _ _ => trivial) (fun _ _ _ _ y => y_fn y) (fun _ => rfl) ?_ ?_
              · walk_at "rd"
                refine .inr ⟨_, .inl ⟨_, same_l (s3.trans s5) ha, rfl⟩, ?_⟩
                rw [lps]
                exact ⟨by omega, by omega, rfl⟩
              · rintro k2 x H' H'' hk2 s' ⟨rfl, rfl⟩
                simp only [Int.zero_add]
                have hr : rs[k2]? = some rs[k2] := List.getElem?_eq_getElem hk2
                obtain ⟨t, f, row, hps, ht, d, hrow, ok⟩ := pair hr ((s3.trans s5).trans s')
                obtain ⟨u, hu, hst⟩ := est.2 k2 _ hr
                obtain ⟨T, tus, xs, rfl, hT, sp, so, mem⟩ := hst.mono (s5.trans s')
                refine mid_of (fun v H4 => Same H'' H4 ∧ StandV K false rs[k2] (ws ++ [nm]) [] v H4 ∧ ∀ p, v = .ref p → H'' p = none) ?_ fun v H4 ⟨a1, a2, a3⟩ => ⟨a1, fun r' hr' => (by rw [hr] at hr'; cases hr'; exact a2), a3⟩
                walk_at "rd"
                exact ⟨ps, .inl (same_l ((s3.trans s5).trans s') ha), .ref t, atI_nat hps, [f, row], .inr (.inl (.inl ht)), row, rfl, us, .inl (.inl (.inl ((s5.trans s') _ _ hL))), .ref T, atI_nat hu, row, rs[k2], T, tus, xs, ws, nm, rfl, hrow, few_ok ok, hT.elim (fun h => .inr (.inl (.inl h))) (fun h => .inl (.inl (.inl h.2))), sp, so, hnm, mem, fun F us xs H2 s2 hn hF sp so mem => ⟨s2, ⟨F, us, xs, rfl, .inl hF, sp, so, mem⟩, fun p e => by cases e; exact hn⟩⟩
              · intro p acc H' hp s' hD hl hc
                exact ⟨s', p, acc, rfl, hD, each_of hl hc⟩
            · rintro _ H6 ⟨s6, L2, us2, rfl, hL2, est2⟩
              refine ⟨(s3.trans s5).trans s6, ws ++ [nm], [], us2, N2, L2, rfl, s6 _ _ hN2, hL2, est2, pk.2, by rw [List.length_append]; exact Nat.succ_le_succ lk, Nat.zero_le _, fun n hn => ?_⟩
              rcases List.mem_append.mp hn with h | h
              · exact lw2 n h
              · rw [List.mem_singleton.mp h]; omega
          · obtain ⟨rfl, hb⟩ := h
            have n47 := of_decide_eq_false hb.symm
            rw [if_neg n47] at pk
            refine q_midG (fun v H' => H' = H4 ∧ v = .str (S (nm ++ [c]))) ?_ ?_
            · walk_at "rd"
              refine ⟨?_, S_cat _ _⟩
              rw [S_len]
              show nm.length + 1 ≤ _
              omega
            rintro _ _ ⟨rfl, rfl⟩
            rename_i H4
            refine l_midG (fun v H' => Same H4 H' ∧ ∃ L us, v = .ref L ∧ H' L = some (.lst us) ∧ StandsV K false rs ws (nm ++ [c]) us H') ?_ ?_
            · refine lc_own (J0 := Itr 0 rs.length) (H0 := H4) ?_ walk_range (by omega) (fun k v H' => ∀ r, rs[k]? = some r → StandV K false r ws (nm ++ [c]) v H') (fun k v p xs ys Ha c hp hv r hr => (c r hr).upd hp hv) (fun k v Ha Hb c s r hr => (c r hr).mono s) (fun _ _ => trivial) (fun _ _ _ _ y => y_fn y) (fun _ => rfl) ?_ ?_
              · walk_at "rd"
                refine .inr ⟨_, .inl ⟨_, same_l (s3) ha, rfl⟩, ?_⟩
                rw [lps]
                exact ⟨by omega, by omega, rfl⟩
              · rintro k2 x H' H'' hk2 s' ⟨rfl, rfl⟩
                simp only [Int.zero_add]
                have hr : rs[k2]? = some rs[k2] := List.getElem?_eq_getElem hk2
                obtain ⟨t, f, row, hps, ht, d, hrow, ok⟩ := pair hr ((s3).trans s')
                obtain ⟨u, hu, hst⟩ := est.2 k2 _ hr
                obtain ⟨T, tus, xs, rfl, hT, sp, so, mem⟩ := hst.mono (s')
                refine mid_of (fun v H4 => Same H'' H4 ∧ StandV K false rs[k2] ws (nm ++ [c]) v H4 ∧ ∀ p, v = .ref p → H'' p = none) ?_ fun v H4 ⟨a1, a2, a3⟩ => ⟨a1, fun r' hr' => (by rw [hr] at hr'; cases hr'; exact a2), a3⟩
                walk_at "rd"
                exact ⟨ps, .inl (same_l ((s3).trans s') ha), .ref t, atI_nat hps, [f, row], .inr (.inl (.inl ht)), row, rfl, us, .inl (.inl (.inl ((s') _ _ hL))), .ref T, atI_nat hu, row, rs[k2], T, tus, xs, ws, nm, c, rfl, hrow, few_ok ok, hT.elim (fun h => .inr (.inl (.inl h))) (fun h => .inl (.inl (.inl h.2))), sp, so, mem, fun F us xs H2 s2 hn hF sp so mem => ⟨s2, ⟨F, us, xs, rfl, .inl hF, sp, so, mem⟩, fun p e => by cases e; exact hn⟩⟩
              · intro p acc H' hp s' hD hl hc
                exact ⟨s', p, acc, rfl, hD, each_of hl hc⟩
            · rintro _ H6 ⟨s6, L2, us2, rfl, hL2, est2⟩
              exact ⟨s3.trans s6, ws, nm ++ [c], us2, N, L2, rfl, s6 _ _ hN, hL2, est2, by rw [decide_eq_true (by simp)]; exact pk.2, by omega, by rw [List.length_append]; exact Nat.succ_le_succ ln, lw2⟩
        rintro σ H4 ⟨s4, ws, nm, us, N, L, rfl, hN, hL, est, pk, lk, ln, lw2⟩
        refine q_stm (fun σ H' => Same H4 H' ∧ ∃ us L, σ = [some (.ref a), some (.str (S wd)), some (.ref N), some (.str (S nm)), some (.ref L), some (.str (S [c])), x6, x7, x8, x9] ∧ H' L = some (.lst us) ∧ StandsV K true rs ws nm us H') ?_ ?_
        · refine l_if (fun b H' => H' = H4) ?_ (fun H5 h => ?_) (fun H5 h => ?_)
          · walk_at "rd"
            rw [S_len]
            omega
          · subst h
            refine l_midG (fun v H' => Same H5 H' ∧ ∃ L us, v = .ref L ∧ H' L = some (.lst us) ∧ StandsV K true rs ws nm us H') ?_ ?_
            · refine lc_own (J0 := Itl K L) (H0 := H5) ?_ (walk_list (K := K) (a := L) (xs := us)) (by rw [est.1]; omega) (fun k v H' => ∀ r, rs[k]? = some r → StandV K true r ws nm v H') (fun k v p xs ys Ha c hp hv r hr => (c r hr).upd hp hv) (fun k v Ha Hb c s r hr => (c r hr).mono s) (fun H' s => .inl (.inl (s _ _ hL))) (fun _ _ _ _ y => y_at y) (fun _ => rfl) ?_ ?_
              · walk_at "rd"
                exact .inl ⟨us, .inl (.inl hL)⟩
              · rintro k2 x H' H'' hk2 s' ⟨rfl, hx⟩
                obtain ⟨r, hr, hst⟩ := est.at' hx
                obtain ⟨T, tus, xs, rfl, hT, sp, so, mem⟩ := hst.mono s'
                have hT' : H'' T = some (.lst tus) := hT.elim id fun h => nomatch h.1
                refine mid_of (fun v H4 => Same H'' H4 ∧ StandV K true r ws nm v H4 ∧ ∀ p, v = .ref p → H'' p = none) ?_ fun v H4 ⟨a1, a2, a3⟩ => ⟨a1, fun r' hr' => (by rw [hr] at hr'; cases hr'; exact a2), a3⟩
                walk_at "rd"
                exact ⟨tus, .inl ⟨.inl (.inl hT'), fun l hl => ⟨same_new hl, ⟨l, tus, xs, rfl, .inr ⟨rfl, upd_same⟩, sp.imp fun _ _ h => h.mono (same_new hl), so, mem⟩, hl⟩⟩⟩
              · intro p acc H' hp s' hD hl hc
                exact ⟨s', p, acc, rfl, hD, each_of (by rw [hl, est.1]) hc⟩
            · rintro _ H6 ⟨s6, L2, us2, rfl, hL2, est2⟩
              exact ⟨s6, us2, L2, rfl, hL2, est2⟩
          · subst h
            exact ⟨Same.refl _, us, L, rfl, hL, est.imp fun _ _ h => h.any⟩
        rintro σ H5 ⟨s5, us, L, rfl, hL, est⟩
        have hN5 := s5 _ _ hN
        refine ⟨_, ?_, fun _ _ h => h, fun _ _ h => h, fun _ _ h => h, fun _ _ h => h⟩
        refine for_mid (J0 := Itr 0 rs.length) (H0 := H5) ?_ walk_range (fun _ σ H' => Same H5 H' ∧ ∃ x6 x7 x8 x9, σ = [some (.ref a), some (.str (S wd)), some (.ref N), some (.str (S nm)), some (.ref L), some (.str (S [c])), x6, x7, x8, x9]) ⟨Same.refl _, _, _, _, _, rfl⟩ (fun _ _ _ _ _ => trivial) ?_ (fun σ H' h => ?_)
        · walk_at "rd"
          refine .inr ⟨_, .inl ⟨_, same_l (s4.trans s5) ha, rfl⟩, ?_⟩
          rw [lps]
          exact ⟨by omega, by omega, rfl⟩
        · rintro j x σ H6 H6' hj ⟨s6, y6, y7, y8, y9, rfl⟩ ⟨rfl, rfl⟩
          simp only [Int.zero_add, List.set_cons_zero, List.set_cons_succ]
          refine l_if (fun b H' => b = false ∧ Same H6' H') ?_ (fun H1 h => nomatch h.1) (fun H7 h => ?_)
          · walk_at "rd"
            have hr : rs[j]? = some rs[j] := List.getElem?_eq_getElem hj
            have s46 := (s4.trans s5).trans s6
            obtain ⟨t, f, row, hps, ht, d, hrow, ok⟩ := pair hr s46
            obtain ⟨u, hu, hst⟩ := est.2 j _ hr
            exact ⟨ps, .inl (same_l s46 ha), .ref t, atI_nat hps, [f, row], .inr (.inl (.inl ht)), row, rfl, ps, .inl (same_l s46 ha), .ref t, atI_nat hps, [f, row], .inr (.inl (.inl ht)), f, rfl, us, .inl (.inl (.inl (s6 _ _ hL))), u, atI_nat hu, row, f, u, N, rs[j], ws, nm, rfl, hrow, d, ok, hst.mono s6, s6 _ _ hN5, by omega, (fun n hn => Nat.le_trans (lw2 n hn) (by decide)), by omega, fun H' s' => ⟨true, rfl, rfl, s'⟩⟩
          · exact ⟨s6.trans h.2, _, _, _, _, rfl⟩
        · obtain ⟨s6, y6, y7, y8, y9, rfl⟩ := h
          exact ⟨(s4.trans s5).trans s6, ws, nm, us, N, L, _, _, _, _, _, rfl, s6 _ _ hN5, s6 _ _ hL, est.imp fun _ _ h => h.mono s6, pk, lk, ln, lw2⟩
      · obtain ⟨s3, ws, nm, us, N, L, x5, x6, x7, x8, x9, rfl, _⟩ := h
        exact ⟨s3, _, _, _, _, _, _, _, _, rfl⟩
    · rintro σ H3 ⟨s3, x2, x3, x4, x5, x6, x7, x8, x9, rfl⟩
      walk_at "rd"
      exact q _ s3
theorem bd_law (T : Txt K mg) : BodyQ P w K mg base 8 (fA K "law") "law" (defBody TX.s_law) (defScope TX.s_law) N_law (spLaw K) := by
    rintro cdv A outer s H vs Q E hr ⟨a, ns, rfl, hs, hn, q⟩
    refine ⟨_, (pss_cons (ps_set (i := 1) sc_law.nd rfl (Or.inl rfl) (pe_mid (pe_cal (ok__law_signs T) (hr.mono (by decide)) rfl T.g__law_signs (pasE (takes_of rfl rfl rfl rfl) (fun _ _ _ _ h => h)) (pa_cons (pe_op (o_add (K := K)) (pe_callB (o_lenW (K := K) (w := w)) (by rfl) T.fr_len boot_len (pa_cons (pv 0) pa_nil)) (pe_op op_mod (pe_cal (ok__law_cell T) (hr.mono (by decide)) rfl T.g__law_cell (pasE (takes_of rfl rfl rfl rfl) (fun _ _ _ _ h => h)) (pa_cons (pv 0) (pa_cons pe_int pa_nil))) pe_int)) pa_nil))))
  (pss_cons (ps_set (i := 2) sc_law.nd rfl (Or.inl rfl) (pe_mid (pe_cal (ok__law_row T) (hr.mono (by decide)) rfl T.g__law_row (pasE (takes_of rfl rfl rfl rfl) (fun _ _ _ _ h => h)) (pa_cons (pe_cal (ok__law_cell T) (hr.mono (by decide)) rfl T.g__law_cell (pasE (takes_of rfl rfl rfl rfl) (fun _ _ _ _ h => h)) (pa_cons (pv 0) (pa_cons pe_int pa_nil))) (pa_cons (pv 1) pa_nil)))))
  (pss_cons (ps_mid (ps_for (passes_of rfl) rfl (pi_mid (pi_range1 rfl T.fr_range (pa_cons (pe_callB (o_min (K := K) rfl) (by rfl) T.fr_min (by decide +kernel) (pa_cons (pe_callB (o_lenW (K := K) (w := w)) (by rfl) T.fr_len boot_len (pa_cons (pv 0) pa_nil)) (pa_cons pe_int pa_nil))) pa_nil))) (pg_name (i := 3) sc_law.nd rfl (Or.inl rfl)) (pss_cons (ps_set (i := 4) sc_law.nd rfl (Or.inl rfl) (pe_mid (pe_cal (ok__law_cell T) (hr.mono (by decide)) rfl T.g__law_cell (pasE (takes_of rfl rfl rfl rfl) (fun _ _ _ _ h => h)) (pa_cons (pv 0) (pa_cons (pv 3) pa_nil)))))
  (pss_cons (ps_set (i := 5) sc_law.nd rfl (Or.inl rfl) (pe_mid (pe_cal (ok__law_row T) (hr.mono (by decide)) rfl T.g__law_row (pasE (takes_of rfl rfl rfl rfl) (fun _ _ _ _ h => h)) (pa_cons (pv 4) (pa_cons (pv 1) pa_nil)))))
  (pss_cons (ps_mid (ps_if (pt_mid (pt_cmpR (o_eq (K := K) (hu64 hr)) (pe_op op_mod (pe_op op_fdivW (pv 4) pe_int) pe_int) pe_int (nomark _))) (pss_one (ps_set (i := 5) sc_law.nd rfl (Or.inl rfl) (pe_mid (pe_cal (ok__law_long T) (hr.mono (by decide)) rfl T.g__law_long (pasE (takes_of rfl rfl rfl rfl) (fun _ _ _ _ h => h)) (pa_cons (pv 4) (pa_cons (pv 1) pa_nil)))))) pss_nil))
  (pss_cons (ps_set (i := 6) sc_law.nd rfl (Or.inl rfl) (pe_mid (pe_lst (pa_cons (pe_tup (pa_cons (pv 5) (pa_cons (pe_cal (ok__law_row_made T) (hr.mono (by decide)) rfl T.g__law_row_made (pasE (takes_of rfl rfl rfl rfl) (fun _ _ _ _ h => h)) (pa_cons (pv 5) pa_nil)) pa_nil))) (pa_cons (pe_tup (pa_cons (pv 2) (pa_cons (pe_cal (ok__law_row_made T) (hr.mono (by decide)) rfl T.g__law_row_made (pasE (takes_of rfl rfl rfl rfl) (fun _ _ _ _ h => h)) (pa_cons (pv 2) pa_nil)) pa_nil))) pa_nil)))))
  (pss_cons (ps_set (i := 7) sc_law.nd rfl (Or.inl rfl) (pe_mid (pe_slice (o_sl (K := K)) (pe_cal (ok__law_path T) (hr.mono (by decide)) rfl T.g__law_path (pasE (takes_of rfl rfl rfl rfl) (fun _ _ _ _ h => h)) (pa_cons (pe_ix (o_ix (K := K)) (pe_lst (pa_cons (pv 5) (pa_cons (pv 2) pa_nil))) (pe_op op_mod (pe_op op_fdivW (pv 4) pe_int) pe_int) (fun _ _ => rfl)) (pa_cons (pe_cal (ok__law_mixed T) (hr.mono (by decide)) rfl T.g__law_mixed (pasE (takes_of rfl rfl rfl rfl) (fun _ _ _ _ h => h)) (pa_cons (pv 4) (pa_cons pe_int pa_nil))) (pa_cons (pv 1) pa_nil)))) po_none (po_some pe_int))))
  (pss_cons (ps_if (pt_mid (pt_not (pt_tru (K := K) (pe_cal (ok__law_read T) (hr.mono (by decide)) rfl T.g__law_read (pasE (takes_of rfl rfl rfl rfl) (fun _ _ _ _ h => h)) (pa_cons (pv 6) (pa_cons (pv 7) pa_nil))) (by intro _; rfl)))) (pss_one (ps_ret pe_bl)) pss_nil)
  (pss_one (ps_set (i := 2) sc_law.nd rfl (Or.inl rfl) (pe_mid (pv 5))))))))))))
  (pss_one (ps_ret pe_bl))))), ?_⟩
    have tobj := T.obj
    have lns : (ns.map V.int).length = ns.length := List.length_map _
    refine q_midG (fun v H' => Same H H' ∧ ∃ p l, v = .ref p ∧ H' p = some (.lst l) ∧ l.length = 4 ∧ ∀ v ∈ l, SignV v) ?_ ?_
    · walk_at "rd"
      exact .inr ⟨_, .inl ⟨_, hs, rfl⟩, a, 0, ns, rfl, hs, hn, by decide, by decide, fun c => ⟨c, rfl, _, rfl, fun p l H' hl4 nd hw hp sm hp' => ⟨sm, p, rfl, l, hp', hl4, hw⟩⟩⟩
    rintro _ H1 ⟨s1, p, sg, rfl, hp, hl4, hw⟩
    have hs1 := same_l s1 hs
    have hl : LenV K (V.ref a) H1 (ns.map V.int).length := .inl ⟨_, hs1, rfl⟩
    refine q_midG (fun v H' => Same H1 H' ∧ ∃ r, RF.Ok r ∧ Dp K H' v r.d) ?_ ?_
    · walk_at "rd"
      exact ⟨a, 61, ns, rfl, hs1, hn, by decide, by decide, fun c => ⟨c, p, sg, rfl, .inl (.inl hp), hl4, hw, fun v r H' ok _ _ s d => ⟨s, r, ok, d⟩⟩⟩
    rintro f0 H2 ⟨s2, r0, ok0, d0⟩
    obtain ⟨n, hn0, hnn⟩ : ∃ n : Nat, n ≤ 60 ∧ (if (60 : Int) < ((ns.map V.int).length : Int) then 60 else ((ns.map V.int).length : Int)) = (n : Int) := by
      split
      · exact ⟨60, Nat.le_refl _, rfl⟩
      · exact ⟨(ns.map V.int).length, by omega, rfl⟩
    refine q_stm (fun σ H' => Same H1 H' ∧ ∃ x2 x3 x4 x5 x6 x7, σ = [some (.ref a), some (.ref p), x2, x3, x4, x5, x6, x7]) ?_ ?_
    · refine for_mid (J0 := Itr 0 n) (H0 := H2) ?_ walk_range (fun _ σ H' => Same H1 H' ∧ ∃ f r x3 x4 x5 x6 x7, σ = [some (.ref a), some (.ref p), some f, x3, x4, x5, x6, x7] ∧ RF.Ok r ∧ Dp K H' f r.d) ⟨s2, f0, r0, _, _, _, _, _, rfl, ok0, d0⟩ (fun _ _ _ _ _ => trivial) ?_ (fun σ H' ⟨s, f, r, x3, x4, x5, x6, x7, e, _⟩ => ⟨s, _, _, _, _, _, _, e⟩)
      · walk_at "rd"
        refine .inr ⟨_, .inl ⟨_, same_l s2 hs1, rfl⟩, ?_⟩
        rw [hnn]
        exact ⟨by omega, by omega, rfl⟩
      rintro k x σ H3 H3' hk ⟨s3, fa, ra, x3, x4, x5, x6, x7, rfl, oka, da⟩ ⟨rfl, rfl⟩
      have hs3 := same_l s3 hs1
      have hp3 := s3 _ _ hp
      refine q_mid (fun _ => True) ?_ fun cell _ => ?_
      · walk_at "rd"
        exact ⟨a, _, ns, rfl, hs3, hn, by omega, by omega, fun c => ⟨rfl, c, rfl⟩⟩
      refine q_midG (fun v H' => Same H3' H' ∧ ∃ r, RF.Ok r ∧ Dp K H' v r.d) ?_ ?_
      · walk_at "rd"
        exact ⟨cell, p, sg, rfl, .inl (.inl hp3), hl4, hw, fun v r H' ok _ _ s d => ⟨s, r, ok, d⟩⟩
      rintro f1 H4 ⟨s4, r1, ok1, d1⟩
      have hp4 := s4 _ _ hp3
      refine q_stm (fun σ H' => Same H4 H' ∧ ∃ f r, σ = [some (.ref a), some (.ref p), some fa, some (.int (0 + k)), some (.int cell), some f, x6, x7] ∧ RF.Ok r ∧ Dp K H' f r.d) ?_ ?_
      · refine l_if (fun b H' => H' = H4) ?_ (fun H5 h => ?_) (fun H5 h => ?_)
        · walk_at "rd"
          exact ⟨by decide, by decide⟩
        · subst h
          refine l_midG (fun v H' => Same H5 H' ∧ ∃ r, RF.Ok r ∧ Dp K H' v r.d) ?_ ?_
          · walk_at "rd"
            exact ⟨cell, p, sg, rfl, .inl (.inl hp4), hl4, hw, fun v r H' ok s d => ⟨s, r, ok, d⟩⟩
          · rintro f H6 ⟨s6, r, ok, d⟩
            exact ⟨s6, f, r, rfl, ok, d⟩
        · subst h
          exact ⟨Same.refl _, f1, r1, rfl, ok1, d1⟩
      rintro σ H5 ⟨s5, f, r, rfl, ok, d⟩
      have s35 := s4.trans s5
      have da5 := dp_mono s35 _ _ da
      have hp5 := s5 _ _ hp4
      refine q_midG (fun v H' => Same H5 H' ∧ ∃ L ps, v = .ref L ∧ H' L = some (.lst ps) ∧ Each (PairV K) [r, ra] ps H') ?_ ?_
      · walk_at "rd"
        refine ⟨f, r, rfl, d, ok, fun row1 Ha sa hr1 p1 hp1 => ?_⟩
        have n1 := same_new (o := .tup [f, row1]) hp1
        refine ⟨fa, ra, rfl, dp_mono (sa.trans n1) _ _ da5, oka, fun row2 Hb sb hr2 p2 hp2 p3 hp3 => ?_⟩
        have n2 := same_new (o := .tup [fa, row2]) hp2
        have n3 := same_new (o := .lst [V.ref p1, V.ref p2]) hp3
        have sA := (n1.trans sb).trans (n2.trans n3)
        refine ⟨sa.trans sA, _, upd_same, each_of rfl fun k v hv r' hr' => ?_⟩
        match k with
        | 0 =>
          cases hv
          cases hr'
          exact ⟨p1, f, row1, rfl, (sb.trans (n2.trans n3)) _ _ upd_same, dp_mono (sa.trans sA) _ _ d, hr1.mono sA, ok⟩
        | 1 =>
          cases hv
          cases hr'
          exact ⟨p2, fa, row2, rfl, n3 _ _ upd_same, dp_mono (sa.trans sA) _ _ da5, hr2.mono (n2.trans n3), oka⟩
        | k + 2 => cases hv
      rintro _ H6 ⟨s6, L, ps, rfl, hL, eps⟩
      have hp6 := s6 _ _ hp5
      have d6 := dp_mono s6 _ _ d
      have da6 := dp_mono s6 _ _ da5
      refine q_midG (fun v H' => Same H6 H' ∧ ∃ w : List Nat, v = .str (S w) ∧ pOk false w ∧ w.length ≤ 30) ?_ ?_
      · walk_at "rd"
        intro p1 hp1
        have n1 := same_new (o := .lst [f, fa]) hp1
        have b0 := Int.emod_nonneg (cell / 7) (b := 2) (by decide)
        have b1 := Int.emod_lt_of_pos (cell / 7) (b := 2) (by decide)
        refine ⟨⟨by decide, by decide⟩, [f, fa], .inl (.inl (.inl upd_same)), ?_⟩
        obtain ⟨fx, rx, hx, okx, dx⟩ : ∃ fx rx, atI [f, fa] (cell / 7 % 2) = some fx ∧ RF.Ok rx ∧ Dp K H6 fx (RF.d rx) := by
          rcases (show cell / 7 % 2 = 0 ∨ cell / 7 % 2 = 1 by omega) with e | e <;> rw [e]
          · exact ⟨f, r, rfl, ok, d6⟩
          · exact ⟨fa, ra, rfl, oka, da6⟩
        refine ⟨fx, hx, cell, 77, rfl, fun m _ _ => ⟨fx, m, p, sg, rx, rfl, dp_mono n1 _ _ dx, okx, n1 _ _ hp6, hl4, hw, fun w H' pw lw s => ⟨by rw [S_len]; omega, n1.trans s, w.take 30, ?_, pOk_take 30 pw, List.length_take_le _ _⟩⟩⟩
        rw [show (some (30 : Int)) = some ((30 : Nat) : Int) from rfl, cutS_upto]
      rintro _ H7 ⟨s7, w, rfl, pw, lw⟩
      refine q_if (fun b H' => b = false ∧ Same H7 H') ?_ (fun H1 h => nomatch h.1) (fun H8 h => ?_)
      · walk_at "rd"
        exact ⟨L, ps, [r, ra], w, rfl, .inl (.inl (s7 _ _ hL)), eps.imp fun _ _ h => h.mono s7, by simp, pw, lw, fun H' s => ⟨true, rfl, rfl, s⟩⟩
      obtain ⟨_, s8⟩ := h
      have s58 := (s6.trans s7).trans s8
      refine q_next ?_
      refine l_midG (fun v H' => H' = H8 ∧ v = f) ⟨f, rfl, rfl, rfl⟩ ?_
      rintro _ _ ⟨rfl, rfl⟩
      exact ⟨s3.trans (s35.trans s58), _, r, _, _, _, _, _, rfl, ok, dp_mono s58 _ _ d⟩
    · rintro σ H3 ⟨s3, x2, x3, x4, x5, x6, x7, rfl⟩
      walk_at "rd"
      exact q _

end
end SL
namespace HD
open PySem PySem.Spec PyProof.Rows L2
def fn : List He.DefD := [
  ⟨("_wall", none), "_wall", "_wall", defArgs TX.s__wall, defBody TX.s__wall, defScope TX.s__wall, [], []⟩,
  ⟨("spot_rank", none), "spot_rank", "spot_rank", defArgs TX.s_spot_rank, defBody TX.s_spot_rank, defScope TX.s_spot_rank, [], []⟩,
  ⟨("rising", none), "rising", "rising", defArgs TX.s_rising, defBody TX.s_rising, defScope TX.s_rising, [], []⟩,
  ⟨("at_begin", none), "at_begin", "at_begin", defArgs TX.s_at_begin, defBody TX.s_at_begin, defScope TX.s_at_begin, [], []⟩,
  ⟨("within", none), "within", "within", defArgs TX.s_within, defBody TX.s_within, defScope TX.s_within, [], []⟩,
  ⟨("begin", none), "begin", "begin", defArgs TX.s_begin, defBody TX.s_begin, defScope TX.s_begin, [], []⟩,
  ⟨("by_part", none), "by_part", "by_part", defArgs TX.s_by_part, defBody TX.s_by_part, defScope TX.s_by_part, [], []⟩,
  ⟨("by_sign", none), "by_sign", "by_sign", defArgs TX.s_by_sign, defBody TX.s_by_sign, defScope TX.s_by_sign, [], []⟩,
  ⟨("by_slash", none), "by_slash", "by_slash", defArgs TX.s_by_slash, defBody TX.s_by_slash, defScope TX.s_by_slash, [], []⟩,
  ⟨("fits_folder", none), "fits_folder", "fits_folder", defArgs TX.s_fits_folder, defBody TX.s_fits_folder, defScope TX.s_fits_folder, [], []⟩,
  ⟨("fits_leaf", none), "fits_leaf", "fits_leaf", defArgs TX.s_fits_leaf, defBody TX.s_fits_leaf, defScope TX.s_fits_leaf, [], []⟩,
  ⟨("is_sign", none), "is_sign", "is_sign", defArgs TX.s_is_sign, defBody TX.s_is_sign, defScope TX.s_is_sign, [], []⟩,
  ⟨("_law_cell", none), "_law_cell", "_law_cell", defArgs TX.s__law_cell, defBody TX.s__law_cell, defScope TX.s__law_cell, [], []⟩,
  ⟨("_law_mixed", none), "_law_mixed", "_law_mixed", defArgs TX.s__law_mixed, defBody TX.s__law_mixed, defScope TX.s__law_mixed, [], []⟩,
  ⟨("_law_signs", none), "_law_signs", "_law_signs", defArgs TX.s__law_signs, defBody TX.s__law_signs, defScope TX.s__law_signs, [], []⟩,
  ⟨("_law_part", none), "_law_part", "_law_part", defArgs TX.s__law_part, defBody TX.s__law_part, defScope TX.s__law_part, [], []⟩,
  ⟨("_law_segment", none), "_law_segment", "_law_segment", defArgs TX.s__law_segment, defBody TX.s__law_segment, defScope TX.s__law_segment, [], []⟩,
  ⟨("_law_row", none), "_law_row", "_law_row", defArgs TX.s__law_row, defBody TX.s__law_row, defScope TX.s__law_row, [], []⟩,
  ⟨("_law_long", none), "_law_long", "_law_long", defArgs TX.s__law_long, defBody TX.s__law_long, defScope TX.s__law_long, [], []⟩,
  ⟨("_law_part_made", none), "_law_part_made", "_law_part_made", defArgs TX.s__law_part_made, defBody TX.s__law_part_made, defScope TX.s__law_part_made, [], []⟩,
  ⟨("_law_row_made", none), "_law_row_made", "_law_row_made", defArgs TX.s__law_row_made, defBody TX.s__law_row_made, defScope TX.s__law_row_made, [], []⟩,
  ⟨("_law_filled", none), "_law_filled", "_law_filled", defArgs TX.s__law_filled, defBody TX.s__law_filled, defScope TX.s__law_filled, [], []⟩,
  ⟨("_law_names", none), "_law_names", "_law_names", defArgs TX.s__law_names, defBody TX.s__law_names, defScope TX.s__law_names, [], []⟩,
  ⟨("_law_path", none), "_law_path", "_law_path", defArgs TX.s__law_path, defBody TX.s__law_path, defScope TX.s__law_path, [], []⟩,
  ⟨("_law_fits_sign", none), "_law_fits_sign", "_law_fits_sign", defArgs TX.s__law_fits_sign, defBody TX.s__law_fits_sign, defScope TX.s__law_fits_sign, [], []⟩,
  ⟨("_law_fits_parts", none), "_law_fits_parts", "_law_fits_parts", defArgs TX.s__law_fits_parts, defBody TX.s__law_fits_parts, defScope TX.s__law_fits_parts, [], []⟩,
  ⟨("_law_fits_steps", none), "_law_fits_steps", "_law_fits_steps", defArgs TX.s__law_fits_steps, defBody TX.s__law_fits_steps, defScope TX.s__law_fits_steps, [], []⟩,
  ⟨("_law_stand", none), "_law_stand", "_law_stand", defArgs TX.s__law_stand, defBody TX.s__law_stand, defScope TX.s__law_stand, [], []⟩,
  ⟨("_law_right", none), "_law_right", "_law_right", defArgs TX.s__law_right, defBody TX.s__law_right, defScope TX.s__law_right, [], []⟩,
  ⟨("_law_read", none), "_law_read", "_law_read", defArgs TX.s__law_read, defBody TX.s__law_read, defScope TX.s__law_read, [], []⟩,
  ⟨("law", none), "law", "law", defArgs TX.s_law, defBody TX.s_law, defScope TX.s_law, [], []⟩,
  ⟨("Part", some "fits"), "fits", "Part.fits", defArgs TX.s_Part_fits, defBody TX.s_Part_fits, defScope TX.s_Part_fits, [], []⟩,
  ⟨("Part", some "many"), "many", "Part.many", defArgs TX.s_Part_many, defBody TX.s_Part_many, defScope TX.s_Part_many, [], []⟩,
  ⟨("Part", some "told"), "told", "Part.told", defArgs TX.s_Part_told, defBody TX.s_Part_told, defScope TX.s_Part_told, [], []⟩,
  ⟨("Any", some "fits"), "fits", "Part.fits", defArgs TX.s_Part_fits, defBody TX.s_Part_fits, defScope TX.s_Part_fits, [], []⟩,
  ⟨("Any", some "many"), "many", "Part.many", defArgs TX.s_Part_many, defBody TX.s_Part_many, defScope TX.s_Part_many, [], []⟩,
  ⟨("Any", some "told"), "told", "Part.told", defArgs TX.s_Part_told, defBody TX.s_Part_told, defScope TX.s_Part_told, [], []⟩,
  ⟨("One", some "fits"), "fits", "One.fits", defArgs TX.s_One_fits, defBody TX.s_One_fits, defScope TX.s_One_fits, [], []⟩,
  ⟨("One", some "many"), "many", "Part.many", defArgs TX.s_Part_many, defBody TX.s_Part_many, defScope TX.s_Part_many, [], []⟩,
  ⟨("One", some "told"), "told", "One.told", defArgs TX.s_One_told, defBody TX.s_One_told, defScope TX.s_One_told, [], []⟩,
  ⟨("One", some "__init__"), "__init__", "One.__init__", defArgs TX.s_One___init__, defBody TX.s_One___init__, defScope TX.s_One___init__, [], []⟩,
  ⟨("Among", some "fits"), "fits", "Among.fits", defArgs TX.s_Among_fits, defBody TX.s_Among_fits, defScope TX.s_Among_fits, [], []⟩,
  ⟨("Among", some "many"), "many", "Part.many", defArgs TX.s_Part_many, defBody TX.s_Part_many, defScope TX.s_Part_many, [], []⟩,
  ⟨("Among", some "told"), "told", "Among.told", defArgs TX.s_Among_told, defBody TX.s_Among_told, defScope TX.s_Among_told, [], []⟩,
  ⟨("Among", some "__init__"), "__init__", "Among.__init__", defArgs TX.s_Among___init__, defBody TX.s_Among___init__, defScope TX.s_Among___init__, [.bl false], []⟩,
  ⟨("Stars", some "fits"), "fits", "Part.fits", defArgs TX.s_Part_fits, defBody TX.s_Part_fits, defScope TX.s_Part_fits, [], []⟩,
  ⟨("Stars", some "many"), "many", "Stars.many", defArgs TX.s_Stars_many, defBody TX.s_Stars_many, defScope TX.s_Stars_many, [], []⟩,
  ⟨("Stars", some "told"), "told", "Stars.told", defArgs TX.s_Stars_told, defBody TX.s_Stars_told, defScope TX.s_Stars_told, [], []⟩,
  ⟨("Step", some "deep"), "deep", "Step.deep", defArgs TX.s_Step_deep, defBody TX.s_Step_deep, defScope TX.s_Step_deep, [], []⟩,
  ⟨("Step", some "fits_name"), "fits_name", "Step.fits_name", defArgs TX.s_Step_fits_name, defBody TX.s_Step_fits_name, defScope TX.s_Step_fits_name, [], []⟩,
  ⟨("Step", some "told"), "told", "Step.told", defArgs TX.s_Step_told, defBody TX.s_Step_told, defScope TX.s_Step_told, [], []⟩,
  ⟨("Deep", some "deep"), "deep", "Deep.deep", defArgs TX.s_Deep_deep, defBody TX.s_Deep_deep, defScope TX.s_Deep_deep, [], []⟩,
  ⟨("Deep", some "fits_name"), "fits_name", "Step.fits_name", defArgs TX.s_Step_fits_name, defBody TX.s_Step_fits_name, defScope TX.s_Step_fits_name, [], []⟩,
  ⟨("Deep", some "told"), "told", "Step.told", defArgs TX.s_Step_told, defBody TX.s_Step_told, defScope TX.s_Step_told, [], []⟩,
  ⟨("Segment", some "deep"), "deep", "Step.deep", defArgs TX.s_Step_deep, defBody TX.s_Step_deep, defScope TX.s_Step_deep, [], []⟩,
  ⟨("Segment", some "fits_name"), "fits_name", "Segment.fits_name", defArgs TX.s_Segment_fits_name, defBody TX.s_Segment_fits_name, defScope TX.s_Segment_fits_name, [], []⟩,
  ⟨("Segment", some "told"), "told", "Segment.told", defArgs TX.s_Segment_told, defBody TX.s_Segment_told, defScope TX.s_Segment_told, [], []⟩,
  ⟨("Segment", some "__init__"), "__init__", "Segment.__init__", defArgs TX.s_Segment___init__, defBody TX.s_Segment___init__, defScope TX.s_Segment___init__, [], []⟩,
  ⟨("Row", some "__init__"), "__init__", "Row.__init__", defArgs TX.s_Row___init__, defBody TX.s_Row___init__, defScope TX.s_Row___init__, [.bl false, .bl false], []⟩,
  ⟨("Row", some "told"), "told", "Row.told", defArgs TX.s_Row_told, defBody TX.s_Row_told, defScope TX.s_Row_told, [], []⟩]
def fa : List He.Fa := [.glo "_wall", .glo "spot_rank", .glo "rising", .glo "at_begin", .glo "within", .glo "begin", .glo "by_part", .glo "by_sign", .glo "by_slash", .glo "fits_folder", .glo "fits_leaf", .glo "is_sign", .glo "_law_cell", .glo "_law_mixed", .glo "_law_signs", .glo "_law_part", .glo "_law_segment", .glo "_law_row", .glo "_law_long", .glo "_law_part_made", .glo "_law_row_made", .glo "_law_filled", .glo "_law_names", .glo "_law_path", .glo "_law_fits_sign", .glo "_law_fits_parts", .glo "_law_fits_steps", .glo "_law_stand", .glo "_law_right", .glo "_law_read", .glo "law", .glo "ShunError", .keep "ShunError", .exc "ShunError", .glo "NoPart", .keep "NoPart", .exc "NoPart", .glo "Part", .keep "Part", .cls "Part", .meth "Part" "fits", .meth "Part" "many", .meth "Part" "told", .glo "Any", .keep "Any", .cls "Any", .meth "Any" "fits", .meth "Any" "many", .meth "Any" "told", .glo "One", .keep "One", .cls "One", .noat "One" "sign", .meth "One" "fits", .meth "One" "many", .meth "One" "told", .meth "One" "__init__", .mkr "One", .glo "Among", .keep "Among", .cls "Among", .noat "Among" "signs", .noat "Among" "outside", .meth "Among" "fits", .meth "Among" "many", .meth "Among" "told", .meth "Among" "__init__", .mkr "Among", .glo "Stars", .keep "Stars", .cls "Stars", .meth "Stars" "fits", .meth "Stars" "many", .meth "Stars" "told", .glo "Step", .keep "Step", .cls "Step", .meth "Step" "deep", .meth "Step" "fits_name", .meth "Step" "told", .glo "Deep", .keep "Deep", .cls "Deep", .meth "Deep" "deep", .meth "Deep" "fits_name", .meth "Deep" "told", .glo "Segment", .keep "Segment", .cls "Segment", .noat "Segment" "parts", .meth "Segment" "deep", .meth "Segment" "fits_name", .meth "Segment" "told", .meth "Segment" "__init__", .mkr "Segment", .glo "Row", .keep "Row", .cls "Row", .noat "Row" "steps", .noat "Row" "spares", .noat "Row" "folders", .meth "Row" "__init__", .meth "Row" "told", .mkr "Row", .str "SIGNS" "-.0123456789_abcdefghijklmnopqrstuvwxyz", .free "len", .free "range", .free "all", .free "set", .free "sorted", .free "list", .free "tuple", .free "int", .free "max", .free "min"]
def mkn (K : PySem.W.Frag) (x : Str) : Bool := PySem.W.makesIn K (He.ga K x) && (He.eqO (PySem.W.findIn K (.ref (He.ga K x)) "__init__") (some (some (.builtin "object.__init__"))) && PySem.W.keepIn K (.ref (He.ga K x)))
def ex (K : PySem.W.Frag) : Bool := (["Part", "Any", "Stars", "Step", "Deep"] : List Str).all (mkn K)
theorem mkn_ok {K : PySem.W.Frag} {x : Str} (h : ex K = true) (m : x ∈ (["Part", "Any", "Stars", "Step", "Deep"] : List Str)) : SL.MkN K (He.ga K x) := by
  have e := List.all_eq_true.mp h x m
  unfold mkn at e
  rw [Bool.and_eq_true, Bool.and_eq_true] at e
  exact ⟨e.1, He.eqO_ok e.2.1, e.2.2⟩
abbrev R : PySem.W.OpenRow := PySem.W.OpenLaw.row PySem.Challenge.rw_shunlist_k43_whole_rows_and_paths
abbrev hk : PySem.W.Hook := He.hookX 5 fa fn [] [] ex
def ob (s : PySem.W.SharedT) : He.AlX := He.obsX 5 fa fn [] [] ex (HandSHeadRun.getT s)
theorem ob_eq (s : PySem.W.SharedT) : ob s = hk.obs s.abs := He.obsX_eq (HandSHeadRun.getT_eq s)
def loose : List Str := (["_wall", "spot_rank", "rising", "at_begin", "within", "begin", "by_part", "by_sign", "by_slash", "fits_folder", "fits_leaf", "ShunError", "NoPart", "SIGNS", "is_sign", "Part", "Any", "One", "Among", "Stars", "Step", "Deep", "Segment", "Row", "_law_cell"] : List Str) ++ (["_law_mixed", "_law_signs", "_law_part", "_law_segment", "_law_row", "_law_long", "_law_part_made", "_law_row_made", "_law_filled", "_law_names", "_law_path", "_law_fits_sign", "_law_fits_parts", "_law_fits_steps", "_law_stand", "_law_right", "_law_read"] : List Str)
theorem run (w : World) : HandSHeadRun.RunEq R (PySem.W.view R.prog [47]) hk ob 6000 loose w := by
  intro os
  kernel_rfl
end HD
namespace SL
open PySem PySem.Spec PyProof.Rows L2
theorem txt_of {w : World} {K : PySem.W.Frag} {h : Heap} {mg : Str → Option Value} (X : K.In h) (G : h.Ns mainGlobals mg) (c : He.SaysX HD.fa HD.fn [] [] HD.ex w h K) : Txt K mg where
  F__wall := c.t.d.def_ 0 rfl
  F_spot_rank := c.t.d.def_ 1 rfl
  F_rising := c.t.d.def_ 2 rfl
  F_at_begin := c.t.d.def_ 3 rfl
  F_within := c.t.d.def_ 4 rfl
  F_begin := c.t.d.def_ 5 rfl
  F_by_part := c.t.d.def_ 6 rfl
  F_by_sign := c.t.d.def_ 7 rfl
  F_by_slash := c.t.d.def_ 8 rfl
  F_fits_folder := c.t.d.def_ 9 rfl
  F_fits_leaf := c.t.d.def_ 10 rfl
  F_is_sign := c.t.d.def_ 11 rfl
  F__law_cell := c.t.d.def_ 12 rfl
  F__law_mixed := c.t.d.def_ 13 rfl
  F__law_signs := c.t.d.def_ 14 rfl
  F__law_part := c.t.d.def_ 15 rfl
  F__law_segment := c.t.d.def_ 16 rfl
  F__law_row := c.t.d.def_ 17 rfl
  F__law_long := c.t.d.def_ 18 rfl
  F__law_part_made := c.t.d.def_ 19 rfl
  F__law_row_made := c.t.d.def_ 20 rfl
  F__law_filled := c.t.d.def_ 21 rfl
  F__law_names := c.t.d.def_ 22 rfl
  F__law_path := c.t.d.def_ 23 rfl
  F__law_fits_sign := c.t.d.def_ 24 rfl
  F__law_fits_parts := c.t.d.def_ 25 rfl
  F__law_fits_steps := c.t.d.def_ 26 rfl
  F__law_stand := c.t.d.def_ 27 rfl
  F__law_right := c.t.d.def_ 28 rfl
  F__law_read := c.t.d.def_ 29 rfl
  F_law := c.t.d.def_ 30 rfl
  F_Part_fits := c.t.d.def_ 31 rfl
  F_Part_many := c.t.d.def_ 32 rfl
  F_Part_told := c.t.d.def_ 33 rfl
  F_Any_fits := c.t.d.def_ 34 rfl
  F_Any_many := c.t.d.def_ 35 rfl
  F_Any_told := c.t.d.def_ 36 rfl
  F_One_fits := c.t.d.def_ 37 rfl
  F_One_many := c.t.d.def_ 38 rfl
  F_One_told := c.t.d.def_ 39 rfl
  F_One___init__ := c.t.d.def_ 40 rfl
  F_Among_fits := c.t.d.def_ 41 rfl
  F_Among_many := c.t.d.def_ 42 rfl
  F_Among_told := c.t.d.def_ 43 rfl
  F_Among___init__ := c.t.d.def_ 44 rfl
  F_Stars_fits := c.t.d.def_ 45 rfl
  F_Stars_many := c.t.d.def_ 46 rfl
  F_Stars_told := c.t.d.def_ 47 rfl
  F_Step_deep := c.t.d.def_ 48 rfl
  F_Step_fits_name := c.t.d.def_ 49 rfl
  F_Step_told := c.t.d.def_ 50 rfl
  F_Deep_deep := c.t.d.def_ 51 rfl
  F_Deep_fits_name := c.t.d.def_ 52 rfl
  F_Deep_told := c.t.d.def_ 53 rfl
  F_Segment_deep := c.t.d.def_ 54 rfl
  F_Segment_fits_name := c.t.d.def_ 55 rfl
  F_Segment_told := c.t.d.def_ 56 rfl
  F_Segment___init__ := c.t.d.def_ 57 rfl
  F_Row___init__ := c.t.d.def_ 58 rfl
  F_Row_told := c.t.d.def_ 59 rfl
  g__wall := He.glo_ok X G (c.t.d.fact 0 (f := .glo "_wall") rfl)
  g_spot_rank := He.glo_ok X G (c.t.d.fact 1 (f := .glo "spot_rank") rfl)
  g_rising := He.glo_ok X G (c.t.d.fact 2 (f := .glo "rising") rfl)
  g_at_begin := He.glo_ok X G (c.t.d.fact 3 (f := .glo "at_begin") rfl)
  g_within := He.glo_ok X G (c.t.d.fact 4 (f := .glo "within") rfl)
  g_begin := He.glo_ok X G (c.t.d.fact 5 (f := .glo "begin") rfl)
  g_by_part := He.glo_ok X G (c.t.d.fact 6 (f := .glo "by_part") rfl)
  g_by_sign := He.glo_ok X G (c.t.d.fact 7 (f := .glo "by_sign") rfl)
  g_by_slash := He.glo_ok X G (c.t.d.fact 8 (f := .glo "by_slash") rfl)
  g_fits_folder := He.glo_ok X G (c.t.d.fact 9 (f := .glo "fits_folder") rfl)
  g_fits_leaf := He.glo_ok X G (c.t.d.fact 10 (f := .glo "fits_leaf") rfl)
  g_is_sign := He.glo_ok X G (c.t.d.fact 11 (f := .glo "is_sign") rfl)
  g__law_cell := He.glo_ok X G (c.t.d.fact 12 (f := .glo "_law_cell") rfl)
  g__law_mixed := He.glo_ok X G (c.t.d.fact 13 (f := .glo "_law_mixed") rfl)
  g__law_signs := He.glo_ok X G (c.t.d.fact 14 (f := .glo "_law_signs") rfl)
  g__law_part := He.glo_ok X G (c.t.d.fact 15 (f := .glo "_law_part") rfl)
  g__law_segment := He.glo_ok X G (c.t.d.fact 16 (f := .glo "_law_segment") rfl)
  g__law_row := He.glo_ok X G (c.t.d.fact 17 (f := .glo "_law_row") rfl)
  g__law_long := He.glo_ok X G (c.t.d.fact 18 (f := .glo "_law_long") rfl)
  g__law_part_made := He.glo_ok X G (c.t.d.fact 19 (f := .glo "_law_part_made") rfl)
  g__law_row_made := He.glo_ok X G (c.t.d.fact 20 (f := .glo "_law_row_made") rfl)
  g__law_filled := He.glo_ok X G (c.t.d.fact 21 (f := .glo "_law_filled") rfl)
  g__law_names := He.glo_ok X G (c.t.d.fact 22 (f := .glo "_law_names") rfl)
  g__law_path := He.glo_ok X G (c.t.d.fact 23 (f := .glo "_law_path") rfl)
  g__law_fits_sign := He.glo_ok X G (c.t.d.fact 24 (f := .glo "_law_fits_sign") rfl)
  g__law_fits_parts := He.glo_ok X G (c.t.d.fact 25 (f := .glo "_law_fits_parts") rfl)
  g__law_fits_steps := He.glo_ok X G (c.t.d.fact 26 (f := .glo "_law_fits_steps") rfl)
  g__law_stand := He.glo_ok X G (c.t.d.fact 27 (f := .glo "_law_stand") rfl)
  g__law_right := He.glo_ok X G (c.t.d.fact 28 (f := .glo "_law_right") rfl)
  g__law_read := He.glo_ok X G (c.t.d.fact 29 (f := .glo "_law_read") rfl)
  g_law := He.glo_ok X G (c.t.d.fact 30 (f := .glo "law") rfl)
  g_ShunError := He.glo_ok X G (c.t.d.fact 31 (f := .glo "ShunError") rfl)
  k_ShunError := He.keep_ok (c.t.d.fact 32 (f := .keep "ShunError") rfl)
  x_ShunError := He.exc_ok (c.t.d.fact 33 (f := .exc "ShunError") rfl)
  g_NoPart := He.glo_ok X G (c.t.d.fact 34 (f := .glo "NoPart") rfl)
  k_NoPart := He.keep_ok (c.t.d.fact 35 (f := .keep "NoPart") rfl)
  x_NoPart := He.exc_ok (c.t.d.fact 36 (f := .exc "NoPart") rfl)
  g_Part := He.glo_ok X G (c.t.d.fact 37 (f := .glo "Part") rfl)
  k_Part := He.keep_ok (c.t.d.fact 38 (f := .keep "Part") rfl)
  c_Part := He.cls_ok (c.t.d.fact 39 (f := .cls "Part") rfl)
  m_Part_fits := He.meth_ok (c.t.d.fact 40 (f := .meth "Part" "fits") rfl)
  m_Part_many := He.meth_ok (c.t.d.fact 41 (f := .meth "Part" "many") rfl)
  m_Part_told := He.meth_ok (c.t.d.fact 42 (f := .meth "Part" "told") rfl)
  g_Any := He.glo_ok X G (c.t.d.fact 43 (f := .glo "Any") rfl)
  k_Any := He.keep_ok (c.t.d.fact 44 (f := .keep "Any") rfl)
  c_Any := He.cls_ok (c.t.d.fact 45 (f := .cls "Any") rfl)
  m_Any_fits := He.meth_ok (c.t.d.fact 46 (f := .meth "Any" "fits") rfl)
  m_Any_many := He.meth_ok (c.t.d.fact 47 (f := .meth "Any" "many") rfl)
  m_Any_told := He.meth_ok (c.t.d.fact 48 (f := .meth "Any" "told") rfl)
  g_One := He.glo_ok X G (c.t.d.fact 49 (f := .glo "One") rfl)
  k_One := He.keep_ok (c.t.d.fact 50 (f := .keep "One") rfl)
  c_One := He.cls_ok (c.t.d.fact 51 (f := .cls "One") rfl)
  n_One_sign := He.noat_ok (c.t.d.fact 52 (f := .noat "One" "sign") rfl)
  m_One_fits := He.meth_ok (c.t.d.fact 53 (f := .meth "One" "fits") rfl)
  m_One_many := He.meth_ok (c.t.d.fact 54 (f := .meth "One" "many") rfl)
  m_One_told := He.meth_ok (c.t.d.fact 55 (f := .meth "One" "told") rfl)
  m_One___init__ := He.meth_ok (c.t.d.fact 56 (f := .meth "One" "__init__") rfl)
  mk_One := He.mkr_ok (c.t.d.fact 57 (f := .mkr "One") rfl)
  g_Among := He.glo_ok X G (c.t.d.fact 58 (f := .glo "Among") rfl)
  k_Among := He.keep_ok (c.t.d.fact 59 (f := .keep "Among") rfl)
  c_Among := He.cls_ok (c.t.d.fact 60 (f := .cls "Among") rfl)
  n_Among_signs := He.noat_ok (c.t.d.fact 61 (f := .noat "Among" "signs") rfl)
  n_Among_outside := He.noat_ok (c.t.d.fact 62 (f := .noat "Among" "outside") rfl)
  m_Among_fits := He.meth_ok (c.t.d.fact 63 (f := .meth "Among" "fits") rfl)
  m_Among_many := He.meth_ok (c.t.d.fact 64 (f := .meth "Among" "many") rfl)
  m_Among_told := He.meth_ok (c.t.d.fact 65 (f := .meth "Among" "told") rfl)
  m_Among___init__ := He.meth_ok (c.t.d.fact 66 (f := .meth "Among" "__init__") rfl)
  mk_Among := He.mkr_ok (c.t.d.fact 67 (f := .mkr "Among") rfl)
  g_Stars := He.glo_ok X G (c.t.d.fact 68 (f := .glo "Stars") rfl)
  k_Stars := He.keep_ok (c.t.d.fact 69 (f := .keep "Stars") rfl)
  c_Stars := He.cls_ok (c.t.d.fact 70 (f := .cls "Stars") rfl)
  m_Stars_fits := He.meth_ok (c.t.d.fact 71 (f := .meth "Stars" "fits") rfl)
  m_Stars_many := He.meth_ok (c.t.d.fact 72 (f := .meth "Stars" "many") rfl)
  m_Stars_told := He.meth_ok (c.t.d.fact 73 (f := .meth "Stars" "told") rfl)
  g_Step := He.glo_ok X G (c.t.d.fact 74 (f := .glo "Step") rfl)
  k_Step := He.keep_ok (c.t.d.fact 75 (f := .keep "Step") rfl)
  c_Step := He.cls_ok (c.t.d.fact 76 (f := .cls "Step") rfl)
  m_Step_deep := He.meth_ok (c.t.d.fact 77 (f := .meth "Step" "deep") rfl)
  m_Step_fits_name := He.meth_ok (c.t.d.fact 78 (f := .meth "Step" "fits_name") rfl)
  m_Step_told := He.meth_ok (c.t.d.fact 79 (f := .meth "Step" "told") rfl)
  g_Deep := He.glo_ok X G (c.t.d.fact 80 (f := .glo "Deep") rfl)
  k_Deep := He.keep_ok (c.t.d.fact 81 (f := .keep "Deep") rfl)
  c_Deep := He.cls_ok (c.t.d.fact 82 (f := .cls "Deep") rfl)
  m_Deep_deep := He.meth_ok (c.t.d.fact 83 (f := .meth "Deep" "deep") rfl)
  m_Deep_fits_name := He.meth_ok (c.t.d.fact 84 (f := .meth "Deep" "fits_name") rfl)
  m_Deep_told := He.meth_ok (c.t.d.fact 85 (f := .meth "Deep" "told") rfl)
  g_Segment := He.glo_ok X G (c.t.d.fact 86 (f := .glo "Segment") rfl)
  k_Segment := He.keep_ok (c.t.d.fact 87 (f := .keep "Segment") rfl)
  c_Segment := He.cls_ok (c.t.d.fact 88 (f := .cls "Segment") rfl)
  n_Segment_parts := He.noat_ok (c.t.d.fact 89 (f := .noat "Segment" "parts") rfl)
  m_Segment_deep := He.meth_ok (c.t.d.fact 90 (f := .meth "Segment" "deep") rfl)
  m_Segment_fits_name := He.meth_ok (c.t.d.fact 91 (f := .meth "Segment" "fits_name") rfl)
  m_Segment_told := He.meth_ok (c.t.d.fact 92 (f := .meth "Segment" "told") rfl)
  m_Segment___init__ := He.meth_ok (c.t.d.fact 93 (f := .meth "Segment" "__init__") rfl)
  mk_Segment := He.mkr_ok (c.t.d.fact 94 (f := .mkr "Segment") rfl)
  g_Row := He.glo_ok X G (c.t.d.fact 95 (f := .glo "Row") rfl)
  k_Row := He.keep_ok (c.t.d.fact 96 (f := .keep "Row") rfl)
  c_Row := He.cls_ok (c.t.d.fact 97 (f := .cls "Row") rfl)
  n_Row_steps := He.noat_ok (c.t.d.fact 98 (f := .noat "Row" "steps") rfl)
  n_Row_spares := He.noat_ok (c.t.d.fact 99 (f := .noat "Row" "spares") rfl)
  n_Row_folders := He.noat_ok (c.t.d.fact 100 (f := .noat "Row" "folders") rfl)
  m_Row___init__ := He.meth_ok (c.t.d.fact 101 (f := .meth "Row" "__init__") rfl)
  m_Row_told := He.meth_ok (c.t.d.fact 102 (f := .meth "Row" "told") rfl)
  mk_Row := He.mkr_ok (c.t.d.fact 103 (f := .mkr "Row") rfl)
  s_SIGNS := He.str_ok X G (c.t.d.fact 104 (f := .str "SIGNS" "-.0123456789_abcdefghijklmnopqrstuvwxyz") rfl)
  fr_len := He.free_ok X G (c.t.d.fact 105 (f := .free "len") rfl)
  fr_range := He.free_ok X G (c.t.d.fact 106 (f := .free "range") rfl)
  fr_all := He.free_ok X G (c.t.d.fact 107 (f := .free "all") rfl)
  fr_set := He.free_ok X G (c.t.d.fact 108 (f := .free "set") rfl)
  fr_sorted := He.free_ok X G (c.t.d.fact 109 (f := .free "sorted") rfl)
  fr_list := He.free_ok X G (c.t.d.fact 110 (f := .free "list") rfl)
  fr_tuple := He.free_ok X G (c.t.d.fact 111 (f := .free "tuple") rfl)
  fr_int := He.free_ok X G (c.t.d.fact 112 (f := .free "int") rfl)
  fr_max := He.free_ok X G (c.t.d.fact 113 (f := .free "max") rfl)
  fr_min := He.free_ok X G (c.t.d.fact 114 (f := .free "min") rfl)
  mn_Part := HD.mkn_ok c.more (by decide)
  mn_Any := HD.mkn_ok c.more (by decide)
  mn_Stars := HD.mkn_ok c.more (by decide)
  mn_Step := HD.mkn_ok c.more (by decide)
  mn_Deep := HD.mkn_ok c.more (by decide)
end SL
open PySem PySem.W PySem.Calls PyProof.Rows
theorem PySem.Challenge.cw_shunlist_k43_whole_rows_and_paths_holds : PySem.Challenge.rw_shunlist_k43_whole_rows_and_paths.Holds := by
  w_on; o_law
  refine HandSHeadRun.head_any (r := (PySem.W.OpenLaw.row PySem.Challenge.rw_shunlist_k43_whole_rows_and_paths)) (q := view (PySem.W.OpenLaw.row PySem.Challenge.rw_shunlist_k43_whole_rows_and_paths).prog [47]) (H := HD.hk) (ob := HD.ob) (M := 6000) (loose := HD.loose) (d := HandSHeadRun.topDef (PySem.W.OpenLaw.row PySem.Challenge.rw_shunlist_k43_whole_rows_and_paths).prog 47) (kwd := []) HD.ob_eq
    (by kernel_rfl) (fun s => by kernel_rfl) HD.run (by kernel_rfl) (by kernel_rfl) (by kernel_rfl) (by rfl) (by first | assumption | decide +kernel) (by decide +kernel) ⟨rfl, rfl, rfl, rfl, rfl, by decide +kernel⟩ ?hw ?hc
  case hw => w_witness2
  case hc =>
    refine LamX.walk_ofTsE (l := PySem.Challenge.rw_shunlist_k43_whole_rows_and_paths) (n := 63) (k := 9) (x := "_law_script") (CX := fun w => L2.CX (PySem.Challenge.rw_shunlist_k43_whole_rows_and_paths).prog w) rfl (by decide) (by kernel_rfl) ⟨rfl, by decide, by decide⟩ ?F (fun _ _ _ _ _ ⟨_, _, _, _, _, _, _, _, _, _, _, _, z⟩ => z)
    intro w mg fa h Y G hmg0
    obtain ⟨K, KX, c⟩ := Y
    have T := SL.txt_of KX G c
    have hmg : mg ("law" : PySem.Str) = some (.ref fa) := by
      have e : (HandSHeadRun.topDef (PySem.W.OpenLaw.row PySem.Challenge.rw_shunlist_k43_whole_rows_and_paths).prog 47).name = ("law" : PySem.Str) := by kernel_rfl
      rw [← e]
      exact hmg0
    have e := hmg.symm.trans T.g_law
    cases e
    obtain ⟨fd, F⟩ := T.F_law
    have b := L2.FunD.bindsA (ps := ["_law_script"]) F fun _ _ _ _ _ _ us hl => match us, hl with | [_], _ => rfl
    exact ⟨K, KX, fd, [], SL.spLaw K, (fun _ h => nomatch h), (fun _ h => nomatch h), (fun _ h => nomatch h), fun s v => b s [v] rfl, fun H a ns hl hb _ hS => SL.law_sp hS hl hb, fun base _ _ _ => F.ok SL.sc_law (fun vs H Q E h => SL.law_len h) (SL.bd_law T)⟩
