import PyProof.Rows.All
import KE.DataEq
import KE.KUnpack
import KE.KIsAll
import Wide.All
import OpenK.AllK
import Wide.FinOn
import HandS.ForMost
import HandS.ForExc
import HandS.Deep
import HandS.TryMany
import HandS.TupAny
import HandS.WideBits
import HandS.Walk
import HandS.Zip
import HandS.IsInst
import HandS.RaiseMore
import HandS.FStr
import HandS.SetKeys
import HandS.Rev
import HandS.Style
import HandS.Replace
import HandS.ReplaceList
import PyProof.Rows.StrIntSpec
import HandS.ReplaceDef
import HandS.ReplaceLit
import HandS.ExcIs
import HandS.ExcValue
import PySem.Challenge.RW_flowkinds_k07_texts_spoilt_anywhere
set_option Elab.async false
set_option linter.all false
set_option maxRecDepth 100000
set_option maxHeartbeats 4000000
/-! ### Fk0: callables by name, operators of several kinds at once, heaps -/
namespace Fk
open PySem L2

/-- a def of the top, called by its name -/
structure Cal (P : Program) (w : World) (K : PySem.W.Frag) (mg : Str → Option Value) (base : Heap) (CX : CXT) (k : Nat) (x : Str) (ps : List Str) (sp : Sp) : Prop where
  ex : ∃ (f : Addr) (fd : FuncData), FnOk P w K mg base CX k f fd ps sp ∧ mg x = some (.ref f) ∧ PySem.W.keepIn K (.ref f) = true ∧ Binds K fd ps []
/-- a method of the class at C -/
structure CalM (P : Program) (w : World) (K : PySem.W.Frag) (mg : Str → Option Value) (base : Heap) (CX : CXT) (k : Nat) (C : Addr) (m : Str) (ps : List Str) (sp : Sp) : Prop where
  cl : Cls K C
  ex : ∃ (f : Addr) (fd : FuncData), FnOk P w K mg base CX k f fd ps sp ∧ Meth K C m f ∧ Binds K fd ps []
/-- a class that is called, by its __init__ -/
structure CalC (P : Program) (w : World) (K : PySem.W.Frag) (mg : Str → Option Value) (base : Heap) (CX : CXT) (k : Nat) (C : Addr) (x : Str) (ps : List Str) (sp : Sp) : Prop where
  gC : mg x = some (.ref C)
  ex : ∃ (f : Addr) (fd : FuncData), FnOk P w K mg base CX k f fd ps sp ∧ Mk K C f ∧ Binds K fd ps []
/-- an own exception class over ValueError, without an __init__ -/
structure ExcB (K : PySem.W.Frag) (mg : Str → Option Value) (x : Str) (C : Addr) : Prop where
  g : mg x = some (.ref C)
  x : PySem.W.excIn K C [.type "ValueError", .type "Exception", .type "BaseException", .type "object"] "ValueError.__new__" = true
  k : PySem.W.keepIn K (.ref C) = true
  b : PySem.W.subIn K (.ref C) (.type "BaseException") = some true
  t : PySem.W.typeIn K (.ref C) = some (.type "type")
section
variable {X : Cx} {CX : CXT} {j k : Nat} {C : Addr} {ps : List Str} {sp : Sp} {E : XK} {x m : Str} {p pos apos : Pos} {e o : Expr} {es : List Expr} {ta : TE} {t : TA}
theorem Cal.mono {P : Program} {w : World} {K : PySem.W.Frag} {mg : Str → Option Value} {base : Heap} (c : Cal P w K mg base CX j x ps sp) (h : j ≤ k) : Cal P w K mg base CX k x ps sp := by
  obtain ⟨f, fd, F, r⟩ := c.ex
  exact ⟨f, fd, F.mono h, r⟩
theorem CalM.mono {P : Program} {w : World} {K : PySem.W.Frag} {mg : Str → Option Value} {base : Heap} (c : CalM P w K mg base CX j C m ps sp) (h : j ≤ k) : CalM P w K mg base CX k C m ps sp := by
  obtain ⟨f, fd, F, r⟩ := c.ex
  exact ⟨c.cl, f, fd, F.mono h, r⟩
theorem CalC.mono {P : Program} {w : World} {K : PySem.W.Frag} {mg : Str → Option Value} {base : Heap} (c : CalC P w K mg base CX j C x ps sp) (h : j ≤ k) : CalC P w K mg base CX k C x ps sp := by
  obtain ⟨f, fd, F, r⟩ := c.ex
  exact ⟨c.gC, f, fd, F.mono h, r⟩
/-- f(e, ..), nothing raised -/
theorem pe_c (c : Cal X.prog X.w X.K X.mg X.base CX0 j x ps sp) (hr : Room k X.A) (ha : PA X (e :: es) t) (hj : j ≤ k := by omega) (hg : Gl X x := by rfl)
    (hdb : (x == ("__debug__" : Str)) = false := by decide) (he : starEach (e :: es) X.env = (false, eval e X.env) :: starEach es X.env := by rfl) (hpl : (backTo pos (starEach es X.env)).any (·.1) = false := by rfl) :
    PE X (.Call (.Name x p) (e :: es) [] pos) (tCall sp [] E0 t) := by
  obtain ⟨f, fd, F, hm, kp, b⟩ := c.ex
  exact pe_call F (hr.mono hj) hg hm kp b .nil pass0 ha hdb he hpl
/-- f(e, ..), what it raises leaves this def too -/
theorem pe_cX (c : Cal X.prog X.w X.K X.mg X.base (L2.CX X.prog X.w) j x ps sp) (hr : Room k X.A) (tk : Takes X (fun cls d _ H => E cls d H)) (ha : PA X (e :: es) t) (hj : j ≤ k := by omega) (hg : Gl X x := by rfl)
    (hdb : (x == ("__debug__" : Str)) = false := by decide) (he : starEach (e :: es) X.env = (false, eval e X.env) :: starEach es X.env := by rfl) (hpl : (backTo pos (starEach es X.env)).any (·.1) = false := by rfl) :
    PE X (.Call (.Name x p) (e :: es) [] pos) (tCall sp [] E t) := by
  obtain ⟨f, fd, F, hm, kp, b⟩ := c.ex
  exact pe_call F (hr.mono hj) hg hm kp b .nil (passes_call tk fun _ _ _ _ h => h) ha hdb he hpl
/-- the same in a try's body -/
theorem pe_cS {W : WX} (c : Cal X.prog X.w X.K X.mg X.base (L2.CX X.prog X.w) j x ps sp) (hr : Room k X.A) (tk : Takes X W) (ha : PA X (e :: es) t) (hj : j ≤ k := by omega) (hg : Gl X x := by rfl)
    (hdb : (x == ("__debug__" : Str)) = false := by decide) (he : starEach (e :: es) X.env = (false, eval e X.env) :: starEach es X.env := by rfl) (hpl : (backTo pos (starEach es X.env)).any (·.1) = false := by rfl) :
    PE X (.Call (.Name x p) (e :: es) [] pos) (tCallS sp (WE W) t) := by
  obtain ⟨f, fd, F, hm, kp, b⟩ := c.ex
  exact pe_callS F (hr.mono hj) hg hm kp b (fun σ => passAt tk σ) ha hdb he hpl
/-- f() -/
theorem pe_c0 (c : Cal X.prog X.w X.K X.mg X.base CX0 j x ps sp) (hr : Room k X.A) (hj : j ≤ k := by omega) (hg : Gl X x := by rfl)
    (hdb : (x == ("__debug__" : Str)) = false := by decide) :
    PE X (.Call (.Name x p) [] [] pos) (tCall sp [] E0 tNil) := by
  obtain ⟨f, fd, F, hm, kp, b⟩ := c.ex
  exact pe_call0 F (hr.mono hj) hg hm kp b .nil pass0 hdb
/-- o.m(e, ..), o.m() -/
theorem pe_m {pl : Sem Bool} (c : CalM X.prog X.w X.K X.mg X.base CX0 j C m ps sp) (hr : Room k X.A) (he : PE X o ta) (ha : PA X (e :: es) t) (hj : j ≤ k := by omega)
    (hst : starEach (e :: es) X.env = (false, eval e X.env) :: starEach es X.env := by rfl) (hpl : (backTo pos (starEach es X.env)).any (·.1) = false := by rfl)
    (ht : eval (.Call (.Attribute o m apos) (e :: es) [] pos) X.env = (do
      let ov ← eval o X.env
      standAt apos.atName
      let (f, first) ← holding [ov] (getMethod ov m pl)
      callWith pos f first (backTo pos (starEach (e :: es) X.env)) (backToKw pos (keywordEach [] X.env))) := by rfl) :
    PE X (.Call (.Attribute o m apos) (e :: es) [] pos) (tMeth C m sp [] E0 ta t) := by
  obtain ⟨f, fd, F, hm, b⟩ := c.ex
  exact pe_meth (pl := pl) he c.cl hm F (hr.mono hj) b .nil pass0 ha hst hpl ht
theorem pe_m0 {pl : Sem Bool} (c : CalM X.prog X.w X.K X.mg X.base CX0 j C m ps sp) (hr : Room k X.A) (he : PE X o ta) (hj : j ≤ k := by omega)
    (ht : eval (.Call (.Attribute o m apos) [] [] pos) X.env = (do
      let ov ← eval o X.env
      standAt apos.atName
      let (f, first) ← holding [ov] (getMethod ov m pl)
      callWith pos f first (backTo pos (starEach [] X.env)) (backToKw pos (keywordEach [] X.env))) := by rfl) :
    PE X (.Call (.Attribute o m apos) [] [] pos) (tMeth C m sp [] E0 ta tNil) := by
  obtain ⟨f, fd, F, hm, b⟩ := c.ex
  exact pe_meth0 (pl := pl) he c.cl hm F (hr.mono hj) b .nil pass0 ht
/-- the same where what they raise leaves this def too -/
theorem pe_mX {pl : Sem Bool} (c : CalM X.prog X.w X.K X.mg X.base (L2.CX X.prog X.w) j C m ps sp) (hr : Room k X.A) (tk : Takes X (fun cls d _ H => E cls d H)) (he : PE X o ta) (ha : PA X (e :: es) t) (hj : j ≤ k := by omega)
    (hst : starEach (e :: es) X.env = (false, eval e X.env) :: starEach es X.env := by rfl) (hpl : (backTo pos (starEach es X.env)).any (·.1) = false := by rfl)
    (ht : eval (.Call (.Attribute o m apos) (e :: es) [] pos) X.env = (do
      let ov ← eval o X.env
      standAt apos.atName
      let (f, first) ← holding [ov] (getMethod ov m pl)
      callWith pos f first (backTo pos (starEach (e :: es) X.env)) (backToKw pos (keywordEach [] X.env))) := by rfl) :
    PE X (.Call (.Attribute o m apos) (e :: es) [] pos) (tMeth C m sp [] E ta t) := by
  obtain ⟨f, fd, F, hm, b⟩ := c.ex
  exact pe_meth (pl := pl) he c.cl hm F (hr.mono hj) b .nil (passes_call tk fun _ _ _ _ h => h) ha hst hpl ht
theorem pe_mX0 {pl : Sem Bool} (c : CalM X.prog X.w X.K X.mg X.base (L2.CX X.prog X.w) j C m ps sp) (hr : Room k X.A) (tk : Takes X (fun cls d _ H => E cls d H)) (he : PE X o ta) (hj : j ≤ k := by omega)
    (ht : eval (.Call (.Attribute o m apos) [] [] pos) X.env = (do
      let ov ← eval o X.env
      standAt apos.atName
      let (f, first) ← holding [ov] (getMethod ov m pl)
      callWith pos f first (backTo pos (starEach [] X.env)) (backToKw pos (keywordEach [] X.env))) := by rfl) :
    PE X (.Call (.Attribute o m apos) [] [] pos) (tMeth C m sp [] E ta tNil) := by
  obtain ⟨f, fd, F, hm, b⟩ := c.ex
  exact pe_meth0 (pl := pl) he c.cl hm F (hr.mono hj) b .nil (passes_call tk fun _ _ _ _ h => h) ht
/-- C(e, ..), C() -/
theorem pe_new (c : CalC X.prog X.w X.K X.mg X.base CX0 j C x ps sp) (hr : Room k X.A) (ha : PA X (e :: es) t) (hj : j + 1 ≤ k := by omega) (hg : Gl X x := by rfl)
    (hdb : (x == ("__debug__" : Str)) = false := by decide) (he : starEach (e :: es) X.env = (false, eval e X.env) :: starEach es X.env := by rfl) (hpl : (backTo pos (starEach es X.env)).any (·.1) = false := by rfl) :
    PE X (.Call (.Name x p) (e :: es) [] pos) (tMake C sp [] E0 t) := by
  obtain ⟨f, fd, F, M, b⟩ := c.ex
  exact pe_make M F (hr.mono hj) hg c.gC b .nil pass0 ha hdb he hpl
theorem pe_new0 (c : CalC X.prog X.w X.K X.mg X.base CX0 j C x ps sp) (hr : Room k X.A) (hj : j + 1 ≤ k := by omega) (hg : Gl X x := by rfl)
    (hdb : (x == ("__debug__" : Str)) = false := by decide) :
    PE X (.Call (.Name x p) [] [] pos) (tMake C sp [] E0 tNil) := by
  obtain ⟨f, fd, F, M, b⟩ := c.ex
  exact pe_make0 M F (hr.mono hj) hg c.gC b .nil pass0 hdb
/-- constants of the module -/
theorem pe_gi {i : Int} (h : ∃ t, X.mg x = some (.int i t)) (hg : Gl X x := by rfl) (hdb : (x == ("__debug__" : Str)) = false := by decide) : PE X (.Name x pos) (tC (.int i)) := by
  obtain ⟨t, h⟩ := h
  exact pe_glob hg h ⟨t, rfl⟩ hdb
theorem pe_gs {z : Str} (h : ∃ t, X.mg x = some (.str z t)) (hg : Gl X x := by rfl) (hdb : (x == ("__debug__" : Str)) = false := by decide) : PE X (.Name x pos) (tC (.str z)) := by
  obtain ⟨t, h⟩ := h
  exact pe_glob hg h ⟨t, rfl⟩ hdb
theorem pe_gr {a : Addr} (h : X.mg x = some (.ref a)) (hg : Gl X x := by rfl) (hdb : (x == ("__debug__" : Str)) = false := by decide) : PE X (.Name x pos) (tC (.ref a)) :=
  pe_glob hg h rfl hdb
/-- raise C('..'), out of this def -/
theorem ps_rz {E : XK} {mm : Str} {jj : Nat} {p2 pos2 : Pos} (ex : ExcB X.K X.mg x C) (hc : X.calm = true) (tk : Takes X (fun cls d _ H => E cls d H)) (hg : Gl X x := by rfl)
    (hd : (x == ("__debug__" : Str)) = false := by decide) :
    PS X (.Raise (some (.Call (.Name x p) [.Constant (.str mm) jj p2] [] pos)) none pos2) (fun _ σ H => (fun _ H' Q => Q (.ref C) none H') σ H fun cls d H' => E cls d H') :=
  ps_raise (W := fun cls d _ H => E cls d H) hc tk (pmk_own PySem.F.excBase_ValueError ex.x ex.g ex.k (raises_own ex.b ex.t) hg hd)
end
end Fk
/-! ### Fk1: readings as functions of slots and heap -/
namespace Fk
open PySem PySem.Spec PyProof.Rows L2
section
variable {X : Cx}
theorem pe_imp {e : Expr} {t t' : TE} (h : PE X e t) (hi : ∀ σ H Q, t' σ H Q → t σ H Q) : PE X e t' := ⟨fun pins s σ H Q I q => h.run pins s σ H Q I (hi _ _ _ q)⟩
theorem pt_imp {e : Expr} {t t' : TT} (h : PT X e t) (hi : ∀ σ H Q, t' σ H Q → t σ H Q) : PT X e t' := ⟨fun pins s σ H Q I q => h.run pins s σ H Q I (hi _ _ _ q)⟩
theorem ps_imp {e : Stmt} {t t' : TS} (h : PS X e t) (hi : ∀ D σ H, t' D σ H → t D σ H) : PS X e t' := ⟨fun pins s σ H D I q => h.run pins s σ H D I (hi _ _ _ q)⟩
theorem op_imp {f : Value → Value → Sem Value} {r r' : R2} (h : OpR X f r) (hi : ∀ x y H Q, r' x y H Q → r x y H Q) : OpR X f r' := fun pins s σ H x y v u Q I rx ry q => h pins s σ H x y v u Q I rx ry (hi _ _ _ _ q)
theorem ix_imp {r r' : R2} (h : IxR X r) (hi : ∀ x y H Q, r' x y H Q → r x y H Q) : IxR X r' := fun value slice pins s σ H x y v u Q I rx ry q hs => h value slice pins s σ H x y v u Q I rx ry (hi _ _ _ _ q) hs
theorem ca_imp {f : Value} {r r' : List V → Hp → VK → Prop} (h : CallR X f r) (hi : ∀ xs H Q, r' xs H Q → r xs H Q) : CallR X f r' := fun pins s σ H xs us Q I rx q => h pins s σ H xs us Q I rx (hi _ _ _ q)
theorem sl_imp {r r' : V → Option Int → Option Int → Hp → VK → Prop} (h : SlR X r) (hi : ∀ x lo hi H Q, r' x lo hi H Q → r x lo hi H Q) : SlR X r' := fun pins s σ H x v vl vu lo hi' sl Q I rx hs pl pu q => h pins s σ H x v vl vu lo hi' sl Q I rx hs pl pu (hi _ _ _ _ _ q)
end
/-! what may be read at an address -/
def lstOf : Option HO → Option (List V)
  | some (.lst xs) => some xs
  | some (.frz _ (.lst xs)) => some xs
  | _ => none
def tupOf : Option HO → Option (List V)
  | some (.tup xs) => some xs
  | some (.frz _ (.tup xs)) => some xs
  | _ => none
def seqOf (o : Option HO) : Option (List V) := match lstOf o with
  | some xs => some xs
  | none => tupOf o
theorem lst_sq {K : PySem.W.Frag} {H : Hp} {a : Addr} {xs : List V} (h : lstOf (H a) = some xs) : SqL K H a xs := by
  unfold lstOf at h
  split at h
  · next e => cases h; exact .inl (.inl e)
  · next e => cases h; exact .inl (.inr ⟨_, e⟩)
  · cases h
theorem tup_sq {K : PySem.W.Frag} {H : Hp} {a : Addr} {xs : List V} (h : tupOf (H a) = some xs) : SqT K H a xs := by
  unfold tupOf at h
  split at h
  · next e => cases h; exact .inl (.inl e)
  · next e => cases h; exact .inl (.inr ⟨_, e⟩)
  · cases h
theorem seq_sq {K : PySem.W.Frag} {H : Hp} {a : Addr} {xs : List V} (h : seqOf (H a) = some xs) : SqL K H a xs ∨ SqT K H a xs := by
  unfold seqOf at h
  split at h
  · next e => cases h; exact .inl (lst_sq e)
  · exact .inr (tup_sq h)
/-! names -/
def qVar (i : Nat) : TE := fun σ H Q => match σ[i]? with
  | some (some v) => Q v H
  | _ => False
/-! operators -/
def qAdd : R2 := fun x y H Q => match x, y with
  | .int i, .int j => Q (.int (i + j)) H
  | .str a, .str b => a.length + b.length ≤ sizeLine ∧ Q (.str (a ++ b)) H
  | .ref a, .ref b => match H a, H b with
    | some (.lst xs), some (.lst ys) => xs.length + ys.length ≤ sizeLine ∧ ∀ p, H p = none → Q (.ref p) (upd H p (.lst (xs ++ ys)))
    | some (.tup xs), some (.tup ys) => xs.length + ys.length ≤ sizeLine ∧ (xs = [] → Q (.ref b) H) ∧ (xs ≠ [] → ys = [] → Q (.ref a) H) ∧ (xs ≠ [] → ys ≠ [] → ∀ p, H p = none → Q (.ref p) (upd H p (.tup (xs ++ ys))))
    | _, _ => False
  | _, _ => False
def qSub : R2 := fun x y H Q => match x, y with
  | .int i, .int j => Q (.int (i - j)) H
  | _, _ => False
def qMul : R2 := fun x y H Q => match x, y with
  | .int i, .int j => ((-(2 ^ 64) < i ∧ i < 2 ^ 64) ∨ (-(2 ^ 64) < j ∧ j < 2 ^ 64)) ∧ Q (.int (i * j)) H
  | _, _ => False
def qMod : R2 := fun x y H Q => match x, y with
  | .int i, .int j => 0 < j ∧ Q (.int (i % j)) H
  | _, _ => False
def qDiv : R2 := fun x y H Q => match x, y with
  | .int i, .int j => (0 < j ∧ j < 1073741824) ∧ Q (.int (i / j)) H
  | _, _ => False
def qPow : R2 := fun x y H Q => match x, y with
  | .int i, .int j => (0 ≤ j ∧ j ≤ 1000000 ∧ i.natAbs < 2 ^ 64) ∧ Q (.int (i ^ j.toNat)) H
  | _, _ => False
def qCmpI (p : Int → Int → Bool) : R2 := fun x y H Q => match x, y with
  | .int i, .int j => Q (.bl (p i j)) H
  | _, _ => False
def qEq (K : PySem.W.Frag) (b : Bool) : R2 := fun x y H Q => match x, y with
  | .int i, .int j => Q (.bl (decide (i = j) == b)) H
  | .str i, .str j => Q (.bl (decide (i = j) == b)) H
  | .bl i, .bl j => Q (.bl (decide (i = j) == b)) H
  | .ref p, .ref q => ∃ d e, Dp K H (.ref p) d ∧ Dp K H (.ref q) e ∧ SeqAt.shaped d = true ∧ SeqAt.shaped e = true ∧ Q (.bl (PyData.eqv d e == b)) H
  | x, y => scal x y = true ∧ Q (.bl (decide (x = y) == b)) H
def qIsN (b : Bool) : R2 := fun x y H Q => match y with
  | .non => (match x with
    | .non => Q (.bl b) H
    | .int _ => Q (.bl (!b)) H
    | .str _ => Q (.bl (!b)) H
    | .bl _ => Q (.bl (!b)) H
    | .ref _ => Q (.bl (!b)) H
    | x => Q (.bl (decide (x = .non) == b)) H)
  | _ => False
/-- a text of one sign in a text -/
def qInS (b : Bool) : R2 := fun x y H Q => match x, y with
  | .str c, .str z => (match c.cps.toList with
    | [n] => Q (.bl (decide (n ∈ z.cps.toList) == b)) H
    | _ => False)
  | _, _ => False
/-- flat things in a list or tuple -/
def qInT (K : PySem.W.Frag) (b : Bool) : R2 := fun x y H Q => match y with
  | .ref p => (∃ xs, (SqL K H p xs ∨ SqT K H p xs) ∧ flatV x = true ∧ xs.all flatV = true ∧ Q (.bl (inV x xs == b)) H)
  | _ => False
/-- an item by its place -/
def qIx : R2 := fun x y H Q => match x, y with
  | .str z, .int i => (match atI z.cps.toList i with
    | some c => z.length ≤ sizeLine ∧ Q (.str ⟨#[c]⟩) H
    | none => False)
  | .ref a, .int i => (match seqOf (H a) with
    | some xs => (match atI xs i with
      | some v => Q v H
      | none => False)
    | none => False)
  | _, _ => False
section
variable {X : Cx} {pos : Pos} {a b e : Expr} {x : Str} {ta tb te : TE}
theorem xv (i : Nat) (hN : X.N[i]? = some x := by rfl) (hv : Vis X.env.scope x := by first | exact Or.inl rfl | exact Or.inr (Or.inl rfl) | exact Or.inr (Or.inr rfl)) (hd : (x == ("__debug__" : Str)) = false := by decide)
    (hcd : (x == ("__classdict__" : Str)) = false := by decide) : PE X (.Name x pos) (qVar i) := pe_imp (pe_var hN hv hd hcd) fun σ H Q h => by
  unfold qVar at h
  split at h
  · next v e => exact ⟨v, e, h⟩
  · exact h.elim
theorem yadd : OpR X (binaryOp .Add) qAdd := op_imp (OpR.or op_add (OpR.or op_add_str (OpR.or op_cat op_catA))) fun x y H Q h => by
  unfold qAdd at h
  split at h
  · exact .inl ⟨_, _, rfl, rfl, h⟩
  · exact .inr (.inl ⟨_, _, rfl, rfl, h⟩)
  · split at h
    · next e1 e2 => exact .inr (.inr (.inl ⟨_, _, _, _, rfl, rfl, e1, e2, h⟩))
    · next e1 e2 => exact .inr (.inr (.inr ⟨_, _, _, _, rfl, rfl, .inl (.inl e1), .inl (.inl e2), h⟩))
    · exact h.elim
  · exact h.elim
theorem ysub : OpR X (binaryOp .Sub) qSub := op_imp op_sub fun x y H Q h => by
  unfold qSub at h
  split at h
  · exact ⟨_, _, rfl, rfl, h⟩
  · exact h.elim
theorem ymul : OpR X (binaryOp .Mult) qMul := op_imp op_mul fun x y H Q h => by
  unfold qMul at h
  split at h
  · exact ⟨_, _, rfl, rfl, h⟩
  · exact h.elim
theorem ymod : OpR X (binaryOp .Mod) qMod := op_imp op_mod fun x y H Q h => by
  unfold qMod at h
  split at h
  · exact ⟨_, _, rfl, rfl, h⟩
  · exact h.elim
theorem ydiv : OpR X (binaryOp .FloorDiv) qDiv := op_imp op_fdiv fun x y H Q h => by
  unfold qDiv at h
  split at h
  · exact ⟨_, _, rfl, rfl, h⟩
  · exact h.elim
theorem ypow : OpR X (binaryOp .Pow) qPow := op_imp op_pow fun x y H Q h => by
  unfold qPow at h
  split at h
  · exact ⟨_, _, rfl, rfl, h⟩
  · exact h.elim
theorem ycmp {op : CmpOp} {p : Int → Int → Bool} (h0 : OpR X (compareOp op) (rI0 fun i j => .bl (p i j))) : OpR X (compareOp op) (qCmpI p) := op_imp h0 fun x y H Q h => by
  unfold qCmpI at h
  split at h
  · exact ⟨_, _, rfl, rfl, h⟩
  · exact h.elim
theorem ylt : OpR X (compareOp .Lt) (qCmpI fun i j => decide (i < j)) := ycmp op_lt
theorem yle : OpR X (compareOp .LtE) (qCmpI fun i j => decide (i ≤ j)) := ycmp op_le
theorem ygt : OpR X (compareOp .Gt) (qCmpI fun i j => decide (j < i)) := ycmp op_gt
theorem yge : OpR X (compareOp .GtE) (qCmpI fun i j => decide (j ≤ i)) := ycmp op_ge
theorem eqb_t (b : Bool) : (b == true) = b := by cases b <;> rfl
theorem eqb_f (b : Bool) : (b == false) = !b := by cases b <;> rfl
theorem vint_eq (i j : Int) : decide (V.int i = V.int j) = decide (i = j) := by simp only [V.int.injEq]
theorem vstr_eq (i j : Str) : decide (V.str i = V.str j) = decide (i = j) := by simp only [V.str.injEq]
theorem vbl_eq (i j : Bool) : decide (V.bl i = V.bl j) = decide (i = j) := by simp only [V.bl.injEq]
theorem yeq {K : PySem.W.Frag} (hu : X.A.units + 64 < cLine := by assumption) (hK : X.K = K := by rfl) : OpR X (compareOp .Eq) (qEq K true) := hK ▸ op_imp (OpR.or op_eq (op_eqD hu)) fun x y H Q h => by
  unfold qEq at h
  simp only [eqb_t] at h
  split at h
  · exact .inl ⟨rfl, by rw [vint_eq]; exact h⟩
  · exact .inl ⟨rfl, by rw [vstr_eq]; exact h⟩
  · exact .inl ⟨rfl, by rw [vbl_eq]; exact h⟩
  · obtain ⟨d, e, h1, h2, h3, h4, h5⟩ := h
    exact .inr ⟨d, e, h1, h2, h3, h4, h5⟩
  · exact .inl h
theorem yne {K : PySem.W.Frag} (hu : X.A.units + 64 < cLine := by assumption) (hK : X.K = K := by rfl) : OpR X (compareOp .NotEq) (qEq K false) := hK ▸ op_imp (OpR.or op_ne (op_neD hu)) fun x y H Q h => by
  unfold qEq at h
  simp only [eqb_f] at h
  split at h
  · exact .inl ⟨rfl, by rw [vint_eq]; exact h⟩
  · exact .inl ⟨rfl, by rw [vstr_eq]; exact h⟩
  · exact .inl ⟨rfl, by rw [vbl_eq]; exact h⟩
  · obtain ⟨d, e, h1, h2, h3, h4, h5⟩ := h
    exact .inr ⟨d, e, h1, h2, h3, h4, h5⟩
  · exact .inl h
theorem yis : OpR X (compareOp .Is) (qIsN true) := op_imp op_isN fun x y H Q h => by
  unfold qIsN at h
  split at h
  · refine ⟨rfl, ?_⟩
    split at h
    · exact h
    · exact h
    · exact h
    · exact h
    · exact h
    · simp only [eqb_t] at h; exact h
  · exact h.elim
theorem yisn : OpR X (compareOp .IsNot) (qIsN false) := op_imp op_notN fun x y H Q h => by
  unfold qIsN at h
  split at h
  · refine ⟨rfl, ?_⟩
    split at h
    · exact h
    · exact h
    · exact h
    · exact h
    · exact h
    · simp only [eqb_f] at h; exact h
  · exact h.elim
theorem str_of_list {c : Str} {l : List Nat} (e : c.cps.toList = l) : c = ⟨l.toArray⟩ := by
  cases c
  subst e
  rfl
theorem yins : OpR X (compareOp .In) (qInS true) := op_imp op_in_sign fun x y H Q h => by
  unfold qInS at h
  split at h
  · split at h
    · next c z n e =>
      simp only [eqb_t] at h
      exact ⟨n, _, congrArg V.str (str_of_list e), rfl, h⟩
    · exact h.elim
  · exact h.elim
theorem ynins : OpR X (compareOp .NotIn) (qInS false) := op_imp op_notIn_sign fun x y H Q h => by
  unfold qInS at h
  split at h
  · split at h
    · next c z n e =>
      simp only [eqb_f] at h
      exact ⟨n, _, congrArg V.str (str_of_list e), rfl, h⟩
    · exact h.elim
  · exact h.elim
theorem yint {K : PySem.W.Frag} (hK : X.K = K := by rfl) : OpR X (compareOp .In) (qInT K true) := hK ▸ op_imp op_in_seq fun x y H Q h => by
  unfold qInT at h
  split at h
  · obtain ⟨xs, h1, h2, h3, q⟩ := h
    refine ⟨_, xs, rfl, h1, h2, h3, ?_⟩
    simp only [eqb_t] at q
    exact q
  · exact h.elim
theorem ynint {K : PySem.W.Frag} (hK : X.K = K := by rfl) : OpR X (compareOp .NotIn) (qInT K false) := hK ▸ op_imp op_notIn_seq fun x y H Q h => by
  unfold qInT at h
  split at h
  · obtain ⟨xs, h1, h2, h3, q⟩ := h
    refine ⟨_, xs, rfl, h1, h2, h3, ?_⟩
    simp only [eqb_f] at q
    exact q
  · exact h.elim
theorem yix : IxR X qIx := ix_imp ix_seq fun x y H Q h => by
  unfold qIx at h
  split at h
  · split at h
    · next e => exact .inr (.inr ⟨_, _, _, rfl, rfl, h.1, e, h.2⟩)
    · exact h.elim
  · split at h
    · next xs e =>
      split at h
      · next v e2 =>
        rcases seq_sq (K := X.K) e with s | s
        · exact .inl ⟨_, xs, _, v, rfl, rfl, s, e2, h⟩
        · exact .inr (.inl ⟨_, xs, _, v, rfl, rfl, s, e2, h⟩)
      · exact h.elim
    · exact h.elim
  · exact h.elim
/-! tests -/
def asB (x : V) (F : Bool → Prop) : Prop := match x with
  | .bl k => F k
  | _ => False
def qT (t : TE) : TT := fun σ H Q => t σ H fun x H' => asB x fun k => Q k H'
theorem xt {op : CmpOp} {r : R2} (ho : OpR X (compareOp op) r) (ha : PE X a ta) (hb : PE X b tb) (hm : behindInMarks op b = false) : PT X (.Compare a [op] [b] pos) (qT (tOp r ta tb)) := by
  refine ⟨fun pins s σ H Q I h => ?_⟩
  refine wpAny_isTrue_Compare1 (thn (ha.run pins s σ H _ I h) fun v s1 ⟨x, H1, I1, r1, q1⟩ => thn (hb.run pins s1 σ H1 _ I1 q1) fun u s2 ⟨y, H2, I2, r2, q2⟩ =>
    thn (ho pins s2 σ H2 x y v u _ I2 r1 r2 q2) fun c s3 ⟨z, H3, I3, r3, q3⟩ => ?_) hm
  cases z with
  | bl k =>
    cases r3
    exact wpAny_truthy_bool ⟨H3, I3, q3⟩
  | _ => exact False.elim q3
theorem xtv (he : PE X e te) (ht : ∀ whole, isTrue e X.env whole = (do let v ← whole; standAt e.pos; holding [v] (truthy v)) := by intro _; rfl) : PT X e (qT te) := by
  refine ⟨fun pins s σ H Q I h => ?_⟩
  refine isTrue_plain (thn (he.run pins s σ H _ I h) fun v s1 ⟨x, H1, I1, r1, q1⟩ => ?_) (ht _)
  cases x with
  | bl k =>
    cases r1
    exact wpAny_truthy_bool ⟨H1, I1, q1⟩
  | _ => exact False.elim q1
end
end Fk
/-! ### Fk2: calls, fields, statements, loops as functions of slots and heap -/
namespace Fk
open PySem PySem.Spec PyProof.Rows L2
/-! built-in calls -/
def qLen : List V → Hp → VK → Prop := fun xs H Q => match xs with
  | [.str z] => z.length ≤ sizeLine ∧ Q (.int z.length) H
  | [.ref p] => (match seqOf (H p) with
    | some ys => Q (.int ys.length) H
    | none => False)
  | _ => False
def qAbs : List V → Hp → VK → Prop := fun xs H Q => match xs with
  | [.int i] => Q (.int (if i < 0 then -i else i)) H
  | _ => False
def qMax2 : List V → Hp → VK → Prop := fun xs H Q => match xs with
  | [.int i, .int j] => Q (.int (if j > i then j else i)) H
  | _ => False
def qMin2 : List V → Hp → VK → Prop := fun xs H Q => match xs with
  | [.int i, .int j] => Q (.int (if j < i then j else i)) H
  | _ => False
def qInt : List V → Hp → VK → Prop := fun xs H Q => match xs with
  | [.int i] => Q (.int i) H
  | [.bl k] => Q (.int (if k then 1 else 0)) H
  | [.str a] => (match PySem.intText? a with
    | some n => a.length ≤ 640 ∧ Q (.int n) H
    | none => False)
  | _ => False
def qStrC : List V → Hp → VK → Prop := fun xs H Q => match xs with
  | [.int i] => i.natAbs.log2 < 1920 ∧ Q (.str (toString i)) H
  | [.str a] => Q (.str a) H
  | _ => False
def qList : List V → Hp → VK → Prop := fun xs H Q => match xs with
  | [.ref p] => (match seqOf (H p) with
    | some ys => ∀ l, H l = none → Q (.ref l) (upd H l (.lst ys))
    | none => False)
  | _ => False
def tupleAs (o : Option HO) (F : List V → Prop) (G : Prop) : Prop := match lstOf o with
  | some ys => F ys
  | none => (match tupOf o with
    | some _ => G
    | none => False)
def qTuple : List V → Hp → VK → Prop := fun xs H Q => match xs with
  | [.ref p] => tupleAs (H p) (fun ys => ∀ l, H l = none → Q (.ref l) (upd H l (.tup ys))) (Q (.ref p) H)
  | _ => False
def qDivmod : List V → Hp → VK → Prop := fun xs H Q => match xs with
  | [.int i, .int j] => (0 < j ∧ j < 1073741824) ∧ ∀ p, H p = none → Q (.ref p) (upd H p (.tup [.int (i / j), .int (i % j)]))
  | _ => False
def blsOf : List V → Option (List Bool)
  | [] => some []
  | .bl b :: r => (blsOf r).map (b :: ·)
  | _ :: _ => none
theorem blsOf_eq : ∀ {xs : List V} {bs : List Bool}, blsOf xs = some bs → xs = bs.map V.bl
  | [], bs, h => by cases h; rfl
  | x :: r, bs, h => by
    cases x with
    | bl b =>
      have h' : (blsOf r).map (b :: ·) = some bs := h
      cases e : blsOf r with
      | none => rw [e] at h'; cases h'
      | some cs =>
        rw [e] at h'
        cases h'
        rw [List.map_cons, ← blsOf_eq e]
    | _ => exact absurd h (by intro z; cases z)
theorem blsOf_map : ∀ bs : List Bool, blsOf (bs.map V.bl) = some bs
  | [] => rfl
  | b :: r => by
    show (blsOf (r.map V.bl)).map (b :: ·) = _
    rw [blsOf_map r]
    rfl
def qAll : List V → Hp → VK → Prop := fun xs H Q => match xs with
  | [.ref p] => (match lstOf (H p) with
    | some ys => (match blsOf ys with
      | some bs => Q (.bl (bs.all id)) H
      | none => False)
    | none => False)
  | _ => False
def qAny : List V → Hp → VK → Prop := fun xs H Q => match xs with
  | [.ref p] => (match lstOf (H p) with
    | some ys => (match blsOf ys with
      | some bs => Q (.bl (bs.any id)) H
      | none => False)
    | none => False)
  | _ => False
section
variable {X : Cx} {pos apos cpos : Pos} {a b e o : Expr} {es : List Expr} {x m f : Str} {ta tb te to tv : TE} {t : TA} {C : Addr}
theorem ylen : CallR X (.builtin "len") qLen := ca_imp (CallR.or call_len_str call_len_seq) fun xs H Q h => by
  unfold qLen at h
  split at h
  · exact .inl ⟨_, rfl, h⟩
  · split at h
    · next e => exact .inr ⟨_, _, rfl, seq_sq e, h⟩
    · exact h.elim
  · exact h.elim
theorem yabs : CallR X (.builtin "abs") qAbs := ca_imp call_abs fun xs H Q h => by
  unfold qAbs at h
  split at h
  · exact ⟨_, rfl, h⟩
  · exact h.elim
theorem ymax (hc : X.calm = true := by rfl) : CallR X (.builtin "max") qMax2 := ca_imp (call_max2 hc) fun xs H Q h => by
  unfold qMax2 at h
  split at h
  · exact ⟨_, _, rfl, h⟩
  · exact h.elim
theorem ymin (hc : X.calm = true := by rfl) : CallR X (.builtin "min") qMin2 := ca_imp (call_min2 hc) fun xs H Q h => by
  unfold qMin2 at h
  split at h
  · exact ⟨_, _, rfl, h⟩
  · exact h.elim
theorem yintc : CallR X (.type "int") qInt := ca_imp (CallR.or call_int1 call_int_str) fun xs H Q h => by
  unfold qInt at h
  split at h
  · exact .inl (.inl ⟨_, rfl, h⟩)
  · exact .inl (.inr ⟨_, rfl, h⟩)
  · split at h
    · next e => exact .inr ⟨_, _, rfl, e, h⟩
    · exact h.elim
  · exact h.elim
theorem ystrc : CallR X (.type "str") qStrC := ca_imp (CallR.or call_str_int SkE.call_str_str) fun xs H Q h => by
  unfold qStrC at h
  split at h
  · exact .inl ⟨_, rfl, h⟩
  · exact .inr ⟨_, rfl, h⟩
  · exact h.elim
theorem ylist : CallR X (.type "list") qList := ca_imp call_list_of fun xs H Q h => by
  unfold qList at h
  split at h
  · split at h
    · next e => exact ⟨_, _, rfl, seq_sq e, h⟩
    · exact h.elim
  · exact h.elim
theorem ytuple : CallR X (.type "tuple") qTuple := ca_imp call_tuple_of fun xs H Q h => by
  unfold qTuple at h
  split at h
  · unfold tupleAs at h
    split at h
    · next e => exact ⟨_, _, rfl, .inl ⟨lst_sq e, h⟩⟩
    · split at h
      · next e => exact ⟨_, _, rfl, .inr ⟨tup_sq e, h⟩⟩
      · exact h.elim
  · exact h.elim
theorem ydivmod : CallR X (.builtin "divmod") qDivmod := ca_imp call_divmod fun xs H Q h => by
  unfold qDivmod at h
  split at h
  · exact ⟨_, _, rfl, h.1, h.2⟩
  · exact h.elim
theorem yall (hc : X.calm = true := by rfl) : CallR X (.builtin "all") qAll := ca_imp (cr_all hc) fun xs H Q h => by
  unfold qAll at h
  split at h
  · split at h
    · next e =>
      split at h
      · next e2 =>
        have e3 := blsOf_eq e2
        subst e3
        exact ⟨_, _, rfl, lst_sq e, h⟩
      · exact h.elim
    · exact h.elim
  · exact h.elim
theorem yany (hc : X.calm = true := by rfl) : CallR X (.builtin "any") qAny := ca_imp (cr_any hc) fun xs H Q h => by
  unfold qAny at h
  split at h
  · split at h
    · next e =>
      split at h
      · next e2 =>
        have e3 := blsOf_eq e2
        subst e3
        exact ⟨_, _, rfl, lst_sq e, h⟩
      · exact h.elim
    · exact h.elim
  · exact h.elim
/-! methods of lists -/
def isLst : Option HO → Bool
  | some (.lst _) => true
  | _ => false
def qApp (to te : TE) : TE := fun σ H Q => to σ H fun x H1 => match x with
  | .ref l => isLst (H1 l) = true ∧ te σ H1 fun y H2 => (match H2 l with
    | some (.lst xs) => xs.length < sizeLine ∧ Q .non (upd H2 l (.lst (xs ++ [y])))
    | _ => False)
  | _ => False
def qExt (to te : TE) : TE := fun σ H Q => to σ H fun x H1 => match x with
  | .ref l => isLst (H1 l) = true ∧ te σ H1 fun y H2 => (match y with
    | .ref b => (match H2 l, H2 b with
      | some (.lst xs), some (.lst ys) => xs.length + ys.length ≤ sizeLine ∧ Q .non (upd H2 l (.lst (xs ++ ys)))
      | _, _ => False)
    | _ => False)
  | _ => False
def qPop (to : TE) : TE := fun σ H Q => to σ H fun x H1 => match x with
  | .ref l => (match H1 l with
    | some (.lst xs) => (match xs[xs.length - 1]? with
      | some y => Q y (upd H1 l (.lst xs.dropLast))
      | none => False)
    | _ => False)
  | _ => False
theorem isLst_ex {o : Option HO} (h : isLst o = true) : ∃ xs, o = some (.lst xs) := by
  unfold isLst at h
  split at h
  · exact ⟨_, rfl⟩
  · cases h
/-- a reading closed upward -/
def up (t : TE) : TE := fun σ H Q => ∃ Q0 : VK, t σ H Q0 ∧ ∀ v H', Q0 v H' → Q v H'
def upA (t : TA) : TA := fun σ H Q => ∃ Q0 : List V → Hp → Prop, t σ H Q0 ∧ ∀ v H', Q0 v H' → Q v H'
def upT (t : TT) : TT := fun σ H Q => ∃ Q0 : Bool → Hp → Prop, t σ H Q0 ∧ ∀ v H', Q0 v H' → Q v H'
theorem pe_up (h : PE X e te) : PE X e (up te) := ⟨fun pins s σ H Q I q => by
  obtain ⟨Q0, q0, q1⟩ := q
  exact thn (h.run pins s σ H Q0 I q0) fun u s' ⟨v, H', I', r, z⟩ => ⟨v, H', I', r, q1 v H' z⟩⟩
theorem pa_up (h : PA X es t) : PA X es (upA t) := ⟨fun pos pins s σ H Q I q => by
  obtain ⟨Q0, q0, q1⟩ := q
  exact thn (h.run pos pins s σ H Q0 I q0) fun u s' ⟨v, H', I', r, z⟩ => ⟨v, H', I', r, q1 v H' z⟩⟩
theorem pt_up {tt : TT} (h : PT X e tt) : PT X e (upT tt) := ⟨fun pins s σ H Q I q => by
  obtain ⟨Q0, q0, q1⟩ := q
  exact thn (h.run pins s σ H Q0 I q0) fun u s' ⟨H', I', z⟩ => ⟨H', I', q1 u H' z⟩⟩
theorem up_of {σ : L2.St} {H : Hp} {Q Q0 : VK} (h : te σ H Q0) (i : ∀ v H', Q0 v H' → Q v H') : up te σ H Q := ⟨Q0, h, i⟩
theorem xapp (ho : PE X o to) (he : PE X e te) (hbase : attributeBase o "append" X.env (eval o X.env) = eval o X.env := by rfl)
    (hfew : ((backTo cpos (starEach [e] X.env)).all (fun x => !x.1) && (backToKw cpos (keywordEach [] X.env)).all (fun x => x.1.isSome)
      && decide (([e] : List Expr).length + ([] : List Keyword).length + (if ([] : List Keyword).isEmpty then 0 else 1) < 30)) = true := by rfl)
    (hline : (apos.endLine == cpos.line) = true := by rfl) (hs : starEach [e] X.env = (false, eval e X.env) :: starEach [] X.env := by rfl) (hplain : (backTo cpos (starEach [] X.env)).any (·.1) = false := by rfl) :
    PE X (.Call (.Attribute o "append" apos) [e] [] cpos) (qApp to te) :=
  pe_imp (pe_bm PySem.F.plainAttrs_list PySem.F.slot_list_append PySem.F.type_list_append mt_append (pe_up ho) (pa_cons (pe_up he) pa_nil hs) hbase hfew hline hs hplain) fun σ H Q h => by
    refine up_of h fun x H1 q => ?_
    split at q
    · obtain ⟨q1, q2⟩ := q
      obtain ⟨ys, hy⟩ := isLst_ex q1
      refine ⟨.inl ⟨rfl, ys, .inl (.inl hy)⟩, up_of q2 fun y H2 z => ?_⟩
      split at z
      · next e2 => exact ⟨_, _, y, rfl, rfl, e2, z.1, z.2⟩
      · exact z.elim
    · exact q.elim
theorem xext (ho : PE X o to) (he : PE X e te) (hbase : attributeBase o "extend" X.env (eval o X.env) = eval o X.env := by rfl)
    (hfew : ((backTo cpos (starEach [e] X.env)).all (fun x => !x.1) && (backToKw cpos (keywordEach [] X.env)).all (fun x => x.1.isSome)
      && decide (([e] : List Expr).length + ([] : List Keyword).length + (if ([] : List Keyword).isEmpty then 0 else 1) < 30)) = true := by rfl)
    (hline : (apos.endLine == cpos.line) = true := by rfl) (hs : starEach [e] X.env = (false, eval e X.env) :: starEach [] X.env := by rfl) (hplain : (backTo cpos (starEach [] X.env)).any (·.1) = false := by rfl) :
    PE X (.Call (.Attribute o "extend" apos) [e] [] cpos) (qExt to te) :=
  pe_imp (pe_bm PySem.F.plainAttrs_list PySem.F.slot_list_extend PySem.F.type_list_extend mt_extend (pe_up ho) (pa_cons (pe_up he) pa_nil hs) hbase hfew hline hs hplain) fun σ H Q h => by
    refine up_of h fun x H1 q => ?_
    split at q
    · obtain ⟨q1, q2⟩ := q
      obtain ⟨ys, hy⟩ := isLst_ex q1
      refine ⟨.inl ⟨rfl, ys, .inl (.inl hy)⟩, up_of q2 fun y H2 z => ?_⟩
      split at z
      · split at z
        · next e2 e3 => exact ⟨_, _, _, _, rfl, rfl, e2, e3, z.1, z.2⟩
        · exact z.elim
      · exact z.elim
    · exact q.elim
theorem xpop (ho : PE X o to) (hbase : attributeBase o "pop" X.env (eval o X.env) = eval o X.env := by rfl) (hline : (apos.endLine == cpos.line) = true := by rfl) :
    PE X (.Call (.Attribute o "pop" apos) [] [] cpos) (qPop to) :=
  pe_imp (pe_bm0 PySem.F.plainAttrs_list PySem.F.slot_list_pop PySem.F.type_list_pop mt_pop (pe_up ho) hbase hline) fun σ H Q h => by
    refine up_of h fun x H1 q => ?_
    split at q
    · split at q
      · next e1 =>
        split at q
        · next e2 => exact ⟨.inl ⟨rfl, _, .inl (.inl e1)⟩, _, _, _, rfl, rfl, e1, e2, q⟩
        · exact q.elim
      · exact q.elim
    · exact q.elim
/-! fields -/
def qFld (C : Addr) (f : Str) (to : TE) : TE := fun σ H Q => to σ H fun x H1 => match x with
  | .ref a => (match H1 a with
    | some (.ins C' _ fs) => C' = C ∧ (match fs.lookup f with
      | some v => Q v H1
      | none => False)
    | _ => False)
  | _ => False
def qSetF (C : Addr) (f : Str) (to tv : TE) : TS := fun D σ H => tv σ H fun y H1 => to σ H1 fun x H2 => match x with
  | .ref a => (match H2 a with
    | some (.ins C' dx fs) => C' = C ∧ fs.length < 1000 ∧ D.nx σ (upd H2 a (.ins C dx (putF f y fs)))
    | _ => False)
  | _ => False
def qAugF (C : Addr) (f : Str) (to tv : TE) (r : R2) : TS := fun D σ H => to σ H fun x H1 => match x with
  | .ref a => (match H1 a with
    | some (.ins C' _ fs) => C' = C ∧ (match fs.lookup f with
      | some v => tv σ H1 fun y H2 => r v y H2 fun z H3 => (match H3 a with
        | some (.ins C'' dx' fs') => C'' = C ∧ fs'.length < 1000 ∧ D.nx σ (upd H3 a (.ins C dx' (putF f z fs')))
        | _ => False)
      | none => False)
    | _ => False)
  | _ => False
theorem xfld (c : Cls X.K C) (n : NoAttr X.K C f) (ho : PE X o to) (hb : attributeBase o f X.env (eval o X.env) = eval o X.env := by rfl) : PE X (.Attribute o f pos) (qFld C f to) :=
  pe_imp (pe_fld (pe_up ho) hb) fun σ H Q h => up_of h fun x H1 q => by
    split at q
    · split at q
      · next e1 =>
        obtain ⟨rfl, q⟩ := q
        split at q
        · next e2 => exact ⟨_, _, _, _, _, rfl, e1, c, n, e2, q⟩
        · exact q.elim
      · exact q.elim
    · exact q.elim
theorem xsetf {value : Expr} {pos' : Pos} (c : Cls X.K C) (n : NoAttr X.K C f) (ho : PE X o to) (hv : PE X value tv) (hs : swapsWith value (some (.Attribute o f pos')) pos.line X.env = pure false := by rfl) : PS X (.Assign [.Attribute o f pos'] value pos) (qSetF C f to tv) :=
  ps_imp (ps_fld (pe_up ho) (pe_up hv) hs) fun D σ H h => up_of h fun y H1 q => up_of q fun x H2 q => by
    split at q
    · split at q
      · next e1 =>
        obtain ⟨rfl, l, q⟩ := q
        exact ⟨_, _, _, _, rfl, e1, c, n, l, q⟩
      · exact q.elim
    · exact q.elim
/-- an operator's reading closed upward -/
def upR (r : R2) : R2 := fun x y H Q => ∃ Q0 : VK, r x y H Q0 ∧ ∀ v H', Q0 v H' → Q v H'
theorem in_up {op : Operator} {r : R2} (h : OpR X (inplaceOp op) r) : InOp X op (upR r) := fun pins s σ H x y u v Q I rx ry q => by
  obtain ⟨Q0, q0, q1⟩ := q
  exact thn (h pins s σ H x y u v Q0 I rx ry q0) fun u s' ⟨v, H', I', r, z⟩ => ⟨v, H', I', r, q1 v H' z⟩
theorem xaugf {value : Expr} {tpos : Pos} {op : Operator} {r : R2} (c : Cls X.K C) (n : NoAttr X.K C f) (ho : PE X o to) (hv : PE X value tv) (hop : OpR X (inplaceOp op) r) : PS X (.AugAssign (.Attribute o f tpos) op value pos) (qAugF C f to tv r) :=
  ps_imp (ps_fldaug (pe_up ho) (pe_up hv) (in_up hop)) fun D σ H h => up_of h fun x H1 q => by
    split at q
    · split at q
      · next e1 =>
        obtain ⟨rfl, q⟩ := q
        split at q
        · next e2 =>
          refine ⟨_, _, _, _, _, rfl, e1, c, n, e2, up_of q fun y H2 q2 => ⟨_, q2, fun z H3 q3 => ?_⟩⟩
          split at q3
          · next e3 =>
            obtain ⟨rfl, l, q3⟩ := q3
            exact ⟨_, _, e3, l, q3⟩
          · exact q3.elim
        · exact q.elim
      · exact q.elim
    · exact q.elim
/-! in-place operators on names -/
def qIAdd : R2 := fun x y H Q => match x, y with
  | .int i, .int j => Q (.int (i + j)) H
  | .str a, .str b => a.length + b.length ≤ sizeLine ∧ Q (.str (a ++ b)) H
  | _, _ => False
def qAug (i : Nat) (te : TE) (r : R2) : TS := fun D σ H => match σ[i]? with
  | some (some x) => te σ H fun y H1 => r x y H1 fun z H2 => D.nx (σ.set i (some z)) H2
  | _ => False
theorem yiadd : OpR X (inplaceOp .Add) qIAdd := op_imp (OpR.or iop_add iop_add_str) fun x y H Q h => by
  unfold qIAdd at h
  split at h
  · exact .inl ⟨_, _, rfl, rfl, h⟩
  · exact .inr ⟨_, _, rfl, rfl, h⟩
  · exact h.elim
theorem yisub : OpR X (inplaceOp .Sub) qSub := op_imp iop_sub fun x y H Q h => by
  unfold qSub at h
  split at h
  · exact ⟨_, _, rfl, rfl, h⟩
  · exact h.elim
theorem xaug {i : Nat} {op : Operator} {r : R2} {pos' : Pos} (hN : X.N.Nodup) (hi : X.N[i]? = some x) (hx : Loc X.env.scope x) (he : PE X e te) (ho : OpR X (inplaceOp op) r) (hf : X.fn x = true ∨ X.env.scope.names.lookup x = some .local := by first | exact .inl rfl | exact .inr rfl | assumption) :
    PS X (.AugAssign (.Name x pos') op e pos) (qAug i te r) := ps_imp (ps_aug hN hi hx he ho hf) fun D σ H h => by
  unfold qAug at h
  split at h
  · next e1 => exact ⟨_, e1, h⟩
  · exact h.elim
/-! targets -/
theorem pg_imp {tg : Expr} {t t' : TG} (h : PG X tg t) (hi : ∀ v σ H Q, t' v σ H Q → t v σ H Q) : PG X tg t' := ⟨fun pins s σ H v u Q I r q => h.run pins s σ H v u Q I r (hi _ _ _ _ q)⟩
theorem pgs_imp {tg : List Expr} {t t' : TGs} (h : PGs X tg t) (hi : ∀ v σ H Q, t' v σ H Q → t v σ H Q) : PGs X tg t' := ⟨fun pins s σ H v u Q I r q => h.run pins s σ H v u Q I r (hi _ _ _ _ q)⟩
def qgTup (n : Nat) (t : TGs) : TG := fun v σ H Q => match v with
  | .ref a => (match tupOf (H a) with
    | some xs => xs.length = n ∧ t xs σ H Q
    | none => False)
  | _ => False
def qgCons (t : TG) (u : TGs) : TGs := fun vs σ H Q => match vs with
  | v :: r => t v σ H fun σ' H' => u r σ' H' Q
  | [] => False
def qgNil : TGs := fun vs σ H Q => match vs with
  | [] => Q σ H
  | _ => False
theorem xgnil : PGs X [] qgNil := pgs_imp pgs_nil fun v σ H Q h => by
  unfold qgNil at h
  split at h
  · exact ⟨rfl, h⟩
  · exact h.elim
theorem xgcons {tg : Expr} {ts : List Expr} {g : TG} {u : TGs} (h1 : PG X tg g) (h2 : PGs X ts u) (hs : (assignEach (tg :: ts) X.env).map (·.2) = assign tg X.env :: (assignEach ts X.env).map (·.2) := by rfl) : PGs X (tg :: ts) (qgCons g u) := pgs_imp (pgs_cons h1 h2 hs) fun v σ H Q h => by
  unfold qgCons at h
  split at h
  · exact ⟨_, _, rfl, h⟩
  · exact h.elim
theorem xgtup {ts : List Expr} {k : Nat} {u : TGs} {n : Nat} (h : PGs X ts u) (hc : X.calm = true := by rfl) (hn : (assignEach ts X.env).length = n := by rfl) (hst : (assignEach ts X.env).findIdx? (·.1) = none := by rfl) : PG X (.Tuple ts k pos) (qgTup n u) :=
  pg_imp (pg_tup hc h hn hst) fun v σ H Q q => by
    unfold qgTup at q
    split at q
    · split at q
      · next e => exact ⟨_, _, rfl, tup_sq e, q.1, q.2⟩
      · exact q.elim
    · exact q.elim
def qSetL : TSet := fun o i v H Q => match o, i with
  | .ref p, .int k => (match H p with
    | some (.lst xs) => (match ixN xs.length k with
      | some j => Q (upd H p (.lst (xs.set j v)))
      | none => False)
    | _ => False)
  | _, _ => False
theorem ysetl : PSet X qSetL := fun pins s σ H o i v ov iv u Q I ro ri rv h => set_list pins s σ H o i v ov iv u Q I ro ri rv (by
  unfold qSetL at h
  split at h
  · split at h
    · next e =>
      split at h
      · next e2 => exact ⟨_, _, _, _, rfl, rfl, e, e2, h⟩
      · exact h.elim
    · exact h.elim
  · exact h.elim)
/-! a, b = x, y and a, b, c = x, y, z with plain local names -/
def qPar (i j : Nat) (ta : TA) : TS := fun D σ H => ta σ H fun vs H1 => match vs with
  | [v, w] => D.nx ((σ.set i (some v)).set j (some w)) H1
  | _ => False
def qPar3 (i j l : Nat) (ta : TA) : TS := fun D σ H => ta σ H fun vs H1 => match vs with
  | [u, v, w] => D.nx (((σ.set i (some u)).set j (some v)).set l (some w)) H1
  | _ => False
theorem xpar {i j : Nat} {x y : Str} {a b : Expr} {ta : TA} {px py pt : Pos} {kt k2 pt2} (hN : X.N.Nodup) (hi : X.N[i]? = some x) (hj : X.N[j]? = some y) (hij : i ≠ j)
    (hx : X.env.scope.names.lookup x = some .local) (hy : X.env.scope.names.lookup y = some .local) (ha : PA X [a, b] ta)
    (hw : swappedStores [.Tuple [.Name x px, .Name y py] kt pt] (.Tuple [a, b] k2 pt2) X.env = pure (some [x, y]))
    (hs : swapsWithSole [.Tuple [.Name x px, .Name y py] kt pt] (.Tuple [a, b] k2 pt2) pos.line X.env = pure false := by rfl) (hc : X.calm = true := by rfl) :
    PS X (.Assign [.Tuple [.Name x px, .Name y py] kt pt] (.Tuple [a, b] k2 pt2) pos) (qPar i j ta) :=
  ps_imp (ps_par hc hN hi hj hij hx hy (pa_up ha) hw hs) fun D σ H h => ⟨_, h, fun vs H1 q => by
    split at q
    · exact ⟨_, _, rfl, q⟩
    · exact q.elim⟩
theorem xpar3 {i j l : Nat} {x y z : Str} {a b c : Expr} {ta : TA} {px py pz pt : Pos} {kt k2 pt2} (hN : X.N.Nodup) (hi : X.N[i]? = some x) (hj : X.N[j]? = some y) (hl : X.N[l]? = some z) (hij : i ≠ j) (hil : i ≠ l) (hjl : j ≠ l)
    (hx : X.env.scope.names.lookup x = some .local) (hy : X.env.scope.names.lookup y = some .local) (hz : X.env.scope.names.lookup z = some .local) (ha : PA X [a, b, c] ta)
    (hw : swappedStores [.Tuple [.Name x px, .Name y py, .Name z pz] kt pt] (.Tuple [a, b, c] k2 pt2) X.env = pure (some [x, y, z]))
    (hs : swapsWithSole [.Tuple [.Name x px, .Name y py, .Name z pz] kt pt] (.Tuple [a, b, c] k2 pt2) pos.line X.env = pure false := by rfl) (hc : X.calm = true := by rfl) :
    PS X (.Assign [.Tuple [.Name x px, .Name y py, .Name z pz] kt pt] (.Tuple [a, b, c] k2 pt2) pos) (qPar3 i j l ta) :=
  ps_imp (ps_par3 hc hN hi hj hl hij hil hjl hx hy hz (pa_up ha) hw hs) fun D σ H h => ⟨_, h, fun vs H1 q => by
    split at q
    · exact ⟨_, _, _, rfl, q⟩
    · exact q.elim⟩
/-! slices -/
def qSl (K : PySem.W.Frag) : V → Option Int → Option Int → Hp → VK → Prop := fun x lo hi H Q => match x with
  | .str z => z.length ≤ sizeLine ∧ Q (.str (cutS z lo hi)) H
  | .ref a => (∃ xs, SqL K H a xs ∧ ∀ p, H p = none → Q (.ref p) (upd H p (.lst (cutV xs lo hi)))) ∨
      (∃ xs, SqT K H a xs ∧ (HT.sIx xs.length 0 lo = 0 ∧ HT.sIx xs.length xs.length hi = xs.length → Q (.ref a) H) ∧ (¬ (HT.sIx xs.length 0 lo = 0 ∧ HT.sIx xs.length xs.length hi = xs.length) → ∀ p, H p = none → Q (.ref p) (upd H p (.tup (cutV xs lo hi)))))
  | _ => False
theorem ysl {K : PySem.W.Frag} (hK : X.K = K := by rfl) : SlR X (qSl K) := hK ▸ sl_imp (SlR.or sl_str (SlR.or sl_list sl_tupA)) fun x lo hi H Q h => by
  unfold qSl at h
  split at h
  · exact .inl ⟨_, rfl, h⟩
  · rcases h with ⟨xs, h1, h2⟩ | ⟨xs, h1, h2, h3⟩
    · exact .inr (.inl ⟨_, xs, rfl, h1, h2⟩)
    · exact .inr (.inr ⟨_, xs, rfl, h1, h2, h3⟩)
  · exact h.elim
end
end Fk
/-! ### Fk3: what is walked, loops, comprehensions -/
namespace Fk
open PySem L2
/-- what a turn is given: a value, or a new pair -/
inductive Yd where
  | one (v : V)
  | two (x y : V)
def yv : Yd → (V → Hp → Prop) → Hp → Prop
  | .one v, k, H => k v H
  | .two x y, k, H => ∀ T, H T = none → k (.ref T) (upd H T (.tup [x, y]))
abbrev TW := St → Hp → (List Yd → (Hp → Prop) → Hp → Prop) → Prop
/-- a loop over ys, while keep stays true: the word P speaks of what is left -/
def Loop (ys : List Yd) (keep : Hp → Prop) (g : TG) (tb : TS) (D : Ends) (σ : St) (H : Hp) : Prop :=
  ∃ (α : Type) (f : α → Yd) (as : List α) (P : List α → St → Hp → Prop), ys = as.map f ∧ P as σ H ∧ (∀ r σ H, P r σ H → keep H) ∧
    (∀ y r σ H, P (y :: r) σ H → yv (f y) (fun x H1 => g x σ H1 fun σ2 H2 => tb { D with nx := P r, ct := P r, bk := D.nx } σ2 H2) H) ∧ ∀ σ H, P [] σ H → D.nx σ H
def qFor (w : TW) (g : TG) (tb : TS) : TS := fun D σ H => w σ H fun ys keep H1 => Loop ys keep g tb D σ H1
/-- a comprehension over ys: acc is what is made so far, in the list at D -/
def LoopC (ys : List Yd) (keep : Hp → Prop) (g : TG) (tt : TT) (te : TE) (vs : List Nat) (σ : St) (D : Addr) (H : Hp) (Q : Hp → Prop) : Prop :=
  ∃ (α : Type) (f : α → Yd) (as : List α) (P : List α → Hp → Prop), ys = as.map f ∧ P as (upd H D (.lst [])) ∧ (∀ r H, P r H → keep H) ∧
    (∀ y r H, P (y :: r) H → yv (f y) (fun x H1 => g x (wipe σ vs) H1 fun σ2 H2 => wipe σ2 vs = wipe σ vs ∧ tt σ2 H2 fun b H3 =>
      if b = true then te σ2 H3 fun z H4 => (match H4 D with
        | some (.lst acc) => acc.length < sizeLine ∧ P r (upd H4 D (.lst (acc ++ [z])))
        | _ => False) else P r H3) H) ∧ ∀ H, P [] H → Q H
def qLc (w : TW) (g : TG) (tt : TT) (te : TE) (vs : List Nat) : TE := fun σ H Q => w σ H fun ys keep H1 => ∀ D, H1 D = none → LoopC ys keep g tt te vs σ D H1 fun H' => Q (.ref D) H'
section
variable {X : Cx}
/-- how a walk gives its things -/
structure Gives (J : It) (ys : List Yd) (G : Hp → Prop) : Prop where
  ex : ∃ Y : Nat → Hp → V → Hp → Prop, Walk J ys.length G Y ∧ ∀ (i : Nat) (y : Yd) (H : Hp) (x : V) (H' : Hp) (k : V → Hp → Prop), ys[i]? = some y → Y i H x H' → yv y k H → k x H'
structure PIW (X : Cx) (tg iter : Expr) (w : TW) : Prop where
  ex : ∃ wi : TI, PI X tg iter wi ∧ ∀ (σ : St) (H : Hp) (R : List Yd → (Hp → Prop) → Hp → Prop) (R' : It → Hp → Prop), w σ H R → (∀ J ys G H1, Gives J ys G → R ys G H1 → R' J H1) → wi σ H R'
theorem drop_one {α : Type} {l : List α} {i : Nat} (h : i < l.length) : ∃ y, l[i]? = some y ∧ l.drop i = y :: l.drop (i + 1) :=
  ⟨l[i], by simp [h], List.drop_eq_getElem_cons h⟩
theorem xfor {tg iter : Expr} {body : List Stmt} {w : TW} {g : TG} {tb : TS} {pos : Pos} (hp : PassesOwn (model X.prog X.w) X.A X.env X.xe) (hi : PIW X tg iter w) (hg : PG X tg g) (hb : PSs X body tb)
    (hc : X.calm = true := by rfl) (hs : ∀ x, foldedSetIterable iter X.env x = pure x := by intro _; rfl) : PS X (.For tg iter body [] pos) (qFor w g tb) := by
  obtain ⟨wi, h1, h2⟩ := hi.ex
  refine ps_imp (ps_for hp hc h1 hg hb hs) fun D σ H h => h2 σ H _ _ h fun J ys G H1 gv lp => ?_
  obtain ⟨Y, wk, gy⟩ := gv.ex
  obtain ⟨α, f, as, P, rfl, p0, pk, ps, pd⟩ := lp
  rw [List.length_map] at wk
  refine for_it wk (fun i σ H => P (as.drop i) σ H) (by rw [List.drop_zero]; exact p0) (fun i σ H _ p => pk _ _ _ p) (fun i x σ H H' hi p y => ?_) (fun σ H p => pd σ H (by rw [List.drop_length] at p; exact p))
  obtain ⟨z, hz, hd⟩ := drop_one hi
  rw [hd] at p
  exact gy i (f z) H x H' _ (by rw [List.getElem?_map, hz]; rfl) y (ps z _ σ H p)
/-! readings closed upward, of targets and tests -/
def upG (t : TG) : TG := fun v σ H Q => ∃ Q0 : St → Hp → Prop, t v σ H Q0 ∧ ∀ σ' H', Q0 σ' H' → Q σ' H'
theorem pg_up {tg : Expr} {t : TG} (h : PG X tg t) : PG X tg (upG t) := ⟨fun pins s σ H v u Q I r q => by
  obtain ⟨Q0, q0, q1⟩ := q
  exact thn (h.run pins s σ H v u Q0 I r q0) fun u s' ⟨σ', H', I', z⟩ => ⟨σ', H', I', q1 σ' H' z⟩⟩
theorem pts_up {es : List Expr} {t : TT} (h : PTs X es t) : PTs X es (upT t) := ⟨fun pins s σ H Q I q => by
  obtain ⟨Q0, q0, q1⟩ := q
  exact thn (h.run pins s σ H Q0 I q0) fun u s' ⟨H', I', z⟩ => ⟨H', I', q1 u H' z⟩⟩
theorem lc_conv {J : It} {ys : List Yd} {G : Hp → Prop} {g : TG} {tt : TT} {te : TE} {vs : List Nat} {σ : St} {D : Addr} {H1 : Hp} {Q : Hp → Prop} (gv : Gives J ys G) (lp : LoopC ys G g tt te vs σ D H1 Q) :
    ∃ W : Nat → Nat → Hp → Prop, (∃ m, W 0 m (upd H1 D (.lst []))) ∧ ∀ i m H, W i m H →
      (J.stop i H ∧ Q H) ∨ (J.go i H ∧ ∃ Nx : Hp → Prop, (∀ H', Nx H' → ∃ m', m' < m ∧ W (i + 1) m' H') ∧ ∀ x H', J.yld i H x H' → upG g x (wipe σ vs) H' fun σ2 H2 => wipe σ2 vs = wipe σ vs ∧ upT tt σ2 H2 fun b H3 =>
        if b = true then up te σ2 H3 fun y H4 => ∃ acc, H4 D = some (.lst acc) ∧ acc.length < sizeLine ∧ Nx (upd H4 D (.lst (acc ++ [y]))) else Nx H3) := by
  obtain ⟨Y, wk, gy⟩ := gv.ex
  obtain ⟨α, f, as, P, rfl, p0, pk, ps, pd⟩ := lp
  rw [List.length_map] at wk
  refine lc_it wk (fun i H => P (as.drop i) H) (by rw [List.drop_zero]; exact p0) (fun i H _ p => pk _ _ p) (fun i x H H' hi p y => ?_) (fun H p => pd H (by rw [List.drop_length] at p; exact p))
  obtain ⟨z, hz, hd⟩ := drop_one hi
  rw [hd] at p
  refine ⟨_, gy i (f z) H x H' _ (by rw [List.getElem?_map, hz]; rfl) y (ps z _ H p), fun σ2 H2 q => ⟨q.1, _, q.2, fun b H3 q => ?_⟩⟩
  cases b with
  | true =>
    rw [if_pos rfl] at q ⊢
    refine ⟨_, q, fun v H4 q => ?_⟩
    split at q
    · next e => exact ⟨_, e, q.1, q.2⟩
    · exact q.elim
  | false => exact q
theorem xlc {elt tg iter : Expr} {ifs : List Expr} {scope : Scope} {own : List (Str × Nat)} {pos : Pos} {w : TW} {g : TG} {tt : TT} {te : TE} (hN : X.N.Nodup) (hi : PIW X tg iter w) (ok : BlkOk X.N X.env.scope scope own)
    (hg : ∀ (s : Shared) (H : Hp) (C : Addr) (cl : List (Str × Addr)) (fp : List Addr), PG (X.blk s H scope (compEnvC scope cl C X.env) fp) tg g) (ht : ∀ (s : Shared) (H : Hp) (C : Addr) (cl : List (Str × Addr)) (fp : List Addr), PTs (X.blk s H scope (compEnvC scope cl C X.env) fp) ifs tt)
    (he : ∀ (s : Shared) (H : Hp) (C : Addr) (cl : List (Str × Addr)) (fp : List Addr), PE (X.blk s H scope (compEnvC scope cl C X.env) fp) elt te) (hc : X.calm = true := by rfl) (hs : ∀ x, foldedSetIterable iter X.env x = pure x := by intro _; rfl) :
    PE X (.ListComp elt [⟨tg, iter, ifs, 0⟩] scope pos) (qLc w g tt te (own.map (·.2))) := by
  obtain ⟨wi, h1, h2⟩ := hi.ex
  refine pe_imp (pe_lc hc hN h1 ok (fun s H C cl fp => pg_up (hg s H C cl fp)) (fun s H C cl fp => pts_up (ht s H C cl fp)) (fun s H C cl fp => pe_up (he s H C cl fp)) hs) fun σ H Q h => h2 σ H _ _ h fun J ys G H1 gv lp D hD => ?_
  exact lc_conv gv (lp D hD)
theorem xsetlc {i : Nat} {y : Str} {py : Pos} {elt tg iter : Expr} {ifs : List Expr} {scope : Scope} {own : List (Str × Nat)} {pos spos : Pos} {w : TW} {g : TG} {tt : TT} {te : TE} (hN : X.N.Nodup) (hy : X.N[i]? = some y) (hyl : X.env.scope.names.lookup y = some .local)
    (hsw : swapsWith (.ListComp elt [⟨tg, iter, ifs, 0⟩] scope pos) (some (.Name y py)) spos.line X.env = pure true) (hi : PIW X tg iter w) (ok : BlkOk X.N X.env.scope scope own)
    (hg : ∀ (s : Shared) (H : Hp) (C : Addr) (cl : List (Str × Addr)) (fp : List Addr), PG (X.blk s H scope (compEnvC scope cl C X.env) fp) tg g) (ht : ∀ (s : Shared) (H : Hp) (C : Addr) (cl : List (Str × Addr)) (fp : List Addr), PTs (X.blk s H scope (compEnvC scope cl C X.env) fp) ifs tt)
    (he : ∀ (s : Shared) (H : Hp) (C : Addr) (cl : List (Str × Addr)) (fp : List Addr), PE (X.blk s H scope (compEnvC scope cl C X.env) fp) elt te) (hc : X.calm = true := by rfl) (hs : ∀ x, foldedSetIterable iter X.env x = pure x := by intro _; rfl) :
    PS X (.Assign [.Name y py] (.ListComp elt [⟨tg, iter, ifs, 0⟩] scope pos) spos) (tAsg (qLc w g tt te (own.map (·.2))) (gName i)) := by
  obtain ⟨wi, h1, h2⟩ := hi.ex
  refine ps_imp (ps_setLc hc hN hy hyl hsw h1 ok (fun s H C cl fp => pg_up (hg s H C cl fp)) (fun s H C cl fp => pts_up (ht s H C cl fp)) (fun s H C cl fp => pe_up (he s H C cl fp)) hs) fun D' σ H h => h2 σ H _ _ h fun J ys G H1 gv lp D hD => ?_
  exact lc_conv gv (lp D hD)
/-! walks -/
def wLst (te : TE) : TW := fun σ H R => te σ H fun v H1 => match v with
  | .ref a => (match lstOf (H1 a) with
    | some xs => R (xs.map .one) (fun H => lstOf (H a) = some xs) H1
    | none => False)
  | _ => False
def wTup (te : TE) : TW := fun σ H R => te σ H fun v H1 => match v with
  | .ref a => (match tupOf (H1 a) with
    | some xs => R (xs.map .one) (fun H => tupOf (H a) = some xs) H1
    | none => False)
  | _ => False
def wStr (te : TE) : TW := fun σ H R => te σ H fun v H1 => match v with
  | .str z => R (z.cps.toList.map fun c => .one (.str ⟨#[c]⟩)) (fun _ => True) H1
  | _ => False
def upto (lo hi : Int) : List Int := (List.range (hi - lo).toNat).map fun (i : Nat) => lo + (i : Int)
def wRng1 (te : TE) : TW := fun σ H R => te σ H fun v H1 => match v with
  | .int j => -(2 ^ 62) ≤ j ∧ j < 2 ^ 62 ∧ R ((upto 0 j).map fun i => .one (.int i)) (fun _ => True) H1
  | _ => False
def wRng2 (ta tb : TE) : TW := fun σ H R => ta σ H fun x H1 => tb σ H1 fun y H2 => match x, y with
  | .int i, .int j => (-(2 ^ 62) ≤ i ∧ i < 2 ^ 62 ∧ -(2 ^ 62) ≤ j ∧ j < 2 ^ 62) ∧ R ((upto i j).map fun i => .one (.int i)) (fun _ => True) H2
  | _, _ => False
def numP : Nat → List V → List (Nat × V)
  | _, [] => []
  | n, x :: r => (n, x) :: numP (n + 1) r
def ydN (p : Nat × V) : Yd := .two (.int (p.1 : Int)) p.2
def ydP (p : V × V) : Yd := .two p.1 p.2
def wEnum (te : TE) : TW := fun σ H R => te σ H fun v H1 => match v with
  | .ref a => (match lstOf (H1 a) with
    | some xs => R ((numP 0 xs).map ydN) (fun H => lstOf (H a) = some xs) H1
    | none => False)
  | _ => False

def wZip (ta tb : TE) : TW := fun σ H R => ta σ H fun x H1 => tb σ H1 fun y H2 => match x, y with
  | .ref a, .ref b => (match lstOf (H2 a), lstOf (H2 b) with
    | some xs, some ys => R ((xs.zip ys).map ydP) (fun H => lstOf (H a) = some xs ∧ lstOf (H b) = some ys) H2
    | _, _ => False)
  | _, _ => False
def wRev (te : TE) : TW := fun σ H R => te σ H fun v H1 => match v with
  | .ref a => (match lstOf (H1 a) with
    | some xs => R (xs.reverse.map .one) (fun H => lstOf (H a) = some xs) H1
    | none => False)
  | _ => False
theorem Gives.imp {J : It} {ys : List Yd} {G G' : Hp → Prop} (h : Gives J ys G) (i : ∀ H, G' H → G H) : Gives J ys G' := by
  obtain ⟨Y, w, r⟩ := h.ex
  exact ⟨Y, ⟨fun k H hk g => w.goes k H hk (i H g), fun H g => w.stops H (i H g), fun k H x H' hk g y => w.yields k H x H' hk (i H g) y⟩, r⟩
theorem gives_list {K : PySem.W.Frag} {a : Addr} {xs : List V} : Gives (Itl K a) (xs.map .one) fun H => lstOf (H a) = some xs := by
  refine Gives.imp (G := fun H => SqL K H a xs) ⟨_, by rw [List.length_map]; exact walk_list, ?_⟩ fun H h => lst_sq h
  intro i y H x H' k hy q z
  obtain ⟨rfl, q⟩ := q
  rw [List.getElem?_map, q] at hy
  cases hy
  exact z
theorem gives_tup {K : PySem.W.Frag} {a : Addr} {xs : List V} : Gives (Itt K a) (xs.map .one) fun H => tupOf (H a) = some xs := by
  refine Gives.imp (G := fun H => SqT K H a xs) ⟨_, by rw [List.length_map]; exact walk_tup, ?_⟩ fun H h => tup_sq h
  intro i y H x H' k hy q z
  obtain ⟨rfl, q⟩ := q
  rw [List.getElem?_map, q] at hy
  cases hy
  exact z
theorem gives_str {s : Str} : Gives (Its s) (s.cps.toList.map fun c => .one (.str ⟨#[c]⟩)) fun _ => True := by
  refine ⟨_, by rw [List.length_map, Array.length_toList]; exact walk_str, ?_⟩
  intro i y H x H' k hy q z
  obtain ⟨rfl, c, hc, rfl⟩ := q
  rw [List.getElem?_map, Array.getElem?_toList, hc] at hy
  cases hy
  exact z
theorem upto_len (lo hi : Int) : (upto lo hi).length = (hi - lo).toNat := by unfold upto; rw [List.length_map, List.length_range]
theorem gives_rng {lo hi : Int} : Gives (Itr lo (hi - lo).toNat) ((upto lo hi).map fun i => .one (.int i)) fun _ => True := by
  refine ⟨_, by rw [List.length_map, upto_len]; exact walk_range, ?_⟩
  intro i y H x H' k hy q z
  obtain ⟨rfl, rfl⟩ := q
  unfold upto at hy
  rw [List.map_map, List.getElem?_map] at hy
  cases e : (List.range (hi - lo).toNat)[i]? with
  | none => rw [e] at hy; cases hy
  | some j =>
    rw [e] at hy
    have h1 := List.getElem?_eq_some_iff.mp e
    obtain ⟨h2, h3⟩ := h1
    rw [List.getElem_range] at h3
    subst h3
    cases hy
    exact z
theorem numP_len : ∀ (n : Nat) (xs : List V), (numP n xs).length = xs.length
  | _, [] => rfl
  | n, x :: r => by show (numP (n + 1) r).length + 1 = _; rw [numP_len]; rfl
theorem numP_get : ∀ (xs : List V) (n i : Nat) (y : Nat × V), (numP n xs)[i]? = some y → xs[i]? = some y.2 ∧ y.1 = n + i
  | [], _, _, y, h => by cases h
  | x :: r, n, 0, y, h => by cases h; exact ⟨rfl, rfl⟩
  | x :: r, n, i + 1, y, h => by
    have h' : (numP (n + 1) r)[i]? = some y := h
    obtain ⟨h1, h2⟩ := numP_get r (n + 1) i y h'
    exact ⟨h1, by omega⟩
theorem gives_enum {K : PySem.W.Frag} {a : Addr} {xs : List V} : Gives (Ite K a) ((numP 0 xs).map ydN) fun H => lstOf (H a) = some xs := by
  refine Gives.imp (G := fun H => SqL K H a xs) ⟨_, by rw [List.length_map, numP_len]; exact walk_enum, ?_⟩ fun H h => lst_sq h
  intro i y H x H' k hy q z
  obtain ⟨T, u, v, rfl, hT, rfl, e1, e2⟩ := q
  rw [List.getElem?_map] at hy
  cases e : (numP 0 xs)[i]? with
  | none => rw [e] at hy; cases hy
  | some p =>
    rw [e] at hy
    obtain ⟨e3, e4⟩ := numP_get _ _ _ _ e
    have e2' : xs[i]? = some v := e2
    rw [e3] at e2'
    cases e1
    cases e2'
    cases hy
    rw [Nat.zero_add] at e4
    have q := z T hT
    rw [e4] at q
    exact q
theorem zip_get : ∀ (xs ys : List V) (i : Nat) (y : V × V), (xs.zip ys)[i]? = some y → xs[i]? = some y.1 ∧ ys[i]? = some y.2
  | [], _, _, _, h => by simp at h
  | _ :: _, [], _, _, h => by simp at h
  | x :: r, z :: s, 0, y, h => by cases h; exact ⟨rfl, rfl⟩
  | x :: r, z :: s, i + 1, y, h => zip_get r s i y h
theorem gives_zip {K : PySem.W.Frag} {a b : Addr} {xs ys : List V} : Gives (Itz K a b) ((xs.zip ys).map ydP) fun H => lstOf (H a) = some xs ∧ lstOf (H b) = some ys := by
  refine Gives.imp (G := fun H => SqL K H a xs ∧ SqL K H b ys) ⟨_, walk_zip (by rw [List.length_map, List.length_zip]), ?_⟩ fun H h => ⟨lst_sq h.1, lst_sq h.2⟩
  intro i y H x H' k hy q z
  obtain ⟨T, u, v, rfl, hT, rfl, e1, e2⟩ := q
  rw [List.getElem?_map] at hy
  cases e : (xs.zip ys)[i]? with
  | none => rw [e] at hy; cases hy
  | some p =>
    rw [e] at hy
    obtain ⟨e3, e4⟩ := zip_get _ _ _ _ e
    have e1' : xs[i]? = some u := e1
    have e2' : ys[i]? = some v := e2
    rw [e3] at e1'
    rw [e4] at e2'
    cases e1'
    cases e2'
    cases hy
    exact z T hT
theorem gives_rev {K : PySem.W.Frag} {a : Addr} {xs : List V} : Gives (Itv K a xs.length) (xs.reverse.map .one) fun H => lstOf (H a) = some xs := by
  refine Gives.imp (G := fun H => SqL K H a xs) ⟨_, by rw [List.length_map, List.length_reverse]; exact walk_rev, ?_⟩ fun H h => lst_sq h
  intro i y H x H' k hy q z
  obtain ⟨rfl, q⟩ := q
  rw [List.getElem?_map] at hy
  cases e : xs.reverse[i]? with
  | none => rw [e] at hy; cases hy
  | some j =>
    rw [e] at hy
    have hi : i < xs.length := by
      have := (List.getElem?_eq_some_iff.mp e).1
      rw [List.length_reverse] at this
      exact this
    rw [List.getElem?_reverse hi, q] at e
    cases e
    cases hy
    exact z
variable {tg e a b : Expr} {te ta tb : TE} {p pos : Pos}
theorem xilst (he : PE X e te) : PIW X tg e (wLst te) := ⟨_, pi_list (pe_up he), fun σ H R R' h i => up_of h fun v H1 q => by
  split at q
  · split at q
    · next e1 => exact ⟨_, rfl, ⟨_, lst_sq e1⟩, i _ _ _ _ gives_list q⟩
    · exact q.elim
  · exact q.elim⟩
theorem xitup (he : PE X e te) : PIW X tg e (wTup te) := ⟨_, pi_tup (pe_up he), fun σ H R R' h i => up_of h fun v H1 q => by
  split at q
  · split at q
    · next e1 => exact ⟨_, rfl, ⟨_, tup_sq e1⟩, i _ _ _ _ gives_tup q⟩
    · exact q.elim
  · exact q.elim⟩
theorem xistr (he : PE X e te) : PIW X tg e (wStr te) := ⟨_, pi_str (pe_up he), fun σ H R R' h i => up_of h fun v H1 q => by
  split at q
  · exact ⟨_, rfl, i _ _ _ _ gives_str q⟩
  · exact q.elim⟩
theorem xirng1 (hm : X.mg "range" = none) (he : PE X e te) (hg : Gl X "range" := by rfl) (hs : starEach [e] X.env = [(false, eval e X.env)] := by rfl) : PIW X tg (.Call (.Name "range" p) [e] [] pos) (wRng1 te) :=
  ⟨_, pi_range1 hg hm (pa_cons (pe_up he) pa_nil hs) hs, fun σ H R R' h i => up_of h fun v H1 q => by
  split at q
  · next j =>
    have g := gives_rng (lo := 0) (hi := j)
    rw [Int.sub_zero] at g
    exact ⟨_, rfl, q.1, q.2.1, i _ _ _ _ g q.2.2⟩
  · exact q.elim⟩
theorem xirng2 (hm : X.mg "range" = none) (ha : PE X a ta) (hb : PE X b tb) (hg : Gl X "range" := by rfl) (h2 : starEach [b] X.env = (false, eval b X.env) :: starEach [] X.env := by rfl) (hs : starEach [a, b] X.env = [(false, eval a X.env), (false, eval b X.env)] := by rfl) : PIW X tg (.Call (.Name "range" p) [a, b] [] pos) (wRng2 ta tb) :=
  ⟨_, pi_range2 hg hm (pa_cons (pe_up ha) (pa_cons (pe_up hb) pa_nil h2) (hs.trans (by rw [h2]; rfl))) hs (h2.trans rfl), fun σ H R R' h i => up_of h fun v H1 q => up_of q fun v2 H2 q => by
  split at q
  · exact ⟨_, _, rfl, q.1, i _ _ _ _ gives_rng q.2⟩
  · exact q.elim⟩
theorem xienum {elts : List Expr} {kk : Nat} {tpos : Pos} (hm : X.mg "enumerate" = none) (he : PE X e te) (hg : Gl X "enumerate" := by rfl) (hs : starEach [e] X.env = [(false, eval e X.env)] := by rfl) : PIW X (.Tuple elts kk tpos) (.Call (.Name "enumerate" p) [e] [] pos) (wEnum te) :=
  ⟨_, pi_enum hg hm (pa_cons (pe_up he) pa_nil hs) hs, fun σ H R R' h i => up_of h fun v H1 q => by
  split at q
  · split at q
    · next e1 => exact ⟨_, _, rfl, lst_sq e1, i _ _ _ _ gives_enum q⟩
    · exact q.elim
  · exact q.elim⟩
theorem xizip {elts : List Expr} {kk : Nat} {tpos : Pos} (hm : X.mg "zip" = none) (ha : PE X a ta) (hb : PE X b tb) (hg : Gl X "zip" := by rfl) (h2 : starEach [b] X.env = (false, eval b X.env) :: starEach [] X.env := by rfl) (hs : starEach [a, b] X.env = (false, eval a X.env) :: starEach [b] X.env := by rfl)
    (hpl : (backTo pos (starEach [b] X.env)).any (·.1) = false := by rfl) : PIW X (.Tuple elts kk tpos) (.Call (.Name "zip" p) [a, b] [] pos) (wZip ta tb) :=
  ⟨_, pi_zip hg hm (pa_cons (pe_up ha) (pa_cons (pe_up hb) pa_nil h2) hs) hs hpl, fun σ H R R' h i => up_of h fun v H1 q => up_of q fun v2 H2 q => by
  split at q
  · split at q
    · next e1 e2 => exact ⟨_, _, _, _, rfl, lst_sq e1, lst_sq e2, i _ _ _ _ gives_zip q⟩
    · exact q.elim
  · exact q.elim⟩
theorem xirev (hm : X.mg "reversed" = none) (he : PE X e te) (hg : Gl X "reversed" := by rfl) (hs : starEach [e] X.env = [(false, eval e X.env)] := by rfl) : PIW X tg (.Call (.Name "reversed" p) [e] [] pos) (wRev te) :=
  ⟨_, pi_reversed hg hm (pa_cons (pe_up he) pa_nil hs) hs, fun σ H R R' h i => up_of h fun v H1 q => by
  split at q
  · split at q
    · next e1 => exact ⟨_, _, rfl, lst_sq e1, i _ _ _ _ gives_rev q⟩
    · exact q.elim
  · exact q.elim⟩
/-! while -/
def qWhile (c : TT) (tb : TS) : TS := fun D σ H => ∃ W : Nat → St → Hp → Prop, (∃ m, W m σ H) ∧ ∀ n σ H, W n σ H →
  c σ H fun k H1 => if k = true then tb { D with nx := fun σ' H' => ∃ m, m < n ∧ W m σ' H', ct := fun σ' H' => ∃ m, m < n ∧ W m σ' H', bk := D.nx } σ H1 else D.nx σ H1
theorem xwhile {c : Expr} {body : List Stmt} {tc : TT} {tb : TS} (hp : PassesOwn (model X.prog X.w) X.A X.env X.xe) (hc : PT X c tc) (hb : PSs X body tb) : PS X (.While c body [] pos) (qWhile tc tb) :=
  ps_imp (ps_while hp (pt_up hc) hb) fun D σ H h => by
    obtain ⟨W, w0, st⟩ := h
    refine ⟨W, w0, fun n σ H w => ⟨_, st n σ H w, fun k H1 q => ?_⟩⟩
    cases k with
    | true => exact ⟨fun σ' H' => ∃ m, m < n ∧ W m σ' H', fun σ' H' z => z, q⟩
    | false => exact q
end
end Fk
/-! ### Fk4: reckoning readings -/
namespace Fk
open PySem L2
section
variable {K : PySem.W.Frag} {H : Hp} {Q : VK} {i j : Int} {x y : Str} {k l : Bool} {a b : Addr} {F : Bool → Prop}
theorem asB_bl : asB (.bl k) F = F k := rfl
theorem qAdd_ii : qAdd (.int i) (.int j) H Q = Q (.int (i + j)) H := rfl
theorem qAdd_ss : qAdd (.str x) (.str y) H Q = (x.length + y.length ≤ sizeLine ∧ Q (.str (x ++ y)) H) := rfl
theorem qAdd_ll {xs ys : List V} (h1 : H a = some (.lst xs)) (h2 : H b = some (.lst ys)) : qAdd (.ref a) (.ref b) H Q = (xs.length + ys.length ≤ sizeLine ∧ ∀ p, H p = none → Q (.ref p) (upd H p (.lst (xs ++ ys)))) := by
  unfold qAdd
  simp only [h1, h2]
theorem qAdd_tt {xs ys : List V} (h1 : H a = some (.tup xs)) (h2 : H b = some (.tup ys)) : qAdd (.ref a) (.ref b) H Q = (xs.length + ys.length ≤ sizeLine ∧ (xs = [] → Q (.ref b) H) ∧ (xs ≠ [] → ys = [] → Q (.ref a) H) ∧ (xs ≠ [] → ys ≠ [] → ∀ p, H p = none → Q (.ref p) (upd H p (.tup (xs ++ ys))))) := by
  unfold qAdd
  simp only [h1, h2]
theorem qSub_ii : qSub (.int i) (.int j) H Q = Q (.int (i - j)) H := rfl
theorem qMul_ii : qMul (.int i) (.int j) H Q = (((-(2 ^ 64) < i ∧ i < 2 ^ 64) ∨ (-(2 ^ 64) < j ∧ j < 2 ^ 64)) ∧ Q (.int (i * j)) H) := rfl
theorem qMod_ii : qMod (.int i) (.int j) H Q = (0 < j ∧ Q (.int (i % j)) H) := rfl
theorem qDiv_ii : qDiv (.int i) (.int j) H Q = ((0 < j ∧ j < 1073741824) ∧ Q (.int (i / j)) H) := rfl
theorem qPow_ii : qPow (.int i) (.int j) H Q = ((0 ≤ j ∧ j ≤ 1000000 ∧ i.natAbs < 2 ^ 64) ∧ Q (.int (i ^ j.toNat)) H) := rfl
theorem qCmpI_ii {p : Int → Int → Bool} : qCmpI p (.int i) (.int j) H Q = Q (.bl (p i j)) H := rfl
theorem qEq_ii : qEq K k (.int i) (.int j) H Q = Q (.bl (decide (i = j) == k)) H := rfl
theorem qEq_ss : qEq K k (.str x) (.str y) H Q = Q (.bl (decide (x = y) == k)) H := rfl
theorem qEq_bb {c d : Bool} : qEq K k (.bl c) (.bl d) H Q = Q (.bl (decide (c = d) == k)) H := rfl
theorem qEq_rr : qEq K k (.ref a) (.ref b) H Q = ∃ d e, Dp K H (.ref a) d ∧ Dp K H (.ref b) e ∧ SeqAt.shaped d = true ∧ SeqAt.shaped e = true ∧ Q (.bl (PyData.eqv d e == k)) H := rfl
theorem qIsN_n : qIsN k .non .non H Q = Q (.bl k) H := rfl
theorem qIsN_i : qIsN k (.int i) .non H Q = Q (.bl (!k)) H := rfl
theorem qIsN_s : qIsN k (.str x) .non H Q = Q (.bl (!k)) H := rfl
theorem qIsN_b : qIsN k (.bl l) .non H Q = Q (.bl (!k)) H := rfl
theorem qIsN_r : qIsN k (.ref a) .non H Q = Q (.bl (!k)) H := rfl
theorem qInS_s {n : Nat} : qInS k (.str ⟨#[n]⟩) (.str y) H Q = Q (.bl (decide (n ∈ y.cps.toList) == k)) H := rfl
theorem qInT_r {v : V} : qInT K k v (.ref a) H Q = ∃ xs, (SqL K H a xs ∨ SqT K H a xs) ∧ flatV v = true ∧ xs.all flatV = true ∧ Q (.bl (inV v xs == k)) H := rfl
theorem qIx_s : qIx (.str x) (.int i) H Q = (match atI x.cps.toList i with
    | some c => x.length ≤ sizeLine ∧ Q (.str ⟨#[c]⟩) H
    | none => False) := rfl
theorem qIx_r : qIx (.ref a) (.int i) H Q = (match seqOf (H a) with
    | some xs => (match atI xs i with
      | some v => Q v H
      | none => False)
    | none => False) := rfl
theorem qIAdd_ii : qIAdd (.int i) (.int j) H Q = Q (.int (i + j)) H := rfl
theorem qIAdd_ss : qIAdd (.str x) (.str y) H Q = (x.length + y.length ≤ sizeLine ∧ Q (.str (x ++ y)) H) := rfl
theorem qLen_s : qLen [.str x] H Q = (x.length ≤ sizeLine ∧ Q (.int x.length) H) := rfl
theorem qLen_r : qLen [.ref a] H Q = (match seqOf (H a) with
    | some ys => Q (.int ys.length) H
    | none => False) := rfl
theorem qAbs_i : qAbs [.int i] H Q = Q (.int (if i < 0 then -i else i)) H := rfl
theorem qMax2_ii : qMax2 [.int i, .int j] H Q = Q (.int (if j > i then j else i)) H := rfl
theorem qMin2_ii : qMin2 [.int i, .int j] H Q = Q (.int (if j < i then j else i)) H := rfl
theorem qInt_i : qInt [.int i] H Q = Q (.int i) H := rfl
theorem qInt_b : qInt [.bl k] H Q = Q (.int (if k then 1 else 0)) H := rfl
theorem qInt_s : qInt [.str x] H Q = (match PySem.intText? x with
    | some n => x.length ≤ 640 ∧ Q (.int n) H
    | none => False) := rfl
theorem qStrC_i : qStrC [.int i] H Q = (i.natAbs.log2 < 1920 ∧ Q (.str (toString i)) H) := rfl
theorem qStrC_s : qStrC [.str x] H Q = Q (.str x) H := rfl
theorem qList_r : qList [.ref a] H Q = (match seqOf (H a) with
    | some ys => ∀ l, H l = none → Q (.ref l) (upd H l (.lst ys))
    | none => False) := rfl
theorem qTuple_r : qTuple [.ref a] H Q = tupleAs (H a) (fun ys => ∀ l, H l = none → Q (.ref l) (upd H l (.tup ys))) (Q (.ref a) H) := rfl
theorem tupleAs_l {F : List V → Prop} {G : Prop} {xs : List V} : tupleAs (some (.lst xs)) F G = F xs := rfl
theorem tupleAs_t {F : List V → Prop} {G : Prop} {xs : List V} : tupleAs (some (.tup xs)) F G = G := rfl
theorem qDivmod_ii : qDivmod [.int i, .int j] H Q = ((0 < j ∧ j < 1073741824) ∧ ∀ p, H p = none → Q (.ref p) (upd H p (.tup [.int (i / j), .int (i % j)]))) := rfl
theorem qSl_s {lo hi : Option Int} : qSl K (.str x) lo hi H Q = (x.length ≤ sizeLine ∧ Q (.str (cutS x lo hi)) H) := rfl
theorem qSl_r {lo hi : Option Int} : qSl K (.ref a) lo hi H Q = ((∃ xs, SqL K H a xs ∧ ∀ p, H p = none → Q (.ref p) (upd H p (.lst (cutV xs lo hi)))) ∨
      (∃ xs, SqT K H a xs ∧ (HT.sIx xs.length 0 lo = 0 ∧ HT.sIx xs.length xs.length hi = xs.length → Q (.ref a) H) ∧ (¬ (HT.sIx xs.length 0 lo = 0 ∧ HT.sIx xs.length xs.length hi = xs.length) → ∀ p, H p = none → Q (.ref p) (upd H p (.tup (cutV xs lo hi)))))) := rfl
theorem sl_use {xs : List V} {lo hi : Option Int} (h : SqL K H a xs) (q : ∀ p, H p = none → Q (.ref p) (upd H p (.lst (cutV xs lo hi)))) : qSl K (.ref a) lo hi H Q := .inl ⟨xs, h, q⟩
def asI (x : V) (F : Int → Prop) : Prop := match x with
  | .int i => F i
  | _ => False
theorem qAll_r : qAll [.ref a] H Q = (match lstOf (H a) with
    | some ys => (match blsOf ys with
      | some bs => Q (.bl (bs.all id)) H
      | none => False)
    | none => False) := rfl
theorem qAny_r : qAny [.ref a] H Q = (match lstOf (H a) with
    | some ys => (match blsOf ys with
      | some bs => Q (.bl (bs.any id)) H
      | none => False)
    | none => False) := rfl
end
theorem cx_K {CX : CXT} {P : Program} {w : World} {K : PySem.W.Frag} {mg : Str → Option Value} {base : Heap} {N : List Str} {q : Str} {sc : Scope} {f : Addr} {cd : Value} {A : Around} {outer : List Env} {s : Shared} {H : Hp} {E : XK} :
    (cxOf CX P w K mg base N q sc f cd A outer s H E).K = K := rfl
theorem beq_t (b : Bool) : (b == true) = b := by cases b <;> rfl
theorem beq_f (b : Bool) : (b == false) = !b := by cases b <;> rfl
theorem sz0 : 0 ≤ sizeLine := Nat.zero_le _
theorem sz_of {n : Nat} (h : n ≤ 10000000) : n ≤ sizeLine := Nat.le_trans h (by decide)
theorem sz_lt {n : Nat} (h : n ≤ 10000000) : n < sizeLine := Nat.lt_of_le_of_lt h (by decide)
theorem szl {n : Nat} (h : decide (n ≤ 10000000) = true) : (n ≤ sizeLine) = True := eq_true (sz_of (of_decide_eq_true h))
theorem sz1 : (1 ≤ sizeLine) = True := szl (by decide)
theorem sz2 : (2 ≤ sizeLine) = True := szl (by decide)
theorem sz3 : (3 ≤ sizeLine) = True := szl (by decide)
theorem sz4 : (4 ≤ sizeLine) = True := szl (by decide)
theorem sz5 : (5 ≤ sizeLine) = True := szl (by decide)
theorem sz6 : (6 ≤ sizeLine) = True := szl (by decide)
theorem sz7 : (7 ≤ sizeLine) = True := szl (by decide)
theorem sz8 : (8 ≤ sizeLine) = True := szl (by decide)
theorem sz15 : (15 ≤ sizeLine) = True := szl (by decide)
theorem at0 {α : Type} {a : α} {l : List α} : atI (a :: l) 0 = some a := by
  unfold atI ixN
  rw [if_pos (by decide), if_pos (by rw [List.length_cons]; omega)]
  rfl
theorem at1 {α : Type} {a b : α} {l : List α} : atI (a :: b :: l) 1 = some b := by
  unfold atI ixN
  rw [if_pos (by decide), if_pos (by rw [List.length_cons, List.length_cons]; omega)]
  rfl
theorem at2 {α : Type} {a b c : α} {l : List α} : atI (a :: b :: c :: l) 2 = some c := by
  unfold atI ixN
  rw [if_pos (by decide), if_pos (by rw [List.length_cons, List.length_cons, List.length_cons]; omega)]
  rfl
theorem at3 {α : Type} {a b c d : α} {l : List α} : atI (a :: b :: c :: d :: l) 3 = some d := by
  unfold atI ixN
  rw [if_pos (by decide), if_pos (by rw [List.length_cons, List.length_cons, List.length_cons, List.length_cons]; omega)]
  rfl
theorem ix0 {n : Nat} : ixN (n + 1) 0 = some 0 := by
  unfold ixN
  rw [if_pos (by decide), if_pos (by omega)]
  rfl
theorem ix1 {n : Nat} : ixN (n + 1 + 1) 1 = some 1 := by
  unfold ixN
  rw [if_pos (by decide), if_pos (by omega)]
  rfl
theorem ix2 {n : Nat} : ixN (n + 1 + 1 + 1) 2 = some 2 := by
  unfold ixN
  rw [if_pos (by decide), if_pos (by omega)]
  rfl
theorem mod_ok {a m : Int} (h : 0 < m := by decide) (h2 : m ≤ 2 ^ 64 := by decide) : -(2 ^ 64) < a % m ∧ a % m < 2 ^ 64 := by
  have h1 := Int.emod_nonneg a (show m ≠ 0 by omega)
  have h3 := Int.emod_lt_of_pos a h
  omega
theorem same_new {H : Hp} {p : Addr} (h : H p = none) (o : HO) : Same H (upd H p o) := fun b u q => by rw [upd_ne (ne_of_none q h)]; exact q
theorem same_upd {H H' : Hp} {p : Addr} (e : Same H H') (h : H p = none) (o : HO) : Same H (upd H' p o) := fun b u q => by rw [upd_ne (ne_of_none q h)]; exact e b u q
end Fk
/-! ### Fk5: data of tuples, what stays -/
namespace Fk
open PySem L2
/-! data at values: nothing but tuples -/
mutual
inductive Tp (H : Hp) : V → PyData → Prop
  | non : Tp H .non .none
  | bl (b : Bool) : Tp H (.bl b) (.bool b)
  | int (i : Int) : Tp H (.int i) (.int i)
  | str (x : Str) : Tp H (.str x) (.str x)
  | tup {a : Addr} {xs : List V} {ds : List PyData} : H a = some (.tup xs) → Tps H xs ds → Tp H (.ref a) (.tuple ds)
inductive Tps (H : Hp) : List V → List PyData → Prop
  | nil : Tps H [] []
  | cons {v : V} {vs : List V} {d : PyData} {ds : List PyData} : Tp H v d → Tps H vs ds → Tps H (v :: vs) (d :: ds)
end
/-- tuples stay -/
def TK (H H' : Hp) : Prop := ∀ a xs, H a = some (.tup xs) → H' a = some (.tup xs)
mutual
theorem Tp.mono {H H' : Hp} (k : TK H H') : ∀ {v : V} {d : PyData}, Tp H v d → Tp H' v d
  | _, _, .non => .non
  | _, _, .bl b => .bl b
  | _, _, .int i => .int i
  | _, _, .str x => .str x
  | _, _, .tup h r => .tup (k _ _ h) (Tps.mono k r)
theorem Tps.mono {H H' : Hp} (k : TK H H') : ∀ {vs : List V} {ds : List PyData}, Tps H vs ds → Tps H' vs ds
  | _, _, .nil => .nil
  | _, _, .cons h r => .cons (Tp.mono k h) (Tps.mono k r)
end
mutual
theorem Tp.dp {K : PySem.W.Frag} {H : Hp} : ∀ {v : V} {d : PyData}, Tp H v d → Dp K H v d
  | _, _, .non => .non
  | _, _, .bl b => .bl b
  | _, _, .int i => .int i
  | _, _, .str x => .str x
  | _, _, .tup h r => .tup (.inl (.inl h)) (Tps.dp r)
theorem Tps.dp {K : PySem.W.Frag} {H : Hp} : ∀ {vs : List V} {ds : List PyData}, Tps H vs ds → DpAll K H vs ds
  | _, _, .nil => .nil
  | _, _, .cons h r => .cons (Tp.dp h) (Tps.dp r)
end
theorem Tps.length {H : Hp} : ∀ {vs : List V} {ds : List PyData}, Tps H vs ds → vs.length = ds.length
  | _, _, .nil => rfl
  | _, _, .cons _ r => congrArg (· + 1) (Tps.length r)
theorem Tps.append {H : Hp} : ∀ {vs us : List V} {ds es : List PyData}, Tps H vs ds → Tps H us es → Tps H (vs ++ us) (ds ++ es)
  | _, _, _, _, .nil, s => s
  | _, _, _, _, .cons h r, s => .cons h (Tps.append r s)
theorem Tps.set {H : Hp} {v : V} {d : PyData} (h : Tp H v d) : ∀ {vs : List V} {ds : List PyData} (i : Nat), Tps H vs ds → Tps H (vs.set i v) (ds.set i d)
  | _, _, _, .nil => .nil
  | _, _, 0, .cons _ r => .cons h r
  | _, _, i + 1, .cons q r => .cons q (Tps.set h i r)
theorem tps_at {H : Hp} : ∀ {vs : List V} {ds : List PyData} {i : Nat}, Tps H vs ds → i < vs.length → ∃ v d, vs[i]? = some v ∧ ds[i]? = some d ∧ Tp H v d
  | _, _, _, .nil, h => by cases h
  | _, _, 0, .cons h r, _ => ⟨_, _, rfl, rfl, h⟩
  | _, _, i + 1, .cons h r, l => tps_at (i := i) r (Nat.lt_of_succ_lt_succ l)
theorem TK.refl (H : Hp) : TK H H := fun _ _ h => h
theorem TK.trans {H H1 H2 : Hp} (a : TK H H1) (b : TK H1 H2) : TK H H2 := fun x xs h => b x xs (a x xs h)
theorem upd_free {H : Hp} {p a : Addr} {o : HO} (h : upd H p o a = none) : a ≠ p ∧ H a = none := by
  have n : a ≠ p := by
    rintro rfl
    rw [upd_same] at h
    cases h
  rw [upd_ne n] at h
  exact ⟨n, h⟩
/-- all but what is named stays -/
def But (S : List Addr) (H H' : Hp) : Prop := ∀ b o, b ∉ S → H b = some o → H' b = some o
theorem But.refl (S : List Addr) (H : Hp) : But S H H := fun _ _ _ h => h
theorem But.trans {S : List Addr} {H H1 H2 : Hp} (a : But S H H1) (b : But S H1 H2) : But S H H2 := fun x o n h => b x o n (a x o n h)
theorem But.new {S : List Addr} {H : Hp} {p : Addr} (h : H p = none) (o : HO) : But S H (upd H p o) := fun b u _ q => by rw [upd_ne (ne_of_none q h)]; exact q
theorem But.at {S : List Addr} {H H' : Hp} {p : Addr} (e : But S H H') (h : p ∈ S) (o : HO) : But S H (upd H' p o) := fun b u n q => by
  have hb : b ≠ p := by
    rintro rfl
    exact n h
  rw [upd_ne hb]
  exact e b u n q
theorem But.nw {S : List Addr} {H H' : Hp} {p : Addr} (e : But S H H') (h : H p = none) (o : HO) : But S H (upd H' p o) := fun b u n q => by
  rw [upd_ne (ne_of_none q h)]
  exact e b u n q
theorem But.free {S : List Addr} {H H' : Hp} (e : But S H H') {l : Addr} (hS : l ∉ S) (h : H' l = none) : H l = none := by
  cases q : H l with
  | none => rfl
  | some o => rw [e l o hS q] at h; cases h
/-! displays of constants, told as data -/
def Opq (t : TE) : TE := t
theorem xopq {X : Cx} {e : Expr} {t : TE} (h : PE X e t) : PE X e (Opq t) := h
/-- a reading that makes d, whatever the heap -/
def Dt (t : TE) (d : PyData) : Prop := ∀ (σ : St) (H : Hp) (Q : VK), (∀ v H', Same H H' → Tp H' v d → Q v H') → t σ H Q
def Dts (t : TA) (ds : List PyData) : Prop := ∀ (σ : St) (H : Hp) (Q : List V → Hp → Prop), (∀ vs H', Same H H' → Tps H' vs ds → Q vs H') → t σ H Q
theorem same_tk {H H' : Hp} (s : Same H H') : TK H H' := fun _ _ e => s _ _ e
theorem same_up {H H' : Hp} {p : Addr} (s : Same H H') (h : H' p = none) (o : HO) : Same H (upd H' p o) := s.trans (same_new h o)
theorem Dt.str {x : Str} : Dt (tC (.str x)) (.str x) := fun _ H _ q => q _ H (Same.refl H) (.str x)
theorem Dt.int {i : Int} : Dt (tC (.int i)) (.int i) := fun _ H _ q => q _ H (Same.refl H) (.int i)
theorem Dt.non : Dt (tC .non) .none := fun _ H _ q => q _ H (Same.refl H) .non
theorem Dt.bl {b : Bool} : Dt (tC (.bl b)) (.bool b) := fun _ H _ q => q _ H (Same.refl H) (.bl b)
theorem Dts.nil : Dts tNil [] := fun _ H _ q => q _ H (Same.refl H) .nil
theorem Dts.cons {t : TE} {ts : TA} {d : PyData} {ds : List PyData} (h : Dt t d) (hs : Dts ts ds) : Dts (tCons t ts) (d :: ds) := fun σ H Q q =>
  h σ H _ fun v H1 s1 t1 => hs σ H1 _ fun vs H2 s2 t2 => q (v :: vs) H2 (s1.trans s2) (.cons (t1.mono (same_tk s2)) t2)
theorem Dt.tup {ts : TA} {ds : List PyData} (hs : Dts ts ds) (hl : ds.length ≤ 1000) : Dt (tTup ts) (.tuple ds) := fun σ H Q q =>
  hs σ H _ fun vs H1 s1 t1 => ⟨sz_of (by rw [t1.length]; omega), fun p hp => q (.ref p) _ (same_up s1 hp _) (.tup upd_same (t1.mono (same_tk (same_new hp _))))⟩
/-- a new list of data -/
theorem dl_use {ts : TA} {ds : List PyData} (hs : Dts ts ds) (hl : ds.length ≤ 1000) {σ : St} {H : Hp} {Q : VK} (q : ∀ p H' us, Same H H' → H p = none → H' p = some (.lst us) → Tps H' us ds → Q (.ref p) H') : Opq (tLst ts) σ H Q :=
  hs σ H _ fun vs H1 s1 t1 => ⟨sz_of (by rw [t1.length]; omega), fun p hp => q p _ vs (same_up s1 hp _) (s1.free hp) upd_same (t1.mono (same_tk (same_new hp _)))⟩
theorem dt_use {t : TE} {d : PyData} (h : Dt t d) {σ : St} {H : Hp} {Q : VK} (q : ∀ v H', Same H H' → Tp H' v d → Q v H') : Opq t σ H Q := h σ H Q q
/-- a comprehension that makes of each d of a list's data f d -/
theorem lc_map {xs : List V} {ds : List PyData} (f : PyData → PyData) {keep : Hp → Prop} {g : TG} {te : TE} {vs : List Nat} {σ : St} {D : Addr} {H : Hp} {Q : Hp → Prop} (hD : H D = none) (hs : Tps H xs ds) (hl : xs.length ≤ 100000) (hk : ∀ H', Same H H' → keep H')
    (step : ∀ v d H', Same H H' → Tp H' v d → d ∈ ds → ∀ Fin : VK, (∀ z H2, Same H' H2 → Tp H2 z (f d) → Fin z H2) → g v (wipe σ vs) H' fun σ2 H2 => wipe σ2 vs = wipe σ vs ∧ te σ2 H2 Fin)
    (done : ∀ H' us, Same H H' → H' D = some (.lst us) → Tps H' us (ds.map f) → Q H') : LoopC (xs.map .one) keep g tYes te vs σ D H Q := by
  refine ⟨V, _, xs, fun r H' => ∃ acc dn rs, Same H H' ∧ H' D = some (.lst acc) ∧ ds = dn ++ rs ∧ Tps H' r rs ∧ Tps H' acc (dn.map f) ∧ acc.length + r.length ≤ 100000, rfl, ⟨[], [], ds, same_new hD _, upd_same, rfl, hs.mono (same_tk (same_new hD _)), .nil, by show 0 + _ ≤ _; omega⟩, ?_, ?_, ?_⟩
  · rintro r H' ⟨acc, dn, rs, s, _⟩
    exact hk H' s
  · rintro y r H' ⟨acc, dn, rs, s, hacc, hds, hr, hd, hn⟩
    rw [List.length_cons] at hn
    cases hr with
    | @cons _ _ d rs hy hr =>
    refine step y d H' s hy (by rw [hds]; simp) _ fun z H2 s2 tz => ?_
    have h2 : H2 D = some (.lst acc) := s2 _ _ hacc
    show match H2 D with
      | some (.lst acc) => acc.length < sizeLine ∧ _
      | _ => False
    rw [h2]
    have tk2 : TK H2 (upd H2 D (.lst (acc ++ [z]))) := fun a us e => by
      rw [upd_ne (by rintro rfl; rw [h2] at e; cases e)]
      exact e
    refine ⟨sz_lt (by omega), acc ++ [z], dn ++ [d], rs, same_upd (s.trans s2) hD _, upd_same, by rw [hds]; simp, (hr.mono (same_tk s2)).mono tk2, ?_, by rw [List.length_append]; show _ + 1 + _ ≤ _; omega⟩
    rw [List.map_append]
    exact ((hd.mono (same_tk s2)).append (.cons tz .nil)).mono tk2
  · rintro H' ⟨acc, dn, rs, s, hacc, hds, hr, hd, hn⟩
    cases hr
    rw [List.append_nil] at hds
    subst hds
    exact done H' acc s hacc hd
/-! parts of a list, by whole numbers from 0 on -/
theorem cut_to (xs : List V) (k : Nat) : cutV xs none (some (k : Int)) = xs.take k := by
  unfold cutV
  rw [HT.sIx_nat, HT.sIx_none, List.drop_zero, Nat.sub_zero]
  by_cases h : k ≤ xs.length
  · rw [Nat.min_eq_left h]
  · rw [Nat.min_eq_right (by omega), List.take_of_length_le (Nat.le_refl _), List.take_of_length_le (by omega)]
theorem cut_from (xs : List V) (k : Nat) : cutV xs (some (k : Int)) none = xs.drop k := by
  unfold cutV
  rw [HT.sIx_nat, HT.sIx_none]
  by_cases h : k ≤ xs.length
  · rw [Nat.min_eq_left h, List.take_of_length_le (by rw [List.length_drop]; exact Nat.le_refl _)]
  · rw [Nat.min_eq_right (by omega), List.drop_of_length_le (Nat.le_refl _), List.drop_of_length_le (by omega), List.take_nil]
theorem cut_ft (xs : List V) (a b : Nat) : cutV xs (some (a : Int)) (some (b : Int)) = (xs.drop a).take (b - a) := by
  unfold cutV
  rw [HT.sIx_nat, HT.sIx_nat]
  by_cases h : a ≤ xs.length
  · rw [show min a xs.length = a by omega]
    by_cases hb : b ≤ xs.length
    · rw [show min b xs.length = b by omega]
    · rw [show min b xs.length = xs.length by omega, List.take_of_length_le (by rw [List.length_drop]; exact Nat.le_refl _), List.take_of_length_le (by rw [List.length_drop]; omega)]
  · rw [show min a xs.length = xs.length by omega, List.drop_of_length_le (Nat.le_refl _), List.drop_of_length_le (by omega), List.take_nil, List.take_nil]
theorem ixN_k {n j : Nat} (hj : j < n) : ixN n (j : Int) = some j := by
  unfold ixN
  rw [if_pos (by omega), if_pos (by omega)]
  simp
theorem tk_lst {H : Hp} {p : Addr} {xs : List V} (h : H p = some (.lst xs)) (o : HO) : TK H (upd H p o) := fun a us e => by
  rw [upd_ne (by rintro rfl; rw [h] at e; cases e)]
  exact e
/-- Same, but for what is made anew and changed then -/
theorem same_one {H H1 H2 : Hp} {p : Addr} (s : Same H H1) (h : H p = none) (b : But [p] H1 H2) : Same H H2 := fun c o e => by
  refine b c o ?_ (s c o e)
  simp only [List.mem_singleton]
  exact ne_of_none e h
/-- a comprehension that makes a list of nothing but True -/
theorem lc_trues {α : Type} {f : α → Yd} {as : List α} {keep : Hp → Prop} {g : TG} {te : TE} {vs : List Nat} {σ : St} {D : Addr} {H : Hp} {Q : Hp → Prop} (hD : H D = none) (hl : as.length ≤ 2000000) (hk : ∀ H', Same H H' → keep H')
    (step : ∀ y ∈ as, ∀ H', Same H H' → ∀ Fin : VK, (∀ H2, Same H H2 → (∀ l, H' D = some (.lst l) → H2 D = some (.lst l)) → Fin (.bl true) H2) → yv (f y) (fun x H1 => g x (wipe σ vs) H1 fun σ2 H2 => wipe σ2 vs = wipe σ vs ∧ te σ2 H2 Fin) H')
    (done : ∀ H' n, Same H H' → H' D = some (.lst (List.replicate n (.bl true))) → Q H') : LoopC (as.map f) keep g tYes te vs σ D H Q := by
  refine ⟨α, f, as, fun r H' => ∃ n, Same H H' ∧ H' D = some (.lst (List.replicate n (.bl true))) ∧ n + r.length ≤ 2000000 ∧ ∀ x ∈ r, x ∈ as, rfl, ⟨0, same_new hD _, upd_same, by omega, fun _ h => h⟩, ?_, ?_, ?_⟩
  · rintro r H' ⟨n, s, _⟩
    exact hk H' s
  · rintro y r H' ⟨n, s, h1, h2, h3⟩
    rw [List.length_cons] at h2
    refine step y (h3 y (by simp)) H' s _ fun H2 s2 e2 => ?_
    show match H2 D with
      | some (.lst acc) => acc.length < sizeLine ∧ _
      | _ => False
    rw [e2 _ h1]
    refine ⟨sz_lt (by rw [List.length_replicate]; omega), n + 1, same_upd s2 hD _, ?_, by omega, fun x hx => h3 x (List.mem_cons_of_mem _ hx)⟩
    rw [upd_same, List.replicate_succ']
  · rintro H' ⟨n, s, h1, _⟩
    exact done H' n s h1
theorem bls_trues (n : Nat) : blsOf (List.replicate n (.bl true)) = some (List.replicate n true) := by
  induction n with
  | zero => rfl
  | succ n ih => rw [List.replicate_succ, List.replicate_succ, blsOf, ih]; rfl
theorem all_trues (n : Nat) : (List.replicate n true).all id = true := by
  induction n with
  | zero => rfl
  | succ n ih => rw [List.replicate_succ, List.all_cons, ih]; rfl
theorem mem_upto {j x : Int} (h : x ∈ upto 0 j) : ∃ n : Nat, x = (n : Int) ∧ (n : Int) < j := by
  unfold upto at h
  obtain ⟨n, h1, h2⟩ := List.mem_map.mp h
  have h3 := List.mem_range.mp h1
  exact ⟨n, by omega, by omega⟩
end Fk
/-! ### Fk6: what the top has: defs, classes, tuples -/
namespace Fk
open PySem L2
def FnG (K : PySem.W.Frag) (x qual : Str) (st : Stmt) (f : Addr) : Prop := ∃ fd, Fun K x qual st f fd
theorem fn_g {K : PySem.W.Frag} {x qual : Str} {st : Stmt} {f : Addr} {oc : Value} {od an : Option Addr} {osl : Array (Option Value)} {kV doc pm cdv ct : Value} (l : K.lookup f = some ⟨oc, od, .func (PySem.W.fnOf x qual (defArgs st) (defBody st) (defScope st) .none kV doc pm an cdv ct), osl⟩)
    (c : PySem.W.codeIn K cdv qual = true) (k : PySem.W.keepIn K (.ref f) = true) : FnG K x qual st f := ⟨_, fun_mk l c k⟩
def ClsG (K : PySem.W.Frag) (C : Addr) : Prop := Cls K C
theorem cls_g {K : PySem.W.Frag} {C : Addr} (pg : PySem.W.plainGet K C Str.empty = true) (hd : PySem.W.hasDictIn K C = true) (po : PySem.W.plainOver K C = true) (sa : PySem.W.findIn K (.ref C) "__setattr__" = some (some (.builtin "object.__setattr__"))) : ClsG K C := ⟨pg, hd, po, sa⟩
def TupG (K : PySem.W.Frag) (a : Addr) (xs : List V) : Prop := ∃ (o : Obj) (its : Array Value) (n : Nat), K.lookup a = some o ∧ o.cls = .type "tuple" ∧ o.data = .seq its n ∧ its.size ≤ sizeLine ∧ Vals xs its.toList
theorem tup_g {K : PySem.W.Frag} {a : Addr} {xs : List V} {od : Option Addr} {its : Array Value} {n : Nat} {sl : Array (Option Value)} (l : K.lookup a = some ⟨.type "tuple", od, .seq its n, sl⟩) (s : its.size ≤ sizeLine) (v : Vals xs its.toList) : TupG K a xs := ⟨_, its, n, l, rfl, rfl, s, v⟩
theorem TupG.sq {K : PySem.W.Frag} {a : Addr} {xs : List V} (t : TupG K a xs) (H : Hp) : SqT K H a xs := .inr t
theorem exm_own {K : PySem.W.Frag} {S : Addr} (h1 : PySem.W.subIn K (.ref S) (.type "BaseException") = some true) (h2 : PySem.W.isClsIn K S = true) (h3 : PySem.W.typeIn K (.ref S) = some (.type "type")) (h4 : PySem.W.subIn K (.ref S) (.ref S) = some true) : PySem.W.exmOne K (.ref S) (.ref S) = some true := by
  have e2 : (PySem.W.clsIn K S).isSome = true := h2
  unfold PySem.W.exmOne PySem.W.kitCls
  simp only [h1, h3, h4, e2]
  rfl
end Fk
/-! ### Fk7: dicts with keys ints and texts, texts' methods, more built-ins -/
namespace Fk
open PySem PySem.Spec PyProof.Rows L2
def dkOf : Option HO → Option (List (Key × V))
  | some (.dK kvs) => some kvs
  | some (.frz _ (.dK kvs)) => some kvs
  | _ => none
theorem dk_ex {o : Option HO} {kvs : List (Key × V)} {H : Hp} {a : Addr} (h : dkOf o = some kvs) (e : H a = o) : Rd H a (.dK kvs) := by
  unfold dkOf at h
  split at h
  · cases h; exact .inl e
  · cases h; exact .inr ⟨_, e⟩
  · cases h
def keyOf : V → Option Key
  | .int i => some (.inl i)
  | .str x => some (.inr x)
  | _ => none
theorem keyOf_eq {y : V} {k : Key} (h : keyOf y = some k) : y = kV k := by
  unfold keyOf at h
  split at h
  · cases h; rfl
  · cases h; rfl
  · cases h
def dGetO (o : Option HO) (k : Key) : Option V := match dkOf o with
  | some kvs => valV kvs k
  | none => none
def dPutO (o : Option HO) (k : Key) (v : V) : Option HO := match o with
  | some (.dK kvs) => if kvs.length < sizeLine then some (.dK (putK kvs k v)) else none
  | _ => none
/-- d[k] -/
def qDG : R2 := fun x y H Q => match x, keyOf y with
  | .ref a, some k => (match dGetO (H a) k with
    | some v => Q v H
    | none => False)
  | _, _ => False
def qDIn (b : Bool) : R2 := fun y x H Q => match x, keyOf y with
  | .ref a, some k => (match dkOf (H a) with
    | some kvs => Q (.bl ((valV kvs k).isSome == b)) H
    | none => False)
  | _, _ => False
def qDPut (td ty tv : TE) : TS := fun D σ H => tv σ H fun v H1 => td σ H1 fun x H2 => ty σ H2 fun y H3 => match x, keyOf y with
  | .ref a, some k => (match dPutO (H3 a) k v with
    | some o => D.nx σ (upd H3 a o)
    | none => False)
  | _, _ => False
/-- d.get(k, x) -/
def qDGet2 (td ty tx : TE) : TE := fun σ H Q => td σ H fun x H1 => match x with
  | .ref a => (match dkOf (H1 a) with
    | some _ => ty σ H1 fun y H2 => tx σ H2 fun z H3 => (match keyOf y, dkOf (H3 a) with
      | some k, some kvs => Q ((valV kvs k).getD z) H3
      | _, _ => False)
    | none => False)
  | _ => False
def kvsOf : List (V × V) → Option (List (Key × V))
  | [] => some []
  | (k, v) :: r => (match keyOf k, kvsOf r with
    | some k, some r => some ((k, v) :: r)
    | _, _ => none)
theorem kvsOf_eq : ∀ {ps : List (V × V)} {kvs : List (Key × V)}, kvsOf ps = some kvs → ps = kvs.map fun kv => (kV kv.1, kv.2)
  | [], kvs, h => by cases h; rfl
  | (k, v) :: r, kvs, h => by
    unfold kvsOf at h
    split at h
    · next k' r' h1 h2 =>
      cases h
      rw [keyOf_eq h1, kvsOf_eq h2]
      rfl
    · cases h
def qDisp (trs : List (TE × TE)) : TE := fun σ H Q => ∀ p, H p = none → tPairs trs σ (upd H p (.dK [])) fun ps H2 => H2 p = some (.dK []) ∧ (match kvsOf ps with
  | some kvs => kvs.length ≤ 15 ∧ Q (.ref p) (upd H2 p (.dK (mergeK [] kvs)))
  | none => False)
/-- d.update(e) -/
def qUpd (td te : TE) : TE := fun σ H Q => td σ H fun x H1 => match x with
  | .ref a => (match dkOf (H1 a) with
    | some _ => te σ H1 fun y H2 => (match y with
      | .ref b => (match H2 a, dkOf (H2 b) with
        | some (.dK k1), some k2 => a ≠ b ∧ k1.length + k2.length ≤ 10000 ∧ Q .non (upd H2 a (.dK (mergeK k1 k2)))
        | _, _ => False)
      | _ => False)
    | none => False)
  | _ => False
section
variable {X : Cx} {o i e f value : Expr} {td ty tx tv te : TE} {pos pos' apos cpos : Pos}
theorem xdget (hu : X.A.units + 1 < cLine) (ho : PE X o td) (hi : PE X i ty) (hs : NoSl i) : PE X (.Subscript o i pos) (tOp qDG td ty) :=
  pe_imp (pe_dget hu (pe_up ho) (pe_up hi) hs) fun σ H Q h => by
    refine up_of h fun x H1 q => up_of q fun y H2 z => ?_
    unfold qDG at z
    split at z
    · next a k hk =>
      split at z
      · next v e1 =>
        unfold dGetO at e1
        split at e1
        · next kvs e2 => exact ⟨_, _, rfl, .inl ⟨kvs, k, dk_ex e2 rfl, keyOf_eq hk, e1.symm⟩, z⟩
        · cases e1
      · exact z.elim
    · exact z.elim
theorem xdin (hu : X.A.units + 1 < cLine) (hi : PE X i ty) (ho : PE X o td) : PC X .In i o (tOp (qDIn true) ty td) := by
  have h0 := pc_din hu (pe_up hi) (pe_up ho)
  refine ⟨fun pins s σ H Q I h => h0.run pins s σ H Q I ?_⟩
  refine up_of h fun y H1 q => up_of q fun x H2 z => ?_
  unfold qDIn at z
  split at z
  · next a k hk =>
    split at z
    · next kvs e2 =>
      refine ⟨_, _, rfl, .inl ⟨kvs, k, dk_ex e2 rfl, keyOf_eq hk, rfl⟩, ?_⟩
      rwa [beq_true] at z
    · exact z.elim
  · exact z.elim
theorem xdnotin (hu : X.A.units + 1 < cLine) (hi : PE X i ty) (ho : PE X o td) : PC X .NotIn i o (tOp (qDIn false) ty td) := by
  have h0 := pc_dnotin hu (pe_up hi) (pe_up ho)
  refine ⟨fun pins s σ H Q I h => h0.run pins s σ H Q I ?_⟩
  refine up_of h fun y H1 q => up_of q fun x H2 z => ?_
  unfold qDIn at z
  split at z
  · next a k hk =>
    split at z
    · next kvs e2 =>
      refine ⟨_, _, rfl, .inl ⟨kvs, k, dk_ex e2 rfl, keyOf_eq hk, rfl⟩, ?_⟩
      rwa [beq_false] at z
    · exact z.elim
  · exact z.elim
theorem xdput (hu : X.A.units + 1 < cLine) (ho : PE X o td) (hi : PE X i ty) (hv : PE X value tv) (hs : swapsWith value (some (.Subscript o i pos')) pos.line X.env = pure false) :
    PS X (.Assign [.Subscript o i pos'] value pos) (qDPut td ty tv) :=
  ps_imp (ps_dput hu (pe_up ho) (pe_up hi) (pe_up hv) hs) fun D σ H h => by
    refine up_of h fun v H1 q => up_of q fun x H2 r => up_of r fun y H3 z => ?_
    split at z
    · next a k hk =>
      split at z
      · next ob e1 =>
        unfold dPutO at e1
        split at e1
        · next kvs e2 =>
          split at e1
          · next hl => cases e1; exact ⟨_, _, rfl, .inl ⟨kvs, k, e2, keyOf_eq hk, hl, rfl⟩, z⟩
          · cases e1
        · cases e1
      · exact z.elim
    · exact z.elim
theorem xdget2 (hu : X.A.units + 1 < cLine) (ho : PE X o td) (he : PE X e ty) (hf : PE X f tx) (m : M2 X o "get" apos e f cpos) : PE X (.Call (.Attribute o "get" apos) [e, f] [] cpos) (qDGet2 td ty tx) :=
  pe_imp (pe_dget2 hu (pe_up ho) (pe_up he) (pe_up hf) m) fun σ H Q h => by
    refine up_of h fun x H1 q => ?_
    split at q
    · split at q
      · next kvs e1 =>
        refine ⟨_, rfl, .inl ⟨kvs, dk_ex e1 rfl⟩, up_of q fun y H2 r => up_of r fun z H3 w => ?_⟩
        split at w
        · next k kv2 e2 e3 => exact ⟨_, .inl ⟨kv2, k, dk_ex e3 rfl, keyOf_eq e2, rfl⟩, w⟩
        · exact w.elim
      · exact q.elim
    · exact q.elim
def upP (trs : List (TE × TE)) : List (TE × TE) := trs.map fun t => (up t.1, up t.2)
theorem tPairs_up : ∀ {trs : List (TE × TE)} {σ : L2.St} {H : Hp} {Q Q0 : List (V × V) → Hp → Prop}, tPairs trs σ H Q0 → (∀ ps H', Q0 ps H' → Q ps H') → tPairs (upP trs) σ H Q
  | [], _, H, _, _, h, i => i [] H h
  | (tk, tv) :: r, _, _, _, _, h, i => up_of (Q0 := _) (h : tk _ _ _) fun x H1 q => up_of (q : tv _ _ _) fun y H2 z => tPairs_up z fun ps H3 w => i _ _ w
theorem xpps_cons {k v : Expr} {ks : List (Option Expr)} {vs : List Expr} {tk tv : TE} {trs : List (TE × TE)} (hk : PE X k tk) (hv : PE X v tv) (hr : PPs X pos ks vs (upP trs)) : PPs X pos (some k :: ks) (v :: vs) (upP ((tk, tv) :: trs)) := pps_cons (pe_up hk) (pe_up hv) hr
theorem xpps_nil : PPs X pos [] [] (upP []) := pps_nil
theorem xdisp {keys : List (Option Expr)} {values : List Expr} {trs : List (TE × TE)} (h : PPs X pos keys values (upP trs)) (hall : keys.all (·.isSome) = true) (hl : keys.length = values.length) (h0 : keys ≠ [])
    (h15 : keys.length ≤ 15) : PE X (.Dict keys values pos) (qDisp trs) := pe_imp (pe_disp h hall hl h0 h15) fun σ H Q q p hp => tPairs_up (q p hp) fun ps H2 z => by
  refine ⟨z.1, ?_⟩
  have z2 := z.2
  split at z2
  · next kvs e1 => exact ⟨kvs, kvsOf_eq e1, z2.1, z2.2⟩
  · exact z2.elim
theorem d_update {pins : List (Addr × Obj)} {σ : L2.St} {H : Hp} {s : Shared} {a b : Addr} {k1 k2 : List (Key × V)} {A : Around} {E : Value → Shared → Prop} {Q : Value → Shared → Prop} (I : Inv X pins σ H s) (e1 : H a = some (.dK k1)) (e2 : Rd H b (.dK k2)) (hne : a ≠ b) (hz : k1.length + k2.length ≤ sizeLine)
    (h : ∀ s', Inv X pins σ (upd H a (.dK (mergeK k1 k2))) s' → Q .none s') : wpAny (model X.prog X.w) A (call (.builtin "dict.update") [.ref a, .ref b]) Q E s := by
  obtain ⟨z1, hd1, vs, r1, dd1⟩ := dk_of I.hok e1
  obtain ⟨z2, hd2, ws, r2, dd2⟩ := dk_rd I.hok e2
  refine call_meetsIn PySem.F.slot_dict_update dd1.typeIs PySem.F.entry_dict_update (PySem.F.args_dict_update_2 _ _) (meets_dict_update (mixKind X.prog X.w) a b hne hd2) ⟨vs, ws, dd1, dd2, by rw [← r1.length, ← r2.length]; exact hz, fun h' dd' _ hs => h _ ?_⟩
  have he : ∃ q, h'.get? a = some q := let ⟨q, _, _, hq, _⟩ := dd'; ⟨q, hq⟩
  exact d_write (t' := s.toks) I (by rw [e1]; exact True.intro) hs he (dk_new (Nat.le_trans (length_mergeK k2 k1) hz) hd1 (KV.merge r2 r1) dd')
theorem xupd (ho : PE X o td) (he : PE X e te) (m : M1 X o "update" apos e cpos) : PE X (.Call (.Attribute o "update" apos) [e] [] cpos) (qUpd td te) := by
  refine ⟨fun pins s σ H Q I h => ?_⟩
  refine wpAny_Call_method m.base m.few m.line PySem.F.plainAttrs_dict PySem.F.slot_dict_update PySem.F.type_dict_update (thn (ho.run pins s σ H _ I h) fun u s1 ⟨x, H1, I1, rx, q1⟩ => ?_)
  dsimp only at q1
  split at q1
  · next a =>
    split at q1
    · next kvs e1 =>
      obtain rfl : u = Value.ref a := rx
      obtain ⟨t1, t2, _⟩ := isD_at I1 (.inl ⟨kvs, dk_ex e1 rfl⟩)
      refine ⟨t1, t2, ?_⟩
      rw [m.trees]
      refine Calls.callWith_builtin rfl (Calls.evalArgs_plain (Calls.spliced_cons (thn (he.run pins s1 σ H1 _ I1 q1) fun iv s2 ⟨y, H2, I2, ry, q2⟩ => Calls.spliced_nil ?_)))
      dsimp only at q2
      split at q2
      · next b =>
        obtain rfl : iv = Value.ref b := ry
        split at q2
        · next k1 k2 e2 e3 =>
          obtain ⟨hne, hz, q3⟩ := q2
          exact d_update I2 e2 (dk_ex e3 rfl) hne (sz_of (by omega)) fun s3 I3 => ⟨.non, _, I3, rfl, q3⟩
        · exact q2.elim
      · exact q2.elim
    · exact q1.elim
  · exact q1.elim
end
end Fk
/-! ### Fk8: texts' methods, sums, places, kinds -/
namespace Fk
open PySem PySem.Spec PyProof.Rows L2
def strsOf : List V → Option (List Str)
  | [] => some []
  | .str x :: r => (match strsOf r with
    | some ys => some (x :: ys)
    | none => none)
  | _ :: _ => none
theorem strsOf_eq : ∀ {xs : List V} {ys : List Str}, strsOf xs = some ys → xs = ys.map V.str
  | [], ys, h => by cases h; rfl
  | x :: r, ys, h => by
    cases x with
    | str z =>
      unfold strsOf at h
      split at h
      · next zs e => cases h; rw [strsOf_eq e]; rfl
      · cases h
    | _ => cases h
theorem strsOf_map (ys : List Str) : strsOf (ys.map V.str) = some ys := by
  induction ys with
  | nil => rfl
  | cons y r ih => rw [List.map_cons, strsOf, ih]
def intsOf : List V → Option (List Int)
  | [] => some []
  | .int x :: r => (match intsOf r with
    | some ys => some (x :: ys)
    | none => none)
  | _ :: _ => none
theorem intsOf_eq : ∀ {xs : List V} {ys : List Int}, intsOf xs = some ys → xs = ys.map V.int
  | [], ys, h => by cases h; rfl
  | x :: r, ys, h => by
    cases x with
    | int z =>
      unfold intsOf at h
      split at h
      · next zs e => cases h; rw [intsOf_eq e]; rfl
      · cases h
    | _ => cases h
theorem intsOf_map (ys : List Int) : intsOf (ys.map V.int) = some ys := by
  induction ys with
  | nil => rfl
  | cons y r ih => rw [List.map_cons, intsOf, ih]
/-- sep.join(xs) -/
def qJoin (to te : TE) : TE := fun σ H Q => to σ H fun x H1 => match x with
  | .str a => te σ H1 fun y H2 => (match y with
    | .ref p => (match seqOf (H2 p) with
      | some xs => (match strsOf xs with
        | some ys => (ys.map (·.length)).sum + ys.length * a.length ≤ 16777216 ∧ Q (.str (Txt.join a ys)) H2
        | none => False)
      | none => False)
    | _ => False)
  | _ => False
/-- s.split() -/
def qWords (to : TE) : TE := fun σ H Q => to σ H fun x H1 => match x with
  | .str a => a.length + 2 ≤ sizeLine ∧ ∀ p, H1 p = none → Q (.ref p) (upd H1 p (.lst ((Txt.words a).map V.str)))
  | _ => False
def qStrip (to : TE) : TE := fun σ H Q => to σ H fun x H1 => match x with
  | .str a => a.length ≤ sizeLine ∧ Q (.str (Txt.strip a)) H1
  | _ => False
def qSum : List V → Hp → VK → Prop := fun xs H Q => match xs with
  | [.ref p] => (match lstOf (H p) with
    | some ys => (match intsOf ys with
      | some ns => Q (.int ns.sum) H
      | none => False)
    | none => False)
  | _ => False
def mxI : List Int → Int
  | [] => 0
  | [a] => a
  | a :: r => if a < mxI r then mxI r else a
theorem mxI_ge : ∀ {ns : List Int} {y : Int}, y ∈ ns → y ≤ mxI ns
  | [a], y, h => by rw [List.mem_singleton.mp h]; exact Int.le_refl _
  | a :: b :: r, y, h => by
    have hr : mxI (a :: b :: r) = if a < mxI (b :: r) then mxI (b :: r) else a := rfl
    rw [hr]
    rcases List.mem_cons.mp h with rfl | h
    · split <;> omega
    · have := mxI_ge h
      split <;> omega
theorem mxI_mem : ∀ {ns : List Int}, 0 < ns.length → mxI ns ∈ ns
  | [a], _ => List.mem_singleton.mpr rfl
  | a :: b :: r, _ => by
    have hr : mxI (a :: b :: r) = if a < mxI (b :: r) then mxI (b :: r) else a := rfl
    rw [hr]
    split
    · exact List.mem_cons_of_mem _ (mxI_mem (ns := b :: r) (Nat.succ_pos _))
    · exact List.mem_cons_self
/-- max of a list of ints, or of two -/
def qMaxA : List V → Hp → VK → Prop := fun xs H Q => match xs with
  | [.int i, .int j] => Q (.int (if j > i then j else i)) H
  | [.ref p] => (match lstOf (H p) with
    | some ys => (match intsOf ys with
      | some ns => 0 < ns.length ∧ Q (.int (mxI ns)) H
      | none => False)
    | none => False)
  | _ => False
/-- s.index(c), there -/
def qSIdx (to te : TE) : TE := fun σ H Q => to σ H fun x H1 => match x with
  | .str a => te σ H1 fun y H2 => (match y with
    | .str b => (match Builtin.Str.occurrences a b 0 a.length 1 with
      | i :: _ => Q (.int (i : Nat)) H2
      | [] => False)
    | _ => False)
  | _ => False
/-- xs.index(y), xs flat, y there -/
def placeV (y : V) : List V → Option Nat
  | [] => none
  | z :: r => if eqV z y = true then some 0 else (match placeV y r with
    | some j => some (j + 1)
    | none => none)
theorem placeV_ok {y : V} : ∀ {ys : List V} {j : Nat}, placeV y ys = some j → ∃ z, ys[j]? = some z ∧ eqV z y = true ∧ ∀ (m : Nat) (z' : V), m < j → ys[m]? = some z' → eqV z' y = false
  | [], j, h => by cases h
  | z :: r, j, h => by
    unfold placeV at h
    split at h
    · next e => cases h; exact ⟨z, rfl, e, fun m z' hm => absurd hm (Nat.not_lt_zero m)⟩
    · next e =>
      split at h
      · next i hi =>
        cases h
        obtain ⟨w, h1, h2, h3⟩ := placeV_ok hi
        refine ⟨w, h1, h2, fun m z' hm hz => ?_⟩
        cases m with
        | zero => cases hz; exact Bool.eq_false_iff.mpr e
        | succ m => exact h3 m z' (Nat.lt_of_succ_lt_succ hm) hz
      · cases h
def qLIdx (to te : TE) : TE := fun σ H Q => to σ H fun x H1 => match x with
  | .ref p => (match lstOf (H1 p) with
    | some _ => te σ H1 fun y H2 => (match lstOf (H2 p) with
      | some ys => flatV y = true ∧ ys.all flatV = true ∧ (match placeV y ys with
        | some j => Q (.int (j : Nat)) H2
        | none => False)
      | none => False)
    | none => False)
  | _ => False
section
variable {X : Cx} {o e : Expr} {to te : TE} {apos pos cpos : Pos}
theorem xjoin (ho : PE X o to) (he : PE X e te) (hs : starEach [e] X.env = [(false, eval e X.env)] := by rfl) (hbase : attributeBase o "join" X.env (eval o X.env) = eval o X.env := by rfl) (hline : (apos.endLine == pos.line) = true := by rfl) :
    PE X (.Call (.Attribute o "join" apos) [e] [] pos) (qJoin to te) :=
  pe_imp (pe_join (pe_up ho) (pe_up he) hs hbase hline) fun σ H Q h => by
    refine up_of h fun x H1 q => ?_
    split at q
    · refine ⟨⟨_, rfl⟩, up_of q fun y H2 z => ?_⟩
      split at z
      · split at z
        · next xs e1 =>
          split at z
          · next ys e2 =>
            rw [strsOf_eq e2] at e1
            exact ⟨_, _, ys, rfl, rfl, seq_sq e1, z.1, z.2⟩
          · exact z.elim
        · exact z.elim
      · exact z.elim
    · exact q.elim
theorem xwords (ho : PE X o to) (hbase : attributeBase o "split" X.env (eval o X.env) = eval o X.env := by rfl) (hline : (apos.endLine == pos.line) = true := by rfl) :
    PE X (.Call (.Attribute o "split" apos) [] [] pos) (qWords to) :=
  pe_imp (pe_words (pe_up ho) hbase hline) fun σ H Q h => by
    refine up_of h fun x H1 q => ?_
    split at q
    · exact ⟨⟨_, rfl⟩, _, rfl, rfl, q.1, q.2⟩
    · exact q.elim
theorem xstrip (ho : PE X o to) (hbase : attributeBase o "strip" X.env (eval o X.env) = eval o X.env := by rfl) (hline : (apos.endLine == pos.line) = true := by rfl) :
    PE X (.Call (.Attribute o "strip" apos) [] [] pos) (qStrip to) :=
  pe_imp (pe_strip (pe_up ho) hbase hline) fun σ H Q h => by
    refine up_of h fun x H1 q => ?_
    split at q
    · exact ⟨⟨_, rfl⟩, _, rfl, rfl, q.1, q.2⟩
    · exact q.elim
theorem ysum (hc : X.calm = true := by rfl) : CallR X (.builtin "sum") qSum := ca_imp (cr_sum hc) fun xs H Q h => by
  unfold qSum at h
  split at h
  · split at h
    · next ys e1 =>
      split at h
      · next ns e2 => rw [intsOf_eq e2] at e1; exact ⟨_, ns, rfl, lst_sq e1, h⟩
      · exact h.elim
    · exact h.elim
  · exact h.elim
theorem ymaxA (hc : X.calm = true := by rfl) : CallR X (.builtin "max") qMaxA := ca_imp (CallR.or (call_max2 hc) (cr_max hc)) fun xs H Q h => by
  unfold qMaxA at h
  split at h
  · exact .inl ⟨_, _, rfl, h⟩
  · split at h
    · next ys e1 =>
      split at h
      · next ns e2 =>
        rw [intsOf_eq e2] at e1
        refine .inr ⟨_, ns, rfl, lst_sq e1, h.1, fun m hm hle => ?_⟩
        rw [show m = mxI ns from Int.le_antisymm (mxI_ge hm) (hle _ (mxI_mem h.1))]
        exact h.2
      · exact h.elim
    · exact h.elim
  · exact h.elim
theorem xsidx (ho : PE X o to) (he : PE X e te) (hs : starEach [e] X.env = [(false, eval e X.env)] := by rfl) (hbase : attributeBase o "index" X.env (eval o X.env) = eval o X.env := by rfl) (hline : (apos.endLine == pos.line) = true := by rfl) :
    PE X (.Call (.Attribute o "index" apos) [e] [] pos) (qSIdx to te) :=
  pe_imp (pe_m1 PySem.F.slot_str_index PySem.F.type_str_index mt_sindex (pe_up ho) (pe_up he) hs hbase hline) fun σ H Q h => by
    refine up_of h fun x H1 q => ?_
    split at q
    · refine ⟨⟨_, rfl⟩, up_of q fun y H2 z => ?_⟩
      split at z
      · split at z
        · next i r e1 => exact ⟨_, _, i, r, rfl, rfl, e1, z⟩
        · exact z.elim
      · exact z.elim
    · exact q.elim
theorem xlidx (ho : PE X o to) (he : PE X e te) (hbase : attributeBase o "index" X.env (eval o X.env) = eval o X.env := by rfl)
    (hfew : ((backTo cpos (starEach [e] X.env)).all (fun x => !x.1) && (backToKw cpos (keywordEach [] X.env)).all (fun x => x.1.isSome)
      && decide (([e] : List Expr).length + ([] : List Keyword).length + (if ([] : List Keyword).isEmpty then 0 else 1) < 30)) = true := by rfl)
    (hline : (apos.endLine == cpos.line) = true := by rfl) (hs : starEach [e] X.env = (false, eval e X.env) :: starEach [] X.env := by rfl) (hplain : (backTo cpos (starEach [] X.env)).any (·.1) = false := by rfl) :
    PE X (.Call (.Attribute o "index" apos) [e] [] cpos) (qLIdx to te) :=
  pe_imp (pe_bm PySem.F.plainAttrs_list PySem.F.slot_list_index PySem.F.type_list_index mt_index (pe_up ho) (pa_cons (pe_up he) pa_nil hs) hbase hfew hline hs hplain) fun σ H Q h => by
    refine up_of h fun x H1 q => ?_
    split at q
    · split at q
      · next ys0 e0 =>
        refine ⟨.inl ⟨rfl, _, lst_sq e0⟩, up_of q fun y H2 z => ?_⟩
        split at z
        · next ys e1 =>
          obtain ⟨f1, f2, z⟩ := z
          split at z
          · next j ej =>
            obtain ⟨w, h1, h2, h3⟩ := placeV_ok ej
            exact ⟨_, ys, y, j, w, rfl, rfl, lst_sq e1, f1, f2, h1, h2, h3, z⟩
          · exact z.elim
        · exact z.elim
      · exact q.elim
    · exact q.elim
end
end Fk
/-! ### Fk9: a text turned about, replace, a caught exception that is kept -/
namespace Fk
open PySem PySem.Spec PyProof.Rows L2
/-- s[::-1]: some text that is no longer (enough where only its length matters) -/
def qRevS (to : TE) : TE := fun σ H Q => to σ H fun x H1 => match x with
  | .str a => a.length ≤ sizeLine ∧ ∀ z : Str, z.length ≤ a.length → Q (.str z) H1
  | _ => False
theorem rev_count (n : Nat) : (Builtin.Str.strSliceIndices none none (-1) n).length ≤ n := by
  unfold Builtin.Str.strSliceIndices sliceRange
  dsimp only
  rw [List.length_map, List.length_range]
  split
  · next h => exact absurd h (by decide)
  · split
    · rw [show (-(-1 : Int)) = 1 from rfl, Int.ediv_one]
      omega
    · exact Nat.zero_le _
section
variable {X : Cx} {o e : Expr} {to te : TE}
theorem xrevs {p p0 p1 p2 pos : Pos} {j : Nat} (ho : PE X o to) : PE X (.Subscript o (.Slice none none (some (.UnaryOp .USub (.Constant (.int 1) j p0) p1)) p2) pos) (qRevS to) := by
  refine ⟨fun pins s σ H Q I h => Subscript_ (thn (ho.run pins s σ H _ I h) fun v s1 z => ?_)⟩
  obtain ⟨x, H1, I1, r1, q⟩ := z
  split at q
  · next a =>
    obtain ⟨t, rfl⟩ := r1
    have neg : PE X (.UnaryOp .USub (.Constant (.int 1) j p0) p1) _ := pe_un un_neg pe_int
    refine wpAny_Slice ?_
    rw [evalPart_none, evalPart_some]
    refine wpAny_pure (wpAny_pure ?_)
    refine thn (neg.run pins s1 σ H1 (fun y H2 => y = .int (-1) ∧ H2 = H1) I1 (by first | exact ⟨1, rfl, rfl, rfl⟩ | exact ⟨rfl, rfl⟩ | (unfold tUn; exact ⟨_, rfl, rfl, rfl⟩))) fun u s2 z2 => ?_
    obtain ⟨y, H2, I2, r2, rfl, rfl⟩ := z2
    obtain ⟨k, rfl⟩ := r2
    have I3 : Inv X pins σ H2 { s2 with heap := s2.heap.push { cls := .type "slice", data := .fields #[.none, .none, .int (-1) k] } } := I2.kept (t' := s2.toks) fun b ob e => Heap.get?_push_of_some _ e
    have sl : (s2.heap.push { cls := .type "slice", data := .fields #[.none, .none, .int (-1) k] }).IsSlice s2.heap.objs.size none none (some (-1, k)) := ⟨_, Heap.get?_push_size _ rfl, rfl, rfl⟩
    refine tail_any (T := "str") (id := "str.__getitem__") (ops := [.ref s2.heap.objs.size, .str a t]) (typeIs_str _ _ _) PySem.F.slot_str_getitem.lookup ?_ (by with_unfolding_all rfl)
    refine wpAny_getItem_str_slice (st := some (-1, k)) sl rfl ?_
    have hz : ∀ l : List Nat, (l.filterMap (a.cps[·]?)).length ≤ l.length := fun l => List.length_filterMap_le _ _
    have hn := rev_count a.length
    have hlen : (⟨((slicePicked a none none (some (-1, k))).filterMap (a.cps[·]?)).toArray⟩ : Str).length ≤ a.length := by
      show ((slicePicked a none none (some (-1, k))).filterMap (a.cps[·]?)).toArray.size ≤ _
      rw [List.size_toArray]
      exact Nat.le_trans (hz _) hn
    unfold sliceMade
    rw [if_neg (by simp)]
    exact ⟨Nat.le_trans hlen q.1, .str _, H2, I3.tok _, ⟨_, rfl⟩, q.2 _ hlen⟩
  · exact q.elim
/-! where a token is out already -/
def qReplC (to : TE) (y z : Str) : TE := fun σ H Q => to σ H fun v H1 => match v with
  | .str x => x.length + (x.length + 1) * z.length ≤ 16777216 ∧ Q (.str (Txt.replace x y z)) H1
  | _ => False
def PETu (X : Cx) (e : Expr) (t : TE) : Prop := ∀ Q0 : VK, PET X e (fun σ H Q => t σ H Q0 ∧ ∀ v H', Q0 v H' → Q v H')
theorem pet_imp {t u : TE} (h : PET X e t) (i : ∀ σ H Q, u σ H Q → t σ H Q) : PET X e u := fun pins s σ H Q h0 I q => h pins s σ H Q h0 I (i σ H Q q)
theorem pet_up {t : TE} (h : PET X e t) : PET X e (up t) := fun pins s σ H Q h0 I q => by
  obtain ⟨Q0, q0, q1⟩ := q
  refine thn (h pins s σ H Q0 h0 I q0) fun u s' z => ?_
  obtain ⟨v, H', I', r, w⟩ := z
  exact ⟨v, H', I', r, q1 v H' w⟩
theorem xrepl1 {y z : Str} {j k : Nat} {c0 c1 apos pos : Pos} (ho : PE X o to) (hyz : (y == z) = false := by decide)
    (hst : starEach [.Constant (.str y) j c0, .Constant (.str z) k c1] X.env = [(false, eval (.Constant (.str y) j c0) X.env), (false, eval (.Constant (.str z) k c1) X.env)] := by rfl)
    (hbase : attributeBase o "replace" X.env (eval o X.env) = eval o X.env := by rfl) (hline : (apos.endLine == pos.line) = true := by rfl) :
    PET X (.Call (.Attribute o "replace" apos) [.Constant (.str y) j c0, .Constant (.str z) k c1] [] pos) (qReplC to y z) :=
  pet_imp (CwR.pet_replC (pe_up ho) hyz hst hbase hline) fun σ H Q h => up_of h fun v H1 q => by
    split at q
    · exact ⟨_, rfl, q⟩
    · exact q.elim
theorem xrepl2 {y z : Str} {j k : Nat} {c0 c1 apos pos : Pos} (ho : PET X o to) (hyz : (y == z) = false := by decide)
    (hst : starEach [.Constant (.str y) j c0, .Constant (.str z) k c1] X.env = [(false, eval (.Constant (.str y) j c0) X.env), (false, eval (.Constant (.str z) k c1) X.env)] := by rfl)
    (hbase : attributeBase o "replace" X.env (eval o X.env) = eval o X.env := by rfl) (hline : (apos.endLine == pos.line) = true := by rfl) :
    PET X (.Call (.Attribute o "replace" apos) [.Constant (.str y) j c0, .Constant (.str z) k c1] [] pos) (qReplC to y z) :=
  pet_imp (CwR.pet_replT (pet_up ho) hyz hst hbase hline) fun σ H Q h => up_of h fun v H1 q => by
    split at q
    · exact ⟨_, rfl, q⟩
    · exact q.elim
theorem xwordsT {apos pos : Pos} (ho : PET X o to) (hbase : attributeBase o "split" X.env (eval o X.env) = eval o X.env := by rfl) (hline : (apos.endLine == pos.line) = true := by rfl) :
    PET X (.Call (.Attribute o "split" apos) [] [] pos) (qWords to) := fun pins s σ H Q h0 I h => by
  refine PySem.Call_method0 hbase hline (thn (ho pins s σ H _ h0 I h) fun u s1 z => ?_)
  obtain ⟨x, H1, I1, r1, q⟩ := z
  split at q
  · next a =>
    have hr := mt_words (X := X) pins s1 σ H1 (.str a) [] u [] Q I1 r1 .nil ⟨a, rfl, rfl, q.1, q.2⟩
    obtain ⟨t, rfl⟩ := id r1
    exact ⟨"str", _, PySem.F.plainAttrs_str, PySem.F.slot_str_split, PySem.F.type_str_split, typeIs_str _ _ _, (fun _ e => nomatch e), Calls.callWith_builtin rfl (PySem.evalArgs_none hr)⟩
  · exact q.elim
theorem xsetT {i : Nat} {x : Str} {pos' pos : Pos} (hN : X.N.Nodup) (hi : X.N[i]? = some x) (hx : Loc X.env.scope x) (he : PET X e te) (hs : swapsWith e (some (.Name x pos')) pos.line X.env = pure false := by rfl)
    (hf : X.fn x = true ∨ X.env.scope.names.lookup x = some .local := by first | exact .inl rfl | exact .inr rfl | assumption) : PST X (.Assign [.Name x pos'] e pos) (tAsg te (gName i)) :=
  fun pins s σ H D h0 I h => wpAny_Assign_Name (thn (he pins s σ H _ h0 I h) fun v s1 z => by
    obtain ⟨y, H1, I1, r1, q⟩ := z
    exact store_ok I1 hN hi hx r1 (fun s2 I2 => ⟨_, H1, I2, q⟩) hf) hs
theorem pst_of {st : Stmt} {t : TS} (h : PS X st t) : PST X st t := PST.of h
theorem psst_of {st : List Stmt} {t : TS} (h : PSs X st t) : PSsT X st t := PSsT.of h
end
/-- a def whose body wants a token out: it has an argument, and no cells -/
theorem okT {P : Program} {w : World} {K : PySem.W.Frag} {mg : Str → Option Value} {base : Heap} {x qual : Str} {st : Stmt} {f : Addr} {fd : FuncData} {N ps : List Str} {k : Nat} {sp : Sp} (F : Fun K x qual st f fd) (S : FnScope N ps (defScope st))
    (hnc : ((defScope st).names.all fun y => y.2 != .cell) = true) (hps : 1 ≤ ps.length) (len : ∀ vs H Q E, sp vs H Q E → vs.length = ps.length)
    (hbody : ∀ (cdv : Value) (A : Around) (outer : List Env) (s : Shared) (H : Hp) (vs : List V) (Q : VK) (E : XK), Room k (A.deeper (PyProof.Rows.envOfC qual (defScope st) s.heap.objs.size f cdv)) → sp vs H Q E →
      ∃ t, PSsT (cxOf CX0 P w K mg base N qual (defScope st) f cdv A outer s H E) (defBody st) t ∧ t { nx := fun _ H' => Q .non H', rt := Q } (start N vs) H) : FnOk P w K mg base CX0 (k + 1) f fd ps sp := by
  obtain ⟨oc, od, kV, doc, pm, an, cdv, ct, osl, rfl, lk, hcd⟩ := F.ex
  refine fn_ofT lk hcd S (fun y hy e => ?_) hps len fun A outer s H vs Q E hr h => hbody cdv A outer s H vs Q E hr h
  have := List.all_eq_true.mp hnc y hy
  rw [e] at this
  cases this
/-- an exception that was caught and is kept -/
def ExT (cls : Value) (d : Option Addr) (a : Addr) : HO := .ext fun h => ∃ (oe : Obj) (vs : Array Value), h.get? a = some oe ∧ Zc cls d oe ∧ oe.data = .fields vs
theorem adopt {X : Cx} {pins : List (Addr × Obj)} {σ : L2.St} {H : Hp} {s : Shared} {a : Addr} {oe : Obj} {vs : Array Value} {cls : Value} {d : Option Addr} (I : Inv X pins σ H s) (he : s.heap.get? a = some oe) (hz : Zc cls d oe) (hd : oe.data = .fields vs) (hn : H a = none)
    (h0 : X.s_0.heap.get? a = none) (hL : a ≠ X.env.locals) (hp : ∀ p ∈ X.pn ++ pins, p.1 ≠ a) : Inv X pins σ (upd H a (ExT cls d a)) s where
  ok := I.ok
  os := I.os
  bare := I.bare
  base := ⟨I.base.keep, I.base.slot, fun b o q n x => by rw [upd_ne (by rintro rfl; rw [h0] at q; cases q)]; exact I.base.free b o q n x, I.base.there,
    fun b xs q => by have z := I.base.tups b xs q; rw [upd_ne (ne_of_none z hn)]; exact z, fun b o u q => by have z := I.base.frzs b o u q; rw [upd_ne (ne_of_none z hn)]; exact z,
    fun b ps q => by obtain ⟨m, z⟩ := I.base.tbls b ps q; exact ⟨m, by rw [upd_ne (ne_of_none z hn)]; exact z⟩⟩
  loc := I.loc
  cell := I.cell
  free := by rw [upd_ne hL.symm]; exact I.free
  freeC := fun x c q => by
    have hc : c ≠ a := by
      rintro rfl
      obtain ⟨v, o, w1, w2⟩ := I.cell x c q
      rw [he] at w1
      cases w1
      first
        | (rw [hd] at w2; cases w2)
        | (obtain ⟨w2, w3⟩ := w2; rw [hd] at w3; cases w3)
        | (obtain ⟨w2, w3⟩ := w2; rw [hd] at w2; cases w2)
    rw [upd_ne hc]
    exact I.freeC x c q
  pin := fun p q => by
    obtain ⟨w1, w2, w3⟩ := I.pin p q
    exact ⟨w1, by rw [upd_ne (hp p q)]; exact w2, w3⟩
  hok := I.hok.laidN (fun _ _ e => e) hn ⟨⟨oe, vs, he, hz, hd⟩, ⟨oe, he⟩, fun _ _ ⟨o, v, q, r⟩ k => ⟨o, v, k o q, r⟩⟩
  len := I.len
def wKeep (K : PySem.W.Frag) (c : Value) (i : Nat) (ts : Addr → Value → Option Addr → TS) (D : Ends) : WX := fun cls d σ H =>
  PySem.W.exmOne K cls c = some true ∧ ∀ a, H a = none → ts a cls d { nx := fun σ' H' => H' a = none → D.nx (σ'.set i none) (upd H' a (ExT cls d a)), rt := fun _ _ => False, bk := fun _ _ => False, ct := fun _ _ => False } (σ.set i (some (.ref a))) H
section
variable {X : Cx} {x n : Str} {c : Value} {i : Nat} {body suite : List Stmt} {b₀ : Stmt} {np pos pos' : Pos} {tb : WX → TS} {ts : Addr → Value → Option Addr → TS}
theorem xtryK (hs : X.stack = X.env :: X.outer) (hf : X.env.frame = some X.env.locals) (hN : X.N.Nodup) (hi : X.N[i]? = some n) (hln : X.env.kindOf n = some .local) (hg : Gl X x) (hm : X.mg x = some c) (hdb : (x == ("__debug__" : Str)) = false) (hex : X.ex = [])
    (hb : ∀ (W : WX) (pn : List (Addr × Obj)) (xe : Value → Shared → Prop), Takes (X.tr pn xe) W → PassesOwn (model X.prog X.w) X.A X.env xe → PSs (X.tr pn xe) body (tb W))
    (hsu : ∀ (a : Addr) (oe : Obj) (cls : Value) (d : Option Addr) (pn : List (Addr × Obj)), Zc cls d oe → (∃ vs, oe.data = .fields vs) → PSs (X.suite a ((a, oe) :: pn)) (b₀ :: suite) (ts a cls d)) :
    PS X (.Try body [.ExceptHandler (some (.Name x np)) (some n) (b₀ :: suite) pos'] [] [] pos) (fun D σ H => tb (wKeep X.K c i ts D) D σ H) := by
  refine ⟨fun pins s σ H D I h => wpAny_Try_except ?_⟩
  have ok := I.ok
  have frames : X.A.frames = some (X.env :: X.outer) := ok.frames.trans (by rw [hs])
  refine wpAny_mono ((hb (wKeep X.K c i ts D) (X.pn ++ pins) _ ?took PassesOwn.looking).run [] s σ H D (I.toTry _) h) (fun f s1 => ?went) (fun _ _ z => z)
  case went =>
    cases f with
    | next => exact fun ⟨σ1, H1, J, q⟩ => wpAny_execs_nil ⟨σ1, H1, J.ofTry ok, q⟩
    | brk => exact fun ⟨σ1, H1, J, q⟩ => ⟨σ1, H1, J.ofTry ok, q⟩
    | cont => exact fun ⟨σ1, H1, J, q⟩ => ⟨σ1, H1, J.ofTry ok, q⟩
    | ret u => exact fun ⟨v1, σ1, H1, J, q⟩ => ⟨v1, σ1, H1, J.ofTry ok, q⟩
  case took =>
    rintro u s1 ⟨a, B, sI, pins1, σ1, H1, cls, d, rfl, J0, nb, up, sky, na, os, ag, hex1, go⟩
    have J := J0.ofTry ok
    refine Sky.land Zc.steady frames hf (by rw [← hs]; exact sky) fun h2 fl2 up2 => ?_
    have J2 : Inv X pins σ1 H1 { s1 with heap := h2 } := J.landed nb fl2.1 (up.trans up2) os ag
    obtain ⟨oe2, vs2, e2, z2, d2⟩ := fl2.there
    -- the exception is no frame, was not there at the entry, is no pin
    have out : a ∉ frs (X.env :: X.outer) := fun hm2 => by
      obtain ⟨_, o, w1, w2⟩ := fl2.2.2.1.mem hm2
      rw [e2] at w1
      cases w1
      exact w2 _ d2
    have outL : a ≠ X.env.locals := fun w => out (List.mem_filterMap.mpr ⟨X.env, List.mem_cons_self, by rw [hf, w]⟩)
    have outF : a ∉ X.fs := fun w => by
      obtain ⟨e, w1, w2⟩ := List.mem_filterMap.mp w
      exact out (List.mem_filterMap.mpr ⟨e, List.mem_cons_of_mem _ w1, w2⟩)
    have newI : sI.heap.get? a = none := by
      cases w : sI.heap.get? a with
      | none => rfl
      | some o =>
        have := nb a o w (by rw [hs]; exact out)
        rw [fl2.2.1] at this
        cases this
    have new0 : X.s_0.heap.get? a = none := by
      cases w : X.s_0.heap.get? a with
      | none => rfl
      | some o =>
        obtain ⟨o1, w1⟩ := J.base.there a o w (by rw [hex]; exact List.not_mem_nil)
        rw [newI] at w1
        cases w1
    have noPin : ∀ p ∈ X.pn ++ pins, p.1 ≠ a := fun p hp w => by
      have w1 := (J.pin p hp).1
      rw [w, newI] at w1
      cases w1
    have S2 := J2.suite e2 d2 na outL outF
    refine wpAny_handleBy_cons (codeAny_handlers_test ?_) (by intro q; cases q)
    have kind : PySem.W.Looks (model X.prog X.w) h2 (typeOf (.ref a)) cls := fun A Q E s k q => wpAny_typeOf_ref (k _ _ e2) (by rw [z2.1]; exact q)
    refine ld_glob (X := X.suite a ((a, oe2) :: (X.pn ++ pins))) S2 hg hm ?_ hdb
    refine (PySem.W.exm_one (M := model X.prog X.w) J2.kIn kind hex1).here (codeAny_handlers_suite_as ?_)
    refine HandSPX.lands_againZ fl2 fun h3 fl3 up3 => ?_
    have J3 : Inv X pins σ1 H1 { s1 with heap := h3 } := J.landed nb fl3.1 ((up.trans up2).trans up3) os ag
    obtain ⟨oe3, vs3, e3, z3, d3⟩ := fl3.there
    refine store_ok (X := X.suite a ((a, oe3) :: (X.pn ++ pins))) (v := .ref a) (J3.suite e3 d3 na outL outF) hN hi (.inl hln) rfl (fun s4 S4 => ?_) (.inr hln)
    refine wpAny_mono ((hsu a oe3 cls d (X.pn ++ pins) z3 ⟨_, d3⟩).run [] s4 _ H1 _ S4 (go a na)) (fun f s5 => ?_) (fun _ _ z => False.elim z)
    cases f with
    | next =>
      rintro ⟨σ5, H5, S5, q5⟩
      obtain ⟨w1, w2, _⟩ := S5.pin (a, oe3) (List.mem_append_left _ List.mem_cons_self)
      exact gone_ok (adopt (S5.unsuite ok) w1 z3 d3 w2 new0 outL noPin) hN hi hln fun s6 J6 => ⟨_, _, J6, q5 w2⟩
    | brk => exact fun ⟨_, _, _, q⟩ => False.elim q
    | cont => exact fun ⟨_, _, _, q⟩ => False.elim q
    | ret u => exact fun ⟨_, _, _, _, _, q⟩ => False.elim q
end
end Fk
/-! ### Fk10: isinstance -/
namespace Fk
open PySem PySem.Spec PyProof.Rows L2
def tyN (H : Hp) : V → Option String
  | .non => some "NoneType"
  | .bl _ => some "bool"
  | .int _ => some "int"
  | .str _ => some "str"
  | .ref a => (match H a with
    | some (.lst _) => some "list"
    | some (.frz _ (.lst _)) => some "list"
    | some (.tup _) => some "tuple"
    | some (.frz _ (.tup _)) => some "tuple"
    | _ => none)
  | _ => none
def isB (t T : String) : Bool := t == T || (t == "bool" && T == "int")
def five : List String := ["list", "tuple", "str", "int", "bool"]
theorem kit_five : ∀ t ∈ (["NoneType", "bool", "int", "str", "list", "tuple"] : List String), ∀ T ∈ five, kitB t T = some (isB t T) := by decide +kernel
theorem tyN_six {H : Hp} {x : V} {t : String} {K : PySem.W.Frag} (h : tyN H x = some t) : TyX K H x (.type t) ∧ t ∈ (["NoneType", "bool", "int", "str", "list", "tuple"] : List String) := by
  unfold tyN at h
  split at h
  · cases h; exact ⟨.base .non, by decide⟩
  · cases h; exact ⟨.base (.bl _), by decide⟩
  · cases h; exact ⟨.base (.int _), by decide⟩
  · cases h; exact ⟨.base (.str _), by decide⟩
  · split at h
    · next e => cases h; exact ⟨.base (.lst e), by decide⟩
    · next e => cases h; exact ⟨.base (.frz e), by decide⟩
    · next e => cases h; exact ⟨.base (.tup e), by decide⟩
    · next e => cases h; exact ⟨.fTuple e, by decide⟩
    · cases h
  · cases h
def qIsi : List V → Hp → VK → Prop := fun xs H Q => match xs with
  | [x, .ty T] => (match tyN H x with
    | some t => five.contains T = true ∧ Q (.bl (isB t T)) H
    | none => False)
  | _ => False
/-- isinstance(x, (T1, T2)), the pair just laid -/
def qIsi2 : List V → Hp → VK → Prop := fun xs H Q => match xs with
  | [x, .ref p] => (match tyN H x, H p with
    | some t, some (.tup [.ty T, .ty U]) => five.contains T = true ∧ five.contains U = true ∧ Q (.bl (isB t T || isB t U)) H
    | _, _ => False)
  | _ => False
section
variable {X : Cx}
theorem yisi : CallR X (.builtin "isinstance") qIsi := ca_imp call_isi fun xs H Q h => by
  unfold qIsi at h
  split at h
  · next x T =>
    split at h
    · next t e =>
      obtain ⟨h1, h2⟩ := tyN_six (K := X.K) e
      exact ⟨x, _, _, _, _, rfl, .ty T, h1, kit_ty (kit_five t h2 T (List.contains_iff_mem.mp h.1)), h.2⟩
    · exact h.elim
  · exact h.elim
theorem yisi2 : CallR X (.builtin "isinstance") qIsi2 := ca_imp call_isiT fun xs H Q h => by
  unfold qIsi2 at h
  split at h
  · next x p =>
    split at h
    · next t T U e e2 =>
      obtain ⟨h1, h2⟩ := tyN_six (K := X.K) e
      obtain ⟨g1, g2, g3⟩ := h
      have k1 := kit_ty (K := X.K) (kit_five t h2 T (List.contains_iff_mem.mp g1))
      have k2 := kit_ty (K := X.K) (kit_five t h2 U (List.contains_iff_mem.mp g2))
      refine ⟨x, p, _, _, [.type T, .type U], _, rfl, e2, .cons (.ty T) (.cons (.ty U) .nil), h1, kitAny_cons k1 (fun hb => kitAny_cons k2 (fun hb2 => (by rw [kitAny_nil, hb, hb2]; rfl)) (fun hb2 => by rw [hb2]; simp)) (fun hb => by rw [hb]; simp), g3⟩
    · exact h.elim
  · exact h.elim
/-- a kept exception -/
def qIsiE (cls : Value) (c : V) : List V → Hp → VK → Prop := fun xs H Q => ∃ a, xs = [.ref a, c] ∧ H a = some (ExT cls none a) ∧ Q (.bl true) H
theorem yisiE {D : Addr} {c : V} {cv : Value} (E : ExcC X.K D) (hc : ∀ u, RelV c u → u = cv) (k : PySem.W.kitOne X.K (.ref D) cv = some true) : CallR X (.builtin "isinstance") (qIsiE (.ref D) c) := by
  intro pins s σ H xs us Q I r h
  obtain ⟨a, rfl, e, q⟩ := h
  obtain ⟨u1, u2, rfl, r1, r2⟩ := vals2 r
  cases (show u1 = Value.ref a from r1)
  have e2 := hc _ r2
  subst e2
  obtain ⟨⟨oe, vs, w1, w2, w3⟩, _⟩ := (show ObjOk X.prog X.w H s.heap a (ExT (.ref D) none a) from I.hok a _ e)
  have J : PySem.W.InstAt s.heap a oe D none := by
    obtain ⟨oc, od, oda, osl⟩ := oe
    obtain ⟨z1, z2⟩ := w2
    dsimp only at z1 z2 w3
    subst z1 z2 w3
    exact ⟨w1, rfl, rfl, trivial⟩
  exact PySem.W.kia_one (PySem.W.handS_kitx_exc E.hg E.hk E.hs E.hd E.ha E.hn E.ht E.hm) I.kIn J k (fun z => nomatch z) fun tk => ⟨.bl true, H, I.kept (t' := tk) fun _ _ z => z, rfl, q⟩
/-- an instance of its own class -/
def qIsiC (C : Addr) : List V → Hp → VK → Prop := fun xs H Q => match xs with
  | [.ref a, .ref D] => D = C ∧ (match H a with
    | some (.ins C' _ _) => C' = C ∧ Q (.bl true) H
    | _ => False)
  | _ => False
structure InsF (K : PySem.W.Frag) (C : Addr) : Prop where
  cl : Cls K C
  ha : PySem.W.findIn K (.ref C) "__class__" = some (some (.builtin "object.__class__"))
  hn : PySem.W.specialIn K (.builtin "object.__class__") "__get__" = some (some (.builtin "getset_descriptor.__get__"))
  ht : PySem.W.takesIn K (.builtin "object.__class__") = some true
  hm : PySem.W.mroIn K C (.type "object") = some true
  me : PySem.W.kitOne K (.ref C) (.ref C) = some true
theorem yisiC {C : Addr} (F : InsF X.K C) : CallR X (.builtin "isinstance") (qIsiC C) := ca_imp call_isi fun xs H Q h => by
  unfold qIsiC at h
  split at h
  · obtain ⟨rfl, h⟩ := h
    split at h
    · next e =>
      obtain ⟨rfl, h⟩ := h
      exact ⟨_, _, _, _, true, rfl, .own _, .base (.ins e F.cl F.ha F.hn F.ht F.hm), F.me, h⟩
    · exact h.elim
  · exact h.elim
theorem pe_ty {x : Str} {T : String} {pos : Pos} (hm : X.mg x = none) (hv : bootBuiltins x = some (.type T) := by decide +kernel) (hg : Gl X x := by rfl) (hn : x ≠ "__name__" := by decide) (hd : (x == ("__debug__" : Str)) = false := by decide) : PE X (.Name x pos) (tC (.ty T)) := pe_bltn hg hm hv rfl hn hd
/-! a < b < c -/
def upRr (r : R2) : R2 := fun x y H Q => ∃ Q0 : VK, r x y H Q0 ∧ ∀ v H', Q0 v H' → Q v H'
theorem op_upr {f : Value → Value → Sem Value} {r : R2} (h : OpR X f r) : OpR X f (upRr r) := by
  intro pins s σ H x y v u Q I rx ry z
  obtain ⟨Q0, q0, q1⟩ := z
  refine thn (h pins s σ H x y v u Q0 I rx ry q0) fun w s' z => ?_
  obtain ⟨v', H', I', r', z'⟩ := z
  exact ⟨v', H', I', r', q1 v' H' z'⟩
def isBl (z : V) (F : Bool → Prop) : Prop := match z with
  | .bl k => F k
  | _ => False
def qChain (r r' : R2) (ta tb tc : TE) : TE := fun σ H Q => ta σ H fun x H1 => tb σ H1 fun y H2 => r x y H2 fun z H3 => isBl z fun k => if k = true then tc σ H3 fun w H4 => r' y w H4 Q else Q (.bl false) H3
theorem xchain {a b c : Expr} {op op' : CmpOp} {r r' : R2} {ta tb tc : TE} {pos : Pos} (ho : OpR X (compareOp op) r) (ho' : OpR X (compareOp op') r') (ha : PE X a ta) (hb : PE X b tb) (hc : PE X c tc) (hm : lastMarks [op, op'] [b, c] = false := by rfl) : PE X (.Compare a [op, op'] [b, c] pos) (qChain r r' ta tb tc) :=
  pe_imp (pe_chain (op_upr ho) (op_upr ho') (pe_up ha) (pe_up hb) (pe_up hc) hm) fun σ H Q h => up_of h fun x H1 q1 => up_of q1 fun y H2 q2 => ⟨_, q2, fun z H3 q3 => by
    unfold isBl at q3
    split at q3
    · next k =>
      refine ⟨k, rfl, ?_⟩
      split
      · next hk =>
        rw [if_pos hk] at q3
        exact up_of q3 fun w H4 q4 => ⟨_, q4, fun _ _ z => z⟩
      · next hk =>
        rw [if_neg hk] at q3
        exact q3
    · exact q3.elim⟩
end
end Fk
/-! ### Fk11: defs whose room is told by a word of one's own -/
namespace Fk
open PySem PySem.Spec PyProof.Rows L2
structure FnA (P : Program) (w : World) (K : PySem.W.Frag) (mg : Str → Option Value) (base : Heap) (R : Around → Prop) (f : Addr) (fd : FuncData) (ps : List Str) (sp : Sp) : Prop where
  len : ∀ vs H Q E, sp vs H Q E → vs.length = ps.length
  run : ∀ (A : Around) (outer : List Env) (s : Shared) (H : Hp) (args : Args) (us : List Value) (vs : List V) (Q : VK) (E : XK), R A → Env0 P w K mg base A outer s H →
    BindsTo s fd args (ps.zip us) → Vals vs us → sp vs H Q E → codeAny (model P w) A (.call (.ref f) args) (CR CX0 outer P w H s Q E) s
section
variable {P : Program} {w : World} {K : PySem.W.Frag} {mg : Str → Option Value} {base : Heap} {R : Around → Prop}
theorem FnA.of {k : Nat} {f : Addr} {fd : FuncData} {ps : List Str} {sp : Sp} (F : FnOk P w K mg base CX0 k f fd ps sp) : FnA P w K mg base (Room k) f fd ps sp := ⟨F.len, F.run⟩
theorem FnA.to {k : Nat} {f : Addr} {fd : FuncData} {ps : List Str} {sp : Sp} (F : FnA P w K mg base R f fd ps sp) (h : ∀ A, Room k A → R A) : FnOk P w K mg base CX0 k f fd ps sp := ⟨F.len, fun A o s H a us vs Q E hr => F.run A o s H a us vs Q E (h A hr)⟩
theorem okA {x qual : Str} {st : Stmt} {f : Addr} {fd : FuncData} {N ps : List Str} {sp : Sp} (F : Fun K x qual st f fd) (S : FnScope N ps (defScope st)) (hR : ∀ A, R A → A.handled = none ∧ A.depth < recursionLimit) (len : ∀ vs H Q E, sp vs H Q E → vs.length = ps.length)
    (hbody : ∀ (cdv : Value) (A : Around) (outer : List Env) (s : Shared) (H : Hp) (vs : List V) (Q : VK) (E : XK), R A → sp vs H Q E →
      ∃ t, PSs (cxOf CX0 P w K mg base N qual (defScope st) f cdv A outer s H E).nox (defBody st) t ∧ t { nx := fun _ H' => Q .non H', rt := Q } (start N vs) H) : FnA P w K mg base R f fd ps sp := by
  obtain ⟨oc, od, kV, doc, pm, an, cdv, ct, osl, rfl, lk, hcd⟩ := F.ex
  refine ⟨len, fun A outer s H args us vs Q E hA e0 hb r hsp => ?_⟩
  obtain ⟨hh, hdepth⟩ := hR A hA
  have inK : K.In s.heap := e0.mod.kin.keeps fun b o e => (e0.bs b o e).1
  have noLim : s.heap.NoLimit := e0.mod.nolimit.keeps fun b o e => (e0.bs b o e).1
  have params : ∀ y ∈ ps.zip us, (defScope st).names.lookup y.1 = some .local ∨ ((defScope st).names.lookup y.1 = some .cell ∧ ((cellsFrom (s.heap.objs.size + 1) (defScope st).names []).lookup y.1).isSome = true) := by
    rintro ⟨n, v⟩ hy
    exact (S.par n (List.of_mem_zip hy).1).elim .inl fun q => .inr ⟨q, PySem.W.cellsFrom_some _ _ _ (.inl q)⟩
  refine codeAny_call_function hdepth (inK _ _ lk) rfl S.co S.gen rfl (PySem.W.codeRec_of inK hcd) (hb _ _ _ _ (wpAny_newFunctionEnv_cells S.kind params ?_))
  rintro env rfl s1 x
  refine ⟨noLim.keeps x.toInCall.keep, codeAny_func ?_⟩
  obtain ⟨t, ht, hq⟩ := hbody cdv A outer s H vs Q E hA hsp
  have I1 := inv_start (CX := CX0) (E := E) S hh e0 (len _ _ _ _ hsp) r x
  refine wpAny_mono (ht.nox.run [] s1 (start N vs) H _ I1 hq) (fun fl s2 => ?_) fun _ _ z => z
  cases fl with
  | ret u => exact fun ⟨v, _, H2, J, rv, q⟩ => ⟨v, H2, J.os, J.bare, J.base, J.hok, rv, q⟩
  | next => exact fun ⟨_, H2, J, q⟩ => ⟨V.non, H2, J.os, J.bare, J.base, J.hok, rfl, q⟩
  | brk => exact fun ⟨_, _, _, q⟩ => False.elim q
  | cont => exact fun ⟨_, _, _, q⟩ => False.elim q
structure CalA (P : Program) (w : World) (K : PySem.W.Frag) (mg : Str → Option Value) (base : Heap) (R : Around → Prop) (x : Str) (ps : List Str) (sp : Sp) : Prop where
  ex : ∃ (f : Addr) (fd : FuncData), FnA P w K mg base R f fd ps sp ∧ mg x = some (.ref f) ∧ PySem.W.keepIn K (.ref f) = true ∧ Binds K fd ps []
end
section
variable {X : Cx} {x : Str} {p pos : Pos} {e : Expr} {es : List Expr} {t : TA} {R : Around → Prop} {ps : List Str} {sp : Sp}
theorem pe_cA (c : CalA X.prog X.w X.K X.mg X.base R x ps sp) (hr : R X.A) (ha : PA X (e :: es) t) (hg : Gl X x := by rfl) (hdb : (x == ("__debug__" : Str)) = false := by decide)
    (he : starEach (e :: es) X.env = (false, eval e X.env) :: starEach es X.env := by rfl) (hpl : (backTo pos (starEach es X.env)).any (·.1) = false := by rfl) : PE X (.Call (.Name x p) (e :: es) [] pos) (tCall sp [] E0 t) := by
  obtain ⟨f, fd, F, hm, kp, b⟩ := c.ex
  refine ⟨fun pins s σ H Q I h => wpAny_Call_Name_kw (ld_glob I hg hm ?_ hdb)⟩
  refine PySem.W.callWith_K (h₀ := X.base) I.ok.mod.kin kp (thn (ha.run pos pins s σ H _ I h) fun us s1 z => ?_) he hpl
  obtain ⟨vs, H1, I1, r, q⟩ := z
  refine ⟨I1.kIn, wpAny_call (codeAny_mono (F.run X.A X.stack s1 H1 ⟨us, []⟩ us vs Q E0 hr I1.env0 ?_ r ?_) fun r1 s2 hq => ?_)⟩
  · have := b s1 us I1.kIn (by rw [List.append_nil, ← r.length]; exact F.len _ _ _ _ (by simpa using q))
    rwa [List.append_nil] at this
  · simpa using q
  · cases r1 with
    | error e => exact pass0 pins σ H1 s1 e s2 I1 hq
    | ok fl => cases fl with
      | ret u => exact I1.after hq
      | next => exact False.elim hq
      | brk => exact False.elim hq
      | cont => exact False.elim hq
end
def qNeg : V → Hp → VK → Prop := fun x H Q => match x with
  | .int i => Q (.int (-i)) H
  | _ => False
theorem yneg {X : Cx} : UnR X (unaryOp .USub) qNeg := fun pins s σ H x v Q I rx h => un_neg pins s σ H x v Q I rx (by
  unfold qNeg at h
  split at h
  · exact ⟨_, rfl, h⟩
  · exact h.elim)
/-- a comprehension that makes g' y of each y -/
theorem lc_vals {α : Type} {f : α → Yd} (g' : α → V) {as : List α} {keep : Hp → Prop} {g : TG} {te : TE} {vs : List Nat} {σ : L2.St} {D : Addr} {H : Hp} {Q : Hp → Prop} (hD : H D = none) (hl : as.length ≤ 2000000) (hk : ∀ H', Same H H' → keep H')
    (step : ∀ y ∈ as, ∀ H', Same H H' → ∀ Fin : VK, (∀ H2, Same H' H2 → Fin (g' y) H2) → yv (f y) (fun x H1 => g x (wipe σ vs) H1 fun σ2 H2 => wipe σ2 vs = wipe σ vs ∧ te σ2 H2 Fin) H')
    (done : ∀ H', Same H H' → H' D = some (.lst (as.map g')) → Q H') : LoopC (as.map f) keep g tYes te vs σ D H Q := by
  refine ⟨α, f, as, fun r H' => ∃ dn, as = dn ++ r ∧ Same H H' ∧ H' D = some (.lst (dn.map g')), rfl, ⟨[], rfl, same_new hD _, upd_same⟩, ?_, ?_, ?_⟩
  · rintro r H' ⟨dn, _, s, _⟩
    exact hk H' s
  · rintro y r H' ⟨dn, hd, s, h1⟩
    refine step y (by rw [hd]; simp) H' s _ fun H2 s2 => ?_
    show match H2 D with
      | some (.lst acc) => acc.length < sizeLine ∧ _
      | _ => False
    have hn := congrArg List.length hd
    rw [List.length_append, List.length_cons] at hn
    rw [s2 _ _ h1]
    refine ⟨sz_lt (by rw [List.length_map]; omega), dn ++ [y], by rw [hd]; simp, same_upd (s.trans s2) hD _, ?_⟩
    rw [upd_same, List.map_append]
    rfl
  · rintro H' ⟨dn, hd, s, h1⟩
    rw [List.append_nil] at hd
    subst hd
    exact done H' s h1
theorem bls_map (bs : List Bool) : blsOf (bs.map V.bl) = some bs := by
  induction bs with
  | nil => rfl
  | cons b r ih => rw [List.map_cons, blsOf, ih]; rfl
theorem bls_mapf {α : Type} (f : α → Bool) (l : List α) : blsOf (l.map fun x => V.bl (f x)) = some (l.map f) := by
  rw [← bls_map, List.map_map]
  rfl
theorem xtchain {X : Cx} {a b c : Expr} {op op' : CmpOp} {r r' : R2} {ta tb tc : TE} {pos : Pos} (ho : OpR X (compareOp op) r) (ho' : OpR X (compareOp op') r') (ha : PE X a ta) (hb : PE X b tb) (hc : PE X c tc) (hm : lastMarks [op, op'] [b, c] = false := by rfl) : PT X (.Compare a [op, op'] [b, c] pos) (qT (qChain r r' ta tb tc)) := by
  have h0 := pt_chain (pos := pos) (op_upr ho) (op_upr ho') (pe_up ha) (pe_up hb) (pe_up hc) hm
  refine ⟨fun pins s σ H Q I h => h0.run pins s σ H Q I ?_⟩
  refine up_of h fun x H1 q1 => up_of q1 fun y H2 q2 => ⟨_, q2, fun z H3 q3 => ?_⟩
  unfold isBl at q3
  split at q3
  · next k =>
    refine ⟨k, rfl, ?_⟩
    split
    · next hk =>
      rw [if_pos hk] at q3
      refine up_of q3 fun w H4 q4 => ⟨_, q4, fun v H5 z => ?_⟩
      unfold asB at z
      split at z
      · exact ⟨_, rfl, z⟩
      · exact z.elim
    · next hk =>
      rw [if_neg hk] at q3
      exact ⟨_, rfl, q3⟩
  · exact q3.elim
/-- a statement, and a word of one's own between it and what follows -/
def tMid (t : TS) : TS := fun D σ H => ∃ Mid : L2.St → Hp → Prop, t { D with nx := Mid } σ H ∧ ∀ σ' H', Mid σ' H' → D.nx σ' H'
theorem ps_mid {X : Cx} {st : Stmt} {t : TS} (h : PS X st t) : PS X st (tMid t) := ⟨fun pins s σ H D I q => by
  obtain ⟨Mid, q1, q2⟩ := q
  refine thn (h.run pins s σ H _ I q1) fun fl s1 z => ?_
  cases fl with
  | next =>
    obtain ⟨σ1, H1, J, w⟩ := z
    exact ⟨σ1, H1, J, q2 _ _ w⟩
  | ret u => exact z
  | brk => exact z
  | cont => exact z⟩
end Fk
/-! ### Fk12: == of data whose texts may hold anything; a text beside a tuple -/
namespace Fk
open PySem PySem.Spec PyProof.Rows L2
def qEqP (K : PySem.W.Frag) (b : Bool) : R2 := fun x y H Q => match x, y with
  | .ref p, .ref q => ∃ d e, Dp K H (.ref p) d ∧ Dp K H (.ref q) e ∧ d.plain = true ∧ e.plain = true ∧ min d.depth e.depth ≤ 60 ∧ Q (.bl (PyData.eqv d e == b)) H
  | .str _, .ref q => ∃ xs, SqT K H q xs ∧ Q (.bl (!b)) H
  | x, y => qEq K b x y H Q
def qNeP (K : PySem.W.Frag) : R2 := fun x y H Q => match x, y with
  | .ref p, .ref q => ∃ d e, Dp K H (.ref p) d ∧ Dp K H (.ref q) e ∧ d.plain = true ∧ e.plain = true ∧ min d.depth e.depth ≤ 60 ∧ Q (.bl (!PyData.eqv d e)) H
  | x, y => qEq K false x y H Q
section
variable {K : PySem.W.Frag} {H : Hp} {Q : VK} {p q : Addr} {x y : Str} {b : Bool}
theorem qEqP_rr : qEqP K b (.ref p) (.ref q) H Q = ∃ d e, Dp K H (.ref p) d ∧ Dp K H (.ref q) e ∧ d.plain = true ∧ e.plain = true ∧ min d.depth e.depth ≤ 60 ∧ Q (.bl (PyData.eqv d e == b)) H := rfl
theorem qEqP_sr : qEqP K b (.str x) (.ref q) H Q = ∃ xs, SqT K H q xs ∧ Q (.bl (!b)) H := rfl
theorem qEqP_ss : qEqP K b (.str x) (.str y) H Q = Q (.bl (decide (x = y) == b)) H := rfl
theorem qNeP_rr : qNeP K (.ref p) (.ref q) H Q = ∃ d e, Dp K H (.ref p) d ∧ Dp K H (.ref q) e ∧ d.plain = true ∧ e.plain = true ∧ min d.depth e.depth ≤ 60 ∧ Q (.bl (!PyData.eqv d e)) H := rfl
end
section
variable {X : Cx}
theorem yeqP {K : PySem.W.Frag} (hu : X.A.units + 64 < cLine := by assumption) (hK : X.K = K := by rfl) : OpR X (compareOp .Eq) (qEqP K true) := by
  subst hK
  intro pins s σ H x y v u Q I rx ry h
  unfold qEqP at h
  split at h
  · obtain ⟨d, e, hd, he, sd, se, hm, q⟩ := h
    obtain ⟨as, r1⟩ := Dp.reads I d _ v hd rx
    obtain ⟨bs, r2⟩ := Dp.reads I e _ u he ry
    rw [eqb_t] at q
    exact SeqAt.eq_plain r1 r2 sd se (by omega) ⟨.bl _, H, I, rfl, q⟩
  · obtain ⟨xs, ht, q⟩ := h
    obtain ⟨t, rfl⟩ := rx
    cases ry
    obtain ⟨its, rv, hi, _⟩ := I.tuple ht
    exact SeqAt.RcAt.str_tuple _ t hi (by omega) _ _ _ _ ⟨.bl _, H, I, rfl, q⟩
  · exact yeq (X := X) hu rfl pins s σ H _ _ v u Q I rx ry h
theorem yneP {K : PySem.W.Frag} (hu : X.A.units + 64 < cLine := by assumption) (hK : X.K = K := by rfl) : OpR X (compareOp .NotEq) (qNeP K) := by
  subst hK
  intro pins s σ H x y v u Q I rx ry h
  unfold qNeP at h
  split at h
  · obtain ⟨d, e, hd, he, sd, se, hm, q⟩ := h
    obtain ⟨as, r1⟩ := Dp.reads I d _ v hd rx
    obtain ⟨bs, r2⟩ := Dp.reads I e _ u he ry
    exact SeqAt.ne_plain r1 r2 sd se (by omega) ⟨.bl _, H, I, rfl, q⟩
  · exact yne (X := X) hu rfl pins s σ H _ _ v u Q I rx ry h
end
end Fk
/-! ### Fk13: zip of tuples, data with lists that stay -/
namespace Fk
open PySem PySem.Spec PyProof.Rows L2
def wZipA (ta tb : TE) : TW := fun σ H R => ta σ H fun x H1 => tb σ H1 fun y H2 => match x, y with
  | .ref a, .ref b => (∃ xs ys, H2 a = some (.lst xs) ∧ H2 b = some (.lst ys) ∧ R ((xs.zip ys).map ydP) (fun H => H a = some (.lst xs) ∧ H b = some (.lst ys)) H2) ∨
      (∃ xs ys, H2 a = some (.tup xs) ∧ H2 b = some (.tup ys) ∧ R ((xs.zip ys).map ydP) (fun H => H a = some (.tup xs) ∧ H b = some (.tup ys)) H2)
  | _, _ => False
theorem gives_zipT {K : PySem.W.Frag} {a b : Addr} {xs ys : List V} : Gives (RZ.ItzT K a b) ((xs.zip ys).map ydP) fun H => SqT K H a xs ∧ SqT K H b ys := by
  refine ⟨YPair (fun i => xs[i]?) (fun i => ys[i]?), ⟨fun i _ hi q => ?_, fun _ q => ⟨xs, ys, q.1, q.2, by rw [List.length_map, List.length_zip]; omega⟩, fun i H v H' _ q y => ?_⟩, ?_⟩
  · rw [List.length_map, List.length_zip] at hi
    have h1 : i < xs.length := by omega
    have h2 : i < ys.length := by omega
    exact ⟨xs, ys, xs[i], ys[i], q.1, q.2, by simp [h1], by simp [h2]⟩
  · obtain ⟨T, x, z, h1, h2, h3, h4, h5⟩ := y
    exact ⟨T, x, z, h1, h2, h3, h4 xs q.1, h5 ys q.2⟩
  intro i y H x H' k hy q z
  obtain ⟨T, u, v, rfl, hT, rfl, e1, e2⟩ := q
  rw [List.getElem?_map] at hy
  cases e : (xs.zip ys)[i]? with
  | none => rw [e] at hy; cases hy
  | some p =>
    rw [e] at hy
    obtain ⟨e3, e4⟩ := zip_get _ _ _ _ e
    have e1' : xs[i]? = some u := e1
    have e2' : ys[i]? = some v := e2
    rw [e3] at e1'
    rw [e4] at e2'
    cases e1'
    cases e2'
    cases hy
    exact z T hT
section
variable {X : Cx} {a b : Expr} {ta tb : TE} {p pos : Pos}
theorem xizipA {elts : List Expr} {kk : Nat} {tpos : Pos} (hm : X.mg "zip" = none) (ha : PE X a ta) (hb : PE X b tb) (hg : Gl X "zip" := by rfl) (h2 : starEach [b] X.env = (false, eval b X.env) :: starEach [] X.env := by rfl) (hs : starEach [a, b] X.env = (false, eval a X.env) :: starEach [b] X.env := by rfl)
    (hpl : (backTo pos (starEach [b] X.env)).any (·.1) = false := by rfl) : PIW X (.Tuple elts kk tpos) (.Call (.Name "zip" p) [a, b] [] pos) (wZipA ta tb) :=
  ⟨_, RZ.pi_zipA hg hm (pa_cons (pe_up ha) (pa_cons (pe_up hb) pa_nil h2) hs) hs hpl, fun σ H R R' h i => up_of h fun v H1 q => up_of q fun v2 H2 q => by
  split at q
  · rcases q with ⟨xs, ys, e1, e2, q⟩ | ⟨xs, ys, e1, e2, q⟩
    · exact ⟨_, _, _, _, rfl, .inl ⟨.inl (.inl e1), .inl (.inl e2), i _ _ _ _ (Gives.imp gives_zip fun H h => ⟨by rw [h.1]; rfl, by rw [h.2]; rfl⟩) q⟩⟩
    · exact ⟨_, _, _, _, rfl, .inr ⟨.inl (.inl e1), .inl (.inl e2), i _ _ _ _ (Gives.imp gives_zipT fun H h => ⟨.inl (.inl h.1), .inl (.inl h.2)⟩) q⟩⟩
  · exact q.elim⟩
end
/-! data of lists and tuples that stay as they are -/
mutual
inductive Ld (H : Hp) : V → PyData → Prop
  | non : Ld H .non .none
  | bl (b : Bool) : Ld H (.bl b) (.bool b)
  | int (i : Int) : Ld H (.int i) (.int i)
  | str (x : Str) : Ld H (.str x) (.str x)
  | lst {a : Addr} {xs : List V} {ds : List PyData} : H a = some (.lst xs) → Lds H xs ds → Ld H (.ref a) (.list ds)
  | tup {a : Addr} {xs : List V} {ds : List PyData} : H a = some (.tup xs) → Lds H xs ds → Ld H (.ref a) (.tuple ds)
inductive Lds (H : Hp) : List V → List PyData → Prop
  | nil : Lds H [] []
  | cons {v : V} {vs : List V} {d : PyData} {ds : List PyData} : Ld H v d → Lds H vs ds → Lds H (v :: vs) (d :: ds)
end
mutual
theorem Ld.mono {H H' : Hp} (k : Same H H') : ∀ {v : V} {d : PyData}, Ld H v d → Ld H' v d
  | _, _, .non => .non
  | _, _, .bl b => .bl b
  | _, _, .int i => .int i
  | _, _, .str x => .str x
  | _, _, .lst h r => .lst (k _ _ h) (Lds.mono k r)
  | _, _, .tup h r => .tup (k _ _ h) (Lds.mono k r)
theorem Lds.mono {H H' : Hp} (k : Same H H') : ∀ {vs : List V} {ds : List PyData}, Lds H vs ds → Lds H' vs ds
  | _, _, .nil => .nil
  | _, _, .cons h r => .cons (Ld.mono k h) (Lds.mono k r)
end
mutual
theorem Tp.ld {H : Hp} : ∀ {v : V} {d : PyData}, Tp H v d → Ld H v d
  | _, _, .non => .non
  | _, _, .bl b => .bl b
  | _, _, .int i => .int i
  | _, _, .str x => .str x
  | _, _, .tup h r => .tup h (Tps.lds r)
theorem Tps.lds {H : Hp} : ∀ {vs : List V} {ds : List PyData}, Tps H vs ds → Lds H vs ds
  | _, _, .nil => .nil
  | _, _, .cons h r => .cons (Tp.ld h) (Tps.lds r)
end
mutual
theorem Ld.dp {K : PySem.W.Frag} {H : Hp} : ∀ {v : V} {d : PyData}, Ld H v d → Dp K H v d
  | _, _, .non => .non
  | _, _, .bl b => .bl b
  | _, _, .int i => .int i
  | _, _, .str x => .str x
  | _, _, .lst h r => .lst (.inl (.inl h)) (Lds.dp r)
  | _, _, .tup h r => .tup (.inl (.inl h)) (Lds.dp r)
theorem Lds.dp {K : PySem.W.Frag} {H : Hp} : ∀ {vs : List V} {ds : List PyData}, Lds H vs ds → DpAll K H vs ds
  | _, _, .nil => .nil
  | _, _, .cons h r => .cons (Ld.dp h) (Lds.dp r)
end
theorem Lds.length {H : Hp} : ∀ {vs : List V} {ds : List PyData}, Lds H vs ds → vs.length = ds.length
  | _, _, .nil => rfl
  | _, _, .cons _ r => congrArg (· + 1) (Lds.length r)
theorem Lds.append {H : Hp} : ∀ {vs us : List V} {ds es : List PyData}, Lds H vs ds → Lds H us es → Lds H (vs ++ us) (ds ++ es)
  | _, _, _, _, .nil, s => s
  | _, _, _, _, .cons h r, s => .cons h (Lds.append r s)
theorem lds_zip {H : Hp} : ∀ {xs ys : List V} {ds : List PyData}, Lds H xs ds → Lds H ys ds → ∀ p ∈ xs.zip ys, ∃ d, d ∈ ds ∧ Ld H p.1 d ∧ Ld H p.2 d
  | _, _, _, .nil, .nil, p, h => by cases h
  | _, _, _, .cons h r, .cons h' r', p, hp => by
    rw [List.zip_cons_cons, List.mem_cons] at hp
    rcases hp with rfl | hp
    · exact ⟨_, by simp, h, h'⟩
    · obtain ⟨d, h1, h2⟩ := lds_zip r r' p hp
      exact ⟨d, List.mem_cons_of_mem _ h1, h2⟩
theorem lds_strs {H : Hp} : ∀ l : List Str, Lds H (l.map V.str) (l.map PyData.str)
  | [] => .nil
  | x :: r => .cons (.str x) (lds_strs r)
theorem lds_ints {H : Hp} : ∀ l : List Int, Lds H (l.map V.int) (l.map PyData.int)
  | [] => .nil
  | x :: r => .cons (.int x) (lds_ints r)
/-- ints, texts, lists and tuples of these, not deeper than n -/
def okN : Nat → PyData → Bool
  | _, .int _ => true
  | _, .str _ => true
  | n + 1, .tuple ds => decide (ds.length ≤ 1000) && ds.all (okN n)
  | n + 1, .list ds => decide (ds.length ≤ 1000) && ds.all (okN n)
  | _, _ => false
theorem okN_int {n : Nat} {i : Int} : okN n (.int i) = true := by cases n <;> rfl
theorem okN_str {n : Nat} {x : Str} : okN n (.str x) = true := by cases n <;> rfl
theorem okN_mono : ∀ {n m : Nat} {d : PyData}, n ≤ m → okN n d = true → okN m d = true
  | n, m, .int i, _, _ => okN_int
  | n, m, .str x, _, _ => okN_str
  | n + 1, m + 1, .tuple ds, h, e => by
    simp only [okN, Bool.and_eq_true, List.all_eq_true] at e ⊢
    exact ⟨e.1, fun x hx => okN_mono (Nat.le_of_succ_le_succ h) (e.2 x hx)⟩
  | n + 1, m + 1, .list ds, h, e => by
    simp only [okN, Bool.and_eq_true, List.all_eq_true] at e ⊢
    exact ⟨e.1, fun x hx => okN_mono (Nat.le_of_succ_le_succ h) (e.2 x hx)⟩
  | 0, _, .tuple ds, _, e => by cases e
  | 0, _, .list ds, _, e => by cases e
  | 0, _, .none, _, e => by cases e
  | 0, _, .bool _, _, e => by cases e
  | 0, _, .dict _, _, e => by cases e
  | n + 1, _, .none, _, e => by cases e
  | n + 1, _, .bool _, _, e => by cases e
  | n + 1, _, .dict _, _, e => by cases e
  | n + 1, 0, .tuple ds, h, e => by omega
  | n + 1, 0, .list ds, h, e => by omega
end Fk
/-! the reader's mirror: plain functions over words -/
namespace Fk
open PySem L2
def ch (c : Nat) : Str := ⟨#[c]⟩
def seps : List Nat := [40, 41, 32, 10]
def wflush (ws : List Str) (run : Str) : List Str := if run = "" then ws else ws ++ [run]
def wstep (s : List Str × Str) (c : Nat) : List Str × Str :=
  if c ∈ seps then (if c = 40 ∨ c = 41 then wflush s.1 s.2 ++ [ch c] else wflush s.1 s.2, "") else (s.1, s.2 ++ ch c)
def wordsFrom (s : List Str × Str) (cs : List Nat) : List Str := wflush (cs.foldl wstep s).1 (cs.foldl wstep s).2
def wordsOf (cs : List Nat) : List Str := wordsFrom ([], "") cs
def lettersS : Str := "abcdefghijklmnopqrstuvwxyz"
def figuresS : Str := "0123456789"
def keptS : List Str := ["def", "fn", "call", "let", "rec", "get", "tag", "case", "row", "at", "join", "size", "add", "sub", "less"]
def isName (w : Str) : Bool :=
  !(decide (w.length = 0) || decide (12 < w.length) || decide (w ∈ keptS)) && (match w.cps.toList with
    | [] => false
    | c :: _ => decide (c ∈ lettersS.cps.toList)) && w.cps.toList.all fun c => decide (c ∈ lettersS.cps.toList) || decide (c ∈ figuresS.cps.toList)
def isNumber (w : Str) : Bool :=
  !(decide (w.length = 0) || decide (60 < w.length)) && (w.cps.toList.all fun c => decide (c ∈ figuresS.cps.toList)) && (match w.cps.toList with
    | [] => false
    | c :: _ => !decide (ch c = "0") || decide (w = "0"))
def numOf (w : Str) : Int := (PySem.intText? w).getD 0
abbrev Rows := List PyData
abbrev RS := List Str × Rows
def taken (ws : List Str) : Option (Str × List Str) := match ws with
  | [] => none
  | w :: r => if w = "" then none else some (w, r)
theorem taken_some {ws r : List Str} {w : Str} (h : taken ws = some (w, r)) : ws = w :: r ∧ w ≠ "" := by
  cases ws with
  | nil => cases h
  | cons x l =>
    unfold taken at h
    simp only at h
    split at h
    · cases h
    · next h2 => cases h; exact ⟨rfl, h2⟩
def ahead (ws : List Str) : Str := match ws with
  | [] => ""
  | w :: _ => w
def want (x : Str) (ws : List Str) : Option (List Str) := match taken ws with
  | none => none
  | some (w, r) => if w = x then some r else none
def named (ws : List Str) : Option (Str × List Str) := match taken ws with
  | none => none
  | some (w, r) => if isName w then some (w, r) else none
abbrev RE := List Str → Rows → Option (Nat × List Str × Rows)
/-- names and EXPRs by a pattern's codes -/
def pieces (ex : RE) : List Nat → List Str → Rows → Option (List PyData × List Str × Rows)
  | [], ws, rows => some ([], ws, rows)
  | c :: cs, ws, rows =>
    if c = 120 then (match named ws with
      | none => none
      | some (w, ws) => (match pieces ex cs ws rows with
        | none => none
        | some (ps, ws, rows) => some (.str w :: ps, ws, rows)))
    else (match ex ws rows with
      | none => none
      | some (p, ws, rows) => (match pieces ex cs ws rows with
        | none => none
        | some (ps, ws, rows) => some (.int (p : Int) :: ps, ws, rows)))
def many (ex : RE) (pat : List Nat) : Nat → List Str → Rows → Option (List PyData × List Str × Rows)
  | k, ws, rows =>
    if ahead ws = ")" then some ([], ws, rows)
    else match k with
      | 0 => none
      | k + 1 => (match pieces ex pat ws rows with
        | none => none
        | some (ps, ws, rows) => (match many ex pat k ws rows with
          | none => none
          | some (qs, ws, rows) => some (.tuple ps :: qs, ws, rows)))
theorem many_end {ex : RE} {pat : List Nat} {k : Nat} {ws : List Str} {rows : Rows} (h : ahead ws = ")") : many ex pat k ws rows = some ([], ws, rows) := by
  cases k <;> simp only [many, if_pos h]
theorem many_zero {ex : RE} {pat : List Nat} {ws : List Str} {rows : Rows} (h : ¬ ahead ws = ")") : many ex pat 0 ws rows = none := by
  simp only [many, if_neg h]
theorem many_succ {ex : RE} {pat : List Nat} {k : Nat} {ws : List Str} {rows : Rows} (h : ¬ ahead ws = ")") : many ex pat (k + 1) ws rows = (match pieces ex pat ws rows with
        | none => none
        | some (ps, ws, rows) => (match many ex pat k ws rows with
          | none => none
          | some (qs, ws, rows) => some (.tuple ps :: qs, ws, rows))) := by
  simp only [many, if_neg h]
theorem many_one {ex : RE} : ∀ {k : Nat} {ws ws' : List Str} {rows rows' : Rows} {ps : List PyData}, many ex [101] k ws rows = some (ps, ws', rows') → ∀ d ∈ ps, ∃ p : Int, d = .tuple [.int p] := by
  intro k
  induction k with
  | zero =>
    intro ws ws' rows rows' ps h
    by_cases ha : ahead ws = ")"
    · rw [many_end ha] at h
      cases h
      intro d hd
      cases hd
    · rw [many_zero ha] at h
      cases h
  | succ k ih =>
    intro ws ws' rows rows' ps h
    by_cases ha : ahead ws = ")"
    · rw [many_end ha] at h
      cases h
      intro d hd
      cases hd
    · rw [many_succ ha] at h
      have e : pieces ex [101] ws rows = (match ex ws rows with
        | none => none
        | some (p, ws, rows) => some ([.int (p : Int)], ws, rows)) := by
        simp only [pieces]
        rfl
      rw [e] at h
      cases hx : ex ws rows with
      | none => rw [hx] at h; cases h
      | some t =>
        rw [hx] at h
        simp only at h
        cases hm : many ex [101] k t.2.1 t.2.2 with
        | none => rw [hm] at h; cases h
        | some u =>
          rw [hm] at h
          cases h
          intro d hd
          rcases List.mem_cons.mp hd with rfl | hd
          · exact ⟨_, rfl⟩
          · exact ih hm d hd
theorem pieces_le {ex : RE} : ∀ {pat : List Nat} {ws ws' : List Str} {rows rows' : Rows} {ps : List PyData}, pieces ex pat ws rows = some (ps, ws', rows') → ps.length = pat.length
  | [], ws, ws', rows, rows', ps, h => by
    simp only [pieces] at h
    cases h
    rfl
  | c :: cs, ws, ws', rows, rows', ps, h => by
    simp only [pieces] at h
    split at h
    · cases hx : named ws with
      | none => rw [hx] at h; cases h
      | some t =>
        rw [hx] at h
        simp only at h
        cases hm : pieces ex cs t.2 rows with
        | none => rw [hm] at h; cases h
        | some u =>
          rw [hm] at h
          cases h
          exact congrArg (· + 1) (pieces_le hm)
    · cases hx : ex ws rows with
      | none => rw [hx] at h; cases h
      | some t =>
        rw [hx] at h
        simp only at h
        cases hm : pieces ex cs t.2.1 t.2.2 with
        | none => rw [hm] at h; cases h
        | some u =>
          rw [hm] at h
          cases h
          exact congrArg (· + 1) (pieces_le hm)
theorem many_le {ex : RE} {pat : List Nat} : ∀ {k : Nat} {ws ws' : List Str} {rows rows' : Rows} {ps : List PyData}, many ex pat k ws rows = some (ps, ws', rows') → ps.length ≤ k := by
  intro k
  induction k with
  | zero =>
    intro ws ws' rows rows' ps h
    by_cases ha : ahead ws = ")"
    · rw [many_end ha] at h
      cases h
      exact Nat.le_refl _
    · rw [many_zero ha] at h
      cases h
  | succ k ih =>
    intro ws ws' rows rows' ps h
    by_cases ha : ahead ws = ")"
    · rw [many_end ha] at h
      cases h
      exact Nat.zero_le _
    · rw [many_succ ha] at h
      cases hx : pieces ex pat ws rows with
      | none => rw [hx] at h; cases h
      | some t =>
        rw [hx] at h
        simp only at h
        cases hm : many ex pat k t.2.1 t.2.2 with
        | none => rw [hm] at h; cases h
        | some u =>
          rw [hm] at h
          cases h
          exact Nat.succ_le_succ (ih hm)
def patternOf (h : Str) : Option (List Nat) :=
  if h = "fn" ∨ h = "tag" then some [120, 101]
  else if h = "let" then some [120, 101, 101]
  else if h = "get" then some [101, 120]
  else if h = "size" then some [101]
  else if h = "at" then some [101, 101, 101]
  else if h ∈ (["call", "join", "add", "sub", "less"] : List Str) then some [101, 101]
  else none
def firstOf : PyData → PyData
  | .tuple (x :: _) => x
  | _ => .none
def form (ex : RE) (ws : List Str) (rows : Rows) : Option (PyData × List Str × Rows) := match taken ws with
  | none => none
  | some (h, ws) =>
    if h = "rec" then (match many ex [120, 101] 6 ws rows with
      | none => none
      | some (ps, ws, rows) => some (.tuple [.str h, .tuple ps], ws, rows))
    else if h = "row" then (match many ex [101] 8 ws rows with
      | none => none
      | some (ps, ws, rows) => some (.tuple [.str h, .tuple (ps.map firstOf)], ws, rows))
    else if h = "case" then (match ex ws rows with
      | none => none
      | some (p, ws, rows) => (match many ex [120, 120, 101] 6 ws rows with
        | none => none
        | some (ps, ws, rows) => if ps = [] then none else some (.tuple [.str h, .int (p : Int), .tuple ps], ws, rows)))
    else (match patternOf h with
      | none => none
      | some pat => (match pieces ex pat ws rows with
        | none => none
        | some (ps, ws, rows) => some (.tuple (.str h :: ps), ws, rows)))
/-- the EXPR at depth d; n more depths are in reach -/
def expr : Nat → Nat → RE
  | 0, _, _, _ => none
  | n + 1, d, ws, rows =>
    if 24 < d ∨ 160 ≤ rows.length then none
    else (match taken ws with
      | none => none
      | some (w, ws) =>
        if w = "(" then (match form (expr n (d + 1)) ws (rows ++ [.none]) with
          | none => none
          | some (row, ws, rows') => (match want ")" ws with
            | none => none
            | some ws => some (rows.length, ws, rows'.set rows.length row)))
        else if isNumber w then some (rows.length, ws, rows ++ [.tuple [.str "num", .int (numOf w)]])
        else if isName w then some (rows.length, ws, rows ++ [.tuple [.str "name", .str w]])
        else none)
theorem expr_deep {n d : Nat} {ws : List Str} {rows : Rows} (h : 24 < d) : expr n d ws rows = none := by
  cases n with
  | zero => rfl
  | succ n => rw [expr, if_pos (.inl h)]
theorem expr_full {n d : Nat} {ws : List Str} {rows : Rows} (h : 160 ≤ rows.length) : expr n d ws rows = none := by
  cases n with
  | zero => rfl
  | succ n => rw [expr, if_pos (.inr h)]
theorem expr_go {n d : Nat} {ws : List Str} {rows : Rows} (h : ¬ 24 < d) (h2 : ¬ 160 ≤ rows.length) : expr (n + 1) d ws rows = (match taken ws with
      | none => none
      | some (w, ws) =>
        if w = "(" then (match form (expr n (d + 1)) ws (rows ++ [.none]) with
          | none => none
          | some (row, ws, rows') => (match want ")" ws with
            | none => none
            | some ws => some (rows.length, ws, rows'.set rows.length row)))
        else if isNumber w then some (rows.length, ws, rows ++ [.tuple [.str "num", .int (numOf w)]])
        else if isName w then some (rows.length, ws, rows ++ [.tuple [.str "name", .str w]])
        else none) := by
  rw [expr, if_neg (by omega)]
/-- an EXPR leaves more rows -/
def Grow (ex : RE) : Prop := ∀ ws rows p ws' rows', ex ws rows = some (p, ws', rows') → rows.length < rows'.length
theorem pieces_grow {ex : RE} (g : Grow ex) : ∀ {pat : List Nat} {ws ws' : List Str} {rows rows' : Rows} {ps : List PyData}, pieces ex pat ws rows = some (ps, ws', rows') → rows.length ≤ rows'.length
  | [], ws, ws', rows, rows', ps, h => by
    simp only [pieces] at h
    cases h
    exact Nat.le_refl _
  | c :: cs, ws, ws', rows, rows', ps, h => by
    simp only [pieces] at h
    split at h
    · cases hx : named ws with
      | none => rw [hx] at h; cases h
      | some t =>
        rw [hx] at h
        simp only at h
        cases hm : pieces ex cs t.2 rows with
        | none => rw [hm] at h; cases h
        | some u =>
          rw [hm] at h
          cases h
          exact pieces_grow g hm
    · cases hx : ex ws rows with
      | none => rw [hx] at h; cases h
      | some t =>
        rw [hx] at h
        simp only at h
        cases hm : pieces ex cs t.2.1 t.2.2 with
        | none => rw [hm] at h; cases h
        | some u =>
          rw [hm] at h
          cases h
          exact Nat.le_trans (Nat.le_of_lt (g _ _ _ _ _ hx)) (pieces_grow g hm)
theorem many_grow {ex : RE} (g : Grow ex) {pat : List Nat} : ∀ {k : Nat} {ws ws' : List Str} {rows rows' : Rows} {ps : List PyData}, many ex pat k ws rows = some (ps, ws', rows') → rows.length ≤ rows'.length := by
  intro k
  induction k with
  | zero =>
    intro ws ws' rows rows' ps h
    by_cases ha : ahead ws = ")"
    · rw [many_end ha] at h
      cases h
      exact Nat.le_refl _
    · rw [many_zero ha] at h
      cases h
  | succ k ih =>
    intro ws ws' rows rows' ps h
    by_cases ha : ahead ws = ")"
    · rw [many_end ha] at h
      cases h
      exact Nat.le_refl _
    · rw [many_succ ha] at h
      cases hx : pieces ex pat ws rows with
      | none => rw [hx] at h; cases h
      | some t =>
        rw [hx] at h
        simp only at h
        cases hm : many ex pat k t.2.1 t.2.2 with
        | none => rw [hm] at h; cases h
        | some u =>
          rw [hm] at h
          cases h
          exact Nat.le_trans (pieces_grow g hx) (ih hm)
theorem form_grow {ex : RE} (g : Grow ex) {ws ws' : List Str} {rows rows' : Rows} {row : PyData} (h : form ex ws rows = some (row, ws', rows')) : rows.length ≤ rows'.length := by
  unfold form at h
  cases ht : taken ws with
  | none => rw [ht] at h; cases h
  | some t =>
    rw [ht] at h
    simp only at h
    split at h
    · cases hm : many ex [120, 101] 6 t.2 rows with
      | none => rw [hm] at h; cases h
      | some u => rw [hm] at h; cases h; exact many_grow g hm
    · split at h
      · cases hm : many ex [101] 8 t.2 rows with
        | none => rw [hm] at h; cases h
        | some u => rw [hm] at h; cases h; exact many_grow g hm
      · split at h
        · cases hx : ex t.2 rows with
          | none => rw [hx] at h; cases h
          | some v =>
            rw [hx] at h
            simp only at h
            cases hm : many ex [120, 120, 101] 6 v.2.1 v.2.2 with
            | none => rw [hm] at h; cases h
            | some u =>
              rw [hm] at h
              simp only at h
              split at h
              · cases h
              · cases h
                exact Nat.le_trans (Nat.le_of_lt (g _ _ _ _ _ hx)) (many_grow g hm)
        · cases hp : patternOf t.1 with
          | none => rw [hp] at h; cases h
          | some pat =>
            rw [hp] at h
            simp only at h
            cases hm : pieces ex pat t.2 rows with
            | none => rw [hm] at h; cases h
            | some u => rw [hm] at h; cases h; exact pieces_grow g hm
theorem expr_grow : ∀ (n d : Nat), Grow (expr n d)
  | 0, d, ws, rows, p, ws', rows', h => by cases h
  | n + 1, d, ws, rows, p, ws', rows', h => by
    by_cases h1 : 24 < d
    · rw [expr_deep h1] at h; cases h
    · by_cases h2 : 160 ≤ rows.length
      · rw [expr_full h2] at h; cases h
      · rw [expr_go h1 h2] at h
        cases ht : taken ws with
        | none => rw [ht] at h; cases h
        | some t =>
          rw [ht] at h
          simp only at h
          split at h
          · cases hf : form (expr n (d + 1)) t.2 (rows ++ [.none]) with
            | none => rw [hf] at h; cases h
            | some u =>
              rw [hf] at h
              simp only at h
              cases hw : want ")" u.2.1 with
              | none => rw [hw] at h; cases h
              | some v =>
                rw [hw] at h
                cases h
                have := form_grow (expr_grow n (d + 1)) hf
                rw [List.length_append] at this
                rw [List.length_set]
                exact this
          · split at h
            · cases h
              rw [List.length_append]
              exact Nat.lt_succ_self _
            · split at h
              · cases h
                rw [List.length_append]
                exact Nat.lt_succ_self _
              · cases h
/-- the definitions, at most k more -/
def defs : Nat → List Str → Rows → Option (List Str × List Int × Rows)
  | k, ws, rows =>
    if ahead ws = "" then some ([], [], rows)
    else match k with
      | 0 => none
      | k + 1 => (match want "(" ws with
        | none => none
        | some ws => (match want "def" ws with
          | none => none
          | some ws => (match named ws with
            | none => none
            | some (x, ws) => (match expr 24 1 ws rows with
              | none => none
              | some (p, ws, rows) => (match want ")" ws with
                | none => none
                | some ws => (match defs k ws rows with
                  | none => none
                  | some (xs, ps, rows) => some (x :: xs, (p : Int) :: ps, rows)))))))
def readM (ws : List Str) : Option (List Str × List Int × Rows) := match defs 12 ws [] with
  | none => none
  | some (xs, ps, rows) => if xs = [] then none else some (xs, ps, rows)
theorem defs_end {k : Nat} {ws : List Str} {rows : Rows} (h : ahead ws = "") : defs k ws rows = some ([], [], rows) := by
  cases k <;> simp only [defs, if_pos h]
theorem defs_zero {ws : List Str} {rows : Rows} (h : ¬ ahead ws = "") : defs 0 ws rows = none := by
  simp only [defs, if_neg h]
theorem defs_succ {k : Nat} {ws : List Str} {rows : Rows} (h : ¬ ahead ws = "") : defs (k + 1) ws rows = (match want "(" ws with
        | none => none
        | some ws => (match want "def" ws with
          | none => none
          | some ws => (match named ws with
            | none => none
            | some (x, ws) => (match expr 24 1 ws rows with
              | none => none
              | some (p, ws, rows) => (match want ")" ws with
                | none => none
                | some ws => (match defs k ws rows with
                  | none => none
                  | some (xs, ps, rows) => some (x :: xs, (p : Int) :: ps, rows))))))) := by
  simp only [defs, if_neg h]
theorem wflush_len (ws : List Str) (run : Str) : (wflush ws run).length ≤ ws.length + 1 := by
  unfold wflush
  split
  · omega
  · rw [List.length_append]
    exact Nat.le_refl _
theorem words_len : ∀ (cs : List Nat) (ws : List Str) (run : Str), (wordsFrom (ws, run) cs).length ≤ ws.length + 2 * cs.length + 1
  | [], ws, run => by
    have := wflush_len ws run
    show (wflush ws run).length ≤ _
    simp only [List.length_nil]
    omega
  | c :: cs, ws, run => by
    have e : wordsFrom (ws, run) (c :: cs) = wordsFrom (wstep (ws, run) c) cs := rfl
    rw [e]
    have h := words_len cs (wstep (ws, run) c).1 (wstep (ws, run) c).2
    have h2 : (wstep (ws, run) c).1.length ≤ ws.length + 2 := by
      have := wflush_len ws run
      unfold wstep
      split
      · dsimp only
        split
        · rw [List.length_append]
          simp only [List.length_cons, List.length_nil]
          omega
        · omega
      · dsimp only
        omega
    have h3 : wordsFrom (wstep (ws, run) c) cs = wordsFrom ((wstep (ws, run) c).1, (wstep (ws, run) c).2) cs := rfl
    rw [h3]
    simp only [List.length_cons]
    omega
theorem wflush_each {N : Nat} {ws : List Str} {run : Str} (h1 : ∀ x ∈ ws, x.length ≤ N) (h2 : run.length ≤ N) : ∀ x ∈ wflush ws run, x.length ≤ N := by
  unfold wflush
  split
  · exact h1
  · intro x hx
    rcases List.mem_append.mp hx with hx | hx
    · exact h1 x hx
    · rw [List.mem_singleton.mp hx]
      exact h2
theorem words_each {N : Nat} (hN : 1 ≤ N) : ∀ (cs : List Nat) (ws : List Str) (run : Str), (∀ x ∈ ws, x.length ≤ N) → run.length + cs.length ≤ N → ∀ x ∈ wordsFrom (ws, run) cs, x.length ≤ N
  | [], ws, run, h1, h2 => wflush_each h1 h2
  | c :: cs, ws, run, h1, h2 => by
    have e : wordsFrom (ws, run) (c :: cs) = wordsFrom ((wstep (ws, run) c).1, (wstep (ws, run) c).2) cs := rfl
    rw [e]
    simp only [List.length_cons] at h2
    have hf := wflush_each h1 (show run.length ≤ N by omega)
    refine words_each hN cs _ _ ?_ ?_
    · unfold wstep
      split
      · dsimp only
        split
        · intro x hx
          rcases List.mem_append.mp hx with hx | hx
          · exact hf x hx
          · rw [List.mem_singleton.mp hx]
            exact hN
        · exact hf
      · exact h1
    · unfold wstep
      split
      · show (Str.ofString "").length + _ ≤ _
        rw [show (Str.ofString "").length = 0 by decide +kernel]
        omega
      · show (run.cps ++ #[c]).size + _ ≤ _
        have : run.length = run.cps.size := rfl
        rw [Array.size_append]
        show run.cps.size + 1 + _ ≤ _
        omega
end Fk
namespace Fk
open PySem L2
def topS (i : Nat) : Stmt := PySem.Challenge.pw_flowkinds_k07_texts_spoilt_anywhere.main.body.getD i (.Pass ⟨0, 0, 0, 0⟩)
local macro_rules | `(tactic| walk_at "ev") => `(tactic| try simp only [cx_K, L2.start, List.map_cons, List.map_nil, List.length_cons, List.length_nil, Nat.reduceAdd, Nat.reduceSub, Nat.reduceLT, List.replicate_succ, List.replicate_zero, List.cons_append, List.nil_append, Nat.zero_add, Nat.add_zero,
  tSeq, tAsg, tLst, tTup, tNil, tCons, tC, tOp, tUn, gName, tNext, tRet, tRetN, tIfS, tDrop, tCB, tCall, tMeth, tMake, tIf, tAnd, tOr, tNot, tAndV, tOrV, tNotV, qFor, qLc, tYes, wStr, wLst, wTup, wRng1, wRng2, wEnum, wZip, wZipA, wRev, qVar, asB_bl, qAdd_ii, qAdd_ss, qSub_ii, qMul_ii, qMod_ii, qDiv_ii, qPow_ii, qCmpI_ii, qEq_ii, qEq_ss, qEq_bb, qIsN_n, qIsN_i, qIsN_s, qIsN_b, qIsN_r, qInS_s, qInT_r, qIx_s, qIx_r, qT, qIAdd_ii, qIAdd_ss, qLen_s, qLen_r, qAbs_i, qMax2_ii, qMin2_ii, qInt_i, qInt_b, qInt_s, qStrC_i, qStrC_s, qList_r, qTuple_r, tupleAs_l, tupleAs_t, qDivmod_ii, qAll_r, qAny_r, qSl_s, tSl, tNoPart, tPart, qPar, qPar3,
  qApp, qExt, qPop, isLst, qFld, qSetF, qAugF, qAug, qgTup, qgCons, qgNil, qNeg, qDG, qDIn, qDPut, qDGet2, qUpd, keyOf, qJoin, qWords, qStrip, qSum, qMaxA, qSIdx, qLIdx, qRevS, qIsi, qIsi2, qIsiC, qChain, isBl, tyN, gSub, qSetL, yv, wipe,
  List.getElem?_cons_zero, List.getElem?_cons_succ, List.set_cons_zero, List.set_cons_succ, upd_same, lstOf, tupOf, seqOf, at0, at1, at2, at3, ix0, ix1, ix2, sz0, sz1, sz2, sz3, sz4, sz5, sz6, sz7, sz8, sz15, true_and, and_true, and_self, if_true, if_false, if_pos,
  beq_t, beq_f, decide_eq_true_eq, decide_eq_false_iff_not, Bool.not_eq_true', Bool.not_eq_true, Bool.not_eq_false, Bool.not_true, Bool.not_false, Bool.false_eq_true, reduceCtorEq, ite_not, if_true, if_false, reduceIte, V.int.injEq, V.str.injEq, V.bl.injEq, V.ref.injEq, List.append_nil, forall_eq', exists_eq_left, exists_eq_left'])
-- words_of  names ["text", "words", "run", "sign"]  needs []
abbrev s_words_of : Stmt := topS 10
theorem sc_words_of : FnScope ["text", "words", "run", "sign"] ["text"] (defScope s_words_of) := ⟨rfl, rfl, rfl, by decide +kernel, rfl, by decide +kernel, by decide +kernel⟩
-- is_name  names ["word", "sign"]  needs ['z_len', 'g_KEPT', 'g_LETTERS', 'g_FIGURES']
abbrev s_is_name : Stmt := topS 11
theorem sc_is_name : FnScope ["word", "sign"] ["word"] (defScope s_is_name) := ⟨rfl, rfl, rfl, by decide +kernel, rfl, by decide +kernel, by decide +kernel⟩
-- is_number  names ["word", "sign"]  needs ['z_len', 'g_FIGURES']
abbrev s_is_number : Stmt := topS 12
theorem sc_is_number : FnScope ["word", "sign"] ["word"] (defScope s_is_number) := ⟨rfl, rfl, rfl, by decide +kernel, rfl, by decide +kernel, by decide +kernel⟩
-- pattern_of  names ["head"]  needs ['e_BadText']
abbrev s_pattern_of : Stmt := topS 13
theorem sc_pattern_of : FnScope ["head"] ["head"] (defScope s_pattern_of) := ⟨rfl, rfl, rfl, by decide +kernel, rfl, by decide +kernel, by decide +kernel⟩
theorem seps_eq : (Str.ofString "() \n").cps.toList = seps := by decide +kernel
theorem ch40 : ({ cps := #[40] } : Str) = "(" := by decide +kernel
theorem ch41 : ({ cps := #[41] } : Str) = ")" := by decide +kernel
theorem ch_inj {c d : Nat} (h : ({ cps := #[c] } : Str) = { cps := #[d] }) : c = d := by
  injection h with h
  have := congrArg Array.toList h
  simpa using this
theorem ch_eq40 (c : Nat) : (({ cps := #[c] } : Str) = "(") = (c = 40) := propext ⟨fun h => ch_inj (h.trans ch40.symm), fun h => by rw [h]; exact ch40⟩
theorem ch_eq41 (c : Nat) : (({ cps := #[c] } : Str) = ")") = (c = 41) := propext ⟨fun h => ch_inj (h.trans ch41.symm), fun h => by rw [h]; exact ch41⟩
theorem str_app_len (a b : Str) : (a ++ b).length = a.length + b.length := Array.size_append
theorem len_toList (z : Str) : z.cps.toList.length = z.length := Array.length_toList
def sp_words_of : Sp := fun vs H Q _ => ∃ z : Str, vs = [.str z] ∧ z.length ≤ 1000000 ∧ ∀ p H', Same H H' → H p = none → H' p = some (.lst ((wordsOf z.cps.toList).map V.str)) → Q (.ref p) H'
def iv_words (z : Str) (p : Addr) (H : Hp) (r : List Nat) (σ : St) (H' : Hp) : Prop :=
  ∃ ws run x, σ = [some (.str z), some (.ref p), some (.str run), x] ∧ Same H H' ∧ H' p = some (.lst (ws.map V.str)) ∧ wordsFrom (ws, run) r = wordsOf z.cps.toList ∧ ws.length + 2 * r.length ≤ 2000000 ∧ run.length + r.length ≤ 1000000
section
variable {P : Program} {w : World} {K : PySem.W.Frag} {mg : Str → Option Value} {base : Heap}
theorem ok_words_of {f : Addr} {fd : FuncData} (F : Fun K "words_of" "words_of" s_words_of f fd) : FnOk P w K mg base CX0 1 f fd ["text"] sp_words_of := by
  refine F.ok sc_words_of (fun vs H Q E h => by obtain ⟨z, rfl, _⟩ := h; rfl) (fun cdv A outer s H vs Q E hr h => ?_)
  have hu64 := hr.units
  refine ⟨_, (pss_cons (ps_set (i := 1) sc_words_of.nd rfl (Or.inl rfl) (pe_lst pa_nil))
  (pss_cons (ps_set (i := 2) sc_words_of.nd rfl (Or.inl rfl) pe_str)
  (pss_cons (xfor PassesOwn.never (xistr (xv 0)) (pg_name (i := 3) sc_words_of.nd rfl (Or.inl rfl))
  (pss_one (ps_if (xt yins (xv 3) pe_str (by rfl)) (pss_cons (ps_if (xt (yne hu64) (xv 2) pe_str (nomark _)) (pss_cons (ps_expr (xapp (xv 1) (xv 2)))
  (pss_one (ps_set (i := 2) sc_words_of.nd rfl (Or.inl rfl) pe_str))) pss_nil)
  (pss_one (ps_if (PW.pt (pw_or (xt (yeq hu64) (xv 3) pe_str (nomark _)) (pw_or1 (xt (yeq hu64) (xv 3) pe_str (nomark _))))) (pss_one (ps_expr (xapp (xv 1) (xv 3)))) pss_nil))) (pss_one (xaug (i := 2) sc_words_of.nd rfl (Or.inl rfl) (xv 3) yiadd)))))
  (pss_cons (ps_if (xt (yne hu64) (xv 2) pe_str (nomark _)) (pss_one (ps_expr (xapp (xv 1) (xv 2)))) pss_nil)
  (pss_one (ps_ret (xv 1))))))), ?_⟩
  obtain ⟨z, rfl, hz, q⟩ := h
  walk_at "ev"
  intro p hp
  have hzl := len_toList z
  refine ⟨Nat, _, z.cps.toList, iv_words z p H, rfl, ?_, fun _ _ _ _ => trivial, ?_, ?_⟩
  · exact ⟨[], "", none, rfl, same_new hp _, upd_same, rfl, by show 0 + _ ≤ _; omega, by show 0 + _ ≤ _; omega⟩
  · rintro c r σ H' ⟨ws, run, x, rfl, hS, hpw, hfin, hb1, hb2⟩
    rw [List.length_cons] at hb1 hb2
    have hfin' : wordsFrom (wstep (ws, run) c) r = wordsOf z.cps.toList := hfin
    unfold wstep at hfin'
    have hl : (ws.map V.str).length = ws.length := List.length_map _
    walk_at "ev"
    simp only [hpw, seps_eq, ch_eq40, ch_eq41]
    have s1 : (ws.map V.str).length < sizeLine := by rw [hl]; exact sz_lt (by omega)
    have s2 : (ws.map V.str ++ [V.str run]).length < sizeLine := by rw [List.length_append, hl]; exact sz_lt (by show _ + 1 ≤ _; omega)
    have s3 : run.length + ({ cps := #[c] } : Str).length ≤ sizeLine := sz_of (by show run.length + 1 ≤ _; omega)
    have m1 : ws.map V.str ++ [V.str ⟨#[c]⟩] = (ws ++ [ch c]).map V.str := by rw [List.map_append]; rfl
    have m2 : ws.map V.str ++ [V.str run] = (ws ++ [run]).map V.str := by rw [List.map_append]; rfl
    have m3 : (ws ++ [run]).map V.str ++ [V.str ⟨#[c]⟩] = (ws ++ [run] ++ [ch c]).map V.str := by rw [List.map_append (l₂ := [ch c])]; rfl
    have ln (a b : List Str) : (a ++ b).length = a.length + b.length := List.length_append
    have e1 : (Str.ofString "").length = 0 := by decide +kernel
    split
    · next hc =>
      rw [if_pos hc] at hfin'
      have k (l : List Str) (o : Option V) (H2 : Hp) (hH : Same H H2) (h2 : H2 p = some (.lst (l.map V.str))) (hw : wordsFrom (l, Str.ofString "") r = wordsOf z.cps.toList) (hn : l.length ≤ ws.length + 2) :
          iv_words z p H r [some (.str z), some (.ref p), some (.str (Str.ofString "")), o] H2 := ⟨l, _, o, rfl, hH, h2, hw, by omega, by rw [e1]; omega⟩
      split
      · next hr0 =>
        simp only [wflush, if_pos hr0] at hfin'
        subst hr0
        split
        · next h40 =>
          rw [if_pos (.inl h40)] at hfin'
          exact ⟨trivial, s1, k _ _ _ (same_upd hS hp _) (by rw [upd_same, m1]) hfin' (by rw [ln]; simp only [List.length_cons, List.length_nil]; omega)⟩
        · next h40 =>
          split
          · next h41 =>
            rw [if_pos (.inr h41)] at hfin'
            exact ⟨trivial, s1, k _ _ _ (same_upd hS hp _) (by rw [upd_same, m1]) hfin' (by rw [ln]; simp only [List.length_cons, List.length_nil]; omega)⟩
          · next h41 =>
            rw [if_neg (by rintro (h | h) <;> contradiction)] at hfin'
            exact k _ _ _ hS hpw hfin' (by omega)
      · next hr0 =>
        simp only [wflush, if_neg hr0] at hfin'
        refine ⟨trivial, s1, ?_⟩
        split
        · next h40 =>
          rw [if_pos (.inl h40)] at hfin'
          exact ⟨s2, k _ _ _ (same_upd (same_upd hS hp _) hp _) (by rw [upd_same, m2, m3]) hfin' (by rw [ln, ln]; simp only [List.length_cons, List.length_nil]; omega)⟩
        · next h40 =>
          split
          · next h41 =>
            rw [if_pos (.inr h41)] at hfin'
            exact ⟨s2, k _ _ _ (same_upd (same_upd hS hp _) hp _) (by rw [upd_same, m2, m3]) hfin' (by rw [ln, ln]; simp only [List.length_cons, List.length_nil]; omega)⟩
          · next h41 =>
            rw [if_neg (by rintro (h | h) <;> contradiction)] at hfin'
            exact k _ _ _ (same_upd hS hp _) (by rw [upd_same, m2]) hfin' (by rw [ln]; simp only [List.length_cons, List.length_nil]; omega)
    · next hc =>
      rw [if_neg hc] at hfin'
      exact ⟨s3, ws, _, _, rfl, hS, hpw, hfin', by omega, by rw [str_app_len]; show run.length + 1 + _ ≤ _; omega⟩
  · rintro σ H' ⟨ws, run, x, rfl, hS, hpw, hfin, hb1, hb2⟩
    have hl : (ws.map V.str).length = ws.length := List.length_map _
    have s1 : (ws.map V.str).length < sizeLine := by rw [hl]; exact sz_lt (by omega)
    have hfin' : wflush ws run = wordsOf z.cps.toList := hfin
    unfold wflush at hfin'
    walk_at "ev"
    simp only [hpw]
    split
    · next hr0 =>
      rw [if_pos hr0] at hfin'
      exact q p H' hS hp (by rw [hpw, hfin'])
    · next hr0 =>
      rw [if_neg hr0] at hfin'
      exact ⟨trivial, s1, q p _ (same_upd hS hp _) hp (by rw [upd_same, ← hfin', List.map_append]; rfl)⟩
theorem in_strs (w : Str) (l : List Str) : inV (.str w) (l.map V.str) = decide (w ∈ l) := by
  unfold inV
  rw [List.any_map]
  induction l with
  | nil => rfl
  | cons a l ih =>
    rw [List.any_cons, ih]
    have e : eqV (.str a) (.str w) = decide (w = a) := by
      show decide (a = w) = decide (w = a)
      by_cases h : a = w
      · rw [h]
      · rw [decide_eq_false h, decide_eq_false (Ne.symm h)]
    show (eqV (.str a) (.str w) || _) = _
    rw [e]
    by_cases h : w = a
    · simp [h]
    · simp [h]
def keptV : List V := keptS.map V.str
/-- the module's texts and words -/
structure Cn (K : PySem.W.Frag) (mg : Str → Option Value) : Prop where
  len : mg "len" = none
  let_ : ∃ t, mg "LETTERS" = some (.str "abcdefghijklmnopqrstuvwxyz" t)
  fig : ∃ t, mg "FIGURES" = some (.str "0123456789" t)
  kept : ∃ a, mg "KEPT" = some (.ref a) ∧ ∀ H, SqT K H a keptV
def sp_is_name : Sp := fun vs H Q _ => ∃ z : Str, vs = [.str z] ∧ z.length ≤ 1000000 ∧ Q (.bl (isName z)) H
theorem ok_is_name {f : Addr} {fd : FuncData} (F : Fun K "is_name" "is_name" s_is_name f fd) (T : Cn K mg) : FnOk P w K mg base CX0 1 f fd ["word"] sp_is_name := by
  have z_len := T.len
  have g_LETTERS := T.let_
  have g_FIGURES := T.fig
  obtain ⟨ak, g_KEPT, hk⟩ := T.kept
  refine F.ok sc_is_name (fun vs H Q E h => by obtain ⟨z, rfl, _⟩ := h; rfl) (fun cdv A outer s H vs Q E hr h => ?_)
  have hu64 := hr.units
  refine ⟨_, (pss_cons (ps_if (PW.pt (pw_or (xt (yeq hu64) (pe_callB ylen (by rfl) z_len PySem.boot_len (pa_cons (xv 0) pa_nil)) pe_int (nomark _)) (pw_or (xt ygt (pe_callB ylen (by rfl) z_len PySem.boot_len (pa_cons (xv 0) pa_nil)) pe_int (nomark _)) (pw_or1 (xt yint (xv 0) (pe_gr g_KEPT) (by rfl)))))) (pss_one (ps_ret pe_bl)) pss_nil)
  (pss_cons (ps_if (xt ynins (pe_ix yix (xv 0) pe_int (fun _ _ => rfl)) (pe_gs g_LETTERS) (by rfl)) (pss_one (ps_ret pe_bl)) pss_nil)
  (pss_cons (xfor PassesOwn.never (xistr (xv 0)) (pg_name (i := 1) sc_is_name.nd rfl (Or.inl rfl))
  (pss_one (ps_if (PW.pt (pw_and (xt ynins (xv 1) (pe_gs g_LETTERS) (by rfl)) (pw_and1 (xt ynins (xv 1) (pe_gs g_FIGURES) (by rfl))))) (pss_one (ps_ret pe_bl)) pss_nil)))
  (pss_one (ps_ret pe_bl))))), ?_⟩
  obtain ⟨z, rfl, hz, q⟩ := h
  walk_at "ev"
  have hzl := len_toList z
  have hs : z.length ≤ sizeLine := sz_of (by omega)
  have e0 : ((z.length : Int) = 0) = (z.length = 0) := propext (by omega)
  have e12 : (12 < (z.length : Int)) = (12 < z.length) := propext (by omega)
  simp only [e0, e12]
  unfold isName at q
  refine ⟨hs, ?_⟩
  split
  · next h => simpa only [decide_eq_true h, Bool.true_or, Bool.not_true, Bool.false_and] using q
  · next h =>
    refine ⟨hs, ?_⟩
    split
    · next h2 => simpa only [decide_eq_true h2, Bool.true_or, Bool.or_true, Bool.not_true, Bool.false_and] using q
    · next h2 =>
      refine ⟨keptV, .inr (hk H), rfl, by decide +kernel, ?_⟩
      simp only [(show inV (.str z) keptV = decide (z ∈ keptS) from in_strs z keptS), decide_eq_true_eq]
      split
      · next h3 => simpa only [decide_eq_true h3, Bool.or_true, Bool.not_true, Bool.false_and] using q
      · next h3 =>
        simp only [decide_eq_false h, decide_eq_false h2, decide_eq_false h3, Bool.or_self, Bool.not_false, Bool.true_and] at q
        cases hc : z.cps.toList with
        | nil => rw [hc] at hzl; exact absurd hzl.symm h
        | cons c l =>
          rw [hc] at q
          simp only [at0]
          refine ⟨hs, ?_⟩
          split
          · next h4 =>
            have h4' : decide (c ∈ lettersS.cps.toList) = true := decide_eq_true h4
            simp only [h4', Bool.true_and] at q
            refine ⟨Nat, _, c :: l, fun r σ H' => (∃ x, σ = [some (.str z), x]) ∧ H' = H ∧ Q (.bl (r.all fun c => decide (c ∈ lettersS.cps.toList) || decide (c ∈ figuresS.cps.toList))) H, rfl, ⟨⟨_, rfl⟩, rfl, q⟩, fun _ _ _ _ => trivial, ?_, ?_⟩
            · rintro d r σ H' ⟨⟨x, rfl⟩, rfl, q⟩
              rw [List.all_cons] at q
              walk_at "ev"
              split
              · next h5 =>
                refine ⟨⟨_, rfl⟩, ?_⟩
                have h5' : decide (d ∈ lettersS.cps.toList) = true := decide_eq_true h5
                simpa only [h5', Bool.true_or, Bool.true_and] using q
              · next h5 =>
                have h5' : decide (d ∈ lettersS.cps.toList) = false := decide_eq_false h5
                split
                · next h6 =>
                  refine ⟨⟨_, rfl⟩, ?_⟩
                  have h6' : decide (d ∈ figuresS.cps.toList) = true := decide_eq_true h6
                  simpa only [h6', Bool.or_true, Bool.true_and] using q
                · next h6 =>
                  have h6' : decide (d ∈ figuresS.cps.toList) = false := decide_eq_false h6
                  simpa only [h5', h6', Bool.or_self, Bool.false_and] using q
            · rintro σ H' ⟨⟨x, rfl⟩, rfl, q⟩
              exact q
          · next h4 =>
            have h4' : decide (c ∈ lettersS.cps.toList) = false := decide_eq_false h4
            simpa only [h4', Bool.false_and] using q
def sp_is_number : Sp := fun vs H Q _ => ∃ z : Str, vs = [.str z] ∧ z.length ≤ 1000000 ∧ Q (.bl (isNumber z)) H
theorem ok_is_number {f : Addr} {fd : FuncData} (F : Fun K "is_number" "is_number" s_is_number f fd) (T : Cn K mg) : FnOk P w K mg base CX0 1 f fd ["word"] sp_is_number := by
  have z_len := T.len
  have g_FIGURES := T.fig
  refine F.ok sc_is_number (fun vs H Q E h => by obtain ⟨z, rfl, _⟩ := h; rfl) (fun cdv A outer s H vs Q E hr h => ?_)
  have hu64 := hr.units
  refine ⟨_, (pss_cons (ps_if (PW.pt (pw_or (xt (yeq hu64) (pe_callB ylen (by rfl) z_len PySem.boot_len (pa_cons (xv 0) pa_nil)) pe_int (nomark _)) (pw_or1 (xt ygt (pe_callB ylen (by rfl) z_len PySem.boot_len (pa_cons (xv 0) pa_nil)) pe_int (nomark _))))) (pss_one (ps_ret pe_bl)) pss_nil)
  (pss_cons (xfor PassesOwn.never (xistr (xv 0)) (pg_name (i := 1) sc_is_number.nd rfl (Or.inl rfl))
  (pss_one (ps_if (xt ynins (xv 1) (pe_gs g_FIGURES) (by rfl)) (pss_one (ps_ret pe_bl)) pss_nil)))
  (pss_one (ps_ret (pe_or (pe_cmpR (yne hu64) (pe_ix yix (xv 0) pe_int (fun _ _ => rfl)) pe_str (nomark _)) (pe_one (pe_cmpR (yeq hu64) (xv 0) pe_str (nomark _)))))))), ?_⟩
  obtain ⟨z, rfl, hz, q⟩ := h
  walk_at "ev"
  have hzl := len_toList z
  have hs : z.length ≤ sizeLine := sz_of (by omega)
  have e0 : ((z.length : Int) = 0) = (z.length = 0) := propext (by omega)
  have e60 : (60 < (z.length : Int)) = (60 < z.length) := propext (by omega)
  simp only [e0, e60]
  unfold isNumber at q
  refine ⟨hs, ?_⟩
  split
  · next h => simpa only [decide_eq_true h, Bool.true_or, Bool.not_true, Bool.false_and] using q
  · next h =>
    refine ⟨hs, ?_⟩
    split
    · next h2 => simpa only [decide_eq_true h2, Bool.true_or, Bool.or_true, Bool.not_true, Bool.false_and] using q
    · next h2 =>
      simp only [decide_eq_false h, decide_eq_false h2, Bool.or_self, Bool.not_false, Bool.true_and] at q
      refine ⟨Nat, _, z.cps.toList, fun r σ H' => (∃ x, σ = [some (.str z), x]) ∧ H' = H ∧ Q (.bl ((r.all fun c => decide (c ∈ figuresS.cps.toList)) && (match z.cps.toList with
    | [] => false
    | c :: _ => !decide (ch c = "0") || decide (z = "0")))) H, rfl, ⟨⟨_, rfl⟩, rfl, q⟩, fun _ _ _ _ => trivial, ?_, ?_⟩
      · rintro d r σ H' ⟨⟨x, rfl⟩, rfl, q⟩
        rw [List.all_cons] at q
        walk_at "ev"
        split
        · next h6 =>
          refine ⟨⟨_, rfl⟩, ?_⟩
          have h6' : decide (d ∈ figuresS.cps.toList) = true := decide_eq_true h6
          simpa only [h6', Bool.true_and] using q
        · next h6 =>
          have h6' : decide (d ∈ figuresS.cps.toList) = false := decide_eq_false h6
          simpa only [h6', Bool.false_and] using q
      · rintro σ H' ⟨⟨x, rfl⟩, rfl, q⟩
        walk_at "ev"
        cases hc : z.cps.toList with
        | nil => rw [hc] at hzl; exact absurd hzl.symm h
        | cons c l =>
          rw [hc] at q
          simp only [at0]
          refine ⟨hs, ?_⟩
          have q' : Q (.bl (!decide (ch c = "0") || decide (z = "0"))) H' := q
          split
          · next h7 =>
            have h7' : decide (ch c = "0") = true := decide_eq_true h7
            simpa only [h7', Bool.not_true, Bool.false_or] using q'
          · next h7 =>
            have h7' : decide (ch c = "0") = false := decide_eq_false h7
            simpa only [h7', Bool.not_false, Bool.true_or] using q'
theorem xe_eq : (Str.ofString "xe").cps.toList = [120, 101] := by decide +kernel
theorem xee_eq : (Str.ofString "xee").cps.toList = [120, 101, 101] := by decide +kernel
theorem ex_eq : (Str.ofString "ex").cps.toList = [101, 120] := by decide +kernel
theorem e_eq : (Str.ofString "e").cps.toList = [101] := by decide +kernel
theorem ee_eq : (Str.ofString "ee").cps.toList = [101, 101] := by decide +kernel
theorem eee_eq : (Str.ofString "eee").cps.toList = [101, 101, 101] := by decide +kernel
/-- a def's refusal: an error of the class at C -/
def sp_pattern_of (C : Addr) : Sp := fun vs H Q E => ∃ z : Str, vs = [.str z] ∧ (match patternOf z with
  | none => ∀ H', Same H H' → E (.ref C) none H'
  | some pat => ∀ y : Str, y.cps.toList = pat → ∀ H', Same H H' → Q (.str y) H')
theorem ok_pattern_of {f C : Addr} {fd : FuncData} (F : Fun K "pattern_of" "pattern_of" s_pattern_of f fd) (e_BadText : ExcB K mg "BadText" C) : FnOk P w K mg base (L2.CX P w) 1 f fd ["head"] (sp_pattern_of C) := by
  refine F.okX sc_pattern_of (fun vs H Q E h => by obtain ⟨z, rfl, _⟩ := h; rfl) (fun cdv A outer s H vs Q E hr h => ?_)
  have hu64 := hr.units
  refine ⟨_, (pss_cons (ps_if (PW.pt (pw_or (xt (yeq hu64) (xv 0) pe_str (nomark _)) (pw_or1 (xt (yeq hu64) (xv 0) pe_str (nomark _))))) (pss_one (ps_ret pe_str)) pss_nil)
  (pss_cons (ps_if (xt (yeq hu64) (xv 0) pe_str (nomark _)) (pss_one (ps_ret pe_str)) pss_nil)
  (pss_cons (ps_if (xt (yeq hu64) (xv 0) pe_str (nomark _)) (pss_one (ps_ret pe_str)) pss_nil)
  (pss_cons (ps_if (xt (yeq hu64) (xv 0) pe_str (nomark _)) (pss_one (ps_ret pe_str)) pss_nil)
  (pss_cons (ps_if (xt (yeq hu64) (xv 0) pe_str (nomark _)) (pss_one (ps_ret pe_str)) pss_nil)
  (pss_cons (ps_if (xt yint (xv 0) (pe_tup (pa_cons pe_str (pa_cons pe_str (pa_cons pe_str (pa_cons pe_str (pa_cons pe_str pa_nil)))))) (by rfl)) (pss_one (ps_ret pe_str)) pss_nil)
  (pss_one (ps_rz (E := E) e_BadText rfl (takes_of rfl rfl rfl rfl))))))))), ?_⟩
  obtain ⟨z, rfl, q⟩ := h
  walk_at "ev"
  unfold patternOf at q
  split
  · next h => rw [if_pos (.inl h)] at q; exact q _ xe_eq _ (Same.refl H)
  · next h1 =>
    split
    · next h => rw [if_pos (.inr h)] at q; exact q _ xe_eq _ (Same.refl H)
    · next h2 =>
      rw [if_neg (by rintro (h | h) <;> contradiction)] at q
      split
      · next h => rw [if_pos h] at q; exact q _ xee_eq _ (Same.refl H)
      · next h =>
        rw [if_neg h] at q
        split
        · next h => rw [if_pos h] at q; exact q _ ex_eq _ (Same.refl H)
        · next h =>
          rw [if_neg h] at q
          split
          · next h => rw [if_pos h] at q; exact q _ e_eq _ (Same.refl H)
          · next h =>
            rw [if_neg h] at q
            split
            · next h => rw [if_pos h] at q; exact q _ eee_eq _ (Same.refl H)
            · next h =>
              rw [if_neg h] at q
              intro p hp
              refine ⟨(["call", "join", "add", "sub", "less"] : List Str).map V.str, .inr (.inl (.inl upd_same)), rfl, by decide +kernel, ?_⟩
              simp only [in_strs, decide_eq_true_eq]
              split
              · next h => rw [if_pos h] at q; exact q _ ee_eq _ (same_new hp _)
              · next h => rw [if_neg h] at q; exact q _ (same_new hp _)
end
end Fk
namespace Fk
open PySem L2
-- Reader.__init__  names ["self", "words"]  needs ['cl_Reader', 'n_Reader_words', 'n_Reader_front', 'n_Reader_rows']
abbrev s_Reader___init__ : Stmt := inClass (topS 14) 0
theorem sc_Reader___init__ : FnScope ["self", "words"] ["self", "words"] (defScope s_Reader___init__) := ⟨rfl, rfl, rfl, by decide +kernel, rfl, by decide +kernel, by decide +kernel⟩
-- Reader.ahead  names ["self"]  needs ['cl_Reader', 'n_Reader_front', 'z_len', 'n_Reader_words']
abbrev s_Reader_ahead : Stmt := inClass (topS 14) 1
theorem sc_Reader_ahead : FnScope ["self"] ["self"] (defScope s_Reader_ahead) := ⟨rfl, rfl, rfl, by decide +kernel, rfl, by decide +kernel, by decide +kernel⟩
-- Reader.taken  names ["self", "word"]  needs ['m_Reader_ahead', 'e_BadText', 'cl_Reader', 'n_Reader_front']
abbrev s_Reader_taken : Stmt := inClass (topS 14) 2
theorem sc_Reader_taken : FnScope ["self", "word"] ["self"] (defScope s_Reader_taken) := ⟨rfl, rfl, rfl, by decide +kernel, rfl, by decide +kernel, by decide +kernel⟩
-- Reader.want  names ["self", "word"]  needs ['m_Reader_taken', 'e_BadText']
abbrev s_Reader_want : Stmt := inClass (topS 14) 3
theorem sc_Reader_want : FnScope ["self", "word"] ["self", "word"] (defScope s_Reader_want) := ⟨rfl, rfl, rfl, by decide +kernel, rfl, by decide +kernel, by decide +kernel⟩
-- Reader.named  names ["self", "word"]  needs ['m_Reader_taken', 'c_is_name', 'e_BadText']
abbrev s_Reader_named : Stmt := inClass (topS 14) 4
theorem sc_Reader_named : FnScope ["self", "word"] ["self"] (defScope s_Reader_named) := ⟨rfl, rfl, rfl, by decide +kernel, rfl, by decide +kernel, by decide +kernel⟩
-- Reader.expr  names ["self", "depth", "place", "word"]  needs ['g_MOST_NEST', 'z_len', 'cl_Reader', 'n_Reader_rows', 'g_MOST_PLACES', 'e_BadText', 'm_Reader_taken', 'm_Reader_form', 'm_Reader_want', 'c_is_number', 'z_int', 'c_is_name']
abbrev s_Reader_expr : Stmt := inClass (topS 14) 5
theorem sc_Reader_expr : FnScope ["self", "depth", "place", "word"] ["self", "depth"] (defScope s_Reader_expr) := ⟨rfl, rfl, rfl, by decide +kernel, rfl, by decide +kernel, by decide +kernel⟩
-- Reader.form  names ["self", "depth", "head", "pair", "first", "arms"]  needs ['m_Reader_taken', 'm_Reader_many', 'z_tuple', 'm_Reader_expr', 'z_len', 'e_BadText', 'c_pattern_of', 'm_Reader_pieces']
abbrev s_Reader_form : Stmt := inClass (topS 14) 6
theorem sc_Reader_form : FnScope ["self", "depth", "head", "pair", "first", "arms"] ["self", "depth"] (defScope s_Reader_form) := ⟨rfl, rfl, rfl, by decide +kernel, rfl, by decide +kernel, by decide +kernel⟩
-- Reader.pieces  names ["self", "depth", "pattern", "found", "sign"]  needs ['m_Reader_named', 'm_Reader_expr', 'z_tuple']
abbrev s_Reader_pieces : Stmt := inClass (topS 14) 7
theorem sc_Reader_pieces : FnScope ["self", "depth", "pattern", "found", "sign"] ["self", "depth", "pattern"] (defScope s_Reader_pieces) := ⟨rfl, rfl, rfl, by decide +kernel, rfl, by decide +kernel, by decide +kernel⟩
-- Reader.many  names ["self", "depth", "pattern", "most", "found"]  needs ['m_Reader_ahead', 'z_len', 'e_BadText', 'm_Reader_pieces', 'z_tuple']
abbrev s_Reader_many : Stmt := inClass (topS 14) 8
theorem sc_Reader_many : FnScope ["self", "depth", "pattern", "most", "found"] ["self", "depth", "pattern", "most"] (defScope s_Reader_many) := ⟨rfl, rfl, rfl, by decide +kernel, rfl, by decide +kernel, by decide +kernel⟩
/-- the attributes of a Reader -/
def rfs (lw : Addr) (f : Int) (lr : Addr) : List (Str × V) := [("words", .ref lw), ("front", .int f), ("rows", .ref lr)]
theorem rfs_words {lw lr : Addr} {f : Int} : (rfs lw f lr).lookup (Str.ofString "words") = some (.ref lw) := by rfl
theorem rfs_front {lw lr : Addr} {f : Int} : (rfs lw f lr).lookup (Str.ofString "front") = some (.int f) := by rfl
theorem rfs_rows {lw lr : Addr} {f : Int} : (rfs lw f lr).lookup (Str.ofString "rows") = some (.ref lr) := by rfl
theorem rfs_put {lw lr : Addr} {f g : Int} : putF (Str.ofString "front") (.int g) (rfs lw f lr) = rfs lw g lr := by rfl
theorem rfs_no {lw lr : Addr} {f : Int} {m : Str} (h1 : m ≠ "words" := by decide +kernel) (h2 : m ≠ "front" := by decide +kernel) (h3 : m ≠ "rows" := by decide +kernel) : (rfs lw f lr).lookup m = none := by
  unfold rfs
  simp only [List.lookup, beq_eq_false_iff_ne.mpr h1, beq_eq_false_iff_ne.mpr h2, beq_eq_false_iff_ne.mpr h3]
local macro_rules | `(tactic| walk_at "ev") => `(tactic| try simp only [cx_K, L2.start, List.map_cons, List.map_nil, List.length_cons, List.length_nil, Nat.reduceAdd, Nat.reduceSub, Nat.reduceLT, List.replicate_succ, List.replicate_zero, List.cons_append, List.nil_append, Nat.zero_add, Nat.add_zero,
  tSeq, tAsg, tLst, tTup, tNil, tCons, tC, tOp, tUn, gName, tNext, tRet, tRetN, tIfS, tDrop, tCB, tCall, tMeth, tMake, tIf, tAnd, tOr, tNot, tAndV, tOrV, tNotV, qFor, qLc, tYes, wStr, wLst, wTup, wRng1, wRng2, wEnum, wZip, wZipA, wRev, qVar, asB_bl, qAdd_ii, qAdd_ss, qSub_ii, qMul_ii, qMod_ii, qDiv_ii, qPow_ii, qCmpI_ii, qEq_ii, qEq_ss, qEq_bb, qIsN_n, qIsN_i, qIsN_s, qIsN_b, qIsN_r, qInS_s, qInT_r, qIx_s, qIx_r, qT, qIAdd_ii, qIAdd_ss, qLen_s, qLen_r, qAbs_i, qMax2_ii, qMin2_ii, qInt_i, qInt_b, qInt_s, qStrC_i, qStrC_s, qList_r, qTuple_r, tupleAs_l, tupleAs_t, qDivmod_ii, qAll_r, qAny_r, qSl_s, tSl, tNoPart, tPart, qPar, qPar3,
  qApp, qExt, qPop, isLst, qFld, qSetF, qAugF, qAug, qgTup, qgCons, qgNil, qNeg, qDG, qDIn, qDPut, qDGet2, qUpd, keyOf, qJoin, qWords, qStrip, qSum, qMaxA, qSIdx, qLIdx, qRevS, qIsi, qIsi2, qIsiC, qChain, isBl, tyN, gSub, qSetL, yv, wipe,
  List.getElem?_cons_zero, List.getElem?_cons_succ, List.set_cons_zero, List.set_cons_succ, upd_same, lstOf, tupOf, seqOf, at0, at1, at2, at3, ix0, ix1, ix2, sz0, sz1, sz2, sz3, sz4, sz5, sz6, sz7, sz8, sz15, true_and, and_true, and_self, if_true, if_false, if_pos,
  beq_t, beq_f, decide_eq_true_eq, decide_eq_false_iff_not, Bool.not_eq_true', Bool.not_eq_true, Bool.not_eq_false, Bool.not_true, Bool.not_false, Bool.false_eq_true, reduceCtorEq, ite_not, if_true, if_false, reduceIte, V.int.injEq, V.str.injEq, V.bl.injEq, V.ref.injEq, List.append_nil, forall_eq', exists_eq_left, exists_eq_left'])
local macro_rules | `(tactic| walk_at "evr") => `(tactic| try simp only [cx_K, L2.start, List.map_cons, List.map_nil, List.length_cons, List.length_nil, Nat.reduceAdd, Nat.reduceSub, Nat.reduceLT, List.replicate_succ, List.replicate_zero, List.cons_append, List.nil_append, Nat.zero_add, Nat.add_zero,
  tSeq, tAsg, tLst, tTup, tNil, tCons, tC, tOp, tUn, gName, tNext, tRet, tRetN, tIfS, tDrop, tCB, tCall, tMeth, tMake, tIf, tAnd, tOr, tNot, tAndV, tOrV, tNotV, qFor, qLc, tYes, wStr, wLst, wTup, wRng1, wRng2, wEnum, wZip, wZipA, wRev, qVar, asB_bl, qAdd_ii, qAdd_ss, qSub_ii, qMul_ii, qMod_ii, qDiv_ii, qPow_ii, qCmpI_ii, qEq_ii, qEq_ss, qEq_bb, qIsN_n, qIsN_i, qIsN_s, qIsN_b, qIsN_r, qInS_s, qInT_r, qIx_s, qIx_r, qT, qIAdd_ii, qIAdd_ss, qLen_s, qLen_r, qAbs_i, qMax2_ii, qMin2_ii, qInt_i, qInt_b, qInt_s, qStrC_i, qStrC_s, qList_r, qTuple_r, tupleAs_l, tupleAs_t, qDivmod_ii, qAll_r, qAny_r, qSl_s, tSl, tNoPart, tPart, qPar, qPar3,
  qApp, qExt, qPop, isLst, qFld, qSetF, qAugF, qAug, qgTup, qgCons, qgNil, qNeg, qDG, qDIn, qDPut, qDGet2, qUpd, keyOf, qJoin, qWords, qStrip, qSum, qMaxA, qSIdx, qLIdx, qRevS, qIsi, qIsi2, qIsiC, qChain, isBl, tyN, gSub, qSetL, yv, wipe,
  List.getElem?_cons_zero, List.getElem?_cons_succ, List.set_cons_zero, List.set_cons_succ, upd_same, lstOf, tupOf, seqOf, at0, at1, at2, at3, ix0, ix1, ix2, sz0, sz1, sz2, sz3, sz4, sz5, sz6, sz7, sz8, sz15, true_and, and_true, and_self, if_true, if_false, if_pos,
  beq_t, beq_f, decide_eq_true_eq, decide_eq_false_iff_not, Bool.not_eq_true', Bool.not_eq_true, Bool.not_eq_false, Bool.not_true, Bool.not_false, Bool.false_eq_true, reduceCtorEq, ite_not, if_true, if_false, reduceIte, V.int.injEq, V.str.injEq, V.bl.injEq, V.ref.injEq, List.append_nil, forall_eq', exists_eq_left, exists_eq_left', rfs_words, rfs_front, rfs_rows, rfs_put, *])
/-- a Reader at r: all its words, those that are left, its rows -/
structure RdAt (C : Addr) (H : Hp) (r dx lw lr : Addr) (all rest : List Str) (rows : Rows) : Prop where
  ex : ∃ (vs : List V) (f : Nat), H r = some (.ins C dx (rfs lw f lr)) ∧ H lr = some (.lst vs) ∧ Tps H vs rows ∧ all.drop f = rest ∧ f ≤ all.length
  w : H lw = some (.lst (all.map V.str))
  ne : lw ≠ lr
  al : all.length ≤ 3000000
  ws : ∀ x ∈ all, x.length ≤ 1000000
  rl : rows.length ≤ 160
theorem RdAt.mono {C : Addr} {H H' : Hp} {r dx lw lr : Addr} {all rest : List Str} {rows : Rows} (a : RdAt C H r dx lw lr all rest rows) (h : Same H H') : RdAt C H' r dx lw lr all rest rows := by
  obtain ⟨vs, f, h1, h2, h3, h4⟩ := a.ex
  exact ⟨⟨vs, f, h _ _ h1, h _ _ h2, h3.mono fun x xs q => h _ _ q, h4⟩, h _ _ a.w, a.ne, a.al, a.ws, a.rl⟩
theorem Same.but {S : List Addr} {H H' : Hp} (h : Same H H') : But S H H' := fun b o _ e => h b o e
/-- what a method of the Reader promises: it refuses, or goes on -/
def Out (C CB : Addr) (H : Hp) (r dx lw lr : Addr) (all : List Str) (E : XK) {α : Type} (m : Option (α × List Str × Rows)) (k : α → Hp → Prop) : Prop := match m with
  | none => ∀ H', But [r, lr] H H' → E (.ref CB) none H'
  | some (a, rest, rows) => ∀ H', But [r, lr] H H' → RdAt C H' r dx lw lr all rest rows → k a H'
theorem Out.none {C CB : Addr} {H : Hp} {r dx lw lr : Addr} {all : List Str} {E : XK} {α : Type} {m : Option (α × List Str × Rows)} {k : α → Hp → Prop} (o : Out C CB H r dx lw lr all E m k) (h : m = .none) : ∀ H', But [r, lr] H H' → E (.ref CB) .none H' := by
  subst h
  exact o
theorem Out.some {C CB : Addr} {H : Hp} {r dx lw lr : Addr} {all : List Str} {E : XK} {α : Type} {m : Option (α × List Str × Rows)} {k : α → Hp → Prop} {a : α} {rest : List Str} {rows : Rows} (o : Out C CB H r dx lw lr all E m k) (h : m = .some (a, rest, rows)) :
    ∀ H', But [r, lr] H H' → RdAt C H' r dx lw lr all rest rows → k a H' := by
  subst h
  exact o
theorem Out.of_none {C CB : Addr} {H : Hp} {r dx lw lr : Addr} {all : List Str} {E : XK} {α : Type} {m : Option (α × List Str × Rows)} {k : α → Hp → Prop} (h : m = .none) (o : ∀ H', But [r, lr] H H' → E (.ref CB) .none H') : Out C CB H r dx lw lr all E m k := by
  subst h
  exact o
theorem Out.of_some {C CB : Addr} {H : Hp} {r dx lw lr : Addr} {all : List Str} {E : XK} {α : Type} {m : Option (α × List Str × Rows)} {k : α → Hp → Prop} {a : α} {rest : List Str} {rows : Rows} (h : m = .some (a, rest, rows))
    (o : ∀ H', But [r, lr] H H' → RdAt C H' r dx lw lr all rest rows → k a H') : Out C CB H r dx lw lr all E m k := by
  subst h
  exact o
/-- the shape of these promises -/
def sp_rd (C CB : Addr) {α : Type} (args : List V → Prop) (m : List Str → Rows → Option (α × List Str × Rows)) (k : α → V → Hp → Prop) : Sp := fun vs H Q E => ∃ (r dx lw lr : Addr) (all rest : List Str) (rows : Rows) (us : List V), vs = .ref r :: us ∧ args us ∧ RdAt C H r dx lw lr all rest rows ∧
  Out C CB H r dx lw lr all E (m rest rows) fun a H' => ∀ v, k a v H' → Q v H'
def withR {α : Type} (rows : Rows) (m : Option (α × List Str)) : Option (α × List Str × Rows) := m.map fun p => (p.1, p.2, rows)
def sp_ahead (C : Addr) : Sp := fun vs H Q _ => ∃ (r dx lw lr : Addr) (all rest : List Str) (rows : Rows), vs = [.ref r] ∧ RdAt C H r dx lw lr all rest rows ∧ Q (.str (ahead rest)) H
def sp_taken (C CB : Addr) : Sp := sp_rd C CB (· = []) (fun rest rows => withR rows (taken rest)) fun w v _ => v = .str w
def sp_want (C CB : Addr) : Sp := fun vs H Q E => ∃ x : Str, sp_rd C CB (· = [.str x]) (fun rest rows => withR rows ((want x rest).map fun r => ((), r))) (fun _ v _ => v = .non) vs H Q E
def sp_named (C CB : Addr) : Sp := sp_rd C CB (· = []) (fun rest rows => withR rows (named rest)) fun w v _ => v = .str w ∧ w.length ≤ 1000000
def sp_expr (C CB : Addr) (n : Nat) : Sp := fun vs H Q E => ∃ d : Nat, 25 ≤ d + n ∧ sp_rd C CB (· = [.int (d : Int)]) (expr n d) (fun p v _ => v = .int (p : Int)) vs H Q E
def sp_form (C CB : Addr) (n : Nat) : Sp := fun vs H Q E => ∃ d : Nat, 25 ≤ d + n ∧ sp_rd C CB (· = [.int (d : Int)]) (form (expr n d)) (fun row v H' => Tp H' v row) vs H Q E
def sp_pieces (C CB : Addr) (n : Nat) : Sp := fun vs H Q E => ∃ (d : Nat) (pat : Str), 25 ≤ d + n ∧ pat.length ≤ 100 ∧ sp_rd C CB (· = [.int (d : Int), .str pat]) (pieces (expr n d) pat.cps.toList) (fun ps v H' => Tp H' v (.tuple ps)) vs H Q E
def sp_many (C CB : Addr) (n : Nat) : Sp := fun vs H Q E => ∃ (d : Nat) (pat : Str) (most : Nat), 25 ≤ d + n ∧ pat.length ≤ 100 ∧ most ≤ 100 ∧ sp_rd C CB (· = [.int (d : Int), .str pat, .int (most : Int)]) (many (expr n d) pat.cps.toList most) (fun ps v H' => Tp H' v (.tuple ps)) vs H Q E
/-- what the class is -/
structure RdT (K : PySem.W.Frag) (mg : Str → Option Value) (C CB : Addr) : Prop where
  cl : Cls K C
  n1 : NoAttr K C "words"
  n2 : NoAttr K C "front"
  n3 : NoAttr K C "rows"
  len : mg "len" = none
  int : mg "int" = none
  tup : mg "tuple" = none
  places : ∃ t, mg "MOST_PLACES" = some (.int 160 t)
  nest : ∃ t, mg "MOST_NEST" = some (.int 24 t)
  bad : ExcB K mg "BadText" CB
section
variable {P : Program} {w : World} {K : PySem.W.Frag} {mg : Str → Option Value} {base : Heap} {C_Reader CB : Addr} {f : Addr} {fd : FuncData}
theorem ok_ahead (F : Fun K "ahead" "Reader.ahead" s_Reader_ahead f fd) (T : RdT K mg C_Reader CB) : FnOk P w K mg base CX0 1 f fd ["self"] (sp_ahead C_Reader) := by
  refine F.ok sc_Reader_ahead (fun vs H Q E h => by obtain ⟨_, _, _, _, _, _, _, rfl, _⟩ := h; rfl) (fun cdv A outer s H vs Q E hr h => ?_)
  have cl_Reader := T.cl
  have n_Reader_words := T.n1
  have n_Reader_front := T.n2
  have z_len := T.len
  have hu64 := hr.units
  refine ⟨_, (pss_cons (ps_if (xt ylt (xfld (C := C_Reader) cl_Reader n_Reader_front (xv 0)) (pe_callB ylen (by rfl) z_len PySem.boot_len (pa_cons (xfld (C := C_Reader) cl_Reader n_Reader_words (xv 0)) pa_nil)) (nomark _)) (pss_one (ps_ret (pe_ix yix (xfld (C := C_Reader) cl_Reader n_Reader_words (xv 0)) (xfld (C := C_Reader) cl_Reader n_Reader_front (xv 0)) (fun _ _ => rfl)))) pss_nil)
  (pss_one (ps_ret pe_str))), ?_⟩
  obtain ⟨r, dx, lw, lr, all, rest, rows, rfl, R, q⟩ := h
  obtain ⟨vs, f, h1, h2, h3, h4, h5⟩ := R.ex
  have hw := R.w
  walk_at "evr"
  rw [List.length_map]
  split
  · next hl =>
    have hl' : f < all.length := by omega
    have e : all.drop f = all[f] :: all.drop (f + 1) := List.drop_eq_getElem_cons hl'
    rw [h4] at e
    rw [atI_nat (show (all.map V.str)[f]? = some (V.str all[f]) by rw [List.getElem?_map, List.getElem?_eq_getElem hl']; rfl)]
    rw [e] at q
    exact q
  · next hl =>
    have e : all.drop f = [] := List.drop_eq_nil_of_le (by omega)
    rw [h4] at e
    rw [e] at q
    exact q
theorem ok_taken (F : Fun K "taken" "Reader.taken" s_Reader_taken f fd) (T : RdT K mg C_Reader CB) (m_Reader_ahead : CalM P w K mg base CX0 1 C_Reader "ahead" ["self"] (sp_ahead C_Reader)) : FnOk P w K mg base (L2.CX P w) 2 f fd ["self"] (sp_taken C_Reader CB) := by
  refine F.okX sc_Reader_taken (fun vs H Q E h => by obtain ⟨_, _, _, _, _, _, _, _, rfl, rfl, _⟩ := h; rfl) (fun cdv A outer s H vs Q E hr h => ?_)
  have cl_Reader := T.cl
  have n_Reader_words := T.n1
  have n_Reader_front := T.n2
  have z_len := T.len
  have e_BadText := T.bad
  have hu64 := hr.units
  refine ⟨_, (pss_cons (ps_set (i := 1) sc_Reader_taken.nd rfl (Or.inl rfl) (pe_m0 m_Reader_ahead hr (xv 0)))
  (pss_cons (ps_if (xt (yeq hu64) (xv 1) pe_str (nomark _)) (pss_one (ps_rz (E := E) e_BadText rfl (takes_of rfl rfl rfl rfl))) pss_nil)
  (pss_cons (xaugf (C := C_Reader) cl_Reader n_Reader_front (xv 0) pe_int yiadd)
  (pss_one (ps_ret (xv 1)))))), ?_⟩
  obtain ⟨r, dx, lw, lr, all, rest, rows, us, rfl, rfl, R, q⟩ := h
  obtain ⟨vs, f, h1, h2, h3, h4, h5⟩ := R.ex
  walk_at "ev"
  refine ⟨r, dx, _, rfl, h1, rfl, r, dx, lw, lr, all, rest, rows, rfl, R, ?_⟩
  walk_at "ev"
  split
  · next he =>
    refine q.none ?_ H (But.refl _ _)
    cases rest with
    | nil => rfl
    | cons x l =>
      have he' : x = "" := he
      show withR rows (if x = "" then none else some (x, l)) = none
      rw [if_pos he']
      rfl
  · next he =>
    cases rest with
    | nil => exact absurd rfl he
    | cons x l =>
      have he' : ¬ x = "" := he
      have hs : withR rows (taken (x :: l)) = some (x, l, rows) := by
        show withR rows (if x = "" then none else some (x, l)) = _
        rw [if_neg he']
        rfl
      walk_at "evr"
      refine ⟨by show 3 < 1000; decide, ?_⟩
      have hf : f < all.length := by
        by_cases hf : f < all.length
        · exact hf
        · rw [List.drop_eq_nil_of_le (by omega)] at h4
          cases h4
      have hne : lr ≠ r := ne_of h2 h1 (by intro z; cases z)
      have hnw : lw ≠ r := ne_of R.w h1 (by intro z; cases z)
      refine q.some hs _ ((But.refl _ H).at (by simp) _) ?_ _ rfl
      refine ⟨⟨vs, f + 1, upd_same, by rw [upd_ne hne]; exact h2, h3.mono fun a xs e => ?_, ?_, by omega⟩, by rw [upd_ne hnw]; exact R.w, R.ne, R.al, R.ws, R.rl⟩
      · rw [upd_ne (ne_of e h1 (by intro z; cases z))]
        exact e
      · rw [← List.drop_drop, h4]
        rfl
theorem ok_want (F : Fun K "want" "Reader.want" s_Reader_want f fd) (T : RdT K mg C_Reader CB) (m_Reader_taken : CalM P w K mg base (L2.CX P w) 2 C_Reader "taken" ["self"] (sp_taken C_Reader CB)) : FnOk P w K mg base (L2.CX P w) 3 f fd ["self", "word"] (sp_want C_Reader CB) := by
  refine F.okX sc_Reader_want (fun vs H Q E h => by obtain ⟨_, _, _, _, _, _, _, _, _, rfl, rfl, _⟩ := h; rfl) (fun cdv A outer s H vs Q E hr h => ?_)
  have cl_Reader := T.cl
  have e_BadText := T.bad
  have hu64 := hr.units
  refine ⟨_, (pss_one (ps_if (xt (yne hu64) (pe_mX0 (E := E) m_Reader_taken hr (takes_of rfl rfl rfl rfl) (xv 0)) (xv 1) (nomark _)) (pss_one (ps_rz (E := E) e_BadText rfl (takes_of rfl rfl rfl rfl))) pss_nil)), ?_⟩
  obtain ⟨x, r, dx, lw, lr, all, rest, rows, us, rfl, rfl, R, q⟩ := h
  obtain ⟨vs, f, h1, h2, h3, h4, h5⟩ := R.ex
  walk_at "ev"
  refine ⟨r, dx, _, rfl, h1, rfl, r, dx, lw, lr, all, rest, rows, [], rfl, rfl, R, ?_⟩
  cases ht : taken rest with
  | none => refine Out.of_none (by show withR rows (taken rest) = _; rw [ht]; rfl) ?_; exact q.none (by show withR rows ((want x rest).map _) = _; unfold want; rw [ht]; rfl)
  | some p =>
    obtain ⟨y, rest'⟩ := p
    refine Out.of_some (by show withR rows (taken rest) = _; rw [ht]; rfl) ?_
    intro H1 b1 R1 v hv
    subst hv
    walk_at "ev"
    split
    · next he =>
      exact q.some (a := ()) (rest := rest') (rows := rows) (by show withR rows ((want x rest).map _) = _; unfold want; rw [ht]; show withR rows ((if y = x then some rest' else none).map _) = _; rw [if_pos he]; rfl) H1 b1 R1 _ rfl
    · next he =>
      exact q.none (by show withR rows ((want x rest).map _) = _; unfold want; rw [ht]; show withR rows ((if y = x then some rest' else none).map _) = _; rw [if_neg he]; rfl) H1 b1
theorem ok_named (F : Fun K "named" "Reader.named" s_Reader_named f fd) (T : RdT K mg C_Reader CB) (m_Reader_taken : CalM P w K mg base (L2.CX P w) 2 C_Reader "taken" ["self"] (sp_taken C_Reader CB)) (c_is_name : Cal P w K mg base CX0 1 "is_name" ["word"] sp_is_name) : FnOk P w K mg base (L2.CX P w) 3 f fd ["self"] (sp_named C_Reader CB) := by
  refine F.okX sc_Reader_named (fun vs H Q E h => by obtain ⟨_, _, _, _, _, _, _, _, rfl, rfl, _⟩ := h; rfl) (fun cdv A outer s H vs Q E hr h => ?_)
  have cl_Reader := T.cl
  have e_BadText := T.bad
  have hu64 := hr.units
  refine ⟨_, (pss_cons (ps_set (i := 1) sc_Reader_named.nd rfl (Or.inl rfl) (pe_mX0 (E := E) m_Reader_taken hr (takes_of rfl rfl rfl rfl) (xv 0)))
  (pss_cons (ps_if (pt_not (xtv (pe_c c_is_name hr (pa_cons (xv 1) pa_nil)))) (pss_one (ps_rz (E := E) e_BadText rfl (takes_of rfl rfl rfl rfl))) pss_nil)
  (pss_one (ps_ret (xv 1))))), ?_⟩
  obtain ⟨r, dx, lw, lr, all, rest, rows, us, rfl, rfl, R, q⟩ := h
  obtain ⟨vs, f, h1, h2, h3, h4, h5⟩ := R.ex
  walk_at "ev"
  refine ⟨r, dx, _, rfl, h1, rfl, r, dx, lw, lr, all, rest, rows, [], rfl, rfl, R, ?_⟩
  cases ht : taken rest with
  | none => refine Out.of_none (by show withR rows (taken rest) = _; rw [ht]; rfl) ?_; exact q.none (by show withR rows (named rest) = _; unfold named; rw [ht]; rfl)
  | some p =>
    obtain ⟨y, rest'⟩ := p
    refine Out.of_some (by show withR rows (taken rest) = _; rw [ht]; rfl) ?_
    intro H1 b1 R1 v hv
    subst hv
    have hy : y.length ≤ 1000000 := by
      have hm : y ∈ all := by
        obtain ⟨e, _⟩ := taken_some ht
        have : y ∈ all.drop f := by rw [h4, e]; exact List.mem_cons_self
        exact List.mem_of_mem_drop this
      exact R.ws y hm
    walk_at "ev"
    refine ⟨y, rfl, hy, ?_⟩
    walk_at "ev"
    split
    · next he =>
      exact q.none (by show withR rows (named rest) = _; unfold named; rw [ht]; show withR rows (if isName y = true then some (y, rest') else none) = _; rw [he]; rfl) H1 b1
    · next he =>
      exact q.some (a := y) (rest := rest') (rows := rows) (by show withR rows (named rest) = _; unfold named; rw [ht]; show withR rows (if isName y = true then some (y, rest') else none) = _; rw [(Bool.not_eq_false _).mp he]; rfl) H1 b1 R1 _ ⟨rfl, hy⟩
end
end Fk
namespace Fk
open PySem L2
local macro_rules | `(tactic| walk_at "ev") => `(tactic| try simp only [cx_K, L2.start, List.map_cons, List.map_nil, List.length_cons, List.length_nil, Nat.reduceAdd, Nat.reduceSub, Nat.reduceLT, List.replicate_succ, List.replicate_zero, List.cons_append, List.nil_append, Nat.zero_add, Nat.add_zero,
  tSeq, tAsg, tLst, tTup, tNil, tCons, tC, tOp, tUn, gName, tNext, tRet, tRetN, tIfS, tDrop, tCB, tCall, tMeth, tMake, tIf, tAnd, tOr, tNot, tAndV, tOrV, tNotV, qFor, qLc, tYes, wStr, wLst, wTup, wRng1, wRng2, wEnum, wZip, wZipA, wRev, qVar, asB_bl, qAdd_ii, qAdd_ss, qSub_ii, qMul_ii, qMod_ii, qDiv_ii, qPow_ii, qCmpI_ii, qEq_ii, qEq_ss, qEq_bb, qIsN_n, qIsN_i, qIsN_s, qIsN_b, qIsN_r, qInS_s, qInT_r, qIx_s, qIx_r, qT, qIAdd_ii, qIAdd_ss, qLen_s, qLen_r, qAbs_i, qMax2_ii, qMin2_ii, qInt_i, qInt_b, qInt_s, qStrC_i, qStrC_s, qList_r, qTuple_r, tupleAs_l, tupleAs_t, qDivmod_ii, qAll_r, qAny_r, qSl_s, tSl, tNoPart, tPart, qPar, qPar3,
  qApp, qExt, qPop, isLst, qFld, qSetF, qAugF, qAug, qgTup, qgCons, qgNil, qNeg, qDG, qDIn, qDPut, qDGet2, qUpd, keyOf, qJoin, qWords, qStrip, qSum, qMaxA, qSIdx, qLIdx, qRevS, qIsi, qIsi2, qIsiC, qChain, isBl, tyN, gSub, qSetL, yv, wipe,
  List.getElem?_cons_zero, List.getElem?_cons_succ, List.set_cons_zero, List.set_cons_succ, upd_same, lstOf, tupOf, seqOf, at0, at1, at2, at3, ix0, ix1, ix2, sz0, sz1, sz2, sz3, sz4, sz5, sz6, sz7, sz8, sz15, true_and, and_true, and_self, if_true, if_false, if_pos,
  beq_t, beq_f, decide_eq_true_eq, decide_eq_false_iff_not, Bool.not_eq_true', Bool.not_eq_true, Bool.not_eq_false, Bool.not_true, Bool.not_false, Bool.false_eq_true, reduceCtorEq, ite_not, if_true, if_false, reduceIte, V.int.injEq, V.str.injEq, V.bl.injEq, V.ref.injEq, List.append_nil, forall_eq', exists_eq_left, exists_eq_left'])
local macro_rules | `(tactic| walk_at "evr") => `(tactic| try simp only [cx_K, L2.start, List.map_cons, List.map_nil, List.length_cons, List.length_nil, Nat.reduceAdd, Nat.reduceSub, Nat.reduceLT, List.replicate_succ, List.replicate_zero, List.cons_append, List.nil_append, Nat.zero_add, Nat.add_zero,
  tSeq, tAsg, tLst, tTup, tNil, tCons, tC, tOp, tUn, gName, tNext, tRet, tRetN, tIfS, tDrop, tCB, tCall, tMeth, tMake, tIf, tAnd, tOr, tNot, tAndV, tOrV, tNotV, qFor, qLc, tYes, wStr, wLst, wTup, wRng1, wRng2, wEnum, wZip, wZipA, wRev, qVar, asB_bl, qAdd_ii, qAdd_ss, qSub_ii, qMul_ii, qMod_ii, qDiv_ii, qPow_ii, qCmpI_ii, qEq_ii, qEq_ss, qEq_bb, qIsN_n, qIsN_i, qIsN_s, qIsN_b, qIsN_r, qInS_s, qInT_r, qIx_s, qIx_r, qT, qIAdd_ii, qIAdd_ss, qLen_s, qLen_r, qAbs_i, qMax2_ii, qMin2_ii, qInt_i, qInt_b, qInt_s, qStrC_i, qStrC_s, qList_r, qTuple_r, tupleAs_l, tupleAs_t, qDivmod_ii, qAll_r, qAny_r, qSl_s, tSl, tNoPart, tPart, qPar, qPar3,
  qApp, qExt, qPop, isLst, qFld, qSetF, qAugF, qAug, qgTup, qgCons, qgNil, qNeg, qDG, qDIn, qDPut, qDGet2, qUpd, keyOf, qJoin, qWords, qStrip, qSum, qMaxA, qSIdx, qLIdx, qRevS, qIsi, qIsi2, qIsiC, qChain, isBl, tyN, gSub, qSetL, yv, wipe,
  List.getElem?_cons_zero, List.getElem?_cons_succ, List.set_cons_zero, List.set_cons_succ, upd_same, lstOf, tupOf, seqOf, at0, at1, at2, at3, ix0, ix1, ix2, sz0, sz1, sz2, sz3, sz4, sz5, sz6, sz7, sz8, sz15, true_and, and_true, and_self, if_true, if_false, if_pos,
  beq_t, beq_f, decide_eq_true_eq, decide_eq_false_iff_not, Bool.not_eq_true', Bool.not_eq_true, Bool.not_eq_false, Bool.not_true, Bool.not_false, Bool.false_eq_true, reduceCtorEq, ite_not, if_true, if_false, reduceIte, V.int.injEq, V.str.injEq, V.bl.injEq, V.ref.injEq, List.append_nil, forall_eq', exists_eq_left, exists_eq_left', rfs_words, rfs_front, rfs_rows, rfs_put, *])
theorem RdAt.kr {C : Addr} {H : Hp} {r dx lw lr : Addr} {all rest : List Str} {rows : Rows} (R : RdAt C H r dx lw lr all rest rows) : ∃ f, H r = some (.ins C dx (rfs lw f lr)) := by
  obtain ⟨vs, f, h1, _⟩ := R.ex
  exact ⟨_, h1⟩
theorem TK.of_but {C : Addr} {H H' : Hp} {r dx lw lr : Addr} {all rest : List Str} {rows : Rows} (R : RdAt C H r dx lw lr all rest rows) (b : But [r, lr] H H') : TK H H' := fun a xs e => by
  obtain ⟨vs, f, h1, h2, _⟩ := R.ex
  refine b a _ ?_ e
  have n1 : a ≠ r := ne_of e h1 (by intro z; cases z)
  have n2 : a ≠ lr := ne_of e h2 (by intro z; cases z)
  simp [n1, n2]
theorem RdAt.at {C : Addr} {H : Hp} {r dx lw lr p : Addr} {o : HO} {all rest : List Str} {rows : Rows} (R : RdAt C H r dx lw lr all rest rows) (h1 : p ≠ r) (h2 : p ≠ lr) (h3 : p ≠ lw) (h4 : ∀ xs, H p ≠ some (.tup xs)) : RdAt C (upd H p o) r dx lw lr all rest rows := by
  obtain ⟨vs, f, e1, e2, e3, e4⟩ := R.ex
  refine ⟨⟨vs, f, by rw [upd_ne h1.symm]; exact e1, by rw [upd_ne h2.symm]; exact e2, e3.mono fun a xs q => ?_, e4⟩, by rw [upd_ne h3.symm]; exact R.w, R.ne, R.al, R.ws, R.rl⟩
  rw [upd_ne (by rintro rfl; exact h4 xs q)]
  exact q
theorem tk_upd {H : Hp} {p : Addr} {o : HO} (h4 : ∀ xs, H p ≠ some (.tup xs)) : TK H (upd H p o) := fun a xs q => by
  rw [upd_ne (by rintro rfl; exact h4 xs q)]
  exact q
theorem no_tup {H : Hp} {p : Addr} {xs : List V} (h : H p = some (.lst xs)) : ∀ ys, H p ≠ some (.tup ys) := fun ys e => by rw [h] at e; cases e
theorem no_tupN {H : Hp} {p : Addr} (h : H p = none) : ∀ ys, H p ≠ some (.tup ys) := fun ys e => by rw [h] at e; cases e
/-- an address that is new apart from a Reader's own -/
structure Apart (p r lr lw : Addr) : Prop where
  r : p ≠ r
  lr : p ≠ lr
  lw : p ≠ lw
theorem RdAt.apart {C : Addr} {H : Hp} {r dx lw lr p : Addr} {all rest : List Str} {rows : Rows} (R : RdAt C H r dx lw lr all rest rows) (h : H p = none) : Apart p r lr lw := by
  obtain ⟨vs, f, h1, h2, _⟩ := R.ex
  exact ⟨(ne_of_none h1 h).symm, (ne_of_none h2 h).symm, (ne_of_none R.w h).symm⟩
theorem Apart.out {p r lr lw : Addr} (a : Apart p r lr lw) : p ∉ [r, lr] := by
  have := a.r
  have := a.lr
  simp [*]
theorem ch_eq120 (c : Nat) : (({ cps := #[c] } : Str) = "x") = (c = 120) := propext ⟨fun h => ch_inj (h.trans (by decide +kernel : ("x" : Str) = { cps := #[120] })), fun h => by rw [h]; decide +kernel⟩
/-- a row's parts, some of them found -/
def plus {β : Type} (ps : List PyData) (m : Option (List PyData × β)) : Option (List PyData × β) := m.map fun t => (ps ++ t.1, t.2)
theorem plus_nil {β : Type} (m : Option (List PyData × β)) : plus [] m = m := by cases m <;> rfl
theorem plus_none {β : Type} {ps : List PyData} : plus ps (none : Option (List PyData × β)) = none := rfl
/-- an equation that no reckoning takes -/
def Is {α : Type} (a b : α) : Prop := a = b
theorem Is.eq {α : Type} {a b : α} (h : Is a b) : a = b := h
def iv_pieces (C : Addr) (H0 : Hp) (r dx lw lr lf : Addr) (all : List Str) (d : Nat) (pat : Str) (ex : RE) (m0 : Option (List PyData × List Str × Rows)) (cs : List Nat) (σ : St) (H : Hp) : Prop :=
  ∃ rest rows vs ps x, σ = [some (.ref r), some (.int (d : Int)), some (.str pat), some (.ref lf), x] ∧ But [r, lr] H0 H ∧ RdAt C H r dx lw lr all rest rows ∧ H lf = some (.lst vs) ∧ Tps H vs ps ∧ vs.length + cs.length ≤ 100 ∧ Is m0 (plus ps (pieces ex cs rest rows))
def iv_many (C : Addr) (H0 : Hp) (r dx lw lr lf : Addr) (all : List Str) (d : Nat) (pat : Str) (most : Nat) (ex : RE) (m0 : Option (List PyData × List Str × Rows)) (k : Nat) (σ : St) (H : Hp) : Prop :=
  ∃ rest rows vs ps, σ = [some (.ref r), some (.int (d : Int)), some (.str pat), some (.int (most : Int)), some (.ref lf)] ∧ But [r, lr] H0 H ∧ RdAt C H r dx lw lr all rest rows ∧ H lf = some (.lst vs) ∧ Tps H vs ps ∧ vs.length + k = most ∧ Is m0 (plus ps (many ex pat.cps.toList k rest rows))
section
variable {P : Program} {w : World} {K : PySem.W.Frag} {mg : Str → Option Value} {base : Heap} {C_Reader CB : Addr} {f : Addr} {fd : FuncData}
theorem ok_pieces {n k : Nat} (hk : 4 ≤ k) (F : Fun K "pieces" "Reader.pieces" s_Reader_pieces f fd) (T : RdT K mg C_Reader CB) (m_Reader_named : CalM P w K mg base (L2.CX P w) 3 C_Reader "named" ["self"] (sp_named C_Reader CB))
    (m_Reader_expr : CalM P w K mg base (L2.CX P w) k C_Reader "expr" ["self", "depth"] (sp_expr C_Reader CB n)) : FnOk P w K mg base (L2.CX P w) (k + 1) f fd ["self", "depth", "pattern"] (sp_pieces C_Reader CB n) := by
  refine F.okX sc_Reader_pieces (fun vs H Q E h => by obtain ⟨_, _, _, _, _, _, _, _, _, _, _, _, rfl, rfl, _⟩ := h; rfl) (fun cdv A outer s H vs Q E hr h => ?_)
  have cl_Reader := T.cl
  have e_BadText := T.bad
  have z_tuple := T.tup
  have hu64 := hr.units
  refine ⟨_, (pss_cons (ps_set (i := 3) sc_Reader_pieces.nd rfl (Or.inl rfl) (pe_lst pa_nil))
  (pss_cons (xfor (passes_of rfl) (xistr (xv 2)) (pg_name (i := 4) sc_Reader_pieces.nd rfl (Or.inl rfl))
  (pss_one (ps_if (xt (yeq hu64) (xv 4) pe_str (nomark _)) (pss_one (ps_expr (xapp (xv 3) (pe_mX0 (E := E) m_Reader_named hr (takes_of rfl rfl rfl rfl) (xv 0))))) (pss_one (ps_expr (xapp (xv 3) (pe_mX (E := E) m_Reader_expr hr (takes_of rfl rfl rfl rfl) (xv 0) (pa_cons (xv 1) pa_nil))))))))
  (pss_one (ps_ret (pe_callTy ytuple (by rfl) z_tuple (by decide +kernel) (pa_cons (xv 3) pa_nil)))))), ?_⟩
  obtain ⟨d, pat, hd, hp, r, dx, lw, lr, all, rest, rows, us, rfl, rfl, R, q⟩ := h
  walk_at "ev"
  intro lf hlf
  have ap := R.apart hlf
  have hpl := len_toList pat
  refine ⟨Nat, _, pat.cps.toList, iv_pieces C_Reader H r dx lw lr lf all d pat (expr n d) (pieces (expr n d) pat.cps.toList rest rows), rfl, ?_, fun _ _ _ _ => trivial, ?_, ?_⟩
  · exact ⟨rest, rows, [], [], none, rfl, But.new hlf _, R.at ap.r ap.lr ap.lw (no_tupN hlf), upd_same, .nil, by show 0 + _ ≤ 100; omega, (plus_nil _).symm⟩
  · rintro c cs σ H1 ⟨rest1, rows1, vs, ps, x, rfl, b1, R1, hl, ht, hn, hm⟩
    rw [List.length_cons] at hn
    obtain ⟨f1, h1⟩ := R1.kr
    walk_at "evr"
    simp only [ch_eq120, List.not_mem_nil]
    split
    · next hc =>
      refine ⟨r, dx, _, rfl, h1, rfl, r, dx, lw, lr, all, rest1, rows1, [], rfl, rfl, R1, ?_⟩
      cases hx : named rest1 with
      | none =>
        refine Out.of_none (by show withR rows1 (named rest1) = _; rw [hx]; rfl) fun H2 b2 => q.none ?_ H2 (b1.trans b2)
        rw [hm.eq]
        unfold pieces
        rw [if_pos hc, hx]
        rfl
      | some p =>
        obtain ⟨y, rest2⟩ := p
        refine Out.of_some (by show withR rows1 (named rest1) = _; rw [hx]; rfl) fun H2 b2 R2 v hv => ?_
        obtain ⟨rfl, hy⟩ := hv
        have hl2 : H2 lf = some (.lst vs) := b2 _ _ ap.out hl
        walk_at "evr"
        refine ⟨sz_lt (by omega), rest2, rows1, vs ++ [.str y], ps ++ [.str y], _, rfl, (b1.trans b2).nw hlf _, R2.at ap.r ap.lr ap.lw (no_tup hl2), upd_same, ((ht.mono (TK.of_but R1 b2)).append (.cons (.str y) .nil)).mono (tk_upd (no_tup hl2)), by rw [List.length_append]; show _ + 1 + _ ≤ _; omega, ?_⟩
        show Eq _ _
        rw [hm.eq]
        rw [pieces, if_pos hc, hx]
        show plus ps (match pieces (expr n d) cs rest2 rows1 with
          | none => none
          | some (ps, ws, rows) => some (.str y :: ps, ws, rows)) = _
        cases pieces (expr n d) cs rest2 rows1 with
        | none => rfl
        | some t =>
          obtain ⟨t1, t2, t3⟩ := t
          show some (ps ++ (PyData.str y :: t1), t2, t3) = some (ps ++ [.str y] ++ t1, t2, t3)
          rw [List.append_assoc]
          rfl
    · next hc =>
      refine ⟨r, dx, _, rfl, h1, rfl, d, hd, r, dx, lw, lr, all, rest1, rows1, [_], rfl, rfl, R1, ?_⟩
      cases hx : expr n d rest1 rows1 with
      | none =>
        refine Out.of_none (by first | rfl | exact hx) fun H2 b2 => q.none ?_ H2 (b1.trans b2)
        rw [hm.eq]
        unfold pieces
        rw [if_neg hc, hx]
        rfl
      | some p =>
        obtain ⟨y, rest2, rows2⟩ := p
        refine Out.of_some (by first | rfl | exact hx) fun H2 b2 R2 v hv => ?_
        have hv' : v = .int (y : Int) := hv
        subst hv'
        have hl2 : H2 lf = some (.lst vs) := b2 _ _ ap.out hl
        walk_at "evr"
        refine ⟨sz_lt (by omega), rest2, rows2, vs ++ [.int (y : Int)], ps ++ [.int (y : Int)], _, rfl, (b1.trans b2).nw hlf _, R2.at ap.r ap.lr ap.lw (no_tup hl2), upd_same, ((ht.mono (TK.of_but R1 b2)).append (.cons (.int y) .nil)).mono (tk_upd (no_tup hl2)), by rw [List.length_append]; show _ + 1 + _ ≤ _; omega, ?_⟩
        show Eq _ _
        rw [hm.eq]
        rw [pieces, if_neg hc, hx]
        show plus ps (match pieces (expr n d) cs rest2 rows2 with
          | none => none
          | some (ps, ws, rows) => some (.int (y : Int) :: ps, ws, rows)) = _
        cases pieces (expr n d) cs rest2 rows2 with
        | none => rfl
        | some t =>
          obtain ⟨t1, t2, t3⟩ := t
          show some (ps ++ (PyData.int y :: t1), t2, t3) = some (ps ++ [.int y] ++ t1, t2, t3)
          rw [List.append_assoc]
          rfl
  · rintro σ H1 ⟨rest1, rows1, vs, ps, x, rfl, b1, R1, hl, ht, hn, hm⟩
    walk_at "evr"
    intro l hl0
    have ap2 := R1.apart hl0
    refine q.some (a := ps) (rest := rest1) (rows := rows1) (by rw [hm.eq]; show some (ps ++ [], _, _) = _; rw [List.append_nil]) _ (b1.nw ?_ _) (R1.at ap2.r ap2.lr ap2.lw (no_tupN hl0)) _ (.tup upd_same (ht.mono (tk_upd (no_tupN hl0))))
    exact b1.free ap2.out hl0
theorem ok_many {n k : Nat} (hk : 4 ≤ k) (F : Fun K "many" "Reader.many" s_Reader_many f fd) (T : RdT K mg C_Reader CB) (m_Reader_ahead : CalM P w K mg base CX0 1 C_Reader "ahead" ["self"] (sp_ahead C_Reader))
    (m_Reader_pieces : CalM P w K mg base (L2.CX P w) k C_Reader "pieces" ["self", "depth", "pattern"] (sp_pieces C_Reader CB n)) : FnOk P w K mg base (L2.CX P w) (k + 1) f fd ["self", "depth", "pattern", "most"] (sp_many C_Reader CB n) := by
  refine F.okX sc_Reader_many (fun vs H Q E h => by obtain ⟨_, _, _, _, _, _, _, _, _, _, _, _, _, _, rfl, rfl, _⟩ := h; rfl) (fun cdv A outer s H vs Q E hr h => ?_)
  have cl_Reader := T.cl
  have e_BadText := T.bad
  have z_tuple := T.tup
  have z_len := T.len
  have hu64 := hr.units
  refine ⟨_, (pss_cons (ps_set (i := 4) sc_Reader_many.nd rfl (Or.inl rfl) (pe_lst pa_nil))
  (pss_cons (xwhile (passes_of rfl) (xt (yne hu64) (pe_m0 m_Reader_ahead hr (xv 0)) pe_str (nomark _)) (pss_cons (ps_if (xt (yeq hu64) (pe_callB ylen (by rfl) z_len PySem.boot_len (pa_cons (xv 4) pa_nil)) (xv 3) (nomark _)) (pss_one (ps_rz (E := E) e_BadText rfl (takes_of rfl rfl rfl rfl))) pss_nil)
  (pss_one (ps_expr (xapp (xv 4) (pe_mX (E := E) m_Reader_pieces hr (takes_of rfl rfl rfl rfl) (xv 0) (pa_cons (xv 1) (pa_cons (xv 2) pa_nil))))))))
  (pss_one (ps_ret (pe_callTy ytuple (by rfl) z_tuple (by decide +kernel) (pa_cons (xv 4) pa_nil)))))), ?_⟩
  obtain ⟨d, pat, most, hd, hp, hm, r, dx, lw, lr, all, rest, rows, us, rfl, rfl, R, q⟩ := h
  walk_at "ev"
  intro lf hlf
  have ap := R.apart hlf
  refine ⟨iv_many C_Reader H r dx lw lr lf all d pat most (expr n d) (many (expr n d) pat.cps.toList most rest rows), ⟨most, rest, rows, [], [], rfl, But.new hlf _, R.at ap.r ap.lr ap.lw (no_tupN hlf), upd_same, .nil, Nat.zero_add _, (plus_nil _).symm⟩, ?_⟩
  rintro k σ H1 ⟨rest1, rows1, vs, ps, rfl, b1, R1, hl, ht, hn, hm⟩
  obtain ⟨f1, h1⟩ := R1.kr
  walk_at "ev"
  refine ⟨r, dx, _, rfl, h1, rfl, r, dx, lw, lr, all, rest1, rows1, rfl, R1, ?_⟩
  walk_at "evr"
  split
  · next ha =>
    intro l hl0
    have ap2 := R1.apart hl0
    refine q.some (a := ps) (rest := rest1) (rows := rows1) (by rw [hm.eq, many_end ha]; show some (ps ++ [], _, _) = _; rw [List.append_nil]) _ (b1.nw ?_ _) (R1.at ap2.r ap2.lr ap2.lw (no_tupN hl0)) _ (.tup upd_same (ht.mono (tk_upd (no_tupN hl0))))
    exact b1.free ap2.out hl0
  · next ha =>
    split
    · next he =>
      have hk0 : k = 0 := by omega
      subst hk0
      refine q.none ?_ H1 b1
      rw [hm.eq, many_zero ha]
      rfl
    · next he =>
      obtain ⟨k, rfl⟩ : ∃ j, k = j + 1 := ⟨k - 1, by omega⟩
      refine ⟨r, dx, _, rfl, h1, rfl, d, pat, hd, hp, r, dx, lw, lr, all, rest1, rows1, _, rfl, rfl, R1, ?_⟩
      cases hx : pieces (expr n d) pat.cps.toList rest1 rows1 with
      | none =>
        refine Out.of_none (by first | rfl | exact hx) fun H2 b2 => q.none ?_ H2 (b1.trans b2)
        rw [hm.eq, many_succ ha]
        simp only [hx]
        rfl
      | some p =>
        obtain ⟨y, rest2, rows2⟩ := p
        refine Out.of_some (by first | rfl | exact hx) fun H2 b2 R2 v hv => ?_
        have hl2 : H2 lf = some (.lst vs) := b2 _ _ ap.out hl
        walk_at "evr"
        refine ⟨sz_lt (by omega), k, Nat.lt_succ_self k, rest2, rows2, vs ++ [v], ps ++ [.tuple y], rfl, (b1.trans b2).nw hlf _, R2.at ap.r ap.lr ap.lw (no_tup hl2), upd_same, ((ht.mono (TK.of_but R1 b2)).append (.cons hv .nil)).mono (tk_upd (no_tup hl2)), by rw [List.length_append]; show _ + 1 + _ = _; omega, ?_⟩
        show Eq _ _
        rw [hm.eq, many_succ ha]
        simp only [hx]
        cases many (expr n d) pat.cps.toList k rest2 rows2 with
        | none => rfl
        | some t =>
          obtain ⟨t1, t2, t3⟩ := t
          show some (ps ++ (PyData.tuple y :: t1), t2, t3) = some (ps ++ [.tuple y] ++ t1, t2, t3)
          rw [List.append_assoc]
          rfl
theorem ok_form {n k : Nat} (hk : 4 ≤ k) (F : Fun K "form" "Reader.form" s_Reader_form f fd) (T : RdT K mg C_Reader CB) (m_Reader_taken : CalM P w K mg base (L2.CX P w) 2 C_Reader "taken" ["self"] (sp_taken C_Reader CB))
    (c_pattern_of : Cal P w K mg base (L2.CX P w) 1 "pattern_of" ["head"] (sp_pattern_of CB)) (m_Reader_expr : CalM P w K mg base (L2.CX P w) k C_Reader "expr" ["self", "depth"] (sp_expr C_Reader CB n))
    (m_Reader_pieces : CalM P w K mg base (L2.CX P w) k C_Reader "pieces" ["self", "depth", "pattern"] (sp_pieces C_Reader CB n)) (m_Reader_many : CalM P w K mg base (L2.CX P w) k C_Reader "many" ["self", "depth", "pattern", "most"] (sp_many C_Reader CB n)) :
    FnOk P w K mg base (L2.CX P w) (k + 1) f fd ["self", "depth"] (sp_form C_Reader CB n) := by
  refine F.okX sc_Reader_form (fun vs H Q E h => by obtain ⟨_, _, _, _, _, _, _, _, _, _, rfl, rfl, _⟩ := h; rfl) (fun cdv A outer s H vs Q E hr h => ?_)
  have cl_Reader := T.cl
  have e_BadText := T.bad
  have z_tuple := T.tup
  have z_len := T.len
  have hu64 := hr.units
  refine ⟨_, (pss_cons (ps_set (i := 2) sc_Reader_form.nd rfl (Or.inl rfl) (pe_mX0 (E := E) m_Reader_taken hr (takes_of rfl rfl rfl rfl) (xv 0)))
  (pss_cons (ps_if (xt (yeq hu64) (xv 2) pe_str (nomark _)) (pss_one (ps_ret (pe_tup (pa_cons (xv 2) (pa_cons (pe_mX (E := E) m_Reader_many hr (takes_of rfl rfl rfl rfl) (xv 0) (pa_cons (xv 1) (pa_cons pe_str (pa_cons pe_int pa_nil)))) pa_nil))))) pss_nil)
  (pss_cons (ps_if (xt (yeq hu64) (xv 2) pe_str (nomark _)) (pss_one (ps_ret (pe_tup (pa_cons (xv 2) (pa_cons (pe_callTy ytuple (by rfl) z_tuple (by decide +kernel) (pa_cons (xlc (own := [("pair", 3)]) sc_Reader_form.nd (xitup (pe_mX (E := E) m_Reader_many hr (takes_of rfl rfl rfl rfl) (xv 0) (pa_cons (xv 1) (pa_cons pe_str (pa_cons pe_int pa_nil))))) (blkOk_by (own := [("pair", 3)]) (N := ["self", "depth", "head", "pair", "first", "arms"]) (sc := defScope s_Reader_form) (by decide +kernel)) (fun _ _ _ _ _ => (pg_name (i := 3) sc_Reader_form.nd rfl (Or.inl rfl))) (fun _ _ _ _ _ => pts_nil) (fun _ _ _ _ _ => (pe_ix yix (xv 3) pe_int (fun _ _ => rfl)))) pa_nil)) pa_nil))))) pss_nil)
  (pss_cons (ps_if (xt (yeq hu64) (xv 2) pe_str (nomark _)) (pss_cons (ps_set (i := 4) sc_Reader_form.nd rfl (Or.inl rfl) (pe_mX (E := E) m_Reader_expr hr (takes_of rfl rfl rfl rfl) (xv 0) (pa_cons (xv 1) pa_nil)))
  (pss_cons (ps_set (i := 5) sc_Reader_form.nd rfl (Or.inl rfl) (pe_mX (E := E) m_Reader_many hr (takes_of rfl rfl rfl rfl) (xv 0) (pa_cons (xv 1) (pa_cons pe_str (pa_cons pe_int pa_nil)))))
  (pss_cons (ps_if (xt (yeq hu64) (pe_callB ylen (by rfl) z_len PySem.boot_len (pa_cons (xv 5) pa_nil)) pe_int (nomark _)) (pss_one (ps_rz (E := E) e_BadText rfl (takes_of rfl rfl rfl rfl))) pss_nil)
  (pss_one (ps_ret (pe_tup (pa_cons (xv 2) (pa_cons (xv 4) (pa_cons (xv 5) pa_nil))))))))) pss_nil)
  (pss_one (ps_ret (pe_op yadd (pe_tup (pa_cons (xv 2) pa_nil)) (pe_mX (E := E) m_Reader_pieces hr (takes_of rfl rfl rfl rfl) (xv 0) (pa_cons (xv 1) (pa_cons (pe_cX (E := E) c_pattern_of hr (takes_of rfl rfl rfl rfl) (pa_cons (xv 2) pa_nil)) pa_nil)))))))))), ?_⟩
  obtain ⟨d, hd, r, dx, lw, lr, all, rest, rows, us, rfl, rfl, R, q⟩ := h
  obtain ⟨f0, h1⟩ := R.kr
  walk_at "ev"
  refine ⟨r, dx, _, rfl, h1, rfl, r, dx, lw, lr, all, rest, rows, [], rfl, rfl, R, ?_⟩
  cases hx : taken rest with
  | none =>
    refine Out.of_none (by show withR rows (taken rest) = _; rw [hx]; rfl) fun H2 b2 => q.none ?_ H2 b2
    unfold form
    rw [hx]
  | some p =>
    obtain ⟨h, rest1⟩ := p
    refine Out.of_some (by show withR rows (taken rest) = _; rw [hx]; rfl) fun H1 b1 R1 v hv => ?_
    have hv' : v = .str h := hv
    subst hv'
    unfold form at q
    rw [hx] at q
    simp only at q
    obtain ⟨f1, h1⟩ := R1.kr
    walk_at "ev"
    split
    · next hc =>
      rw [if_pos hc] at q
      refine ⟨r, dx, _, rfl, h1, rfl, d, "xe", 6, hd, by decide +kernel, by decide, r, dx, lw, lr, all, rest1, rows, _, rfl, rfl, R1, ?_⟩
      rw [xe_eq]
      cases hm : many (expr n d) [120, 101] 6 rest1 rows with
      | none => 
        refine Out.of_none (by first | rfl | exact hm) fun H2 b2 => q.none ?_ H2 (b1.trans b2)
        rw [hm]
      | some t =>
        obtain ⟨ps, rest2, rows2⟩ := t
        refine Out.of_some (by first | rfl | exact hm) fun H2 b2 R2 v hv => ?_
        walk_at "ev"
        intro p hp
        have ap := R2.apart hp
        exact q.some (by rw [hm]) _ ((b1.trans b2).nw ((b1.trans b2).free ap.out hp) _) (R2.at ap.r ap.lr ap.lw (no_tupN hp)) _ (.tup upd_same (.cons (.str h) (.cons (hv.mono (tk_upd (no_tupN hp))) .nil)))
    · next hc =>
      rw [if_neg hc] at q
      split
      · next hc =>
        rw [if_pos hc] at q
        refine ⟨r, dx, _, rfl, h1, rfl, d, "e", 8, hd, by decide +kernel, by decide, r, dx, lw, lr, all, rest1, rows, _, rfl, rfl, R1, ?_⟩
        rw [e_eq]
        cases hm : many (expr n d) [101] 8 rest1 rows with
        | none => 
          refine Out.of_none (by first | rfl | exact hm) fun H2 b2 => q.none ?_ H2 (b1.trans b2)
          rw [hm]
        | some t =>
          obtain ⟨ps, rest2, rows2⟩ := t
          refine Out.of_some (by first | rfl | exact hm) fun H2 b2 R2 v hv => ?_
          have hone := many_one hm
          have b := b1.trans b2
          cases hv with
          | @tup a xs ds ha hs =>
          walk_at "evr"
          intro D hD
          have ap := R2.apart hD
          refine ⟨V, _, xs, fun r H => ∃ acc dn rs, Same H2 H ∧ H D = some (.lst acc) ∧ ps = dn ++ rs ∧ Tps H r rs ∧ Tps H acc (dn.map firstOf) ∧ acc.length + r.length ≤ 100, rfl, ?_, ?_, ?_, ?_⟩
          · have hl := hs.length
            have h8 := many_le hm
            exact ⟨[], [], ps, same_new hD _, upd_same, rfl, hs.mono (tk_upd (no_tupN hD)), .nil, by show 0 + _ ≤ _; omega⟩
          · rintro r' H' ⟨acc, dn, rs, s, _⟩
            have := s _ _ ha
            simp only [this]
          · rintro y r' H' ⟨acc, dn, rs, s, hacc, hps, hr, hd, hn⟩
            rw [List.length_cons] at hn
            cases hr with
            | @cons _ _ d1 ds1 hy hr =>
              obtain ⟨p, rfl⟩ := hone d1 (by rw [hps]; simp)
              cases hy with
              | tup hy1 hy2 =>
                cases hy2 with
                | cons hy3 hy4 =>
                  cases hy4
                  cases hy3
                  walk_at "evr"
                  refine ⟨sz_lt (by omega), _, dn ++ [.tuple [.int p]], _, same_upd s hD _, rfl, by simp, hr.mono (tk_upd (no_tup hacc)), ?_, by rw [List.length_append]; show _ + 1 + _ ≤ _; omega⟩
                  rw [List.map_append]
                  exact (hd.append (.cons (.int p) .nil)).mono (tk_upd (no_tup hacc))
          · rintro H' ⟨acc, dn, rs, s, hacc, hps, hr, hd, hn⟩
            cases hr
            rw [List.append_nil] at hps
            subst hps
            walk_at "evr"
            intro l hl p hp
            have apl : Apart l r lr lw := R2.apart (s.free hl)
            have hlp : H' p = none := by
              have hne : p ≠ l := by
                rintro rfl
                rw [upd_same] at hp
                cases hp
              rw [upd_ne hne] at hp
              exact hp
            have app : Apart p r lr lw := R2.apart (s.free hlp)
            have R3 := (R2.mono s).at (o := .tup acc) apl.r apl.lr apl.lw (no_tupN hl)
            have R4 := R3.at (o := .tup [.str h, .ref l]) app.r app.lr app.lw (no_tupN hp)
            have b3 := (b.trans (Same.but s)).nw (b.free apl.out (s.free hl)) (.tup acc)
            have b4 := b3.nw (b.free app.out (s.free hlp)) (.tup [.str h, .ref l])
            subst hc
            refine q.some (by rw [hm]) _ b4 R4 _ (.tup upd_same (.cons (.str _) (.cons ?_ .nil)))
            exact (Tp.tup upd_same (hd.mono (tk_upd (no_tupN hl)))).mono (tk_upd (no_tupN hp))
      · next hc =>
        rw [if_neg hc] at q
        split
        · next hc =>
          rw [if_pos hc] at q
          refine ⟨r, dx, _, rfl, h1, rfl, d, hd, r, dx, lw, lr, all, rest1, rows, _, rfl, rfl, R1, ?_⟩
          cases he : expr n d rest1 rows with
          | none =>
            refine Out.of_none (by first | rfl | exact he) fun H2 b2 => q.none ?_ H2 (b1.trans b2)
            rw [he]
          | some t =>
            obtain ⟨p, rest2, rows2⟩ := t
            rw [he] at q
            simp only at q
            refine Out.of_some (by first | rfl | exact he) fun H2 b2 R2 v hv => ?_
            have hv' : v = .int (p : Int) := hv
            subst hv'
            obtain ⟨f2, h2⟩ := R2.kr
            refine ⟨r, dx, _, rfl, h2, rfl, d, "xxe", 6, hd, by decide +kernel, by decide, r, dx, lw, lr, all, rest2, rows2, _, rfl, rfl, R2, ?_⟩
            rw [show (Str.ofString "xxe").cps.toList = [120, 120, 101] by decide +kernel]
            cases hm : many (expr n d) [120, 120, 101] 6 rest2 rows2 with
            | none => 
              refine Out.of_none (by first | rfl | exact hm) fun H3 b3 => q.none ?_ H3 ((b1.trans b2).trans b3)
              rw [hm]
            | some t =>
              obtain ⟨ps, rest3, rows3⟩ := t
              rw [hm] at q
              simp only at q
              refine Out.of_some (by first | rfl | exact hm) fun H3 b3 R3 v hv => ?_
              have b := (b1.trans b2).trans b3
              cases hv with
              | tup ha hs =>
                walk_at "evr"
                rw [hs.length]
                split
                · next hz =>
                  have hz' : ps = [] := List.length_eq_zero_iff.mp (by omega)
                  exact q.none (by rw [if_pos hz']) H3 b
                · next hz =>
                  have hz' : ps ≠ [] := fun e => hz (by rw [e]; rfl)
                  intro p' hp
                  have ap := R3.apart hp
                  exact q.some (by rw [if_neg hz', hc]) _ (b.nw (b.free ap.out hp) _) (R3.at ap.r ap.lr ap.lw (no_tupN hp)) _ (.tup upd_same (.cons (.str _) (.cons (.int p) (.cons ((Tp.tup ha hs).mono (tk_upd (no_tupN hp))) .nil))))
        · next hc =>
          rw [if_neg hc] at q
          intro p hp
          have ap := R1.apart hp
          have R2 := R1.at (o := .tup [.str h]) ap.r ap.lr ap.lw (no_tupN hp)
          have b2 := b1.nw (b1.free ap.out hp) (.tup [.str h])
          obtain ⟨f2, h2⟩ := R2.kr
          refine ⟨r, dx, _, rfl, h2, rfl, h, rfl, ?_⟩
          cases hpt : patternOf h with
          | none =>
            intro H3 s3
            exact q.none (by rw [hpt]) H3 (b2.trans (Same.but s3))
          | some pat =>
            rw [hpt] at q
            simp only at q
            intro y hy H3 s3
            have R3 := R2.mono s3
            have b3 := b2.trans (Same.but s3)
            have hyl : y.length ≤ 100 := by
              rw [← len_toList, hy]
              unfold patternOf at hpt
              repeat' split at hpt
              all_goals first | (cases hpt; decide) | cases hpt
            refine ⟨d, y, hd, hyl, r, dx, lw, lr, all, rest1, rows, _, rfl, rfl, R3, ?_⟩
            rw [hy]
            cases hm : pieces (expr n d) pat rest1 rows with
            | none =>
              refine Out.of_none (by first | rfl | exact hm) fun H4 b4 => q.none ?_ H4 (b3.trans b4)
              rw [hm]
            | some t =>
              obtain ⟨ps, rest3, rows3⟩ := t
              rw [hm] at q
              simp only at q
              refine Out.of_some (by first | rfl | exact hm) fun H4 b4 R4 v hv => ?_
              have hp4 : H4 p = some (.tup [.str h]) := b4 _ _ ap.out (s3 _ _ upd_same)
              have b := b3.trans b4
              cases hv with
              | tup ha hs =>
                show qAdd (.ref p) (.ref _) H4 Q
                rw [qAdd_tt hp4 ha]
                have hl := hs.length
                refine ⟨sz_of ?_, fun e => absurd e (by simp), fun _ e2 => ?_, fun _ e2 p' hp' => ?_⟩
                · have := pieces_le hm
                  rw [hl]
                  have h2 : pat.length ≤ 100 := by rw [← hy, len_toList]; exact hyl
                  show 1 + _ ≤ _
                  omega
                · have e3 : ps = [] := List.length_eq_zero_iff.mp (by rw [← hl, e2]; rfl)
                  exact q.some rfl _ b R4 _ (.tup hp4 (by rw [e3]; exact .cons (.str h) .nil))
                · have ap' := R4.apart hp'
                  exact q.some rfl _ (b.nw (b.free ap'.out hp') _) (R4.at ap'.r ap'.lr ap'.lw (no_tupN hp')) _ (.tup upd_same ((Tps.cons (.str h) hs).mono (tk_upd (no_tupN hp'))))
end
end Fk
namespace Fk
open PySem L2
theorem rf1 {v : V} : putF (Str.ofString "words") v [] = ([("words", v)] : List (Str × V)) := by rfl
theorem rf2 {v u : V} : putF (Str.ofString "front") u ([("words", v)] : List (Str × V)) = ([("words", v), ("front", u)] : List (Str × V)) := by rfl
theorem rf3 {lw lr : Addr} {f : Int} : putF (Str.ofString "rows") (.ref lr) [("words", .ref lw), ("front", .int f)] = rfs lw f lr := by rfl
local macro_rules | `(tactic| walk_at "ev") => `(tactic| try simp only [cx_K, L2.start, List.map_cons, List.map_nil, List.length_cons, List.length_nil, Nat.reduceAdd, Nat.reduceSub, Nat.reduceLT, List.replicate_succ, List.replicate_zero, List.cons_append, List.nil_append, Nat.zero_add, Nat.add_zero,
  tSeq, tAsg, tLst, tTup, tNil, tCons, tC, tOp, tUn, gName, tNext, tRet, tRetN, tIfS, tDrop, tCB, tCall, tMeth, tMake, tIf, tAnd, tOr, tNot, tAndV, tOrV, tNotV, qFor, qLc, tYes, wStr, wLst, wTup, wRng1, wRng2, wEnum, wZip, wZipA, wRev, qVar, asB_bl, qAdd_ii, qAdd_ss, qSub_ii, qMul_ii, qMod_ii, qDiv_ii, qPow_ii, qCmpI_ii, qEq_ii, qEq_ss, qEq_bb, qIsN_n, qIsN_i, qIsN_s, qIsN_b, qIsN_r, qInS_s, qInT_r, qIx_s, qIx_r, qT, qIAdd_ii, qIAdd_ss, qLen_s, qLen_r, qAbs_i, qMax2_ii, qMin2_ii, qInt_i, qInt_b, qInt_s, qStrC_i, qStrC_s, qList_r, qTuple_r, tupleAs_l, tupleAs_t, qDivmod_ii, qAll_r, qAny_r, qSl_s, tSl, tNoPart, tPart, qPar, qPar3,
  qApp, qExt, qPop, isLst, qFld, qSetF, qAugF, qAug, qgTup, qgCons, qgNil, qNeg, qDG, qDIn, qDPut, qDGet2, qUpd, keyOf, qJoin, qWords, qStrip, qSum, qMaxA, qSIdx, qLIdx, qRevS, qIsi, qIsi2, qIsiC, qChain, isBl, tyN, gSub, qSetL, yv, wipe,
  List.getElem?_cons_zero, List.getElem?_cons_succ, List.set_cons_zero, List.set_cons_succ, upd_same, lstOf, tupOf, seqOf, at0, at1, at2, at3, ix0, ix1, ix2, sz0, sz1, sz2, sz3, sz4, sz5, sz6, sz7, sz8, sz15, true_and, and_true, and_self, if_true, if_false, if_pos,
  beq_t, beq_f, decide_eq_true_eq, decide_eq_false_iff_not, Bool.not_eq_true', Bool.not_eq_true, Bool.not_eq_false, Bool.not_true, Bool.not_false, Bool.false_eq_true, reduceCtorEq, ite_not, if_true, if_false, reduceIte, V.int.injEq, V.str.injEq, V.bl.injEq, V.ref.injEq, List.append_nil, forall_eq', exists_eq_left, exists_eq_left'])
local macro_rules | `(tactic| walk_at "evr") => `(tactic| try simp only [cx_K, L2.start, List.map_cons, List.map_nil, List.length_cons, List.length_nil, Nat.reduceAdd, Nat.reduceSub, Nat.reduceLT, List.replicate_succ, List.replicate_zero, List.cons_append, List.nil_append, Nat.zero_add, Nat.add_zero,
  tSeq, tAsg, tLst, tTup, tNil, tCons, tC, tOp, tUn, gName, tNext, tRet, tRetN, tIfS, tDrop, tCB, tCall, tMeth, tMake, tIf, tAnd, tOr, tNot, tAndV, tOrV, tNotV, qFor, qLc, tYes, wStr, wLst, wTup, wRng1, wRng2, wEnum, wZip, wZipA, wRev, qVar, asB_bl, qAdd_ii, qAdd_ss, qSub_ii, qMul_ii, qMod_ii, qDiv_ii, qPow_ii, qCmpI_ii, qEq_ii, qEq_ss, qEq_bb, qIsN_n, qIsN_i, qIsN_s, qIsN_b, qIsN_r, qInS_s, qInT_r, qIx_s, qIx_r, qT, qIAdd_ii, qIAdd_ss, qLen_s, qLen_r, qAbs_i, qMax2_ii, qMin2_ii, qInt_i, qInt_b, qInt_s, qStrC_i, qStrC_s, qList_r, qTuple_r, tupleAs_l, tupleAs_t, qDivmod_ii, qAll_r, qAny_r, qSl_s, tSl, tNoPart, tPart, qPar, qPar3,
  qApp, qExt, qPop, isLst, qFld, qSetF, qAugF, qAug, qgTup, qgCons, qgNil, qNeg, qDG, qDIn, qDPut, qDGet2, qUpd, keyOf, qJoin, qWords, qStrip, qSum, qMaxA, qSIdx, qLIdx, qRevS, qIsi, qIsi2, qIsiC, qChain, isBl, tyN, gSub, qSetL, yv, wipe,
  List.getElem?_cons_zero, List.getElem?_cons_succ, List.set_cons_zero, List.set_cons_succ, upd_same, lstOf, tupOf, seqOf, at0, at1, at2, at3, ix0, ix1, ix2, sz0, sz1, sz2, sz3, sz4, sz5, sz6, sz7, sz8, sz15, true_and, and_true, and_self, if_true, if_false, if_pos,
  beq_t, beq_f, decide_eq_true_eq, decide_eq_false_iff_not, Bool.not_eq_true', Bool.not_eq_true, Bool.not_eq_false, Bool.not_true, Bool.not_false, Bool.false_eq_true, reduceCtorEq, ite_not, if_true, if_false, reduceIte, V.int.injEq, V.str.injEq, V.bl.injEq, V.ref.injEq, List.append_nil, forall_eq', exists_eq_left, exists_eq_left', rfs_words, rfs_front, rfs_rows, rfs_put, rf1, rf2, rf3, *])
section
variable {P : Program} {w : World} {K : PySem.W.Frag} {mg : Str → Option Value} {base : Heap} {C_Reader CB : Addr} {f : Addr} {fd : FuncData}
theorem ok_init (F : Fun K "__init__" "Reader.__init__" s_Reader___init__ f fd) (T : RdT K mg C_Reader CB) : FnOk P w K mg base CX0 1 f fd ["self", "words"] (fun vs H Q _ => ∃ (r dx lw : Addr), vs = [.ref r, .ref lw] ∧ H r = some (.ins C_Reader dx []) ∧ ∀ lr, H lr = none → Q .non (upd (upd H lr (.lst [])) r (.ins C_Reader dx (rfs lw 0 lr)))) := by
  refine F.ok sc_Reader___init__ (fun vs H Q E h => by obtain ⟨_, _, _, rfl, _⟩ := h; rfl) (fun cdv A outer s H vs Q E hr h => ?_)
  have cl_Reader := T.cl
  have n_Reader_words := T.n1
  have n_Reader_front := T.n2
  have n_Reader_rows := T.n3
  have hu64 := hr.units
  refine ⟨_, (pss_cons (xsetf (C := C_Reader) cl_Reader n_Reader_words (xv 0) (xv 1))
  (pss_cons (xsetf (C := C_Reader) cl_Reader n_Reader_front (xv 0) pe_int)
  (pss_one (xsetf (C := C_Reader) cl_Reader n_Reader_rows (xv 0) (pe_lst pa_nil))))), ?_⟩
  obtain ⟨r, dx, lw, rfl, h1, q⟩ := h
  walk_at "evr"
  intro p hp
  rw [upd_upd] at hp ⊢
  have hne : p ≠ r := by
    rintro rfl
    rw [upd_same] at hp
    cases hp
  have hp0 : H p = none := by
    rw [upd_ne hne] at hp
    exact hp
  rw [upd_ne hne.symm]
  walk_at "evr"
  have e : upd (upd (upd H r (.ins C_Reader dx [("words", .ref lw), ("front", .int 0)])) p (.lst [])) r (.ins C_Reader dx (rfs lw 0 p)) = upd (upd H p (.lst [])) r (.ins C_Reader dx (rfs lw 0 p)) := by
    funext b
    unfold upd
    split
    · rfl
    · rfl
  rw [e]
  exact q p hp0
/-- int(word) of a word that is a number -/
theorem fig_iff : ∀ c ∈ figuresS.cps.toList, 48 ≤ c ∧ c ≤ 57 := by decide +kernel
theorem num_text {x : Str} (h : isNumber x = true) : PySem.intText? x = some (numOf x) ∧ x.length ≤ 640 := by
  unfold isNumber at h
  simp only [Bool.and_eq_true, Bool.not_eq_true', Bool.or_eq_false_iff, decide_eq_false_iff_not, List.all_eq_true, decide_eq_true_eq] at h
  obtain ⟨⟨⟨h1, h2⟩, h3⟩, h4⟩ := h
  have hl := len_toList x
  have e := PySem.intText_digits (x := x) (fun c hc => fig_iff c (h3 c hc)) (fun z => h1 (by rw [← hl, z]; rfl)) (by omega)
  refine ⟨?_, by omega⟩
  unfold numOf
  rw [e]
  rfl
theorem rel_num : ("num" : Str) = Str.ofString "num" := rfl
theorem ok_expr {n k : Nat} (hk : 4 ≤ k) {spF : Sp} (F : Fun K "expr" "Reader.expr" s_Reader_expr f fd) (T : RdT K mg C_Reader CB) (m_Reader_taken : CalM P w K mg base (L2.CX P w) 2 C_Reader "taken" ["self"] (sp_taken C_Reader CB))
    (m_Reader_want : CalM P w K mg base (L2.CX P w) 3 C_Reader "want" ["self", "word"] (sp_want C_Reader CB)) (c_is_number : Cal P w K mg base CX0 1 "is_number" ["word"] sp_is_number) (c_is_name : Cal P w K mg base CX0 1 "is_name" ["word"] sp_is_name)
    (m_Reader_form : CalM P w K mg base (L2.CX P w) k C_Reader "form" ["self", "depth"] spF) (hF : ∀ m, n = m + 1 → spF = sp_form C_Reader CB m) : FnOk P w K mg base (L2.CX P w) (k + 1) f fd ["self", "depth"] (sp_expr C_Reader CB n) := by
  refine F.okX sc_Reader_expr (fun vs H Q E h => by obtain ⟨_, _, _, _, _, _, _, _, _, _, rfl, rfl, _⟩ := h; rfl) (fun cdv A outer s H vs Q E hr h => ?_)
  have cl_Reader := T.cl
  have n_Reader_rows := T.n3
  have e_BadText := T.bad
  have z_len := T.len
  have z_int := T.int
  have g_MOST_NEST := T.nest
  have g_MOST_PLACES := T.places
  have hu64 := hr.units
  refine ⟨_, (pss_cons (ps_if (PW.pt (pw_or (xt ygt (xv 1) (pe_gi g_MOST_NEST) (nomark _)) (pw_or1 (xt yge (pe_callB ylen (by rfl) z_len PySem.boot_len (pa_cons (xfld (C := C_Reader) cl_Reader n_Reader_rows (xv 0)) pa_nil)) (pe_gi g_MOST_PLACES) (nomark _))))) (pss_one (ps_rz (E := E) e_BadText rfl (takes_of rfl rfl rfl rfl))) pss_nil)
  (pss_cons (ps_set (i := 2) sc_Reader_expr.nd rfl (Or.inl rfl) (pe_callB ylen (by rfl) z_len PySem.boot_len (pa_cons (xfld (C := C_Reader) cl_Reader n_Reader_rows (xv 0)) pa_nil)))
  (pss_cons (ps_expr (xapp (xfld (C := C_Reader) cl_Reader n_Reader_rows (xv 0)) pe_non))
  (pss_cons (ps_set (i := 3) sc_Reader_expr.nd rfl (Or.inl rfl) (pe_mX0 (E := E) m_Reader_taken hr (takes_of rfl rfl rfl rfl) (xv 0)))
  (pss_cons (ps_if (xt (yeq hu64) (xv 3) pe_str (nomark _)) (pss_cons (ps_asg (pe_mX (E := E) m_Reader_form hr (takes_of rfl rfl rfl rfl) (xv 0) (pa_cons (pe_op yadd (xv 1) pe_int) pa_nil)) (pg_sub (xfld (C := C_Reader) cl_Reader n_Reader_rows (xv 0)) (xv 2) ysetl))
  (pss_one (ps_expr (pe_mX (E := E) m_Reader_want hr (takes_of rfl rfl rfl rfl) (xv 0) (pa_cons pe_str pa_nil))))) (pss_one (ps_if (xtv (pe_c c_is_number hr (pa_cons (xv 3) pa_nil))) (pss_one (ps_asg (pe_tup (pa_cons pe_str (pa_cons (pe_callTy yintc (by rfl) z_int (by decide +kernel) (pa_cons (xv 3) pa_nil)) pa_nil))) (pg_sub (xfld (C := C_Reader) cl_Reader n_Reader_rows (xv 0)) (xv 2) ysetl))) (pss_one (ps_if (xtv (pe_c c_is_name hr (pa_cons (xv 3) pa_nil))) (pss_one (ps_asg (pe_tup (pa_cons pe_str (pa_cons (xv 3) pa_nil))) (pg_sub (xfld (C := C_Reader) cl_Reader n_Reader_rows (xv 0)) (xv 2) ysetl))) (pss_one (ps_rz (E := E) e_BadText rfl (takes_of rfl rfl rfl rfl))))))))
  (pss_one (ps_ret (xv 2)))))))), ?_⟩
  obtain ⟨d, hd, r, dx, lw, lr, all, rest, rows, us, rfl, rfl, R, q⟩ := h
  obtain ⟨vs, f0, h1, h2, h3, h4, h5⟩ := R.ex
  walk_at "evr"
  have hvl : vs.length = rows.length := h3.length
  have ed : (24 < (d : Int)) = (24 < d) := propext (by omega)
  have er : (160 ≤ (vs.length : Int)) = (160 ≤ rows.length) := propext (by omega)
  simp only [ed, er]
  split
  · next hd1 => exact q.none (expr_deep hd1) H (But.refl _ _)
  · next hd1 =>
    split
    · next hf1 => exact q.none (expr_full hf1) H (But.refl _ _)
    · next hf1 =>
      obtain ⟨m, rfl⟩ : ∃ m, n = m + 1 := ⟨n - 1, by omega⟩
      have spE := hF m rfl
      subst spE
      rw [expr_go hd1 hf1] at q
      have hnr : lr ≠ r := ne_of h2 h1 (by intro z; cases z)
      refine ⟨sz_lt (by omega), r, dx, _, rfl, by rw [upd_ne hnr.symm]; exact h1, rfl, r, dx, lw, lr, all, rest, rows ++ [.none], [], rfl, rfl, ⟨⟨vs ++ [.non], f0, by rw [upd_ne hnr.symm]; exact h1, upd_same, (h3.append (.cons .non .nil)).mono (tk_upd (no_tup h2)), h4, h5⟩, by rw [upd_ne R.ne]; exact R.w, R.ne, R.al, R.ws, by rw [List.length_append]; show _ + 1 ≤ _; omega⟩, ?_⟩
      have b0 : But [r, lr] H (upd H lr (.lst (vs ++ [.non]))) := (But.refl _ H).at (by simp) _
      cases hx : taken rest with
      | none =>
        refine Out.of_none (by show withR _ (taken rest) = _; rw [hx]; rfl) fun H1 b1 => q.none ?_ H1 (b0.trans b1)
        all_goals first | rfl | rw [hx]
      | some t =>
        obtain ⟨x, rest1⟩ := t
        rw [hx] at q
        simp only at q
        refine Out.of_some (by show withR _ (taken rest) = _; rw [hx]; rfl) fun H1 b1 R1 v hv => ?_
        have hv' : v = .str x := hv
        subst hv'
        have hxl : x.length ≤ 1000000 := by
          obtain ⟨e, _⟩ := taken_some hx
          have : x ∈ all.drop f0 := by rw [h4, e]; exact List.mem_cons_self
          exact R.ws x (List.mem_of_mem_drop this)
        have b1' := b0.trans b1
        obtain ⟨vs1, f1, g1, g2, g3, g4, g5⟩ := R1.ex
        have hl1 : vs1.length = rows.length + 1 := by rw [g3.length, List.length_append]; rfl
        have hset (row : PyData) : (rows ++ [PyData.none]).set rows.length row = rows ++ [row] := by rw [List.set_append_right _ _ (Nat.le_refl _), Nat.sub_self]; rfl
        have hix : ixN vs1.length (vs.length : Int) = some rows.length := by
          unfold ixN
          rw [if_pos (by omega), if_pos (by omega)]
          exact congrArg some (by omega)
        walk_at "ev"
        split
        · next hc =>
          rw [if_pos hc] at q
          refine ⟨r, dx, _, rfl, g1, rfl, d + 1, by omega, r, dx, lw, lr, all, rest1, rows ++ [.none], _, rfl, rfl, R1, ?_⟩
          cases hf : form (expr m (d + 1)) rest1 (rows ++ [.none]) with
          | none =>
            refine Out.of_none (by first | rfl | exact hf) fun H2 b2 => q.none ?_ H2 (b1'.trans b2)
            all_goals first | rfl | rw [hf]
          | some t =>
            obtain ⟨row, rest2, rows2⟩ := t
            rw [hf] at q
            simp only at q
            refine Out.of_some (by first | rfl | exact hf) fun H2 b2 R2 v hv => ?_
            have hv2 : Tp H2 v row := hv
            have b2' := b1'.trans b2
            obtain ⟨vs2, f2, i1, i2, i3, i4, i5⟩ := R2.ex
            have hg := form_grow (expr_grow m (d + 1)) hf
            rw [List.length_append] at hg
            have hg' : rows.length + 1 ≤ vs2.length := by rw [i3.length]; exact hg
            have hix2 : ixN vs2.length (vs.length : Int) = some rows.length := by
              unfold ixN
              rw [if_pos (by omega), if_pos (by omega)]
              exact congrArg some (by omega)
            simp only [i1, rfs_rows, true_and, i2, hix2]
            refine ⟨r, dx, _, rfl, by rw [upd_ne hnr.symm]; exact i1, rfl, ")", r, dx, lw, lr, all, rest2, rows2.set rows.length row, _, rfl, rfl, ⟨⟨vs2.set rows.length v, f2, by rw [upd_ne hnr.symm]; exact i1, upd_same, (i3.set hv2 rows.length).mono (tk_upd (no_tup i2)), i4, i5⟩, by rw [upd_ne R.ne]; exact R2.w, R.ne, R.al, R.ws, by rw [List.length_set]; exact R2.rl⟩, ?_⟩
            have b3 := b2'.at (p := lr) (by simp) (.lst (vs2.set rows.length v))
            cases hw : want ")" rest2 with
            | none =>
              refine Out.of_none (by show withR _ ((want ")" rest2).map _) = _; rw [hw]; rfl) fun H3 b4 => q.none ?_ H3 (b3.trans b4)
              all_goals first | rfl | rw [hw]
            | some rest3 =>
              rw [hw] at q
              refine Out.of_some (by show withR _ ((want ")" rest2).map _) = _; rw [hw]; rfl) fun H3 b4 R3 v hv => ?_
              refine q.some rfl H3 (b3.trans b4) R3 _ ?_
              rw [hvl]
        · next hc =>
          rw [if_neg hc] at q
          refine ⟨x, rfl, hxl, ?_⟩
          walk_at "ev"
          split
          · next hn =>
            rw [if_pos hn] at q
            obtain ⟨hn1, hn2⟩ := num_text hn
            simp only [hn1]
            refine ⟨hn2, fun p hp => ?_⟩
            have ap := R1.apart hp
            rw [upd_ne ap.r.symm]
            simp only [g1, rfs_rows, true_and]
            rw [upd_ne ap.lr.symm]
            simp only [g2, hix]
            have R2 := R1.at (o := .tup [.str "num", .int (numOf x)]) ap.r ap.lr ap.lw (no_tupN hp)
            have b2 := b1'.nw (b1'.free ap.out hp) (.tup [.str "num", .int (numOf x)])
            refine q.some rfl _ (b2.at (by simp) _) ⟨⟨vs1.set rows.length (.ref p), f1, ?_, upd_same, ?_, g4, g5⟩, ?_, R.ne, R.al, R.ws, by rw [List.length_append]; show _ + 1 ≤ _; omega⟩ _ (by rw [hvl])
            · rw [upd_ne hnr.symm, upd_ne ap.r.symm]
              exact g1
            · rw [← hset]
              refine Tps.set (.tup (xs := [.str "num", .int (numOf x)]) ?_ (.cons (.str _) (.cons (.int _) .nil))) _ ((g3.mono (tk_upd (no_tupN hp))).mono (tk_upd ?_))
              · rw [upd_ne ap.lr, upd_same]
              · rw [upd_ne ap.lr.symm]
                exact no_tup g2
            · rw [upd_ne R.ne, upd_ne ap.lw.symm]
              exact R1.w
          · next hn =>
            rw [if_neg hn] at q
            refine ⟨x, rfl, hxl, ?_⟩
            walk_at "ev"
            split
            · next hm =>
              rw [if_pos hm] at q
              intro p hp
              have ap := R1.apart hp
              rw [upd_ne ap.r.symm]
              simp only [g1, rfs_rows, true_and]
              rw [upd_ne ap.lr.symm]
              simp only [g2, hix]
              have R2 := R1.at (o := .tup [.str "name", .str x]) ap.r ap.lr ap.lw (no_tupN hp)
              have b2 := b1'.nw (b1'.free ap.out hp) (.tup [.str "name", .str x])
              refine q.some rfl _ (b2.at (by simp) _) ⟨⟨vs1.set rows.length (.ref p), f1, ?_, upd_same, ?_, g4, g5⟩, ?_, R.ne, R.al, R.ws, by rw [List.length_append]; show _ + 1 ≤ _; omega⟩ _ (by rw [hvl])
              · rw [upd_ne hnr.symm, upd_ne ap.r.symm]
                exact g1
              · rw [← hset]
                refine Tps.set (.tup (xs := [.str "name", .str x]) ?_ (.cons (.str _) (.cons (.str _) .nil))) _ ((g3.mono (tk_upd (no_tupN hp))).mono (tk_upd ?_))
                · rw [upd_ne ap.lr, upd_same]
                · rw [upd_ne ap.lr.symm]
                  exact no_tup g2
              · rw [upd_ne R.ne, upd_ne ap.lw.symm]
                exact R1.w
            · next hm =>
              rw [if_neg hm] at q
              exact q.none rfl H1 b1'
/-- the Reader's defs as the top has them -/
structure RdF (K : PySem.W.Frag) (mg : Str → Option Value) (C : Addr) : Prop where
  ahead : ∃ f fd, Fun K "ahead" "Reader.ahead" s_Reader_ahead f fd ∧ Meth K C "ahead" f
  taken : ∃ f fd, Fun K "taken" "Reader.taken" s_Reader_taken f fd ∧ Meth K C "taken" f
  want : ∃ f fd, Fun K "want" "Reader.want" s_Reader_want f fd ∧ Meth K C "want" f
  named : ∃ f fd, Fun K "named" "Reader.named" s_Reader_named f fd ∧ Meth K C "named" f
  expr : ∃ f fd, Fun K "expr" "Reader.expr" s_Reader_expr f fd ∧ Meth K C "expr" f
  form : ∃ f fd, Fun K "form" "Reader.form" s_Reader_form f fd ∧ Meth K C "form" f
  pieces : ∃ f fd, Fun K "pieces" "Reader.pieces" s_Reader_pieces f fd ∧ Meth K C "pieces" f
  many : ∃ f fd, Fun K "many" "Reader.many" s_Reader_many f fd ∧ Meth K C "many" f
theorem no_fn {g : Addr} {gd : FuncData} {ps : List Str} {CX : CXT} {k : Nat} : FnOk P w K mg base CX k g gd ps (fun _ _ _ _ => False) := ⟨fun _ _ _ _ h => h.elim, fun _ _ _ _ _ _ _ _ _ _ _ _ _ h => h.elim⟩
/-- what the Reader's methods promise, all together: n depths in reach -/
structure RdAll (P : Program) (w : World) (K : PySem.W.Frag) (mg : Str → Option Value) (base : Heap) (C CB : Addr) (n : Nat) : Prop where
  expr : CalM P w K mg base (L2.CX P w) (4 * n + 5) C "expr" ["self", "depth"] (sp_expr C CB n)
theorem rd_ahead (T : RdT K mg C_Reader CB) (D : RdF K mg C_Reader) : CalM P w K mg base CX0 1 C_Reader "ahead" ["self"] (sp_ahead C_Reader) := by
  obtain ⟨f, fd, F, M⟩ := D.ahead
  exact ⟨T.cl, f, fd, ok_ahead F T, M, F.binds fun _ _ _ _ _ _ us hl => match us, hl with | [_], _ => rfl⟩
theorem rd_taken (T : RdT K mg C_Reader CB) (D : RdF K mg C_Reader) : CalM P w K mg base (L2.CX P w) 2 C_Reader "taken" ["self"] (sp_taken C_Reader CB) := by
  obtain ⟨f, fd, F, M⟩ := D.taken
  exact ⟨T.cl, f, fd, ok_taken F T (rd_ahead T D), M, F.binds fun _ _ _ _ _ _ us hl => match us, hl with | [_], _ => rfl⟩
theorem rd_want (T : RdT K mg C_Reader CB) (D : RdF K mg C_Reader) : CalM P w K mg base (L2.CX P w) 3 C_Reader "want" ["self", "word"] (sp_want C_Reader CB) := by
  obtain ⟨f, fd, F, M⟩ := D.want
  exact ⟨T.cl, f, fd, ok_want F T (rd_taken T D), M, F.binds fun _ _ _ _ _ _ us hl => match us, hl with | [_, _], _ => rfl⟩
theorem rd_named (T : RdT K mg C_Reader CB) (D : RdF K mg C_Reader) (cn : Cal P w K mg base CX0 1 "is_name" ["word"] sp_is_name) : CalM P w K mg base (L2.CX P w) 3 C_Reader "named" ["self"] (sp_named C_Reader CB) := by
  obtain ⟨f, fd, F, M⟩ := D.named
  exact ⟨T.cl, f, fd, ok_named F T (rd_taken T D) cn, M, F.binds fun _ _ _ _ _ _ us hl => match us, hl with | [_], _ => rfl⟩
theorem rd_form {n k : Nat} (hk : 4 ≤ k) (T : RdT K mg C_Reader CB) (D : RdF K mg C_Reader) (cn : Cal P w K mg base CX0 1 "is_name" ["word"] sp_is_name) (cp : Cal P w K mg base (L2.CX P w) 1 "pattern_of" ["head"] (sp_pattern_of CB))
    (ex : CalM P w K mg base (L2.CX P w) k C_Reader "expr" ["self", "depth"] (sp_expr C_Reader CB n)) : CalM P w K mg base (L2.CX P w) (k + 3) C_Reader "form" ["self", "depth"] (sp_form C_Reader CB n) := by
  have pc : CalM P w K mg base (L2.CX P w) (k + 1) C_Reader "pieces" ["self", "depth", "pattern"] (sp_pieces C_Reader CB n) := by
    obtain ⟨f, fd, F, M⟩ := D.pieces
    exact ⟨T.cl, f, fd, ok_pieces hk F T (rd_named T D cn) ex, M, F.binds fun _ _ _ _ _ _ us hl => match us, hl with | [_, _, _], _ => rfl⟩
  have mn : CalM P w K mg base (L2.CX P w) (k + 2) C_Reader "many" ["self", "depth", "pattern", "most"] (sp_many C_Reader CB n) := by
    obtain ⟨f, fd, F, M⟩ := D.many
    exact ⟨T.cl, f, fd, ok_many (by omega) F T (rd_ahead T D) pc, M, F.binds fun _ _ _ _ _ _ us hl => match us, hl with | [_, _, _, _], _ => rfl⟩
  obtain ⟨f, fd, F, M⟩ := D.form
  exact ⟨T.cl, f, fd, ok_form (k := k + 2) (by omega) F T (rd_taken T D) cp (ex.mono (by omega)) (pc.mono (by omega)) mn, M, F.binds fun _ _ _ _ _ _ us hl => match us, hl with | [_, _], _ => rfl⟩
theorem rd_expr (T : RdT K mg C_Reader CB) (D : RdF K mg C_Reader) (cn : Cal P w K mg base CX0 1 "is_name" ["word"] sp_is_name) (cu : Cal P w K mg base CX0 1 "is_number" ["word"] sp_is_number) (cp : Cal P w K mg base (L2.CX P w) 1 "pattern_of" ["head"] (sp_pattern_of CB)) :
    ∀ n, CalM P w K mg base (L2.CX P w) (4 * n + 5) C_Reader "expr" ["self", "depth"] (sp_expr C_Reader CB n)
  | 0 => by
    obtain ⟨f, fd, F, M⟩ := D.expr
    refine ⟨T.cl, f, fd, ok_expr (k := 4) (spF := fun _ _ _ _ => False) (by omega) F T (rd_taken T D) (rd_want T D) cu cn ?_ (fun m h => by omega), M, F.binds fun _ _ _ _ _ _ us hl => match us, hl with | [_, _], _ => rfl⟩
    obtain ⟨g, gd, G, N⟩ := D.form
    exact ⟨T.cl, g, gd, no_fn, N, G.binds fun _ _ _ _ _ _ us hl => match us, hl with | [_, _], _ => rfl⟩
  | n + 1 => by
    obtain ⟨f, fd, F, M⟩ := D.expr
    have fm := rd_form (k := 4 * n + 5) (by omega) T D cn cp (rd_expr T D cn cu cp n)
    exact ⟨T.cl, f, fd, ok_expr (k := 4 * n + 8) (by omega) F T (rd_taken T D) (rd_want T D) cu cn fm (fun m h => by cases h; rfl), M, F.binds fun _ _ _ _ _ _ us hl => match us, hl with | [_, _], _ => rfl⟩
end
end Fk
namespace Fk
open PySem L2
-- Program.__init__  names ["self", "names", "roots", "rows"]  needs ['cl_Program', 'n_Program_names', 'n_Program_roots', 'n_Program_rows']
abbrev s_Program___init__ : Stmt := inClass (topS 9) 0
theorem sc_Program___init__ : FnScope ["self", "names", "roots", "rows"] ["self", "names", "roots", "rows"] (defScope s_Program___init__) := ⟨rfl, rfl, rfl, by decide +kernel, rfl, by decide +kernel, by decide +kernel⟩
-- read  names ["text", "reader", "names", "roots"]  needs ['k_Reader', 'c_words_of', 'm_Reader_ahead', 'z_len', 'e_BadText', 'm_Reader_want', 'm_Reader_named', 'm_Reader_expr', 'k_Program', 'cl_Reader', 'n_Reader_rows']
abbrev s_read : Stmt := topS 15
theorem sc_read : FnScope ["text", "reader", "names", "roots"] ["text"] (defScope s_read) := ⟨rfl, rfl, rfl, by decide +kernel, rfl, by decide +kernel, by decide +kernel⟩
def pfs (ln lo lr : Addr) : List (Str × V) := [("names", .ref ln), ("roots", .ref lo), ("rows", .ref lr)]
theorem pf1 {v : V} : putF (Str.ofString "names") v [] = ([("names", v)] : List (Str × V)) := by rfl
theorem pf2 {v u : V} : putF (Str.ofString "roots") u ([("names", v)] : List (Str × V)) = ([("names", v), ("roots", u)] : List (Str × V)) := by rfl
theorem pf3 {ln lo lr : Addr} : putF (Str.ofString "rows") (.ref lr) ([("names", .ref ln), ("roots", .ref lo)] : List (Str × V)) = pfs ln lo lr := by rfl
theorem pfs_names {ln lo lr : Addr} : (pfs ln lo lr).lookup (Str.ofString "names") = some (.ref ln) := by rfl
theorem pfs_roots {ln lo lr : Addr} : (pfs ln lo lr).lookup (Str.ofString "roots") = some (.ref lo) := by rfl
theorem pfs_rows {ln lo lr : Addr} : (pfs ln lo lr).lookup (Str.ofString "rows") = some (.ref lr) := by rfl
local macro_rules | `(tactic| walk_at "ev") => `(tactic| try simp only [cx_K, L2.start, List.map_cons, List.map_nil, List.length_cons, List.length_nil, Nat.reduceAdd, Nat.reduceSub, Nat.reduceLT, List.replicate_succ, List.replicate_zero, List.cons_append, List.nil_append, Nat.zero_add, Nat.add_zero,
  tSeq, tAsg, tLst, tTup, tNil, tCons, tC, tOp, tUn, gName, tNext, tRet, tRetN, tIfS, tDrop, tCB, tCall, tMeth, tMake, tIf, tAnd, tOr, tNot, tAndV, tOrV, tNotV, qFor, qLc, tYes, wStr, wLst, wTup, wRng1, wRng2, wEnum, wZip, wZipA, wRev, qVar, asB_bl, qAdd_ii, qAdd_ss, qSub_ii, qMul_ii, qMod_ii, qDiv_ii, qPow_ii, qCmpI_ii, qEq_ii, qEq_ss, qEq_bb, qIsN_n, qIsN_i, qIsN_s, qIsN_b, qIsN_r, qInS_s, qInT_r, qIx_s, qIx_r, qT, qIAdd_ii, qIAdd_ss, qLen_s, qLen_r, qAbs_i, qMax2_ii, qMin2_ii, qInt_i, qInt_b, qInt_s, qStrC_i, qStrC_s, qList_r, qTuple_r, tupleAs_l, tupleAs_t, qDivmod_ii, qAll_r, qAny_r, qSl_s, tSl, tNoPart, tPart, qPar, qPar3,
  qApp, qExt, qPop, isLst, qFld, qSetF, qAugF, qAug, qgTup, qgCons, qgNil, qNeg, qDG, qDIn, qDPut, qDGet2, qUpd, keyOf, qJoin, qWords, qStrip, qSum, qMaxA, qSIdx, qLIdx, qRevS, qIsi, qIsi2, qIsiC, qChain, isBl, tyN, gSub, qSetL, yv, wipe,
  List.getElem?_cons_zero, List.getElem?_cons_succ, List.set_cons_zero, List.set_cons_succ, upd_same, lstOf, tupOf, seqOf, at0, at1, at2, at3, ix0, ix1, ix2, sz0, sz1, sz2, sz3, sz4, sz5, sz6, sz7, sz8, sz15, true_and, and_true, and_self, if_true, if_false, if_pos,
  beq_t, beq_f, decide_eq_true_eq, decide_eq_false_iff_not, Bool.not_eq_true', Bool.not_eq_true, Bool.not_eq_false, Bool.not_true, Bool.not_false, Bool.false_eq_true, reduceCtorEq, ite_not, if_true, if_false, reduceIte, V.int.injEq, V.str.injEq, V.bl.injEq, V.ref.injEq, List.append_nil, forall_eq', exists_eq_left, exists_eq_left'])
local macro_rules | `(tactic| walk_at "evr") => `(tactic| try simp only [cx_K, L2.start, List.map_cons, List.map_nil, List.length_cons, List.length_nil, Nat.reduceAdd, Nat.reduceSub, Nat.reduceLT, List.replicate_succ, List.replicate_zero, List.cons_append, List.nil_append, Nat.zero_add, Nat.add_zero,
  tSeq, tAsg, tLst, tTup, tNil, tCons, tC, tOp, tUn, gName, tNext, tRet, tRetN, tIfS, tDrop, tCB, tCall, tMeth, tMake, tIf, tAnd, tOr, tNot, tAndV, tOrV, tNotV, qFor, qLc, tYes, wStr, wLst, wTup, wRng1, wRng2, wEnum, wZip, wZipA, wRev, qVar, asB_bl, qAdd_ii, qAdd_ss, qSub_ii, qMul_ii, qMod_ii, qDiv_ii, qPow_ii, qCmpI_ii, qEq_ii, qEq_ss, qEq_bb, qIsN_n, qIsN_i, qIsN_s, qIsN_b, qIsN_r, qInS_s, qInT_r, qIx_s, qIx_r, qT, qIAdd_ii, qIAdd_ss, qLen_s, qLen_r, qAbs_i, qMax2_ii, qMin2_ii, qInt_i, qInt_b, qInt_s, qStrC_i, qStrC_s, qList_r, qTuple_r, tupleAs_l, tupleAs_t, qDivmod_ii, qAll_r, qAny_r, qSl_s, tSl, tNoPart, tPart, qPar, qPar3,
  qApp, qExt, qPop, isLst, qFld, qSetF, qAugF, qAug, qgTup, qgCons, qgNil, qNeg, qDG, qDIn, qDPut, qDGet2, qUpd, keyOf, qJoin, qWords, qStrip, qSum, qMaxA, qSIdx, qLIdx, qRevS, qIsi, qIsi2, qIsiC, qChain, isBl, tyN, gSub, qSetL, yv, wipe,
  List.getElem?_cons_zero, List.getElem?_cons_succ, List.set_cons_zero, List.set_cons_succ, upd_same, lstOf, tupOf, seqOf, at0, at1, at2, at3, ix0, ix1, ix2, sz0, sz1, sz2, sz3, sz4, sz5, sz6, sz7, sz8, sz15, true_and, and_true, and_self, if_true, if_false, if_pos,
  beq_t, beq_f, decide_eq_true_eq, decide_eq_false_iff_not, Bool.not_eq_true', Bool.not_eq_true, Bool.not_eq_false, Bool.not_true, Bool.not_false, Bool.false_eq_true, reduceCtorEq, ite_not, if_true, if_false, reduceIte, V.int.injEq, V.str.injEq, V.bl.injEq, V.ref.injEq, List.append_nil, forall_eq', exists_eq_left, exists_eq_left', rfs_words, rfs_front, rfs_rows, rfs_put, pf1, pf2, pf3, pfs_names, pfs_roots, pfs_rows, *])
/-- the class Program -/
structure PgT (K : PySem.W.Frag) (mg : Str → Option Value) (C : Addr) : Prop where
  cl : Cls K C
  n1 : NoAttr K C "names"
  n2 : NoAttr K C "roots"
  n3 : NoAttr K C "rows"
def sp_pinit (C : Addr) : Sp := fun vs H Q _ => ∃ (r dx ln lo lr : Addr), vs = [.ref r, .ref ln, .ref lo, .ref lr] ∧ H r = some (.ins C dx []) ∧ Q .non (upd H r (.ins C dx (pfs ln lo lr)))
def sp_rinit (C : Addr) : Sp := fun vs H Q _ => ∃ (r dx lw : Addr), vs = [.ref r, .ref lw] ∧ H r = some (.ins C dx []) ∧ ∀ lr, H lr = none → Q .non (upd (upd H lr (.lst [])) r (.ins C dx (rfs lw 0 lr)))
/-- a Program as read tells it -/
def ProgAt (C : Addr) (H : Hp) (p dx ln lo lr : Addr) (names : List Str) (roots : List Int) (rows : Rows) : Prop :=
  H p = some (.ins C dx (pfs ln lo lr)) ∧ H ln = some (.lst (names.map V.str)) ∧ H lo = some (.lst (roots.map V.int)) ∧ ∃ vs, H lr = some (.lst vs) ∧ Tps H vs rows
def sp_read (C CB : Addr) : Sp := fun vs H Q E => ∃ z : Str, vs = [.str z] ∧ z.length ≤ 1000000 ∧ (match readM (wordsOf z.cps.toList) with
  | none => ∀ H', Same H H' → E (.ref CB) none H'
  | some (names, roots, rows) => ∀ H' p dx ln lo lr, Same H H' → H p = none → H dx = none → H ln = none → H lo = none → H lr = none → ProgAt C H' p dx ln lo lr names roots rows → Q (.ref p) H')
theorem same_but {H H1 H2 : Hp} {r lr : Addr} (s : Same H H1) (b : But [r, lr] H1 H2) (h1 : H r = none) (h2 : H lr = none) : Same H H2 := fun c o e => by
  refine b c o ?_ (s c o e)
  have n1 := ne_of_none e h1
  have n2 := ne_of_none e h2
  simp [n1, n2]
def plus2 (ns : List Str) (ps : List Int) (m : Option (List Str × List Int × Rows)) : Option (List Str × List Int × Rows) := m.map fun t => (ns ++ t.1, ps ++ t.2.1, t.2.2)
theorem plus2_nil (m : Option (List Str × List Int × Rows)) : plus2 [] [] m = m := by cases m <;> rfl
def iv_read (C : Addr) (H0 : Hp) (z : Str) (r dx lw lr ln lo : Addr) (all : List Str) (m0 : Option (List Str × List Int × Rows)) (k : Nat) (σ : St) (H : Hp) : Prop :=
  ∃ rest rows ns ps, σ = [some (.str z), some (.ref r), some (.ref ln), some (.ref lo)] ∧ Same H0 H ∧ RdAt C H r dx lw lr all rest rows ∧ H ln = some (.lst (ns.map V.str)) ∧ H lo = some (.lst (ps.map V.int)) ∧ ns.length + k = 12 ∧ ps.length = ns.length ∧ Is m0 (plus2 ns ps (defs k rest rows))
section
variable {P : Program} {w : World} {K : PySem.W.Frag} {mg : Str → Option Value} {base : Heap} {C_Reader C_Program CB : Addr} {f : Addr} {fd : FuncData}
theorem ok_pinit (F : Fun K "__init__" "Program.__init__" s_Program___init__ f fd) (T : PgT K mg C_Program) : FnOk P w K mg base CX0 1 f fd ["self", "names", "roots", "rows"] (sp_pinit C_Program) := by
  refine F.ok sc_Program___init__ (fun vs H Q E h => by obtain ⟨_, _, _, _, _, rfl, _⟩ := h; rfl) (fun cdv A outer s H vs Q E hr h => ?_)
  have cl_Program := T.cl
  have n_Program_names := T.n1
  have n_Program_roots := T.n2
  have n_Program_rows := T.n3
  have hu64 := hr.units
  refine ⟨_, (pss_cons (xsetf (C := C_Program) cl_Program n_Program_names (xv 0) (xv 1))
  (pss_cons (xsetf (C := C_Program) cl_Program n_Program_roots (xv 0) (xv 2))
  (pss_one (xsetf (C := C_Program) cl_Program n_Program_rows (xv 0) (xv 3))))), ?_⟩
  obtain ⟨r, dx, ln, lo, lr, rfl, h1, q⟩ := h
  walk_at "evr"
  rw [upd_upd, upd_upd]
  exact q
theorem ok_read (F : Fun K "read" "read" s_read f fd) (T : RdT K mg C_Reader CB) (c_words_of : Cal P w K mg base CX0 1 "words_of" ["text"] sp_words_of) (k_Reader : CalC P w K mg base CX0 1 C_Reader "Reader" ["self", "words"] (sp_rinit C_Reader))
    (k_Program : CalC P w K mg base CX0 1 C_Program "Program" ["self", "names", "roots", "rows"] (sp_pinit C_Program))
    (m_Reader_ahead : CalM P w K mg base CX0 1 C_Reader "ahead" ["self"] (sp_ahead C_Reader)) (m_Reader_want : CalM P w K mg base (L2.CX P w) 3 C_Reader "want" ["self", "word"] (sp_want C_Reader CB))
    (m_Reader_named : CalM P w K mg base (L2.CX P w) 3 C_Reader "named" ["self"] (sp_named C_Reader CB)) (m_Reader_expr : CalM P w K mg base (L2.CX P w) 101 C_Reader "expr" ["self", "depth"] (sp_expr C_Reader CB 24)) :
    FnOk P w K mg base (L2.CX P w) 110 f fd ["text"] (sp_read C_Program CB) := by
  refine F.okX (k := 109) sc_read (fun vs H Q E h => by obtain ⟨_, rfl, _⟩ := h; rfl) (fun cdv A outer s H vs Q E hr h => ?_)
  have cl_Reader := T.cl
  have n_Reader_rows := T.n3
  have e_BadText := T.bad
  have z_len := T.len
  have hu64 := hr.units
  refine ⟨_, (pss_cons (ps_set (i := 1) sc_read.nd rfl (Or.inl rfl) (pe_new k_Reader hr (pa_cons (pe_c c_words_of hr (pa_cons (xv 0) pa_nil)) pa_nil)))
  (pss_cons (ps_set (i := 2) sc_read.nd rfl (Or.inl rfl) (pe_lst pa_nil))
  (pss_cons (ps_set (i := 3) sc_read.nd rfl (Or.inl rfl) (pe_lst pa_nil))
  (pss_cons (xwhile (passes_of rfl) (xt (yne hu64) (pe_m0 m_Reader_ahead hr (xv 1)) pe_str (nomark _)) (pss_cons (ps_if (xt (yeq hu64) (pe_callB ylen (by rfl) z_len PySem.boot_len (pa_cons (xv 2) pa_nil)) pe_int (nomark _)) (pss_one (ps_rz (E := E) e_BadText rfl (takes_of rfl rfl rfl rfl))) pss_nil)
  (pss_cons (ps_expr (pe_mX (E := E) m_Reader_want hr (takes_of rfl rfl rfl rfl) (xv 1) (pa_cons pe_str pa_nil)))
  (pss_cons (ps_expr (pe_mX (E := E) m_Reader_want hr (takes_of rfl rfl rfl rfl) (xv 1) (pa_cons pe_str pa_nil)))
  (pss_cons (ps_expr (xapp (xv 2) (pe_mX0 (E := E) m_Reader_named hr (takes_of rfl rfl rfl rfl) (xv 1))))
  (pss_cons (ps_expr (xapp (xv 3) (pe_mX (E := E) m_Reader_expr hr (takes_of rfl rfl rfl rfl) (xv 1) (pa_cons pe_int pa_nil))))
  (pss_one (ps_expr (pe_mX (E := E) m_Reader_want hr (takes_of rfl rfl rfl rfl) (xv 1) (pa_cons pe_str pa_nil))))))))))
  (pss_cons (ps_if (xt (yeq hu64) (pe_callB ylen (by rfl) z_len PySem.boot_len (pa_cons (xv 2) pa_nil)) pe_int (nomark _)) (pss_one (ps_rz (E := E) e_BadText rfl (takes_of rfl rfl rfl rfl))) pss_nil)
  (pss_one (ps_ret (pe_new k_Program hr (pa_cons (xv 2) (pa_cons (xv 3) (pa_cons (xfld (C := C_Reader) cl_Reader n_Reader_rows (xv 1)) pa_nil))))))))))), ?_⟩
  obtain ⟨z, rfl, hz, q⟩ := h
  walk_at "ev"
  refine ⟨z, rfl, hz, fun lw H0 s0 hlw hw => ?_⟩
  walk_at "ev"
  intro r dx hr0 hdx hne
  refine ⟨r, dx, lw, rfl, upd_same, fun lr hlr => ⟨rfl, fun ln hln lo hlo => ?_⟩⟩
  have hall := words_len z.cps.toList [] ""
  have hzl := len_toList z
  have heach : ∀ x ∈ wordsOf z.cps.toList, x.length ≤ 1000000 := words_each (N := 1000000) (by decide) z.cps.toList [] "" (fun x hx => by cases hx) (by rw [show (Str.ofString "").length = 0 by decide +kernel, hzl]; omega)
  have hal : (wordsOf z.cps.toList).length ≤ 2000001 := by
    have : (wordsOf z.cps.toList).length ≤ 0 + 2 * z.cps.toList.length + 1 := hall
    omega
  generalize hws : wordsOf z.cps.toList = all at *
  obtain ⟨nr, hlr⟩ := upd_free hlr
  obtain ⟨ndr, hlr0⟩ := upd_free hlr
  obtain ⟨nlr, hln⟩ := upd_free hln
  obtain ⟨nll, hln⟩ := upd_free hln
  obtain ⟨_, hln⟩ := upd_free hln
  obtain ⟨nld, hln0⟩ := upd_free hln
  obtain ⟨nol, hlo⟩ := upd_free hlo
  obtain ⟨nor_, hlo⟩ := upd_free hlo
  obtain ⟨noll, hlo⟩ := upd_free hlo
  obtain ⟨_, hlo⟩ := upd_free hlo
  obtain ⟨nod, hlo0⟩ := upd_free hlo
  have nw : lw ≠ r := ne_of_none hw hr0
  have ndw : lw ≠ dx := ne_of_none hw hdx
  have nwl : lw ≠ lr := ne_of_none hw hlr0
  have nwn : lw ≠ ln := ne_of_none hw hln0
  have nwo : lw ≠ lo := ne_of_none hw hlo0
  have apn : Apart ln r lr lw := ⟨nlr, nll, nwn.symm⟩
  have apo : Apart lo r lr lw := ⟨nor_, noll, nwo.symm⟩
  have fr : H r = none := s0.free hr0
  have flr : H lr = none := s0.free hlr0
  have fln : H ln = none := s0.free hln0
  have flo : H lo = none := s0.free hlo0
  have fdx : H dx = none := s0.free hdx
  have s1 := same_upd (same_upd (same_upd (same_upd (same_upd (same_upd s0 fdx (.own r)) fr (.ins C_Reader dx [])) flr (.lst [])) fr (.ins C_Reader dx (rfs lw 0 lr))) fln (.lst [])) flo (.lst [])
  have R0 : RdAt C_Reader (upd (upd (upd (upd H0 dx (.own r)) r (.ins C_Reader dx [])) lr (.lst [])) r (.ins C_Reader dx (rfs lw 0 lr))) r dx lw lr all all [] :=
    ⟨⟨[], 0, upd_same, by rw [upd_ne nr, upd_same], .nil, rfl, Nat.zero_le _⟩, by rw [upd_ne nw, upd_ne nwl, upd_ne nw, upd_ne ndw]; exact hw, nwl, by omega, heach, Nat.zero_le _⟩
  have R1 := (R0.at (o := .lst []) apn.r apn.lr apn.lw (no_tupN (by rw [upd_ne nlr, upd_ne nll, upd_ne nlr, upd_ne nld]; exact hln0))).at (o := .lst []) apo.r apo.lr apo.lw (no_tupN (by rw [upd_ne nol, upd_ne nor_, upd_ne noll, upd_ne nor_, upd_ne nod]; exact hlo0))
  refine ⟨iv_read C_Reader H z r dx lw lr ln lo all (defs 12 all []), ⟨12, all, [], [], [], rfl, s1, R1, by rw [upd_ne nol.symm, upd_same]; rfl, upd_same, rfl, rfl, (plus2_nil _).symm⟩, ?_⟩
  unfold readM at q
  rintro k σ H1 ⟨rest, rows, ns, ps, rfl, t1, R2, e1, e2, e3, e4, hm⟩
  have hmm := hm.eq
  obtain ⟨f1, h1⟩ := R2.kr
  walk_at "ev"
  refine ⟨r, dx, _, rfl, h1, rfl, r, dx, lw, lr, all, rest, rows, rfl, R2, ?_⟩
  walk_at "ev"
  split
  · next ha =>
    rw [defs_end ha] at hmm
    simp only [e1, List.length_map]
    have hq : defs 12 all [] = some (ns, ps, rows) := by rw [hmm]; show some (ns ++ [], ps ++ [], rows) = _; rw [List.append_nil, List.append_nil]
    rw [hq] at q
    simp only at q
    split
    · next hz =>
      have hz' : ns = [] := List.length_eq_zero_iff.mp (by omega)
      rw [if_pos hz'] at q
      exact q H1 t1
    · next hz =>
      have hz' : ns ≠ [] := fun e => hz (by rw [e]; rfl)
      rw [if_neg hz'] at q
      obtain ⟨vs, f2, i1, i2, i3, i4⟩ := R2.ex
      simp only [i1, rfs_rows, true_and]
      intro x dx2 hx hdx2 hnx
      refine ⟨x, dx2, ln, lo, lr, rfl, upd_same, rfl, ?_⟩
      have tk : TK H1 (upd (upd (upd H1 dx2 (.own x)) x (.ins C_Program dx2 [])) x (.ins C_Program dx2 (pfs ln lo lr))) := ((tk_upd (no_tupN hdx2)).trans (tk_upd (by rw [upd_ne hnx.symm]; exact no_tupN hx))).trans (tk_upd (fun ys e => by rw [upd_same] at e; cases e))
      refine q _ x dx2 ln lo lr (same_upd (same_upd (same_upd t1 (t1.free hdx2) _) (t1.free hx) _) (t1.free hx) _) (t1.free hx) (t1.free hdx2) fln flo flr ⟨upd_same, ?_, ?_, vs, ?_, i3.mono tk⟩
      · rw [upd_ne (ne_of_none e1 hx), upd_ne (ne_of_none e1 hx), upd_ne (ne_of_none e1 hdx2)]; exact e1
      · rw [upd_ne (ne_of_none e2 hx), upd_ne (ne_of_none e2 hx), upd_ne (ne_of_none e2 hdx2)]; exact e2
      · rw [upd_ne (ne_of_none i2 hx), upd_ne (ne_of_none i2 hx), upd_ne (ne_of_none i2 hdx2)]; exact i2
  · next ha =>
    simp only [e1, List.length_map]
    split
    · next hk =>
      have hk0 : k = 0 := by omega
      subst hk0
      rw [defs_zero ha] at hmm
      rw [show defs 12 all [] = none from hmm] at q
      exact q H1 t1
    · next hk =>
      obtain ⟨k, rfl⟩ : ∃ j, k = j + 1 := ⟨k - 1, by omega⟩
      rw [defs_succ ha] at hmm
      refine ⟨r, dx, _, rfl, h1, rfl, "(", r, dx, lw, lr, all, rest, rows, _, rfl, rfl, R2, ?_⟩
      cases hw1 : want "(" rest with
      | none =>
        refine Out.of_none (by show withR _ ((want "(" rest).map _) = _; rw [hw1]; rfl) fun H2 b2 => ?_
        rw [hw1] at hmm
        rw [show defs 12 all [] = none from hmm] at q
        exact q H2 (same_but t1 b2 fr flr)
      | some rest1 =>
        rw [hw1] at hmm
        simp only at hmm
        refine Out.of_some (by show withR _ ((want "(" rest).map _) = _; rw [hw1]; rfl) fun H2 b2 R3 v hv => ?_
        obtain ⟨f2, h2⟩ := R3.kr
        have t2 := same_but t1 b2 fr flr
        refine ⟨r, dx, _, rfl, h2, rfl, "def", r, dx, lw, lr, all, rest1, rows, _, rfl, rfl, R3, ?_⟩
        cases hw2 : want "def" rest1 with
        | none =>
          refine Out.of_none (by show withR _ ((want "def" rest1).map _) = _; rw [hw2]; rfl) fun H3 b3 => ?_
          rw [hw2] at hmm
          rw [show defs 12 all [] = none from hmm] at q
          exact q H3 (same_but t2 b3 fr flr)
        | some rest2 =>
          rw [hw2] at hmm
          simp only at hmm
          refine Out.of_some (by show withR _ ((want "def" rest1).map _) = _; rw [hw2]; rfl) fun H3 b3 R4 v hv => ?_
          obtain ⟨f3, h3⟩ := R4.kr
          have t3 := same_but t2 b3 fr flr
          have e13 : H3 ln = some (.lst (ns.map V.str)) := b3 _ _ apn.out (b2 _ _ apn.out e1)
          have e23 : H3 lo = some (.lst (ps.map V.int)) := b3 _ _ apo.out (b2 _ _ apo.out e2)
          simp only [e13, true_and]
          refine ⟨r, dx, _, rfl, h3, rfl, r, dx, lw, lr, all, rest2, rows, _, rfl, rfl, R4, ?_⟩
          cases hn : named rest2 with
          | none =>
            refine Out.of_none (by show withR _ (named rest2) = _; rw [hn]; rfl) fun H4 b4 => ?_
            rw [hn] at hmm
            rw [show defs 12 all [] = none from hmm] at q
            exact q H4 (same_but t3 b4 fr flr)
          | some tx =>
            obtain ⟨x, rest3⟩ := tx
            rw [hn] at hmm
            simp only at hmm
            refine Out.of_some (by show withR _ (named rest2) = _; rw [hn]; rfl) fun H4 b4 R5 v hv => ?_
            have hv' : v = .str x := hv.1
            subst hv'
            have e14 : H4 ln = some (.lst (ns.map V.str)) := b4 _ _ apn.out e13
            have e24 : H4 lo = some (.lst (ps.map V.int)) := b4 _ _ apo.out e23
            have t4 := same_upd (same_but t3 b4 fr flr) fln (.lst (ns.map V.str ++ [V.str x]))
            have R6 := R5.at (o := .lst (ns.map V.str ++ [V.str x])) apn.r apn.lr apn.lw (no_tup e14)
            obtain ⟨f4, h4⟩ := R6.kr
            simp only [e14, true_and]
            refine ⟨by rw [List.length_map]; exact sz_lt (by omega), ?_⟩
            rw [upd_ne nol, e24]
            refine ⟨rfl, r, dx, _, rfl, h4, rfl, 1, by decide, r, dx, lw, lr, all, rest3, rows, _, rfl, rfl, R6, ?_⟩
            cases he : expr 24 1 rest3 rows with
            | none =>
              refine Out.of_none (by first | rfl | exact he) fun H5 b5 => ?_
              rw [he] at hmm
              rw [show defs 12 all [] = none from hmm] at q
              exact q H5 (same_but t4 b5 fr flr)
            | some ty =>
              obtain ⟨p, rest4, rows2⟩ := ty
              rw [he] at hmm
              simp only at hmm
              refine Out.of_some (by first | rfl | exact he) fun H5 b5 R7 v hv => ?_
              have hv' : v = .int (p : Int) := hv
              subst hv'
              have e15 : H5 ln = some (.lst (ns.map V.str ++ [V.str x])) := b5 _ _ apn.out upd_same
              have e25 : H5 lo = some (.lst (ps.map V.int)) := b5 _ _ apo.out (by rw [upd_ne nol]; exact e24)
              have t5 := same_upd (same_but t4 b5 fr flr) flo (.lst (ps.map V.int ++ [V.int (p : Int)]))
              have R8 := R7.at (o := .lst (ps.map V.int ++ [V.int (p : Int)])) apo.r apo.lr apo.lw (no_tup e25)
              obtain ⟨f5, h5⟩ := R8.kr
              simp only [e25]
              refine ⟨by rw [List.length_map]; exact sz_lt (by omega), r, dx, _, rfl, h5, rfl, ")", r, dx, lw, lr, all, rest4, rows2, _, rfl, rfl, R8, ?_⟩
              cases hw3 : want ")" rest4 with
              | none =>
                refine Out.of_none (by show withR _ ((want ")" rest4).map _) = _; rw [hw3]; rfl) fun H6 b6 => ?_
                rw [hw3] at hmm
                rw [show defs 12 all [] = none from hmm] at q
                exact q H6 (same_but t5 b6 fr flr)
              | some rest5 =>
                rw [hw3] at hmm
                simp only at hmm
                refine Out.of_some (by show withR _ ((want ")" rest4).map _) = _; rw [hw3]; rfl) fun H6 b6 R9 v hv => ?_
                refine ⟨k, Nat.lt_succ_self k, rest5, rows2, ns ++ [x], ps ++ [(p : Int)], rfl, same_but t5 b6 fr flr, R9, ?_, ?_, ?_, ?_, ?_⟩
                · rw [List.map_append]
                  exact b6 _ _ apn.out (by rw [upd_ne nol.symm]; exact e15)
                · rw [List.map_append]
                  exact b6 _ _ apo.out upd_same
                · rw [List.length_append]
                  simp only [List.length_cons, List.length_nil]
                  omega
                · rw [List.length_append, List.length_append]
                  simp only [List.length_cons, List.length_nil]
                  omega
                · show Eq _ _
                  rw [hmm]
                  cases defs k rest5 rows2 with
                  | none => rfl
                  | some td =>
                    obtain ⟨xs, qs, rws⟩ := td
                    show some (ns ++ (x :: xs), ps ++ ((p : Int) :: qs), rws) = some (ns ++ [x] ++ xs, ps ++ [(p : Int)] ++ qs, rws)
                    rw [List.append_assoc, List.append_assoc]
                    rfl
end
end Fk
namespace Fk
open PySem L2
/-! the law's own reader: words, signs, state -/
def stO (lw : Addr) (i : Nat) (lr : Addr) (b : Bool) : HO := .dK [(.inr (Str.ofString "words"), .ref lw), (.inr (Str.ofString "at"), .int (i : Int)), (.inr (Str.ofString "rows"), .ref lr), (.inr (Str.ofString "bad"), .bl b)]
section
variable {lw lr : Addr} {i j : Nat} {b c : Bool}
theorem st_words : dGetO (some (stO lw i lr b)) (.inr (Str.ofString "words")) = some (.ref lw) := by rfl
theorem st_at : dGetO (some (stO lw i lr b)) (.inr (Str.ofString "at")) = some (.int (i : Int)) := by rfl
theorem st_rows : dGetO (some (stO lw i lr b)) (.inr (Str.ofString "rows")) = some (.ref lr) := by rfl
theorem st_bad : dGetO (some (stO lw i lr b)) (.inr (Str.ofString "bad")) = some (.bl b) := by rfl
theorem st_put_at : dPutO (some (stO lw i lr b)) (.inr (Str.ofString "at")) (.int ((i : Int) + 1)) = some (stO lw (i + 1) lr b) := by rfl
theorem st_put_bad : dPutO (some (stO lw i lr b)) (.inr (Str.ofString "bad")) (.bl c) = some (stO lw i lr c) := by rfl
end
local macro_rules | `(tactic| walk_at "ev") => `(tactic| try simp only [cx_K, L2.start, List.map_cons, List.map_nil, List.length_cons, List.length_nil, Nat.reduceAdd, Nat.reduceSub, Nat.reduceLT, List.replicate_succ, List.replicate_zero, List.cons_append, List.nil_append, Nat.zero_add, Nat.add_zero,
  tSeq, tAsg, tLst, tTup, tNil, tCons, tC, tOp, tUn, gName, tNext, tRet, tRetN, tIfS, tDrop, tCB, tCall, tMeth, tMake, tIf, tAnd, tOr, tNot, tAndV, tOrV, tNotV, qFor, qLc, tYes, wStr, wLst, wTup, wRng1, wRng2, wEnum, wZip, wZipA, wRev, qVar, asB_bl, qAdd_ii, qAdd_ss, qSub_ii, qMul_ii, qMod_ii, qDiv_ii, qPow_ii, qCmpI_ii, qEq_ii, qEq_ss, qEq_bb, qIsN_n, qIsN_i, qIsN_s, qIsN_b, qIsN_r, qInS_s, qInT_r, qIx_s, qIx_r, qT, qIAdd_ii, qIAdd_ss, qLen_s, qLen_r, qAbs_i, qMax2_ii, qMin2_ii, qInt_i, qInt_b, qInt_s, qStrC_i, qStrC_s, qList_r, qTuple_r, tupleAs_l, tupleAs_t, qDivmod_ii, qAll_r, qAny_r, qSl_s, tSl, tNoPart, tPart, qPar, qPar3,
  qApp, qExt, qPop, isLst, qFld, qSetF, qAugF, qAug, qgTup, qgCons, qgNil, qNeg, qDG, qDIn, qDPut, qDGet2, qUpd, keyOf, qJoin, qWords, qStrip, qSum, qMaxA, qSIdx, qLIdx, qRevS, qIsi, qIsi2, qIsiC, qChain, isBl, tyN, gSub, qSetL, yv, wipe,
  List.getElem?_cons_zero, List.getElem?_cons_succ, List.set_cons_zero, List.set_cons_succ, upd_same, lstOf, tupOf, seqOf, at0, at1, at2, at3, ix0, ix1, ix2, sz0, sz1, sz2, sz3, sz4, sz5, sz6, sz7, sz8, sz15, true_and, and_true, and_self, if_true, if_false, if_pos,
  beq_t, beq_f, decide_eq_true_eq, decide_eq_false_iff_not, Bool.not_eq_true', Bool.not_eq_true, Bool.not_eq_false, Bool.not_true, Bool.not_false, Bool.false_eq_true, reduceCtorEq, ite_not, if_true, if_false, reduceIte, V.int.injEq, V.str.injEq, V.bl.injEq, V.ref.injEq, List.append_nil, forall_eq', exists_eq_left, exists_eq_left'])
local macro_rules | `(tactic| walk_at "evw") => `(tactic| try simp only [cx_K, L2.start, List.map_cons, List.map_nil, List.length_cons, List.length_nil, Nat.reduceAdd, Nat.reduceSub, Nat.reduceLT, List.replicate_succ, List.replicate_zero, List.cons_append, List.nil_append, Nat.zero_add, Nat.add_zero,
  tSeq, tAsg, tLst, tTup, tNil, tCons, tC, tOp, tUn, gName, tNext, tRet, tRetN, tIfS, tDrop, tCB, tCall, tMeth, tMake, tIf, tAnd, tOr, tNot, tAndV, tOrV, tNotV, qFor, qLc, tYes, wStr, wLst, wTup, wRng1, wRng2, wEnum, wZip, wZipA, wRev, qVar, asB_bl, qAdd_ii, qAdd_ss, qSub_ii, qMul_ii, qMod_ii, qDiv_ii, qPow_ii, qCmpI_ii, qEq_ii, qEq_ss, qEq_bb, qIsN_n, qIsN_i, qIsN_s, qIsN_b, qIsN_r, qInS_s, qInT_r, qIx_s, qIx_r, qT, qIAdd_ii, qIAdd_ss, qLen_s, qLen_r, qAbs_i, qMax2_ii, qMin2_ii, qInt_i, qInt_b, qInt_s, qStrC_i, qStrC_s, qList_r, qTuple_r, tupleAs_l, tupleAs_t, qDivmod_ii, qAll_r, qAny_r, qSl_s, tSl, tNoPart, tPart, qPar, qPar3,
  qApp, qExt, qPop, isLst, qFld, qSetF, qAugF, qAug, qgTup, qgCons, qgNil, qNeg, qDG, qDIn, qDPut, qDGet2, qUpd, keyOf, qJoin, qWords, qStrip, qSum, qMaxA, qSIdx, qLIdx, qRevS, qIsi, qIsi2, qIsiC, qChain, isBl, tyN, gSub, qSetL, yv, wipe,
  List.getElem?_cons_zero, List.getElem?_cons_succ, List.set_cons_zero, List.set_cons_succ, upd_same, lstOf, tupOf, seqOf, at0, at1, at2, at3, ix0, ix1, ix2, sz0, sz1, sz2, sz3, sz4, sz5, sz6, sz7, sz8, sz15, true_and, and_true, and_self, if_true, if_false, if_pos,
  beq_t, beq_f, decide_eq_true_eq, decide_eq_false_iff_not, Bool.not_eq_true', Bool.not_eq_true, Bool.not_eq_false, Bool.not_true, Bool.not_false, Bool.false_eq_true, reduceCtorEq, ite_not, if_true, if_false, reduceIte, V.int.injEq, V.str.injEq, V.bl.injEq, V.ref.injEq, List.append_nil, forall_eq', exists_eq_left, exists_eq_left', ch_eq40, seps_eq, *])
-- _law_words  names ["text", "words", "sign", "word"]  needs []
abbrev s_law_words : Stmt := topS 28
theorem sc_law_words : FnScope ["text", "words", "sign", "word"] ["text"] (defScope s_law_words) := ⟨rfl, rfl, rfl, by decide +kernel, rfl, by decide +kernel, by decide +kernel⟩
-- _law_is_number  names ["word", "sign"]  needs ['z_len', 'z_all']
abbrev s_law_is_number : Stmt := topS 29
theorem sc_law_is_number : FnScope ["word", "sign"] ["word"] (defScope s_law_is_number) := ⟨rfl, rfl, rfl, by decide +kernel, rfl, by decide +kernel, by decide +kernel⟩
-- _law_is_name  names ["word", "kept", "letters", "sign"]  needs ['z_len', 'z_all']
abbrev s_law_is_name : Stmt := topS 30
theorem sc_law_is_name : FnScope ["word", "kept", "letters", "sign"] ["word"] (defScope s_law_is_name) := ⟨rfl, rfl, rfl, by decide +kernel, rfl, by decide +kernel, by decide +kernel⟩
section
variable {P : Program} {w : World} {K : PySem.W.Frag} {mg : Str → Option Value} {base : Heap} {f : Addr} {fd : FuncData}
theorem atI_l {α : Type} (xs : List α) (v : α) : atI (xs ++ [v]) (-1) = some v := atI_last xs v
theorem ixN_l {n : Nat} : ixN (n + 1) (-1) = some n := by
  unfold ixN
  rw [if_neg (by omega)]
  first
    | (rw [if_pos (by omega)]; congr 1; omega)
    | (simp; omega)
def keepW (x : Str) : Bool := decide (x ∉ ([Str.ofString "", Str.ofString " ", Str.ofString "\n"] : List Str))
theorem run_keep {run : Str} (hns : ∀ c ∈ run.cps.toList, c ∉ seps) : keepW run = decide (run ≠ Str.ofString "") := by
  have e1 : run ≠ Str.ofString " " := by
    rintro rfl
    exact hns 32 (by decide +kernel) (by decide)
  have e2 : run ≠ Str.ofString "\n" := by
    rintro rfl
    exact hns 10 (by decide +kernel) (by decide)
  unfold keepW
  simp [e1, e2]
theorem filter_two {run : Str} {c : Nat} (hns : ∀ c ∈ run.cps.toList, c ∉ seps) (hc : c ∈ seps) : [run, ch c].filter keepW = (if run = "" then [] else [run]) ++ (if c = 40 ∨ c = 41 then [ch c] else []) := by
  have e2 : keepW (ch c) = decide (c = 40 ∨ c = 41) := by
    simp only [seps, List.mem_cons, List.not_mem_nil, or_false] at hc
    rcases hc with rfl | rfl | rfl | rfl <;> decide +kernel
  rw [List.filter_cons, run_keep hns, List.filter_cons, e2, List.filter_nil]
  by_cases h1 : run = "" <;> by_cases h2 : c = 40 ∨ c = 41 <;> simp [h1, h2]
def iv_lw (z : Str) (p : Addr) (H : Hp) (r : List Nat) (σ : St) (H' : Hp) : Prop :=
  ∃ L run x, σ = [some (.str z), some (.ref p), x, none] ∧ Same H H' ∧ H' p = some (.lst ((L ++ [run]).map V.str)) ∧ wordsFrom (L.filter keepW, run) r = wordsOf z.cps.toList ∧ L.length + 2 * r.length ≤ 2000000 ∧ run.length + r.length ≤ 1000000 ∧ ∀ c ∈ run.cps.toList, c ∉ seps
theorem ok_lwords (F : Fun K "_law_words" "_law_words" s_law_words f fd) : FnOk P w K mg base CX0 1 f fd ["text"] sp_words_of := by
  refine F.ok sc_law_words (fun vs H Q E h => by obtain ⟨z, rfl, _⟩ := h; rfl) (fun cdv A outer s H vs Q E hr h => ?_)
  have hu64 := hr.units
  refine ⟨_, (pss_cons (ps_set (i := 1) sc_law_words.nd rfl (Or.inl rfl) (pe_lst (pa_cons pe_str pa_nil)))
  (pss_cons (xfor PassesOwn.never (xistr (xv 0)) (pg_name (i := 2) sc_law_words.nd rfl (Or.inl rfl))
  (pss_one (ps_if (xt yins (xv 2) pe_str (by rfl)) (pss_cons (ps_expr (xapp (xv 1) (xv 2)))
  (pss_one (ps_expr (xapp (xv 1) pe_str)))) (pss_one (ps_asg (pe_op yadd (pe_ix yix (xv 1) (pe_un yneg pe_int) (fun _ _ => rfl)) (xv 2)) (pg_sub (xv 1) (pe_un yneg pe_int) ysetl))))))
  (pss_one (ps_ret (xlc (own := [("word", 3)]) sc_law_words.nd (xilst (xv 1)) (blkOk_by (own := [("word", 3)]) (N := ["text", "words", "sign", "word"]) (sc := defScope s_law_words) (by decide +kernel)) (fun _ _ _ _ _ => (pg_name (i := 3) sc_law_words.nd rfl (Or.inl rfl))) (fun _ _ _ _ _ => (pts_one (xt ynint (xv 3) (pe_lst (pa_cons pe_str (pa_cons pe_str (pa_cons pe_str pa_nil)))) (by rfl)))) (fun _ _ _ _ _ => (xv 3))))))), ?_⟩
  obtain ⟨z, rfl, hz, q⟩ := h
  walk_at "ev"
  intro p hp
  have hzl := len_toList z
  refine ⟨Nat, _, z.cps.toList, iv_lw z p H, rfl, ?_, fun _ _ _ _ => trivial, ?_, ?_⟩
  · exact ⟨[], "", none, rfl, same_new hp _, upd_same, rfl, by show 0 + _ ≤ _; omega, by show 0 + _ ≤ _; omega, fun c hc => by rw [show (Str.ofString "").cps.toList = [] by decide +kernel] at hc; cases hc⟩
  · rintro c r σ H' ⟨L, run, x, rfl, hS, hpw, hfin, hb1, hb2, hns⟩
    rw [List.length_cons] at hb1 hb2
    have hfin' : wordsFrom (wstep (L.filter keepW, run) c) r = wordsOf z.cps.toList := hfin
    unfold wstep at hfin'
    walk_at "evw"
    have hl : ((L ++ [run]).map V.str).length = L.length + 1 := by rw [List.length_map, List.length_append]; rfl
    split
    · next hc =>
      rw [if_pos hc] at hfin'
      have ec : (L ++ [run]).map V.str ++ [V.str ⟨#[c]⟩] ++ [V.str (Str.ofString "")] = ((L ++ [run, ch c]) ++ [Str.ofString ""]).map V.str := by simp [ch]
      refine ⟨sz_lt (by rw [hl]; omega), sz_lt (by rw [List.length_append, hl]; show L.length + 1 + 1 ≤ _; omega), L ++ [run, ch c], Str.ofString "", _, rfl, same_upd (same_upd hS hp _) hp _, by rw [upd_same, ec], ?_, by rw [List.length_append]; show L.length + 2 + _ ≤ _; omega, by rw [show (Str.ofString "").length = 0 by decide +kernel]; omega, fun c hc => by rw [show (Str.ofString "").cps.toList = [] by decide +kernel] at hc; cases hc⟩
      have ef : (L ++ [run, ch c]).filter keepW = (if c = 40 ∨ c = 41 then wflush (L.filter keepW) run ++ [ch c] else wflush (L.filter keepW) run) := by
        rw [List.filter_append, filter_two hns hc]
        unfold wflush
        split <;> split <;> simp
      rw [ef]
      exact hfin'
    · next hc =>
      rw [if_neg hc] at hfin'
      rw [show (L ++ [run]).map V.str = L.map V.str ++ [V.str run] by simp]
      rw [atI_l]
      walk_at "evw"
      rw [ixN_l]
      refine ⟨sz_of (by show run.length + 1 ≤ _; omega), L, run ++ ch c, _, rfl, same_upd hS hp _, ?_, hfin', by omega, by rw [str_app_len]; show run.length + 1 + _ ≤ _; omega, fun d hd => ?_⟩
      · have : ((L ++ [run]).map V.str).set L.length (V.str (run ++ { cps := #[c] })) = (L ++ [run ++ ch c]).map V.str := by
          rw [List.map_append, List.set_append_right _ _ (by simp)]
          simp [ch]
        rw [this]
        first | rfl | exact upd_same
      · rw [show (run ++ ch c).cps.toList = run.cps.toList ++ [c] from Array.toList_append] at hd
        rcases List.mem_append.mp hd with hd | hd
        · exact hns d hd
        · rw [List.mem_singleton.mp hd]; exact hc
  · rintro σ H' ⟨L, run, x, rfl, hS, hpw, hfin, hb1, hb2, hns⟩
    have hfin' : wflush (L.filter keepW) run = wordsOf z.cps.toList := hfin
    have eflt : (L ++ [run]).filter keepW = wordsOf z.cps.toList := by
      rw [← hfin', List.filter_append, List.filter_cons, run_keep hns, List.filter_nil, wflush]
      by_cases h1 : run = "" <;> simp [h1]
    walk_at "evw"
    intro D hD
    refine ⟨Str, fun x => .one (.str x), L ++ [run], fun r H2 => ∃ dn, L ++ [run] = dn ++ r ∧ Same H' H2 ∧ H2 D = some (.lst ((dn.filter keepW).map V.str)), by rw [List.map_map]; rfl, ⟨[], rfl, same_new hD _, upd_same⟩, ?_, ?_, ?_⟩
    · rintro r H2 ⟨dn, _, s2, _⟩
      rw [s2 _ _ hpw]
    · rintro y r H2 ⟨dn, hdn, s2, hD2⟩
      walk_at "ev"
      intro p3 h3
      refine ⟨[V.str (Str.ofString ""), V.str (Str.ofString " "), V.str (Str.ofString "\n")], .inl (.inl (.inl upd_same)), rfl, rfl, ?_⟩
      have ek : inV (V.str y) [V.str (Str.ofString ""), V.str (Str.ofString " "), V.str (Str.ofString "\n")] = !keepW y := by
        rw [show [V.str (Str.ofString ""), V.str (Str.ofString " "), V.str (Str.ofString "\n")] = [Str.ofString "", Str.ofString " ", Str.ofString "\n"].map V.str from rfl, in_strs]
        unfold keepW
        by_cases h : y ∈ [Str.ofString "", Str.ofString " ", Str.ofString "\n"] <;> simp [h]
      have hlen : (dn.filter keepW).length ≤ 2000001 := by
        have h1 := List.length_filter_le keepW dn
        have h2 := congrArg List.length hdn
        rw [List.length_append, List.length_append] at h2
        have : ([run] : List Str).length = 1 := rfl
        omega
      have hD3 := same_new h3 (.lst [V.str (Str.ofString ""), V.str (Str.ofString " "), V.str (Str.ofString "\n")]) _ _ hD2
      have s3 := s2.trans (same_new h3 (.lst [V.str (Str.ofString ""), V.str (Str.ofString " "), V.str (Str.ofString "\n")]))
      rw [ek]
      by_cases hk : keepW y = true
      · rw [hk, if_pos (by decide), hD3]
        refine ⟨sz_lt (by rw [List.length_map]; omega), dn ++ [y], by rw [hdn]; simp, same_upd s3 hD _, ?_⟩
        rw [List.filter_append, List.filter_cons, hk, if_pos rfl, List.filter_nil, List.map_append]
        rfl
      · rw [Bool.eq_false_iff.mpr hk, if_neg (by decide)]
        refine ⟨dn ++ [y], by rw [hdn]; simp, s3, ?_⟩
        rw [List.filter_append, List.filter_cons, Bool.eq_false_iff.mpr hk, if_neg (by decide), List.filter_nil, List.append_nil]
        exact hD3
    · rintro H2 ⟨dn, hdn, s2, hD2⟩
      rw [List.append_nil] at hdn
      subst hdn
      rw [eflt] at hD2
      exact q D H2 (hS.trans s2) (hS.free hD) hD2
def sp_isnum : Sp := fun vs H Q _ => ∃ z : Str, vs = [.str z] ∧ z.length ≤ 1000000 ∧ ∀ H', Same H H' → Q (.bl (isNumber z)) H'
def sp_isnm : Sp := fun vs H Q _ => ∃ z : Str, vs = [.str z] ∧ z.length ≤ 1000000 ∧ ∀ H', Same H H' → Q (.bl (isName z)) H'
theorem ok_lisnum (F : Fun K "_law_is_number" "_law_is_number" s_law_is_number f fd) (z_len : mg "len" = none) (z_all : mg "all" = none) : FnOk P w K mg base CX0 1 f fd ["word"] sp_isnum := by
  refine F.ok sc_law_is_number (fun vs H Q E h => by obtain ⟨z, rfl, _⟩ := h; rfl) (fun cdv A outer s H vs Q E hr h => ?_)
  have hu64 := hr.units
  refine ⟨_, (pss_cons (ps_if (PW.pt (pw_or (pt_not (xtchain yle yle pe_int (pe_callB ylen (by rfl) z_len PySem.boot_len (pa_cons (xv 0) pa_nil)) pe_int)) (pw_or1 (pt_not (xtv (pe_callB yall (by rfl) z_all (by decide +kernel) (pa_cons (xlc (own := [("sign", 1)]) sc_law_is_number.nd (xistr (xv 0)) (blkOk_by (own := [("sign", 1)]) (N := ["word", "sign"]) (sc := defScope s_law_is_number) (by decide +kernel)) (fun _ _ _ _ _ => (pg_name (i := 1) sc_law_is_number.nd rfl (Or.inl rfl))) (fun _ _ _ _ _ => pts_nil) (fun _ _ _ _ _ => (pe_cmpR yins (xv 1) pe_str (by rfl)))) pa_nil))))))) (pss_one (ps_ret pe_bl)) pss_nil)
  (pss_one (ps_ret (pe_or (pe_cmpR (yeq hu64) (xv 0) pe_str (nomark _)) (pe_one (pe_cmpR (yne hu64) (pe_ix yix (xv 0) pe_int (fun _ _ => rfl)) pe_str (nomark _))))))), ?_⟩
  obtain ⟨z, rfl, hz, q⟩ := h
  walk_at "ev"
  refine ⟨sz_of (by omega), ?_⟩
  have hzl := len_toList z
  have efig : (Str.ofString "0123456789") = figuresS := rfl
  split
  · next h1 =>
    split
    · next h2 =>
      intro D hD
      refine lc_vals (fun c => V.bl (decide (c ∈ figuresS.cps.toList))) hD (by omega) (fun _ _ => trivial) (fun c hc H' s' Fin fin => ?_) fun H' s' e' => ?_
      · walk_at "ev"
        exact fin H' (Same.refl H')
      · rw [e']
        simp only [bls_mapf]
        have eall : (z.cps.toList.map fun c => decide (c ∈ figuresS.cps.toList)).all id = z.cps.toList.all fun c => decide (c ∈ figuresS.cps.toList) := by rw [List.all_map]; rfl
        rw [eall]
        cases ez : z.cps.toList with
        | nil => rw [ez] at hzl; simp at hzl; omega
        | cons c l =>
          rw [at0]
          have hnum : isNumber z = ((c :: l).all (fun c => decide (c ∈ figuresS.cps.toList)) && (!decide (ch c = "0") || decide (z = "0"))) := by
            unfold isNumber
            rw [ez, decide_eq_false (show ¬ z.length = 0 by omega), decide_eq_false (show ¬ 60 < z.length by omega)]
            rfl
          by_cases h3 : (c :: l).all (fun c => decide (c ∈ figuresS.cps.toList)) = true
          · rw [h3, if_neg (by decide)]
            rw [h3, Bool.true_and] at hnum
            split
            · next h4 =>
              have := q H' s'
              rw [hnum, h4] at this
              simpa using this
            · next h4 =>
              refine ⟨sz_of (by omega), ?_⟩
              have := q H' s'
              rw [hnum, decide_eq_false h4, Bool.or_false] at this
              exact this
          · rw [Bool.eq_false_iff.mpr h3, if_pos rfl]
            rw [Bool.eq_false_iff.mpr h3, Bool.false_and] at hnum
            have := q H' s'
            rwa [hnum] at this
    · next h2 =>
      have := q H (Same.refl H)
      have hn : isNumber z = false := by
        unfold isNumber
        rw [decide_eq_true (show 60 < z.length by omega)]
        simp
      rwa [hn] at this
  · next h1 =>
    have := q H (Same.refl H)
    have hn : isNumber z = false := by
      unfold isNumber
      rw [decide_eq_true (show z.length = 0 by omega)]
      simp
    rwa [hn] at this
theorem ok_lisnm (F : Fun K "_law_is_name" "_law_is_name" s_law_is_name f fd) (z_len : mg "len" = none) (z_all : mg "all" = none) : FnOk P w K mg base CX0 1 f fd ["word"] sp_isnm := by
  refine F.ok sc_law_is_name (fun vs H Q E h => by obtain ⟨z, rfl, _⟩ := h; rfl) (fun cdv A outer s H vs Q E hr h => ?_)
  have hu64 := hr.units
  refine ⟨_, (pss_cons (ps_set (i := 1) sc_law_is_name.nd rfl (Or.inl rfl) (pe_lst (pa_cons pe_str (pa_cons pe_str (pa_cons pe_str (pa_cons pe_str (pa_cons pe_str (pa_cons pe_str (pa_cons pe_str (pa_cons pe_str (pa_cons pe_str (pa_cons pe_str (pa_cons pe_str (pa_cons pe_str (pa_cons pe_str (pa_cons pe_str (pa_cons pe_str pa_nil)))))))))))))))))
  (pss_cons (ps_set (i := 2) sc_law_is_name.nd rfl (Or.inr rfl) pe_str)
  (pss_cons (ps_if (PW.pt (pw_or (pt_not (xtchain yle yle pe_int (pe_callB ylen (by rfl) z_len PySem.boot_len (pa_cons (xv 0) pa_nil)) pe_int)) (pw_or (xt ynins (pe_ix yix (xv 0) pe_int (fun _ _ => rfl)) (xv 2) (by rfl)) (pw_or1 (xt yint (xv 0) (xv 1) (by rfl)))))) (pss_one (ps_ret pe_bl)) pss_nil)
  (pss_one (ps_ret (pe_callB yall (by rfl) z_all (by decide +kernel) (pa_cons (xlc (own := [("sign", 3)]) sc_law_is_name.nd (xistr (xv 0)) (blkOk_by (own := [("sign", 3)]) (N := ["word", "kept", "letters", "sign"]) (sc := defScope s_law_is_name) (by decide +kernel)) (fun _ _ _ _ _ => (pg_name (i := 3) sc_law_is_name.nd rfl (Or.inl rfl))) (fun _ _ _ _ _ => pts_nil) (fun _ _ _ _ _ => (pe_cmpR yins (xv 3) (pe_op yadd (xv 2) pe_str) (by rfl)))) pa_nil))))))), ?_⟩
  obtain ⟨z, rfl, hz, q⟩ := h
  walk_at "ev"
  intro p hp
  walk_at "ev"
  refine ⟨sz_of (by omega), ?_⟩
  have hzl := len_toList z
  have ek : [V.str (Str.ofString "def"), V.str (Str.ofString "fn"), V.str (Str.ofString "call"), V.str (Str.ofString "let"), V.str (Str.ofString "rec"), V.str (Str.ofString "get"), V.str (Str.ofString "tag"), V.str (Str.ofString "case"), V.str (Str.ofString "row"), V.str (Str.ofString "at"), V.str (Str.ofString "join"), V.str (Str.ofString "size"), V.str (Str.ofString "add"), V.str (Str.ofString "sub"), V.str (Str.ofString "less")] = keptV := rfl
  have el : Str.ofString "abcdefghijklmnopqrstuvwxyz" = lettersS := rfl
  rw [ek, el]
  have s1 := same_new hp (.lst keptV)
  have e1 : upd H p (HO.lst keptV) p = some (.lst keptV) := upd_same
  generalize upd H p (HO.lst keptV) = H1 at s1 e1 ⊢
  have bad : isName z = false → Q (.bl false) H1 := fun h => by have := q H1 s1; rwa [h] at this
  split
  · next h1 =>
    split
    · next h2 =>
      cases ez : z.cps.toList with
      | nil => rw [ez] at hzl; simp at hzl; omega
      | cons c l =>
        rw [at0]
        have hnum : isName z = (!decide (z ∈ keptS) && decide (c ∈ lettersS.cps.toList) && (c :: l).all fun c => decide (c ∈ lettersS.cps.toList) || decide (c ∈ figuresS.cps.toList)) := by
          unfold isName
          rw [ez, decide_eq_false (show ¬ z.length = 0 by omega), decide_eq_false (show ¬ 12 < z.length by omega)]
          rfl
        refine ⟨sz_of (by omega), ?_⟩
        split
        · next h3 =>
          refine ⟨keptV, .inl (.inl (.inl e1)), rfl, by decide +kernel, ?_⟩
          rw [show inV (.str z) keptV = decide (z ∈ keptS) from in_strs z keptS]
          rw [decide_eq_true h3, Bool.and_true] at hnum
          split
          · next h4 =>
            rw [h4] at hnum
            exact bad (by rw [hnum]; rfl)
          · next h4 =>
            rw [Bool.eq_false_iff.mpr h4] at hnum
            intro D hD
            rw [← ez]
            refine lc_vals (fun c => V.bl (decide (c ∈ lettersS.cps.toList) || decide (c ∈ figuresS.cps.toList))) hD (by omega) (fun _ _ => trivial) (fun d hd H' s' Fin fin => ?_) fun H' s' e' => ?_
            · walk_at "ev"
              refine ⟨by decide +kernel, ?_⟩
              have em : decide (d ∈ (lettersS ++ Str.ofString "0123456789").cps.toList) = (decide (d ∈ lettersS.cps.toList) || decide (d ∈ figuresS.cps.toList)) := by
                rw [show (lettersS ++ Str.ofString "0123456789").cps.toList = lettersS.cps.toList ++ figuresS.cps.toList from Array.toList_append]
                simp [List.mem_append, Bool.decide_or]
              rw [em]
              exact fin H' (Same.refl H')
            · rw [e']
              simp only [bls_mapf]
              have eall : (z.cps.toList.map fun c => decide (c ∈ lettersS.cps.toList) || decide (c ∈ figuresS.cps.toList)).all id = z.cps.toList.all fun c => decide (c ∈ lettersS.cps.toList) || decide (c ∈ figuresS.cps.toList) := by rw [List.all_map]; rfl
              rw [eall, ez]
              have := q H' (s1.trans s')
              rw [hnum] at this
              simpa using this
        · next h3 =>
          exact bad (by rw [hnum, decide_eq_false h3]; simp)
    · next h2 =>
      exact bad (by
        unfold isName
        rw [decide_eq_true (show 12 < z.length by omega)]
        simp)
  · next h1 =>
    exact bad (by
      unfold isName
      rw [decide_eq_true (show z.length = 0 by omega)]
      simp)
end
end Fk
namespace Fk
open PySem L2
local macro_rules | `(tactic| walk_at "ev") => `(tactic| try simp only [cx_K, L2.start, List.map_cons, List.map_nil, List.length_cons, List.length_nil, Nat.reduceAdd, Nat.reduceSub, Nat.reduceLT, List.replicate_succ, List.replicate_zero, List.cons_append, List.nil_append, Nat.zero_add, Nat.add_zero,
  tSeq, tAsg, tLst, tTup, tNil, tCons, tC, tOp, tUn, gName, tNext, tRet, tRetN, tIfS, tDrop, tCB, tCall, tMeth, tMake, tIf, tAnd, tOr, tNot, tAndV, tOrV, tNotV, qFor, qLc, tYes, wStr, wLst, wTup, wRng1, wRng2, wEnum, wZip, wZipA, wRev, qVar, asB_bl, qAdd_ii, qAdd_ss, qSub_ii, qMul_ii, qMod_ii, qDiv_ii, qPow_ii, qCmpI_ii, qEq_ii, qEq_ss, qEq_bb, qIsN_n, qIsN_i, qIsN_s, qIsN_b, qIsN_r, qInS_s, qInT_r, qIx_s, qIx_r, qT, qIAdd_ii, qIAdd_ss, qLen_s, qLen_r, qAbs_i, qMax2_ii, qMin2_ii, qInt_i, qInt_b, qInt_s, qStrC_i, qStrC_s, qList_r, qTuple_r, tupleAs_l, tupleAs_t, qDivmod_ii, qAll_r, qAny_r, qSl_s, tSl, tNoPart, tPart, qPar, qPar3,
  qApp, qExt, qPop, isLst, qFld, qSetF, qAugF, qAug, qgTup, qgCons, qgNil, qNeg, qDG, qDIn, qDPut, qDGet2, qUpd, keyOf, qJoin, qWords, qStrip, qSum, qMaxA, qSIdx, qLIdx, qRevS, qIsi, qIsi2, qIsiC, qChain, isBl, tyN, gSub, qSetL, yv, wipe,
  List.getElem?_cons_zero, List.getElem?_cons_succ, List.set_cons_zero, List.set_cons_succ, upd_same, lstOf, tupOf, seqOf, at0, at1, at2, at3, ix0, ix1, ix2, sz0, sz1, sz2, sz3, sz4, sz5, sz6, sz7, sz8, sz15, true_and, and_true, and_self, if_true, if_false, if_pos,
  beq_t, beq_f, decide_eq_true_eq, decide_eq_false_iff_not, Bool.not_eq_true', Bool.not_eq_true, Bool.not_eq_false, Bool.not_true, Bool.not_false, Bool.false_eq_true, reduceCtorEq, ite_not, if_true, if_false, reduceIte, V.int.injEq, V.str.injEq, V.bl.injEq, V.ref.injEq, List.append_nil, forall_eq', exists_eq_left, exists_eq_left'])
local macro_rules | `(tactic| walk_at "evs") => `(tactic| try simp only [cx_K, L2.start, List.map_cons, List.map_nil, List.length_cons, List.length_nil, Nat.reduceAdd, Nat.reduceSub, Nat.reduceLT, List.replicate_succ, List.replicate_zero, List.cons_append, List.nil_append, Nat.zero_add, Nat.add_zero,
  tSeq, tAsg, tLst, tTup, tNil, tCons, tC, tOp, tUn, gName, tNext, tRet, tRetN, tIfS, tDrop, tCB, tCall, tMeth, tMake, tIf, tAnd, tOr, tNot, tAndV, tOrV, tNotV, qFor, qLc, tYes, wStr, wLst, wTup, wRng1, wRng2, wEnum, wZip, wZipA, wRev, qVar, asB_bl, qAdd_ii, qAdd_ss, qSub_ii, qMul_ii, qMod_ii, qDiv_ii, qPow_ii, qCmpI_ii, qEq_ii, qEq_ss, qEq_bb, qIsN_n, qIsN_i, qIsN_s, qIsN_b, qIsN_r, qInS_s, qInT_r, qIx_s, qIx_r, qT, qIAdd_ii, qIAdd_ss, qLen_s, qLen_r, qAbs_i, qMax2_ii, qMin2_ii, qInt_i, qInt_b, qInt_s, qStrC_i, qStrC_s, qList_r, qTuple_r, tupleAs_l, tupleAs_t, qDivmod_ii, qAll_r, qAny_r, qSl_s, tSl, tNoPart, tPart, qPar, qPar3,
  qApp, qExt, qPop, isLst, qFld, qSetF, qAugF, qAug, qgTup, qgCons, qgNil, qNeg, qDG, qDIn, qDPut, qDGet2, qUpd, keyOf, qJoin, qWords, qStrip, qSum, qMaxA, qSIdx, qLIdx, qRevS, qIsi, qIsi2, qIsiC, qChain, isBl, tyN, gSub, qSetL, yv, wipe,
  List.getElem?_cons_zero, List.getElem?_cons_succ, List.set_cons_zero, List.set_cons_succ, upd_same, lstOf, tupOf, seqOf, at0, at1, at2, at3, ix0, ix1, ix2, sz0, sz1, sz2, sz3, sz4, sz5, sz6, sz7, sz8, sz15, true_and, and_true, and_self, if_true, if_false, if_pos,
  beq_t, beq_f, decide_eq_true_eq, decide_eq_false_iff_not, Bool.not_eq_true', Bool.not_eq_true, Bool.not_eq_false, Bool.not_true, Bool.not_false, Bool.false_eq_true, reduceCtorEq, ite_not, if_true, if_false, reduceIte, V.int.injEq, V.str.injEq, V.bl.injEq, V.ref.injEq, List.append_nil, forall_eq', exists_eq_left, exists_eq_left', st_words, st_at, st_rows, st_bad, st_put_at, st_put_bad, *])
-- _law_word  names ["state", "at"]  needs ['z_len']
abbrev s_law_word : Stmt := topS 31
theorem sc_law_word : FnScope ["state", "at"] ["state"] (defScope s_law_word) := ⟨rfl, rfl, rfl, by decide +kernel, rfl, by decide +kernel, by decide +kernel⟩
-- _law_coming  names ["state", "at"]  needs ['z_len']
abbrev s_law_coming : Stmt := topS 32
theorem sc_law_coming : FnScope ["state", "at"] ["state"] (defScope s_law_coming) := ⟨rfl, rfl, rfl, by decide +kernel, rfl, by decide +kernel, by decide +kernel⟩
-- _law_named  names ["state", "word"]  needs ['c__law_word', 'c__law_is_name']
abbrev s_law_named : Stmt := topS 33
theorem sc_law_named : FnScope ["state", "word"] ["state"] (defScope s_law_named) := ⟨rfl, rfl, rfl, by decide +kernel, rfl, by decide +kernel, by decide +kernel⟩
-- _law_number_of  names ["word", "number", "sign"]  needs []
abbrev s_law_number_of : Stmt := topS 34
theorem sc_law_number_of : FnScope ["word", "number", "sign"] ["word"] (defScope s_law_number_of) := ⟨rfl, rfl, rfl, by decide +kernel, rfl, by decide +kernel, by decide +kernel⟩
theorem but_same' {S : List Addr} {H H' : Hp} (s : Same H H') : But S H H' := fun b o _ e => s b o e
structure StAt (H : Hp) (s lw lr : Addr) (all : List Str) (i : Nat) (b : Bool) (vs : List V) : Prop where
  s : H s = some (stO lw i lr b)
  w : H lw = some (.lst (all.map V.str))
  r : H lr = some (.lst vs)
  ne : lw ≠ lr
  len : ∀ x ∈ all, x.length ≤ 1000000
  few : all.length ≤ 3000000
theorem StAt.sw {H : Hp} {s lw lr : Addr} {all : List Str} {i : Nat} {b : Bool} {vs : List V} (S : StAt H s lw lr all i b vs) : lw ≠ s := by
  rintro rfl
  have h1 := S.s
  rw [S.w] at h1
  cases h1
theorem StAt.sr {H : Hp} {s lw lr : Addr} {all : List Str} {i : Nat} {b : Bool} {vs : List V} (S : StAt H s lw lr all i b vs) : lr ≠ s := by
  rintro rfl
  have h1 := S.s
  rw [S.r] at h1
  cases h1
theorem StAt.put {H : Hp} {s lw lr : Addr} {all : List Str} {i : Nat} {b : Bool} {vs : List V} (S : StAt H s lw lr all i b vs) (j : Nat) (c : Bool) : StAt (upd H s (stO lw j lr c)) s lw lr all j c vs :=
  ⟨upd_same, by rw [upd_ne S.sw]; exact S.w, by rw [upd_ne S.sr]; exact S.r, S.ne, S.len, S.few⟩
theorem StAt.same {H H' : Hp} {s lw lr : Addr} {all : List Str} {i : Nat} {b : Bool} {vs : List V} (S : StAt H s lw lr all i b vs) (e : Same H H') : StAt H' s lw lr all i b vs := ⟨e _ _ S.s, e _ _ S.w, e _ _ S.r, S.ne, S.len, S.few⟩
def wordAt (all : List Str) (i : Nat) : Str := all.getD i ""
section
variable {P : Program} {w : World} {K : PySem.W.Frag} {mg : Str → Option Value} {base : Heap} {f : Addr} {fd : FuncData}
def sp_word : Sp := fun vs H Q _ => ∃ (s lw lr : Addr) (all : List Str) (i : Nat) (b : Bool) (us : List V), vs = [.ref s] ∧ StAt H s lw lr all i b us ∧ Q (.str (wordAt all i)) (upd H s (stO lw (i + 1) lr b))
theorem ok_lword (F : Fun K "_law_word" "_law_word" s_law_word f fd) (z_len : mg "len" = none) : FnOk P w K mg base CX0 1 f fd ["state"] sp_word := by
  refine F.ok sc_law_word (fun vs H Q E h => by obtain ⟨_, _, _, _, _, _, _, rfl, _⟩ := h; rfl) (fun cdv A outer s H vs Q E hr h => ?_)
  have hu64 := hr.units
  refine ⟨_, (pss_cons (ps_set (i := 1) sc_law_word.nd rfl (Or.inl rfl) (xdget (hu_of hr) (xv 0) pe_str (fun _ _ => rfl)))
  (pss_cons (xdput (hu_of hr) (xv 0) pe_str (pe_op yadd (xv 1) pe_int) rfl)
  (pss_one (ps_ret (pe_ifExp (xt ylt (xv 1) (pe_callB ylen (by rfl) z_len PySem.boot_len (pa_cons (xdget (hu_of hr) (xv 0) pe_str (fun _ _ => rfl)) pa_nil)) (nomark _)) (pe_ix yix (xdget (hu_of hr) (xv 0) pe_str (fun _ _ => rfl)) (xv 1) (fun _ _ => rfl)) pe_str))))), ?_⟩
  obtain ⟨s, lw, lr, all, i, b, us, rfl, S, q⟩ := h
  have S1 := S.s
  have S2 := S.w
  have S3 : upd H s (stO lw (i + 1) lr b) lw = some (.lst (all.map V.str)) := (S.put (i + 1) b).w
  walk_at "evs"
  rw [List.length_map]
  unfold wordAt at q
  split
  · next h =>
    have h' : i < all.length := by omega
    rw [atI_nat (j := i) (v := V.str all[i]) (by rw [List.getElem?_map, List.getElem?_eq_getElem h']; rfl)]
    rw [List.getD_eq_getElem?_getD, List.getElem?_eq_getElem h'] at q
    exact q
  · next h =>
    rw [List.getD_eq_getElem?_getD, List.getElem?_eq_none (by omega)] at q
    exact q
def sp_coming : Sp := fun vs H Q _ => ∃ (s lw lr : Addr) (all : List Str) (i : Nat) (b : Bool) (us : List V), vs = [.ref s] ∧ StAt H s lw lr all i b us ∧ Q (.bl (!b && decide (i < all.length) && !decide (wordAt all i = ")"))) H
theorem ok_lcoming (F : Fun K "_law_coming" "_law_coming" s_law_coming f fd) (z_len : mg "len" = none) : FnOk P w K mg base CX0 1 f fd ["state"] sp_coming := by
  refine F.ok sc_law_coming (fun vs H Q E h => by obtain ⟨_, _, _, _, _, _, _, rfl, _⟩ := h; rfl) (fun cdv A outer s H vs Q E hr h => ?_)
  have hu64 := hr.units
  refine ⟨_, (pss_cons (ps_set (i := 1) sc_law_coming.nd rfl (Or.inl rfl) (xdget (hu_of hr) (xv 0) pe_str (fun _ _ => rfl)))
  (pss_one (ps_ret (pe_and (pe_not (xdget (hu_of hr) (xv 0) pe_str (fun _ _ => rfl))) (pe_and (pe_cmpR ylt (xv 1) (pe_callB ylen (by rfl) z_len PySem.boot_len (pa_cons (xdget (hu_of hr) (xv 0) pe_str (fun _ _ => rfl)) pa_nil)) (nomark _)) (pe_one (pe_cmpR (yne hu64) (pe_ix yix (xdget (hu_of hr) (xv 0) pe_str (fun _ _ => rfl)) (xv 1) (fun _ _ => rfl)) pe_str (nomark _)))))))), ?_⟩
  obtain ⟨s, lw, lr, all, i, b, us, rfl, S, q⟩ := h
  have S1 := S.s
  have S2 := S.w
  walk_at "evs"
  rw [List.length_map]
  unfold wordAt at q
  cases b with
  | true => simpa using q
  | false =>
    rw [if_pos rfl]
    split
    · next h =>
      have h' : i < all.length := by omega
      rw [atI_nat (j := i) (v := V.str all[i]) (by rw [List.getElem?_map, List.getElem?_eq_getElem h']; rfl)]
      rw [List.getD_eq_getElem?_getD, List.getElem?_eq_getElem h', decide_eq_true h'] at q
      walk_at "ev"
      simpa using q
    · next h =>
      rw [decide_eq_false (show ¬ i < all.length by omega)] at q
      simpa using q
def sp_named' : Sp := fun vs H Q _ => ∃ (s lw lr : Addr) (all : List Str) (i : Nat) (b : Bool) (us : List V), vs = [.ref s] ∧ StAt H s lw lr all i b us ∧ ∀ H', StAt H' s lw lr all (i + 1) (b || !isName (wordAt all i)) us → But [s] H H' → Q (.str (wordAt all i)) H'
theorem ok_lnamed (F : Fun K "_law_named" "_law_named" s_law_named f fd) (c__law_word : Cal P w K mg base CX0 1 "_law_word" ["state"] sp_word) (c__law_is_name : Cal P w K mg base CX0 1 "_law_is_name" ["word"] sp_isnm) : FnOk P w K mg base CX0 2 f fd ["state"] sp_named' := by
  refine F.ok (k := 1) sc_law_named (fun vs H Q E h => by obtain ⟨_, _, _, _, _, _, _, rfl, _⟩ := h; rfl) (fun cdv A outer s H vs Q E hr h => ?_)
  have hu64 := hr.units
  refine ⟨_, (pss_cons (ps_set (i := 1) sc_law_named.nd rfl (Or.inl rfl) (pe_c c__law_word hr (pa_cons (xv 0) pa_nil)))
  (pss_cons (xdput (hu_of hr) (xv 0) pe_str (pe_or (xdget (hu_of hr) (xv 0) pe_str (fun _ _ => rfl)) (pe_one (pe_not (pe_c c__law_is_name hr (pa_cons (xv 1) pa_nil))))) rfl)
  (pss_one (ps_ret (xv 1))))), ?_⟩
  obtain ⟨s, lw, lr, all, i, b, us, rfl, S, q⟩ := h
  walk_at "ev"
  refine ⟨s, lw, lr, all, i, b, us, rfl, S, ?_⟩
  have S' := S.put (i + 1) b
  have S1 := S'.s
  have hlen : (wordAt all i).length ≤ 1000000 := by
    unfold wordAt
    rw [List.getD_eq_getElem?_getD]
    cases hx : all[i]? with
    | none => show (Str.ofString "").length ≤ _; decide +kernel
    | some x => exact S.len x (List.mem_of_getElem? hx)
  walk_at "evs"
  cases b with
  | true =>
    rw [if_pos rfl]
    exact q _ (S'.put (i + 1) true) (((But.refl [s] H).at (by simp) _).at (by simp) _)
  | false =>
    rw [if_neg (by decide)]
    refine ⟨_, rfl, hlen, fun H' s' => ⟨_, rfl, ?_⟩⟩
    have S3 := (S'.same s').s
    walk_at "evs"
    refine q _ ((S'.same s').put (i + 1) _) ?_
    exact (((But.refl [s] H).at (by simp) _).trans (but_same' s')).at (by simp) _
end
end Fk
namespace Fk
open PySem L2
local macro_rules | `(tactic| walk_at "ev") => `(tactic| try simp only [cx_K, L2.start, List.map_cons, List.map_nil, List.length_cons, List.length_nil, Nat.reduceAdd, Nat.reduceSub, Nat.reduceLT, List.replicate_succ, List.replicate_zero, List.cons_append, List.nil_append, Nat.zero_add, Nat.add_zero,
  tSeq, tAsg, tLst, tTup, tNil, tCons, tC, tOp, tUn, gName, tNext, tRet, tRetN, tIfS, tDrop, tCB, tCall, tMeth, tMake, tIf, tAnd, tOr, tNot, tAndV, tOrV, tNotV, qFor, qLc, tYes, wStr, wLst, wTup, wRng1, wRng2, wEnum, wZip, wZipA, wRev, qVar, asB_bl, qAdd_ii, qAdd_ss, qSub_ii, qMul_ii, qMod_ii, qDiv_ii, qPow_ii, qCmpI_ii, qEq_ii, qEq_ss, qEq_bb, qIsN_n, qIsN_i, qIsN_s, qIsN_b, qIsN_r, qInS_s, qInT_r, qIx_s, qIx_r, qT, qIAdd_ii, qIAdd_ss, qLen_s, qLen_r, qAbs_i, qMax2_ii, qMin2_ii, qInt_i, qInt_b, qInt_s, qStrC_i, qStrC_s, qList_r, qTuple_r, tupleAs_l, tupleAs_t, qDivmod_ii, qAll_r, qAny_r, qSl_s, tSl, tNoPart, tPart, qPar, qPar3,
  qApp, qExt, qPop, isLst, qFld, qSetF, qAugF, qAug, qgTup, qgCons, qgNil, qNeg, qDG, qDIn, qDPut, qDGet2, qUpd, keyOf, qJoin, qWords, qStrip, qSum, qMaxA, qSIdx, qLIdx, qRevS, qIsi, qIsi2, qIsiC, qChain, isBl, tyN, gSub, qSetL, yv, wipe,
  List.getElem?_cons_zero, List.getElem?_cons_succ, List.set_cons_zero, List.set_cons_succ, upd_same, lstOf, tupOf, seqOf, at0, at1, at2, at3, ix0, ix1, ix2, sz0, sz1, sz2, sz3, sz4, sz5, sz6, sz7, sz8, sz15, true_and, and_true, and_self, if_true, if_false, if_pos,
  beq_t, beq_f, decide_eq_true_eq, decide_eq_false_iff_not, Bool.not_eq_true', Bool.not_eq_true, Bool.not_eq_false, Bool.not_true, Bool.not_false, Bool.false_eq_true, reduceCtorEq, ite_not, if_true, if_false, reduceIte, V.int.injEq, V.str.injEq, V.bl.injEq, V.ref.injEq, List.append_nil, forall_eq', exists_eq_left, exists_eq_left'])
local macro_rules | `(tactic| walk_at "evn") => `(tactic| try simp only [cx_K, L2.start, List.map_cons, List.map_nil, List.length_cons, List.length_nil, Nat.reduceAdd, Nat.reduceSub, Nat.reduceLT, List.replicate_succ, List.replicate_zero, List.cons_append, List.nil_append, Nat.zero_add, Nat.add_zero,
  tSeq, tAsg, tLst, tTup, tNil, tCons, tC, tOp, tUn, gName, tNext, tRet, tRetN, tIfS, tDrop, tCB, tCall, tMeth, tMake, tIf, tAnd, tOr, tNot, tAndV, tOrV, tNotV, qFor, qLc, tYes, wStr, wLst, wTup, wRng1, wRng2, wEnum, wZip, wZipA, wRev, qVar, asB_bl, qAdd_ii, qAdd_ss, qSub_ii, qMul_ii, qMod_ii, qDiv_ii, qPow_ii, qCmpI_ii, qEq_ii, qEq_ss, qEq_bb, qIsN_n, qIsN_i, qIsN_s, qIsN_b, qIsN_r, qInS_s, qInT_r, qIx_s, qIx_r, qT, qIAdd_ii, qIAdd_ss, qLen_s, qLen_r, qAbs_i, qMax2_ii, qMin2_ii, qInt_i, qInt_b, qInt_s, qStrC_i, qStrC_s, qList_r, qTuple_r, tupleAs_l, tupleAs_t, qDivmod_ii, qAll_r, qAny_r, qSl_s, tSl, tNoPart, tPart, qPar, qPar3,
  qApp, qExt, qPop, isLst, qFld, qSetF, qAugF, qAug, qgTup, qgCons, qgNil, qNeg, qDG, qDIn, qDPut, qDGet2, qUpd, keyOf, qJoin, qWords, qStrip, qSum, qMaxA, qSIdx, qLIdx, qRevS, qIsi, qIsi2, qIsiC, qChain, isBl, tyN, gSub, qSetL, yv, wipe,
  List.getElem?_cons_zero, List.getElem?_cons_succ, List.set_cons_zero, List.set_cons_succ, upd_same, lstOf, tupOf, seqOf, at0, at1, at2, at3, ix0, ix1, ix2, sz0, sz1, sz2, sz3, sz4, sz5, sz6, sz7, sz8, sz15, true_and, and_true, and_self, if_true, if_false, if_pos,
  beq_t, beq_f, decide_eq_true_eq, decide_eq_false_iff_not, Bool.not_eq_true', Bool.not_eq_true, Bool.not_eq_false, Bool.not_true, Bool.not_false, Bool.false_eq_true, reduceCtorEq, ite_not, if_true, if_false, reduceIte, V.int.injEq, V.str.injEq, V.bl.injEq, V.ref.injEq, List.append_nil, forall_eq', exists_eq_left, exists_eq_left', *])
section
variable {P : Program} {w : World} {K : PySem.W.Frag} {mg : Str → Option Value} {base : Heap} {f : Addr} {fd : FuncData}
def decN (cs : List Nat) (n : Nat) : Nat := cs.foldl (fun m c => 10 * m + (c - 48)) n
theorem occ_fig : ∀ c ∈ figuresS.cps.toList, Builtin.Str.occurrences (Str.ofString "0123456789") { cps := #[c] } 0 (Str.ofString "0123456789").length 1 = [c - 48] := by decide +kernel
theorem isnum_digits {z : Str} (h : isNumber z = true) : ∀ c ∈ z.cps.toList, c ∈ figuresS.cps.toList := by
  unfold isNumber at h
  simp only [Bool.and_eq_true, List.all_eq_true, decide_eq_true_eq] at h
  exact h.1.2
theorem num_val {z : Str} (h : isNumber z = true) : numOf z = (decN z.cps.toList 0 : Nat) := by
  have hd := isnum_digits h
  have hl := len_toList z
  unfold isNumber at h
  simp only [Bool.and_eq_true, Bool.not_eq_true', Bool.or_eq_false_iff, decide_eq_false_iff_not] at h
  obtain ⟨⟨⟨h1, h2⟩, _⟩, _⟩ := h
  have e := PySem.intText_digits (x := z) (fun c hc => fig_iff c (hd c hc)) (fun y => h1 (by rw [← hl, y]; rfl)) (by omega)
  unfold numOf
  rw [e]
  show ((PySem.NumText.digitsVal z.cps.toList : Nat) : Int) = _
  refine congrArg Nat.cast ?_
  unfold PySem.NumText.digitsVal decN
  refine congrArg (fun f => List.foldl f 0 z.cps.toList) ?_
  funext m c
  rw [Nat.mul_comm]
def sp_numof : Sp := fun vs H Q _ => ∃ z : Str, vs = [.str z] ∧ isNumber z = true ∧ Q (.int (numOf z)) H
theorem ok_lnumof (F : Fun K "_law_number_of" "_law_number_of" s_law_number_of f fd) : FnOk P w K mg base CX0 1 f fd ["word"] sp_numof := by
  refine F.ok sc_law_number_of (fun vs H Q E h => by obtain ⟨z, rfl, _⟩ := h; rfl) (fun cdv A outer s H vs Q E hr h => ?_)
  have hu64 := hr.units
  refine ⟨_, (pss_cons (ps_set (i := 1) sc_law_number_of.nd rfl (Or.inl rfl) pe_int)
  (pss_cons (xfor PassesOwn.never (xistr (xv 0)) (pg_name (i := 2) sc_law_number_of.nd rfl (Or.inl rfl))
  (pss_one (ps_set (i := 1) sc_law_number_of.nd rfl (Or.inl rfl) (pe_op yadd (pe_op ymul pe_int (xv 1)) (xsidx pe_str (xv 2))))))
  (pss_one (ps_ret (xv 1))))), ?_⟩
  obtain ⟨z, rfl, hz, q⟩ := h
  walk_at "evn"
  have hd := isnum_digits hz
  refine ⟨Nat, _, z.cps.toList, fun r σ H' => ∃ (n : Nat) (x : Option V), σ = [some (.str z), some (.int (n : Int)), x] ∧ H' = H ∧ decN r n = decN z.cps.toList 0 ∧ ∀ c ∈ r, c ∈ figuresS.cps.toList, rfl, ⟨0, none, rfl, rfl, rfl, hd⟩, fun _ _ _ _ => trivial, ?_, ?_⟩
  · rintro c r σ H' ⟨n, x, rfl, rfl, hn, hc⟩
    walk_at "evn"
    refine ⟨.inl ⟨by decide, by decide⟩, ?_⟩
    rw [occ_fig c (hc c (by simp))]
    exact ⟨10 * n + (c - 48), _, rfl, hn, fun d hd => hc d (List.mem_cons_of_mem _ hd)⟩
  · rintro σ H' ⟨n, x, rfl, rfl, hn, hc⟩
    walk_at "evn"
    rw [num_val hz, ← hn] at q
    exact q
end
end Fk
/-! the law's reader in plain functions, and that it says what the program's mirror says -/
namespace Fk
open PySem L2
def lpat (h : Str) : Option (List Nat) := if h = "rec" ∨ h = "row" then some [] else if h = "case" then some [101] else patternOf h
def lpatM (h : Str) : List Nat := if h = "rec" then [120, 101] else if h = "row" then [101] else [120, 120, 101]
def isMany (h : Str) : Bool := decide (h = "rec" ∨ h = "row" ∨ h = "case")
def lmost (h : Str) : Nat := if h = "row" then 8 else 6
abbrev LE := List Str → Rows → Option (Nat × Nat × List Str × Rows)
def coming (ws : List Str) : Bool := match ws with
  | [] => false
  | w :: _ => !decide (w = ")")
def lpieces (ex : LE) : List Nat → List Str → Rows → Option (List PyData × Nat × List Str × Rows)
  | [], ws, rows => some ([], 0, ws, rows)
  | c :: cs, ws, rows =>
    if c = 120 then (match named ws with
      | none => none
      | some (w, ws) => (match lpieces ex cs ws rows with
        | none => none
        | some (ps, m, ws, rows) => some (.str w :: ps, m, ws, rows)))
    else (match ex ws rows with
      | none => none
      | some (p, m1, ws, rows) => (match lpieces ex cs ws rows with
        | none => none
        | some (ps, m, ws, rows) => some (.int (p : Int) :: ps, max m1 m, ws, rows)))
def lmany (ex : LE) (pat : List Nat) : Nat → List Str → Rows → Option (List PyData × Nat × List Str × Rows)
  | k, ws, rows =>
    if coming ws = true then (match k with
      | 0 => none
      | k + 1 => (match lpieces ex pat ws rows with
        | none => none
        | some (ps, m1, ws, rows) => (match lmany ex pat k ws rows with
          | none => none
          | some (qs, m, ws, rows) => some (.tuple ps :: qs, max m1 m, ws, rows))))
    else some ([], 0, ws, rows)
def lend (h : Str) (ps : List PyData) (m : Nat) (o : Option (List PyData × Nat × List Str × Rows)) : Option (List PyData × Nat × List Str × Rows) := match o with
  | none => none
  | some (qs, m2, ws, rows) => if lmost h < qs.length ∨ (h = "case" ∧ qs = []) then none
    else some (ps ++ [.tuple (if h = "row" then qs.map firstOf else qs)], max m m2, ws, rows)
def lparts (ex : LE) (k : Nat) (h : Str) (ws : List Str) (rows : Rows) : Option (List PyData × Nat × List Str × Rows) := match lpat h with
  | none => none
  | some pat => (match lpieces ex pat ws rows with
    | none => none
    | some (ps, m, ws, rows) => if isMany h = true then lend h ps m (lmany ex (lpatM h) k ws rows) else some (ps, m, ws, rows))
def lclose (w : Str) (place : Nat) (o : Option (List PyData × Nat × List Str × Rows)) : Option (Nat × Nat × List Str × Rows) := match o with
  | none => none
  | some (ps, m, ws, rows) => (match ws with
    | [] => none
    | c :: ws => if c = ")" ∧ m ≤ 23 then some (place, m + 1, ws, rows.set place (.tuple (.str w :: ps))) else none)
def lexpr : Nat → LE
  | 0, _, _ => none
  | n + 1, ws, rows =>
    if 160 ≤ rows.length then none
    else (match ws with
      | [] => none
      | w :: ws =>
        if isNumber w then some (rows.length, 1, ws, rows ++ [.tuple [.str "num", .int (numOf w)]])
        else if isName w then some (rows.length, 1, ws, rows ++ [.tuple [.str "name", .str w]])
        else if w = "(" then (match ws with
          | [] => none
          | h :: ws => lclose h rows.length (lparts (lexpr n) n h ws (rows ++ [.none])))
        else none)
/-! what both say -/
def NE (ws : List Str) : Prop := ∀ w ∈ ws, w ≠ ""
theorem NE.tail {w : Str} {ws : List Str} (h : NE (w :: ws)) : NE ws := fun x hx => h x (List.mem_cons_of_mem _ hx)
theorem NE.head {w : Str} {ws : List Str} (h : NE (w :: ws)) : w ≠ "" := h w List.mem_cons_self
def Rl {α : Type} (d r0 : Nat) (L : Option (α × Nat × List Str × Rows)) (P : Option (α × List Str × Rows)) : Prop := match L with
  | none => P = none
  | some u => (u.2.1 + d ≤ 25 → P = some (u.1, u.2.2)) ∧ (25 < u.2.1 + d → P = none) ∧ r0 ≤ u.2.2.2.length ∧ u.2.2.2.length ≤ 160 ∧ NE u.2.2.1
def RlE (n d : Nat) (ex : LE) (px : RE) : Prop := ∀ ws rows, NE ws → rows.length ≤ 160 → 161 ≤ rows.length + n → Rl d (rows.length + 1) (ex ws rows) (px ws rows)
theorem taken_ne {ws : List Str} (h : NE ws) : taken ws = (match ws with | [] => none | w :: r => some (w, r)) := by
  cases ws with
  | nil => rfl
  | cons w r => simp only [taken, if_neg h.head]
theorem named_ne {ws ws' : List Str} {w : Str} (h : NE ws) (e : named ws = some (w, ws')) : NE ws' ∧ ws = w :: ws' := by
  unfold named at e
  rw [taken_ne h] at e
  cases ws with
  | nil => cases e
  | cons x r =>
    simp only at e
    split at e
    · cases e; exact ⟨h.tail, rfl⟩
    · cases e
theorem lpieces_rel {n d : Nat} {ex : LE} {px : RE} (he : RlE n d ex px) : ∀ (pat : List Nat) (ws : List Str) (rows : Rows), NE ws → rows.length ≤ 160 → 161 ≤ rows.length + n → d ≤ 25 → Rl d (rows.length + (if 101 ∈ pat ∧ ∀ c ∈ pat, c = 120 ∨ c = 101 then 1 else 0)) (lpieces ex pat ws rows) (pieces px pat ws rows)
  | [], ws, rows, hw, hr, hn, hd => by
    refine ⟨fun _ => rfl, fun h => ?_, ?_, hr, hw⟩
    · have h' : 25 < 0 + d := h
      omega
    · rw [if_neg (by rintro ⟨h, _⟩; cases h)]
      exact Nat.le_refl _
  | c :: cs, ws, rows, hw, hr, hn, hd => by
    by_cases hc : c = 120
    · subst hc
      simp only [lpieces, pieces, if_true]
      cases e : named ws with
      | none => rfl
      | some t =>
        obtain ⟨w, ws1⟩ := t
        have ih := lpieces_rel he cs ws1 rows (named_ne hw e).1 hr hn hd
        simp only
        have hiff : (101 ∈ (120 :: cs) ∧ ∀ c ∈ (120 :: cs), c = 120 ∨ c = 101) ↔ (101 ∈ cs ∧ ∀ c ∈ cs, c = 120 ∨ c = 101) := by simp
        simp only [hiff]
        cases e2 : lpieces ex cs ws1 rows with
        | none =>
          rw [e2] at ih
          rw [show pieces px cs ws1 rows = none from ih]
          rfl
        | some u =>
          obtain ⟨ps, m, ws2, rows2⟩ := u
          rw [e2] at ih
          obtain ⟨i1, i2, i3⟩ := ih
          exact ⟨fun h => by rw [i1 h], fun h => by rw [i2 h], i3⟩
    · simp only [lpieces, pieces, if_neg hc]
      have h0 := he ws rows hw hr hn
      cases e : ex ws rows with
      | none =>
        rw [e] at h0
        rw [show px ws rows = none from h0]
        rfl
      | some t =>
        obtain ⟨p, m1, ws1, rows1⟩ := t
        rw [e] at h0
        obtain ⟨j1, j2, j3, j4, j5⟩ := h0
        have j3' : rows.length + 1 ≤ rows1.length := j3
        have j4' : rows1.length ≤ 160 := j4
        have ih := lpieces_rel he cs ws1 rows1 j5 j4' (by omega) hd
        simp only
        have hgrow : rows.length + (if 101 ∈ (c :: cs) ∧ ∀ d ∈ (c :: cs), d = 120 ∨ d = 101 then 1 else 0) ≤ rows1.length := by split <;> omega
        cases e2 : lpieces ex cs ws1 rows1 with
        | none =>
          rw [e2] at ih
          show (match px ws rows with | none => none | some (p, ws, rows) => _) = none
          by_cases hm : m1 + d ≤ 25
          · rw [j1 hm]
            simp only
            rw [show pieces px cs ws1 rows1 = none from ih]
          · rw [j2 (by show 25 < m1 + d; omega)]
        | some u =>
          obtain ⟨ps, m, ws2, rows2⟩ := u
          rw [e2] at ih
          obtain ⟨i1, i2, i3, i4, i5⟩ := ih
          have i3' : rows1.length + (if 101 ∈ cs ∧ ∀ c ∈ cs, c = 120 ∨ c = 101 then 1 else 0) ≤ rows2.length := i3
          refine ⟨fun h => ?_, fun h => ?_, ?_, i4, i5⟩
          · have h' : max m1 m + d ≤ 25 := h
            rw [j1 (by show m1 + d ≤ 25; omega)]
            simp only
            rw [i1 (by show m + d ≤ 25; omega)]
          · have h' : 25 < max m1 m + d := h
            by_cases hm : m1 + d ≤ 25
            · rw [j1 hm]
              simp only
              rw [i2 (by show 25 < m + d; omega)]
            · rw [j2 (by show 25 < m1 + d; omega)]
          · show _ ≤ rows2.length
            omega
def RlM (d most r0 : Nat) (L : Option (List PyData × Nat × List Str × Rows)) (P : Option (List PyData × List Str × Rows)) : Prop := match L with
  | none => P = none
  | some u => ((u.2.2.1 ≠ [] ∧ u.1.length ≤ most ∧ u.2.1 + d ≤ 25) → P = some (u.1, u.2.2)) ∧ (¬ (u.2.2.1 ≠ [] ∧ u.1.length ≤ most ∧ u.2.1 + d ≤ 25) → P = none) ∧ r0 ≤ u.2.2.2.length ∧ u.2.2.2.length ≤ 160 ∧ NE u.2.2.1 ∧ (u.2.2.1 ≠ [] → ahead u.2.2.1 = ")")
theorem pieces_none {px : RE} (hx : ∀ rows, px [] rows = none) {c : Nat} {cs : List Nat} {rows : Rows} : pieces px (c :: cs) [] rows = none := by
  simp only [pieces]
  split
  · rfl
  · rw [hx]
theorem many_none {px : RE} (hx : ∀ rows, px [] rows = none) {c : Nat} {cs : List Nat} {rows : Rows} (most : Nat) : many px (c :: cs) most [] rows = none := by
  have ha : ¬ ahead [] = Str.ofString ")" := by decide +kernel
  cases most with
  | zero => exact many_zero ha
  | succ k => rw [many_succ ha, pieces_none hx]
theorem lmany_rel {n d : Nat} {ex : LE} {px : RE} (he : RlE n d ex px) (hx : ∀ rows, px [] rows = none) (hd : d ≤ 25) {c0 : Nat} {cs0 : List Nat} (hp : 101 ∈ (c0 :: cs0) ∧ ∀ c ∈ (c0 :: cs0), c = 120 ∨ c = 101) :
    ∀ (k : Nat) (ws : List Str) (rows : Rows) (most : Nat), NE ws → rows.length ≤ 160 → 161 ≤ rows.length + k → 161 ≤ rows.length + n → RlM d most rows.length (lmany ex (c0 :: cs0) k ws rows) (many px (c0 :: cs0) most ws rows) := by
  intro k
  induction k with
  | zero =>
    intro ws rows most hw hr hk hn
    omega
  | succ k ih =>
    intro ws rows most hw hr hk hn
    by_cases hc : coming ws = true
    · have ha : ¬ ahead ws = Str.ofString ")" := by
        cases ws with
        | nil => cases hc
        | cons w r =>
          show ¬ w = _
          simpa [coming] using hc
      rw [lmany, if_pos hc]
      have h1 := lpieces_rel he (c0 :: cs0) ws rows hw hr hn hd
      rw [if_pos hp] at h1
      cases e1 : lpieces ex (c0 :: cs0) ws rows with
      | none =>
        rw [e1] at h1
        show many px (c0 :: cs0) most ws rows = none
        cases most with
        | zero => exact many_zero ha
        | succ m => rw [many_succ ha, show pieces px (c0 :: cs0) ws rows = none from h1]
      | some u =>
        obtain ⟨ps, m1, ws1, rows1⟩ := u
        rw [e1] at h1
        obtain ⟨j1, j2, j3, j4, j5⟩ := h1
        have j3' : rows.length + 1 ≤ rows1.length := j3
        have j4' : rows1.length ≤ 160 := j4
        simp only
        cases most with
        | zero =>
          have h2 := ih ws1 rows1 0 j5 j4' (by omega) (by omega)
          cases e2 : lmany ex (c0 :: cs0) k ws1 rows1 with
          | none => exact many_zero ha
          | some v =>
            obtain ⟨qs, m2, ws2, rows2⟩ := v
            rw [e2] at h2
            obtain ⟨_, _, i3, i4, i5, i6⟩ := h2
            have i3' : rows1.length ≤ rows2.length := i3
            exact ⟨fun h => by have := h.2.1; simp at this, fun _ => many_zero ha, by show _ ≤ rows2.length; omega, i4, i5, i6⟩
        | succ most =>
          have h2 := ih ws1 rows1 most j5 j4' (by omega) (by omega)
          have em := many_succ (ex := px) (pat := c0 :: cs0) (k := most) (rows := rows) ha
          cases e2 : lmany ex (c0 :: cs0) k ws1 rows1 with
          | none =>
            rw [e2] at h2
            show many px (c0 :: cs0) (most + 1) ws rows = none
            rw [em]
            by_cases hm : m1 + d ≤ 25
            · rw [j1 hm]
              simp only
              rw [show many px (c0 :: cs0) most ws1 rows1 = none from h2]
            · rw [j2 (by show 25 < m1 + d; omega)]
          | some v =>
            obtain ⟨qs, m2, ws2, rows2⟩ := v
            rw [e2] at h2
            obtain ⟨i1, i2, i3, i4, i5, i6⟩ := h2
            have i3' : rows1.length ≤ rows2.length := i3
            refine ⟨fun h => ?_, fun h => ?_, by show _ ≤ rows2.length; omega, i4, i5, i6⟩
            · obtain ⟨g1, g2, g3⟩ := h
              have g2' : qs.length + 1 ≤ most + 1 := g2
              have g3' : max m1 m2 + d ≤ 25 := g3
              rw [em, j1 (by show m1 + d ≤ 25; omega)]
              simp only
              rw [i1 ⟨g1, (by show qs.length ≤ most; omega), (by show m2 + d ≤ 25; omega)⟩]
            · rw [em]
              by_cases hm : m1 + d ≤ 25
              · rw [j1 hm]
                simp only
                rw [i2 (fun g => h ⟨g.1, by show qs.length + 1 ≤ most + 1; have : qs.length ≤ most := g.2.1; omega, by show max m1 m2 + d ≤ 25; have : m2 + d ≤ 25 := g.2.2; omega⟩)]
              · rw [j2 (by show 25 < m1 + d; omega)]
    · rw [lmany, if_neg hc]
      cases ws with
      | nil => exact ⟨fun h => absurd rfl h.1, fun _ => many_none hx most, Nat.le_refl _, hr, hw, fun h => absurd rfl h⟩
      | cons w r =>
        have hw' : w = Str.ofString ")" := by
          simp only [coming, Bool.not_eq_true', decide_eq_false_iff_not, Decidable.not_not] at hc
          exact hc
        subst hw'
        have hend : many px (c0 :: cs0) most (Str.ofString ")" :: r) rows = some ([], Str.ofString ")" :: r, rows) := many_end rfl
        exact ⟨fun _ => hend, fun h => absurd ⟨by simp, Nat.zero_le _, by show 0 + d ≤ 25; omega⟩ h, Nat.le_refl _, hr, hw, fun _ => rfl⟩
end Fk
namespace Fk
open PySem L2
def RlF (d r0 : Nat) (h : Str) (L : Option (List PyData × Nat × List Str × Rows)) (P : Option (PyData × List Str × Rows)) : Prop := match L with
  | none => P = none
  | some u => ((u.2.2.1 ≠ [] ∧ u.2.1 + d ≤ 25) → P = some (.tuple (.str h :: u.1), u.2.2)) ∧ (25 < u.2.1 + d → P = none) ∧ (u.2.2.1 = [] → ∀ v, P = some v → v.2.1 = []) ∧ r0 ≤ u.2.2.2.length ∧ u.2.2.2.length ≤ 160 ∧ NE u.2.2.1
theorem form_rel {n d : Nat} {ex : LE} {px : RE} (he : RlE n d ex px) (hx : ∀ rows, px [] rows = none) (hd : d ≤ 25) {k : Nat} {h : Str} {ws : List Str} {rows : Rows} (hh : h ≠ "") (hw : NE ws) (hr : rows.length ≤ 160) (hk : 161 ≤ rows.length + k) (hn : 161 ≤ rows.length + n) :
    RlF d rows.length h (lparts ex k h ws rows) (form px (h :: ws) rows) := by
  have et : taken (h :: ws) = some (h, ws) := by simp only [taken, if_neg hh]
  unfold form
  rw [et]
  simp only
  by_cases h1 : h = "rec"
  · subst h1
    have ep : lpat (Str.ofString "rec") = some [] := by decide +kernel
    have em : isMany (Str.ofString "rec") = true := by decide +kernel
    have el : lpatM (Str.ofString "rec") = [120, 101] := by decide +kernel
    have eo : lmost (Str.ofString "rec") = 6 := by decide +kernel
    unfold lparts
    rw [ep]
    simp only [lpieces, em, if_true, el]
    have hm := lmany_rel he hx hd (c0 := 120) (cs0 := [101]) (by decide) k ws rows 6 hw hr hk hn
    cases e : lmany ex [120, 101] k ws rows with
    | none =>
      rw [e] at hm
      show (match many px [120, 101] 6 ws rows with | none => none | some (ps, ws, rows) => _) = none
      rw [show many px [120, 101] 6 ws rows = none from hm]
    | some u =>
      obtain ⟨qs, m2, ws1, rows1⟩ := u
      rw [e] at hm
      obtain ⟨i1, i2, i3, i4, i5, i6⟩ := hm
      unfold lend
      rw [eo]
      simp only [show ¬ Str.ofString "rec" = Str.ofString "case" by decide +kernel, show ¬ Str.ofString "rec" = Str.ofString "row" by decide +kernel, false_and, or_false, if_false]
      by_cases hq : 6 < qs.length
      · rw [if_pos hq]
        show (match many px [120, 101] 6 ws rows with | none => none | some (ps, ws, rows) => _) = none
        rw [i2 (fun g => by have : qs.length ≤ 6 := g.2.1; omega)]
      · rw [if_neg hq]
        refine ⟨fun g => ?_, fun g => ?_, fun g v hv => ?_, i3, i4, i5⟩
        · have g2 : max 0 m2 + d ≤ 25 := g.2
          rw [i1 ⟨g.1, by show qs.length ≤ 6; omega, by show m2 + d ≤ 25; omega⟩]
          rfl
        · have g2 : 25 < max 0 m2 + d := g
          rw [i2 (fun g => by have : m2 + d ≤ 25 := g.2.2; omega)]
        · rw [i2 (fun g' => g'.1 g)] at hv
          cases hv
  · rw [if_neg h1]
    by_cases h2 : h = "row"
    · subst h2
      have ep : lpat (Str.ofString "row") = some [] := by decide +kernel
      have em : isMany (Str.ofString "row") = true := by decide +kernel
      have el : lpatM (Str.ofString "row") = [101] := by decide +kernel
      have eo : lmost (Str.ofString "row") = 8 := by decide +kernel
      unfold lparts
      rw [ep]
      simp only [lpieces, em, if_true, el]
      have hm := lmany_rel he hx hd (c0 := 101) (cs0 := []) (by decide) k ws rows 8 hw hr hk hn
      cases e : lmany ex [101] k ws rows with
      | none =>
        rw [e] at hm
        show (match many px [101] 8 ws rows with | none => none | some (ps, ws, rows) => _) = none
        rw [show many px [101] 8 ws rows = none from hm]
      | some u =>
        obtain ⟨qs, m2, ws1, rows1⟩ := u
        rw [e] at hm
        obtain ⟨i1, i2, i3, i4, i5, i6⟩ := hm
        unfold lend
        rw [eo]
        simp only [show ¬ Str.ofString "row" = Str.ofString "case" by decide +kernel, false_and, or_false, if_true]
        by_cases hq : 8 < qs.length
        · rw [if_pos hq]
          show (match many px [101] 8 ws rows with | none => none | some (ps, ws, rows) => _) = none
          rw [i2 (fun g => by have : qs.length ≤ 8 := g.2.1; omega)]
        · rw [if_neg hq]
          refine ⟨fun g => ?_, fun g => ?_, fun g v hv => ?_, i3, i4, i5⟩
          · have g2 : max 0 m2 + d ≤ 25 := g.2
            rw [i1 ⟨g.1, by show qs.length ≤ 8; omega, by show m2 + d ≤ 25; omega⟩]
            rfl
          · have g2 : 25 < max 0 m2 + d := g
            rw [i2 (fun g => by have : m2 + d ≤ 25 := g.2.2; omega)]
          · rw [i2 (fun g' => g'.1 g)] at hv
            cases hv
    · rw [if_neg h2]
      by_cases h3 : h = "case"
      · subst h3
        have ep : lpat (Str.ofString "case") = some [101] := by decide +kernel
        have em : isMany (Str.ofString "case") = true := by decide +kernel
        have el : lpatM (Str.ofString "case") = [120, 120, 101] := by decide +kernel
        have eo : lmost (Str.ofString "case") = 6 := by decide +kernel
        unfold lparts
        rw [ep]
        simp only [lpieces, show ¬ (101 : Nat) = 120 by decide, if_false, em, if_true, el]
        have h0 := he ws rows hw hr hn
        cases e0 : ex ws rows with
        | none =>
          rw [e0] at h0
          show (match px ws rows with | none => none | some (p, ws, rows) => _) = none
          rw [show px ws rows = none from h0]
        | some t =>
          obtain ⟨p, m1, ws1, rows1⟩ := t
          rw [e0] at h0
          obtain ⟨j1, j2, j3, j4, j5⟩ := h0
          have j3' : rows.length + 1 ≤ rows1.length := j3
          have j4' : rows1.length ≤ 160 := j4
          simp only
          have hm := lmany_rel he hx hd (c0 := 120) (cs0 := [120, 101]) (by decide) k ws1 rows1 6 j5 j4' (by omega) (by omega)
          cases e : lmany ex [120, 120, 101] k ws1 rows1 with
          | none =>
            rw [e] at hm
            show (match px ws rows with | none => none | some (p, ws, rows) => _) = none
            by_cases hmd : m1 + d ≤ 25
            · rw [j1 hmd]
              simp only
              rw [show many px [120, 120, 101] 6 ws1 rows1 = none from hm]
            · rw [j2 (by show 25 < m1 + d; omega)]
          | some u =>
            obtain ⟨qs, m2, ws2, rows2⟩ := u
            rw [e] at hm
            obtain ⟨i1, i2, i3, i4, i5, i6⟩ := hm
            have i3' : rows1.length ≤ rows2.length := i3
            have pn : ∀ {α : Type} (F : Nat → List Str → Rows → Option α), (m1 + d ≤ 25 → F p ws1 rows1 = none) → (match px ws rows with | none => none | some (p, ws, rows) => F p ws rows) = none := by
              intro α F hF
              by_cases hmd : m1 + d ≤ 25
              · rw [j1 hmd]; exact hF hmd
              · rw [j2 (by show 25 < m1 + d; omega)]
            unfold lend
            rw [eo]
            simp only [show ¬ Str.ofString "case" = Str.ofString "row" by decide +kernel, true_and, if_false]
            by_cases hq : 6 < qs.length ∨ qs = []
            · rw [if_pos hq]
              show (match px ws rows with | none => none | some (p, ws, rows) => _) = none
              refine pn (fun p ws rows => match many px [120, 120, 101] 6 ws rows with | none => none | some (ps, ws, rows) => if ps = [] then none else some (PyData.tuple [.str "case", .int (p : Int), .tuple ps], ws, rows)) fun hmd => ?_
              rcases hq with hq | hq
              · rw [i2 (fun g => by have : qs.length ≤ 6 := g.2.1; omega)]
              · by_cases g : ws2 ≠ [] ∧ m2 + d ≤ 25
                · rw [i1 ⟨g.1, by rw [hq]; exact Nat.zero_le _, g.2⟩]
                  simp only
                  rw [if_pos hq]
                · rw [i2 (fun g' => g ⟨g'.1, g'.2.2⟩)]
            · rw [if_neg hq]
              refine ⟨fun g => ?_, fun g => ?_, fun g v hv => ?_, by show _ ≤ rows2.length; omega, i4, i5⟩
              · have g2 : max (max m1 0) m2 + d ≤ 25 := g.2
                rw [j1 (by show m1 + d ≤ 25; omega)]
                simp only
                rw [i1 ⟨g.1, by show qs.length ≤ 6; omega, by show m2 + d ≤ 25; omega⟩]
                simp only
                rw [if_neg (fun h => hq (.inr h))]
                rfl
              · have g2 : 25 < max (max m1 0) m2 + d := g
                refine pn (fun p ws rows => match many px [120, 120, 101] 6 ws rows with | none => none | some (ps, ws, rows) => if ps = [] then none else some (PyData.tuple [.str "case", .int (p : Int), .tuple ps], ws, rows)) fun hmd => ?_
                rw [i2 (fun g => by have : m2 + d ≤ 25 := g.2.2; omega)]
              · have hz := pn (fun p ws rows => match many px [120, 120, 101] 6 ws rows with | none => none | some (ps, ws, rows) => if ps = [] then none else some (PyData.tuple [.str "case", .int (p : Int), .tuple ps], ws, rows)) fun hmd => by rw [i2 (fun g' => g'.1 g)]
                have hz2 : none = some v := hz.symm.trans hv
                cases hz2
      · rw [if_neg h3]
        have ep : lpat h = patternOf h := by unfold lpat; rw [if_neg (by rintro (z | z); exact h1 z; exact h2 z), if_neg h3]
        have em : isMany h = false := by unfold isMany; exact decide_eq_false (by rintro (z | z | z); exact h1 z; exact h2 z; exact h3 z)
        unfold lparts
        rw [ep]
        cases e0 : patternOf h with
        | none => rfl
        | some pat =>
          simp only
          have h4 := lpieces_rel he pat ws rows hw hr hn hd
          cases e : lpieces ex pat ws rows with
          | none =>
            rw [e] at h4
            show (match pieces px pat ws rows with | none => none | some (ps, ws, rows) => _) = none
            rw [show pieces px pat ws rows = none from h4]
          | some u =>
            obtain ⟨ps, m, ws1, rows1⟩ := u
            rw [e] at h4
            obtain ⟨j1, j2, j3, j4, j5⟩ := h4
            have j3' : rows.length + _ ≤ rows1.length := j3
            simp only [em, Bool.false_eq_true, if_false]
            refine ⟨fun g => by rw [j1 g.2], fun g => by rw [j2 g], fun g v hv => ?_, by show _ ≤ rows1.length; omega, j4, j5⟩
            by_cases hmd : m + d ≤ 25
            · rw [j1 hmd] at hv
              cases hv
              exact g
            · rw [j2 (by show 25 < m + d; omega)] at hv
              cases hv
theorem lexpr_pos {n : Nat} {ws : List Str} {rows : Rows} {u : Nat × Nat × List Str × Rows} (h : lexpr n ws rows = some u) : 1 ≤ u.2.1 := by
  cases n with
  | zero => cases h
  | succ n =>
    unfold lexpr at h
    split at h
    · cases h
    · split at h
      · cases h
      · split at h
        · cases h; exact Nat.le_refl _
        · split at h
          · cases h; exact Nat.le_refl _
          · split at h
            · split at h
              · cases h
              · unfold lclose at h
                split at h
                · cases h
                · split at h
                  · cases h
                  · split at h
                    · cases h; exact Nat.succ_le_succ (Nat.zero_le _)
                    · cases h
            · cases h
theorem rel_25 {n : Nat} (h : RlE n 24 (lexpr n) (expr 1 24)) : RlE n 25 (lexpr n) (expr 0 25) := fun ws rows hw hr hn => by
  have h1 := h ws rows hw hr hn
  cases e : lexpr n ws rows with
  | none => exact rfl
  | some u =>
    rw [e] at h1
    have hp := lexpr_pos e
    exact ⟨fun g => absurd g (by omega), fun _ => rfl, h1.2.2⟩
theorem expr_nil (n d : Nat) (rows : Rows) : expr n d [] rows = none := by
  cases n with
  | zero => rfl
  | succ n =>
    unfold expr
    split
    · rfl
    · rfl
theorem lexpr_succ {n : Nat} {ws : List Str} {rows : Rows} : lexpr (n + 1) ws rows = (if 160 ≤ rows.length then none
    else (match ws with
      | [] => none
      | w :: ws =>
        if isNumber w then some (rows.length, 1, ws, rows ++ [.tuple [.str "num", .int (numOf w)]])
        else if isName w then some (rows.length, 1, ws, rows ++ [.tuple [.str "name", .str w]])
        else if w = "(" then (match ws with
          | [] => none
          | h :: ws => lclose h rows.length (lparts (lexpr n) n h ws (rows ++ [.none])))
        else none)) := by
  cases ws with
  | nil => rfl
  | cons w r => cases r <;> rfl
theorem lexpr_rel : ∀ (n d : Nat), 1 ≤ d → d ≤ 24 → RlE n d (lexpr n) (expr (25 - d) d)
  | 0, d, h0, hd => fun ws rows hw hr hn => by omega
  | n + 1, d, h0, hd => fun ws rows hw hr hn => by
    have hc : RlE n (d + 1) (lexpr n) (expr (24 - d) (d + 1)) := by
      by_cases h24 : d = 24
      · subst h24
        exact rel_25 (lexpr_rel n 24 (by omega) (by omega))
      · have := lexpr_rel n (d + 1) (by omega) (by omega)
        rwa [show 25 - (d + 1) = 24 - d by omega] at this
    rw [show 25 - d = (24 - d) + 1 by omega]
    by_cases hf : 160 ≤ rows.length
    · rw [lexpr_succ, if_pos hf]
      exact expr_full hf
    · rw [lexpr_succ, if_neg hf, expr_go (by omega) hf]
      cases ws with
      | nil => exact rfl
      | cons w ws =>
        have et : taken (w :: ws) = some (w, ws) := by simp only [taken, if_neg hw.head]
        rw [et]
        simp only
        have np : isNumber (Str.ofString "(") = false := by decide +kernel
        have mp : isName (Str.ofString "(") = false := by decide +kernel
        by_cases h1 : isNumber w = true
        · have hne : ¬ w = Str.ofString "(" := by rintro rfl; rw [np] at h1; cases h1
          rw [if_pos h1, if_neg hne, if_pos h1]
          exact ⟨fun _ => rfl, fun g => absurd g (by show ¬ 25 < 1 + d; omega), by show _ ≤ (rows ++ _).length; rw [List.length_append]; exact Nat.le_refl _, by show (rows ++ _).length ≤ _; rw [List.length_append]; show _ + 1 ≤ _; omega, hw.tail⟩
        · rw [if_neg h1]
          by_cases h2 : isName w = true
          · have hne : ¬ w = Str.ofString "(" := by rintro rfl; rw [mp] at h2; cases h2
            rw [if_pos h2, if_neg hne, if_neg h1, if_pos h2]
            exact ⟨fun _ => rfl, fun g => absurd g (by show ¬ 25 < 1 + d; omega), by show _ ≤ (rows ++ _).length; rw [List.length_append]; exact Nat.le_refl _, by show (rows ++ _).length ≤ _; rw [List.length_append]; show _ + 1 ≤ _; omega, hw.tail⟩
          · rw [if_neg h2]
            by_cases h3 : w = Str.ofString "("
            · rw [if_pos h3, if_pos h3]
              cases ws with
              | nil => exact rfl
              | cons h ws =>
                simp only
                have hw2 : NE ws := hw.tail.tail
                have hlen : (rows ++ [PyData.none]).length = rows.length + 1 := List.length_append
                have hF := form_rel hc (expr_nil _ _) (by omega) (k := n) (h := h) (ws := ws) (rows := rows ++ [PyData.none]) hw.tail.head hw2 (by omega) (by omega) (by omega)
                cases e : lparts (lexpr n) n h ws (rows ++ [PyData.none]) with
                | none =>
                  rw [e] at hF
                  show (match form (expr (24 - d) (d + 1)) (h :: ws) (rows ++ [PyData.none]) with | none => none | some (row, ws, rows') => _) = none
                  rw [show form (expr (24 - d) (d + 1)) (h :: ws) (rows ++ [PyData.none]) = none from hF]
                | some u =>
                  obtain ⟨ps, m, ws1, rows1⟩ := u
                  rw [e] at hF
                  obtain ⟨i1, i2, i3, i4, i5, i6⟩ := hF
                  have i4' : (rows ++ [PyData.none]).length ≤ rows1.length := i4
                  unfold lclose
                  simp only
                  cases ws1 with
                  | nil =>
                    show (match form (expr (24 - d) (d + 1)) (h :: ws) (rows ++ [PyData.none]) with | none => none | some (row, ws, rows') => _) = none
                    cases ef : form (expr (24 - d) (d + 1)) (h :: ws) (rows ++ [PyData.none]) with
                    | none => rfl
                    | some v =>
                      obtain ⟨row, ws3, rows3⟩ := v
                      have e3 : ws3 = [] := i3 rfl _ ef
                      subst e3
                      rfl
                  | cons c r =>
                    have hcne : c ≠ "" := i6 c List.mem_cons_self
                    by_cases hmd : m + (d + 1) ≤ 25
                    · rw [i1 ⟨by simp, hmd⟩]
                      simp only
                      by_cases hcc : c = Str.ofString ")"
                      · subst hcc
                        rw [if_pos ⟨rfl, by omega⟩]
                        have ewant : want (Str.ofString ")") (Str.ofString ")" :: r) = some r := by simp only [want, taken, if_neg hcne, if_true]
                        refine ⟨fun g => by rw [ewant], fun g => ?_, by show _ ≤ (List.set _ _ _).length; rw [List.length_set]; omega, by show (List.set _ _ _).length ≤ _; rw [List.length_set]; exact i5, fun x hx => i6 x (List.mem_cons_of_mem _ hx)⟩
                        have g' : 25 < m + 1 + d := g
                        omega
                      · rw [if_neg (fun g => hcc g.1)]
                        show (match want (Str.ofString ")") (c :: r) with | none => none | some ws => _) = none
                        have ewant : want (Str.ofString ")") (c :: r) = none := by simp only [want, taken, if_neg hcne, if_neg hcc]
                        rw [ewant]
                    · rw [i2 (by show 25 < m + (d + 1); omega)]
                      simp only
                      by_cases hcc : c = Str.ofString ")" ∧ m ≤ 23
                      · rw [if_pos hcc]
                        exact ⟨fun g => absurd (show m + 1 + d ≤ 25 from g) (by omega), fun _ => rfl, by show _ ≤ (List.set _ _ _).length; rw [List.length_set]; omega, by show (List.set _ _ _).length ≤ _; rw [List.length_set]; exact i5, fun x hx => i6 x (List.mem_cons_of_mem _ hx)⟩
                      · rw [if_neg hcc]
                        exact rfl
            · rw [if_neg h3, if_neg h3, if_neg h1, if_neg h2]
              exact rfl
end Fk
namespace Fk
open PySem L2
theorem lexpr_le {n : Nat} {ws : List Str} {rows : Rows} {u : Nat × Nat × List Str × Rows} (h : lexpr n ws rows = some u) : u.2.1 ≤ 24 := by
  cases n with
  | zero => cases h
  | succ n =>
    rw [lexpr_succ] at h
    split at h
    · cases h
    · split at h
      · cases h
      · split at h
        · cases h; exact (by decide : 1 ≤ 24)
        · split at h
          · cases h; exact (by decide : 1 ≤ 24)
          · split at h
            · split at h
              · cases h
              · unfold lclose at h
                split at h
                · cases h
                · split at h
                  · cases h
                  · split at h
                    · next hc => cases h; exact Nat.succ_le_succ hc.2
                    · cases h
            · cases h
def ldefs : Nat → List Str → Rows → Option (List Str × List Int × Rows)
  | k, ws, rows =>
    if ws = [] then some ([], [], rows)
    else match k with
      | 0 => none
      | k + 1 => (match ws with
        | a :: b :: ws => if a = "(" ∧ b = "def" then (match named ws with
            | none => none
            | some (x, ws) => (match lexpr 161 ws rows with
              | none => none
              | some (p, _, ws, rows) => (match ws with
                | [] => none
                | c :: ws => if c = ")" then (match ldefs k ws rows with
                    | none => none
                    | some (xs, ps, rows) => some (x :: xs, (p : Int) :: ps, rows)) else none))) else none
        | _ => none)
theorem ldefs_succ {k : Nat} {a : Str} {r : List Str} {rows : Rows} : ldefs (k + 1) (a :: r) rows = (match r with
        | [] => none
        | b :: ws => if a = "(" ∧ b = "def" then (match named ws with
            | none => none
            | some (x, ws) => (match lexpr 161 ws rows with
              | none => none
              | some (p, _, ws, rows) => (match ws with
                | [] => none
                | c :: ws => if c = ")" then (match ldefs k ws rows with
                    | none => none
                    | some (xs, ps, rows) => some (x :: xs, (p : Int) :: ps, rows)) else none))) else none) := by cases r <;> rfl
theorem ldefs_eq : ∀ (k : Nat) (ws : List Str) (rows : Rows), NE ws → rows.length ≤ 160 → ldefs k ws rows = defs k ws rows := by
  intro k
  induction k with
  | zero =>
    intro ws rows hw hr
    cases ws with
    | nil => rfl
    | cons w r =>
      have : ¬ ahead (w :: r) = Str.ofString "" := hw.head
      rw [ldefs, if_neg (by simp), defs_zero this]
  | succ k ih =>
    intro ws rows hw hr
    cases ws with
    | nil => rfl
    | cons a r =>
      have ha : ¬ ahead (a :: r) = Str.ofString "" := hw.head
      rw [ldefs_succ, defs_succ ha]
      have hane := hw.head
      by_cases h1 : a = Str.ofString "("
      · subst h1
        have e1 : want (Str.ofString "(") (Str.ofString "(" :: r) = some r := by simp only [want, taken, if_neg hane, if_true]
        rw [e1]
        simp only
        cases r with
        | nil => rfl
        | cons b r =>
          have hbne := hw.tail.head
          by_cases h2 : b = Str.ofString "def"
          · subst h2
            have e2 : want (Str.ofString "def") (Str.ofString "def" :: r) = some r := by simp only [want, taken, if_neg hbne, if_true]
            rw [e2]
            simp only [and_self, if_true]
            cases e3 : named r with
            | none => rfl
            | some t =>
              obtain ⟨x, ws1⟩ := t
              have hw1 := (named_ne hw.tail.tail e3).1
              simp only
              have h4 := lexpr_rel 161 1 (by decide) (by decide) ws1 rows hw1 hr (by omega)
              cases e4 : lexpr 161 ws1 rows with
              | none =>
                rw [e4] at h4
                rw [show expr 24 1 ws1 rows = none from h4]
              | some u =>
                obtain ⟨p, m, ws2, rows2⟩ := u
                have hm : m ≤ 24 := lexpr_le e4
                rw [e4] at h4
                obtain ⟨i1, _, _, i4, i5⟩ := h4
                rw [show expr 24 1 ws1 rows = some (p, ws2, rows2) from i1 (by show m + 1 ≤ 25; omega)]
                simp only
                cases ws2 with
                | nil => rfl
                | cons c ws3 =>
                  have hcne : c ≠ "" := i5 c List.mem_cons_self
                  by_cases h5 : c = Str.ofString ")"
                  · subst h5
                    have e5 : want (Str.ofString ")") (Str.ofString ")" :: ws3) = some ws3 := by simp only [want, taken, if_neg hcne, if_true]
                    rw [e5]
                    simp only [if_true]
                    rw [ih ws3 rows2 (fun x hx => i5 x (List.mem_cons_of_mem _ hx)) i4]
                    try rfl
                  · have e5 : want (Str.ofString ")") (c :: ws3) = none := by simp only [want, taken, if_neg hcne, if_neg h5]
                    rw [e5]
                    simp only [if_neg h5]
          · have e2 : want (Str.ofString "def") (b :: r) = none := by simp only [want, taken, if_neg hbne, if_neg h2]
            rw [e2]
            first
              | exact if_neg (fun g : True ∧ b = Str.ofString "def" => h2 g.2)
              | exact if_neg (fun g : Str.ofString "(" = Str.ofString "(" ∧ b = Str.ofString "def" => h2 g.2)
              | (simp only [if_neg (fun g : True ∧ b = Str.ofString "def" => h2 g.2)])
      · have e1 : want (Str.ofString "(") (a :: r) = none := by simp only [want, taken, if_neg hane, if_neg h1]
        rw [e1]
        cases r with
        | nil => rfl
        | cons b r =>
          exact if_neg (fun g : a = Str.ofString "(" ∧ b = Str.ofString "def" => h1 g.1)
theorem wflush_ne {ws : List Str} {run : Str} (h : NE ws) : NE (wflush ws run) := by
  unfold wflush
  split
  · exact h
  · next hr =>
    intro x hx
    rcases List.mem_append.mp hx with hx | hx
    · exact h x hx
    · rw [List.mem_singleton.mp hx]; exact hr
theorem words_ne : ∀ (cs : List Nat) (ws : List Str) (run : Str), NE ws → NE (wordsFrom (ws, run) cs)
  | [], ws, run, h => wflush_ne h
  | c :: cs, ws, run, h => by
    show NE (wordsFrom (wstep (ws, run) c) cs)
    unfold wstep
    split
    · next hc =>
      refine words_ne cs _ _ ?_
      split
      · intro x hx
        rcases List.mem_append.mp hx with hx | hx
        · exact wflush_ne h x hx
        · rw [List.mem_singleton.mp hx]
          intro e
          have := congrArg Str.length e
          revert this
          show ¬ (1 = _)
          decide +kernel
      · exact wflush_ne h
    · exact words_ne cs _ _ h
theorem lread_eq (cs : List Nat) : (match ldefs 12 (wordsOf cs) [] with
  | none => none
  | some (xs, ps, rows) => if xs = [] then none else some (xs, ps, rows)) = readM (wordsOf cs) := by
  unfold readM
  have h : NE (wordsOf cs) := words_ne cs [] _ (fun x hx => by cases hx)
  rw [ldefs_eq 12 _ [] h (Nat.zero_le _)]
  try rfl
end Fk
namespace Fk
open PySem L2
local macro_rules | `(tactic| walk_at "ev") => `(tactic| try simp only [cx_K, L2.start, List.map_cons, List.map_nil, List.length_cons, List.length_nil, Nat.reduceAdd, Nat.reduceSub, Nat.reduceLT, List.replicate_succ, List.replicate_zero, List.cons_append, List.nil_append, Nat.zero_add, Nat.add_zero,
  tSeq, tAsg, tLst, tTup, tNil, tCons, tC, tOp, tUn, gName, tNext, tRet, tRetN, tIfS, tDrop, tCB, tCall, tMeth, tMake, tIf, tAnd, tOr, tNot, tAndV, tOrV, tNotV, qFor, qLc, tYes, wStr, wLst, wTup, wRng1, wRng2, wEnum, wZip, wZipA, wRev, qVar, asB_bl, qAdd_ii, qAdd_ss, qSub_ii, qMul_ii, qMod_ii, qDiv_ii, qPow_ii, qCmpI_ii, qEq_ii, qEq_ss, qEq_bb, qIsN_n, qIsN_i, qIsN_s, qIsN_b, qIsN_r, qInS_s, qInT_r, qIx_s, qIx_r, qT, qIAdd_ii, qIAdd_ss, qLen_s, qLen_r, qAbs_i, qMax2_ii, qMin2_ii, qInt_i, qInt_b, qInt_s, qStrC_i, qStrC_s, qList_r, qTuple_r, tupleAs_l, tupleAs_t, qDivmod_ii, qAll_r, qAny_r, qSl_s, tSl, tNoPart, tPart, qPar, qPar3,
  qApp, qExt, qPop, isLst, qFld, qSetF, qAugF, qAug, qgTup, qgCons, qgNil, qNeg, qDG, qDIn, qDPut, qDGet2, qUpd, keyOf, qJoin, qWords, qStrip, qSum, qMaxA, qSIdx, qLIdx, qRevS, qIsi, qIsi2, qIsiC, qChain, isBl, tyN, gSub, qSetL, yv, wipe,
  List.getElem?_cons_zero, List.getElem?_cons_succ, List.set_cons_zero, List.set_cons_succ, upd_same, lstOf, tupOf, seqOf, at0, at1, at2, at3, ix0, ix1, ix2, sz0, sz1, sz2, sz3, sz4, sz5, sz6, sz7, sz8, sz15, true_and, and_true, and_self, if_true, if_false, if_pos,
  beq_t, beq_f, decide_eq_true_eq, decide_eq_false_iff_not, Bool.not_eq_true', Bool.not_eq_true, Bool.not_eq_false, Bool.not_true, Bool.not_false, Bool.false_eq_true, reduceCtorEq, ite_not, if_true, if_false, reduceIte, V.int.injEq, V.str.injEq, V.bl.injEq, V.ref.injEq, List.append_nil, forall_eq', exists_eq_left, exists_eq_left'])
local macro_rules | `(tactic| walk_at "evs") => `(tactic| try simp only [cx_K, L2.start, List.map_cons, List.map_nil, List.length_cons, List.length_nil, Nat.reduceAdd, Nat.reduceSub, Nat.reduceLT, List.replicate_succ, List.replicate_zero, List.cons_append, List.nil_append, Nat.zero_add, Nat.add_zero,
  tSeq, tAsg, tLst, tTup, tNil, tCons, tC, tOp, tUn, gName, tNext, tRet, tRetN, tIfS, tDrop, tCB, tCall, tMeth, tMake, tIf, tAnd, tOr, tNot, tAndV, tOrV, tNotV, qFor, qLc, tYes, wStr, wLst, wTup, wRng1, wRng2, wEnum, wZip, wZipA, wRev, qVar, asB_bl, qAdd_ii, qAdd_ss, qSub_ii, qMul_ii, qMod_ii, qDiv_ii, qPow_ii, qCmpI_ii, qEq_ii, qEq_ss, qEq_bb, qIsN_n, qIsN_i, qIsN_s, qIsN_b, qIsN_r, qInS_s, qInT_r, qIx_s, qIx_r, qT, qIAdd_ii, qIAdd_ss, qLen_s, qLen_r, qAbs_i, qMax2_ii, qMin2_ii, qInt_i, qInt_b, qInt_s, qStrC_i, qStrC_s, qList_r, qTuple_r, tupleAs_l, tupleAs_t, qDivmod_ii, qAll_r, qAny_r, qSl_s, tSl, tNoPart, tPart, qPar, qPar3,
  qApp, qExt, qPop, isLst, qFld, qSetF, qAugF, qAug, qgTup, qgCons, qgNil, qNeg, qDG, qDIn, qDPut, qDGet2, qUpd, keyOf, qJoin, qWords, qStrip, qSum, qMaxA, qSIdx, qLIdx, qRevS, qIsi, qIsi2, qIsiC, qChain, isBl, tyN, gSub, qSetL, yv, wipe,
  List.getElem?_cons_zero, List.getElem?_cons_succ, List.set_cons_zero, List.set_cons_succ, upd_same, lstOf, tupOf, seqOf, at0, at1, at2, at3, ix0, ix1, ix2, sz0, sz1, sz2, sz3, sz4, sz5, sz6, sz7, sz8, sz15, true_and, and_true, and_self, if_true, if_false, if_pos,
  beq_t, beq_f, decide_eq_true_eq, decide_eq_false_iff_not, Bool.not_eq_true', Bool.not_eq_true, Bool.not_eq_false, Bool.not_true, Bool.not_false, Bool.false_eq_true, reduceCtorEq, ite_not, if_true, if_false, reduceIte, V.int.injEq, V.str.injEq, V.bl.injEq, V.ref.injEq, List.append_nil, forall_eq', exists_eq_left, exists_eq_left', st_words, st_at, st_rows, st_bad, st_put_at, st_put_bad, *])
-- _law_parts  names ["state", "head", "forms", "parts", "nests", "more", "sort", "made", "names", "k", "place", "nest"]  needs ['c__law_named', 'c__law_expr', 'c__law_coming', 'z_range', 'z_tuple', 'z_len', 'z_max']
abbrev s_law_parts : Stmt := topS 35
theorem sc_law_parts : FnScope ["state", "head", "forms", "parts", "nests", "more", "sort", "made", "names", "k", "place", "nest"] ["state", "head"] (defScope s_law_parts) := ⟨rfl, rfl, rfl, by decide +kernel, rfl, by decide +kernel, by decide +kernel⟩
-- _law_expr  names ["state", "word", "rows", "place", "head", "parts", "nest"]  needs ['c__law_word', 'z_len', 'c__law_is_number', 'c__law_number_of', 'c__law_is_name', 'c__law_parts', 'z_tuple']
abbrev s_law_expr : Stmt := topS 36
theorem sc_law_expr : FnScope ["state", "word", "rows", "place", "head", "parts", "nest"] ["state"] (defScope s_law_expr) := ⟨rfl, rfl, rfl, by decide +kernel, rfl, by decide +kernel, by decide +kernel⟩
def REx (n : Nat) (A : Around) : Prop := A.handled = none ∧ A.depth + 2 * n + 20 < recursionLimit ∧ A.units + 8 * n + 400 < cLine
def RPa (n : Nat) (A : Around) : Prop := A.handled = none ∧ A.depth + 2 * n + 21 < recursionLimit ∧ A.units + 8 * n + 404 < cLine
section
variable {P : Program} {w : World} {K : PySem.W.Frag} {mg : Str → Option Value} {base : Heap} {f : Addr} {fd : FuncData}
/-- what an EXPR, or the parts of one, leave -/
def LOut {α : Type} (G C B : Nat) (s lw lr : Addr) (all : List Str) (b : Bool) (us : List V) (o : Option (α × Nat × List Str × Rows)) (H' : Hp) (i' : Nat) (b' : Bool) (us' : List V) (F : α → Nat → Prop) : Prop :=
  StAt H' s lw lr all i' b' us' ∧ us.length + G ≤ us'.length ∧ (match b, o with
    | true, _ => b' = true ∧ us'.length ≤ us.length + C
    | false, none => b' = true ∧ us'.length ≤ B
    | false, some (a, m, ws, rows) => b' = false ∧ all.drop i' = ws ∧ Tps H' us' rows ∧ us'.length ≤ 160 ∧ F a m)
def LIn (n : Nat) (H : Hp) (b : Bool) (us : List V) (rows : Rows) : Prop := b = false → Tps H us rows ∧ rows.length ≤ 160 ∧ 161 ≤ rows.length + n
def sp_lexpr (n : Nat) : Sp := fun vs H Q _ => ∃ (s lw lr : Addr) (all : List Str) (i : Nat) (b : Bool) (us : List V) (rows : Rows), vs = [.ref s] ∧ StAt H s lw lr all i b us ∧ LIn n H b us rows ∧ us.length ≤ 2000000 ∧
  ∀ H' t pl ne i' b' us', But [s, lr] H H' → H' t = some (.tup [.int pl, .int ne]) → LOut 1 1 (165 + 4 * n) s lw lr all b us (lexpr n (all.drop i) rows) H' i' b' us' (fun p m => pl = (p : Int) ∧ ne = (m : Int)) → Q (.ref t) H'
def sp_lparts (n : Nat) : Sp := fun vs H Q _ => ∃ (s lw lr : Addr) (h : Str) (all : List Str) (i : Nat) (b : Bool) (us : List V) (rows : Rows), vs = [.ref s, .str h] ∧ StAt H s lw lr all i b us ∧ LIn n H b us rows ∧ us.length ≤ 1000000 ∧
  ∀ H' t lp ne ps i' b' us', But [s, lr] H H' → H' t = some (.tup [.ref lp, .int ne]) → H' lp = some (.lst ps) → ps.length ≤ 1000 → LOut 0 3 (168 + 4 * n) s lw lr all b us (lparts (lexpr n) n h (all.drop i) rows) H' i' b' us' (fun qs m => Tps H' ps qs ∧ ne = (m : Int)) → Q (.ref t) H'
theorem StAt.rput {H : Hp} {s lw lr : Addr} {all : List Str} {i : Nat} {b : Bool} {vs : List V} (S : StAt H s lw lr all i b vs) (us : List V) : StAt (upd H lr (.lst us)) s lw lr all i b us :=
  ⟨by rw [upd_ne S.sr.symm]; exact S.s, by rw [upd_ne S.ne]; exact S.w, upd_same, S.ne, S.len, S.few⟩
theorem StAt.new {H : Hp} {s lw lr p : Addr} {all : List Str} {i : Nat} {b : Bool} {vs : List V} (S : StAt H s lw lr all i b vs) (hp : H p = none) (o : HO) : StAt (upd H p o) s lw lr all i b vs := S.same (same_new hp o)
theorem StAt.tk {H H' : Hp} {s lw lr : Addr} {all : List Str} {i : Nat} {b : Bool} {vs : List V} (S : StAt H s lw lr all i b vs) (e : But [s, lr] H H') : TK H H' := fun a xs h => e a _ (by
  simp only [List.mem_cons, List.not_mem_nil, or_false, not_or]
  constructor
  · rintro rfl
    rw [S.s] at h
    cases h
  · rintro rfl
    rw [S.r] at h
    cases h) h
theorem lfin {H0 H2 : Hp} {s lw lr : Addr} {all : List Str} {i : Nat} {b : Bool} {us2 : List V} (S : StAt H2 s lw lr all i b us2) (b0 : But [s, lr] H0 H2) (hs : H0 s ≠ none) (hlr : H0 lr ≠ none) {p t : Addr} (hp : H2 p = none) {xs : List V} {pl ne : Int} {j : Nat} (ht : upd (upd H2 p (.tup xs)) lr (.lst (us2.set j (.ref p))) t = none) :
    StAt (upd (upd (upd H2 p (.tup xs)) lr (.lst (us2.set j (.ref p)))) t (.tup [.int pl, .int ne])) s lw lr all i b (us2.set j (.ref p)) ∧ But [s, lr] H0 (upd (upd (upd H2 p (.tup xs)) lr (.lst (us2.set j (.ref p)))) t (.tup [.int pl, .int ne])) ∧
      (upd (upd (upd H2 p (.tup xs)) lr (.lst (us2.set j (.ref p)))) t (.tup [.int pl, .int ne])) t = some (.tup [.int pl, .int ne]) ∧ (upd (upd (upd H2 p (.tup xs)) lr (.lst (us2.set j (.ref p)))) t (.tup [.int pl, .int ne])) p = some (.tup xs) ∧ TK H2 (upd (upd (upd H2 p (.tup xs)) lr (.lst (us2.set j (.ref p)))) t (.tup [.int pl, .int ne])) := by
  have S1 := (S.new hp (.tup xs)).rput (us2.set j (.ref p))
  have npl : p ≠ lr := by rintro rfl; rw [S.r] at hp; cases hp
  have e1 : But [s, lr] H2 (upd (upd (upd H2 p (.tup xs)) lr (.lst (us2.set j (.ref p)))) t (.tup [.int pl, .int ne])) := (((But.refl _ H2).nw hp _).at (by simp) _).trans (But.new ht _)
  refine ⟨S1.new ht _, b0.trans e1, upd_same, same_new ht _ _ _ (by rw [upd_ne npl]; exact upd_same), S.tk e1⟩
theorem rest_at {all : List Str} {i : Nat} : (i < all.length ∧ all.drop i = wordAt all i :: all.drop (i + 1)) ∨ (all.length ≤ i ∧ all.drop i = [] ∧ wordAt all i = Str.ofString "") := by
  by_cases h : i < all.length
  · refine .inl ⟨h, ?_⟩
    unfold wordAt
    rw [List.getD_eq_getElem?_getD, List.getElem?_eq_getElem h]
    exact List.drop_eq_getElem_cons h
  · refine .inr ⟨by omega, List.drop_of_length_le (by omega), ?_⟩
    unfold wordAt
    rw [List.getD_eq_getElem?_getD, List.getElem?_eq_none (by omega)]
    rfl
theorem word_len {H : Hp} {s lw lr : Addr} {all : List Str} {i j : Nat} {b : Bool} {vs : List V} (S : StAt H s lw lr all i b vs) : (wordAt all j).length ≤ 1000000 := by
  unfold wordAt
  rw [List.getD_eq_getElem?_getD]
  cases hx : all[j]? with
  | none => show (Str.ofString "").length ≤ _; decide +kernel
  | some x => exact S.len x (List.mem_of_getElem? hx)
theorem ltail {H6 : Hp} {s lw lr lp : Addr} {all : List Str} {i6 pl : Nat} {b6 : Bool} {us6 ps : List V} {Q : VK} (S : StAt H6 s lw lr all i6 b6 us6) (hpl : pl < us6.length) (e : H6 lp = some (.lst ps)) (hps : ps.length ≤ 1000) (m : Int) (x : Str)
    (fin : ∀ (H' : Hp) (t row : Addr), StAt H' s lw lr all i6 b6 (us6.set pl (.ref row)) → H' row = some (.tup (.str x :: ps)) → But [s, lr] H6 H' → H' t = some (.tup [.int (pl : Int), .int (m + 1)]) → Q (.ref t) H') :
    ∀ p, H6 p = none → qTuple [.ref lp] (upd H6 p (.tup [.str x])) fun y H2 => qAdd (.ref p) y H2 fun x H1 => match H1 lr with
      | some (.lst xs) => (match ixN xs.length ((pl : Nat) : Int) with
        | some j => qAdd (.int m) (.int 1) (upd H1 lr (.lst (xs.set j x))) fun x H1 => ∀ p, H1 p = none → Q (.ref p) (upd H1 p (.tup [.int (pl : Int), x]))
        | none => False)
      | _ => False := by
  intro p hp
  have S1 := S.new hp (.tup [.str x])
  have el : upd H6 p (.tup [.str x]) lp = some (.lst ps) := same_new hp _ _ _ e
  have ep : upd H6 p (.tup [.str x]) p = some (.tup [.str x]) := upd_same
  have b1 : But [s, lr] H6 (upd H6 p (.tup [.str x])) := But.new hp _
  generalize upd H6 p (.tup [.str x]) = H7 at S1 el ep b1 ⊢
  show tupleAs (H7 lp) _ _
  rw [el]
  show ∀ y, _
  intro y hy
  have S2 := S1.new hy (.tup ps)
  have ep2 : upd H7 y (.tup ps) p = some (.tup [.str x]) := same_new hy _ _ _ ep
  have ey2 : upd H7 y (.tup ps) y = some (.tup ps) := upd_same
  have b2 := b1.trans (But.new hy (.tup ps))
  generalize upd H7 y (.tup ps) = H8 at S2 ep2 ey2 b2 ⊢
  have go : ∀ (H9 : Hp) (row : Addr), StAt H9 s lw lr all i6 b6 us6 → H9 row = some (.tup (.str x :: ps)) → But [s, lr] H6 H9 → (match H9 lr with
      | some (.lst xs) => (match ixN xs.length ((pl : Nat) : Int) with
        | some j => qAdd (.int m) (.int 1) (upd H9 lr (.lst (xs.set j (.ref row)))) fun x H1 => ∀ p, H1 p = none → Q (.ref p) (upd H1 p (.tup [.int (pl : Int), x]))
        | none => False)
      | _ => False) := by
    intro H9 row S9 e9 b9
    rw [S9.r]
    simp only [ixN_k hpl]
    show ∀ p, _
    intro t ht
    have nrow : row ≠ lr := by rintro rfl; rw [S9.r] at e9; cases e9
    refine fin _ t row ((S9.rput _).new ht _) (same_new ht _ _ _ (by rw [upd_ne nrow]; exact e9)) ((b9.at (by simp) _).trans (But.new ht _)) upd_same
  rw [qAdd_tt ep2 ey2]
  refine ⟨sz_of (by show 1 + ps.length ≤ _; omega), fun h => (by cases h), fun _ hps0 => ?_, fun _ _ r hr => ?_⟩
  · subst hps0
    exact go H8 p S2 ep2 b2
  · exact go _ r (S2.new hr _) upd_same (b2.trans (But.new hr _))
theorem ok_lexpr {n : Nat} (F : Fun K "_law_expr" "_law_expr" s_law_expr f fd) (c__law_word : Cal P w K mg base CX0 1 "_law_word" ["state"] sp_word) (c__law_is_number : Cal P w K mg base CX0 1 "_law_is_number" ["word"] sp_isnum) (c__law_is_name : Cal P w K mg base CX0 1 "_law_is_name" ["word"] sp_isnm)
    (c__law_number_of : Cal P w K mg base CX0 1 "_law_number_of" ["word"] sp_numof) (z_len : mg "len" = none) (z_tuple : mg "tuple" = none) (c__law_parts : CalA P w K mg base (RPa n) "_law_parts" ["state", "head"] (sp_lparts n)) : FnA P w K mg base (REx (n + 1)) f fd ["state"] (sp_lexpr (n + 1)) := by
  refine okA F sc_law_expr (fun A h => ⟨h.1, by have := h.2.1; omega⟩) (fun vs H Q E h => by obtain ⟨_, _, _, _, _, _, _, _, rfl, _⟩ := h; rfl) (fun cdv A outer s H vs Q E hA h => ?_)
  have hr : Room 3 (A.deeper (PyProof.Rows.envOfC "_law_expr" (defScope s_law_expr) s.heap.objs.size f cdv)) := ⟨hA.1, by have := hA.2.1; show A.depth + 1 + _ + 5 < _; omega, by have := hA.2.2; show A.units + 3 + _ + 200 < _; omega⟩
  have hrA : RPa n (A.deeper (PyProof.Rows.envOfC "_law_expr" (defScope s_law_expr) s.heap.objs.size f cdv)) := ⟨hA.1, by have := hA.2.1; show A.depth + 1 + _ + 21 < _; omega, by have := hA.2.2; show A.units + 3 + _ + 404 < _; omega⟩
  have hu64 := hr.units
  refine ⟨_, (pss_cons (ps_set (i := 1) sc_law_expr.nd rfl (Or.inl rfl) (pe_c c__law_word hr (pa_cons (xv 0) pa_nil)))
  (pss_cons (ps_set (i := 2) sc_law_expr.nd rfl (Or.inl rfl) (xdget (hu_of hr) (xv 0) pe_str (fun _ _ => rfl)))
  (pss_cons (ps_set (i := 3) sc_law_expr.nd rfl (Or.inl rfl) (pe_callB ylen (by rfl) z_len PySem.boot_len (pa_cons (xv 2) pa_nil)))
  (pss_cons (ps_expr (xapp (xv 2) pe_non))
  (pss_cons (xdput (hu_of hr) (xv 0) pe_str (pe_or (xdget (hu_of hr) (xv 0) pe_str (fun _ _ => rfl)) (pe_one (pe_cmpR ygt (xv 3) pe_int (nomark _)))) rfl)
  (pss_cons (ps_if (PW.pt (pw_or (xtv (xdget (hu_of hr) (xv 0) pe_str (fun _ _ => rfl))) (pw_or1 (xtv (pe_c c__law_is_number hr (pa_cons (xv 1) pa_nil)))))) (pss_cons (ps_asg (pe_tup (pa_cons pe_str (pa_cons (pe_ifExp (xtv (xdget (hu_of hr) (xv 0) pe_str (fun _ _ => rfl))) pe_int (pe_c c__law_number_of hr (pa_cons (xv 1) pa_nil))) pa_nil))) (pg_sub (xv 2) (xv 3) ysetl))
  (pss_one (ps_ret (pe_tup (pa_cons (xv 3) (pa_cons pe_int pa_nil)))))) pss_nil)
  (pss_cons (ps_if (xtv (pe_c c__law_is_name hr (pa_cons (xv 1) pa_nil))) (pss_cons (ps_asg (pe_tup (pa_cons pe_str (pa_cons (xv 1) pa_nil))) (pg_sub (xv 2) (xv 3) ysetl))
  (pss_one (ps_ret (pe_tup (pa_cons (xv 3) (pa_cons pe_int pa_nil)))))) pss_nil)
  (pss_cons (xdput (hu_of hr) (xv 0) pe_str (pe_cmpR (yne hu64) (xv 1) pe_str (nomark _)) rfl)
  (pss_cons (ps_set (i := 4) sc_law_expr.nd rfl (Or.inl rfl) (pe_c c__law_word hr (pa_cons (xv 0) pa_nil)))
  (pss_cons (ps_asg (pe_cA c__law_parts hrA (pa_cons (xv 0) (pa_cons (xv 4) pa_nil))) (xgtup (n := 2) (xgcons (pg_name (i := 5) sc_law_expr.nd rfl (Or.inl rfl)) (xgcons (pg_name (i := 6) sc_law_expr.nd rfl (Or.inl rfl)) xgnil))))
  (pss_cons (xdput (hu_of hr) (xv 0) pe_str (pe_or (xdget (hu_of hr) (xv 0) pe_str (fun _ _ => rfl)) (pe_or (pe_cmpR (yne hu64) (pe_c c__law_word hr (pa_cons (xv 0) pa_nil)) pe_str (nomark _)) (pe_one (pe_cmpR ygt (xv 6) pe_int (nomark _))))) rfl)
  (pss_cons (ps_asg (pe_op yadd (pe_tup (pa_cons (xv 4) pa_nil)) (pe_callTy ytuple (by rfl) z_tuple (by decide +kernel) (pa_cons (xv 5) pa_nil))) (pg_sub (xv 2) (xv 3) ysetl))
  (pss_one (ps_ret (pe_tup (pa_cons (xv 3) (pa_cons (pe_op yadd (xv 6) pe_int) pa_nil))))))))))))))))), ?_⟩
  obtain ⟨s, lw, lr, all, i, b, us, rows, rfl, S, hin, hus, q⟩ := h
  walk_at "ev"
  refine ⟨s, lw, lr, all, i, b, us, rfl, S, ?_⟩
  have S1 := S.put (i + 1) b
  have e1 := S1.s
  have e2 := S1.r
  walk_at "evs"
  refine ⟨sz_lt (by omega), ?_⟩
  have S2 := S1.rput (us ++ [V.non])
  have bu : But [s, lr] H (upd (upd H s (stO lw (i + 1) lr b)) lr (.lst (us ++ [V.non]))) := ((But.refl _ H).at (by simp) _).at (by simp) _
  have hsN : H s ≠ none := by rw [S.s]; simp
  have hlN : H lr ≠ none := by rw [S.r]; simp
  have e3 := S2.s
  have hix : ixN (us ++ [V.non]).length ((us.length : Nat) : Int) = some us.length := ixN_k (by rw [List.length_append]; exact Nat.lt_succ_self _)
  have hbad : ∀ (H3 : Hp) (us3 : List V) (b3 : Bool), StAt H3 s lw lr all (i + 1) true (us ++ [V.non]) → But [s, lr] H H3 → (b = false → lexpr (n + 1) (all.drop i) rows = none) → us.length ≤ 164 + 4 * n ∨ b = true →
      ∀ p, H3 p = none → ∀ t, upd (upd H3 p (.tup [V.str (Str.ofString "num"), V.int 0])) lr (.lst ((us ++ [V.non]).set us.length (V.ref p))) t = none → Q (.ref t) (upd (upd (upd H3 p (.tup [V.str (Str.ofString "num"), V.int 0])) lr (.lst ((us ++ [V.non]).set us.length (V.ref p)))) t (.tup [V.int (us.length : Int), V.int 1])) := by
    intro H3 us3 b3 S3 bu3 hno hl p hp t ht
    obtain ⟨f1, f2, f3, f4, f5⟩ := lfin (pl := (us.length : Int)) (ne := 1) S3 bu3 hsN hlN hp ht
    refine q _ t _ _ _ _ _ f2 f3 ⟨f1, ?_⟩
    have hl2 : ((us ++ [V.non]).set us.length (V.ref p)).length = us.length + 1 := by rw [List.length_set, List.length_append]; rfl
    cases b with
    | true => exact ⟨by rw [hl2]; omega, rfl, by rw [hl2]; omega⟩
    | false =>
      rw [hno rfl]
      exact ⟨by rw [hl2]; omega, rfl, by rw [hl2]; rcases hl with hl | hl; omega; cases hl⟩
  cases b with
  | true =>
    have S3 := S2.put (i + 1) true
    have e4 := S3.s
    have e5 := S3.r
    rw [e3]
    walk_at "evs"
    intro p hp
    rw [upd_ne (by rintro rfl; rw [e5] at hp; cases hp), e5]
    simp only [hix]
    intro t ht
    exact hbad _ [] true S3 (bu.at (by simp) _) (fun h => by cases h) (.inr rfl) p hp t ht
  | false =>
    rw [e3]
    walk_at "evs"
    obtain ⟨ht, hr1, hr2⟩ := hin rfl
    have hul : us.length = rows.length := ht.length
    by_cases hfull : 159 < us.length
    · have hfi : (159 : Int) < (us.length : Int) := by omega
      rw [if_pos hfi, if_pos hfi, decide_eq_true hfi]
      have S3 := S2.put (i + 1) true
      have e5 := S3.r
      intro p hp
      rw [upd_ne (by rintro rfl; rw [e5] at hp; cases hp), e5]
      simp only [hix]
      intro t ht2
      exact hbad _ [] true S3 (bu.at (by simp) _) (fun _ => by rw [lexpr_succ, if_pos (by omega)]) (.inl (by omega)) p hp t ht2
    · have hfi : ¬ (159 : Int) < (us.length : Int) := by omega
      rw [if_neg hfi, decide_eq_false hfi]
      have S3 := S2.put (i + 1) false
      have bu3 := bu.at (p := s) (by simp) (stO lw (i + 1) lr false)
      have t3 : Tps _ us rows := ht.mono (S.tk bu3)
      generalize upd (upd (upd H s (stO lw (i + 1) lr false)) lr (HO.lst (us ++ [V.non]))) s (stO lw (i + 1) lr false) = H3 at S3 bu3 t3 ⊢
      have hlx : lexpr (n + 1) (all.drop i) rows = _ := lexpr_succ
      rw [if_neg (show ¬ 160 ≤ rows.length by omega)] at hlx
      refine ⟨_, rfl, word_len S3, fun H4 s4 => ?_⟩
      have S4 := S3.same s4
      have e6 := S4.s
      have e7 := S4.r
      have bu4 := bu3.trans (but_same' s4)
      have t4 : Tps H4 us rows := t3.mono (same_tk s4)
      have hrow : ∀ (H5 : Hp) (d : List V) (row : List PyData), StAt H5 s lw lr all (i + 1) false (us ++ [V.non]) → But [s, lr] H H5 → Tps H5 us rows → Tps H5 d row → lexpr (n + 1) (all.drop i) rows = some (rows.length, 1, all.drop (i + 1), rows ++ [.tuple row]) →
          ∀ p, H5 p = none → ∀ t, upd (upd H5 p (.tup d)) lr (.lst ((us ++ [V.non]).set us.length (V.ref p))) t = none → Q (.ref t) (upd (upd (upd H5 p (.tup d)) lr (.lst ((us ++ [V.non]).set us.length (V.ref p)))) t (.tup [V.int (us.length : Int), V.int 1])) := by
        intro H5 d row S5 bu5 t5 td hlx2 p hp t ht2
        obtain ⟨f1, f2, f3, f4, f5⟩ := lfin (pl := (us.length : Int)) (ne := 1) S5 bu5 hsN hlN hp ht2
        refine q _ t _ _ _ _ _ f2 f3 ⟨f1, ?_⟩
        rw [hlx2]
        refine ⟨by rw [List.length_set, List.length_append]; exact Nat.le_refl _, rfl, rfl, ?_, by rw [List.length_set, List.length_append]; show _ + 1 ≤ _; omega, by rw [hul], rfl⟩
        have hset : (us ++ [V.non]).set us.length (V.ref p) = us ++ [V.ref p] := by rw [List.set_append_right _ _ (Nat.le_refl _), Nat.sub_self]; rfl
        refine (congrArg (fun l => Tps _ l _) hset).mpr ?_
        exact (t5.mono f5).append (.cons (.tup f4 (td.mono f5)) .nil)
      clear hbad hin
      have nn : isNumber (Str.ofString "") = false := by decide +kernel
      have nm : isName (Str.ofString "") = false := by decide +kernel
      cases hnum : isNumber (wordAt all i) with
      | true =>
        rcases rest_at (all := all) (i := i) with ⟨hlt, hdr⟩ | ⟨hge, hdr, hw0⟩
        · rw [hdr] at hlx
          simp only at hlx
          simp only [asB, if_true, e6, st_bad, Bool.false_eq_true, if_false]
          rw [hnum, if_pos rfl] at hlx
          refine ⟨_, rfl, hnum, ?_⟩
          intro p hp
          rw [upd_ne (by rintro rfl; rw [e7] at hp; cases hp), e7]
          simp only [hix]
          exact hrow H4 _ _ S4 bu4 t4 (.cons (.str _) (.cons (.int _) .nil)) (hdr ▸ hlx) p hp
        · rw [hw0, nn] at hnum
          cases hnum
      | false =>
        simp only [asB, Bool.false_eq_true, if_false]
        refine ⟨_, rfl, word_len S4, fun H5 s5 => ?_⟩
        have S5 := S4.same s5
        have e8 := S5.s
        have e9 := S5.r
        have bu5 := bu4.trans (but_same' s5)
        have t5 : Tps H5 us rows := t4.mono (same_tk s5)
        cases hnam : isName (wordAt all i) with
        | true =>
          rcases rest_at (all := all) (i := i) with ⟨hlt, hdr⟩ | ⟨hge, hdr, hw0⟩
          · rw [hdr] at hlx
            simp only at hlx
            rw [hnum, if_neg (by decide), hnam, if_pos rfl] at hlx
            simp only [asB, if_true]
            intro p hp
            rw [upd_ne (by rintro rfl; rw [e9] at hp; cases hp), e9]
            simp only [hix]
            exact hrow H5 _ _ S5 bu5 t5 (.cons (.str _) (.cons (.str _) .nil)) (hdr ▸ hlx) p hp
          · rw [hw0, nm] at hnam
            cases hnam
        | false =>
          simp only [asB, Bool.false_eq_true, if_false, e8, st_put_bad]
          have hl2 : lexpr (n + 1) (all.drop i) rows = if wordAt all i = Str.ofString "(" then (match all.drop (i + 1) with
              | [] => none
              | h :: ws => lclose h rows.length (lparts (lexpr n) n h ws (rows ++ [PyData.none]))) else none := by
            rw [hlx]
            rcases rest_at (all := all) (i := i) with ⟨hlt, hdr⟩ | ⟨hge, hdr, hw0⟩
            · rw [hdr]
              simp only
              rw [hnum, if_neg (by decide), hnam, if_neg (by decide)]
              try rfl
            · rw [hdr, hw0, if_neg (by decide +kernel)]
          clear hrow hlx
          have S6 := S5.put (i + 1) (!decide (wordAt all i = Str.ofString "("))
          have bu6 := bu5.at (p := s) (by simp) (stO lw (i + 1) lr (!decide (wordAt all i = Str.ofString "(")))
          have t6 := t5.mono (S5.tk ((But.refl _ H5).at (p := s) (by simp) (stO lw (i + 1) lr (!decide (wordAt all i = Str.ofString "(")))))
          refine ⟨s, lw, lr, all, i + 1, _, _, rfl, S6, ?_⟩
          have S7 := S6.put (i + 1 + 1) (!decide (wordAt all i = Str.ofString "("))
          have bu7 := bu6.at (p := s) (by simp) (stO lw (i + 1 + 1) lr (!decide (wordAt all i = Str.ofString "(")))
          have t7 := t6.mono (S6.tk ((But.refl _ _).at (p := s) (by simp) (stO lw (i + 1 + 1) lr (!decide (wordAt all i = Str.ofString "(")))))
          generalize upd (upd H5 s (stO lw (i + 1) lr (!decide (wordAt all i = Str.ofString "(")))) s (stO lw (i + 1 + 1) lr (!decide (wordAt all i = Str.ofString "("))) = H7 at S7 bu7 t7 ⊢
          generalize hc : (!decide (wordAt all i = Str.ofString "(")) = c at S7 bu7 ⊢
          have t7' : Tps H7 (us ++ [V.non]) (rows ++ [PyData.none]) := t7.append (.cons .non .nil)
          refine ⟨s, lw, lr, _, all, i + 1 + 1, c, us ++ [V.non], rows ++ [PyData.none], rfl, S7, fun _ => ⟨t7', by rw [List.length_append]; show _ + 1 ≤ _; omega, by rw [List.length_append]; show 161 ≤ _ + 1 + n; omega⟩, by rw [List.length_append]; show _ + 1 ≤ _; omega, ?_⟩
          intro H8 t8 lp ne ps i8 b8 us8 bu8 et8 elp hps ⟨S8, hout⟩
          simp only [et8, List.length_cons, List.length_nil, true_and]
          have bu78 := bu7.trans bu8
          obtain ⟨hgr, hout⟩ := hout
          rw [List.length_append] at hgr
          have hgr' : us.length + 1 ≤ us8.length := hgr
          have hl3 : lexpr (n + 1) (all.drop i) rows = if c = false then lclose (wordAt all (i + 1)) rows.length (lparts (lexpr n) n (wordAt all (i + 1)) (all.drop (i + 1 + 1)) (rows ++ [PyData.none])) else none := by
            rw [hl2, ← hc]
            by_cases hp : wordAt all i = Str.ofString "("
            · rw [if_pos hp, decide_eq_true hp, if_pos (by decide)]
              rcases rest_at (all := all) (i := i + 1) with ⟨hlt, hdr⟩ | ⟨hge, hdr, hw0⟩
              · rw [hdr]
              · rw [hdr, hw0]
                have : lpat (Str.ofString "") = none := by decide +kernel
                unfold lparts
                rw [this]
                rfl
            · rw [if_neg hp, decide_eq_false hp, if_neg (by decide)]
          have bad8 : ∀ (H9 : Hp) (i9 : Nat), StAt H9 s lw lr all i9 true us8 → But [s, lr] H H9 → H9 lp = some (.lst ps) → lexpr (n + 1) (all.drop i) rows = none → us8.length ≤ 165 + 4 * (n + 1) →
              ∀ p, H9 p = none → qTuple [.ref lp] (upd H9 p (.tup [.str (wordAt all (i + 1))])) fun y H2 => qAdd (.ref p) y H2 fun x H1 => match H1 lr with
                | some (.lst xs) => (match ixN xs.length ((us.length : Nat) : Int) with
                  | some j => qAdd (.int ne) (.int 1) (upd H1 lr (.lst (xs.set j x))) fun x H1 => ∀ p, H1 p = none → Q (.ref p) (upd H1 p (.tup [.int ((us.length : Nat) : Int), x]))
                  | none => False)
                | _ => False := by
            intro H9 i9 S9 bu9 e9 hno hl
            refine ltail S9 (by omega) e9 hps ne _ fun H' t row S' er b' et => ?_
            refine q H' t _ _ _ _ _ (bu9.trans b') et ⟨S', by rw [List.length_set]; omega, ?_⟩
            rw [hno]
            exact ⟨rfl, by rw [List.length_set]; exact hl⟩
          have lpS : lp ≠ s := by rintro rfl; rw [S8.s] at elp; cases elp
          have e10 := S8.s
          cases b8 with
          | true =>
            have hno : lexpr (n + 1) (all.drop i) rows = none ∧ us8.length ≤ 165 + 4 * (n + 1) := by
              rw [hl3]
              cases c with
              | true => exact ⟨if_neg (by decide), by have := hout.2; rw [List.length_append] at this; have h2 : us8.length ≤ us.length + 1 + 3 := this; omega⟩
              | false =>
                rw [if_pos rfl]
                cases ho : lparts (lexpr n) n (wordAt all (i + 1)) (all.drop (i + 1 + 1)) (rows ++ [PyData.none]) with
                | none =>
                  rw [ho] at hout
                  exact ⟨rfl, by have := hout.2; omega⟩
                | some u =>
                  obtain ⟨qs, m, ws9, rows9⟩ := u
                  rw [ho] at hout
                  cases hout.1
            rw [e10]
            simp only [st_bad, st_put_bad]
            refine ⟨true, rfl, ?_⟩
            rw [if_pos rfl]
            exact bad8 _ i8 (S8.put i8 true) (bu78.at (by simp) _) (by rw [upd_ne lpS]; exact elp) hno.1 hno.2
          | false =>
            rw [e10]
            simp only [st_bad]
            refine ⟨false, rfl, ?_⟩
            rw [if_neg (by decide)]
            have hc0 : c = false := by
              cases c with
              | false => rfl
              | true => cases hout.1
            subst hc0
            rw [if_pos rfl] at hl3
            cases ho : lparts (lexpr n) n (wordAt all (i + 1)) (all.drop (i + 1 + 1)) (rows ++ [PyData.none]) with
            | none =>
              rw [ho] at hout
              cases hout.1
            | some u =>
              obtain ⟨qs, m, ws9, rows9⟩ := u
              rw [ho] at hout hl3
              obtain ⟨_, hws, t8', hl8, tps, hne⟩ := hout
              subst hne
              refine ⟨s, lw, lr, all, i8, false, us8, rfl, S8, ?_⟩
              have S9 := S8.put (i8 + 1) false
              have bu9 := bu78.at (p := s) (by simp) (stO lw (i8 + 1) lr false)
              have e11 := S9.s
              have elp9 : upd H8 s (stO lw (i8 + 1) lr false) lp = some (.lst ps) := by rw [upd_ne lpS]; exact elp
              have t9 : Tps (upd H8 s (stO lw (i8 + 1) lr false)) us8 rows9 := t8'.mono (S8.tk ((But.refl _ H8).at (by simp) _))
              have tp9 : Tps (upd H8 s (stO lw (i8 + 1) lr false)) ps qs := tps.mono (S8.tk ((But.refl _ H8).at (by simp) _))
              generalize upd H8 s (stO lw (i8 + 1) lr false) = H9 at S9 bu9 e11 elp9 t9 tp9 ⊢
              have bad9 : ∀ (H10 : Hp), StAt H10 s lw lr all (i8 + 1) true us8 → But [s, lr] H H10 → H10 lp = some (.lst ps) → lexpr (n + 1) (all.drop i) rows = none → _ := fun H10 S10 b10 e10 hno => bad8 H10 (i8 + 1) S10 b10 e10 hno (by omega)
              have lpR : lp ≠ s := lpS
              show qEq K false (V.str (wordAt all i8)) (V.str (Str.ofString ")")) H9 _
              rw [qEq_ss]
              refine ⟨_, rfl, ?_⟩
              by_cases hcl : wordAt all i8 = Str.ofString ")"
              · rw [decide_eq_true hcl, if_neg (by decide)]
                rcases rest_at (all := all) (i := i8) with ⟨hlt, hdr⟩ | ⟨hge, hdr, hw0⟩
                · rw [hws, hcl] at hdr
                  rw [hdr] at hl3
                  show match dPutO (H9 s) _ (V.bl (decide (23 < (m : Int)))) with
                    | some o => _
                    | none => _
                  rw [e11]
                  simp only [st_put_bad]
                  by_cases hm : m ≤ 23
                  · rw [decide_eq_false (show ¬ (23 : Int) < (m : Int) by omega)]
                    have S10 := S9.put (i8 + 1) false
                    refine ltail S10 (by omega) (by rw [upd_ne lpS]; exact elp9) hps (m : Int) _ fun H' t row S' er b' et => ?_
                    have b10 : But [s, lr] H9 H' := ((But.refl _ H9).at (by simp) _).trans b'
                    have tk := S9.tk b10
                    have hl4 : lexpr (n + 1) (all.drop i) rows = some (rows.length, m + 1, all.drop (i8 + 1), rows9.set rows.length (.tuple (.str (wordAt all (i + 1)) :: qs))) := by
                      rw [hl3]
                      unfold lclose
                      simp only
                      exact if_pos ⟨trivial, hm⟩
                    refine q H' t _ _ _ _ _ (bu9.trans b10) et ⟨S', by rw [List.length_set]; omega, ?_⟩
                    rw [hl4]
                    refine ⟨rfl, rfl, ?_, by rw [List.length_set]; exact hl8, by rw [hul], rfl⟩
                    have := Tps.set (.tup er (.cons (.str _) (tp9.mono tk))) us.length (t9.mono tk)
                    rw [hul] at this
                    rw [hul]
                    exact this
                  · rw [decide_eq_true (show (23 : Int) < (m : Int) by omega)]
                    refine bad9 _ (S9.put (i8 + 1) true) (bu9.at (by simp) _) (by rw [upd_ne lpS]; exact elp9) ?_
                    rw [hl3]
                    unfold lclose
                    simp only
                    exact if_neg (fun g => hm g.2)
                · rw [hw0] at hcl
                  exact absurd hcl (by decide +kernel)
              · rw [decide_eq_false hcl, if_pos (by decide)]
                rw [e11]
                simp only [st_put_bad]
                refine bad9 _ (S9.put (i8 + 1) true) (bu9.at (by simp) _) (by rw [upd_ne lpS]; exact elp9) ?_
                rw [hl3]
                unfold lclose
                rcases rest_at (all := all) (i := i8) with ⟨hlt, hdr⟩ | ⟨hge, hdr, hw0⟩
                · rw [← hws, hdr]
                  simp only
                  exact if_neg (fun g => hcl g.1)
                · rw [← hws, hdr]
end
end Fk
namespace Fk
open PySem L2
/-! the names ahead of an EXPR, one by one -/
def wordsFT (all : List Str) (i k : Nat) : List Str := (List.range k).map fun j => wordAt all (i + j)
theorem wordsFT_succ (all : List Str) (i k : Nat) : wordsFT all i (k + 1) = wordsFT all i k ++ [wordAt all (i + k)] := by
  unfold wordsFT
  rw [List.range_succ, List.map_append]
  rfl
local macro_rules | `(tactic| walk_at "ev") => `(tactic| try simp only [cx_K, L2.start, List.map_cons, List.map_nil, List.length_cons, List.length_nil, Nat.reduceAdd, Nat.reduceSub, Nat.reduceLT, List.replicate_succ, List.replicate_zero, List.cons_append, List.nil_append, Nat.zero_add, Nat.add_zero,
  tSeq, tAsg, tLst, tTup, tNil, tCons, tC, tOp, tUn, gName, tNext, tRet, tRetN, tIfS, tDrop, tCB, tCall, tMeth, tMake, tIf, tAnd, tOr, tNot, tAndV, tOrV, tNotV, qFor, qLc, tYes, wStr, wLst, wTup, wRng1, wRng2, wEnum, wZip, wZipA, wRev, qVar, asB_bl, qAdd_ii, qAdd_ss, qSub_ii, qMul_ii, qMod_ii, qDiv_ii, qPow_ii, qCmpI_ii, qEq_ii, qEq_ss, qEq_bb, qIsN_n, qIsN_i, qIsN_s, qIsN_b, qIsN_r, qInS_s, qInT_r, qIx_s, qIx_r, qT, qIAdd_ii, qIAdd_ss, qLen_s, qLen_r, qAbs_i, qMax2_ii, qMin2_ii, qInt_i, qInt_b, qInt_s, qStrC_i, qStrC_s, qList_r, qTuple_r, tupleAs_l, tupleAs_t, qDivmod_ii, qAll_r, qAny_r, qSl_s, tSl, tNoPart, tPart, qPar, qPar3,
  qApp, qExt, qPop, isLst, qFld, qSetF, qAugF, qAug, qgTup, qgCons, qgNil, qNeg, qDG, qDIn, qDPut, qDGet2, qUpd, keyOf, qJoin, qWords, qStrip, qSum, qMaxA, qSIdx, qLIdx, qRevS, qIsi, qIsi2, qIsiC, qChain, isBl, tyN, gSub, qSetL, yv, wipe,
  List.getElem?_cons_zero, List.getElem?_cons_succ, List.set_cons_zero, List.set_cons_succ, upd_same, lstOf, tupOf, seqOf, at0, at1, at2, at3, ix0, ix1, ix2, sz0, sz1, sz2, sz3, sz4, sz5, sz6, sz7, sz8, sz15, true_and, and_true, and_self, if_true, if_false, if_pos,
  beq_t, beq_f, decide_eq_true_eq, decide_eq_false_iff_not, Bool.not_eq_true', Bool.not_eq_true, Bool.not_eq_false, Bool.not_true, Bool.not_false, Bool.false_eq_true, reduceCtorEq, ite_not, if_true, if_false, reduceIte, V.int.injEq, V.str.injEq, V.bl.injEq, V.ref.injEq, List.append_nil, forall_eq', exists_eq_left, exists_eq_left'])
local macro_rules | `(tactic| walk_at "evm") => `(tactic| try simp only [cx_K, L2.start, List.map_cons, List.map_nil, List.length_cons, List.length_nil, Nat.reduceAdd, Nat.reduceSub, Nat.reduceLT, List.replicate_succ, List.replicate_zero, List.cons_append, List.nil_append, Nat.zero_add, Nat.add_zero,
  tSeq, tAsg, tLst, tTup, tNil, tCons, tC, tOp, tUn, gName, tNext, tRet, tRetN, tIfS, tDrop, tCB, tCall, tMeth, tMake, tIf, tAnd, tOr, tNot, tAndV, tOrV, tNotV, qFor, qLc, tYes, wStr, wLst, wTup, wRng1, wRng2, wEnum, wZip, wZipA, wRev, qVar, asB_bl, qAdd_ii, qAdd_ss, qSub_ii, qMul_ii, qMod_ii, qDiv_ii, qPow_ii, qCmpI_ii, qEq_ii, qEq_ss, qEq_bb, qIsN_n, qIsN_i, qIsN_s, qIsN_b, qIsN_r, qInS_s, qInT_r, qIx_s, qIx_r, qT, qIAdd_ii, qIAdd_ss, qLen_s, qLen_r, qAbs_i, qMax2_ii, qMin2_ii, qInt_i, qInt_b, qInt_s, qStrC_i, qStrC_s, qList_r, qTuple_r, tupleAs_l, tupleAs_t, qDivmod_ii, qAll_r, qAny_r, qSl_s, tSl, tNoPart, tPart, qPar, qPar3,
  qApp, qExt, qPop, isLst, qFld, qSetF, qAugF, qAug, qgTup, qgCons, qgNil, qNeg, qDG, qDIn, qDPut, qDGet2, qUpd, keyOf, qJoin, qWords, qStrip, qSum, qMaxA, qSIdx, qLIdx, qRevS, qIsi, qIsi2, qIsiC, qChain, isBl, tyN, gSub, qSetL, yv, wipe,
  List.getElem?_cons_zero, List.getElem?_cons_succ, List.set_cons_zero, List.set_cons_succ, upd_same, lstOf, tupOf, seqOf, at0, at1, at2, at3, ix0, ix1, ix2, sz0, sz1, sz2, sz3, sz4, sz5, sz6, sz7, sz8, sz15, true_and, and_true, and_self, if_true, if_false, if_pos,
  beq_t, beq_f, decide_eq_true_eq, decide_eq_false_iff_not, Bool.not_eq_true', Bool.not_eq_true, Bool.not_eq_false, Bool.not_true, Bool.not_false, Bool.false_eq_true, reduceCtorEq, ite_not, if_true, if_false, reduceIte, V.int.injEq, V.str.injEq, V.bl.injEq, V.ref.injEq, List.append_nil, forall_eq', exists_eq_left, exists_eq_left', *])
theorem names_loop {H : Hp} {s lw lr D : Addr} {all : List Str} {i cnt : Nat} {b : Bool} {us : List V} {x1 x2 x3 x4 x5 x6 x7 x8 x9 x10 x11 : Option V} {Q : Hp → Prop} (S : StAt H s lw lr all i b us) (hD : H D = none) (hc : cnt ≤ 2)
    (done : ∀ H' b', StAt H' s lw lr all (i + cnt) b' us → But [s] H H' → H' D = some (.lst ((wordsFT all i cnt).map V.str)) → b' = (b || !((wordsFT all i cnt).all isName)) → Q H') :
    LoopC ((upto 0 (cnt : Int)).map fun i => .one (.int i)) (fun _ => True) (gName 9) tYes (tCall sp_named' [] E0 (tCons (qVar 0) tNil)) [9] [some (.ref s), x1, x2, x3, x4, x5, x6, x7, x8, x9, x10, x11] D H Q := by
  have hs : D ≠ s := (ne_of_none S.s hD).symm
  refine ⟨Int, _, upto 0 (cnt : Int), fun r H' => ∃ k b', k + r.length = cnt ∧ StAt H' s lw lr all (i + k) b' us ∧ But [s] H H' ∧ H' D = some (.lst ((wordsFT all i k).map V.str)) ∧ b' = (b || !((wordsFT all i k).all isName)), rfl, ⟨0, b, ?_, S.new hD _, But.new hD _, upd_same, ?_⟩, fun _ _ _ => trivial, ?_, ?_⟩
  · rw [upto_len]
    omega
  · show b = (b || !true)
    simp
  · rintro y r H' ⟨k, b', hk, S1, bu, hd, hb⟩
    rw [List.length_cons] at hk
    walk_at "ev"
    refine ⟨s, lw, lr, all, i + k, b', us, rfl, S1, fun H2 S2 b2 => ?_⟩
    have hd2 : H2 D = some (.lst ((wordsFT all i k).map V.str)) := b2 _ _ (by simp [hs]) hd
    show match H2 D with
      | some (.lst acc) => _
      | _ => False
    rw [hd2]
    have nD : D ≠ lw := by rintro rfl; have := ne_of_none S.w hD; exact this rfl
    have nR : D ≠ lr := by rintro rfl; have := ne_of_none S.r hD; exact this rfl
    refine ⟨sz_lt (by rw [List.length_map]; unfold wordsFT; rw [List.length_map, List.length_range]; omega), k + 1, _, by omega, ⟨by rw [upd_ne hs.symm]; exact S2.s, by rw [upd_ne nD.symm]; exact S2.w, by rw [upd_ne nR.symm]; exact S2.r, S2.ne, S2.len, S2.few⟩, (bu.trans b2).nw hD _, ?_, ?_⟩
    · rw [wordsFT_succ, List.map_append]
      first | rfl | exact upd_same
    · rw [wordsFT_succ, List.all_append, hb]
      cases b <;> simp [Bool.not_and]
  · rintro H' ⟨k, b', hk, S1, bu, hd, hb⟩
    have hk' : k = cnt := by simpa using hk
    subst hk'
    exact done H' b' S1 bu hd hb
theorem named_at (all : List Str) (i : Nat) : named (all.drop i) = if isName (wordAt all i) = true then some (wordAt all i, all.drop (i + 1)) else none := by
  rcases rest_at (all := all) (i := i) with ⟨hlt, hdr⟩ | ⟨hge, hdr, hw0⟩
  · rw [hdr]
    unfold named taken
    by_cases hwe : wordAt all i = Str.ofString ""
    · have hn : isName (wordAt all i) = false := by rw [hwe]; decide +kernel
      simp only [if_pos hwe, hn, Bool.false_eq_true, if_false]
    · simp only [if_neg hwe]
  · have hn : isName (wordAt all i) = false := by rw [hw0]; decide +kernel
    rw [hdr, hn]
    rfl
theorem wordsFT_cons (all : List Str) (i k : Nat) : wordsFT all i (k + 1) = wordAt all i :: wordsFT all (i + 1) k := by
  unfold wordsFT
  rw [List.range_succ_eq_map, List.map_cons, List.map_map]
  refine congrArg (List.cons _) (List.map_congr_left fun j _ => ?_)
  show wordAt all (i + (j + 1)) = wordAt all (i + 1 + j)
  exact congrArg _ (by omega)
theorem lpieces_names {ex : LE} {all : List Str} {rows : Rows} : ∀ (cnt i : Nat), lpieces ex (List.replicate cnt 120 ++ [101]) (all.drop i) rows = if (wordsFT all i cnt).all isName = true then (match ex (all.drop (i + cnt)) rows with
      | none => none
      | some (p, m, ws, rows') => some ((wordsFT all i cnt).map PyData.str ++ [.int (p : Int)], m, ws, rows')) else none
  | 0, i => by
    rw [show (wordsFT all i 0).all isName = true from rfl, if_pos rfl]
    show lpieces ex [101] (all.drop i) rows = _
    simp only [lpieces, show ¬ (101 : Nat) = 120 by decide, if_false]
    rw [Nat.add_zero]
    cases ex (all.drop i) rows with
    | none => rfl
    | some u =>
      obtain ⟨p, m, ws, rows'⟩ := u
      show some ([PyData.int (p : Int)], max m 0, ws, rows') = some ([] ++ [PyData.int (p : Int)], m, ws, rows')
      rw [Nat.max_zero]
      rfl
  | cnt + 1, i => by
    rw [List.replicate_succ, List.cons_append]
    simp only [lpieces, if_true]
    rw [named_at, wordsFT_cons, List.all_cons]
    by_cases hn : isName (wordAt all i) = true
    · rw [if_pos hn, hn, Bool.true_and]
      simp only
      rw [lpieces_names cnt (i + 1), show i + 1 + cnt = i + (cnt + 1) by omega]
      by_cases ha : (wordsFT all (i + 1) cnt).all isName = true
      · rw [if_pos ha, if_pos ha]
        cases ex (all.drop (i + (cnt + 1))) rows with
        | none => rfl
        | some u =>
          obtain ⟨p, m, ws, rows'⟩ := u
          rfl
      · rw [if_neg ha, if_neg ha]
    · rw [if_neg hn, Bool.eq_false_iff.mpr hn, Bool.false_and, if_neg (by decide)]
def cntM (h : Str) : Nat := if h = "row" then 0 else if h = "rec" then 1 else 2
theorem lpatM_eq {h : Str} (hm : isMany h = true) : lpatM h = List.replicate (cntM h) 120 ++ [101] := by
  unfold isMany at hm
  rcases of_decide_eq_true hm with rfl | rfl | rfl <;> decide +kernel
theorem cntM_val {h : Str} (hm : isMany h = true) : valV [(Sum.inr (Str.ofString "row"), V.int 0), (Sum.inr (Str.ofString "rec"), V.int 1), (Sum.inr (Str.ofString "case"), V.int 2)] (.inr h : Key) = some (.int (cntM h : Int)) := by
  unfold isMany at hm
  rcases of_decide_eq_true hm with rfl | rfl | rfl <;> decide +kernel
theorem coming_at (all : List Str) (i : Nat) : coming (all.drop i) = (decide (i < all.length) && !decide (wordAt all i = ")")) := by
  rcases rest_at (all := all) (i := i) with ⟨hlt, hdr⟩ | ⟨hge, hdr, hw0⟩
  · rw [hdr, decide_eq_true hlt]
    rfl
  · rw [hdr, decide_eq_false (by omega)]
    rfl
end Fk
namespace Fk
open PySem L2
def formsKV : List (Key × V) := [(.inr (Str.ofString "fn"), .str (Str.ofString "xe")), (.inr (Str.ofString "call"), .str (Str.ofString "ee")), (.inr (Str.ofString "let"), .str (Str.ofString "xee")), (.inr (Str.ofString "get"), .str (Str.ofString "ex")), (.inr (Str.ofString "tag"), .str (Str.ofString "xe")), (.inr (Str.ofString "at"), .str (Str.ofString "eee")), (.inr (Str.ofString "join"), .str (Str.ofString "ee")), (.inr (Str.ofString "size"), .str (Str.ofString "e")),
  (.inr (Str.ofString "add"), .str (Str.ofString "ee")), (.inr (Str.ofString "sub"), .str (Str.ofString "ee")), (.inr (Str.ofString "less"), .str (Str.ofString "ee")), (.inr (Str.ofString "rec"), .str (Str.ofString "")), (.inr (Str.ofString "row"), .str (Str.ofString "")), (.inr (Str.ofString "case"), .str (Str.ofString "e"))]
def fA : List (Key × V) := [(Sum.inr (Str.ofString "fn"), V.str (Str.ofString "xe")), (Sum.inr (Str.ofString "call"), V.str (Str.ofString "ee")), (Sum.inr (Str.ofString "let"), V.str (Str.ofString "xee")), (Sum.inr (Str.ofString "get"), V.str (Str.ofString "ex")), (Sum.inr (Str.ofString "tag"), V.str (Str.ofString "xe")), (Sum.inr (Str.ofString "at"), V.str (Str.ofString "eee")), (Sum.inr (Str.ofString "join"), V.str (Str.ofString "ee")), (Sum.inr (Str.ofString "size"), V.str (Str.ofString "e"))]
def fB : List (Key × V) := [(Sum.inr (Str.ofString "add"), V.str (Str.ofString "ee")), (Sum.inr (Str.ofString "sub"), V.str (Str.ofString "ee")), (Sum.inr (Str.ofString "less"), V.str (Str.ofString "ee")), (Sum.inr (Str.ofString "rec"), V.str (Str.ofString "")), (Sum.inr (Str.ofString "row"), V.str (Str.ofString "")), (Sum.inr (Str.ofString "case"), V.str (Str.ofString "e"))]
theorem mrg_A : mergeK [] [(Sum.inr (Str.ofString "fn"), V.str (Str.ofString "xe")), (Sum.inr (Str.ofString "call"), V.str (Str.ofString "ee")), (Sum.inr (Str.ofString "let"), V.str (Str.ofString "xee")), (Sum.inr (Str.ofString "get"), V.str (Str.ofString "ex")), (Sum.inr (Str.ofString "tag"), V.str (Str.ofString "xe")), (Sum.inr (Str.ofString "at"), V.str (Str.ofString "eee")), (Sum.inr (Str.ofString "join"), V.str (Str.ofString "ee")), (Sum.inr (Str.ofString "size"), V.str (Str.ofString "e"))] = fA := by rfl
theorem mrg_B : mergeK [] [(Sum.inr (Str.ofString "add"), V.str (Str.ofString "ee")), (Sum.inr (Str.ofString "sub"), V.str (Str.ofString "ee")), (Sum.inr (Str.ofString "less"), V.str (Str.ofString "ee")), (Sum.inr (Str.ofString "rec"), V.str (Str.ofString "")), (Sum.inr (Str.ofString "row"), V.str (Str.ofString "")), (Sum.inr (Str.ofString "case"), V.str (Str.ofString "e"))] = fB := by rfl
theorem mrg_AB : mergeK fA fB = formsKV := by rfl
theorem fA_len : fA.length = 8 := rfl
theorem fB_len : fB.length = 6 := rfl
theorem dk_dK {kvs : List (Key × V)} : dkOf (some (.dK kvs)) = some kvs := rfl
theorem upd2 {H : Hp} {p : Addr} {o o' : HO} : upd (upd H p o) p o' = upd H p o' := upd_upd
local macro_rules | `(tactic| walk_at "ev") => `(tactic| try simp only [cx_K, L2.start, List.map_cons, List.map_nil, List.length_cons, List.length_nil, Nat.reduceAdd, Nat.reduceSub, Nat.reduceLT, List.replicate_succ, List.replicate_zero, List.cons_append, List.nil_append, Nat.zero_add, Nat.add_zero,
  tSeq, tAsg, tLst, tTup, tNil, tCons, tC, tOp, tUn, gName, tNext, tRet, tRetN, tIfS, tDrop, tCB, tCall, tMeth, tMake, tIf, tAnd, tOr, tNot, tAndV, tOrV, tNotV, qFor, qLc, tYes, wStr, wLst, wTup, wRng1, wRng2, wEnum, wZip, wZipA, wRev, qVar, asB_bl, qAdd_ii, qAdd_ss, qSub_ii, qMul_ii, qMod_ii, qDiv_ii, qPow_ii, qCmpI_ii, qEq_ii, qEq_ss, qEq_bb, qIsN_n, qIsN_i, qIsN_s, qIsN_b, qIsN_r, qInS_s, qInT_r, qIx_s, qIx_r, qT, qIAdd_ii, qIAdd_ss, qLen_s, qLen_r, qAbs_i, qMax2_ii, qMin2_ii, qInt_i, qInt_b, qInt_s, qStrC_i, qStrC_s, qList_r, qTuple_r, tupleAs_l, tupleAs_t, qDivmod_ii, qAll_r, qAny_r, qSl_s, tSl, tNoPart, tPart, qPar, qPar3,
  qApp, qExt, qPop, isLst, qFld, qSetF, qAugF, qAug, qgTup, qgCons, qgNil, qNeg, qDG, qDIn, qDPut, qDGet2, qUpd, keyOf, qJoin, qWords, qStrip, qSum, qMaxA, qSIdx, qLIdx, qRevS, qIsi, qIsi2, qIsiC, qChain, isBl, tyN, gSub, qSetL, yv, wipe,
  List.getElem?_cons_zero, List.getElem?_cons_succ, List.set_cons_zero, List.set_cons_succ, upd_same, lstOf, tupOf, seqOf, at0, at1, at2, at3, ix0, ix1, ix2, sz0, sz1, sz2, sz3, sz4, sz5, sz6, sz7, sz8, sz15, true_and, and_true, and_self, if_true, if_false, if_pos,
  beq_t, beq_f, decide_eq_true_eq, decide_eq_false_iff_not, Bool.not_eq_true', Bool.not_eq_true, Bool.not_eq_false, Bool.not_true, Bool.not_false, Bool.false_eq_true, reduceCtorEq, ite_not, if_true, if_false, reduceIte, V.int.injEq, V.str.injEq, V.bl.injEq, V.ref.injEq, List.append_nil, forall_eq', exists_eq_left, exists_eq_left'])
local macro_rules | `(tactic| walk_at "evs") => `(tactic| try simp only [cx_K, L2.start, List.map_cons, List.map_nil, List.length_cons, List.length_nil, Nat.reduceAdd, Nat.reduceSub, Nat.reduceLT, List.replicate_succ, List.replicate_zero, List.cons_append, List.nil_append, Nat.zero_add, Nat.add_zero,
  tSeq, tAsg, tLst, tTup, tNil, tCons, tC, tOp, tUn, gName, tNext, tRet, tRetN, tIfS, tDrop, tCB, tCall, tMeth, tMake, tIf, tAnd, tOr, tNot, tAndV, tOrV, tNotV, qFor, qLc, tYes, wStr, wLst, wTup, wRng1, wRng2, wEnum, wZip, wZipA, wRev, qVar, asB_bl, qAdd_ii, qAdd_ss, qSub_ii, qMul_ii, qMod_ii, qDiv_ii, qPow_ii, qCmpI_ii, qEq_ii, qEq_ss, qEq_bb, qIsN_n, qIsN_i, qIsN_s, qIsN_b, qIsN_r, qInS_s, qInT_r, qIx_s, qIx_r, qT, qIAdd_ii, qIAdd_ss, qLen_s, qLen_r, qAbs_i, qMax2_ii, qMin2_ii, qInt_i, qInt_b, qInt_s, qStrC_i, qStrC_s, qList_r, qTuple_r, tupleAs_l, tupleAs_t, qDivmod_ii, qAll_r, qAny_r, qSl_s, tSl, tNoPart, tPart, qPar, qPar3,
  qApp, qExt, qPop, isLst, qFld, qSetF, qAugF, qAug, qgTup, qgCons, qgNil, qNeg, qDG, qDIn, qDPut, qDGet2, qUpd, keyOf, qJoin, qWords, qStrip, qSum, qMaxA, qSIdx, qLIdx, qRevS, qIsi, qIsi2, qIsiC, qChain, isBl, tyN, gSub, qSetL, yv, wipe,
  List.getElem?_cons_zero, List.getElem?_cons_succ, List.set_cons_zero, List.set_cons_succ, upd_same, lstOf, tupOf, seqOf, at0, at1, at2, at3, ix0, ix1, ix2, sz0, sz1, sz2, sz3, sz4, sz5, sz6, sz7, sz8, sz15, true_and, and_true, and_self, if_true, if_false, if_pos,
  beq_t, beq_f, decide_eq_true_eq, decide_eq_false_iff_not, Bool.not_eq_true', Bool.not_eq_true, Bool.not_eq_false, Bool.not_true, Bool.not_false, Bool.false_eq_true, reduceCtorEq, ite_not, if_true, if_false, reduceIte, V.int.injEq, V.str.injEq, V.bl.injEq, V.ref.injEq, List.append_nil, forall_eq', exists_eq_left, exists_eq_left', st_words, st_at, st_rows, st_bad, st_put_at, st_put_bad, qDisp, tPairs, kvsOf, mrg_A, mrg_B, dk_dK, upd2, *])
local macro_rules | `(tactic| walk_at "evo") => `(tactic| try simp only [cx_K, L2.start, List.map_cons, List.map_nil, List.length_cons, List.length_nil, Nat.reduceAdd, Nat.reduceSub, Nat.reduceLT, List.replicate_succ, List.replicate_zero, List.cons_append, List.nil_append, Nat.zero_add, Nat.add_zero,
  tSeq, tAsg, tLst, tTup, tNil, tCons, tC, tOp, tUn, gName, tNext, tRet, tRetN, tIfS, tDrop, tCB, tCall, tMeth, tMake, tIf, tAnd, tOr, tNot, tAndV, tNotV, qFor, qLc, tYes, wStr, wLst, wTup, wRng1, wRng2, wEnum, wZip, wZipA, wRev, qVar, asB_bl, qAdd_ii, qAdd_ss, qSub_ii, qMul_ii, qMod_ii, qDiv_ii, qPow_ii, qCmpI_ii, qEq_ii, qEq_ss, qEq_bb, qIsN_n, qIsN_i, qIsN_s, qIsN_b, qIsN_r, qInS_s, qInT_r, qIx_s, qIx_r, qT, qIAdd_ii, qIAdd_ss, qLen_s, qLen_r, qAbs_i, qMax2_ii, qMin2_ii, qInt_i, qInt_b, qInt_s, qStrC_i, qStrC_s, qList_r, qTuple_r, tupleAs_l, tupleAs_t, qDivmod_ii, qAll_r, qAny_r, qSl_s, tSl, tNoPart, tPart, qPar, qPar3,
  qApp, qExt, qPop, isLst, qFld, qSetF, qAugF, qAug, qgTup, qgCons, qgNil, qNeg, qDG, qDIn, qDPut, qDGet2, qUpd, keyOf, qJoin, qWords, qStrip, qSum, qMaxA, qSIdx, qLIdx, qRevS, qIsi, qIsi2, qIsiC, qChain, isBl, tyN, gSub, qSetL, yv, wipe,
  List.getElem?_cons_zero, List.getElem?_cons_succ, List.set_cons_zero, List.set_cons_succ, upd_same, lstOf, tupOf, seqOf, at0, at1, at2, at3, ix0, ix1, ix2, sz0, sz1, sz2, sz3, sz4, sz5, sz6, sz7, sz8, sz15, true_and, and_true, and_self, if_true, if_false, if_pos,
  beq_t, beq_f, decide_eq_true_eq, decide_eq_false_iff_not, Bool.not_eq_true', Bool.not_eq_true, Bool.not_eq_false, Bool.not_true, Bool.not_false, Bool.false_eq_true, reduceCtorEq, ite_not, if_true, if_false, reduceIte, V.int.injEq, V.str.injEq, V.bl.injEq, V.ref.injEq, List.append_nil, forall_eq', exists_eq_left, exists_eq_left', st_words, st_at, st_rows, st_bad, st_put_at, st_put_bad, qDisp, tPairs, kvsOf, mrg_A, mrg_B, dk_dK, upd2, *])
def fwords : List Str := ["fn", "call", "let", "get", "tag", "at", "join", "size", "add", "sub", "less", "rec", "row", "case"]
theorem forms_val (h : Str) : valV formsKV (.inr h) = (lpat h).map fun pat => V.str ⟨pat.toArray⟩ := by
  by_cases hm : h ∈ fwords
  · simp only [fwords, List.mem_cons, List.not_mem_nil, or_false] at hm
    rcases hm with rfl | rfl | rfl | rfl | rfl | rfl | rfl | rfl | rfl | rfl | rfl | rfl | rfl | rfl <;> decide +kernel
  · have e1 : lpat h = none := by
      simp only [fwords, List.mem_cons, List.not_mem_nil, or_false, not_or] at hm
      unfold lpat patternOf
      simp [hm]
    have e2 : valV formsKV (.inr h) = none := by
      unfold valV
      rw [List.find?_eq_none.mpr]
      · rfl
      · intro x hx
        simp only [decide_eq_true_eq]
        intro hxe
        apply hm
        have : ∀ x ∈ formsKV, ∃ y ∈ fwords, x.1 = .inr y := by decide +kernel
        obtain ⟨y, hy, e⟩ := this x hx
        rw [e] at hxe
        cases hxe
        exact hy
    rw [e1, e2]
    rfl
section
variable {P : Program} {w : World} {K : PySem.W.Frag} {mg : Str → Option Value} {base : Heap} {f : Addr} {fd : FuncData}
theorem orV_bl {tA tB : TE} {σ : St} {H : Hp} {Q : VK} {b c : Bool} (hA : ∀ Q : VK, Q (.bl b) H → tA σ H Q) (hB : ∀ Q : VK, Q (.bl c) H → tB σ H Q) (q : Q (.bl (b || c)) H) : tOrV tA tB σ H Q := by
  refine hA _ ⟨b, rfl, ?_⟩
  cases b with
  | true => exact q
  | false => exact hB _ q
def cont1 (psD : List PyData) (m : Nat) (o : Option (List PyData × Nat × List Str × Rows)) : Option (List PyData × Nat × List Str × Rows) := match o with
  | none => none
  | some (qs, m2, ws, rows) => some (psD ++ qs, max m m2, ws, rows)
/-- bad: since the entry, or the parts are none -/
def LBad (n : Nat) (b : Bool) (us us1 : List V) (none? : Prop) (k : Nat) : Prop := (b = true ∧ us1.length ≤ us.length + k) ∨ (b = false ∧ none? ∧ us1.length ≤ 165 + 4 * n + k)
/-- the loop over a form's signs -/
def ivF (n : Nat) (H : Hp) (s lw lr pf pp pn pq : Addr) (h : Str) (all : List Str) (i : Nat) (b : Bool) (us : List V) (rows : Rows) (pat : List Nat) (r : List Nat) (σ : St) (H' : Hp) : Prop :=
  ∃ (dn : List Nat) (i1 : Nat) (b1 : Bool) (us1 ps : List V) (ns : List Int) (x6 x7 : Option V), pat = dn ++ r ∧ σ = [some (.ref s), some (.str h), some (.ref pf), some (.ref pp), some (.ref pn), some (.ref pq), x6, x7, none, none, none, none] ∧
    StAt H' s lw lr all i1 b1 us1 ∧ H' pp = some (.lst ps) ∧ H' pn = some (.lst (ns.map V.int)) ∧ H' pq = some (.lst []) ∧ But [s, lr] H H' ∧ ps.length = dn.length ∧ ns.length = dn.length + 1 ∧ us.length ≤ us1.length ∧ (b1 = false → (lpat h).isSome = true) ∧
    (match b1 with
      | true => LBad n b us us1 (lparts (lexpr n) n h (all.drop i) rows = none) dn.length
      | false => b = false ∧ ∃ psD rows1 m, Tps H' us1 rows1 ∧ us1.length ≤ 160 ∧ 161 ≤ rows1.length + n ∧ Tps H' ps psD ∧ mxI ns = ((m : Nat) : Int) ∧ lpieces (lexpr n) pat (all.drop i) rows = cont1 psD m (lpieces (lexpr n) r (all.drop i1) rows1))
theorem cont1_cont {a c : List PyData} {m k : Nat} {o : Option (List PyData × Nat × List Str × Rows)} : cont1 a m (cont1 c k o) = cont1 (a ++ c) (max m k) o := by
  cases o with
  | none => rfl
  | some u =>
    obtain ⟨qs, m2, ws, rows⟩ := u
    show some (a ++ (c ++ qs), max m (max k m2), ws, rows) = some (a ++ c ++ qs, max (max m k) m2, ws, rows)
    rw [List.append_assoc, Nat.max_assoc]
theorem mxI_app : ∀ {ns : List Int} {m k : Nat}, mxI ns = ((m : Nat) : Int) → 0 < ns.length → mxI (ns ++ [(k : Int)]) = ((max m k : Nat) : Int)
  | [a], m, k, h, _ => by
    have h' : a = (m : Int) := h
    subst h'
    show (if (m : Int) < (k : Int) then (k : Int) else (m : Int)) = _
    split <;> omega
  | a :: b :: r, m, k, h, _ => by
    have e1 : mxI (a :: b :: r) = if a < mxI (b :: r) then mxI (b :: r) else a := rfl
    have hb : mxI (b :: r) = mxI (b :: r) := rfl
    have e2 : mxI (a :: b :: r ++ [(k : Int)]) = if a < mxI (b :: r ++ [(k : Int)]) then mxI (b :: r ++ [(k : Int)]) else a := rfl
    by_cases hp : 0 ≤ mxI (b :: r)
    · obtain ⟨q, hq⟩ := Int.eq_ofNat_of_zero_le hp
      have ih := mxI_app (k := k) hq (by simp)
      rw [e2, ih]
      rw [e1, hq] at h
      split at h <;> split <;> omega
    · -- the rest's greatest is below 0: then a is m
      have ih : mxI (b :: r ++ [(k : Int)]) = (k : Int) := mxI_neg (by omega) (by simp)
      rw [e2, ih]
      rw [e1, if_neg (by
        intro hlt
        first
          | (rw [if_pos hlt] at h; omega)
          | (rw [e1, if_pos hlt] at h; omega))] at h
      split <;> omega
where
  mxI_neg {k : Nat} : ∀ {ns : List Int}, mxI ns < 0 → 0 < ns.length → mxI (ns ++ [(k : Int)]) = (k : Int)
    | [a], h, _ => by
      have h' : a < 0 := h
      show (if a < (k : Int) then (k : Int) else a) = _
      rw [if_pos (by omega)]
    | a :: b :: r, h, _ => by
      have e1 : mxI (a :: b :: r) = if a < mxI (b :: r) then mxI (b :: r) else a := rfl
      have e2 : mxI (a :: b :: r ++ [(k : Int)]) = if a < mxI (b :: r ++ [(k : Int)]) then mxI (b :: r ++ [(k : Int)]) else a := rfl
      rw [e1] at h
      have hb : mxI (b :: r) < 0 := by split at h <;> omega
      rw [e2, mxI_neg hb (by simp)]
      have ha : a < 0 := by split at h <;> omega
      rw [if_pos (by omega)]
/-- three new lists -/
structure Ap3 (H : Hp) (pp pn pq : Addr) : Prop where
  hp : H pp = none
  hn : H pn = none
  hq : H pq = none
  d1 : pp ≠ pn
  d2 : pp ≠ pq
  d3 : pn ≠ pq
theorem ivF_step {n : Nat} {H H5 : Hp} {s lw lr pf pp pn pq : Addr} {h : Str} {all : List Str} {i i2 : Nat} {b b2 : Bool} {us us2 ps : List V} {ns : List Int} {rows : Rows} {pat dn r : List Nat} {c : Nat} {v x6 x7 : V} {k : Int} (A : Ap3 H pp pn pq) (S0 : StAt H s lw lr all i b us) (hp : pat = dn ++ c :: r)
    (S5 : StAt H5 s lw lr all i2 b2 us2) (e1 : H5 pp = some (.lst ps)) (e2 : H5 pn = some (.lst (ns.map V.int))) (e3 : H5 pq = some (.lst [])) (b5 : But [s, lr] H H5) (g5 : ps.length = dn.length) (g6 : ns.length = dn.length + 1) (g7 : us.length ≤ us2.length) (hsm : b2 = false → (lpat h).isSome = true)
    (hc : match (generalizing := false) b2 with
      | true => LBad n b us us2 (lparts (lexpr n) n h (all.drop i) rows = none) (dn.length + 1)
      | false => b = false ∧ ∃ psD d rows2 m m2, Tps H5 us2 rows2 ∧ us2.length ≤ 160 ∧ 161 ≤ rows2.length + n ∧ Tps H5 ps psD ∧ Tp H5 v d ∧ mxI ns = ((m : Nat) : Int) ∧ k = ((m2 : Nat) : Int) ∧ lpieces (lexpr n) pat (all.drop i) rows = cont1 psD m (cont1 [d] m2 (lpieces (lexpr n) r (all.drop i2) rows2))) :
    ivF n H s lw lr pf pp pn pq h all i b us rows pat r [some (.ref s), some (.str h), some (.ref pf), some (.ref pp), some (.ref pn), some (.ref pq), some x6, some x7, none, none, none, none] (upd (upd H5 pp (.lst (ps ++ [v]))) pn (.lst (ns.map V.int ++ [.int k]))) := by
  have s1 := ne_of_none S0.s A.hp
  have s2 := ne_of_none S0.s A.hn
  have w1 := ne_of_none S0.w A.hp
  have w2 := ne_of_none S0.w A.hn
  have r1 := ne_of_none S0.r A.hp
  have r2 := ne_of_none S0.r A.hn
  have S6 : StAt (upd (upd H5 pp (.lst (ps ++ [v]))) pn (.lst (ns.map V.int ++ [.int k]))) s lw lr all i2 b2 us2 :=
    ⟨by rw [upd_ne s2, upd_ne s1]; exact S5.s, by rw [upd_ne w2, upd_ne w1]; exact S5.w, by rw [upd_ne r2, upd_ne r1]; exact S5.r, S5.ne, S5.len, S5.few⟩
  have tk : TK H5 (upd (upd H5 pp (.lst (ps ++ [v]))) pn (.lst (ns.map V.int ++ [.int k]))) := (tk_lst e1 _).trans (tk_lst (by rw [upd_ne A.d1.symm]; exact e2) _)
  refine ⟨dn ++ [c], i2, b2, us2, ps ++ [v], ns ++ [k], some x6, some x7, by rw [hp]; simp, rfl, S6, by rw [upd_ne A.d1]; exact upd_same, by rw [upd_same, List.map_append]; rfl, by rw [upd_ne A.d3.symm, upd_ne A.d2.symm]; exact e3, (b5.nw A.hp _).nw A.hn _, by rw [List.length_append, List.length_append, g5]; rfl, by rw [List.length_append, List.length_append, g6]; rfl, g7, hsm, ?_⟩
  rw [List.length_append]
  cases b2 with
  | true => exact hc
  | false =>
    obtain ⟨hb, psD, d, rows2, m, m2, t1, t2, t3, t4, t5, t6, t7, t8⟩ := hc
    subst t7
    refine ⟨hb, psD ++ [d], rows2, max m m2, t1.mono tk, t2, t3, (t4.mono tk).append (.cons (t5.mono tk) .nil), mxI_app t6 (by omega), ?_⟩
    rw [t8, cont1_cont]
theorem lpat_codes (h : Str) : ∀ c ∈ (lpat h).getD [], c = 120 ∨ c = 101 := by
  intro c hc
  unfold lpat patternOf at hc
  repeat' split at hc
  all_goals simp at hc
  all_goals omega
theorem lpat_len (h : Str) : ((lpat h).getD []).length ≤ 3 := by
  unfold lpat patternOf
  repeat' split
  all_goals decide
def rowed (h : Str) (qs : List PyData) : List PyData := if h = "row" then qs.map firstOf else qs
/-- a row's data for an == of lists -/
def lowD (k : Nat) (ds : List PyData) : Prop := ∀ d ∈ ds, d.canLay0 = true ∧ d.depth ≤ k
theorem lowD_all {k : Nat} : ∀ {ds : List PyData}, lowD k ds → PyData.canLayAll0 ds = true ∧ PyData.depthAll ds ≤ k
  | [], _ => ⟨rfl, Nat.zero_le _⟩
  | d :: ds, h => by
    have h1 := h d (by simp)
    have h2 := lowD_all (ds := ds) fun e he => h e (List.mem_cons_of_mem _ he)
    refine ⟨by simp [PyData.canLayAll0, h1.1, h2.1], ?_⟩
    simp only [PyData.depthAll]
    omega
theorem isName_ok {x : Str} (h : isName x = true) : PyData.strOk x = true := by
  unfold isName at h
  simp only [Bool.and_eq_true] at h
  have h2 := h.2
  show x.cps.all _ = true
  rw [← Array.all_toList]
  refine List.all_eq_true.mpr fun c hc => ?_
  have h3 := List.all_eq_true.mp h2 c hc
  have hl : ∀ c ∈ lettersS.cps.toList, c < 1000 := by decide +kernel
  have hf : ∀ c ∈ figuresS.cps.toList, c < 1000 := by decide +kernel
  simp only [Bool.or_eq_true, decide_eq_true_eq] at h3
  have : c < 1000 := h3.elim (hl c) (hf c)
  simp only [decide_eq_true_eq]
  omega
structure TpsL (H : Hp) (vs : List V) (ds : List PyData) : Prop where
  t : Tps H vs ds
  low : lowD 1 ds
theorem TpsL.mono {H H' : Hp} {vs : List V} {ds : List PyData} (h : TpsL H vs ds) (tk : TK H H') : TpsL H' vs ds := ⟨h.t.mono tk, h.low⟩
/-- the loop over further parts -/
def ivW (n : Nat) (H : Hp) (s lw lr pf pp pn pq : Addr) (h : Str) (all : List Str) (i : Nat) (b : Bool) (us : List V) (rows : Rows) (k : Nat) (σ : St) (H' : Hp) : Prop :=
  ∃ (i1 : Nat) (b1 : Bool) (us1 ps qs : List V) (ns : List Int) (x6 x7 x8 x9 x10 x11 : Option V), σ = [some (.ref s), some (.str h), some (.ref pf), some (.ref pp), some (.ref pn), some (.ref pq), x6, x7, x8, x9, x10, x11] ∧
    StAt H' s lw lr all i1 b1 us1 ∧ H' pp = some (.lst ps) ∧ H' pn = some (.lst (ns.map V.int)) ∧ H' pq = some (.lst qs) ∧ But [s, lr] H H' ∧ ps.length ≤ 3 ∧ 0 < ns.length ∧ ns.length + k ≤ 1000 ∧ qs.length + k ≤ 1000 ∧ us.length ≤ us1.length ∧
    (match b1 with
      | true => LBad n b us us1 (lparts (lexpr n) n h (all.drop i) rows = none) 3
      | false => b = false ∧ ∃ pat psD m0 wsA rowsA qsD rows1 m, lpat h = some pat ∧ lpieces (lexpr n) pat (all.drop i) rows = some (psD, m0, wsA, rowsA) ∧ Tps H' ps psD ∧ Tps H' us1 rows1 ∧ us1.length ≤ 160 ∧ 161 ≤ rows1.length + n ∧ 161 ≤ rows1.length + k ∧
          TpsL H' qs (rowed h qsD) ∧ qsD.length = qs.length ∧ mxI ns = ((max m0 m : Nat) : Int) ∧ (isMany h = true → lmany (lexpr n) (lpatM h) n wsA rowsA = cont1 qsD m (lmany (lexpr n) (lpatM h) k (all.drop i1) rows1)) ∧ (isMany h = false → qsD = [] ∧ m = 0 ∧ all.drop i1 = wsA ∧ rows1 = rowsA))
/-- behind that loop -/
def ivM (n : Nat) (H : Hp) (s lw lr pf pp pn pq : Addr) (h : Str) (all : List Str) (i : Nat) (b : Bool) (us : List V) (rows : Rows) (σ : St) (H' : Hp) : Prop :=
  ∃ (i1 : Nat) (b1 : Bool) (us1 ps qs : List V) (ns : List Int) (x6 x7 x8 x9 x10 x11 : Option V), σ = [some (.ref s), some (.str h), some (.ref pf), some (.ref pp), some (.ref pn), some (.ref pq), x6, x7, x8, x9, x10, x11] ∧
    StAt H' s lw lr all i1 b1 us1 ∧ H' pp = some (.lst ps) ∧ H' pn = some (.lst (ns.map V.int)) ∧ H' pq = some (.lst qs) ∧ But [s, lr] H H' ∧ ps.length ≤ 3 ∧ 0 < ns.length ∧ ns.length ≤ 1000 ∧ qs.length ≤ 1000 ∧ us.length ≤ us1.length ∧
    (match b1 with
      | true => LBad n b us us1 (lparts (lexpr n) n h (all.drop i) rows = none) 3
      | false => b = false ∧ ∃ pat psD m0 wsA rowsA qsD rows1 m, lpat h = some pat ∧ lpieces (lexpr n) pat (all.drop i) rows = some (psD, m0, wsA, rowsA) ∧ Tps H' ps psD ∧ Tps H' us1 rows1 ∧ us1.length ≤ 160 ∧
          TpsL H' qs (rowed h qsD) ∧ qsD.length = qs.length ∧ mxI ns = ((max m0 m : Nat) : Int) ∧ (isMany h = true → lmany (lexpr n) (lpatM h) n wsA rowsA = some (qsD, m, all.drop i1, rows1)) ∧ (isMany h = false → qsD = [] ∧ m = 0 ∧ all.drop i1 = wsA ∧ rows1 = rowsA))
theorem many_in (h : Str) : inV (.str h) [V.str (Str.ofString "rec"), V.str (Str.ofString "row"), V.str (Str.ofString "case")] = isMany h := by
  rw [show [V.str (Str.ofString "rec"), V.str (Str.ofString "row"), V.str (Str.ofString "case")] = [Str.ofString "rec", Str.ofString "row", Str.ofString "case"].map V.str from rfl, in_strs]
  unfold isMany
  simp
theorem ivW_out {n : Nat} {H : Hp} {s lw lr pf pp pn pq : Addr} {h : Str} {all : List Str} {i : Nat} {b : Bool} {us : List V} {rows : Rows} {k : Nat} {σ : St} {H' H5 : Hp} (w : ivW n H s lw lr pf pp pn pq h all i b us rows k σ H') (e : Same H' H5) (hb : But [s, lr] H H5)
    (hx : ∀ (i1 : Nat) (us1 : List V), isMany h = true → StAt H5 s lw lr all i1 false us1 → coming (all.drop i1) = false) : ivM n H s lw lr pf pp pn pq h all i b us rows σ H5 := by
  obtain ⟨i1, b1, us1, ps, qs, ns, x6, x7, x8, x9, x10, x11, e0, S4, g1, g2, g3, g4, g5, g6, g6', g6'', g7, g8⟩ := w
  refine ⟨i1, b1, us1, ps, qs, ns, x6, x7, x8, x9, x10, x11, e0, S4.same e, e _ _ g1, e _ _ g2, e _ _ g3, hb, g5, g6, by omega, by omega, g7, ?_⟩
  cases b1 with
  | true => exact g8
  | false =>
    obtain ⟨hb0, pat, psD, m0, wsA, rowsA, qsD, rows1, m, t1, t2, t3, t4, t5, t6, t6', t7, t8, t9, t10, t11⟩ := g8
    refine ⟨hb0, pat, psD, m0, wsA, rowsA, qsD, rows1, m, t1, t2, t3.mono (same_tk e), t4.mono (same_tk e), t5, t7.mono (same_tk e), t8, t9, fun hm => ?_, t11⟩
    have hc := hx i1 us1 hm (S4.same e)
    rw [t10 hm]
    have e1 : lmany (lexpr n) (lpatM h) k (all.drop i1) rows1 = some ([], 0, all.drop i1, rows1) := by
      cases k with
      | zero => rw [lmany, if_neg (by rw [hc]; decide)]
      | succ k => rw [lmany, if_neg (by rw [hc]; decide)]
    rw [e1]
    show some (qsD ++ [], max m 0, _, _) = _
    rw [List.append_nil, Nat.max_zero]
theorem orV_s {tA tB : TE} {σ : St} {H : Hp} {Q : VK} {b c : Bool} (hA : ∀ Q : VK, (∀ H', Same H H' → Q (.bl b) H') → tA σ H Q) (hB : b = false → ∀ H1, Same H H1 → ∀ Q : VK, (∀ H', Same H H' → Q (.bl c) H') → tB σ H1 Q) (q : ∀ H', Same H H' → Q (.bl (b || c)) H') : tOrV tA tB σ H Q := by
  unfold tOrV
  refine hA _ fun H1 s1 => ⟨b, rfl, ?_⟩
  cases b with
  | true => exact q H1 s1
  | false => exact hB rfl H1 s1 _ q
def mostL : List (Key × V) := [(Sum.inr (Str.ofString "rec"), V.int 6), (Sum.inr (Str.ofString "row"), V.int 8)]
theorem mrg_D : mergeK [] [(Sum.inr (Str.ofString "rec"), V.int 6), (Sum.inr (Str.ofString "row"), V.int 8)] = mostL := by rfl
theorem most_get (h : Str) : (valV mostL (.inr h)).getD (.int 6) = V.int (lmost h : Int) := by
  by_cases h1 : h = Str.ofString "rec"
  · subst h1; decide +kernel
  · by_cases h2 : h = Str.ofString "row"
    · subst h2; decide +kernel
    · have e1 : valV mostL (.inr h) = none := by
        unfold valV mostL
        simp [List.find?, Ne.symm h1, Ne.symm h2]
      unfold lmost
      rw [e1, if_neg h2]
      rfl
def psF (h : Str) (psD qsD : List PyData) : List PyData := if isMany h = true then psD ++ [.tuple (rowed h qsD)] else psD
/-- behind the if -/
def ivQ (n : Nat) (H : Hp) (s lw lr pf pp pn pq : Addr) (h : Str) (all : List Str) (i : Nat) (b : Bool) (us : List V) (rows : Rows) (σ : St) (H' : Hp) : Prop :=
  ∃ (i1 : Nat) (b1 : Bool) (us1 ps qs : List V) (ns : List Int) (x6 x7 x8 x9 x10 x11 : Option V), σ = [some (.ref s), some (.str h), some (.ref pf), some (.ref pp), some (.ref pn), some (.ref pq), x6, x7, x8, x9, x10, x11] ∧
    StAt H' s lw lr all i1 b1 us1 ∧ H' pp = some (.lst ps) ∧ H' pn = some (.lst (ns.map V.int)) ∧ H' pq = some (.lst qs) ∧ But [s, lr] H H' ∧ ps.length ≤ 4 ∧ 0 < ns.length ∧ ns.length ≤ 1000 ∧ qs.length ≤ 1000 ∧ us.length ≤ us1.length ∧
    (match b1 with
      | true => LBad n b us us1 (lparts (lexpr n) n h (all.drop i) rows = none) 3
      | false => b = false ∧ ∃ psD qsD rows1 m, Tps H' ps (psF h psD qsD) ∧ Tps H' us1 rows1 ∧ us1.length ≤ 160 ∧ TpsL H' qs (rowed h qsD) ∧ qsD.length = qs.length ∧ mxI ns = ((m : Nat) : Int) ∧
          lparts (lexpr n) n h (all.drop i) rows = (if isMany h = true ∧ (lmost h < qsD.length ∨ (h = "case" ∧ qsD = [])) then none else some (psF h psD qsD, m, all.drop i1, rows1)) ∧ (isMany h = false → qsD = []))
theorem lparts_end {n : Nat} {h : Str} {ws wsA ws1 : List Str} {rows rowsA rows1 : Rows} {pat : List Nat} {psD qsD : List PyData} {m0 m : Nat} (h1 : lpat h = some pat) (h2 : lpieces (lexpr n) pat ws rows = some (psD, m0, wsA, rowsA))
    (h3 : isMany h = true → lmany (lexpr n) (lpatM h) n wsA rowsA = some (qsD, m, ws1, rows1)) (h4 : isMany h = false → qsD = [] ∧ m = 0 ∧ ws1 = wsA ∧ rows1 = rowsA) :
    lparts (lexpr n) n h ws rows = (if isMany h = true ∧ (lmost h < qsD.length ∨ (h = "case" ∧ qsD = [])) then none else some (psF h psD qsD, max m0 m, ws1, rows1)) := by
  unfold lparts psF
  rw [h1]
  simp only [h2]
  cases hm : isMany h with
  | true =>
    simp only [if_true, h3 hm, true_and]
    unfold lend rowed
    rfl
  | false =>
    obtain ⟨e1, e2, e3, e4⟩ := h4 hm
    subst e1 e2 e3 e4
    simp only [Bool.false_eq_true, if_false, false_and, Nat.max_zero]
theorem stO_inj {lw lr : Addr} {i j : Nat} {b c : Bool} (h : stO lw i lr b = stO lw j lr c) : i = j ∧ b = c := by
  unfold stO at h
  injection h with h
  simp only [List.cons.injEq, Prod.mk.injEq, V.int.injEq, V.bl.injEq, and_true, true_and] at h
  exact ⟨by omega, h.2⟩
def cntL : List (Key × V) := [(Sum.inr (Str.ofString "row"), V.int 0), (Sum.inr (Str.ofString "rec"), V.int 1), (Sum.inr (Str.ofString "case"), V.int 2)]
theorem mrg_C : mergeK [] [(Sum.inr (Str.ofString "row"), V.int 0), (Sum.inr (Str.ofString "rec"), V.int 1), (Sum.inr (Str.ofString "case"), V.int 2)] = cntL := by rfl
theorem cnt_get {h : Str} (hm : isMany h = true) : dGetO (some (.dK cntL)) (Sum.inr h) = some (.int (cntM h : Int)) := cntM_val hm
theorem cnt_le (h : Str) : cntM h ≤ 2 := by
  unfold cntM
  split
  · decide
  · split <;> decide
theorem lparts_none {n : Nat} {h : Str} {ws wsA : List Str} {rows rowsA : Rows} {pat : List Nat} {psD : List PyData} {m0 : Nat} (h1 : lpat h = some pat) (h2 : lpieces (lexpr n) pat ws rows = some (psD, m0, wsA, rowsA)) (hm : isMany h = true) (h3 : lmany (lexpr n) (lpatM h) n wsA rowsA = none) : lparts (lexpr n) n h ws rows = none := by
  unfold lparts
  rw [h1]
  simp only [h2, hm, if_true, h3]
  rfl
/-- one turn's piece -/
def pieceD (h : Str) (names : List Str) (p : Int) : PyData := .tuple (names.map PyData.str ++ [.int p])
theorem lowD_names : ∀ {names : List Str} {p : Int}, names.all isName = true → lowD 0 (names.map PyData.str ++ [.int p])
  | [], p, _ => fun d hd => by
    simp only [List.map_nil, List.nil_append, List.mem_singleton] at hd
    subst hd
    exact ⟨rfl, Nat.zero_le _⟩
  | x :: r, p, h => fun d hd => by
    simp only [List.all_cons, Bool.and_eq_true] at h
    simp only [List.map_cons, List.cons_append, List.mem_cons] at hd
    rcases hd with rfl | hd
    · exact ⟨by simp only [PyData.canLay0]; exact isName_ok h.1, Nat.zero_le _⟩
    · exact lowD_names (p := p) h.2 d hd
theorem lowD_piece {h : Str} {names : List Str} {p : Int} (ha : names.all isName = true) : (if h = "row" then firstOf (pieceD h names p) else pieceD h names p).canLay0 = true ∧ (if h = "row" then firstOf (pieceD h names p) else pieceD h names p).depth ≤ 1 := by
  have hl := lowD_names (p := p) ha
  split
  · cases names with
    | nil => exact ⟨(hl (.int p) (by simp)).1, Nat.le_succ_of_le (hl (.int p) (by simp)).2⟩
    | cons x r => exact ⟨(hl (.str x) (by simp)).1, Nat.le_succ_of_le (hl (.str x) (by simp)).2⟩
  · exact ⟨by unfold pieceD; simp only [PyData.canLay0]; exact (lowD_all hl).1, by unfold pieceD; simp only [PyData.depth]; have := (lowD_all hl).2; omega⟩
theorem rowed_app (h : Str) (qs : List PyData) (d : PyData) : rowed h (qs ++ [d]) = rowed h qs ++ [if h = "row" then firstOf d else d] := by
  unfold rowed
  split
  · rw [List.map_append]; rfl
  · rfl
/-- the while's turn: what it leaves -/
theorem ivW_step {n k : Nat} {H H9 : Hp} {s lw lr pf pp pn pq : Addr} {h : Str} {all : List Str} {i i1 i9 : Nat} {b b8 b9 : Bool} {us us1 us9 ps qs : List V} {ns : List Int} {rows rows1 : Rows} {x6 x7 x8 x9 x10 x11 : Option V} {v : V} {pl ne : Int} {pat : List Nat} {psD qsD : List PyData} {m0 m : Nat} {wsA : List Str} {rowsA : Rows} {Hr : Hp} (A : Ap3 H pp pn pq) (S0 : StAt H s lw lr all i b us) (hm : isMany h = true) (hn5 : n ≤ 500)
    (S9 : StAt H9 s lw lr all i9 b9 us9) (e1 : H9 pp = some (.lst ps)) (e2 : H9 pn = some (.lst (ns.map V.int))) (e3 : H9 pq = some (.lst qs)) (b5 : But [s, lr] H H9) (g5 : ps.length ≤ 3) (g6 : 0 < ns.length) (g6' : ns.length + k ≤ 1000) (g6'' : qs.length + k ≤ 1000) (hus : us.length ≤ us1.length) (hb : b = false)
    (hpat : lpat h = some pat) (hlp : lpieces (lexpr n) pat (all.drop i) rows = some (psD, m0, wsA, rowsA)) (t1 : Tps H9 ps psD) (h160 : us1.length ≤ 160) (hl1 : us1.length = rows1.length) (hk : 161 ≤ rows1.length + k) (t4 : TpsL H9 qs (rowed h qsD)) (t5 : qsD.length = qs.length) (t6 : mxI ns = ((max m0 m : Nat) : Int))
    (t7 : lmany (lexpr n) (lpatM h) n wsA rowsA = cont1 qsD m (lmany (lexpr n) (lpatM h) k (all.drop i1) rows1)) (hcom : coming (all.drop i1) = true) (hb8 : b8 = !((wordsFT all i1 (cntM h)).all isName))
    (hv : Tp H9 v (if h = "row" then .int pl else pieceD h (wordsFT all i1 (cntM h)) pl)) (hgr : us1.length + 1 ≤ us9.length) (hkn : 161 ≤ rows1.length + n)
    (ho : match (generalizing := false) b8, lexpr n (all.drop (i1 + cntM h)) rows1 with
      | true, _ => b9 = true ∧ us9.length ≤ us1.length + 1
      | false, none => b9 = true ∧ us9.length ≤ 165 + 4 * n
      | false, some (a, m, ws, rows) => b9 = false ∧ all.drop i9 = ws ∧ Tps H9 us9 rows ∧ us9.length ≤ 160 ∧ pl = (a : Int) ∧ ne = (m : Int)) :
    ∃ k', k' < k ∧ ivW n H s lw lr pf pp pn pq h all i b us rows k' [some (.ref s), some (.str h), some (.ref pf), some (.ref pp), some (.ref pn), some (.ref pq), x6, x7, x8, x9, x10, x11] (upd (upd H9 pq (.lst (qs ++ [v]))) pn (.lst (ns.map V.int ++ [.int ne]))) := by
  have s1 := ne_of_none S0.s A.hq
  have s2 := ne_of_none S0.s A.hn
  have w1 := ne_of_none S0.w A.hq
  have w2 := ne_of_none S0.w A.hn
  have r1 := ne_of_none S0.r A.hq
  have r2 := ne_of_none S0.r A.hn
  have S6 : StAt (upd (upd H9 pq (.lst (qs ++ [v]))) pn (.lst (ns.map V.int ++ [.int ne]))) s lw lr all i9 b9 us9 :=
    ⟨by rw [upd_ne s2, upd_ne s1]; exact S9.s, by rw [upd_ne w2, upd_ne w1]; exact S9.w, by rw [upd_ne r2, upd_ne r1]; exact S9.r, S9.ne, S9.len, S9.few⟩
  have tk : TK H9 (upd (upd H9 pq (.lst (qs ++ [v]))) pn (.lst (ns.map V.int ++ [.int ne]))) := (tk_lst e3 _).trans (tk_lst (by rw [upd_ne A.d3]; exact e2) _)
  obtain ⟨k1, rfl⟩ : ∃ k1, k = k1 + 1 := ⟨k - 1, by omega⟩
  refine ⟨k1, Nat.lt_succ_self k1, i9, b9, us9, ps, qs ++ [v], ns ++ [ne], x6, x7, x8, x9, x10, x11, rfl, S6, by rw [upd_ne A.d1, upd_ne A.d2]; exact e1, by rw [upd_same, List.map_append]; rfl, by rw [upd_ne A.d3.symm]; exact upd_same, (b5.nw A.hq _).nw A.hn _, g5, by rw [List.length_append]; omega, by rw [List.length_append]; show _ + 1 + k1 ≤ _; omega, by rw [List.length_append]; show _ + 1 + k1 ≤ _; omega, by omega, ?_⟩
  have em : lmany (lexpr n) (lpatM h) (k1 + 1) (all.drop i1) rows1 = (match lpieces (lexpr n) (lpatM h) (all.drop i1) rows1 with
      | none => none
      | some (ps, m1, ws, rows) => (match lmany (lexpr n) (lpatM h) k1 ws rows with
        | none => none
        | some (qs, m, ws, rows) => some (.tuple ps :: qs, max m1 m, ws, rows))) := by
    rw [lmany, if_pos hcom]
    try rfl
  have ep := lpieces_names (ex := lexpr n) (all := all) (rows := rows1) (cntM h) i1
  rw [← lpatM_eq hm] at ep
  have bad : lpieces (lexpr n) (lpatM h) (all.drop i1) rows1 = none → us9.length ≤ 165 + 4 * n + 3 → LBad n b us us9 (lparts (lexpr n) n h (all.drop i) rows = none) 3 := fun h0 hl => by
    refine .inr ⟨hb, lparts_none hpat hlp hm ?_, hl⟩
    rw [t7, em, h0]
    rfl
  cases hbb : b8 with
  | true =>
    rw [hbb] at ho hb8
    obtain ⟨o1, o2⟩ := ho
    subst o1
    have ha : ¬ (wordsFT all i1 (cntM h)).all isName = true := by
      intro h0
      rw [h0] at hb8
      cases hb8
    rw [if_neg ha] at ep
    exact bad ep (by omega)
  | false =>
    rw [hbb] at ho hb8
    have ha : (wordsFT all i1 (cntM h)).all isName = true := by
      cases h0 : (wordsFT all i1 (cntM h)).all isName with
      | true => rfl
      | false => rw [h0] at hb8; cases hb8
    rw [if_pos ha] at ep
    cases he : lexpr n (all.drop (i1 + cntM h)) rows1 with
    | none =>
      rw [he] at ho ep
      obtain ⟨o1, o2⟩ := ho
      subst o1
      exact bad ep (by omega)
    | some u =>
      obtain ⟨p, m1, ws2, rows2⟩ := u
      rw [he] at ho ep
      obtain ⟨o1, o2, o3, o4, o5, o6⟩ := ho
      subst o1 o5 o6
      have hl2 : us9.length = rows2.length := o3.length
      refine ⟨hb, pat, psD, m0, wsA, rowsA, qsD ++ [pieceD h (wordsFT all i1 (cntM h)) (p : Int)], rows2, max m m1, hpat, hlp, t1.mono tk, o3.mono tk, o4, by omega, by omega, ?_, by rw [List.length_append, List.length_append, t5]; rfl, ?_, fun _ => ?_, fun h0 => by rw [hm] at h0; cases h0⟩
      · rw [rowed_app]
        refine ⟨(t4.t.mono tk).append (.cons ?_ .nil), fun d hd => (List.mem_append.mp hd).elim (t4.low d) fun hd => by
          simp only [List.mem_singleton] at hd
          subst hd
          exact lowD_piece ha⟩
        have hv' := hv.mono tk
        by_cases hr : h = Str.ofString "row"
        · rw [if_pos hr] at hv' ⊢
          have : wordsFT all i1 (cntM h) = [] := by rw [hr]; rfl
          rw [this]
          exact hv'
        · rw [if_neg hr] at hv' ⊢
          exact hv'
      · have := mxI_app (k := m1) t6 g6
        rw [this, Nat.max_assoc]
      · rw [t7, em, ep, o2]
        simp only
        show cont1 qsD m (match lmany (lexpr n) (lpatM h) k1 ws2 rows2 with | none => none | some (qs, m, ws, rows) => some (pieceD h (wordsFT all i1 (cntM h)) (p : Int) :: qs, max m1 m, ws, rows)) = _
        cases lmany (lexpr n) (lpatM h) k1 ws2 rows2 with
        | none => rfl
        | some u =>
          obtain ⟨a1, a2, a3, a4⟩ := u
          show some (qsD ++ (_ :: a1), max m (max m1 a2), a3, a4) = some (qsD ++ [_] ++ a1, max (max m m1) a2, a3, a4)
          rw [List.append_assoc, Nat.max_assoc]
          rfl
theorem ok_lparts {n : Nat} (F : Fun K "_law_parts" "_law_parts" s_law_parts f fd) (c__law_named : Cal P w K mg base CX0 2 "_law_named" ["state"] sp_named') (c__law_coming : Cal P w K mg base CX0 1 "_law_coming" ["state"] sp_coming)
    (z_len : mg "len" = none) (z_tuple : mg "tuple" = none) (z_range : mg "range" = none) (z_max : mg "max" = none) (c__law_expr : CalA P w K mg base (REx n) "_law_expr" ["state"] (sp_lexpr n)) : FnA P w K mg base (RPa n) f fd ["state", "head"] (sp_lparts n) := by
  refine okA F sc_law_parts (fun A h => ⟨h.1, by have := h.2.1; omega⟩) (fun vs H Q E h => by obtain ⟨_, _, _, _, _, _, _, _, _, rfl, _⟩ := h; rfl) (fun cdv A outer s H vs Q E hA h => ?_)
  have hr : Room 3 (A.deeper (PyProof.Rows.envOfC "_law_parts" (defScope s_law_parts) s.heap.objs.size f cdv)) := ⟨hA.1, by have := hA.2.1; show A.depth + 1 + _ + 5 < _; omega, by have := hA.2.2; show A.units + 3 + _ + 200 < _; omega⟩
  have hn5 : n ≤ 500 := by
    have h1 := hA.2.1
    have h2 : recursionLimit = 1000 := rfl
    omega
  have hrA : REx n (A.deeper (PyProof.Rows.envOfC "_law_parts" (defScope s_law_parts) s.heap.objs.size f cdv)) := ⟨hA.1, by have := hA.2.1; show A.depth + 1 + _ + 20 < _; omega, by have := hA.2.2; show A.units + 3 + _ + 400 < _; omega⟩
  have hu64 := hr.units
  refine ⟨_, (pss_cons (ps_set (i := 2) sc_law_parts.nd rfl (Or.inl rfl) (xdisp (xpps_cons pe_str pe_str (xpps_cons pe_str pe_str (xpps_cons pe_str pe_str (xpps_cons pe_str pe_str (xpps_cons pe_str pe_str (xpps_cons pe_str pe_str (xpps_cons pe_str pe_str (xpps_cons pe_str pe_str xpps_nil)))))))) (by rfl) (by rfl) (fun z => by cases z) (by decide)))
  (pss_cons (ps_expr (xupd (xv 2) (xdisp (xpps_cons pe_str pe_str (xpps_cons pe_str pe_str (xpps_cons pe_str pe_str (xpps_cons pe_str pe_str (xpps_cons pe_str pe_str (xpps_cons pe_str pe_str xpps_nil)))))) (by rfl) (by rfl) (fun z => by cases z) (by decide)) ⟨rfl, rfl, rfl, rfl⟩))
  (pss_cons (xdput (hu_of hr) (xv 0) pe_str (pe_or (xdget (hu_of hr) (xv 0) pe_str (fun _ _ => rfl)) (pe_one (pe_cmp (xdnotin (hu_of hr) (xv 1) (xv 2)) rfl))) rfl)
  (pss_cons (xpar3 (i := 3) (j := 4) (l := 5) sc_law_parts.nd rfl rfl rfl (by decide) (by decide) (by decide) rfl rfl rfl (pa_cons (pe_lst pa_nil) (pa_cons (pe_lst (pa_cons pe_int pa_nil)) (pa_cons (pe_lst pa_nil) pa_nil))) (by rfl))
  (pss_cons (xfor PassesOwn.never (xistr (xdget2 (hu_of hr) (xv 2) (xv 1) pe_str ⟨rfl, rfl, rfl, rfl⟩)) (pg_name (i := 6) sc_law_parts.nd rfl (Or.inl rfl))
  (pss_cons (ps_set (i := 7) sc_law_parts.nd rfl (Or.inl rfl) (pe_ifExp (xt (yeq hu64) (xv 6) pe_str (nomark _)) (pe_tup (pa_cons (pe_c c__law_named hr (pa_cons (xv 0) pa_nil)) (pa_cons pe_int pa_nil))) (pe_cA c__law_expr hrA (pa_cons (xv 0) pa_nil))))
  (pss_cons (ps_expr (xapp (xv 3) (pe_ix yix (xv 7) pe_int (fun _ _ => rfl))))
  (pss_one (ps_expr (xapp (xv 4) (pe_ix yix (xv 7) pe_int (fun _ _ => rfl))))))))
  (pss_cons (ps_mid (xwhile PassesOwn.never (PW.pt (pw_and (xt yint (xv 1) (pe_tup (pa_cons pe_str (pa_cons pe_str (pa_cons pe_str pa_nil)))) (by rfl)) (pw_and1 (xtv (pe_c c__law_coming hr (pa_cons (xv 0) pa_nil)))))) (pss_cons (xsetlc (i := 8) (own := [("k", 9)]) sc_law_parts.nd rfl rfl (sw_true rfl rfl rfl (by decide +kernel)) (xirng1 z_range (xdget (hu_of hr) (xdisp (xpps_cons pe_str pe_int (xpps_cons pe_str pe_int (xpps_cons pe_str pe_int xpps_nil))) (by rfl) (by rfl) (fun z => by cases z) (by decide)) (xv 1) (fun _ _ => rfl))) (blkOk_by (own := [("k", 9)]) (N := ["state", "head", "forms", "parts", "nests", "more", "sort", "made", "names", "k", "place", "nest"]) (sc := defScope s_law_parts) (by decide +kernel)) (fun _ _ _ _ _ => (pg_name (i := 9) sc_law_parts.nd rfl (Or.inl rfl))) (fun _ _ _ _ _ => pts_nil) (fun _ _ _ _ _ => (pe_c c__law_named hr (pa_cons (xv 0) pa_nil))))
  (pss_cons (ps_asg (pe_cA c__law_expr hrA (pa_cons (xv 0) pa_nil)) (xgtup (n := 2) (xgcons (pg_name (i := 10) sc_law_parts.nd rfl (Or.inl rfl)) (xgcons (pg_name (i := 11) sc_law_parts.nd rfl (Or.inl rfl)) xgnil))))
  (pss_cons (ps_expr (xapp (xv 5) (pe_ifExp (xt (yeq hu64) (xv 1) pe_str (nomark _)) (xv 10) (pe_op yadd (pe_callTy ytuple (by rfl) z_tuple (by decide +kernel) (pa_cons (xv 8) pa_nil)) (pe_tup (pa_cons (xv 10) pa_nil))))))
  (pss_one (ps_expr (xapp (xv 4) (xv 11)))))))))
  (pss_cons (ps_mid (ps_if (xt yint (xv 1) (pe_tup (pa_cons pe_str (pa_cons pe_str (pa_cons pe_str pa_nil)))) (by rfl)) (pss_one (ps_expr (xapp (xv 3) (pe_callTy ytuple (by rfl) z_tuple (by decide +kernel) (pa_cons (xv 5) pa_nil))))) pss_nil))
  (pss_cons (xdput (hu_of hr) (xv 0) pe_str (pe_or (xdget (hu_of hr) (xv 0) pe_str (fun _ _ => rfl)) (pe_or (pe_cmpR ygt (pe_callB ylen (by rfl) z_len PySem.boot_len (pa_cons (xv 5) pa_nil)) (xdget2 (hu_of hr) (xdisp (xpps_cons pe_str pe_int (xpps_cons pe_str pe_int xpps_nil)) (by rfl) (by rfl) (fun z => by cases z) (by decide)) (xv 1) pe_int ⟨rfl, rfl, rfl, rfl⟩) (nomark _)) (pe_one (pe_and (pe_cmpR (yeq hu64) (xv 1) pe_str (nomark _)) (pe_one (pe_cmpR (yeq hu64) (xv 5) (pe_lst pa_nil) (nomark _))))))) rfl)
  (pss_one (ps_ret (pe_tup (pa_cons (xv 3) (pa_cons (pe_callB ymaxA (by rfl) z_max (by decide +kernel) (pa_cons (xv 4) pa_nil)) pa_nil))))))))))))), ?_⟩
  obtain ⟨s, lw, lr, h, all, i, b, us, rows, rfl, S, hin, hus, q⟩ := h
  walk_at "evo"
  intro pf hpf
  refine ⟨by decide, fun pg hpg => ?_⟩
  have npg : pg ≠ pf := by rintro rfl; rw [upd_same] at hpg; cases hpg
  rw [upd_ne npg.symm, upd_same]
  simp only [mrg_AB, upd2]
  refine ⟨by decide, npg.symm, by decide, ?_⟩
  have hpg' : H pg = none := by rw [upd_ne npg] at hpg; exact hpg
  have S1 : StAt (upd (upd (upd H pf (.dK fA)) pg (.dK fB)) pf (.dK formsKV)) s lw lr all i b us := by
    have h0 := (S.new hpf (.dK fA)).new hpg (.dK fB)
    have n1 : s ≠ pf := by rintro rfl; rw [S.s] at hpf; cases hpf
    have n2 : lw ≠ pf := by rintro rfl; rw [S.w] at hpf; cases hpf
    have n3 : lr ≠ pf := by rintro rfl; rw [S.r] at hpf; cases hpf
    exact ⟨by rw [upd_ne n1]; exact h0.s, by rw [upd_ne n2]; exact h0.w, by rw [upd_ne n3]; exact h0.r, S.ne, S.len, S.few⟩
  have b1 : But [s, lr] H (upd (upd (upd H pf (.dK fA)) pg (.dK fB)) pf (.dK formsKV)) := (((But.refl _ H).nw hpf _).nw hpg' _).nw hpf _
  have ef : upd (upd (upd H pf (.dK fA)) pg (.dK fB)) pf (.dK formsKV) pf = some (.dK formsKV) := upd_same
  have t1 : b = false → Tps (upd (upd (upd H pf (.dK fA)) pg (.dK fB)) pf (.dK formsKV)) us rows := fun hb => (hin hb).1.mono (S.tk b1)
  generalize upd (upd (upd H pf (.dK fA)) pg (.dK fB)) pf (.dK formsKV) = H1 at S1 b1 ef t1 ⊢
  have e1 := S1.s
  walk_at "evo"
  have hval := forms_val h
  refine orV_bl (b := b) (c := !(lpat h).isSome) (fun Q z => ?_) (fun Q z => ?_) ?_
  · walk_at "evo"
  · walk_at "evo"
    have : ((lpat h).map fun pat => V.str ⟨pat.toArray⟩).isSome = (lpat h).isSome := by cases lpat h <;> rfl
    rw [this]
    cases hb : (lpat h).isSome <;> rw [hb] at z <;> exact z
  rw [e1]
  simp only [st_put_bad]
  intro pp hpp pn hpn pq hpq
  have S2 := S1.put i (b || !(lpat h).isSome)
  have b2 := b1.at (p := s) (by simp) (stO lw i lr (b || !(lpat h).isSome))
  have tk2 := S1.tk ((But.refl _ H1).at (p := s) (by simp) (stO lw i lr (b || !(lpat h).isSome)))
  have nfs : pf ≠ s := by rintro rfl; rw [S1.s] at ef; cases ef
  have ef2 : upd H1 s (stO lw i lr (b || !(lpat h).isSome)) pf = some (.dK formsKV) := by rw [upd_ne nfs]; exact ef
  have t2 : b = false → Tps (upd H1 s (stO lw i lr (b || !(lpat h).isSome))) us rows := fun hb => (t1 hb).mono tk2
  generalize upd H1 s (stO lw i lr (b || !(lpat h).isSome)) = H2 at S2 b2 ef2 t2 hpp hpn hpq ⊢
  have n1 := upd_free hpn
  have n2 := upd_free hpq
  have S3 := ((S2.new hpp (.lst [])).new hpn (.lst [.int 0])).new hpq (.lst [])
  have b3 := ((b2.trans (But.new hpp (.lst []))).trans (But.new hpn (.lst [.int 0]))).trans (But.new hpq (.lst []))
  have e3 : upd (upd (upd H2 pp (.lst [])) pn (.lst [.int 0])) pq (.lst []) pp = some (.lst []) := same_new hpq _ _ _ (same_new hpn _ _ _ upd_same)
  have e4 : upd (upd (upd H2 pp (.lst [])) pn (.lst [.int 0])) pq (.lst []) pn = some (.lst [.int 0]) := same_new hpq _ _ _ upd_same
  have e5 : upd (upd (upd H2 pp (.lst [])) pn (.lst [.int 0])) pq (.lst []) pq = some (.lst []) := upd_same
  have ef3 : upd (upd (upd H2 pp (.lst [])) pn (.lst [.int 0])) pq (.lst []) pf = some (.dK formsKV) := same_new hpq _ _ _ (same_new hpn _ _ _ (same_new hpp _ _ _ ef2))
  have t3 : b = false → Tps (upd (upd (upd H2 pp (.lst [])) pn (.lst [.int 0])) pq (.lst [])) us rows := fun hb => (((t2 hb).mono (same_tk (same_new hpp _))).mono (same_tk (same_new hpn _))).mono (same_tk (same_new hpq _))
  generalize upd (upd (upd H2 pp (.lst [])) pn (.lst [.int 0])) pq (.lst []) = H3 at S3 b3 e3 e4 e5 ef3 t3 ⊢
  have free2 : ∀ x, H2 x = none → H x = none := fun x hx => b2.free (by
    simp only [List.mem_cons, List.not_mem_nil, or_false, not_or]
    exact ⟨(ne_of_none S2.s hx).symm, (ne_of_none S2.r hx).symm⟩) hx
  have A3 : Ap3 H pp pn pq := ⟨free2 _ hpp, free2 _ n1.2, free2 _ (upd_free n2.2).2, n1.1.symm, (upd_free n2.2).1.symm, n2.1.symm⟩
  rw [ef3]
  simp only [dk_dK, hval]
  have ez : (((lpat h).map fun pat => V.str ⟨pat.toArray⟩).getD (V.str (Str.ofString ""))) = V.str ⟨((lpat h).getD []).toArray⟩ := by
    cases lpat h with
    | none => show V.str (Str.ofString "") = V.str ⟨#[]⟩; exact congrArg V.str (by decide +kernel)
    | some pat => rfl
  rw [ez]
  simp only
  refine ⟨Nat, _, (lpat h).getD [], ivF n H s lw lr pf pp pn pq h all i b us rows ((lpat h).getD []), rfl, ?_, fun _ _ _ _ => trivial, ?_, ?_⟩
  · refine ⟨[], i, (b || !(lpat h).isSome), us, [], [0], none, none, rfl, rfl, S3, e3, e4, e5, b3, rfl, rfl, Nat.le_refl _, (by cases b <;> cases (lpat h).isSome <;> simp), ?_⟩
    cases b with
    | true => exact .inl ⟨rfl, Nat.le_add_right _ _⟩
    | false =>
      cases hp : lpat h with
      | none =>
        refine .inr ⟨rfl, ?_, ?_⟩
        · unfold lparts
          rw [hp]
        · have h1 := (hin rfl).1.length
          have h2 := (hin rfl).2.1
          show us.length ≤ 165 + 4 * n + 0
          omega
      | some pat =>
        obtain ⟨h1, h2, h3⟩ := hin rfl
        refine ⟨rfl, [], rows, 0, t3 rfl, by rw [h1.length]; exact h2, h3, .nil, rfl, ?_⟩
        show lpieces _ pat _ _ = cont1 [] 0 (lpieces _ pat _ _)
        cases lpieces (lexpr n) pat (all.drop i) rows with
        | none => rfl
        | some u =>
          obtain ⟨a1, a2, a3, a4⟩ := u
          show _ = some ([] ++ a1, max 0 a2, a3, a4)
          rw [List.nil_append, Nat.zero_max]
  · rintro c r σ H' ⟨dn, i1, b1, us1, ps, ns, x6, x7, hd, rfl, S4, g1, g2, g3, g4, g5, g6, g7, gsm, g8⟩
    clear t1 t2 t3
    have hcc := lpat_codes h c (by rw [hd]; simp)
    have hlen := lpat_len h
    rw [hd, List.length_append, List.length_cons] at hlen
    have pS := (ne_of_none S.s A3.hp).symm
    have nS := (ne_of_none S.s A3.hn).symm
    have qS := (ne_of_none S.s A3.hq).symm
    walk_at "evo"
    by_cases hx : c = 120
    · subst hx
      rw [if_pos (by decide +kernel)]
      refine ⟨s, lw, lr, all, i1, b1, us1, rfl, S4, fun H5 S5 b5 pt hpt => ?_⟩
      have q1 : upd H5 pt (.tup [V.str (wordAt all i1), V.int 0]) pp = some (.lst ps) := same_new hpt _ _ _ (b5 _ _ (by simp [pS]) g1)
      have q2 : upd H5 pt (.tup [V.str (wordAt all i1), V.int 0]) pn = some (.lst (ns.map V.int)) := same_new hpt _ _ _ (b5 _ _ (by simp [nS]) g2)
      have q3 : upd H5 pt (.tup [V.str (wordAt all i1), V.int 0]) pq = some (.lst []) := same_new hpt _ _ _ (b5 _ _ (by simp [qS]) g3)
      have qt : upd H5 pt (.tup [V.str (wordAt all i1), V.int 0]) pt = some (.tup [V.str (wordAt all i1), V.int 0]) := upd_same
      have S6 := S5.new hpt (.tup [V.str (wordAt all i1), V.int 0])
      have bH5 : But [s, lr] H' (upd H5 pt (.tup [V.str (wordAt all i1), V.int 0])) := (show But [s, lr] H' H5 from fun a o na e => b5 a o (by simp only [List.mem_cons, List.not_mem_nil, or_false, not_or] at na ⊢; exact na.1) e).trans (But.new hpt _)
      have tk6 := S4.tk bH5
      have b6 := g4.trans bH5
      generalize upd H5 pt (.tup [V.str (wordAt all i1), V.int 0]) = H6 at S6 q1 q2 q3 qt b6 tk6 bH5 ⊢
      have q2' : upd H6 pp (.lst (ps ++ [V.str (wordAt all i1)])) pn = some (.lst (ns.map V.int)) := by rw [upd_ne A3.d1.symm]; exact q2
      have npt : pt ≠ pp := by rintro rfl; rw [q1] at qt; cases qt
      have qt' : upd H6 pp (.lst (ps ++ [V.str (wordAt all i1)])) pt = some (.tup [V.str (wordAt all i1), V.int 0]) := by rw [upd_ne npt]; exact qt
      simp only [q1, q2', qt', at1]
      refine ⟨trivial, sz_lt (by omega), trivial, sz_lt (by rw [List.length_map]; omega), ?_⟩
      refine ivF_step A3 S rfl S6 q1 q2 q3 b6 g5 g6 g7 (fun hb2 => gsm (by cases b1 with | false => rfl | true => cases hb2)) ?_
      cases b1 with
      | true =>
        show LBad n b us us1 _ (dn.length + 1)
        rcases g8 with ⟨z1, z2⟩ | ⟨z1, z2, z3⟩
        · exact .inl ⟨z1, by omega⟩
        · exact .inr ⟨z1, z2, by omega⟩
      | false =>
        obtain ⟨hb, psD, rows1, m, t1, t2, t3, t4, t5, t6⟩ := g8
        subst hb
        rw [hd] at t6
        cases hnm : isName (wordAt all i1) with
        | true =>
          show false = false ∧ _
          rcases rest_at (all := all) (i := i1) with ⟨hlt, hdr⟩ | ⟨hge, hdr, hw0⟩
          · refine ⟨rfl, psD, .str (wordAt all i1), rows1, m, 0, t1.mono tk6, t2, t3, t4.mono tk6, .str _, t5, rfl, ?_⟩
            have hwne : wordAt all i1 ≠ "" := by
              intro e
              rw [e] at hnm
              exact absurd hnm (by decide +kernel)
            have en : named (all.drop i1) = some (wordAt all i1, all.drop (i1 + 1)) := by
              rw [hdr]
              simp only [named, taken, if_neg hwne, hnm, if_true]
            rw [t6]
            simp only [lpieces, if_true, en]
            cases lpieces (lexpr n) r (all.drop (i1 + 1)) rows1 with
            | none => rfl
            | some u =>
              obtain ⟨a1, a2, a3, a4⟩ := u
              show cont1 psD m (some (_, _, _, _)) = cont1 psD m (some (_, max 0 a2, _, _))
              rw [Nat.zero_max]
              rfl
          · rw [hw0] at hnm
            exact absurd hnm (by decide +kernel)
        | false =>
          show LBad n false us us1 _ (dn.length + 1)
          refine .inr ⟨rfl, ?_, by omega⟩
          have en : named (all.drop i1) = none := by
            rcases rest_at (all := all) (i := i1) with ⟨hlt, hdr⟩ | ⟨hge, hdr, hw0⟩
            · rw [hdr]
              unfold named taken
              by_cases hwe : wordAt all i1 = Str.ofString ""
              · simp only [if_pos hwe]
              · simp only [if_neg hwe, hnm, Bool.false_eq_true, if_false]
            · rw [hdr]; rfl
          have e0 : lpieces (lexpr n) (dn ++ 120 :: r) (all.drop i) rows = none := by
            rw [t6]
            simp only [lpieces, if_true, en]
            rfl
          unfold lparts
          cases hp : lpat h with
          | none => rfl
          | some pat =>
            rw [hp] at hd
            have hd' : pat = dn ++ 120 :: r := hd
            simp only
            rw [hd', e0]
    · have hx1 : c = 101 := hcc.resolve_left hx
      subst hx1
      rw [if_neg (by decide +kernel)]
      have hX : ∃ rowsX, LIn n H' b1 us1 rowsX ∧ us1.length ≤ 2000000 ∧ ∀ (H5 : Hp) (pl ne : Int) (i2 : Nat) (b2 : Bool) (us2 : List V), TK H' H5 → LOut 1 1 (165 + 4 * n) s lw lr all b1 us1 (lexpr n (all.drop i1) rowsX) H5 i2 b2 us2 (fun p m => pl = (p : Int) ∧ ne = (m : Int)) →
          (match (generalizing := false) b2 with
            | true => LBad n b us us2 (lparts (lexpr n) n h (all.drop i) rows = none) (dn.length + 1)
            | false => b = false ∧ ∃ psD d rows2 m m2, Tps H5 us2 rows2 ∧ us2.length ≤ 160 ∧ 161 ≤ rows2.length + n ∧ Tps H5 ps psD ∧ Tp H5 (.int pl) d ∧ mxI ns = ((m : Nat) : Int) ∧ ne = ((m2 : Nat) : Int) ∧ lpieces (lexpr n) (dn ++ 101 :: r) (all.drop i) rows = cont1 psD m (cont1 [d] m2 (lpieces (lexpr n) r (all.drop i2) rows2))) := by
        cases b1 with
        | true =>
          refine ⟨[], (fun h => by cases h), ?_, fun H5 pl ne i2 b2 us2 tk ho => ?_⟩
          · rcases g8 with ⟨z1, z2⟩ | ⟨z1, z2, z3⟩
            · omega
            · omega
          · obtain ⟨_, _, ho1, ho2⟩ := ho
            subst ho1
            show LBad n b us us2 _ (dn.length + 1)
            rcases g8 with ⟨z1, z2⟩ | ⟨z1, z2, z3⟩
            · exact .inl ⟨z1, by omega⟩
            · exact .inr ⟨z1, z2, by omega⟩
        | false =>
          obtain ⟨hb, psD, rows1, m, t1, t2, t3, t4, t5, t6⟩ := g8
          subst hb
          rw [hd] at t6
          have hl1 : us1.length = rows1.length := t1.length
          refine ⟨rows1, fun _ => ⟨t1, by omega, t3⟩, by omega, fun H5 pl ne i2 b2 us2 tk ho => ?_⟩
          obtain ⟨_, hgr, ho⟩ := ho
          cases he : lexpr n (all.drop i1) rows1 with
          | none =>
            rw [he] at ho
            obtain ⟨ho1, ho2⟩ := ho
            subst ho1
            show LBad n false us us2 _ (dn.length + 1)
            refine .inr ⟨rfl, ?_, by omega⟩
            have e0 : lpieces (lexpr n) (dn ++ 101 :: r) (all.drop i) rows = none := by
              rw [t6]
              simp only [lpieces, show ¬ (101 : Nat) = 120 by decide, if_false, he]
              rfl
            unfold lparts
            cases hp : lpat h with
            | none => rfl
            | some pat =>
              rw [hp] at hd
              have hd' : pat = dn ++ 101 :: r := hd
              simp only
              rw [hd', e0]
          | some u =>
            obtain ⟨p, m1, ws2, rows2⟩ := u
            rw [he] at ho
            obtain ⟨ho1, ho2, ho3, ho4, ho5, ho6⟩ := ho
            subst ho1 ho5 ho6
            have hl2 : us2.length = rows2.length := ho3.length
            refine ⟨rfl, psD, .int (p : Int), rows2, m, m1, ho3, ho4, by omega, t4.mono tk, .int _, t5, rfl, ?_⟩
            rw [t6]
            simp only [lpieces, show ¬ (101 : Nat) = 120 by decide, if_false, he, ho2]
            cases lpieces (lexpr n) r ws2 rows2 with
            | none => rfl
            | some u =>
              obtain ⟨a1, a2, a3, a4⟩ := u
              rfl
      obtain ⟨rowsX, hinX, hlX, hcond⟩ := hX
      refine ⟨s, lw, lr, all, i1, b1, us1, rowsX, rfl, S4, hinX, hlX, ?_⟩
      intro H5 t pl ne i2 b2 us2 bH5 et ho
      have tk6 := S4.tk bH5
      have hc5 := hcond H5 pl ne i2 b2 us2 tk6 ho
      have S6 := ho.1
      have hgr := ho.2.1
      have pR := (ne_of_none S.r A3.hp).symm
      have nR := (ne_of_none S.r A3.hn).symm
      have qR := (ne_of_none S.r A3.hq).symm
      have q1 : H5 pp = some (.lst ps) := bH5 _ _ (by simp [pS, pR]) g1
      have q2 : H5 pn = some (.lst (ns.map V.int)) := bH5 _ _ (by simp [nS, nR]) g2
      have q3 : H5 pq = some (.lst []) := bH5 _ _ (by simp [qS, qR]) g3
      have b6 := g4.trans bH5
      have npt : t ≠ pp := by rintro rfl; rw [q1] at et; cases et
      have et' : upd H5 pp (.lst (ps ++ [V.int pl])) t = some (.tup [V.int pl, V.int ne]) := by rw [upd_ne npt]; exact et
      have q2' : upd H5 pp (.lst (ps ++ [V.int pl])) pn = some (.lst (ns.map V.int)) := by rw [upd_ne A3.d1.symm]; exact q2
      have hmono : b2 = false → b1 = false := fun hb2 => by
        cases b1 with
        | false => rfl
        | true => obtain ⟨_, _, ho1, _⟩ := ho; rw [ho1] at hb2; cases hb2
      clear hcond ho hinX
      walk_at "evo"
      refine ⟨sz_lt (by omega), sz_lt (by rw [List.length_map]; omega), ?_⟩
      exact ivF_step A3 S rfl S6 q1 q2 q3 b6 g5 g6 (by omega) (fun hb2 => gsm (hmono hb2)) hc5
  · rintro σ H' ⟨dn, i1, b1, us1, ps, ns, x6, x7, hd, rfl, S4, g1, g2, g3, g4, g5, g6, g7, gsm, g8⟩
    rw [List.append_nil] at hd
    clear t1 t2 t3
    walk_at "evo"
    refine ⟨ivM n H s lw lr pf pp pn pq h all i b us rows, ?_, ?_⟩
    rotate_left
    · rintro σ5 H5 ⟨i1, b1, us1, ps, qs, ns, x6, x7, x8, x9, x10, x11, rfl, S4, g1, g2, g3, g4, g5, g6, g6', g6'', g7, g8⟩
      walk_at "evo"
      refine ⟨ivQ n H s lw lr pf pp pn pq h all i b us rows, ?_, ?_⟩
      · walk_at "evo"
        intro pc hpc
        refine ⟨_, .inr (.inl (.inl upd_same)), rfl, by decide +kernel, ?_⟩
        rw [many_in]
        have sm := same_new hpc (HO.tup [V.str (Str.ofString "rec"), V.str (Str.ofString "row"), V.str (Str.ofString "case")])
        have S5 := S4.same sm
        have b5 := g4.trans (but_same' sm)
        generalize upd H5 pc (HO.tup [V.str (Str.ofString "rec"), V.str (Str.ofString "row"), V.str (Str.ofString "case")]) = H6 at S5 sm b5 ⊢
        have k1 := sm _ _ g1
        have k2 := sm _ _ g2
        have k3 := sm _ _ g3
        cases hm : isMany h with
        | false =>
          rw [if_neg (by decide)]
          refine ⟨i1, b1, us1, ps, qs, ns, x6, x7, x8, x9, x10, x11, rfl, S5, k1, k2, k3, b5, by omega, g6, g6', g6'', g7, ?_⟩
          cases b1 with
          | true => exact g8
          | false =>
            obtain ⟨hb0, pat, psD, m0, wsA, rowsA, qsD, rows1, m, t1, t2, t3, t4, t5, t7, t8, t9, t10, t11⟩ := g8
            refine ⟨hb0, psD, qsD, rows1, max m0 m, ?_, t4.mono (same_tk sm), t5, t7.mono (same_tk sm), t8, t9, lparts_end t1 t2 t10 t11, fun h0 => (t11 h0).1⟩
            unfold psF
            rw [hm, if_neg (by decide)]
            exact t3.mono (same_tk sm)
        | true =>
          rw [if_pos rfl, k3]
          simp only [k1, tupleAs, lstOf, true_and]
          intro l hl
          have sl := sm.trans (same_new hl (.tup qs))
          have bl := b5.trans (But.new hl (.tup qs))
          have Sl := S5.new hl (.tup qs)
          have el : upd H6 l (.tup qs) l = some (.tup qs) := upd_same
          generalize upd H6 l (.tup qs) = H7 at sl bl Sl el ⊢
          have j1 := sl _ _ g1
          have j2 := sl _ _ g2
          have j3 := sl _ _ g3
          rw [j1]
          have s1 := ne_of_none S.s A3.hp
          have w1 := ne_of_none S.w A3.hp
          have r1 := ne_of_none S.r A3.hp
          have tkp := tk_lst j1 (.lst (ps ++ [V.ref l]))
          have nlp : l ≠ pp := by rintro rfl; rw [j1] at el; cases el
          refine ⟨sz_lt (by omega), i1, b1, us1, ps ++ [V.ref l], qs, ns, x6, x7, x8, x9, x10, x11, rfl, ⟨by rw [upd_ne s1]; exact Sl.s, by rw [upd_ne w1]; exact Sl.w, by rw [upd_ne r1]; exact Sl.r, Sl.ne, Sl.len, Sl.few⟩, upd_same, by rw [upd_ne A3.d1.symm]; exact j2, by rw [upd_ne A3.d2.symm]; exact j3, bl.nw A3.hp _, by rw [List.length_append]; show _ + 1 ≤ _; omega, g6, g6', g6'', g7, ?_⟩
          cases b1 with
          | true => exact g8
          | false =>
            obtain ⟨hb0, pat, psD, m0, wsA, rowsA, qsD, rows1, m, t1, t2, t3, t4, t5, t7, t8, t9, t10, t11⟩ := g8
            have tkl := (same_tk sl).trans tkp
            refine ⟨hb0, psD, qsD, rows1, max m0 m, ?_, t4.mono tkl, t5, t7.mono tkl, t8, t9, lparts_end t1 t2 t10 t11, fun h0 => by rw [hm] at h0; cases h0⟩
            unfold psF
            rw [hm, if_pos rfl]
            exact (t3.mono tkl).append (.cons (.tup (by rw [upd_ne nlp]; exact el) (t7.mono tkl).t) .nil)
      · rintro σ6 H6 ⟨i1, b1, us1, ps, qs, ns, x6, x7, x8, x9, x10, x11, rfl, S4, g1, g2, g3, g4, g5, g6, g6', g6'', g7, g8⟩
        walk_at "evo"
        have e1 := S4.s
        refine orV_s (b := b1) (c := decide (lmost h < qs.length) || (decide (h = "case") && decide (qs = []))) (fun Q' z => ?_) (fun hbf H7 s7 Q' z => ?_) (fun H7 s7 => ?_)
        · walk_at "evo"
          exact z _ (Same.refl _)
        · refine orV_s (b := decide (lmost h < qs.length)) (c := decide (h = "case") && decide (qs = [])) (fun Q2 z2 => ?_) (fun _ H8 s8 Q2 z2 => ?_) fun H8 s8 => z H8 (s7.trans s8)
          · have k3 := s7 _ _ g3
            walk_at "evo"
            intro p hp
            refine ⟨by decide, ?_⟩
            rw [mrg_D, most_get]
            have e : decide ((lmost h : Int) < (qs.length : Int)) = decide (lmost h < qs.length) := by
              by_cases h0 : lmost h < qs.length
              · rw [decide_eq_true h0, decide_eq_true (by omega)]
              · rw [decide_eq_false h0, decide_eq_false (by omega)]
            have := z2 _ (same_new hp (.dK mostL))
            rw [← e] at this
            exact this
          · have k3 := s8 _ _ (s7 _ _ g3)
            walk_at "evo"
            by_cases hcs : h = Str.ofString "case"
            · rw [if_pos hcs]
              intro p hp
              subst hbf
              obtain ⟨hb0, psD, qsD, rows1, m, t1, t2, t3, t3', t4, t5, t6, t7⟩ := g8
              have tk8 := (same_tk (s7.trans s8)).trans (same_tk (same_new hp (.lst [])))
              have d1 := (t3'.mono tk8).t.dp (K := K)
              have k4 := same_new hp (.lst []) _ _ k3
              rw [qEq_rr]
              have hl := lowD_all t3'.low
              have hqe : (qs = []) ↔ (rowed h qsD = []) := by
                rw [← List.length_eq_zero_iff, ← t4, ← List.length_eq_zero_iff]
                unfold rowed
                split
                · rw [List.length_map]
                · rfl
              refine ⟨.list (rowed h qsD), .list [], ?_, ?_, ?_, ?_, ?_⟩
              · exact .lst (.inl (.inl k4)) d1
              · exact .lst (.inl (.inl upd_same)) .nil
              · show (PyData.canLay0 (.list (rowed h qsD)) && decide (PyData.depth (.list (rowed h qsD)) ≤ 64)) = true
                rw [Bool.and_eq_true]
                exact ⟨by simp only [PyData.canLay0]; exact hl.1, decide_eq_true (by have := hl.2; simp only [PyData.depth]; omega)⟩
              · decide +kernel
              · have := z2 _ (s8.trans (same_new hp (.lst [])))
                rw [decide_eq_true hcs, Bool.true_and] at this
                have e : (PyData.eqv (.list (rowed h qsD)) (.list []) == true) = decide (qs = []) := by
                  cases hr : rowed h qsD with
                  | nil => rw [decide_eq_true (hqe.mpr hr)]; decide +kernel
                  | cons x r =>
                    rw [decide_eq_false (fun h0 => by rw [hqe.mp h0] at hr; cases hr)]
                    rfl
                rw [e]
                exact this
            · rw [if_neg hcs]
              have := z2 _ s8
              rw [decide_eq_false hcs] at this
              exact this
        · have S7 := S4.same s7
          have e7 := S7.s
          rw [e7]
          simp only [st_put_bad]
          generalize hbF : (b1 || (decide (lmost h < qs.length) || decide (h = Str.ofString "case") && decide (qs = []))) = bF
          have nps : pp ≠ s := (ne_of_none S.s A3.hp).symm
          have nns : pn ≠ s := (ne_of_none S.s A3.hn).symm
          have S8 := S7.put i1 bF
          have b8 : But [s, lr] H (upd H7 s (stO lw i1 lr bF)) := (g4.trans (but_same' s7)).at (by simp) _
          have tk8 : TK H6 (upd H7 s (stO lw i1 lr bF)) := (same_tk s7).trans (S7.tk ((But.refl _ H7).at (by simp) _))
          have k1 : upd H7 s (stO lw i1 lr bF) pp = some (.lst ps) := by rw [upd_ne nps]; exact s7 _ _ g1
          have k2 : upd H7 s (stO lw i1 lr bF) pn = some (.lst (ns.map V.int)) := by rw [upd_ne nns]; exact s7 _ _ g2
          generalize upd H7 s (stO lw i1 lr bF) = H8 at S8 b8 tk8 k1 k2 ⊢
          rw [k2]
          simp only [intsOf_map]
          refine ⟨g6, fun t ht => ?_⟩
          have tk9 := tk8.trans (same_tk (same_new ht (.tup [V.ref pp, V.int (mxI ns)])))
          refine q _ t pp (mxI ns) ps i1 bF us1 (b8.trans (But.new ht _)) upd_same (same_new ht _ _ _ k1) (by omega) ⟨S8.new ht _, g7, ?_⟩
          cases b1 with
          | true =>
            have hbt : bF = true := by rw [← hbF]; rfl
            subst hbt
            rcases g8 with ⟨z1, z2⟩ | ⟨z1, z2, z3⟩
            · subst z1
              exact ⟨rfl, z2⟩
            · subst z1
              rw [z2]
              exact ⟨rfl, by omega⟩
          | false =>
            obtain ⟨hb0, psD, qsD, rows1, m, t1, t2, t3, t3', t4, t5, t6, t7⟩ := g8
            subst hb0
            rw [t6]
            have hqe : (qsD = []) ↔ (qs = []) := by
              rw [← List.length_eq_zero_iff, ← List.length_eq_zero_iff, t4]
            by_cases hc : isMany h = true ∧ (lmost h < qsD.length ∨ (h = Str.ofString "case" ∧ qsD = []))
            · rw [if_pos hc]
              have hbt : bF = true := by
                rw [← hbF]
                rcases hc.2 with h1 | ⟨h1, h2⟩
                · rw [t4] at h1
                  simp [h1]
                · simp [h1, hqe.mp h2]
              exact ⟨hbt, by omega⟩
            · rw [if_neg hc]
              have hbt : bF = false := by
                rw [← hbF]
                have g1' : ¬ lmost h < qs.length := by
                  intro h1
                  cases hm : isMany h with
                  | true => exact hc ⟨hm, .inl (by rw [t4]; exact h1)⟩
                  | false =>
                    have := t7 hm
                    have := hqe.mp this
                    rw [this] at h1
                    simp at h1
                have g2' : ¬ (h = Str.ofString "case" ∧ qs = []) := by
                  rintro ⟨h1, h2⟩
                  refine hc ⟨?_, .inr ⟨h1, hqe.mpr h2⟩⟩
                  rw [h1]
                  decide +kernel
                rw [decide_eq_false g1']
                by_cases h1 : h = Str.ofString "case"
                · have h2 : ¬ qs = [] := fun h2 => g2' ⟨h1, h2⟩
                  simp [h2]
                · simp [h1]
              exact ⟨hbt, rfl, t2.mono tk9, t3, t1.mono tk9, t5⟩
    refine ⟨ivW n H s lw lr pf pp pn pq h all i b us rows, ⟨n, i1, b1, us1, ps, [], ns, x6, x7, none, none, none, none, rfl, S4, g1, g2, g3, g4, ?_, by omega, by have := lpat_len h; rw [hd] at this; omega, by show 0 + _ ≤ _; omega, g7, ?_⟩, ?_⟩
    · have := lpat_len h
      have h2 := hn5
      rw [hd] at this
      omega
    · have h3 : dn.length ≤ 3 := by rw [← hd]; exact lpat_len h
      cases b1 with
      | true =>
        rcases g8 with ⟨z1, z2⟩ | ⟨z1, z2, z3⟩
        · exact .inl ⟨z1, by omega⟩
        · exact .inr ⟨z1, z2, by omega⟩
      | false =>
        obtain ⟨hb, psD, rows1, m, t1, t2, t3, t4, t5, t6⟩ := g8
        subst hb
        have hpat : ∃ pat, lpat h = some pat := by
          have := gsm rfl
          cases hp : lpat h with
          | none => rw [hp] at this; cases this
          | some pat => exact ⟨pat, rfl⟩
        obtain ⟨pat, hpat⟩ := hpat
        rw [hpat] at hd
        have hd' : pat = dn := hd
        refine ⟨rfl, pat, psD, m, all.drop i1, rows1, [], rows1, 0, hpat, ?_, t4, t1, t2, t3, t3, ?_, rfl, ?_, fun hm => ?_, fun _ => ⟨rfl, rfl, rfl, rfl⟩⟩
        · rw [hd']
          have t6' := t6
          rw [hpat] at t6'
          have t7 : lpieces (lexpr n) pat (all.drop i) rows = _ := t6'
          rw [hd'] at t7
          rw [t7]
          show some (psD ++ [], max m 0, _, _) = _
          rw [List.append_nil, Nat.max_zero]
        · have e0 : rowed h [] = [] := by unfold rowed; split <;> rfl
          rw [e0]
          exact ⟨.nil, fun d hd => by simp at hd⟩
        · rw [t5, Nat.max_zero]
        · cases lmany (lexpr n) (lpatM h) n (all.drop i1) rows1 with
          | none => rfl
          | some u =>
            obtain ⟨a1, a2, a3, a4⟩ := u
            show _ = some ([] ++ a1, max 0 a2, a3, a4)
            rw [List.nil_append, Nat.zero_max]
    · intro k σ H4 wv
      obtain ⟨i1, b1, us1, ps, qs, ns, x6, x7, x8, x9, x10, x11, rfl, S4, g1, g2, g3, g4, g5, g6, g6', g6'', g7, g8⟩ := id wv
      walk_at "evo"
      intro pc hpc
      refine ⟨_, .inr (.inl (.inl upd_same)), rfl, by decide +kernel, ?_⟩
      rw [many_in]
      have S5 := S4.new hpc (HO.tup [V.str (Str.ofString "rec"), V.str (Str.ofString "row"), V.str (Str.ofString "case")])
      have sm := same_new hpc (HO.tup [V.str (Str.ofString "rec"), V.str (Str.ofString "row"), V.str (Str.ofString "case")])
      have b5 := g4.trans (But.new hpc (HO.tup [V.str (Str.ofString "rec"), V.str (Str.ofString "row"), V.str (Str.ofString "case")]))
      generalize upd H4 pc (HO.tup [V.str (Str.ofString "rec"), V.str (Str.ofString "row"), V.str (Str.ofString "case")]) = H6 at S5 sm b5 ⊢
      cases hm : isMany h with
      | false =>
        rw [if_neg (by decide)]
        exact ivW_out wv sm b5 fun _ _ hm' _ => by rw [hm] at hm'; cases hm'
      | true =>
        rw [if_pos rfl]
        refine ⟨s, lw, lr, all, i1, b1, us1, rfl, S5, ?_⟩
        simp only [asB]
        by_cases hcm : (!b1 && decide (i1 < all.length) && !decide (wordAt all i1 = Str.ofString ")")) = true
        · rw [if_pos hcm]
          have hb1 : b1 = false := by
            cases b1 with
            | false => rfl
            | true => simp at hcm
          subst hb1
          have hcom : coming (all.drop i1) = true := by rw [coming_at]; simpa using hcm
          clear hcm
          intro pd hpd
          refine ⟨by decide, ?_⟩
          rw [mrg_C, cnt_get hm]
          have hcl := cnt_le h
          refine ⟨by omega, by omega, fun D hD => ?_⟩
          have S7 := S5.new hpd (.dK cntL)
          have sm7 := sm.trans (same_new hpd (.dK cntL))
          have b7 := b5.trans (But.new hpd (.dK cntL))
          generalize upd H6 pd (.dK cntL) = H7 at S7 sm7 b7 hD ⊢
          refine names_loop S7 hD hcl fun H8 b8 S8 b78 eD hb8 => ?_
          obtain ⟨hb0, pat, psD, m0, wsA, rowsA, qsD, rows1, m, t1, t2, t3, t4, t5, t6, t6', t7, t8, t9, t10, t11⟩ := g8
          have hl1 : us1.length = rows1.length := t4.length
          have nqs : pq ≠ s := (ne_of_none S.s A3.hq).symm
          have nps : pp ≠ s := (ne_of_none S.s A3.hp).symm
          have nns : pn ≠ s := (ne_of_none S.s A3.hn).symm
          have tk8 : TK H4 H8 := (same_tk sm7).trans (S7.tk (fun a o na e => b78 a o (by simp only [List.mem_cons, List.not_mem_nil, or_false, not_or] at na ⊢; exact na.1) e))
          refine ⟨s, lw, lr, all, i1 + cntM h, b8, us1, rows1, rfl, S8, fun _ => ⟨t4.mono tk8, by omega, t6⟩, by omega, ?_⟩
          intro H9 t pl ne i9 b9 us9 b89 et ho
          have tk9 := tk8.trans (S8.tk b89)
          have b9' : But [s, lr] H H9 := (b7.trans (fun a o na e => b78 a o (by simp only [List.mem_cons, List.not_mem_nil, or_false, not_or] at na ⊢; exact na.1) e)).trans b89
          have f1 : ∀ x o, x ≠ s → x ≠ lr → H4 x = some o → H9 x = some o := fun x o n1 n2 e => b89 _ _ (by simp [n1, n2]) (b78 _ _ (by simp [n1]) (sm7 _ _ e))
          have nqr : pq ≠ lr := (ne_of_none S.r A3.hq).symm
          have npr : pp ≠ lr := (ne_of_none S.r A3.hp).symm
          have nnr : pn ≠ lr := (ne_of_none S.r A3.hn).symm
          have q1 := f1 _ _ nps npr g1
          have q2 := f1 _ _ nns nnr g2
          have q3 := f1 _ _ nqs nqr g3
          have hgrow := ho.2.1
          have ho2 := ho.2.2
          have hb8' : b8 = !((wordsFT all i1 (cntM h)).all isName) := by rw [hb8]; simp
          simp only [et, List.length_cons, List.length_nil, q3, true_and]
          by_cases hr : h = Str.ofString "row"
          · rw [if_pos hr]
            have q2' : upd H9 pq (.lst (qs ++ [V.int pl])) pn = some (.lst (ns.map V.int)) := by rw [upd_ne A3.d3]; exact q2
            simp only [q2', true_and]
            refine ⟨sz_lt (by omega), sz_lt (by rw [List.length_map]; omega), ?_⟩
            exact ivW_step (Hr := H9) (pl := pl) (ne := ne) A3 S hm hn5 ho.1 q1 q2 q3 b9' g5 g6 g6' g6'' g7 hb0 t1 t2 (t3.mono tk9) t5 hl1 t6' (t7.mono tk9) t8 t9 (t10 hm) hcom hb8' (by rw [if_pos hr]; exact .int _) hgrow t6 (by
              revert ho2
              cases b8 with
              | true => exact id
              | false =>
                cases lexpr n (all.drop (i1 + cntM h)) rows1 with
                | none => exact id
                | some u => exact fun z => ⟨z.1, z.2.1, z.2.2.1, z.2.2.2⟩)
          · rw [if_neg hr]
            have nDs : D ≠ s := (ne_of_none S7.s hD).symm
            have nDr : D ≠ lr := (ne_of_none S7.r hD).symm
            have eD9 := b89 _ _ (by simp [nDs, nDr]) eD
            rw [eD9]
            simp only [tupleAs, lstOf]
            intro l hl p hp
            have sA := same_up (same_new hl (.tup ((wordsFT all i1 (cntM h)).map V.str))) hp (.tup [V.int pl])
            have el : upd (upd H9 l (.tup ((wordsFT all i1 (cntM h)).map V.str))) p (.tup [V.int pl]) l = some (.tup ((wordsFT all i1 (cntM h)).map V.str)) := same_new hp _ _ _ upd_same
            have ep2 : upd (upd H9 l (.tup ((wordsFT all i1 (cntM h)).map V.str))) p (.tup [V.int pl]) p = some (.tup [V.int pl]) := upd_same
            generalize upd (upd H9 l (.tup ((wordsFT all i1 (cntM h)).map V.str))) p (.tup [V.int pl]) = H11 at sA el ep2 ⊢
            have hwl : (wordsFT all i1 (cntM h)).length = cntM h := by unfold wordsFT; rw [List.length_map, List.length_range]
            have hc1 : 1 ≤ cntM h := by
              unfold cntM
              rw [if_neg hr]
              split <;> decide
            rw [qAdd_tt el ep2]
            refine ⟨sz_of (by rw [List.length_map, hwl]; show _ + 1 ≤ _; omega), fun e => ?_, fun _ e => (by cases e), fun _ _ r hr2 => ?_⟩
            · have := congrArg List.length e
              rw [List.length_map, hwl] at this
              simp at this
              omega
            · have sB := same_up sA hr2 (.tup ((wordsFT all i1 (cntM h)).map V.str ++ [V.int pl]))
              have er : upd H11 r (.tup ((wordsFT all i1 (cntM h)).map V.str ++ [V.int pl])) r = some (.tup ((wordsFT all i1 (cntM h)).map V.str ++ [V.int pl])) := upd_same
              have bB := b9'.trans (but_same' sB)
              generalize upd H11 r (.tup ((wordsFT all i1 (cntM h)).map V.str ++ [V.int pl])) = H12 at sB er bB ⊢
              have p3 := sB _ _ q3
              have p2 := sB _ _ q2
              have q2' : upd H12 pq (.lst (qs ++ [V.ref r])) pn = some (.lst (ns.map V.int)) := by rw [upd_ne A3.d3]; exact p2
              simp only [p3, q2', true_and]
              refine ⟨sz_lt (by omega), sz_lt (by rw [List.length_map]; omega), ?_⟩
              have tkB := tk9.trans (same_tk sB)
              refine ivW_step (Hr := H12) (pl := pl) (ne := ne) A3 S hm hn5 (ho.1.same sB) (sB _ _ q1) p2 p3 bB g5 g6 g6' g6'' g7 hb0 t1 t2 (t3.mono tkB) t5 hl1 t6' (t7.mono tkB) t8 t9 (t10 hm) hcom hb8' ?_ hgrow t6 ?_
              · rw [if_neg hr]
                refine .tup er (Tps.append ?_ (.cons (.int _) .nil))
                generalize wordsFT all i1 (cntM h) = names
                induction names with
                | nil => exact .nil
                | cons x r ih => exact .cons (.str x) ih
              · revert ho2
                cases b8 with
                | true => exact id
                | false =>
                  cases lexpr n (all.drop (i1 + cntM h)) rows1 with
                  | none => exact id
                  | some u => exact fun z => ⟨z.1, z.2.1, z.2.2.1.mono (same_tk sB), z.2.2.2⟩
        · rw [if_neg hcm]
          refine ivW_out wv sm b5 fun i1' us1' _ S' => ?_
          have := S'.s
          rw [S5.s] at this
          obtain ⟨q1, q2⟩ := stO_inj (Option.some.inj this)
          subst q1 q2
          rw [coming_at]
          simpa using hcm
end
end Fk
namespace Fk
open PySem L2
/-! _law_read -/
theorem st_new {lw lr : Addr} : mergeK [] [(Sum.inr (Str.ofString "words"), V.ref lw), (Sum.inr (Str.ofString "at"), V.int 0), (Sum.inr (Str.ofString "rows"), V.ref lr), (Sum.inr (Str.ofString "bad"), V.bl false)] = [(Sum.inr (Str.ofString "words"), V.ref lw), (Sum.inr (Str.ofString "at"), V.int 0), (Sum.inr (Str.ofString "rows"), V.ref lr), (Sum.inr (Str.ofString "bad"), V.bl false)] := by rfl
theorem st_mk {lw lr : Addr} : HO.dK [(Sum.inr (Str.ofString "words"), V.ref lw), (Sum.inr (Str.ofString "at"), V.int 0), (Sum.inr (Str.ofString "rows"), V.ref lr), (Sum.inr (Str.ofString "bad"), V.bl false)] = stO lw 0 lr false := by rfl
local macro_rules | `(tactic| walk_at "ev") => `(tactic| try simp only [cx_K, L2.start, List.map_cons, List.map_nil, List.length_cons, List.length_nil, Nat.reduceAdd, Nat.reduceSub, Nat.reduceLT, List.replicate_succ, List.replicate_zero, List.cons_append, List.nil_append, Nat.zero_add, Nat.add_zero,
  tSeq, tAsg, tLst, tTup, tNil, tCons, tC, tOp, tUn, gName, tNext, tRet, tRetN, tIfS, tDrop, tCB, tCall, tMeth, tMake, tIf, tAnd, tOr, tNot, tAndV, tOrV, tNotV, qFor, qLc, tYes, wStr, wLst, wTup, wRng1, wRng2, wEnum, wZip, wZipA, wRev, qVar, asB_bl, qAdd_ii, qAdd_ss, qSub_ii, qMul_ii, qMod_ii, qDiv_ii, qPow_ii, qCmpI_ii, qEq_ii, qEq_ss, qEq_bb, qIsN_n, qIsN_i, qIsN_s, qIsN_b, qIsN_r, qInS_s, qInT_r, qIx_s, qIx_r, qT, qIAdd_ii, qIAdd_ss, qLen_s, qLen_r, qAbs_i, qMax2_ii, qMin2_ii, qInt_i, qInt_b, qInt_s, qStrC_i, qStrC_s, qList_r, qTuple_r, tupleAs_l, tupleAs_t, qDivmod_ii, qAll_r, qAny_r, qSl_s, tSl, tNoPart, tPart, qPar, qPar3,
  qApp, qExt, qPop, isLst, qFld, qSetF, qAugF, qAug, qgTup, qgCons, qgNil, qNeg, qDG, qDIn, qDPut, qDGet2, qUpd, keyOf, qJoin, qWords, qStrip, qSum, qMaxA, qSIdx, qLIdx, qRevS, qIsi, qIsi2, qIsiC, qChain, isBl, tyN, gSub, qSetL, yv, wipe,
  List.getElem?_cons_zero, List.getElem?_cons_succ, List.set_cons_zero, List.set_cons_succ, upd_same, lstOf, tupOf, seqOf, at0, at1, at2, at3, ix0, ix1, ix2, sz0, sz1, sz2, sz3, sz4, sz5, sz6, sz7, sz8, sz15, true_and, and_true, and_self, if_true, if_false, if_pos,
  beq_t, beq_f, decide_eq_true_eq, decide_eq_false_iff_not, Bool.not_eq_true', Bool.not_eq_true, Bool.not_eq_false, Bool.not_true, Bool.not_false, Bool.false_eq_true, reduceCtorEq, ite_not, if_true, if_false, reduceIte, V.int.injEq, V.str.injEq, V.bl.injEq, V.ref.injEq, List.append_nil, forall_eq', exists_eq_left, exists_eq_left'])
local macro_rules | `(tactic| walk_at "evs") => `(tactic| try simp only [cx_K, L2.start, List.map_cons, List.map_nil, List.length_cons, List.length_nil, Nat.reduceAdd, Nat.reduceSub, Nat.reduceLT, List.replicate_succ, List.replicate_zero, List.cons_append, List.nil_append, Nat.zero_add, Nat.add_zero,
  tSeq, tAsg, tLst, tTup, tNil, tCons, tC, tOp, tUn, gName, tNext, tRet, tRetN, tIfS, tDrop, tCB, tCall, tMeth, tMake, tIf, tAnd, tOr, tNot, tAndV, tOrV, tNotV, qFor, qLc, tYes, wStr, wLst, wTup, wRng1, wRng2, wEnum, wZip, wZipA, wRev, qVar, asB_bl, qAdd_ii, qAdd_ss, qSub_ii, qMul_ii, qMod_ii, qDiv_ii, qPow_ii, qCmpI_ii, qEq_ii, qEq_ss, qEq_bb, qIsN_n, qIsN_i, qIsN_s, qIsN_b, qIsN_r, qInS_s, qInT_r, qIx_s, qIx_r, qT, qIAdd_ii, qIAdd_ss, qLen_s, qLen_r, qAbs_i, qMax2_ii, qMin2_ii, qInt_i, qInt_b, qInt_s, qStrC_i, qStrC_s, qList_r, qTuple_r, tupleAs_l, tupleAs_t, qDivmod_ii, qAll_r, qAny_r, qSl_s, tSl, tNoPart, tPart, qPar, qPar3,
  qApp, qExt, qPop, isLst, qFld, qSetF, qAugF, qAug, qgTup, qgCons, qgNil, qNeg, qDG, qDIn, qDPut, qDGet2, qUpd, keyOf, qJoin, qWords, qStrip, qSum, qMaxA, qSIdx, qLIdx, qRevS, qIsi, qIsi2, qIsiC, qChain, isBl, tyN, gSub, qSetL, yv, wipe,
  List.getElem?_cons_zero, List.getElem?_cons_succ, List.set_cons_zero, List.set_cons_succ, upd_same, lstOf, tupOf, seqOf, at0, at1, at2, at3, ix0, ix1, ix2, sz0, sz1, sz2, sz3, sz4, sz5, sz6, sz7, sz8, sz15, true_and, and_true, and_self, if_true, if_false, if_pos,
  beq_t, beq_f, decide_eq_true_eq, decide_eq_false_iff_not, Bool.not_eq_true', Bool.not_eq_true, Bool.not_eq_false, Bool.not_true, Bool.not_false, Bool.false_eq_true, reduceCtorEq, ite_not, if_true, if_false, reduceIte, V.int.injEq, V.str.injEq, V.bl.injEq, V.ref.injEq, List.append_nil, forall_eq', exists_eq_left, exists_eq_left', st_words, st_at, st_rows, st_bad, st_put_at, st_put_bad, qDisp, tPairs, kvsOf, dk_dK, upd2, st_new, st_mk, *])
local macro_rules | `(tactic| walk_at "evo") => `(tactic| try simp only [cx_K, L2.start, List.map_cons, List.map_nil, List.length_cons, List.length_nil, Nat.reduceAdd, Nat.reduceSub, Nat.reduceLT, List.replicate_succ, List.replicate_zero, List.cons_append, List.nil_append, Nat.zero_add, Nat.add_zero,
  tSeq, tAsg, tLst, tTup, tNil, tCons, tC, tOp, tUn, gName, tNext, tRet, tRetN, tIfS, tDrop, tCB, tCall, tMeth, tMake, tIf, tAnd, tOr, tNot, tAndV, tNotV, qFor, qLc, tYes, wStr, wLst, wTup, wRng1, wRng2, wEnum, wZip, wZipA, wRev, qVar, asB_bl, qAdd_ii, qAdd_ss, qSub_ii, qMul_ii, qMod_ii, qDiv_ii, qPow_ii, qCmpI_ii, qEq_ii, qEq_ss, qEq_bb, qIsN_n, qIsN_i, qIsN_s, qIsN_b, qIsN_r, qInS_s, qInT_r, qIx_s, qIx_r, qT, qIAdd_ii, qIAdd_ss, qLen_s, qLen_r, qAbs_i, qMax2_ii, qMin2_ii, qInt_i, qInt_b, qInt_s, qStrC_i, qStrC_s, qList_r, qTuple_r, tupleAs_l, tupleAs_t, qDivmod_ii, qAll_r, qAny_r, qSl_s, tSl, tNoPart, tPart, qPar, qPar3,
  qApp, qExt, qPop, isLst, qFld, qSetF, qAugF, qAug, qgTup, qgCons, qgNil, qNeg, qDG, qDIn, qDPut, qDGet2, qUpd, keyOf, qJoin, qWords, qStrip, qSum, qMaxA, qSIdx, qLIdx, qRevS, qIsi, qIsi2, qIsiC, qChain, isBl, tyN, gSub, qSetL, yv, wipe,
  List.getElem?_cons_zero, List.getElem?_cons_succ, List.set_cons_zero, List.set_cons_succ, upd_same, lstOf, tupOf, seqOf, at0, at1, at2, at3, ix0, ix1, ix2, sz0, sz1, sz2, sz3, sz4, sz5, sz6, sz7, sz8, sz15, true_and, and_true, and_self, if_true, if_false, if_pos,
  beq_t, beq_f, decide_eq_true_eq, decide_eq_false_iff_not, Bool.not_eq_true', Bool.not_eq_true, Bool.not_eq_false, Bool.not_true, Bool.not_false, Bool.false_eq_true, reduceCtorEq, ite_not, if_true, if_false, reduceIte, V.int.injEq, V.str.injEq, V.bl.injEq, V.ref.injEq, List.append_nil, forall_eq', exists_eq_left, exists_eq_left', st_words, st_at, st_rows, st_bad, st_put_at, st_put_bad, qDisp, tPairs, kvsOf, dk_dK, upd2, st_new, st_mk, *])
theorem orV_g {tA tB : TE} {σ : St} {H : Hp} {Q : VK} {b c : Bool} (R : Hp → Prop) (hA : ∀ Q : VK, (∀ H', R H' → Q (.bl b) H') → tA σ H Q) (hB : ∀ H1, R H1 → ∀ Q : VK, (∀ H', R H' → Q (.bl c) H') → tB σ H1 Q) (q : ∀ H', R H' → Q (.bl (b || c)) H') : tOrV tA tB σ H Q := by
  unfold tOrV
  refine hA _ fun H1 s1 => ⟨b, rfl, ?_⟩
  cases b with
  | true => exact q H1 s1
  | false => exact hB H1 s1 _ q
theorem ldefs_at {all : List Str} {i j : Nat} {rows : Rows} (hi : i < all.length) : ldefs (j + 1) (all.drop i) rows = if wordAt all i = "(" ∧ wordAt all (i + 1) = "def" then (if isName (wordAt all (i + 2)) = true then (match lexpr 161 (all.drop (i + 3)) rows with
              | none => none
              | some (p, _, ws, rows) => (match ws with
                | [] => none
                | c :: ws => if c = ")" then (match ldefs j ws rows with
                    | none => none
                    | some (xs, ps, rows) => some (wordAt all (i + 2) :: xs, (p : Int) :: ps, rows)) else none)) else none) else none := by
  rcases rest_at (all := all) (i := i) with ⟨_, h1⟩ | ⟨h, _⟩
  rotate_left
  · omega
  rw [h1, ldefs_succ]
  rcases rest_at (all := all) (i := i + 1) with ⟨_, h2⟩ | ⟨_, h2, h3⟩
  · rw [h2]
    simp only
    by_cases hc : wordAt all i = "(" ∧ wordAt all (i + 1) = "def"
    · rw [if_pos hc, if_pos hc, named_at all (i + 1 + 1)]
      by_cases hn : isName (wordAt all (i + 2)) = true
      · rw [if_pos hn, if_pos hn]
        try rfl
      · rw [if_neg hn, if_neg hn]
        try rfl
    · rw [if_neg hc, if_neg hc]
  · rw [h2, h3, if_neg (fun h => absurd h.2 (by decide +kernel))]
-- _law_read  names ["text", "state", "names", "roots"]  needs ['c__law_words', 'z_len', 'c__law_word', 'c__law_named', 'c__law_expr']
abbrev s_law_read : Stmt := topS 37
theorem sc_law_read : FnScope ["text", "state", "names", "roots"] ["text"] (defScope s_law_read) := ⟨rfl, rfl, rfl, by decide +kernel, rfl, by decide +kernel, by decide +kernel⟩
section
variable {P : Program} {w : World} {K : PySem.W.Frag} {mg : Str → Option Value} {base : Heap} {f : Addr} {fd : FuncData}
/-- the law's own room -/
def RLa (k : Nat) (A : Around) : Prop := A.handled = none ∧ A.depth + k + 340 < recursionLimit ∧ A.units + 8 * k + 1700 < cLine
def sp_lread : Sp := fun vs H Q _ => ∃ z : Str, vs = [.str z] ∧ z.length ≤ 1000000 ∧ (match readM (wordsOf z.cps.toList) with
  | none => ∀ H', Same H H' → Q .non H'
  | some (xs, ps, rows) => ∀ H' t ln lo lr us, Same H H' → H' t = some (.tup [.ref ln, .ref lo, .ref lr]) → H' ln = some (.lst (xs.map V.str)) → H' lo = some (.lst (ps.map V.int)) → H' lr = some (.lst us) → Tps H' us rows → Q (.ref t) H')
def cont2 (xs : List Str) (ps : List Int) (o : Option (List Str × List Int × Rows)) : Option (List Str × List Int × Rows) := match o with
  | none => none
  | some (ys, qs, rows) => some (xs ++ ys, ps ++ qs, rows)
def ivR (H : Hp) (z : Str) (s lw lr ln lo : Addr) (all : List Str) (k : Nat) (σ : St) (H' : Hp) : Prop :=
  ∃ (i : Nat) (b : Bool) (us : List V) (xs : List Str) (ps : List Int), σ = [some (.str z), some (.ref s), some (.ref ln), some (.ref lo)] ∧ StAt H' s lw lr all i b us ∧ H' ln = some (.lst (xs.map V.str)) ∧ H' lo = some (.lst (ps.map V.int)) ∧ Same H H' ∧ xs.length + k ≤ 14 ∧ ps.length = xs.length ∧ us.length ≤ 1000 ∧
    (match b with
      | true => ldefs 12 all [] = none
      | false => ∃ rows j, k = j + 1 ∧ xs.length + j = 12 ∧ Tps H' us rows ∧ us.length ≤ 160 ∧ ldefs 12 all [] = cont2 xs ps (ldefs j (all.drop i) rows))
theorem ok_lread (F : Fun K "_law_read" "_law_read" s_law_read f fd) (c__law_words : Cal P w K mg base CX0 1 "_law_words" ["text"] sp_words_of) (c__law_word : Cal P w K mg base CX0 1 "_law_word" ["state"] sp_word) (c__law_named : Cal P w K mg base CX0 2 "_law_named" ["state"] sp_named')
    (z_len : mg "len" = none) (c__law_expr : CalA P w K mg base (REx 161) "_law_expr" ["state"] (sp_lexpr 161)) : FnA P w K mg base (RLa 4) f fd ["text"] sp_lread := by
  refine okA F sc_law_read (fun A h => ⟨h.1, by have := h.2.1; omega⟩) (fun vs H Q E h => by obtain ⟨_, rfl, _⟩ := h; rfl) (fun cdv A outer s H vs Q E hA h => ?_)
  have hr : Room 3 (A.deeper (PyProof.Rows.envOfC "_law_read" (defScope s_law_read) s.heap.objs.size f cdv)) := ⟨hA.1, by have := hA.2.1; show A.depth + 1 + _ + 5 < _; omega, by have := hA.2.2; show A.units + 3 + _ + 200 < _; omega⟩
  have hrA : REx 161 (A.deeper (PyProof.Rows.envOfC "_law_read" (defScope s_law_read) s.heap.objs.size f cdv)) := ⟨hA.1, by have := hA.2.1; show A.depth + 1 + _ + 20 < _; omega, by have := hA.2.2; show A.units + 3 + _ + 400 < _; omega⟩
  have hu64 := hr.units
  refine ⟨_, (pss_cons (ps_set (i := 1) sc_law_read.nd rfl (Or.inl rfl) (xdisp (xpps_cons pe_str (pe_c c__law_words hr (pa_cons (xv 0) pa_nil)) (xpps_cons pe_str pe_int (xpps_cons pe_str (pe_lst pa_nil) (xpps_cons pe_str pe_bl xpps_nil)))) (by rfl) (by rfl) (fun z => by cases z) (by decide)))
  (pss_cons (xpar (i := 2) (j := 3) sc_law_read.nd rfl rfl (by decide) rfl rfl (pa_cons (pe_lst pa_nil) (pa_cons (pe_lst pa_nil) pa_nil)) (by rfl))
  (pss_cons (xwhile PassesOwn.never (PW.pt (pw_and (pt_not (xtv (xdget (hu_of hr) (xv 1) pe_str (fun _ _ => rfl)))) (pw_and1 (xt ylt (xdget (hu_of hr) (xv 1) pe_str (fun _ _ => rfl)) (pe_callB ylen (by rfl) z_len PySem.boot_len (pa_cons (xdget (hu_of hr) (xv 1) pe_str (fun _ _ => rfl)) pa_nil)) (nomark _))))) (pss_cons (xdput (hu_of hr) (xv 1) pe_str (pe_or (pe_cmpR (yneP hu64) (pe_lst (pa_cons (pe_c c__law_word hr (pa_cons (xv 1) pa_nil)) (pa_cons (pe_c c__law_word hr (pa_cons (xv 1) pa_nil)) pa_nil))) (pe_lst (pa_cons pe_str (pa_cons pe_str pa_nil))) (nomark _)) (pe_one (pe_cmpR ygt (pe_callB ylen (by rfl) z_len PySem.boot_len (pa_cons (xv 2) pa_nil)) pe_int (nomark _)))) rfl)
  (pss_cons (ps_expr (xapp (xv 2) (pe_c c__law_named hr (pa_cons (xv 1) pa_nil))))
  (pss_cons (ps_expr (xapp (xv 3) (pe_ix yix (pe_cA c__law_expr hrA (pa_cons (xv 1) pa_nil)) pe_int (fun _ _ => rfl))))
  (pss_one (xdput (hu_of hr) (xv 1) pe_str (pe_or (xdget (hu_of hr) (xv 1) pe_str (fun _ _ => rfl)) (pe_one (pe_cmpR (yne hu64) (pe_c c__law_word hr (pa_cons (xv 1) pa_nil)) pe_str (nomark _)))) rfl))))))
  (pss_one (ps_ret (pe_ifExp (PW.pt (pw_or (xtv (xdget (hu_of hr) (xv 1) pe_str (fun _ _ => rfl))) (pw_or1 (xt (yeqP hu64) (xv 2) (pe_lst pa_nil) (nomark _))))) pe_non (pe_tup (pa_cons (xv 2) (pa_cons (xv 3) (pa_cons (xdget (hu_of hr) (xv 1) pe_str (fun _ _ => rfl)) pa_nil)))))))))), ?_⟩
  obtain ⟨z, rfl, hz, q⟩ := h
  walk_at "evs"
  refine fun s hs => ⟨z, rfl, hz, fun lw H0 s0 hlw hw => ?_⟩
  walk_at "evs"
  intro lr hlr
  have hs0 : H0 s = some (.dK []) := s0 _ _ upd_same
  have nls : lr ≠ s := (ne_of_none hs0 hlr).symm
  have nws : lw ≠ s := by rintro rfl; rw [upd_same] at hlw; cases hlw
  have nwr : lw ≠ lr := ne_of_none hw hlr
  refine ⟨by rw [upd_ne nls.symm]; exact hs0, by decide, ?_⟩
  have hz2 : z.cps.toList.length = z.length := len_toList z
  have hall := words_len z.cps.toList [] ""
  have heach : ∀ x ∈ wordsOf z.cps.toList, x.length ≤ 1000000 := words_each (N := 1000000) (by decide) z.cps.toList [] "" (fun x hx => by cases hx) (by rw [show (Str.ofString "").length = 0 by decide +kernel, hz2]; omega)
  have hal : (wordsOf z.cps.toList).length ≤ 2000001 := by
    have : (wordsOf z.cps.toList).length ≤ 0 + 2 * z.cps.toList.length + 1 := hall
    omega
  have hrd := lread_eq z.cps.toList
  rw [← hrd] at q
  generalize wordsOf z.cps.toList = all at *
  have S1 : StAt (upd (upd H0 lr (.lst [])) s (stO lw 0 lr false)) s lw lr all 0 false [] := ⟨upd_same, by rw [upd_ne nws, upd_ne nwr]; exact hw, by rw [upd_ne nls]; exact upd_same, nwr, heach, by omega⟩
  have fr : H lr = none := by
    have := s0.free hlr
    exact (upd_free this).2
  have sH : Same H (upd (upd H0 lr (.lst [])) s (stO lw 0 lr false)) := same_upd (same_upd ((same_new hs (.dK [])).trans s0) fr _) hs _
  generalize upd (upd H0 lr (.lst [])) s (stO lw 0 lr false) = H1 at S1 sH ⊢
  intro ln hln lo hlo
  obtain ⟨nlo, hlo1⟩ := upd_free hlo
  have fln : H ln = none := sH.free hln
  have flo : H lo = none := sH.free hlo1
  have S2 := (S1.new hln (.lst [])).new hlo (.lst [])
  have sH2 := same_upd (same_upd sH fln (.lst [])) flo (.lst [])
  have e1 : upd (upd H1 ln (.lst [])) lo (.lst []) ln = some (.lst []) := same_new hlo _ _ _ upd_same
  have e2 : upd (upd H1 ln (.lst [])) lo (.lst []) lo = some (.lst []) := upd_same
  have nS : ∀ {x}, H1 x = none → x ≠ s ∧ x ≠ lr ∧ x ≠ lw := fun h => ⟨(ne_of_none S1.s h).symm, (ne_of_none S1.r h).symm, (ne_of_none S1.w h).symm⟩
  obtain ⟨ns1, nr1, nw1⟩ := nS hln
  obtain ⟨ns2, nr2, nw2⟩ := nS hlo1
  generalize upd (upd H1 ln (.lst [])) lo (.lst []) = H2 at S2 sH2 e1 e2 ⊢
  refine ⟨ivR H z s lw lr ln lo all, ⟨13, 0, false, [], [], [], rfl, S2, e1, e2, sH2, by decide, rfl, by decide, [], 12, rfl, rfl, .nil, by decide, ?_⟩, ?_⟩
  · show ldefs 12 all [] = cont2 [] [] (ldefs 12 all [])
    cases ldefs 12 all [] with
    | none => rfl
    | some u => rfl
  rintro k σ H3 ⟨i, b, us, xs, ps, rfl, S3, g1, g2, g3, g4, g5, g6, g7⟩
  have f1 := S3.s
  have f2 := S3.w
  cases b with
  | true =>
    walk_at "evo"
    rw [show ldefs 12 all [] = none from g7] at q
    exact q H3 g3
  | false =>
    obtain ⟨rows, j, hkj, hj, t1, t2, t3⟩ := g7
    have hul : us.length = rows.length := t1.length
    walk_at "evo"
    rw [List.length_map]
    by_cases hi : i < all.length
    · rw [if_pos (by omega)]
      refine orV_g (b := !(decide (wordAt all i = "(") && decide (wordAt all (i + 1) = "def"))) (c := decide (11 < xs.length)) (fun H' => StAt H' s lw lr all (i + 2) false us ∧ But [s] H3 H') (fun Q' z2 => ?_) (fun H4 s4 Q' z2 => ?_) (fun H4 s4 => ?_)
      · walk_at "evo"
        refine ⟨s, lw, lr, all, i, false, us, rfl, S3, s, lw, lr, all, i + 1, false, us, rfl, S3.put (i + 1) false, fun p hp p1 hp1 => ?_⟩
        rw [qNeP_rr]
        have bb := ((((But.refl [s] H3).at (p := s) (by simp) (stO lw (i + 1) lr false)).at (p := s) (by simp) (stO lw (i + 2) lr false)).trans (But.new hp (.lst [V.str (wordAt all i), V.str (wordAt all (i + 1))]))).trans (But.new hp1 (.lst [V.str (Str.ofString "("), V.str (Str.ofString "def")]))
        have h5 := (((S3.put (i + 1) false).put (i + 2) false).new hp (.lst [V.str (wordAt all i), V.str (wordAt all (i + 1))])).new hp1 (.lst [V.str (Str.ofString "("), V.str (Str.ofString "def")])
        refine ⟨.list [.str (wordAt all i), .str (wordAt all (i + 1))], .list [.str (Str.ofString "("), .str (Str.ofString "def")], .lst (.inl (.inl (same_new hp1 _ _ _ upd_same))) (.cons (.str _) (.cons (.str _) .nil)), .lst (.inl (.inl upd_same)) (.cons (.str _) (.cons (.str _) .nil)), rfl, rfl, by show min 1 1 ≤ 60; decide, ?_⟩
        have := z2 _ ⟨h5, bb⟩
        have e : PyData.eqv (.list [.str (wordAt all i), .str (wordAt all (i + 1))]) (.list [.str (Str.ofString "("), .str (Str.ofString "def")]) = (decide (wordAt all i = "(") && decide (wordAt all (i + 1) = "def")) := by
          simp [PyData.eqv, PyData.eqvAll]
          try rfl
        rw [e]
        exact this
      · walk_at "evo"
        have k1 := s4.2 _ _ (by simp [ns1]) g1
        rw [k1]
        walk_at "evo"
        rw [List.length_map]
        have := z2 _ s4
        have e : decide ((11 : Int) < (xs.length : Int)) = decide (11 < xs.length) := by
          by_cases h : 11 < xs.length
          · rw [decide_eq_true h, decide_eq_true (by omega)]
          · rw [decide_eq_false h, decide_eq_false (by omega)]
        rw [e]
        exact this
      · obtain ⟨S4, b4⟩ := s4
        have e4 := S4.s
        rw [e4]
        simp only [st_put_bad]
        generalize hbF : (!(decide (wordAt all i = "(") && decide (wordAt all (i + 1) = "def")) || decide (11 < xs.length)) = bF
        have S5 := S4.put (i + 2) bF
        have b5 := b4.at (p := s) (by simp) (stO lw (i + 2) lr bF)
        generalize upd H4 s (stO lw (i + 2) lr bF) = H5 at S5 b5 ⊢
        rw [b5 _ _ (by simp [ns1]) g1]
        refine ⟨rfl, s, lw, lr, all, i + 2, bF, us, rfl, S5, fun H6 S6 b6 => ?_⟩
        have k1 := b6 _ _ (by simp [ns1]) (b5 _ _ (by simp [ns1]) g1)
        have k2 := b6 _ _ (by simp [ns2]) (b5 _ _ (by simp [ns2]) g2)
        simp only [k1]
        have S7 : StAt (upd H6 ln (.lst (xs.map V.str ++ [V.str (wordAt all (i + 2))]))) s lw lr all (i + 3) (bF || !isName (wordAt all (i + 2))) us :=
          ⟨by rw [upd_ne ns1.symm]; exact S6.s, by rw [upd_ne nw1.symm]; exact S6.w, by rw [upd_ne nr1.symm]; exact S6.r, S6.ne, S6.len, S6.few⟩
        have j1 : upd H6 ln (.lst (xs.map V.str ++ [V.str (wordAt all (i + 2))])) ln = some (.lst ((xs ++ [wordAt all (i + 2)]).map V.str)) := by rw [upd_same, List.map_append]; rfl
        have j2 : upd H6 ln (.lst (xs.map V.str ++ [V.str (wordAt all (i + 2))])) lo = some (.lst (ps.map V.int)) := by rw [upd_ne nlo]; exact k2
        have b56 : But [s] H3 H6 := b5.trans b6
        have tk7 : TK H3 (upd H6 ln (.lst (xs.map V.str ++ [V.str (wordAt all (i + 2))]))) := (S3.tk (fun a o na e => b56 a o (by simp only [List.mem_cons, List.not_mem_nil, or_false, not_or] at na ⊢; exact na.1) e)).trans (tk_lst k1 _)
        have sm7 : Same H (upd H6 ln (.lst (xs.map V.str ++ [V.str (wordAt all (i + 2))]))) := same_upd (fun a o e => b56 a o (by simp only [List.mem_cons, List.not_mem_nil, or_false]; rintro rfl; rw [hs] at e; cases e) (g3 _ _ e)) fln _
        generalize upd H6 ln (.lst (xs.map V.str ++ [V.str (wordAt all (i + 2))])) = H7 at S7 j1 j2 tk7 sm7 ⊢
        simp only [j2]
        generalize hb7 : (bF || !isName (wordAt all (i + 2))) = b7 at S7
        refine ⟨sz_lt (by rw [List.length_map]; omega), by first | rfl | trivial, s, lw, lr, all, i + 3, b7, us, rows, rfl, S7, fun _ => ⟨t1.mono tk7, by omega, by omega⟩, by omega, fun H8 t pl ne i8 b8 us8 b78 et ho => ?_⟩
        have S8 := ho.1
        have l1 := b78 _ _ (by simp [ns1, nr1]) j1
        have l2 := b78 _ _ (by simp [ns2, nr2]) j2
        have sm8 : Same H H8 := fun a o e => b78 a o (by
          simp only [List.mem_cons, List.not_mem_nil, or_false, not_or]
          exact ⟨(by rintro rfl; rw [hs] at e; cases e), (by rintro rfl; rw [fr] at e; cases e)⟩) (sm7 _ _ e)
        walk_at "evo"
        have S9 : StAt (upd H8 lo (.lst (ps.map V.int ++ [V.int pl]))) s lw lr all i8 b8 us8 :=
          ⟨by rw [upd_ne ns2.symm]; exact S8.s, by rw [upd_ne nw2.symm]; exact S8.w, by rw [upd_ne nr2.symm]; exact S8.r, S8.ne, S8.len, S8.few⟩
        have l3 : upd H8 lo (.lst (ps.map V.int ++ [V.int pl])) ln = some (.lst ((xs ++ [wordAt all (i + 2)]).map V.str)) := by rw [upd_ne nlo.symm]; exact l1
        have l4 : upd H8 lo (.lst (ps.map V.int ++ [V.int pl])) lo = some (.lst ((ps ++ [pl]).map V.int)) := by rw [upd_same, List.map_append]; rfl
        have tk9 : TK H8 (upd H8 lo (.lst (ps.map V.int ++ [V.int pl]))) := tk_lst l2 _
        have sm9 := same_upd sm8 flo (.lst (ps.map V.int ++ [V.int pl]))
        generalize upd H8 lo (.lst (ps.map V.int ++ [V.int pl])) = H9 at S9 l3 l4 tk9 sm9 ⊢
        have e9 := S9.s
        have hps : ps.length = xs.length := g5
        refine ⟨sz_lt (by rw [List.length_map]; omega), ?_⟩
        have go : ∀ (i' : Nat) (bb : Bool) (H10 : Hp), StAt H10 s lw lr all i' bb us8 → But [s] H9 H10 → us8.length ≤ 1000 → (match bb with
            | true => ldefs 12 all [] = none
            | false => ∃ rows j', j = j' + 1 ∧ xs.length + 1 + j' = 12 ∧ Tps H10 us8 rows ∧ us8.length ≤ 160 ∧ ldefs 12 all [] = cont2 (xs ++ [wordAt all (i + 2)]) (ps ++ [pl]) (ldefs j' (all.drop i') rows)) →
            ∃ m, m < j + 1 ∧ ivR H z s lw lr ln lo all m [some (.str z), some (.ref s), some (.ref ln), some (.ref lo)] H10 := by
          intro i' bb H10 S10 b10 hu hm
          have c1 := b10 _ _ (by simp [ns1]) l3
          have c2 := b10 _ _ (by simp [ns2]) l4
          have sm10 : Same H H10 := fun a o e => b10 a o (by simp only [List.mem_cons, List.not_mem_nil, or_false]; rintro rfl; rw [hs] at e; cases e) (sm9 _ _ e)
          cases bb with
          | true => exact ⟨0, Nat.succ_pos _, i', true, us8, _, _, rfl, S10, c1, c2, sm10, by rw [List.length_append]; show xs.length + 1 + 0 ≤ _; omega, by rw [List.length_append, List.length_append, hps]; rfl, hu, hm⟩
          | false =>
            obtain ⟨rows', j', m1, m2, m3, m4, m5⟩ := hm
            exact ⟨j' + 1, by omega, i', false, us8, _, _, rfl, S10, c1, c2, sm10, by rw [List.length_append]; show xs.length + 1 + (j' + 1) ≤ _; omega, by rw [List.length_append, List.length_append, hps]; rfl, hu, rows', j', rfl, by rw [List.length_append]; exact m2, m3, m4, m5⟩
        have hne : all.drop i ≠ [] := fun h => by have := congrArg List.length h; rw [List.length_drop] at this; simp only [List.length_nil] at this; omega
        have hno : ldefs j (all.drop i) rows = none → ldefs 12 all [] = none := fun h => by rw [t3, h]; rfl
        have hz0 : j = 0 → ldefs j (all.drop i) rows = none := fun h => by
          subst h
          unfold ldefs
          rw [if_neg hne]
        have hgrow := ho.2.1
        have ho2 := ho.2.2
        cases b8 with
        | true =>
          walk_at "evs"
          refine go i8 true _ (S9.put i8 true) ((But.refl _ H9).at (by simp) _) ?_ (hno ?_)
          · cases b7 with
            | true => have := ho2.2; omega
            | false =>
              cases he : lexpr 161 (all.drop (i + 3)) rows with
              | none => rw [he] at ho2; have := ho2.2; omega
              | some u => rw [he] at ho2; have := ho2.1; cases this
          · cases j with
            | zero => exact hz0 rfl
            | succ j =>
              rw [ldefs_at hi]
              by_cases hc : wordAt all i = "(" ∧ wordAt all (i + 1) = "def"
              · rw [if_pos hc]
                by_cases hn : isName (wordAt all (i + 2)) = true
                · rw [if_pos hn]
                  have hb7 : b7 = false := by
                    rw [← hb7, ← hbF, hn, hc.1, hc.2, decide_eq_false (show ¬ 11 < xs.length by omega)]
                    decide +kernel
                  subst hb7
                  cases he : lexpr 161 (all.drop (i + 3)) rows with
                  | none => rfl
                  | some u => rw [he] at ho2; have := ho2.1; cases this
                · rw [if_neg hn]
              · rw [if_neg hc]
        | false =>
          walk_at "evs"
          refine ⟨s, lw, lr, all, i8, false, us8, rfl, S9, ?_⟩
          have S10 := S9.put (i8 + 1) false
          have e10 := S10.s
          have b910 := (But.refl [s] H9).at (p := s) (by simp) (stO lw (i8 + 1) lr false)
          generalize upd H9 s (stO lw (i8 + 1) lr false) = H10 at S10 e10 b910 ⊢
          walk_at "evs"
          have hb7f : b7 = false := by
            cases b7 with
            | false => rfl
            | true => have := ho2.1; cases this
          rw [hb7f] at ho2
          cases he : lexpr 161 (all.drop (i + 3)) rows with
          | none => rw [he] at ho2; have := ho2.1; cases this
          | some u =>
            obtain ⟨pp, m, ws2, rows2⟩ := u
            rw [he] at ho2
            obtain ⟨_, o2, o3, o4, o5, o6⟩ := ho2
            have hF : bF = false ∧ isName (wordAt all (i + 2)) = true := by
              rw [hb7f] at hb7
              cases bF <;> cases hn : isName (wordAt all (i + 2)) <;> rw [hn] at hb7 <;> first | exact ⟨rfl, rfl⟩ | cases hb7
            have hG : wordAt all i = "(" ∧ wordAt all (i + 1) = "def" ∧ xs.length ≤ 11 := by
              have := hbF
              rw [hF.1] at this
              simp only [Bool.or_eq_false_iff, Bool.not_eq_false', Bool.and_eq_true, decide_eq_true_eq, decide_eq_false_iff_not] at this
              exact ⟨this.1.1, this.1.2, by omega⟩
            obtain ⟨j, rfl⟩ : ∃ j', j = j' + 1 := ⟨j - 1, by omega⟩
            have hl := ldefs_at (all := all) (i := i) (j := j) (rows := rows) hi
            rw [if_pos ⟨hG.1, hG.2.1⟩, if_pos hF.2, he] at hl
            simp only at hl
            rw [← o2] at hl
            refine go (i8 + 1) _ _ (S10.put (i8 + 1) _) (b910.at (by simp) _) (by omega) ?_
            by_cases hcl : wordAt all i8 = Str.ofString ")"
            · rw [decide_eq_true hcl]
              have hd : all.drop i8 = Str.ofString ")" :: all.drop (i8 + 1) := by
                rcases rest_at (all := all) (i := i8) with ⟨_, h⟩ | ⟨_, _, h⟩
                · rw [h, hcl]
                · rw [h] at hcl; exact absurd hcl (by decide +kernel)
              rw [hd] at hl
              simp only [if_true] at hl
              refine ⟨rows2, j, rfl, by omega, ?_, o4, ?_⟩
              · have bz := b910.at (p := s) (by simp) (stO lw (i8 + 1) lr (!true))
                exact (o3.mono tk9).mono (S9.tk (fun a o na e => bz a o (by simp only [List.mem_cons, List.not_mem_nil, or_false, not_or] at na ⊢; exact na.1) e))
              · rw [t3, hl, o5]
                cases ldefs j (all.drop (i8 + 1)) rows2 with
                | none => rfl
                | some u =>
                  obtain ⟨a1, a2, a3⟩ := u
                  show some (xs ++ (_ :: a1), ps ++ (_ :: a2), a3) = some (xs ++ [_] ++ a1, ps ++ [_] ++ a2, a3)
                  rw [List.append_assoc, List.append_assoc]
                  rfl
            · rw [decide_eq_false hcl]
              show ldefs 12 all [] = none
              refine hno ?_
              rw [hl]
              rcases rest_at (all := all) (i := i8) with ⟨_, h⟩ | ⟨_, h, _⟩
              · rw [h]
                exact if_neg hcl
              · rw [h]
    · rw [if_neg (by omega)]
      have hd : all.drop i = [] := List.drop_of_length_le (by omega)
      have e0 : ldefs j [] rows = some ([], [], rows) := by cases j <;> rfl
      rw [hd, e0] at t3
      have t4 : ldefs 12 all [] = some (xs, ps, rows) := by rw [t3]; show some (xs ++ [], ps ++ [], rows) = _; rw [List.append_nil, List.append_nil]
      rw [t4] at q
      intro p hp
      rw [qEqP_rr]
      have hx := same_new hp (.lst [])
      have hst : ∀ {H' : Hp} (l : List Str), DpAll K H' (l.map V.str) (l.map PyData.str) := fun l => by
        induction l with
        | nil => exact .nil
        | cons a r ih => exact .cons (.str a) ih
      have hpl : ∀ l : List Str, PyData.plainAll (l.map PyData.str) = true := fun l => by
        induction l with
        | nil => rfl
        | cons a r ih => simp only [List.map_cons, PyData.plainAll, PyData.plain, ih, Bool.and_self]
      refine ⟨.list (xs.map PyData.str), .list [], .lst (.inl (.inl (hx _ _ g1))) (hst xs), .lst (.inl (.inl upd_same)) .nil, ?_, rfl, by show min _ 1 ≤ 60; omega, ?_⟩
      · simp only [PyData.plain]
        exact hpl xs
      · have e : (PyData.eqv (.list (xs.map PyData.str)) (.list []) == true) = decide (xs = []) := by
          cases xs with
          | nil => decide +kernel
          | cons x r => rfl
        rw [e]
        by_cases hxe : xs = []
        · rw [decide_eq_true hxe]
          walk_at "evs"
          simp only [if_pos hxe] at q
          exact q _ (g3.trans hx)
        · rw [decide_eq_false hxe]
          have e3 := hx _ _ S3.s
          walk_at "evs"
          simp only [if_neg hxe] at q
          intro t ht
          have hy := same_new ht (.tup [V.ref ln, V.ref lo, V.ref lr])
          have hxy := hx.trans hy
          exact q _ t ln lo lr us (g3.trans hxy) upd_same (hxy _ _ g1) (hxy _ _ g2) (hxy _ _ S3.r) (t1.mono (same_tk hxy))
end
end Fk
namespace Fk
open PySem L2
/-! _law_same, of two that are alike -/
local macro_rules | `(tactic| walk_at "ev") => `(tactic| try simp only [cx_K, L2.start, List.map_cons, List.map_nil, List.length_cons, List.length_nil, Nat.reduceAdd, Nat.reduceSub, Nat.reduceLT, List.replicate_succ, List.replicate_zero, List.cons_append, List.nil_append, Nat.zero_add, Nat.add_zero,
  tSeq, tAsg, tLst, tTup, tNil, tCons, tC, tOp, tUn, gName, tNext, tRet, tRetN, tIfS, tDrop, tCB, tCall, tMeth, tMake, tIf, tAnd, tOr, tNot, tAndV, tOrV, tNotV, qFor, qLc, tYes, wStr, wLst, wTup, wRng1, wRng2, wEnum, wZip, wZipA, wRev, qVar, asB_bl, qAdd_ii, qAdd_ss, qSub_ii, qMul_ii, qMod_ii, qDiv_ii, qPow_ii, qCmpI_ii, qEq_ii, qEq_ss, qEq_bb, qIsN_n, qIsN_i, qIsN_s, qIsN_b, qIsN_r, qInS_s, qInT_r, qIx_s, qIx_r, qT, qIAdd_ii, qIAdd_ss, qLen_s, qLen_r, qAbs_i, qMax2_ii, qMin2_ii, qInt_i, qInt_b, qInt_s, qStrC_i, qStrC_s, qList_r, qTuple_r, tupleAs_l, tupleAs_t, qDivmod_ii, qAll_r, qAny_r, qSl_s, tSl, tNoPart, tPart, qPar, qPar3,
  qApp, qExt, qPop, isLst, qFld, qSetF, qAugF, qAug, qgTup, qgCons, qgNil, qNeg, qDG, qDIn, qDPut, qDGet2, qUpd, keyOf, qJoin, qWords, qStrip, qSum, qMaxA, qSIdx, qLIdx, qRevS, qIsi, qIsi2, qIsiC, qChain, isBl, tyN, gSub, qSetL, yv, wipe,
  List.getElem?_cons_zero, List.getElem?_cons_succ, List.set_cons_zero, List.set_cons_succ, upd_same, lstOf, tupOf, seqOf, at0, at1, at2, at3, ix0, ix1, ix2, sz0, sz1, sz2, sz3, sz4, sz5, sz6, sz7, sz8, sz15, true_and, and_true, and_self, if_true, if_false, if_pos,
  beq_t, beq_f, decide_eq_true_eq, decide_eq_false_iff_not, Bool.not_eq_true', Bool.not_eq_true, Bool.not_eq_false, Bool.not_true, Bool.not_false, Bool.false_eq_true, reduceCtorEq, ite_not, if_true, if_false, reduceIte, V.int.injEq, V.str.injEq, V.bl.injEq, V.ref.injEq, List.append_nil, forall_eq', exists_eq_left, exists_eq_left'])
local macro_rules | `(tactic| walk_at "evz") => `(tactic| try simp only [cx_K, L2.start, List.map_cons, List.map_nil, List.length_cons, List.length_nil, Nat.reduceAdd, Nat.reduceSub, Nat.reduceLT, List.replicate_succ, List.replicate_zero, List.cons_append, List.nil_append, Nat.zero_add, Nat.add_zero,
  tSeq, tAsg, tLst, tTup, tNil, tCons, tC, tOp, tUn, gName, tNext, tRet, tRetN, tIfS, tDrop, tCB, tCall, tMeth, tMake, tIf, tAnd, tOr, tNot, tAndV, tOrV, tNotV, qFor, qLc, tYes, wStr, wLst, wTup, wRng1, wRng2, wEnum, wZip, wZipA, wRev, qVar, asB_bl, qAdd_ii, qAdd_ss, qSub_ii, qMul_ii, qMod_ii, qDiv_ii, qPow_ii, qCmpI_ii, qEq_ii, qEq_ss, qEq_bb, qIsN_n, qIsN_i, qIsN_s, qIsN_b, qIsN_r, qInS_s, qInT_r, qIx_s, qIx_r, qT, qIAdd_ii, qIAdd_ss, qLen_s, qLen_r, qAbs_i, qMax2_ii, qMin2_ii, qInt_i, qInt_b, qInt_s, qStrC_i, qStrC_s, qList_r, qTuple_r, tupleAs_l, tupleAs_t, qDivmod_ii, qAll_r, qAny_r, qSl_s, tSl, tNoPart, tPart, qPar, qPar3,
  qApp, qExt, qPop, isLst, qFld, qSetF, qAugF, qAug, qgTup, qgCons, qgNil, qNeg, qDG, qDIn, qDPut, qDGet2, qUpd, keyOf, qJoin, qWords, qStrip, qSum, qMaxA, qSIdx, qLIdx, qRevS, qIsi, qIsi2, qIsiC, qChain, isBl, tyN, gSub, qSetL, yv, wipe,
  List.getElem?_cons_zero, List.getElem?_cons_succ, List.set_cons_zero, List.set_cons_succ, upd_same, lstOf, tupOf, seqOf, at0, at1, at2, at3, ix0, ix1, ix2, sz0, sz1, sz2, sz3, sz4, sz5, sz6, sz7, sz8, sz15, true_and, and_true, and_self, if_true, if_false, if_pos,
  beq_t, beq_f, decide_eq_true_eq, decide_eq_false_iff_not, Bool.not_eq_true', Bool.not_eq_true, Bool.not_eq_false, Bool.not_true, Bool.not_false, Bool.false_eq_true, reduceCtorEq, ite_not, if_true, if_false, reduceIte, V.int.injEq, V.str.injEq, V.bl.injEq, V.ref.injEq, List.append_nil, forall_eq', exists_eq_left, exists_eq_left', *])
local macro_rules | `(tactic| walk_at "evx") => `(tactic| try simp only [cx_K, L2.start, List.map_cons, List.map_nil, List.length_cons, List.length_nil, Nat.reduceAdd, Nat.reduceSub, Nat.reduceLT, List.replicate_succ, List.replicate_zero, List.cons_append, List.nil_append, Nat.zero_add, Nat.add_zero,
  tSeq, tAsg, tLst, tTup, tNil, tCons, tC, tOp, tUn, gName, tNext, tRet, tRetN, tIfS, tDrop, tCB, tCall, tMeth, tMake, tIf, tAnd, tOr, tNot, tAndV, tOrV, tNotV, qFor, qLc, tYes, wStr, wLst, wTup, wRng1, wRng2, wEnum, wZip, wZipA, wRev, qVar, asB_bl, qAdd_ii, qAdd_ss, qSub_ii, qMul_ii, qMod_ii, qDiv_ii, qPow_ii, qCmpI_ii, qEq_ii, qEq_ss, qEq_bb, qIsN_n, qIsN_i, qIsN_s, qIsN_b, qIsN_r, qInS_s, qInT_r, qIx_s, qIx_r, qT, qIAdd_ii, qIAdd_ss, qLen_s, qLen_r, qAbs_i, qMax2_ii, qMin2_ii, qInt_i, qInt_b, qInt_s, qStrC_i, qStrC_s, qList_r, qTuple_r, tupleAs_l, tupleAs_t, qDivmod_ii, qAll_r, qAny_r, qSl_s, tSl, tNoPart, tPart, qPar, qPar3,
  qApp, qExt, qPop, isLst, qFld, qSetF, qAugF, qAug, qgTup, qgCons, qgNil, qNeg, qDG, qDIn, qDPut, qDGet2, qUpd, keyOf, qJoin, qWords, qStrip, qSum, qMaxA, qSIdx, qLIdx, qRevS, qIsiC, qChain, isBl, gSub, qSetL, yv, wipe,
  List.getElem?_cons_zero, List.getElem?_cons_succ, List.set_cons_zero, List.set_cons_succ, upd_same, lstOf, tupOf, seqOf, at0, at1, at2, at3, ix0, ix1, ix2, sz0, sz1, sz2, sz3, sz4, sz5, sz6, sz7, sz8, sz15, true_and, and_true, and_self, if_true, if_false, if_pos,
  beq_t, beq_f, decide_eq_true_eq, decide_eq_false_iff_not, Bool.not_eq_true', Bool.not_eq_true, Bool.not_eq_false, Bool.not_true, Bool.not_false, Bool.false_eq_true, reduceCtorEq, ite_not, if_true, if_false, reduceIte, V.int.injEq, V.str.injEq, V.bl.injEq, V.ref.injEq, List.append_nil, forall_eq', exists_eq_left, exists_eq_left', *])
-- _law_same  names ["found", "due", "one", "other"]  needs ['z_isinstance', 'z_list', 'z_tuple', 'z_len', 'z_all', 'z_zip', 'c__law_same', 'z_str', 'z_int', 'z_bool']
abbrev s_law_same : Stmt := topS 38
theorem sc_law_same : FnScope ["found", "due", "one", "other"] ["found", "due"] (defScope s_law_same) := ⟨rfl, rfl, rfl, by decide +kernel, rfl, by decide +kernel, by decide +kernel⟩
def sp_lsame : Nat → Sp
  | 0 => fun _ _ _ _ => False
  | n + 1 => fun vs H Q _ => ∃ (x y : V) (d : PyData), vs = [x, y] ∧ Ld H x d ∧ Ld H y d ∧ okN n d = true ∧ ∀ H', Same H H' → Q (.bl true) H'
theorem isi_of {H : Hp} {x : V} {t T : String} {Q : VK} (h : tyN H x = some t) (hT : five.contains T = true) (q : Q (.bl (isB t T)) H) : qIsi [x, .ty T] H Q := by
  show match tyN H x with
    | some t => five.contains T = true ∧ Q (.bl (isB t T)) H
    | none => False
  rw [h]
  exact ⟨hT, q⟩
theorem isi2_of {H : Hp} {x : V} {p : Addr} {t T U : String} {Q : VK} (h : tyN H x = some t) (hp : H p = some (.tup [.ty T, .ty U])) (hT : five.contains T = true) (hU : five.contains U = true) (q : Q (.bl (isB t T || isB t U)) H) : qIsi2 [x, .ref p] H Q := by
  show match tyN H x, H p with
    | some t, some (.tup [.ty T, .ty U]) => five.contains T = true ∧ five.contains U = true ∧ Q (.bl (isB t T || isB t U)) H
    | _, _ => False
  rw [h, hp]
  exact ⟨hT, hU, q⟩
theorem tyN_l {H : Hp} {a : Addr} {xs : List V} (h : H a = some (.lst xs)) : tyN H (.ref a) = some "list" := by
  unfold tyN
  simp only [h]
theorem tyN_t {H : Hp} {a : Addr} {xs : List V} (h : H a = some (.tup xs)) : tyN H (.ref a) = some "tuple" := by
  unfold tyN
  simp only [h]
section
variable {P : Program} {w : World} {K : PySem.W.Frag} {mg : Str → Option Value} {base : Heap} {f : Addr} {fd : FuncData}
theorem ok_lsame {n : Nat} (F : Fun K "_law_same" "_law_same" s_law_same f fd) (z_isinstance : mg "isinstance" = none) (z_list : mg "list" = none) (z_tuple : mg "tuple" = none) (z_str : mg "str" = none) (z_int : mg "int" = none) (z_bool : mg "bool" = none) (z_len : mg "len" = none) (z_all : mg "all" = none) (z_zip : mg "zip" = none)
    (c__law_same : Cal P w K mg base CX0 (n + 1) "_law_same" ["found", "due"] (sp_lsame n)) : FnOk P w K mg base CX0 (n + 2) f fd ["found", "due"] (sp_lsame (n + 1)) := by
  refine F.ok sc_law_same (fun vs H Q E h => by obtain ⟨_, _, _, rfl, _⟩ := h; rfl) (fun cdv A outer s H vs Q E hr h => ?_)
  have hu64 := hr.units
  refine ⟨_, (pss_cons (ps_if (xtv (pe_callB yisi2 (by rfl) z_isinstance (by decide +kernel) (pa_cons (xv 1) (pa_cons (pe_tup (pa_cons (pe_ty (T := "list") z_list) (pa_cons (pe_ty (T := "tuple") z_tuple) pa_nil))) pa_nil)))) (pss_cons (ps_if (PW.pt (pw_or (xt (yne hu64) (pe_callB yisi (by rfl) z_isinstance (by decide +kernel) (pa_cons (xv 0) (pa_cons (pe_ty (T := "list") z_list) pa_nil))) (pe_callB yisi (by rfl) z_isinstance (by decide +kernel) (pa_cons (xv 1) (pa_cons (pe_ty (T := "list") z_list) pa_nil))) (nomark _)) (pw_or1 (xt (yne hu64) (pe_callB yisi (by rfl) z_isinstance (by decide +kernel) (pa_cons (xv 0) (pa_cons (pe_ty (T := "tuple") z_tuple) pa_nil))) (pe_callB yisi (by rfl) z_isinstance (by decide +kernel) (pa_cons (xv 1) (pa_cons (pe_ty (T := "tuple") z_tuple) pa_nil))) (nomark _))))) (pss_one (ps_ret pe_bl)) pss_nil)
  (pss_one (ps_ret (pe_and (pe_cmpR (yeq hu64) (pe_callB ylen (by rfl) z_len PySem.boot_len (pa_cons (xv 0) pa_nil)) (pe_callB ylen (by rfl) z_len PySem.boot_len (pa_cons (xv 1) pa_nil)) (nomark _)) (pe_one (pe_callB yall (by rfl) z_all (by decide +kernel) (pa_cons (xlc (own := [("one", 2), ("other", 3)]) sc_law_same.nd (xizipA z_zip (xv 0) (xv 1)) (blkOk_by (own := [("one", 2), ("other", 3)]) (N := ["found", "due", "one", "other"]) (sc := defScope s_law_same) (by decide +kernel)) (fun _ _ _ _ _ => (xgtup (n := 2) (xgcons (pg_name (i := 2) sc_law_same.nd rfl (Or.inl rfl)) (xgcons (pg_name (i := 3) sc_law_same.nd rfl (Or.inl rfl)) xgnil)))) (fun _ _ _ _ _ => pts_nil) (fun _ _ _ _ _ => (pe_c c__law_same hr (pa_cons (xv 2) (pa_cons (xv 3) pa_nil))))) pa_nil))))))) pss_nil)
  (pss_cons (ps_if (xtv (pe_callB yisi (by rfl) z_isinstance (by decide +kernel) (pa_cons (xv 1) (pa_cons (pe_ty (T := "str") z_str) pa_nil)))) (pss_one (ps_ret (pe_and (pe_callB yisi (by rfl) z_isinstance (by decide +kernel) (pa_cons (xv 0) (pa_cons (pe_ty (T := "str") z_str) pa_nil))) (pe_one (pe_cmpR (yeq hu64) (xv 0) (xv 1) (nomark _)))))) pss_nil)
  (pss_one (ps_ret (pe_and (pe_callB yisi (by rfl) z_isinstance (by decide +kernel) (pa_cons (xv 0) (pa_cons (pe_ty (T := "int") z_int) pa_nil))) (pe_and (pe_not (pe_callB yisi (by rfl) z_isinstance (by decide +kernel) (pa_cons (xv 0) (pa_cons (pe_ty (T := "bool") z_bool) pa_nil)))) (pe_one (pe_cmpR (yeq hu64) (xv 0) (xv 1) (nomark _))))))))), ?_⟩
  obtain ⟨x, y, d, rfl, h1, h2, hd, q⟩ := h
  walk_at "evx"
  intro p hp
  have sp := same_new hp (.tup [V.ty "list", V.ty "tuple"])
  have ep : upd H p (.tup [V.ty "list", V.ty "tuple"]) p = some (.tup [V.ty "list", V.ty "tuple"]) := upd_same
  have g1 := h1.mono sp
  have g2 := h2.mono sp
  generalize upd H p (.tup [V.ty "list", V.ty "tuple"]) = H1 at sp ep g1 g2 ⊢
  clear h1 h2
  have loop : ∀ (xs ys : List V) (ds : List PyData) (m : Nat) (keep : Hp → Prop) (x y : V) (D : Addr), Lds H1 xs ds → Lds H1 ys ds → n = m + 1 → ds.length ≤ 1000 → ds.all (okN m) = true → (∀ H', Same H1 H' → keep H') → H1 D = none →
      LoopC (List.map ydP (xs.zip ys)) keep (qgTup 2 (qgCons (gName 2) (qgCons (gName 3) qgNil))) tYes (tCall (sp_lsame n) [] E0 (tCons (qVar 2) (tCons (qVar 3) tNil))) [2, 3] [some x, some y, none, none] D H1 fun H' =>
        match
          match H' D with
          | some (HO.lst xs) => some xs
          | some (HO.frz o (HO.lst xs)) => some xs
          | x => none with
        | some ys =>
          match blsOf ys with
          | some bs => Q (V.bl (bs.all id)) H'
          | none => False
        | none => False := by
    intro xs ys ds m keep x y D l1 l2 hn hl hall hk hD
    subst hn
    refine lc_trues hD (by rw [List.length_zip, l1.length]; omega) hk (fun pr hpr H' s' Fin fin => ?_) (fun H' k s' e => ?_)
    · obtain ⟨d, hd, d1, d2⟩ := lds_zip l1 l2 pr hpr
      intro T hT
      walk_at "evz"
      have sT := same_new hT (.tup [pr.1, pr.2])
      refine ⟨pr.1, pr.2, d, rfl, (d1.mono s').mono sT, (d2.mono s').mono sT, List.all_eq_true.mp hall d hd, fun H2 s2 => ?_⟩
      exact fin H2 ((s'.trans sT).trans s2) fun l e => s2 _ _ (sT _ _ e)
    · rw [e]
      simp only [bls_trues, all_trues]
      exact q H' (sp.trans s')
  cases g1 with
  | non => cases n <;> cases hd
  | bl b => cases n <;> cases hd
  | int i =>
    cases g2
    refine isi2_of rfl ep (by decide) (by decide) ?_
    rw [show (isB "int" "list" || isB "int" "tuple") = false by decide]
    walk_at "evx"
    refine isi_of rfl (by decide) ?_
    rw [show isB "int" "str" = false by decide]
    walk_at "evx"
    refine isi_of rfl (by decide) ⟨true, by rw [show isB "int" "int" = true by decide], ?_⟩
    walk_at "evx"
    refine isi_of rfl (by decide) ⟨false, by rw [show isB "int" "bool" = false by decide], ?_⟩
    walk_at "evx"
    exact q _ sp
  | str z =>
    cases g2
    refine isi2_of rfl ep (by decide) (by decide) ?_
    rw [show (isB "str" "list" || isB "str" "tuple") = false by decide]
    walk_at "evx"
    refine isi_of rfl (by decide) ?_
    rw [show isB "str" "str" = true by decide]
    walk_at "evx"
    refine isi_of rfl (by decide) ⟨true, by rw [show isB "str" "str" = true by decide], ?_⟩
    walk_at "evx"
    exact q _ sp
  | @lst a xs ds ha hs =>
    cases g2 with
    | @lst b ys _ hb hs' =>
    obtain ⟨m, rfl⟩ : ∃ m, n = m + 1 := by cases n with | zero => cases hd | succ m => exact ⟨m, rfl⟩
    simp only [okN, Bool.and_eq_true, decide_eq_true_eq] at hd
    refine isi2_of (tyN_l hb) ep (by decide) (by decide) ?_
    rw [show (isB "list" "list" || isB "list" "tuple") = true by decide]
    walk_at "evx"
    refine isi_of (tyN_l ha) (by decide) (isi_of (tyN_l hb) (by decide) ?_)
    walk_at "evx"
    refine isi_of (tyN_l ha) (by decide) (isi_of (tyN_l hb) (by decide) ?_)
    walk_at "evx"
    rw [if_pos (show (xs.length : Int) = (ys.length : Int) by rw [hs.length, hs'.length])]
    exact .inl ⟨xs, ys, rfl, rfl, fun D hD => loop xs ys ds m _ _ _ D hs hs' rfl hd.1 hd.2 (fun H' s => ⟨s _ _ ha, s _ _ hb⟩) hD⟩
  | @tup a xs ds ha hs =>
    cases g2 with
    | @tup b ys _ hb hs' =>
    obtain ⟨m, rfl⟩ : ∃ m, n = m + 1 := by cases n with | zero => cases hd | succ m => exact ⟨m, rfl⟩
    simp only [okN, Bool.and_eq_true, decide_eq_true_eq] at hd
    refine isi2_of (tyN_t hb) ep (by decide) (by decide) ?_
    rw [show (isB "tuple" "list" || isB "tuple" "tuple") = true by decide]
    walk_at "evx"
    refine isi_of (tyN_t ha) (by decide) (isi_of (tyN_t hb) (by decide) ?_)
    walk_at "evx"
    refine isi_of (tyN_t ha) (by decide) (isi_of (tyN_t hb) (by decide) ?_)
    walk_at "evx"
    rw [if_pos (show (xs.length : Int) = (ys.length : Int) by rw [hs.length, hs'.length])]
    exact .inr ⟨xs, ys, rfl, rfl, fun D hD => loop xs ys ds m _ _ _ D hs hs' rfl hd.1 hd.2 (fun H' s => ⟨s _ _ ha, s _ _ hb⟩) hD⟩
end
end Fk
namespace Fk
open PySem L2
/-! _law_told -/
local macro_rules | `(tactic| walk_at "evt") => `(tactic| try simp only [cx_K, L2.start, List.map_cons, List.map_nil, List.length_cons, List.length_nil, Nat.reduceAdd, Nat.reduceSub, Nat.reduceLT, List.replicate_succ, List.replicate_zero, List.cons_append, List.nil_append, Nat.zero_add, Nat.add_zero,
  tSeq, tAsg, tLst, tTup, tNil, tCons, tC, tOp, tUn, gName, tNext, tRet, tRetN, tIfS, tDrop, tCB, tCall, tMeth, tMake, tIf, tAnd, tOr, tNot, tAndV, tOrV, tNotV, qFor, qLc, tYes, wStr, wLst, wTup, wRng1, wRng2, wEnum, wZip, wZipA, wRev, qVar, asB_bl, qAdd_ii, qAdd_ss, qSub_ii, qMul_ii, qMod_ii, qDiv_ii, qPow_ii, qCmpI_ii, qEq_ii, qEq_ss, qEq_bb, qIsN_n, qIsN_i, qIsN_s, qIsN_b, qIsN_r, qInS_s, qInT_r, qIx_s, qIx_r, qT, qIAdd_ii, qIAdd_ss, qLen_s, qLen_r, qAbs_i, qMax2_ii, qMin2_ii, qInt_i, qInt_b, qInt_s, qStrC_i, qStrC_s, qList_r, qTuple_r, tupleAs_l, tupleAs_t, qDivmod_ii, qAll_r, qAny_r, qSl_s, tSl, tNoPart, tPart, qPar, qPar3,
  qApp, qExt, qPop, isLst, qFld, qSetF, qAugF, qAug, qgTup, qgCons, qgNil, qNeg, qDG, qDIn, qDPut, qDGet2, qUpd, keyOf, qJoin, qWords, qStrip, qSum, qMaxA, qSIdx, qLIdx, qRevS, qIsi, qIsi2, qIsiC, qChain, isBl, tyN, gSub, qSetL, yv, wipe,
  List.getElem?_cons_zero, List.getElem?_cons_succ, List.set_cons_zero, List.set_cons_succ, upd_same, lstOf, tupOf, seqOf, at0, at1, at2, at3, ix0, ix1, ix2, sz0, sz1, sz2, sz3, sz4, sz5, sz6, sz7, sz8, sz15, true_and, and_true, and_self, if_true, if_false, if_pos,
  beq_t, beq_f, decide_eq_true_eq, decide_eq_false_iff_not, Bool.not_eq_true', Bool.not_eq_true, Bool.not_eq_false, Bool.not_true, Bool.not_false, Bool.false_eq_true, reduceCtorEq, ite_not, if_true, if_false, reduceIte, V.int.injEq, V.str.injEq, V.bl.injEq, V.ref.injEq, List.append_nil, forall_eq', exists_eq_left, exists_eq_left', pfs_names, pfs_roots, pfs_rows, *])
-- _law_told  names ["text", "caught", "found", "error"]  needs ['c_read', 'm_FlowError', 'z_isinstance', 'gc_Program', 'cl_Program', 'n_Program_names', 'n_Program_roots', 'n_Program_rows', 'gc_BadText', 'z_ValueError']
abbrev s_law_told : Stmt := topS 39
theorem sc_law_told : FnScope ["text", "caught", "found", "error"] ["text"] (defScope s_law_told) := ⟨rfl, rfl, rfl, by decide +kernel, rfl, by decide +kernel, by decide +kernel⟩
section
variable {P : Program} {w : World} {K : PySem.W.Frag} {mg : Str → Option Value} {base : Heap} {f : Addr} {fd : FuncData} {C_Program C_BadText C_FlowError : Addr}
/-- what the law asks of the classes -/
structure TlT (K : PySem.W.Frag) (mg : Str → Option Value) (C_Program C_BadText C_FlowError : Addr) : Prop where
  flow : mg "FlowError" = some (.ref C_FlowError)
  bad : mg "BadText" = some (.ref C_BadText)
  prog : mg "Program" = some (.ref C_Program)
  ex : PySem.W.exmOne K (.ref C_BadText) (.ref C_FlowError) = some true
  xb : ExcC K C_BadText
  kb : PySem.W.kitOne K (.ref C_BadText) (.ref C_BadText) = some true
  kv : PySem.W.kitOne K (.ref C_BadText) (.type "ValueError") = some true
  pf : InsF K C_Program
theorem ok_told (F : Fun K "_law_told" "_law_told" s_law_told f fd) (T : TlT K mg C_Program C_BadText C_FlowError) (G : PgT K mg C_Program) (z_isinstance : mg "isinstance" = none) (z_ValueError : mg "ValueError" = none)
    (c_read : Cal P w K mg base (L2.CX P w) 110 "read" ["text"] (sp_read C_Program C_BadText)) : FnOk P w K mg base CX0 111 f fd ["text"] sp_lread := by
  refine F.ok sc_law_told (fun vs H Q E h => by obtain ⟨_, rfl, _⟩ := h; rfl) (fun cdv A outer s H vs Q E hr h => ?_)
  have m_FlowError := T.flow
  have gc_BadText := T.bad
  have gc_Program := T.prog
  have x_BadText := T.xb
  have k_BadText := T.kb
  have k_VE := T.kv
  have f_Program := T.pf
  have cl_Program := G.cl
  have n_Program_names := G.n1
  have n_Program_roots := G.n2
  have n_Program_rows := G.n3
  have hc_BadText : ∀ u, RelV (.ref C_BadText) u → u = .ref C_BadText := fun _ h => h
  have hc_VE : ∀ u, RelV (.ty "ValueError") u → u = .type "ValueError" := fun _ h => h
  have hu64 := hr.units
  refine ⟨_, (pss_cons (ps_set (i := 1) sc_law_told.nd rfl (Or.inl rfl) pe_non)
  (pss_cons (ps_set (i := 2) sc_law_told.nd rfl (Or.inl rfl) pe_non)
  (pss_cons (xtryK (i := 3) rfl rfl sc_law_told.nd rfl rfl rfl m_FlowError (by decide) rfl (fun W pn xe tk _ => (pss_one (ps_set (i := 2) sc_law_told.nd rfl (Or.inl rfl) (pe_cS c_read hr tk (pa_cons (xv 0) pa_nil))))) (fun a oe cls d pn hz hf => (pss_one (ps_set (i := 1) sc_law_told.nd rfl (Or.inl rfl) (xv 3)))))
  (pss_cons (ps_if (xt yis (xv 1) pe_non (nomark _)) (pss_one (ps_ret (pe_ifExp (xtv (pe_callB (yisiC f_Program) (by rfl) z_isinstance (by decide +kernel) (pa_cons (xv 2) (pa_cons (pe_gr gc_Program) pa_nil)))) (pe_tup (pa_cons (xfld (C := C_Program) cl_Program n_Program_names (xv 2)) (pa_cons (xfld (C := C_Program) cl_Program n_Program_roots (xv 2)) (pa_cons (xfld (C := C_Program) cl_Program n_Program_rows (xv 2)) pa_nil)))) pe_str))) pss_nil)
  (pss_one (ps_ret (pe_ifExp (PW.pt (pw_and (xtv (pe_callB (yisiE x_BadText hc_BadText k_BadText) (by rfl) z_isinstance (by decide +kernel) (pa_cons (xv 1) (pa_cons (pe_gr gc_BadText) pa_nil)))) (pw_and1 (xtv (pe_callB (yisiE x_BadText hc_VE k_VE) (by rfl) z_isinstance (by decide +kernel) (pa_cons (xv 1) (pa_cons (pe_ty (T := "ValueError") z_ValueError) pa_nil))))))) pe_non pe_str))))))), ?_⟩
  obtain ⟨z, rfl, hz, q⟩ := h
  walk_at "evt"
  refine ⟨z, rfl, hz, ?_⟩
  cases hm : readM (wordsOf z.cps.toList) with
  | none =>
    rw [hm] at q
    intro H1 s1
    refine ⟨T.ex, fun a ha => ?_⟩
    walk_at "evt"
    intro ha2
    have e : upd H1 a (ExT (.ref C_BadText) none a) a = some (ExT (.ref C_BadText) none a) := upd_same
    have s2 := same_up s1 ha (ExT (.ref C_BadText) none a)
    generalize upd H1 a (ExT (.ref C_BadText) none a) = H2 at e s2 ⊢
    walk_at "evt"
    exact ⟨a, rfl, e, a, rfl, e, q H2 s2⟩
  | some u =>
    obtain ⟨xs, ps, rows⟩ := u
    rw [hm] at q
    intro H1 p dx ln lo lr s1 hp hdx hln hlo hlr hat
    obtain ⟨e0, e1, e2, us, e3, t1⟩ := hat
    walk_at "evt"
    intro t ht
    have hy := same_new ht (.tup [V.ref ln, V.ref lo, V.ref lr])
    exact q _ t ln lo lr us (s1.trans hy) upd_same (hy _ _ e1) (hy _ _ e2) (hy _ _ e3) (t1.mono (same_tk hy))
end
end Fk
namespace Fk
open PySem L2
/-! what is told is of ints, texts, lists and tuples, and no deeper than five -/
def Add (rows rows' : Rows) : Prop := (∃ new, rows' = rows ++ new ∧ ∀ d ∈ new, okN 3 d = true) ∧ (rows.length ≤ 160 → rows'.length ≤ 160)
theorem Add.refl (r : Rows) : Add r r := ⟨⟨[], (List.append_nil r).symm, fun d h => by cases h⟩, id⟩
theorem Add.trans {a b c : Rows} (h : Add a b) (g : Add b c) : Add a c := by
  obtain ⟨⟨n, rfl, h1⟩, h2⟩ := h
  obtain ⟨⟨m, rfl, g1⟩, g2⟩ := g
  exact ⟨⟨n ++ m, List.append_assoc _ _ _, fun d hd => (List.mem_append.mp hd).elim (h1 d) (g1 d)⟩, fun h => g2 (h2 h)⟩
def GoodE (ex : LE) : Prop := ∀ ws rows p m ws' rows', ex ws rows = some (p, m, ws', rows') → Add rows rows'
theorem lpieces_ok {ex : LE} (he : GoodE ex) : ∀ (pat : List Nat) (ws : List Str) (rows : Rows) (ps : List PyData) (m : Nat) (ws' : List Str) (rows' : Rows), lpieces ex pat ws rows = some (ps, m, ws', rows') → Add rows rows' ∧ ps.length = pat.length ∧ ∀ d ∈ ps, okN 0 d = true
  | [], ws, rows, ps, m, ws', rows', h => by
    simp only [lpieces, Option.some.injEq, Prod.mk.injEq] at h
    obtain ⟨rfl, rfl, rfl, rfl⟩ := h
    exact ⟨Add.refl _, rfl, fun d h => by cases h⟩
  | c :: cs, ws, rows, ps, m, ws', rows', h => by
    by_cases hc : c = 120
    · simp only [lpieces, if_pos hc] at h
      cases e1 : named ws with
      | none => rw [e1] at h; cases h
      | some u =>
        obtain ⟨x, ws1⟩ := u
        rw [e1] at h
        simp only at h
        cases e2 : lpieces ex cs ws1 rows with
        | none => rw [e2] at h; cases h
        | some v =>
          obtain ⟨ps1, m1, ws2, rows2⟩ := v
          rw [e2] at h
          simp only [Option.some.injEq, Prod.mk.injEq] at h
          obtain ⟨rfl, rfl, rfl, rfl⟩ := h
          obtain ⟨i1, i2, i3⟩ := lpieces_ok he cs _ _ _ _ _ _ e2
          refine ⟨i1, congrArg (· + 1) i2, fun d hd => ?_⟩
          rcases List.mem_cons.mp hd with rfl | hd
          · exact okN_str
          · exact i3 d hd
    · simp only [lpieces, if_neg hc] at h
      cases e1 : ex ws rows with
      | none => rw [e1] at h; cases h
      | some u =>
        obtain ⟨x, m0, ws1, rows1⟩ := u
        rw [e1] at h
        simp only at h
        cases e2 : lpieces ex cs ws1 rows1 with
        | none => rw [e2] at h; cases h
        | some v =>
          obtain ⟨ps1, m1, ws2, rows2⟩ := v
          rw [e2] at h
          simp only [Option.some.injEq, Prod.mk.injEq] at h
          obtain ⟨rfl, rfl, rfl, rfl⟩ := h
          obtain ⟨i1, i2, i3⟩ := lpieces_ok he cs _ _ _ _ _ _ e2
          refine ⟨(he _ _ _ _ _ _ e1).trans i1, congrArg (· + 1) i2, fun d hd => ?_⟩
          rcases List.mem_cons.mp hd with rfl | hd
          · exact okN_int
          · exact i3 d hd
theorem lmany_ok {ex : LE} (he : GoodE ex) {pat : List Nat} (hp : pat.length ≤ 3) (hp0 : pat ≠ []) : ∀ (k : Nat) (ws : List Str) (rows : Rows) (qs : List PyData) (m : Nat) (ws' : List Str) (rows' : Rows), lmany ex pat k ws rows = some (qs, m, ws', rows') → Add rows rows' ∧ ∀ d ∈ qs, okN 1 d = true ∧ okN 1 (firstOf d) = true
  | k, ws, rows, qs, m, ws', rows', h => by
    unfold lmany at h
    by_cases hc : coming ws = true
    · rw [if_pos hc] at h
      cases k with
      | zero => cases h
      | succ k =>
        simp only at h
        cases e1 : lpieces ex pat ws rows with
        | none => rw [e1] at h; cases h
        | some u =>
          obtain ⟨ps, m0, ws1, rows1⟩ := u
          rw [e1] at h
          simp only at h
          cases e2 : lmany ex pat k ws1 rows1 with
          | none => rw [e2] at h; cases h
          | some v =>
            obtain ⟨qs1, m1, ws2, rows2⟩ := v
            rw [e2] at h
            simp only [Option.some.injEq, Prod.mk.injEq] at h
            obtain ⟨rfl, rfl, rfl, rfl⟩ := h
            obtain ⟨i1, i2, i3⟩ := lpieces_ok he pat _ _ _ _ _ _ e1
            obtain ⟨j1, j2⟩ := lmany_ok he hp hp0 k _ _ _ _ _ _ e2
            refine ⟨i1.trans j1, fun d hd => ?_⟩
            rcases List.mem_cons.mp hd with rfl | hd
            · refine ⟨?_, ?_⟩
              · simp only [okN, Bool.and_eq_true, decide_eq_true_eq, List.all_eq_true]
                exact ⟨by omega, i3⟩
              · cases ps with
                | nil => exact absurd (List.length_eq_zero_iff.mp i2.symm) hp0
                | cons x r => exact okN_mono (Nat.zero_le 1) (i3 x (by simp))
            · exact j2 d hd
    · rw [if_neg hc] at h
      simp only [Option.some.injEq, Prod.mk.injEq] at h
      obtain ⟨rfl, rfl, rfl, rfl⟩ := h
      exact ⟨Add.refl _, fun d h => by cases h⟩
theorem lpatM_len (h : Str) : (lpatM h).length ≤ 3 ∧ lpatM h ≠ [] := by
  unfold lpatM
  split
  · decide
  · split <;> decide
theorem lparts_ok {ex : LE} (he : GoodE ex) {k : Nat} {h : Str} {ws : List Str} {rows : Rows} {ps : List PyData} {m : Nat} {ws' : List Str} {rows' : Rows} (e : lparts ex k h ws rows = some (ps, m, ws', rows')) : Add rows rows' ∧ ps.length ≤ 4 ∧ ∀ d ∈ ps, okN 2 d = true := by
  unfold lparts at e
  cases e0 : lpat h with
  | none => rw [e0] at e; cases e
  | some pat =>
    have hpl : pat.length ≤ 3 := by have := lpat_len h; rw [e0] at this; exact this
    rw [e0] at e
    simp only at e
    cases e1 : lpieces ex pat ws rows with
    | none => rw [e1] at e; cases e
    | some u =>
      obtain ⟨ps1, m1, ws1, rows1⟩ := u
      rw [e1] at e
      simp only at e
      obtain ⟨i1, i2, i3⟩ := lpieces_ok he pat _ _ _ _ _ _ e1
      by_cases hm : isMany h = true
      · rw [if_pos hm] at e
        cases e2 : lmany ex (lpatM h) k ws1 rows1 with
        | none => rw [e2] at e; cases e
        | some v =>
          obtain ⟨qs, m2, ws2, rows2⟩ := v
          rw [e2] at e
          unfold lend at e
          simp only at e
          split at e
          · cases e
          · next hn =>
            simp only [Option.some.injEq, Prod.mk.injEq] at e
            obtain ⟨rfl, rfl, rfl, rfl⟩ := e
            obtain ⟨j1, j2⟩ := lmany_ok he (lpatM_len h).1 (lpatM_len h).2 k _ _ _ _ _ _ e2
            have hq : qs.length ≤ 8 := by
              have h1 : ¬ lmost h < qs.length := fun g => hn (.inl g)
              have h2 : lmost h ≤ 8 := by unfold lmost; split <;> decide
              omega
            refine ⟨i1.trans j1, by rw [List.length_append]; show _ + 1 ≤ 4; omega, fun d hd => ?_⟩
            rcases List.mem_append.mp hd with hd | hd
            · exact okN_mono (Nat.zero_le 2) (i3 d hd)
            · rw [List.mem_singleton.mp hd]
              simp only [okN, Bool.and_eq_true, decide_eq_true_eq, List.all_eq_true]
              split
              · exact ⟨by rw [List.length_map]; omega, fun x hx => by
                  obtain ⟨y, hy, rfl⟩ := List.mem_map.mp hx
                  exact (j2 y hy).2⟩
              · exact ⟨by omega, fun x hx => (j2 x hx).1⟩
      · rw [if_neg hm] at e
        simp only [Option.some.injEq, Prod.mk.injEq] at e
        obtain ⟨rfl, rfl, rfl, rfl⟩ := e
        exact ⟨i1, by omega, fun d hd => okN_mono (Nat.zero_le 2) (i3 d hd)⟩
theorem lexpr_ok : ∀ n, GoodE (lexpr n)
  | 0 => fun ws rows p m ws' rows' h => by cases h
  | n + 1 => fun ws rows p m ws' rows' h => by
    rw [lexpr_succ] at h
    split at h
    · cases h
    · next hfull =>
      have leaf : ∀ d, okN 3 d = true → Add rows (rows ++ [d]) := fun d hd => ⟨⟨[d], rfl, fun x hx => by rw [List.mem_singleton.mp hx]; exact hd⟩, fun _ => by rw [List.length_append]; show _ + 1 ≤ 160; omega⟩
      cases ws with
      | nil => cases h
      | cons x ws =>
        simp only at h
        split at h
        · simp only [Option.some.injEq, Prod.mk.injEq] at h
          obtain ⟨_, _, _, rfl⟩ := h
          exact leaf _ (by simp [okN, okN_int, okN_str])
        · split at h
          · simp only [Option.some.injEq, Prod.mk.injEq] at h
            obtain ⟨_, _, _, rfl⟩ := h
            exact leaf _ (by simp [okN, okN_int, okN_str])
          · split at h
            · cases ws with
              | nil => cases h
              | cons hd ws =>
                simp only at h
                cases e : lparts (lexpr n) n hd ws (rows ++ [PyData.none]) with
                | none => rw [e] at h; cases h
                | some u =>
                  obtain ⟨ps, m1, ws1, rows1⟩ := u
                  rw [e] at h
                  obtain ⟨⟨⟨new, rfl, i1⟩, i2⟩, i3, i4⟩ := lparts_ok (lexpr_ok n) e
                  unfold lclose at h
                  simp only at h
                  cases ws1 with
                  | nil => cases h
                  | cons c ws2 =>
                    simp only at h
                    split at h
                    · simp only [Option.some.injEq, Prod.mk.injEq] at h
                      obtain ⟨_, _, _, rfl⟩ := h
                      have es : (rows ++ [PyData.none] ++ new).set rows.length (.tuple (.str hd :: ps)) = rows ++ (.tuple (.str hd :: ps) :: new) := by
                        rw [List.append_assoc, List.set_append_right _ _ (Nat.le_refl _), Nat.sub_self]
                        rfl
                      rw [es]
                      refine ⟨⟨_, rfl, fun d hd' => ?_⟩, fun hr => ?_⟩
                      · rcases List.mem_cons.mp hd' with rfl | hd'
                        · simp only [okN, Bool.and_eq_true, decide_eq_true_eq, List.all_eq_true]
                          refine ⟨by rw [List.length_cons]; omega, fun y hy => ?_⟩
                          rcases List.mem_cons.mp hy with rfl | hy
                          · exact okN_str
                          · exact i4 y hy
                        · exact i1 d hd'
                      · have := i2 (by rw [List.length_append]; show _ + 1 ≤ 160; omega)
                        simp only [List.length_append, List.length_cons, List.length_nil] at this ⊢
                        omega
                    · cases h
            · cases h
theorem ldefs_ok : ∀ (k : Nat) (ws : List Str) (rows : Rows) (xs : List Str) (ps : List Int) (rows' : Rows), ldefs k ws rows = some (xs, ps, rows') → Add rows rows' ∧ xs.length ≤ k ∧ ps.length = xs.length
  | k, [], rows, xs, ps, rows', h => by
    have : ldefs k [] rows = some ([], [], rows) := by cases k <;> rfl
    rw [this] at h
    simp only [Option.some.injEq, Prod.mk.injEq] at h
    obtain ⟨rfl, rfl, rfl⟩ := h
    exact ⟨Add.refl _, Nat.zero_le _, rfl⟩
  | 0, a :: r, rows, xs, ps, rows', h => by
    have : ldefs 0 (a :: r) rows = none := by
      unfold ldefs
      rw [if_neg (by simp)]
    rw [this] at h
    cases h
  | k + 1, a :: r, rows, xs, ps, rows', h => by
    rw [ldefs_succ] at h
    cases r with
    | nil => cases h
    | cons b ws =>
      simp only at h
      split at h
      · cases e1 : named ws with
        | none => rw [e1] at h; cases h
        | some u =>
          obtain ⟨x, ws1⟩ := u
          rw [e1] at h
          simp only at h
          cases e2 : lexpr 161 ws1 rows with
          | none => rw [e2] at h; cases h
          | some v =>
            obtain ⟨p, m, ws2, rows2⟩ := v
            rw [e2] at h
            simp only at h
            cases ws2 with
            | nil => cases h
            | cons c ws3 =>
              simp only at h
              split at h
              · cases e3 : ldefs k ws3 rows2 with
                | none => rw [e3] at h; cases h
                | some t =>
                  obtain ⟨xs1, ps1, rows3⟩ := t
                  rw [e3] at h
                  simp only [Option.some.injEq, Prod.mk.injEq] at h
                  obtain ⟨rfl, rfl, rfl⟩ := h
                  obtain ⟨i1, i2, i3⟩ := ldefs_ok k _ _ _ _ _ e3
                  exact ⟨(lexpr_ok 161 _ _ _ _ _ _ e2).trans i1, Nat.succ_le_succ i2, congrArg (· + 1) i3⟩
              · cases h
      · cases h
theorem read_ok {cs : List Nat} {xs : List Str} {ps : List Int} {rows : Rows} (h : readM (wordsOf cs) = some (xs, ps, rows)) : okN 5 (.tuple [.list (xs.map PyData.str), .list (ps.map PyData.int), .list rows]) = true := by
  rw [← lread_eq] at h
  cases e : ldefs 12 (wordsOf cs) [] with
  | none => rw [e] at h; cases h
  | some u =>
    obtain ⟨a, b, c⟩ := u
    rw [e] at h
    simp only at h
    split at h
    · cases h
    · simp only [Option.some.injEq, Prod.mk.injEq] at h
      obtain ⟨rfl, rfl, rfl⟩ := h
      obtain ⟨⟨⟨new, i1, i2⟩, i3⟩, i4, i5⟩ := ldefs_ok 12 _ _ _ _ _ e
      have hl := i3 (Nat.zero_le _)
      simp only [okN, List.all_cons, List.all_nil, Bool.and_true, Bool.and_eq_true, decide_eq_true_eq, List.all_eq_true, List.length_map, List.length_cons, List.length_nil]
      refine ⟨by omega, ⟨by omega, fun d hd => ?_⟩, ⟨by omega, fun d hd => ?_⟩, by omega, fun d hd => ?_⟩
      · obtain ⟨y, _, rfl⟩ := List.mem_map.mp hd
        exact okN_str
      · obtain ⟨y, _, rfl⟩ := List.mem_map.mp hd
        exact okN_int
      · rw [i1, List.nil_append] at hd
        exact i2 d hd
end Fk
namespace Fk
open PySem L2
open TL (tl tl_append len_tl words_tl tl_join join_eq joinL mk_tl ext_tl)
/-! texts, by their signs that are no blanks -/
def nspL (l : List Nat) : Nat := l.countP fun c => !Unicode.isSpace c
def nsp (x : Str) : Nat := nspL (tl x)
theorem nspL_append (a b : List Nat) : nspL (a ++ b) = nspL a + nspL b := List.countP_append
theorem nsp_append (a b : Str) : nsp (a ++ b) = nsp a + nsp b := by unfold nsp; rw [tl_append, nspL_append]
theorem nspL_le (l : List Nat) : nspL l ≤ l.length := List.countP_le_length
theorem nsp_le (x : Str) : nsp x ≤ x.length := by unfold nsp; rw [len_tl]; exact nspL_le _
theorem nspL_cut {l : List Nat} {a b : Nat} (h : a ≤ b) : nspL (l.take a) + nspL (l.drop b) ≤ nspL l := by
  have e : l.drop a = (l.drop a).take (b - a) ++ l.drop b := by
    have := (List.take_append_drop (b - a) (l.drop a)).symm
    rw [List.drop_drop, show a + (b - a) = b by omega] at this
    exact this
  have h1 : nspL l = nspL (l.take a) + nspL (l.drop a) := by rw [← nspL_append, List.take_append_drop]
  rw [h1, e, nspL_append]
  omega
/-- the lengths of some words, together -/
def wlen (st : List (List Nat) × List Nat) : Nat := (st.1.map List.length).sum + st.2.length
theorem wlen_step (st : List (List Nat) × List Nat) (c : Nat) : wlen (TL.wstep st c) = wlen st + nspL [c] := by
  unfold TL.wstep wlen nspL
  by_cases hc : Unicode.isSpace c = true
  · rw [if_pos hc]
    have : List.countP (fun c => !Unicode.isSpace c) [c] = 0 := by simp [hc]
    rw [this]
    split
    · rfl
    · simp
  · rw [if_neg hc]
    have : List.countP (fun c => !Unicode.isSpace c) [c] = 1 := by simp [hc]
    rw [this]
    simp
    omega
theorem wlen_fold : ∀ (l : List Nat) (st : List (List Nat) × List Nat), wlen (l.foldl TL.wstep st) = wlen st + nspL l
  | [], st => rfl
  | c :: r, st => by
    rw [List.foldl_cons, wlen_fold r, wlen_step, Nat.add_assoc, ← nspL_append]
    rfl
theorem words_sum (x : Str) : ((Txt.words x).map (·.length)).sum = nsp x := by
  have h := words_tl x
  have e1 : ((Txt.words x).map (·.length)).sum = (((Txt.words x).map tl).map List.length).sum := by
    rw [List.map_map]
    refine congrArg _ (List.map_congr_left fun a _ => ?_)
    exact len_tl a
  rw [e1, h]
  have h2 := wlen_fold (tl x) ([], [])
  have h3 : ∀ st : List (List Nat) × List Nat, ((TL.wfin st).map List.length).sum = wlen st := fun st => by
    unfold TL.wfin wlen
    split
    · next e => rw [e]; rfl
    · simp
  rw [h3, h2]
  show 0 + nspL (tl x) = _
  rw [Nat.zero_add]
  rfl
theorem sum_len : ∀ (ws : List Str), (∀ a ∈ ws, 1 ≤ a.length) → ws.length ≤ (ws.map (·.length)).sum
  | [], _ => Nat.zero_le _
  | a :: r, h => by
    have h1 := h a (by simp)
    have h2 := sum_len r fun b hb => h b (List.mem_cons_of_mem _ hb)
    simp only [List.map_cons, List.sum_cons, List.length_cons]
    omega
theorem words_few (x : Str) : (Txt.words x).length ≤ nsp x := by
  rw [← words_sum]
  exact sum_len _ (StrLaws.words_pos x)
theorem words_some {x : Str} (h : 0 < nsp x) : 0 < (Txt.words x).length := by
  have := words_sum x
  cases hw : Txt.words x with
  | nil => rw [hw] at this; simp at this; omega
  | cons a r => simp
theorem sum_mem : ∀ {ws : List Str} {a : Str}, a ∈ ws → a.length ≤ (ws.map (·.length)).sum
  | b :: r, a, h => by
    simp only [List.map_cons, List.sum_cons]
    rcases List.mem_cons.mp h with rfl | h
    · omega
    · have := sum_mem h
      omega
theorem word_le {x w : Str} (h : w ∈ Txt.words x) : w.length ≤ nsp x := by
  have := sum_mem h
  rw [words_sum] at this
  exact this
/-- one sign put in blanks -/
theorem repl_nsp {c : Nat} : ∀ (l : List Nat), nspL (StrLaws.replL [c] [32, c, 32] l) = nspL l
  | [] => by rw [StrLaws.replL_nil]
  | d :: r => by
    by_cases h : d = c
    · subst h
      rw [StrLaws.replL_hit (by simp) (by simp)]
      have hs : Unicode.isSpace 32 = true := by decide +kernel
      have e1 : (d :: r).drop [d].length = r := rfl
      rw [e1, nspL_append, repl_nsp r, show d :: r = [d] ++ r from rfl, nspL_append]
      have : nspL [32, d, 32] = nspL [d] := by
        show nspL ([32] ++ ([d] ++ [32])) = _
        rw [nspL_append, nspL_append]
        have e2 : nspL [32] = 0 := by unfold nspL; simp [hs]
        omega
      rw [this]
    · rw [StrLaws.replL_miss (by simp; exact h)]
      show nspL ([d] ++ StrLaws.replL [c] [32, c, 32] r) = nspL ([d] ++ r)
      rw [nspL_append, nspL_append, repl_nsp r]
theorem replace_nsp {c : Nat} {x : Str} : nsp (Txt.replace x ⟨#[c]⟩ ⟨#[32, c, 32]⟩) = nsp x := by
  unfold nsp
  rw [show tl (Txt.replace x ⟨#[c]⟩ ⟨#[32, c, 32]⟩) = _ from StrLaws.replace_list (y := ⟨#[c]⟩) (Nat.le_refl 1)]
  exact repl_nsp _
theorem join_len : ∀ (ws : List Str), (Txt.join (Str.ofString " ") ws).length ≤ (ws.map (·.length)).sum + ws.length ∧ nsp (Txt.join (Str.ofString " ") ws) ≤ (ws.map (·.length)).sum := by
  intro ws
  unfold nsp
  rw [len_tl, join_eq, tl_join]
  have hs : tl (Str.ofString " ") = [32] := by decide +kernel
  rw [hs]
  induction ws with
  | nil => exact ⟨Nat.zero_le _, Nat.zero_le _⟩
  | cons a r ih =>
    cases r with
    | nil =>
      simp only [List.map_cons, List.map_nil, joinL, List.sum_cons, List.sum_nil, List.length_cons, List.length_nil]
      have := nspL_le (tl a)
      have := len_tl a
      omega
    | cons b r =>
      simp only [List.map_cons, joinL, List.length_append, List.length_cons, List.length_nil, List.sum_cons, nspL_append] at ih ⊢
      have h1 : nspL [32] = 0 := by decide +kernel
      have := nspL_le (tl a)
      have := len_tl a
      omega
theorem strip_some {x : Str} (h : Txt.strip x ≠ Str.ofString "") : 0 < nsp x := by
  by_cases h0 : 0 < nsp x
  · exact h0
  exfalso
  apply h
  have hall : ∀ c ∈ tl x, Unicode.isSpace c = true := by
    have h1 : nspL (tl x) = 0 := by unfold nsp at h0; omega
    unfold nspL at h1
    rw [List.countP_eq_zero] at h1
    intro c hc
    have := h1 c hc
    simpa using this
  have lo := PyProof.Rows.lo_facts Unicode.isSpace x
  have hlo : PySem.stripLo Unicode.isSpace true x = x.length := by
    obtain ⟨a, b, c⟩ := lo
    rcases c with c | c
    · exact c
    · by_cases hl : PySem.stripLo Unicode.isSpace true x < x.length
      · rw [← PyProof.Rows.getD_list, List.getD_eq_getElem?_getD, List.getElem?_eq_getElem (by rw [← len_tl]; exact hl)] at c
        have := hall _ (List.getElem_mem (by rw [← len_tl]; exact hl))
        simp only [Option.getD_some] at c
        exact absurd (this.symm.trans c) (by decide)
      · omega
  show Txt.stripBy Unicode.isSpace true true x = _
  rw [PyProof.Rows.stripBy_eq, hlo]
  refine ext_tl ?_
  have : tl (Builtin.Str.strSub x x.length (PySem.stripHi Unicode.isSpace true x x.length)) = [] := by
    show (x.cps.extract _ _).toList = []
    rw [Array.toList_extract]
    simp [List.extract, Str.length]
  rw [this]
  decide +kernel
end Fk
namespace Fk
open PySem L2
open TL (tl tl_append len_tl)
/-! the drawing box, names -/
local macro_rules | `(tactic| walk_at "ev") => `(tactic| try simp only [cx_K, L2.start, List.map_cons, List.map_nil, List.length_cons, List.length_nil, Nat.reduceAdd, Nat.reduceSub, Nat.reduceLT, List.replicate_succ, List.replicate_zero, List.cons_append, List.nil_append, Nat.zero_add, Nat.add_zero,
  tSeq, tAsg, tLst, tTup, tNil, tCons, tC, tOp, tUn, gName, tNext, tRet, tRetN, tIfS, tDrop, tCB, tCall, tMeth, tMake, tIf, tAnd, tOr, tNot, tAndV, tOrV, tNotV, qFor, qLc, tYes, wStr, wLst, wTup, wRng1, wRng2, wEnum, wZip, wZipA, wRev, qVar, asB_bl, qAdd_ii, qAdd_ss, qSub_ii, qMul_ii, qMod_ii, qDiv_ii, qPow_ii, qCmpI_ii, qEq_ii, qEq_ss, qEq_bb, qIsN_n, qIsN_i, qIsN_s, qIsN_b, qIsN_r, qInS_s, qInT_r, qIx_s, qIx_r, qT, qIAdd_ii, qIAdd_ss, qLen_s, qLen_r, qAbs_i, qMax2_ii, qMin2_ii, qInt_i, qInt_b, qInt_s, qStrC_i, qStrC_s, qList_r, qTuple_r, tupleAs_l, tupleAs_t, qDivmod_ii, qAll_r, qAny_r, qSl_s, tSl, tNoPart, tPart, qPar, qPar3,
  qApp, qExt, qPop, isLst, qFld, qSetF, qAugF, qAug, qgTup, qgCons, qgNil, qNeg, qDG, qDIn, qDPut, qDGet2, qUpd, keyOf, qJoin, qWords, qStrip, qSum, qMaxA, qSIdx, qLIdx, qRevS, qIsi, qIsi2, qIsiC, qChain, isBl, tyN, gSub, qSetL, yv, wipe,
  List.getElem?_cons_zero, List.getElem?_cons_succ, List.set_cons_zero, List.set_cons_succ, upd_same, lstOf, tupOf, seqOf, at0, at1, at2, at3, ix0, ix1, ix2, sz0, sz1, sz2, sz3, sz4, sz5, sz6, sz7, sz8, sz15, true_and, and_true, and_self, if_true, if_false, if_pos,
  beq_t, beq_f, decide_eq_true_eq, decide_eq_false_iff_not, Bool.not_eq_true', Bool.not_eq_true, Bool.not_eq_false, Bool.not_true, Bool.not_false, Bool.false_eq_true, reduceCtorEq, ite_not, if_true, if_false, reduceIte, V.int.injEq, V.str.injEq, V.bl.injEq, V.ref.injEq, List.append_nil, forall_eq', exists_eq_left, exists_eq_left'])
local macro_rules | `(tactic| walk_at "evh") => `(tactic| try simp only [cx_K, L2.start, List.map_cons, List.map_nil, List.length_cons, List.length_nil, Nat.reduceAdd, Nat.reduceSub, Nat.reduceLT, List.replicate_succ, List.replicate_zero, List.cons_append, List.nil_append, Nat.zero_add, Nat.add_zero,
  tSeq, tAsg, tLst, tTup, tNil, tCons, tC, tOp, tUn, gName, tNext, tRet, tRetN, tIfS, tDrop, tCB, tCall, tMeth, tMake, tIf, tAnd, tOr, tNot, tAndV, tOrV, tNotV, qFor, qLc, tYes, wStr, wLst, wTup, wRng1, wRng2, wEnum, wZip, wZipA, wRev, qVar, asB_bl, qAdd_ii, qAdd_ss, qSub_ii, qMul_ii, qMod_ii, qDiv_ii, qPow_ii, qCmpI_ii, qEq_ii, qEq_ss, qEq_bb, qIsN_n, qIsN_i, qIsN_s, qIsN_b, qIsN_r, qInS_s, qInT_r, qIx_s, qIx_r, qT, qIAdd_ii, qIAdd_ss, qLen_s, qLen_r, qAbs_i, qMax2_ii, qMin2_ii, qInt_i, qInt_b, qInt_s, qStrC_i, qStrC_s, qList_r, qTuple_r, tupleAs_l, tupleAs_t, qDivmod_ii, qAll_r, qAny_r, qSl_s, tSl, tNoPart, tPart, qPar, qPar3,
  qApp, qExt, qPop, isLst, qFld, qSetF, qAugF, qAug, qgTup, qgCons, qgNil, qNeg, qDG, qDIn, qDPut, qDGet2, qUpd, keyOf, qJoin, qWords, qStrip, qSum, qMaxA, qSIdx, qLIdx, qRevS, qIsi, qIsi2, qIsiC, qChain, isBl, tyN, gSub, qSetL, yv, wipe,
  List.getElem?_cons_zero, List.getElem?_cons_succ, List.set_cons_zero, List.set_cons_succ, upd_same, lstOf, tupOf, seqOf, at0, at1, at2, at3, ix0, ix1, ix2, sz0, sz1, sz2, sz3, sz4, sz5, sz6, sz7, sz8, sz15, true_and, and_true, and_self, if_true, if_false, if_pos,
  beq_t, beq_f, decide_eq_true_eq, decide_eq_false_iff_not, Bool.not_eq_true', Bool.not_eq_true, Bool.not_eq_false, Bool.not_true, Bool.not_false, Bool.false_eq_true, reduceCtorEq, ite_not, if_true, if_false, reduceIte, V.int.injEq, V.str.injEq, V.bl.injEq, V.ref.injEq, List.append_nil, forall_eq', exists_eq_left, exists_eq_left', *])
-- _law_tape  names ["script", "cell"]  needs ['z_abs', 'z_sum', 'z_int']
abbrev s_law_tape : Stmt := topS 17
theorem sc_law_tape : FnScope ["script", "cell"] ["script"] (defScope s_law_tape) := ⟨rfl, rfl, rfl, by decide +kernel, rfl, by decide +kernel, by decide +kernel⟩
-- _law_take  names ["tape", "many", "digit", "once", "twice"]  needs ['z_divmod']
abbrev s_law_take : Stmt := topS 18
theorem sc_law_take : FnScope ["tape", "many", "digit", "once", "twice"] ["tape", "many"] (defScope s_law_take) := ⟨rfl, rfl, rfl, by decide +kernel, rfl, by decide +kernel, by decide +kernel⟩
-- _law_name  names ["cell", "number", "word", "k", "kept"]  needs ['z_range']
abbrev s_law_name : Stmt := topS 19
theorem sc_law_name : FnScope ["cell", "number", "word", "k", "kept"] ["cell"] (defScope s_law_name) := ⟨rfl, rfl, rfl, by decide +kernel, rfl, by decide +kernel, by decide +kernel⟩
-- _law_sign  names ["tape", "some"]  needs ['c__law_take', 'z_len']
abbrev s_law_sign : Stmt := topS 26
theorem sc_law_sign : FnScope ["tape", "some"] ["tape"] (defScope s_law_sign) := ⟨rfl, rfl, rfl, by decide +kernel, rfl, by decide +kernel, by decide +kernel⟩
section
variable {P : Program} {w : World} {K : PySem.W.Frag} {mg : Str → Option Value} {base : Heap} {f : Addr} {fd : FuncData}
def BoxAt (H : Hp) (a : Addr) (n : Nat) : Prop := ∃ b0 b1 b2 : Int, H a = some (.lst [.int b0, .int b1, .int b2]) ∧ 0 ≤ b0 ∧ 0 ≤ b1 ∧ b1 < 2147483647 ∧ 0 ≤ b2 ∧ b2 ≤ n
theorem BoxAt.same {H H' : Hp} {a : Addr} {n : Nat} (h : BoxAt H a n) (e : Same H H') : BoxAt H' a n := by
  obtain ⟨b0, b1, b2, h1, h2⟩ := h
  exact ⟨b0, b1, b2, e _ _ h1, h2⟩
def sp_tape (K : PySem.W.Frag) : Sp := fun vs H Q _ => ∃ (a : Addr) (ns : List Int), vs = [.ref a] ∧ SqL K H a (ns.map V.int) ∧ ns.length ≤ 63 ∧ ∀ p H', Same H H' → H p = none → BoxAt H' p 0 → Q (.ref p) H'
theorem ok_tape (F : Fun K "_law_tape" "_law_tape" s_law_tape f fd) (z_abs : mg "abs" = none) (z_sum : mg "sum" = none) (z_int : mg "int" = none) : FnOk P w K mg base CX0 1 f fd ["script"] (sp_tape K) := by
  refine F.ok sc_law_tape (fun vs H Q E h => by obtain ⟨_, _, rfl, _⟩ := h; rfl) (fun cdv A outer s H vs Q E hr h => ?_)
  have hu64 := hr.units
  refine ⟨_, (pss_cons (ps_set (i := 1) sc_law_tape.nd rfl (Or.inl rfl) (pe_callB yabs (by rfl) z_abs (by decide +kernel) (pa_cons (pe_callB ysum (by rfl) z_sum (by decide +kernel) (pa_cons (pe_slice ysl (xv 0) po_none (po_some pe_int)) pa_nil)) pa_nil)))
  (pss_one (ps_ret (pe_lst (pa_cons (pe_op ymul (xv 1) (pe_callTy yintc (by rfl) z_int (by decide +kernel) (pa_cons (pe_cmpR yge (xv 1) (pe_op ypow pe_int pe_int) (nomark _)) pa_nil))) (pa_cons (pe_op yadd (pe_op ymod (xv 1) pe_int) pe_int) (pa_cons pe_int pa_nil))))))), ?_⟩
  obtain ⟨a, ns, rfl, ha, hn, q⟩ := h
  walk_at "evh"
  refine sl_use ha fun p1 h1 => ?_
  rw [show cutV (ns.map V.int) none (some 1) = _ from cut_to _ 1, ← List.map_take]
  walk_at "evh"
  simp only [intsOf_map]
  generalize (ns.take 1).sum = cell
  have s1 := same_new h1 (.lst ((ns.take 1).map V.int))
  generalize upd H p1 (.lst ((ns.take 1).map V.int)) = H1 at s1 ⊢
  have hc : 0 ≤ (if cell < 0 then -cell else cell) := by split <;> omega
  generalize (if cell < 0 then -cell else cell) = c at hc ⊢
  refine ⟨⟨by decide, by decide, by decide⟩, .inr ?_, by decide, fun p hp => q p _ (s1.trans (same_new hp _)) (s1.free hp) ⟨_, _, _, upd_same, ?_, ?_, ?_, Int.le_refl _, Int.le_refl _⟩⟩
  · split <;> decide
  · refine Int.mul_nonneg hc ?_
    split <;> decide
  · have := Int.emod_nonneg c (show (2147483629 : Int) ≠ 0 by decide)
    omega
  · have := Int.emod_lt_of_pos c (show (0 : Int) < 2147483629 by decide)
    omega
def sp_take (K : PySem.W.Frag) : Sp := fun vs H Q _ => ∃ (a : Addr) (size : Int) (n : Nat), vs = [.ref a, .int size] ∧ BoxAt H a n ∧ n ≤ 100000 ∧ 0 < size ∧ size < 1000000000 ∧ ∀ r H', But [a] H H' → BoxAt H' a (n + 1) → 0 ≤ r → r < size → Q (.int r) H'
theorem ok_take (F : Fun K "_law_take" "_law_take" s_law_take f fd) (z_divmod : mg "divmod" = none) : FnOk P w K mg base CX0 1 f fd ["tape", "many"] (sp_take K) := by
  refine F.ok sc_law_take (fun vs H Q E h => by obtain ⟨_, _, _, rfl, _⟩ := h; rfl) (fun cdv A outer s H vs Q E hr h => ?_)
  have hu64 := hr.units
  refine ⟨_, (pss_cons (ps_if (xt ygt (pe_ix yix (xv 0) pe_int (fun _ _ => rfl)) pe_int (nomark _)) (pss_cons (ps_asg (pe_callB ydivmod (by rfl) z_divmod (by decide +kernel) (pa_cons (pe_ix yix (xv 0) pe_int (fun _ _ => rfl)) (pa_cons (xv 1) pa_nil))) (xgtup (n := 2) (xgcons (pg_sub (xv 0) pe_int ysetl) (xgcons (pg_name (i := 2) sc_law_take.nd rfl (Or.inl rfl)) xgnil))))
  (pss_one (ps_ret (xv 2)))) pss_nil)
  (pss_cons (ps_asg (pe_op yadd (pe_ix yix (xv 0) pe_int (fun _ _ => rfl)) pe_int) (pg_sub (xv 0) pe_int ysetl))
  (pss_cons (ps_set (i := 3) sc_law_take.nd rfl (Or.inl rfl) (pe_op ymod (pe_op ymul (pe_op yadd (pe_ix yix (xv 0) pe_int (fun _ _ => rfl)) (pe_op ymul pe_int (pe_ix yix (xv 0) pe_int (fun _ _ => rfl)))) (pe_op yadd pe_int (pe_ix yix (xv 0) pe_int (fun _ _ => rfl)))) pe_int))
  (pss_cons (ps_set (i := 4) sc_law_take.nd rfl (Or.inl rfl) (pe_op ymod (pe_op yadd (pe_op ymul (xv 3) (pe_op yadd (pe_op ymod (xv 3) pe_int) pe_int)) (pe_ix yix (xv 0) pe_int (fun _ _ => rfl))) pe_int))
  (pss_one (ps_ret (pe_op ymod (pe_op ydiv (pe_op ymod (pe_op ymul (xv 4) (pe_op yadd (pe_op ymod (xv 4) pe_int) pe_int)) pe_int) pe_int) (xv 1)))))))), ?_⟩
  obtain ⟨a, size, n, rfl, ⟨b0, b1, b2, hb, h0, h1, h2, h3, h4⟩, hn, hs0, hs1, q⟩ := h
  walk_at "evh"
  split
  · next hp0 =>
    refine ⟨by omega, fun p hp => ?_⟩
    have hne : a ≠ p := ne_of_none hb hp
    rw [upd_ne hne, hb]
    walk_at "evh"
    exact q _ _ (((But.refl _ H).nw hp _).at (by simp) _) ⟨_, b1, b2, upd_same, Int.ediv_nonneg h0 (by omega), h1, h2, h3, by omega⟩ (Int.emod_nonneg _ (by omega)) (Int.emod_lt_of_pos _ hs0)
  · next hp0 =>
    refine ⟨.inl (by decide), .inr (by omega), by decide, by decide, .inl mod_ok, by decide, by decide, .inl mod_ok, by decide, ⟨by decide, by decide⟩, ?_⟩
    exact q _ _ ((But.refl _ H).at (by simp) _) ⟨b0, b1, b2 + 1, by rw [upd_same], h0, h1, h2, by omega, by omega⟩ (Int.emod_nonneg _ (by omega)) (Int.emod_lt_of_pos _ hs0)
theorem str_len (a b : Str) : (a ++ b).length = a.length + b.length := Array.size_append
theorem str_ix {z : Str} {i : Int} (h0 : 0 ≤ i) (h1 : i < (z.length : Int)) : ∃ c, atI z.cps.toList i = some c := by
  obtain ⟨k, rfl⟩ := Int.eq_ofNat_of_zero_le h0
  have hk : k < z.cps.toList.length := by rw [← len_tl]; omega
  exact ⟨z.cps.toList[k], atI_nat (List.getElem?_eq_getElem hk)⟩
def sp_name : Sp := fun vs H Q _ => ∃ i : Int, vs = [.int i] ∧ ∀ z H', Same H H' → z.length ≤ 13 → Q (.str z) H'
theorem ok_name (F : Fun K "_law_name" "_law_name" s_law_name f fd) (z_range : mg "range" = none) : FnOk P w K mg base CX0 1 f fd ["cell"] sp_name := by
  refine F.ok sc_law_name (fun vs H Q E h => by obtain ⟨_, rfl, _⟩ := h; rfl) (fun cdv A outer s H vs Q E hr h => ?_)
  have hu64 := hr.units
  refine ⟨_, (pss_cons (ps_set (i := 1) sc_law_name.nd rfl (Or.inl rfl) (pe_op ymod (xv 0) pe_int))
  (pss_cons (ps_set (i := 2) sc_law_name.nd rfl (Or.inl rfl) (pe_ix yix pe_str (pe_op ymod (xv 1) pe_int) (fun _ _ => rfl)))
  (pss_cons (xfor PassesOwn.never (xirng1 z_range (pe_op ymod (pe_op ydiv (xv 1) pe_int) pe_int)) (pg_name (i := 3) sc_law_name.nd rfl (Or.inl rfl))
  (pss_cons (ps_set (i := 1) sc_law_name.nd rfl (Or.inl rfl) (pe_op ymod (pe_op ymul (pe_op yadd (pe_op yadd (xv 1) (xv 3)) pe_int) pe_int) pe_int))
  (pss_one (ps_set (i := 2) sc_law_name.nd rfl (Or.inl rfl) (pe_op yadd (xv 2) (pe_ix yix pe_str (pe_op ymod (pe_op ydiv (xv 1) pe_int) pe_int) (fun _ _ => rfl)))))))
  (pss_cons (ps_set (i := 4) sc_law_name.nd rfl (Or.inl rfl) (pe_lst (pa_cons pe_str (pa_cons pe_str (pa_cons pe_str (pa_cons pe_str (pa_cons pe_str (pa_cons pe_str (pa_cons pe_str (pa_cons pe_str (pa_cons pe_str (pa_cons pe_str (pa_cons pe_str (pa_cons pe_str (pa_cons pe_str (pa_cons pe_str (pa_cons pe_str pa_nil)))))))))))))))))
  (pss_cons (ps_if (xt yint (xv 2) (xv 4) (by rfl)) (pss_one (ps_ret (pe_op yadd (xv 2) pe_str))) pss_nil)
  (pss_one (ps_ret (xv 2)))))))), ?_⟩
  obtain ⟨i, rfl, q⟩ := h
  walk_at "evh"
  have m0 := Int.emod_nonneg i (show (2147483647 : Int) ≠ 0 by decide)
  have m1 := Int.emod_lt_of_pos i (show (0 : Int) < 2147483647 by decide)
  generalize i % 2147483647 = n at m0 m1 ⊢
  obtain ⟨c, hc⟩ := str_ix (z := Str.ofString "abcdefghijklmnopqrstuvwxyz") (i := n % 26) (Int.emod_nonneg _ (by decide)) (by
    have := Int.emod_lt_of_pos n (show (0 : Int) < 26 by decide)
    have e : (Str.ofString "abcdefghijklmnopqrstuvwxyz").length = 26 := by decide +kernel
    rw [e]
    omega)
  rw [hc]
  have k0 := Int.emod_nonneg (n / 26) (show (12 : Int) ≠ 0 by decide)
  have k1 := Int.emod_lt_of_pos (n / 26) (show (0 : Int) < 12 by decide)
  refine ⟨by decide, by decide, sz_of (by decide +kernel), by decide, by decide, by omega, by omega, ?_⟩
  refine ⟨Int, _, upto 0 (n / 26 % 12), fun r σ H' => H' = H ∧ ∃ (m : Int) (z : Str) (x : Option V), σ = [some (.int i), some (.int m), some (.str z), x, none] ∧ 0 ≤ m ∧ m < 2147483647 ∧ z.length + r.length ≤ 12 ∧ ∀ y ∈ r, 0 ≤ y ∧ y < 12, rfl, ⟨rfl, n, _, none, rfl, m0, m1, ?_, ?_⟩, fun _ _ _ _ => trivial, ?_, ?_⟩
  · rw [upto_len]
    show 1 + _ ≤ 12
    omega
  · intro y hy
    obtain ⟨j, rfl, hj⟩ := mem_upto hy
    omega
  · rintro y r σ H' ⟨rfl, m, z, x, rfl, h1, h2, h3, h4⟩
    have hy := h4 y (by simp)
    rw [List.length_cons] at h3
    walk_at "evh"
    refine ⟨.inr (by decide), by decide, ⟨by decide, by decide⟩, by decide, ?_⟩
    have e1 := Int.emod_nonneg ((m + y + 1) * 48271) (show (2147483647 : Int) ≠ 0 by decide)
    have e2 := Int.emod_lt_of_pos ((m + y + 1) * 48271) (show (0 : Int) < 2147483647 by decide)
    generalize (m + y + 1) * 48271 % 2147483647 = m2 at e1 e2 ⊢
    obtain ⟨c2, hc2⟩ := str_ix (z := Str.ofString "abcdefghijklmnopqrstuvwxyz0123456789") (i := m2 / 16 % 36) (Int.emod_nonneg _ (by decide)) (by
      have := Int.emod_lt_of_pos (m2 / 16) (show (0 : Int) < 36 by decide)
      have e : (Str.ofString "abcdefghijklmnopqrstuvwxyz0123456789").length = 36 := by decide +kernel
      rw [e]
      omega)
    rw [hc2]
    refine ⟨sz_of (by decide +kernel), sz_of (by show z.length + 1 ≤ _; omega), m2, _, _, rfl, e1, e2, ?_, fun y hy => h4 y (List.mem_cons_of_mem _ hy)⟩
    rw [str_len]
    show z.length + 1 + r.length ≤ 12
    omega
  · rintro σ H' ⟨rfl, m, z, x, rfl, h1, h2, h3, h4⟩
    have h3' : z.length ≤ 12 := by simpa using h3
    walk_at "evh"
    intro p hp
    refine ⟨_, .inl (.inl (.inl upd_same)), rfl, by decide, ?_⟩
    have sp := same_new hp (.lst [V.str (Str.ofString "def"), V.str (Str.ofString "fn"), V.str (Str.ofString "call"), V.str (Str.ofString "let"), V.str (Str.ofString "rec"), V.str (Str.ofString "get"), V.str (Str.ofString "tag"), V.str (Str.ofString "case"), V.str (Str.ofString "row"), V.str (Str.ofString "at"), V.str (Str.ofString "join"), V.str (Str.ofString "size"), V.str (Str.ofString "add"), V.str (Str.ofString "sub"), V.str (Str.ofString "less")])
    split
    · exact ⟨sz_of (by show z.length + 1 ≤ _; omega), q _ _ sp (by rw [str_len]; show z.length + 1 ≤ 13; omega)⟩
    · exact q _ _ sp (by omega)
def sp_sign (K : PySem.W.Frag) : Sp := fun vs H Q _ => ∃ (a : Addr) (n : Nat), vs = [.ref a] ∧ BoxAt H a n ∧ n ≤ 100000 ∧ ∀ z H', But [a] H H' → BoxAt H' a (n + 1) → z.length = 1 → Q (.str z) H'
theorem ok_sign (F : Fun K "_law_sign" "_law_sign" s_law_sign f fd) (z_len : mg "len" = none) (c__law_take : Cal P w K mg base CX0 1 "_law_take" ["tape", "many"] (sp_take K)) : FnOk P w K mg base CX0 2 f fd ["tape"] (sp_sign K) := by
  refine F.ok sc_law_sign (fun vs H Q E h => by obtain ⟨_, _, rfl, _⟩ := h; rfl) (fun cdv A outer s H vs Q E hr h => ?_)
  have hu64 := hr.units
  refine ⟨_, (pss_cons (ps_set (i := 1) sc_law_sign.nd rfl (Or.inl rfl) pe_str)
  (pss_one (ps_ret (pe_ix yix (xv 1) (pe_c c__law_take hr (pa_cons (xv 0) (pa_cons (pe_callB ylen (by rfl) z_len PySem.boot_len (pa_cons (xv 1) pa_nil)) pa_nil))) (fun _ _ => rfl))))), ?_⟩
  obtain ⟨a, n, rfl, hb, hn, q⟩ := h
  walk_at "evh"
  have e : (Str.ofString " !\"#$&'()*+,-./0123456789:;<=>?@ABCDEFGHIJKLMNOPQRSTUVWXYZ[\\]^_`abcdefghijklmnopqrstuvwxyz{|}~\n\t").length = 96 := by decide +kernel
  rw [e]
  refine ⟨sz_of (by decide), a, 96, n, rfl, hb, hn, by decide, by decide, fun r H' b0 h1 h2 h3 => ?_⟩
  obtain ⟨c, hc⟩ := str_ix (z := Str.ofString " !\"#$&'()*+,-./0123456789:;<=>?@ABCDEFGHIJKLMNOPQRSTUVWXYZ[\\]^_`abcdefghijklmnopqrstuvwxyz{|}~\n\t") (i := r) h2 (by rw [e]; exact h3)
  rw [qIx_s, hc]
  exact ⟨sz_of (by rw [e]; decide), q _ _ b0 h1 rfl⟩
end
end Fk
namespace Fk
open PySem L2
open TL (tl tl_append len_tl)
/-! trees as they lie: away from the lists that change -/
mutual
inductive Lx (S : List Addr) (H : Hp) : V → PyData → Prop
  | int (i : Int) : Lx S H (.int i) (.int i)
  | str (x : Str) : Lx S H (.str x) (.str x)
  | lst {a : Addr} {xs : List V} {ds : List PyData} : a ∉ S → H a = some (.lst xs) → Lxs S H xs ds → Lx S H (.ref a) (.list ds)
  | tup {a : Addr} {xs : List V} {ds : List PyData} : a ∉ S → H a = some (.tup xs) → Lxs S H xs ds → Lx S H (.ref a) (.tuple ds)
inductive Lxs (S : List Addr) (H : Hp) : List V → List PyData → Prop
  | nil : Lxs S H [] []
  | cons {v : V} {vs : List V} {d : PyData} {ds : List PyData} : Lx S H v d → Lxs S H vs ds → Lxs S H (v :: vs) (d :: ds)
end
mutual
theorem Lx.mono {S : List Addr} {H H' : Hp} (k : But S H H') : ∀ {v : V} {d : PyData}, Lx S H v d → Lx S H' v d
  | _, _, .int i => .int i
  | _, _, .str x => .str x
  | _, _, .lst n h r => .lst n (k _ _ n h) (Lxs.mono k r)
  | _, _, .tup n h r => .tup n (k _ _ n h) (Lxs.mono k r)
theorem Lxs.mono {S : List Addr} {H H' : Hp} (k : But S H H') : ∀ {vs : List V} {ds : List PyData}, Lxs S H vs ds → Lxs S H' vs ds
  | _, _, .nil => .nil
  | _, _, .cons h r => .cons (Lx.mono k h) (Lxs.mono k r)
end
mutual
theorem Lx.weak {S T : List Addr} {H : Hp} (k : ∀ a, a ∈ T → a ∈ S ∨ H a = none) : ∀ {v : V} {d : PyData}, Lx S H v d → Lx T H v d
  | _, _, .int i => .int i
  | _, _, .str x => .str x
  | _, _, .lst n h r => .lst (fun m => (k _ m).elim n fun z => by rw [z] at h; cases h) h (Lxs.weak k r)
  | _, _, .tup n h r => .tup (fun m => (k _ m).elim n fun z => by rw [z] at h; cases h) h (Lxs.weak k r)
theorem Lxs.weak {S T : List Addr} {H : Hp} (k : ∀ a, a ∈ T → a ∈ S ∨ H a = none) : ∀ {vs : List V} {ds : List PyData}, Lxs S H vs ds → Lxs T H vs ds
  | _, _, .nil => .nil
  | _, _, .cons h r => .cons (Lx.weak k h) (Lxs.weak k r)
end
theorem Lxs.length {S : List Addr} {H : Hp} : ∀ {vs : List V} {ds : List PyData}, Lxs S H vs ds → vs.length = ds.length
  | _, _, .nil => rfl
  | _, _, .cons _ r => congrArg (· + 1) (Lxs.length r)
theorem Lxs.append {S : List Addr} {H : Hp} : ∀ {vs us : List V} {ds es : List PyData}, Lxs S H vs ds → Lxs S H us es → Lxs S H (vs ++ us) (ds ++ es)
  | _, _, _, _, .nil, s => s
  | _, _, _, _, .cons h r, s => .cons h (Lxs.append r s)
theorem lxs_at {S : List Addr} {H : Hp} : ∀ {vs : List V} {ds : List PyData} {i : Nat}, Lxs S H vs ds → i < vs.length → ∃ v d, vs[i]? = some v ∧ ds[i]? = some d ∧ Lx S H v d
  | _, _, _, .nil, h => by cases h
  | _, _, 0, .cons h r, _ => ⟨_, _, rfl, rfl, h⟩
  | _, _, i + 1, .cons h r, l => lxs_at (i := i) r (Nat.lt_of_succ_lt_succ l)
mutual
theorem Lx.dp {K : PySem.W.Frag} {S : List Addr} {H : Hp} : ∀ {v : V} {d : PyData}, Lx S H v d → Dp K H v d
  | _, _, .int i => .int i
  | _, _, .str x => .str x
  | _, _, .lst _ h r => .lst (.inl (.inl h)) (Lxs.dp r)
  | _, _, .tup _ h r => .tup (.inl (.inl h)) (Lxs.dp r)
theorem Lxs.dp {K : PySem.W.Frag} {S : List Addr} {H : Hp} : ∀ {vs : List V} {ds : List PyData}, Lxs S H vs ds → DpAll K H vs ds
  | _, _, .nil => .nil
  | _, _, .cons h r => .cons (Lx.dp h) (Lxs.dp r)
end
mutual
theorem Lx.plain {S : List Addr} {H : Hp} : ∀ {v : V} {d : PyData}, Lx S H v d → d.plain = true
  | _, _, .int i => rfl
  | _, _, .str x => rfl
  | _, _, .lst _ _ r => by simp only [PyData.plain]; exact Lxs.plain r
  | _, _, .tup _ _ r => by simp only [PyData.plain]; exact Lxs.plain r
theorem Lxs.plain {S : List Addr} {H : Hp} : ∀ {vs : List V} {ds : List PyData}, Lxs S H vs ds → PyData.plainAll ds = true
  | _, _, .nil => rfl
  | _, _, .cons h r => by simp only [PyData.plainAll, Lx.plain h, Lxs.plain r, Bool.and_self]
end
/-- what is told plainly within n calls -/
def leafT : PyData → Bool
  | .int i => decide (0 ≤ i ∧ i < 10 ^ 60)
  | .str z => decide (z.length ≤ 13)
  | _ => false
def okR : Nat → PyData → Bool
  | _, .int i => decide (0 ≤ i ∧ i < 10 ^ 60)
  | _, .str z => decide (z.length ≤ 13)
  | n + 1, .tuple ds => decide (ds.length ≤ 30) && ds.all (okR n)
  | n + 1, .list (.str op :: d :: rest) => decide (op.length ≤ 13) && decide (rest.length ≤ 30) && okR n d && rest.all (okR n) && (leafT d || (!decide (op = Str.ofString "num") && !decide (op = Str.ofString "name")))
  | _, _ => false
theorem okR_mono : ∀ {n m : Nat} {d : PyData}, n ≤ m → okR n d = true → okR m d = true
  | n, m, .int i, _, e => by cases n <;> cases m <;> exact e
  | n, m, .str x, _, e => by cases n <;> cases m <;> exact e
  | n + 1, m + 1, .tuple ds, h, e => by
    simp only [okR, Bool.and_eq_true, List.all_eq_true] at e ⊢
    exact ⟨e.1, fun x hx => okR_mono (Nat.le_of_succ_le_succ h) (e.2 x hx)⟩
  | n + 1, m + 1, .list (.str op :: d :: rest), h, e => by
    simp only [okR, Bool.and_eq_true, List.all_eq_true] at e ⊢
    exact ⟨⟨⟨e.1.1.1, okR_mono (Nat.le_of_succ_le_succ h) e.1.1.2⟩, fun x hx => okR_mono (Nat.le_of_succ_le_succ h) (e.1.2 x hx)⟩, e.2⟩
  | 0, _, .tuple ds, _, e => by cases e
  | 0, _, .list _, _, e => by simp [okR] at e
  | n + 1, m + 1, .list [], _, e => by simp [okR] at e
  | n + 1, m + 1, .list [_], _, e => by simp [okR] at e
  | n + 1, m + 1, .list (.int _ :: _ :: _), _, e => by simp [okR] at e
  | n + 1, m + 1, .list (.none :: _ :: _), _, e => by simp [okR] at e
  | n + 1, m + 1, .list (.bool _ :: _ :: _), _, e => by simp [okR] at e
  | n + 1, m + 1, .list (.list _ :: _ :: _), _, e => by simp [okR] at e
  | n + 1, m + 1, .list (.tuple _ :: _ :: _), _, e => by simp [okR] at e
  | n + 1, m + 1, .list (.dict _ :: _ :: _), _, e => by simp [okR] at e
  | n + 1, 0, .tuple ds, h, e => by omega
  | n + 1, 0, .list ds, h, e => by omega
  | n, _, .none, _, e => by cases n <;> simp [okR] at e
  | n, _, .bool _, _, e => by cases n <;> simp [okR] at e
  | n, _, .dict _, _, e => by cases n <;> simp [okR] at e
mutual
/-- no shorter than what is told plainly -/
def pl : PyData → Nat
  | .int _ => 60
  | .str z => z.length
  | .list ds => 2 + plS ds
  | .tuple ds => plS ds
  | .none => 0
  | .bool _ => 0
  | .dict _ => 0
def plS : List PyData → Nat
  | [] => 0
  | d :: r => pl d + 1 + plS r
end
theorem plS_append (a b : List PyData) : plS (a ++ b) = plS a + plS b := by
  induction a with
  | nil => simp [plS]
  | cons d r ih => simp only [List.cons_append, plS, ih]; omega
/-- a tree, to be told within n calls and w signs -/
def TrH (S : List Addr) (H : Hp) (n w : Nat) (v : V) : Prop := ∃ d, Lx S H v d ∧ okR n d = true ∧ pl d ≤ w
def TrsH (S : List Addr) (H : Hp) (n w : Nat) (vs : List V) : Prop := ∃ ds, Lxs S H vs ds ∧ ds.all (okR n) = true ∧ plS ds ≤ w
theorem TrH.mono {S : List Addr} {H H' : Hp} {n m w u : Nat} {v : V} (h : TrH S H n w v) (k : But S H H') (h1 : n ≤ m) (h2 : w ≤ u) : TrH S H' m u v := by
  obtain ⟨d, a, b, c⟩ := h
  exact ⟨d, a.mono k, okR_mono h1 b, Nat.le_trans c h2⟩
theorem TrH.weak {S T : List Addr} {H : Hp} {n w : Nat} {v : V} (h : TrH S H n w v) (k : ∀ a, a ∈ T → a ∈ S ∨ H a = none) : TrH T H n w v := by
  obtain ⟨d, a, b, c⟩ := h
  exact ⟨d, a.weak k, b, c⟩
theorem TrsH.mono {S : List Addr} {H H' : Hp} {n m w u : Nat} {vs : List V} (h : TrsH S H n w vs) (k : But S H H') (h1 : n ≤ m) (h2 : w ≤ u) : TrsH S H' m u vs := by
  obtain ⟨ds, a, b, c⟩ := h
  exact ⟨ds, a.mono k, List.all_eq_true.mpr fun x hx => okR_mono h1 (List.all_eq_true.mp b x hx), Nat.le_trans c h2⟩
theorem TrsH.weak {S T : List Addr} {H : Hp} {n w : Nat} {vs : List V} (h : TrsH S H n w vs) (k : ∀ a, a ∈ T → a ∈ S ∨ H a = none) : TrsH T H n w vs := by
  obtain ⟨d, a, b, c⟩ := h
  exact ⟨d, a.weak k, b, c⟩
theorem TrsH.nil {S : List Addr} {H : Hp} {n : Nat} : TrsH S H n 0 [] := ⟨[], .nil, rfl, Nat.le_refl _⟩
theorem TrsH.snoc {S : List Addr} {H : Hp} {n w u : Nat} {vs : List V} {v : V} (h : TrsH S H n w vs) (g : TrH S H n u v) : TrsH S H n (w + (u + 1)) (vs ++ [v]) := by
  obtain ⟨ds, a, b, c⟩ := h
  obtain ⟨d, a', b', c'⟩ := g
  refine ⟨ds ++ [d], a.append (.cons a' .nil), by rw [List.all_append, b]; simp [b'], ?_⟩
  rw [plS_append]
  simp only [plS]
  omega
theorem but_same {S : List Addr} {H H' : Hp} (s : Same H H') : But S H H' := fun b o _ e => s b o e
/-- a comprehension that makes a tree of each y -/
theorem lct {α : Type} {f : α → Yd} {as : List α} {n : Nat} (wt : α → Nat) {S : List Addr} {keep : Hp → Prop} {g : TG} {te : TE} {vs : List Nat} {σ : St} {D : Addr} {H : Hp} {Q : Hp → Prop} (hD : H D = none) (hl : as.length ≤ 1000) (hk : ∀ H', Same H H' → keep H')
    (step : ∀ y ∈ as, ∀ H', Same H H' → H' D ≠ none → ∀ Fin : VK, (∀ z H2, Same H' H2 → TrH (D :: S) H2 n (wt y) z → Fin z H2) → yv (f y) (fun x H1 => g x (wipe σ vs) H1 fun σ2 H2 => wipe σ2 vs = wipe σ vs ∧ te σ2 H2 Fin) H')
    (done : ∀ H' us, Same H H' → H' D = some (.lst us) → us.length = as.length → TrsH S H' n ((as.map fun y => wt y + 1).sum) us → Q H') : LoopC (as.map f) keep g tYes te vs σ D H Q := by
  refine ⟨α, f, as, fun r H' => ∃ dn us, as = dn ++ r ∧ Same H H' ∧ H' D = some (.lst us) ∧ us.length = dn.length ∧ TrsH (D :: S) H' n ((dn.map fun y => wt y + 1).sum) us, rfl, ⟨[], [], rfl, same_new hD _, upd_same, rfl, .nil⟩, ?_, ?_, ?_⟩
  · rintro r H' ⟨dn, us, _, s, _⟩
    exact hk H' s
  · rintro y r H' ⟨dn, us, hd, s, h1, hu, h2⟩
    refine step y (by rw [hd]; simp) H' s (by rw [h1]; simp) _ fun z H2 s2 tz => ?_
    show match H2 D with
      | some (.lst acc) => acc.length < sizeLine ∧ _
      | _ => False
    have hn := congrArg List.length hd
    rw [List.length_append, List.length_cons] at hn
    rw [s2 _ _ h1]
    have bu : But (D :: S) H2 (upd H2 D (.lst (us ++ [z]))) := (But.refl _ H2).at (by simp) _
    refine ⟨sz_lt (by omega), dn ++ [y], us ++ [z], by rw [hd]; simp, same_upd (s.trans s2) hD _, upd_same, by rw [List.length_append, List.length_append, hu]; rfl, ?_⟩
    have := ((h2.mono (but_same s2) (Nat.le_refl n) (Nat.le_refl _)).snoc tz).mono bu (Nat.le_refl n) (Nat.le_refl _)
    rw [List.map_append, List.sum_append]
    simpa using this
  · rintro H' ⟨dn, us, hd, s, h1, hu, h2⟩
    rw [List.append_nil] at hd
    subst hd
    exact done H' us s h1 hu (h2.weak fun a ha => .inl (List.mem_cons_of_mem _ ha))
/-- an item: a tree, its nest, its size -/
def ItH (S : List Addr) (H : Hp) (v : V) (n s : Nat) : Prop := ∃ (a : Addr) (t : V), v = .ref a ∧ a ∉ S ∧ H a = some (.lst [t, .int (n : Int), .int (s : Int)]) ∧ TrH S H (3 * n) (150 * s - 50) t ∧ 1 ≤ n ∧ 1 ≤ s
theorem ItH.mono {S : List Addr} {H H' : Hp} {v : V} {n s : Nat} (h : ItH S H v n s) (k : But S H H') : ItH S H' v n s := by
  obtain ⟨a, t, h1, h2, h3, h4, h5, h6⟩ := h
  exact ⟨a, t, h1, h2, k _ _ h2 h3, h4.mono k (Nat.le_refl _) (Nat.le_refl _), h5, h6⟩
theorem ItH.weak {S T : List Addr} {H : Hp} {v : V} {n s : Nat} (h : ItH S H v n s) (k : ∀ a, a ∈ T → a ∈ S ∨ H a = none) : ItH T H v n s := by
  obtain ⟨a, t, h1, h2, h3, h4, h5, h6⟩ := h
  exact ⟨a, t, h1, (fun m => (k _ m).elim h2 fun z => by rw [z] at h3; cases h3), h3, h4.weak k, h5, h6⟩
abbrev Its := List (V × Nat × Nat)
def ItsH (S : List Addr) (H : Hp) (as : Its) : Prop := ∀ p ∈ as, ItH S H p.1 p.2.1 p.2.2
theorem ItsH.mono {S : List Addr} {H H' : Hp} {as : Its} (h : ItsH S H as) (k : But S H H') : ItsH S H' as := fun p hp => (h p hp).mono k
theorem ItsH.weak {S T : List Addr} {H : Hp} {as : Its} (h : ItsH S H as) (k : ∀ a, a ∈ T → a ∈ S ∨ H a = none) : ItsH T H as := fun p hp => (h p hp).weak k
def Sub (as' as : Its) : Prop := (∀ p ∈ as', p ∈ as) ∧ as'.length ≤ as.length
theorem Sub.refl (as : Its) : Sub as as := ⟨fun _ h => h, Nat.le_refl _⟩
theorem Sub.trans {a b c : Its} (h : Sub a b) (g : Sub b c) : Sub a c := ⟨fun p hp => g.1 p (h.1 p hp), Nat.le_trans h.2 g.2⟩
local macro_rules | `(tactic| walk_at "ev") => `(tactic| try simp only [cx_K, L2.start, List.map_cons, List.map_nil, List.length_cons, List.length_nil, Nat.reduceAdd, Nat.reduceSub, Nat.reduceLT, List.replicate_succ, List.replicate_zero, List.cons_append, List.nil_append, Nat.zero_add, Nat.add_zero,
  tSeq, tAsg, tLst, tTup, tNil, tCons, tC, tOp, tUn, gName, tNext, tRet, tRetN, tIfS, tDrop, tCB, tCall, tMeth, tMake, tIf, tAnd, tOr, tNot, tAndV, tOrV, tNotV, qFor, qLc, tYes, wStr, wLst, wTup, wRng1, wRng2, wEnum, wZip, wZipA, wRev, qVar, asB_bl, qAdd_ii, qAdd_ss, qSub_ii, qMul_ii, qMod_ii, qDiv_ii, qPow_ii, qCmpI_ii, qEq_ii, qEq_ss, qEq_bb, qIsN_n, qIsN_i, qIsN_s, qIsN_b, qIsN_r, qInS_s, qInT_r, qIx_s, qIx_r, qT, qIAdd_ii, qIAdd_ss, qLen_s, qLen_r, qAbs_i, qMax2_ii, qMin2_ii, qInt_i, qInt_b, qInt_s, qStrC_i, qStrC_s, qList_r, qTuple_r, tupleAs_l, tupleAs_t, qDivmod_ii, qAll_r, qAny_r, qSl_s, tSl, tNoPart, tPart, qPar, qPar3,
  qApp, qExt, qPop, isLst, qFld, qSetF, qAugF, qAug, qgTup, qgCons, qgNil, qNeg, qDG, qDIn, qDPut, qDGet2, qUpd, keyOf, qJoin, qWords, qStrip, qSum, qMaxA, qSIdx, qLIdx, qRevS, qIsi, qIsi2, qIsiC, qChain, isBl, tyN, gSub, qSetL, yv, wipe,
  List.getElem?_cons_zero, List.getElem?_cons_succ, List.set_cons_zero, List.set_cons_succ, upd_same, lstOf, tupOf, seqOf, at0, at1, at2, at3, ix0, ix1, ix2, sz0, sz1, sz2, sz3, sz4, sz5, sz6, sz7, sz8, sz15, true_and, and_true, and_self, if_true, if_false, if_pos,
  beq_t, beq_f, decide_eq_true_eq, decide_eq_false_iff_not, Bool.not_eq_true', Bool.not_eq_true, Bool.not_eq_false, Bool.not_true, Bool.not_false, Bool.false_eq_true, reduceCtorEq, ite_not, if_true, if_false, reduceIte, V.int.injEq, V.str.injEq, V.bl.injEq, V.ref.injEq, List.append_nil, forall_eq', exists_eq_left, exists_eq_left'])
local macro_rules | `(tactic| walk_at "evh") => `(tactic| try simp only [cx_K, L2.start, List.map_cons, List.map_nil, List.length_cons, List.length_nil, Nat.reduceAdd, Nat.reduceSub, Nat.reduceLT, List.replicate_succ, List.replicate_zero, List.cons_append, List.nil_append, Nat.zero_add, Nat.add_zero,
  tSeq, tAsg, tLst, tTup, tNil, tCons, tC, tOp, tUn, gName, tNext, tRet, tRetN, tIfS, tDrop, tCB, tCall, tMeth, tMake, tIf, tAnd, tOr, tNot, tAndV, tOrV, tNotV, qFor, qLc, tYes, wStr, wLst, wTup, wRng1, wRng2, wEnum, wZip, wZipA, wRev, qVar, asB_bl, qAdd_ii, qAdd_ss, qSub_ii, qMul_ii, qMod_ii, qDiv_ii, qPow_ii, qCmpI_ii, qEq_ii, qEq_ss, qEq_bb, qIsN_n, qIsN_i, qIsN_s, qIsN_b, qIsN_r, qInS_s, qInT_r, qIx_s, qIx_r, qT, qIAdd_ii, qIAdd_ss, qLen_s, qLen_r, qAbs_i, qMax2_ii, qMin2_ii, qInt_i, qInt_b, qInt_s, qStrC_i, qStrC_s, qList_r, qTuple_r, tupleAs_l, tupleAs_t, qDivmod_ii, qAll_r, qAny_r, qSl_s, tSl, tNoPart, tPart, qPar, qPar3,
  qApp, qExt, qPop, isLst, qFld, qSetF, qAugF, qAug, qgTup, qgCons, qgNil, qNeg, qDG, qDIn, qDPut, qDGet2, qUpd, keyOf, qJoin, qWords, qStrip, qSum, qMaxA, qSIdx, qLIdx, qRevS, qIsi, qIsi2, qIsiC, qChain, isBl, tyN, gSub, qSetL, yv, wipe,
  List.getElem?_cons_zero, List.getElem?_cons_succ, List.set_cons_zero, List.set_cons_succ, upd_same, lstOf, tupOf, seqOf, at0, at1, at2, at3, ix0, ix1, ix2, sz0, sz1, sz2, sz3, sz4, sz5, sz6, sz7, sz8, sz15, true_and, and_true, and_self, if_true, if_false, if_pos,
  beq_t, beq_f, decide_eq_true_eq, decide_eq_false_iff_not, Bool.not_eq_true', Bool.not_eq_true, Bool.not_eq_false, Bool.not_true, Bool.not_false, Bool.false_eq_true, reduceCtorEq, ite_not, if_true, if_false, reduceIte, V.int.injEq, V.str.injEq, V.bl.injEq, V.ref.injEq, List.append_nil, forall_eq', exists_eq_left, exists_eq_left', *])
-- _law_pop  names ["stack"]  needs ['z_len']
abbrev s_law_pop : Stmt := topS 20
theorem sc_law_pop : FnScope ["stack"] ["stack"] (defScope s_law_pop) := ⟨rfl, rfl, rfl, by decide +kernel, rfl, by decide +kernel, by decide +kernel⟩
-- _law_many  names ["stack", "many", "parts", "k"]  needs ['z_range', 'c__law_pop']
abbrev s_law_many : Stmt := topS 21
theorem sc_law_many : FnScope ["stack", "many", "parts", "k"] ["stack", "many"] (defScope s_law_many) := ⟨rfl, rfl, rfl, by decide +kernel, rfl, by decide +kernel, by decide +kernel⟩
section
variable {P : Program} {w : World} {K : PySem.W.Frag} {mg : Str → Option Value} {base : Heap} {f : Addr} {fd : FuncData}
theorem num0 {S : List Addr} {H : Hp} {p : Addr} (hp : H p = some (.lst [.str (Str.ofString "num"), .int 0])) (hS : p ∉ S) : TrH S H 3 100 (.ref p) :=
  ⟨.list [.str (Str.ofString "num"), .int 0], .lst hS hp (.cons (.str _) (.cons (.int _) .nil)), by decide +kernel, by decide +kernel⟩
def sp_pop : Sp := fun vs H Q _ => ∃ (st : Addr) (S : List Addr) (as : Its), vs = [.ref st] ∧ st ∈ S ∧ (∀ a ∈ S, H a ≠ none) ∧ H st = some (.lst (as.map (·.1))) ∧ ItsH S H as ∧
  ∀ v n s as' H', But [st] H H' → H' st = some (.lst (as'.map (·.1))) → Sub as' as → ItsH S H' as' → ItH S H' v n s → ((v, n, s) ∈ as ∨ (as = [] ∧ n = 1 ∧ s = 1)) → Q v H'
theorem ok_pop (F : Fun K "_law_pop" "_law_pop" s_law_pop f fd) (z_len : mg "len" = none) : FnOk P w K mg base CX0 1 f fd ["stack"] sp_pop := by
  refine F.ok sc_law_pop (fun vs H Q E h => by obtain ⟨_, _, _, rfl, _⟩ := h; rfl) (fun cdv A outer s H vs Q E hr h => ?_)
  have hu64 := hr.units
  refine ⟨_, (pss_cons (ps_if (xt (yeq hu64) (pe_callB ylen (by rfl) z_len PySem.boot_len (pa_cons (xv 0) pa_nil)) pe_int (nomark _)) (pss_one (ps_ret (pe_lst (pa_cons (pe_lst (pa_cons pe_str (pa_cons pe_int pa_nil))) (pa_cons pe_int (pa_cons pe_int pa_nil)))))) pss_nil)
  (pss_one (ps_ret (xpop (xv 0))))), ?_⟩
  obtain ⟨st, S, as, rfl, hst, hS, ha, hi, q⟩ := h
  walk_at "evh"
  rw [List.length_map]
  have nS : ∀ {p}, H p = none → p ∉ S := fun h m => hS _ m h
  split
  · next h0 =>
    have h0' : as = [] := List.length_eq_zero_iff.mp (by omega)
    subst h0'
    intro p hp p1 hp1
    have hp10 := (upd_free hp1).2
    have s1 := same_new hp (.lst [V.str (Str.ofString "num"), V.int 0])
    have s2 := same_up s1 hp1 (.lst [V.ref p, V.int 1, V.int 1])
    exact q _ 1 1 [] _ (but_same s2) (s2 _ _ ha) (Sub.refl _) (fun _ h => by cases h) ⟨p1, .ref p, rfl, nS hp10, upd_same, num0 (same_new hp1 _ _ _ upd_same) (nS hp), Nat.le_refl _, Nat.le_refl _⟩ (.inr ⟨rfl, rfl, rfl⟩)
  · next h0 =>
    have h0' : as ≠ [] := fun e => h0 (by rw [e]; rfl)
    have hl : 0 < as.length := List.length_pos_iff.mpr h0'
    rw [List.getElem?_map, List.getElem?_eq_getElem (by omega)]
    have bu : But [st] H (upd H st (.lst (as.map (·.1)).dropLast)) := (But.refl _ H).at (by simp) _
    have bS : But S H (upd H st (.lst (as.map (·.1)).dropLast)) := (But.refl _ H).at hst _
    have hm := List.getElem_mem (l := as) (n := as.length - 1) (by omega)
    refine q _ as[as.length - 1].2.1 as[as.length - 1].2.2 as.dropLast _ bu (by rw [upd_same, ← List.map_dropLast]) ⟨fun p hp => List.dropLast_subset _ hp, by rw [List.length_dropLast]; omega⟩ (fun p hp => (hi p (List.dropLast_subset _ hp)).mono bS) ((hi _ hm).mono bS) (.inl hm)
def sp_gmany : Sp := fun vs H Q _ => ∃ (st : Addr) (k : Nat) (S : List Addr) (as : Its), vs = [.ref st, .int (k : Int)] ∧ k ≤ 20 ∧ st ∈ S ∧ (∀ a ∈ S, H a ≠ none) ∧ H st = some (.lst (as.map (·.1))) ∧ ItsH S H as ∧
  ∀ p as' bs H', But [st] H H' → H' st = some (.lst (as'.map (·.1))) → Sub as' as → ItsH S H' as' → H p = none → H' p = some (.lst (bs.map (·.1))) → bs.length = k → ItsH S H' bs → Q (.ref p) H'
theorem ok_gmany (F : Fun K "_law_many" "_law_many" s_law_many f fd) (z_range : mg "range" = none) (c__law_pop : Cal P w K mg base CX0 1 "_law_pop" ["stack"] sp_pop) : FnOk P w K mg base CX0 2 f fd ["stack", "many"] sp_gmany := by
  refine F.ok sc_law_many (fun vs H Q E h => by obtain ⟨_, _, _, _, rfl, _⟩ := h; rfl) (fun cdv A outer s H vs Q E hr h => ?_)
  have hu64 := hr.units
  refine ⟨_, (pss_cons (ps_set (i := 2) sc_law_many.nd rfl (Or.inl rfl) (pe_lst pa_nil))
  (pss_cons (xfor PassesOwn.never (xirng1 z_range (xv 1)) (pg_name (i := 3) sc_law_many.nd rfl (Or.inl rfl))
  (pss_one (ps_expr (xapp (xv 2) (pe_c c__law_pop hr (pa_cons (xv 0) pa_nil))))))
  (pss_one (ps_ret (xv 2))))), ?_⟩
  obtain ⟨st, k, S, as, rfl, hk, hst, hS, ha, hi, q⟩ := h
  walk_at "evh"
  intro p hp
  have hpS : p ∉ S := fun m => hS _ m hp
  have hps : p ≠ st := fun e => by rw [e, ha] at hp; cases hp
  have b1 := But.new (S := [st]) hp (.lst [])
  have e1 : upd H p (.lst []) p = some (.lst []) := upd_same
  have e2 : upd H p (.lst []) st = some (.lst (as.map (·.1))) := same_new hp _ _ _ ha
  have i1 : ItsH (p :: S) (upd H p (.lst [])) as := (hi.weak (T := p :: S) fun a h => (List.mem_cons.mp h).elim (fun e => .inr (e ▸ hp)) .inl).mono (but_same (same_new hp _))
  have hS1 : ∀ a ∈ p :: S, upd H p (.lst []) a ≠ none := fun a h => by
    rcases List.mem_cons.mp h with rfl | h
    · rw [e1]; simp
    · intro e
      exact hS a h (upd_free e).2
  generalize upd H p (.lst []) = H1 at b1 e1 e2 i1 hS1 ⊢
  refine ⟨by omega, by omega, Int, _, upto 0 (k : Int), fun r σ H' => ∃ (as' bs : Its) (x : Option V), σ = [some (.ref st), some (.int (k : Int)), some (.ref p), x] ∧ But [st] H H' ∧ H' st = some (.lst (as'.map (·.1))) ∧ Sub as' as ∧ ItsH (p :: S) H' as' ∧ H' p = some (.lst (bs.map (·.1))) ∧ bs.length + r.length = k ∧ ItsH (p :: S) H' bs ∧ (∀ a ∈ p :: S, H' a ≠ none), rfl, ⟨as, [], none, rfl, b1, e2, Sub.refl _, i1, e1, by rw [upto_len]; show 0 + _ = k; omega, fun _ h => (by cases h), hS1⟩, fun _ _ _ _ => trivial, ?_, ?_⟩
  · rintro y r σ H' ⟨as', bs, x, rfl, g1, g2, g3, g4, g5, g6, g7, g8⟩
    rw [List.length_cons] at g6
    walk_at "evh"
    refine ⟨st, p :: S, as', rfl, List.mem_cons_of_mem _ hst, g8, g2, g4, fun v n s as2 H2 b2 h1 h2 h3 h4 _ => ?_⟩
    have e3 := b2 _ _ (by simpa using hps) g5
    simp only [e3]
    have bu : But (p :: S) H2 (upd H2 p (.lst (bs.map (·.1) ++ [v]))) := (But.refl _ H2).at (by simp) _
    have b2S : But (p :: S) H' H2 := fun a o n e => b2 a o (by
      simp only [List.mem_singleton]
      rintro rfl
      exact n (List.mem_cons_of_mem _ hst)) e
    refine ⟨sz_lt (by rw [List.length_map]; omega), as2, bs ++ [(v, n, s)], _, rfl, (g1.trans b2).nw hp _, by rw [upd_ne hps.symm]; exact h1, h2.trans g3, h3.mono bu, by first | (rw [List.map_append]; rfl) | (rw [upd_same, List.map_append]; rfl), by rw [List.length_append]; show _ + 1 + _ = _; omega, ?_, ?_⟩
    · intro q hq
      rcases List.mem_append.mp hq with hq | hq
      · exact ((g7 q hq).mono b2S).mono bu
      · rw [List.mem_singleton.mp hq]
        exact h4.mono bu
    · intro a ha2 e
      have hne := g8 a ha2
      cases hh : H' a with
      | none => exact hne hh
      | some o =>
        by_cases hap : a = p
        · rw [hap, upd_same] at e; cases e
        · rw [upd_ne hap] at e
          by_cases has : a = st
          · rw [has, h1] at e; cases e
          · rw [b2 a o (by simpa using has) hh] at e; cases e
  · rintro σ H' ⟨as', bs, x, rfl, g1, g2, g3, g4, g5, g6, g7, g8⟩
    walk_at "evh"
    exact q p as' bs H' g1 g2 g3 (g4.weak fun a h => .inl (List.mem_cons_of_mem _ h)) hp g5 (by simpa using g6) (g7.weak fun a h => .inl (List.mem_cons_of_mem _ h))
end
end Fk
namespace Fk
open PySem L2
open TL (tl tl_append len_tl)
/-! _law_tree -/
local macro_rules | `(tactic| walk_at "ev") => `(tactic| try simp only [cx_K, L2.start, List.map_cons, List.map_nil, List.length_cons, List.length_nil, Nat.reduceAdd, Nat.reduceSub, Nat.reduceLT, List.replicate_succ, List.replicate_zero, List.cons_append, List.nil_append, Nat.zero_add, Nat.add_zero,
  tSeq, tAsg, tLst, tTup, tNil, tCons, tC, tOp, tUn, gName, tNext, tRet, tRetN, tIfS, tDrop, tCB, tCall, tMeth, tMake, tIf, tAnd, tOr, tNot, tAndV, tOrV, tNotV, qFor, qLc, tYes, wStr, wLst, wTup, wRng1, wRng2, wEnum, wZip, wZipA, wRev, qVar, asB_bl, qAdd_ii, qAdd_ss, qSub_ii, qMul_ii, qMod_ii, qDiv_ii, qPow_ii, qCmpI_ii, qEq_ii, qEq_ss, qEq_bb, qIsN_n, qIsN_i, qIsN_s, qIsN_b, qIsN_r, qInS_s, qInT_r, qIx_s, qIx_r, qT, qIAdd_ii, qIAdd_ss, qLen_s, qLen_r, qAbs_i, qMax2_ii, qMin2_ii, qInt_i, qInt_b, qInt_s, qStrC_i, qStrC_s, qList_r, qTuple_r, tupleAs_l, tupleAs_t, qDivmod_ii, qAll_r, qAny_r, qSl_s, tSl, tNoPart, tPart, qPar, qPar3,
  qApp, qExt, qPop, isLst, qFld, qSetF, qAugF, qAug, qgTup, qgCons, qgNil, qNeg, qDG, qDIn, qDPut, qDGet2, qUpd, keyOf, qJoin, qWords, qStrip, qSum, qMaxA, qSIdx, qLIdx, qRevS, qIsi, qIsi2, qIsiC, qChain, isBl, tyN, gSub, qSetL, yv, wipe,
  List.getElem?_cons_zero, List.getElem?_cons_succ, List.set_cons_zero, List.set_cons_succ, upd_same, lstOf, tupOf, seqOf, at0, at1, at2, at3, ix0, ix1, ix2, sz0, sz1, sz2, sz3, sz4, sz5, sz6, sz7, sz8, sz15, true_and, and_true, and_self, if_true, if_false, if_pos,
  beq_t, beq_f, decide_eq_true_eq, decide_eq_false_iff_not, Bool.not_eq_true', Bool.not_eq_true, Bool.not_eq_false, Bool.not_true, Bool.not_false, Bool.false_eq_true, reduceCtorEq, ite_not, if_true, if_false, reduceIte, V.int.injEq, V.str.injEq, V.bl.injEq, V.ref.injEq, List.append_nil, forall_eq', exists_eq_left, exists_eq_left'])
local macro_rules | `(tactic| walk_at "evh") => `(tactic| try simp only [cx_K, L2.start, List.map_cons, List.map_nil, List.length_cons, List.length_nil, Nat.reduceAdd, Nat.reduceSub, Nat.reduceLT, List.replicate_succ, List.replicate_zero, List.cons_append, List.nil_append, Nat.zero_add, Nat.add_zero,
  tSeq, tAsg, tLst, tTup, tNil, tCons, tC, tOp, tUn, gName, tNext, tRet, tRetN, tIfS, tDrop, tCB, tCall, tMeth, tMake, tIf, tAnd, tOr, tNot, tAndV, tOrV, tNotV, qFor, qLc, tYes, wStr, wLst, wTup, wRng1, wRng2, wEnum, wZip, wZipA, wRev, qVar, asB_bl, qAdd_ii, qAdd_ss, qSub_ii, qMul_ii, qMod_ii, qDiv_ii, qPow_ii, qCmpI_ii, qEq_ii, qEq_ss, qEq_bb, qIsN_n, qIsN_i, qIsN_s, qIsN_b, qIsN_r, qInS_s, qInT_r, qIx_s, qIx_r, qT, qIAdd_ii, qIAdd_ss, qLen_s, qLen_r, qAbs_i, qMax2_ii, qMin2_ii, qInt_i, qInt_b, qInt_s, qStrC_i, qStrC_s, qList_r, qTuple_r, tupleAs_l, tupleAs_t, qDivmod_ii, qAll_r, qAny_r, qSl_s, tSl, tNoPart, tPart, qPar, qPar3,
  qApp, qExt, qPop, isLst, qFld, qSetF, qAugF, qAug, qgTup, qgCons, qgNil, qNeg, qDG, qDIn, qDPut, qDGet2, qUpd, keyOf, qJoin, qWords, qStrip, qSum, qMaxA, qSIdx, qLIdx, qRevS, qIsi, qIsi2, qIsiC, qChain, isBl, tyN, gSub, qSetL, yv, wipe,
  List.getElem?_cons_zero, List.getElem?_cons_succ, List.set_cons_zero, List.set_cons_succ, upd_same, lstOf, tupOf, seqOf, at0, at1, at2, at3, ix0, ix1, ix2, sz0, sz1, sz2, sz3, sz4, sz5, sz6, sz7, sz8, sz15, true_and, and_true, and_self, if_true, if_false, if_pos,
  beq_t, beq_f, decide_eq_true_eq, decide_eq_false_iff_not, Bool.not_eq_true', Bool.not_eq_true, Bool.not_eq_false, Bool.not_true, Bool.not_false, Bool.false_eq_true, reduceCtorEq, ite_not, if_true, if_false, reduceIte, V.int.injEq, V.str.injEq, V.bl.injEq, V.ref.injEq, List.append_nil, forall_eq', exists_eq_left, exists_eq_left', *])
local macro_rules | `(tactic| walk_at "evl") => `(tactic| try simp only [cx_K, L2.start, List.map_cons, List.map_nil, List.length_cons, List.length_nil, Nat.reduceAdd, Nat.reduceSub, Nat.reduceLT, List.replicate_succ, List.replicate_zero, List.cons_append, List.nil_append, Nat.zero_add, Nat.add_zero,
  tSeq, tAsg, tLst, tTup, tNil, tCons, tC, tOp, tUn, gName, tNext, tRet, tRetN, tIfS, tDrop, tCB, tCall, tMeth, tMake, tIf, tAnd, tOr, tNot, tAndV, tOrV, tNotV, qFor, tYes, wStr, wLst, wTup, wRng1, wRng2, wEnum, wZip, wZipA, wRev, qVar, asB_bl, qAdd_ii, qAdd_ss, qSub_ii, qMul_ii, qMod_ii, qDiv_ii, qPow_ii, qCmpI_ii, qEq_ii, qEq_ss, qEq_bb, qIsN_n, qIsN_i, qIsN_s, qIsN_b, qIsN_r, qInS_s, qInT_r, qIx_s, qIx_r, qT, qIAdd_ii, qIAdd_ss, qLen_s, qLen_r, qAbs_i, qMax2_ii, qMin2_ii, qInt_i, qInt_b, qInt_s, qStrC_i, qStrC_s, qList_r, qTuple_r, tupleAs_l, tupleAs_t, qDivmod_ii, qAll_r, qAny_r, qSl_s, tSl, tNoPart, tPart, qPar, qPar3,
  qApp, qExt, qPop, isLst, qFld, qSetF, qAugF, qAug, qgTup, qgCons, qgNil, qNeg, qDG, qDIn, qDPut, qDGet2, qUpd, keyOf, qJoin, qWords, qStrip, qSum, qMaxA, qSIdx, qLIdx, qRevS, qIsi, qIsi2, qIsiC, qChain, isBl, tyN, gSub, qSetL, yv, wipe,
  List.getElem?_cons_zero, List.getElem?_cons_succ, List.set_cons_zero, List.set_cons_succ, upd_same, lstOf, tupOf, seqOf, at0, at1, at2, at3, ix0, ix1, ix2, sz0, sz1, sz2, sz3, sz4, sz5, sz6, sz7, sz8, sz15, true_and, and_true, and_self, if_true, if_false, if_pos,
  beq_t, beq_f, decide_eq_true_eq, decide_eq_false_iff_not, Bool.not_eq_true', Bool.not_eq_true, Bool.not_eq_false, Bool.not_true, Bool.not_false, Bool.false_eq_true, reduceCtorEq, ite_not, if_true, if_false, reduceIte, V.int.injEq, V.str.injEq, V.bl.injEq, V.ref.injEq, List.append_nil, forall_eq', exists_eq_left, exists_eq_left', *])
-- _law_tree  names ["op", "arg", "parts", "trees", "part", "name", "k", "arms"]  needs ['c__law_name', 'z_tuple', 'z_range', 'z_len']
abbrev s_law_tree : Stmt := topS 22
theorem sc_law_tree : FnScope ["op", "arg", "parts", "trees", "part", "name", "k", "arms"] ["op", "arg", "parts"] (defScope s_law_tree) := ⟨rfl, rfl, rfl, by decide +kernel, rfl, by decide +kernel, by decide +kernel⟩
section
variable {P : Program} {w : World} {K : PySem.W.Frag} {mg : Str → Option Value} {base : Heap} {f : Addr} {fd : FuncData}
def szs (bs : Its) : Nat := (bs.map fun b => b.2.2).sum
theorem szs_pos {S : List Addr} {H : Hp} : ∀ {bs : Its}, ItsH S H bs → (bs.map fun y => (150 * y.2.2 - 50) + 1).sum + 49 * bs.length ≤ 150 * szs bs
  | [], _ => by decide
  | b :: r, h => by
    have ih := szs_pos (bs := r) fun p hp => h p (List.mem_cons_of_mem _ hp)
    obtain ⟨a, t, _, _, _, _, _, h1⟩ := h b (by simp)
    unfold szs at ih ⊢
    simp only [List.map_cons, List.sum_cons, List.length_cons]
    omega
theorem sum_upto0 (c : Nat) : ∀ (ds : List PyData), ((List.range ds.length).map fun k => pl (ds.getD k .none) + c + 1).sum = plS ds + c * ds.length
  | [] => by simp [plS]
  | d :: r => by
    rw [List.length_cons, List.range_succ_eq_map, List.map_cons, List.map_map, List.sum_cons]
    have ih := sum_upto0 c r
    have e : (fun k => pl ((d :: r).getD k .none) + c + 1) ∘ Nat.succ = fun k => pl (r.getD k .none) + c + 1 := by
      funext k
      simp
    rw [e, ih]
    simp only [plS, List.getD_cons_zero, Nat.mul_succ]
    omega
theorem sum_up0 (c : Nat) (ds : List PyData) : ((upto 0 (ds.length : Int)).map fun k => (pl (ds.getD k.toNat .none) + c) + 1).sum = plS ds + c * ds.length := by
  rw [← sum_upto0]
  unfold upto
  rw [List.map_map, show ((ds.length : Int) - 0).toNat = ds.length by omega]
  refine congrArg _ (List.map_congr_left fun k _ => ?_)
  show pl (ds.getD (0 + (k : Int)).toNat .none) + c + 1 = _
  rw [show (0 + (k : Int)).toNat = k by omega]
theorem sum_up1 (c : Nat) (d : PyData) (ds : List PyData) : ((upto 1 ((ds.length + 1 : Nat) : Int)).map fun k => (pl ((d :: ds).getD k.toNat .none) + c) + 1).sum = plS ds + c * ds.length := by
  rw [← sum_upto0]
  unfold upto
  rw [List.map_map, show (((ds.length + 1 : Nat) : Int) - 1).toNat = ds.length by omega]
  refine congrArg _ (List.map_congr_left fun k _ => ?_)
  show pl ((d :: ds).getD (1 + (k : Int)).toNat .none) + c + 1 = _
  rw [show (1 + (k : Int)).toNat = k + 1 by omega]
  rfl
theorem lxs_ok {S : List Addr} {H : Hp} {n : Nat} {vs : List V} {ds : List PyData} {i : Nat} (h : Lxs S H vs ds) (ho : ds.all (okR n) = true) (hi : i < vs.length) : ∃ v d, vs[i]? = some v ∧ ds.getD i .none = d ∧ Lx S H v d ∧ okR n d = true := by
  obtain ⟨v, d, h1, h2, h3⟩ := lxs_at h hi
  exact ⟨v, d, h1, by rw [List.getD_eq_getElem?_getD, h2]; rfl, h3, List.all_eq_true.mp ho d (List.mem_of_getElem? h2)⟩
theorem okR_str {n : Nat} {x : Str} (h : x.length ≤ 13) : okR n (.str x) = true := by cases n <;> exact decide_eq_true h
def sp_tree : Sp := fun vs H Q _ => ∃ (op arg : Int) (p : Addr) (S : List Addr) (bs : Its) (m : Nat), vs = [.int op, .int arg, .ref p] ∧ 4 ≤ op ∧ op ≤ 17 ∧ bs.length ≤ 20 ∧ (op ≠ 7 → op ≠ 11 → 1 ≤ bs.length) ∧ (∀ a ∈ S, H a ≠ none) ∧ H p = some (.lst (bs.map (·.1))) ∧ ItsH S H bs ∧ (∀ b ∈ bs, b.2.1 ≤ m) ∧
  ∀ v H', Same H H' → TrH S H' (3 * (m + 1)) (150 * (1 + szs bs) - 50) v → Q v H'
theorem ok_tree (F : Fun K "_law_tree" "_law_tree" s_law_tree f fd) (z_range : mg "range" = none) (z_len : mg "len" = none) (z_tuple : mg "tuple" = none) (c__law_name : Cal P w K mg base CX0 1 "_law_name" ["cell"] sp_name) : FnOk P w K mg base CX0 2 f fd ["op", "arg", "parts"] sp_tree := by
  refine F.ok sc_law_tree (fun vs H Q E h => by obtain ⟨_, _, _, _, _, _, rfl, _⟩ := h; rfl) (fun cdv A outer s H vs Q E hr h => ?_)
  have hu64 := hr.units
  refine ⟨_, (pss_cons (ps_set (i := 3) sc_law_tree.nd rfl (Or.inr rfl) (xlc (own := [("part", 4)]) sc_law_tree.nd (xilst (xv 2)) (blkOk_by (own := [("part", 4)]) (N := ["op", "arg", "parts", "trees", "part", "name", "k", "arms"]) (sc := defScope s_law_tree) (by decide +kernel)) (fun _ _ _ _ _ => (pg_name (i := 4) sc_law_tree.nd rfl (Or.inl rfl))) (fun _ _ _ _ _ => pts_nil) (fun _ _ _ _ _ => (pe_ix yix (xv 4) pe_int (fun _ _ => rfl)))))
  (pss_cons (ps_set (i := 5) sc_law_tree.nd rfl (Or.inl rfl) (pe_c c__law_name hr (pa_cons (xv 1) pa_nil)))
  (pss_cons (ps_if (PW.pt (pw_or (xt (yeq hu64) (xv 0) pe_int (nomark _)) (pw_or1 (xt (yeq hu64) (xv 0) pe_int (nomark _))))) (pss_one (ps_ret (pe_op yadd (pe_lst (pa_cons (pe_ix yix (pe_lst (pa_cons pe_str (pa_cons pe_str pa_nil))) (pe_op ydiv (xv 0) pe_int) (fun _ _ => rfl)) (pa_cons (xv 5) pa_nil))) (xv 3)))) pss_nil)
  (pss_cons (ps_if (xt (yeq hu64) (xv 0) pe_int (nomark _)) (pss_one (ps_ret (pe_op yadd (pe_lst (pa_cons pe_str (pa_cons (xv 5) pa_nil))) (xv 3)))) pss_nil)
  (pss_cons (ps_if (xt (yeq hu64) (xv 0) pe_int (nomark _)) (pss_one (ps_ret (pe_lst (pa_cons pe_str (pa_cons (pe_callTy ytuple (by rfl) z_tuple (by decide +kernel) (pa_cons (xlc (own := [("k", 6)]) sc_law_tree.nd (xirng1 z_range (pe_callB ylen (by rfl) z_len PySem.boot_len (pa_cons (xv 3) pa_nil))) (blkOk_by (own := [("k", 6)]) (N := ["op", "arg", "parts", "trees", "part", "name", "k", "arms"]) (sc := defScope s_law_tree) (by decide +kernel)) (fun _ _ _ _ _ => (pg_name (i := 6) sc_law_tree.nd rfl (Or.inl rfl))) (fun _ _ _ _ _ => pts_nil) (fun _ _ _ _ _ => (pe_tup (pa_cons (pe_c c__law_name hr (pa_cons (pe_op yadd (xv 1) (pe_op ymul (pe_op ymul pe_int (xv 6)) (xv 6))) pa_nil)) (pa_cons (pe_ix yix (xv 3) (xv 6) (fun _ _ => rfl)) pa_nil))))) pa_nil)) pa_nil))))) pss_nil)
  (pss_cons (ps_if (xt (yeq hu64) (xv 0) pe_int (nomark _)) (pss_one (ps_ret (pe_op yadd (pe_op yadd (pe_lst (pa_cons pe_str pa_nil)) (xv 3)) (pe_lst (pa_cons (xv 5) pa_nil))))) pss_nil)
  (pss_cons (ps_if (xt (yeq hu64) (xv 0) pe_int (nomark _)) (pss_cons (xsetlc (i := 7) (own := [("k", 6)]) sc_law_tree.nd rfl rfl (sw_true rfl rfl rfl (by decide +kernel)) (xirng2 z_range pe_int (pe_callB ylen (by rfl) z_len PySem.boot_len (pa_cons (xv 3) pa_nil))) (blkOk_by (own := [("k", 6)]) (N := ["op", "arg", "parts", "trees", "part", "name", "k", "arms"]) (sc := defScope s_law_tree) (by decide +kernel)) (fun _ _ _ _ _ => (pg_name (i := 6) sc_law_tree.nd rfl (Or.inl rfl))) (fun _ _ _ _ _ => pts_nil) (fun _ _ _ _ _ => (pe_tup (pa_cons (pe_c c__law_name hr (pa_cons (pe_op yadd (xv 1) (pe_op ymul (pe_op ymul pe_int (xv 6)) (xv 6))) pa_nil)) (pa_cons (pe_c c__law_name hr (pa_cons (pe_op yadd (xv 1) (xv 6)) pa_nil)) (pa_cons (pe_ix yix (xv 3) (xv 6) (fun _ _ => rfl)) pa_nil))))))
  (pss_one (ps_ret (pe_lst (pa_cons pe_str (pa_cons (pe_ix yix (xv 3) pe_int (fun _ _ => rfl)) (pa_cons (pe_callTy ytuple (by rfl) z_tuple (by decide +kernel) (pa_cons (xv 7) pa_nil)) pa_nil))))))) pss_nil)
  (pss_cons (ps_if (xt (yeq hu64) (xv 0) pe_int (nomark _)) (pss_one (ps_ret (pe_lst (pa_cons pe_str (pa_cons (pe_callTy ytuple (by rfl) z_tuple (by decide +kernel) (pa_cons (xv 3) pa_nil)) pa_nil))))) pss_nil)
  (pss_one (ps_ret (pe_op yadd (pe_lst (pa_cons (pe_ix yix (pe_lst (pa_cons pe_str (pa_cons pe_str (pa_cons pe_str (pa_cons pe_str (pa_cons pe_str (pa_cons pe_str (pa_cons pe_str pa_nil)))))))) (xlidx (pe_lst (pa_cons pe_int (pa_cons pe_int (pa_cons pe_int (pa_cons pe_int (pa_cons pe_int (pa_cons pe_int (pa_cons pe_int pa_nil)))))))) (xv 0)) (fun _ _ => rfl)) pa_nil)) (xv 3)))))))))))), ?_⟩
  obtain ⟨op, arg, p, S, bs, m, rfl, o1, o2, hbl, hb1, hS, ha, hi, hm, q⟩ := h
  walk_at "evh"
  intro D hD
  have hDS : D ∉ S := fun m => hS _ m hD
  have hiD : ItsH (D :: S) H bs := hi.weak fun a h => (List.mem_cons.mp h).elim (fun e => .inr (e ▸ hD)) .inl
  rw [List.map_map]
  refine lct (f := Yd.one ∘ (·.1)) (as := bs) (n := 3 * m) (fun y => 150 * y.2.2 - 50) (S := S) hD (by omega) (fun H' s' => by rw [s' _ _ ha]) (fun y hy H' s' _ Fin fin => ?_) (fun H1 us s1 e1 hul htr => ?_)
  · obtain ⟨a, t, g1, g2, g3, g4, g5, g6⟩ := hiD y hy
    show yv (.one y.1) _ _
    rw [g1]
    have g3' := s' _ _ g3
    walk_at "evh"
    exact fin t H' (Same.refl _) (g4.mono (but_same s') (Nat.mul_le_mul_left 3 (hm y hy)) (Nat.le_refl _))
  obtain ⟨ds, l1, l2, l3⟩ := htr
  have hW := szs_pos hi
  have hdl : us.length = ds.length := l1.length
  have hpl : plS ds + 49 * bs.length ≤ 150 * szs bs := by omega
  clear hW l3
  refine ⟨arg, rfl, fun x H2 s2 hx => ?_⟩
  have e2 := s2 _ _ e1
  have l1 := l1.mono (but_same s2)
  have s12 := s1.trans s2
  have l2w : ds.all (okR (3 * m + 2)) = true := List.all_eq_true.mpr fun d hd => okR_mono (by omega) (List.all_eq_true.mp l2 d hd)
  have fin : ∀ (H3 : Hp) (r : Addr) (o : Str) (vs : List V) (ds' : List PyData), Same H H3 → H r = none → H3 r = some (.lst (.str o :: vs)) → Lxs S H3 vs ds' → ds' ≠ [] → ds'.length ≤ 30 → o.length ≤ 4 → o ≠ Str.ofString "num" → o ≠ Str.ofString "name" → ds'.all (okR (3 * m + 2)) = true →
      plS ds' + 57 ≤ 150 * (1 + szs bs) → Q (.ref r) H3 := by
    intro H3 r o vs ds' s3 hr e3 l3 hne hl ho hn1 hn2 hok hw
    have hrS : r ∉ S := fun m => hS _ m hr
    refine q _ _ s3 ⟨.list (.str o :: ds'), .lst hrS e3 (.cons (.str o) l3), ?_, ?_⟩
    · cases ds' with
      | nil => exact absurd rfl hne
      | cons d r =>
        rw [List.all_cons, Bool.and_eq_true] at hok
        show okR (3 * m + 2 + 1) _ = true
        simp only [okR, Bool.and_eq_true, decide_eq_true_eq, Bool.or_eq_true, Bool.not_eq_true', decide_eq_false_iff_not]
        rw [List.length_cons] at hl
        exact ⟨⟨⟨⟨by omega, by omega⟩, hok.1⟩, hok.2⟩, .inr ⟨hn1, hn2⟩⟩
    · simp only [pl, plS]
      omega
  have frD : ∀ {r}, H2 r = none → H r = none := fun h => s12.free h
  have add1 : ∀ (o : Str), o.length ≤ 4 → o ≠ Str.ofString "num" → o ≠ Str.ofString "name" → ∀ (p1 : Addr) (H3 : Hp), Same H2 H3 → H3 p1 = some (.lst [.str o, .str x]) → qAdd (.ref p1) (.ref D) H3 Q := by
    intro o ho hn1 hn2 p1 H3 s3 e3
    rw [qAdd_ll e3 (s3 _ _ e2)]
    refine ⟨sz_of (by show 2 + us.length ≤ _; omega), fun r hr => ?_⟩
    have s4 := same_new hr (.lst ([V.str o, V.str x] ++ us))
    refine fin _ r o (.str x :: us) (.str x :: ds) (s12.trans (s3.trans s4)) (frD (s3.free hr)) upd_same (.cons (.str x) ((l1.mono (but_same s3)).mono (but_same s4))) (by simp) (by rw [List.length_cons]; omega) ho hn1 hn2 (by rw [List.all_cons, okR_str hx, l2w]; rfl) ?_
    simp only [plS, pl]
    omega
  have add0 : (1 ≤ bs.length) → ∀ (o : Str), o.length ≤ 4 → o ≠ Str.ofString "num" → o ≠ Str.ofString "name" → ∀ (p1 : Addr) (H3 : Hp), Same H2 H3 → H3 p1 = some (.lst [.str o]) → qAdd (.ref p1) (.ref D) H3 Q := by
    intro hb o ho hn1 hn2 p1 H3 s3 e3
    rw [qAdd_ll e3 (s3 _ _ e2)]
    refine ⟨sz_of (by show 1 + us.length ≤ _; omega), fun r hr => ?_⟩
    have s4 := same_new hr (.lst ([V.str o] ++ us))
    refine fin _ r o us ds (s12.trans (s3.trans s4)) (frD (s3.free hr)) upd_same ((l1.mono (but_same s3)).mono (but_same s4)) (fun h => by
      have h' : ds.length = 0 := by rw [h]; rfl
      omega) (by omega) ho hn1 hn2 l2w (by omega)
  show (if op = 4 then _ else _)
  by_cases h4 : op = 4
  · subst h4
    rw [if_pos rfl]
    intro p1 hp1
    refine ⟨by decide, ?_⟩
    rw [show (4 : Int) / 9 = 0 by decide, at0]
    intro p2 hp2
    exact add1 _ (by decide +kernel) (by decide +kernel) (by decide +kernel) p2 _ (same_up (same_new hp1 _) hp2 _) upd_same
  rw [if_neg h4]
  by_cases h9 : op = 9
  · subst h9
    rw [if_pos rfl]
    intro p1 hp1
    refine ⟨by decide, ?_⟩
    rw [show (9 : Int) / 9 = 1 by decide, at1]
    intro p2 hp2
    exact add1 _ (by decide +kernel) (by decide +kernel) (by decide +kernel) p2 _ (same_up (same_new hp1 _) hp2 _) upd_same
  rw [if_neg h9]
  by_cases h6 : op = 6
  · rw [if_pos h6]
    intro p1 hp1
    exact add1 _ (by decide +kernel) (by decide +kernel) (by decide +kernel) p1 _ (same_new hp1 _) upd_same
  rw [if_neg h6]
  have tupd : ∀ (H3 : Hp) (r l : Addr) (o : Str) (ws : List V) (es : List PyData), Same H H3 → H r = none → H l = none → H3 r = some (.lst [.str o, .ref l]) → H3 l = some (.tup ws) → Lxs S H3 ws es → es.length ≤ 30 → es.all (okR (3 * m + 1)) = true → o.length ≤ 4 → o ≠ Str.ofString "num" → o ≠ Str.ofString "name" → plS es + 58 ≤ 150 * (1 + szs bs) → Q (.ref r) H3 := by
    intro H3 r l o ws es s3 hr hl e3 e4 l3 hes hok ho hn1 hn2 hw
    refine fin H3 r o [.ref l] [.tuple es] s3 hr e3 (.cons (.tup (fun m => hS _ m hl) e4 l3) .nil) (by simp) (by show 1 ≤ 30; decide) ho hn1 hn2 ?_ ?_
    · rw [List.all_cons, List.all_nil, Bool.and_true]
      show okR (3 * m + 1 + 1) _ = true
      simp only [okR, Bool.and_eq_true, decide_eq_true_eq]
      exact ⟨hes, hok⟩
    · simp only [plS, pl]
      omega
  by_cases h7 : op = 7
  · rw [if_pos h7]
    simp only [e2]
    refine ⟨by omega, by omega, fun D1 hD1 => ?_⟩
    have hD1S : ∀ a, a ∈ D1 :: S → a ∈ S ∨ H2 a = none := fun a h => (List.mem_cons.mp h).elim (fun e => .inr (e ▸ hD1)) .inl
    have l1' := l1.weak hD1S
    rw [hdl]
    refine lct (n := 3 * m + 1) (fun k => pl (ds.getD k.toNat .none) + 15) (S := S) hD1 (by rw [upto_len]; omega) (fun _ _ => trivial) (fun y hy H' s' hD1n Fin fin2 => ?_) (fun H3 ws s3 e3 hwl htr => ?_)
    · obtain ⟨k, rfl, hk⟩ := mem_upto hy
      obtain ⟨v, d, i1, i2, i3, i4⟩ := lxs_ok l1' l2 (i := k) (by omega)
      show yv (.one _) _ _
      walk_at "evh"
      refine ⟨.inl (by decide), .inr (by omega), _, rfl, fun z H4 s4 hz => ?_⟩
      have e4 := s4 _ _ (s' _ _ e2)
      walk_at "evh"
      rw [atI_nat i1]
      intro pt hpt
      have s5 := same_new hpt (.tup [V.str z, v])
      have hpt' : pt ∉ D1 :: S := fun h => by
        have hx1 := s4.free hpt
        rcases List.mem_cons.mp h with e | h
        · exact hD1n (e ▸ hx1)
        · exact hS _ h (frD (s'.free hx1))
      refine fin2 _ _ (s4.trans s5) ⟨.tuple [.str z, d], .tup hpt' upd_same (.cons (.str z) (.cons (i3.mono (but_same ((s'.trans s4).trans s5))) .nil)), ?_, ?_⟩
      · simp only [okR, List.all_cons, List.all_nil, Bool.and_true, Bool.and_eq_true, decide_eq_true_eq]
        exact ⟨by show 2 ≤ 30; decide, hz, i4⟩
      · simp only [pl, plS, Int.toNat_natCast, i2]
        omega
    · rw [upto_len] at hwl
      rw [sum_up0] at htr
      obtain ⟨es, r1, r2, r3⟩ := htr
      have hel := r1.length
      walk_at "evh"
      intro l hl r hr
      have s4 := same_new hl (.tup ws)
      have s5 := same_up s4 hr (.lst [V.str (Str.ofString "rec"), V.ref l])
      exact tupd _ r l _ ws es (s12.trans (s3.trans s5)) (frD (s3.free (s4.free hr))) (frD (s3.free hl)) upd_same (same_new hr _ _ _ upd_same) (r1.mono (but_same s5)) (by omega) r2 (by decide +kernel) (by decide +kernel) (by decide +kernel) (by omega)
  rw [if_neg h7]
  by_cases h8 : op = 8
  · rw [if_pos h8]
    intro p1 hp1
    have s3 := same_new hp1 (.lst [V.str (Str.ofString "get")])
    rw [qAdd_ll upd_same (s3 _ _ e2)]
    refine ⟨sz_of (by show 1 + us.length ≤ _; omega), fun p2 hp2 p3 hp3 => ?_⟩
    have s4 := same_up s3 hp2 (.lst ([V.str (Str.ofString "get")] ++ us))
    have s5 := same_up s4 hp3 (.lst [V.str x])
    rw [qAdd_ll (same_new hp3 _ _ _ upd_same) upd_same]
    refine ⟨sz_of (by rw [List.length_append]; show 1 + us.length + 1 ≤ _; omega), fun r hr => ?_⟩
    have s6 := same_up s5 hr (.lst ([V.str (Str.ofString "get")] ++ us ++ [V.str x]))
    refine fin _ r _ (us ++ [V.str x]) (ds ++ [.str x]) (s12.trans s6) (frD (s5.free hr)) upd_same ((l1.mono (but_same s6)).append (.cons (.str x) .nil)) (by simp) (by rw [List.length_append]; show _ + 1 ≤ 30; omega) (by decide +kernel) (by decide +kernel) (by decide +kernel) (by rw [List.all_append, l2w, List.all_cons, okR_str hx]; rfl) ?_
    rw [plS_append]
    simp only [plS, pl]
    omega
  rw [if_neg h8]
  by_cases h10 : op = 10
  · rw [if_pos h10]
    have hb2 := hb1 h7 (by omega)
    simp only [e2]
    refine ⟨by omega, fun D1 hD1 => ?_⟩
    have hD1S : ∀ a, a ∈ D1 :: S → a ∈ S ∨ H2 a = none := fun a h => (List.mem_cons.mp h).elim (fun e => .inr (e ▸ hD1)) .inl
    have l1' := l1.weak hD1S
    obtain ⟨d0, dr, rfl⟩ : ∃ d0 dr, ds = d0 :: dr := by
      cases ds with
      | nil => simp at hdl; rw [hdl] at hul; simp at hul; omega
      | cons a b => exact ⟨a, b, rfl⟩
    obtain ⟨u0, ur, rfl⟩ : ∃ u0 ur, us = u0 :: ur := by
      cases us with
      | nil => simp at hdl
      | cons a b => exact ⟨a, b, rfl⟩
    rw [hdl]
    refine lct (n := 3 * m + 1) (fun k => pl ((d0 :: dr).getD k.toNat .none) + 29) (S := S) hD1 (by unfold upto; rw [List.length_map, List.length_range]; omega) (fun _ _ => trivial) (fun y hy H' s' hD1n Fin fin2 => ?_) (fun H3 ws s3 e3 hwl htr => ?_)
    · obtain ⟨k, rfl, hk⟩ : ∃ k : Nat, y = (k : Int) ∧ k < (d0 :: dr).length := by
        unfold upto at hy
        obtain ⟨j, hj, rfl⟩ := List.mem_map.mp hy
        rw [List.mem_range] at hj
        exact ⟨1 + j, by omega, by omega⟩
      obtain ⟨v, d, i1, i2, i3, i4⟩ := lxs_ok l1' l2 (i := k) (by omega)
      show yv (.one _) _ _
      walk_at "evh"
      refine ⟨.inl (by decide), .inr (by omega), _, rfl, fun z H4 s4 hz => ⟨_, rfl, fun z2 H5 s45 hz2 => ?_⟩⟩
      have e4 := s45 _ _ (s4 _ _ (s' _ _ e2))
      walk_at "evh"
      rw [atI_nat i1]
      intro pt hpt
      have s5 := same_new hpt (.tup [V.str z, V.str z2, v])
      have hpt' : pt ∉ D1 :: S := fun h => by
        have hx1 := s4.free (s45.free hpt)
        rcases List.mem_cons.mp h with e | h
        · exact hD1n (e ▸ hx1)
        · exact hS _ h (frD (s'.free hx1))
      refine fin2 _ _ (s4.trans (s45.trans s5)) ⟨.tuple [.str z, .str z2, d], .tup hpt' upd_same (.cons (.str z) (.cons (.str z2) (.cons (i3.mono (but_same ((s'.trans s4).trans (s45.trans s5)))) .nil))), ?_, ?_⟩
      · simp only [okR, List.all_cons, List.all_nil, Bool.and_true, Bool.and_eq_true, decide_eq_true_eq]
        exact ⟨by show 3 ≤ 30; decide, hz, hz2, i4⟩
      · simp only [pl, plS, Int.toNat_natCast, i2]
        omega
    · rw [show ((d0 :: dr).length : Int) = ((dr.length + 1 : Nat) : Int) from rfl, sum_up1] at htr
      obtain ⟨es, r1, r2, r3⟩ := htr
      have hel := r1.length
      have e2' := s3 _ _ e2
      walk_at "evh"
      intro l hl r hr
      have s4 := same_new hl (.tup ws)
      have s5 := same_up s4 hr (.lst [V.str (Str.ofString "case"), u0, V.ref l])
      have l1s := l1.mono (but_same (s3.trans s5))
      cases l1s with
      | cons q1 q2 =>
      have hl' : H l = none := frD (s3.free hl)
      rw [List.all_cons, Bool.and_eq_true] at l2w
      simp only [plS] at hpl
      have hdr : dr.length + 1 = bs.length := by rw [← hul]; exact hdl.symm
      have hup : ws.length = dr.length := by
        rw [hwl]
        unfold upto
        rw [List.length_map, List.length_range, List.length_cons]
        omega
      refine fin _ r _ [u0, .ref l] [d0, .tuple es] (s12.trans (s3.trans s5)) (frD (s3.free (s4.free hr))) upd_same (.cons q1 (.cons (.tup (fun m => hS _ m hl') (same_new hr _ _ _ upd_same) (r1.mono (but_same s5))) .nil)) (by simp) (by show 2 ≤ 30; decide) (by decide +kernel) (by decide +kernel) (by decide +kernel) ?_ ?_
      · rw [List.all_cons, List.all_cons, List.all_nil, Bool.and_true, Bool.and_eq_true]
        refine ⟨l2w.1, ?_⟩
        show okR (3 * m + 1 + 1) _ = true
        simp only [okR, Bool.and_eq_true, decide_eq_true_eq]
        exact ⟨by omega, r2⟩
      · simp only [plS, pl]
        omega
  rw [if_neg h10]
  by_cases h11 : op = 11
  · rw [if_pos h11, e2]
    intro l hl r hr
    have s4 := same_new hl (.tup us)
    have s5 := same_up s4 hr (.lst [V.str (Str.ofString "row"), V.ref l])
    exact tupd _ r l _ us ds (s12.trans s5) (frD (s4.free hr)) (frD hl) upd_same (same_new hr _ _ _ upd_same) (l1.mono (but_same s5)) (by omega) (List.all_eq_true.mpr fun d hd => okR_mono (by omega) (List.all_eq_true.mp l2 d hd)) (by decide +kernel) (by decide +kernel) (by decide +kernel) (by omega)
  rw [if_neg h11]
  have hb2 := hb1 h7 h11
  intro p1 hp1 p2 hp2
  have s3 := same_new hp1 (.lst [V.str (Str.ofString "call"), V.str (Str.ofString "at"), V.str (Str.ofString "join"), V.str (Str.ofString "size"), V.str (Str.ofString "add"), V.str (Str.ofString "sub"), V.str (Str.ofString "less")])
  have e3 : upd H2 p1 (.lst [V.str (Str.ofString "call"), V.str (Str.ofString "at"), V.str (Str.ofString "join"), V.str (Str.ofString "size"), V.str (Str.ofString "add"), V.str (Str.ofString "sub"), V.str (Str.ofString "less")]) p1 = _ := upd_same
  have s4 := same_up s3 hp2 (.lst [V.int 5, V.int 12, V.int 13, V.int 14, V.int 15, V.int 16, V.int 17])
  have e4 := same_new hp2 (.lst [V.int 5, V.int 12, V.int 13, V.int 14, V.int 15, V.int 16, V.int 17]) _ _ e3
  generalize upd (upd H2 p1 _) p2 (.lst [V.int 5, V.int 12, V.int 13, V.int 14, V.int 15, V.int 16, V.int 17]) = H4 at s4 e4 ⊢
  refine ⟨rfl, by decide, ?_⟩
  rw [e4]
  have last : ∀ (o : Str), o.length ≤ 4 → o ≠ Str.ofString "num" → o ≠ Str.ofString "name" → ∀ (p3 : Addr), H4 p3 = none → qAdd (.ref p3) (.ref D) (upd H4 p3 (.lst [.str o])) Q := fun o h1 h2 h3 p3 hp3 => add0 hb2 o h1 h2 h3 p3 _ (same_up s4 hp3 _) upd_same
  have hop : op = 5 ∨ op = 12 ∨ op = 13 ∨ op = 14 ∨ op = 15 ∨ op = 16 ∨ op = 17 := by omega
  rcases hop with rfl | rfl | rfl | rfl | rfl | rfl | rfl
  all_goals
    first
      | exact fun p3 hp3 => last _ (by decide +kernel) (by decide +kernel) (by decide +kernel) p3 hp3
      | skip
end
end Fk
namespace Fk
open PySem L2
open TL (tl tl_append len_tl)
/-! _law_item, _law_trees -/
local macro_rules | `(tactic| walk_at "ev") => `(tactic| try simp only [cx_K, L2.start, List.map_cons, List.map_nil, List.length_cons, List.length_nil, Nat.reduceAdd, Nat.reduceSub, Nat.reduceLT, List.replicate_succ, List.replicate_zero, List.cons_append, List.nil_append, Nat.zero_add, Nat.add_zero,
  tSeq, tAsg, tLst, tTup, tNil, tCons, tC, tOp, tUn, gName, tNext, tRet, tRetN, tIfS, tDrop, tCB, tCall, tMeth, tMake, tIf, tAnd, tOr, tNot, tAndV, tOrV, tNotV, qFor, qLc, tYes, wStr, wLst, wTup, wRng1, wRng2, wEnum, wZip, wZipA, wRev, qVar, asB_bl, qAdd_ii, qAdd_ss, qSub_ii, qMul_ii, qMod_ii, qDiv_ii, qPow_ii, qCmpI_ii, qEq_ii, qEq_ss, qEq_bb, qIsN_n, qIsN_i, qIsN_s, qIsN_b, qIsN_r, qInS_s, qInT_r, qIx_s, qIx_r, qT, qIAdd_ii, qIAdd_ss, qLen_s, qLen_r, qAbs_i, qMax2_ii, qMin2_ii, qInt_i, qInt_b, qInt_s, qStrC_i, qStrC_s, qList_r, qTuple_r, tupleAs_l, tupleAs_t, qDivmod_ii, qAll_r, qAny_r, qSl_s, tSl, tNoPart, tPart, qPar, qPar3,
  qApp, qExt, qPop, isLst, qFld, qSetF, qAugF, qAug, qgTup, qgCons, qgNil, qNeg, qDG, qDIn, qDPut, qDGet2, qUpd, keyOf, qJoin, qWords, qStrip, qSum, qMaxA, qSIdx, qLIdx, qRevS, qIsi, qIsi2, qIsiC, qChain, isBl, tyN, gSub, qSetL, yv, wipe,
  List.getElem?_cons_zero, List.getElem?_cons_succ, List.set_cons_zero, List.set_cons_succ, upd_same, lstOf, tupOf, seqOf, at0, at1, at2, at3, ix0, ix1, ix2, sz0, sz1, sz2, sz3, sz4, sz5, sz6, sz7, sz8, sz15, true_and, and_true, and_self, if_true, if_false, if_pos,
  beq_t, beq_f, decide_eq_true_eq, decide_eq_false_iff_not, Bool.not_eq_true', Bool.not_eq_true, Bool.not_eq_false, Bool.not_true, Bool.not_false, Bool.false_eq_true, reduceCtorEq, ite_not, if_true, if_false, reduceIte, V.int.injEq, V.str.injEq, V.bl.injEq, V.ref.injEq, List.append_nil, forall_eq', exists_eq_left, exists_eq_left'])
local macro_rules | `(tactic| walk_at "evh") => `(tactic| try simp only [cx_K, L2.start, List.map_cons, List.map_nil, List.length_cons, List.length_nil, Nat.reduceAdd, Nat.reduceSub, Nat.reduceLT, List.replicate_succ, List.replicate_zero, List.cons_append, List.nil_append, Nat.zero_add, Nat.add_zero,
  tSeq, tAsg, tLst, tTup, tNil, tCons, tC, tOp, tUn, gName, tNext, tRet, tRetN, tIfS, tDrop, tCB, tCall, tMeth, tMake, tIf, tAnd, tOr, tNot, tAndV, tOrV, tNotV, qFor, qLc, tYes, wStr, wLst, wTup, wRng1, wRng2, wEnum, wZip, wZipA, wRev, qVar, asB_bl, qAdd_ii, qAdd_ss, qSub_ii, qMul_ii, qMod_ii, qDiv_ii, qPow_ii, qCmpI_ii, qEq_ii, qEq_ss, qEq_bb, qIsN_n, qIsN_i, qIsN_s, qIsN_b, qIsN_r, qInS_s, qInT_r, qIx_s, qIx_r, qT, qIAdd_ii, qIAdd_ss, qLen_s, qLen_r, qAbs_i, qMax2_ii, qMin2_ii, qInt_i, qInt_b, qInt_s, qStrC_i, qStrC_s, qList_r, qTuple_r, tupleAs_l, tupleAs_t, qDivmod_ii, qAll_r, qAny_r, qSl_s, tSl, tNoPart, tPart, qPar, qPar3,
  qApp, qExt, qPop, isLst, qFld, qSetF, qAugF, qAug, qgTup, qgCons, qgNil, qNeg, qDG, qDIn, qDPut, qDGet2, qUpd, keyOf, qJoin, qWords, qStrip, qSum, qMaxA, qSIdx, qLIdx, qRevS, qIsi, qIsi2, qIsiC, qChain, isBl, tyN, gSub, qSetL, yv, wipe,
  List.getElem?_cons_zero, List.getElem?_cons_succ, List.set_cons_zero, List.set_cons_succ, upd_same, lstOf, tupOf, seqOf, at0, at1, at2, at3, ix0, ix1, ix2, sz0, sz1, sz2, sz3, sz4, sz5, sz6, sz7, sz8, sz15, true_and, and_true, and_self, if_true, if_false, if_pos,
  beq_t, beq_f, decide_eq_true_eq, decide_eq_false_iff_not, Bool.not_eq_true', Bool.not_eq_true, Bool.not_eq_false, Bool.not_true, Bool.not_false, Bool.false_eq_true, reduceCtorEq, ite_not, if_true, if_false, reduceIte, V.int.injEq, V.str.injEq, V.bl.injEq, V.ref.injEq, List.append_nil, forall_eq', exists_eq_left, exists_eq_left', *])
-- _law_item  names ["op", "arg", "stack", "many", "parts", "nest", "part"]  needs ['c__law_name', 'c__law_many', 'z_max', 'c__law_tree', 'z_sum']
abbrev s_law_item : Stmt := topS 23
theorem sc_law_item : FnScope ["op", "arg", "stack", "many", "parts", "nest", "part"] ["op", "arg", "stack"] (defScope s_law_item) := ⟨rfl, rfl, rfl, by decide +kernel, rfl, by decide +kernel, by decide +kernel⟩
-- _law_trees  names ["script", "made", "stack", "done", "cell", "number", "op", "item"]  needs ['z_len', 'c__law_name', 'c__law_item', 'c__law_pop']
abbrev s_law_trees : Stmt := topS 24
theorem sc_law_trees : FnScope ["script", "made", "stack", "done", "cell", "number", "op", "item"] ["script"] (defScope s_law_trees) := ⟨rfl, rfl, rfl, by decide +kernel, rfl, by decide +kernel, by decide +kernel⟩
section
variable {P : Program} {w : World} {K : PySem.W.Frag} {mg : Str → Option Value} {base : Heap} {f : Addr} {fd : FuncData}
theorem leafT_ok {n : Nat} {d : PyData} (h : leafT d = true) : okR n d = true := by
  cases d with
  | int i => cases n <;> exact h
  | str x => cases n <;> exact h
  | _ => cases h
theorem leafT_pl {d : PyData} (h : leafT d = true) : pl d ≤ 60 := by
  cases d with
  | int i => exact Nat.le_refl _
  | str x => exact Nat.le_trans (of_decide_eq_true h) (by decide)
  | _ => cases h
theorem leafL {S : List Addr} {H : Hp} {p : Addr} {o : Str} {v : V} {d : PyData} (hp : H p = some (.lst [.str o, v])) (hS : p ∉ S) (l : Lx S H v d) (ho : o.length ≤ 4) (hd : leafT d = true) : TrH S H 3 100 (.ref p) := by
  refine ⟨.list [.str o, d], .lst hS hp (.cons (.str o) (.cons l .nil)), ?_, ?_⟩
  · show okR (2 + 1) _ = true
    simp only [okR, Bool.and_eq_true, decide_eq_true_eq, Bool.or_eq_true, List.all_nil, List.length_nil]
    exact ⟨⟨⟨⟨by omega, by omega⟩, leafT_ok hd⟩, trivial⟩, .inl hd⟩
  · simp only [pl, plS]
    have := leafT_pl hd
    omega
theorem many_of {op arg : Int} (o1 : 4 ≤ op) (o2 : op ≤ 17) : ∃ k : Nat, atI [V.int 1, V.int 2, V.int 2, V.int (arg % 7), V.int 1, V.int 1, V.int (2 + arg % 6), V.int (arg % 9), V.int 3, V.int 2, V.int 1, V.int 2, V.int 2, V.int 2] (op - 4) = some (.int (k : Int)) ∧ k ≤ 20 ∧ (op ≠ 7 → op ≠ 11 → 1 ≤ k) := by
  have hop : op = 4 ∨ op = 5 ∨ op = 6 ∨ op = 7 ∨ op = 8 ∨ op = 9 ∨ op = 10 ∨ op = 11 ∨ op = 12 ∨ op = 13 ∨ op = 14 ∨ op = 15 ∨ op = 16 ∨ op = 17 := by omega
  have a7 := Int.emod_nonneg arg (show (7 : Int) ≠ 0 by decide)
  have b7 := Int.emod_lt_of_pos arg (show (0 : Int) < 7 by decide)
  have a6 := Int.emod_nonneg arg (show (6 : Int) ≠ 0 by decide)
  have b6 := Int.emod_lt_of_pos arg (show (0 : Int) < 6 by decide)
  have a9 := Int.emod_nonneg arg (show (9 : Int) ≠ 0 by decide)
  have b9 := Int.emod_lt_of_pos arg (show (0 : Int) < 9 by decide)
  obtain ⟨k7, h7⟩ := Int.eq_ofNat_of_zero_le a7
  obtain ⟨k6, h6⟩ := Int.eq_ofNat_of_zero_le a6
  obtain ⟨k9, h9⟩ := Int.eq_ofNat_of_zero_le a9
  rw [h7, h6, h9]
  rcases hop with rfl | rfl | rfl | rfl | rfl | rfl | rfl | rfl | rfl | rfl | rfl | rfl | rfl | rfl
  · exact ⟨1, atI_nat (j := 0) rfl, by decide, fun _ _ => by decide⟩
  · exact ⟨2, atI_nat (j := 1) rfl, by decide, fun _ _ => by decide⟩
  · exact ⟨2, atI_nat (j := 2) rfl, by decide, fun _ _ => by decide⟩
  · exact ⟨k7, atI_nat (j := 3) rfl, by omega, fun h => absurd rfl h⟩
  · exact ⟨1, atI_nat (j := 4) rfl, by decide, fun _ _ => by decide⟩
  · exact ⟨1, atI_nat (j := 5) rfl, by decide, fun _ _ => by decide⟩
  · exact ⟨2 + k6, atI_nat (j := 6) rfl, by omega, fun _ _ => by omega⟩
  · exact ⟨k9, atI_nat (j := 7) rfl, by omega, fun _ h => absurd rfl h⟩
  · exact ⟨3, atI_nat (j := 8) rfl, by decide, fun _ _ => by decide⟩
  · exact ⟨2, atI_nat (j := 9) rfl, by decide, fun _ _ => by decide⟩
  · exact ⟨1, atI_nat (j := 10) rfl, by decide, fun _ _ => by decide⟩
  · exact ⟨2, atI_nat (j := 11) rfl, by decide, fun _ _ => by decide⟩
  · exact ⟨2, atI_nat (j := 12) rfl, by decide, fun _ _ => by decide⟩
  · exact ⟨2, atI_nat (j := 13) rfl, by decide, fun _ _ => by decide⟩
theorem szs_ints (bs : Its) : (bs.map fun b => (b.2.2 : Int)).sum = ((szs bs : Nat) : Int) := by
  unfold szs
  induction bs with
  | nil => rfl
  | cons b r ih => simp only [List.map_cons, List.sum_cons, ih]; omega
def sp_item : Sp := fun vs H Q _ => ∃ (op arg : Int) (st : Addr) (S : List Addr) (as : Its), vs = [.int op, .int arg, .ref st] ∧ 0 ≤ op ∧ op ≤ 17 ∧ st ∈ S ∧ (∀ a ∈ S, H a ≠ none) ∧ H st = some (.lst (as.map (·.1))) ∧ ItsH S H as ∧
  ∀ v n s as' H', But [st] H H' → H' st = some (.lst (as'.map (·.1))) → Sub as' as → ItsH S H' as' → ItH S H' v n s → Q v H'
theorem ok_item (F : Fun K "_law_item" "_law_item" s_law_item f fd) (z_max : mg "max" = none) (z_sum : mg "sum" = none) (c__law_name : Cal P w K mg base CX0 1 "_law_name" ["cell"] sp_name) (c__law_many : Cal P w K mg base CX0 2 "_law_many" ["stack", "many"] sp_gmany) (c__law_tree : Cal P w K mg base CX0 2 "_law_tree" ["op", "arg", "parts"] sp_tree) :
    FnOk P w K mg base CX0 3 f fd ["op", "arg", "stack"] sp_item := by
  refine F.ok sc_law_item (fun vs H Q E h => by obtain ⟨_, _, _, _, _, rfl, _⟩ := h; rfl) (fun cdv A outer s H vs Q E hr h => ?_)
  have hu64 := hr.units
  refine ⟨_, (pss_cons (ps_if (xt ylt (xv 0) pe_int (nomark _)) (pss_one (ps_ret (pe_lst (pa_cons (pe_lst (pa_cons pe_str (pa_cons (pe_op ymod (xv 1) (pe_ix yix (pe_lst (pa_cons pe_int (pa_cons (pe_op ypow pe_int pe_int) (pa_cons (pe_op ypow pe_int pe_int) pa_nil)))) (pe_op yadd (xv 0) (pe_op ymod (xv 1) pe_int)) (fun _ _ => rfl))) pa_nil))) (pa_cons pe_int (pa_cons pe_int pa_nil)))))) pss_nil)
  (pss_cons (ps_if (xt ylt (xv 0) pe_int (nomark _)) (pss_one (ps_ret (pe_lst (pa_cons (pe_lst (pa_cons pe_str (pa_cons (pe_c c__law_name hr (pa_cons (xv 1) pa_nil)) pa_nil))) (pa_cons pe_int (pa_cons pe_int pa_nil)))))) pss_nil)
  (pss_cons (ps_set (i := 3) sc_law_item.nd rfl (Or.inl rfl) (pe_ix yix (pe_lst (pa_cons pe_int (pa_cons pe_int (pa_cons pe_int (pa_cons (pe_op ymod (xv 1) pe_int) (pa_cons pe_int (pa_cons pe_int (pa_cons (pe_op yadd pe_int (pe_op ymod (xv 1) pe_int)) (pa_cons (pe_op ymod (xv 1) pe_int) (pa_cons pe_int (pa_cons pe_int (pa_cons pe_int (pa_cons pe_int (pa_cons pe_int (pa_cons pe_int pa_nil))))))))))))))) (pe_op ysub (xv 0) pe_int) (fun _ _ => rfl)))
  (pss_cons (ps_set (i := 4) sc_law_item.nd rfl (Or.inl rfl) (pe_c c__law_many hr (pa_cons (xv 2) (pa_cons (xv 3) pa_nil))))
  (pss_cons (ps_set (i := 5) sc_law_item.nd rfl (Or.inl rfl) (pe_op yadd pe_int (pe_callB ymaxA (by rfl) z_max (by decide +kernel) (pa_cons (pe_op yadd (pe_lst (pa_cons pe_int pa_nil)) (xlc (own := [("part", 6)]) sc_law_item.nd (xilst (xv 4)) (blkOk_by (own := [("part", 6)]) (N := ["op", "arg", "stack", "many", "parts", "nest", "part"]) (sc := defScope s_law_item) (by decide +kernel)) (fun _ _ _ _ _ => (pg_name (i := 6) sc_law_item.nd rfl (Or.inl rfl))) (fun _ _ _ _ _ => pts_nil) (fun _ _ _ _ _ => (pe_ix yix (xv 6) pe_int (fun _ _ => rfl))))) pa_nil))))
  (pss_one (ps_ret (pe_lst (pa_cons (pe_c c__law_tree hr (pa_cons (xv 0) (pa_cons (xv 1) (pa_cons (xv 4) pa_nil)))) (pa_cons (xv 5) (pa_cons (pe_op yadd pe_int (pe_callB ysum (by rfl) z_sum (by decide +kernel) (pa_cons (xlc (own := [("part", 6)]) sc_law_item.nd (xilst (xv 4)) (blkOk_by (own := [("part", 6)]) (N := ["op", "arg", "stack", "many", "parts", "nest", "part"]) (sc := defScope s_law_item) (by decide +kernel)) (fun _ _ _ _ _ => (pg_name (i := 6) sc_law_item.nd rfl (Or.inl rfl))) (fun _ _ _ _ _ => pts_nil) (fun _ _ _ _ _ => (pe_ix yix (xv 6) pe_int (fun _ _ => rfl)))) pa_nil))) pa_nil))))))))))), ?_⟩
  obtain ⟨op, arg, st, S, as, rfl, o1, o2, hst, hS, ha, hi, q⟩ := h
  walk_at "evh"
  have nS : ∀ {p}, H p = none → p ∉ S := fun h m => hS _ m h
  show (if op < 2 then _ else _)
  by_cases h2 : op < 2
  · rw [if_pos h2]
    refine ⟨⟨by decide, by decide, by decide⟩, ⟨by decide, by decide, by decide⟩, fun p hp => ⟨by decide, ?_⟩⟩
    have a0 := Int.emod_nonneg arg (show (2 : Int) ≠ 0 by decide)
    have a1 := Int.emod_lt_of_pos arg (show (0 : Int) < 2 by decide)
    have hm : ∃ m : Int, atI [V.int 10, V.int (10 ^ Int.toNat 9), V.int (10 ^ Int.toNat 60)] (op + arg % 2) = some (.int m) ∧ 0 < m ∧ m ≤ 10 ^ 60 := by
      rcases (by omega : op + arg % 2 = 0 ∨ op + arg % 2 = 1 ∨ op + arg % 2 = 2) with h | h | h
      · rw [h]; exact ⟨10, at0, by decide, by decide⟩
      · rw [h]; exact ⟨10 ^ Int.toNat 9, at1, by decide, by decide⟩
      · rw [h]; exact ⟨10 ^ Int.toNat 60, at2, by decide, by decide⟩
    obtain ⟨m, hm, m0, m1⟩ := hm
    rw [hm]
    have s1 := same_new hp (.lst [V.int 10, V.int (10 ^ Int.toNat 9), V.int (10 ^ Int.toNat 60)])
    generalize upd H p (.lst [V.int 10, V.int (10 ^ Int.toNat 9), V.int (10 ^ Int.toNat 60)]) = H1 at s1 ⊢
    refine ⟨m0, fun p2 hp2 p3 hp3 => ?_⟩
    have s2 := same_up s1 hp2 (.lst [V.str (Str.ofString "num"), V.int (arg % m)])
    have s3 := same_up s2 hp3 (.lst [V.ref p2, V.int 1, V.int 1])
    have hd : leafT (.int (arg % m)) = true := decide_eq_true ⟨Int.emod_nonneg _ (by omega), Int.lt_of_lt_of_le (Int.emod_lt_of_pos _ m0) m1⟩
    exact q _ 1 1 as _ (but_same s3) (s3 _ _ ha) (Sub.refl _) (hi.mono (but_same s3)) ⟨p3, .ref p2, rfl, nS (s2.free hp3), upd_same, leafL (same_new hp3 _ _ _ upd_same) (nS (s1.free hp2)) (.int _) (by decide +kernel) hd, Nat.le_refl _, Nat.le_refl _⟩
  rw [if_neg h2]
  by_cases h4 : op < 4
  · rw [if_pos h4]
    refine ⟨arg, rfl, fun z H1 s1 hz p2 hp2 p3 hp3 => ?_⟩
    have s2 := same_up s1 hp2 (.lst [V.str (Str.ofString "name"), V.str z])
    have s3 := same_up s2 hp3 (.lst [V.ref p2, V.int 1, V.int 1])
    exact q _ 1 1 as _ (but_same s3) (s3 _ _ ha) (Sub.refl _) (hi.mono (but_same s3)) ⟨p3, .ref p2, rfl, nS (s2.free hp3), upd_same, leafL (same_new hp3 _ _ _ upd_same) (nS (s1.free hp2)) (.str _) (by decide +kernel) (decide_eq_true hz), Nat.le_refl _, Nat.le_refl _⟩
  rw [if_neg h4]
  refine ⟨by decide, by decide, by decide, sz_of (by decide), fun p hp => ?_⟩
  obtain ⟨k, hk, k20, k1⟩ := many_of (op := op) (arg := arg) (by omega) o2
  rw [hk]
  generalize hL : [V.int 1, V.int 2, V.int 2, V.int (arg % 7), V.int 1, V.int 1, V.int (2 + arg % 6), V.int (arg % 9), V.int 3, V.int 2, V.int 1, V.int 2, V.int 2, V.int 2] = L
  have s1 := same_new hp (.lst L)
  have hS1 : ∀ a ∈ S, upd H p (.lst L) a ≠ none := fun a h e => hS a h (s1.free e)
  have hi1 := hi.mono (but_same (S := S) s1)
  have ha1 := s1 _ _ ha
  generalize upd H p (.lst L) = H1 at s1 hS1 hi1 ha1 ⊢
  refine ⟨st, k, S, as, rfl, k20, hst, hS1, ha1, hi1, fun pp as' bs H2 b2 g1 g2 g3 g4 g5 g6 g7 => ?_⟩
  have b02 : But [st] H H2 := (but_same s1).trans b2
  have hS2 : ∀ a ∈ S, H2 a ≠ none := fun a h e => by
    cases hh : H1 a with
    | none => exact hS1 a h hh
    | some o =>
      by_cases hx : a = st
      · rw [hx, g1] at e; cases e
      · rw [b2 a o (by simpa using hx) hh] at e; cases e
  intro p2 hp2
  have s3 := same_new hp2 (.lst [V.int 0])
  have e3 := s3 _ _ g5
  have e3' : upd H2 p2 (.lst [V.int 0]) p2 = some (.lst [V.int 0]) := upd_same
  show match (match upd H2 p2 (HO.lst [V.int 0]) pp with
    | some (HO.lst xs) => some xs
    | some (HO.frz o (HO.lst xs)) => some xs
    | x => none) with
    | some xs => _
    | none => False
  rw [e3]
  generalize upd H2 p2 (.lst [V.int 0]) = H3 at s3 e3 e3' ⊢
  intro D hD
  rw [List.map_map]
  refine lc_vals (f := Yd.one ∘ (·.1)) (as := bs) (fun y => V.int (y.2.1 : Int)) hD (by omega) ?_ ?_ ?_
  · intro H' s'
    show (match H' pp with | some (HO.lst xs) => some xs | some (HO.frz o (HO.lst xs)) => some xs | x => none) = _
    rw [s' _ _ e3]
  · intro y hy H' s' Fin fin
    obtain ⟨a, t, i1, i2, i3, i4, i5, i6⟩ := g7 y hy
    show yv (.one y.1) _ _
    rw [i1]
    have i3' := s' _ _ (s3 _ _ i3)
    walk_at "evh"
    exact fin H' (Same.refl _)
  intro H4 s4 e4
  rw [qAdd_ll (s4 _ _ e3') e4]
  refine ⟨sz_of (by rw [List.length_map]; show 1 + _ ≤ _; omega), fun p4 hp4 => ?_⟩
  have eL : [V.int 0] ++ bs.map (fun y => V.int (y.2.1 : Int)) = ((0 : Int) :: bs.map fun y => (y.2.1 : Int)).map V.int := by
    rw [List.map_cons, List.map_map]
    rfl
  rw [eL]
  have s5 := same_new hp4 (.lst (((0 : Int) :: bs.map fun y => (y.2.1 : Int)).map V.int))
  have e5 : upd H4 p4 (.lst (((0 : Int) :: bs.map fun y => (y.2.1 : Int)).map V.int)) p4 = some (.lst (((0 : Int) :: bs.map fun y => (y.2.1 : Int)).map V.int)) := upd_same
  have hge : ∀ y ∈ bs, (y.2.1 : Int) ≤ mxI ((0 : Int) :: bs.map fun y => (y.2.1 : Int)) := fun y hy => mxI_ge (List.mem_cons_of_mem _ (List.mem_map.mpr ⟨y, hy, rfl⟩))
  have hge0 : 0 ≤ mxI ((0 : Int) :: bs.map fun y => (y.2.1 : Int)) := mxI_ge (by simp)
  generalize hns : ((0 : Int) :: bs.map fun y => (y.2.1 : Int)) = ns at s5 e5 hge hge0 ⊢
  generalize upd H4 p4 (.lst (ns.map V.int)) = H5 at s5 e5 ⊢
  have s25 : Same H2 H5 := s3.trans (s4.trans s5)
  obtain ⟨m, hm⟩ := Int.eq_ofNat_of_zero_le hge0
  simp only [e5, intsOf_map]
  refine ⟨by rw [← hns]; exact Nat.succ_pos _, op, arg, pp, S, bs, m, rfl, by omega, o2, by omega, fun h7 h11 => by rw [g6]; exact k1 h7 h11, fun a h e => hS2 a h (s25.free e), s25 _ _ g5, g7.mono (but_same s25), fun b hb => by have := hge b hb; omega, fun v H6 s6 tr => ?_⟩
  have e6 := s6 _ _ (s25 _ _ g5)
  simp only [e6]
  intro D2 hD2
  rw [List.map_map]
  refine lc_vals (f := Yd.one ∘ (·.1)) (as := bs) (fun y => V.int (y.2.2 : Int)) hD2 (by omega) ?_ ?_ ?_
  · intro H' s'
    show (match H' pp with | some (HO.lst xs) => some xs | some (HO.frz o (HO.lst xs)) => some xs | x => none) = _
    rw [s' _ _ e6]
  · intro y hy H' s' Fin fin
    obtain ⟨a, t, i1, i2, i3, i4, i5, i6⟩ := g7 y hy
    show yv (.one y.1) _ _
    rw [i1]
    have i3' := s' _ _ (s6 _ _ (s25 _ _ i3))
    walk_at "evh"
    exact fin H' (Same.refl _)
  intro H7 s7 e7
  simp only [e7]
  rw [show bs.map (fun y => V.int (y.2.2 : Int)) = (bs.map fun y => (y.2.2 : Int)).map V.int by rw [List.map_map]; rfl, intsOf_map]
  intro p8 hp8
  have s8 := same_new hp8 (.lst [v, V.int (1 + mxI ns), V.int (1 + (bs.map fun y => (y.2.2 : Int)).sum)])
  have s28 : Same H2 _ := (s25.trans s6).trans (s7.trans s8)
  rw [szs_ints]
  rw [szs_ints] at s8 s28
  refine q _ (m + 1) (1 + szs bs) as' _ (b02.trans (but_same s28)) (s28 _ _ g1) g2 (g3.mono (but_same s28)) ⟨p8, v, rfl, fun h => ?_, ?_, (tr.mono (but_same (s7.trans s8)) (Nat.le_refl _) (Nat.le_refl _)), by omega, by omega⟩
  · exact hS2 _ h ((s25.trans (s6.trans s7)).free hp8)
  · rw [upd_same, hm]
    refine congrArg some (congrArg HO.lst ?_)
    rw [show (1 : Int) + ((m : Nat) : Int) = ((m + 1 : Nat) : Int) by omega, show (1 : Int) + ((szs bs : Nat) : Int) = ((1 + szs bs : Nat) : Int) by omega]
abbrev Mds := List (V × Nat)
def MadeH (S : List Addr) (H : Hp) (ms : Mds) : Prop := ∀ p ∈ ms, ∃ (a : Addr) (z : Str) (t : V), p.1 = .ref a ∧ a ∉ S ∧ H a = some (.lst [.str z, t]) ∧ z.length ≤ 13 ∧ TrH S H 72 p.2 t
theorem MadeH.mono {S : List Addr} {H H' : Hp} {ms : Mds} (h : MadeH S H ms) (k : But S H H') : MadeH S H' ms := fun p hp => by
  obtain ⟨a, z, t, h1, h2, h3, h4, h5⟩ := h p hp
  exact ⟨a, z, t, h1, h2, k _ _ h2 h3, h4, h5.mono k (Nat.le_refl _) (Nat.le_refl _)⟩
theorem MadeH.weak {S T : List Addr} {H : Hp} {ms : Mds} (h : MadeH S H ms) (k : ∀ a, a ∈ T → a ∈ S ∨ H a = none) : MadeH T H ms := fun p hp => by
  obtain ⟨a, z, t, h1, h2, h3, h4, h5⟩ := h p hp
  exact ⟨a, z, t, h1, (fun m => (k _ m).elim h2 fun z => by rw [z] at h3; cases h3), h3, h4, h5.weak k⟩
theorem same_of_but {S : List Addr} {H H1 H2 : Hp} (s : Same H H1) (b : But S H1 H2) (hn : ∀ a ∈ S, H a = none) : Same H H2 := fun a o e => b a o (fun m => by rw [hn a m] at e; cases e) (s a o e)
def sp_trees : Sp := fun vs H Q _ => ∃ (a : Addr) (ns : List Int), vs = [.ref a] ∧ H a = some (.lst (ns.map V.int)) ∧ ns.length ≤ 63 ∧
  ∀ p ms H', Same H H' → H p = none → H' p = some (.lst (ms.map (·.1))) → MadeH [p] H' ms → 1 ≤ ms.length → ms.length ≤ 12 → (ms.map (·.2)).sum ≤ 24100 → Q (.ref p) H'
theorem atI_last {α : Type} {l : List α} (h : 0 < l.length) : atI l (-1) = some l[l.length - 1] := by
  unfold atI ixN
  rw [if_neg (by decide), if_pos (by omega)]
  show l[((-1 : Int) + (l.length : Int)).toNat]? = _
  rw [show ((-1 : Int) + (l.length : Int)).toNat = l.length - 1 by omega]
  exact List.getElem?_eq_getElem (by omega)
def ivT (H : Hp) (a M : Addr) (ns : List Int) (r : List Int) (σ : St) (H' : Hp) : Prop :=
  ∃ (st : Addr) (d : Nat) (as : Its) (ms : Mds) (x4 x5 x6 x7 : Option V), σ = [some (.ref a), some (.ref M), some (.ref st), some (.int (d : Int)), x4, x5, x6, x7] ∧ Same H H' ∧ H st = none ∧ M ≠ st ∧ H' M = some (.lst (ms.map (·.1))) ∧ H' st = some (.lst (as.map (·.1))) ∧ MadeH [M, st] H' ms ∧ ItsH [M, st] H' as ∧
    ms.length ≤ 11 ∧ (ms.map (·.2)).sum ≤ 150 * d ∧ d ≤ 160 ∧ (∀ p ∈ as, p.2.1 ≤ 24 ∧ p.2.2 + d ≤ 160) ∧ as.length + r.length ≤ 63
theorem ok_trees (F : Fun K "_law_trees" "_law_trees" s_law_trees f fd) (z_len : mg "len" = none) (c__law_name : Cal P w K mg base CX0 1 "_law_name" ["cell"] sp_name) (c__law_pop : Cal P w K mg base CX0 1 "_law_pop" ["stack"] sp_pop) (c__law_item : Cal P w K mg base CX0 3 "_law_item" ["op", "arg", "stack"] sp_item) :
    FnOk P w K mg base CX0 4 f fd ["script"] sp_trees := by
  refine F.ok sc_law_trees (fun vs H Q E h => by obtain ⟨_, _, rfl, _⟩ := h; rfl) (fun cdv A outer s H vs Q E hr h => ?_)
  have hu64 := hr.units
  refine ⟨_, (pss_cons (ps_set (i := 1) sc_law_trees.nd rfl (Or.inl rfl) (pe_lst pa_nil))
  (pss_cons (ps_set (i := 2) sc_law_trees.nd rfl (Or.inl rfl) (pe_lst pa_nil))
  (pss_cons (ps_set (i := 3) sc_law_trees.nd rfl (Or.inl rfl) pe_int)
  (pss_cons (xfor PassesOwn.never (xilst (xv 0)) (pg_name (i := 4) sc_law_trees.nd rfl (Or.inl rfl))
  (pss_cons (ps_set (i := 5) sc_law_trees.nd rfl (Or.inl rfl) (pe_op ymod (xv 4) (pe_op ypow pe_int pe_int)))
  (pss_cons (ps_set (i := 6) sc_law_trees.nd rfl (Or.inl rfl) (pe_op ymod (xv 5) pe_int))
  (pss_one (ps_if (xt ygt (xv 6) pe_int (nomark _)) (pss_one (ps_if (PW.pt (pw_and (xt ygt (pe_callB ylen (by rfl) z_len PySem.boot_len (pa_cons (xv 2) pa_nil)) pe_int (nomark _)) (pw_and (xt ylt (pe_callB ylen (by rfl) z_len PySem.boot_len (pa_cons (xv 1) pa_nil)) pe_int (nomark _)) (pw_and1 (xt yle (xv 3) pe_int (nomark _)))))) (pss_cons (ps_expr (xapp (xv 1) (pe_lst (pa_cons (pe_c c__law_name hr (pa_cons (pe_op ydiv (xv 5) pe_int) pa_nil)) (pa_cons (pe_ix yix (pe_ix yix (xv 2) (pe_un yneg pe_int) (fun _ _ => rfl)) pe_int (fun _ _ => rfl)) pa_nil)))))
  (pss_cons (ps_set (i := 3) sc_law_trees.nd rfl (Or.inl rfl) (pe_op yadd (xv 3) (pe_ix yix (pe_ix yix (xv 2) (pe_un yneg pe_int) (fun _ _ => rfl)) pe_int (fun _ _ => rfl))))
  (pss_one (ps_set (i := 2) sc_law_trees.nd rfl (Or.inl rfl) (pe_lst pa_nil))))) pss_nil)) (pss_cons (ps_set (i := 7) sc_law_trees.nd rfl (Or.inl rfl) (pe_c c__law_item hr (pa_cons (xv 6) (pa_cons (pe_op ydiv (xv 5) pe_int) (pa_cons (xv 2) pa_nil)))))
  (pss_one (ps_if (PW.pt (pw_and (xt yle (pe_ix yix (xv 7) pe_int (fun _ _ => rfl)) pe_int (nomark _)) (pw_and1 (xt yle (pe_op yadd (pe_ix yix (xv 7) pe_int (fun _ _ => rfl)) (xv 3)) pe_int (nomark _))))) (pss_one (ps_expr (xapp (xv 2) (xv 7)))) pss_nil))))))))
  (pss_cons (ps_if (PW.pt (pw_or (xt (yeq hu64) (pe_callB ylen (by rfl) z_len PySem.boot_len (pa_cons (xv 1) pa_nil)) pe_int (nomark _)) (pw_or1 (PW.pt (pw_and (xt ygt (pe_callB ylen (by rfl) z_len PySem.boot_len (pa_cons (xv 2) pa_nil)) pe_int (nomark _)) (pw_and1 (xt yle (xv 3) pe_int (nomark _)))))))) (pss_one (ps_expr (xapp (xv 1) (pe_lst (pa_cons (pe_c c__law_name hr (pa_cons (xv 3) pa_nil)) (pa_cons (pe_ix yix (pe_c c__law_pop hr (pa_cons (xv 2) pa_nil)) pe_int (fun _ _ => rfl)) pa_nil)))))) pss_nil)
  (pss_one (ps_ret (xv 1)))))))), ?_⟩
  obtain ⟨a, ns, rfl, ha, hn, q⟩ := h
  walk_at "evh"
  intro M hM st hst
  obtain ⟨nst, hst0⟩ := upd_free hst
  have sI := same_up (same_new hM (.lst [])) hst (.lst [])
  have eM : upd (upd H M (.lst [])) st (.lst []) M = some (.lst []) := same_new hst _ _ _ upd_same
  have eS : upd (upd H M (.lst [])) st (.lst []) st = some (.lst []) := upd_same
  generalize upd (upd H M (.lst [])) st (.lst []) = H1 at sI eM eS ⊢
  rw [sI _ _ ha]
  simp only [List.map_map]
  refine ⟨Int, Yd.one ∘ V.int, ns, ivT H a M ns, rfl, ⟨st, 0, [], [], none, none, none, none, rfl, sI, hst0, nst.symm, eM, eS, fun _ h => (by cases h), fun _ h => (by cases h), by decide, by decide, by decide, fun _ h => (by cases h), by show 0 + _ ≤ _; omega⟩, ?_, ?_, ?_⟩
  · rintro r σ H' ⟨st, d, as, ms, x4, x5, x6, x7, rfl, s1, hst0, nst, eM, eS, hms, has, m1, m2, m3, m4, m5⟩
    show (match H' a with | some (HO.lst xs) => some xs | some (HO.frz o (HO.lst xs)) => some xs | x => none) = _
    rw [s1 _ _ ha]
  · rintro y r σ H' ⟨st, d, as, ms, x4, x5, x6, x7, rfl, s1, hst0, nst, eM, eS, hms, has, m1, m2, m3, m4, m5⟩
    rw [List.length_cons] at m5
    show yv (.one (.int y)) _ _
    walk_at "evh"
    refine ⟨⟨by decide, by decide, by decide⟩, by decide, by decide, ?_⟩
    generalize y % 10 ^ Int.toNat 64 = num
    have n0 := Int.emod_nonneg num (show (20 : Int) ≠ 0 by decide)
    have n1 := Int.emod_lt_of_pos num (show (0 : Int) < 20 by decide)
    generalize num % 20 = op at n0 n1 ⊢
    have skip : ∀ (x4 x5 x6 x7 : Option V), ivT H a M ns r [some (.ref a), some (.ref M), some (.ref st), some (.int (d : Int)), x4, x5, x6, x7] H' := fun x4 x5 x6 x7 =>
      ⟨st, d, as, ms, x4, x5, x6, x7, rfl, s1, hst0, nst, eM, eS, hms, has, m1, m2, m3, m4, by omega⟩
    by_cases h17 : 17 < op
    · rw [if_pos h17]
      rw [List.length_map, List.length_map]
      by_cases g1 : ¬ (0 : Int) < (as.length : Int)
      · rw [if_neg g1]; exact skip _ _ _ _
      have g1 := Decidable.not_not.mp g1
      rw [if_pos g1]
      by_cases g2 : ¬ (ms.length : Int) < 11
      · rw [if_neg g2]; exact skip _ _ _ _
      have g2 := Decidable.not_not.mp g2
      rw [if_pos g2]
      by_cases g3 : ¬ (d : Int) ≤ 100
      · rw [if_neg g3]; exact skip _ _ _ _
      have g3 := Decidable.not_not.mp g3
      rw [if_pos g3]
      refine ⟨⟨by decide, by decide⟩, _, rfl, fun z H2 s2 hz => ?_⟩
      have e2 := s2 _ _ eS
      have hl : 0 < (as.map (·.1)).length := by rw [List.length_map]; omega
      have hmem := List.getElem_mem (l := as) (n := as.length - 1) (by omega)
      have hlast : (as.map (·.1))[(as.map (·.1)).length - 1]'(by omega) = as[as.length - 1].1 := by
        rw [List.getElem_map]
        congr 1
        simp
      obtain ⟨b, t, i1, i2, i3, i4, i5, i6⟩ := has _ hmem
      have i3' := s2 _ _ i3
      obtain ⟨c1, c2⟩ := m4 _ hmem
      generalize as[as.length - 1].2.1 = n at i3 i3' i4 i5 c1 ⊢
      generalize as[as.length - 1].2.2 = sz at i3 i3' i4 i6 c2 ⊢
      simp only [e2]
      rw [atI_last hl, hlast, i1]
      walk_at "evh"
      intro p hp
      have e3 : upd H2 p (.lst [.str z, t]) M = some (.lst (ms.map (·.1))) := same_new hp _ _ _ (s2 _ _ eM)
      have e4 : upd (upd H2 p (.lst [.str z, t])) M (.lst (ms.map (·.1) ++ [.ref p])) st = some (.lst (as.map (·.1))) := by
        rw [upd_ne nst.symm]
        exact same_new hp _ _ _ e2
      have e5 : upd (upd H2 p (.lst [.str z, t])) M (.lst (ms.map (·.1) ++ [.ref p])) b = some (.lst [t, .int (n : Int), .int (sz : Int)]) := by
        rw [upd_ne (fun h => i2 (by simp [h]))]
        exact same_new hp _ _ _ i3'
      simp only [e3, e4]
      refine ⟨sz_lt (by rw [List.length_map]; omega), ?_⟩
      rw [atI_last hl, hlast, i1]
      simp only [qIx_r, e5, seqOf, lstOf, at2, qAdd_ii]
      intro p5 hp5
      have hpS : p ∉ [M, st] := fun h => by
        simp only [List.mem_cons, List.not_mem_nil, or_false] at h
        rcases h with rfl | rfl
        · rw [s2 _ _ eM] at hp; cases hp
        · rw [e2] at hp; cases hp
      have e6 : upd (upd H2 p (.lst [.str z, t])) M (.lst (ms.map (·.1) ++ [.ref p])) M = some (.lst ((ms ++ [((V.ref p, 150 * sz - 50) : V × Nat)]).map (·.1))) := by rw [upd_same, List.map_append]; rfl
      have b7 : But [M, st] H2 (upd (upd H2 p (.lst [.str z, t])) M (.lst (ms.map (·.1) ++ [.ref p]))) := ((But.refl _ H2).nw hp _).at (by simp) _
      have e7 : upd (upd H2 p (.lst [.str z, t])) M (.lst (ms.map (·.1) ++ [.ref p])) p = some (.lst [.str z, t]) := by
        rw [upd_ne (fun h => hpS (by simp [h])), upd_same]
      have b17 := (but_same (S := [M, st]) s2).trans b7
      have tr7 := i4.mono b17 (show 3 * n ≤ 72 by omega) (Nat.le_refl _)
      have sm7 : Same H (upd (upd H2 p (.lst [.str z, t])) M (.lst (ms.map (·.1) ++ [.ref p]))) := same_upd (same_up (s1.trans s2) hp _) hM _
      generalize upd (upd H2 p (.lst [.str z, t])) M (.lst (ms.map (·.1) ++ [.ref p])) = H7 at e6 b7 e7 b17 tr7 sm7 hp5 ⊢
      have wk : ∀ x, x ∈ [M, p5] → x ∈ [M, st] ∨ H7 x = none := fun x h => by
        simp only [List.mem_cons, List.not_mem_nil, or_false] at h ⊢
        rcases h with rfl | rfl
        · exact .inl (.inl rfl)
        · exact .inr hp5
      have hM5 : M ≠ p5 := fun h => by rw [← h, e6] at hp5; cases hp5
      have s8 := same_new hp5 (.lst [])
      have made : MadeH [M, p5] (upd H7 p5 (.lst [])) (ms ++ [((V.ref p, 150 * sz - 50) : V × Nat)]) := by
        refine MadeH.mono (MadeH.weak ?_ wk) (but_same s8)
        intro x hx
        rcases List.mem_append.mp hx with hx | hx
        · exact hms.mono b17 x hx
        · rw [List.mem_singleton.mp hx]
          exact ⟨p, z, t, rfl, hpS, e7, hz, tr7⟩
      refine ⟨p5, d + sz, [], ms ++ [((V.ref p, 150 * sz - 50) : V × Nat)], _, _, _, _, by rw [show (d : Int) + (sz : Int) = ((d + sz : Nat) : Int) by omega], same_up sm7 hp5 _, sm7.free hp5, hM5, by rw [upd_ne hM5]; exact e6, upd_same, made, fun _ h => (by cases h), by rw [List.length_append]; show _ + 1 ≤ 11; omega, ?_, by omega, fun _ h => (by cases h), by show 0 + _ ≤ _; omega⟩
      rw [List.map_append, List.sum_append]
      show _ + ((150 * sz - 50) + 0) ≤ _
      omega
    · rw [if_neg h17]
      refine ⟨⟨by decide, by decide⟩, op, num / 20, st, [M, st], as, rfl, n0, by omega, by simp, fun x h => ?_, eS, has, fun v n sz as' H2 b2 e2 hsub has' hit => ?_⟩
      · simp only [List.mem_cons, List.not_mem_nil, or_false] at h
        rcases h with rfl | rfl
        · rw [eM]; simp
        · rw [eS]; simp
      obtain ⟨b, t, rfl, i2, i3, i4, i5, i6⟩ := id hit
      have s2 : Same H H2 := same_of_but s1 b2 (by simpa using hst0)
      have eM2 := b2 _ _ (by simpa using nst) eM
      have bS2 : But [M, st] H' H2 := fun x o n e => b2 x o (fun h => n (by simp at h ⊢; exact .inr h)) e
      have hms2 := hms.mono bS2
      have hlen : ∀ p ∈ as', p.2.1 ≤ 24 ∧ p.2.2 + d ≤ 160 := fun p hp => m4 p (hsub.1 p hp)
      have hal := hsub.2
      have skip2 : ∀ (x4 x5 x6 x7 : Option V), ivT H a M ns r [some (.ref a), some (.ref M), some (.ref st), some (.int (d : Int)), x4, x5, x6, x7] H2 := fun x4 x5 x6 x7 =>
        ⟨st, d, as', ms, x4, x5, x6, x7, rfl, s2, hst0, nst, eM2, e2, hms2, has', m1, m2, m3, hlen, by omega⟩
      walk_at "evh"
      by_cases q1 : (n : Int) ≤ 24
      · rw [if_pos q1]
        by_cases q2 : (sz : Int) + (d : Int) ≤ 160
        · rw [if_pos q2]
          have bu : But [M, st] H2 (upd H2 st (.lst (as'.map (·.1) ++ [.ref b]))) := (But.refl _ H2).at (by simp) _
          refine ⟨sz_lt (by rw [List.length_map]; omega), st, d, as' ++ [((V.ref b, n, sz) : V × Nat × Nat)], ms, _, _, _, _, rfl, same_upd s2 hst0 _, hst0, nst, by rw [upd_ne nst]; exact eM2, by rw [upd_same, List.map_append]; rfl, hms2.mono bu, ?_, m1, m2, m3, ?_, by rw [List.length_append]; show _ + 1 + _ ≤ 63; omega⟩
          · intro x hx
            rcases List.mem_append.mp hx with hx | hx
            · exact has'.mono bu x hx
            · rw [List.mem_singleton.mp hx]
              exact hit.mono bu
          · intro x hx
            rcases List.mem_append.mp hx with hx | hx
            · exact hlen x hx
            · rw [List.mem_singleton.mp hx]
              show n ≤ 24 ∧ sz + d ≤ 160
              omega
        · rw [if_neg q2]
          first | trivial | exact skip2 _ _ _ _
      · rw [if_neg q1]
        first | trivial | exact skip2 _ _ _ _
  · rintro σ H' ⟨st, d, as, ms, x4, x5, x6, x7, rfl, s1, hst0, nst, eM, eS, hms, has, m1, m2, m3, m4, m5⟩
    walk_at "evh"
    have last : (ms = [] ∨ 0 < as.length) → sp_name [V.int (d : Int)] H' (fun x H1 => sp_pop [V.ref st] H1 (fun x_1 H1 => qIx x_1 (V.int 0) H1 fun x_2 H1 => ∀ p, H1 p = none → match upd H1 p (HO.lst [x, x_2]) M with
        | some (HO.lst xs) => xs.length < sizeLine ∧ Q (V.ref M) (upd (upd H1 p (HO.lst [x, x_2])) M (HO.lst (xs ++ [V.ref p])))
        | x => False) E0) E0 := by
      intro hne
      refine ⟨_, rfl, fun z H2 s2 hz => ⟨st, [M, st], as, rfl, by simp, fun x h => ?_, s2 _ _ eS, has.mono (but_same s2), fun v n sz as' H3 b3 e3 hsub has' hit hwh => ?_⟩⟩
      · simp only [List.mem_cons, List.not_mem_nil, or_false] at h
        rcases h with rfl | rfl
        · rw [s2 _ _ eM]; simp
        · rw [s2 _ _ eS]; simp
      obtain ⟨b, t, rfl, i2, i3, i4, i5, i6⟩ := hit
      have eM3 := b3 _ _ (by simpa using nst) (s2 _ _ eM)
      have s3 : Same H H3 := same_of_but (s1.trans s2) b3 (by simpa using hst0)
      have bS3 : But [M, st] H' H3 := (but_same s2).trans fun x o n e => b3 x o (fun h => n (by simp at h ⊢; exact .inr h)) e
      simp only [qIx_r, i3, seqOf, lstOf, at0]
      intro p hp
      have e4 : upd H3 p (.lst [.str z, t]) M = some (.lst (ms.map (·.1))) := same_new hp _ _ _ eM3
      rw [e4]
      refine ⟨sz_lt (by rw [List.length_map]; omega), ?_⟩
      have hn24 : n ≤ 24 ∧ (ms.map (·.2)).sum + (150 * sz - 50) ≤ 24100 := by
        rcases hwh with hm | ⟨h0, hn, hs⟩
        · have := m4 _ hm
          simp only at this
          exact ⟨this.1, by omega⟩
        · rcases hne with h | h
          · rw [h, hn, hs]; decide
          · rw [h0] at h; simp at h
      have hpM : M ≠ p := fun h => by rw [← h, eM3] at hp; cases hp
      have b7 : But [M, st] H3 (upd (upd H3 p (.lst [.str z, t])) M (.lst (ms.map (·.1) ++ [.ref p]))) := ((But.refl _ H3).nw hp _).at (by simp) _
      have hpS : p ∉ [M] := fun h => hpM (by simp at h; exact h.symm)
      have wk : ∀ x, x ∈ [M] → x ∈ [M, st] ∨ upd (upd H3 p (.lst [.str z, t])) M (.lst (ms.map (·.1) ++ [.ref p])) x = none := fun x h => .inl (by simp at h ⊢; exact .inl h)
      refine q M (ms ++ [((V.ref p, 150 * sz - 50) : V × Nat)]) _ (same_upd (same_up s3 hp _) hM _) hM (by rw [upd_same, List.map_append]; rfl) ?_ (by rw [List.length_append]; show 1 ≤ _ + 1; omega) (by rw [List.length_append]; show _ + 1 ≤ 12; omega) (by rw [List.map_append, List.sum_append]; show _ + ((150 * sz - 50) + 0) ≤ _; omega)
      intro x hx
      rcases List.mem_append.mp hx with hx | hx
      · exact ((hms.mono bS3).mono b7).weak wk x hx
      · rw [List.mem_singleton.mp hx]
        exact ⟨p, z, t, rfl, hpS, by rw [upd_ne hpM.symm, upd_same], hz, (i4.mono b7 (by omega) (Nat.le_refl _)).weak wk⟩
    rw [List.length_map, List.length_map]
    by_cases h0 : (ms.length : Int) = 0
    · rw [if_pos h0]
      exact last (.inl (List.length_eq_zero_iff.mp (by omega)))
    rw [if_neg h0]
    have stay : Q (V.ref M) H' := q M ms H' s1 hM eM (hms.weak fun x h => .inl (by simp at h ⊢; exact .inl h)) (by omega) (by omega) (by omega)
    by_cases h1 : (0 : Int) < (as.length : Int)
    · rw [if_pos h1]
      by_cases h2 : (d : Int) ≤ 100
      · rw [if_pos h2]
        exact last (.inr (by omega))
      · rw [if_neg h2]
        exact stay
    · rw [if_neg h1]
      exact stay
end
end Fk
namespace Fk
open PySem L2
open TL (tl tl_append len_tl)
/-! _law_plain -/
/-- a comprehension that makes a text of each y -/
theorem lcs {α : Type} {f : α → Yd} {as : List α} (wt : α → Nat) (R : Str → Prop) {keep : Hp → Prop} {g : TG} {te : TE} {vs : List Nat} {σ : St} {D : Addr} {H : Hp} {Q : Hp → Prop} (hD : H D = none) (hl : as.length ≤ 1000) (hk : ∀ H', Same H H' → keep H')
    (step : ∀ y ∈ as, ∀ H', Same H H' → ∀ Fin : VK, (∀ (z : Str) (H2 : Hp), Same H' H2 → z.length ≤ wt y → R z → Fin (.str z) H2) → yv (f y) (fun x H1 => g x (wipe σ vs) H1 fun σ2 H2 => wipe σ2 vs = wipe σ vs ∧ te σ2 H2 Fin) H')
    (done : ∀ (H' : Hp) (zs : List Str), Same H H' → H' D = some (.lst (zs.map V.str)) → zs.length = as.length → (zs.map (·.length)).sum ≤ (as.map wt).sum → (∀ z ∈ zs, R z) → Q H') : LoopC (as.map f) keep g tYes te vs σ D H Q := by
  refine ⟨α, f, as, fun r H' => ∃ (dn : List α) (zs : List Str), as = dn ++ r ∧ Same H H' ∧ H' D = some (.lst (zs.map V.str)) ∧ zs.length = dn.length ∧ (zs.map (·.length)).sum ≤ (dn.map wt).sum ∧ ∀ z ∈ zs, R z, rfl, ⟨[], [], rfl, same_new hD _, upd_same, rfl, Nat.le_refl _, fun _ h => (by cases h)⟩, ?_, ?_, ?_⟩
  · rintro r H' ⟨dn, zs, _, s, _⟩
    exact hk H' s
  · rintro y r H' ⟨dn, zs, hd, s, h1, hu, h2, h3⟩
    refine step y (by rw [hd]; simp) H' s _ fun z H2 s2 hz hR => ?_
    show match H2 D with
      | some (.lst acc) => acc.length < sizeLine ∧ _
      | _ => False
    have hn := congrArg List.length hd
    rw [List.length_append, List.length_cons] at hn
    rw [s2 _ _ h1]
    refine ⟨sz_lt (by rw [List.length_map]; omega), dn ++ [y], zs ++ [z], by rw [hd]; simp, same_upd (s.trans s2) hD _, by rw [upd_same, List.map_append]; rfl, by rw [List.length_append, List.length_append, hu]; rfl, ?_, ?_⟩
    · rw [List.map_append, List.sum_append, List.map_append, List.sum_append]
      simp only [List.map_cons, List.map_nil, List.sum_cons, List.sum_nil]
      omega
    · intro x hx
      rcases List.mem_append.mp hx with hx | hx
      · exact h3 x hx
      · rw [List.mem_singleton.mp hx]; exact hR
  · rintro H' ⟨dn, zs, hd, s, h1, hu, h2, h3⟩
    rw [List.append_nil] at hd
    subst hd
    exact done H' zs s h1 hu h2 h3
theorem int_text {i : Int} (h0 : 0 ≤ i) (h1 : i < 10 ^ 60) : (Str.ofString (toString i)).length ≤ 60 ∧ i.natAbs.log2 < 1920 := by
  obtain ⟨m, rfl⟩ := Int.eq_ofNat_of_zero_le h0
  have hm : m < 10 ^ 60 := by
    have e : ((10 : Int) ^ 60) = ((10 ^ 60 : Nat) : Int) := by decide
    rw [e] at h1
    omega
  refine ⟨?_, ?_⟩
  · have e := PyProof.Rows.text_ofNat m
    have e' : Str.ofString (toString (m : Int)) = ⟨((Nat.toDigits 10 m).map Char.toNat).toArray⟩ := e
    rw [e']
    show ((Nat.toDigits 10 m).map Char.toNat).toArray.size ≤ 60
    rw [List.size_toArray, List.length_map]
    exact PyProof.Rows.digits10_le (by decide) hm
  · show m.log2 < 1920
    by_cases hz : m = 0
    · subst hz; decide
    · rw [Nat.log2_lt hz]
      exact Nat.lt_trans hm (by decide +kernel)
theorem lxs_wt : ∀ (ds : List PyData), (ds.map pl).sum + ds.length = plS ds
  | [] => rfl
  | d :: r => by
    have := lxs_wt r
    simp only [List.map_cons, List.sum_cons, List.length_cons, plS]
    omega
/-- a list of values and their data, side by side -/
theorem lxs_zip {S : List Addr} {H : Hp} : ∀ {vs : List V} {ds : List PyData}, Lxs S H vs ds → ∃ ps : List (V × PyData), ps.map (·.1) = vs ∧ ps.map (·.2) = ds ∧ ∀ p ∈ ps, Lx S H p.1 p.2
  | _, _, .nil => ⟨[], rfl, rfl, fun _ h => (by cases h)⟩
  | _, _, .cons h r => by
    obtain ⟨ps, h1, h2, h3⟩ := lxs_zip r
    exact ⟨(_, _) :: ps, by rw [List.map_cons, h1], by rw [List.map_cons, h2], fun p hp => by
      rcases List.mem_cons.mp hp with rfl | hp
      · exact h
      · exact h3 p hp⟩
def qEqQ (K : PySem.W.Frag) (b : Bool) : R2 := fun x y H Q => match x, y with
  | .int _, .ref q => ∃ xs, SqT K H q xs ∧ Q (.bl (!b)) H
  | x, y => qEqP K b x y H Q
theorem yeqQ {X : Cx} {K : PySem.W.Frag} (hu : X.A.units + 64 < cLine := by assumption) (hK : X.K = K := by rfl) : OpR X (compareOp .Eq) (qEqQ K true) := by
  subst hK
  intro pins s σ H x y v u Q I rx ry h
  unfold qEqQ at h
  split at h
  · obtain ⟨xs, ht, q⟩ := h
    obtain ⟨t, rfl⟩ := rx
    cases ry
    obtain ⟨its, rv, hi, _⟩ := I.tuple ht
    exact SeqAt.RcAt.int_tuple _ t hi (by omega) _ _ _ _ ⟨.bl _, H, I, rfl, q⟩
  · exact yeqP (X := X) hu rfl pins s σ H _ _ v u Q I rx ry h
mutual
theorem lxs_take {S : List Addr} {H : Hp} : ∀ {vs : List V} {ds : List PyData} (j : Nat), Lxs S H vs ds → Lxs S H (vs.take j) (ds.take j)
  | _, _, 0, _ => by rw [List.take_zero, List.take_zero]; exact .nil
  | _, _, j + 1, .nil => by rw [List.take_nil, List.take_nil]; exact .nil
  | _, _, j + 1, .cons h r => by rw [List.take_succ_cons, List.take_succ_cons]; exact .cons h (lxs_take j r)
end
theorem lxs_drop {S : List Addr} {H : Hp} : ∀ {vs : List V} {ds : List PyData} (j : Nat), Lxs S H vs ds → Lxs S H (vs.drop j) (ds.drop j)
  | _, _, 0, h => by rw [List.drop_zero, List.drop_zero]; exact h
  | _, _, j + 1, .nil => by rw [List.drop_nil, List.drop_nil]; exact .nil
  | _, _, j + 1, .cons h r => by rw [List.drop_succ_cons, List.drop_succ_cons]; exact lxs_drop j r
theorem plS_take : ∀ (j : Nat) (ds : List PyData), plS (ds.take j) ≤ plS ds
  | 0, ds => by rw [List.take_zero]; exact Nat.zero_le _
  | j + 1, [] => by rw [List.take_nil]; exact Nat.le_refl _
  | j + 1, d :: r => by
    rw [List.take_succ_cons]
    simp only [plS]
    have := plS_take j r
    omega
theorem plS_drop : ∀ (j : Nat) (ds : List PyData), plS (ds.drop j) ≤ plS ds
  | 0, ds => by rw [List.drop_zero]; exact Nat.le_refl _
  | j + 1, [] => by rw [List.drop_nil]; exact Nat.le_refl _
  | j + 1, d :: r => by
    rw [List.drop_succ_cons]
    simp only [plS]
    have := plS_drop j r
    omega
theorem strc_leaf {H : Hp} {Q : VK} {v : V} {d : PyData} (hx : Lx [] H v d) (hd : leafT d = true) (q : ∀ z : Str, z.length ≤ pl d → Q (.str z) H) : qStrC [v] H Q := by
  cases hx with
  | int i =>
    have hd' := of_decide_eq_true hd
    obtain ⟨h1, h2⟩ := int_text hd'.1 hd'.2
    rw [qStrC_i]
    exact ⟨h2, q _ h1⟩
  | str x =>
    rw [qStrC_s]
    exact q _ (Nat.le_refl _)
  | lst => cases hd
  | tup => cases hd
theorem eqQ_of {K : PySem.W.Frag} {S : List Addr} {H : Hp} {Q : VK} {v : V} {d : PyData} {p : Addr} (hx : Lx S H v d) (hp : H p = some (.tup [])) (q : ∀ b, Q (.bl b) H) : qEqQ K true v (.ref p) H Q := by
  have hP := hx.plain
  have hD := hx.dp (K := K)
  cases hx with
  | int i => exact ⟨[], .inl (.inl hp), q _⟩
  | str x => exact ⟨[], .inl (.inl hp), q _⟩
  | lst _ h r => exact ⟨_, .tuple [], hD, .tup (.inl (.inl hp)) .nil, hP, rfl, by show min _ 1 ≤ 60; omega, q _⟩
  | tup _ h r => exact ⟨_, .tuple [], hD, .tup (.inl (.inl hp)) .nil, hP, rfl, by show min _ 1 ≤ 60; omega, q _⟩
theorem okR_list {n : Nat} {ds : List PyData} (h : okR n (.list ds) = true) : ∃ m op d rest, n = m + 1 ∧ ds = .str op :: d :: rest ∧ op.length ≤ 13 ∧ rest.length ≤ 30 ∧ okR m d = true ∧ (∀ x ∈ rest, okR m x = true) ∧ (leafT d = true ∨ (op ≠ Str.ofString "num" ∧ op ≠ Str.ofString "name")) := by
  cases n with
  | zero => simp [okR] at h
  | succ m =>
    match ds, h with
    | .str op :: d :: rest, h =>
      simp only [okR, Bool.and_eq_true, decide_eq_true_eq, Bool.or_eq_true, Bool.not_eq_true', decide_eq_false_iff_not, List.all_eq_true] at h
      exact ⟨m, op, d, rest, rfl, rfl, h.1.1.1.1, h.1.1.1.2, h.1.1.2, h.1.2, h.2⟩
    | [], h => simp [okR] at h
    | [_], h => simp [okR] at h
    | .int _ :: _ :: _, h => simp [okR] at h
    | .none :: _ :: _, h => simp [okR] at h
    | .bool _ :: _ :: _, h => simp [okR] at h
    | .list _ :: _ :: _, h => simp [okR] at h
    | .tuple _ :: _ :: _, h => simp [okR] at h
    | .dict _ :: _ :: _, h => simp [okR] at h
local macro_rules | `(tactic| walk_at "ev") => `(tactic| try simp only [cx_K, L2.start, List.map_cons, List.map_nil, List.length_cons, List.length_nil, Nat.reduceAdd, Nat.reduceSub, Nat.reduceLT, List.replicate_succ, List.replicate_zero, List.cons_append, List.nil_append, Nat.zero_add, Nat.add_zero,
  tSeq, tAsg, tLst, tTup, tNil, tCons, tC, tOp, tUn, gName, tNext, tRet, tRetN, tIfS, tDrop, tCB, tCall, tMeth, tMake, tIf, tAnd, tOr, tNot, tAndV, tOrV, tNotV, qFor, qLc, tYes, wStr, wLst, wTup, wRng1, wRng2, wEnum, wZip, wZipA, wRev, qVar, asB_bl, qAdd_ii, qAdd_ss, qSub_ii, qMul_ii, qMod_ii, qDiv_ii, qPow_ii, qCmpI_ii, qEq_ii, qEq_ss, qEq_bb, qIsN_n, qIsN_i, qIsN_s, qIsN_b, qIsN_r, qInS_s, qInT_r, qIx_s, qIx_r, qT, qIAdd_ii, qIAdd_ss, qLen_s, qLen_r, qAbs_i, qMax2_ii, qMin2_ii, qInt_i, qInt_b, qInt_s, qStrC_i, qStrC_s, qList_r, qTuple_r, tupleAs_l, tupleAs_t, qDivmod_ii, qAll_r, qAny_r, qSl_s, tSl, tNoPart, tPart, qPar, qPar3,
  qApp, qExt, qPop, isLst, qFld, qSetF, qAugF, qAug, qgTup, qgCons, qgNil, qNeg, qDG, qDIn, qDPut, qDGet2, qUpd, keyOf, qJoin, qWords, qStrip, qSum, qMaxA, qSIdx, qLIdx, qRevS, qIsi, qIsi2, qIsiC, qChain, isBl, tyN, gSub, qSetL, yv, wipe,
  List.getElem?_cons_zero, List.getElem?_cons_succ, List.set_cons_zero, List.set_cons_succ, upd_same, lstOf, tupOf, seqOf, at0, at1, at2, at3, ix0, ix1, ix2, sz0, sz1, sz2, sz3, sz4, sz5, sz6, sz7, sz8, sz15, true_and, and_true, and_self, if_true, if_false, if_pos,
  beq_t, beq_f, decide_eq_true_eq, decide_eq_false_iff_not, Bool.not_eq_true', Bool.not_eq_true, Bool.not_eq_false, Bool.not_true, Bool.not_false, Bool.false_eq_true, reduceCtorEq, ite_not, if_true, if_false, reduceIte, V.int.injEq, V.str.injEq, V.bl.injEq, V.ref.injEq, List.append_nil, forall_eq', exists_eq_left, exists_eq_left'])
local macro_rules | `(tactic| walk_at "evh") => `(tactic| try simp only [cx_K, L2.start, List.map_cons, List.map_nil, List.length_cons, List.length_nil, Nat.reduceAdd, Nat.reduceSub, Nat.reduceLT, List.replicate_succ, List.replicate_zero, List.cons_append, List.nil_append, Nat.zero_add, Nat.add_zero,
  tSeq, tAsg, tLst, tTup, tNil, tCons, tC, tOp, tUn, gName, tNext, tRet, tRetN, tIfS, tDrop, tCB, tCall, tMeth, tMake, tIf, tAnd, tOr, tNot, tAndV, tOrV, tNotV, qFor, qLc, tYes, wStr, wLst, wTup, wRng1, wRng2, wEnum, wZip, wZipA, wRev, qVar, asB_bl, qAdd_ii, qAdd_ss, qSub_ii, qMul_ii, qMod_ii, qDiv_ii, qPow_ii, qCmpI_ii, qEq_ii, qEq_ss, qEq_bb, qIsN_n, qIsN_i, qIsN_s, qIsN_b, qIsN_r, qInS_s, qInT_r, qIx_s, qIx_r, qT, qIAdd_ii, qIAdd_ss, qLen_s, qLen_r, qAbs_i, qMax2_ii, qMin2_ii, qInt_i, qInt_b, qInt_s, qStrC_i, qStrC_s, qList_r, qTuple_r, tupleAs_l, tupleAs_t, qDivmod_ii, qAll_r, qAny_r, qSl_s, tSl, tNoPart, tPart, qPar, qPar3,
  qApp, qExt, qPop, isLst, qFld, qSetF, qAugF, qAug, qgTup, qgCons, qgNil, qNeg, qDG, qDIn, qDPut, qDGet2, qUpd, keyOf, qJoin, qWords, qStrip, qSum, qMaxA, qSIdx, qLIdx, qRevS, qIsi, qIsi2, qIsiC, qChain, isBl, tyN, gSub, qSetL, yv, wipe,
  List.getElem?_cons_zero, List.getElem?_cons_succ, List.set_cons_zero, List.set_cons_succ, upd_same, lstOf, tupOf, seqOf, at0, at1, at2, at3, ix0, ix1, ix2, sz0, sz1, sz2, sz3, sz4, sz5, sz6, sz7, sz8, sz15, true_and, and_true, and_self, if_true, if_false, if_pos,
  beq_t, beq_f, decide_eq_true_eq, decide_eq_false_iff_not, Bool.not_eq_true', Bool.not_eq_true, Bool.not_eq_false, Bool.not_true, Bool.not_false, Bool.false_eq_true, reduceCtorEq, ite_not, if_true, if_false, reduceIte, V.int.injEq, V.str.injEq, V.bl.injEq, V.ref.injEq, List.append_nil, forall_eq', exists_eq_left, exists_eq_left', *])
local macro_rules | `(tactic| walk_at "evp") => `(tactic| try simp only [cx_K, L2.start, List.map_cons, List.map_nil, List.length_cons, List.length_nil, Nat.reduceAdd, Nat.reduceSub, Nat.reduceLT, List.replicate_succ, List.replicate_zero, List.cons_append, List.nil_append, Nat.zero_add, Nat.add_zero,
  tSeq, tAsg, tLst, tTup, tNil, tCons, tC, tOp, tUn, gName, tNext, tRet, tRetN, tIfS, tDrop, tCB, tCall, tMeth, tMake, tIf, tAnd, tOr, tNot, tAndV, tOrV, tNotV, qFor, qLc, tYes, wStr, wLst, wTup, wRng1, wRng2, wEnum, wZip, wZipA, wRev, qVar, asB_bl, qAdd_ii, qAdd_ss, qSub_ii, qMul_ii, qMod_ii, qDiv_ii, qPow_ii, qCmpI_ii, qEq_ii, qEq_ss, qEq_bb, qIsN_n, qIsN_i, qIsN_s, qIsN_b, qIsN_r, qInS_s, qInT_r, qIx_s, qIx_r, qT, qIAdd_ii, qIAdd_ss, qLen_s, qLen_r, qAbs_i, qMax2_ii, qMin2_ii, qInt_i, qInt_b, qInt_s, qStrC_i, qStrC_s, qList_r, qTuple_r, tupleAs_l, tupleAs_t, qDivmod_ii, qAll_r, qAny_r, qSl_s, tSl, tNoPart, tPart, qPar, qPar3,
  qApp, qExt, qPop, isLst, qFld, qSetF, qAugF, qAug, qgTup, qgCons, qgNil, qNeg, qDG, qDIn, qDPut, qDGet2, qUpd, keyOf, qJoin, qWords, qStrip, qSum, qMaxA, qSIdx, qLIdx, qRevS, qIsi2, qIsiC, qChain, isBl, tyN, gSub, qSetL, yv, wipe,
  List.getElem?_cons_zero, List.getElem?_cons_succ, List.set_cons_zero, List.set_cons_succ, upd_same, lstOf, tupOf, seqOf, at0, at1, at2, at3, ix0, ix1, ix2, sz0, sz1, sz2, sz3, sz4, sz5, sz6, sz7, sz8, sz15, true_and, and_true, and_self, if_true, if_false, if_pos,
  beq_t, beq_f, decide_eq_true_eq, decide_eq_false_iff_not, Bool.not_eq_true', Bool.not_eq_true, Bool.not_eq_false, Bool.not_true, Bool.not_false, Bool.false_eq_true, reduceCtorEq, ite_not, if_true, if_false, reduceIte, V.int.injEq, V.str.injEq, V.bl.injEq, V.ref.injEq, List.append_nil, forall_eq', exists_eq_left, exists_eq_left', *])
-- _law_plain  names ["part", "inner"]  needs ['z_isinstance', 'z_tuple', 'c__law_plain', 'z_list', 'z_str']
abbrev s_law_plain : Stmt := topS 25
theorem sc_law_plain : FnScope ["part", "inner"] ["part"] (defScope s_law_plain) := ⟨rfl, rfl, rfl, by decide +kernel, rfl, by decide +kernel, by decide +kernel⟩
section
variable {P : Program} {w : World} {K : PySem.W.Frag} {mg : Str → Option Value} {base : Heap} {f : Addr} {fd : FuncData}
def sp_plain : Nat → Sp
  | 0 => fun _ _ _ _ => False
  | n + 1 => fun vs H Q _ => ∃ (v : V) (d : PyData), vs = [v] ∧ Lx [] H v d ∧ okR n d = true ∧ pl d ≤ 100000 ∧ ∀ z H', Same H H' → z.length ≤ pl d → Q (.str z) H'
theorem ok_plain {n : Nat} (F : Fun K "_law_plain" "_law_plain" s_law_plain f fd) (z_isinstance : mg "isinstance" = none) (z_list : mg "list" = none) (z_tuple : mg "tuple" = none) (z_str : mg "str" = none)
    (c__law_plain : Cal P w K mg base CX0 (n + 1) "_law_plain" ["part"] (sp_plain n)) : FnOk P w K mg base CX0 (n + 2) f fd ["part"] (sp_plain (n + 1)) := by
  refine F.ok sc_law_plain (fun vs H Q E h => by obtain ⟨_, _, rfl, _⟩ := h; rfl) (fun cdv A outer s H vs Q E hr h => ?_)
  have hu64 := hr.units
  refine ⟨_, (pss_cons (ps_if (xtv (pe_callB yisi (by rfl) z_isinstance (by decide +kernel) (pa_cons (xv 0) (pa_cons (pe_ty (T := "tuple") z_tuple) pa_nil)))) (pss_one (ps_ret (xjoin pe_str (xlc (own := [("inner", 1)]) sc_law_plain.nd (xitup (xv 0)) (blkOk_by (own := [("inner", 1)]) (N := ["part", "inner"]) (sc := defScope s_law_plain) (by decide +kernel)) (fun _ _ _ _ _ => (pg_name (i := 1) sc_law_plain.nd rfl (Or.inl rfl))) (fun _ _ _ _ _ => pts_nil) (fun _ _ _ _ _ => (pe_c c__law_plain hr (pa_cons (xv 1) pa_nil))))))) pss_nil)
  (pss_cons (ps_if (pt_not (xtv (pe_callB yisi (by rfl) z_isinstance (by decide +kernel) (pa_cons (xv 0) (pa_cons (pe_ty (T := "list") z_list) pa_nil))))) (pss_one (ps_ret (pe_callTy ystrc (by rfl) z_str (by decide +kernel) (pa_cons (xv 0) pa_nil)))) pss_nil)
  (pss_cons (ps_if (PW.pt (pw_or (xt (yeq hu64) (pe_ix yix (xv 0) pe_int (fun _ _ => rfl)) pe_str (nomark _)) (pw_or1 (xt (yeq hu64) (pe_ix yix (xv 0) pe_int (fun _ _ => rfl)) pe_str (nomark _))))) (pss_one (ps_ret (pe_callTy ystrc (by rfl) z_str (by decide +kernel) (pa_cons (pe_ix yix (xv 0) pe_int (fun _ _ => rfl)) pa_nil)))) pss_nil)
  (pss_cons (ps_if (xt (yeqQ hu64) (pe_ix yix (xv 0) (pe_un yneg pe_int) (fun _ _ => rfl)) (pe_tup pa_nil) (nomark _)) (pss_one (ps_ret (pe_op yadd (pe_op yadd pe_str (xjoin pe_str (xlc (own := [("inner", 1)]) sc_law_plain.nd (xilst (pe_slice ysl (xv 0) po_none (po_some (pe_un yneg pe_int)))) (blkOk_by (own := [("inner", 1)]) (N := ["part", "inner"]) (sc := defScope s_law_plain) (by decide +kernel)) (fun _ _ _ _ _ => (pg_name (i := 1) sc_law_plain.nd rfl (Or.inl rfl))) (fun _ _ _ _ _ => pts_nil) (fun _ _ _ _ _ => (pe_c c__law_plain hr (pa_cons (xv 1) pa_nil)))))) pe_str))) pss_nil)
  (pss_one (ps_ret (pe_op yadd (pe_op yadd pe_str (xjoin pe_str (xlc (own := [("inner", 1)]) sc_law_plain.nd (xilst (xv 0)) (blkOk_by (own := [("inner", 1)]) (N := ["part", "inner"]) (sc := defScope s_law_plain) (by decide +kernel)) (fun _ _ _ _ _ => (pg_name (i := 1) sc_law_plain.nd rfl (Or.inl rfl))) (fun _ _ _ _ _ => pts_nil) (fun _ _ _ _ _ => (pe_c c__law_plain hr (pa_cons (xv 1) pa_nil)))))) pe_str))))))), ?_⟩
  obtain ⟨v, d, rfl, hx, hok, hpl, q⟩ := h
  walk_at "evp"
  have loopP : ∀ (H1 : Hp) (m : Nat) (xs : List V) (ds : List PyData) (keep : Hp → Prop) (x0 : Option V) (D : Addr) (R : Hp → Prop), n = m + 1 → Lxs [] H1 xs ds → (∀ d ∈ ds, okR m d = true) → plS ds ≤ 100000 → ds.length ≤ 1000 → H1 D = none → (∀ H', Same H1 H' → keep H') →
      (∀ (H' : Hp) (zs : List Str), Same H1 H' → H' D = some (.lst (zs.map V.str)) → (zs.map (·.length)).sum + zs.length ≤ plS ds → R H') → LoopC (xs.map Yd.one) keep (gName 1) tYes (tCall (sp_plain n) [] E0 (tCons (qVar 1) tNil)) [1] [x0, none] D H1 R := by
    intro H1 m xs ds keep x0 D R hn hl hk hw hlen hD hkeep done
    subst hn
    obtain ⟨ps, p1, p2, p3⟩ := lxs_zip hl
    rw [← p1, List.map_map]
    refine lcs (f := Yd.one ∘ (·.1)) (as := ps) (fun p => pl p.2) (fun _ => True) hD (by rw [← p2, List.length_map] at hlen; exact hlen) hkeep (fun y hy H' s' Fin fin => ?_) (fun H' zs s' e1 e2 e3 _ => done H' zs s' e1 ?_)
    · show yv (.one y.1) _ _
      walk_at "evp"
      have hmem : y.2 ∈ ds := by rw [← p2]; exact List.mem_map.mpr ⟨y, hy, rfl⟩
      have hle : ∀ {l : List PyData} {d : PyData}, d ∈ l → pl d ≤ plS l := fun {l} {d} h => by
        induction l with
        | nil => cases h
        | cons a r ih =>
          simp only [plS]
          rcases List.mem_cons.mp h with rfl | h
          · omega
          · have := ih h; omega
      exact ⟨y.1, y.2, rfl, (p3 y hy).mono (but_same s'), hk y.2 hmem, Nat.le_trans (hle hmem) hw, fun z H2 s2 hz => fin z H2 s2 hz trivial⟩
    · have := lxs_wt ds
      rw [← p2, List.map_map, List.length_map] at this
      rw [← p2, e2]
      have e : (ps.map fun p => pl p.2).sum = (List.map (pl ∘ fun x => x.snd) ps).sum := rfl
      omega
  cases hx with
  | int i =>
    refine isi_of rfl (by decide) ?_
    rw [show isB "int" "tuple" = false by decide]
    walk_at "evp"
    refine isi_of rfl (by decide) ?_
    rw [show isB "int" "list" = false by decide]
    simp only [asB_bl, if_true]
    exact strc_leaf (d := .int i) (.int i) (by cases n <;> exact hok) fun z hz => q z H (Same.refl _) hz
  | str x =>
    refine isi_of rfl (by decide) ?_
    rw [show isB "str" "tuple" = false by decide]
    walk_at "evp"
    refine isi_of rfl (by decide) ?_
    rw [show isB "str" "list" = false by decide]
    simp only [asB_bl, if_true]
    exact q _ _ (Same.refl _) (Nat.le_refl _)
  | @tup a xs ds hS ha hl =>
    obtain ⟨m, rfl⟩ : ∃ m, n = m + 1 := by cases n with | zero => cases hok | succ m => exact ⟨m, rfl⟩
    simp only [okR, Bool.and_eq_true, decide_eq_true_eq, List.all_eq_true] at hok
    simp only [pl] at hpl q
    refine isi_of (tyN_t ha) (by decide) ?_
    rw [show isB "tuple" "tuple" = true by decide]
    walk_at "evp"
    intro D hD
    refine loopP H m xs ds _ _ D _ rfl hl hok.2 hpl (by omega) hD (fun H' s' => by rw [s' _ _ ha]) fun H' zs s' e1 e2 => ?_
    obtain ⟨j1, j2⟩ := join_len zs
    simp only [e1, strsOf_map]
    have hsp : (Str.ofString " ").length = 1 := by decide +kernel
    exact ⟨by rw [hsp]; omega, q _ H' s' (by omega)⟩
  | @lst a xs ds hS ha hl =>
    obtain ⟨m, op, d, rest, rfl, rfl, k1, k2, k3, k4, k5⟩ := okR_list hok
    have hl0 := hl
    cases hl with
    | @cons v0 _ _ _ h1 h2 =>
    cases h2 with
    | @cons v1 vr _ _ h3 h4 =>
    cases h1
    have hall : ∀ x ∈ (.str op :: d :: rest : List PyData), okR m x = true := fun x hx => by
      simp only [List.mem_cons] at hx
      rcases hx with rfl | rfl | hx
      · exact okR_str k1
      · exact k3
      · exact k4 x hx
    have hw : plS (.str op :: d :: rest) + 2 ≤ 100000 := by simp only [pl] at hpl; omega
    have q' : ∀ (z : Str) (H' : Hp), Same H H' → z.length ≤ 2 + plS (.str op :: d :: rest) → Q (.str z) H' := q
    have hlen : (.str op :: d :: rest : List PyData).length ≤ 1000 := by simp only [List.length_cons]; omega
    have hd : pl d ≤ 2 + plS (.str op :: d :: rest) := by simp only [plS]; omega
    have hlx := hl0.length
    refine isi_of (tyN_l ha) (by decide) ?_
    rw [show isB "list" "tuple" = false by decide]
    walk_at "evp"
    refine isi_of (tyN_l ha) (by decide) ?_
    rw [show isB "list" "list" = true by decide]
    walk_at "evp"
    have leaf : leafT d = true → qStrC [v1] H Q := fun h => strc_leaf h3 h fun z hz => q' z H (Same.refl _) (by omega)
    by_cases e1 : op = Str.ofString "num"
    · rw [if_pos e1]
      exact leaf (k5.resolve_right fun h => h.1 e1)
    rw [if_neg e1]
    by_cases e2 : op = Str.ofString "name"
    · rw [if_pos e2]
      exact leaf (k5.resolve_right fun h => h.2 e2)
    rw [if_neg e2]
    have hpos : 0 < (V.str op :: v1 :: vr).length := Nat.succ_pos _
    rw [atI_last hpos]
    obtain ⟨vl, dl, g1, g2, g3⟩ := lxs_at hl0 (i := (V.str op :: v1 :: vr).length - 1) (by omega)
    have g1' : (V.str op :: v1 :: vr)[(V.str op :: v1 :: vr).length - 1]'(by omega) = vl := by
      rw [List.getElem?_eq_getElem (by omega)] at g1
      exact Option.some.inj g1
    rw [g1']
    intro p hp
    have sp := same_new hp (.tup [])
    have ep : upd H p (.tup []) p = some (.tup []) := upd_same
    have ha1 := sp _ _ ha
    have hl1 := hl0.mono (but_same (S := []) sp)
    have g3' := g3.mono (but_same (S := []) sp)
    generalize upd H p (.tup []) = H1 at sp ep ha1 hl1 g3' ⊢
    refine eqQ_of g3' ep fun b => ?_
    have fin : ∀ (H' : Hp) (zs : List Str) (ds' : List PyData), Same H1 H' → (zs.map (·.length)).sum + zs.length ≤ plS ds' → plS ds' ≤ plS (.str op :: d :: rest) → (List.map (fun x => x.length) zs).sum + zs.length * (Str.ofString " ").length ≤ 16777216 ∧
        (Str.ofString "(").length + (Txt.join (Str.ofString " ") zs).length ≤ sizeLine ∧ (Str.ofString "(" ++ Txt.join (Str.ofString " ") zs).length + (Str.ofString ")").length ≤ sizeLine ∧ Q (V.str (Str.ofString "(" ++ Txt.join (Str.ofString " ") zs ++ Str.ofString ")")) H' := by
      intro H' zs ds' s' h1 h2
      obtain ⟨j1, j2⟩ := join_len zs
      have hsp : (Str.ofString " ").length = 1 := by decide +kernel
      have ho : (Str.ofString "(").length = 1 := by decide +kernel
      have hc : (Str.ofString ")").length = 1 := by decide +kernel
      rw [hsp, str_len, ho, hc]
      refine ⟨by omega, sz_of (by omega), sz_of (by omega), q' _ _ (sp.trans s') ?_⟩
      rw [str_len, str_len, ho, hc]
      omega
    cases b with
    | true =>
      simp only [asB_bl, if_true]
      refine sl_use (.inl (.inl ha1)) fun p2 hp2 => ?_
      have s2 := same_new hp2 (.lst (cutV (V.str op :: v1 :: vr) none (some (-1))))
      have e3 : upd H1 p2 (.lst (cutV (V.str op :: v1 :: vr) none (some (-1)))) p2 = some (.lst (cutV (V.str op :: v1 :: vr) none (some (-1)))) := upd_same
      have hlc := lxs_take (HT.sIx (V.str op :: v1 :: vr).length (V.str op :: v1 :: vr).length (some (-1)) - HT.sIx (V.str op :: v1 :: vr).length 0 none) (lxs_drop (HT.sIx (V.str op :: v1 :: vr).length 0 none) (hl1.mono (but_same (S := []) s2)))
      have hpc : plS (List.take (HT.sIx (V.str op :: v1 :: vr).length (V.str op :: v1 :: vr).length (some (-1)) - HT.sIx (V.str op :: v1 :: vr).length 0 none) (List.drop (HT.sIx (V.str op :: v1 :: vr).length 0 none) (.str op :: d :: rest))) ≤ plS (.str op :: d :: rest) := Nat.le_trans (plS_take _ _) (plS_drop _ _)
      have hcl : (cutV (V.str op :: v1 :: vr) none (some (-1))).length ≤ (V.str op :: v1 :: vr).length := cutV_length _ _ _
      generalize hcv : cutV (V.str op :: v1 :: vr) none (some (-1)) = xs' at s2 e3 hcl ⊢
      rw [show List.take _ (List.drop _ (V.str op :: v1 :: vr)) = xs' from hcv] at hlc
      have hmem : ∀ x ∈ List.take (HT.sIx (V.str op :: v1 :: vr).length (V.str op :: v1 :: vr).length (some (-1)) - HT.sIx (V.str op :: v1 :: vr).length 0 none) (List.drop (HT.sIx (V.str op :: v1 :: vr).length 0 none) (.str op :: d :: rest)), okR m x = true := fun x hx => hall x (List.mem_of_mem_drop (List.mem_of_mem_take hx))
      generalize List.take (HT.sIx (V.str op :: v1 :: vr).length (V.str op :: v1 :: vr).length (some (-1)) - HT.sIx (V.str op :: v1 :: vr).length 0 none) (List.drop (HT.sIx (V.str op :: v1 :: vr).length 0 none) (.str op :: d :: rest)) = ds' at hlc hpc hmem
      rw [hcv] at hlc
      generalize upd H1 p2 (.lst xs') = H2 at s2 e3 hlc ⊢
      simp only [e3]
      intro D hD
      refine loopP H2 m xs' ds' _ _ D _ rfl hlc hmem (by omega) (by rw [← hlc.length]; omega) hD (fun H' s' => by rw [s' _ _ e3]) fun H' zs s' e4 e5 => ?_
      simp only [e4, strsOf_map]
      exact fin H' zs ds' (s2.trans s') e5 hpc
    | false =>
      simp only [asB_bl, Bool.false_eq_true, if_false, ha1]
      intro D hD
      refine loopP H1 m _ _ _ _ D _ rfl hl1 hall (by omega) hlen hD (fun H' s' => by rw [s' _ _ ha1]) fun H' zs s' e4 e5 => ?_
      simp only [e4, strsOf_map]
      exact fin H' zs _ s' e5 (Nat.le_refl _)
end
end Fk
namespace Fk
open PySem L2
open TL (tl tl_append len_tl)
/-! _law_spoilt -/
theorem cutS_to (z : Str) (k : Nat) : tl (cutS z none (some (k : Int))) = (tl z).take k := by
  show List.take (HT.sIx z.length z.length (some (k : Int)) - HT.sIx z.length 0 none) (List.drop (HT.sIx z.length 0 none) (tl z)) = _
  rw [HT.sIx_nat, HT.sIx_none, List.drop_zero, Nat.sub_zero, len_tl]
  by_cases h : k ≤ (tl z).length
  · rw [Nat.min_eq_left h]
  · rw [Nat.min_eq_right (by omega), List.take_of_length_le (Nat.le_refl _), List.take_of_length_le (by omega)]
theorem cutS_from (z : Str) (k : Nat) : tl (cutS z (some (k : Int)) none) = (tl z).drop k := by
  show List.take (HT.sIx z.length z.length none - HT.sIx z.length 0 (some (k : Int))) (List.drop (HT.sIx z.length 0 (some (k : Int))) (tl z)) = _
  rw [HT.sIx_nat, HT.sIx_none, len_tl]
  by_cases h : k ≤ (tl z).length
  · rw [Nat.min_eq_left h, List.take_of_length_le (by rw [List.length_drop]; exact Nat.le_refl _)]
  · rw [Nat.min_eq_right (by omega), List.drop_of_length_le (Nat.le_refl _), List.drop_of_length_le (by omega), List.take_nil]
theorem two_cut {z : Str} {a b : Nat} (h : a ≤ b) : (cutS z none (some (a : Int))).length + (cutS z (some (b : Int)) none).length ≤ z.length ∧ nsp (cutS z none (some (a : Int))) + nsp (cutS z (some (b : Int)) none) ≤ nsp z := by
  unfold nsp
  rw [len_tl, len_tl, len_tl z, cutS_to, cutS_from]
  refine ⟨?_, nspL_cut h⟩
  rw [List.length_take, List.length_drop]
  omega
theorem cutS_two (z : Str) (k : Nat) : (cutS z (some (k : Int)) (some ((k : Int) + 2))).length ≤ 2 := by
  show (List.take _ _).toArray.size ≤ 2
  rw [List.size_toArray, List.length_take]
  have e : ((k : Int) + 2) = ((k + 2 : Nat) : Int) := rfl
  rw [e, HT.sIx_nat, HT.sIx_nat]
  omega
def sumL (l : List Str) : Nat := (l.map (·.length)).sum
theorem sumL_append (a b : List Str) : sumL (a ++ b) = sumL a + sumL b := by unfold sumL; rw [List.map_append, List.sum_append]
theorem sumL_cut (l : List Str) {a b : Nat} (h : a ≤ b) : sumL (l.take a) + sumL (l.drop b) ≤ sumL l := by
  have e : l.drop a = (l.drop a).take (b - a) ++ l.drop b := by
    have := (List.take_append_drop (b - a) (l.drop a)).symm
    rw [List.drop_drop, show a + (b - a) = b by omega] at this
    exact this
  have h1 : sumL l = sumL (l.take a) + sumL (l.drop a) := by rw [← sumL_append, List.take_append_drop]
  rw [h1, e, sumL_append]
  omega
local macro_rules | `(tactic| walk_at "ev") => `(tactic| try simp only [cx_K, L2.start, List.map_cons, List.map_nil, List.length_cons, List.length_nil, Nat.reduceAdd, Nat.reduceSub, Nat.reduceLT, List.replicate_succ, List.replicate_zero, List.cons_append, List.nil_append, Nat.zero_add, Nat.add_zero,
  tSeq, tAsg, tLst, tTup, tNil, tCons, tC, tOp, tUn, gName, tNext, tRet, tRetN, tIfS, tDrop, tCB, tCall, tMeth, tMake, tIf, tAnd, tOr, tNot, tAndV, tOrV, tNotV, qFor, qLc, tYes, wStr, wLst, wTup, wRng1, wRng2, wEnum, wZip, wZipA, wRev, qVar, asB_bl, qAdd_ii, qAdd_ss, qSub_ii, qMul_ii, qMod_ii, qDiv_ii, qPow_ii, qCmpI_ii, qEq_ii, qEq_ss, qEq_bb, qIsN_n, qIsN_i, qIsN_s, qIsN_b, qIsN_r, qInS_s, qInT_r, qIx_s, qIx_r, qT, qIAdd_ii, qIAdd_ss, qLen_s, qLen_r, qAbs_i, qMax2_ii, qMin2_ii, qInt_i, qInt_b, qInt_s, qStrC_i, qStrC_s, qList_r, qTuple_r, tupleAs_l, tupleAs_t, qDivmod_ii, qAll_r, qAny_r, qSl_s, tSl, tNoPart, tPart, qPar, qPar3,
  qApp, qExt, qPop, isLst, qFld, qSetF, qAugF, qAug, qgTup, qgCons, qgNil, qNeg, qDG, qDIn, qDPut, qDGet2, qUpd, keyOf, qJoin, qWords, qStrip, qSum, qMaxA, qSIdx, qLIdx, qRevS, qIsi, qIsi2, qIsiC, qChain, isBl, tyN, gSub, qSetL, yv, wipe,
  List.getElem?_cons_zero, List.getElem?_cons_succ, List.set_cons_zero, List.set_cons_succ, upd_same, lstOf, tupOf, seqOf, at0, at1, at2, at3, ix0, ix1, ix2, sz0, sz1, sz2, sz3, sz4, sz5, sz6, sz7, sz8, sz15, true_and, and_true, and_self, if_true, if_false, if_pos,
  beq_t, beq_f, decide_eq_true_eq, decide_eq_false_iff_not, Bool.not_eq_true', Bool.not_eq_true, Bool.not_eq_false, Bool.not_true, Bool.not_false, Bool.false_eq_true, reduceCtorEq, ite_not, if_true, if_false, reduceIte, V.int.injEq, V.str.injEq, V.bl.injEq, V.ref.injEq, List.append_nil, forall_eq', exists_eq_left, exists_eq_left'])
local macro_rules | `(tactic| walk_at "evh") => `(tactic| try simp only [cx_K, L2.start, List.map_cons, List.map_nil, List.length_cons, List.length_nil, Nat.reduceAdd, Nat.reduceSub, Nat.reduceLT, List.replicate_succ, List.replicate_zero, List.cons_append, List.nil_append, Nat.zero_add, Nat.add_zero,
  tSeq, tAsg, tLst, tTup, tNil, tCons, tC, tOp, tUn, gName, tNext, tRet, tRetN, tIfS, tDrop, tCB, tCall, tMeth, tMake, tIf, tAnd, tOr, tNot, tAndV, tOrV, tNotV, qFor, qLc, tYes, wStr, wLst, wTup, wRng1, wRng2, wEnum, wZip, wZipA, wRev, qVar, asB_bl, qAdd_ii, qAdd_ss, qSub_ii, qMul_ii, qMod_ii, qDiv_ii, qPow_ii, qCmpI_ii, qEq_ii, qEq_ss, qEq_bb, qIsN_n, qIsN_i, qIsN_s, qIsN_b, qIsN_r, qInS_s, qInT_r, qIx_s, qIx_r, qT, qIAdd_ii, qIAdd_ss, qLen_s, qLen_r, qAbs_i, qMax2_ii, qMin2_ii, qInt_i, qInt_b, qInt_s, qStrC_i, qStrC_s, qList_r, qTuple_r, tupleAs_l, tupleAs_t, qDivmod_ii, qAll_r, qAny_r, qSl_s, tSl, tNoPart, tPart, qPar, qPar3,
  qApp, qExt, qPop, isLst, qFld, qSetF, qAugF, qAug, qgTup, qgCons, qgNil, qNeg, qDG, qDIn, qDPut, qDGet2, qUpd, keyOf, qJoin, qWords, qStrip, qSum, qMaxA, qSIdx, qLIdx, qRevS, qIsi, qIsi2, qIsiC, qChain, isBl, tyN, gSub, qSetL, yv, wipe,
  List.getElem?_cons_zero, List.getElem?_cons_succ, List.set_cons_zero, List.set_cons_succ, upd_same, lstOf, tupOf, seqOf, at0, at1, at2, at3, ix0, ix1, ix2, sz0, sz1, sz2, sz3, sz4, sz5, sz6, sz7, sz8, sz15, true_and, and_true, and_self, if_true, if_false, if_pos,
  beq_t, beq_f, decide_eq_true_eq, decide_eq_false_iff_not, Bool.not_eq_true', Bool.not_eq_true, Bool.not_eq_false, Bool.not_true, Bool.not_false, Bool.false_eq_true, reduceCtorEq, ite_not, if_true, if_false, reduceIte, V.int.injEq, V.str.injEq, V.bl.injEq, V.ref.injEq, List.append_nil, forall_eq', exists_eq_left, exists_eq_left', *])
-- _law_spoilt  names ["tape", "text", "how", "at", "words", "other"]  needs ['c__law_take', 'z_len', 'c__law_sign']
abbrev s_law_spoilt : Stmt := topS 27
theorem sc_law_spoilt : FnScope ["tape", "text", "how", "at", "words", "other"] ["tape", "text"] (defScope s_law_spoilt) := ⟨rfl, rfl, rfl, by decide +kernel, rfl, by decide +kernel, by decide +kernel⟩
section
variable {P : Program} {w : World} {K : PySem.W.Frag} {mg : Str → Option Value} {base : Heap} {f : Addr} {fd : FuncData}
def sp_spoilt : Sp := fun vs H Q _ => ∃ (a : Addr) (z : Str) (n : Nat), vs = [.ref a, .str z] ∧ BoxAt H a n ∧ n ≤ 1000 ∧ z.length ≤ 200000 ∧ 0 < nsp z ∧
  ∀ z' H' n', But [a] H H' → BoxAt H' a n' → n' ≤ n + 6 → z'.length ≤ z.length + 4 * nsp z + 4 → nsp z' ≤ 2 * nsp z + 2 → Q (.str z') H'
theorem ok_spoilt (F : Fun K "_law_spoilt" "_law_spoilt" s_law_spoilt f fd) (z_len : mg "len" = none) (c__law_take : Cal P w K mg base CX0 1 "_law_take" ["tape", "many"] (sp_take K)) (c__law_sign : Cal P w K mg base CX0 2 "_law_sign" ["tape"] (sp_sign K)) : FnOk P w K mg base CX0 3 f fd ["tape", "text"] sp_spoilt := by
  refine okT (k := 2) F sc_law_spoilt (by decide +kernel) (by decide) (fun vs H Q E h => by obtain ⟨_, _, _, rfl, _⟩ := h; rfl) (fun cdv A outer s H vs Q E hr h => ?_)
  have hu64 := hr.units
  refine ⟨_, (psst_cons (pst_of (ps_set (i := 2) sc_law_spoilt.nd rfl (Or.inl rfl) (pe_c c__law_take hr (pa_cons (xv 0) (pa_cons pe_int pa_nil)))))
  (psst_cons (pst_of (ps_set (i := 3) sc_law_spoilt.nd rfl (Or.inl rfl) (pe_c c__law_take hr (pa_cons (xv 0) (pa_cons (pe_op yadd (pe_callB ylen (by rfl) z_len PySem.boot_len (pa_cons (xv 1) pa_nil)) pe_int) pa_nil)))))
  (psst_cons (pst_of (ps_if (xt ylt (xv 2) pe_int (nomark _)) (pss_one (ps_ret (pe_op yadd (pe_op yadd (pe_slice ysl (xv 1) po_none (po_some (xv 3))) (pe_c c__law_sign hr (pa_cons (xv 0) pa_nil))) (pe_slice ysl (xv 1) (po_some (pe_op ysub (pe_op yadd (xv 3) pe_int) (pe_op ydiv (xv 2) pe_int))) po_none)))) pss_nil))
  (psst_cons (pst_of (ps_if (xt (yeq hu64) (xv 2) pe_int (nomark _)) (pss_one (ps_ret (pe_op yadd (pe_slice ysl (xv 1) po_none (po_some (xv 3))) (pe_slice ysl (xv 1) (po_some (pe_op yadd (xv 3) pe_int)) po_none)))) pss_nil))
  (psst_cons (pst_of (ps_if (xt (yeq hu64) (xv 2) pe_int (nomark _)) (pss_one (ps_ret (pe_op yadd (pe_op yadd (pe_slice ysl (xv 1) po_none (po_some (xv 3))) (xrevs (p := ⟨0, 0, 0, 0⟩) (pe_slice ysl (xv 1) (po_some (xv 3)) (po_some (pe_op yadd (xv 3) pe_int))))) (pe_slice ysl (xv 1) (po_some (pe_op yadd (xv 3) pe_int)) po_none)))) pss_nil))
  (psst_cons (xsetT (i := 4) sc_law_spoilt.nd rfl (Or.inl rfl) (xwordsT (xrepl2 (xrepl1 (xv 1)))))
  (psst_cons (pst_of (ps_set (i := 3) sc_law_spoilt.nd rfl (Or.inl rfl) (pe_c c__law_take hr (pa_cons (xv 0) (pa_cons (pe_callB ylen (by rfl) z_len PySem.boot_len (pa_cons (xv 4) pa_nil)) pa_nil)))))
  (psst_cons (pst_of (ps_set (i := 5) sc_law_spoilt.nd rfl (Or.inl rfl) (pe_ix yix (xv 4) (pe_c c__law_take hr (pa_cons (xv 0) (pa_cons (pe_callB ylen (by rfl) z_len PySem.boot_len (pa_cons (xv 4) pa_nil)) pa_nil))) (fun _ _ => rfl))))
  (psst_cons (pst_of (ps_if (xt (yeq hu64) (xv 2) pe_int (nomark _)) (pss_one (ps_ret (xjoin pe_str (pe_op yadd (pe_slice ysl (xv 4) po_none (po_some (xv 3))) (pe_slice ysl (xv 4) (po_some (pe_op yadd (xv 3) pe_int)) po_none))))) pss_nil))
  (psst_of (pss_one (ps_ret (xjoin pe_str (pe_op yadd (pe_op yadd (pe_slice ysl (xv 4) po_none (po_some (xv 3))) (pe_lst (pa_cons (xv 5) pa_nil))) (pe_slice ysl (xv 4) (po_some (pe_op ysub (pe_op yadd (xv 3) (xv 2)) pe_int)) po_none))))))))))))))), ?_⟩
  obtain ⟨a, z, n, rfl, hb, hn, hz, hp, q⟩ := h
  walk_at "evh"
  refine ⟨a, 8, n, rfl, hb, by omega, by decide, by decide, fun r H1 b1 h1 r0 r8 => ⟨sz_of (by omega), a, (z.length : Int) + 1, n + 1, rfl, h1, by omega, by omega, by omega, fun r2 H2 b2 h2 r20 r21 => ?_⟩⟩
  obtain ⟨k, rfl⟩ := Int.eq_ofNat_of_zero_le r20
  have b02 := b1.trans b2
  walk_at "evh"
  by_cases c1 : r < 3
  · rw [if_pos c1]
    refine ⟨sz_of (by omega), a, n + 2, rfl, h2, by omega, fun sg H3 b3 h3 hs1 => ?_⟩
    walk_at "evh"
    obtain ⟨j, hj, hkj⟩ : ∃ j : Nat, (k : Int) + 1 - r / 2 = (j : Int) ∧ k ≤ j := ⟨((k : Int) + 1 - r / 2).toNat, by omega, by omega⟩
    rw [hj]
    obtain ⟨t1, t2⟩ := two_cut (z := z) hkj
    have hsn := nsp_le sg
    refine ⟨sz_of (by omega), ⟨by decide, by decide⟩, sz_of (by omega), ?_, q _ H3 (n + 3) (b02.trans b3) h3 (by omega) ?_ ?_⟩
    · rw [str_len]
      exact sz_of (by omega)
    · rw [str_len, str_len]
      omega
    · rw [nsp_append, nsp_append]
      omega
  rw [if_neg c1]
  by_cases c2 : r = 3
  · rw [if_pos c2]
    have hj : (k : Int) + 1 = ((k + 1 : Nat) : Int) := rfl
    obtain ⟨t1, t2⟩ := two_cut (z := z) (Nat.le_succ k)
    refine ⟨sz_of (by omega), sz_of (by omega), sz_of (by exact Nat.le_trans t1 (by omega)), q _ H2 (n + 2) b02 h2 (by omega) ?_ ?_⟩
    · rw [str_len]
      exact Nat.le_trans t1 (by omega)
    · rw [nsp_append]
      exact Nat.le_trans t2 (by omega)
  rw [if_neg c2]
  by_cases c3 : r = 4
  · rw [if_pos c3]
    have h22 := cutS_two z k
    obtain ⟨t1, t2⟩ := two_cut (z := z) (a := k) (b := k + 2) (by omega)
    rw [show (((k + 2 : Nat) : Int)) = (k : Int) + 2 from rfl] at t1 t2
    refine ⟨sz_of (by omega), sz_of (by omega), sz_of (by omega), fun y hy => ⟨sz_of (by omega), sz_of (by omega), ?_, q _ H2 (n + 2) b02 h2 (by omega) ?_ ?_⟩⟩
    · rw [str_len]
      exact sz_of (by omega)
    · rw [str_len, str_len]
      omega
    · have := nsp_le y
      rw [nsp_append, nsp_append]
      omega
  rw [if_neg c3]
  have l1 := TK.replace_len z (Str.ofString "(") (Str.ofString " ( ")
  have l3 : (Str.ofString " ( ").length = 3 := by decide +kernel
  have l4 : (Str.ofString " ) ").length = 3 := by decide +kernel
  have l2 := TK.replace_len (Txt.replace z (Str.ofString "(") (Str.ofString " ( ")) (Str.ofString ")") (Str.ofString " ) ")
  rw [l3] at l1
  rw [l4] at l2
  refine ⟨by rw [l3]; omega, by rw [l4]; omega, ?_⟩
  have eR : nsp (Txt.replace (Txt.replace z (Str.ofString "(") (Str.ofString " ( ")) (Str.ofString ")") (Str.ofString " ) ")) = nsp z := by
    rw [show Str.ofString ")" = ⟨#[41]⟩ by decide +kernel, show Str.ofString " ) " = ⟨#[32, 41, 32]⟩ by decide +kernel, replace_nsp, show Str.ofString "(" = ⟨#[40]⟩ by decide +kernel, show Str.ofString " ( " = ⟨#[32, 40, 32]⟩ by decide +kernel, replace_nsp]
  generalize Txt.replace (Txt.replace z (Str.ofString "(") (Str.ofString " ( ")) (Str.ofString ")") (Str.ofString " ) ") = R at l2 eR ⊢
  show R.length + 2 ≤ sizeLine ∧ (∀ p, H2 p = none → _)
  refine ⟨sz_of (by omega), fun p hp => ?_⟩
  have w1 := words_some (x := R) (by omega)
  have w2 := words_few R
  have w3 := words_sum R
  have w4 : ∀ x ∈ Txt.words R, x.length ≤ nsp z := fun x hx => by have := word_le hx; omega
  generalize Txt.words R = ws at w1 w2 w3 w4 ⊢
  have hnz := nsp_le z
  rw [List.length_map]
  have s3 := same_new hp (.lst (ws.map V.str))
  have e3 : upd H2 p (.lst (ws.map V.str)) p = some (.lst (ws.map V.str)) := upd_same
  have h3 := h2.same s3
  have hpa : p ≠ a := by
    rintro rfl
    obtain ⟨_, _, _, g, _⟩ := h2
    rw [g] at hp
    cases hp
  have b03 : But [a] H (upd H2 p (.lst (ws.map V.str))) := b02.nw (b02.free (by simpa using hpa) hp) _
  generalize upd H2 p (.lst (ws.map V.str)) = H3 at s3 e3 h3 b03 ⊢
  refine ⟨a, (ws.length : Int), n + 2, rfl, h3, by omega, by omega, by omega, fun ri H4 b4 h4 ri0 ri1 => ?_⟩
  obtain ⟨i, rfl⟩ := Int.eq_ofNat_of_zero_le ri0
  have e4 := b4 _ _ (by simpa using hpa) e3
  simp only [e4]
  rw [List.length_map]
  refine ⟨a, (ws.length : Int), n + 3, rfl, h4, by omega, by omega, by omega, fun rj H5 b5 h5 rj0 rj1 => ?_⟩
  obtain ⟨j, rfl⟩ := Int.eq_ofNat_of_zero_le rj0
  have e5 := b5 _ _ (by simpa using hpa) e4
  have hj : j < ws.length := by omega
  have b05 := (b03.trans b4).trans b5
  have hlast : ∀ (H6 : Hp) (xs : List Str) (pp : Addr), But [a] H5 H6 → BoxAt H6 a (n + 4) → H6 pp = some (.lst (xs.map V.str)) → sumL xs ≤ 2 * nsp z → xs.length ≤ nsp z + 1 →
      (match (match (match H6 pp with | some (HO.lst xs) => some xs | some (HO.frz o (HO.lst xs)) => some xs | x => none) with | some xs => some xs | none => match H6 pp with | some (HO.tup xs) => some xs | some (HO.frz o (HO.tup xs)) => some xs | x => none) with
        | some xs => (match strsOf xs with
          | some ys => (List.map (fun x => x.length) ys).sum + ys.length * (Str.ofString " ").length ≤ 16777216 ∧ Q (V.str (Txt.join (Str.ofString " ") ys)) H6
          | none => False)
        | none => False) := by
    intro H6 xs pp b6 h6 e6 hs hl
    simp only [e6, strsOf_map]
    obtain ⟨j1, j2⟩ := join_len xs
    have hsp : (Str.ofString " ").length = 1 := by decide +kernel
    have hs' : (xs.map fun x => x.length).sum ≤ 2 * nsp z := hs
    exact ⟨by rw [hsp]; omega, q _ H6 (n + 4) (b05.trans b6) h6 (by omega) (by omega) (by omega)⟩
  rw [qIx_r, e5]
  simp only [seqOf, lstOf]
  rw [atI_nat (show (ws.map V.str)[j]? = some (V.str ws[j]) by rw [List.getElem?_map, List.getElem?_eq_getElem hj]; rfl)]
  have hoj := w4 _ (List.getElem_mem hj)
  generalize ws[j] = other at hoj ⊢
  have hsum : sumL ws = nsp z := by rw [← eR, ← w3]; rfl
  walk_at "evh"
  have bx : ∀ {H6}, Same H5 H6 → BoxAt H6 a (n + 4) := fun s => h5.same s
  by_cases c5 : r = 5
  · rw [if_pos c5]
    refine sl_use (.inl (.inl e5)) fun p6 hp6 => ?_
    rw [cut_to, ← List.map_take]
    have s6 := same_new hp6 (.lst ((ws.take i).map V.str))
    refine sl_use (.inl (.inl (s6 _ _ e5))) fun p7 hp7 => ?_
    rw [show ((i : Int) + 1) = ((i + 1 : Nat) : Int) from rfl, cut_from, ← List.map_drop]
    have s7 := same_up s6 hp7 (.lst ((ws.drop (i + 1)).map V.str))
    rw [qAdd_ll (same_new hp7 _ _ _ upd_same) upd_same, ← List.map_append]
    have hl := sumL_cut ws (Nat.le_succ i)
    have hlen : (ws.take i ++ ws.drop (i + 1)).length ≤ nsp z + 1 := by
      rw [List.length_append, List.length_take, List.length_drop]
      omega
    refine ⟨sz_of (by rw [List.length_map, List.length_map, List.length_take, List.length_drop]; omega), fun p8 hp8 => ?_⟩
    have s8 := same_up s7 hp8 (.lst ((ws.take i ++ ws.drop (i + 1)).map V.str))
    exact hlast _ (ws.take i ++ ws.drop (i + 1)) p8 (but_same s8) (bx s8) upd_same (by rw [sumL_append]; exact Nat.le_trans hl (by omega)) hlen
  rw [if_neg c5]
  obtain ⟨j2, hj2, hij⟩ : ∃ j2 : Nat, (i : Int) + r - 6 = (j2 : Int) ∧ i ≤ j2 := ⟨((i : Int) + r - 6).toNat, by omega, by omega⟩
  rw [hj2]
  refine sl_use (.inl (.inl e5)) fun p6 hp6 => ?_
  rw [cut_to, ← List.map_take]
  have s6 := same_new hp6 (.lst ((ws.take i).map V.str))
  intro p9 hp9
  have s9 := same_up s6 hp9 (.lst [V.str other])
  rw [qAdd_ll (same_new hp9 _ _ _ upd_same) upd_same, show (ws.take i).map V.str ++ [V.str other] = (ws.take i ++ [other]).map V.str by rw [List.map_append]; rfl]
  refine ⟨sz_of (by rw [List.length_map, List.length_take]; show _ + 1 ≤ _; omega), fun p10 hp10 => ?_⟩
  have s10 := same_up s9 hp10 (.lst ((ws.take i ++ [other]).map V.str))
  refine sl_use (.inl (.inl (s10 _ _ e5))) fun p7 hp7 => ?_
  rw [cut_from, ← List.map_drop]
  have s7 := same_up s10 hp7 (.lst ((ws.drop j2).map V.str))
  rw [qAdd_ll (same_new hp7 _ _ _ upd_same) upd_same, ← List.map_append]
  have hl := sumL_cut ws hij
  have ho : sumL [other] = other.length := by unfold sumL; simp
  have hlen : (ws.take i ++ [other] ++ ws.drop j2).length ≤ nsp z + 1 := by
    rw [List.length_append, List.length_append, List.length_take, List.length_drop]
    show _ + 1 + _ ≤ _
    omega
  refine ⟨sz_of (by rw [List.length_map, List.length_map, List.length_append, List.length_take, List.length_drop]; show _ + 1 + _ ≤ _; omega), fun p8 hp8 => ?_⟩
  have s8 := same_up s7 hp8 (.lst ((ws.take i ++ [other] ++ ws.drop j2).map V.str))
  exact hlast _ (ws.take i ++ [other] ++ ws.drop j2) p8 (but_same s8) (bx s8) upd_same (by rw [sumL_append, sumL_append, ho]; omega) hlen
end
end Fk
namespace Fk
open PySem L2
open TL (tl tl_append len_tl tl_join join_eq joinL)
/-! law -/
/-- (a, b) = a list of two -/
def qgLst (n : Nat) (t : TGs) : TG := fun v σ H Q => match v with
  | .ref a => (match lstOf (H a) with
    | some xs => xs.length = n ∧ t xs σ H Q
    | none => False)
  | _ => False
open PySem.Spec PyProof.Rows in
theorem xglst {X : Cx} {ts : List Expr} {k : Nat} {u : TGs} {n : Nat} {pos : Pos} (h : PGs X ts u) (hc : X.calm = true := by rfl) (hn : (assignEach ts X.env).length = n := by rfl) (hst : (assignEach ts X.env).findIdx? (·.1) = none := by rfl) : PG X (.Tuple ts k pos) (qgLst n u) := by
  refine ⟨fun pins s σ H v u Q I r hw => ?_⟩
  unfold qgLst at hw
  split at hw
  · split at hw
    · next a xs e =>
      obtain ⟨hl, hw⟩ := hw
      cases r
      obtain ⟨its, rv, p1, _⟩ := I.list (lst_sq (K := X.K) e)
      have hsz : its.toArray.size = n := by rw [List.size_toArray, ← hl, rv.length]
      rw [assign_Tuple]
      refine wpAny_bind (wpAny_standAt ?_)
      unfold unpack
      rw [hn, hst, ← hsz]
      refine wpAny_bind (wpAny_holding (PySem.W.kun_itemsOf (I.ok.hd hc) p1.isList fun h' hx => ?_))
      have I1 : Inv X pins σ H { s with heap := h' } := I.kept (t' := s.toks) fun b o e => hx b o (Nat.ne_of_lt (Heap.lt_size e)) e
      exact h.run pins _ σ H xs _ Q I1 (by simpa using rv) hw
    · exact hw.elim
  · exact hw.elim
theorem join_nl : ∀ (ws : List Str), (Txt.join (Str.ofString "\n") ws).length ≤ sumL ws + ws.length ∧ ∀ a r, ws = a :: r → nsp a ≤ nsp (Txt.join (Str.ofString "\n") ws) := by
  intro ws
  unfold nsp sumL
  rw [len_tl, join_eq, tl_join]
  have hs : tl (Str.ofString "\n") = [10] := by decide +kernel
  rw [hs]
  induction ws with
  | nil => exact ⟨Nat.zero_le _, fun a r h => by cases h⟩
  | cons a r ih =>
    cases r with
    | nil =>
      refine ⟨?_, fun a' r' h => by cases h; exact Nat.le_refl _⟩
      simp only [List.map_cons, List.map_nil, joinL, List.sum_cons, List.sum_nil, List.length_cons, List.length_nil]
      have := len_tl a
      omega
    | cons b r =>
      refine ⟨?_, fun a' r' h => by
        cases h
        simp only [List.map_cons, joinL, nspL_append]
        omega⟩
      have ih1 := ih.1
      simp only [List.map_cons, joinL, List.length_append, List.length_cons, List.length_nil, List.sum_cons] at ih1 ⊢
      have := len_tl a
      omega
theorem nat_mem : ∀ {l : List Nat} {a : Nat}, a ∈ l → a ≤ l.sum
  | b :: r, a, h => by
    rw [List.sum_cons]
    rcases List.mem_cons.mp h with rfl | h
    · omega
    · have := nat_mem h
      omega
def okTx (x : Str) : Prop := x.length ≤ 1000000
def iv1 (a p0 D p : Addr) (good : Str) (r : List Int) (σ : St) (H' : Hp) : Prop :=
  ∃ (tx : List Str) (n : Nat) (x7 x8 : Option V), σ = [some (.ref a), some (.ref p0), some (.ref D), none, none, some (.str good), some (.ref p), x7, x8, none, none, none] ∧ BoxAt H' p0 n ∧ n + 13 * r.length ≤ 200 ∧ H' p = some (.lst (tx.map V.str)) ∧ tx.length + r.length = 9 ∧ ∀ x ∈ tx, okTx x
def iv2 (a p0 D p p3 : Addr) (good : Str) (all : List Str) (r : List Str) (σ : St) (H' : Hp) : Prop :=
  ∃ (x7 x8 x9 x10 x11 : Option V), σ = [some (.ref a), some (.ref p0), some (.ref D), none, none, some (.str good), some (.ref p), x7, x8, x9, x10, x11] ∧ H' p3 = some (.lst (all.map V.str)) ∧ ∀ x ∈ r, okTx x
local macro_rules | `(tactic| walk_at "ev") => `(tactic| try simp only [cx_K, L2.start, List.map_cons, List.map_nil, List.length_cons, List.length_nil, Nat.reduceAdd, Nat.reduceSub, Nat.reduceLT, List.replicate_succ, List.replicate_zero, List.cons_append, List.nil_append, Nat.zero_add, Nat.add_zero,
  tSeq, tAsg, tLst, tTup, tNil, tCons, tC, tOp, tUn, gName, tNext, tRet, tRetN, tIfS, tDrop, tCB, tCall, tMeth, tMake, tIf, tAnd, tOr, tNot, tAndV, tOrV, tNotV, qFor, qLc, tYes, wStr, wLst, wTup, wRng1, wRng2, wEnum, wZip, wZipA, wRev, qVar, asB_bl, qAdd_ii, qAdd_ss, qSub_ii, qMul_ii, qMod_ii, qDiv_ii, qPow_ii, qCmpI_ii, qEq_ii, qEq_ss, qEq_bb, qIsN_n, qIsN_i, qIsN_s, qIsN_b, qIsN_r, qInS_s, qInT_r, qIx_s, qIx_r, qT, qIAdd_ii, qIAdd_ss, qLen_s, qLen_r, qAbs_i, qMax2_ii, qMin2_ii, qInt_i, qInt_b, qInt_s, qStrC_i, qStrC_s, qList_r, qTuple_r, tupleAs_l, tupleAs_t, qDivmod_ii, qAll_r, qAny_r, qSl_s, tSl, tNoPart, tPart, qPar, qPar3,
  qApp, qExt, qPop, isLst, qFld, qSetF, qAugF, qAug, qgTup, qgCons, qgNil, qNeg, qDG, qDIn, qDPut, qDGet2, qUpd, keyOf, qJoin, qWords, qStrip, qSum, qMaxA, qSIdx, qLIdx, qRevS, qIsi, qIsi2, qIsiC, qChain, isBl, tyN, gSub, qSetL, yv, wipe,
  List.getElem?_cons_zero, List.getElem?_cons_succ, List.set_cons_zero, List.set_cons_succ, upd_same, lstOf, tupOf, seqOf, at0, at1, at2, at3, ix0, ix1, ix2, sz0, sz1, sz2, sz3, sz4, sz5, sz6, sz7, sz8, sz15, true_and, and_true, and_self, if_true, if_false, if_pos,
  beq_t, beq_f, decide_eq_true_eq, decide_eq_false_iff_not, Bool.not_eq_true', Bool.not_eq_true, Bool.not_eq_false, Bool.not_true, Bool.not_false, Bool.false_eq_true, reduceCtorEq, ite_not, if_true, if_false, reduceIte, V.int.injEq, V.str.injEq, V.bl.injEq, V.ref.injEq, List.append_nil, forall_eq', exists_eq_left, exists_eq_left'])
local macro_rules | `(tactic| walk_at "evh") => `(tactic| try simp only [cx_K, L2.start, List.map_cons, List.map_nil, List.length_cons, List.length_nil, Nat.reduceAdd, Nat.reduceSub, Nat.reduceLT, List.replicate_succ, List.replicate_zero, List.cons_append, List.nil_append, Nat.zero_add, Nat.add_zero,
  tSeq, tAsg, tLst, tTup, tNil, tCons, tC, tOp, tUn, gName, tNext, tRet, tRetN, tIfS, tDrop, tCB, tCall, tMeth, tMake, tIf, tAnd, tOr, tNot, tAndV, tOrV, tNotV, qFor, qLc, tYes, wStr, wLst, wTup, wRng1, wRng2, wEnum, wZip, wZipA, wRev, qVar, asB_bl, qAdd_ii, qAdd_ss, qSub_ii, qMul_ii, qMod_ii, qDiv_ii, qPow_ii, qCmpI_ii, qEq_ii, qEq_ss, qEq_bb, qIsN_n, qIsN_i, qIsN_s, qIsN_b, qIsN_r, qInS_s, qInT_r, qIx_s, qIx_r, qT, qIAdd_ii, qIAdd_ss, qLen_s, qLen_r, qAbs_i, qMax2_ii, qMin2_ii, qInt_i, qInt_b, qInt_s, qStrC_i, qStrC_s, qList_r, qTuple_r, tupleAs_l, tupleAs_t, qDivmod_ii, qAll_r, qAny_r, qSl_s, tSl, tNoPart, tPart, qPar, qPar3,
  qApp, qExt, qPop, isLst, qFld, qSetF, qAugF, qAug, qgTup, qgCons, qgNil, qNeg, qDG, qDIn, qDPut, qDGet2, qUpd, keyOf, qJoin, qWords, qStrip, qSum, qMaxA, qSIdx, qLIdx, qRevS, qIsi, qIsi2, qIsiC, qChain, isBl, tyN, gSub, qSetL, yv, wipe,
  List.getElem?_cons_zero, List.getElem?_cons_succ, List.set_cons_zero, List.set_cons_succ, upd_same, lstOf, tupOf, seqOf, at0, at1, at2, at3, ix0, ix1, ix2, sz0, sz1, sz2, sz3, sz4, sz5, sz6, sz7, sz8, sz15, true_and, and_true, and_self, if_true, if_false, if_pos,
  beq_t, beq_f, decide_eq_true_eq, decide_eq_false_iff_not, Bool.not_eq_true', Bool.not_eq_true, Bool.not_eq_false, Bool.not_true, Bool.not_false, Bool.false_eq_true, reduceCtorEq, ite_not, if_true, if_false, reduceIte, V.int.injEq, V.str.injEq, V.bl.injEq, V.ref.injEq, List.append_nil, forall_eq', exists_eq_left, exists_eq_left', qgLst, *])
-- law  names ["script", "tape", "texts", "name", "tree", "good", "some", "turn", "bent", "text", "due", "found"]  needs ['c__law_tape', 'c__law_trees', 'c__law_plain', 'z_range', 'c__law_spoilt', 'c__law_take', 'c__law_read', 'c__law_told', 'c__law_same']
abbrev s_law : Stmt := topS 40
theorem sc_law : FnScope ["script", "tape", "texts", "name", "tree", "good", "some", "turn", "bent", "text", "due", "found"] ["script"] (defScope s_law) := ⟨rfl, rfl, rfl, by decide +kernel, rfl, by decide +kernel, by decide +kernel⟩
section
variable {P : Program} {w : World} {K : PySem.W.Frag} {mg : Str → Option Value} {base : Heap} {f : Addr} {fd : FuncData}
def sp_law (K : PySem.W.Frag) : Sp := fun vs H Q _ => ∃ (a : Addr) (ns : List Int), vs = [.ref a] ∧ SqL K H a (ns.map V.int) ∧ ns.length ≤ 63 ∧ ∀ H', Q (.bl true) H'
theorem ok_law (F : Fun K "law" "law" s_law f fd) (c__law_tape : Cal P w K mg base CX0 1 "_law_tape" ["script"] (sp_tape K)) (c__law_trees : Cal P w K mg base CX0 4 "_law_trees" ["script"] sp_trees) (c__law_plain : Cal P w K mg base CX0 74 "_law_plain" ["part"] (sp_plain 73)) (c__law_spoilt : Cal P w K mg base CX0 3 "_law_spoilt" ["tape", "text"] sp_spoilt)
    (c__law_take : Cal P w K mg base CX0 1 "_law_take" ["tape", "many"] (sp_take K)) (c__law_read : CalA P w K mg base (RLa 4) "_law_read" ["text"] sp_lread) (c__law_told : Cal P w K mg base CX0 111 "_law_told" ["text"] sp_lread) (c__law_same : Cal P w K mg base CX0 7 "_law_same" ["found", "due"] (sp_lsame 6)) (z_range : mg "range" = none) :
    FnOk P w K mg base CX0 117 f fd ["script"] (sp_law K) := by
  refine F.ok sc_law (fun vs H Q E h => by obtain ⟨_, _, rfl, _⟩ := h; rfl) (fun cdv A outer s H vs Q E hr h => ?_)
  have hrA : RLa 4 (A.deeper (PyProof.Rows.envOfC "law" (defScope s_law) s.heap.objs.size f cdv)) := ⟨hr.hd, by have := hr.dp; omega, by have := hr.un; omega⟩
  have hu64 := hr.units
  refine ⟨_, (pss_cons (ps_set (i := 1) sc_law.nd rfl (Or.inl rfl) (pe_c c__law_tape hr (pa_cons (xv 0) pa_nil)))
  (pss_cons (xsetlc (i := 2) (own := [("name", 3), ("tree", 4)]) sc_law.nd rfl rfl (sw_true rfl rfl rfl (by decide +kernel)) (xilst (pe_c c__law_trees hr (pa_cons (pe_slice ysl (xv 0) (po_some pe_int) po_none) pa_nil))) (blkOk_by (own := [("name", 3), ("tree", 4)]) (N := ["script", "tape", "texts", "name", "tree", "good", "some", "turn", "bent", "text", "due", "found"]) (sc := defScope s_law) (by decide +kernel)) (fun _ _ _ _ _ => (xglst (n := 2) (xgcons (pg_name (i := 3) sc_law.nd rfl (Or.inl rfl)) (xgcons (pg_name (i := 4) sc_law.nd rfl (Or.inl rfl)) xgnil)))) (fun _ _ _ _ _ => pts_nil) (fun _ _ _ _ _ => (pe_op yadd (pe_op yadd (pe_op yadd (pe_op yadd pe_str (xv 3)) pe_str) (pe_c c__law_plain hr (pa_cons (xv 4) pa_nil))) pe_str)))
  (pss_cons (ps_set (i := 5) sc_law.nd rfl (Or.inl rfl) (xjoin pe_str (xv 2)))
  (pss_cons (ps_set (i := 6) sc_law.nd rfl (Or.inl rfl) (pe_lst (pa_cons (xv 5) pa_nil)))
  (pss_cons (xfor PassesOwn.never (xirng1 z_range pe_int) (pg_name (i := 7) sc_law.nd rfl (Or.inl rfl))
  (pss_cons (ps_set (i := 8) sc_law.nd rfl (Or.inl rfl) (pe_c c__law_spoilt hr (pa_cons (xv 1) (pa_cons (xv 5) pa_nil))))
  (pss_cons (ps_if (PW.pt (pw_and (xt (yeq hu64) (pe_c c__law_take hr (pa_cons (xv 1) (pa_cons pe_int pa_nil))) pe_int (nomark _)) (pw_and1 (xt (yne hu64) (xstrip (xv 8)) pe_str (nomark _))))) (pss_one (ps_set (i := 8) sc_law.nd rfl (Or.inl rfl) (pe_c c__law_spoilt hr (pa_cons (xv 1) (pa_cons (xv 8) pa_nil))))) pss_nil)
  (pss_one (ps_expr (xapp (xv 6) (xv 8)))))))
  (pss_cons (xfor PassesOwn.never (xilst (pe_op yadd (xv 6) (pe_lst (pa_cons (xv 5) (pa_cons pe_str (pa_cons pe_str pa_nil)))))) (pg_name (i := 9) sc_law.nd rfl (Or.inl rfl))
  (pss_cons (xpar (i := 10) (j := 11) sc_law.nd rfl rfl (by decide) rfl rfl (pa_cons (pe_cA c__law_read hrA (pa_cons (xv 9) pa_nil)) (pa_cons (pe_c c__law_told hr (pa_cons (xv 9) pa_nil)) pa_nil)) (by rfl))
  (pss_one (ps_if (PW.pt (pw_or (xt (yne hu64) (pe_cmpR yis (xv 10) pe_non (nomark _)) (pe_cmpR yis (xv 11) pe_non (nomark _)) (nomark _)) (pw_or1 (PW.pt (pw_and (xt yisn (xv 10) pe_non (nomark _)) (pw_and1 (pt_not (xtv (pe_c c__law_same hr (pa_cons (xv 11) (pa_cons (xv 10) pa_nil))))))))))) (pss_one (ps_ret pe_bl)) pss_nil))))
  (pss_one (ps_ret pe_bl)))))))), ?_⟩
  obtain ⟨a, ns, rfl, ha, hn, q⟩ := h
  walk_at "evh"
  refine ⟨a, ns, rfl, ha, hn, fun p0 H0 s0 hp0 hb0 => ?_⟩
  walk_at "evh"
  refine sl_use (s0.seq ha) fun p1 hp1 => ?_
  rw [show cutV (ns.map V.int) (some 1) none = _ from cut_from _ 1, ← List.map_drop]
  have s1 := same_new hp1 (.lst ((ns.drop 1).map V.int))
  have e1 : upd H0 p1 (.lst ((ns.drop 1).map V.int)) p1 = some (.lst ((ns.drop 1).map V.int)) := upd_same
  have hb1 := hb0.same s1
  generalize upd H0 p1 (.lst ((ns.drop 1).map V.int)) = H1 at s1 e1 hb1 ⊢
  refine ⟨p1, ns.drop 1, rfl, e1, by rw [List.length_drop]; omega, fun M ms H2 s2 hM eM hms m1 m2 m3 => ?_⟩
  have hb2 := hb1.same s2
  simp only [eM]
  intro D hD
  rw [List.map_map]
  refine lcs (f := Yd.one ∘ (·.1)) (as := ms) (fun p => p.2 + 20) (fun z => 0 < nsp z) hD (by omega) ?_ ?_ ?_
  · intro H' s'
    show (match H' M with | some (HO.lst xs) => some xs | some (HO.frz o (HO.lst xs)) => some xs | x => none) = _
    rw [s' _ _ eM]
  · intro y hy H' s' Fin fin
    obtain ⟨b, nm, t, i1, i2, i3, i4, d, i5, i6, i7⟩ := hms y hy
    show yv (.one y.1) _ _
    rw [i1]
    have i3' := s' _ _ i3
    have hy2 : y.2 ≤ 24100 := Nat.le_trans (nat_mem (List.mem_map.mpr ⟨y, hy, rfl⟩)) m3
    walk_at "evh"
    have hl5 : (Str.ofString "(def ").length = 5 := by decide +kernel
    have hl1 : (Str.ofString " ").length = 1 := by decide +kernel
    have hl2 : (Str.ofString ")").length = 1 := by decide +kernel
    have hn5 : nsp (Str.ofString "(def ") = 4 := by decide +kernel
    rw [str_len, hl5, hl1]
    refine ⟨sz_of (by omega), sz_of (by omega), t, d, rfl, (i5.weak (T := []) fun _ h => by cases h).mono (but_same s'), i6, by omega, fun z H3 s3 hz => ?_⟩
    walk_at "evh"
    rw [str_len, str_len, hl5, hl1]
    refine ⟨sz_of (by omega), sz_of (by rw [str_len, str_len, str_len, hl5, hl1]; omega), fin _ H3 s3 ?_ ?_⟩
    · rw [str_len, str_len, str_len, str_len, hl5, hl1, hl2]
      omega
    · rw [nsp_append, nsp_append, nsp_append, nsp_append, hn5]
      omega
  intro H3 zs s3 e3 hzl hzs hzn
  have hb3 := hb2.same s3
  simp only [e3, strsOf_map]
  have hsum : (ms.map fun p => p.2 + 20).sum = (ms.map (·.2)).sum + 20 * ms.length := by
    clear hzs hzl hms m1 m2 m3 eM
    induction ms with
    | nil => rfl
    | cons b r ih => simp only [List.map_cons, List.sum_cons, List.length_cons, ih]; omega
  obtain ⟨j1, j2⟩ := join_nl zs
  have hsz : sumL zs ≤ 24100 + 240 := by
    show (zs.map (·.length)).sum ≤ _
    omega
  have hgn : 0 < nsp (Txt.join (Str.ofString "\n") zs) := by
    cases zs with
    | nil => simp only [List.length_nil] at hzl; omega
    | cons z r => exact Nat.lt_of_lt_of_le (hzn z (by simp)) (j2 z r rfl)
  have hgl : (Txt.join (Str.ofString "\n") zs).length ≤ 25000 := by omega
  have hnl : (Str.ofString "\n").length = 1 := by decide +kernel
  refine ⟨by rw [hnl]; have : (zs.map (·.length)).sum ≤ 24340 := hsz; omega, fun p hp => ?_⟩
  generalize Txt.join (Str.ofString "\n") zs = good at hgn hgl ⊢
  have hpp : p ≠ p0 := by
    rintro rfl
    obtain ⟨_, _, _, g, _⟩ := hb3
    rw [g] at hp
    cases hp
  have s4 := same_new hp (.lst [V.str good])
  have hb4 := hb3.same s4
  have e4 : upd H3 p (.lst [V.str good]) p = some (.lst [V.str good]) := upd_same
  generalize upd H3 p (.lst [V.str good]) = H4 at s4 hb4 e4 ⊢
  refine ⟨by decide, by decide, Int, _, upto 0 8, iv1 a p0 D p good, rfl, ⟨[good], 0, none, none, rfl, hb4, by decide, e4, by rw [upto_len]; rfl, fun x hx => by rw [List.mem_singleton.mp hx]; unfold okTx; omega⟩, fun _ _ _ _ => trivial, ?_, ?_⟩
  · rintro y r σ H' ⟨tx, n, x7, x8, rfl, h1, h2, h3, h4, h5⟩
    rw [List.length_cons] at h2 h4
    show yv (.one (.int y)) _ _
    walk_at "evh"
    have hgN := nsp_le good
    refine ⟨p0, good, n, rfl, h1, by omega, by omega, hgn, fun b H5 n5 b5 k1 k2 k3 k4 => ?_⟩
    have e5 := b5 _ _ (by simpa using hpp) h3
    refine ⟨p0, 3, n5, rfl, k1, by omega, by decide, by decide, fun r3 H6 b6 g1 _ _ => ?_⟩
    have e6 := b6 _ _ (by simpa using hpp) e5
    have done : ∀ (b' : Str) (H7 : Hp) (n7 : Nat), BoxAt H7 p0 n7 → n7 ≤ n + 13 → H7 p = some (.lst (tx.map V.str)) → okTx b' → (match H7 p with
        | some (HO.lst xs) => xs.length < sizeLine ∧ iv1 a p0 D p good r [some (.ref a), some (.ref p0), some (.ref D), none, none, some (.str good), some (.ref p), some (.int y), some (.str b'), none, none, none] (upd H7 p (.lst (xs ++ [.str b'])))
        | _ => False) := by
      intro b' H7 n7 hbx hn7 e7 hok
      simp only [e7]
      have bu : But [p] H7 (upd H7 p (.lst (tx.map V.str ++ [.str b']))) := (But.refl _ H7).at (by simp) _
      obtain ⟨q0, q1, q2, w1, w2⟩ := hbx
      refine ⟨sz_lt (by rw [List.length_map]; omega), tx ++ [b'], n7, _, _, rfl, ⟨q0, q1, q2, bu _ _ (by simpa using hpp.symm) w1, w2⟩, by omega, by rw [upd_same, List.map_append]; rfl, by rw [List.length_append]; show _ + 1 + _ = 9; omega, fun x hx => ?_⟩
      rcases List.mem_append.mp hx with hx | hx
      · exact h5 x hx
      · rw [List.mem_singleton.mp hx]; exact hok
    have okb : okTx b := by unfold okTx; omega
    walk_at "evh"
    have d0 := done b H6 (n5 + 1) g1 (by omega) e6 okb
    simp only [e6] at d0
    by_cases c0 : r3 = 0
    · rw [if_pos c0]
      refine ⟨sz_of (by omega), ?_⟩
      by_cases c1 : Txt.strip b = Str.ofString ""
      · rw [if_pos c1]
        exact d0
      · rw [if_neg c1]
        refine ⟨p0, b, n5 + 1, rfl, g1, by omega, by omega, strip_some c1, fun b2 H8 n8 b68 k5 k6 k7 k8 => ?_⟩
        have e8 := b68 _ _ (by simpa using hpp) e6
        have d8 := done b2 H8 n8 k5 (by omega) e8 (by unfold okTx; omega)
        simp only [e8] at d8 ⊢
        exact ⟨by first | rfl | trivial, d8⟩
    · rw [if_neg c0]
      exact d0
  · rintro σ H' ⟨tx, n, x7, x8, rfl, h1, h2, h3, h4, h5⟩
    walk_at "evh"
    intro p2 hp2
    have s5 := same_new hp2 (.lst [V.str good, V.str (Str.ofString ""), V.str (Str.ofString " \n")])
    have e5 : upd H' p2 (.lst [V.str good, V.str (Str.ofString ""), V.str (Str.ofString " \n")]) p2 = some (.lst ([good, Str.ofString "", Str.ofString " \n"].map V.str)) := upd_same
    rw [qAdd_ll (s5 _ _ h3) e5, ← List.map_append]
    have htl : tx.length ≤ 9 := by omega
    refine ⟨sz_of (by rw [List.length_map, List.length_map]; show _ + 3 ≤ _; omega), fun p3 hp3 => ?_⟩
    have s6 := same_up s5 hp3 (.lst ((tx ++ [good, Str.ofString "", Str.ofString " \n"]).map V.str))
    have e6 : upd (upd H' p2 (.lst [V.str good, V.str (Str.ofString ""), V.str (Str.ofString " \n")])) p3 (.lst ((tx ++ [good, Str.ofString "", Str.ofString " \n"]).map V.str)) p3 = some (.lst ((tx ++ [good, Str.ofString "", Str.ofString " \n"]).map V.str)) := upd_same
    have hok : ∀ x ∈ tx ++ [good, Str.ofString "", Str.ofString " \n"], okTx x := fun x hx => by
      rcases List.mem_append.mp hx with hx | hx
      · exact h5 x hx
      · simp only [List.mem_cons, List.not_mem_nil, or_false] at hx
        rcases hx with rfl | rfl | rfl
        · unfold okTx; omega
        · unfold okTx; decide +kernel
        · unfold okTx; decide +kernel
    generalize upd (upd H' p2 (.lst [V.str good, V.str (Str.ofString ""), V.str (Str.ofString " \n")])) p3 (.lst ((tx ++ [good, Str.ofString "", Str.ofString " \n"]).map V.str)) = H6 at s6 e6 ⊢
    generalize tx ++ [good, Str.ofString "", Str.ofString " \n"] = all at e6 hok ⊢
    simp only [e6]
    rw [List.map_map]
    refine ⟨Str, Yd.one ∘ V.str, all, iv2 a p0 D p p3 good all, rfl, ⟨x7, x8, none, none, none, rfl, e6, hok⟩, ?_, ?_, ?_⟩
    · rintro r σ H7 ⟨x7, x8, x9, x10, x11, rfl, g1, g2⟩
      show (match H7 p3 with | some (HO.lst xs) => some xs | some (HO.frz o (HO.lst xs)) => some xs | x => none) = _
      rw [g1]
    · rintro z r σ H7 ⟨x7, x8, x9, x10, x11, rfl, g1, g2⟩
      have hz : z.length ≤ 1000000 := g2 z (by simp)
      have g2' : ∀ x ∈ r, okTx x := fun x hx => g2 x (List.mem_cons_of_mem _ hx)
      show yv (.one (.str z)) _ _
      walk_at "evh"
      refine ⟨z, rfl, hz, ?_⟩
      cases hm : readM (wordsOf z.cps.toList) with
      | none =>
        intro H8 s8
        refine ⟨z, rfl, hz, ?_⟩
        rw [hm]
        intro H9 s9
        walk_at "evh"
        exact ⟨x7, x8, _, _, _, rfl, s9 _ _ (s8 _ _ g1), g2'⟩
      | some u =>
        obtain ⟨xs, ps, rows⟩ := u
        intro H8 t ln lo lr us s8 q1 q2 q3 q4 q5
        refine ⟨z, rfl, hz, ?_⟩
        rw [hm]
        intro H9 t' ln' lo' lr' us' s9 w1 w2 w3 w4 w5
        walk_at "evh"
        refine ⟨.ref t', .ref t, .tuple [.list (xs.map PyData.str), .list (ps.map PyData.int), .list rows], rfl, .tup w1 (.cons (.lst w2 (lds_strs xs)) (.cons (.lst w3 (lds_ints ps)) (.cons (.lst w4 w5.lds) .nil))), ?_, read_ok hm, fun H10 s10 => ?_⟩
        · exact (Ld.mono s9 (.tup q1 (.cons (.lst q2 (lds_strs xs)) (.cons (.lst q3 (lds_ints ps)) (.cons (.lst q4 q5.lds) .nil)))))
        · walk_at "evh"
          exact ⟨x7, x8, _, _, _, rfl, s10 _ _ (s9 _ _ (s8 _ _ g1)), g2'⟩
    · rintro σ H7 ⟨x7, x8, x9, x10, x11, rfl, g1, g2⟩
      exact q H7
end
end Fk
namespace Fk
open PySem L2
/-! the calls that go round -/
local macro_rules | `(tactic| walk_at "ev") => `(tactic| try simp only [cx_K, L2.start, List.map_cons, List.map_nil, List.length_cons, List.length_nil, Nat.reduceAdd, Nat.reduceSub, Nat.reduceLT, List.replicate_succ, List.replicate_zero, List.cons_append, List.nil_append, Nat.zero_add, Nat.add_zero,
  tSeq, tAsg, tLst, tTup, tNil, tCons, tC, tOp, tUn, gName, tNext, tRet, tRetN, tIfS, tDrop, tCB, tCall, tMeth, tMake, tIf, tAnd, tOr, tNot, tAndV, tOrV, tNotV, qFor, qLc, tYes, wStr, wLst, wTup, wRng1, wRng2, wEnum, wZip, wZipA, wRev, qVar, asB_bl, qAdd_ii, qAdd_ss, qSub_ii, qMul_ii, qMod_ii, qDiv_ii, qPow_ii, qCmpI_ii, qEq_ii, qEq_ss, qEq_bb, qIsN_n, qIsN_i, qIsN_s, qIsN_b, qIsN_r, qInS_s, qInT_r, qIx_s, qIx_r, qT, qIAdd_ii, qIAdd_ss, qLen_s, qLen_r, qAbs_i, qMax2_ii, qMin2_ii, qInt_i, qInt_b, qInt_s, qStrC_i, qStrC_s, qList_r, qTuple_r, tupleAs_l, tupleAs_t, qDivmod_ii, qAll_r, qAny_r, qSl_s, tSl, tNoPart, tPart, qPar, qPar3,
  qApp, qExt, qPop, isLst, qFld, qSetF, qAugF, qAug, qgTup, qgCons, qgNil, qNeg, qDG, qDIn, qDPut, qDGet2, qUpd, keyOf, qJoin, qWords, qStrip, qSum, qMaxA, qSIdx, qLIdx, qRevS, qIsi, qIsi2, qIsiC, qChain, isBl, tyN, gSub, qSetL, yv, wipe,
  List.getElem?_cons_zero, List.getElem?_cons_succ, List.set_cons_zero, List.set_cons_succ, upd_same, lstOf, tupOf, seqOf, at0, at1, at2, at3, ix0, ix1, ix2, sz0, sz1, sz2, sz3, sz4, sz5, sz6, sz7, sz8, sz15, true_and, and_true, and_self, if_true, if_false, if_pos,
  beq_t, beq_f, decide_eq_true_eq, decide_eq_false_iff_not, Bool.not_eq_true', Bool.not_eq_true, Bool.not_eq_false, Bool.not_true, Bool.not_false, Bool.false_eq_true, reduceCtorEq, ite_not, if_true, if_false, reduceIte, V.int.injEq, V.str.injEq, V.bl.injEq, V.ref.injEq, List.append_nil, forall_eq', exists_eq_left, exists_eq_left'])
local macro_rules | `(tactic| walk_at "evs") => `(tactic| try simp only [cx_K, L2.start, List.map_cons, List.map_nil, List.length_cons, List.length_nil, Nat.reduceAdd, Nat.reduceSub, Nat.reduceLT, List.replicate_succ, List.replicate_zero, List.cons_append, List.nil_append, Nat.zero_add, Nat.add_zero,
  tSeq, tAsg, tLst, tTup, tNil, tCons, tC, tOp, tUn, gName, tNext, tRet, tRetN, tIfS, tDrop, tCB, tCall, tMeth, tMake, tIf, tAnd, tOr, tNot, tAndV, tOrV, tNotV, qFor, qLc, tYes, wStr, wLst, wTup, wRng1, wRng2, wEnum, wZip, wZipA, wRev, qVar, asB_bl, qAdd_ii, qAdd_ss, qSub_ii, qMul_ii, qMod_ii, qDiv_ii, qPow_ii, qCmpI_ii, qEq_ii, qEq_ss, qEq_bb, qIsN_n, qIsN_i, qIsN_s, qIsN_b, qIsN_r, qInS_s, qInT_r, qIx_s, qIx_r, qT, qIAdd_ii, qIAdd_ss, qLen_s, qLen_r, qAbs_i, qMax2_ii, qMin2_ii, qInt_i, qInt_b, qInt_s, qStrC_i, qStrC_s, qList_r, qTuple_r, tupleAs_l, tupleAs_t, qDivmod_ii, qAll_r, qAny_r, qSl_s, tSl, tNoPart, tPart, qPar, qPar3,
  qApp, qExt, qPop, isLst, qFld, qSetF, qAugF, qAug, qgTup, qgCons, qgNil, qNeg, qDG, qDIn, qDPut, qDGet2, qUpd, keyOf, qJoin, qWords, qStrip, qSum, qMaxA, qSIdx, qLIdx, qRevS, qIsi, qIsi2, qIsiC, qChain, isBl, tyN, gSub, qSetL, yv, wipe,
  List.getElem?_cons_zero, List.getElem?_cons_succ, List.set_cons_zero, List.set_cons_succ, upd_same, lstOf, tupOf, seqOf, at0, at1, at2, at3, ix0, ix1, ix2, sz0, sz1, sz2, sz3, sz4, sz5, sz6, sz7, sz8, sz15, true_and, and_true, and_self, if_true, if_false, if_pos,
  beq_t, beq_f, decide_eq_true_eq, decide_eq_false_iff_not, Bool.not_eq_true', Bool.not_eq_true, Bool.not_eq_false, Bool.not_true, Bool.not_false, Bool.false_eq_true, reduceCtorEq, ite_not, if_true, if_false, reduceIte, V.int.injEq, V.str.injEq, V.bl.injEq, V.ref.injEq, List.append_nil, forall_eq', exists_eq_left, exists_eq_left', st_words, st_at, st_rows, st_bad, st_put_at, st_put_bad, *])
section
variable {P : Program} {w : World} {K : PySem.W.Frag} {mg : Str → Option Value} {base : Heap} {f g : Addr} {fd gd : FuncData}
theorem ok_lexpr0 (F : Fun K "_law_expr" "_law_expr" s_law_expr f fd) (c__law_word : Cal P w K mg base CX0 1 "_law_word" ["state"] sp_word) (c__law_is_number : Cal P w K mg base CX0 1 "_law_is_number" ["word"] sp_isnum) (c__law_is_name : Cal P w K mg base CX0 1 "_law_is_name" ["word"] sp_isnm)
    (c__law_number_of : Cal P w K mg base CX0 1 "_law_number_of" ["word"] sp_numof) (z_len : mg "len" = none) (z_tuple : mg "tuple" = none) (c__law_parts : CalA P w K mg base (fun _ => True) "_law_parts" ["state", "head"] (fun _ _ _ _ => False)) : FnA P w K mg base (REx 0) f fd ["state"] (sp_lexpr 0) := by
  refine okA F sc_law_expr (fun A h => ⟨h.1, by have := h.2.1; omega⟩) (fun vs H Q E h => by obtain ⟨_, _, _, _, _, _, _, _, rfl, _⟩ := h; rfl) (fun cdv A outer s H vs Q E hA h => ?_)
  have hr : Room 3 (A.deeper (PyProof.Rows.envOfC "_law_expr" (defScope s_law_expr) s.heap.objs.size f cdv)) := ⟨hA.1, by have := hA.2.1; show A.depth + 1 + _ + 5 < _; omega, by have := hA.2.2; show A.units + 3 + _ + 200 < _; omega⟩
  have hrA : (fun _ : Around => True) (A.deeper (PyProof.Rows.envOfC "_law_expr" (defScope s_law_expr) s.heap.objs.size f cdv)) := trivial
  have hu64 := hr.units
  refine ⟨_, (pss_cons (ps_set (i := 1) sc_law_expr.nd rfl (Or.inl rfl) (pe_c c__law_word hr (pa_cons (xv 0) pa_nil)))
  (pss_cons (ps_set (i := 2) sc_law_expr.nd rfl (Or.inl rfl) (xdget (hu_of hr) (xv 0) pe_str (fun _ _ => rfl)))
  (pss_cons (ps_set (i := 3) sc_law_expr.nd rfl (Or.inl rfl) (pe_callB ylen (by rfl) z_len PySem.boot_len (pa_cons (xv 2) pa_nil)))
  (pss_cons (ps_expr (xapp (xv 2) pe_non))
  (pss_cons (xdput (hu_of hr) (xv 0) pe_str (pe_or (xdget (hu_of hr) (xv 0) pe_str (fun _ _ => rfl)) (pe_one (pe_cmpR ygt (xv 3) pe_int (nomark _)))) rfl)
  (pss_cons (ps_if (PW.pt (pw_or (xtv (xdget (hu_of hr) (xv 0) pe_str (fun _ _ => rfl))) (pw_or1 (xtv (pe_c c__law_is_number hr (pa_cons (xv 1) pa_nil)))))) (pss_cons (ps_asg (pe_tup (pa_cons pe_str (pa_cons (pe_ifExp (xtv (xdget (hu_of hr) (xv 0) pe_str (fun _ _ => rfl))) pe_int (pe_c c__law_number_of hr (pa_cons (xv 1) pa_nil))) pa_nil))) (pg_sub (xv 2) (xv 3) ysetl))
  (pss_one (ps_ret (pe_tup (pa_cons (xv 3) (pa_cons pe_int pa_nil)))))) pss_nil)
  (pss_cons (ps_if (xtv (pe_c c__law_is_name hr (pa_cons (xv 1) pa_nil))) (pss_cons (ps_asg (pe_tup (pa_cons pe_str (pa_cons (xv 1) pa_nil))) (pg_sub (xv 2) (xv 3) ysetl))
  (pss_one (ps_ret (pe_tup (pa_cons (xv 3) (pa_cons pe_int pa_nil)))))) pss_nil)
  (pss_cons (xdput (hu_of hr) (xv 0) pe_str (pe_cmpR (yne hu64) (xv 1) pe_str (nomark _)) rfl)
  (pss_cons (ps_set (i := 4) sc_law_expr.nd rfl (Or.inl rfl) (pe_c c__law_word hr (pa_cons (xv 0) pa_nil)))
  (pss_cons (ps_asg (pe_cA c__law_parts hrA (pa_cons (xv 0) (pa_cons (xv 4) pa_nil))) (xgtup (n := 2) (xgcons (pg_name (i := 5) sc_law_expr.nd rfl (Or.inl rfl)) (xgcons (pg_name (i := 6) sc_law_expr.nd rfl (Or.inl rfl)) xgnil))))
  (pss_cons (xdput (hu_of hr) (xv 0) pe_str (pe_or (xdget (hu_of hr) (xv 0) pe_str (fun _ _ => rfl)) (pe_or (pe_cmpR (yne hu64) (pe_c c__law_word hr (pa_cons (xv 0) pa_nil)) pe_str (nomark _)) (pe_one (pe_cmpR ygt (xv 6) pe_int (nomark _))))) rfl)
  (pss_cons (ps_asg (pe_op yadd (pe_tup (pa_cons (xv 4) pa_nil)) (pe_callTy ytuple (by rfl) z_tuple (by decide +kernel) (pa_cons (xv 5) pa_nil))) (pg_sub (xv 2) (xv 3) ysetl))
  (pss_one (ps_ret (pe_tup (pa_cons (xv 3) (pa_cons (pe_op yadd (xv 6) pe_int) pa_nil))))))))))))))))), ?_⟩
  obtain ⟨s, lw, lr, all, i, b, us, rows, rfl, S, hin, hus, q⟩ := h
  walk_at "ev"
  refine ⟨s, lw, lr, all, i, b, us, rfl, S, ?_⟩
  have S1 := S.put (i + 1) b
  have e1 := S1.s
  have e2 := S1.r
  walk_at "evs"
  refine ⟨sz_lt (by omega), ?_⟩
  have S2 := S1.rput (us ++ [V.non])
  have bu : But [s, lr] H (upd (upd H s (stO lw (i + 1) lr b)) lr (.lst (us ++ [V.non]))) := ((But.refl _ H).at (by simp) _).at (by simp) _
  have hsN : H s ≠ none := by rw [S.s]; simp
  have hlN : H lr ≠ none := by rw [S.r]; simp
  have e3 := S2.s
  have hix : ixN (us ++ [V.non]).length ((us.length : Nat) : Int) = some us.length := ixN_k (by rw [List.length_append]; exact Nat.lt_succ_self _)
  cases b with
  | true =>
    have S3 := S2.put (i + 1) true
    have e4 := S3.s
    have e5 := S3.r
    rw [e3]
    walk_at "evs"
    intro p hp
    rw [upd_ne (by rintro rfl; rw [e5] at hp; cases hp), e5]
    simp only [hix]
    intro t ht
    obtain ⟨f1, f2, f3, f4, f5⟩ := lfin (pl := (us.length : Int)) (ne := 1) S3 (bu.at (by simp) _) hsN hlN hp ht
    refine q _ t _ _ _ _ _ f2 f3 ⟨f1, ?_⟩
    have hl2 : ((us ++ [V.non]).set us.length (V.ref p)).length = us.length + 1 := by rw [List.length_set, List.length_append]; rfl
    exact ⟨by rw [hl2]; omega, rfl, by rw [hl2]; omega⟩
  | false =>
    obtain ⟨h1, h2, h3⟩ := hin rfl
    omega
theorem no_fnA {R : Around → Prop} {ps : List Str} : FnA P w K mg base R f fd ps (fun _ _ _ _ => False) := ⟨fun _ _ _ _ h => h.elim, fun _ _ _ _ _ _ _ _ _ _ _ _ _ h => h.elim⟩
theorem lx_all (F : Fun K "_law_expr" "_law_expr" s_law_expr f fd) (G : Fun K "_law_parts" "_law_parts" s_law_parts g gd) (mF : mg "_law_expr" = some (.ref f)) (mG : mg "_law_parts" = some (.ref g))
    (c1 : Cal P w K mg base CX0 1 "_law_word" ["state"] sp_word) (c2 : Cal P w K mg base CX0 1 "_law_is_number" ["word"] sp_isnum) (c3 : Cal P w K mg base CX0 1 "_law_is_name" ["word"] sp_isnm) (c4 : Cal P w K mg base CX0 1 "_law_number_of" ["word"] sp_numof)
    (c5 : Cal P w K mg base CX0 2 "_law_named" ["state"] sp_named') (c6 : Cal P w K mg base CX0 1 "_law_coming" ["state"] sp_coming) (z_len : mg "len" = none) (z_tuple : mg "tuple" = none) (z_range : mg "range" = none) (z_max : mg "max" = none) :
    ∀ n, CalA P w K mg base (REx n) "_law_expr" ["state"] (sp_lexpr n)
  | 0 => ⟨f, fd, ok_lexpr0 F c1 c2 c3 c4 z_len z_tuple ⟨g, gd, no_fnA, mG, G.kp, G.binds fun _ _ _ _ _ _ us hl => match us, hl with | [_, _], _ => rfl⟩, mF, F.kp, F.binds fun _ _ _ _ _ _ us hl => match us, hl with | [_], _ => rfl⟩
  | n + 1 => by
    have ih := lx_all F G mF mG c1 c2 c3 c4 c5 c6 z_len z_tuple z_range z_max n
    have cp : CalA P w K mg base (RPa n) "_law_parts" ["state", "head"] (sp_lparts n) := ⟨g, gd, ok_lparts G c5 c6 z_len z_tuple z_range z_max ih, mG, G.kp, G.binds fun _ _ _ _ _ _ us hl => match us, hl with | [_, _], _ => rfl⟩
    exact ⟨f, fd, ok_lexpr F c1 c2 c3 c4 z_len z_tuple cp, mF, F.kp, F.binds fun _ _ _ _ _ _ us hl => match us, hl with | [_], _ => rfl⟩
theorem no_fn0 {k : Nat} {ps : List Str} : FnOk P w K mg base CX0 k f fd ps (fun _ _ _ _ => False) := ⟨fun _ _ _ _ h => h.elim, fun _ _ _ _ _ _ _ _ _ _ _ _ _ h => h.elim⟩
theorem plain_all (F : Fun K "_law_plain" "_law_plain" s_law_plain f fd) (mF : mg "_law_plain" = some (.ref f)) (z_isinstance : mg "isinstance" = none) (z_list : mg "list" = none) (z_tuple : mg "tuple" = none) (z_str : mg "str" = none) :
    ∀ n, Cal P w K mg base CX0 (n + 1) "_law_plain" ["part"] (sp_plain n)
  | 0 => ⟨f, fd, no_fn0, mF, F.kp, F.binds fun _ _ _ _ _ _ us hl => match us, hl with | [_], _ => rfl⟩
  | n + 1 => ⟨f, fd, ok_plain F z_isinstance z_list z_tuple z_str (plain_all F mF z_isinstance z_list z_tuple z_str n), mF, F.kp, F.binds fun _ _ _ _ _ _ us hl => match us, hl with | [_], _ => rfl⟩
theorem same_all (F : Fun K "_law_same" "_law_same" s_law_same f fd) (mF : mg "_law_same" = some (.ref f)) (z_isinstance : mg "isinstance" = none) (z_list : mg "list" = none) (z_tuple : mg "tuple" = none) (z_str : mg "str" = none) (z_int : mg "int" = none) (z_bool : mg "bool" = none) (z_len : mg "len" = none) (z_all : mg "all" = none) (z_zip : mg "zip" = none) :
    ∀ n, Cal P w K mg base CX0 (n + 1) "_law_same" ["found", "due"] (sp_lsame n)
  | 0 => ⟨f, fd, no_fn0, mF, F.kp, F.binds fun _ _ _ _ _ _ us hl => match us, hl with | [_, _], _ => rfl⟩
  | n + 1 => ⟨f, fd, ok_lsame F z_isinstance z_list z_tuple z_str z_int z_bool z_len z_all z_zip (same_all F mF z_isinstance z_list z_tuple z_str z_int z_bool z_len z_all z_zip n), mF, F.kp, F.binds fun _ _ _ _ _ _ us hl => match us, hl with | [_, _], _ => rfl⟩
end
end Fk
namespace Fk
open PySem L2
theorem kit_own {K : PySem.W.Frag} {C : Addr} : PySem.W.kitOne K (.ref C) (.ref C) = some true := by
  unfold PySem.W.kitOne
  rw [if_pos (by simp)]
theorem kit_type {K : PySem.W.Frag} {C : Addr} {T : String} (h : PySem.W.kitMeta T = true) (hs : PySem.W.subIn K (.ref C) (.type T) = some true) : PySem.W.kitOne K (.ref C) (.type T) = some true := by
  unfold PySem.W.kitOne PySem.W.kitCls
  rw [if_neg (by intro h; cases (beq_iff_eq.mp h))]
  simp only [h, if_true]
  exact hs
theorem all_mk {l : PySem.W.OpenLaw} {w : World} {K : PySem.W.Frag} {h : Heap} {mg : Str → Option Value} {fa : Addr} (X : K.In h) (G : h.Ns mainGlobals mg) (hfa : mg "law" = some (.ref fa))
    {f_words_of f_is_name f_is_number f_pattern_of f_read f__law_tape f__law_take f__law_name f__law_pop f__law_many f__law_tree f__law_item f__law_trees f__law_plain f__law_sign f__law_spoilt f__law_words f__law_is_number f__law_is_name f__law_word f__law_coming f__law_named f__law_number_of f__law_parts f__law_expr f__law_read f__law_same f__law_told f_law C_Reader f_Reader_init f_Reader_ahead f_Reader_taken f_Reader_want f_Reader_named f_Reader_expr f_Reader_form f_Reader_pieces f_Reader_many C_Program f_Program_init C_BadText C_FlowError f_KEPT : Addr} {t_LETTERS : Tok} {t_FIGURES : Tok} {t_MOST_PLACES : Tok} {t_MOST_NEST : Tok}
    (a_words_of : PySem.W.nsIn K mainGlobals "words_of" = some (some (.ref f_words_of)))
    (g_words_of : FnG K "words_of" "words_of" s_words_of f_words_of)
    (a_is_name : PySem.W.nsIn K mainGlobals "is_name" = some (some (.ref f_is_name)))
    (g_is_name : FnG K "is_name" "is_name" s_is_name f_is_name)
    (a_is_number : PySem.W.nsIn K mainGlobals "is_number" = some (some (.ref f_is_number)))
    (g_is_number : FnG K "is_number" "is_number" s_is_number f_is_number)
    (a_pattern_of : PySem.W.nsIn K mainGlobals "pattern_of" = some (some (.ref f_pattern_of)))
    (g_pattern_of : FnG K "pattern_of" "pattern_of" s_pattern_of f_pattern_of)
    (a_read : PySem.W.nsIn K mainGlobals "read" = some (some (.ref f_read)))
    (g_read : FnG K "read" "read" s_read f_read)
    (a__law_tape : PySem.W.nsIn K mainGlobals "_law_tape" = some (some (.ref f__law_tape)))
    (g__law_tape : FnG K "_law_tape" "_law_tape" s_law_tape f__law_tape)
    (a__law_take : PySem.W.nsIn K mainGlobals "_law_take" = some (some (.ref f__law_take)))
    (g__law_take : FnG K "_law_take" "_law_take" s_law_take f__law_take)
    (a__law_name : PySem.W.nsIn K mainGlobals "_law_name" = some (some (.ref f__law_name)))
    (g__law_name : FnG K "_law_name" "_law_name" s_law_name f__law_name)
    (a__law_pop : PySem.W.nsIn K mainGlobals "_law_pop" = some (some (.ref f__law_pop)))
    (g__law_pop : FnG K "_law_pop" "_law_pop" s_law_pop f__law_pop)
    (a__law_many : PySem.W.nsIn K mainGlobals "_law_many" = some (some (.ref f__law_many)))
    (g__law_many : FnG K "_law_many" "_law_many" s_law_many f__law_many)
    (a__law_tree : PySem.W.nsIn K mainGlobals "_law_tree" = some (some (.ref f__law_tree)))
    (g__law_tree : FnG K "_law_tree" "_law_tree" s_law_tree f__law_tree)
    (a__law_item : PySem.W.nsIn K mainGlobals "_law_item" = some (some (.ref f__law_item)))
    (g__law_item : FnG K "_law_item" "_law_item" s_law_item f__law_item)
    (a__law_trees : PySem.W.nsIn K mainGlobals "_law_trees" = some (some (.ref f__law_trees)))
    (g__law_trees : FnG K "_law_trees" "_law_trees" s_law_trees f__law_trees)
    (a__law_plain : PySem.W.nsIn K mainGlobals "_law_plain" = some (some (.ref f__law_plain)))
    (g__law_plain : FnG K "_law_plain" "_law_plain" s_law_plain f__law_plain)
    (a__law_sign : PySem.W.nsIn K mainGlobals "_law_sign" = some (some (.ref f__law_sign)))
    (g__law_sign : FnG K "_law_sign" "_law_sign" s_law_sign f__law_sign)
    (a__law_spoilt : PySem.W.nsIn K mainGlobals "_law_spoilt" = some (some (.ref f__law_spoilt)))
    (g__law_spoilt : FnG K "_law_spoilt" "_law_spoilt" s_law_spoilt f__law_spoilt)
    (a__law_words : PySem.W.nsIn K mainGlobals "_law_words" = some (some (.ref f__law_words)))
    (g__law_words : FnG K "_law_words" "_law_words" s_law_words f__law_words)
    (a__law_is_number : PySem.W.nsIn K mainGlobals "_law_is_number" = some (some (.ref f__law_is_number)))
    (g__law_is_number : FnG K "_law_is_number" "_law_is_number" s_law_is_number f__law_is_number)
    (a__law_is_name : PySem.W.nsIn K mainGlobals "_law_is_name" = some (some (.ref f__law_is_name)))
    (g__law_is_name : FnG K "_law_is_name" "_law_is_name" s_law_is_name f__law_is_name)
    (a__law_word : PySem.W.nsIn K mainGlobals "_law_word" = some (some (.ref f__law_word)))
    (g__law_word : FnG K "_law_word" "_law_word" s_law_word f__law_word)
    (a__law_coming : PySem.W.nsIn K mainGlobals "_law_coming" = some (some (.ref f__law_coming)))
    (g__law_coming : FnG K "_law_coming" "_law_coming" s_law_coming f__law_coming)
    (a__law_named : PySem.W.nsIn K mainGlobals "_law_named" = some (some (.ref f__law_named)))
    (g__law_named : FnG K "_law_named" "_law_named" s_law_named f__law_named)
    (a__law_number_of : PySem.W.nsIn K mainGlobals "_law_number_of" = some (some (.ref f__law_number_of)))
    (g__law_number_of : FnG K "_law_number_of" "_law_number_of" s_law_number_of f__law_number_of)
    (a__law_parts : PySem.W.nsIn K mainGlobals "_law_parts" = some (some (.ref f__law_parts)))
    (g__law_parts : FnG K "_law_parts" "_law_parts" s_law_parts f__law_parts)
    (a__law_expr : PySem.W.nsIn K mainGlobals "_law_expr" = some (some (.ref f__law_expr)))
    (g__law_expr : FnG K "_law_expr" "_law_expr" s_law_expr f__law_expr)
    (a__law_read : PySem.W.nsIn K mainGlobals "_law_read" = some (some (.ref f__law_read)))
    (g__law_read : FnG K "_law_read" "_law_read" s_law_read f__law_read)
    (a__law_same : PySem.W.nsIn K mainGlobals "_law_same" = some (some (.ref f__law_same)))
    (g__law_same : FnG K "_law_same" "_law_same" s_law_same f__law_same)
    (a__law_told : PySem.W.nsIn K mainGlobals "_law_told" = some (some (.ref f__law_told)))
    (g__law_told : FnG K "_law_told" "_law_told" s_law_told f__law_told)
    (a_law : PySem.W.nsIn K mainGlobals "law" = some (some (.ref f_law)))
    (g_law : FnG K "law" "law" s_law f_law)
    (a_Reader : PySem.W.nsIn K mainGlobals "Reader" = some (some (.ref C_Reader)))
    (cl_Reader : ClsG K C_Reader)
    (n_Reader_words : PySem.W.findIn K (.ref C_Reader) "words" = some none)
    (n_Reader_front : PySem.W.findIn K (.ref C_Reader) "front" = some none)
    (n_Reader_rows : PySem.W.findIn K (.ref C_Reader) "rows" = some none)
    (mk_Reader : PySem.W.makesIn K C_Reader = true)
    (kc_Reader : PySem.W.keepIn K (.ref C_Reader) = true)
    (i_Reader : PySem.W.findIn K (.ref C_Reader) "__init__" = some (some (.ref f_Reader_init)))
    (if_Reader : PySem.W.isFn K (.ref f_Reader_init) = true)
    (g_Reader_init : FnG K "__init__" "Reader.__init__" s_Reader___init__ f_Reader_init)
    (i_Reader_ahead : PySem.W.findIn K (.ref C_Reader) "ahead" = some (some (.ref f_Reader_ahead)))
    (if_Reader_ahead : PySem.W.isFn K (.ref f_Reader_ahead) = true)
    (g_Reader_ahead : FnG K "ahead" "Reader.ahead" s_Reader_ahead f_Reader_ahead)
    (i_Reader_taken : PySem.W.findIn K (.ref C_Reader) "taken" = some (some (.ref f_Reader_taken)))
    (if_Reader_taken : PySem.W.isFn K (.ref f_Reader_taken) = true)
    (g_Reader_taken : FnG K "taken" "Reader.taken" s_Reader_taken f_Reader_taken)
    (i_Reader_want : PySem.W.findIn K (.ref C_Reader) "want" = some (some (.ref f_Reader_want)))
    (if_Reader_want : PySem.W.isFn K (.ref f_Reader_want) = true)
    (g_Reader_want : FnG K "want" "Reader.want" s_Reader_want f_Reader_want)
    (i_Reader_named : PySem.W.findIn K (.ref C_Reader) "named" = some (some (.ref f_Reader_named)))
    (if_Reader_named : PySem.W.isFn K (.ref f_Reader_named) = true)
    (g_Reader_named : FnG K "named" "Reader.named" s_Reader_named f_Reader_named)
    (i_Reader_expr : PySem.W.findIn K (.ref C_Reader) "expr" = some (some (.ref f_Reader_expr)))
    (if_Reader_expr : PySem.W.isFn K (.ref f_Reader_expr) = true)
    (g_Reader_expr : FnG K "expr" "Reader.expr" s_Reader_expr f_Reader_expr)
    (i_Reader_form : PySem.W.findIn K (.ref C_Reader) "form" = some (some (.ref f_Reader_form)))
    (if_Reader_form : PySem.W.isFn K (.ref f_Reader_form) = true)
    (g_Reader_form : FnG K "form" "Reader.form" s_Reader_form f_Reader_form)
    (i_Reader_pieces : PySem.W.findIn K (.ref C_Reader) "pieces" = some (some (.ref f_Reader_pieces)))
    (if_Reader_pieces : PySem.W.isFn K (.ref f_Reader_pieces) = true)
    (g_Reader_pieces : FnG K "pieces" "Reader.pieces" s_Reader_pieces f_Reader_pieces)
    (i_Reader_many : PySem.W.findIn K (.ref C_Reader) "many" = some (some (.ref f_Reader_many)))
    (if_Reader_many : PySem.W.isFn K (.ref f_Reader_many) = true)
    (g_Reader_many : FnG K "many" "Reader.many" s_Reader_many f_Reader_many)
    (a_Program : PySem.W.nsIn K mainGlobals "Program" = some (some (.ref C_Program)))
    (cl_Program : ClsG K C_Program)
    (n_Program_names : PySem.W.findIn K (.ref C_Program) "names" = some none)
    (n_Program_roots : PySem.W.findIn K (.ref C_Program) "roots" = some none)
    (n_Program_rows : PySem.W.findIn K (.ref C_Program) "rows" = some none)
    (mk_Program : PySem.W.makesIn K C_Program = true)
    (kc_Program : PySem.W.keepIn K (.ref C_Program) = true)
    (i_Program : PySem.W.findIn K (.ref C_Program) "__init__" = some (some (.ref f_Program_init)))
    (if_Program : PySem.W.isFn K (.ref f_Program_init) = true)
    (g_Program_init : FnG K "__init__" "Program.__init__" s_Program___init__ f_Program_init)
    (a_BadText : PySem.W.nsIn K mainGlobals "BadText" = some (some (.ref C_BadText)))
    (x_BadText : PySem.W.excIn K C_BadText [.type "ValueError", .type "Exception", .type "BaseException", .type "object"] "ValueError.__new__" = true)
    (k_BadText : PySem.W.keepIn K (.ref C_BadText) = true)
    (b_BadText : PySem.W.subIn K (.ref C_BadText) (.type "BaseException") = some true)
    (t_BadText : PySem.W.typeIn K (.ref C_BadText) = some (.type "type"))
    (ic_BadText : PySem.W.isClsIn K C_BadText = true)
    (sc_BadText : PySem.W.subIn K (.ref C_BadText) (.ref C_BadText) = some true)
    (a_FlowError : PySem.W.nsIn K mainGlobals "FlowError" = some (some (.ref C_FlowError)))
    (b_FlowError : PySem.W.subIn K (.ref C_FlowError) (.type "BaseException") = some true)
    (d_FlowError : PySem.W.hasDictIn K C_FlowError = true)
    (t_FlowError : PySem.W.typeIn K (.ref C_FlowError) = some (.type "type"))
    (eg_BadText : PySem.W.findIn K (.ref C_BadText) "__getattribute__" = some (some (.builtin "BaseException.__getattribute__")))
    (ek_BadText : PySem.W.findIn K (.ref C_BadText) "__getattr__" = some none)
    (ed_BadText : PySem.W.hasDictIn K C_BadText = true)
    (ea_BadText : PySem.W.findIn K (.ref C_BadText) "__class__" = some (some (.builtin "object.__class__")))
    (em_BadText : PySem.W.mroIn K C_BadText (.type "object") = some true)
    (ia_Program : PySem.W.findIn K (.ref C_Program) "__class__" = some (some (.builtin "object.__class__")))
    (im_Program : PySem.W.mroIn K C_Program (.type "object") = some true)
    (o_get : PySem.W.specialIn K (.builtin "object.__class__") "__get__" = some (some (.builtin "getset_descriptor.__get__")))
    (o_takes : PySem.W.takesIn K (.builtin "object.__class__") = some true)
    (s_BadText_FlowError : PySem.W.subIn K (.ref C_BadText) (.ref C_FlowError) = some true)
    (s_BadText_ValueError : PySem.W.subIn K (.ref C_BadText) (.type "ValueError") = some true)
    (q_len : PySem.W.nsIn K mainGlobals "len" = some none)
    (q_int : PySem.W.nsIn K mainGlobals "int" = some none)
    (q_tuple : PySem.W.nsIn K mainGlobals "tuple" = some none)
    (q_abs : PySem.W.nsIn K mainGlobals "abs" = some none)
    (q_divmod : PySem.W.nsIn K mainGlobals "divmod" = some none)
    (q_range : PySem.W.nsIn K mainGlobals "range" = some none)
    (q_all : PySem.W.nsIn K mainGlobals "all" = some none)
    (q_max : PySem.W.nsIn K mainGlobals "max" = some none)
    (q_sum : PySem.W.nsIn K mainGlobals "sum" = some none)
    (q_str : PySem.W.nsIn K mainGlobals "str" = some none)
    (q_list : PySem.W.nsIn K mainGlobals "list" = some none)
    (q_bool : PySem.W.nsIn K mainGlobals "bool" = some none)
    (q_isinstance : PySem.W.nsIn K mainGlobals "isinstance" = some none)
    (q_zip : PySem.W.nsIn K mainGlobals "zip" = some none)
    (q_ValueError : PySem.W.nsIn K mainGlobals "ValueError" = some none)
    (q_LETTERS : PySem.W.nsIn K mainGlobals "LETTERS" = some (some (.str "abcdefghijklmnopqrstuvwxyz" t_LETTERS)))
    (q_FIGURES : PySem.W.nsIn K mainGlobals "FIGURES" = some (some (.str "0123456789" t_FIGURES)))
    (q_MOST_PLACES : PySem.W.nsIn K mainGlobals "MOST_PLACES" = some (some (.int 160 t_MOST_PLACES)))
    (q_MOST_NEST : PySem.W.nsIn K mainGlobals "MOST_NEST" = some (some (.int 24 t_MOST_NEST)))
    (q_KEPT : PySem.W.nsIn K mainGlobals "KEPT" = some (some (.ref f_KEPT)))
    (tt_KEPT : TupG K f_KEPT keptV)
    : ∃ fd : FuncData, (∀ (s : Shared) (v : Value), BindsTo s fd ⟨[v], []⟩ [("script", v)]) ∧ ∀ base : Heap, K.In base → base.Ns mainGlobals mg → FnOk l.prog w K mg base CX0 117 fa fd ["script"] (sp_law K) := by
  obtain ⟨fd_words_of, F_words_of⟩ := g_words_of
  have m_words_of := PySem.W.mg_of X G a_words_of
  obtain ⟨fd_is_name, F_is_name⟩ := g_is_name
  have m_is_name := PySem.W.mg_of X G a_is_name
  obtain ⟨fd_is_number, F_is_number⟩ := g_is_number
  have m_is_number := PySem.W.mg_of X G a_is_number
  obtain ⟨fd_pattern_of, F_pattern_of⟩ := g_pattern_of
  have m_pattern_of := PySem.W.mg_of X G a_pattern_of
  obtain ⟨fd_read, F_read⟩ := g_read
  have m_read := PySem.W.mg_of X G a_read
  obtain ⟨fd__law_tape, F__law_tape⟩ := g__law_tape
  have m__law_tape := PySem.W.mg_of X G a__law_tape
  obtain ⟨fd__law_take, F__law_take⟩ := g__law_take
  have m__law_take := PySem.W.mg_of X G a__law_take
  obtain ⟨fd__law_name, F__law_name⟩ := g__law_name
  have m__law_name := PySem.W.mg_of X G a__law_name
  obtain ⟨fd__law_pop, F__law_pop⟩ := g__law_pop
  have m__law_pop := PySem.W.mg_of X G a__law_pop
  obtain ⟨fd__law_many, F__law_many⟩ := g__law_many
  have m__law_many := PySem.W.mg_of X G a__law_many
  obtain ⟨fd__law_tree, F__law_tree⟩ := g__law_tree
  have m__law_tree := PySem.W.mg_of X G a__law_tree
  obtain ⟨fd__law_item, F__law_item⟩ := g__law_item
  have m__law_item := PySem.W.mg_of X G a__law_item
  obtain ⟨fd__law_trees, F__law_trees⟩ := g__law_trees
  have m__law_trees := PySem.W.mg_of X G a__law_trees
  obtain ⟨fd__law_plain, F__law_plain⟩ := g__law_plain
  have m__law_plain := PySem.W.mg_of X G a__law_plain
  obtain ⟨fd__law_sign, F__law_sign⟩ := g__law_sign
  have m__law_sign := PySem.W.mg_of X G a__law_sign
  obtain ⟨fd__law_spoilt, F__law_spoilt⟩ := g__law_spoilt
  have m__law_spoilt := PySem.W.mg_of X G a__law_spoilt
  obtain ⟨fd__law_words, F__law_words⟩ := g__law_words
  have m__law_words := PySem.W.mg_of X G a__law_words
  obtain ⟨fd__law_is_number, F__law_is_number⟩ := g__law_is_number
  have m__law_is_number := PySem.W.mg_of X G a__law_is_number
  obtain ⟨fd__law_is_name, F__law_is_name⟩ := g__law_is_name
  have m__law_is_name := PySem.W.mg_of X G a__law_is_name
  obtain ⟨fd__law_word, F__law_word⟩ := g__law_word
  have m__law_word := PySem.W.mg_of X G a__law_word
  obtain ⟨fd__law_coming, F__law_coming⟩ := g__law_coming
  have m__law_coming := PySem.W.mg_of X G a__law_coming
  obtain ⟨fd__law_named, F__law_named⟩ := g__law_named
  have m__law_named := PySem.W.mg_of X G a__law_named
  obtain ⟨fd__law_number_of, F__law_number_of⟩ := g__law_number_of
  have m__law_number_of := PySem.W.mg_of X G a__law_number_of
  obtain ⟨fd__law_parts, F__law_parts⟩ := g__law_parts
  have m__law_parts := PySem.W.mg_of X G a__law_parts
  obtain ⟨fd__law_expr, F__law_expr⟩ := g__law_expr
  have m__law_expr := PySem.W.mg_of X G a__law_expr
  obtain ⟨fd__law_read, F__law_read⟩ := g__law_read
  have m__law_read := PySem.W.mg_of X G a__law_read
  obtain ⟨fd__law_same, F__law_same⟩ := g__law_same
  have m__law_same := PySem.W.mg_of X G a__law_same
  obtain ⟨fd__law_told, F__law_told⟩ := g__law_told
  have m__law_told := PySem.W.mg_of X G a__law_told
  obtain ⟨fd_law, F_law⟩ := g_law
  have m_law := PySem.W.mg_of X G a_law
  have c_Reader : Cls K C_Reader := cl_Reader
  have m_Reader := PySem.W.mg_of X G a_Reader
  obtain ⟨fd_Reader_init, F_Reader_init⟩ := g_Reader_init
  have M_Reader : Mk K C_Reader f_Reader_init := ⟨mk_Reader, i_Reader, if_Reader, kc_Reader⟩
  obtain ⟨fd_Reader_ahead, F_Reader_ahead⟩ := g_Reader_ahead
  have M_Reader_ahead : Meth K C_Reader "ahead" f_Reader_ahead := ⟨i_Reader_ahead, if_Reader_ahead, F_Reader_ahead.kp⟩
  obtain ⟨fd_Reader_taken, F_Reader_taken⟩ := g_Reader_taken
  have M_Reader_taken : Meth K C_Reader "taken" f_Reader_taken := ⟨i_Reader_taken, if_Reader_taken, F_Reader_taken.kp⟩
  obtain ⟨fd_Reader_want, F_Reader_want⟩ := g_Reader_want
  have M_Reader_want : Meth K C_Reader "want" f_Reader_want := ⟨i_Reader_want, if_Reader_want, F_Reader_want.kp⟩
  obtain ⟨fd_Reader_named, F_Reader_named⟩ := g_Reader_named
  have M_Reader_named : Meth K C_Reader "named" f_Reader_named := ⟨i_Reader_named, if_Reader_named, F_Reader_named.kp⟩
  obtain ⟨fd_Reader_expr, F_Reader_expr⟩ := g_Reader_expr
  have M_Reader_expr : Meth K C_Reader "expr" f_Reader_expr := ⟨i_Reader_expr, if_Reader_expr, F_Reader_expr.kp⟩
  obtain ⟨fd_Reader_form, F_Reader_form⟩ := g_Reader_form
  have M_Reader_form : Meth K C_Reader "form" f_Reader_form := ⟨i_Reader_form, if_Reader_form, F_Reader_form.kp⟩
  obtain ⟨fd_Reader_pieces, F_Reader_pieces⟩ := g_Reader_pieces
  have M_Reader_pieces : Meth K C_Reader "pieces" f_Reader_pieces := ⟨i_Reader_pieces, if_Reader_pieces, F_Reader_pieces.kp⟩
  obtain ⟨fd_Reader_many, F_Reader_many⟩ := g_Reader_many
  have M_Reader_many : Meth K C_Reader "many" f_Reader_many := ⟨i_Reader_many, if_Reader_many, F_Reader_many.kp⟩
  have c_Program : Cls K C_Program := cl_Program
  have m_Program := PySem.W.mg_of X G a_Program
  obtain ⟨fd_Program_init, F_Program_init⟩ := g_Program_init
  have M_Program : Mk K C_Program f_Program_init := ⟨mk_Program, i_Program, if_Program, kc_Program⟩
  have e_BadText : ExcB K mg "BadText" C_BadText := ⟨PySem.W.mg_of X G a_BadText, x_BadText, k_BadText, b_BadText, t_BadText⟩
  have xs_BadText := exm_own b_BadText ic_BadText t_BadText sc_BadText
  have m_FlowError := PySem.W.mg_of X G a_FlowError
  have xc_BadText : ExcC K C_BadText := ⟨eg_BadText, ek_BadText, b_BadText, ed_BadText, ea_BadText, o_get, o_takes, em_BadText⟩
  have xi_Program : InsF K C_Program := ⟨cl_Program, ia_Program, o_get, o_takes, im_Program, kit_own⟩
  have z_len := PySem.W.mg_none_of X G q_len
  have z_int := PySem.W.mg_none_of X G q_int
  have z_tuple := PySem.W.mg_none_of X G q_tuple
  have z_abs := PySem.W.mg_none_of X G q_abs
  have z_divmod := PySem.W.mg_none_of X G q_divmod
  have z_range := PySem.W.mg_none_of X G q_range
  have z_all := PySem.W.mg_none_of X G q_all
  have z_max := PySem.W.mg_none_of X G q_max
  have z_sum := PySem.W.mg_none_of X G q_sum
  have z_str := PySem.W.mg_none_of X G q_str
  have z_list := PySem.W.mg_none_of X G q_list
  have z_bool := PySem.W.mg_none_of X G q_bool
  have z_isinstance := PySem.W.mg_none_of X G q_isinstance
  have z_zip := PySem.W.mg_none_of X G q_zip
  have z_ValueError := PySem.W.mg_none_of X G q_ValueError
  have g_LETTERS := PySem.W.mg_of X G q_LETTERS
  have g_FIGURES := PySem.W.mg_of X G q_FIGURES
  have g_MOST_PLACES := PySem.W.mg_of X G q_MOST_PLACES
  have g_MOST_NEST := PySem.W.mg_of X G q_MOST_NEST
  have g_KEPT := PySem.W.mg_of X G q_KEPT
  have e := hfa.symm.trans m_law
  cases e
  have cn : Cn K mg := ⟨z_len, ⟨_, g_LETTERS⟩, ⟨_, g_FIGURES⟩, _, g_KEPT, tt_KEPT.sq⟩
  have rt : RdT K mg C_Reader C_BadText := ⟨c_Reader, n_Reader_words, n_Reader_front, n_Reader_rows, z_len, z_int, z_tuple, ⟨_, g_MOST_PLACES⟩, ⟨_, g_MOST_NEST⟩, e_BadText⟩
  have pt : PgT K mg C_Program := ⟨c_Program, n_Program_names, n_Program_roots, n_Program_rows⟩
  have rf : RdF K mg C_Reader := ⟨⟨_, _, F_Reader_ahead, M_Reader_ahead⟩, ⟨_, _, F_Reader_taken, M_Reader_taken⟩, ⟨_, _, F_Reader_want, M_Reader_want⟩, ⟨_, _, F_Reader_named, M_Reader_named⟩, ⟨_, _, F_Reader_expr, M_Reader_expr⟩, ⟨_, _, F_Reader_form, M_Reader_form⟩, ⟨_, _, F_Reader_pieces, M_Reader_pieces⟩, ⟨_, _, F_Reader_many, M_Reader_many⟩⟩
  obtain ⟨oc, od, kV, doc, pm, an, cdv, ct, osl, rfl, lk, hcd⟩ := F_law.ex
  refine ⟨PySem.W.fnOf "law" "law" (defArgs s_law) (defBody s_law) (defScope s_law) .none kV doc pm an cdv ct, fun s v => .of_eq rfl, fun base _ _ => ?_⟩
  have c1 : Cal l.prog w K mg base CX0 1 "words_of" ["text"] sp_words_of := ⟨_, _, ok_words_of F_words_of, m_words_of, F_words_of.kp, F_words_of.binds fun _ _ _ _ _ _ us hl => match us, hl with | [_], _ => rfl⟩
  have c2 : Cal l.prog w K mg base CX0 1 "is_name" ["word"] sp_is_name := ⟨_, _, ok_is_name F_is_name cn, m_is_name, F_is_name.kp, F_is_name.binds fun _ _ _ _ _ _ us hl => match us, hl with | [_], _ => rfl⟩
  have c3 : Cal l.prog w K mg base CX0 1 "is_number" ["word"] sp_is_number := ⟨_, _, ok_is_number F_is_number cn, m_is_number, F_is_number.kp, F_is_number.binds fun _ _ _ _ _ _ us hl => match us, hl with | [_], _ => rfl⟩
  have c4 : Cal l.prog w K mg base (L2.CX l.prog w) 1 "pattern_of" ["head"] (sp_pattern_of C_BadText) := ⟨_, _, ok_pattern_of F_pattern_of e_BadText, m_pattern_of, F_pattern_of.kp, F_pattern_of.binds fun _ _ _ _ _ _ us hl => match us, hl with | [_], _ => rfl⟩
  have kR : CalC l.prog w K mg base CX0 1 C_Reader "Reader" ["self", "words"] (sp_rinit C_Reader) := ⟨m_Reader, _, _, ok_init F_Reader_init rt, M_Reader, F_Reader_init.binds fun _ _ _ _ _ _ us hl => match us, hl with | [_, _], _ => rfl⟩
  have kP : CalC l.prog w K mg base CX0 1 C_Program "Program" ["self", "names", "roots", "rows"] (sp_pinit C_Program) := ⟨m_Program, _, _, ok_pinit F_Program_init pt, M_Program, F_Program_init.binds fun _ _ _ _ _ _ us hl => match us, hl with | [_, _, _, _], _ => rfl⟩
  have mx := rd_expr (P := l.prog) (w := w) (base := base) rt rf c2 c3 c4 24
  have c5 : Cal l.prog w K mg base (L2.CX l.prog w) 110 "read" ["text"] (sp_read C_Program C_BadText) := ⟨_, _, ok_read F_read rt c1 kR kP (rd_ahead rt rf) (rd_want rt rf) (rd_named rt rf c2) mx, m_read, F_read.kp, F_read.binds fun _ _ _ _ _ _ us hl => match us, hl with | [_], _ => rfl⟩
  have d1 : Cal l.prog w K mg base CX0 1 "_law_tape" ["script"] (sp_tape K) := ⟨_, _, ok_tape F__law_tape z_abs z_sum z_int, m__law_tape, F__law_tape.kp, F__law_tape.binds fun _ _ _ _ _ _ us hl => match us, hl with | [_], _ => rfl⟩
  have d2 : Cal l.prog w K mg base CX0 1 "_law_take" ["tape", "many"] (sp_take K) := ⟨_, _, ok_take F__law_take z_divmod, m__law_take, F__law_take.kp, F__law_take.binds fun _ _ _ _ _ _ us hl => match us, hl with | [_, _], _ => rfl⟩
  have d3 : Cal l.prog w K mg base CX0 1 "_law_name" ["cell"] sp_name := ⟨_, _, ok_name F__law_name z_range, m__law_name, F__law_name.kp, F__law_name.binds fun _ _ _ _ _ _ us hl => match us, hl with | [_], _ => rfl⟩
  have d4 : Cal l.prog w K mg base CX0 2 "_law_sign" ["tape"] (sp_sign K) := ⟨_, _, ok_sign F__law_sign z_len d2, m__law_sign, F__law_sign.kp, F__law_sign.binds fun _ _ _ _ _ _ us hl => match us, hl with | [_], _ => rfl⟩
  have d5 : Cal l.prog w K mg base CX0 1 "_law_pop" ["stack"] sp_pop := ⟨_, _, ok_pop F__law_pop z_len, m__law_pop, F__law_pop.kp, F__law_pop.binds fun _ _ _ _ _ _ us hl => match us, hl with | [_], _ => rfl⟩
  have d6 : Cal l.prog w K mg base CX0 2 "_law_many" ["stack", "many"] sp_gmany := ⟨_, _, ok_gmany F__law_many z_range d5, m__law_many, F__law_many.kp, F__law_many.binds fun _ _ _ _ _ _ us hl => match us, hl with | [_, _], _ => rfl⟩
  have d7 : Cal l.prog w K mg base CX0 2 "_law_tree" ["op", "arg", "parts"] sp_tree := ⟨_, _, ok_tree F__law_tree z_range z_len z_tuple d3, m__law_tree, F__law_tree.kp, F__law_tree.binds fun _ _ _ _ _ _ us hl => match us, hl with | [_, _, _], _ => rfl⟩
  have d8 : Cal l.prog w K mg base CX0 3 "_law_item" ["op", "arg", "stack"] sp_item := ⟨_, _, ok_item F__law_item z_max z_sum d3 d6 d7, m__law_item, F__law_item.kp, F__law_item.binds fun _ _ _ _ _ _ us hl => match us, hl with | [_, _, _], _ => rfl⟩
  have d9 : Cal l.prog w K mg base CX0 4 "_law_trees" ["script"] sp_trees := ⟨_, _, ok_trees F__law_trees z_len d3 d5 d8, m__law_trees, F__law_trees.kp, F__law_trees.binds fun _ _ _ _ _ _ us hl => match us, hl with | [_], _ => rfl⟩
  have d10 := plain_all (P := l.prog) (w := w) (base := base) F__law_plain m__law_plain z_isinstance z_list z_tuple z_str 73
  have d11 : Cal l.prog w K mg base CX0 3 "_law_spoilt" ["tape", "text"] sp_spoilt := ⟨_, _, ok_spoilt F__law_spoilt z_len d2 d4, m__law_spoilt, F__law_spoilt.kp, F__law_spoilt.binds fun _ _ _ _ _ _ us hl => match us, hl with | [_, _], _ => rfl⟩
  have l1 : Cal l.prog w K mg base CX0 1 "_law_words" ["text"] sp_words_of := ⟨_, _, ok_lwords F__law_words, m__law_words, F__law_words.kp, F__law_words.binds fun _ _ _ _ _ _ us hl => match us, hl with | [_], _ => rfl⟩
  have l2 : Cal l.prog w K mg base CX0 1 "_law_is_number" ["word"] sp_isnum := ⟨_, _, ok_lisnum F__law_is_number z_len z_all, m__law_is_number, F__law_is_number.kp, F__law_is_number.binds fun _ _ _ _ _ _ us hl => match us, hl with | [_], _ => rfl⟩
  have l3 : Cal l.prog w K mg base CX0 1 "_law_is_name" ["word"] sp_isnm := ⟨_, _, ok_lisnm F__law_is_name z_len z_all, m__law_is_name, F__law_is_name.kp, F__law_is_name.binds fun _ _ _ _ _ _ us hl => match us, hl with | [_], _ => rfl⟩
  have l4 : Cal l.prog w K mg base CX0 1 "_law_word" ["state"] sp_word := ⟨_, _, ok_lword F__law_word z_len, m__law_word, F__law_word.kp, F__law_word.binds fun _ _ _ _ _ _ us hl => match us, hl with | [_], _ => rfl⟩
  have l5 : Cal l.prog w K mg base CX0 1 "_law_coming" ["state"] sp_coming := ⟨_, _, ok_lcoming F__law_coming z_len, m__law_coming, F__law_coming.kp, F__law_coming.binds fun _ _ _ _ _ _ us hl => match us, hl with | [_], _ => rfl⟩
  have l6 : Cal l.prog w K mg base CX0 2 "_law_named" ["state"] sp_named' := ⟨_, _, ok_lnamed F__law_named l4 l3, m__law_named, F__law_named.kp, F__law_named.binds fun _ _ _ _ _ _ us hl => match us, hl with | [_], _ => rfl⟩
  have l7 : Cal l.prog w K mg base CX0 1 "_law_number_of" ["word"] sp_numof := ⟨_, _, ok_lnumof F__law_number_of, m__law_number_of, F__law_number_of.kp, F__law_number_of.binds fun _ _ _ _ _ _ us hl => match us, hl with | [_], _ => rfl⟩
  have l8 := lx_all (P := l.prog) (w := w) (base := base) F__law_expr F__law_parts m__law_expr m__law_parts l4 l2 l3 l7 l6 l5 z_len z_tuple z_range z_max 161
  have l9 : CalA l.prog w K mg base (RLa 4) "_law_read" ["text"] sp_lread := ⟨_, _, ok_lread F__law_read l1 l4 l6 z_len l8, m__law_read, F__law_read.kp, F__law_read.binds fun _ _ _ _ _ _ us hl => match us, hl with | [_], _ => rfl⟩
  have l10 := same_all (P := l.prog) (w := w) (base := base) F__law_same m__law_same z_isinstance z_list z_tuple z_str z_int z_bool z_len z_all z_zip 6
  have tl : TlT K mg C_Program C_BadText C_FlowError := ⟨m_FlowError, e_BadText.g, m_Program, PySem.W.exm_ref b_FlowError d_FlowError t_FlowError s_BadText_FlowError, xc_BadText, kit_own, kit_type (by decide) s_BadText_ValueError, xi_Program⟩
  have l11 : Cal l.prog w K mg base CX0 111 "_law_told" ["text"] sp_lread := ⟨_, _, ok_told F__law_told tl pt z_isinstance z_ValueError c5, m__law_told, F__law_told.kp, F__law_told.binds fun _ _ _ _ _ _ us hl => match us, hl with | [_], _ => rfl⟩
  exact ok_law F_law d1 d9 d10 d11 d2 l9 l11 l10 z_range
theorem walk {l : PySem.W.OpenLaw} {q : Program} {loose : List Str} {XP : (Str → Option Value) → Heap → Prop} {YP : World → Heap → Prop} {d : DefRec} {K : Params → PySem.W.Frag} (hn : l.most = some 63) (hdf : d.params.defaults = [])
    (hY : ∀ (w : World) (h : Heap), YP w h → (K w.params).In h)
    (F : ∀ (w : World) (mg : Str → Option Value) (fa : Addr) (h : Heap), (K w.params).In h → h.Ns mainGlobals mg → mg d.name = some (.ref fa) →
      ∃ fd : FuncData, (∀ (s : Shared) (u : Value), BindsTo s fd ⟨[u], []⟩ [("script", u)]) ∧ ∀ base : Heap, (K w.params).In base → base.Ns mainGlobals mg → FnOk l.prog w (K w.params) mg base CX0 117 fa fd ["script"] (sp_law (K w.params))) :
    PySem.W.WalkO q loose XP YP l.row.toRowW d [] (fun f vs => PySem.call f vs) :=
  L2.walk_of (n := 63) (k := 117) (x := "script") (CX := fun _ => CX0) (sp := fun w => sp_law (K w.params)) hn (by decide) hdf ⟨rfl, by decide, by decide⟩ hY F (fun _ _ a ns hl _ hS => ⟨a, ns, rfl, hS, hl, fun _ => rfl⟩) fun _ _ _ _ _ z => z
end Fk
open PySem PySem.W PyProof.Rows Fk
local macro_rules | `(tactic| walk_at "fn") => `(tactic| (refine' fn_g ?l ?c ?k; (case l => k_is); (case c => k_is); (case k => k_is)))
local macro_rules | `(tactic| walk_at "cls") => `(tactic| (refine' cls_g ?pg ?hd ?po ?sa; (case pg => k_is); (case hd => k_is); (case po => k_is); (case sa => k_is)))
local macro_rules | `(tactic| walk_at "tup") => `(tactic| (refine' tup_g ?l ?s ?v; (case l => k_is); (case s => exact sz_of (by decide)); (case v => (repeat' first | exact Paired.nil | refine Paired.cons ?_ ?_ | exact ⟨_, rfl⟩ | exact rfl))))
set_option maxRecDepth 100000 in
set_option maxHeartbeats 0 in
theorem PySem.Challenge.cw_flowkinds_k07_texts_spoilt_anywhere_holds : PySem.Challenge.rw_flowkinds_k07_texts_spoilt_anywhere.Holds := by
  w_on; o_law; k_head; (case hw => w_witness2)
  k_fill
  refine Fk.walk (l := PySem.Challenge.rw_flowkinds_k07_texts_spoilt_anywhere) rfl rfl (fun w h Y => PySem.W.kIn_of Y) ?F
  case F =>
    intro w mg fa h KX G hmg
    refine' Fk.all_mk KX G hmg ?a_words_of ?g_words_of ?a_is_name ?g_is_name ?a_is_number ?g_is_number ?a_pattern_of ?g_pattern_of ?a_read ?g_read ?a__law_tape ?g__law_tape ?a__law_take ?g__law_take ?a__law_name ?g__law_name ?a__law_pop ?g__law_pop ?a__law_many ?g__law_many ?a__law_tree ?g__law_tree ?a__law_item ?g__law_item ?a__law_trees ?g__law_trees ?a__law_plain ?g__law_plain ?a__law_sign ?g__law_sign ?a__law_spoilt ?g__law_spoilt ?a__law_words ?g__law_words ?a__law_is_number ?g__law_is_number ?a__law_is_name ?g__law_is_name ?a__law_word ?g__law_word ?a__law_coming ?g__law_coming ?a__law_named ?g__law_named ?a__law_number_of ?g__law_number_of ?a__law_parts ?g__law_parts ?a__law_expr ?g__law_expr ?a__law_read ?g__law_read ?a__law_same ?g__law_same ?a__law_told ?g__law_told ?a_law ?g_law ?a_Reader ?cl_Reader ?n_Reader_words ?n_Reader_front ?n_Reader_rows ?mk_Reader ?kc_Reader ?i_Reader ?if_Reader ?g_Reader_init ?i_Reader_ahead ?if_Reader_ahead ?g_Reader_ahead ?i_Reader_taken ?if_Reader_taken ?g_Reader_taken ?i_Reader_want ?if_Reader_want ?g_Reader_want ?i_Reader_named ?if_Reader_named ?g_Reader_named ?i_Reader_expr ?if_Reader_expr ?g_Reader_expr ?i_Reader_form ?if_Reader_form ?g_Reader_form ?i_Reader_pieces ?if_Reader_pieces ?g_Reader_pieces ?i_Reader_many ?if_Reader_many ?g_Reader_many ?a_Program ?cl_Program ?n_Program_names ?n_Program_roots ?n_Program_rows ?mk_Program ?kc_Program ?i_Program ?if_Program ?g_Program_init ?a_BadText ?x_BadText ?k_BadText ?b_BadText ?t_BadText ?ic_BadText ?sc_BadText ?a_FlowError ?b_FlowError ?d_FlowError ?t_FlowError ?eg_BadText ?ek_BadText ?ed_BadText ?ea_BadText ?em_BadText ?ia_Program ?im_Program ?o_get ?o_takes ?s_BadText_FlowError ?s_BadText_ValueError ?q_len ?q_int ?q_tuple ?q_abs ?q_divmod ?q_range ?q_all ?q_max ?q_sum ?q_str ?q_list ?q_bool ?q_isinstance ?q_zip ?q_ValueError ?q_LETTERS ?q_FIGURES ?q_MOST_PLACES ?q_MOST_NEST ?q_KEPT ?tt_KEPT
    (case a_words_of => k_is)
    (case g_words_of => walk_at "fn")
    (case a_is_name => k_is)
    (case g_is_name => walk_at "fn")
    (case a_is_number => k_is)
    (case g_is_number => walk_at "fn")
    (case a_pattern_of => k_is)
    (case g_pattern_of => walk_at "fn")
    (case a_read => k_is)
    (case g_read => walk_at "fn")
    (case a__law_tape => k_is)
    (case g__law_tape => walk_at "fn")
    (case a__law_take => k_is)
    (case g__law_take => walk_at "fn")
    (case a__law_name => k_is)
    (case g__law_name => walk_at "fn")
    (case a__law_pop => k_is)
    (case g__law_pop => walk_at "fn")
    (case a__law_many => k_is)
    (case g__law_many => walk_at "fn")
    (case a__law_tree => k_is)
    (case g__law_tree => walk_at "fn")
    (case a__law_item => k_is)
    (case g__law_item => walk_at "fn")
    (case a__law_trees => k_is)
    (case g__law_trees => walk_at "fn")
    (case a__law_plain => k_is)
    (case g__law_plain => walk_at "fn")
    (case a__law_sign => k_is)
    (case g__law_sign => walk_at "fn")
    (case a__law_spoilt => k_is)
    (case g__law_spoilt => walk_at "fn")
    (case a__law_words => k_is)
    (case g__law_words => walk_at "fn")
    (case a__law_is_number => k_is)
    (case g__law_is_number => walk_at "fn")
    (case a__law_is_name => k_is)
    (case g__law_is_name => walk_at "fn")
    (case a__law_word => k_is)
    (case g__law_word => walk_at "fn")
    (case a__law_coming => k_is)
    (case g__law_coming => walk_at "fn")
    (case a__law_named => k_is)
    (case g__law_named => walk_at "fn")
    (case a__law_number_of => k_is)
    (case g__law_number_of => walk_at "fn")
    (case a__law_parts => k_is)
    (case g__law_parts => walk_at "fn")
    (case a__law_expr => k_is)
    (case g__law_expr => walk_at "fn")
    (case a__law_read => k_is)
    (case g__law_read => walk_at "fn")
    (case a__law_same => k_is)
    (case g__law_same => walk_at "fn")
    (case a__law_told => k_is)
    (case g__law_told => walk_at "fn")
    (case a_law => k_is)
    (case g_law => walk_at "fn")
    (case a_Reader => k_is)
    (case cl_Reader => walk_at "cls")
    (case n_Reader_words => k_is)
    (case n_Reader_front => k_is)
    (case n_Reader_rows => k_is)
    (case mk_Reader => k_is)
    (case kc_Reader => k_is)
    (case i_Reader => k_is)
    (case if_Reader => k_is)
    (case g_Reader_init => walk_at "fn")
    (case i_Reader_ahead => k_is)
    (case if_Reader_ahead => k_is)
    (case g_Reader_ahead => walk_at "fn")
    (case i_Reader_taken => k_is)
    (case if_Reader_taken => k_is)
    (case g_Reader_taken => walk_at "fn")
    (case i_Reader_want => k_is)
    (case if_Reader_want => k_is)
    (case g_Reader_want => walk_at "fn")
    (case i_Reader_named => k_is)
    (case if_Reader_named => k_is)
    (case g_Reader_named => walk_at "fn")
    (case i_Reader_expr => k_is)
    (case if_Reader_expr => k_is)
    (case g_Reader_expr => walk_at "fn")
    (case i_Reader_form => k_is)
    (case if_Reader_form => k_is)
    (case g_Reader_form => walk_at "fn")
    (case i_Reader_pieces => k_is)
    (case if_Reader_pieces => k_is)
    (case g_Reader_pieces => walk_at "fn")
    (case i_Reader_many => k_is)
    (case if_Reader_many => k_is)
    (case g_Reader_many => walk_at "fn")
    (case a_Program => k_is)
    (case cl_Program => walk_at "cls")
    (case n_Program_names => k_is)
    (case n_Program_roots => k_is)
    (case n_Program_rows => k_is)
    (case mk_Program => k_is)
    (case kc_Program => k_is)
    (case i_Program => k_is)
    (case if_Program => k_is)
    (case g_Program_init => walk_at "fn")
    (case a_BadText => k_is)
    (case x_BadText => k_exc)
    (case k_BadText => k_is)
    (case b_BadText => k_is)
    (case t_BadText => k_is)
    (case ic_BadText => k_is)
    (case sc_BadText => first | rfl | k_is)
    (case a_FlowError => k_is)
    (case b_FlowError => k_is)
    (case d_FlowError => k_is)
    (case t_FlowError => k_is)
    (case eg_BadText => k_is)
    (case ek_BadText => k_is)
    (case ed_BadText => k_is)
    (case ea_BadText => k_is)
    (case em_BadText => k_is)
    (case ia_Program => k_is)
    (case im_Program => k_is)
    (case o_get => k_is)
    (case o_takes => k_is)
    (case s_BadText_FlowError => first | rfl | k_is)
    (case s_BadText_ValueError => first | rfl | k_is)
    (case q_len => k_is)
    (case q_int => k_is)
    (case q_tuple => k_is)
    (case q_abs => k_is)
    (case q_divmod => k_is)
    (case q_range => k_is)
    (case q_all => k_is)
    (case q_max => k_is)
    (case q_sum => k_is)
    (case q_str => k_is)
    (case q_list => k_is)
    (case q_bool => k_is)
    (case q_isinstance => k_is)
    (case q_zip => k_is)
    (case q_ValueError => k_is)
    (case q_LETTERS => k_is)
    (case q_FIGURES => k_is)
    (case q_MOST_PLACES => k_is)
    (case q_MOST_NEST => k_is)
    (case q_KEPT => k_is)
    (case tt_KEPT => walk_at "tup")
#print axioms PySem.Challenge.cw_flowkinds_k07_texts_spoilt_anywhere_holds
