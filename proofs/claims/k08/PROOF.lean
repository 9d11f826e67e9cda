import PyProof.Rows.All
import Wide.All
import OpenK.AllK
import Wide.FinOn
import HandS.ForMost
import HandS.ForExc
import HandS.Deep
import HandS.TryMany
import HandS.TupAny
import HandS.WideBits
import HandS.Walk
import HandS.Zip
import HandS.IsInst
import HandS.RaiseMore
import HandS.FStr
import HandS.SetKeys
import HandS.Rev
import HandS.Style
import PySem.Challenge.RW_flowkinds_k08_nests_by_each_spot
set_option Elab.async false
set_option linter.all false
set_option maxRecDepth 100000
set_option maxHeartbeats 4000000
/-! ### Fk0: callables by name, operators of several kinds at once, heaps -/
namespace Fk
open PySem L2

/-- a def of the top, called by its name -/
structure Cal (P : Program) (w : World) (K : PySem.W.Frag) (mg : Str → Option Value) (base : Heap) (CX : CXT) (k : Nat) (x : Str) (ps : List Str) (sp : Sp) : Prop where
  ex : ∃ (f : Addr) (fd : FuncData), FnOk P w K mg base CX k f fd ps sp ∧ mg x = some (.ref f) ∧ PySem.W.keepIn K (.ref f) = true ∧ Binds K fd ps []
/-- a method of the class at C -/
structure CalM (P : Program) (w : World) (K : PySem.W.Frag) (mg : Str → Option Value) (base : Heap) (CX : CXT) (k : Nat) (C : Addr) (m : Str) (ps : List Str) (sp : Sp) : Prop where
  cl : Cls K C
  ex : ∃ (f : Addr) (fd : FuncData), FnOk P w K mg base CX k f fd ps sp ∧ Meth K C m f ∧ Binds K fd ps []
/-- a class that is called, by its __init__ -/
structure CalC (P : Program) (w : World) (K : PySem.W.Frag) (mg : Str → Option Value) (base : Heap) (CX : CXT) (k : Nat) (C : Addr) (x : Str) (ps : List Str) (sp : Sp) : Prop where
  gC : mg x = some (.ref C)
  ex : ∃ (f : Addr) (fd : FuncData), FnOk P w K mg base CX k f fd ps sp ∧ Mk K C f ∧ Binds K fd ps []
/-- an own exception class over ValueError, without an __init__ -/
structure ExcB (K : PySem.W.Frag) (mg : Str → Option Value) (x : Str) (C : Addr) : Prop where
  g : mg x = some (.ref C)
  x : PySem.W.excIn K C [.type "ValueError", .type "Exception", .type "BaseException", .type "object"] "ValueError.__new__" = true
  k : PySem.W.keepIn K (.ref C) = true
  b : PySem.W.subIn K (.ref C) (.type "BaseException") = some true
  t : PySem.W.typeIn K (.ref C) = some (.type "type")
section
variable {X : Cx} {CX : CXT} {j k : Nat} {C : Addr} {ps : List Str} {sp : Sp} {E : XK} {x m : Str} {p pos apos : Pos} {e o : Expr} {es : List Expr} {ta : TE} {t : TA}
theorem Cal.mono {P : Program} {w : World} {K : PySem.W.Frag} {mg : Str → Option Value} {base : Heap} (c : Cal P w K mg base CX j x ps sp) (h : j ≤ k) : Cal P w K mg base CX k x ps sp := by
  obtain ⟨f, fd, F, r⟩ := c.ex
  exact ⟨f, fd, F.mono h, r⟩
theorem CalM.mono {P : Program} {w : World} {K : PySem.W.Frag} {mg : Str → Option Value} {base : Heap} (c : CalM P w K mg base CX j C m ps sp) (h : j ≤ k) : CalM P w K mg base CX k C m ps sp := by
  obtain ⟨f, fd, F, r⟩ := c.ex
  exact ⟨c.cl, f, fd, F.mono h, r⟩
theorem CalC.mono {P : Program} {w : World} {K : PySem.W.Frag} {mg : Str → Option Value} {base : Heap} (c : CalC P w K mg base CX j C x ps sp) (h : j ≤ k) : CalC P w K mg base CX k C x ps sp := by
  obtain ⟨f, fd, F, r⟩ := c.ex
  exact ⟨c.gC, f, fd, F.mono h, r⟩
/-- f(e, ..), nothing raised -/
theorem pe_c (c : Cal X.prog X.w X.K X.mg X.base CX0 j x ps sp) (hr : Room k X.A) (ha : PA X (e :: es) t) (hj : j ≤ k := by omega) (hg : Gl X x := by rfl)
    (hdb : (x == ("__debug__" : Str)) = false := by decide) (he : starEach (e :: es) X.env = (false, eval e X.env) :: starEach es X.env := by rfl) (hpl : (backTo pos (starEach es X.env)).any (·.1) = false := by rfl) :
    PE X (.Call (.Name x p) (e :: es) [] pos) (tCall sp [] E0 t) := by
  obtain ⟨f, fd, F, hm, kp, b⟩ := c.ex
  exact pe_call F (hr.mono hj) hg hm kp b .nil pass0 ha hdb he hpl
/-- f(e, ..), what it raises leaves this def too -/
theorem pe_cX (c : Cal X.prog X.w X.K X.mg X.base (L2.CX X.prog X.w) j x ps sp) (hr : Room k X.A) (tk : Takes X (fun cls d _ H => E cls d H)) (ha : PA X (e :: es) t) (hj : j ≤ k := by omega) (hg : Gl X x := by rfl)
    (hdb : (x == ("__debug__" : Str)) = false := by decide) (he : starEach (e :: es) X.env = (false, eval e X.env) :: starEach es X.env := by rfl) (hpl : (backTo pos (starEach es X.env)).any (·.1) = false := by rfl) :
    PE X (.Call (.Name x p) (e :: es) [] pos) (tCall sp [] E t) := by
  obtain ⟨f, fd, F, hm, kp, b⟩ := c.ex
  exact pe_call F (hr.mono hj) hg hm kp b .nil (passes_call tk fun _ _ _ _ h => h) ha hdb he hpl
/-- the same in a try's body -/
theorem pe_cS {W : WX} (c : Cal X.prog X.w X.K X.mg X.base (L2.CX X.prog X.w) j x ps sp) (hr : Room k X.A) (tk : Takes X W) (ha : PA X (e :: es) t) (hj : j ≤ k := by omega) (hg : Gl X x := by rfl)
    (hdb : (x == ("__debug__" : Str)) = false := by decide) (he : starEach (e :: es) X.env = (false, eval e X.env) :: starEach es X.env := by rfl) (hpl : (backTo pos (starEach es X.env)).any (·.1) = false := by rfl) :
    PE X (.Call (.Name x p) (e :: es) [] pos) (tCallS sp (WE W) t) := by
  obtain ⟨f, fd, F, hm, kp, b⟩ := c.ex
  exact pe_callS F (hr.mono hj) hg hm kp b (fun σ => passAt tk σ) ha hdb he hpl
/-- f() -/
theorem pe_c0 (c : Cal X.prog X.w X.K X.mg X.base CX0 j x ps sp) (hr : Room k X.A) (hj : j ≤ k := by omega) (hg : Gl X x := by rfl)
    (hdb : (x == ("__debug__" : Str)) = false := by decide) :
    PE X (.Call (.Name x p) [] [] pos) (tCall sp [] E0 tNil) := by
  obtain ⟨f, fd, F, hm, kp, b⟩ := c.ex
  exact pe_call0 F (hr.mono hj) hg hm kp b .nil pass0 hdb
/-- o.m(e, ..), o.m() -/
theorem pe_m {pl : Sem Bool} (c : CalM X.prog X.w X.K X.mg X.base CX0 j C m ps sp) (hr : Room k X.A) (he : PE X o ta) (ha : PA X (e :: es) t) (hj : j ≤ k := by omega)
    (hst : starEach (e :: es) X.env = (false, eval e X.env) :: starEach es X.env := by rfl) (hpl : (backTo pos (starEach es X.env)).any (·.1) = false := by rfl)
    (ht : eval (.Call (.Attribute o m apos) (e :: es) [] pos) X.env = (do
      let ov ← eval o X.env
      standAt apos.atName
      let (f, first) ← holding [ov] (getMethod ov m pl)
      callWith pos f first (backTo pos (starEach (e :: es) X.env)) (backToKw pos (keywordEach [] X.env))) := by rfl) :
    PE X (.Call (.Attribute o m apos) (e :: es) [] pos) (tMeth C m sp [] E0 ta t) := by
  obtain ⟨f, fd, F, hm, b⟩ := c.ex
  exact pe_meth (pl := pl) he c.cl hm F (hr.mono hj) b .nil pass0 ha hst hpl ht
theorem pe_m0 {pl : Sem Bool} (c : CalM X.prog X.w X.K X.mg X.base CX0 j C m ps sp) (hr : Room k X.A) (he : PE X o ta) (hj : j ≤ k := by omega)
    (ht : eval (.Call (.Attribute o m apos) [] [] pos) X.env = (do
      let ov ← eval o X.env
      standAt apos.atName
      let (f, first) ← holding [ov] (getMethod ov m pl)
      callWith pos f first (backTo pos (starEach [] X.env)) (backToKw pos (keywordEach [] X.env))) := by rfl) :
    PE X (.Call (.Attribute o m apos) [] [] pos) (tMeth C m sp [] E0 ta tNil) := by
  obtain ⟨f, fd, F, hm, b⟩ := c.ex
  exact pe_meth0 (pl := pl) he c.cl hm F (hr.mono hj) b .nil pass0 ht
/-- the same where what they raise leaves this def too -/
theorem pe_mX {pl : Sem Bool} (c : CalM X.prog X.w X.K X.mg X.base (L2.CX X.prog X.w) j C m ps sp) (hr : Room k X.A) (tk : Takes X (fun cls d _ H => E cls d H)) (he : PE X o ta) (ha : PA X (e :: es) t) (hj : j ≤ k := by omega)
    (hst : starEach (e :: es) X.env = (false, eval e X.env) :: starEach es X.env := by rfl) (hpl : (backTo pos (starEach es X.env)).any (·.1) = false := by rfl)
    (ht : eval (.Call (.Attribute o m apos) (e :: es) [] pos) X.env = (do
      let ov ← eval o X.env
      standAt apos.atName
      let (f, first) ← holding [ov] (getMethod ov m pl)
      callWith pos f first (backTo pos (starEach (e :: es) X.env)) (backToKw pos (keywordEach [] X.env))) := by rfl) :
    PE X (.Call (.Attribute o m apos) (e :: es) [] pos) (tMeth C m sp [] E ta t) := by
  obtain ⟨f, fd, F, hm, b⟩ := c.ex
  exact pe_meth (pl := pl) he c.cl hm F (hr.mono hj) b .nil (passes_call tk fun _ _ _ _ h => h) ha hst hpl ht
theorem pe_mX0 {pl : Sem Bool} (c : CalM X.prog X.w X.K X.mg X.base (L2.CX X.prog X.w) j C m ps sp) (hr : Room k X.A) (tk : Takes X (fun cls d _ H => E cls d H)) (he : PE X o ta) (hj : j ≤ k := by omega)
    (ht : eval (.Call (.Attribute o m apos) [] [] pos) X.env = (do
      let ov ← eval o X.env
      standAt apos.atName
      let (f, first) ← holding [ov] (getMethod ov m pl)
      callWith pos f first (backTo pos (starEach [] X.env)) (backToKw pos (keywordEach [] X.env))) := by rfl) :
    PE X (.Call (.Attribute o m apos) [] [] pos) (tMeth C m sp [] E ta tNil) := by
  obtain ⟨f, fd, F, hm, b⟩ := c.ex
  exact pe_meth0 (pl := pl) he c.cl hm F (hr.mono hj) b .nil (passes_call tk fun _ _ _ _ h => h) ht
/-- C(e, ..), C() -/
theorem pe_new (c : CalC X.prog X.w X.K X.mg X.base CX0 j C x ps sp) (hr : Room k X.A) (ha : PA X (e :: es) t) (hj : j + 1 ≤ k := by omega) (hg : Gl X x := by rfl)
    (hdb : (x == ("__debug__" : Str)) = false := by decide) (he : starEach (e :: es) X.env = (false, eval e X.env) :: starEach es X.env := by rfl) (hpl : (backTo pos (starEach es X.env)).any (·.1) = false := by rfl) :
    PE X (.Call (.Name x p) (e :: es) [] pos) (tMake C sp [] E0 t) := by
  obtain ⟨f, fd, F, M, b⟩ := c.ex
  exact pe_make M F (hr.mono hj) hg c.gC b .nil pass0 ha hdb he hpl
theorem pe_new0 (c : CalC X.prog X.w X.K X.mg X.base CX0 j C x ps sp) (hr : Room k X.A) (hj : j + 1 ≤ k := by omega) (hg : Gl X x := by rfl)
    (hdb : (x == ("__debug__" : Str)) = false := by decide) :
    PE X (.Call (.Name x p) [] [] pos) (tMake C sp [] E0 tNil) := by
  obtain ⟨f, fd, F, M, b⟩ := c.ex
  exact pe_make0 M F (hr.mono hj) hg c.gC b .nil pass0 hdb
/-- constants of the module -/
theorem pe_gi {i : Int} (h : ∃ t, X.mg x = some (.int i t)) (hg : Gl X x := by rfl) (hdb : (x == ("__debug__" : Str)) = false := by decide) : PE X (.Name x pos) (tC (.int i)) := by
  obtain ⟨t, h⟩ := h
  exact pe_glob hg h ⟨t, rfl⟩ hdb
theorem pe_gs {z : Str} (h : ∃ t, X.mg x = some (.str z t)) (hg : Gl X x := by rfl) (hdb : (x == ("__debug__" : Str)) = false := by decide) : PE X (.Name x pos) (tC (.str z)) := by
  obtain ⟨t, h⟩ := h
  exact pe_glob hg h ⟨t, rfl⟩ hdb
theorem pe_gr {a : Addr} (h : X.mg x = some (.ref a)) (hg : Gl X x := by rfl) (hdb : (x == ("__debug__" : Str)) = false := by decide) : PE X (.Name x pos) (tC (.ref a)) :=
  pe_glob hg h rfl hdb
/-- raise C('..'), out of this def -/
theorem ps_rz {E : XK} {mm : Str} {jj : Nat} {p2 pos2 : Pos} (ex : ExcB X.K X.mg x C) (hc : X.calm = true) (tk : Takes X (fun cls d _ H => E cls d H)) (hg : Gl X x := by rfl)
    (hd : (x == ("__debug__" : Str)) = false := by decide) :
    PS X (.Raise (some (.Call (.Name x p) [.Constant (.str mm) jj p2] [] pos)) none pos2) (fun _ σ H => (fun _ H' Q => Q (.ref C) none H') σ H fun cls d H' => E cls d H') :=
  ps_raise (W := fun cls d _ H => E cls d H) hc tk (pmk_own PySem.F.excBase_ValueError ex.x ex.g ex.k (raises_own ex.b ex.t) hg hd)
end
end Fk
/-! ### Fk1: readings as functions of slots and heap -/
namespace Fk
open PySem PySem.Spec PyProof.Rows L2
section
variable {X : Cx}
theorem pe_imp {e : Expr} {t t' : TE} (h : PE X e t) (hi : ∀ σ H Q, t' σ H Q → t σ H Q) : PE X e t' := ⟨fun pins s σ H Q I q => h.run pins s σ H Q I (hi _ _ _ q)⟩
theorem pt_imp {e : Expr} {t t' : TT} (h : PT X e t) (hi : ∀ σ H Q, t' σ H Q → t σ H Q) : PT X e t' := ⟨fun pins s σ H Q I q => h.run pins s σ H Q I (hi _ _ _ q)⟩
theorem ps_imp {e : Stmt} {t t' : TS} (h : PS X e t) (hi : ∀ D σ H, t' D σ H → t D σ H) : PS X e t' := ⟨fun pins s σ H D I q => h.run pins s σ H D I (hi _ _ _ q)⟩
theorem op_imp {f : Value → Value → Sem Value} {r r' : R2} (h : OpR X f r) (hi : ∀ x y H Q, r' x y H Q → r x y H Q) : OpR X f r' := fun pins s σ H x y v u Q I rx ry q => h pins s σ H x y v u Q I rx ry (hi _ _ _ _ q)
theorem ix_imp {r r' : R2} (h : IxR X r) (hi : ∀ x y H Q, r' x y H Q → r x y H Q) : IxR X r' := fun value slice pins s σ H x y v u Q I rx ry q hs => h value slice pins s σ H x y v u Q I rx ry (hi _ _ _ _ q) hs
theorem ca_imp {f : Value} {r r' : List V → Hp → VK → Prop} (h : CallR X f r) (hi : ∀ xs H Q, r' xs H Q → r xs H Q) : CallR X f r' := fun pins s σ H xs us Q I rx q => h pins s σ H xs us Q I rx (hi _ _ _ q)
theorem sl_imp {r r' : V → Option Int → Option Int → Hp → VK → Prop} (h : SlR X r) (hi : ∀ x lo hi H Q, r' x lo hi H Q → r x lo hi H Q) : SlR X r' := fun pins s σ H x v vl vu lo hi' sl Q I rx hs pl pu q => h pins s σ H x v vl vu lo hi' sl Q I rx hs pl pu (hi _ _ _ _ _ q)
end
/-! what may be read at an address -/
def lstOf : Option HO → Option (List V)
  | some (.lst xs) => some xs
  | some (.frz _ (.lst xs)) => some xs
  | _ => none
def tupOf : Option HO → Option (List V)
  | some (.tup xs) => some xs
  | some (.frz _ (.tup xs)) => some xs
  | _ => none
def seqOf (o : Option HO) : Option (List V) := match lstOf o with
  | some xs => some xs
  | none => tupOf o
theorem lst_sq {K : PySem.W.Frag} {H : Hp} {a : Addr} {xs : List V} (h : lstOf (H a) = some xs) : SqL K H a xs := by
  unfold lstOf at h
  split at h
  · next e => cases h; exact .inl (.inl e)
  · next e => cases h; exact .inl (.inr ⟨_, e⟩)
  · cases h
theorem tup_sq {K : PySem.W.Frag} {H : Hp} {a : Addr} {xs : List V} (h : tupOf (H a) = some xs) : SqT K H a xs := by
  unfold tupOf at h
  split at h
  · next e => cases h; exact .inl (.inl e)
  · next e => cases h; exact .inl (.inr ⟨_, e⟩)
  · cases h
theorem seq_sq {K : PySem.W.Frag} {H : Hp} {a : Addr} {xs : List V} (h : seqOf (H a) = some xs) : SqL K H a xs ∨ SqT K H a xs := by
  unfold seqOf at h
  split at h
  · next e => cases h; exact .inl (lst_sq e)
  · exact .inr (tup_sq h)
/-! names -/
def qVar (i : Nat) : TE := fun σ H Q => match σ[i]? with
  | some (some v) => Q v H
  | _ => False
/-! operators -/
def qAdd : R2 := fun x y H Q => match x, y with
  | .int i, .int j => Q (.int (i + j)) H
  | .str a, .str b => a.length + b.length ≤ sizeLine ∧ Q (.str (a ++ b)) H
  | .ref a, .ref b => match H a, H b with
    | some (.lst xs), some (.lst ys) => xs.length + ys.length ≤ sizeLine ∧ ∀ p, H p = none → Q (.ref p) (upd H p (.lst (xs ++ ys)))
    | some (.tup xs), some (.tup ys) => xs.length + ys.length ≤ sizeLine ∧ (xs = [] → Q (.ref b) H) ∧ (xs ≠ [] → ys = [] → Q (.ref a) H) ∧ (xs ≠ [] → ys ≠ [] → ∀ p, H p = none → Q (.ref p) (upd H p (.tup (xs ++ ys))))
    | _, _ => False
  | _, _ => False
def qSub : R2 := fun x y H Q => match x, y with
  | .int i, .int j => Q (.int (i - j)) H
  | _, _ => False
def qMul : R2 := fun x y H Q => match x, y with
  | .int i, .int j => ((-(2 ^ 64) < i ∧ i < 2 ^ 64) ∨ (-(2 ^ 64) < j ∧ j < 2 ^ 64)) ∧ Q (.int (i * j)) H
  | _, _ => False
def qMod : R2 := fun x y H Q => match x, y with
  | .int i, .int j => 0 < j ∧ Q (.int (i % j)) H
  | _, _ => False
def qDiv : R2 := fun x y H Q => match x, y with
  | .int i, .int j => (0 < j ∧ j < 1073741824) ∧ Q (.int (i / j)) H
  | _, _ => False
def qPow : R2 := fun x y H Q => match x, y with
  | .int i, .int j => (0 ≤ j ∧ j ≤ 1000000 ∧ i.natAbs < 2 ^ 64) ∧ Q (.int (i ^ j.toNat)) H
  | _, _ => False
def qCmpI (p : Int → Int → Bool) : R2 := fun x y H Q => match x, y with
  | .int i, .int j => Q (.bl (p i j)) H
  | _, _ => False
def qEq (K : PySem.W.Frag) (b : Bool) : R2 := fun x y H Q => match x, y with
  | .int i, .int j => Q (.bl (decide (i = j) == b)) H
  | .str i, .str j => Q (.bl (decide (i = j) == b)) H
  | .bl i, .bl j => Q (.bl (decide (i = j) == b)) H
  | .ref p, .ref q => ∃ d e, Dp K H (.ref p) d ∧ Dp K H (.ref q) e ∧ SeqAt.shaped d = true ∧ SeqAt.shaped e = true ∧ Q (.bl (PyData.eqv d e == b)) H
  | x, y => scal x y = true ∧ Q (.bl (decide (x = y) == b)) H
def qIsN (b : Bool) : R2 := fun x y H Q => match y with
  | .non => (match x with
    | .non => Q (.bl b) H
    | .int _ => Q (.bl (!b)) H
    | .str _ => Q (.bl (!b)) H
    | .bl _ => Q (.bl (!b)) H
    | .ref _ => Q (.bl (!b)) H
    | x => Q (.bl (decide (x = .non) == b)) H)
  | _ => False
/-- a text of one sign in a text -/
def qInS (b : Bool) : R2 := fun x y H Q => match x, y with
  | .str c, .str z => (match c.cps.toList with
    | [n] => Q (.bl (decide (n ∈ z.cps.toList) == b)) H
    | _ => False)
  | _, _ => False
/-- flat things in a list or tuple -/
def qInT (K : PySem.W.Frag) (b : Bool) : R2 := fun x y H Q => match y with
  | .ref p => (∃ xs, (SqL K H p xs ∨ SqT K H p xs) ∧ flatV x = true ∧ xs.all flatV = true ∧ Q (.bl (inV x xs == b)) H)
  | _ => False
/-- an item by its place -/
def qIx : R2 := fun x y H Q => match x, y with
  | .str z, .int i => (match atI z.cps.toList i with
    | some c => z.length ≤ sizeLine ∧ Q (.str ⟨#[c]⟩) H
    | none => False)
  | .ref a, .int i => (match seqOf (H a) with
    | some xs => (match atI xs i with
      | some v => Q v H
      | none => False)
    | none => False)
  | _, _ => False
section
variable {X : Cx} {pos : Pos} {a b e : Expr} {x : Str} {ta tb te : TE}
theorem xv (i : Nat) (hN : X.N[i]? = some x := by rfl) (hv : Vis X.env.scope x := by first | exact Or.inl rfl | exact Or.inr (Or.inl rfl) | exact Or.inr (Or.inr rfl)) (hd : (x == ("__debug__" : Str)) = false := by decide)
    (hcd : (x == ("__classdict__" : Str)) = false := by decide) : PE X (.Name x pos) (qVar i) := pe_imp (pe_var hN hv hd hcd) fun σ H Q h => by
  unfold qVar at h
  split at h
  · next v e => exact ⟨v, e, h⟩
  · exact h.elim
theorem yadd : OpR X (binaryOp .Add) qAdd := op_imp (OpR.or op_add (OpR.or op_add_str (OpR.or op_cat op_catA))) fun x y H Q h => by
  unfold qAdd at h
  split at h
  · exact .inl ⟨_, _, rfl, rfl, h⟩
  · exact .inr (.inl ⟨_, _, rfl, rfl, h⟩)
  · split at h
    · next e1 e2 => exact .inr (.inr (.inl ⟨_, _, _, _, rfl, rfl, e1, e2, h⟩))
    · next e1 e2 => exact .inr (.inr (.inr ⟨_, _, _, _, rfl, rfl, .inl (.inl e1), .inl (.inl e2), h⟩))
    · exact h.elim
  · exact h.elim
theorem ysub : OpR X (binaryOp .Sub) qSub := op_imp op_sub fun x y H Q h => by
  unfold qSub at h
  split at h
  · exact ⟨_, _, rfl, rfl, h⟩
  · exact h.elim
theorem ymul : OpR X (binaryOp .Mult) qMul := op_imp op_mul fun x y H Q h => by
  unfold qMul at h
  split at h
  · exact ⟨_, _, rfl, rfl, h⟩
  · exact h.elim
theorem ymod : OpR X (binaryOp .Mod) qMod := op_imp op_mod fun x y H Q h => by
  unfold qMod at h
  split at h
  · exact ⟨_, _, rfl, rfl, h⟩
  · exact h.elim
theorem ydiv : OpR X (binaryOp .FloorDiv) qDiv := op_imp op_fdiv fun x y H Q h => by
  unfold qDiv at h
  split at h
  · exact ⟨_, _, rfl, rfl, h⟩
  · exact h.elim
theorem ypow : OpR X (binaryOp .Pow) qPow := op_imp op_pow fun x y H Q h => by
  unfold qPow at h
  split at h
  · exact ⟨_, _, rfl, rfl, h⟩
  · exact h.elim
theorem ycmp {op : CmpOp} {p : Int → Int → Bool} (h0 : OpR X (compareOp op) (rI0 fun i j => .bl (p i j))) : OpR X (compareOp op) (qCmpI p) := op_imp h0 fun x y H Q h => by
  unfold qCmpI at h
  split at h
  · exact ⟨_, _, rfl, rfl, h⟩
  · exact h.elim
theorem ylt : OpR X (compareOp .Lt) (qCmpI fun i j => decide (i < j)) := ycmp op_lt
theorem yle : OpR X (compareOp .LtE) (qCmpI fun i j => decide (i ≤ j)) := ycmp op_le
theorem ygt : OpR X (compareOp .Gt) (qCmpI fun i j => decide (j < i)) := ycmp op_gt
theorem yge : OpR X (compareOp .GtE) (qCmpI fun i j => decide (j ≤ i)) := ycmp op_ge
theorem eqb_t (b : Bool) : (b == true) = b := by cases b <;> rfl
theorem eqb_f (b : Bool) : (b == false) = !b := by cases b <;> rfl
theorem vint_eq (i j : Int) : decide (V.int i = V.int j) = decide (i = j) := by simp only [V.int.injEq]
theorem vstr_eq (i j : Str) : decide (V.str i = V.str j) = decide (i = j) := by simp only [V.str.injEq]
theorem vbl_eq (i j : Bool) : decide (V.bl i = V.bl j) = decide (i = j) := by simp only [V.bl.injEq]
theorem yeq {K : PySem.W.Frag} (hu : X.A.units + 64 < cLine := by assumption) (hK : X.K = K := by rfl) : OpR X (compareOp .Eq) (qEq K true) := hK ▸ op_imp (OpR.or op_eq (op_eqD hu)) fun x y H Q h => by
  unfold qEq at h
  simp only [eqb_t] at h
  split at h
  · exact .inl ⟨rfl, by rw [vint_eq]; exact h⟩
  · exact .inl ⟨rfl, by rw [vstr_eq]; exact h⟩
  · exact .inl ⟨rfl, by rw [vbl_eq]; exact h⟩
  · obtain ⟨d, e, h1, h2, h3, h4, h5⟩ := h
    exact .inr ⟨d, e, h1, h2, h3, h4, h5⟩
  · exact .inl h
theorem yne {K : PySem.W.Frag} (hu : X.A.units + 64 < cLine := by assumption) (hK : X.K = K := by rfl) : OpR X (compareOp .NotEq) (qEq K false) := hK ▸ op_imp (OpR.or op_ne (op_neD hu)) fun x y H Q h => by
  unfold qEq at h
  simp only [eqb_f] at h
  split at h
  · exact .inl ⟨rfl, by rw [vint_eq]; exact h⟩
  · exact .inl ⟨rfl, by rw [vstr_eq]; exact h⟩
  · exact .inl ⟨rfl, by rw [vbl_eq]; exact h⟩
  · obtain ⟨d, e, h1, h2, h3, h4, h5⟩ := h
    exact .inr ⟨d, e, h1, h2, h3, h4, h5⟩
  · exact .inl h
theorem yis : OpR X (compareOp .Is) (qIsN true) := op_imp op_isN fun x y H Q h => by
  unfold qIsN at h
  split at h
  · refine ⟨rfl, ?_⟩
    split at h
    · exact h
    · exact h
    · exact h
    · exact h
    · exact h
    · simp only [eqb_t] at h; exact h
  · exact h.elim
theorem yisn : OpR X (compareOp .IsNot) (qIsN false) := op_imp op_notN fun x y H Q h => by
  unfold qIsN at h
  split at h
  · refine ⟨rfl, ?_⟩
    split at h
    · exact h
    · exact h
    · exact h
    · exact h
    · exact h
    · simp only [eqb_f] at h; exact h
  · exact h.elim
theorem str_of_list {c : Str} {l : List Nat} (e : c.cps.toList = l) : c = ⟨l.toArray⟩ := by
  cases c
  subst e
  rfl
theorem yins : OpR X (compareOp .In) (qInS true) := op_imp op_in_sign fun x y H Q h => by
  unfold qInS at h
  split at h
  · split at h
    · next c z n e =>
      simp only [eqb_t] at h
      exact ⟨n, _, congrArg V.str (str_of_list e), rfl, h⟩
    · exact h.elim
  · exact h.elim
theorem ynins : OpR X (compareOp .NotIn) (qInS false) := op_imp op_notIn_sign fun x y H Q h => by
  unfold qInS at h
  split at h
  · split at h
    · next c z n e =>
      simp only [eqb_f] at h
      exact ⟨n, _, congrArg V.str (str_of_list e), rfl, h⟩
    · exact h.elim
  · exact h.elim
theorem yint {K : PySem.W.Frag} (hK : X.K = K := by rfl) : OpR X (compareOp .In) (qInT K true) := hK ▸ op_imp op_in_seq fun x y H Q h => by
  unfold qInT at h
  split at h
  · obtain ⟨xs, h1, h2, h3, q⟩ := h
    refine ⟨_, xs, rfl, h1, h2, h3, ?_⟩
    simp only [eqb_t] at q
    exact q
  · exact h.elim
theorem ynint {K : PySem.W.Frag} (hK : X.K = K := by rfl) : OpR X (compareOp .NotIn) (qInT K false) := hK ▸ op_imp op_notIn_seq fun x y H Q h => by
  unfold qInT at h
  split at h
  · obtain ⟨xs, h1, h2, h3, q⟩ := h
    refine ⟨_, xs, rfl, h1, h2, h3, ?_⟩
    simp only [eqb_f] at q
    exact q
  · exact h.elim
theorem yix : IxR X qIx := ix_imp ix_seq fun x y H Q h => by
  unfold qIx at h
  split at h
  · split at h
    · next e => exact .inr (.inr ⟨_, _, _, rfl, rfl, h.1, e, h.2⟩)
    · exact h.elim
  · split at h
    · next xs e =>
      split at h
      · next v e2 =>
        rcases seq_sq (K := X.K) e with s | s
        · exact .inl ⟨_, xs, _, v, rfl, rfl, s, e2, h⟩
        · exact .inr (.inl ⟨_, xs, _, v, rfl, rfl, s, e2, h⟩)
      · exact h.elim
    · exact h.elim
  · exact h.elim
/-! tests -/
def asB (x : V) (F : Bool → Prop) : Prop := match x with
  | .bl k => F k
  | _ => False
def qT (t : TE) : TT := fun σ H Q => t σ H fun x H' => asB x fun k => Q k H'
theorem xt {op : CmpOp} {r : R2} (ho : OpR X (compareOp op) r) (ha : PE X a ta) (hb : PE X b tb) (hm : behindInMarks op b = false) : PT X (.Compare a [op] [b] pos) (qT (tOp r ta tb)) := by
  refine ⟨fun pins s σ H Q I h => ?_⟩
  refine wpAny_isTrue_Compare1 (thn (ha.run pins s σ H _ I h) fun v s1 ⟨x, H1, I1, r1, q1⟩ => thn (hb.run pins s1 σ H1 _ I1 q1) fun u s2 ⟨y, H2, I2, r2, q2⟩ =>
    thn (ho pins s2 σ H2 x y v u _ I2 r1 r2 q2) fun c s3 ⟨z, H3, I3, r3, q3⟩ => ?_) hm
  cases z with
  | bl k =>
    cases r3
    exact wpAny_truthy_bool ⟨H3, I3, q3⟩
  | _ => exact False.elim q3
theorem xtv (he : PE X e te) (ht : ∀ whole, isTrue e X.env whole = (do let v ← whole; standAt e.pos; holding [v] (truthy v)) := by intro _; rfl) : PT X e (qT te) := by
  refine ⟨fun pins s σ H Q I h => ?_⟩
  refine isTrue_plain (thn (he.run pins s σ H _ I h) fun v s1 ⟨x, H1, I1, r1, q1⟩ => ?_) (ht _)
  cases x with
  | bl k =>
    cases r1
    exact wpAny_truthy_bool ⟨H1, I1, q1⟩
  | _ => exact False.elim q1
end
end Fk
/-! ### Fk2: calls, fields, statements, loops as functions of slots and heap -/
namespace Fk
open PySem PySem.Spec PyProof.Rows L2
/-! built-in calls -/
def qLen : List V → Hp → VK → Prop := fun xs H Q => match xs with
  | [.str z] => z.length ≤ sizeLine ∧ Q (.int z.length) H
  | [.ref p] => (match seqOf (H p) with
    | some ys => Q (.int ys.length) H
    | none => False)
  | _ => False
def qAbs : List V → Hp → VK → Prop := fun xs H Q => match xs with
  | [.int i] => Q (.int (if i < 0 then -i else i)) H
  | _ => False
def qMax2 : List V → Hp → VK → Prop := fun xs H Q => match xs with
  | [.int i, .int j] => Q (.int (if j > i then j else i)) H
  | _ => False
def qMin2 : List V → Hp → VK → Prop := fun xs H Q => match xs with
  | [.int i, .int j] => Q (.int (if j < i then j else i)) H
  | _ => False
def qInt : List V → Hp → VK → Prop := fun xs H Q => match xs with
  | [.int i] => Q (.int i) H
  | [.bl k] => Q (.int (if k then 1 else 0)) H
  | [.str a] => (match PySem.intText? a with
    | some n => a.length ≤ 640 ∧ Q (.int n) H
    | none => False)
  | _ => False
def qStrC : List V → Hp → VK → Prop := fun xs H Q => match xs with
  | [.int i] => i.natAbs.log2 < 1920 ∧ Q (.str (toString i)) H
  | [.str a] => Q (.str a) H
  | _ => False
def qList : List V → Hp → VK → Prop := fun xs H Q => match xs with
  | [.ref p] => (match seqOf (H p) with
    | some ys => ∀ l, H l = none → Q (.ref l) (upd H l (.lst ys))
    | none => False)
  | _ => False
def tupleAs (o : Option HO) (F : List V → Prop) (G : Prop) : Prop := match lstOf o with
  | some ys => F ys
  | none => (match tupOf o with
    | some _ => G
    | none => False)
def qTuple : List V → Hp → VK → Prop := fun xs H Q => match xs with
  | [.ref p] => tupleAs (H p) (fun ys => ∀ l, H l = none → Q (.ref l) (upd H l (.tup ys))) (Q (.ref p) H)
  | _ => False
def qDivmod : List V → Hp → VK → Prop := fun xs H Q => match xs with
  | [.int i, .int j] => (0 < j ∧ j < 1073741824) ∧ ∀ p, H p = none → Q (.ref p) (upd H p (.tup [.int (i / j), .int (i % j)]))
  | _ => False
def blsOf : List V → Option (List Bool)
  | [] => some []
  | .bl b :: r => (blsOf r).map (b :: ·)
  | _ :: _ => none
theorem blsOf_eq : ∀ {xs : List V} {bs : List Bool}, blsOf xs = some bs → xs = bs.map V.bl
  | [], bs, h => by cases h; rfl
  | x :: r, bs, h => by
    cases x with
    | bl b =>
      have h' : (blsOf r).map (b :: ·) = some bs := h
      cases e : blsOf r with
      | none => rw [e] at h'; cases h'
      | some cs =>
        rw [e] at h'
        cases h'
        rw [List.map_cons, ← blsOf_eq e]
    | _ => exact absurd h (by intro z; cases z)
theorem blsOf_map : ∀ bs : List Bool, blsOf (bs.map V.bl) = some bs
  | [] => rfl
  | b :: r => by
    show (blsOf (r.map V.bl)).map (b :: ·) = _
    rw [blsOf_map r]
    rfl
def qAll : List V → Hp → VK → Prop := fun xs H Q => match xs with
  | [.ref p] => (match lstOf (H p) with
    | some ys => (match blsOf ys with
      | some bs => Q (.bl (bs.all id)) H
      | none => False)
    | none => False)
  | _ => False
def qAny : List V → Hp → VK → Prop := fun xs H Q => match xs with
  | [.ref p] => (match lstOf (H p) with
    | some ys => (match blsOf ys with
      | some bs => Q (.bl (bs.any id)) H
      | none => False)
    | none => False)
  | _ => False
section
variable {X : Cx} {pos apos cpos : Pos} {a b e o : Expr} {es : List Expr} {x m f : Str} {ta tb te to tv : TE} {t : TA} {C : Addr}
theorem ylen : CallR X (.builtin "len") qLen := ca_imp (CallR.or call_len_str call_len_seq) fun xs H Q h => by
  unfold qLen at h
  split at h
  · exact .inl ⟨_, rfl, h⟩
  · split at h
    · next e => exact .inr ⟨_, _, rfl, seq_sq e, h⟩
    · exact h.elim
  · exact h.elim
theorem yabs : CallR X (.builtin "abs") qAbs := ca_imp call_abs fun xs H Q h => by
  unfold qAbs at h
  split at h
  · exact ⟨_, rfl, h⟩
  · exact h.elim
theorem ymax (hc : X.calm = true := by rfl) : CallR X (.builtin "max") qMax2 := ca_imp (call_max2 hc) fun xs H Q h => by
  unfold qMax2 at h
  split at h
  · exact ⟨_, _, rfl, h⟩
  · exact h.elim
theorem ymin (hc : X.calm = true := by rfl) : CallR X (.builtin "min") qMin2 := ca_imp (call_min2 hc) fun xs H Q h => by
  unfold qMin2 at h
  split at h
  · exact ⟨_, _, rfl, h⟩
  · exact h.elim
theorem yintc : CallR X (.type "int") qInt := ca_imp (CallR.or call_int1 call_int_str) fun xs H Q h => by
  unfold qInt at h
  split at h
  · exact .inl (.inl ⟨_, rfl, h⟩)
  · exact .inl (.inr ⟨_, rfl, h⟩)
  · split at h
    · next e => exact .inr ⟨_, _, rfl, e, h⟩
    · exact h.elim
  · exact h.elim
theorem ystrc : CallR X (.type "str") qStrC := ca_imp (CallR.or call_str_int SkE.call_str_str) fun xs H Q h => by
  unfold qStrC at h
  split at h
  · exact .inl ⟨_, rfl, h⟩
  · exact .inr ⟨_, rfl, h⟩
  · exact h.elim
theorem ylist : CallR X (.type "list") qList := ca_imp call_list_of fun xs H Q h => by
  unfold qList at h
  split at h
  · split at h
    · next e => exact ⟨_, _, rfl, seq_sq e, h⟩
    · exact h.elim
  · exact h.elim
theorem ytuple : CallR X (.type "tuple") qTuple := ca_imp call_tuple_of fun xs H Q h => by
  unfold qTuple at h
  split at h
  · unfold tupleAs at h
    split at h
    · next e => exact ⟨_, _, rfl, .inl ⟨lst_sq e, h⟩⟩
    · split at h
      · next e => exact ⟨_, _, rfl, .inr ⟨tup_sq e, h⟩⟩
      · exact h.elim
  · exact h.elim
theorem ydivmod : CallR X (.builtin "divmod") qDivmod := ca_imp call_divmod fun xs H Q h => by
  unfold qDivmod at h
  split at h
  · exact ⟨_, _, rfl, h.1, h.2⟩
  · exact h.elim
theorem yall (hc : X.calm = true := by rfl) : CallR X (.builtin "all") qAll := ca_imp (cr_all hc) fun xs H Q h => by
  unfold qAll at h
  split at h
  · split at h
    · next e =>
      split at h
      · next e2 =>
        have e3 := blsOf_eq e2
        subst e3
        exact ⟨_, _, rfl, lst_sq e, h⟩
      · exact h.elim
    · exact h.elim
  · exact h.elim
theorem yany (hc : X.calm = true := by rfl) : CallR X (.builtin "any") qAny := ca_imp (cr_any hc) fun xs H Q h => by
  unfold qAny at h
  split at h
  · split at h
    · next e =>
      split at h
      · next e2 =>
        have e3 := blsOf_eq e2
        subst e3
        exact ⟨_, _, rfl, lst_sq e, h⟩
      · exact h.elim
    · exact h.elim
  · exact h.elim
/-! methods of lists -/
def isLst : Option HO → Bool
  | some (.lst _) => true
  | _ => false
def qApp (to te : TE) : TE := fun σ H Q => to σ H fun x H1 => match x with
  | .ref l => isLst (H1 l) = true ∧ te σ H1 fun y H2 => (match H2 l with
    | some (.lst xs) => xs.length < sizeLine ∧ Q .non (upd H2 l (.lst (xs ++ [y])))
    | _ => False)
  | _ => False
def qExt (to te : TE) : TE := fun σ H Q => to σ H fun x H1 => match x with
  | .ref l => isLst (H1 l) = true ∧ te σ H1 fun y H2 => (match y with
    | .ref b => (match H2 l, H2 b with
      | some (.lst xs), some (.lst ys) => xs.length + ys.length ≤ sizeLine ∧ Q .non (upd H2 l (.lst (xs ++ ys)))
      | _, _ => False)
    | _ => False)
  | _ => False
def qPop (to : TE) : TE := fun σ H Q => to σ H fun x H1 => match x with
  | .ref l => (match H1 l with
    | some (.lst xs) => (match xs[xs.length - 1]? with
      | some y => Q y (upd H1 l (.lst xs.dropLast))
      | none => False)
    | _ => False)
  | _ => False
theorem isLst_ex {o : Option HO} (h : isLst o = true) : ∃ xs, o = some (.lst xs) := by
  unfold isLst at h
  split at h
  · exact ⟨_, rfl⟩
  · cases h
/-- a reading closed upward -/
def up (t : TE) : TE := fun σ H Q => ∃ Q0 : VK, t σ H Q0 ∧ ∀ v H', Q0 v H' → Q v H'
def upA (t : TA) : TA := fun σ H Q => ∃ Q0 : List V → Hp → Prop, t σ H Q0 ∧ ∀ v H', Q0 v H' → Q v H'
def upT (t : TT) : TT := fun σ H Q => ∃ Q0 : Bool → Hp → Prop, t σ H Q0 ∧ ∀ v H', Q0 v H' → Q v H'
theorem pe_up (h : PE X e te) : PE X e (up te) := ⟨fun pins s σ H Q I q => by
  obtain ⟨Q0, q0, q1⟩ := q
  exact thn (h.run pins s σ H Q0 I q0) fun u s' ⟨v, H', I', r, z⟩ => ⟨v, H', I', r, q1 v H' z⟩⟩
theorem pa_up (h : PA X es t) : PA X es (upA t) := ⟨fun pos pins s σ H Q I q => by
  obtain ⟨Q0, q0, q1⟩ := q
  exact thn (h.run pos pins s σ H Q0 I q0) fun u s' ⟨v, H', I', r, z⟩ => ⟨v, H', I', r, q1 v H' z⟩⟩
theorem pt_up {tt : TT} (h : PT X e tt) : PT X e (upT tt) := ⟨fun pins s σ H Q I q => by
  obtain ⟨Q0, q0, q1⟩ := q
  exact thn (h.run pins s σ H Q0 I q0) fun u s' ⟨H', I', z⟩ => ⟨H', I', q1 u H' z⟩⟩
theorem up_of {σ : L2.St} {H : Hp} {Q Q0 : VK} (h : te σ H Q0) (i : ∀ v H', Q0 v H' → Q v H') : up te σ H Q := ⟨Q0, h, i⟩
theorem xapp (ho : PE X o to) (he : PE X e te) (hbase : attributeBase o "append" X.env (eval o X.env) = eval o X.env := by rfl)
    (hfew : ((backTo cpos (starEach [e] X.env)).all (fun x => !x.1) && (backToKw cpos (keywordEach [] X.env)).all (fun x => x.1.isSome)
      && decide (([e] : List Expr).length + ([] : List Keyword).length + (if ([] : List Keyword).isEmpty then 0 else 1) < 30)) = true := by rfl)
    (hline : (apos.endLine == cpos.line) = true := by rfl) (hs : starEach [e] X.env = (false, eval e X.env) :: starEach [] X.env := by rfl) (hplain : (backTo cpos (starEach [] X.env)).any (·.1) = false := by rfl) :
    PE X (.Call (.Attribute o "append" apos) [e] [] cpos) (qApp to te) :=
  pe_imp (pe_bm PySem.F.plainAttrs_list PySem.F.slot_list_append PySem.F.type_list_append mt_append (pe_up ho) (pa_cons (pe_up he) pa_nil hs) hbase hfew hline hs hplain) fun σ H Q h => by
    refine up_of h fun x H1 q => ?_
    split at q
    · obtain ⟨q1, q2⟩ := q
      obtain ⟨ys, hy⟩ := isLst_ex q1
      refine ⟨.inl ⟨rfl, ys, .inl (.inl hy)⟩, up_of q2 fun y H2 z => ?_⟩
      split at z
      · next e2 => exact ⟨_, _, y, rfl, rfl, e2, z.1, z.2⟩
      · exact z.elim
    · exact q.elim
theorem xext (ho : PE X o to) (he : PE X e te) (hbase : attributeBase o "extend" X.env (eval o X.env) = eval o X.env := by rfl)
    (hfew : ((backTo cpos (starEach [e] X.env)).all (fun x => !x.1) && (backToKw cpos (keywordEach [] X.env)).all (fun x => x.1.isSome)
      && decide (([e] : List Expr).length + ([] : List Keyword).length + (if ([] : List Keyword).isEmpty then 0 else 1) < 30)) = true := by rfl)
    (hline : (apos.endLine == cpos.line) = true := by rfl) (hs : starEach [e] X.env = (false, eval e X.env) :: starEach [] X.env := by rfl) (hplain : (backTo cpos (starEach [] X.env)).any (·.1) = false := by rfl) :
    PE X (.Call (.Attribute o "extend" apos) [e] [] cpos) (qExt to te) :=
  pe_imp (pe_bm PySem.F.plainAttrs_list PySem.F.slot_list_extend PySem.F.type_list_extend mt_extend (pe_up ho) (pa_cons (pe_up he) pa_nil hs) hbase hfew hline hs hplain) fun σ H Q h => by
    refine up_of h fun x H1 q => ?_
    split at q
    · obtain ⟨q1, q2⟩ := q
      obtain ⟨ys, hy⟩ := isLst_ex q1
      refine ⟨.inl ⟨rfl, ys, .inl (.inl hy)⟩, up_of q2 fun y H2 z => ?_⟩
      split at z
      · split at z
        · next e2 e3 => exact ⟨_, _, _, _, rfl, rfl, e2, e3, z.1, z.2⟩
        · exact z.elim
      · exact z.elim
    · exact q.elim
theorem xpop (ho : PE X o to) (hbase : attributeBase o "pop" X.env (eval o X.env) = eval o X.env := by rfl) (hline : (apos.endLine == cpos.line) = true := by rfl) :
    PE X (.Call (.Attribute o "pop" apos) [] [] cpos) (qPop to) :=
  pe_imp (pe_bm0 PySem.F.plainAttrs_list PySem.F.slot_list_pop PySem.F.type_list_pop mt_pop (pe_up ho) hbase hline) fun σ H Q h => by
    refine up_of h fun x H1 q => ?_
    split at q
    · split at q
      · next e1 =>
        split at q
        · next e2 => exact ⟨.inl ⟨rfl, _, .inl (.inl e1)⟩, _, _, _, rfl, rfl, e1, e2, q⟩
        · exact q.elim
      · exact q.elim
    · exact q.elim
/-! fields -/
def qFld (C : Addr) (f : Str) (to : TE) : TE := fun σ H Q => to σ H fun x H1 => match x with
  | .ref a => (match H1 a with
    | some (.ins C' _ fs) => C' = C ∧ (match fs.lookup f with
      | some v => Q v H1
      | none => False)
    | _ => False)
  | _ => False
def qSetF (C : Addr) (f : Str) (to tv : TE) : TS := fun D σ H => tv σ H fun y H1 => to σ H1 fun x H2 => match x with
  | .ref a => (match H2 a with
    | some (.ins C' dx fs) => C' = C ∧ fs.length < 1000 ∧ D.nx σ (upd H2 a (.ins C dx (putF f y fs)))
    | _ => False)
  | _ => False
def qAugF (C : Addr) (f : Str) (to tv : TE) (r : R2) : TS := fun D σ H => to σ H fun x H1 => match x with
  | .ref a => (match H1 a with
    | some (.ins C' _ fs) => C' = C ∧ (match fs.lookup f with
      | some v => tv σ H1 fun y H2 => r v y H2 fun z H3 => (match H3 a with
        | some (.ins C'' dx' fs') => C'' = C ∧ fs'.length < 1000 ∧ D.nx σ (upd H3 a (.ins C dx' (putF f z fs')))
        | _ => False)
      | none => False)
    | _ => False)
  | _ => False
theorem xfld (c : Cls X.K C) (n : NoAttr X.K C f) (ho : PE X o to) (hb : attributeBase o f X.env (eval o X.env) = eval o X.env := by rfl) : PE X (.Attribute o f pos) (qFld C f to) :=
  pe_imp (pe_fld (pe_up ho) hb) fun σ H Q h => up_of h fun x H1 q => by
    split at q
    · split at q
      · next e1 =>
        obtain ⟨rfl, q⟩ := q
        split at q
        · next e2 => exact ⟨_, _, _, _, _, rfl, e1, c, n, e2, q⟩
        · exact q.elim
      · exact q.elim
    · exact q.elim
theorem xsetf {value : Expr} {pos' : Pos} (c : Cls X.K C) (n : NoAttr X.K C f) (ho : PE X o to) (hv : PE X value tv) (hs : swapsWith value (some (.Attribute o f pos')) pos.line X.env = pure false := by rfl) : PS X (.Assign [.Attribute o f pos'] value pos) (qSetF C f to tv) :=
  ps_imp (ps_fld (pe_up ho) (pe_up hv) hs) fun D σ H h => up_of h fun y H1 q => up_of q fun x H2 q => by
    split at q
    · split at q
      · next e1 =>
        obtain ⟨rfl, l, q⟩ := q
        exact ⟨_, _, _, _, rfl, e1, c, n, l, q⟩
      · exact q.elim
    · exact q.elim
/-- an operator's reading closed upward -/
def upR (r : R2) : R2 := fun x y H Q => ∃ Q0 : VK, r x y H Q0 ∧ ∀ v H', Q0 v H' → Q v H'
theorem in_up {op : Operator} {r : R2} (h : OpR X (inplaceOp op) r) : InOp X op (upR r) := fun pins s σ H x y u v Q I rx ry q => by
  obtain ⟨Q0, q0, q1⟩ := q
  exact thn (h pins s σ H x y u v Q0 I rx ry q0) fun u s' ⟨v, H', I', r, z⟩ => ⟨v, H', I', r, q1 v H' z⟩
theorem xaugf {value : Expr} {tpos : Pos} {op : Operator} {r : R2} (c : Cls X.K C) (n : NoAttr X.K C f) (ho : PE X o to) (hv : PE X value tv) (hop : OpR X (inplaceOp op) r) : PS X (.AugAssign (.Attribute o f tpos) op value pos) (qAugF C f to tv r) :=
  ps_imp (ps_fldaug (pe_up ho) (pe_up hv) (in_up hop)) fun D σ H h => up_of h fun x H1 q => by
    split at q
    · split at q
      · next e1 =>
        obtain ⟨rfl, q⟩ := q
        split at q
        · next e2 =>
          refine ⟨_, _, _, _, _, rfl, e1, c, n, e2, up_of q fun y H2 q2 => ⟨_, q2, fun z H3 q3 => ?_⟩⟩
          split at q3
          · next e3 =>
            obtain ⟨rfl, l, q3⟩ := q3
            exact ⟨_, _, e3, l, q3⟩
          · exact q3.elim
        · exact q.elim
      · exact q.elim
    · exact q.elim
/-! in-place operators on names -/
def qIAdd : R2 := fun x y H Q => match x, y with
  | .int i, .int j => Q (.int (i + j)) H
  | .str a, .str b => a.length + b.length ≤ sizeLine ∧ Q (.str (a ++ b)) H
  | _, _ => False
def qAug (i : Nat) (te : TE) (r : R2) : TS := fun D σ H => match σ[i]? with
  | some (some x) => te σ H fun y H1 => r x y H1 fun z H2 => D.nx (σ.set i (some z)) H2
  | _ => False
theorem yiadd : OpR X (inplaceOp .Add) qIAdd := op_imp (OpR.or iop_add iop_add_str) fun x y H Q h => by
  unfold qIAdd at h
  split at h
  · exact .inl ⟨_, _, rfl, rfl, h⟩
  · exact .inr ⟨_, _, rfl, rfl, h⟩
  · exact h.elim
theorem yisub : OpR X (inplaceOp .Sub) qSub := op_imp iop_sub fun x y H Q h => by
  unfold qSub at h
  split at h
  · exact ⟨_, _, rfl, rfl, h⟩
  · exact h.elim
theorem xaug {i : Nat} {op : Operator} {r : R2} {pos' : Pos} (hN : X.N.Nodup) (hi : X.N[i]? = some x) (hx : Loc X.env.scope x) (he : PE X e te) (ho : OpR X (inplaceOp op) r) (hf : X.fn x = true ∨ X.env.scope.names.lookup x = some .local := by first | exact .inl rfl | exact .inr rfl | assumption) :
    PS X (.AugAssign (.Name x pos') op e pos) (qAug i te r) := ps_imp (ps_aug hN hi hx he ho hf) fun D σ H h => by
  unfold qAug at h
  split at h
  · next e1 => exact ⟨_, e1, h⟩
  · exact h.elim
/-! targets -/
theorem pg_imp {tg : Expr} {t t' : TG} (h : PG X tg t) (hi : ∀ v σ H Q, t' v σ H Q → t v σ H Q) : PG X tg t' := ⟨fun pins s σ H v u Q I r q => h.run pins s σ H v u Q I r (hi _ _ _ _ q)⟩
theorem pgs_imp {tg : List Expr} {t t' : TGs} (h : PGs X tg t) (hi : ∀ v σ H Q, t' v σ H Q → t v σ H Q) : PGs X tg t' := ⟨fun pins s σ H v u Q I r q => h.run pins s σ H v u Q I r (hi _ _ _ _ q)⟩
def qgTup (n : Nat) (t : TGs) : TG := fun v σ H Q => match v with
  | .ref a => (match tupOf (H a) with
    | some xs => xs.length = n ∧ t xs σ H Q
    | none => False)
  | _ => False
def qgCons (t : TG) (u : TGs) : TGs := fun vs σ H Q => match vs with
  | v :: r => t v σ H fun σ' H' => u r σ' H' Q
  | [] => False
def qgNil : TGs := fun vs σ H Q => match vs with
  | [] => Q σ H
  | _ => False
theorem xgnil : PGs X [] qgNil := pgs_imp pgs_nil fun v σ H Q h => by
  unfold qgNil at h
  split at h
  · exact ⟨rfl, h⟩
  · exact h.elim
theorem xgcons {tg : Expr} {ts : List Expr} {g : TG} {u : TGs} (h1 : PG X tg g) (h2 : PGs X ts u) (hs : (assignEach (tg :: ts) X.env).map (·.2) = assign tg X.env :: (assignEach ts X.env).map (·.2) := by rfl) : PGs X (tg :: ts) (qgCons g u) := pgs_imp (pgs_cons h1 h2 hs) fun v σ H Q h => by
  unfold qgCons at h
  split at h
  · exact ⟨_, _, rfl, h⟩
  · exact h.elim
theorem xgtup {ts : List Expr} {k : Nat} {u : TGs} {n : Nat} (h : PGs X ts u) (hc : X.calm = true := by rfl) (hn : (assignEach ts X.env).length = n := by rfl) (hst : (assignEach ts X.env).findIdx? (·.1) = none := by rfl) : PG X (.Tuple ts k pos) (qgTup n u) :=
  pg_imp (pg_tup hc h hn hst) fun v σ H Q q => by
    unfold qgTup at q
    split at q
    · split at q
      · next e => exact ⟨_, _, rfl, tup_sq e, q.1, q.2⟩
      · exact q.elim
    · exact q.elim
def qSetL : TSet := fun o i v H Q => match o, i with
  | .ref p, .int k => (match H p with
    | some (.lst xs) => (match ixN xs.length k with
      | some j => Q (upd H p (.lst (xs.set j v)))
      | none => False)
    | _ => False)
  | _, _ => False
theorem ysetl : PSet X qSetL := fun pins s σ H o i v ov iv u Q I ro ri rv h => set_list pins s σ H o i v ov iv u Q I ro ri rv (by
  unfold qSetL at h
  split at h
  · split at h
    · next e =>
      split at h
      · next e2 => exact ⟨_, _, _, _, rfl, rfl, e, e2, h⟩
      · exact h.elim
    · exact h.elim
  · exact h.elim)
/-! a, b = x, y and a, b, c = x, y, z with plain local names -/
def qPar (i j : Nat) (ta : TA) : TS := fun D σ H => ta σ H fun vs H1 => match vs with
  | [v, w] => D.nx ((σ.set i (some v)).set j (some w)) H1
  | _ => False
def qPar3 (i j l : Nat) (ta : TA) : TS := fun D σ H => ta σ H fun vs H1 => match vs with
  | [u, v, w] => D.nx (((σ.set i (some u)).set j (some v)).set l (some w)) H1
  | _ => False
theorem xpar {i j : Nat} {x y : Str} {a b : Expr} {ta : TA} {px py pt : Pos} {kt k2 pt2} (hN : X.N.Nodup) (hi : X.N[i]? = some x) (hj : X.N[j]? = some y) (hij : i ≠ j)
    (hx : X.env.scope.names.lookup x = some .local) (hy : X.env.scope.names.lookup y = some .local) (ha : PA X [a, b] ta)
    (hw : swappedStores [.Tuple [.Name x px, .Name y py] kt pt] (.Tuple [a, b] k2 pt2) X.env = pure (some [x, y]))
    (hs : swapsWithSole [.Tuple [.Name x px, .Name y py] kt pt] (.Tuple [a, b] k2 pt2) pos.line X.env = pure false := by rfl) (hc : X.calm = true := by rfl) :
    PS X (.Assign [.Tuple [.Name x px, .Name y py] kt pt] (.Tuple [a, b] k2 pt2) pos) (qPar i j ta) :=
  ps_imp (ps_par hc hN hi hj hij hx hy (pa_up ha) hw hs) fun D σ H h => ⟨_, h, fun vs H1 q => by
    split at q
    · exact ⟨_, _, rfl, q⟩
    · exact q.elim⟩
theorem xpar3 {i j l : Nat} {x y z : Str} {a b c : Expr} {ta : TA} {px py pz pt : Pos} {kt k2 pt2} (hN : X.N.Nodup) (hi : X.N[i]? = some x) (hj : X.N[j]? = some y) (hl : X.N[l]? = some z) (hij : i ≠ j) (hil : i ≠ l) (hjl : j ≠ l)
    (hx : X.env.scope.names.lookup x = some .local) (hy : X.env.scope.names.lookup y = some .local) (hz : X.env.scope.names.lookup z = some .local) (ha : PA X [a, b, c] ta)
    (hw : swappedStores [.Tuple [.Name x px, .Name y py, .Name z pz] kt pt] (.Tuple [a, b, c] k2 pt2) X.env = pure (some [x, y, z]))
    (hs : swapsWithSole [.Tuple [.Name x px, .Name y py, .Name z pz] kt pt] (.Tuple [a, b, c] k2 pt2) pos.line X.env = pure false := by rfl) (hc : X.calm = true := by rfl) :
    PS X (.Assign [.Tuple [.Name x px, .Name y py, .Name z pz] kt pt] (.Tuple [a, b, c] k2 pt2) pos) (qPar3 i j l ta) :=
  ps_imp (ps_par3 hc hN hi hj hl hij hil hjl hx hy hz (pa_up ha) hw hs) fun D σ H h => ⟨_, h, fun vs H1 q => by
    split at q
    · exact ⟨_, _, _, rfl, q⟩
    · exact q.elim⟩
/-! slices -/
def qSl (K : PySem.W.Frag) : V → Option Int → Option Int → Hp → VK → Prop := fun x lo hi H Q => match x with
  | .str z => z.length ≤ sizeLine ∧ Q (.str (cutS z lo hi)) H
  | .ref a => (∃ xs, SqL K H a xs ∧ ∀ p, H p = none → Q (.ref p) (upd H p (.lst (cutV xs lo hi)))) ∨
      (∃ xs, SqT K H a xs ∧ (HT.sIx xs.length 0 lo = 0 ∧ HT.sIx xs.length xs.length hi = xs.length → Q (.ref a) H) ∧ (¬ (HT.sIx xs.length 0 lo = 0 ∧ HT.sIx xs.length xs.length hi = xs.length) → ∀ p, H p = none → Q (.ref p) (upd H p (.tup (cutV xs lo hi)))))
  | _ => False
theorem ysl {K : PySem.W.Frag} (hK : X.K = K := by rfl) : SlR X (qSl K) := hK ▸ sl_imp (SlR.or sl_str (SlR.or sl_list sl_tupA)) fun x lo hi H Q h => by
  unfold qSl at h
  split at h
  · exact .inl ⟨_, rfl, h⟩
  · rcases h with ⟨xs, h1, h2⟩ | ⟨xs, h1, h2, h3⟩
    · exact .inr (.inl ⟨_, xs, rfl, h1, h2⟩)
    · exact .inr (.inr ⟨_, xs, rfl, h1, h2, h3⟩)
  · exact h.elim
end
end Fk
/-! ### Fk3: what is walked, loops, comprehensions -/
namespace Fk
open PySem L2
/-- what a turn is given: a value, or a new pair -/
inductive Yd where
  | one (v : V)
  | two (x y : V)
def yv : Yd → (V → Hp → Prop) → Hp → Prop
  | .one v, k, H => k v H
  | .two x y, k, H => ∀ T, H T = none → k (.ref T) (upd H T (.tup [x, y]))
abbrev TW := St → Hp → (List Yd → (Hp → Prop) → Hp → Prop) → Prop
/-- a loop over ys, while keep stays true: the word P speaks of what is left -/
def Loop (ys : List Yd) (keep : Hp → Prop) (g : TG) (tb : TS) (D : Ends) (σ : St) (H : Hp) : Prop :=
  ∃ (α : Type) (f : α → Yd) (as : List α) (P : List α → St → Hp → Prop), ys = as.map f ∧ P as σ H ∧ (∀ r σ H, P r σ H → keep H) ∧
    (∀ y r σ H, P (y :: r) σ H → yv (f y) (fun x H1 => g x σ H1 fun σ2 H2 => tb { D with nx := P r, ct := P r, bk := D.nx } σ2 H2) H) ∧ ∀ σ H, P [] σ H → D.nx σ H
def qFor (w : TW) (g : TG) (tb : TS) : TS := fun D σ H => w σ H fun ys keep H1 => Loop ys keep g tb D σ H1
/-- a comprehension over ys: acc is what is made so far, in the list at D -/
def LoopC (ys : List Yd) (keep : Hp → Prop) (g : TG) (tt : TT) (te : TE) (vs : List Nat) (σ : St) (D : Addr) (H : Hp) (Q : Hp → Prop) : Prop :=
  ∃ (α : Type) (f : α → Yd) (as : List α) (P : List α → Hp → Prop), ys = as.map f ∧ P as (upd H D (.lst [])) ∧ (∀ r H, P r H → keep H) ∧
    (∀ y r H, P (y :: r) H → yv (f y) (fun x H1 => g x (wipe σ vs) H1 fun σ2 H2 => wipe σ2 vs = wipe σ vs ∧ tt σ2 H2 fun b H3 =>
      if b = true then te σ2 H3 fun z H4 => (match H4 D with
        | some (.lst acc) => acc.length < sizeLine ∧ P r (upd H4 D (.lst (acc ++ [z])))
        | _ => False) else P r H3) H) ∧ ∀ H, P [] H → Q H
def qLc (w : TW) (g : TG) (tt : TT) (te : TE) (vs : List Nat) : TE := fun σ H Q => w σ H fun ys keep H1 => ∀ D, H1 D = none → LoopC ys keep g tt te vs σ D H1 fun H' => Q (.ref D) H'
section
variable {X : Cx}
/-- how a walk gives its things -/
structure Gives (J : It) (ys : List Yd) (G : Hp → Prop) : Prop where
  ex : ∃ Y : Nat → Hp → V → Hp → Prop, Walk J ys.length G Y ∧ ∀ (i : Nat) (y : Yd) (H : Hp) (x : V) (H' : Hp) (k : V → Hp → Prop), ys[i]? = some y → Y i H x H' → yv y k H → k x H'
structure PIW (X : Cx) (tg iter : Expr) (w : TW) : Prop where
  ex : ∃ wi : TI, PI X tg iter wi ∧ ∀ (σ : St) (H : Hp) (R : List Yd → (Hp → Prop) → Hp → Prop) (R' : It → Hp → Prop), w σ H R → (∀ J ys G H1, Gives J ys G → R ys G H1 → R' J H1) → wi σ H R'
theorem drop_one {α : Type} {l : List α} {i : Nat} (h : i < l.length) : ∃ y, l[i]? = some y ∧ l.drop i = y :: l.drop (i + 1) :=
  ⟨l[i], by simp [h], List.drop_eq_getElem_cons h⟩
theorem xfor {tg iter : Expr} {body : List Stmt} {w : TW} {g : TG} {tb : TS} {pos : Pos} (hp : PassesOwn (model X.prog X.w) X.A X.env X.xe) (hi : PIW X tg iter w) (hg : PG X tg g) (hb : PSs X body tb)
    (hc : X.calm = true := by rfl) (hs : ∀ x, foldedSetIterable iter X.env x = pure x := by intro _; rfl) : PS X (.For tg iter body [] pos) (qFor w g tb) := by
  obtain ⟨wi, h1, h2⟩ := hi.ex
  refine ps_imp (ps_for hp hc h1 hg hb hs) fun D σ H h => h2 σ H _ _ h fun J ys G H1 gv lp => ?_
  obtain ⟨Y, wk, gy⟩ := gv.ex
  obtain ⟨α, f, as, P, rfl, p0, pk, ps, pd⟩ := lp
  rw [List.length_map] at wk
  refine for_it wk (fun i σ H => P (as.drop i) σ H) (by rw [List.drop_zero]; exact p0) (fun i σ H _ p => pk _ _ _ p) (fun i x σ H H' hi p y => ?_) (fun σ H p => pd σ H (by rw [List.drop_length] at p; exact p))
  obtain ⟨z, hz, hd⟩ := drop_one hi
  rw [hd] at p
  exact gy i (f z) H x H' _ (by rw [List.getElem?_map, hz]; rfl) y (ps z _ σ H p)
/-! readings closed upward, of targets and tests -/
def upG (t : TG) : TG := fun v σ H Q => ∃ Q0 : St → Hp → Prop, t v σ H Q0 ∧ ∀ σ' H', Q0 σ' H' → Q σ' H'
theorem pg_up {tg : Expr} {t : TG} (h : PG X tg t) : PG X tg (upG t) := ⟨fun pins s σ H v u Q I r q => by
  obtain ⟨Q0, q0, q1⟩ := q
  exact thn (h.run pins s σ H v u Q0 I r q0) fun u s' ⟨σ', H', I', z⟩ => ⟨σ', H', I', q1 σ' H' z⟩⟩
theorem pts_up {es : List Expr} {t : TT} (h : PTs X es t) : PTs X es (upT t) := ⟨fun pins s σ H Q I q => by
  obtain ⟨Q0, q0, q1⟩ := q
  exact thn (h.run pins s σ H Q0 I q0) fun u s' ⟨H', I', z⟩ => ⟨H', I', q1 u H' z⟩⟩
theorem lc_conv {J : It} {ys : List Yd} {G : Hp → Prop} {g : TG} {tt : TT} {te : TE} {vs : List Nat} {σ : St} {D : Addr} {H1 : Hp} {Q : Hp → Prop} (gv : Gives J ys G) (lp : LoopC ys G g tt te vs σ D H1 Q) :
    ∃ W : Nat → Nat → Hp → Prop, (∃ m, W 0 m (upd H1 D (.lst []))) ∧ ∀ i m H, W i m H →
      (J.stop i H ∧ Q H) ∨ (J.go i H ∧ ∃ Nx : Hp → Prop, (∀ H', Nx H' → ∃ m', m' < m ∧ W (i + 1) m' H') ∧ ∀ x H', J.yld i H x H' → upG g x (wipe σ vs) H' fun σ2 H2 => wipe σ2 vs = wipe σ vs ∧ upT tt σ2 H2 fun b H3 =>
        if b = true then up te σ2 H3 fun y H4 => ∃ acc, H4 D = some (.lst acc) ∧ acc.length < sizeLine ∧ Nx (upd H4 D (.lst (acc ++ [y]))) else Nx H3) := by
  obtain ⟨Y, wk, gy⟩ := gv.ex
  obtain ⟨α, f, as, P, rfl, p0, pk, ps, pd⟩ := lp
  rw [List.length_map] at wk
  refine lc_it wk (fun i H => P (as.drop i) H) (by rw [List.drop_zero]; exact p0) (fun i H _ p => pk _ _ p) (fun i x H H' hi p y => ?_) (fun H p => pd H (by rw [List.drop_length] at p; exact p))
  obtain ⟨z, hz, hd⟩ := drop_one hi
  rw [hd] at p
  refine ⟨_, gy i (f z) H x H' _ (by rw [List.getElem?_map, hz]; rfl) y (ps z _ H p), fun σ2 H2 q => ⟨q.1, _, q.2, fun b H3 q => ?_⟩⟩
  cases b with
  | true =>
    rw [if_pos rfl] at q ⊢
    refine ⟨_, q, fun v H4 q => ?_⟩
    split at q
    · next e => exact ⟨_, e, q.1, q.2⟩
    · exact q.elim
  | false => exact q
theorem xlc {elt tg iter : Expr} {ifs : List Expr} {scope : Scope} {own : List (Str × Nat)} {pos : Pos} {w : TW} {g : TG} {tt : TT} {te : TE} (hN : X.N.Nodup) (hi : PIW X tg iter w) (ok : BlkOk X.N X.env.scope scope own)
    (hg : ∀ (s : Shared) (H : Hp) (C : Addr) (cl : List (Str × Addr)) (fp : List Addr), PG (X.blk s H scope (compEnvC scope cl C X.env) fp) tg g) (ht : ∀ (s : Shared) (H : Hp) (C : Addr) (cl : List (Str × Addr)) (fp : List Addr), PTs (X.blk s H scope (compEnvC scope cl C X.env) fp) ifs tt)
    (he : ∀ (s : Shared) (H : Hp) (C : Addr) (cl : List (Str × Addr)) (fp : List Addr), PE (X.blk s H scope (compEnvC scope cl C X.env) fp) elt te) (hc : X.calm = true := by rfl) (hs : ∀ x, foldedSetIterable iter X.env x = pure x := by intro _; rfl) :
    PE X (.ListComp elt [⟨tg, iter, ifs, 0⟩] scope pos) (qLc w g tt te (own.map (·.2))) := by
  obtain ⟨wi, h1, h2⟩ := hi.ex
  refine pe_imp (pe_lc hc hN h1 ok (fun s H C cl fp => pg_up (hg s H C cl fp)) (fun s H C cl fp => pts_up (ht s H C cl fp)) (fun s H C cl fp => pe_up (he s H C cl fp)) hs) fun σ H Q h => h2 σ H _ _ h fun J ys G H1 gv lp D hD => ?_
  exact lc_conv gv (lp D hD)
theorem xsetlc {i : Nat} {y : Str} {py : Pos} {elt tg iter : Expr} {ifs : List Expr} {scope : Scope} {own : List (Str × Nat)} {pos spos : Pos} {w : TW} {g : TG} {tt : TT} {te : TE} (hN : X.N.Nodup) (hy : X.N[i]? = some y) (hyl : X.env.scope.names.lookup y = some .local)
    (hsw : swapsWith (.ListComp elt [⟨tg, iter, ifs, 0⟩] scope pos) (some (.Name y py)) spos.line X.env = pure true) (hi : PIW X tg iter w) (ok : BlkOk X.N X.env.scope scope own)
    (hg : ∀ (s : Shared) (H : Hp) (C : Addr) (cl : List (Str × Addr)) (fp : List Addr), PG (X.blk s H scope (compEnvC scope cl C X.env) fp) tg g) (ht : ∀ (s : Shared) (H : Hp) (C : Addr) (cl : List (Str × Addr)) (fp : List Addr), PTs (X.blk s H scope (compEnvC scope cl C X.env) fp) ifs tt)
    (he : ∀ (s : Shared) (H : Hp) (C : Addr) (cl : List (Str × Addr)) (fp : List Addr), PE (X.blk s H scope (compEnvC scope cl C X.env) fp) elt te) (hc : X.calm = true := by rfl) (hs : ∀ x, foldedSetIterable iter X.env x = pure x := by intro _; rfl) :
    PS X (.Assign [.Name y py] (.ListComp elt [⟨tg, iter, ifs, 0⟩] scope pos) spos) (tAsg (qLc w g tt te (own.map (·.2))) (gName i)) := by
  obtain ⟨wi, h1, h2⟩ := hi.ex
  refine ps_imp (ps_setLc hc hN hy hyl hsw h1 ok (fun s H C cl fp => pg_up (hg s H C cl fp)) (fun s H C cl fp => pts_up (ht s H C cl fp)) (fun s H C cl fp => pe_up (he s H C cl fp)) hs) fun D' σ H h => h2 σ H _ _ h fun J ys G H1 gv lp D hD => ?_
  exact lc_conv gv (lp D hD)
/-! walks -/
def wLst (te : TE) : TW := fun σ H R => te σ H fun v H1 => match v with
  | .ref a => (match lstOf (H1 a) with
    | some xs => R (xs.map .one) (fun H => lstOf (H a) = some xs) H1
    | none => False)
  | _ => False
def wTup (te : TE) : TW := fun σ H R => te σ H fun v H1 => match v with
  | .ref a => (match tupOf (H1 a) with
    | some xs => R (xs.map .one) (fun H => tupOf (H a) = some xs) H1
    | none => False)
  | _ => False
def wStr (te : TE) : TW := fun σ H R => te σ H fun v H1 => match v with
  | .str z => R (z.cps.toList.map fun c => .one (.str ⟨#[c]⟩)) (fun _ => True) H1
  | _ => False
def upto (lo hi : Int) : List Int := (List.range (hi - lo).toNat).map fun (i : Nat) => lo + (i : Int)
def wRng1 (te : TE) : TW := fun σ H R => te σ H fun v H1 => match v with
  | .int j => -(2 ^ 62) ≤ j ∧ j < 2 ^ 62 ∧ R ((upto 0 j).map fun i => .one (.int i)) (fun _ => True) H1
  | _ => False
def wRng2 (ta tb : TE) : TW := fun σ H R => ta σ H fun x H1 => tb σ H1 fun y H2 => match x, y with
  | .int i, .int j => (-(2 ^ 62) ≤ i ∧ i < 2 ^ 62 ∧ -(2 ^ 62) ≤ j ∧ j < 2 ^ 62) ∧ R ((upto i j).map fun i => .one (.int i)) (fun _ => True) H2
  | _, _ => False
def numP : Nat → List V → List (Nat × V)
  | _, [] => []
  | n, x :: r => (n, x) :: numP (n + 1) r
def ydN (p : Nat × V) : Yd := .two (.int (p.1 : Int)) p.2
def ydP (p : V × V) : Yd := .two p.1 p.2
def wEnum (te : TE) : TW := fun σ H R => te σ H fun v H1 => match v with
  | .ref a => (match lstOf (H1 a) with
    | some xs => R ((numP 0 xs).map ydN) (fun H => lstOf (H a) = some xs) H1
    | none => False)
  | _ => False

def wZip (ta tb : TE) : TW := fun σ H R => ta σ H fun x H1 => tb σ H1 fun y H2 => match x, y with
  | .ref a, .ref b => (match lstOf (H2 a), lstOf (H2 b) with
    | some xs, some ys => R ((xs.zip ys).map ydP) (fun H => lstOf (H a) = some xs ∧ lstOf (H b) = some ys) H2
    | _, _ => False)
  | _, _ => False
def wRev (te : TE) : TW := fun σ H R => te σ H fun v H1 => match v with
  | .ref a => (match lstOf (H1 a) with
    | some xs => R (xs.reverse.map .one) (fun H => lstOf (H a) = some xs) H1
    | none => False)
  | _ => False
theorem Gives.imp {J : It} {ys : List Yd} {G G' : Hp → Prop} (h : Gives J ys G) (i : ∀ H, G' H → G H) : Gives J ys G' := by
  obtain ⟨Y, w, r⟩ := h.ex
  exact ⟨Y, ⟨fun k H hk g => w.goes k H hk (i H g), fun H g => w.stops H (i H g), fun k H x H' hk g y => w.yields k H x H' hk (i H g) y⟩, r⟩
theorem gives_list {K : PySem.W.Frag} {a : Addr} {xs : List V} : Gives (Itl K a) (xs.map .one) fun H => lstOf (H a) = some xs := by
  refine Gives.imp (G := fun H => SqL K H a xs) ⟨_, by rw [List.length_map]; exact walk_list, ?_⟩ fun H h => lst_sq h
  intro i y H x H' k hy q z
  obtain ⟨rfl, q⟩ := q
  rw [List.getElem?_map, q] at hy
  cases hy
  exact z
theorem gives_tup {K : PySem.W.Frag} {a : Addr} {xs : List V} : Gives (Itt K a) (xs.map .one) fun H => tupOf (H a) = some xs := by
  refine Gives.imp (G := fun H => SqT K H a xs) ⟨_, by rw [List.length_map]; exact walk_tup, ?_⟩ fun H h => tup_sq h
  intro i y H x H' k hy q z
  obtain ⟨rfl, q⟩ := q
  rw [List.getElem?_map, q] at hy
  cases hy
  exact z
theorem gives_str {s : Str} : Gives (Its s) (s.cps.toList.map fun c => .one (.str ⟨#[c]⟩)) fun _ => True := by
  refine ⟨_, by rw [List.length_map, Array.length_toList]; exact walk_str, ?_⟩
  intro i y H x H' k hy q z
  obtain ⟨rfl, c, hc, rfl⟩ := q
  rw [List.getElem?_map, Array.getElem?_toList, hc] at hy
  cases hy
  exact z
theorem upto_len (lo hi : Int) : (upto lo hi).length = (hi - lo).toNat := by unfold upto; rw [List.length_map, List.length_range]
theorem gives_rng {lo hi : Int} : Gives (Itr lo (hi - lo).toNat) ((upto lo hi).map fun i => .one (.int i)) fun _ => True := by
  refine ⟨_, by rw [List.length_map, upto_len]; exact walk_range, ?_⟩
  intro i y H x H' k hy q z
  obtain ⟨rfl, rfl⟩ := q
  unfold upto at hy
  rw [List.map_map, List.getElem?_map] at hy
  cases e : (List.range (hi - lo).toNat)[i]? with
  | none => rw [e] at hy; cases hy
  | some j =>
    rw [e] at hy
    have h1 := List.getElem?_eq_some_iff.mp e
    obtain ⟨h2, h3⟩ := h1
    rw [List.getElem_range] at h3
    subst h3
    cases hy
    exact z
theorem numP_len : ∀ (n : Nat) (xs : List V), (numP n xs).length = xs.length
  | _, [] => rfl
  | n, x :: r => by show (numP (n + 1) r).length + 1 = _; rw [numP_len]; rfl
theorem numP_get : ∀ (xs : List V) (n i : Nat) (y : Nat × V), (numP n xs)[i]? = some y → xs[i]? = some y.2 ∧ y.1 = n + i
  | [], _, _, y, h => by cases h
  | x :: r, n, 0, y, h => by cases h; exact ⟨rfl, rfl⟩
  | x :: r, n, i + 1, y, h => by
    have h' : (numP (n + 1) r)[i]? = some y := h
    obtain ⟨h1, h2⟩ := numP_get r (n + 1) i y h'
    exact ⟨h1, by omega⟩
theorem gives_enum {K : PySem.W.Frag} {a : Addr} {xs : List V} : Gives (Ite K a) ((numP 0 xs).map ydN) fun H => lstOf (H a) = some xs := by
  refine Gives.imp (G := fun H => SqL K H a xs) ⟨_, by rw [List.length_map, numP_len]; exact walk_enum, ?_⟩ fun H h => lst_sq h
  intro i y H x H' k hy q z
  obtain ⟨T, u, v, rfl, hT, rfl, e1, e2⟩ := q
  rw [List.getElem?_map] at hy
  cases e : (numP 0 xs)[i]? with
  | none => rw [e] at hy; cases hy
  | some p =>
    rw [e] at hy
    obtain ⟨e3, e4⟩ := numP_get _ _ _ _ e
    have e2' : xs[i]? = some v := e2
    rw [e3] at e2'
    cases e1
    cases e2'
    cases hy
    rw [Nat.zero_add] at e4
    have q := z T hT
    rw [e4] at q
    exact q
theorem zip_get : ∀ (xs ys : List V) (i : Nat) (y : V × V), (xs.zip ys)[i]? = some y → xs[i]? = some y.1 ∧ ys[i]? = some y.2
  | [], _, _, _, h => by simp at h
  | _ :: _, [], _, _, h => by simp at h
  | x :: r, z :: s, 0, y, h => by cases h; exact ⟨rfl, rfl⟩
  | x :: r, z :: s, i + 1, y, h => zip_get r s i y h
theorem gives_zip {K : PySem.W.Frag} {a b : Addr} {xs ys : List V} : Gives (Itz K a b) ((xs.zip ys).map ydP) fun H => lstOf (H a) = some xs ∧ lstOf (H b) = some ys := by
  refine Gives.imp (G := fun H => SqL K H a xs ∧ SqL K H b ys) ⟨_, walk_zip (by rw [List.length_map, List.length_zip]), ?_⟩ fun H h => ⟨lst_sq h.1, lst_sq h.2⟩
  intro i y H x H' k hy q z
  obtain ⟨T, u, v, rfl, hT, rfl, e1, e2⟩ := q
  rw [List.getElem?_map] at hy
  cases e : (xs.zip ys)[i]? with
  | none => rw [e] at hy; cases hy
  | some p =>
    rw [e] at hy
    obtain ⟨e3, e4⟩ := zip_get _ _ _ _ e
    have e1' : xs[i]? = some u := e1
    have e2' : ys[i]? = some v := e2
    rw [e3] at e1'
    rw [e4] at e2'
    cases e1'
    cases e2'
    cases hy
    exact z T hT
theorem gives_rev {K : PySem.W.Frag} {a : Addr} {xs : List V} : Gives (Itv K a xs.length) (xs.reverse.map .one) fun H => lstOf (H a) = some xs := by
  refine Gives.imp (G := fun H => SqL K H a xs) ⟨_, by rw [List.length_map, List.length_reverse]; exact walk_rev, ?_⟩ fun H h => lst_sq h
  intro i y H x H' k hy q z
  obtain ⟨rfl, q⟩ := q
  rw [List.getElem?_map] at hy
  cases e : xs.reverse[i]? with
  | none => rw [e] at hy; cases hy
  | some j =>
    rw [e] at hy
    have hi : i < xs.length := by
      have := (List.getElem?_eq_some_iff.mp e).1
      rw [List.length_reverse] at this
      exact this
    rw [List.getElem?_reverse hi, q] at e
    cases e
    cases hy
    exact z
variable {tg e a b : Expr} {te ta tb : TE} {p pos : Pos}
theorem xilst (he : PE X e te) : PIW X tg e (wLst te) := ⟨_, pi_list (pe_up he), fun σ H R R' h i => up_of h fun v H1 q => by
  split at q
  · split at q
    · next e1 => exact ⟨_, rfl, ⟨_, lst_sq e1⟩, i _ _ _ _ gives_list q⟩
    · exact q.elim
  · exact q.elim⟩
theorem xitup (he : PE X e te) : PIW X tg e (wTup te) := ⟨_, pi_tup (pe_up he), fun σ H R R' h i => up_of h fun v H1 q => by
  split at q
  · split at q
    · next e1 => exact ⟨_, rfl, ⟨_, tup_sq e1⟩, i _ _ _ _ gives_tup q⟩
    · exact q.elim
  · exact q.elim⟩
theorem xistr (he : PE X e te) : PIW X tg e (wStr te) := ⟨_, pi_str (pe_up he), fun σ H R R' h i => up_of h fun v H1 q => by
  split at q
  · exact ⟨_, rfl, i _ _ _ _ gives_str q⟩
  · exact q.elim⟩
theorem xirng1 (hm : X.mg "range" = none) (he : PE X e te) (hg : Gl X "range" := by rfl) (hs : starEach [e] X.env = [(false, eval e X.env)] := by rfl) : PIW X tg (.Call (.Name "range" p) [e] [] pos) (wRng1 te) :=
  ⟨_, pi_range1 hg hm (pa_cons (pe_up he) pa_nil hs) hs, fun σ H R R' h i => up_of h fun v H1 q => by
  split at q
  · next j =>
    have g := gives_rng (lo := 0) (hi := j)
    rw [Int.sub_zero] at g
    exact ⟨_, rfl, q.1, q.2.1, i _ _ _ _ g q.2.2⟩
  · exact q.elim⟩
theorem xirng2 (hm : X.mg "range" = none) (ha : PE X a ta) (hb : PE X b tb) (hg : Gl X "range" := by rfl) (h2 : starEach [b] X.env = (false, eval b X.env) :: starEach [] X.env := by rfl) (hs : starEach [a, b] X.env = [(false, eval a X.env), (false, eval b X.env)] := by rfl) : PIW X tg (.Call (.Name "range" p) [a, b] [] pos) (wRng2 ta tb) :=
  ⟨_, pi_range2 hg hm (pa_cons (pe_up ha) (pa_cons (pe_up hb) pa_nil h2) (hs.trans (by rw [h2]; rfl))) hs (h2.trans rfl), fun σ H R R' h i => up_of h fun v H1 q => up_of q fun v2 H2 q => by
  split at q
  · exact ⟨_, _, rfl, q.1, i _ _ _ _ gives_rng q.2⟩
  · exact q.elim⟩
theorem xienum {elts : List Expr} {kk : Nat} {tpos : Pos} (hm : X.mg "enumerate" = none) (he : PE X e te) (hg : Gl X "enumerate" := by rfl) (hs : starEach [e] X.env = [(false, eval e X.env)] := by rfl) : PIW X (.Tuple elts kk tpos) (.Call (.Name "enumerate" p) [e] [] pos) (wEnum te) :=
  ⟨_, pi_enum hg hm (pa_cons (pe_up he) pa_nil hs) hs, fun σ H R R' h i => up_of h fun v H1 q => by
  split at q
  · split at q
    · next e1 => exact ⟨_, _, rfl, lst_sq e1, i _ _ _ _ gives_enum q⟩
    · exact q.elim
  · exact q.elim⟩
theorem xizip {elts : List Expr} {kk : Nat} {tpos : Pos} (hm : X.mg "zip" = none) (ha : PE X a ta) (hb : PE X b tb) (hg : Gl X "zip" := by rfl) (h2 : starEach [b] X.env = (false, eval b X.env) :: starEach [] X.env := by rfl) (hs : starEach [a, b] X.env = (false, eval a X.env) :: starEach [b] X.env := by rfl)
    (hpl : (backTo pos (starEach [b] X.env)).any (·.1) = false := by rfl) : PIW X (.Tuple elts kk tpos) (.Call (.Name "zip" p) [a, b] [] pos) (wZip ta tb) :=
  ⟨_, pi_zip hg hm (pa_cons (pe_up ha) (pa_cons (pe_up hb) pa_nil h2) hs) hs hpl, fun σ H R R' h i => up_of h fun v H1 q => up_of q fun v2 H2 q => by
  split at q
  · split at q
    · next e1 e2 => exact ⟨_, _, _, _, rfl, lst_sq e1, lst_sq e2, i _ _ _ _ gives_zip q⟩
    · exact q.elim
  · exact q.elim⟩
theorem xirev (hm : X.mg "reversed" = none) (he : PE X e te) (hg : Gl X "reversed" := by rfl) (hs : starEach [e] X.env = [(false, eval e X.env)] := by rfl) : PIW X tg (.Call (.Name "reversed" p) [e] [] pos) (wRev te) :=
  ⟨_, pi_reversed hg hm (pa_cons (pe_up he) pa_nil hs) hs, fun σ H R R' h i => up_of h fun v H1 q => by
  split at q
  · split at q
    · next e1 => exact ⟨_, _, rfl, lst_sq e1, i _ _ _ _ gives_rev q⟩
    · exact q.elim
  · exact q.elim⟩
/-! while -/
def qWhile (c : TT) (tb : TS) : TS := fun D σ H => ∃ W : Nat → St → Hp → Prop, (∃ m, W m σ H) ∧ ∀ n σ H, W n σ H →
  c σ H fun k H1 => if k = true then tb { D with nx := fun σ' H' => ∃ m, m < n ∧ W m σ' H', ct := fun σ' H' => ∃ m, m < n ∧ W m σ' H', bk := D.nx } σ H1 else D.nx σ H1
theorem xwhile {c : Expr} {body : List Stmt} {tc : TT} {tb : TS} (hp : PassesOwn (model X.prog X.w) X.A X.env X.xe) (hc : PT X c tc) (hb : PSs X body tb) : PS X (.While c body [] pos) (qWhile tc tb) :=
  ps_imp (ps_while hp (pt_up hc) hb) fun D σ H h => by
    obtain ⟨W, w0, st⟩ := h
    refine ⟨W, w0, fun n σ H w => ⟨_, st n σ H w, fun k H1 q => ?_⟩⟩
    cases k with
    | true => exact ⟨fun σ' H' => ∃ m, m < n ∧ W m σ' H', fun σ' H' z => z, q⟩
    | false => exact q
end
end Fk
/-! ### Fk4: reckoning readings -/
namespace Fk
open PySem L2
section
variable {K : PySem.W.Frag} {H : Hp} {Q : VK} {i j : Int} {x y : Str} {k l : Bool} {a b : Addr} {F : Bool → Prop}
theorem asB_bl : asB (.bl k) F = F k := rfl
theorem qAdd_ii : qAdd (.int i) (.int j) H Q = Q (.int (i + j)) H := rfl
theorem qAdd_ss : qAdd (.str x) (.str y) H Q = (x.length + y.length ≤ sizeLine ∧ Q (.str (x ++ y)) H) := rfl
theorem qAdd_ll {xs ys : List V} (h1 : H a = some (.lst xs)) (h2 : H b = some (.lst ys)) : qAdd (.ref a) (.ref b) H Q = (xs.length + ys.length ≤ sizeLine ∧ ∀ p, H p = none → Q (.ref p) (upd H p (.lst (xs ++ ys)))) := by
  unfold qAdd
  simp only [h1, h2]
theorem qAdd_tt {xs ys : List V} (h1 : H a = some (.tup xs)) (h2 : H b = some (.tup ys)) : qAdd (.ref a) (.ref b) H Q = (xs.length + ys.length ≤ sizeLine ∧ (xs = [] → Q (.ref b) H) ∧ (xs ≠ [] → ys = [] → Q (.ref a) H) ∧ (xs ≠ [] → ys ≠ [] → ∀ p, H p = none → Q (.ref p) (upd H p (.tup (xs ++ ys))))) := by
  unfold qAdd
  simp only [h1, h2]
theorem qSub_ii : qSub (.int i) (.int j) H Q = Q (.int (i - j)) H := rfl
theorem qMul_ii : qMul (.int i) (.int j) H Q = (((-(2 ^ 64) < i ∧ i < 2 ^ 64) ∨ (-(2 ^ 64) < j ∧ j < 2 ^ 64)) ∧ Q (.int (i * j)) H) := rfl
theorem qMod_ii : qMod (.int i) (.int j) H Q = (0 < j ∧ Q (.int (i % j)) H) := rfl
theorem qDiv_ii : qDiv (.int i) (.int j) H Q = ((0 < j ∧ j < 1073741824) ∧ Q (.int (i / j)) H) := rfl
theorem qPow_ii : qPow (.int i) (.int j) H Q = ((0 ≤ j ∧ j ≤ 1000000 ∧ i.natAbs < 2 ^ 64) ∧ Q (.int (i ^ j.toNat)) H) := rfl
theorem qCmpI_ii {p : Int → Int → Bool} : qCmpI p (.int i) (.int j) H Q = Q (.bl (p i j)) H := rfl
theorem qEq_ii : qEq K k (.int i) (.int j) H Q = Q (.bl (decide (i = j) == k)) H := rfl
theorem qEq_ss : qEq K k (.str x) (.str y) H Q = Q (.bl (decide (x = y) == k)) H := rfl
theorem qEq_bb {c d : Bool} : qEq K k (.bl c) (.bl d) H Q = Q (.bl (decide (c = d) == k)) H := rfl
theorem qEq_rr : qEq K k (.ref a) (.ref b) H Q = ∃ d e, Dp K H (.ref a) d ∧ Dp K H (.ref b) e ∧ SeqAt.shaped d = true ∧ SeqAt.shaped e = true ∧ Q (.bl (PyData.eqv d e == k)) H := rfl
theorem qIsN_n : qIsN k .non .non H Q = Q (.bl k) H := rfl
theorem qIsN_i : qIsN k (.int i) .non H Q = Q (.bl (!k)) H := rfl
theorem qIsN_s : qIsN k (.str x) .non H Q = Q (.bl (!k)) H := rfl
theorem qIsN_b : qIsN k (.bl l) .non H Q = Q (.bl (!k)) H := rfl
theorem qIsN_r : qIsN k (.ref a) .non H Q = Q (.bl (!k)) H := rfl
theorem qInS_s {n : Nat} : qInS k (.str ⟨#[n]⟩) (.str y) H Q = Q (.bl (decide (n ∈ y.cps.toList) == k)) H := rfl
theorem qInT_r {v : V} : qInT K k v (.ref a) H Q = ∃ xs, (SqL K H a xs ∨ SqT K H a xs) ∧ flatV v = true ∧ xs.all flatV = true ∧ Q (.bl (inV v xs == k)) H := rfl
theorem qIx_s : qIx (.str x) (.int i) H Q = (match atI x.cps.toList i with
    | some c => x.length ≤ sizeLine ∧ Q (.str ⟨#[c]⟩) H
    | none => False) := rfl
theorem qIx_r : qIx (.ref a) (.int i) H Q = (match seqOf (H a) with
    | some xs => (match atI xs i with
      | some v => Q v H
      | none => False)
    | none => False) := rfl
theorem qIAdd_ii : qIAdd (.int i) (.int j) H Q = Q (.int (i + j)) H := rfl
theorem qIAdd_ss : qIAdd (.str x) (.str y) H Q = (x.length + y.length ≤ sizeLine ∧ Q (.str (x ++ y)) H) := rfl
theorem qLen_s : qLen [.str x] H Q = (x.length ≤ sizeLine ∧ Q (.int x.length) H) := rfl
theorem qLen_r : qLen [.ref a] H Q = (match seqOf (H a) with
    | some ys => Q (.int ys.length) H
    | none => False) := rfl
theorem qAbs_i : qAbs [.int i] H Q = Q (.int (if i < 0 then -i else i)) H := rfl
theorem qMax2_ii : qMax2 [.int i, .int j] H Q = Q (.int (if j > i then j else i)) H := rfl
theorem qMin2_ii : qMin2 [.int i, .int j] H Q = Q (.int (if j < i then j else i)) H := rfl
theorem qInt_i : qInt [.int i] H Q = Q (.int i) H := rfl
theorem qInt_b : qInt [.bl k] H Q = Q (.int (if k then 1 else 0)) H := rfl
theorem qInt_s : qInt [.str x] H Q = (match PySem.intText? x with
    | some n => x.length ≤ 640 ∧ Q (.int n) H
    | none => False) := rfl
theorem qStrC_i : qStrC [.int i] H Q = (i.natAbs.log2 < 1920 ∧ Q (.str (toString i)) H) := rfl
theorem qStrC_s : qStrC [.str x] H Q = Q (.str x) H := rfl
theorem qList_r : qList [.ref a] H Q = (match seqOf (H a) with
    | some ys => ∀ l, H l = none → Q (.ref l) (upd H l (.lst ys))
    | none => False) := rfl
theorem qTuple_r : qTuple [.ref a] H Q = tupleAs (H a) (fun ys => ∀ l, H l = none → Q (.ref l) (upd H l (.tup ys))) (Q (.ref a) H) := rfl
theorem tupleAs_l {F : List V → Prop} {G : Prop} {xs : List V} : tupleAs (some (.lst xs)) F G = F xs := rfl
theorem tupleAs_t {F : List V → Prop} {G : Prop} {xs : List V} : tupleAs (some (.tup xs)) F G = G := rfl
theorem qDivmod_ii : qDivmod [.int i, .int j] H Q = ((0 < j ∧ j < 1073741824) ∧ ∀ p, H p = none → Q (.ref p) (upd H p (.tup [.int (i / j), .int (i % j)]))) := rfl
theorem qSl_s {lo hi : Option Int} : qSl K (.str x) lo hi H Q = (x.length ≤ sizeLine ∧ Q (.str (cutS x lo hi)) H) := rfl
theorem qSl_r {lo hi : Option Int} : qSl K (.ref a) lo hi H Q = ((∃ xs, SqL K H a xs ∧ ∀ p, H p = none → Q (.ref p) (upd H p (.lst (cutV xs lo hi)))) ∨
      (∃ xs, SqT K H a xs ∧ (HT.sIx xs.length 0 lo = 0 ∧ HT.sIx xs.length xs.length hi = xs.length → Q (.ref a) H) ∧ (¬ (HT.sIx xs.length 0 lo = 0 ∧ HT.sIx xs.length xs.length hi = xs.length) → ∀ p, H p = none → Q (.ref p) (upd H p (.tup (cutV xs lo hi)))))) := rfl
theorem sl_use {xs : List V} {lo hi : Option Int} (h : SqL K H a xs) (q : ∀ p, H p = none → Q (.ref p) (upd H p (.lst (cutV xs lo hi)))) : qSl K (.ref a) lo hi H Q := .inl ⟨xs, h, q⟩
def asI (x : V) (F : Int → Prop) : Prop := match x with
  | .int i => F i
  | _ => False
theorem qAll_r : qAll [.ref a] H Q = (match lstOf (H a) with
    | some ys => (match blsOf ys with
      | some bs => Q (.bl (bs.all id)) H
      | none => False)
    | none => False) := rfl
theorem qAny_r : qAny [.ref a] H Q = (match lstOf (H a) with
    | some ys => (match blsOf ys with
      | some bs => Q (.bl (bs.any id)) H
      | none => False)
    | none => False) := rfl
end
theorem cx_K {CX : CXT} {P : Program} {w : World} {K : PySem.W.Frag} {mg : Str → Option Value} {base : Heap} {N : List Str} {q : Str} {sc : Scope} {f : Addr} {cd : Value} {A : Around} {outer : List Env} {s : Shared} {H : Hp} {E : XK} :
    (cxOf CX P w K mg base N q sc f cd A outer s H E).K = K := rfl
theorem beq_t (b : Bool) : (b == true) = b := by cases b <;> rfl
theorem beq_f (b : Bool) : (b == false) = !b := by cases b <;> rfl
theorem sz0 : 0 ≤ sizeLine := Nat.zero_le _
theorem sz_of {n : Nat} (h : n ≤ 1000000) : n ≤ sizeLine := Nat.le_trans h (by decide)
theorem sz_lt {n : Nat} (h : n ≤ 1000000) : n < sizeLine := Nat.lt_of_le_of_lt h (by decide)
theorem szl {n : Nat} (h : decide (n ≤ 1000000) = true) : (n ≤ sizeLine) = True := eq_true (sz_of (of_decide_eq_true h))
theorem sz1 : (1 ≤ sizeLine) = True := szl (by decide)
theorem sz2 : (2 ≤ sizeLine) = True := szl (by decide)
theorem sz3 : (3 ≤ sizeLine) = True := szl (by decide)
theorem sz4 : (4 ≤ sizeLine) = True := szl (by decide)
theorem sz5 : (5 ≤ sizeLine) = True := szl (by decide)
theorem sz6 : (6 ≤ sizeLine) = True := szl (by decide)
theorem sz7 : (7 ≤ sizeLine) = True := szl (by decide)
theorem sz8 : (8 ≤ sizeLine) = True := szl (by decide)
theorem sz15 : (15 ≤ sizeLine) = True := szl (by decide)
theorem at0 {α : Type} {a : α} {l : List α} : atI (a :: l) 0 = some a := by
  unfold atI ixN
  rw [if_pos (by decide), if_pos (by rw [List.length_cons]; omega)]
  rfl
theorem at1 {α : Type} {a b : α} {l : List α} : atI (a :: b :: l) 1 = some b := by
  unfold atI ixN
  rw [if_pos (by decide), if_pos (by rw [List.length_cons, List.length_cons]; omega)]
  rfl
theorem at2 {α : Type} {a b c : α} {l : List α} : atI (a :: b :: c :: l) 2 = some c := by
  unfold atI ixN
  rw [if_pos (by decide), if_pos (by rw [List.length_cons, List.length_cons, List.length_cons]; omega)]
  rfl
theorem at3 {α : Type} {a b c d : α} {l : List α} : atI (a :: b :: c :: d :: l) 3 = some d := by
  unfold atI ixN
  rw [if_pos (by decide), if_pos (by rw [List.length_cons, List.length_cons, List.length_cons, List.length_cons]; omega)]
  rfl
theorem ix0 {n : Nat} : ixN (n + 1) 0 = some 0 := by
  unfold ixN
  rw [if_pos (by decide), if_pos (by omega)]
  rfl
theorem ix1 {n : Nat} : ixN (n + 1 + 1) 1 = some 1 := by
  unfold ixN
  rw [if_pos (by decide), if_pos (by omega)]
  rfl
theorem ix2 {n : Nat} : ixN (n + 1 + 1 + 1) 2 = some 2 := by
  unfold ixN
  rw [if_pos (by decide), if_pos (by omega)]
  rfl
theorem mod_ok {a m : Int} (h : 0 < m := by decide) (h2 : m ≤ 2 ^ 64 := by decide) : -(2 ^ 64) < a % m ∧ a % m < 2 ^ 64 := by
  have h1 := Int.emod_nonneg a (show m ≠ 0 by omega)
  have h3 := Int.emod_lt_of_pos a h
  omega
theorem same_new {H : Hp} {p : Addr} (h : H p = none) (o : HO) : Same H (upd H p o) := fun b u q => by rw [upd_ne (ne_of_none q h)]; exact q
theorem same_upd {H H' : Hp} {p : Addr} (e : Same H H') (h : H p = none) (o : HO) : Same H (upd H' p o) := fun b u q => by rw [upd_ne (ne_of_none q h)]; exact e b u q
end Fk
/-! ### Fk5: data of tuples, what stays -/
namespace Fk
open PySem L2
/-! data at values: nothing but tuples -/
mutual
inductive Tp (H : Hp) : V → PyData → Prop
  | non : Tp H .non .none
  | bl (b : Bool) : Tp H (.bl b) (.bool b)
  | int (i : Int) : Tp H (.int i) (.int i)
  | str (x : Str) : Tp H (.str x) (.str x)
  | tup {a : Addr} {xs : List V} {ds : List PyData} : H a = some (.tup xs) → Tps H xs ds → Tp H (.ref a) (.tuple ds)
inductive Tps (H : Hp) : List V → List PyData → Prop
  | nil : Tps H [] []
  | cons {v : V} {vs : List V} {d : PyData} {ds : List PyData} : Tp H v d → Tps H vs ds → Tps H (v :: vs) (d :: ds)
end
/-- tuples stay -/
def TK (H H' : Hp) : Prop := ∀ a xs, H a = some (.tup xs) → H' a = some (.tup xs)
mutual
theorem Tp.mono {H H' : Hp} (k : TK H H') : ∀ {v : V} {d : PyData}, Tp H v d → Tp H' v d
  | _, _, .non => .non
  | _, _, .bl b => .bl b
  | _, _, .int i => .int i
  | _, _, .str x => .str x
  | _, _, .tup h r => .tup (k _ _ h) (Tps.mono k r)
theorem Tps.mono {H H' : Hp} (k : TK H H') : ∀ {vs : List V} {ds : List PyData}, Tps H vs ds → Tps H' vs ds
  | _, _, .nil => .nil
  | _, _, .cons h r => .cons (Tp.mono k h) (Tps.mono k r)
end
mutual
theorem Tp.dp {K : PySem.W.Frag} {H : Hp} : ∀ {v : V} {d : PyData}, Tp H v d → Dp K H v d
  | _, _, .non => .non
  | _, _, .bl b => .bl b
  | _, _, .int i => .int i
  | _, _, .str x => .str x
  | _, _, .tup h r => .tup (.inl (.inl h)) (Tps.dp r)
theorem Tps.dp {K : PySem.W.Frag} {H : Hp} : ∀ {vs : List V} {ds : List PyData}, Tps H vs ds → DpAll K H vs ds
  | _, _, .nil => .nil
  | _, _, .cons h r => .cons (Tp.dp h) (Tps.dp r)
end
theorem Tps.length {H : Hp} : ∀ {vs : List V} {ds : List PyData}, Tps H vs ds → vs.length = ds.length
  | _, _, .nil => rfl
  | _, _, .cons _ r => congrArg (· + 1) (Tps.length r)
theorem Tps.append {H : Hp} : ∀ {vs us : List V} {ds es : List PyData}, Tps H vs ds → Tps H us es → Tps H (vs ++ us) (ds ++ es)
  | _, _, _, _, .nil, s => s
  | _, _, _, _, .cons h r, s => .cons h (Tps.append r s)
theorem Tps.set {H : Hp} {v : V} {d : PyData} (h : Tp H v d) : ∀ {vs : List V} {ds : List PyData} (i : Nat), Tps H vs ds → Tps H (vs.set i v) (ds.set i d)
  | _, _, _, .nil => .nil
  | _, _, 0, .cons _ r => .cons h r
  | _, _, i + 1, .cons q r => .cons q (Tps.set h i r)
theorem tps_at {H : Hp} : ∀ {vs : List V} {ds : List PyData} {i : Nat}, Tps H vs ds → i < vs.length → ∃ v d, vs[i]? = some v ∧ ds[i]? = some d ∧ Tp H v d
  | _, _, _, .nil, h => by cases h
  | _, _, 0, .cons h r, _ => ⟨_, _, rfl, rfl, h⟩
  | _, _, i + 1, .cons h r, l => tps_at (i := i) r (Nat.lt_of_succ_lt_succ l)
theorem TK.refl (H : Hp) : TK H H := fun _ _ h => h
theorem TK.trans {H H1 H2 : Hp} (a : TK H H1) (b : TK H1 H2) : TK H H2 := fun x xs h => b x xs (a x xs h)
theorem upd_free {H : Hp} {p a : Addr} {o : HO} (h : upd H p o a = none) : a ≠ p ∧ H a = none := by
  have n : a ≠ p := by
    rintro rfl
    rw [upd_same] at h
    cases h
  rw [upd_ne n] at h
  exact ⟨n, h⟩
/-- all but what is named stays -/
def But (S : List Addr) (H H' : Hp) : Prop := ∀ b o, b ∉ S → H b = some o → H' b = some o
theorem But.refl (S : List Addr) (H : Hp) : But S H H := fun _ _ _ h => h
theorem But.trans {S : List Addr} {H H1 H2 : Hp} (a : But S H H1) (b : But S H1 H2) : But S H H2 := fun x o n h => b x o n (a x o n h)
theorem But.new {S : List Addr} {H : Hp} {p : Addr} (h : H p = none) (o : HO) : But S H (upd H p o) := fun b u _ q => by rw [upd_ne (ne_of_none q h)]; exact q
theorem But.at {S : List Addr} {H H' : Hp} {p : Addr} (e : But S H H') (h : p ∈ S) (o : HO) : But S H (upd H' p o) := fun b u n q => by
  have hb : b ≠ p := by
    rintro rfl
    exact n h
  rw [upd_ne hb]
  exact e b u n q
theorem But.nw {S : List Addr} {H H' : Hp} {p : Addr} (e : But S H H') (h : H p = none) (o : HO) : But S H (upd H' p o) := fun b u n q => by
  rw [upd_ne (ne_of_none q h)]
  exact e b u n q
theorem But.free {S : List Addr} {H H' : Hp} (e : But S H H') {l : Addr} (hS : l ∉ S) (h : H' l = none) : H l = none := by
  cases q : H l with
  | none => rfl
  | some o => rw [e l o hS q] at h; cases h
/-! displays of constants, told as data -/
def Opq (t : TE) : TE := t
theorem xopq {X : Cx} {e : Expr} {t : TE} (h : PE X e t) : PE X e (Opq t) := h
/-- a reading that makes d, whatever the heap -/
def Dt (t : TE) (d : PyData) : Prop := ∀ (σ : St) (H : Hp) (Q : VK), (∀ v H', Same H H' → Tp H' v d → Q v H') → t σ H Q
def Dts (t : TA) (ds : List PyData) : Prop := ∀ (σ : St) (H : Hp) (Q : List V → Hp → Prop), (∀ vs H', Same H H' → Tps H' vs ds → Q vs H') → t σ H Q
theorem same_tk {H H' : Hp} (s : Same H H') : TK H H' := fun _ _ e => s _ _ e
theorem same_up {H H' : Hp} {p : Addr} (s : Same H H') (h : H' p = none) (o : HO) : Same H (upd H' p o) := s.trans (same_new h o)
theorem Dt.str {x : Str} : Dt (tC (.str x)) (.str x) := fun _ H _ q => q _ H (Same.refl H) (.str x)
theorem Dt.int {i : Int} : Dt (tC (.int i)) (.int i) := fun _ H _ q => q _ H (Same.refl H) (.int i)
theorem Dt.non : Dt (tC .non) .none := fun _ H _ q => q _ H (Same.refl H) .non
theorem Dt.bl {b : Bool} : Dt (tC (.bl b)) (.bool b) := fun _ H _ q => q _ H (Same.refl H) (.bl b)
theorem Dts.nil : Dts tNil [] := fun _ H _ q => q _ H (Same.refl H) .nil
theorem Dts.cons {t : TE} {ts : TA} {d : PyData} {ds : List PyData} (h : Dt t d) (hs : Dts ts ds) : Dts (tCons t ts) (d :: ds) := fun σ H Q q =>
  h σ H _ fun v H1 s1 t1 => hs σ H1 _ fun vs H2 s2 t2 => q (v :: vs) H2 (s1.trans s2) (.cons (t1.mono (same_tk s2)) t2)
theorem Dt.tup {ts : TA} {ds : List PyData} (hs : Dts ts ds) (hl : ds.length ≤ 1000) : Dt (tTup ts) (.tuple ds) := fun σ H Q q =>
  hs σ H _ fun vs H1 s1 t1 => ⟨sz_of (by rw [t1.length]; omega), fun p hp => q (.ref p) _ (same_up s1 hp _) (.tup upd_same (t1.mono (same_tk (same_new hp _))))⟩
/-- a new list of data -/
theorem dl_use {ts : TA} {ds : List PyData} (hs : Dts ts ds) (hl : ds.length ≤ 1000) {σ : St} {H : Hp} {Q : VK} (q : ∀ p H' us, Same H H' → H p = none → H' p = some (.lst us) → Tps H' us ds → Q (.ref p) H') : Opq (tLst ts) σ H Q :=
  hs σ H _ fun vs H1 s1 t1 => ⟨sz_of (by rw [t1.length]; omega), fun p hp => q p _ vs (same_up s1 hp _) (s1.free hp) upd_same (t1.mono (same_tk (same_new hp _)))⟩
theorem dt_use {t : TE} {d : PyData} (h : Dt t d) {σ : St} {H : Hp} {Q : VK} (q : ∀ v H', Same H H' → Tp H' v d → Q v H') : Opq t σ H Q := h σ H Q q
/-- a comprehension that makes of each d of a list's data f d -/
theorem lc_map {xs : List V} {ds : List PyData} (f : PyData → PyData) {keep : Hp → Prop} {g : TG} {te : TE} {vs : List Nat} {σ : St} {D : Addr} {H : Hp} {Q : Hp → Prop} (hD : H D = none) (hs : Tps H xs ds) (hl : xs.length ≤ 100000) (hk : ∀ H', Same H H' → keep H')
    (step : ∀ v d H', Same H H' → Tp H' v d → d ∈ ds → ∀ Fin : VK, (∀ z H2, Same H' H2 → Tp H2 z (f d) → Fin z H2) → g v (wipe σ vs) H' fun σ2 H2 => wipe σ2 vs = wipe σ vs ∧ te σ2 H2 Fin)
    (done : ∀ H' us, Same H H' → H' D = some (.lst us) → Tps H' us (ds.map f) → Q H') : LoopC (xs.map .one) keep g tYes te vs σ D H Q := by
  refine ⟨V, _, xs, fun r H' => ∃ acc dn rs, Same H H' ∧ H' D = some (.lst acc) ∧ ds = dn ++ rs ∧ Tps H' r rs ∧ Tps H' acc (dn.map f) ∧ acc.length + r.length ≤ 100000, rfl, ⟨[], [], ds, same_new hD _, upd_same, rfl, hs.mono (same_tk (same_new hD _)), .nil, by show 0 + _ ≤ _; omega⟩, ?_, ?_, ?_⟩
  · rintro r H' ⟨acc, dn, rs, s, _⟩
    exact hk H' s
  · rintro y r H' ⟨acc, dn, rs, s, hacc, hds, hr, hd, hn⟩
    rw [List.length_cons] at hn
    cases hr with
    | @cons _ _ d rs hy hr =>
    refine step y d H' s hy (by rw [hds]; simp) _ fun z H2 s2 tz => ?_
    have h2 : H2 D = some (.lst acc) := s2 _ _ hacc
    show match H2 D with
      | some (.lst acc) => acc.length < sizeLine ∧ _
      | _ => False
    rw [h2]
    have tk2 : TK H2 (upd H2 D (.lst (acc ++ [z]))) := fun a us e => by
      rw [upd_ne (by rintro rfl; rw [h2] at e; cases e)]
      exact e
    refine ⟨sz_lt (by omega), acc ++ [z], dn ++ [d], rs, same_upd (s.trans s2) hD _, upd_same, by rw [hds]; simp, (hr.mono (same_tk s2)).mono tk2, ?_, by rw [List.length_append]; show _ + 1 + _ ≤ _; omega⟩
    rw [List.map_append]
    exact ((hd.mono (same_tk s2)).append (.cons tz .nil)).mono tk2
  · rintro H' ⟨acc, dn, rs, s, hacc, hds, hr, hd, hn⟩
    cases hr
    rw [List.append_nil] at hds
    subst hds
    exact done H' acc s hacc hd
/-! parts of a list, by whole numbers from 0 on -/
theorem cut_to (xs : List V) (k : Nat) : cutV xs none (some (k : Int)) = xs.take k := by
  unfold cutV
  rw [HT.sIx_nat, HT.sIx_none, List.drop_zero, Nat.sub_zero]
  by_cases h : k ≤ xs.length
  · rw [Nat.min_eq_left h]
  · rw [Nat.min_eq_right (by omega), List.take_of_length_le (Nat.le_refl _), List.take_of_length_le (by omega)]
theorem cut_from (xs : List V) (k : Nat) : cutV xs (some (k : Int)) none = xs.drop k := by
  unfold cutV
  rw [HT.sIx_nat, HT.sIx_none]
  by_cases h : k ≤ xs.length
  · rw [Nat.min_eq_left h, List.take_of_length_le (by rw [List.length_drop]; exact Nat.le_refl _)]
  · rw [Nat.min_eq_right (by omega), List.drop_of_length_le (Nat.le_refl _), List.drop_of_length_le (by omega), List.take_nil]
theorem cut_ft (xs : List V) (a b : Nat) : cutV xs (some (a : Int)) (some (b : Int)) = (xs.drop a).take (b - a) := by
  unfold cutV
  rw [HT.sIx_nat, HT.sIx_nat]
  by_cases h : a ≤ xs.length
  · rw [show min a xs.length = a by omega]
    by_cases hb : b ≤ xs.length
    · rw [show min b xs.length = b by omega]
    · rw [show min b xs.length = xs.length by omega, List.take_of_length_le (by rw [List.length_drop]; exact Nat.le_refl _), List.take_of_length_le (by rw [List.length_drop]; omega)]
  · rw [show min a xs.length = xs.length by omega, List.drop_of_length_le (Nat.le_refl _), List.drop_of_length_le (by omega), List.take_nil, List.take_nil]
theorem ixN_k {n j : Nat} (hj : j < n) : ixN n (j : Int) = some j := by
  unfold ixN
  rw [if_pos (by omega), if_pos (by omega)]
  simp
theorem tk_lst {H : Hp} {p : Addr} {xs : List V} (h : H p = some (.lst xs)) (o : HO) : TK H (upd H p o) := fun a us e => by
  rw [upd_ne (by rintro rfl; rw [h] at e; cases e)]
  exact e
/-- Same, but for what is made anew and changed then -/
theorem same_one {H H1 H2 : Hp} {p : Addr} (s : Same H H1) (h : H p = none) (b : But [p] H1 H2) : Same H H2 := fun c o e => by
  refine b c o ?_ (s c o e)
  simp only [List.mem_singleton]
  exact ne_of_none e h
/-- a comprehension that makes a list of nothing but True -/
theorem lc_trues {α : Type} {f : α → Yd} {as : List α} {keep : Hp → Prop} {g : TG} {te : TE} {vs : List Nat} {σ : St} {D : Addr} {H : Hp} {Q : Hp → Prop} (hD : H D = none) (hl : as.length ≤ 100000) (hk : ∀ H', Same H H' → keep H')
    (step : ∀ y ∈ as, ∀ H', Same H H' → ∀ Fin : VK, (∀ H2, Same H H2 → (∀ l, H' D = some (.lst l) → H2 D = some (.lst l)) → Fin (.bl true) H2) → yv (f y) (fun x H1 => g x (wipe σ vs) H1 fun σ2 H2 => wipe σ2 vs = wipe σ vs ∧ te σ2 H2 Fin) H')
    (done : ∀ H' n, Same H H' → H' D = some (.lst (List.replicate n (.bl true))) → Q H') : LoopC (as.map f) keep g tYes te vs σ D H Q := by
  refine ⟨α, f, as, fun r H' => ∃ n, Same H H' ∧ H' D = some (.lst (List.replicate n (.bl true))) ∧ n + r.length ≤ 100000 ∧ ∀ x ∈ r, x ∈ as, rfl, ⟨0, same_new hD _, upd_same, by omega, fun _ h => h⟩, ?_, ?_, ?_⟩
  · rintro r H' ⟨n, s, _⟩
    exact hk H' s
  · rintro y r H' ⟨n, s, h1, h2, h3⟩
    rw [List.length_cons] at h2
    refine step y (h3 y (by simp)) H' s _ fun H2 s2 e2 => ?_
    show match H2 D with
      | some (.lst acc) => acc.length < sizeLine ∧ _
      | _ => False
    rw [e2 _ h1]
    refine ⟨sz_lt (by rw [List.length_replicate]; omega), n + 1, same_upd s2 hD _, ?_, by omega, fun x hx => h3 x (List.mem_cons_of_mem _ hx)⟩
    rw [upd_same, List.replicate_succ']
  · rintro H' ⟨n, s, h1, _⟩
    exact done H' n s h1
theorem bls_trues (n : Nat) : blsOf (List.replicate n (.bl true)) = some (List.replicate n true) := by
  induction n with
  | zero => rfl
  | succ n ih => rw [List.replicate_succ, List.replicate_succ, blsOf, ih]; rfl
theorem all_trues (n : Nat) : (List.replicate n true).all id = true := by
  induction n with
  | zero => rfl
  | succ n ih => rw [List.replicate_succ, List.all_cons, ih]; rfl
theorem mem_upto {j x : Int} (h : x ∈ upto 0 j) : ∃ n : Nat, x = (n : Int) ∧ (n : Int) < j := by
  unfold upto at h
  obtain ⟨n, h1, h2⟩ := List.mem_map.mp h
  have h3 := List.mem_range.mp h1
  exact ⟨n, by omega, by omega⟩
end Fk
/-! ### Fk6: what the top has: defs, classes, tuples -/
namespace Fk
open PySem L2
def FnG (K : PySem.W.Frag) (x qual : Str) (st : Stmt) (f : Addr) : Prop := ∃ fd, Fun K x qual st f fd
theorem fn_g {K : PySem.W.Frag} {x qual : Str} {st : Stmt} {f : Addr} {oc : Value} {od an : Option Addr} {osl : Array (Option Value)} {kV doc pm cdv ct : Value} (l : K.lookup f = some ⟨oc, od, .func (PySem.W.fnOf x qual (defArgs st) (defBody st) (defScope st) .none kV doc pm an cdv ct), osl⟩)
    (c : PySem.W.codeIn K cdv qual = true) (k : PySem.W.keepIn K (.ref f) = true) : FnG K x qual st f := ⟨_, fun_mk l c k⟩
def ClsG (K : PySem.W.Frag) (C : Addr) : Prop := Cls K C
theorem cls_g {K : PySem.W.Frag} {C : Addr} (pg : PySem.W.plainGet K C Str.empty = true) (hd : PySem.W.hasDictIn K C = true) (po : PySem.W.plainOver K C = true) (sa : PySem.W.findIn K (.ref C) "__setattr__" = some (some (.builtin "object.__setattr__"))) : ClsG K C := ⟨pg, hd, po, sa⟩
def TupG (K : PySem.W.Frag) (a : Addr) (xs : List V) : Prop := ∃ (o : Obj) (its : Array Value) (n : Nat), K.lookup a = some o ∧ o.cls = .type "tuple" ∧ o.data = .seq its n ∧ its.size ≤ sizeLine ∧ Vals xs its.toList
theorem tup_g {K : PySem.W.Frag} {a : Addr} {xs : List V} {od : Option Addr} {its : Array Value} {n : Nat} {sl : Array (Option Value)} (l : K.lookup a = some ⟨.type "tuple", od, .seq its n, sl⟩) (s : its.size ≤ sizeLine) (v : Vals xs its.toList) : TupG K a xs := ⟨_, its, n, l, rfl, rfl, s, v⟩
theorem TupG.sq {K : PySem.W.Frag} {a : Addr} {xs : List V} (t : TupG K a xs) (H : Hp) : SqT K H a xs := .inr t
theorem exm_own {K : PySem.W.Frag} {S : Addr} (h1 : PySem.W.subIn K (.ref S) (.type "BaseException") = some true) (h2 : PySem.W.isClsIn K S = true) (h3 : PySem.W.typeIn K (.ref S) = some (.type "type")) (h4 : PySem.W.subIn K (.ref S) (.ref S) = some true) : PySem.W.exmOne K (.ref S) (.ref S) = some true := by
  have e2 : (PySem.W.clsIn K S).isSome = true := h2
  unfold PySem.W.exmOne PySem.W.kitCls
  simp only [h1, h3, h4, e2]
  rfl
end Fk
/-! the reader's mirror: plain functions over words -/
namespace Fk
open PySem L2
def ch (c : Nat) : Str := ⟨#[c]⟩
def seps : List Nat := [40, 41, 32, 10]
def wflush (ws : List Str) (run : Str) : List Str := if run = "" then ws else ws ++ [run]
def wstep (s : List Str × Str) (c : Nat) : List Str × Str :=
  if c ∈ seps then (if c = 40 ∨ c = 41 then wflush s.1 s.2 ++ [ch c] else wflush s.1 s.2, "") else (s.1, s.2 ++ ch c)
def wordsFrom (s : List Str × Str) (cs : List Nat) : List Str := wflush (cs.foldl wstep s).1 (cs.foldl wstep s).2
def wordsOf (cs : List Nat) : List Str := wordsFrom ([], "") cs
def lettersS : Str := "abcdefghijklmnopqrstuvwxyz"
def figuresS : Str := "0123456789"
def keptS : List Str := ["def", "fn", "call", "let", "rec", "get", "tag", "case", "row", "at", "join", "size", "add", "sub", "less"]
def isName (w : Str) : Bool :=
  !(decide (w.length = 0) || decide (12 < w.length) || decide (w ∈ keptS)) && (match w.cps.toList with
    | [] => false
    | c :: _ => decide (c ∈ lettersS.cps.toList)) && w.cps.toList.all fun c => decide (c ∈ lettersS.cps.toList) || decide (c ∈ figuresS.cps.toList)
def isNumber (w : Str) : Bool :=
  !(decide (w.length = 0) || decide (60 < w.length)) && (w.cps.toList.all fun c => decide (c ∈ figuresS.cps.toList)) && (match w.cps.toList with
    | [] => false
    | c :: _ => !decide (ch c = "0") || decide (w = "0"))
def numOf (w : Str) : Int := (PySem.intText? w).getD 0
abbrev Rows := List PyData
abbrev RS := List Str × Rows
def taken (ws : List Str) : Option (Str × List Str) := match ws with
  | [] => none
  | w :: r => if w = "" then none else some (w, r)
theorem taken_some {ws r : List Str} {w : Str} (h : taken ws = some (w, r)) : ws = w :: r ∧ w ≠ "" := by
  cases ws with
  | nil => cases h
  | cons x l =>
    unfold taken at h
    simp only at h
    split at h
    · cases h
    · next h2 => cases h; exact ⟨rfl, h2⟩
def ahead (ws : List Str) : Str := match ws with
  | [] => ""
  | w :: _ => w
def want (x : Str) (ws : List Str) : Option (List Str) := match taken ws with
  | none => none
  | some (w, r) => if w = x then some r else none
def named (ws : List Str) : Option (Str × List Str) := match taken ws with
  | none => none
  | some (w, r) => if isName w then some (w, r) else none
abbrev RE := List Str → Rows → Option (Nat × List Str × Rows)
/-- names and EXPRs by a pattern's codes -/
def pieces (ex : RE) : List Nat → List Str → Rows → Option (List PyData × List Str × Rows)
  | [], ws, rows => some ([], ws, rows)
  | c :: cs, ws, rows =>
    if c = 120 then (match named ws with
      | none => none
      | some (w, ws) => (match pieces ex cs ws rows with
        | none => none
        | some (ps, ws, rows) => some (.str w :: ps, ws, rows)))
    else (match ex ws rows with
      | none => none
      | some (p, ws, rows) => (match pieces ex cs ws rows with
        | none => none
        | some (ps, ws, rows) => some (.int (p : Int) :: ps, ws, rows)))
def many (ex : RE) (pat : List Nat) : Nat → List Str → Rows → Option (List PyData × List Str × Rows)
  | k, ws, rows =>
    if ahead ws = ")" then some ([], ws, rows)
    else match k with
      | 0 => none
      | k + 1 => (match pieces ex pat ws rows with
        | none => none
        | some (ps, ws, rows) => (match many ex pat k ws rows with
          | none => none
          | some (qs, ws, rows) => some (.tuple ps :: qs, ws, rows)))
theorem many_end {ex : RE} {pat : List Nat} {k : Nat} {ws : List Str} {rows : Rows} (h : ahead ws = ")") : many ex pat k ws rows = some ([], ws, rows) := by
  cases k <;> simp only [many, if_pos h]
theorem many_zero {ex : RE} {pat : List Nat} {ws : List Str} {rows : Rows} (h : ¬ ahead ws = ")") : many ex pat 0 ws rows = none := by
  simp only [many, if_neg h]
theorem many_succ {ex : RE} {pat : List Nat} {k : Nat} {ws : List Str} {rows : Rows} (h : ¬ ahead ws = ")") : many ex pat (k + 1) ws rows = (match pieces ex pat ws rows with
        | none => none
        | some (ps, ws, rows) => (match many ex pat k ws rows with
          | none => none
          | some (qs, ws, rows) => some (.tuple ps :: qs, ws, rows))) := by
  simp only [many, if_neg h]
theorem many_one {ex : RE} : ∀ {k : Nat} {ws ws' : List Str} {rows rows' : Rows} {ps : List PyData}, many ex [101] k ws rows = some (ps, ws', rows') → ∀ d ∈ ps, ∃ p : Int, d = .tuple [.int p] := by
  intro k
  induction k with
  | zero =>
    intro ws ws' rows rows' ps h
    by_cases ha : ahead ws = ")"
    · rw [many_end ha] at h
      cases h
      intro d hd
      cases hd
    · rw [many_zero ha] at h
      cases h
  | succ k ih =>
    intro ws ws' rows rows' ps h
    by_cases ha : ahead ws = ")"
    · rw [many_end ha] at h
      cases h
      intro d hd
      cases hd
    · rw [many_succ ha] at h
      have e : pieces ex [101] ws rows = (match ex ws rows with
        | none => none
        | some (p, ws, rows) => some ([.int (p : Int)], ws, rows)) := by
        simp only [pieces]
        rfl
      rw [e] at h
      cases hx : ex ws rows with
      | none => rw [hx] at h; cases h
      | some t =>
        rw [hx] at h
        simp only at h
        cases hm : many ex [101] k t.2.1 t.2.2 with
        | none => rw [hm] at h; cases h
        | some u =>
          rw [hm] at h
          cases h
          intro d hd
          rcases List.mem_cons.mp hd with rfl | hd
          · exact ⟨_, rfl⟩
          · exact ih hm d hd
theorem pieces_le {ex : RE} : ∀ {pat : List Nat} {ws ws' : List Str} {rows rows' : Rows} {ps : List PyData}, pieces ex pat ws rows = some (ps, ws', rows') → ps.length = pat.length
  | [], ws, ws', rows, rows', ps, h => by
    simp only [pieces] at h
    cases h
    rfl
  | c :: cs, ws, ws', rows, rows', ps, h => by
    simp only [pieces] at h
    split at h
    · cases hx : named ws with
      | none => rw [hx] at h; cases h
      | some t =>
        rw [hx] at h
        simp only at h
        cases hm : pieces ex cs t.2 rows with
        | none => rw [hm] at h; cases h
        | some u =>
          rw [hm] at h
          cases h
          exact congrArg (· + 1) (pieces_le hm)
    · cases hx : ex ws rows with
      | none => rw [hx] at h; cases h
      | some t =>
        rw [hx] at h
        simp only at h
        cases hm : pieces ex cs t.2.1 t.2.2 with
        | none => rw [hm] at h; cases h
        | some u =>
          rw [hm] at h
          cases h
          exact congrArg (· + 1) (pieces_le hm)
theorem many_le {ex : RE} {pat : List Nat} : ∀ {k : Nat} {ws ws' : List Str} {rows rows' : Rows} {ps : List PyData}, many ex pat k ws rows = some (ps, ws', rows') → ps.length ≤ k := by
  intro k
  induction k with
  | zero =>
    intro ws ws' rows rows' ps h
    by_cases ha : ahead ws = ")"
    · rw [many_end ha] at h
      cases h
      exact Nat.le_refl _
    · rw [many_zero ha] at h
      cases h
  | succ k ih =>
    intro ws ws' rows rows' ps h
    by_cases ha : ahead ws = ")"
    · rw [many_end ha] at h
      cases h
      exact Nat.zero_le _
    · rw [many_succ ha] at h
      cases hx : pieces ex pat ws rows with
      | none => rw [hx] at h; cases h
      | some t =>
        rw [hx] at h
        simp only at h
        cases hm : many ex pat k t.2.1 t.2.2 with
        | none => rw [hm] at h; cases h
        | some u =>
          rw [hm] at h
          cases h
          exact Nat.succ_le_succ (ih hm)
def patternOf (h : Str) : Option (List Nat) :=
  if h = "fn" ∨ h = "tag" then some [120, 101]
  else if h = "let" then some [120, 101, 101]
  else if h = "get" then some [101, 120]
  else if h = "size" then some [101]
  else if h = "at" then some [101, 101, 101]
  else if h ∈ (["call", "join", "add", "sub", "less"] : List Str) then some [101, 101]
  else none
def firstOf : PyData → PyData
  | .tuple (x :: _) => x
  | _ => .none
def form (ex : RE) (ws : List Str) (rows : Rows) : Option (PyData × List Str × Rows) := match taken ws with
  | none => none
  | some (h, ws) =>
    if h = "rec" then (match many ex [120, 101] 6 ws rows with
      | none => none
      | some (ps, ws, rows) => some (.tuple [.str h, .tuple ps], ws, rows))
    else if h = "row" then (match many ex [101] 8 ws rows with
      | none => none
      | some (ps, ws, rows) => some (.tuple [.str h, .tuple (ps.map firstOf)], ws, rows))
    else if h = "case" then (match ex ws rows with
      | none => none
      | some (p, ws, rows) => (match many ex [120, 120, 101] 6 ws rows with
        | none => none
        | some (ps, ws, rows) => if ps = [] then none else some (.tuple [.str h, .int (p : Int), .tuple ps], ws, rows)))
    else (match patternOf h with
      | none => none
      | some pat => (match pieces ex pat ws rows with
        | none => none
        | some (ps, ws, rows) => some (.tuple (.str h :: ps), ws, rows)))
/-- the EXPR at depth d; n more depths are in reach -/
def expr : Nat → Nat → RE
  | 0, _, _, _ => none
  | n + 1, d, ws, rows =>
    if 24 < d ∨ 160 ≤ rows.length then none
    else (match taken ws with
      | none => none
      | some (w, ws) =>
        if w = "(" then (match form (expr n (d + 1)) ws (rows ++ [.none]) with
          | none => none
          | some (row, ws, rows') => (match want ")" ws with
            | none => none
            | some ws => some (rows.length, ws, rows'.set rows.length row)))
        else if isNumber w then some (rows.length, ws, rows ++ [.tuple [.str "num", .int (numOf w)]])
        else if isName w then some (rows.length, ws, rows ++ [.tuple [.str "name", .str w]])
        else none)
theorem expr_deep {n d : Nat} {ws : List Str} {rows : Rows} (h : 24 < d) : expr n d ws rows = none := by
  cases n with
  | zero => rfl
  | succ n => rw [expr, if_pos (.inl h)]
theorem expr_full {n d : Nat} {ws : List Str} {rows : Rows} (h : 160 ≤ rows.length) : expr n d ws rows = none := by
  cases n with
  | zero => rfl
  | succ n => rw [expr, if_pos (.inr h)]
theorem expr_go {n d : Nat} {ws : List Str} {rows : Rows} (h : ¬ 24 < d) (h2 : ¬ 160 ≤ rows.length) : expr (n + 1) d ws rows = (match taken ws with
      | none => none
      | some (w, ws) =>
        if w = "(" then (match form (expr n (d + 1)) ws (rows ++ [.none]) with
          | none => none
          | some (row, ws, rows') => (match want ")" ws with
            | none => none
            | some ws => some (rows.length, ws, rows'.set rows.length row)))
        else if isNumber w then some (rows.length, ws, rows ++ [.tuple [.str "num", .int (numOf w)]])
        else if isName w then some (rows.length, ws, rows ++ [.tuple [.str "name", .str w]])
        else none) := by
  rw [expr, if_neg (by omega)]
/-- an EXPR leaves more rows -/
def Grow (ex : RE) : Prop := ∀ ws rows p ws' rows', ex ws rows = some (p, ws', rows') → rows.length < rows'.length
theorem pieces_grow {ex : RE} (g : Grow ex) : ∀ {pat : List Nat} {ws ws' : List Str} {rows rows' : Rows} {ps : List PyData}, pieces ex pat ws rows = some (ps, ws', rows') → rows.length ≤ rows'.length
  | [], ws, ws', rows, rows', ps, h => by
    simp only [pieces] at h
    cases h
    exact Nat.le_refl _
  | c :: cs, ws, ws', rows, rows', ps, h => by
    simp only [pieces] at h
    split at h
    · cases hx : named ws with
      | none => rw [hx] at h; cases h
      | some t =>
        rw [hx] at h
        simp only at h
        cases hm : pieces ex cs t.2 rows with
        | none => rw [hm] at h; cases h
        | some u =>
          rw [hm] at h
          cases h
          exact pieces_grow g hm
    · cases hx : ex ws rows with
      | none => rw [hx] at h; cases h
      | some t =>
        rw [hx] at h
        simp only at h
        cases hm : pieces ex cs t.2.1 t.2.2 with
        | none => rw [hm] at h; cases h
        | some u =>
          rw [hm] at h
          cases h
          exact Nat.le_trans (Nat.le_of_lt (g _ _ _ _ _ hx)) (pieces_grow g hm)
theorem many_grow {ex : RE} (g : Grow ex) {pat : List Nat} : ∀ {k : Nat} {ws ws' : List Str} {rows rows' : Rows} {ps : List PyData}, many ex pat k ws rows = some (ps, ws', rows') → rows.length ≤ rows'.length := by
  intro k
  induction k with
  | zero =>
    intro ws ws' rows rows' ps h
    by_cases ha : ahead ws = ")"
    · rw [many_end ha] at h
      cases h
      exact Nat.le_refl _
    · rw [many_zero ha] at h
      cases h
  | succ k ih =>
    intro ws ws' rows rows' ps h
    by_cases ha : ahead ws = ")"
    · rw [many_end ha] at h
      cases h
      exact Nat.le_refl _
    · rw [many_succ ha] at h
      cases hx : pieces ex pat ws rows with
      | none => rw [hx] at h; cases h
      | some t =>
        rw [hx] at h
        simp only at h
        cases hm : many ex pat k t.2.1 t.2.2 with
        | none => rw [hm] at h; cases h
        | some u =>
          rw [hm] at h
          cases h
          exact Nat.le_trans (pieces_grow g hx) (ih hm)
theorem form_grow {ex : RE} (g : Grow ex) {ws ws' : List Str} {rows rows' : Rows} {row : PyData} (h : form ex ws rows = some (row, ws', rows')) : rows.length ≤ rows'.length := by
  unfold form at h
  cases ht : taken ws with
  | none => rw [ht] at h; cases h
  | some t =>
    rw [ht] at h
    simp only at h
    split at h
    · cases hm : many ex [120, 101] 6 t.2 rows with
      | none => rw [hm] at h; cases h
      | some u => rw [hm] at h; cases h; exact many_grow g hm
    · split at h
      · cases hm : many ex [101] 8 t.2 rows with
        | none => rw [hm] at h; cases h
        | some u => rw [hm] at h; cases h; exact many_grow g hm
      · split at h
        · cases hx : ex t.2 rows with
          | none => rw [hx] at h; cases h
          | some v =>
            rw [hx] at h
            simp only at h
            cases hm : many ex [120, 120, 101] 6 v.2.1 v.2.2 with
            | none => rw [hm] at h; cases h
            | some u =>
              rw [hm] at h
              simp only at h
              split at h
              · cases h
              · cases h
                exact Nat.le_trans (Nat.le_of_lt (g _ _ _ _ _ hx)) (many_grow g hm)
        · cases hp : patternOf t.1 with
          | none => rw [hp] at h; cases h
          | some pat =>
            rw [hp] at h
            simp only at h
            cases hm : pieces ex pat t.2 rows with
            | none => rw [hm] at h; cases h
            | some u => rw [hm] at h; cases h; exact pieces_grow g hm
theorem expr_grow : ∀ (n d : Nat), Grow (expr n d)
  | 0, d, ws, rows, p, ws', rows', h => by cases h
  | n + 1, d, ws, rows, p, ws', rows', h => by
    by_cases h1 : 24 < d
    · rw [expr_deep h1] at h; cases h
    · by_cases h2 : 160 ≤ rows.length
      · rw [expr_full h2] at h; cases h
      · rw [expr_go h1 h2] at h
        cases ht : taken ws with
        | none => rw [ht] at h; cases h
        | some t =>
          rw [ht] at h
          simp only at h
          split at h
          · cases hf : form (expr n (d + 1)) t.2 (rows ++ [.none]) with
            | none => rw [hf] at h; cases h
            | some u =>
              rw [hf] at h
              simp only at h
              cases hw : want ")" u.2.1 with
              | none => rw [hw] at h; cases h
              | some v =>
                rw [hw] at h
                cases h
                have := form_grow (expr_grow n (d + 1)) hf
                rw [List.length_append] at this
                rw [List.length_set]
                exact this
          · split at h
            · cases h
              rw [List.length_append]
              exact Nat.lt_succ_self _
            · split at h
              · cases h
                rw [List.length_append]
                exact Nat.lt_succ_self _
              · cases h
/-- the definitions, at most k more -/
def defs : Nat → List Str → Rows → Option (List Str × List Int × Rows)
  | k, ws, rows =>
    if ahead ws = "" then some ([], [], rows)
    else match k with
      | 0 => none
      | k + 1 => (match want "(" ws with
        | none => none
        | some ws => (match want "def" ws with
          | none => none
          | some ws => (match named ws with
            | none => none
            | some (x, ws) => (match expr 24 1 ws rows with
              | none => none
              | some (p, ws, rows) => (match want ")" ws with
                | none => none
                | some ws => (match defs k ws rows with
                  | none => none
                  | some (xs, ps, rows) => some (x :: xs, (p : Int) :: ps, rows)))))))
def readM (ws : List Str) : Option (List Str × List Int × Rows) := match defs 12 ws [] with
  | none => none
  | some (xs, ps, rows) => if xs = [] then none else some (xs, ps, rows)
theorem defs_end {k : Nat} {ws : List Str} {rows : Rows} (h : ahead ws = "") : defs k ws rows = some ([], [], rows) := by
  cases k <;> simp only [defs, if_pos h]
theorem defs_zero {ws : List Str} {rows : Rows} (h : ¬ ahead ws = "") : defs 0 ws rows = none := by
  simp only [defs, if_neg h]
theorem defs_succ {k : Nat} {ws : List Str} {rows : Rows} (h : ¬ ahead ws = "") : defs (k + 1) ws rows = (match want "(" ws with
        | none => none
        | some ws => (match want "def" ws with
          | none => none
          | some ws => (match named ws with
            | none => none
            | some (x, ws) => (match expr 24 1 ws rows with
              | none => none
              | some (p, ws, rows) => (match want ")" ws with
                | none => none
                | some ws => (match defs k ws rows with
                  | none => none
                  | some (xs, ps, rows) => some (x :: xs, (p : Int) :: ps, rows))))))) := by
  simp only [defs, if_neg h]
theorem wflush_len (ws : List Str) (run : Str) : (wflush ws run).length ≤ ws.length + 1 := by
  unfold wflush
  split
  · omega
  · rw [List.length_append]
    exact Nat.le_refl _
theorem words_len : ∀ (cs : List Nat) (ws : List Str) (run : Str), (wordsFrom (ws, run) cs).length ≤ ws.length + 2 * cs.length + 1
  | [], ws, run => by
    have := wflush_len ws run
    show (wflush ws run).length ≤ _
    simp only [List.length_nil]
    omega
  | c :: cs, ws, run => by
    have e : wordsFrom (ws, run) (c :: cs) = wordsFrom (wstep (ws, run) c) cs := rfl
    rw [e]
    have h := words_len cs (wstep (ws, run) c).1 (wstep (ws, run) c).2
    have h2 : (wstep (ws, run) c).1.length ≤ ws.length + 2 := by
      have := wflush_len ws run
      unfold wstep
      split
      · dsimp only
        split
        · rw [List.length_append]
          simp only [List.length_cons, List.length_nil]
          omega
        · omega
      · dsimp only
        omega
    have h3 : wordsFrom (wstep (ws, run) c) cs = wordsFrom ((wstep (ws, run) c).1, (wstep (ws, run) c).2) cs := rfl
    rw [h3]
    simp only [List.length_cons]
    omega
theorem wflush_each {N : Nat} {ws : List Str} {run : Str} (h1 : ∀ x ∈ ws, x.length ≤ N) (h2 : run.length ≤ N) : ∀ x ∈ wflush ws run, x.length ≤ N := by
  unfold wflush
  split
  · exact h1
  · intro x hx
    rcases List.mem_append.mp hx with hx | hx
    · exact h1 x hx
    · rw [List.mem_singleton.mp hx]
      exact h2
theorem words_each {N : Nat} (hN : 1 ≤ N) : ∀ (cs : List Nat) (ws : List Str) (run : Str), (∀ x ∈ ws, x.length ≤ N) → run.length + cs.length ≤ N → ∀ x ∈ wordsFrom (ws, run) cs, x.length ≤ N
  | [], ws, run, h1, h2 => wflush_each h1 h2
  | c :: cs, ws, run, h1, h2 => by
    have e : wordsFrom (ws, run) (c :: cs) = wordsFrom ((wstep (ws, run) c).1, (wstep (ws, run) c).2) cs := rfl
    rw [e]
    simp only [List.length_cons] at h2
    have hf := wflush_each h1 (show run.length ≤ N by omega)
    refine words_each hN cs _ _ ?_ ?_
    · unfold wstep
      split
      · dsimp only
        split
        · intro x hx
          rcases List.mem_append.mp hx with hx | hx
          · exact hf x hx
          · rw [List.mem_singleton.mp hx]
            exact hN
        · exact hf
      · exact h1
    · unfold wstep
      split
      · show (Str.ofString "").length + _ ≤ _
        rw [show (Str.ofString "").length = 0 by decide +kernel]
        omega
      · show (run.cps ++ #[c]).size + _ ≤ _
        have : run.length = run.cps.size := rfl
        rw [Array.size_append]
        show run.cps.size + 1 + _ ≤ _
        omega
end Fk
namespace Fk
open PySem L2
def topS (i : Nat) : Stmt := PySem.Challenge.pw_flowkinds_k08_nests_by_each_spot.main.body.getD i (.Pass ⟨0, 0, 0, 0⟩)
local macro_rules | `(tactic| walk_at "ev") => `(tactic| try simp only [cx_K, L2.start, List.map_cons, List.map_nil, List.length_cons, List.length_nil, Nat.reduceAdd, Nat.reduceSub, Nat.reduceLT, List.replicate_succ, List.replicate_zero, List.cons_append, List.nil_append, Nat.zero_add, Nat.add_zero,
  tSeq, tAsg, tLst, tTup, tNil, tCons, tC, tOp, tUn, gName, tNext, tRet, tRetN, tIfS, tDrop, tCB, tCall, tMeth, tMake, tIf, tAnd, tOr, tNot, tAndV, tOrV, tNotV, qFor, qLc, tYes, wStr, wLst, wTup, wRng1, wRng2, wEnum, wZip, wRev, qVar, asB_bl, qAdd_ii, qAdd_ss, qSub_ii, qMul_ii, qMod_ii, qDiv_ii, qPow_ii, qCmpI_ii, qEq_ii, qEq_ss, qEq_bb, qIsN_n, qIsN_i, qIsN_s, qIsN_b, qIsN_r, qInS_s, qInT_r, qIx_s, qIx_r, qT, qIAdd_ii, qIAdd_ss, qLen_s, qLen_r, qAbs_i, qMax2_ii, qMin2_ii, qInt_i, qInt_b, qInt_s, qStrC_i, qStrC_s, qList_r, qTuple_r, tupleAs_l, tupleAs_t, qDivmod_ii, qAll_r, qAny_r, qSl_s, tSl, tNoPart, tPart, qPar, qPar3,
  qApp, qExt, qPop, isLst, qFld, qSetF, qAugF, qAug, qgTup, qgCons, qgNil, gSub, qSetL, yv, wipe,
  List.getElem?_cons_zero, List.getElem?_cons_succ, List.set_cons_zero, List.set_cons_succ, upd_same, lstOf, tupOf, seqOf, at0, at1, at2, at3, ix0, ix1, ix2, sz0, sz1, sz2, sz3, sz4, sz5, sz6, sz7, sz8, sz15, true_and, and_true, and_self, if_true, if_false, if_pos,
  beq_t, beq_f, decide_eq_true_eq, decide_eq_false_iff_not, Bool.not_eq_true', Bool.not_eq_true, Bool.not_eq_false, Bool.not_true, Bool.not_false, Bool.false_eq_true, reduceCtorEq, ite_not, if_true, if_false, reduceIte, V.int.injEq, V.str.injEq, V.bl.injEq, V.ref.injEq, List.append_nil, forall_eq', exists_eq_left, exists_eq_left'])
-- words_of  names ["text", "words", "run", "sign"]  needs []
abbrev s_words_of : Stmt := topS 10
theorem sc_words_of : FnScope ["text", "words", "run", "sign"] ["text"] (defScope s_words_of) := ⟨rfl, rfl, rfl, by decide +kernel, rfl, by decide +kernel, by decide +kernel⟩
-- is_name  names ["word", "sign"]  needs ['z_len', 'g_KEPT', 'g_LETTERS', 'g_FIGURES']
abbrev s_is_name : Stmt := topS 11
theorem sc_is_name : FnScope ["word", "sign"] ["word"] (defScope s_is_name) := ⟨rfl, rfl, rfl, by decide +kernel, rfl, by decide +kernel, by decide +kernel⟩
-- is_number  names ["word", "sign"]  needs ['z_len', 'g_FIGURES']
abbrev s_is_number : Stmt := topS 12
theorem sc_is_number : FnScope ["word", "sign"] ["word"] (defScope s_is_number) := ⟨rfl, rfl, rfl, by decide +kernel, rfl, by decide +kernel, by decide +kernel⟩
-- pattern_of  names ["head"]  needs ['e_BadText']
abbrev s_pattern_of : Stmt := topS 13
theorem sc_pattern_of : FnScope ["head"] ["head"] (defScope s_pattern_of) := ⟨rfl, rfl, rfl, by decide +kernel, rfl, by decide +kernel, by decide +kernel⟩
theorem seps_eq : (Str.ofString "() \n").cps.toList = seps := by decide +kernel
theorem ch40 : ({ cps := #[40] } : Str) = "(" := by decide +kernel
theorem ch41 : ({ cps := #[41] } : Str) = ")" := by decide +kernel
theorem ch_inj {c d : Nat} (h : ({ cps := #[c] } : Str) = { cps := #[d] }) : c = d := by
  injection h with h
  have := congrArg Array.toList h
  simpa using this
theorem ch_eq40 (c : Nat) : (({ cps := #[c] } : Str) = "(") = (c = 40) := propext ⟨fun h => ch_inj (h.trans ch40.symm), fun h => by rw [h]; exact ch40⟩
theorem ch_eq41 (c : Nat) : (({ cps := #[c] } : Str) = ")") = (c = 41) := propext ⟨fun h => ch_inj (h.trans ch41.symm), fun h => by rw [h]; exact ch41⟩
theorem str_app_len (a b : Str) : (a ++ b).length = a.length + b.length := Array.size_append
theorem len_toList (z : Str) : z.cps.toList.length = z.length := Array.length_toList
def sp_words_of : Sp := fun vs H Q _ => ∃ z : Str, vs = [.str z] ∧ z.length ≤ 100000 ∧ ∀ p H', Same H H' → H p = none → H' p = some (.lst ((wordsOf z.cps.toList).map V.str)) → Q (.ref p) H'
def iv_words (z : Str) (p : Addr) (H : Hp) (r : List Nat) (σ : St) (H' : Hp) : Prop :=
  ∃ ws run x, σ = [some (.str z), some (.ref p), some (.str run), x] ∧ Same H H' ∧ H' p = some (.lst (ws.map V.str)) ∧ wordsFrom (ws, run) r = wordsOf z.cps.toList ∧ ws.length + 2 * r.length ≤ 200000 ∧ run.length + r.length ≤ 100000
section
variable {P : Program} {w : World} {K : PySem.W.Frag} {mg : Str → Option Value} {base : Heap}
theorem ok_words_of {f : Addr} {fd : FuncData} (F : Fun K "words_of" "words_of" s_words_of f fd) : FnOk P w K mg base CX0 1 f fd ["text"] sp_words_of := by
  refine F.ok sc_words_of (fun vs H Q E h => by obtain ⟨z, rfl, _⟩ := h; rfl) (fun cdv A outer s H vs Q E hr h => ?_)
  have hu64 := hr.units
  refine ⟨_, (pss_cons (ps_set (i := 1) sc_words_of.nd rfl (Or.inl rfl) (pe_lst pa_nil))
  (pss_cons (ps_set (i := 2) sc_words_of.nd rfl (Or.inl rfl) pe_str)
  (pss_cons (xfor PassesOwn.never (xistr (xv 0)) (pg_name (i := 3) sc_words_of.nd rfl (Or.inl rfl))
  (pss_one (ps_if (xt yins (xv 3) pe_str (by rfl)) (pss_cons (ps_if (xt (yne hu64) (xv 2) pe_str (nomark _)) (pss_cons (ps_expr (xapp (xv 1) (xv 2)))
  (pss_one (ps_set (i := 2) sc_words_of.nd rfl (Or.inl rfl) pe_str))) pss_nil)
  (pss_one (ps_if (PW.pt (pw_or (xt (yeq hu64) (xv 3) pe_str (nomark _)) (pw_or1 (xt (yeq hu64) (xv 3) pe_str (nomark _))))) (pss_one (ps_expr (xapp (xv 1) (xv 3)))) pss_nil))) (pss_one (xaug (i := 2) sc_words_of.nd rfl (Or.inl rfl) (xv 3) yiadd)))))
  (pss_cons (ps_if (xt (yne hu64) (xv 2) pe_str (nomark _)) (pss_one (ps_expr (xapp (xv 1) (xv 2)))) pss_nil)
  (pss_one (ps_ret (xv 1))))))), ?_⟩
  obtain ⟨z, rfl, hz, q⟩ := h
  walk_at "ev"
  intro p hp
  have hzl := len_toList z
  refine ⟨Nat, _, z.cps.toList, iv_words z p H, rfl, ?_, fun _ _ _ _ => trivial, ?_, ?_⟩
  · exact ⟨[], "", none, rfl, same_new hp _, upd_same, rfl, by show 0 + _ ≤ _; omega, by show 0 + _ ≤ _; omega⟩
  · rintro c r σ H' ⟨ws, run, x, rfl, hS, hpw, hfin, hb1, hb2⟩
    rw [List.length_cons] at hb1 hb2
    have hfin' : wordsFrom (wstep (ws, run) c) r = wordsOf z.cps.toList := hfin
    unfold wstep at hfin'
    have hl : (ws.map V.str).length = ws.length := List.length_map _
    walk_at "ev"
    simp only [hpw, seps_eq, ch_eq40, ch_eq41]
    have s1 : (ws.map V.str).length < sizeLine := by rw [hl]; exact sz_lt (by omega)
    have s2 : (ws.map V.str ++ [V.str run]).length < sizeLine := by rw [List.length_append, hl]; exact sz_lt (by show _ + 1 ≤ _; omega)
    have s3 : run.length + ({ cps := #[c] } : Str).length ≤ sizeLine := sz_of (by show run.length + 1 ≤ _; omega)
    have m1 : ws.map V.str ++ [V.str ⟨#[c]⟩] = (ws ++ [ch c]).map V.str := by rw [List.map_append]; rfl
    have m2 : ws.map V.str ++ [V.str run] = (ws ++ [run]).map V.str := by rw [List.map_append]; rfl
    have m3 : (ws ++ [run]).map V.str ++ [V.str ⟨#[c]⟩] = (ws ++ [run] ++ [ch c]).map V.str := by rw [List.map_append (l₂ := [ch c])]; rfl
    have ln (a b : List Str) : (a ++ b).length = a.length + b.length := List.length_append
    have e1 : (Str.ofString "").length = 0 := by decide +kernel
    split
    · next hc =>
      rw [if_pos hc] at hfin'
      have k (l : List Str) (o : Option V) (H2 : Hp) (hH : Same H H2) (h2 : H2 p = some (.lst (l.map V.str))) (hw : wordsFrom (l, Str.ofString "") r = wordsOf z.cps.toList) (hn : l.length ≤ ws.length + 2) :
          iv_words z p H r [some (.str z), some (.ref p), some (.str (Str.ofString "")), o] H2 := ⟨l, _, o, rfl, hH, h2, hw, by omega, by rw [e1]; omega⟩
      split
      · next hr0 =>
        simp only [wflush, if_pos hr0] at hfin'
        subst hr0
        split
        · next h40 =>
          rw [if_pos (.inl h40)] at hfin'
          exact ⟨trivial, s1, k _ _ _ (same_upd hS hp _) (by rw [upd_same, m1]) hfin' (by rw [ln]; simp only [List.length_cons, List.length_nil]; omega)⟩
        · next h40 =>
          split
          · next h41 =>
            rw [if_pos (.inr h41)] at hfin'
            exact ⟨trivial, s1, k _ _ _ (same_upd hS hp _) (by rw [upd_same, m1]) hfin' (by rw [ln]; simp only [List.length_cons, List.length_nil]; omega)⟩
          · next h41 =>
            rw [if_neg (by rintro (h | h) <;> contradiction)] at hfin'
            exact k _ _ _ hS hpw hfin' (by omega)
      · next hr0 =>
        simp only [wflush, if_neg hr0] at hfin'
        refine ⟨trivial, s1, ?_⟩
        split
        · next h40 =>
          rw [if_pos (.inl h40)] at hfin'
          exact ⟨s2, k _ _ _ (same_upd (same_upd hS hp _) hp _) (by rw [upd_same, m2, m3]) hfin' (by rw [ln, ln]; simp only [List.length_cons, List.length_nil]; omega)⟩
        · next h40 =>
          split
          · next h41 =>
            rw [if_pos (.inr h41)] at hfin'
            exact ⟨s2, k _ _ _ (same_upd (same_upd hS hp _) hp _) (by rw [upd_same, m2, m3]) hfin' (by rw [ln, ln]; simp only [List.length_cons, List.length_nil]; omega)⟩
          · next h41 =>
            rw [if_neg (by rintro (h | h) <;> contradiction)] at hfin'
            exact k _ _ _ (same_upd hS hp _) (by rw [upd_same, m2]) hfin' (by rw [ln]; simp only [List.length_cons, List.length_nil]; omega)
    · next hc =>
      rw [if_neg hc] at hfin'
      exact ⟨s3, ws, _, _, rfl, hS, hpw, hfin', by omega, by rw [str_app_len]; show run.length + 1 + _ ≤ _; omega⟩
  · rintro σ H' ⟨ws, run, x, rfl, hS, hpw, hfin, hb1, hb2⟩
    have hl : (ws.map V.str).length = ws.length := List.length_map _
    have s1 : (ws.map V.str).length < sizeLine := by rw [hl]; exact sz_lt (by omega)
    have hfin' : wflush ws run = wordsOf z.cps.toList := hfin
    unfold wflush at hfin'
    walk_at "ev"
    simp only [hpw]
    split
    · next hr0 =>
      rw [if_pos hr0] at hfin'
      exact q p H' hS hp (by rw [hpw, hfin'])
    · next hr0 =>
      rw [if_neg hr0] at hfin'
      exact ⟨trivial, s1, q p _ (same_upd hS hp _) hp (by rw [upd_same, ← hfin', List.map_append]; rfl)⟩
theorem in_strs (w : Str) (l : List Str) : inV (.str w) (l.map V.str) = decide (w ∈ l) := by
  unfold inV
  rw [List.any_map]
  induction l with
  | nil => rfl
  | cons a l ih =>
    rw [List.any_cons, ih]
    have e : eqV (.str a) (.str w) = decide (w = a) := by
      show decide (a = w) = decide (w = a)
      by_cases h : a = w
      · rw [h]
      · rw [decide_eq_false h, decide_eq_false (Ne.symm h)]
    show (eqV (.str a) (.str w) || _) = _
    rw [e]
    by_cases h : w = a
    · simp [h]
    · simp [h]
def keptV : List V := keptS.map V.str
/-- the module's texts and words -/
structure Cn (K : PySem.W.Frag) (mg : Str → Option Value) : Prop where
  len : mg "len" = none
  let_ : ∃ t, mg "LETTERS" = some (.str "abcdefghijklmnopqrstuvwxyz" t)
  fig : ∃ t, mg "FIGURES" = some (.str "0123456789" t)
  kept : ∃ a, mg "KEPT" = some (.ref a) ∧ ∀ H, SqT K H a keptV
def sp_is_name : Sp := fun vs H Q _ => ∃ z : Str, vs = [.str z] ∧ z.length ≤ 100000 ∧ Q (.bl (isName z)) H
theorem ok_is_name {f : Addr} {fd : FuncData} (F : Fun K "is_name" "is_name" s_is_name f fd) (T : Cn K mg) : FnOk P w K mg base CX0 1 f fd ["word"] sp_is_name := by
  have z_len := T.len
  have g_LETTERS := T.let_
  have g_FIGURES := T.fig
  obtain ⟨ak, g_KEPT, hk⟩ := T.kept
  refine F.ok sc_is_name (fun vs H Q E h => by obtain ⟨z, rfl, _⟩ := h; rfl) (fun cdv A outer s H vs Q E hr h => ?_)
  have hu64 := hr.units
  refine ⟨_, (pss_cons (ps_if (PW.pt (pw_or (xt (yeq hu64) (pe_callB ylen (by rfl) z_len PySem.boot_len (pa_cons (xv 0) pa_nil)) pe_int (nomark _)) (pw_or (xt ygt (pe_callB ylen (by rfl) z_len PySem.boot_len (pa_cons (xv 0) pa_nil)) pe_int (nomark _)) (pw_or1 (xt yint (xv 0) (pe_gr g_KEPT) (by rfl)))))) (pss_one (ps_ret pe_bl)) pss_nil)
  (pss_cons (ps_if (xt ynins (pe_ix yix (xv 0) pe_int (fun _ _ => rfl)) (pe_gs g_LETTERS) (by rfl)) (pss_one (ps_ret pe_bl)) pss_nil)
  (pss_cons (xfor PassesOwn.never (xistr (xv 0)) (pg_name (i := 1) sc_is_name.nd rfl (Or.inl rfl))
  (pss_one (ps_if (PW.pt (pw_and (xt ynins (xv 1) (pe_gs g_LETTERS) (by rfl)) (pw_and1 (xt ynins (xv 1) (pe_gs g_FIGURES) (by rfl))))) (pss_one (ps_ret pe_bl)) pss_nil)))
  (pss_one (ps_ret pe_bl))))), ?_⟩
  obtain ⟨z, rfl, hz, q⟩ := h
  walk_at "ev"
  have hzl := len_toList z
  have hs : z.length ≤ sizeLine := sz_of (by omega)
  have e0 : ((z.length : Int) = 0) = (z.length = 0) := propext (by omega)
  have e12 : (12 < (z.length : Int)) = (12 < z.length) := propext (by omega)
  simp only [e0, e12]
  unfold isName at q
  refine ⟨hs, ?_⟩
  split
  · next h => simpa only [decide_eq_true h, Bool.true_or, Bool.not_true, Bool.false_and] using q
  · next h =>
    refine ⟨hs, ?_⟩
    split
    · next h2 => simpa only [decide_eq_true h2, Bool.true_or, Bool.or_true, Bool.not_true, Bool.false_and] using q
    · next h2 =>
      refine ⟨keptV, .inr (hk H), rfl, by decide +kernel, ?_⟩
      simp only [(show inV (.str z) keptV = decide (z ∈ keptS) from in_strs z keptS), decide_eq_true_eq]
      split
      · next h3 => simpa only [decide_eq_true h3, Bool.or_true, Bool.not_true, Bool.false_and] using q
      · next h3 =>
        simp only [decide_eq_false h, decide_eq_false h2, decide_eq_false h3, Bool.or_self, Bool.not_false, Bool.true_and] at q
        cases hc : z.cps.toList with
        | nil => rw [hc] at hzl; exact absurd hzl.symm h
        | cons c l =>
          rw [hc] at q
          simp only [at0]
          refine ⟨hs, ?_⟩
          split
          · next h4 =>
            have h4' : decide (c ∈ lettersS.cps.toList) = true := decide_eq_true h4
            simp only [h4', Bool.true_and] at q
            refine ⟨Nat, _, c :: l, fun r σ H' => (∃ x, σ = [some (.str z), x]) ∧ H' = H ∧ Q (.bl (r.all fun c => decide (c ∈ lettersS.cps.toList) || decide (c ∈ figuresS.cps.toList))) H, rfl, ⟨⟨_, rfl⟩, rfl, q⟩, fun _ _ _ _ => trivial, ?_, ?_⟩
            · rintro d r σ H' ⟨⟨x, rfl⟩, rfl, q⟩
              rw [List.all_cons] at q
              walk_at "ev"
              split
              · next h5 =>
                refine ⟨⟨_, rfl⟩, ?_⟩
                have h5' : decide (d ∈ lettersS.cps.toList) = true := decide_eq_true h5
                simpa only [h5', Bool.true_or, Bool.true_and] using q
              · next h5 =>
                have h5' : decide (d ∈ lettersS.cps.toList) = false := decide_eq_false h5
                split
                · next h6 =>
                  refine ⟨⟨_, rfl⟩, ?_⟩
                  have h6' : decide (d ∈ figuresS.cps.toList) = true := decide_eq_true h6
                  simpa only [h6', Bool.or_true, Bool.true_and] using q
                · next h6 =>
                  have h6' : decide (d ∈ figuresS.cps.toList) = false := decide_eq_false h6
                  simpa only [h5', h6', Bool.or_self, Bool.false_and] using q
            · rintro σ H' ⟨⟨x, rfl⟩, rfl, q⟩
              exact q
          · next h4 =>
            have h4' : decide (c ∈ lettersS.cps.toList) = false := decide_eq_false h4
            simpa only [h4', Bool.false_and] using q
def sp_is_number : Sp := fun vs H Q _ => ∃ z : Str, vs = [.str z] ∧ z.length ≤ 100000 ∧ Q (.bl (isNumber z)) H
theorem ok_is_number {f : Addr} {fd : FuncData} (F : Fun K "is_number" "is_number" s_is_number f fd) (T : Cn K mg) : FnOk P w K mg base CX0 1 f fd ["word"] sp_is_number := by
  have z_len := T.len
  have g_FIGURES := T.fig
  refine F.ok sc_is_number (fun vs H Q E h => by obtain ⟨z, rfl, _⟩ := h; rfl) (fun cdv A outer s H vs Q E hr h => ?_)
  have hu64 := hr.units
  refine ⟨_, (pss_cons (ps_if (PW.pt (pw_or (xt (yeq hu64) (pe_callB ylen (by rfl) z_len PySem.boot_len (pa_cons (xv 0) pa_nil)) pe_int (nomark _)) (pw_or1 (xt ygt (pe_callB ylen (by rfl) z_len PySem.boot_len (pa_cons (xv 0) pa_nil)) pe_int (nomark _))))) (pss_one (ps_ret pe_bl)) pss_nil)
  (pss_cons (xfor PassesOwn.never (xistr (xv 0)) (pg_name (i := 1) sc_is_number.nd rfl (Or.inl rfl))
  (pss_one (ps_if (xt ynins (xv 1) (pe_gs g_FIGURES) (by rfl)) (pss_one (ps_ret pe_bl)) pss_nil)))
  (pss_one (ps_ret (pe_or (pe_cmpR (yne hu64) (pe_ix yix (xv 0) pe_int (fun _ _ => rfl)) pe_str (nomark _)) (pe_one (pe_cmpR (yeq hu64) (xv 0) pe_str (nomark _)))))))), ?_⟩
  obtain ⟨z, rfl, hz, q⟩ := h
  walk_at "ev"
  have hzl := len_toList z
  have hs : z.length ≤ sizeLine := sz_of (by omega)
  have e0 : ((z.length : Int) = 0) = (z.length = 0) := propext (by omega)
  have e60 : (60 < (z.length : Int)) = (60 < z.length) := propext (by omega)
  simp only [e0, e60]
  unfold isNumber at q
  refine ⟨hs, ?_⟩
  split
  · next h => simpa only [decide_eq_true h, Bool.true_or, Bool.not_true, Bool.false_and] using q
  · next h =>
    refine ⟨hs, ?_⟩
    split
    · next h2 => simpa only [decide_eq_true h2, Bool.true_or, Bool.or_true, Bool.not_true, Bool.false_and] using q
    · next h2 =>
      simp only [decide_eq_false h, decide_eq_false h2, Bool.or_self, Bool.not_false, Bool.true_and] at q
      refine ⟨Nat, _, z.cps.toList, fun r σ H' => (∃ x, σ = [some (.str z), x]) ∧ H' = H ∧ Q (.bl ((r.all fun c => decide (c ∈ figuresS.cps.toList)) && (match z.cps.toList with
    | [] => false
    | c :: _ => !decide (ch c = "0") || decide (z = "0")))) H, rfl, ⟨⟨_, rfl⟩, rfl, q⟩, fun _ _ _ _ => trivial, ?_, ?_⟩
      · rintro d r σ H' ⟨⟨x, rfl⟩, rfl, q⟩
        rw [List.all_cons] at q
        walk_at "ev"
        split
        · next h6 =>
          refine ⟨⟨_, rfl⟩, ?_⟩
          have h6' : decide (d ∈ figuresS.cps.toList) = true := decide_eq_true h6
          simpa only [h6', Bool.true_and] using q
        · next h6 =>
          have h6' : decide (d ∈ figuresS.cps.toList) = false := decide_eq_false h6
          simpa only [h6', Bool.false_and] using q
      · rintro σ H' ⟨⟨x, rfl⟩, rfl, q⟩
        walk_at "ev"
        cases hc : z.cps.toList with
        | nil => rw [hc] at hzl; exact absurd hzl.symm h
        | cons c l =>
          rw [hc] at q
          simp only [at0]
          refine ⟨hs, ?_⟩
          have q' : Q (.bl (!decide (ch c = "0") || decide (z = "0"))) H' := q
          split
          · next h7 =>
            have h7' : decide (ch c = "0") = true := decide_eq_true h7
            simpa only [h7', Bool.not_true, Bool.false_or] using q'
          · next h7 =>
            have h7' : decide (ch c = "0") = false := decide_eq_false h7
            simpa only [h7', Bool.not_false, Bool.true_or] using q'
theorem xe_eq : (Str.ofString "xe").cps.toList = [120, 101] := by decide +kernel
theorem xee_eq : (Str.ofString "xee").cps.toList = [120, 101, 101] := by decide +kernel
theorem ex_eq : (Str.ofString "ex").cps.toList = [101, 120] := by decide +kernel
theorem e_eq : (Str.ofString "e").cps.toList = [101] := by decide +kernel
theorem ee_eq : (Str.ofString "ee").cps.toList = [101, 101] := by decide +kernel
theorem eee_eq : (Str.ofString "eee").cps.toList = [101, 101, 101] := by decide +kernel
/-- a def's refusal: an error of the class at C -/
def sp_pattern_of (C : Addr) : Sp := fun vs H Q E => ∃ z : Str, vs = [.str z] ∧ (match patternOf z with
  | none => ∀ H', Same H H' → E (.ref C) none H'
  | some pat => ∀ y : Str, y.cps.toList = pat → ∀ H', Same H H' → Q (.str y) H')
theorem ok_pattern_of {f C : Addr} {fd : FuncData} (F : Fun K "pattern_of" "pattern_of" s_pattern_of f fd) (e_BadText : ExcB K mg "BadText" C) : FnOk P w K mg base (L2.CX P w) 1 f fd ["head"] (sp_pattern_of C) := by
  refine F.okX sc_pattern_of (fun vs H Q E h => by obtain ⟨z, rfl, _⟩ := h; rfl) (fun cdv A outer s H vs Q E hr h => ?_)
  have hu64 := hr.units
  refine ⟨_, (pss_cons (ps_if (PW.pt (pw_or (xt (yeq hu64) (xv 0) pe_str (nomark _)) (pw_or1 (xt (yeq hu64) (xv 0) pe_str (nomark _))))) (pss_one (ps_ret pe_str)) pss_nil)
  (pss_cons (ps_if (xt (yeq hu64) (xv 0) pe_str (nomark _)) (pss_one (ps_ret pe_str)) pss_nil)
  (pss_cons (ps_if (xt (yeq hu64) (xv 0) pe_str (nomark _)) (pss_one (ps_ret pe_str)) pss_nil)
  (pss_cons (ps_if (xt (yeq hu64) (xv 0) pe_str (nomark _)) (pss_one (ps_ret pe_str)) pss_nil)
  (pss_cons (ps_if (xt (yeq hu64) (xv 0) pe_str (nomark _)) (pss_one (ps_ret pe_str)) pss_nil)
  (pss_cons (ps_if (xt yint (xv 0) (pe_tup (pa_cons pe_str (pa_cons pe_str (pa_cons pe_str (pa_cons pe_str (pa_cons pe_str pa_nil)))))) (by rfl)) (pss_one (ps_ret pe_str)) pss_nil)
  (pss_one (ps_rz (E := E) e_BadText rfl (takes_of rfl rfl rfl rfl))))))))), ?_⟩
  obtain ⟨z, rfl, q⟩ := h
  walk_at "ev"
  unfold patternOf at q
  split
  · next h => rw [if_pos (.inl h)] at q; exact q _ xe_eq _ (Same.refl H)
  · next h1 =>
    split
    · next h => rw [if_pos (.inr h)] at q; exact q _ xe_eq _ (Same.refl H)
    · next h2 =>
      rw [if_neg (by rintro (h | h) <;> contradiction)] at q
      split
      · next h => rw [if_pos h] at q; exact q _ xee_eq _ (Same.refl H)
      · next h =>
        rw [if_neg h] at q
        split
        · next h => rw [if_pos h] at q; exact q _ ex_eq _ (Same.refl H)
        · next h =>
          rw [if_neg h] at q
          split
          · next h => rw [if_pos h] at q; exact q _ e_eq _ (Same.refl H)
          · next h =>
            rw [if_neg h] at q
            split
            · next h => rw [if_pos h] at q; exact q _ eee_eq _ (Same.refl H)
            · next h =>
              rw [if_neg h] at q
              intro p hp
              refine ⟨(["call", "join", "add", "sub", "less"] : List Str).map V.str, .inr (.inl (.inl upd_same)), rfl, by decide +kernel, ?_⟩
              simp only [in_strs, decide_eq_true_eq]
              split
              · next h => rw [if_pos h] at q; exact q _ ee_eq _ (same_new hp _)
              · next h => rw [if_neg h] at q; exact q _ (same_new hp _)
end
end Fk
namespace Fk
open PySem L2
-- Reader.__init__  names ["self", "words"]  needs ['cl_Reader', 'n_Reader_words', 'n_Reader_front', 'n_Reader_rows']
abbrev s_Reader___init__ : Stmt := inClass (topS 14) 0
theorem sc_Reader___init__ : FnScope ["self", "words"] ["self", "words"] (defScope s_Reader___init__) := ⟨rfl, rfl, rfl, by decide +kernel, rfl, by decide +kernel, by decide +kernel⟩
-- Reader.ahead  names ["self"]  needs ['cl_Reader', 'n_Reader_front', 'z_len', 'n_Reader_words']
abbrev s_Reader_ahead : Stmt := inClass (topS 14) 1
theorem sc_Reader_ahead : FnScope ["self"] ["self"] (defScope s_Reader_ahead) := ⟨rfl, rfl, rfl, by decide +kernel, rfl, by decide +kernel, by decide +kernel⟩
-- Reader.taken  names ["self", "word"]  needs ['m_Reader_ahead', 'e_BadText', 'cl_Reader', 'n_Reader_front']
abbrev s_Reader_taken : Stmt := inClass (topS 14) 2
theorem sc_Reader_taken : FnScope ["self", "word"] ["self"] (defScope s_Reader_taken) := ⟨rfl, rfl, rfl, by decide +kernel, rfl, by decide +kernel, by decide +kernel⟩
-- Reader.want  names ["self", "word"]  needs ['m_Reader_taken', 'e_BadText']
abbrev s_Reader_want : Stmt := inClass (topS 14) 3
theorem sc_Reader_want : FnScope ["self", "word"] ["self", "word"] (defScope s_Reader_want) := ⟨rfl, rfl, rfl, by decide +kernel, rfl, by decide +kernel, by decide +kernel⟩
-- Reader.named  names ["self", "word"]  needs ['m_Reader_taken', 'c_is_name', 'e_BadText']
abbrev s_Reader_named : Stmt := inClass (topS 14) 4
theorem sc_Reader_named : FnScope ["self", "word"] ["self"] (defScope s_Reader_named) := ⟨rfl, rfl, rfl, by decide +kernel, rfl, by decide +kernel, by decide +kernel⟩
-- Reader.expr  names ["self", "depth", "place", "word"]  needs ['g_MOST_NEST', 'z_len', 'cl_Reader', 'n_Reader_rows', 'g_MOST_PLACES', 'e_BadText', 'm_Reader_taken', 'm_Reader_form', 'm_Reader_want', 'c_is_number', 'z_int', 'c_is_name']
abbrev s_Reader_expr : Stmt := inClass (topS 14) 5
theorem sc_Reader_expr : FnScope ["self", "depth", "place", "word"] ["self", "depth"] (defScope s_Reader_expr) := ⟨rfl, rfl, rfl, by decide +kernel, rfl, by decide +kernel, by decide +kernel⟩
-- Reader.form  names ["self", "depth", "head", "pair", "first", "arms"]  needs ['m_Reader_taken', 'm_Reader_many', 'z_tuple', 'm_Reader_expr', 'z_len', 'e_BadText', 'c_pattern_of', 'm_Reader_pieces']
abbrev s_Reader_form : Stmt := inClass (topS 14) 6
theorem sc_Reader_form : FnScope ["self", "depth", "head", "pair", "first", "arms"] ["self", "depth"] (defScope s_Reader_form) := ⟨rfl, rfl, rfl, by decide +kernel, rfl, by decide +kernel, by decide +kernel⟩
-- Reader.pieces  names ["self", "depth", "pattern", "found", "sign"]  needs ['m_Reader_named', 'm_Reader_expr', 'z_tuple']
abbrev s_Reader_pieces : Stmt := inClass (topS 14) 7
theorem sc_Reader_pieces : FnScope ["self", "depth", "pattern", "found", "sign"] ["self", "depth", "pattern"] (defScope s_Reader_pieces) := ⟨rfl, rfl, rfl, by decide +kernel, rfl, by decide +kernel, by decide +kernel⟩
-- Reader.many  names ["self", "depth", "pattern", "most", "found"]  needs ['m_Reader_ahead', 'z_len', 'e_BadText', 'm_Reader_pieces', 'z_tuple']
abbrev s_Reader_many : Stmt := inClass (topS 14) 8
theorem sc_Reader_many : FnScope ["self", "depth", "pattern", "most", "found"] ["self", "depth", "pattern", "most"] (defScope s_Reader_many) := ⟨rfl, rfl, rfl, by decide +kernel, rfl, by decide +kernel, by decide +kernel⟩
/-- the attributes of a Reader -/
def rfs (lw : Addr) (f : Int) (lr : Addr) : List (Str × V) := [("words", .ref lw), ("front", .int f), ("rows", .ref lr)]
theorem rfs_words {lw lr : Addr} {f : Int} : (rfs lw f lr).lookup (Str.ofString "words") = some (.ref lw) := by rfl
theorem rfs_front {lw lr : Addr} {f : Int} : (rfs lw f lr).lookup (Str.ofString "front") = some (.int f) := by rfl
theorem rfs_rows {lw lr : Addr} {f : Int} : (rfs lw f lr).lookup (Str.ofString "rows") = some (.ref lr) := by rfl
theorem rfs_put {lw lr : Addr} {f g : Int} : putF (Str.ofString "front") (.int g) (rfs lw f lr) = rfs lw g lr := by rfl
theorem rfs_no {lw lr : Addr} {f : Int} {m : Str} (h1 : m ≠ "words" := by decide +kernel) (h2 : m ≠ "front" := by decide +kernel) (h3 : m ≠ "rows" := by decide +kernel) : (rfs lw f lr).lookup m = none := by
  unfold rfs
  simp only [List.lookup, beq_eq_false_iff_ne.mpr h1, beq_eq_false_iff_ne.mpr h2, beq_eq_false_iff_ne.mpr h3]
local macro_rules | `(tactic| walk_at "ev") => `(tactic| try simp only [cx_K, L2.start, List.map_cons, List.map_nil, List.length_cons, List.length_nil, Nat.reduceAdd, Nat.reduceSub, Nat.reduceLT, List.replicate_succ, List.replicate_zero, List.cons_append, List.nil_append, Nat.zero_add, Nat.add_zero,
  tSeq, tAsg, tLst, tTup, tNil, tCons, tC, tOp, tUn, gName, tNext, tRet, tRetN, tIfS, tDrop, tCB, tCall, tMeth, tMake, tIf, tAnd, tOr, tNot, tAndV, tOrV, tNotV, qFor, qLc, tYes, wStr, wLst, wTup, wRng1, wRng2, wEnum, wZip, wRev, qVar, asB_bl, qAdd_ii, qAdd_ss, qSub_ii, qMul_ii, qMod_ii, qDiv_ii, qPow_ii, qCmpI_ii, qEq_ii, qEq_ss, qEq_bb, qIsN_n, qIsN_i, qIsN_s, qIsN_b, qIsN_r, qInS_s, qInT_r, qIx_s, qIx_r, qT, qIAdd_ii, qIAdd_ss, qLen_s, qLen_r, qAbs_i, qMax2_ii, qMin2_ii, qInt_i, qInt_b, qInt_s, qStrC_i, qStrC_s, qList_r, qTuple_r, tupleAs_l, tupleAs_t, qDivmod_ii, qAll_r, qAny_r, qSl_s, tSl, tNoPart, tPart, qPar, qPar3,
  qApp, qExt, qPop, isLst, qFld, qSetF, qAugF, qAug, qgTup, qgCons, qgNil, gSub, qSetL, yv, wipe,
  List.getElem?_cons_zero, List.getElem?_cons_succ, List.set_cons_zero, List.set_cons_succ, upd_same, lstOf, tupOf, seqOf, at0, at1, at2, at3, ix0, ix1, ix2, sz0, sz1, sz2, sz3, sz4, sz5, sz6, sz7, sz8, sz15, true_and, and_true, and_self, if_true, if_false, if_pos,
  beq_t, beq_f, decide_eq_true_eq, decide_eq_false_iff_not, Bool.not_eq_true', Bool.not_eq_true, Bool.not_eq_false, Bool.not_true, Bool.not_false, Bool.false_eq_true, reduceCtorEq, ite_not, if_true, if_false, reduceIte, V.int.injEq, V.str.injEq, V.bl.injEq, V.ref.injEq, List.append_nil, forall_eq', exists_eq_left, exists_eq_left'])
local macro_rules | `(tactic| walk_at "evr") => `(tactic| try simp only [cx_K, L2.start, List.map_cons, List.map_nil, List.length_cons, List.length_nil, Nat.reduceAdd, Nat.reduceSub, Nat.reduceLT, List.replicate_succ, List.replicate_zero, List.cons_append, List.nil_append, Nat.zero_add, Nat.add_zero,
  tSeq, tAsg, tLst, tTup, tNil, tCons, tC, tOp, tUn, gName, tNext, tRet, tRetN, tIfS, tDrop, tCB, tCall, tMeth, tMake, tIf, tAnd, tOr, tNot, tAndV, tOrV, tNotV, qFor, qLc, tYes, wStr, wLst, wTup, wRng1, wRng2, wEnum, wZip, wRev, qVar, asB_bl, qAdd_ii, qAdd_ss, qSub_ii, qMul_ii, qMod_ii, qDiv_ii, qPow_ii, qCmpI_ii, qEq_ii, qEq_ss, qEq_bb, qIsN_n, qIsN_i, qIsN_s, qIsN_b, qIsN_r, qInS_s, qInT_r, qIx_s, qIx_r, qT, qIAdd_ii, qIAdd_ss, qLen_s, qLen_r, qAbs_i, qMax2_ii, qMin2_ii, qInt_i, qInt_b, qInt_s, qStrC_i, qStrC_s, qList_r, qTuple_r, tupleAs_l, tupleAs_t, qDivmod_ii, qAll_r, qAny_r, qSl_s, tSl, tNoPart, tPart, qPar, qPar3,
  qApp, qExt, qPop, isLst, qFld, qSetF, qAugF, qAug, qgTup, qgCons, qgNil, gSub, qSetL, yv, wipe,
  List.getElem?_cons_zero, List.getElem?_cons_succ, List.set_cons_zero, List.set_cons_succ, upd_same, lstOf, tupOf, seqOf, at0, at1, at2, at3, ix0, ix1, ix2, sz0, sz1, sz2, sz3, sz4, sz5, sz6, sz7, sz8, sz15, true_and, and_true, and_self, if_true, if_false, if_pos,
  beq_t, beq_f, decide_eq_true_eq, decide_eq_false_iff_not, Bool.not_eq_true', Bool.not_eq_true, Bool.not_eq_false, Bool.not_true, Bool.not_false, Bool.false_eq_true, reduceCtorEq, ite_not, if_true, if_false, reduceIte, V.int.injEq, V.str.injEq, V.bl.injEq, V.ref.injEq, List.append_nil, forall_eq', exists_eq_left, exists_eq_left', rfs_words, rfs_front, rfs_rows, rfs_put, *])
/-- a Reader at r: all its words, those that are left, its rows -/
structure RdAt (C : Addr) (H : Hp) (r dx lw lr : Addr) (all rest : List Str) (rows : Rows) : Prop where
  ex : ∃ (vs : List V) (f : Nat), H r = some (.ins C dx (rfs lw f lr)) ∧ H lr = some (.lst vs) ∧ Tps H vs rows ∧ all.drop f = rest ∧ f ≤ all.length
  w : H lw = some (.lst (all.map V.str))
  ne : lw ≠ lr
  al : all.length ≤ 300000
  ws : ∀ x ∈ all, x.length ≤ 100000
  rl : rows.length ≤ 160
theorem RdAt.mono {C : Addr} {H H' : Hp} {r dx lw lr : Addr} {all rest : List Str} {rows : Rows} (a : RdAt C H r dx lw lr all rest rows) (h : Same H H') : RdAt C H' r dx lw lr all rest rows := by
  obtain ⟨vs, f, h1, h2, h3, h4⟩ := a.ex
  exact ⟨⟨vs, f, h _ _ h1, h _ _ h2, h3.mono fun x xs q => h _ _ q, h4⟩, h _ _ a.w, a.ne, a.al, a.ws, a.rl⟩
theorem Same.but {S : List Addr} {H H' : Hp} (h : Same H H') : But S H H' := fun b o _ e => h b o e
/-- what a method of the Reader promises: it refuses, or goes on -/
def Out (C CB : Addr) (H : Hp) (r dx lw lr : Addr) (all : List Str) (E : XK) {α : Type} (m : Option (α × List Str × Rows)) (k : α → Hp → Prop) : Prop := match m with
  | none => ∀ H', But [r, lr] H H' → E (.ref CB) none H'
  | some (a, rest, rows) => ∀ H', But [r, lr] H H' → RdAt C H' r dx lw lr all rest rows → k a H'
theorem Out.none {C CB : Addr} {H : Hp} {r dx lw lr : Addr} {all : List Str} {E : XK} {α : Type} {m : Option (α × List Str × Rows)} {k : α → Hp → Prop} (o : Out C CB H r dx lw lr all E m k) (h : m = .none) : ∀ H', But [r, lr] H H' → E (.ref CB) .none H' := by
  subst h
  exact o
theorem Out.some {C CB : Addr} {H : Hp} {r dx lw lr : Addr} {all : List Str} {E : XK} {α : Type} {m : Option (α × List Str × Rows)} {k : α → Hp → Prop} {a : α} {rest : List Str} {rows : Rows} (o : Out C CB H r dx lw lr all E m k) (h : m = .some (a, rest, rows)) :
    ∀ H', But [r, lr] H H' → RdAt C H' r dx lw lr all rest rows → k a H' := by
  subst h
  exact o
theorem Out.of_none {C CB : Addr} {H : Hp} {r dx lw lr : Addr} {all : List Str} {E : XK} {α : Type} {m : Option (α × List Str × Rows)} {k : α → Hp → Prop} (h : m = .none) (o : ∀ H', But [r, lr] H H' → E (.ref CB) .none H') : Out C CB H r dx lw lr all E m k := by
  subst h
  exact o
theorem Out.of_some {C CB : Addr} {H : Hp} {r dx lw lr : Addr} {all : List Str} {E : XK} {α : Type} {m : Option (α × List Str × Rows)} {k : α → Hp → Prop} {a : α} {rest : List Str} {rows : Rows} (h : m = .some (a, rest, rows))
    (o : ∀ H', But [r, lr] H H' → RdAt C H' r dx lw lr all rest rows → k a H') : Out C CB H r dx lw lr all E m k := by
  subst h
  exact o
/-- the shape of these promises -/
def sp_rd (C CB : Addr) {α : Type} (args : List V → Prop) (m : List Str → Rows → Option (α × List Str × Rows)) (k : α → V → Hp → Prop) : Sp := fun vs H Q E => ∃ (r dx lw lr : Addr) (all rest : List Str) (rows : Rows) (us : List V), vs = .ref r :: us ∧ args us ∧ RdAt C H r dx lw lr all rest rows ∧
  Out C CB H r dx lw lr all E (m rest rows) fun a H' => ∀ v, k a v H' → Q v H'
def withR {α : Type} (rows : Rows) (m : Option (α × List Str)) : Option (α × List Str × Rows) := m.map fun p => (p.1, p.2, rows)
def sp_ahead (C : Addr) : Sp := fun vs H Q _ => ∃ (r dx lw lr : Addr) (all rest : List Str) (rows : Rows), vs = [.ref r] ∧ RdAt C H r dx lw lr all rest rows ∧ Q (.str (ahead rest)) H
def sp_taken (C CB : Addr) : Sp := sp_rd C CB (· = []) (fun rest rows => withR rows (taken rest)) fun w v _ => v = .str w
def sp_want (C CB : Addr) : Sp := fun vs H Q E => ∃ x : Str, sp_rd C CB (· = [.str x]) (fun rest rows => withR rows ((want x rest).map fun r => ((), r))) (fun _ v _ => v = .non) vs H Q E
def sp_named (C CB : Addr) : Sp := sp_rd C CB (· = []) (fun rest rows => withR rows (named rest)) fun w v _ => v = .str w ∧ w.length ≤ 100000
def sp_expr (C CB : Addr) (n : Nat) : Sp := fun vs H Q E => ∃ d : Nat, 25 ≤ d + n ∧ sp_rd C CB (· = [.int (d : Int)]) (expr n d) (fun p v _ => v = .int (p : Int)) vs H Q E
def sp_form (C CB : Addr) (n : Nat) : Sp := fun vs H Q E => ∃ d : Nat, 25 ≤ d + n ∧ sp_rd C CB (· = [.int (d : Int)]) (form (expr n d)) (fun row v H' => Tp H' v row) vs H Q E
def sp_pieces (C CB : Addr) (n : Nat) : Sp := fun vs H Q E => ∃ (d : Nat) (pat : Str), 25 ≤ d + n ∧ pat.length ≤ 100 ∧ sp_rd C CB (· = [.int (d : Int), .str pat]) (pieces (expr n d) pat.cps.toList) (fun ps v H' => Tp H' v (.tuple ps)) vs H Q E
def sp_many (C CB : Addr) (n : Nat) : Sp := fun vs H Q E => ∃ (d : Nat) (pat : Str) (most : Nat), 25 ≤ d + n ∧ pat.length ≤ 100 ∧ most ≤ 100 ∧ sp_rd C CB (· = [.int (d : Int), .str pat, .int (most : Int)]) (many (expr n d) pat.cps.toList most) (fun ps v H' => Tp H' v (.tuple ps)) vs H Q E
/-- what the class is -/
structure RdT (K : PySem.W.Frag) (mg : Str → Option Value) (C CB : Addr) : Prop where
  cl : Cls K C
  n1 : NoAttr K C "words"
  n2 : NoAttr K C "front"
  n3 : NoAttr K C "rows"
  len : mg "len" = none
  int : mg "int" = none
  tup : mg "tuple" = none
  places : ∃ t, mg "MOST_PLACES" = some (.int 160 t)
  nest : ∃ t, mg "MOST_NEST" = some (.int 24 t)
  bad : ExcB K mg "BadText" CB
section
variable {P : Program} {w : World} {K : PySem.W.Frag} {mg : Str → Option Value} {base : Heap} {C_Reader CB : Addr} {f : Addr} {fd : FuncData}
theorem ok_ahead (F : Fun K "ahead" "Reader.ahead" s_Reader_ahead f fd) (T : RdT K mg C_Reader CB) : FnOk P w K mg base CX0 1 f fd ["self"] (sp_ahead C_Reader) := by
  refine F.ok sc_Reader_ahead (fun vs H Q E h => by obtain ⟨_, _, _, _, _, _, _, rfl, _⟩ := h; rfl) (fun cdv A outer s H vs Q E hr h => ?_)
  have cl_Reader := T.cl
  have n_Reader_words := T.n1
  have n_Reader_front := T.n2
  have z_len := T.len
  have hu64 := hr.units
  refine ⟨_, (pss_cons (ps_if (xt ylt (xfld (C := C_Reader) cl_Reader n_Reader_front (xv 0)) (pe_callB ylen (by rfl) z_len PySem.boot_len (pa_cons (xfld (C := C_Reader) cl_Reader n_Reader_words (xv 0)) pa_nil)) (nomark _)) (pss_one (ps_ret (pe_ix yix (xfld (C := C_Reader) cl_Reader n_Reader_words (xv 0)) (xfld (C := C_Reader) cl_Reader n_Reader_front (xv 0)) (fun _ _ => rfl)))) pss_nil)
  (pss_one (ps_ret pe_str))), ?_⟩
  obtain ⟨r, dx, lw, lr, all, rest, rows, rfl, R, q⟩ := h
  obtain ⟨vs, f, h1, h2, h3, h4, h5⟩ := R.ex
  have hw := R.w
  walk_at "evr"
  rw [List.length_map]
  split
  · next hl =>
    have hl' : f < all.length := by omega
    have e : all.drop f = all[f] :: all.drop (f + 1) := List.drop_eq_getElem_cons hl'
    rw [h4] at e
    rw [atI_nat (show (all.map V.str)[f]? = some (V.str all[f]) by rw [List.getElem?_map, List.getElem?_eq_getElem hl']; rfl)]
    rw [e] at q
    exact q
  · next hl =>
    have e : all.drop f = [] := List.drop_eq_nil_of_le (by omega)
    rw [h4] at e
    rw [e] at q
    exact q
theorem ok_taken (F : Fun K "taken" "Reader.taken" s_Reader_taken f fd) (T : RdT K mg C_Reader CB) (m_Reader_ahead : CalM P w K mg base CX0 1 C_Reader "ahead" ["self"] (sp_ahead C_Reader)) : FnOk P w K mg base (L2.CX P w) 2 f fd ["self"] (sp_taken C_Reader CB) := by
  refine F.okX sc_Reader_taken (fun vs H Q E h => by obtain ⟨_, _, _, _, _, _, _, _, rfl, rfl, _⟩ := h; rfl) (fun cdv A outer s H vs Q E hr h => ?_)
  have cl_Reader := T.cl
  have n_Reader_words := T.n1
  have n_Reader_front := T.n2
  have z_len := T.len
  have e_BadText := T.bad
  have hu64 := hr.units
  refine ⟨_, (pss_cons (ps_set (i := 1) sc_Reader_taken.nd rfl (Or.inl rfl) (pe_m0 m_Reader_ahead hr (xv 0)))
  (pss_cons (ps_if (xt (yeq hu64) (xv 1) pe_str (nomark _)) (pss_one (ps_rz (E := E) e_BadText rfl (takes_of rfl rfl rfl rfl))) pss_nil)
  (pss_cons (xaugf (C := C_Reader) cl_Reader n_Reader_front (xv 0) pe_int yiadd)
  (pss_one (ps_ret (xv 1)))))), ?_⟩
  obtain ⟨r, dx, lw, lr, all, rest, rows, us, rfl, rfl, R, q⟩ := h
  obtain ⟨vs, f, h1, h2, h3, h4, h5⟩ := R.ex
  walk_at "ev"
  refine ⟨r, dx, _, rfl, h1, rfl, r, dx, lw, lr, all, rest, rows, rfl, R, ?_⟩
  walk_at "ev"
  split
  · next he =>
    refine q.none ?_ H (But.refl _ _)
    cases rest with
    | nil => rfl
    | cons x l =>
      have he' : x = "" := he
      show withR rows (if x = "" then none else some (x, l)) = none
      rw [if_pos he']
      rfl
  · next he =>
    cases rest with
    | nil => exact absurd rfl he
    | cons x l =>
      have he' : ¬ x = "" := he
      have hs : withR rows (taken (x :: l)) = some (x, l, rows) := by
        show withR rows (if x = "" then none else some (x, l)) = _
        rw [if_neg he']
        rfl
      walk_at "evr"
      refine ⟨by show 3 < 1000; decide, ?_⟩
      have hf : f < all.length := by
        by_cases hf : f < all.length
        · exact hf
        · rw [List.drop_eq_nil_of_le (by omega)] at h4
          cases h4
      have hne : lr ≠ r := ne_of h2 h1 (by intro z; cases z)
      have hnw : lw ≠ r := ne_of R.w h1 (by intro z; cases z)
      refine q.some hs _ ((But.refl _ H).at (by simp) _) ?_ _ rfl
      refine ⟨⟨vs, f + 1, upd_same, by rw [upd_ne hne]; exact h2, h3.mono fun a xs e => ?_, ?_, by omega⟩, by rw [upd_ne hnw]; exact R.w, R.ne, R.al, R.ws, R.rl⟩
      · rw [upd_ne (ne_of e h1 (by intro z; cases z))]
        exact e
      · rw [← List.drop_drop, h4]
        rfl
theorem ok_want (F : Fun K "want" "Reader.want" s_Reader_want f fd) (T : RdT K mg C_Reader CB) (m_Reader_taken : CalM P w K mg base (L2.CX P w) 2 C_Reader "taken" ["self"] (sp_taken C_Reader CB)) : FnOk P w K mg base (L2.CX P w) 3 f fd ["self", "word"] (sp_want C_Reader CB) := by
  refine F.okX sc_Reader_want (fun vs H Q E h => by obtain ⟨_, _, _, _, _, _, _, _, _, rfl, rfl, _⟩ := h; rfl) (fun cdv A outer s H vs Q E hr h => ?_)
  have cl_Reader := T.cl
  have e_BadText := T.bad
  have hu64 := hr.units
  refine ⟨_, (pss_one (ps_if (xt (yne hu64) (pe_mX0 (E := E) m_Reader_taken hr (takes_of rfl rfl rfl rfl) (xv 0)) (xv 1) (nomark _)) (pss_one (ps_rz (E := E) e_BadText rfl (takes_of rfl rfl rfl rfl))) pss_nil)), ?_⟩
  obtain ⟨x, r, dx, lw, lr, all, rest, rows, us, rfl, rfl, R, q⟩ := h
  obtain ⟨vs, f, h1, h2, h3, h4, h5⟩ := R.ex
  walk_at "ev"
  refine ⟨r, dx, _, rfl, h1, rfl, r, dx, lw, lr, all, rest, rows, [], rfl, rfl, R, ?_⟩
  cases ht : taken rest with
  | none => refine Out.of_none (by show withR rows (taken rest) = _; rw [ht]; rfl) ?_; exact q.none (by show withR rows ((want x rest).map _) = _; unfold want; rw [ht]; rfl)
  | some p =>
    obtain ⟨y, rest'⟩ := p
    refine Out.of_some (by show withR rows (taken rest) = _; rw [ht]; rfl) ?_
    intro H1 b1 R1 v hv
    subst hv
    walk_at "ev"
    split
    · next he =>
      exact q.some (a := ()) (rest := rest') (rows := rows) (by show withR rows ((want x rest).map _) = _; unfold want; rw [ht]; show withR rows ((if y = x then some rest' else none).map _) = _; rw [if_pos he]; rfl) H1 b1 R1 _ rfl
    · next he =>
      exact q.none (by show withR rows ((want x rest).map _) = _; unfold want; rw [ht]; show withR rows ((if y = x then some rest' else none).map _) = _; rw [if_neg he]; rfl) H1 b1
theorem ok_named (F : Fun K "named" "Reader.named" s_Reader_named f fd) (T : RdT K mg C_Reader CB) (m_Reader_taken : CalM P w K mg base (L2.CX P w) 2 C_Reader "taken" ["self"] (sp_taken C_Reader CB)) (c_is_name : Cal P w K mg base CX0 1 "is_name" ["word"] sp_is_name) : FnOk P w K mg base (L2.CX P w) 3 f fd ["self"] (sp_named C_Reader CB) := by
  refine F.okX sc_Reader_named (fun vs H Q E h => by obtain ⟨_, _, _, _, _, _, _, _, rfl, rfl, _⟩ := h; rfl) (fun cdv A outer s H vs Q E hr h => ?_)
  have cl_Reader := T.cl
  have e_BadText := T.bad
  have hu64 := hr.units
  refine ⟨_, (pss_cons (ps_set (i := 1) sc_Reader_named.nd rfl (Or.inl rfl) (pe_mX0 (E := E) m_Reader_taken hr (takes_of rfl rfl rfl rfl) (xv 0)))
  (pss_cons (ps_if (pt_not (xtv (pe_c c_is_name hr (pa_cons (xv 1) pa_nil)))) (pss_one (ps_rz (E := E) e_BadText rfl (takes_of rfl rfl rfl rfl))) pss_nil)
  (pss_one (ps_ret (xv 1))))), ?_⟩
  obtain ⟨r, dx, lw, lr, all, rest, rows, us, rfl, rfl, R, q⟩ := h
  obtain ⟨vs, f, h1, h2, h3, h4, h5⟩ := R.ex
  walk_at "ev"
  refine ⟨r, dx, _, rfl, h1, rfl, r, dx, lw, lr, all, rest, rows, [], rfl, rfl, R, ?_⟩
  cases ht : taken rest with
  | none => refine Out.of_none (by show withR rows (taken rest) = _; rw [ht]; rfl) ?_; exact q.none (by show withR rows (named rest) = _; unfold named; rw [ht]; rfl)
  | some p =>
    obtain ⟨y, rest'⟩ := p
    refine Out.of_some (by show withR rows (taken rest) = _; rw [ht]; rfl) ?_
    intro H1 b1 R1 v hv
    subst hv
    have hy : y.length ≤ 100000 := by
      have hm : y ∈ all := by
        obtain ⟨e, _⟩ := taken_some ht
        have : y ∈ all.drop f := by rw [h4, e]; exact List.mem_cons_self
        exact List.mem_of_mem_drop this
      exact R.ws y hm
    walk_at "ev"
    refine ⟨y, rfl, hy, ?_⟩
    walk_at "ev"
    split
    · next he =>
      exact q.none (by show withR rows (named rest) = _; unfold named; rw [ht]; show withR rows (if isName y = true then some (y, rest') else none) = _; rw [he]; rfl) H1 b1
    · next he =>
      exact q.some (a := y) (rest := rest') (rows := rows) (by show withR rows (named rest) = _; unfold named; rw [ht]; show withR rows (if isName y = true then some (y, rest') else none) = _; rw [(Bool.not_eq_false _).mp he]; rfl) H1 b1 R1 _ ⟨rfl, hy⟩
end
end Fk
namespace Fk
open PySem L2
local macro_rules | `(tactic| walk_at "ev") => `(tactic| try simp only [cx_K, L2.start, List.map_cons, List.map_nil, List.length_cons, List.length_nil, Nat.reduceAdd, Nat.reduceSub, Nat.reduceLT, List.replicate_succ, List.replicate_zero, List.cons_append, List.nil_append, Nat.zero_add, Nat.add_zero,
  tSeq, tAsg, tLst, tTup, tNil, tCons, tC, tOp, tUn, gName, tNext, tRet, tRetN, tIfS, tDrop, tCB, tCall, tMeth, tMake, tIf, tAnd, tOr, tNot, tAndV, tOrV, tNotV, qFor, qLc, tYes, wStr, wLst, wTup, wRng1, wRng2, wEnum, wZip, wRev, qVar, asB_bl, qAdd_ii, qAdd_ss, qSub_ii, qMul_ii, qMod_ii, qDiv_ii, qPow_ii, qCmpI_ii, qEq_ii, qEq_ss, qEq_bb, qIsN_n, qIsN_i, qIsN_s, qIsN_b, qIsN_r, qInS_s, qInT_r, qIx_s, qIx_r, qT, qIAdd_ii, qIAdd_ss, qLen_s, qLen_r, qAbs_i, qMax2_ii, qMin2_ii, qInt_i, qInt_b, qInt_s, qStrC_i, qStrC_s, qList_r, qTuple_r, tupleAs_l, tupleAs_t, qDivmod_ii, qAll_r, qAny_r, qSl_s, tSl, tNoPart, tPart, qPar, qPar3,
  qApp, qExt, qPop, isLst, qFld, qSetF, qAugF, qAug, qgTup, qgCons, qgNil, gSub, qSetL, yv, wipe,
  List.getElem?_cons_zero, List.getElem?_cons_succ, List.set_cons_zero, List.set_cons_succ, upd_same, lstOf, tupOf, seqOf, at0, at1, at2, at3, ix0, ix1, ix2, sz0, sz1, sz2, sz3, sz4, sz5, sz6, sz7, sz8, sz15, true_and, and_true, and_self, if_true, if_false, if_pos,
  beq_t, beq_f, decide_eq_true_eq, decide_eq_false_iff_not, Bool.not_eq_true', Bool.not_eq_true, Bool.not_eq_false, Bool.not_true, Bool.not_false, Bool.false_eq_true, reduceCtorEq, ite_not, if_true, if_false, reduceIte, V.int.injEq, V.str.injEq, V.bl.injEq, V.ref.injEq, List.append_nil, forall_eq', exists_eq_left, exists_eq_left'])
local macro_rules | `(tactic| walk_at "evr") => `(tactic| try simp only [cx_K, L2.start, List.map_cons, List.map_nil, List.length_cons, List.length_nil, Nat.reduceAdd, Nat.reduceSub, Nat.reduceLT, List.replicate_succ, List.replicate_zero, List.cons_append, List.nil_append, Nat.zero_add, Nat.add_zero,
  tSeq, tAsg, tLst, tTup, tNil, tCons, tC, tOp, tUn, gName, tNext, tRet, tRetN, tIfS, tDrop, tCB, tCall, tMeth, tMake, tIf, tAnd, tOr, tNot, tAndV, tOrV, tNotV, qFor, qLc, tYes, wStr, wLst, wTup, wRng1, wRng2, wEnum, wZip, wRev, qVar, asB_bl, qAdd_ii, qAdd_ss, qSub_ii, qMul_ii, qMod_ii, qDiv_ii, qPow_ii, qCmpI_ii, qEq_ii, qEq_ss, qEq_bb, qIsN_n, qIsN_i, qIsN_s, qIsN_b, qIsN_r, qInS_s, qInT_r, qIx_s, qIx_r, qT, qIAdd_ii, qIAdd_ss, qLen_s, qLen_r, qAbs_i, qMax2_ii, qMin2_ii, qInt_i, qInt_b, qInt_s, qStrC_i, qStrC_s, qList_r, qTuple_r, tupleAs_l, tupleAs_t, qDivmod_ii, qAll_r, qAny_r, qSl_s, tSl, tNoPart, tPart, qPar, qPar3,
  qApp, qExt, qPop, isLst, qFld, qSetF, qAugF, qAug, qgTup, qgCons, qgNil, gSub, qSetL, yv, wipe,
  List.getElem?_cons_zero, List.getElem?_cons_succ, List.set_cons_zero, List.set_cons_succ, upd_same, lstOf, tupOf, seqOf, at0, at1, at2, at3, ix0, ix1, ix2, sz0, sz1, sz2, sz3, sz4, sz5, sz6, sz7, sz8, sz15, true_and, and_true, and_self, if_true, if_false, if_pos,
  beq_t, beq_f, decide_eq_true_eq, decide_eq_false_iff_not, Bool.not_eq_true', Bool.not_eq_true, Bool.not_eq_false, Bool.not_true, Bool.not_false, Bool.false_eq_true, reduceCtorEq, ite_not, if_true, if_false, reduceIte, V.int.injEq, V.str.injEq, V.bl.injEq, V.ref.injEq, List.append_nil, forall_eq', exists_eq_left, exists_eq_left', rfs_words, rfs_front, rfs_rows, rfs_put, *])
theorem RdAt.kr {C : Addr} {H : Hp} {r dx lw lr : Addr} {all rest : List Str} {rows : Rows} (R : RdAt C H r dx lw lr all rest rows) : ∃ f, H r = some (.ins C dx (rfs lw f lr)) := by
  obtain ⟨vs, f, h1, _⟩ := R.ex
  exact ⟨_, h1⟩
theorem TK.of_but {C : Addr} {H H' : Hp} {r dx lw lr : Addr} {all rest : List Str} {rows : Rows} (R : RdAt C H r dx lw lr all rest rows) (b : But [r, lr] H H') : TK H H' := fun a xs e => by
  obtain ⟨vs, f, h1, h2, _⟩ := R.ex
  refine b a _ ?_ e
  have n1 : a ≠ r := ne_of e h1 (by intro z; cases z)
  have n2 : a ≠ lr := ne_of e h2 (by intro z; cases z)
  simp [n1, n2]
theorem RdAt.at {C : Addr} {H : Hp} {r dx lw lr p : Addr} {o : HO} {all rest : List Str} {rows : Rows} (R : RdAt C H r dx lw lr all rest rows) (h1 : p ≠ r) (h2 : p ≠ lr) (h3 : p ≠ lw) (h4 : ∀ xs, H p ≠ some (.tup xs)) : RdAt C (upd H p o) r dx lw lr all rest rows := by
  obtain ⟨vs, f, e1, e2, e3, e4⟩ := R.ex
  refine ⟨⟨vs, f, by rw [upd_ne h1.symm]; exact e1, by rw [upd_ne h2.symm]; exact e2, e3.mono fun a xs q => ?_, e4⟩, by rw [upd_ne h3.symm]; exact R.w, R.ne, R.al, R.ws, R.rl⟩
  rw [upd_ne (by rintro rfl; exact h4 xs q)]
  exact q
theorem tk_upd {H : Hp} {p : Addr} {o : HO} (h4 : ∀ xs, H p ≠ some (.tup xs)) : TK H (upd H p o) := fun a xs q => by
  rw [upd_ne (by rintro rfl; exact h4 xs q)]
  exact q
theorem no_tup {H : Hp} {p : Addr} {xs : List V} (h : H p = some (.lst xs)) : ∀ ys, H p ≠ some (.tup ys) := fun ys e => by rw [h] at e; cases e
theorem no_tupN {H : Hp} {p : Addr} (h : H p = none) : ∀ ys, H p ≠ some (.tup ys) := fun ys e => by rw [h] at e; cases e
/-- an address that is new apart from a Reader's own -/
structure Apart (p r lr lw : Addr) : Prop where
  r : p ≠ r
  lr : p ≠ lr
  lw : p ≠ lw
theorem RdAt.apart {C : Addr} {H : Hp} {r dx lw lr p : Addr} {all rest : List Str} {rows : Rows} (R : RdAt C H r dx lw lr all rest rows) (h : H p = none) : Apart p r lr lw := by
  obtain ⟨vs, f, h1, h2, _⟩ := R.ex
  exact ⟨(ne_of_none h1 h).symm, (ne_of_none h2 h).symm, (ne_of_none R.w h).symm⟩
theorem Apart.out {p r lr lw : Addr} (a : Apart p r lr lw) : p ∉ [r, lr] := by
  have := a.r
  have := a.lr
  simp [*]
theorem ch_eq120 (c : Nat) : (({ cps := #[c] } : Str) = "x") = (c = 120) := propext ⟨fun h => ch_inj (h.trans (by decide +kernel : ("x" : Str) = { cps := #[120] })), fun h => by rw [h]; decide +kernel⟩
/-- a row's parts, some of them found -/
def plus {β : Type} (ps : List PyData) (m : Option (List PyData × β)) : Option (List PyData × β) := m.map fun t => (ps ++ t.1, t.2)
theorem plus_nil {β : Type} (m : Option (List PyData × β)) : plus [] m = m := by cases m <;> rfl
theorem plus_none {β : Type} {ps : List PyData} : plus ps (none : Option (List PyData × β)) = none := rfl
/-- an equation that no reckoning takes -/
def Is {α : Type} (a b : α) : Prop := a = b
theorem Is.eq {α : Type} {a b : α} (h : Is a b) : a = b := h
def iv_pieces (C : Addr) (H0 : Hp) (r dx lw lr lf : Addr) (all : List Str) (d : Nat) (pat : Str) (ex : RE) (m0 : Option (List PyData × List Str × Rows)) (cs : List Nat) (σ : St) (H : Hp) : Prop :=
  ∃ rest rows vs ps x, σ = [some (.ref r), some (.int (d : Int)), some (.str pat), some (.ref lf), x] ∧ But [r, lr] H0 H ∧ RdAt C H r dx lw lr all rest rows ∧ H lf = some (.lst vs) ∧ Tps H vs ps ∧ vs.length + cs.length ≤ 100 ∧ Is m0 (plus ps (pieces ex cs rest rows))
def iv_many (C : Addr) (H0 : Hp) (r dx lw lr lf : Addr) (all : List Str) (d : Nat) (pat : Str) (most : Nat) (ex : RE) (m0 : Option (List PyData × List Str × Rows)) (k : Nat) (σ : St) (H : Hp) : Prop :=
  ∃ rest rows vs ps, σ = [some (.ref r), some (.int (d : Int)), some (.str pat), some (.int (most : Int)), some (.ref lf)] ∧ But [r, lr] H0 H ∧ RdAt C H r dx lw lr all rest rows ∧ H lf = some (.lst vs) ∧ Tps H vs ps ∧ vs.length + k = most ∧ Is m0 (plus ps (many ex pat.cps.toList k rest rows))
section
variable {P : Program} {w : World} {K : PySem.W.Frag} {mg : Str → Option Value} {base : Heap} {C_Reader CB : Addr} {f : Addr} {fd : FuncData}
theorem ok_pieces {n k : Nat} (hk : 4 ≤ k) (F : Fun K "pieces" "Reader.pieces" s_Reader_pieces f fd) (T : RdT K mg C_Reader CB) (m_Reader_named : CalM P w K mg base (L2.CX P w) 3 C_Reader "named" ["self"] (sp_named C_Reader CB))
    (m_Reader_expr : CalM P w K mg base (L2.CX P w) k C_Reader "expr" ["self", "depth"] (sp_expr C_Reader CB n)) : FnOk P w K mg base (L2.CX P w) (k + 1) f fd ["self", "depth", "pattern"] (sp_pieces C_Reader CB n) := by
  refine F.okX sc_Reader_pieces (fun vs H Q E h => by obtain ⟨_, _, _, _, _, _, _, _, _, _, _, _, rfl, rfl, _⟩ := h; rfl) (fun cdv A outer s H vs Q E hr h => ?_)
  have cl_Reader := T.cl
  have e_BadText := T.bad
  have z_tuple := T.tup
  have hu64 := hr.units
  refine ⟨_, (pss_cons (ps_set (i := 3) sc_Reader_pieces.nd rfl (Or.inl rfl) (pe_lst pa_nil))
  (pss_cons (xfor (passes_of rfl) (xistr (xv 2)) (pg_name (i := 4) sc_Reader_pieces.nd rfl (Or.inl rfl))
  (pss_one (ps_if (xt (yeq hu64) (xv 4) pe_str (nomark _)) (pss_one (ps_expr (xapp (xv 3) (pe_mX0 (E := E) m_Reader_named hr (takes_of rfl rfl rfl rfl) (xv 0))))) (pss_one (ps_expr (xapp (xv 3) (pe_mX (E := E) m_Reader_expr hr (takes_of rfl rfl rfl rfl) (xv 0) (pa_cons (xv 1) pa_nil))))))))
  (pss_one (ps_ret (pe_callTy ytuple (by rfl) z_tuple (by decide +kernel) (pa_cons (xv 3) pa_nil)))))), ?_⟩
  obtain ⟨d, pat, hd, hp, r, dx, lw, lr, all, rest, rows, us, rfl, rfl, R, q⟩ := h
  walk_at "ev"
  intro lf hlf
  have ap := R.apart hlf
  have hpl := len_toList pat
  refine ⟨Nat, _, pat.cps.toList, iv_pieces C_Reader H r dx lw lr lf all d pat (expr n d) (pieces (expr n d) pat.cps.toList rest rows), rfl, ?_, fun _ _ _ _ => trivial, ?_, ?_⟩
  · exact ⟨rest, rows, [], [], none, rfl, But.new hlf _, R.at ap.r ap.lr ap.lw (no_tupN hlf), upd_same, .nil, by show 0 + _ ≤ 100; omega, (plus_nil _).symm⟩
  · rintro c cs σ H1 ⟨rest1, rows1, vs, ps, x, rfl, b1, R1, hl, ht, hn, hm⟩
    rw [List.length_cons] at hn
    obtain ⟨f1, h1⟩ := R1.kr
    walk_at "evr"
    simp only [ch_eq120, List.not_mem_nil]
    split
    · next hc =>
      refine ⟨r, dx, _, rfl, h1, rfl, r, dx, lw, lr, all, rest1, rows1, [], rfl, rfl, R1, ?_⟩
      cases hx : named rest1 with
      | none =>
        refine Out.of_none (by show withR rows1 (named rest1) = _; rw [hx]; rfl) fun H2 b2 => q.none ?_ H2 (b1.trans b2)
        rw [hm.eq]
        unfold pieces
        rw [if_pos hc, hx]
        rfl
      | some p =>
        obtain ⟨y, rest2⟩ := p
        refine Out.of_some (by show withR rows1 (named rest1) = _; rw [hx]; rfl) fun H2 b2 R2 v hv => ?_
        obtain ⟨rfl, hy⟩ := hv
        have hl2 : H2 lf = some (.lst vs) := b2 _ _ ap.out hl
        walk_at "evr"
        refine ⟨sz_lt (by omega), rest2, rows1, vs ++ [.str y], ps ++ [.str y], _, rfl, (b1.trans b2).nw hlf _, R2.at ap.r ap.lr ap.lw (no_tup hl2), upd_same, ((ht.mono (TK.of_but R1 b2)).append (.cons (.str y) .nil)).mono (tk_upd (no_tup hl2)), by rw [List.length_append]; show _ + 1 + _ ≤ _; omega, ?_⟩
        show Eq _ _
        rw [hm.eq]
        rw [pieces, if_pos hc, hx]
        show plus ps (match pieces (expr n d) cs rest2 rows1 with
          | none => none
          | some (ps, ws, rows) => some (.str y :: ps, ws, rows)) = _
        cases pieces (expr n d) cs rest2 rows1 with
        | none => rfl
        | some t =>
          obtain ⟨t1, t2, t3⟩ := t
          show some (ps ++ (PyData.str y :: t1), t2, t3) = some (ps ++ [.str y] ++ t1, t2, t3)
          rw [List.append_assoc]
          rfl
    · next hc =>
      refine ⟨r, dx, _, rfl, h1, rfl, d, hd, r, dx, lw, lr, all, rest1, rows1, [_], rfl, rfl, R1, ?_⟩
      cases hx : expr n d rest1 rows1 with
      | none =>
        refine Out.of_none (by first | rfl | exact hx) fun H2 b2 => q.none ?_ H2 (b1.trans b2)
        rw [hm.eq]
        unfold pieces
        rw [if_neg hc, hx]
        rfl
      | some p =>
        obtain ⟨y, rest2, rows2⟩ := p
        refine Out.of_some (by first | rfl | exact hx) fun H2 b2 R2 v hv => ?_
        have hv' : v = .int (y : Int) := hv
        subst hv'
        have hl2 : H2 lf = some (.lst vs) := b2 _ _ ap.out hl
        walk_at "evr"
        refine ⟨sz_lt (by omega), rest2, rows2, vs ++ [.int (y : Int)], ps ++ [.int (y : Int)], _, rfl, (b1.trans b2).nw hlf _, R2.at ap.r ap.lr ap.lw (no_tup hl2), upd_same, ((ht.mono (TK.of_but R1 b2)).append (.cons (.int y) .nil)).mono (tk_upd (no_tup hl2)), by rw [List.length_append]; show _ + 1 + _ ≤ _; omega, ?_⟩
        show Eq _ _
        rw [hm.eq]
        rw [pieces, if_neg hc, hx]
        show plus ps (match pieces (expr n d) cs rest2 rows2 with
          | none => none
          | some (ps, ws, rows) => some (.int (y : Int) :: ps, ws, rows)) = _
        cases pieces (expr n d) cs rest2 rows2 with
        | none => rfl
        | some t =>
          obtain ⟨t1, t2, t3⟩ := t
          show some (ps ++ (PyData.int y :: t1), t2, t3) = some (ps ++ [.int y] ++ t1, t2, t3)
          rw [List.append_assoc]
          rfl
  · rintro σ H1 ⟨rest1, rows1, vs, ps, x, rfl, b1, R1, hl, ht, hn, hm⟩
    walk_at "evr"
    intro l hl0
    have ap2 := R1.apart hl0
    refine q.some (a := ps) (rest := rest1) (rows := rows1) (by rw [hm.eq]; show some (ps ++ [], _, _) = _; rw [List.append_nil]) _ (b1.nw ?_ _) (R1.at ap2.r ap2.lr ap2.lw (no_tupN hl0)) _ (.tup upd_same (ht.mono (tk_upd (no_tupN hl0))))
    exact b1.free ap2.out hl0
theorem ok_many {n k : Nat} (hk : 4 ≤ k) (F : Fun K "many" "Reader.many" s_Reader_many f fd) (T : RdT K mg C_Reader CB) (m_Reader_ahead : CalM P w K mg base CX0 1 C_Reader "ahead" ["self"] (sp_ahead C_Reader))
    (m_Reader_pieces : CalM P w K mg base (L2.CX P w) k C_Reader "pieces" ["self", "depth", "pattern"] (sp_pieces C_Reader CB n)) : FnOk P w K mg base (L2.CX P w) (k + 1) f fd ["self", "depth", "pattern", "most"] (sp_many C_Reader CB n) := by
  refine F.okX sc_Reader_many (fun vs H Q E h => by obtain ⟨_, _, _, _, _, _, _, _, _, _, _, _, _, _, rfl, rfl, _⟩ := h; rfl) (fun cdv A outer s H vs Q E hr h => ?_)
  have cl_Reader := T.cl
  have e_BadText := T.bad
  have z_tuple := T.tup
  have z_len := T.len
  have hu64 := hr.units
  refine ⟨_, (pss_cons (ps_set (i := 4) sc_Reader_many.nd rfl (Or.inl rfl) (pe_lst pa_nil))
  (pss_cons (xwhile (passes_of rfl) (xt (yne hu64) (pe_m0 m_Reader_ahead hr (xv 0)) pe_str (nomark _)) (pss_cons (ps_if (xt (yeq hu64) (pe_callB ylen (by rfl) z_len PySem.boot_len (pa_cons (xv 4) pa_nil)) (xv 3) (nomark _)) (pss_one (ps_rz (E := E) e_BadText rfl (takes_of rfl rfl rfl rfl))) pss_nil)
  (pss_one (ps_expr (xapp (xv 4) (pe_mX (E := E) m_Reader_pieces hr (takes_of rfl rfl rfl rfl) (xv 0) (pa_cons (xv 1) (pa_cons (xv 2) pa_nil))))))))
  (pss_one (ps_ret (pe_callTy ytuple (by rfl) z_tuple (by decide +kernel) (pa_cons (xv 4) pa_nil)))))), ?_⟩
  obtain ⟨d, pat, most, hd, hp, hm, r, dx, lw, lr, all, rest, rows, us, rfl, rfl, R, q⟩ := h
  walk_at "ev"
  intro lf hlf
  have ap := R.apart hlf
  refine ⟨iv_many C_Reader H r dx lw lr lf all d pat most (expr n d) (many (expr n d) pat.cps.toList most rest rows), ⟨most, rest, rows, [], [], rfl, But.new hlf _, R.at ap.r ap.lr ap.lw (no_tupN hlf), upd_same, .nil, Nat.zero_add _, (plus_nil _).symm⟩, ?_⟩
  rintro k σ H1 ⟨rest1, rows1, vs, ps, rfl, b1, R1, hl, ht, hn, hm⟩
  obtain ⟨f1, h1⟩ := R1.kr
  walk_at "ev"
  refine ⟨r, dx, _, rfl, h1, rfl, r, dx, lw, lr, all, rest1, rows1, rfl, R1, ?_⟩
  walk_at "evr"
  split
  · next ha =>
    intro l hl0
    have ap2 := R1.apart hl0
    refine q.some (a := ps) (rest := rest1) (rows := rows1) (by rw [hm.eq, many_end ha]; show some (ps ++ [], _, _) = _; rw [List.append_nil]) _ (b1.nw ?_ _) (R1.at ap2.r ap2.lr ap2.lw (no_tupN hl0)) _ (.tup upd_same (ht.mono (tk_upd (no_tupN hl0))))
    exact b1.free ap2.out hl0
  · next ha =>
    split
    · next he =>
      have hk0 : k = 0 := by omega
      subst hk0
      refine q.none ?_ H1 b1
      rw [hm.eq, many_zero ha]
      rfl
    · next he =>
      obtain ⟨k, rfl⟩ : ∃ j, k = j + 1 := ⟨k - 1, by omega⟩
      refine ⟨r, dx, _, rfl, h1, rfl, d, pat, hd, hp, r, dx, lw, lr, all, rest1, rows1, _, rfl, rfl, R1, ?_⟩
      cases hx : pieces (expr n d) pat.cps.toList rest1 rows1 with
      | none =>
        refine Out.of_none (by first | rfl | exact hx) fun H2 b2 => q.none ?_ H2 (b1.trans b2)
        rw [hm.eq, many_succ ha]
        simp only [hx]
        rfl
      | some p =>
        obtain ⟨y, rest2, rows2⟩ := p
        refine Out.of_some (by first | rfl | exact hx) fun H2 b2 R2 v hv => ?_
        have hl2 : H2 lf = some (.lst vs) := b2 _ _ ap.out hl
        walk_at "evr"
        refine ⟨sz_lt (by omega), k, Nat.lt_succ_self k, rest2, rows2, vs ++ [v], ps ++ [.tuple y], rfl, (b1.trans b2).nw hlf _, R2.at ap.r ap.lr ap.lw (no_tup hl2), upd_same, ((ht.mono (TK.of_but R1 b2)).append (.cons hv .nil)).mono (tk_upd (no_tup hl2)), by rw [List.length_append]; show _ + 1 + _ = _; omega, ?_⟩
        show Eq _ _
        rw [hm.eq, many_succ ha]
        simp only [hx]
        cases many (expr n d) pat.cps.toList k rest2 rows2 with
        | none => rfl
        | some t =>
          obtain ⟨t1, t2, t3⟩ := t
          show some (ps ++ (PyData.tuple y :: t1), t2, t3) = some (ps ++ [.tuple y] ++ t1, t2, t3)
          rw [List.append_assoc]
          rfl
theorem ok_form {n k : Nat} (hk : 4 ≤ k) (F : Fun K "form" "Reader.form" s_Reader_form f fd) (T : RdT K mg C_Reader CB) (m_Reader_taken : CalM P w K mg base (L2.CX P w) 2 C_Reader "taken" ["self"] (sp_taken C_Reader CB))
    (c_pattern_of : Cal P w K mg base (L2.CX P w) 1 "pattern_of" ["head"] (sp_pattern_of CB)) (m_Reader_expr : CalM P w K mg base (L2.CX P w) k C_Reader "expr" ["self", "depth"] (sp_expr C_Reader CB n))
    (m_Reader_pieces : CalM P w K mg base (L2.CX P w) k C_Reader "pieces" ["self", "depth", "pattern"] (sp_pieces C_Reader CB n)) (m_Reader_many : CalM P w K mg base (L2.CX P w) k C_Reader "many" ["self", "depth", "pattern", "most"] (sp_many C_Reader CB n)) :
    FnOk P w K mg base (L2.CX P w) (k + 1) f fd ["self", "depth"] (sp_form C_Reader CB n) := by
  refine F.okX sc_Reader_form (fun vs H Q E h => by obtain ⟨_, _, _, _, _, _, _, _, _, _, rfl, rfl, _⟩ := h; rfl) (fun cdv A outer s H vs Q E hr h => ?_)
  have cl_Reader := T.cl
  have e_BadText := T.bad
  have z_tuple := T.tup
  have z_len := T.len
  have hu64 := hr.units
  refine ⟨_, (pss_cons (ps_set (i := 2) sc_Reader_form.nd rfl (Or.inl rfl) (pe_mX0 (E := E) m_Reader_taken hr (takes_of rfl rfl rfl rfl) (xv 0)))
  (pss_cons (ps_if (xt (yeq hu64) (xv 2) pe_str (nomark _)) (pss_one (ps_ret (pe_tup (pa_cons (xv 2) (pa_cons (pe_mX (E := E) m_Reader_many hr (takes_of rfl rfl rfl rfl) (xv 0) (pa_cons (xv 1) (pa_cons pe_str (pa_cons pe_int pa_nil)))) pa_nil))))) pss_nil)
  (pss_cons (ps_if (xt (yeq hu64) (xv 2) pe_str (nomark _)) (pss_one (ps_ret (pe_tup (pa_cons (xv 2) (pa_cons (pe_callTy ytuple (by rfl) z_tuple (by decide +kernel) (pa_cons (xlc (own := [("pair", 3)]) sc_Reader_form.nd (xitup (pe_mX (E := E) m_Reader_many hr (takes_of rfl rfl rfl rfl) (xv 0) (pa_cons (xv 1) (pa_cons pe_str (pa_cons pe_int pa_nil))))) (blkOk_by (own := [("pair", 3)]) (N := ["self", "depth", "head", "pair", "first", "arms"]) (sc := defScope s_Reader_form) (by decide +kernel)) (fun _ _ _ _ _ => (pg_name (i := 3) sc_Reader_form.nd rfl (Or.inl rfl))) (fun _ _ _ _ _ => pts_nil) (fun _ _ _ _ _ => (pe_ix yix (xv 3) pe_int (fun _ _ => rfl)))) pa_nil)) pa_nil))))) pss_nil)
  (pss_cons (ps_if (xt (yeq hu64) (xv 2) pe_str (nomark _)) (pss_cons (ps_set (i := 4) sc_Reader_form.nd rfl (Or.inl rfl) (pe_mX (E := E) m_Reader_expr hr (takes_of rfl rfl rfl rfl) (xv 0) (pa_cons (xv 1) pa_nil)))
  (pss_cons (ps_set (i := 5) sc_Reader_form.nd rfl (Or.inl rfl) (pe_mX (E := E) m_Reader_many hr (takes_of rfl rfl rfl rfl) (xv 0) (pa_cons (xv 1) (pa_cons pe_str (pa_cons pe_int pa_nil)))))
  (pss_cons (ps_if (xt (yeq hu64) (pe_callB ylen (by rfl) z_len PySem.boot_len (pa_cons (xv 5) pa_nil)) pe_int (nomark _)) (pss_one (ps_rz (E := E) e_BadText rfl (takes_of rfl rfl rfl rfl))) pss_nil)
  (pss_one (ps_ret (pe_tup (pa_cons (xv 2) (pa_cons (xv 4) (pa_cons (xv 5) pa_nil))))))))) pss_nil)
  (pss_one (ps_ret (pe_op yadd (pe_tup (pa_cons (xv 2) pa_nil)) (pe_mX (E := E) m_Reader_pieces hr (takes_of rfl rfl rfl rfl) (xv 0) (pa_cons (xv 1) (pa_cons (pe_cX (E := E) c_pattern_of hr (takes_of rfl rfl rfl rfl) (pa_cons (xv 2) pa_nil)) pa_nil)))))))))), ?_⟩
  obtain ⟨d, hd, r, dx, lw, lr, all, rest, rows, us, rfl, rfl, R, q⟩ := h
  obtain ⟨f0, h1⟩ := R.kr
  walk_at "ev"
  refine ⟨r, dx, _, rfl, h1, rfl, r, dx, lw, lr, all, rest, rows, [], rfl, rfl, R, ?_⟩
  cases hx : taken rest with
  | none =>
    refine Out.of_none (by show withR rows (taken rest) = _; rw [hx]; rfl) fun H2 b2 => q.none ?_ H2 b2
    unfold form
    rw [hx]
  | some p =>
    obtain ⟨h, rest1⟩ := p
    refine Out.of_some (by show withR rows (taken rest) = _; rw [hx]; rfl) fun H1 b1 R1 v hv => ?_
    have hv' : v = .str h := hv
    subst hv'
    unfold form at q
    rw [hx] at q
    simp only at q
    obtain ⟨f1, h1⟩ := R1.kr
    walk_at "ev"
    split
    · next hc =>
      rw [if_pos hc] at q
      refine ⟨r, dx, _, rfl, h1, rfl, d, "xe", 6, hd, by decide +kernel, by decide, r, dx, lw, lr, all, rest1, rows, _, rfl, rfl, R1, ?_⟩
      rw [xe_eq]
      cases hm : many (expr n d) [120, 101] 6 rest1 rows with
      | none => 
        refine Out.of_none (by first | rfl | exact hm) fun H2 b2 => q.none ?_ H2 (b1.trans b2)
        rw [hm]
      | some t =>
        obtain ⟨ps, rest2, rows2⟩ := t
        refine Out.of_some (by first | rfl | exact hm) fun H2 b2 R2 v hv => ?_
        walk_at "ev"
        intro p hp
        have ap := R2.apart hp
        exact q.some (by rw [hm]) _ ((b1.trans b2).nw ((b1.trans b2).free ap.out hp) _) (R2.at ap.r ap.lr ap.lw (no_tupN hp)) _ (.tup upd_same (.cons (.str h) (.cons (hv.mono (tk_upd (no_tupN hp))) .nil)))
    · next hc =>
      rw [if_neg hc] at q
      split
      · next hc =>
        rw [if_pos hc] at q
        refine ⟨r, dx, _, rfl, h1, rfl, d, "e", 8, hd, by decide +kernel, by decide, r, dx, lw, lr, all, rest1, rows, _, rfl, rfl, R1, ?_⟩
        rw [e_eq]
        cases hm : many (expr n d) [101] 8 rest1 rows with
        | none => 
          refine Out.of_none (by first | rfl | exact hm) fun H2 b2 => q.none ?_ H2 (b1.trans b2)
          rw [hm]
        | some t =>
          obtain ⟨ps, rest2, rows2⟩ := t
          refine Out.of_some (by first | rfl | exact hm) fun H2 b2 R2 v hv => ?_
          have hone := many_one hm
          have b := b1.trans b2
          cases hv with
          | @tup a xs ds ha hs =>
          walk_at "evr"
          intro D hD
          have ap := R2.apart hD
          refine ⟨V, _, xs, fun r H => ∃ acc dn rs, Same H2 H ∧ H D = some (.lst acc) ∧ ps = dn ++ rs ∧ Tps H r rs ∧ Tps H acc (dn.map firstOf) ∧ acc.length + r.length ≤ 100, rfl, ?_, ?_, ?_, ?_⟩
          · have hl := hs.length
            have h8 := many_le hm
            exact ⟨[], [], ps, same_new hD _, upd_same, rfl, hs.mono (tk_upd (no_tupN hD)), .nil, by show 0 + _ ≤ _; omega⟩
          · rintro r' H' ⟨acc, dn, rs, s, _⟩
            have := s _ _ ha
            simp only [this]
          · rintro y r' H' ⟨acc, dn, rs, s, hacc, hps, hr, hd, hn⟩
            rw [List.length_cons] at hn
            cases hr with
            | @cons _ _ d1 ds1 hy hr =>
              obtain ⟨p, rfl⟩ := hone d1 (by rw [hps]; simp)
              cases hy with
              | tup hy1 hy2 =>
                cases hy2 with
                | cons hy3 hy4 =>
                  cases hy4
                  cases hy3
                  walk_at "evr"
                  refine ⟨sz_lt (by omega), _, dn ++ [.tuple [.int p]], _, same_upd s hD _, rfl, by simp, hr.mono (tk_upd (no_tup hacc)), ?_, by rw [List.length_append]; show _ + 1 + _ ≤ _; omega⟩
                  rw [List.map_append]
                  exact (hd.append (.cons (.int p) .nil)).mono (tk_upd (no_tup hacc))
          · rintro H' ⟨acc, dn, rs, s, hacc, hps, hr, hd, hn⟩
            cases hr
            rw [List.append_nil] at hps
            subst hps
            walk_at "evr"
            intro l hl p hp
            have apl : Apart l r lr lw := R2.apart (s.free hl)
            have hlp : H' p = none := by
              have hne : p ≠ l := by
                rintro rfl
                rw [upd_same] at hp
                cases hp
              rw [upd_ne hne] at hp
              exact hp
            have app : Apart p r lr lw := R2.apart (s.free hlp)
            have R3 := (R2.mono s).at (o := .tup acc) apl.r apl.lr apl.lw (no_tupN hl)
            have R4 := R3.at (o := .tup [.str h, .ref l]) app.r app.lr app.lw (no_tupN hp)
            have b3 := (b.trans (Same.but s)).nw (b.free apl.out (s.free hl)) (.tup acc)
            have b4 := b3.nw (b.free app.out (s.free hlp)) (.tup [.str h, .ref l])
            subst hc
            refine q.some (by rw [hm]) _ b4 R4 _ (.tup upd_same (.cons (.str _) (.cons ?_ .nil)))
            exact (Tp.tup upd_same (hd.mono (tk_upd (no_tupN hl)))).mono (tk_upd (no_tupN hp))
      · next hc =>
        rw [if_neg hc] at q
        split
        · next hc =>
          rw [if_pos hc] at q
          refine ⟨r, dx, _, rfl, h1, rfl, d, hd, r, dx, lw, lr, all, rest1, rows, _, rfl, rfl, R1, ?_⟩
          cases he : expr n d rest1 rows with
          | none =>
            refine Out.of_none (by first | rfl | exact he) fun H2 b2 => q.none ?_ H2 (b1.trans b2)
            rw [he]
          | some t =>
            obtain ⟨p, rest2, rows2⟩ := t
            rw [he] at q
            simp only at q
            refine Out.of_some (by first | rfl | exact he) fun H2 b2 R2 v hv => ?_
            have hv' : v = .int (p : Int) := hv
            subst hv'
            obtain ⟨f2, h2⟩ := R2.kr
            refine ⟨r, dx, _, rfl, h2, rfl, d, "xxe", 6, hd, by decide +kernel, by decide, r, dx, lw, lr, all, rest2, rows2, _, rfl, rfl, R2, ?_⟩
            rw [show (Str.ofString "xxe").cps.toList = [120, 120, 101] by decide +kernel]
            cases hm : many (expr n d) [120, 120, 101] 6 rest2 rows2 with
            | none => 
              refine Out.of_none (by first | rfl | exact hm) fun H3 b3 => q.none ?_ H3 ((b1.trans b2).trans b3)
              rw [hm]
            | some t =>
              obtain ⟨ps, rest3, rows3⟩ := t
              rw [hm] at q
              simp only at q
              refine Out.of_some (by first | rfl | exact hm) fun H3 b3 R3 v hv => ?_
              have b := (b1.trans b2).trans b3
              cases hv with
              | tup ha hs =>
                walk_at "evr"
                rw [hs.length]
                split
                · next hz =>
                  have hz' : ps = [] := List.length_eq_zero_iff.mp (by omega)
                  exact q.none (by rw [if_pos hz']) H3 b
                · next hz =>
                  have hz' : ps ≠ [] := fun e => hz (by rw [e]; rfl)
                  intro p' hp
                  have ap := R3.apart hp
                  exact q.some (by rw [if_neg hz', hc]) _ (b.nw (b.free ap.out hp) _) (R3.at ap.r ap.lr ap.lw (no_tupN hp)) _ (.tup upd_same (.cons (.str _) (.cons (.int p) (.cons ((Tp.tup ha hs).mono (tk_upd (no_tupN hp))) .nil))))
        · next hc =>
          rw [if_neg hc] at q
          intro p hp
          have ap := R1.apart hp
          have R2 := R1.at (o := .tup [.str h]) ap.r ap.lr ap.lw (no_tupN hp)
          have b2 := b1.nw (b1.free ap.out hp) (.tup [.str h])
          obtain ⟨f2, h2⟩ := R2.kr
          refine ⟨r, dx, _, rfl, h2, rfl, h, rfl, ?_⟩
          cases hpt : patternOf h with
          | none =>
            intro H3 s3
            exact q.none (by rw [hpt]) H3 (b2.trans (Same.but s3))
          | some pat =>
            rw [hpt] at q
            simp only at q
            intro y hy H3 s3
            have R3 := R2.mono s3
            have b3 := b2.trans (Same.but s3)
            have hyl : y.length ≤ 100 := by
              rw [← len_toList, hy]
              unfold patternOf at hpt
              repeat' split at hpt
              all_goals first | (cases hpt; decide) | cases hpt
            refine ⟨d, y, hd, hyl, r, dx, lw, lr, all, rest1, rows, _, rfl, rfl, R3, ?_⟩
            rw [hy]
            cases hm : pieces (expr n d) pat rest1 rows with
            | none =>
              refine Out.of_none (by first | rfl | exact hm) fun H4 b4 => q.none ?_ H4 (b3.trans b4)
              rw [hm]
            | some t =>
              obtain ⟨ps, rest3, rows3⟩ := t
              rw [hm] at q
              simp only at q
              refine Out.of_some (by first | rfl | exact hm) fun H4 b4 R4 v hv => ?_
              have hp4 : H4 p = some (.tup [.str h]) := b4 _ _ ap.out (s3 _ _ upd_same)
              have b := b3.trans b4
              cases hv with
              | tup ha hs =>
                show qAdd (.ref p) (.ref _) H4 Q
                rw [qAdd_tt hp4 ha]
                have hl := hs.length
                refine ⟨sz_of ?_, fun e => absurd e (by simp), fun _ e2 => ?_, fun _ e2 p' hp' => ?_⟩
                · have := pieces_le hm
                  rw [hl]
                  have h2 : pat.length ≤ 100 := by rw [← hy, len_toList]; exact hyl
                  show 1 + _ ≤ _
                  omega
                · have e3 : ps = [] := List.length_eq_zero_iff.mp (by rw [← hl, e2]; rfl)
                  exact q.some rfl _ b R4 _ (.tup hp4 (by rw [e3]; exact .cons (.str h) .nil))
                · have ap' := R4.apart hp'
                  exact q.some rfl _ (b.nw (b.free ap'.out hp') _) (R4.at ap'.r ap'.lr ap'.lw (no_tupN hp')) _ (.tup upd_same ((Tps.cons (.str h) hs).mono (tk_upd (no_tupN hp'))))
end
end Fk
namespace Fk
open PySem L2
theorem rf1 {v : V} : putF (Str.ofString "words") v [] = ([("words", v)] : List (Str × V)) := by rfl
theorem rf2 {v u : V} : putF (Str.ofString "front") u ([("words", v)] : List (Str × V)) = ([("words", v), ("front", u)] : List (Str × V)) := by rfl
theorem rf3 {lw lr : Addr} {f : Int} : putF (Str.ofString "rows") (.ref lr) [("words", .ref lw), ("front", .int f)] = rfs lw f lr := by rfl
local macro_rules | `(tactic| walk_at "ev") => `(tactic| try simp only [cx_K, L2.start, List.map_cons, List.map_nil, List.length_cons, List.length_nil, Nat.reduceAdd, Nat.reduceSub, Nat.reduceLT, List.replicate_succ, List.replicate_zero, List.cons_append, List.nil_append, Nat.zero_add, Nat.add_zero,
  tSeq, tAsg, tLst, tTup, tNil, tCons, tC, tOp, tUn, gName, tNext, tRet, tRetN, tIfS, tDrop, tCB, tCall, tMeth, tMake, tIf, tAnd, tOr, tNot, tAndV, tOrV, tNotV, qFor, qLc, tYes, wStr, wLst, wTup, wRng1, wRng2, wEnum, wZip, wRev, qVar, asB_bl, qAdd_ii, qAdd_ss, qSub_ii, qMul_ii, qMod_ii, qDiv_ii, qPow_ii, qCmpI_ii, qEq_ii, qEq_ss, qEq_bb, qIsN_n, qIsN_i, qIsN_s, qIsN_b, qIsN_r, qInS_s, qInT_r, qIx_s, qIx_r, qT, qIAdd_ii, qIAdd_ss, qLen_s, qLen_r, qAbs_i, qMax2_ii, qMin2_ii, qInt_i, qInt_b, qInt_s, qStrC_i, qStrC_s, qList_r, qTuple_r, tupleAs_l, tupleAs_t, qDivmod_ii, qAll_r, qAny_r, qSl_s, tSl, tNoPart, tPart, qPar, qPar3,
  qApp, qExt, qPop, isLst, qFld, qSetF, qAugF, qAug, qgTup, qgCons, qgNil, gSub, qSetL, yv, wipe,
  List.getElem?_cons_zero, List.getElem?_cons_succ, List.set_cons_zero, List.set_cons_succ, upd_same, lstOf, tupOf, seqOf, at0, at1, at2, at3, ix0, ix1, ix2, sz0, sz1, sz2, sz3, sz4, sz5, sz6, sz7, sz8, sz15, true_and, and_true, and_self, if_true, if_false, if_pos,
  beq_t, beq_f, decide_eq_true_eq, decide_eq_false_iff_not, Bool.not_eq_true', Bool.not_eq_true, Bool.not_eq_false, Bool.not_true, Bool.not_false, Bool.false_eq_true, reduceCtorEq, ite_not, if_true, if_false, reduceIte, V.int.injEq, V.str.injEq, V.bl.injEq, V.ref.injEq, List.append_nil, forall_eq', exists_eq_left, exists_eq_left'])
local macro_rules | `(tactic| walk_at "evr") => `(tactic| try simp only [cx_K, L2.start, List.map_cons, List.map_nil, List.length_cons, List.length_nil, Nat.reduceAdd, Nat.reduceSub, Nat.reduceLT, List.replicate_succ, List.replicate_zero, List.cons_append, List.nil_append, Nat.zero_add, Nat.add_zero,
  tSeq, tAsg, tLst, tTup, tNil, tCons, tC, tOp, tUn, gName, tNext, tRet, tRetN, tIfS, tDrop, tCB, tCall, tMeth, tMake, tIf, tAnd, tOr, tNot, tAndV, tOrV, tNotV, qFor, qLc, tYes, wStr, wLst, wTup, wRng1, wRng2, wEnum, wZip, wRev, qVar, asB_bl, qAdd_ii, qAdd_ss, qSub_ii, qMul_ii, qMod_ii, qDiv_ii, qPow_ii, qCmpI_ii, qEq_ii, qEq_ss, qEq_bb, qIsN_n, qIsN_i, qIsN_s, qIsN_b, qIsN_r, qInS_s, qInT_r, qIx_s, qIx_r, qT, qIAdd_ii, qIAdd_ss, qLen_s, qLen_r, qAbs_i, qMax2_ii, qMin2_ii, qInt_i, qInt_b, qInt_s, qStrC_i, qStrC_s, qList_r, qTuple_r, tupleAs_l, tupleAs_t, qDivmod_ii, qAll_r, qAny_r, qSl_s, tSl, tNoPart, tPart, qPar, qPar3,
  qApp, qExt, qPop, isLst, qFld, qSetF, qAugF, qAug, qgTup, qgCons, qgNil, gSub, qSetL, yv, wipe,
  List.getElem?_cons_zero, List.getElem?_cons_succ, List.set_cons_zero, List.set_cons_succ, upd_same, lstOf, tupOf, seqOf, at0, at1, at2, at3, ix0, ix1, ix2, sz0, sz1, sz2, sz3, sz4, sz5, sz6, sz7, sz8, sz15, true_and, and_true, and_self, if_true, if_false, if_pos,
  beq_t, beq_f, decide_eq_true_eq, decide_eq_false_iff_not, Bool.not_eq_true', Bool.not_eq_true, Bool.not_eq_false, Bool.not_true, Bool.not_false, Bool.false_eq_true, reduceCtorEq, ite_not, if_true, if_false, reduceIte, V.int.injEq, V.str.injEq, V.bl.injEq, V.ref.injEq, List.append_nil, forall_eq', exists_eq_left, exists_eq_left', rfs_words, rfs_front, rfs_rows, rfs_put, rf1, rf2, rf3, *])
section
variable {P : Program} {w : World} {K : PySem.W.Frag} {mg : Str → Option Value} {base : Heap} {C_Reader CB : Addr} {f : Addr} {fd : FuncData}
theorem ok_init (F : Fun K "__init__" "Reader.__init__" s_Reader___init__ f fd) (T : RdT K mg C_Reader CB) : FnOk P w K mg base CX0 1 f fd ["self", "words"] (fun vs H Q _ => ∃ (r dx lw : Addr), vs = [.ref r, .ref lw] ∧ H r = some (.ins C_Reader dx []) ∧ ∀ lr, H lr = none → Q .non (upd (upd H lr (.lst [])) r (.ins C_Reader dx (rfs lw 0 lr)))) := by
  refine F.ok sc_Reader___init__ (fun vs H Q E h => by obtain ⟨_, _, _, rfl, _⟩ := h; rfl) (fun cdv A outer s H vs Q E hr h => ?_)
  have cl_Reader := T.cl
  have n_Reader_words := T.n1
  have n_Reader_front := T.n2
  have n_Reader_rows := T.n3
  have hu64 := hr.units
  refine ⟨_, (pss_cons (xsetf (C := C_Reader) cl_Reader n_Reader_words (xv 0) (xv 1))
  (pss_cons (xsetf (C := C_Reader) cl_Reader n_Reader_front (xv 0) pe_int)
  (pss_one (xsetf (C := C_Reader) cl_Reader n_Reader_rows (xv 0) (pe_lst pa_nil))))), ?_⟩
  obtain ⟨r, dx, lw, rfl, h1, q⟩ := h
  walk_at "evr"
  intro p hp
  rw [upd_upd] at hp ⊢
  have hne : p ≠ r := by
    rintro rfl
    rw [upd_same] at hp
    cases hp
  have hp0 : H p = none := by
    rw [upd_ne hne] at hp
    exact hp
  rw [upd_ne hne.symm]
  walk_at "evr"
  have e : upd (upd (upd H r (.ins C_Reader dx [("words", .ref lw), ("front", .int 0)])) p (.lst [])) r (.ins C_Reader dx (rfs lw 0 p)) = upd (upd H p (.lst [])) r (.ins C_Reader dx (rfs lw 0 p)) := by
    funext b
    unfold upd
    split
    · rfl
    · rfl
  rw [e]
  exact q p hp0
/-- int(word) of a word that is a number -/
theorem fig_iff : ∀ c ∈ figuresS.cps.toList, 48 ≤ c ∧ c ≤ 57 := by decide +kernel
theorem num_text {x : Str} (h : isNumber x = true) : PySem.intText? x = some (numOf x) ∧ x.length ≤ 640 := by
  unfold isNumber at h
  simp only [Bool.and_eq_true, Bool.not_eq_true', Bool.or_eq_false_iff, decide_eq_false_iff_not, List.all_eq_true, decide_eq_true_eq] at h
  obtain ⟨⟨⟨h1, h2⟩, h3⟩, h4⟩ := h
  have hl := len_toList x
  have e := PySem.intText_digits (x := x) (fun c hc => fig_iff c (h3 c hc)) (fun z => h1 (by rw [← hl, z]; rfl)) (by omega)
  refine ⟨?_, by omega⟩
  unfold numOf
  rw [e]
  rfl
theorem rel_num : ("num" : Str) = Str.ofString "num" := rfl
theorem ok_expr {n k : Nat} (hk : 4 ≤ k) {spF : Sp} (F : Fun K "expr" "Reader.expr" s_Reader_expr f fd) (T : RdT K mg C_Reader CB) (m_Reader_taken : CalM P w K mg base (L2.CX P w) 2 C_Reader "taken" ["self"] (sp_taken C_Reader CB))
    (m_Reader_want : CalM P w K mg base (L2.CX P w) 3 C_Reader "want" ["self", "word"] (sp_want C_Reader CB)) (c_is_number : Cal P w K mg base CX0 1 "is_number" ["word"] sp_is_number) (c_is_name : Cal P w K mg base CX0 1 "is_name" ["word"] sp_is_name)
    (m_Reader_form : CalM P w K mg base (L2.CX P w) k C_Reader "form" ["self", "depth"] spF) (hF : ∀ m, n = m + 1 → spF = sp_form C_Reader CB m) : FnOk P w K mg base (L2.CX P w) (k + 1) f fd ["self", "depth"] (sp_expr C_Reader CB n) := by
  refine F.okX sc_Reader_expr (fun vs H Q E h => by obtain ⟨_, _, _, _, _, _, _, _, _, _, rfl, rfl, _⟩ := h; rfl) (fun cdv A outer s H vs Q E hr h => ?_)
  have cl_Reader := T.cl
  have n_Reader_rows := T.n3
  have e_BadText := T.bad
  have z_len := T.len
  have z_int := T.int
  have g_MOST_NEST := T.nest
  have g_MOST_PLACES := T.places
  have hu64 := hr.units
  refine ⟨_, (pss_cons (ps_if (PW.pt (pw_or (xt ygt (xv 1) (pe_gi g_MOST_NEST) (nomark _)) (pw_or1 (xt yge (pe_callB ylen (by rfl) z_len PySem.boot_len (pa_cons (xfld (C := C_Reader) cl_Reader n_Reader_rows (xv 0)) pa_nil)) (pe_gi g_MOST_PLACES) (nomark _))))) (pss_one (ps_rz (E := E) e_BadText rfl (takes_of rfl rfl rfl rfl))) pss_nil)
  (pss_cons (ps_set (i := 2) sc_Reader_expr.nd rfl (Or.inl rfl) (pe_callB ylen (by rfl) z_len PySem.boot_len (pa_cons (xfld (C := C_Reader) cl_Reader n_Reader_rows (xv 0)) pa_nil)))
  (pss_cons (ps_expr (xapp (xfld (C := C_Reader) cl_Reader n_Reader_rows (xv 0)) pe_non))
  (pss_cons (ps_set (i := 3) sc_Reader_expr.nd rfl (Or.inl rfl) (pe_mX0 (E := E) m_Reader_taken hr (takes_of rfl rfl rfl rfl) (xv 0)))
  (pss_cons (ps_if (xt (yeq hu64) (xv 3) pe_str (nomark _)) (pss_cons (ps_asg (pe_mX (E := E) m_Reader_form hr (takes_of rfl rfl rfl rfl) (xv 0) (pa_cons (pe_op yadd (xv 1) pe_int) pa_nil)) (pg_sub (xfld (C := C_Reader) cl_Reader n_Reader_rows (xv 0)) (xv 2) ysetl))
  (pss_one (ps_expr (pe_mX (E := E) m_Reader_want hr (takes_of rfl rfl rfl rfl) (xv 0) (pa_cons pe_str pa_nil))))) (pss_one (ps_if (xtv (pe_c c_is_number hr (pa_cons (xv 3) pa_nil))) (pss_one (ps_asg (pe_tup (pa_cons pe_str (pa_cons (pe_callTy yintc (by rfl) z_int (by decide +kernel) (pa_cons (xv 3) pa_nil)) pa_nil))) (pg_sub (xfld (C := C_Reader) cl_Reader n_Reader_rows (xv 0)) (xv 2) ysetl))) (pss_one (ps_if (xtv (pe_c c_is_name hr (pa_cons (xv 3) pa_nil))) (pss_one (ps_asg (pe_tup (pa_cons pe_str (pa_cons (xv 3) pa_nil))) (pg_sub (xfld (C := C_Reader) cl_Reader n_Reader_rows (xv 0)) (xv 2) ysetl))) (pss_one (ps_rz (E := E) e_BadText rfl (takes_of rfl rfl rfl rfl))))))))
  (pss_one (ps_ret (xv 2)))))))), ?_⟩
  obtain ⟨d, hd, r, dx, lw, lr, all, rest, rows, us, rfl, rfl, R, q⟩ := h
  obtain ⟨vs, f0, h1, h2, h3, h4, h5⟩ := R.ex
  walk_at "evr"
  have hvl : vs.length = rows.length := h3.length
  have ed : (24 < (d : Int)) = (24 < d) := propext (by omega)
  have er : (160 ≤ (vs.length : Int)) = (160 ≤ rows.length) := propext (by omega)
  simp only [ed, er]
  split
  · next hd1 => exact q.none (expr_deep hd1) H (But.refl _ _)
  · next hd1 =>
    split
    · next hf1 => exact q.none (expr_full hf1) H (But.refl _ _)
    · next hf1 =>
      obtain ⟨m, rfl⟩ : ∃ m, n = m + 1 := ⟨n - 1, by omega⟩
      have spE := hF m rfl
      subst spE
      rw [expr_go hd1 hf1] at q
      have hnr : lr ≠ r := ne_of h2 h1 (by intro z; cases z)
      refine ⟨sz_lt (by omega), r, dx, _, rfl, by rw [upd_ne hnr.symm]; exact h1, rfl, r, dx, lw, lr, all, rest, rows ++ [.none], [], rfl, rfl, ⟨⟨vs ++ [.non], f0, by rw [upd_ne hnr.symm]; exact h1, upd_same, (h3.append (.cons .non .nil)).mono (tk_upd (no_tup h2)), h4, h5⟩, by rw [upd_ne R.ne]; exact R.w, R.ne, R.al, R.ws, by rw [List.length_append]; show _ + 1 ≤ _; omega⟩, ?_⟩
      have b0 : But [r, lr] H (upd H lr (.lst (vs ++ [.non]))) := (But.refl _ H).at (by simp) _
      cases hx : taken rest with
      | none =>
        refine Out.of_none (by show withR _ (taken rest) = _; rw [hx]; rfl) fun H1 b1 => q.none ?_ H1 (b0.trans b1)
        all_goals first | rfl | rw [hx]
      | some t =>
        obtain ⟨x, rest1⟩ := t
        rw [hx] at q
        simp only at q
        refine Out.of_some (by show withR _ (taken rest) = _; rw [hx]; rfl) fun H1 b1 R1 v hv => ?_
        have hv' : v = .str x := hv
        subst hv'
        have hxl : x.length ≤ 100000 := by
          obtain ⟨e, _⟩ := taken_some hx
          have : x ∈ all.drop f0 := by rw [h4, e]; exact List.mem_cons_self
          exact R.ws x (List.mem_of_mem_drop this)
        have b1' := b0.trans b1
        obtain ⟨vs1, f1, g1, g2, g3, g4, g5⟩ := R1.ex
        have hl1 : vs1.length = rows.length + 1 := by rw [g3.length, List.length_append]; rfl
        have hset (row : PyData) : (rows ++ [PyData.none]).set rows.length row = rows ++ [row] := by rw [List.set_append_right _ _ (Nat.le_refl _), Nat.sub_self]; rfl
        have hix : ixN vs1.length (vs.length : Int) = some rows.length := by
          unfold ixN
          rw [if_pos (by omega), if_pos (by omega)]
          exact congrArg some (by omega)
        walk_at "ev"
        split
        · next hc =>
          rw [if_pos hc] at q
          refine ⟨r, dx, _, rfl, g1, rfl, d + 1, by omega, r, dx, lw, lr, all, rest1, rows ++ [.none], _, rfl, rfl, R1, ?_⟩
          cases hf : form (expr m (d + 1)) rest1 (rows ++ [.none]) with
          | none =>
            refine Out.of_none (by first | rfl | exact hf) fun H2 b2 => q.none ?_ H2 (b1'.trans b2)
            all_goals first | rfl | rw [hf]
          | some t =>
            obtain ⟨row, rest2, rows2⟩ := t
            rw [hf] at q
            simp only at q
            refine Out.of_some (by first | rfl | exact hf) fun H2 b2 R2 v hv => ?_
            have hv2 : Tp H2 v row := hv
            have b2' := b1'.trans b2
            obtain ⟨vs2, f2, i1, i2, i3, i4, i5⟩ := R2.ex
            have hg := form_grow (expr_grow m (d + 1)) hf
            rw [List.length_append] at hg
            have hg' : rows.length + 1 ≤ vs2.length := by rw [i3.length]; exact hg
            have hix2 : ixN vs2.length (vs.length : Int) = some rows.length := by
              unfold ixN
              rw [if_pos (by omega), if_pos (by omega)]
              exact congrArg some (by omega)
            simp only [i1, rfs_rows, true_and, i2, hix2]
            refine ⟨r, dx, _, rfl, by rw [upd_ne hnr.symm]; exact i1, rfl, ")", r, dx, lw, lr, all, rest2, rows2.set rows.length row, _, rfl, rfl, ⟨⟨vs2.set rows.length v, f2, by rw [upd_ne hnr.symm]; exact i1, upd_same, (i3.set hv2 rows.length).mono (tk_upd (no_tup i2)), i4, i5⟩, by rw [upd_ne R.ne]; exact R2.w, R.ne, R.al, R.ws, by rw [List.length_set]; exact R2.rl⟩, ?_⟩
            have b3 := b2'.at (p := lr) (by simp) (.lst (vs2.set rows.length v))
            cases hw : want ")" rest2 with
            | none =>
              refine Out.of_none (by show withR _ ((want ")" rest2).map _) = _; rw [hw]; rfl) fun H3 b4 => q.none ?_ H3 (b3.trans b4)
              all_goals first | rfl | rw [hw]
            | some rest3 =>
              rw [hw] at q
              refine Out.of_some (by show withR _ ((want ")" rest2).map _) = _; rw [hw]; rfl) fun H3 b4 R3 v hv => ?_
              refine q.some rfl H3 (b3.trans b4) R3 _ ?_
              rw [hvl]
        · next hc =>
          rw [if_neg hc] at q
          refine ⟨x, rfl, hxl, ?_⟩
          walk_at "ev"
          split
          · next hn =>
            rw [if_pos hn] at q
            obtain ⟨hn1, hn2⟩ := num_text hn
            simp only [hn1]
            refine ⟨hn2, fun p hp => ?_⟩
            have ap := R1.apart hp
            rw [upd_ne ap.r.symm]
            simp only [g1, rfs_rows, true_and]
            rw [upd_ne ap.lr.symm]
            simp only [g2, hix]
            have R2 := R1.at (o := .tup [.str "num", .int (numOf x)]) ap.r ap.lr ap.lw (no_tupN hp)
            have b2 := b1'.nw (b1'.free ap.out hp) (.tup [.str "num", .int (numOf x)])
            refine q.some rfl _ (b2.at (by simp) _) ⟨⟨vs1.set rows.length (.ref p), f1, ?_, upd_same, ?_, g4, g5⟩, ?_, R.ne, R.al, R.ws, by rw [List.length_append]; show _ + 1 ≤ _; omega⟩ _ (by rw [hvl])
            · rw [upd_ne hnr.symm, upd_ne ap.r.symm]
              exact g1
            · rw [← hset]
              refine Tps.set (.tup (xs := [.str "num", .int (numOf x)]) ?_ (.cons (.str _) (.cons (.int _) .nil))) _ ((g3.mono (tk_upd (no_tupN hp))).mono (tk_upd ?_))
              · rw [upd_ne ap.lr, upd_same]
              · rw [upd_ne ap.lr.symm]
                exact no_tup g2
            · rw [upd_ne R.ne, upd_ne ap.lw.symm]
              exact R1.w
          · next hn =>
            rw [if_neg hn] at q
            refine ⟨x, rfl, hxl, ?_⟩
            walk_at "ev"
            split
            · next hm =>
              rw [if_pos hm] at q
              intro p hp
              have ap := R1.apart hp
              rw [upd_ne ap.r.symm]
              simp only [g1, rfs_rows, true_and]
              rw [upd_ne ap.lr.symm]
              simp only [g2, hix]
              have R2 := R1.at (o := .tup [.str "name", .str x]) ap.r ap.lr ap.lw (no_tupN hp)
              have b2 := b1'.nw (b1'.free ap.out hp) (.tup [.str "name", .str x])
              refine q.some rfl _ (b2.at (by simp) _) ⟨⟨vs1.set rows.length (.ref p), f1, ?_, upd_same, ?_, g4, g5⟩, ?_, R.ne, R.al, R.ws, by rw [List.length_append]; show _ + 1 ≤ _; omega⟩ _ (by rw [hvl])
              · rw [upd_ne hnr.symm, upd_ne ap.r.symm]
                exact g1
              · rw [← hset]
                refine Tps.set (.tup (xs := [.str "name", .str x]) ?_ (.cons (.str _) (.cons (.str _) .nil))) _ ((g3.mono (tk_upd (no_tupN hp))).mono (tk_upd ?_))
                · rw [upd_ne ap.lr, upd_same]
                · rw [upd_ne ap.lr.symm]
                  exact no_tup g2
              · rw [upd_ne R.ne, upd_ne ap.lw.symm]
                exact R1.w
            · next hm =>
              rw [if_neg hm] at q
              exact q.none rfl H1 b1'
/-- the Reader's defs as the top has them -/
structure RdF (K : PySem.W.Frag) (mg : Str → Option Value) (C : Addr) : Prop where
  ahead : ∃ f fd, Fun K "ahead" "Reader.ahead" s_Reader_ahead f fd ∧ Meth K C "ahead" f
  taken : ∃ f fd, Fun K "taken" "Reader.taken" s_Reader_taken f fd ∧ Meth K C "taken" f
  want : ∃ f fd, Fun K "want" "Reader.want" s_Reader_want f fd ∧ Meth K C "want" f
  named : ∃ f fd, Fun K "named" "Reader.named" s_Reader_named f fd ∧ Meth K C "named" f
  expr : ∃ f fd, Fun K "expr" "Reader.expr" s_Reader_expr f fd ∧ Meth K C "expr" f
  form : ∃ f fd, Fun K "form" "Reader.form" s_Reader_form f fd ∧ Meth K C "form" f
  pieces : ∃ f fd, Fun K "pieces" "Reader.pieces" s_Reader_pieces f fd ∧ Meth K C "pieces" f
  many : ∃ f fd, Fun K "many" "Reader.many" s_Reader_many f fd ∧ Meth K C "many" f
theorem no_fn {g : Addr} {gd : FuncData} {ps : List Str} {CX : CXT} {k : Nat} : FnOk P w K mg base CX k g gd ps (fun _ _ _ _ => False) := ⟨fun _ _ _ _ h => h.elim, fun _ _ _ _ _ _ _ _ _ _ _ _ _ h => h.elim⟩
/-- what the Reader's methods promise, all together: n depths in reach -/
structure RdAll (P : Program) (w : World) (K : PySem.W.Frag) (mg : Str → Option Value) (base : Heap) (C CB : Addr) (n : Nat) : Prop where
  expr : CalM P w K mg base (L2.CX P w) (4 * n + 5) C "expr" ["self", "depth"] (sp_expr C CB n)
theorem rd_ahead (T : RdT K mg C_Reader CB) (D : RdF K mg C_Reader) : CalM P w K mg base CX0 1 C_Reader "ahead" ["self"] (sp_ahead C_Reader) := by
  obtain ⟨f, fd, F, M⟩ := D.ahead
  exact ⟨T.cl, f, fd, ok_ahead F T, M, F.binds fun _ _ _ _ _ _ us hl => match us, hl with | [_], _ => rfl⟩
theorem rd_taken (T : RdT K mg C_Reader CB) (D : RdF K mg C_Reader) : CalM P w K mg base (L2.CX P w) 2 C_Reader "taken" ["self"] (sp_taken C_Reader CB) := by
  obtain ⟨f, fd, F, M⟩ := D.taken
  exact ⟨T.cl, f, fd, ok_taken F T (rd_ahead T D), M, F.binds fun _ _ _ _ _ _ us hl => match us, hl with | [_], _ => rfl⟩
theorem rd_want (T : RdT K mg C_Reader CB) (D : RdF K mg C_Reader) : CalM P w K mg base (L2.CX P w) 3 C_Reader "want" ["self", "word"] (sp_want C_Reader CB) := by
  obtain ⟨f, fd, F, M⟩ := D.want
  exact ⟨T.cl, f, fd, ok_want F T (rd_taken T D), M, F.binds fun _ _ _ _ _ _ us hl => match us, hl with | [_, _], _ => rfl⟩
theorem rd_named (T : RdT K mg C_Reader CB) (D : RdF K mg C_Reader) (cn : Cal P w K mg base CX0 1 "is_name" ["word"] sp_is_name) : CalM P w K mg base (L2.CX P w) 3 C_Reader "named" ["self"] (sp_named C_Reader CB) := by
  obtain ⟨f, fd, F, M⟩ := D.named
  exact ⟨T.cl, f, fd, ok_named F T (rd_taken T D) cn, M, F.binds fun _ _ _ _ _ _ us hl => match us, hl with | [_], _ => rfl⟩
theorem rd_form {n k : Nat} (hk : 4 ≤ k) (T : RdT K mg C_Reader CB) (D : RdF K mg C_Reader) (cn : Cal P w K mg base CX0 1 "is_name" ["word"] sp_is_name) (cp : Cal P w K mg base (L2.CX P w) 1 "pattern_of" ["head"] (sp_pattern_of CB))
    (ex : CalM P w K mg base (L2.CX P w) k C_Reader "expr" ["self", "depth"] (sp_expr C_Reader CB n)) : CalM P w K mg base (L2.CX P w) (k + 3) C_Reader "form" ["self", "depth"] (sp_form C_Reader CB n) := by
  have pc : CalM P w K mg base (L2.CX P w) (k + 1) C_Reader "pieces" ["self", "depth", "pattern"] (sp_pieces C_Reader CB n) := by
    obtain ⟨f, fd, F, M⟩ := D.pieces
    exact ⟨T.cl, f, fd, ok_pieces hk F T (rd_named T D cn) ex, M, F.binds fun _ _ _ _ _ _ us hl => match us, hl with | [_, _, _], _ => rfl⟩
  have mn : CalM P w K mg base (L2.CX P w) (k + 2) C_Reader "many" ["self", "depth", "pattern", "most"] (sp_many C_Reader CB n) := by
    obtain ⟨f, fd, F, M⟩ := D.many
    exact ⟨T.cl, f, fd, ok_many (by omega) F T (rd_ahead T D) pc, M, F.binds fun _ _ _ _ _ _ us hl => match us, hl with | [_, _, _, _], _ => rfl⟩
  obtain ⟨f, fd, F, M⟩ := D.form
  exact ⟨T.cl, f, fd, ok_form (k := k + 2) (by omega) F T (rd_taken T D) cp (ex.mono (by omega)) (pc.mono (by omega)) mn, M, F.binds fun _ _ _ _ _ _ us hl => match us, hl with | [_, _], _ => rfl⟩
theorem rd_expr (T : RdT K mg C_Reader CB) (D : RdF K mg C_Reader) (cn : Cal P w K mg base CX0 1 "is_name" ["word"] sp_is_name) (cu : Cal P w K mg base CX0 1 "is_number" ["word"] sp_is_number) (cp : Cal P w K mg base (L2.CX P w) 1 "pattern_of" ["head"] (sp_pattern_of CB)) :
    ∀ n, CalM P w K mg base (L2.CX P w) (4 * n + 5) C_Reader "expr" ["self", "depth"] (sp_expr C_Reader CB n)
  | 0 => by
    obtain ⟨f, fd, F, M⟩ := D.expr
    refine ⟨T.cl, f, fd, ok_expr (k := 4) (spF := fun _ _ _ _ => False) (by omega) F T (rd_taken T D) (rd_want T D) cu cn ?_ (fun m h => by omega), M, F.binds fun _ _ _ _ _ _ us hl => match us, hl with | [_, _], _ => rfl⟩
    obtain ⟨g, gd, G, N⟩ := D.form
    exact ⟨T.cl, g, gd, no_fn, N, G.binds fun _ _ _ _ _ _ us hl => match us, hl with | [_, _], _ => rfl⟩
  | n + 1 => by
    obtain ⟨f, fd, F, M⟩ := D.expr
    have fm := rd_form (k := 4 * n + 5) (by omega) T D cn cp (rd_expr T D cn cu cp n)
    exact ⟨T.cl, f, fd, ok_expr (k := 4 * n + 8) (by omega) F T (rd_taken T D) (rd_want T D) cu cn fm (fun m h => by cases h; rfl), M, F.binds fun _ _ _ _ _ _ us hl => match us, hl with | [_, _], _ => rfl⟩
end
end Fk
namespace Fk
open PySem L2
-- Program.__init__  names ["self", "names", "roots", "rows"]  needs ['cl_Program', 'n_Program_names', 'n_Program_roots', 'n_Program_rows']
abbrev s_Program___init__ : Stmt := inClass (topS 9) 0
theorem sc_Program___init__ : FnScope ["self", "names", "roots", "rows"] ["self", "names", "roots", "rows"] (defScope s_Program___init__) := ⟨rfl, rfl, rfl, by decide +kernel, rfl, by decide +kernel, by decide +kernel⟩
-- read  names ["text", "reader", "names", "roots"]  needs ['k_Reader', 'c_words_of', 'm_Reader_ahead', 'z_len', 'e_BadText', 'm_Reader_want', 'm_Reader_named', 'm_Reader_expr', 'k_Program', 'cl_Reader', 'n_Reader_rows']
abbrev s_read : Stmt := topS 15
theorem sc_read : FnScope ["text", "reader", "names", "roots"] ["text"] (defScope s_read) := ⟨rfl, rfl, rfl, by decide +kernel, rfl, by decide +kernel, by decide +kernel⟩
def pfs (ln lo lr : Addr) : List (Str × V) := [("names", .ref ln), ("roots", .ref lo), ("rows", .ref lr)]
theorem pf1 {v : V} : putF (Str.ofString "names") v [] = ([("names", v)] : List (Str × V)) := by rfl
theorem pf2 {v u : V} : putF (Str.ofString "roots") u ([("names", v)] : List (Str × V)) = ([("names", v), ("roots", u)] : List (Str × V)) := by rfl
theorem pf3 {ln lo lr : Addr} : putF (Str.ofString "rows") (.ref lr) ([("names", .ref ln), ("roots", .ref lo)] : List (Str × V)) = pfs ln lo lr := by rfl
theorem pfs_names {ln lo lr : Addr} : (pfs ln lo lr).lookup (Str.ofString "names") = some (.ref ln) := by rfl
theorem pfs_roots {ln lo lr : Addr} : (pfs ln lo lr).lookup (Str.ofString "roots") = some (.ref lo) := by rfl
theorem pfs_rows {ln lo lr : Addr} : (pfs ln lo lr).lookup (Str.ofString "rows") = some (.ref lr) := by rfl
local macro_rules | `(tactic| walk_at "ev") => `(tactic| try simp only [cx_K, L2.start, List.map_cons, List.map_nil, List.length_cons, List.length_nil, Nat.reduceAdd, Nat.reduceSub, Nat.reduceLT, List.replicate_succ, List.replicate_zero, List.cons_append, List.nil_append, Nat.zero_add, Nat.add_zero,
  tSeq, tAsg, tLst, tTup, tNil, tCons, tC, tOp, tUn, gName, tNext, tRet, tRetN, tIfS, tDrop, tCB, tCall, tMeth, tMake, tIf, tAnd, tOr, tNot, tAndV, tOrV, tNotV, qFor, qLc, tYes, wStr, wLst, wTup, wRng1, wRng2, wEnum, wZip, wRev, qVar, asB_bl, qAdd_ii, qAdd_ss, qSub_ii, qMul_ii, qMod_ii, qDiv_ii, qPow_ii, qCmpI_ii, qEq_ii, qEq_ss, qEq_bb, qIsN_n, qIsN_i, qIsN_s, qIsN_b, qIsN_r, qInS_s, qInT_r, qIx_s, qIx_r, qT, qIAdd_ii, qIAdd_ss, qLen_s, qLen_r, qAbs_i, qMax2_ii, qMin2_ii, qInt_i, qInt_b, qInt_s, qStrC_i, qStrC_s, qList_r, qTuple_r, tupleAs_l, tupleAs_t, qDivmod_ii, qAll_r, qAny_r, qSl_s, tSl, tNoPart, tPart, qPar, qPar3,
  qApp, qExt, qPop, isLst, qFld, qSetF, qAugF, qAug, qgTup, qgCons, qgNil, gSub, qSetL, yv, wipe,
  List.getElem?_cons_zero, List.getElem?_cons_succ, List.set_cons_zero, List.set_cons_succ, upd_same, lstOf, tupOf, seqOf, at0, at1, at2, at3, ix0, ix1, ix2, sz0, sz1, sz2, sz3, sz4, sz5, sz6, sz7, sz8, sz15, true_and, and_true, and_self, if_true, if_false, if_pos,
  beq_t, beq_f, decide_eq_true_eq, decide_eq_false_iff_not, Bool.not_eq_true', Bool.not_eq_true, Bool.not_eq_false, Bool.not_true, Bool.not_false, Bool.false_eq_true, reduceCtorEq, ite_not, if_true, if_false, reduceIte, V.int.injEq, V.str.injEq, V.bl.injEq, V.ref.injEq, List.append_nil, forall_eq', exists_eq_left, exists_eq_left'])
local macro_rules | `(tactic| walk_at "evr") => `(tactic| try simp only [cx_K, L2.start, List.map_cons, List.map_nil, List.length_cons, List.length_nil, Nat.reduceAdd, Nat.reduceSub, Nat.reduceLT, List.replicate_succ, List.replicate_zero, List.cons_append, List.nil_append, Nat.zero_add, Nat.add_zero,
  tSeq, tAsg, tLst, tTup, tNil, tCons, tC, tOp, tUn, gName, tNext, tRet, tRetN, tIfS, tDrop, tCB, tCall, tMeth, tMake, tIf, tAnd, tOr, tNot, tAndV, tOrV, tNotV, qFor, qLc, tYes, wStr, wLst, wTup, wRng1, wRng2, wEnum, wZip, wRev, qVar, asB_bl, qAdd_ii, qAdd_ss, qSub_ii, qMul_ii, qMod_ii, qDiv_ii, qPow_ii, qCmpI_ii, qEq_ii, qEq_ss, qEq_bb, qIsN_n, qIsN_i, qIsN_s, qIsN_b, qIsN_r, qInS_s, qInT_r, qIx_s, qIx_r, qT, qIAdd_ii, qIAdd_ss, qLen_s, qLen_r, qAbs_i, qMax2_ii, qMin2_ii, qInt_i, qInt_b, qInt_s, qStrC_i, qStrC_s, qList_r, qTuple_r, tupleAs_l, tupleAs_t, qDivmod_ii, qAll_r, qAny_r, qSl_s, tSl, tNoPart, tPart, qPar, qPar3,
  qApp, qExt, qPop, isLst, qFld, qSetF, qAugF, qAug, qgTup, qgCons, qgNil, gSub, qSetL, yv, wipe,
  List.getElem?_cons_zero, List.getElem?_cons_succ, List.set_cons_zero, List.set_cons_succ, upd_same, lstOf, tupOf, seqOf, at0, at1, at2, at3, ix0, ix1, ix2, sz0, sz1, sz2, sz3, sz4, sz5, sz6, sz7, sz8, sz15, true_and, and_true, and_self, if_true, if_false, if_pos,
  beq_t, beq_f, decide_eq_true_eq, decide_eq_false_iff_not, Bool.not_eq_true', Bool.not_eq_true, Bool.not_eq_false, Bool.not_true, Bool.not_false, Bool.false_eq_true, reduceCtorEq, ite_not, if_true, if_false, reduceIte, V.int.injEq, V.str.injEq, V.bl.injEq, V.ref.injEq, List.append_nil, forall_eq', exists_eq_left, exists_eq_left', rfs_words, rfs_front, rfs_rows, rfs_put, pf1, pf2, pf3, pfs_names, pfs_roots, pfs_rows, *])
/-- the class Program -/
structure PgT (K : PySem.W.Frag) (mg : Str → Option Value) (C : Addr) : Prop where
  cl : Cls K C
  n1 : NoAttr K C "names"
  n2 : NoAttr K C "roots"
  n3 : NoAttr K C "rows"
def sp_pinit (C : Addr) : Sp := fun vs H Q _ => ∃ (r dx ln lo lr : Addr), vs = [.ref r, .ref ln, .ref lo, .ref lr] ∧ H r = some (.ins C dx []) ∧ Q .non (upd H r (.ins C dx (pfs ln lo lr)))
def sp_rinit (C : Addr) : Sp := fun vs H Q _ => ∃ (r dx lw : Addr), vs = [.ref r, .ref lw] ∧ H r = some (.ins C dx []) ∧ ∀ lr, H lr = none → Q .non (upd (upd H lr (.lst [])) r (.ins C dx (rfs lw 0 lr)))
/-- a Program as read tells it -/
def ProgAt (C : Addr) (H : Hp) (p dx ln lo lr : Addr) (names : List Str) (roots : List Int) (rows : Rows) : Prop :=
  H p = some (.ins C dx (pfs ln lo lr)) ∧ H ln = some (.lst (names.map V.str)) ∧ H lo = some (.lst (roots.map V.int)) ∧ ∃ vs, H lr = some (.lst vs) ∧ Tps H vs rows
def sp_read (C CB : Addr) : Sp := fun vs H Q E => ∃ z : Str, vs = [.str z] ∧ z.length ≤ 100000 ∧ (match readM (wordsOf z.cps.toList) with
  | none => ∀ H', Same H H' → E (.ref CB) none H'
  | some (names, roots, rows) => ∀ H' p dx ln lo lr, Same H H' → H p = none → H dx = none → H ln = none → H lo = none → H lr = none → ProgAt C H' p dx ln lo lr names roots rows → Q (.ref p) H')
theorem same_but {H H1 H2 : Hp} {r lr : Addr} (s : Same H H1) (b : But [r, lr] H1 H2) (h1 : H r = none) (h2 : H lr = none) : Same H H2 := fun c o e => by
  refine b c o ?_ (s c o e)
  have n1 := ne_of_none e h1
  have n2 := ne_of_none e h2
  simp [n1, n2]
def plus2 (ns : List Str) (ps : List Int) (m : Option (List Str × List Int × Rows)) : Option (List Str × List Int × Rows) := m.map fun t => (ns ++ t.1, ps ++ t.2.1, t.2.2)
theorem plus2_nil (m : Option (List Str × List Int × Rows)) : plus2 [] [] m = m := by cases m <;> rfl
def iv_read (C : Addr) (H0 : Hp) (z : Str) (r dx lw lr ln lo : Addr) (all : List Str) (m0 : Option (List Str × List Int × Rows)) (k : Nat) (σ : St) (H : Hp) : Prop :=
  ∃ rest rows ns ps, σ = [some (.str z), some (.ref r), some (.ref ln), some (.ref lo)] ∧ Same H0 H ∧ RdAt C H r dx lw lr all rest rows ∧ H ln = some (.lst (ns.map V.str)) ∧ H lo = some (.lst (ps.map V.int)) ∧ ns.length + k = 12 ∧ ps.length = ns.length ∧ Is m0 (plus2 ns ps (defs k rest rows))
section
variable {P : Program} {w : World} {K : PySem.W.Frag} {mg : Str → Option Value} {base : Heap} {C_Reader C_Program CB : Addr} {f : Addr} {fd : FuncData}
theorem ok_pinit (F : Fun K "__init__" "Program.__init__" s_Program___init__ f fd) (T : PgT K mg C_Program) : FnOk P w K mg base CX0 1 f fd ["self", "names", "roots", "rows"] (sp_pinit C_Program) := by
  refine F.ok sc_Program___init__ (fun vs H Q E h => by obtain ⟨_, _, _, _, _, rfl, _⟩ := h; rfl) (fun cdv A outer s H vs Q E hr h => ?_)
  have cl_Program := T.cl
  have n_Program_names := T.n1
  have n_Program_roots := T.n2
  have n_Program_rows := T.n3
  have hu64 := hr.units
  refine ⟨_, (pss_cons (xsetf (C := C_Program) cl_Program n_Program_names (xv 0) (xv 1))
  (pss_cons (xsetf (C := C_Program) cl_Program n_Program_roots (xv 0) (xv 2))
  (pss_one (xsetf (C := C_Program) cl_Program n_Program_rows (xv 0) (xv 3))))), ?_⟩
  obtain ⟨r, dx, ln, lo, lr, rfl, h1, q⟩ := h
  walk_at "evr"
  rw [upd_upd, upd_upd]
  exact q
theorem ok_read (F : Fun K "read" "read" s_read f fd) (T : RdT K mg C_Reader CB) (c_words_of : Cal P w K mg base CX0 1 "words_of" ["text"] sp_words_of) (k_Reader : CalC P w K mg base CX0 1 C_Reader "Reader" ["self", "words"] (sp_rinit C_Reader))
    (k_Program : CalC P w K mg base CX0 1 C_Program "Program" ["self", "names", "roots", "rows"] (sp_pinit C_Program))
    (m_Reader_ahead : CalM P w K mg base CX0 1 C_Reader "ahead" ["self"] (sp_ahead C_Reader)) (m_Reader_want : CalM P w K mg base (L2.CX P w) 3 C_Reader "want" ["self", "word"] (sp_want C_Reader CB))
    (m_Reader_named : CalM P w K mg base (L2.CX P w) 3 C_Reader "named" ["self"] (sp_named C_Reader CB)) (m_Reader_expr : CalM P w K mg base (L2.CX P w) 101 C_Reader "expr" ["self", "depth"] (sp_expr C_Reader CB 24)) :
    FnOk P w K mg base (L2.CX P w) 110 f fd ["text"] (sp_read C_Program CB) := by
  refine F.okX (k := 109) sc_read (fun vs H Q E h => by obtain ⟨_, rfl, _⟩ := h; rfl) (fun cdv A outer s H vs Q E hr h => ?_)
  have cl_Reader := T.cl
  have n_Reader_rows := T.n3
  have e_BadText := T.bad
  have z_len := T.len
  have hu64 := hr.units
  refine ⟨_, (pss_cons (ps_set (i := 1) sc_read.nd rfl (Or.inl rfl) (pe_new k_Reader hr (pa_cons (pe_c c_words_of hr (pa_cons (xv 0) pa_nil)) pa_nil)))
  (pss_cons (ps_set (i := 2) sc_read.nd rfl (Or.inl rfl) (pe_lst pa_nil))
  (pss_cons (ps_set (i := 3) sc_read.nd rfl (Or.inl rfl) (pe_lst pa_nil))
  (pss_cons (xwhile (passes_of rfl) (xt (yne hu64) (pe_m0 m_Reader_ahead hr (xv 1)) pe_str (nomark _)) (pss_cons (ps_if (xt (yeq hu64) (pe_callB ylen (by rfl) z_len PySem.boot_len (pa_cons (xv 2) pa_nil)) pe_int (nomark _)) (pss_one (ps_rz (E := E) e_BadText rfl (takes_of rfl rfl rfl rfl))) pss_nil)
  (pss_cons (ps_expr (pe_mX (E := E) m_Reader_want hr (takes_of rfl rfl rfl rfl) (xv 1) (pa_cons pe_str pa_nil)))
  (pss_cons (ps_expr (pe_mX (E := E) m_Reader_want hr (takes_of rfl rfl rfl rfl) (xv 1) (pa_cons pe_str pa_nil)))
  (pss_cons (ps_expr (xapp (xv 2) (pe_mX0 (E := E) m_Reader_named hr (takes_of rfl rfl rfl rfl) (xv 1))))
  (pss_cons (ps_expr (xapp (xv 3) (pe_mX (E := E) m_Reader_expr hr (takes_of rfl rfl rfl rfl) (xv 1) (pa_cons pe_int pa_nil))))
  (pss_one (ps_expr (pe_mX (E := E) m_Reader_want hr (takes_of rfl rfl rfl rfl) (xv 1) (pa_cons pe_str pa_nil))))))))))
  (pss_cons (ps_if (xt (yeq hu64) (pe_callB ylen (by rfl) z_len PySem.boot_len (pa_cons (xv 2) pa_nil)) pe_int (nomark _)) (pss_one (ps_rz (E := E) e_BadText rfl (takes_of rfl rfl rfl rfl))) pss_nil)
  (pss_one (ps_ret (pe_new k_Program hr (pa_cons (xv 2) (pa_cons (xv 3) (pa_cons (xfld (C := C_Reader) cl_Reader n_Reader_rows (xv 1)) pa_nil))))))))))), ?_⟩
  obtain ⟨z, rfl, hz, q⟩ := h
  walk_at "ev"
  refine ⟨z, rfl, hz, fun lw H0 s0 hlw hw => ?_⟩
  walk_at "ev"
  intro r dx hr0 hdx hne
  refine ⟨r, dx, lw, rfl, upd_same, fun lr hlr => ⟨rfl, fun ln hln lo hlo => ?_⟩⟩
  have hall := words_len z.cps.toList [] ""
  have hzl := len_toList z
  have heach : ∀ x ∈ wordsOf z.cps.toList, x.length ≤ 100000 := words_each (N := 100000) (by decide) z.cps.toList [] "" (fun x hx => by cases hx) (by rw [show (Str.ofString "").length = 0 by decide +kernel, hzl]; omega)
  have hal : (wordsOf z.cps.toList).length ≤ 200001 := by
    have : (wordsOf z.cps.toList).length ≤ 0 + 2 * z.cps.toList.length + 1 := hall
    omega
  generalize hws : wordsOf z.cps.toList = all at *
  obtain ⟨nr, hlr⟩ := upd_free hlr
  obtain ⟨ndr, hlr0⟩ := upd_free hlr
  obtain ⟨nlr, hln⟩ := upd_free hln
  obtain ⟨nll, hln⟩ := upd_free hln
  obtain ⟨_, hln⟩ := upd_free hln
  obtain ⟨nld, hln0⟩ := upd_free hln
  obtain ⟨nol, hlo⟩ := upd_free hlo
  obtain ⟨nor_, hlo⟩ := upd_free hlo
  obtain ⟨noll, hlo⟩ := upd_free hlo
  obtain ⟨_, hlo⟩ := upd_free hlo
  obtain ⟨nod, hlo0⟩ := upd_free hlo
  have nw : lw ≠ r := ne_of_none hw hr0
  have ndw : lw ≠ dx := ne_of_none hw hdx
  have nwl : lw ≠ lr := ne_of_none hw hlr0
  have nwn : lw ≠ ln := ne_of_none hw hln0
  have nwo : lw ≠ lo := ne_of_none hw hlo0
  have apn : Apart ln r lr lw := ⟨nlr, nll, nwn.symm⟩
  have apo : Apart lo r lr lw := ⟨nor_, noll, nwo.symm⟩
  have fr : H r = none := s0.free hr0
  have flr : H lr = none := s0.free hlr0
  have fln : H ln = none := s0.free hln0
  have flo : H lo = none := s0.free hlo0
  have fdx : H dx = none := s0.free hdx
  have s1 := same_upd (same_upd (same_upd (same_upd (same_upd (same_upd s0 fdx (.own r)) fr (.ins C_Reader dx [])) flr (.lst [])) fr (.ins C_Reader dx (rfs lw 0 lr))) fln (.lst [])) flo (.lst [])
  have R0 : RdAt C_Reader (upd (upd (upd (upd H0 dx (.own r)) r (.ins C_Reader dx [])) lr (.lst [])) r (.ins C_Reader dx (rfs lw 0 lr))) r dx lw lr all all [] :=
    ⟨⟨[], 0, upd_same, by rw [upd_ne nr, upd_same], .nil, rfl, Nat.zero_le _⟩, by rw [upd_ne nw, upd_ne nwl, upd_ne nw, upd_ne ndw]; exact hw, nwl, by omega, heach, Nat.zero_le _⟩
  have R1 := (R0.at (o := .lst []) apn.r apn.lr apn.lw (no_tupN (by rw [upd_ne nlr, upd_ne nll, upd_ne nlr, upd_ne nld]; exact hln0))).at (o := .lst []) apo.r apo.lr apo.lw (no_tupN (by rw [upd_ne nol, upd_ne nor_, upd_ne noll, upd_ne nor_, upd_ne nod]; exact hlo0))
  refine ⟨iv_read C_Reader H z r dx lw lr ln lo all (defs 12 all []), ⟨12, all, [], [], [], rfl, s1, R1, by rw [upd_ne nol.symm, upd_same]; rfl, upd_same, rfl, rfl, (plus2_nil _).symm⟩, ?_⟩
  unfold readM at q
  rintro k σ H1 ⟨rest, rows, ns, ps, rfl, t1, R2, e1, e2, e3, e4, hm⟩
  have hmm := hm.eq
  obtain ⟨f1, h1⟩ := R2.kr
  walk_at "ev"
  refine ⟨r, dx, _, rfl, h1, rfl, r, dx, lw, lr, all, rest, rows, rfl, R2, ?_⟩
  walk_at "ev"
  split
  · next ha =>
    rw [defs_end ha] at hmm
    simp only [e1, List.length_map]
    have hq : defs 12 all [] = some (ns, ps, rows) := by rw [hmm]; show some (ns ++ [], ps ++ [], rows) = _; rw [List.append_nil, List.append_nil]
    rw [hq] at q
    simp only at q
    split
    · next hz =>
      have hz' : ns = [] := List.length_eq_zero_iff.mp (by omega)
      rw [if_pos hz'] at q
      exact q H1 t1
    · next hz =>
      have hz' : ns ≠ [] := fun e => hz (by rw [e]; rfl)
      rw [if_neg hz'] at q
      obtain ⟨vs, f2, i1, i2, i3, i4⟩ := R2.ex
      simp only [i1, rfs_rows, true_and]
      intro x dx2 hx hdx2 hnx
      refine ⟨x, dx2, ln, lo, lr, rfl, upd_same, rfl, ?_⟩
      have tk : TK H1 (upd (upd (upd H1 dx2 (.own x)) x (.ins C_Program dx2 [])) x (.ins C_Program dx2 (pfs ln lo lr))) := ((tk_upd (no_tupN hdx2)).trans (tk_upd (by rw [upd_ne hnx.symm]; exact no_tupN hx))).trans (tk_upd (fun ys e => by rw [upd_same] at e; cases e))
      refine q _ x dx2 ln lo lr (same_upd (same_upd (same_upd t1 (t1.free hdx2) _) (t1.free hx) _) (t1.free hx) _) (t1.free hx) (t1.free hdx2) fln flo flr ⟨upd_same, ?_, ?_, vs, ?_, i3.mono tk⟩
      · rw [upd_ne (ne_of_none e1 hx), upd_ne (ne_of_none e1 hx), upd_ne (ne_of_none e1 hdx2)]; exact e1
      · rw [upd_ne (ne_of_none e2 hx), upd_ne (ne_of_none e2 hx), upd_ne (ne_of_none e2 hdx2)]; exact e2
      · rw [upd_ne (ne_of_none i2 hx), upd_ne (ne_of_none i2 hx), upd_ne (ne_of_none i2 hdx2)]; exact i2
  · next ha =>
    simp only [e1, List.length_map]
    split
    · next hk =>
      have hk0 : k = 0 := by omega
      subst hk0
      rw [defs_zero ha] at hmm
      rw [show defs 12 all [] = none from hmm] at q
      exact q H1 t1
    · next hk =>
      obtain ⟨k, rfl⟩ : ∃ j, k = j + 1 := ⟨k - 1, by omega⟩
      rw [defs_succ ha] at hmm
      refine ⟨r, dx, _, rfl, h1, rfl, "(", r, dx, lw, lr, all, rest, rows, _, rfl, rfl, R2, ?_⟩
      cases hw1 : want "(" rest with
      | none =>
        refine Out.of_none (by show withR _ ((want "(" rest).map _) = _; rw [hw1]; rfl) fun H2 b2 => ?_
        rw [hw1] at hmm
        rw [show defs 12 all [] = none from hmm] at q
        exact q H2 (same_but t1 b2 fr flr)
      | some rest1 =>
        rw [hw1] at hmm
        simp only at hmm
        refine Out.of_some (by show withR _ ((want "(" rest).map _) = _; rw [hw1]; rfl) fun H2 b2 R3 v hv => ?_
        obtain ⟨f2, h2⟩ := R3.kr
        have t2 := same_but t1 b2 fr flr
        refine ⟨r, dx, _, rfl, h2, rfl, "def", r, dx, lw, lr, all, rest1, rows, _, rfl, rfl, R3, ?_⟩
        cases hw2 : want "def" rest1 with
        | none =>
          refine Out.of_none (by show withR _ ((want "def" rest1).map _) = _; rw [hw2]; rfl) fun H3 b3 => ?_
          rw [hw2] at hmm
          rw [show defs 12 all [] = none from hmm] at q
          exact q H3 (same_but t2 b3 fr flr)
        | some rest2 =>
          rw [hw2] at hmm
          simp only at hmm
          refine Out.of_some (by show withR _ ((want "def" rest1).map _) = _; rw [hw2]; rfl) fun H3 b3 R4 v hv => ?_
          obtain ⟨f3, h3⟩ := R4.kr
          have t3 := same_but t2 b3 fr flr
          have e13 : H3 ln = some (.lst (ns.map V.str)) := b3 _ _ apn.out (b2 _ _ apn.out e1)
          have e23 : H3 lo = some (.lst (ps.map V.int)) := b3 _ _ apo.out (b2 _ _ apo.out e2)
          simp only [e13, true_and]
          refine ⟨r, dx, _, rfl, h3, rfl, r, dx, lw, lr, all, rest2, rows, _, rfl, rfl, R4, ?_⟩
          cases hn : named rest2 with
          | none =>
            refine Out.of_none (by show withR _ (named rest2) = _; rw [hn]; rfl) fun H4 b4 => ?_
            rw [hn] at hmm
            rw [show defs 12 all [] = none from hmm] at q
            exact q H4 (same_but t3 b4 fr flr)
          | some tx =>
            obtain ⟨x, rest3⟩ := tx
            rw [hn] at hmm
            simp only at hmm
            refine Out.of_some (by show withR _ (named rest2) = _; rw [hn]; rfl) fun H4 b4 R5 v hv => ?_
            have hv' : v = .str x := hv.1
            subst hv'
            have e14 : H4 ln = some (.lst (ns.map V.str)) := b4 _ _ apn.out e13
            have e24 : H4 lo = some (.lst (ps.map V.int)) := b4 _ _ apo.out e23
            have t4 := same_upd (same_but t3 b4 fr flr) fln (.lst (ns.map V.str ++ [V.str x]))
            have R6 := R5.at (o := .lst (ns.map V.str ++ [V.str x])) apn.r apn.lr apn.lw (no_tup e14)
            obtain ⟨f4, h4⟩ := R6.kr
            simp only [e14, true_and]
            refine ⟨by rw [List.length_map]; exact sz_lt (by omega), ?_⟩
            rw [upd_ne nol, e24]
            refine ⟨rfl, r, dx, _, rfl, h4, rfl, 1, by decide, r, dx, lw, lr, all, rest3, rows, _, rfl, rfl, R6, ?_⟩
            cases he : expr 24 1 rest3 rows with
            | none =>
              refine Out.of_none (by first | rfl | exact he) fun H5 b5 => ?_
              rw [he] at hmm
              rw [show defs 12 all [] = none from hmm] at q
              exact q H5 (same_but t4 b5 fr flr)
            | some ty =>
              obtain ⟨p, rest4, rows2⟩ := ty
              rw [he] at hmm
              simp only at hmm
              refine Out.of_some (by first | rfl | exact he) fun H5 b5 R7 v hv => ?_
              have hv' : v = .int (p : Int) := hv
              subst hv'
              have e15 : H5 ln = some (.lst (ns.map V.str ++ [V.str x])) := b5 _ _ apn.out upd_same
              have e25 : H5 lo = some (.lst (ps.map V.int)) := b5 _ _ apo.out (by rw [upd_ne nol]; exact e24)
              have t5 := same_upd (same_but t4 b5 fr flr) flo (.lst (ps.map V.int ++ [V.int (p : Int)]))
              have R8 := R7.at (o := .lst (ps.map V.int ++ [V.int (p : Int)])) apo.r apo.lr apo.lw (no_tup e25)
              obtain ⟨f5, h5⟩ := R8.kr
              simp only [e25]
              refine ⟨by rw [List.length_map]; exact sz_lt (by omega), r, dx, _, rfl, h5, rfl, ")", r, dx, lw, lr, all, rest4, rows2, _, rfl, rfl, R8, ?_⟩
              cases hw3 : want ")" rest4 with
              | none =>
                refine Out.of_none (by show withR _ ((want ")" rest4).map _) = _; rw [hw3]; rfl) fun H6 b6 => ?_
                rw [hw3] at hmm
                rw [show defs 12 all [] = none from hmm] at q
                exact q H6 (same_but t5 b6 fr flr)
              | some rest5 =>
                rw [hw3] at hmm
                simp only at hmm
                refine Out.of_some (by show withR _ ((want ")" rest4).map _) = _; rw [hw3]; rfl) fun H6 b6 R9 v hv => ?_
                refine ⟨k, Nat.lt_succ_self k, rest5, rows2, ns ++ [x], ps ++ [(p : Int)], rfl, same_but t5 b6 fr flr, R9, ?_, ?_, ?_, ?_, ?_⟩
                · rw [List.map_append]
                  exact b6 _ _ apn.out (by rw [upd_ne nol.symm]; exact e15)
                · rw [List.map_append]
                  exact b6 _ _ apo.out upd_same
                · rw [List.length_append]
                  simp only [List.length_cons, List.length_nil]
                  omega
                · rw [List.length_append, List.length_append]
                  simp only [List.length_cons, List.length_nil]
                  omega
                · show Eq _ _
                  rw [hmm]
                  cases defs k rest5 rows2 with
                  | none => rfl
                  | some td =>
                    obtain ⟨xs, qs, rws⟩ := td
                    show some (ns ++ (x :: xs), ps ++ ((p : Int) :: qs), rws) = some (ns ++ [x] ++ xs, ps ++ [(p : Int)] ++ qs, rws)
                    rw [List.append_assoc, List.append_assoc]
                    rfl
end
end Fk
namespace Fk
open PySem L2
local macro_rules | `(tactic| walk_at "ev") => `(tactic| try simp only [cx_K, L2.start, List.map_cons, List.map_nil, List.length_cons, List.length_nil, Nat.reduceAdd, Nat.reduceSub, Nat.reduceLT, List.replicate_succ, List.replicate_zero, List.cons_append, List.nil_append, Nat.zero_add, Nat.add_zero,
  tSeq, tAsg, tLst, tTup, tNil, tCons, tC, tOp, tUn, gName, tNext, tRet, tRetN, tIfS, tDrop, tCB, tCall, tMeth, tMake, tIf, tAnd, tOr, tNot, tAndV, tOrV, tNotV, qFor, qLc, tYes, wStr, wLst, wTup, wRng1, wRng2, wEnum, wZip, wRev, qVar, asB_bl, qAdd_ii, qAdd_ss, qSub_ii, qMul_ii, qMod_ii, qDiv_ii, qPow_ii, qCmpI_ii, qEq_ii, qEq_ss, qEq_bb, qIsN_n, qIsN_i, qIsN_s, qIsN_b, qIsN_r, qInS_s, qInT_r, qIx_s, qIx_r, qT, qIAdd_ii, qIAdd_ss, qLen_s, qLen_r, qAbs_i, qMax2_ii, qMin2_ii, qInt_i, qInt_b, qInt_s, qStrC_i, qStrC_s, qList_r, qTuple_r, tupleAs_l, tupleAs_t, qDivmod_ii, qAll_r, qAny_r, qSl_s, tSl, tNoPart, tPart, qPar, qPar3,
  qApp, qExt, qPop, isLst, qFld, qSetF, qAugF, qAug, qgTup, qgCons, qgNil, gSub, qSetL, yv, wipe,
  List.getElem?_cons_zero, List.getElem?_cons_succ, List.set_cons_zero, List.set_cons_succ, upd_same, lstOf, tupOf, seqOf, at0, at1, at2, at3, ix0, ix1, ix2, sz0, sz1, sz2, sz3, sz4, sz5, sz6, sz7, sz8, sz15, true_and, and_true, and_self, if_true, if_false, if_pos,
  beq_t, beq_f, decide_eq_true_eq, decide_eq_false_iff_not, Bool.not_eq_true', Bool.not_eq_true, Bool.not_eq_false, Bool.not_true, Bool.not_false, Bool.false_eq_true, reduceCtorEq, ite_not, if_true, if_false, reduceIte, V.int.injEq, V.str.injEq, V.bl.injEq, V.ref.injEq, List.append_nil, forall_eq', exists_eq_left, exists_eq_left'])
local macro_rules | `(tactic| walk_at "evh") => `(tactic| try simp only [cx_K, L2.start, List.map_cons, List.map_nil, List.length_cons, List.length_nil, Nat.reduceAdd, Nat.reduceSub, Nat.reduceLT, List.replicate_succ, List.replicate_zero, List.cons_append, List.nil_append, Nat.zero_add, Nat.add_zero,
  tSeq, tAsg, tLst, tTup, tNil, tCons, tC, tOp, tUn, gName, tNext, tRet, tRetN, tIfS, tDrop, tCB, tCall, tMeth, tMake, tIf, tAnd, tOr, tNot, tAndV, tOrV, tNotV, qFor, qLc, tYes, wStr, wLst, wTup, wRng1, wRng2, wEnum, wZip, wRev, qVar, asB_bl, qAdd_ii, qAdd_ss, qSub_ii, qMul_ii, qMod_ii, qDiv_ii, qPow_ii, qCmpI_ii, qEq_ii, qEq_ss, qEq_bb, qIsN_n, qIsN_i, qIsN_s, qIsN_b, qIsN_r, qInS_s, qInT_r, qIx_s, qIx_r, qT, qIAdd_ii, qIAdd_ss, qLen_s, qLen_r, qAbs_i, qMax2_ii, qMin2_ii, qInt_i, qInt_b, qInt_s, qStrC_i, qStrC_s, qList_r, qTuple_r, tupleAs_l, tupleAs_t, qDivmod_ii, qAll_r, qAny_r, qSl_s, tSl, tNoPart, tPart, qPar, qPar3,
  qApp, qExt, qPop, isLst, qFld, qSetF, qAugF, qAug, qgTup, qgCons, qgNil, gSub, qSetL, yv, wipe,
  List.getElem?_cons_zero, List.getElem?_cons_succ, List.set_cons_zero, List.set_cons_succ, upd_same, lstOf, tupOf, seqOf, at0, at1, at2, at3, ix0, ix1, ix2, sz0, sz1, sz2, sz3, sz4, sz5, sz6, sz7, sz8, sz15, true_and, and_true, and_self, if_true, if_false, if_pos,
  beq_t, beq_f, decide_eq_true_eq, decide_eq_false_iff_not, Bool.not_eq_true', Bool.not_eq_true, Bool.not_eq_false, Bool.not_true, Bool.not_false, Bool.false_eq_true, reduceCtorEq, ite_not, if_true, if_false, reduceIte, V.int.injEq, V.str.injEq, V.bl.injEq, V.ref.injEq, List.append_nil, forall_eq', exists_eq_left, exists_eq_left', *])
-- _law_box  names ["script", "k", "cell"]  needs ['z_len', 'z_abs', 'z_int']
abbrev s_law_box : Stmt := topS 17
theorem sc_law_box : FnScope ["script", "k", "cell"] ["script", "k"] (defScope s_law_box) := ⟨rfl, rfl, rfl, by decide +kernel, rfl, by decide +kernel, by decide +kernel⟩
-- _law_take  names ["box", "size", "found", "step", "once", "twice"]  needs ['z_divmod']
abbrev s_law_take : Stmt := topS 18
theorem sc_law_take : FnScope ["box", "size", "found", "step", "once", "twice"] ["box", "size"] (defScope s_law_take) := ⟨rfl, rfl, rfl, by decide +kernel, rfl, by decide +kernel, by decide +kernel⟩
-- _law_folded  names ["script", "size", "cells", "k", "cell"]  needs ['z_list', 'z_enumerate']
abbrev s_law_folded : Stmt := topS 19
theorem sc_law_folded : FnScope ["script", "size", "cells", "k", "cell"] ["script", "size"] (defScope s_law_folded) := ⟨rfl, rfl, rfl, by decide +kernel, rfl, by decide +kernel, by decide +kernel⟩
-- _law_forms  names ["one", "two", "three", "word", "found", "form"]  needs []
abbrev s_law_forms : Stmt := topS 20
theorem sc_law_forms : FnScope ["one", "two", "three", "word", "found", "form"] [] (defScope s_law_forms) := ⟨rfl, rfl, rfl, by decide +kernel, rfl, by decide +kernel, by decide +kernel⟩
-- _law_right  names ["box", "forms", "many", "alike", "text", "places", "at", "k", "ahead", "behind", "more", "found", "refused"]  needs ['c__law_forms', 'c__law_take', 'z_len', 'z_range', 'c_read', 'e_BadText', 'cl_Program', 'n_Program_rows']
abbrev s_law_right : Stmt := topS 21
theorem sc_law_right : FnScope ["box", "forms", "many", "alike", "text", "places", "at", "k", "ahead", "behind", "more", "found", "refused"] ["box"] (defScope s_law_right) := ⟨rfl, rfl, rfl, by decide +kernel, rfl, by decide +kernel, by decide +kernel⟩
-- law  names ["script", "cells", "k"]  needs ['c__law_folded', 'z_all', 'z_range', 'z_max', 'z_len', 'c__law_right', 'c__law_box']
abbrev s_law : Stmt := topS 22
theorem sc_law : FnScope ["script", "cells", "k"] ["script"] (defScope s_law) := ⟨rfl, rfl, rfl, by decide +kernel, rfl, by decide +kernel, by decide +kernel⟩
section
variable {P : Program} {w : World} {K : PySem.W.Frag} {mg : Str → Option Value} {base : Heap} {f : Addr} {fd : FuncData}
/-- a drawing box at a -/
def BoxAt (H : Hp) (a : Addr) (n : Nat) : Prop := ∃ b0 b1 b2 : Int, H a = some (.lst [.int b0, .int b1, .int b2]) ∧ 0 ≤ b0 ∧ 0 ≤ b1 ∧ b1 < 2147483647 ∧ 0 ≤ b2 ∧ b2 ≤ n
def sp_box (K : PySem.W.Frag) : Sp := fun vs H Q _ => ∃ (a : Addr) (ns : List Int) (k : Nat), vs = [.ref a, .int (k : Int)] ∧ H a = some (.lst (ns.map V.int)) ∧ k ≤ 100 ∧ ∀ p H', Same H H' → H p = none → BoxAt H' p 0 → Q (.ref p) H'
theorem ok_box (F : Fun K "_law_box" "_law_box" s_law_box f fd) (z_len : mg "len" = none) (z_abs : mg "abs" = none) (z_int : mg "int" = none) : FnOk P w K mg base CX0 1 f fd ["script", "k"] (sp_box K) := by
  refine F.ok sc_law_box (fun vs H Q E h => by obtain ⟨_, _, _, rfl, _⟩ := h; rfl) (fun cdv A outer s H vs Q E hr h => ?_)
  have hu64 := hr.units
  refine ⟨_, (pss_cons (ps_set (i := 2) sc_law_box.nd rfl (Or.inl rfl) (pe_ifExp (xt ylt (xv 1) (pe_callB ylen (by rfl) z_len PySem.boot_len (pa_cons (xv 0) pa_nil)) (nomark _)) (pe_ix yix (xv 0) (xv 1) (fun _ _ => rfl)) pe_int))
  (pss_one (ps_ret (pe_lst (pa_cons (pe_op ymul (pe_callB yabs (by rfl) z_abs (by decide +kernel) (pa_cons (xv 2) pa_nil)) (pe_callTy yintc (by rfl) z_int (by decide +kernel) (pa_cons (pe_cmpR yge (pe_callB yabs (by rfl) z_abs (by decide +kernel) (pa_cons (xv 2) pa_nil)) (pe_op ypow pe_int pe_int) (nomark _)) pa_nil))) (pa_cons (pe_op ymod (pe_op ymul (pe_op yadd (pe_op yadd (pe_op ymod (xv 2) pe_int) (pe_op ymul pe_int (xv 1))) pe_int) pe_int) pe_int) (pa_cons pe_int pa_nil))))))), ?_⟩
  obtain ⟨a, ns, k, rfl, ha, hk, q⟩ := h
  walk_at "evh"
  have el : (ns.map V.int).length = ns.length := List.length_map _
  have p18 : (10 : Int) ^ (18 : Int).toNat = 1000000000000000000 := by decide
  have fin (cell : Int) (H' : Hp) (p : Addr) (b0 b1 : Int) (h0 : 0 ≤ b0) (h1 : 0 ≤ b1) (h2 : b1 < 2147483647) (hp : H p = none) : Q (.ref p) (upd H p (.lst [.int b0, .int b1, .int 0])) :=
    q p _ (same_new hp _) hp ⟨b0, b1, 0, upd_same, h0, h1, h2, Int.le_refl _, Int.le_refl _⟩
  split
  · next hl =>
    have hl' : k < ns.length := by rw [el] at hl; omega
    rw [atI_nat (show (ns.map V.int)[k]? = some (V.int ns[k]) by rw [List.getElem?_map, List.getElem?_eq_getElem hl']; rfl)]
    walk_at "evh"
    generalize ns[k] = cell
    refine ⟨by decide, .inr ?_, by decide, .inl (by decide), .inr (by decide), by decide, fun p hp => ?_⟩
    · split <;> split <;> decide
    · refine fin cell H p _ _ ?_ (Int.emod_nonneg _ (by decide)) (Int.emod_lt_of_pos _ (by decide)) hp
      refine Int.mul_nonneg ?_ ?_
      · split <;> omega
      · split <;> split <;> decide
  · next hl =>
    refine ⟨by decide, .inl (by decide), by decide, .inl (by decide), .inr (by decide), by decide, fun p hp => ?_⟩
    exact fin 0 H p _ _ (by decide) (Int.emod_nonneg _ (by decide)) (Int.emod_lt_of_pos _ (by decide)) hp
def sp_take (K : PySem.W.Frag) : Sp := fun vs H Q _ => ∃ (a : Addr) (size : Int) (n : Nat), vs = [.ref a, .int size] ∧ BoxAt H a n ∧ n ≤ 100000 ∧ 0 < size ∧ size < 1000000000 ∧ ∀ r H', But [a] H H' → BoxAt H' a (n + 1) → 0 ≤ r → r < size → Q (.int r) H'
theorem ok_take (F : Fun K "_law_take" "_law_take" s_law_take f fd) (z_divmod : mg "divmod" = none) : FnOk P w K mg base CX0 1 f fd ["box", "size"] (sp_take K) := by
  refine F.ok sc_law_take (fun vs H Q E h => by obtain ⟨_, _, _, rfl, _⟩ := h; rfl) (fun cdv A outer s H vs Q E hr h => ?_)
  have hu64 := hr.units
  refine ⟨_, (pss_cons (ps_if (xt ygt (pe_ix yix (xv 0) pe_int (fun _ _ => rfl)) pe_int (nomark _)) (pss_cons (ps_asg (pe_callB ydivmod (by rfl) z_divmod (by decide +kernel) (pa_cons (pe_ix yix (xv 0) pe_int (fun _ _ => rfl)) (pa_cons (xv 1) pa_nil))) (xgtup (n := 2) (xgcons (pg_sub (xv 0) pe_int ysetl) (xgcons (pg_name (i := 2) sc_law_take.nd rfl (Or.inl rfl)) xgnil))))
  (pss_one (ps_ret (xv 2)))) pss_nil)
  (pss_cons (ps_asg (pe_op yadd (pe_ix yix (xv 0) pe_int (fun _ _ => rfl)) pe_int) (pg_sub (xv 0) pe_int ysetl))
  (pss_cons (ps_set (i := 3) sc_law_take.nd rfl (Or.inl rfl) (pe_op yadd pe_int (pe_op ymul (pe_ix yix (xv 0) pe_int (fun _ _ => rfl)) (pe_ix yix (xv 0) pe_int (fun _ _ => rfl)))))
  (pss_cons (ps_set (i := 4) sc_law_take.nd rfl (Or.inl rfl) (pe_op ymod (pe_op ymul (pe_op yadd (pe_ix yix (xv 0) pe_int (fun _ _ => rfl)) (pe_op ymul pe_int (pe_ix yix (xv 0) pe_int (fun _ _ => rfl)))) (xv 3)) pe_int))
  (pss_cons (ps_set (i := 5) sc_law_take.nd rfl (Or.inl rfl) (pe_op ymod (pe_op yadd (pe_op ymul (xv 4) (pe_op yadd (pe_op ymod (xv 4) pe_int) pe_int)) (pe_ix yix (xv 0) pe_int (fun _ _ => rfl))) pe_int))
  (pss_one (ps_ret (pe_op ymod (pe_op ydiv (pe_op ymod (pe_op ymul (xv 5) (pe_op yadd (pe_op ymod (xv 5) pe_int) pe_int)) pe_int) pe_int) (xv 1))))))))), ?_⟩
  obtain ⟨a, size, n, rfl, ⟨b0, b1, b2, hb, h0, h1, h2, h3, h4⟩, hn, hs0, hs1, q⟩ := h
  walk_at "evh"
  split
  · next hp0 =>
    refine ⟨by omega, fun p hp => ?_⟩
    have hne : a ≠ p := ne_of_none hb hp
    rw [upd_ne hne, hb]
    walk_at "evh"
    exact q _ _ (((But.refl _ H).nw hp _).at (by simp) _) ⟨_, b1, b2, upd_same, Int.ediv_nonneg h0 (by omega), h1, h2, h3, by omega⟩ (Int.emod_nonneg _ (by omega)) (Int.emod_lt_of_pos _ hs0)
  · next hp0 =>
    refine ⟨.inl (by omega), .inl (by decide), .inl (by omega), by decide, by decide, .inl mod_ok, by decide, by decide, .inl mod_ok, by decide, ⟨by decide, by decide⟩, ?_⟩
    exact q _ _ ((But.refl _ H).at (by simp) _) ⟨b0, b1, b2 + 1, by rw [upd_same], h0, h1, h2, by omega, by omega⟩ (Int.emod_nonneg _ (by omega)) (Int.emod_lt_of_pos _ hs0)
def sp_folded (K : PySem.W.Frag) : Sp := fun vs H Q _ => ∃ (a : Addr) (ns : List Int), vs = [.ref a, .int 8] ∧ SqL K H a (ns.map V.int) ∧ ns.length ≤ 63 ∧ ∀ p H' (ms : List Int), Same H H' → H p = none → H' p = some (.lst (ms.map V.int)) → ms.length ≤ 8 → Q (.ref p) H'
theorem ok_folded (F : Fun K "_law_folded" "_law_folded" s_law_folded f fd) (z_list : mg "list" = none) (z_enumerate : mg "enumerate" = none) : FnOk P w K mg base CX0 1 f fd ["script", "size"] (sp_folded K) := by
  refine F.ok sc_law_folded (fun vs H Q E h => by obtain ⟨_, _, rfl, _⟩ := h; rfl) (fun cdv A outer s H vs Q E hr h => ?_)
  have hu64 := hr.units
  refine ⟨_, (pss_cons (ps_set (i := 2) sc_law_folded.nd rfl (Or.inl rfl) (pe_callTy ylist (by rfl) z_list (by decide +kernel) (pa_cons (pe_slice ysl (xv 0) po_none (po_some (xv 1))) pa_nil)))
  (pss_cons (xfor PassesOwn.never (xienum z_enumerate (pe_slice ysl (xv 0) (po_some (xv 1)) (po_some pe_int))) (xgtup (n := 2) (xgcons (pg_name (i := 3) sc_law_folded.nd rfl (Or.inl rfl)) (xgcons (pg_name (i := 4) sc_law_folded.nd rfl (Or.inl rfl)) xgnil)))
  (pss_one (ps_asg (pe_op yadd (pe_ix yix (xv 2) (pe_op ymod (xv 3) (xv 1)) (fun _ _ => rfl)) (pe_op ymul (xv 4) (pe_op yadd (xv 3) pe_int))) (pg_sub (xv 2) (pe_op ymod (xv 3) (xv 1)) ysetl))))
  (pss_one (ps_ret (xv 2))))), ?_⟩
  obtain ⟨a, ns, rfl, ha, hn, q⟩ := h
  walk_at "evh"
  refine sl_use ha fun p1 h1 => ?_
  rw [show cutV (ns.map V.int) none (some 8) = _ from cut_to _ 8, ← List.map_take]
  walk_at "evh"
  intro p2 h2
  have s2 := same_up (same_new h1 (.lst ((ns.take 8).map V.int))) h2 (.lst ((ns.take 8).map V.int))
  refine sl_use (s2.seq ha) fun p3 h3 => ?_
  rw [show cutV (ns.map V.int) (some 8) (some 63) = _ from cut_ft _ 8 63, ← List.map_drop, ← List.map_take]
  walk_at "evh"
  have h4 : upd (upd (upd H p1 (HO.lst (List.map V.int (List.take 8 ns)))) p2 (HO.lst (List.map V.int (List.take 8 ns)))) p3 (HO.lst (List.map V.int (List.take 55 (List.drop 8 ns)))) p2 = some (.lst ((ns.take 8).map V.int)) := same_new h3 _ _ _ upd_same
  have hp2 : H p2 = none := (same_new h1 _).free h2
  have s3 := same_up s2 h3 (HO.lst (List.map V.int (List.take 55 (List.drop 8 ns))))
  have h5 : upd (upd (upd H p1 (HO.lst (List.map V.int (List.take 8 ns)))) p2 (HO.lst (List.map V.int (List.take 8 ns)))) p3 (HO.lst (List.map V.int (List.take 55 (List.drop 8 ns)))) p3 = some (.lst ((List.take 55 (List.drop 8 ns)).map V.int)) := upd_same
  have h32 : p3 ≠ p2 := (upd_free h3).1
  generalize upd (upd (upd H p1 (HO.lst (List.map V.int (List.take 8 ns)))) p2 (HO.lst (List.map V.int (List.take 8 ns)))) p3 (HO.lst (List.map V.int (List.take 55 (List.drop 8 ns)))) = H3 at h4 h5 s3 ⊢
  refine ⟨_, _, _, fun r σ H' => ∃ (k : Nat) (rs ms : List Int) (x y : Option V), r = numP k (rs.map V.int) ∧ σ = [some (V.ref a), some (V.int 8), some (V.ref p2), x, y] ∧ Same H H' ∧ H' p2 = some (.lst (ms.map V.int)) ∧ H' p3 = some (.lst ((List.take 55 (List.drop 8 ns)).map V.int)) ∧ ms.length = min 8 ns.length ∧ (rs = [] ∨ 8 < ns.length) ∧ k + rs.length ≤ 63, rfl, ⟨0, _, ns.take 8, none, none, rfl, rfl, s3, h4, h5, by simp, ?_, by rw [List.length_take, List.length_drop]; omega⟩, ?_, ?_, ?_⟩
  · by_cases h8 : 8 < ns.length
    · exact .inr h8
    · exact .inl (by rw [List.drop_of_length_le (by omega), List.take_nil])
  · rintro r σ H' ⟨k, rs, ms, x, y, rfl, rfl, s4, e2, e3, hm, _⟩
    rw [e3]
  · rintro yy r σ H' ⟨k, rs, ms, x, y, hr, rfl, s4, e2, e3, hm, h8, hk⟩
    cases rs with
    | nil => cases hr
    | cons z rs =>
      cases hr
      have hlt : 8 < ns.length := h8.resolve_left (by simp)
      rw [show ydN (k, V.int z) = .two (.int (k : Int)) (.int z) from rfl]
      walk_at "ev"
      intro T hT
      have e2' : upd H' T (HO.tup [V.int ↑k, V.int z]) p2 = some (.lst (ms.map V.int)) := same_new hT _ _ _ e2
      have e3' : upd H' T (HO.tup [V.int ↑k, V.int z]) p3 = some (.lst ((List.take 55 (List.drop 8 ns)).map V.int)) := same_new hT _ _ _ e3
      rw [e2', show ((k : Int) % 8) = ((k % 8 : Nat) : Int) from rfl]
      walk_at "ev"
      have hkm : k % 8 < ms.length := by omega
      rw [atI_nat (j := k % 8) (v := V.int ms[k % 8]) (by rw [List.getElem?_map, List.getElem?_eq_getElem hkm]; rfl)]
      walk_at "ev"
      refine ⟨by decide, .inr ⟨by omega, by omega⟩, by decide, ?_⟩
      rw [e2']
      walk_at "ev"
      rw [List.length_map, ixN_k hkm]
      refine ⟨k + 1, rs, ms.set (k % 8) (ms[k % 8] + z * ((k : Int) + 2)), _, _, rfl, rfl, same_upd (same_up s4 hT _) hp2 _, by rw [List.map_set], ?_, by rw [List.length_set]; exact hm, .inr hlt, by rw [List.length_cons] at hk; omega⟩
      rw [upd_ne h32]
      exact e3'
  · rintro σ H' ⟨k, rs, ms, x, y, hr, rfl, s4, e2, e3, hm, h8, hk⟩
    walk_at "ev"
    exact q p2 H' ms s4 hp2 e2 (by omega)
def pr (a b : Str) : PyData := .tuple [.str a, .str b]
def oneF : List PyData := [pr "(fn x " ")", pr "(get " " a)", pr "(tag t " ")", pr "(rec a " ")", pr "(row " ")", pr "(size " ")"]
def twoF : List PyData := [pr "(let x " " 0)", pr "(let x 0 " ")", pr "(rec a 0 b " ")", pr "(rec a " " b 0)", pr "(row 0 " ")"] ++ [pr "(row " " 0)", pr "(case " " t x 0)", pr "(case 0 t x " ")"]
def wordF (x : Str) : List PyData := [pr ("(" ++ x ++ " ") " 0)", pr ("(" ++ x ++ " 0 ") ")"]
def fiveW : List Str := ["call", "join", "add", "sub", "less"]
def threeF : List PyData := [pr "(at " " 0 0)", pr "(at 0 " " 0)", pr "(at 0 0 " ")", pr "(case 0 t x 0 u y " ")"] ++ [pr "(case 0 t x " " u y 0)"]
def addN (n : Int) : PyData → PyData
  | .tuple xs => .tuple (xs ++ [.int n])
  | d => d
def formsD : List PyData := oneF.map (addN 1) ++ (twoF ++ fiveW.flatMap wordF).map (addN 2) ++ threeF.map (addN 3)
def sp_forms : Sp := fun vs H Q _ => vs = [] ∧ ∀ p H' us, Same H H' → H p = none → H' p = some (.lst us) → Tps H' us formsD → Q (.ref p) H'
def isPr : PyData → Bool
  | .tuple [.str _, .str _] => true
  | _ => false
theorem isPr_eq {d : PyData} (h : isPr d = true) : ∃ a b, d = pr a b := by
  unfold isPr at h
  split at h
  · exact ⟨_, _, rfl⟩
  · cases h
theorem str_len (a b : Str) : (a ++ b).length = a.length + b.length := Array.size_append
theorem lc_add {xs : List V} {ds : List PyData} {n : Int} {x0 x1 x2 x3 x4 x5 : Option V} {D : Addr} {H : Hp} {keep : Hp → Prop} {Q : Hp → Prop} (hD : H D = none) (hs : Tps H xs ds) (hl : ds.length ≤ 1000) (hk : ∀ H', Same H H' → keep H') (hp : ds.all isPr = true)
    (done : ∀ H' us, Same H H' → H' D = some (.lst us) → Tps H' us (ds.map (addN n)) → Q H') : LoopC (xs.map .one) keep (gName 5) tYes (tOp qAdd (qVar 5) (tTup (tCons (tC (V.int n)) tNil))) [5] [x0, x1, x2, x3, x4, x5] D H Q := by
  refine lc_map (addN n) hD hs (by rw [hs.length]; omega) hk (fun v d H' s hv hd Fin fin => ?_) done
  obtain ⟨a, b, rfl⟩ := isPr_eq (List.all_eq_true.mp hp d hd)
  cases hv with
  | @tup p ys _ hy ht =>
  have hl : ys.length = 2 := ht.length
  walk_at "ev"
  intro p1 h1
  rw [qAdd_tt (same_new h1 _ _ _ hy) upd_same]
  refine ⟨sz_of (by rw [hl]; show 3 ≤ _; decide), fun e => (by rw [e] at hl; cases hl), fun _ e => (by cases e), fun _ _ p2 h2 => ?_⟩
  refine fin _ _ (same_up (same_new h1 _) h2 _) (.tup upd_same ?_)
  exact ((ht.mono (same_tk (same_up (same_new h1 _) h2 _))).append (.cons (.int n) .nil))
theorem ok_forms (F : Fun K "_law_forms" "_law_forms" s_law_forms f fd) : FnOk P w K mg base CX0 1 f fd [] sp_forms := by
  refine F.ok sc_law_forms (fun vs H Q E h => by obtain ⟨rfl, _⟩ := h; rfl) (fun cdv A outer s H vs Q E hr h => ?_)
  have hu64 := hr.units
  refine ⟨_, (pss_cons (ps_set (i := 0) sc_law_forms.nd rfl (Or.inl rfl) (xopq (pe_lst (pa_cons (pe_tup (pa_cons pe_str (pa_cons pe_str pa_nil))) (pa_cons (pe_tup (pa_cons pe_str (pa_cons pe_str pa_nil))) (pa_cons (pe_tup (pa_cons pe_str (pa_cons pe_str pa_nil))) (pa_cons (pe_tup (pa_cons pe_str (pa_cons pe_str pa_nil))) (pa_cons (pe_tup (pa_cons pe_str (pa_cons pe_str pa_nil))) (pa_cons (pe_tup (pa_cons pe_str (pa_cons pe_str pa_nil))) pa_nil)))))))))
  (pss_cons (ps_set (i := 1) sc_law_forms.nd rfl (Or.inl rfl) (xopq (pe_lst (pa_cons (pe_tup (pa_cons pe_str (pa_cons pe_str pa_nil))) (pa_cons (pe_tup (pa_cons pe_str (pa_cons pe_str pa_nil))) (pa_cons (pe_tup (pa_cons pe_str (pa_cons pe_str pa_nil))) (pa_cons (pe_tup (pa_cons pe_str (pa_cons pe_str pa_nil))) (pa_cons (pe_tup (pa_cons pe_str (pa_cons pe_str pa_nil))) pa_nil))))))))
  (pss_cons (ps_set (i := 1) sc_law_forms.nd rfl (Or.inl rfl) (pe_op yadd (xv 1) (xopq (pe_lst (pa_cons (pe_tup (pa_cons pe_str (pa_cons pe_str pa_nil))) (pa_cons (pe_tup (pa_cons pe_str (pa_cons pe_str pa_nil))) (pa_cons (pe_tup (pa_cons pe_str (pa_cons pe_str pa_nil))) pa_nil)))))))
  (pss_cons (ps_set (i := 2) sc_law_forms.nd rfl (Or.inl rfl) (xopq (pe_lst (pa_cons (pe_tup (pa_cons pe_str (pa_cons pe_str pa_nil))) (pa_cons (pe_tup (pa_cons pe_str (pa_cons pe_str pa_nil))) (pa_cons (pe_tup (pa_cons pe_str (pa_cons pe_str pa_nil))) (pa_cons (pe_tup (pa_cons pe_str (pa_cons pe_str pa_nil))) pa_nil)))))))
  (pss_cons (ps_expr (xapp (xv 2) (pe_tup (pa_cons pe_str (pa_cons pe_str pa_nil)))))
  (pss_cons (xfor PassesOwn.never (xitup (pe_tup (pa_cons pe_str (pa_cons pe_str (pa_cons pe_str (pa_cons pe_str (pa_cons pe_str pa_nil))))))) (pg_name (i := 3) sc_law_forms.nd rfl (Or.inl rfl))
  (pss_one (ps_set (i := 1) sc_law_forms.nd rfl (Or.inl rfl) (pe_op yadd (xv 1) (pe_lst (pa_cons (pe_tup (pa_cons (pe_op yadd (pe_op yadd pe_str (xv 3)) pe_str) (pa_cons pe_str pa_nil))) (pa_cons (pe_tup (pa_cons (pe_op yadd (pe_op yadd pe_str (xv 3)) pe_str) (pa_cons pe_str pa_nil))) pa_nil)))))))
  (pss_cons (ps_set (i := 4) sc_law_forms.nd rfl (Or.inl rfl) (pe_op yadd (xlc (own := [("form", 5)]) sc_law_forms.nd (xilst (xv 0)) (blkOk_by (own := [("form", 5)]) (N := ["one", "two", "three", "word", "found", "form"]) (sc := defScope s_law_forms) (by decide +kernel)) (fun _ _ _ _ _ => (pg_name (i := 5) sc_law_forms.nd rfl (Or.inl rfl))) (fun _ _ _ _ _ => pts_nil) (fun _ _ _ _ _ => (pe_op yadd (xv 5) (pe_tup (pa_cons pe_int pa_nil))))) (xlc (own := [("form", 5)]) sc_law_forms.nd (xilst (xv 1)) (blkOk_by (own := [("form", 5)]) (N := ["one", "two", "three", "word", "found", "form"]) (sc := defScope s_law_forms) (by decide +kernel)) (fun _ _ _ _ _ => (pg_name (i := 5) sc_law_forms.nd rfl (Or.inl rfl))) (fun _ _ _ _ _ => pts_nil) (fun _ _ _ _ _ => (pe_op yadd (xv 5) (pe_tup (pa_cons pe_int pa_nil)))))))
  (pss_one (ps_ret (pe_op yadd (xv 4) (xlc (own := [("form", 5)]) sc_law_forms.nd (xilst (xv 2)) (blkOk_by (own := [("form", 5)]) (N := ["one", "two", "three", "word", "found", "form"]) (sc := defScope s_law_forms) (by decide +kernel)) (fun _ _ _ _ _ => (pg_name (i := 5) sc_law_forms.nd rfl (Or.inl rfl))) (fun _ _ _ _ _ => pts_nil) (fun _ _ _ _ _ => (pe_op yadd (xv 5) (pe_tup (pa_cons pe_int pa_nil))))))))))))))), ?_⟩
  obtain ⟨rfl, q⟩ := h
  walk_at "evh"
  refine dl_use (ds := oneF) (by repeat' first | exact Dts.nil | refine Dts.cons ?_ ?_ | refine Dt.tup ?_ (by decide) | exact Dt.str) (by decide) fun p1 H1 u1 s1 f1 e1 t1 => ?_
  refine dl_use (ds := [pr "(let x " " 0)", pr "(let x 0 " ")", pr "(rec a 0 b " ")", pr "(rec a " " b 0)", pr "(row 0 " ")"]) (by repeat' first | exact Dts.nil | refine Dts.cons ?_ ?_ | refine Dt.tup ?_ (by decide) | exact Dt.str) (by decide) fun p2 H2 u2 s2 f2 e2 t2 => ?_
  walk_at "ev"
  refine dl_use (ds := [pr "(row " " 0)", pr "(case " " t x 0)", pr "(case 0 t x " ")"]) (by repeat' first | exact Dts.nil | refine Dts.cons ?_ ?_ | refine Dt.tup ?_ (by decide) | exact Dt.str) (by decide) fun p3 H3 u3 s3 f3 e3 t3 => ?_
  simp only [qAdd_ll (s3 _ _ e2) e3]
  refine ⟨sz_of (by rw [t2.length, t3.length]; decide), fun p4 f4 => ?_⟩
  refine dl_use (ds := [pr "(at " " 0 0)", pr "(at 0 " " 0)", pr "(at 0 0 " ")", pr "(case 0 t x 0 u y " ")"]) (by repeat' first | exact Dts.nil | refine Dts.cons ?_ ?_ | refine Dt.tup ?_ (by decide) | exact Dt.str) (by decide) fun p5 H5 u5 s5 f5 e5 t5 => ?_
  have s4 := same_new f4 (.lst (u2 ++ u3))
  walk_at "ev"
  rw [e5]
  refine ⟨rfl, fun p6 f6 => ?_⟩
  rw [same_new f6 _ _ _ e5]
  refine ⟨sz_lt (by rw [t5.length]; decide), fun p7 f7 => ?_⟩
  have s6 := same_upd (same_up s5 f6 (.tup [V.str (Str.ofString "(case 0 t x "), V.str (Str.ofString " u y 0)")])) f5 (.lst (u5 ++ [V.ref p6]))
  have e6 : upd (upd H5 p6 (HO.tup [V.str (Str.ofString "(case 0 t x "), V.str (Str.ofString " u y 0)")])) p5 (HO.lst (u5 ++ [V.ref p6])) p5 = some (.lst (u5 ++ [V.ref p6])) := upd_same
  have t6 : Tps (upd (upd H5 p6 (HO.tup [V.str (Str.ofString "(case 0 t x "), V.str (Str.ofString " u y 0)")])) p5 (HO.lst (u5 ++ [V.ref p6]))) (u5 ++ [V.ref p6]) threeF := by
    have k1 := tk_lst (same_new f6 (.tup [V.str (Str.ofString "(case 0 t x "), V.str (Str.ofString " u y 0)")]) _ _ e5) (HO.lst (u5 ++ [V.ref p6]))
    exact ((t5.mono (same_tk (same_new f6 _))).mono k1).append (.cons (.tup (k1 _ _ upd_same) (.cons (.str _) (.cons (.str _) .nil))) .nil)
  generalize upd (upd H5 p6 (HO.tup [V.str (Str.ofString "(case 0 t x "), V.str (Str.ofString " u y 0)")])) p5 (HO.lst (u5 ++ [V.ref p6])) = H6 at f7 s6 e6 t6 ⊢
  have t4 : Tps H6 (u2 ++ u3) twoF := ((t2.mono (same_tk s3)).append t3).mono (same_tk ((same_new f4 _).trans s6))
  have e4 : H6 p4 = some (.lst (u2 ++ u3)) := s6 _ _ upd_same
  have sA : Same H H6 := ((s1.trans s2).trans s3).trans ((same_new f4 _).trans s6)
  have t1' : Tps H6 u1 oneF := t1.mono (same_tk ((s2.trans s3).trans ((same_new f4 _).trans s6)))
  have e1' : H6 p1 = some (.lst u1) := ((s2.trans s3).trans ((same_new f4 _).trans s6)) _ _ e1
  clear t5 e5 f6 s6 s5 f5 t2 t3 s3 e3 f4 f3 t1 e1
  refine ⟨Str, fun x => .one (.str x), fiveW, fun r σ H' => ∃ (dn : List Str) (q : Addr) (us : List V) (x : Option V), fiveW = dn ++ r ∧ σ = [some (V.ref p1), some (V.ref q), some (V.ref p5), x, none, none] ∧ Same (upd H6 p7 (.tup (fiveW.map V.str))) H' ∧ H' q = some (.lst us) ∧ Tps H' us (twoF ++ dn.flatMap wordF), rfl, ⟨[], p4, _, none, rfl, rfl, Same.refl _, same_new f7 _ _ _ e4, by rw [List.flatMap_nil, List.append_nil]; exact t4.mono (same_tk (same_new f7 _))⟩, ?_, ?_, ?_⟩
  · rintro r σ H' ⟨dn, p8, us, x, hd, rfl, s8, e8, t8⟩
    rw [s8 _ _ upd_same]
    rfl
  · rintro y r σ H' ⟨dn, p8, us, x, hd, rfl, s8, e8, t8⟩
    have hy : y ∈ fiveW := by rw [hd]; simp
    have hyl : y.length ≤ 4 := by
      revert hy
      simp only [fiveW, List.mem_cons, List.not_mem_nil, or_false]
      rintro (rfl | rfl | rfl | rfl | rfl) <;> decide
    walk_at "ev"
    refine ⟨sz_of ?_, sz_of ?_, fun q1 g1 => ⟨sz_of ?_, sz_of ?_, fun q2 g2 q3 g3 => ?_⟩⟩
    · show 1 + _ ≤ _; omega
    · rw [str_len]; show 1 + _ + 1 ≤ _; omega
    · show 1 + _ ≤ _; omega
    · rw [str_len]; show 1 + _ + 3 ≤ _; omega
    have sB := same_up (same_up (same_new g1 (HO.tup [V.str (Str.ofString "(" ++ y ++ Str.ofString " "), V.str (Str.ofString " 0)")])) g2 (HO.tup [V.str (Str.ofString "(" ++ y ++ Str.ofString " 0 "), V.str (Str.ofString ")")])) g3 (.lst [V.ref q1, V.ref q2])
    have b1 := same_up (same_new g2 (HO.tup [V.str (Str.ofString "(" ++ y ++ Str.ofString " 0 "), V.str (Str.ofString ")")])) g3 (.lst [V.ref q1, V.ref q2]) _ _ (upd_same (H := H') (a := q1) (o := HO.tup [V.str (Str.ofString "(" ++ y ++ Str.ofString " "), V.str (Str.ofString " 0)")]))
    have b2 := same_new g3 (.lst [V.ref q1, V.ref q2]) _ _ upd_same
    have b3 : _ = some (HO.lst [V.ref q1, V.ref q2]) := upd_same (H := upd (upd H' q1 (HO.tup [V.str (Str.ofString "(" ++ y ++ Str.ofString " "), V.str (Str.ofString " 0)")])) q2 (HO.tup [V.str (Str.ofString "(" ++ y ++ Str.ofString " 0 "), V.str (Str.ofString ")")])) (a := q3)
    rw [qAdd_ll (sB _ _ e8) b3]
    have hdl : dn.length ≤ 5 := by have := congrArg List.length hd; rw [List.length_append] at this; exact Nat.le_trans (Nat.le_add_right _ _) (Nat.le_of_eq this.symm)
    have hfl : (dn.flatMap wordF).length = 2 * dn.length := by
      clear hd hdl t8
      induction dn with
      | nil => rfl
      | cons z r ih => rw [List.flatMap_cons, List.length_append, ih]; show 2 + _ = 2 * (_ + 1); omega
    refine ⟨sz_of (by rw [t8.length, List.length_append, hfl]; show 8 + _ + 2 ≤ _; omega), fun q4 g4 => ⟨dn ++ [y], q4, _, _, by rw [hd]; simp, rfl, s8.trans (same_up sB g4 _), upd_same, ?_⟩⟩
    rw [List.flatMap_append, ← List.append_assoc]
    refine ((t8.mono (same_tk sB)).append ?_).mono (same_tk (same_new g4 _))
    exact .cons (.tup b1 (.cons (.str _) (.cons (.str _) .nil))) (.cons (.tup b2 (.cons (.str _) (.cons (.str _) .nil))) .nil)
  · rintro σ H' ⟨dn, p8, us, x, hd, rfl, s8, e8, t8⟩
    have s8' : Same H6 H' := (same_new f7 _).trans s8
    rw [List.append_nil] at hd
    subst hd
    walk_at "ev"
    rw [s8' _ _ e1']
    walk_at "ev"
    intro D1 d1
    refine lc_add d1 (t1'.mono (same_tk s8')) (by decide) (fun H2 s2 => by rw [s2 _ _ (s8' _ _ e1')]) (by decide) fun H2 us2 s2 ee2 tt2 => ?_
    have f2 : H D1 = none := (sA.trans s8').free d1
    rw [s2 _ _ e8]
    walk_at "ev"
    intro D2 d2
    refine lc_add d2 (t8.mono (same_tk s2)) (by decide) (fun H2 s3 => by rw [s3 _ _ (s2 _ _ e8)]) (by decide) fun H3 us3 s3 ee3 tt3 => ?_
    rw [qAdd_ll (s3 _ _ ee2) ee3]
    refine ⟨sz_of (by rw [tt2.length, tt3.length]; decide), fun p9 f9 => ?_⟩
    have s9 := same_new f9 (.lst (us2 ++ us3))
    rw [s9 _ _ (s3 _ _ (s2 _ _ (s8' _ _ e6)))]
    walk_at "ev"
    intro D3 d3
    refine lc_add d3 (t6.mono (same_tk (((s8'.trans s2).trans s3).trans s9))) (by decide) (fun H2 s4 => by rw [s4 _ _ (s9 _ _ (s3 _ _ (s2 _ _ (s8' _ _ e6))))]) (by decide) fun H4 us4 s4 ee4 tt4 => ?_
    rw [qAdd_ll (s4 _ _ upd_same) ee4]
    have t9 : Tps H4 (us2 ++ us3) (oneF.map (addN 1) ++ (twoF ++ fiveW.flatMap wordF).map (addN 2)) := ((tt2.mono (same_tk s3)).append tt3).mono (same_tk (s9.trans s4))
    refine ⟨sz_of (by rw [t9.length, tt4.length]; decide), fun p0 f0 => q p0 _ _ (same_up (((((sA.trans s8').trans s2).trans s3).trans s9).trans s4) f0 _) ((((((sA.trans s8').trans s2).trans s3).trans s9).trans s4).free f0) upd_same ((t9.append tt4).mono (same_tk (same_new f0 _)))⟩
end
end Fk
/-! texts made of wrapped texts: what the reader's mirror says of them -/
namespace Fk
open PySem L2
/-! words of texts put together -/
theorem wflush_nil (ws : List Str) : wflush ws (Str.ofString "") = ws := by rw [wflush, if_pos rfl]
theorem wflush_pre (pre ws : List Str) (run : Str) : wflush (pre ++ ws) run = pre ++ wflush ws run := by
  unfold wflush
  split
  · rfl
  · rw [List.append_assoc]
theorem wstep_pre (pre ws : List Str) (run : Str) (c : Nat) : wstep (pre ++ ws, run) c = (pre ++ (wstep (ws, run) c).1, (wstep (ws, run) c).2) := by
  unfold wstep
  by_cases h : c ∈ seps
  · simp only [if_pos h]
    by_cases h2 : c = 40 ∨ c = 41
    · simp only [if_pos h2, wflush_pre, List.append_assoc]
    · simp only [if_neg h2, wflush_pre]
  · simp only [if_neg h]
theorem wordsFrom_pre (pre : List Str) : ∀ (cs : List Nat) (ws : List Str) (run : Str), wordsFrom (pre ++ ws, run) cs = pre ++ wordsFrom (ws, run) cs
  | [], ws, run => wflush_pre pre ws run
  | c :: cs, ws, run => by
    show wordsFrom (wstep (pre ++ ws, run) c) cs = pre ++ wordsFrom (wstep (ws, run) c) cs
    rw [wstep_pre]
    exact wordsFrom_pre pre cs _ _
theorem wflush_done (ws : List Str) (run : Str) : wflush (wflush ws run) "" = wflush ws run := by
  rw [wflush, if_pos rfl]
/-- a text that begins with a parting sign -/
theorem words_sep {c : Nat} (h : c ∈ seps) (cs : List Nat) (ws : List Str) (run : Str) : wordsFrom (ws, run) (c :: cs) = wflush ws run ++ wordsOf (c :: cs) := by
  have e : wstep (ws, run) c = (wflush ws run ++ (wstep ([], "") c).1, Str.ofString "") := by
    unfold wstep
    simp only [if_pos h]
    have e0 : wflush [] (Str.ofString "") = [] := by rw [wflush, if_pos rfl]
    by_cases h2 : c = 40 ∨ c = 41
    · simp only [if_pos h2, e0, List.nil_append]
    · simp only [if_neg h2, e0, List.append_nil]
  have e1 : wstep ([], "") c = ((wstep ([], "") c).1, Str.ofString "") := by
    unfold wstep
    simp only [if_pos h]
  show wordsFrom (wstep (ws, run) c) cs = wflush ws run ++ wordsFrom (wstep ([], "") c) cs
  rw [e, wordsFrom_pre, e1]
theorem words_app (as bs : List Nat) : ∀ (s : List Str × Str), wordsFrom s (as ++ bs) = wordsFrom (as.foldl wstep s) bs := by
  intro s
  unfold wordsFrom
  rw [List.foldl_append]
theorem words_behind {c : Nat} (h : c ∈ seps) (as cs : List Nat) : wordsOf (as ++ c :: cs) = wordsOf as ++ wordsOf (c :: cs) := by
  unfold wordsOf
  rw [words_app]
  exact words_sep h cs _ _
theorem words_ahead {c : Nat} (h : c ∈ seps) (as bs : List Nat) : wordsOf (as ++ [c] ++ bs) = wordsOf (as ++ [c]) ++ wordsOf bs := by
  unfold wordsOf
  rw [words_app]
  have e : (as ++ [c]).foldl wstep ([], "") = (wordsFrom ([], "") (as ++ [c]), Str.ofString "") := by
    unfold wordsFrom
    rw [List.foldl_append]
    generalize as.foldl wstep ([], Str.ofString "") = s
    show wstep s c = (wflush (wstep s c).1 (wstep s c).2, _)
    unfold wstep
    simp only [if_pos h]
    exact Prod.ext (wflush_nil _).symm rfl
  rw [e]
  exact (congrArg (fun l => wordsFrom (l, _) bs) (List.append_nil _).symm).trans (wordsFrom_pre _ _ _ _)
theorem cps_app (a b : Str) : (a ++ b).cps.toList = a.cps.toList ++ b.cps.toList := Array.toList_append
/-- a text's last sign, and its first, are parting signs -/
def LastS (a : Str) : Prop := ∃ as c, a.cps.toList = as ++ [c] ∧ c ∈ seps
def FirstS (a : Str) : Prop := ∃ cs c, a.cps.toList = c :: cs ∧ c ∈ seps
def lastB (a : Str) : Bool := match a.cps.toList.reverse with
  | [] => false
  | c :: _ => decide (c ∈ seps)
def firstB (a : Str) : Bool := match a.cps.toList with
  | [] => false
  | c :: _ => decide (c ∈ seps)
theorem lastB_ok {a : Str} (h : lastB a = true) : LastS a := by
  unfold lastB at h
  cases e : a.cps.toList.reverse with
  | nil => rw [e] at h; cases h
  | cons c r =>
    rw [e] at h
    exact ⟨r.reverse, c, by rw [← List.reverse_reverse a.cps.toList, e, List.reverse_cons], of_decide_eq_true h⟩
theorem firstB_ok {a : Str} (h : firstB a = true) : FirstS a := by
  unfold firstB at h
  cases e : a.cps.toList with
  | nil => rw [e] at h; cases h
  | cons c r =>
    rw [e] at h
    exact ⟨r, c, e, of_decide_eq_true h⟩
theorem words_wrap {a t b : Str} (ha : LastS a) (hb : FirstS b) : wordsOf (a ++ t ++ b).cps.toList = wordsOf a.cps.toList ++ (wordsOf t.cps.toList ++ wordsOf b.cps.toList) := by
  obtain ⟨as, c, e1, h1⟩ := ha
  obtain ⟨bs, d, e2, h2⟩ := hb
  rw [cps_app, cps_app, e1, e2, List.append_assoc, words_ahead h1, words_behind h2]
/-! what a reading leaves: the words behind it and how many rows -/
def Is1 {α : Type} (o : Option (α × List Str × Rows)) (rest : List Str) (t : Option Nat) : Prop := match o, t with
  | none, none => True
  | some u, some n => u.2.1 = rest ∧ u.2.2.length = n
  | _, _ => False
def bnd (o : Option Nat) (f : Nat → Option Nat) : Option Nat := match o with
  | none => none
  | some n => f n
theorem bnd_none (o : Option Nat) : bnd o (fun _ => none) = none := by cases o <;> rfl
abbrev Tf := Nat → Option Nat
/-- the words are an EXPR to ex -/
structure Den (ex : RE) (W : List Str) (T : Tf) : Prop where
  hd : ∃ w r, W = w :: r ∧ w ≠ ")"
  ok : ∀ rest rows, Is1 (ex (W ++ rest) rows) rest (T rows.length)
section
variable {ex : RE} {W ws ws1 rest : List Str} {T S : Tf} {rows : Rows} {cs pat : List Nat} {w h : Str} {t : Option Nat} {k : Nat}
theorem Is1.bd {α β : Type} {o : Option (α × List Str × Rows)} {X : Option (β × List Str × Rows)} (h1 : Is1 o ws t) (h0 : o = none → X = none) (h2 : ∀ a rows', o = some (a, ws, rows') → Is1 X rest (S rows'.length)) : Is1 X rest (bnd t S) := by
  cases o with
  | none =>
    cases t with
    | none => rw [h0 rfl]; trivial
    | some n => exact h1.elim
  | some u =>
    cases t with
    | none => exact h1.elim
    | some n =>
      obtain ⟨a, w, r⟩ := u
      obtain ⟨e1, e2⟩ := h1
      subst e1 e2
      exact h2 a r rfl
theorem Is1.mp {α β : Type} {o : Option (α × List Str × Rows)} {X : Option (β × List Str × Rows)} (h1 : Is1 o rest t) (e : X.map (·.2) = o.map (·.2)) : Is1 X rest t := by
  cases o with
  | none =>
    cases X with
    | none => cases t with
      | none => trivial
      | some n => exact h1.elim
    | some u => cases e
  | some v =>
    cases X with
    | none => cases e
    | some u =>
      have e' : u.2 = v.2 := Option.some.inj e
      cases t with
      | none => exact h1.elim
      | some n => exact ⟨(congrArg Prod.fst e').trans h1.1, (congrArg (fun z => z.2.length) e').trans h1.2⟩
theorem pieces_nil : Is1 (pieces ex [] ws rows) ws (some rows.length) := ⟨rfl, rfl⟩
theorem pieces_nm (hw : isName w = true) (h0 : w ≠ "") (h : Is1 (pieces ex cs ws rows) rest t) : Is1 (pieces ex (120 :: cs) (w :: ws) rows) rest t := by
  have e : named (w :: ws) = some (w, ws) := by
    simp only [named, taken, if_neg h0, if_pos hw]
  simp only [pieces, if_true, e]
  exact Is1.mp h (by cases pieces ex cs ws rows <;> rfl)
theorem pieces_ex (d : Den ex W T) (h : ∀ rows', Is1 (pieces ex cs ws rows') rest (S rows'.length)) : Is1 (pieces ex (101 :: cs) (W ++ ws) rows) rest (bnd (T rows.length) S) := by
  simp only [pieces, if_neg (show ¬ (101 : Nat) = 120 by decide)]
  exact Is1.bd (d.ok ws rows) (fun e => by rw [e]) fun a rows' e => by
    rw [e]
    exact Is1.mp (h rows') (by show Option.map _ (match pieces ex cs ws rows' with | none => none | some (ps, ws, rows) => some (PyData.int (a : Int) :: ps, ws, rows)) = _; cases pieces ex cs ws rows' <;> rfl)
theorem many_fin (h : ahead ws = ")") : Is1 (many ex pat k ws rows) ws (some rows.length) := by
  rw [many_end h]
  exact ⟨rfl, rfl⟩
theorem many_go (h : ahead ws ≠ ")") (h1 : Is1 (pieces ex pat ws rows) ws1 t) (h2 : ∀ rows', Is1 (many ex pat k ws1 rows') rest (S rows'.length)) : Is1 (many ex pat (k + 1) ws rows) rest (bnd t S) := by
  rw [many_succ h]
  exact Is1.bd h1 (fun e => by rw [e]) fun a rows' e => by
    rw [e]
    exact Is1.mp (h2 rows') (by show Option.map _ (match many ex pat k ws1 rows' with | none => none | some (qs, ws, rows) => some (PyData.tuple a :: qs, ws, rows)) = _; cases many ex pat k ws1 rows' <;> rfl)
theorem ahead_den (d : Den ex W T) : ahead (W ++ ws) ≠ ")" := by
  obtain ⟨x, r, rfl, hx⟩ := d.hd
  exact hx
theorem form_rec (h : Is1 (many ex [120, 101] 6 ws rows) rest t) : Is1 (form ex ("rec" :: ws) rows) rest t := by
  have e : taken ("rec" :: ws) = some (Str.ofString "rec", ws) := by simp only [taken, if_neg (show ¬ Str.ofString "rec" = Str.ofString "" by decide +kernel)]
  rw [form, e]
  simp only [if_true]
  exact Is1.mp h (by cases many ex [120, 101] 6 ws rows <;> rfl)
theorem form_row (h : Is1 (many ex [101] 8 ws rows) rest t) : Is1 (form ex ("row" :: ws) rows) rest t := by
  have e : taken ("row" :: ws) = some (Str.ofString "row", ws) := by simp only [taken, if_neg (show ¬ Str.ofString "row" = "" by decide +kernel)]
  rw [form, e]
  simp only [if_true, if_neg (show ¬ Str.ofString "row" = "rec" by decide +kernel)]
  exact Is1.mp h (by cases many ex [101] 8 ws rows <;> rfl)
theorem form_case (d : Den ex W T) (ha : ahead ws ≠ ")") (h : ∀ rows', Is1 (many ex [120, 120, 101] 6 ws rows') rest (S rows'.length)) : Is1 (form ex ("case" :: (W ++ ws)) rows) rest (bnd (T rows.length) S) := by
  have e : taken ("case" :: (W ++ ws)) = some (Str.ofString "case", W ++ ws) := by simp only [taken, if_neg (show ¬ Str.ofString "case" = "" by decide +kernel)]
  rw [form, e]
  simp only [if_true, if_neg (show ¬ Str.ofString "case" = "rec" by decide +kernel), if_neg (show ¬ Str.ofString "case" = "row" by decide +kernel)]
  refine Is1.bd (d.ok ws rows) (fun e => by rw [e]) fun a rows' e => ?_
  rw [e]
  simp only
  refine Is1.mp (h rows') ?_
  rw [many_succ ha]
  cases hp : pieces ex [120, 120, 101] ws rows' with
  | none => rfl
  | some u =>
    obtain ⟨ps, w2, r2⟩ := u
    simp only
    cases hq : many ex [120, 120, 101] 5 w2 r2 with
    | none => rfl
    | some v =>
      obtain ⟨qs, w3, r3⟩ := v
      simp only [reduceCtorEq, if_false]
      rfl
theorem form_pat (h0 : h ≠ "") (h1 : h ≠ "rec") (h2 : h ≠ "row") (h3 : h ≠ "case") (hp : patternOf h = some pat) (hx : Is1 (pieces ex pat ws rows) rest t) : Is1 (form ex (h :: ws) rows) rest t := by
  have e : taken (h :: ws) = some (h, ws) := by simp only [taken, if_neg h0]
  rw [form, e]
  simp only [if_neg h1, if_neg h2, if_neg h3, hp]
  exact Is1.mp hx (by cases pieces ex pat ws rows <;> rfl)
end
/-! good and bad readings -/
def Good (T : Tf) (m : Nat) : Prop := ∀ n, n + m ≤ 160 → T n = some (n + m)
def Bad (T : Tf) : Prop := ∀ n, T n = none
/-- a wrap's words, but the outer marks -/
def FormOk (A B : List Str) (e : Nat) : Prop := ∀ (ex : RE) (W : List Str) (T T0 : Tf), Den ex W T → Den ex ["0"] T0 → ∃ T' : Tf, (∀ (rest : List Str) (rows : Rows), Is1 (form ex (A ++ (W ++ (B ++ ((Str.ofString ")") :: rest)))) rows) (Str.ofString ")" :: rest) (T' rows.length)) ∧
  (∀ m, Good T m → Good T0 1 → Good T' (m + e)) ∧ (Bad T → Bad T')
section
variable {h x : Str}
/-- a head word of a pattern -/
structure Hw (h : Str) (pat : List Nat) : Prop where
  h0 : h ≠ ""
  h1 : h ≠ "rec"
  h2 : h ≠ "row"
  h3 : h ≠ "case"
  hp : patternOf h = some pat
def Nm (x : Str) : Prop := isName x = true ∧ x ≠ "" ∧ x ≠ ")"
theorem good1 {T : Tf} {m : Nat} (g : Good T m) : Good (fun n => bnd (T n) fun n => some n) (m + 0) := fun n hn => by
  show bnd (T n) _ = _
  rw [g n hn]
  rfl
theorem bad1 {T : Tf} {S : Tf} (g : Bad T) : Bad (fun n => bnd (T n) S) := fun n => by
  show bnd (T n) _ = _
  rw [g n]
  rfl
theorem bad2 {T : Tf} {S : Tf} (g : Bad S) : Bad (fun n => bnd (T n) S) := fun n => by
  show bnd (T n) _ = _
  cases T n with
  | none => rfl
  | some k => exact g k
theorem good2 {T S : Tf} {m k : Nat} (g : Good T m) (h : Good S k) : Good (fun n => bnd (T n) S) (m + k) := fun n hn => by
  show bnd (T n) _ = _
  rw [g n (by omega)]
  show S _ = _
  rw [h _ (by omega)]
  exact congrArg some (by omega)
theorem good0 : Good (fun n => some n) 0 := fun n _ => rfl
theorem Good.to {T : Tf} {m k : Nat} (g : Good T m) (e : m = k) : Good T k := e ▸ g
theorem den_at {ex : RE} {T0 : Tf} (d : Den ex ["0"] T0) {ws : List Str} {rows : Rows} : Is1 (ex ("0" :: ws) rows) ws (T0 rows.length) := d.ok ws rows
theorem px0 {ex : RE} {T0 S : Tf} {cs : List Nat} {ws rest : List Str} {rows : Rows} (d : Den ex ["0"] T0) (h : ∀ rows', Is1 (pieces ex cs ws rows') rest (S rows'.length)) : Is1 (pieces ex (101 :: cs) ("0" :: ws) rows) rest (bnd (T0 rows.length) S) := pieces_ex (W := ["0"]) d h
theorem fm_xe (H : Hw h [120, 101]) (hx : Nm x) : FormOk [h, x] [] 0 := fun ex W T T0 d d0 =>
  ⟨fun n => bnd (T n) fun n => some n, fun rest rows => (by simp only [List.cons_append, List.nil_append]; exact form_pat H.h0 H.h1 H.h2 H.h3 H.hp (pieces_nm hx.1 hx.2.1 (pieces_ex d fun _ => pieces_nil))), fun m g g0 => good2 g good0, fun b => bad1 b⟩
theorem fm_ex (H : Hw h [101, 120]) (hx : Nm x) : FormOk [h] [x] 0 := fun ex W T T0 d d0 =>
  ⟨fun n => bnd (T n) fun n => some n, fun rest rows => (by simp only [List.cons_append, List.nil_append]; exact form_pat H.h0 H.h1 H.h2 H.h3 H.hp (pieces_ex d fun _ => pieces_nm hx.1 hx.2.1 pieces_nil)), fun m g g0 => good2 g good0, fun b => bad1 b⟩
theorem fm_e (H : Hw h [101]) : FormOk [h] [] 0 := fun ex W T T0 d d0 =>
  ⟨fun n => bnd (T n) fun n => some n, fun rest rows => (by simp only [List.cons_append, List.nil_append]; exact form_pat H.h0 H.h1 H.h2 H.h3 H.hp (pieces_ex d fun _ => pieces_nil)), fun m g g0 => good2 g good0, fun b => bad1 b⟩
theorem fm_xe0 (H : Hw h [120, 101, 101]) (hx : Nm x) : FormOk [h, x] ["0"] 1 := fun ex W T T0 d d0 =>
  ⟨fun n => bnd (T n) fun n => bnd (T0 n) fun n => some n, fun rest rows => (by simp only [List.cons_append, List.nil_append]; exact form_pat H.h0 H.h1 H.h2 H.h3 H.hp (pieces_nm hx.1 hx.2.1 (pieces_ex d fun _ => px0 d0 fun _ => pieces_nil))), fun m g g0 => good2 g (good2 g0 good0), fun b => bad1 b⟩
theorem fm_x0e (H : Hw h [120, 101, 101]) (hx : Nm x) : FormOk [h, x, "0"] [] 1 := fun ex W T T0 d d0 =>
  ⟨fun n => bnd (T0 n) fun n => bnd (T n) fun n => some n, fun rest rows => (by simp only [List.cons_append, List.nil_append]; exact form_pat H.h0 H.h1 H.h2 H.h3 H.hp (pieces_nm hx.1 hx.2.1 (px0 d0 fun _ => pieces_ex d fun _ => pieces_nil))), fun m g g0 => (good2 g0 (good2 g good0)).to (by omega), fun b => bad2 (bad1 b)⟩
theorem fm_e0 (H : Hw h [101, 101]) : FormOk [h] ["0"] 1 := fun ex W T T0 d d0 =>
  ⟨fun n => bnd (T n) fun n => bnd (T0 n) fun n => some n, fun rest rows => (by simp only [List.cons_append, List.nil_append]; exact form_pat H.h0 H.h1 H.h2 H.h3 H.hp (pieces_ex d fun _ => px0 d0 fun _ => pieces_nil)), fun m g g0 => good2 g (good2 g0 good0), fun b => bad1 b⟩
theorem fm_0e (H : Hw h [101, 101]) : FormOk [h, "0"] [] 1 := fun ex W T T0 d d0 =>
  ⟨fun n => bnd (T0 n) fun n => bnd (T n) fun n => some n, fun rest rows => (by simp only [List.cons_append, List.nil_append]; exact form_pat H.h0 H.h1 H.h2 H.h3 H.hp (px0 d0 fun _ => pieces_ex d fun _ => pieces_nil)), fun m g g0 => (good2 g0 (good2 g good0)).to (by omega), fun b => bad2 (bad1 b)⟩
theorem fm_e00 (H : Hw h [101, 101, 101]) : FormOk [h] ["0", "0"] 2 := fun ex W T T0 d d0 =>
  ⟨fun n => bnd (T n) fun n => bnd (T0 n) fun n => bnd (T0 n) fun n => some n, fun rest rows => (by simp only [List.cons_append, List.nil_append]; exact form_pat H.h0 H.h1 H.h2 H.h3 H.hp (pieces_ex d fun _ => px0 d0 fun _ => px0 d0 fun _ => pieces_nil)), fun m g g0 => good2 g (good2 g0 (good2 g0 good0)), fun b => bad1 b⟩
theorem fm_0e0 (H : Hw h [101, 101, 101]) : FormOk [h, "0"] ["0"] 2 := fun ex W T T0 d d0 =>
  ⟨fun n => bnd (T0 n) fun n => bnd (T n) fun n => bnd (T0 n) fun n => some n, fun rest rows => (by simp only [List.cons_append, List.nil_append]; exact form_pat H.h0 H.h1 H.h2 H.h3 H.hp (px0 d0 fun _ => pieces_ex d fun _ => px0 d0 fun _ => pieces_nil)), fun m g g0 => (good2 g0 (good2 g (good2 g0 good0))).to (by omega), fun b => bad2 (bad1 b)⟩
theorem fm_00e (H : Hw h [101, 101, 101]) : FormOk [h, "0", "0"] [] 2 := fun ex W T T0 d d0 =>
  ⟨fun n => bnd (T0 n) fun n => bnd (T0 n) fun n => bnd (T n) fun n => some n, fun rest rows => (by simp only [List.cons_append, List.nil_append]; exact form_pat H.h0 H.h1 H.h2 H.h3 H.hp (px0 d0 fun _ => px0 d0 fun _ => pieces_ex d fun _ => pieces_nil)), fun m g g0 => (good2 g0 (good2 g0 (good2 g good0))).to (by omega), fun b => bad2 (bad2 (bad1 b))⟩
/-! rec, row, case -/
theorem nah {a : Str} (hx : Nm a) {r : List Str} : ahead (a :: r) ≠ ")" := hx.2.2
theorem n0 : ("0" : Str) ≠ ")" := by decide +kernel
theorem mrec {ex : RE} {W ws rest : List Str} {T S : Tf} {rows : Rows} {k : Nat} (hx : Nm x) (d : Den ex W T) (h : ∀ rows', Is1 (many ex [120, 101] k ws rows') rest (S rows'.length)) : Is1 (many ex [120, 101] (k + 1) (x :: (W ++ ws)) rows) rest (bnd (bnd (T rows.length) fun n => some n) S) :=
  many_go (nah hx) (pieces_nm hx.1 hx.2.1 (pieces_ex d fun _ => pieces_nil)) h
theorem mrec0 {ex : RE} {ws rest : List Str} {T S : Tf} {rows : Rows} {k : Nat} (hx : Nm x) (d : Den ex ["0"] T) (h : ∀ rows', Is1 (many ex [120, 101] k ws rows') rest (S rows'.length)) : Is1 (many ex [120, 101] (k + 1) (x :: "0" :: ws) rows) rest (bnd (bnd (T rows.length) fun n => some n) S) := mrec hx d h
theorem mrow {ex : RE} {W ws rest : List Str} {T S : Tf} {rows : Rows} {k : Nat} (d : Den ex W T) (h : ∀ rows', Is1 (many ex [101] k ws rows') rest (S rows'.length)) : Is1 (many ex [101] (k + 1) (W ++ ws) rows) rest (bnd (bnd (T rows.length) fun n => some n) S) :=
  many_go (ahead_den d) (pieces_ex d fun _ => pieces_nil) h
theorem mrow0 {ex : RE} {ws rest : List Str} {T S : Tf} {rows : Rows} {k : Nat} (d : Den ex ["0"] T) (h : ∀ rows', Is1 (many ex [101] k ws rows') rest (S rows'.length)) : Is1 (many ex [101] (k + 1) ("0" :: ws) rows) rest (bnd (bnd (T rows.length) fun n => some n) S) := mrow (W := ["0"]) d h
theorem mcase {ex : RE} {W ws rest : List Str} {T S : Tf} {rows : Rows} {k : Nat} {y : Str} (hx : Nm x) (hy : Nm y) (d : Den ex W T) (h : ∀ rows', Is1 (many ex [120, 120, 101] k ws rows') rest (S rows'.length)) : Is1 (many ex [120, 120, 101] (k + 1) (x :: y :: (W ++ ws)) rows) rest (bnd (bnd (T rows.length) fun n => some n) S) :=
  many_go (nah hx) (pieces_nm hx.1 hx.2.1 (pieces_nm hy.1 hy.2.1 (pieces_ex d fun _ => pieces_nil))) h
theorem mcase0 {ex : RE} {ws rest : List Str} {T S : Tf} {rows : Rows} {k : Nat} {y : Str} (hx : Nm x) (hy : Nm y) (d : Den ex ["0"] T) (h : ∀ rows', Is1 (many ex [120, 120, 101] k ws rows') rest (S rows'.length)) : Is1 (many ex [120, 120, 101] (k + 1) (x :: y :: "0" :: ws) rows) rest (bnd (bnd (T rows.length) fun n => some n) S) := mcase hx hy d h
theorem mfin {ex : RE} {pat : List Nat} {k : Nat} {rest : List Str} {rows : Rows} : Is1 (many ex pat k (")" :: rest) rows) (")" :: rest) (some rows.length) := many_fin rfl
theorem gS {T : Tf} {m : Nat} (g : Good T m) : Good (fun n => bnd (T n) fun n => some n) m := good2 g good0
variable {y : Str}
theorem fm_rec1 (hx : Nm x) : FormOk ["rec", x] [] 0 := fun ex W T T0 d d0 =>
  ⟨fun n => bnd (bnd (T n) fun n => some n) fun n => some n, fun rest rows => (by simp only [List.cons_append, List.nil_append]; exact form_rec (mrec hx d fun _ => mfin)), fun m g g0 => good2 (gS g) good0, fun b => bad1 (bad1 b)⟩
theorem fm_rec2 (hx : Nm x) (hy : Nm y) : FormOk ["rec", x, "0", y] [] 1 := fun ex W T T0 d d0 =>
  ⟨fun n => bnd (bnd (T0 n) fun n => some n) fun n => bnd (bnd (T n) fun n => some n) fun n => some n, fun rest rows => (by simp only [List.cons_append, List.nil_append]; exact form_rec (mrec0 hx d0 fun _ => mrec hy d fun _ => mfin)), fun m g g0 => (good2 (gS g0) (good2 (gS g) good0)).to (by omega), fun b => bad2 (bad1 (bad1 b))⟩
theorem fm_rec3 (hx : Nm x) (hy : Nm y) : FormOk ["rec", x] [y, "0"] 1 := fun ex W T T0 d d0 =>
  ⟨fun n => bnd (bnd (T n) fun n => some n) fun n => bnd (bnd (T0 n) fun n => some n) fun n => some n, fun rest rows => (by simp only [List.cons_append, List.nil_append]; exact form_rec (mrec hx d fun _ => mrec0 hy d0 fun _ => mfin)), fun m g g0 => (good2 (gS g) (good2 (gS g0) good0)).to (by omega), fun b => bad1 (bad1 b)⟩
theorem fm_row1 : FormOk ["row"] [] 0 := fun ex W T T0 d d0 =>
  ⟨fun n => bnd (bnd (T n) fun n => some n) fun n => some n, fun rest rows => (by simp only [List.cons_append, List.nil_append]; exact form_row (mrow d fun _ => mfin)), fun m g g0 => good2 (gS g) good0, fun b => bad1 (bad1 b)⟩
theorem fm_row2 : FormOk ["row", "0"] [] 1 := fun ex W T T0 d d0 =>
  ⟨fun n => bnd (bnd (T0 n) fun n => some n) fun n => bnd (bnd (T n) fun n => some n) fun n => some n, fun rest rows => (by simp only [List.cons_append, List.nil_append]; exact form_row (mrow0 d0 fun _ => mrow d fun _ => mfin)), fun m g g0 => (good2 (gS g0) (good2 (gS g) good0)).to (by omega), fun b => bad2 (bad1 (bad1 b))⟩
theorem fm_row3 : FormOk ["row"] ["0"] 1 := fun ex W T T0 d d0 =>
  ⟨fun n => bnd (bnd (T n) fun n => some n) fun n => bnd (bnd (T0 n) fun n => some n) fun n => some n, fun rest rows => (by simp only [List.cons_append, List.nil_append]; exact form_row (mrow d fun _ => mrow0 d0 fun _ => mfin)), fun m g g0 => (good2 (gS g) (good2 (gS g0) good0)).to (by omega), fun b => bad1 (bad1 b)⟩
variable {u v : Str}
theorem fm_case1 (hx : Nm x) (hy : Nm y) : FormOk ["case"] [x, y, "0"] 1 := fun ex W T T0 d d0 =>
  ⟨fun n => bnd (T n) fun n => bnd (bnd (T0 n) fun n => some n) fun n => some n, fun rest rows => (by simp only [List.cons_append, List.nil_append]; exact form_case d (nah hx) fun _ => mcase0 hx hy d0 fun _ => mfin), fun m g g0 => (good2 g (good2 (gS g0) good0)).to (by omega), fun b => bad1 b⟩
theorem fm_case2 (hx : Nm x) (hy : Nm y) : FormOk ["case", "0", x, y] [] 1 := fun ex W T T0 d d0 =>
  ⟨fun n => bnd (T0 n) fun n => bnd (bnd (T n) fun n => some n) fun n => some n, fun rest rows => (by simp only [List.cons_append, List.nil_append]; exact form_case (W := ["0"]) d0 (nah hx) fun _ => mcase hx hy d fun _ => mfin), fun m g g0 => (good2 g0 (good2 (gS g) good0)).to (by omega), fun b => bad2 (bad1 (bad1 b))⟩
theorem fm_case3 (hx : Nm x) (hy : Nm y) (hu : Nm u) (hv : Nm v) : FormOk ["case", "0", x, y, "0", u, v] [] 2 := fun ex W T T0 d d0 =>
  ⟨fun n => bnd (T0 n) fun n => bnd (bnd (T0 n) fun n => some n) fun n => bnd (bnd (T n) fun n => some n) fun n => some n, fun rest rows => (by simp only [List.cons_append, List.nil_append]; exact form_case (W := ["0"]) d0 (nah hx) fun _ => mcase0 hx hy d0 fun _ => mcase hu hv d fun _ => mfin), fun m g g0 => (good2 g0 (good2 (gS g0) (good2 (gS g) good0))).to (by omega), fun b => bad2 (bad2 (bad1 (bad1 b)))⟩
theorem fm_case4 (hx : Nm x) (hy : Nm y) (hu : Nm u) (hv : Nm v) : FormOk ["case", "0", x, y] [u, v, "0"] 2 := fun ex W T T0 d d0 =>
  ⟨fun n => bnd (T0 n) fun n => bnd (bnd (T n) fun n => some n) fun n => bnd (bnd (T0 n) fun n => some n) fun n => some n, fun rest rows => (by simp only [List.cons_append, List.nil_append]; exact form_case (W := ["0"]) d0 (nah hx) fun _ => mcase hx hy d fun _ => mcase0 hu hv d0 fun _ => mfin), fun m g g0 => (good2 g0 (good2 (gS g) (good2 (gS g0) good0))).to (by omega), fun b => bad2 (bad1 (bad1 b))⟩
end
end Fk
namespace Fk
open PySem L2
def TP (d : Nat) (T' : Tf) : Tf := fun k => if 24 < d ∨ 160 ≤ k then none else T' (k + 1)
theorem den_paren {n d : Nat} {W : List Str} {T' : Tf} (hF : ∀ (rest : List Str) (rows : Rows), Is1 (form (expr n (d + 1)) (W ++ (Str.ofString ")" :: rest)) rows) (Str.ofString ")" :: rest) (T' rows.length)) :
    Den (expr (n + 1) d) (Str.ofString "(" :: (W ++ [Str.ofString ")"])) (TP d T') := by
  refine ⟨⟨_, _, rfl, by decide +kernel⟩, fun rest rows => ?_⟩
  by_cases h1 : 24 < d ∨ 160 ≤ rows.length
  · rw [show TP d T' rows.length = none from if_pos h1, expr, if_pos h1]
    trivial
  · rw [show TP d T' rows.length = T' (rows.length + 1) from if_neg h1, expr, if_neg h1]
    have e : taken (Str.ofString "(" :: (W ++ [Str.ofString ")"]) ++ rest) = some (Str.ofString "(", W ++ (Str.ofString ")" :: rest)) := by
      simp only [taken, List.cons_append, List.append_assoc, List.nil_append, if_neg (show ¬ Str.ofString "(" = Str.ofString "" by decide +kernel)]
    rw [e]
    simp only [if_true]
    have h := hF rest (rows ++ [.none])
    rw [List.length_append, show ([PyData.none] : Rows).length = 1 from rfl] at h
    cases hf : form (expr n (d + 1)) (W ++ (Str.ofString ")" :: rest)) (rows ++ [.none]) with
    | none =>
      rw [hf] at h
      cases ht : T' (rows.length + 1) with
      | none => trivial
      | some k => rw [ht] at h; exact h.elim
    | some u =>
      rw [hf] at h
      cases ht : T' (rows.length + 1) with
      | none => rw [ht] at h; exact h.elim
      | some k =>
        rw [ht] at h
        obtain ⟨row, w2, r2⟩ := u
        obtain ⟨e1, e2⟩ := h
        have e1' : w2 = Str.ofString ")" :: rest := e1
        subst e1'
        have ew : want (Str.ofString ")") (Str.ofString ")" :: rest) = some rest := by
          simp only [want, taken, if_neg (show ¬ Str.ofString ")" = Str.ofString "" by decide +kernel), if_true]
        simp only [ew]
        exact ⟨rfl, by rw [List.length_set]; exact e2⟩
def T1 (n d : Nat) : Tf := fun k => if n = 0 ∨ 24 < d ∨ 160 ≤ k then none else some (k + 1)
theorem den_word {w : Str} (h0 : w ≠ "") (h1 : w ≠ "(") (h3 : w ≠ ")") (h2 : isNumber w = true ∨ isName w = true) (n d : Nat) : Den (expr n d) [w] (T1 n d) := by
  refine ⟨⟨_, _, rfl, h3⟩, fun rest rows => ?_⟩
  cases n with
  | zero => trivial
  | succ n =>
    by_cases hb : 24 < d ∨ 160 ≤ rows.length
    · rw [expr, if_pos hb, show T1 (n + 1) d rows.length = none from if_pos (.inr hb)]
      trivial
    · rw [expr, if_neg hb, show T1 (n + 1) d rows.length = some (rows.length + 1) from if_neg (fun h => h.elim (fun e => by cases e) hb)]
      have e : taken ([w] ++ rest) = some (w, rest) := by simp only [taken, List.cons_append, List.nil_append, if_neg h0]
      rw [e]
      simp only [if_neg h1]
      by_cases hn : isNumber w = true
      · rw [if_pos hn]
        exact ⟨rfl, List.length_append⟩
      · rw [if_neg hn, if_pos (h2.resolve_left hn)]
        exact ⟨rfl, List.length_append⟩
theorem t1_good {n d : Nat} (h : n + d = 25) (hd : d ≤ 24) : Good (T1 n d) 1 := fun k hk => if_neg (by omega)
theorem t1_bad {n d : Nat} (h : n + d = 25) (hd : 24 < d) : Bad (T1 n d) := fun k => if_pos (by omega)
theorem den0 (n d : Nat) : Den (expr n d) [Str.ofString "0"] (T1 n d) := den_word (by decide +kernel) (by decide +kernel) (by decide +kernel) (.inl (by decide +kernel)) n d
structure TextOk (t : Str) (k m : Nat) : Prop where
  len : t.length ≤ 20 + 60 * k
  den : ∀ n d, n + d = 25 → ∃ T, Den (expr n d) (wordsOf t.cps.toList) T ∧ (d + k ≤ 24 → Good T m) ∧ (24 < d + k → Bad T)
structure WrapOk (a b : Str) (e : Nat) : Prop where
  la : lastB a = true
  fb : firstB b = true
  len : a.length + b.length ≤ 60
  pos : 1 ≤ e
  fo : ∃ A B, wordsOf a.cps.toList = Str.ofString "(" :: A ∧ wordsOf b.cps.toList = B ++ [Str.ofString ")"] ∧ FormOk A B (e - 1)
theorem Den.none {W : List Str} {d : Nat} (h : ∃ w r, W = w :: r ∧ w ≠ ")") : Den (expr 0 d) W (fun _ => none) := ⟨h, fun _ _ => trivial⟩
theorem wrap_text {t a b : Str} {k m e : Nat} (h : TextOk t k m) (w : WrapOk a b e) : TextOk (a ++ t ++ b) (k + 1) (m + e) := by
  obtain ⟨A, B, ea, eb, fo⟩ := w.fo
  have ew : wordsOf (a ++ t ++ b).cps.toList = Str.ofString "(" :: (A ++ (wordsOf t.cps.toList ++ B) ++ [Str.ofString ")"]) := by
    rw [words_wrap (lastB_ok w.la) (firstB_ok w.fb), ea, eb]
    simp
  refine ⟨by rw [str_len, str_len]; have := w.len; have := h.len; omega, fun n d hd => ?_⟩
  rw [ew]
  cases n with
  | zero => exact ⟨_, Den.none ⟨_, _, rfl, by decide +kernel⟩, fun h => by omega, fun _ _ => rfl⟩
  | succ n =>
    obtain ⟨T, dT, gT, bT⟩ := h.den n (d + 1) (by omega)
    obtain ⟨T', f1, f2, f3⟩ := fo (expr n (d + 1)) _ T _ dT (den0 n (d + 1))
    refine ⟨_, den_paren (T' := T') (fun rest rows => ?_), fun hk => ?_, fun hk j => ?_⟩
    · have := f1 rest rows
      simpa only [List.append_assoc, List.cons_append, List.nil_append] using this
    · have g := f2 m (gT (by omega)) (t1_good (by omega) (by omega))
      intro j hj
      have p := w.pos
      rw [show TP d T' j = T' (j + 1) from if_neg (by omega), g (j + 1) (by omega)]
      exact congrArg some (by omega)
    · have b' := f3 (bT (by omega))
      unfold TP
      split
      · rfl
      · exact b' _
theorem text_word {w : Str} (hl : w.length ≤ 20) (he : wordsOf w.cps.toList = [w]) (h0 : w ≠ "") (h1 : w ≠ "(") (h3 : w ≠ ")") (h2 : isNumber w = true ∨ isName w = true) : TextOk w 0 1 :=
  ⟨by omega, fun n d hd => ⟨_, by rw [he]; exact den_word h0 h1 h3 h2 n d, fun h => t1_good hd (by omega), fun h => t1_bad hd (by omega)⟩⟩
theorem text_empty {w h : Str} (hl : w.length ≤ 20) (he : wordsOf w.cps.toList = Str.ofString "(" :: ([h] ++ [Str.ofString ")"])) (hF : ∀ (ex : RE) (rest : List Str) (rows : Rows), Is1 (form ex (h :: Str.ofString ")" :: rest) rows) (Str.ofString ")" :: rest) (some rows.length)) : TextOk w 0 1 := by
  refine ⟨by omega, fun n d hd => ?_⟩
  rw [he]
  cases n with
  | zero => exact ⟨_, Den.none ⟨_, _, rfl, by decide +kernel⟩, fun h => by omega, fun _ _ => rfl⟩
  | succ n =>
    refine ⟨_, den_paren (T' := fun k => some k) (fun rest rows => hF _ rest rows), fun hk j hj => ?_, fun hk j => if_pos (by omega)⟩
    exact if_neg (by omega)
def seedsL : List Str := ["7", "x1", "(row)", "(rec)"]
theorem seeds_ok : ∀ s ∈ seedsL, TextOk s 0 1 := by
  intro s hs
  simp only [seedsL, List.mem_cons, List.not_mem_nil, or_false] at hs
  rcases hs with rfl | rfl | rfl | rfl
  · exact text_word (by decide) (by decide +kernel) (by decide +kernel) (by decide +kernel) (by decide +kernel) (.inl (by decide +kernel))
  · exact text_word (by decide) (by decide +kernel) (by decide +kernel) (by decide +kernel) (by decide +kernel) (.inr (by decide +kernel))
  · exact text_empty (h := Str.ofString "row") (by decide) (by decide +kernel) fun ex rest rows => form_row mfin
  · exact text_empty (h := Str.ofString "rec") (by decide) (by decide +kernel) fun ex rest rows => form_rec mfin
/-! the law's own wraps -/
def trip : PyData → Option (Str × Str × Nat)
  | .tuple [.str a, .str b, .int (.ofNat e)] => some (a, b, e)
  | _ => none
theorem trip_eq {d : PyData} {a b : Str} {e : Nat} (h : trip d = some (a, b, e)) : d = .tuple [.str a, .str b, .int (e : Int)] := by
  unfold trip at h
  split at h
  · cases h; rfl
  · cases h
theorem nm_ok {x : Str} (h : (isName x && decide (x ≠ "") && decide (x ≠ ")")) = true) : Nm x := by
  simp only [Bool.and_eq_true, decide_eq_true_eq] at h
  exact ⟨h.1.1, h.1.2, h.2⟩
theorem hw_ok {h : Str} {pat : List Nat} (e : (decide (h ≠ "") && decide (h ≠ "rec") && decide (h ≠ "row") && decide (h ≠ "case") && decide (patternOf h = some pat)) = true) : Hw h pat := by
  simp only [Bool.and_eq_true, decide_eq_true_eq] at e
  exact ⟨e.1.1.1.1, e.1.1.1.2, e.1.1.2, e.1.2, e.2⟩
theorem wrap_ok {a b : Str} {e : Nat} (A B : List Str) (fo : FormOk A B (e - 1)) (h : (lastB a && firstB b && decide (a.length + b.length ≤ 60) && decide (1 ≤ e) && decide (wordsOf a.cps.toList = Str.ofString "(" :: A) && decide (wordsOf b.cps.toList = B ++ [Str.ofString ")"])) = true) : WrapOk a b e := by
  simp only [Bool.and_eq_true, decide_eq_true_eq] at h
  exact ⟨h.1.1.1.1.1, h.1.1.1.1.2, h.1.1.1.2, h.1.1.2, A, B, h.1.2, h.2, fo⟩
theorem forms_ok : ∀ d ∈ formsD, ∃ (a b : Str) (e : Nat), d = .tuple [.str a, .str b, .int (e : Int)] ∧ WrapOk a b e ∧ e ≤ 3 := by
  have nx : Nm "x" := nm_ok (by decide +kernel)
  have na : Nm "a" := nm_ok (by decide +kernel)
  have nb : Nm "b" := nm_ok (by decide +kernel)
  have nt : Nm "t" := nm_ok (by decide +kernel)
  have nu : Nm "u" := nm_ok (by decide +kernel)
  have ny : Nm "y" := nm_ok (by decide +kernel)
  have key (A B : List Str) {a b : Str} {e : Nat} (fo : FormOk A B (e - 1)) (h) (he : e ≤ 3) {d : PyData} (hd : d = .tuple [.str a, .str b, .int (e : Int)]) : ∃ (a b : Str) (e : Nat), d = .tuple [.str a, .str b, .int (e : Int)] ∧ WrapOk a b e ∧ e ≤ 3 := ⟨a, b, e, hd, wrap_ok A B fo h, he⟩
  intro d hd
  simp only [formsD, oneF, twoF, threeF, fiveW, wordF, pr, addN, List.flatMap_cons, List.flatMap_nil, List.map_cons, List.map_nil, List.map_append, List.cons_append, List.nil_append, List.append_nil, List.mem_cons, List.not_mem_nil, or_false] at hd
  rcases hd with rfl | rfl | rfl | rfl | rfl | rfl | rfl | rfl | rfl | rfl | rfl | rfl | rfl | rfl | rfl | rfl | rfl | rfl | rfl | rfl | rfl | rfl | rfl | rfl | rfl | rfl | rfl | rfl | rfl
  · exact key ["fn", "x"] [] (e := 1) (fm_xe (hw_ok (by decide +kernel)) nx) (by decide +kernel) (by decide) rfl
  · exact key ["get"] ["a"] (e := 1) (fm_ex (hw_ok (by decide +kernel)) na) (by decide +kernel) (by decide) rfl
  · exact key ["tag", "t"] [] (e := 1) (fm_xe (hw_ok (by decide +kernel)) nt) (by decide +kernel) (by decide) rfl
  · exact key ["rec", "a"] [] (e := 1) (fm_rec1 na) (by decide +kernel) (by decide) rfl
  · exact key ["row"] [] (e := 1) (fm_row1) (by decide +kernel) (by decide) rfl
  · exact key ["size"] [] (e := 1) (fm_e (hw_ok (by decide +kernel))) (by decide +kernel) (by decide) rfl
  · exact key ["let", "x"] ["0"] (e := 2) (fm_xe0 (hw_ok (by decide +kernel)) nx) (by decide +kernel) (by decide) rfl
  · exact key ["let", "x", "0"] [] (e := 2) (fm_x0e (hw_ok (by decide +kernel)) nx) (by decide +kernel) (by decide) rfl
  · exact key ["rec", "a", "0", "b"] [] (e := 2) (fm_rec2 na nb) (by decide +kernel) (by decide) rfl
  · exact key ["rec", "a"] ["b", "0"] (e := 2) (fm_rec3 na nb) (by decide +kernel) (by decide) rfl
  · exact key ["row", "0"] [] (e := 2) (fm_row2) (by decide +kernel) (by decide) rfl
  · exact key ["row"] ["0"] (e := 2) (fm_row3) (by decide +kernel) (by decide) rfl
  · exact key ["case"] ["t", "x", "0"] (e := 2) (fm_case1 nt nx) (by decide +kernel) (by decide) rfl
  · exact key ["case", "0", "t", "x"] [] (e := 2) (fm_case2 nt nx) (by decide +kernel) (by decide) rfl
  · exact key ["call"] ["0"] (e := 2) (fm_e0 (hw_ok (by decide +kernel))) (by decide +kernel) (by decide) rfl
  · exact key ["call", "0"] [] (e := 2) (fm_0e (hw_ok (by decide +kernel))) (by decide +kernel) (by decide) rfl
  · exact key ["join"] ["0"] (e := 2) (fm_e0 (hw_ok (by decide +kernel))) (by decide +kernel) (by decide) rfl
  · exact key ["join", "0"] [] (e := 2) (fm_0e (hw_ok (by decide +kernel))) (by decide +kernel) (by decide) rfl
  · exact key ["add"] ["0"] (e := 2) (fm_e0 (hw_ok (by decide +kernel))) (by decide +kernel) (by decide) rfl
  · exact key ["add", "0"] [] (e := 2) (fm_0e (hw_ok (by decide +kernel))) (by decide +kernel) (by decide) rfl
  · exact key ["sub"] ["0"] (e := 2) (fm_e0 (hw_ok (by decide +kernel))) (by decide +kernel) (by decide) rfl
  · exact key ["sub", "0"] [] (e := 2) (fm_0e (hw_ok (by decide +kernel))) (by decide +kernel) (by decide) rfl
  · exact key ["less"] ["0"] (e := 2) (fm_e0 (hw_ok (by decide +kernel))) (by decide +kernel) (by decide) rfl
  · exact key ["less", "0"] [] (e := 2) (fm_0e (hw_ok (by decide +kernel))) (by decide +kernel) (by decide) rfl
  · exact key ["at"] ["0", "0"] (e := 3) (fm_e00 (hw_ok (by decide +kernel))) (by decide +kernel) (by decide) rfl
  · exact key ["at", "0"] ["0"] (e := 3) (fm_0e0 (hw_ok (by decide +kernel))) (by decide +kernel) (by decide) rfl
  · exact key ["at", "0", "0"] [] (e := 3) (fm_00e (hw_ok (by decide +kernel))) (by decide +kernel) (by decide) rfl
  · exact key ["case", "0", "t", "x", "0", "u", "y"] [] (e := 3) (fm_case3 nt nx nu ny) (by decide +kernel) (by decide) rfl
  · exact key ["case", "0", "t", "x"] ["u", "y", "0"] (e := 3) (fm_case4 nt nx nu ny) (by decide +kernel) (by decide) rfl
/-! what read says of such a text -/
theorem read_text {t : Str} {k m : Nat} (h : TextOk t k m) (hm : m ≤ 160) : (k ≤ 23 → ∃ (p : Nat) (rows : Rows), readM (wordsOf ((Str.ofString "(def a " ++ t) ++ Str.ofString ")").cps.toList) = some ([Str.ofString "a"], [(p : Int)], rows) ∧ rows.length = m) ∧
    (23 < k → readM (wordsOf ((Str.ofString "(def a " ++ t) ++ Str.ofString ")").cps.toList) = none) := by
  have ew : wordsOf ((Str.ofString "(def a " ++ t) ++ Str.ofString ")").cps.toList = Str.ofString "(" :: Str.ofString "def" :: Str.ofString "a" :: (wordsOf t.cps.toList ++ [Str.ofString ")"]) := by
    rw [words_wrap (lastB_ok (by decide +kernel)) (firstB_ok (by decide +kernel)), show wordsOf (Str.ofString "(def a ").cps.toList = [Str.ofString "(", Str.ofString "def", Str.ofString "a"] by decide +kernel, show wordsOf (Str.ofString ")").cps.toList = [Str.ofString ")"] by decide +kernel]
    rfl
  rw [ew]
  obtain ⟨T, dT, gT, bT⟩ := h.den 24 1 rfl
  have i1 := dT.ok [Str.ofString ")"] []
  have q1 : want (Str.ofString "(") (Str.ofString "(" :: Str.ofString "def" :: Str.ofString "a" :: (wordsOf t.cps.toList ++ [Str.ofString ")"])) = some (Str.ofString "def" :: Str.ofString "a" :: (wordsOf t.cps.toList ++ [Str.ofString ")"])) := by
    simp only [want, taken, if_neg (show ¬ Str.ofString "(" = Str.ofString "" by decide +kernel), if_true]
  have q2 : want (Str.ofString "def") (Str.ofString "def" :: Str.ofString "a" :: (wordsOf t.cps.toList ++ [Str.ofString ")"])) = some (Str.ofString "a" :: (wordsOf t.cps.toList ++ [Str.ofString ")"])) := by
    simp only [want, taken, if_neg (show ¬ Str.ofString "def" = Str.ofString "" by decide +kernel), if_true]
  have q3 : named (Str.ofString "a" :: (wordsOf t.cps.toList ++ [Str.ofString ")"])) = some (Str.ofString "a", wordsOf t.cps.toList ++ [Str.ofString ")"]) := by
    simp only [named, taken, if_neg (show ¬ Str.ofString "a" = Str.ofString "" by decide +kernel), show isName (Str.ofString "a") = true by decide +kernel, if_true]
  have q4 : want (Str.ofString ")") [Str.ofString ")"] = some [] := by decide +kernel
  have key : defs 12 (Str.ofString "(" :: Str.ofString "def" :: Str.ofString "a" :: (wordsOf t.cps.toList ++ [Str.ofString ")"])) [] = (match expr 24 1 (wordsOf t.cps.toList ++ [Str.ofString ")"]) [] with
      | none => none
      | some (p, ws, rows) => (match want (Str.ofString ")") ws with
        | none => none
        | some ws => (match defs 11 ws rows with
          | none => none
          | some (xs, ps, rows) => some (Str.ofString "a" :: xs, (p : Int) :: ps, rows)))) := by
    rw [defs_succ (show ¬ ahead (Str.ofString "(" :: _) = Str.ofString "" from (by decide +kernel : ¬ Str.ofString "(" = Str.ofString ""))]
    simp only [q1, q2, q3]
    try rfl
  refine ⟨fun hk => ?_, fun hk => ?_⟩
  · have g := gT (by omega) 0 (by omega)
    rw [show ([] : Rows).length = 0 from rfl, g] at i1
    cases he : expr 24 1 (wordsOf t.cps.toList ++ [Str.ofString ")"]) [] with
    | none => rw [he] at i1; exact i1.elim
    | some u =>
      obtain ⟨p, w2, r2⟩ := u
      rw [he] at i1 key
      obtain ⟨e1, e2⟩ := i1
      have e1' : w2 = [Str.ofString ")"] := e1
      subst e1'
      have ed : defs 11 [] r2 = some ([], [], r2) := defs_end rfl
      simp only [q4, ed] at key
      exact ⟨p, r2, by unfold readM; rw [key]; rfl, by rw [show r2.length = 0 + m from e2]; omega⟩
  · rw [show ([] : Rows).length = 0 from rfl, bT (by omega) 0] at i1
    cases he : expr 24 1 (wordsOf t.cps.toList ++ [Str.ofString ")"]) [] with
    | none => rw [he] at key; unfold readM; rw [key]
    | some u => rw [he] at i1; exact i1.elim
end Fk
namespace Fk
open PySem L2
local macro_rules | `(tactic| walk_at "ev") => `(tactic| try simp only [cx_K, L2.start, List.map_cons, List.map_nil, List.length_cons, List.length_nil, Nat.reduceAdd, Nat.reduceSub, Nat.reduceLT, List.replicate_succ, List.replicate_zero, List.cons_append, List.nil_append, Nat.zero_add, Nat.add_zero,
  tSeq, tAsg, tLst, tTup, tNil, tCons, tC, tOp, tUn, gName, tNext, tRet, tRetN, tIfS, tDrop, tCB, tCall, tMeth, tMake, tIf, tAnd, tOr, tNot, tAndV, tOrV, tNotV, qFor, qLc, tYes, wStr, wLst, wTup, wRng1, wRng2, wEnum, wZip, wRev, qVar, asB_bl, qAdd_ii, qAdd_ss, qSub_ii, qMul_ii, qMod_ii, qDiv_ii, qPow_ii, qCmpI_ii, qEq_ii, qEq_ss, qEq_bb, qIsN_n, qIsN_i, qIsN_s, qIsN_b, qIsN_r, qInS_s, qInT_r, qIx_s, qIx_r, qT, qIAdd_ii, qIAdd_ss, qLen_s, qLen_r, qAbs_i, qMax2_ii, qMin2_ii, qInt_i, qInt_b, qInt_s, qStrC_i, qStrC_s, qList_r, qTuple_r, tupleAs_l, tupleAs_t, qDivmod_ii, qAll_r, qAny_r, qSl_s, tSl, tNoPart, tPart, qPar, qPar3,
  qApp, qExt, qPop, isLst, qFld, qSetF, qAugF, qAug, qgTup, qgCons, qgNil, gSub, qSetL, yv, wipe,
  List.getElem?_cons_zero, List.getElem?_cons_succ, List.set_cons_zero, List.set_cons_succ, upd_same, lstOf, tupOf, seqOf, at0, at1, at2, at3, ix0, ix1, ix2, sz0, sz1, sz2, sz3, sz4, sz5, sz6, sz7, sz8, sz15, true_and, and_true, and_self, if_true, if_false, if_pos,
  beq_t, beq_f, decide_eq_true_eq, decide_eq_false_iff_not, Bool.not_eq_true', Bool.not_eq_true, Bool.not_eq_false, Bool.not_true, Bool.not_false, Bool.false_eq_true, reduceCtorEq, ite_not, if_true, if_false, reduceIte, V.int.injEq, V.str.injEq, V.bl.injEq, V.ref.injEq, List.append_nil, forall_eq', exists_eq_left, exists_eq_left'])
local macro_rules | `(tactic| walk_at "evl") => `(tactic| try simp only [cx_K, L2.start, List.map_cons, List.map_nil, List.length_cons, List.length_nil, Nat.reduceAdd, Nat.reduceSub, Nat.reduceLT, List.replicate_succ, List.replicate_zero, List.cons_append, List.nil_append, Nat.zero_add, Nat.add_zero,
  tSeq, tAsg, tLst, tTup, tNil, tCons, tC, tOp, tUn, gName, tNext, tRet, tRetN, tIfS, tDrop, tCB, tCall, tMeth, tMake, tIf, tAnd, tOr, tNot, tAndV, tOrV, tNotV, qFor, qLc, tYes, wStr, wLst, wTup, wRng1, wRng2, wEnum, wZip, wRev, qVar, asB_bl, qAdd_ii, qAdd_ss, qSub_ii, qMul_ii, qMod_ii, qDiv_ii, qPow_ii, qCmpI_ii, qEq_ii, qEq_ss, qEq_bb, qIsN_n, qIsN_i, qIsN_s, qIsN_b, qIsN_r, qInS_s, qInT_r, qIx_s, qIx_r, qT, qIAdd_ii, qIAdd_ss, qLen_s, qLen_r, qAbs_i, qMax2_ii, qMin2_ii, qInt_i, qInt_b, qInt_s, qStrC_i, qStrC_s, qList_r, qTuple_r, tupleAs_l, tupleAs_t, qDivmod_ii, qAll_r, qAny_r, qSl_s, tSl, tNoPart, tPart, qPar, qPar3,
  qApp, qExt, qPop, isLst, qFld, qSetF, qAugF, qAug, qgTup, qgCons, qgNil, gSub, qSetL, yv, wipe,
  List.getElem?_cons_zero, List.getElem?_cons_succ, List.set_cons_zero, List.set_cons_succ, upd_same, lstOf, tupOf, seqOf, at0, at1, at2, at3, ix0, ix1, ix2, sz0, sz1, sz2, sz3, sz4, sz5, sz6, sz7, sz8, sz15, true_and, and_true, and_self, if_true, if_false, if_pos,
  beq_t, beq_f, decide_eq_true_eq, decide_eq_false_iff_not, Bool.not_eq_true', Bool.not_eq_true, Bool.not_eq_false, Bool.not_true, Bool.not_false, Bool.false_eq_true, reduceCtorEq, ite_not, if_true, if_false, reduceIte, V.int.injEq, V.str.injEq, V.bl.injEq, V.ref.injEq, List.append_nil, forall_eq', exists_eq_left, exists_eq_left', pfs_rows, tCallS, *])
section
variable {P : Program} {w : World} {K : PySem.W.Frag} {mg : Str → Option Value} {base : Heap} {f : Addr} {fd : FuncData} {C_Program CB : Addr}
theorem form_at {H H' : Hp} {us : List V} {i : Nat} {a : Addr} {n : Nat} (hb : BoxAt H a n) (t : Tps H us formsD) (hi : i < us.length) (b : But [a] H H') : ∃ (q : Addr) (A B : Str) (e : Nat), us[i]? = some (.ref q) ∧ H' q = some (.tup [.str A, .str B, .int (e : Int)]) ∧ WrapOk A B e ∧ e ≤ 3 := by
  obtain ⟨v, d, e1, e2, h⟩ := tps_at t hi
  obtain ⟨A, B, e, rfl, w, he⟩ := forms_ok d (List.mem_of_getElem? e2)
  cases h with
  | @tup q xs _ hq hx =>
    cases hx with
    | cons h1 hx =>
    cases hx with
    | cons h2 hx =>
    cases hx with
    | cons h3 hx =>
    cases hx
    cases h1
    cases h2
    cases h3
    refine ⟨q, A, B, e, e1, b _ _ ?_ hq, w, he⟩
    obtain ⟨b0, b1, b2, h1, _⟩ := hb
    simp only [List.mem_singleton]
    rintro rfl
    rw [h1] at hq
    cases hq
theorem but_same {S : List Addr} {H H' : Hp} (s : Same H H') : But S H H' := fun b o _ e => s b o e
theorem but_tk {H H' : Hp} {a : Addr} {n : Nat} (hb : BoxAt H a n) (b : But [a] H H') : TK H H' := fun c xs e => b c _ (by
  obtain ⟨b0, b1, b2, h1, _⟩ := hb
  simp only [List.mem_singleton]
  rintro rfl
  rw [h1] at e
  cases e) e
def sp_right : Sp := fun vs H Q _ => ∃ a : Addr, vs = [.ref a] ∧ BoxAt H a 0 ∧ ∀ H', But [a] H H' → Q (.bl true) H'
theorem ok_right (F : Fun K "_law_right" "_law_right" s_law_right f fd) (c__law_forms : Cal P w K mg base CX0 1 "_law_forms" [] sp_forms) (c__law_take : Cal P w K mg base CX0 1 "_law_take" ["box", "size"] (sp_take K)) (z_len : mg "len" = none) (z_range : mg "range" = none)
    (c_read : Cal P w K mg base (L2.CX P w) 110 "read" ["text"] (sp_read C_Program CB)) (e_BadText : ExcB K mg "BadText" CB) (hex : PySem.W.exmOne K (.ref CB) (.ref CB) = some true) (cl_Program : Cls K C_Program) (n_Program_rows : NoAttr K C_Program "rows") :
    FnOk P w K mg base CX0 112 f fd ["box"] sp_right := by
  refine F.ok (k := 111) sc_law_right (fun vs H Q E h => by obtain ⟨_, rfl, _⟩ := h; rfl) (fun cdv A outer s H vs Q E hr h => ?_)
  have hu64 := hr.units
  refine ⟨_, (pss_cons (xpar3 (i := 1) (j := 2) (l := 3) sc_law_right.nd rfl rfl rfl (by decide) (by decide) (by decide) rfl rfl rfl (pa_cons (pe_c0 c__law_forms hr) (pa_cons (pe_op yadd pe_int (pe_c c__law_take hr (pa_cons (xv 0) (pa_cons pe_int pa_nil)))) (pa_cons (pe_cmpR (yeq hu64) (pe_c c__law_take hr (pa_cons (xv 0) (pa_cons pe_int pa_nil))) pe_int (nomark _)) pa_nil))) (by rfl))
  (pss_cons (xpar3 (i := 4) (j := 5) (l := 6) sc_law_right.nd rfl rfl rfl (by decide) (by decide) (by decide) rfl rfl rfl (pa_cons (pe_ix yix (pe_lst (pa_cons pe_str (pa_cons pe_str (pa_cons pe_str (pa_cons pe_str pa_nil))))) (pe_c c__law_take hr (pa_cons (xv 0) (pa_cons pe_int pa_nil))) (fun _ _ => rfl)) (pa_cons pe_int (pa_cons (pe_c c__law_take hr (pa_cons (xv 0) (pa_cons (pe_callB ylen (by rfl) z_len PySem.boot_len (pa_cons (xv 1) pa_nil)) pa_nil))) pa_nil))) (by rfl))
  (pss_cons (xfor PassesOwn.never (xirng1 z_range (xv 2)) (pg_name (i := 7) sc_law_right.nd rfl (Or.inl rfl))
  (pss_cons (ps_set (i := 6) sc_law_right.nd rfl (Or.inl rfl) (pe_ifExp (xtv (xv 3)) (xv 6) (pe_c c__law_take hr (pa_cons (xv 0) (pa_cons (pe_callB ylen (by rfl) z_len PySem.boot_len (pa_cons (xv 1) pa_nil)) pa_nil)))))
  (pss_cons (ps_asg (pe_ix yix (xv 1) (xv 6) (fun _ _ => rfl)) (xgtup (n := 3) (xgcons (pg_name (i := 8) sc_law_right.nd rfl (Or.inl rfl)) (xgcons (pg_name (i := 9) sc_law_right.nd rfl (Or.inl rfl)) (xgcons (pg_name (i := 10) sc_law_right.nd rfl (Or.inl rfl)) xgnil)))))
  (pss_one (xpar (i := 4) (j := 5) sc_law_right.nd rfl rfl (by decide) rfl rfl (pa_cons (pe_op yadd (pe_op yadd (xv 8) (xv 4)) (xv 9)) (pa_cons (pe_op yadd (xv 5) (xv 10)) pa_nil)) (by rfl))))))
  (pss_cons (ps_asg (pe_tup (pa_cons pe_non (pa_cons pe_bl pa_nil))) (xgtup (n := 2) (xgcons (pg_name (i := 11) sc_law_right.nd rfl (Or.inl rfl)) (xgcons (pg_name (i := 12) sc_law_right.nd rfl (Or.inl rfl)) xgnil))))
  (pss_cons (ps_try_only rfl rfl ⟨rfl, by decide, .inl e_BadText.g⟩ takes0 (fun W pn xe tk _ => (pss_one (ps_set (i := 11) sc_law_right.nd rfl (Or.inl rfl) (pe_cS c_read hr tk (pa_cons (pe_op yadd (pe_op yadd pe_str (xv 4)) pe_str) pa_nil))))) (fun a oe cls d pn _ _ => (pss_one (ps_set (i := 12) sc_law_right.nd rfl (Or.inl rfl) pe_bl))))
  (pss_cons (ps_if (xt ygt (xv 2) pe_int (nomark _)) (pss_one (ps_ret (xv 12))) pss_nil)
  (pss_one (ps_ret (pe_and (pe_not (xv 12)) (pe_one (pe_cmpR (yeq hu64) (pe_callB ylen (by rfl) z_len PySem.boot_len (pa_cons (xfld (C := C_Program) cl_Program n_Program_rows (xv 11)) pa_nil)) (xv 5) (nomark _)))))))))))), ?_⟩
  obtain ⟨a, rfl, hb, q⟩ := h
  walk_at "evl"
  refine ⟨rfl, fun p0 H0 us s0 f0 e0 t0 => ?_⟩
  have hb0 : BoxAt H0 a 0 := by obtain ⟨b0, b1, b2, h1, h2⟩ := hb; exact ⟨b0, b1, b2, s0 _ _ h1, h2⟩
  have hpa : p0 ∉ [a] := by
    obtain ⟨b0, b1, b2, h1, h2⟩ := hb
    simp only [List.mem_singleton]
    exact (ne_of_none h1 f0).symm
  refine ⟨a, 8, 0, rfl, hb0, by decide, by decide, by decide, fun r1 H1 b1 hb1 hr1 hr1' => ?_⟩
  walk_at "evl"
  refine ⟨a, 2, 1, rfl, hb1, by decide, by decide, by decide, fun r2 H2 b2 hb2 hr2 hr2' => ?_⟩
  walk_at "evl"
  intro p1 f1
  have hb3 : BoxAt (upd H2 p1 (HO.lst [V.str (Str.ofString "7"), V.str (Str.ofString "x1"), V.str (Str.ofString "(row)"), V.str (Str.ofString "(rec)")])) a 2 := by obtain ⟨b0, b1, b2, h1, h2⟩ := hb2; exact ⟨b0, b1, b2, same_new f1 _ _ _ h1, h2⟩
  have e2 : H2 p0 = some (.lst us) := b2 _ _ hpa (b1 _ _ hpa e0)
  have hp1 : p1 ∉ [a] := by
    obtain ⟨b0, b1, b2, h1, h2⟩ := hb2
    simp only [List.mem_singleton]
    exact (ne_of_none h1 f1).symm
  have b02 : But [a] H (upd H2 p1 (HO.lst [V.str (Str.ofString "7"), V.str (Str.ofString "x1"), V.str (Str.ofString "(row)"), V.str (Str.ofString "(rec)")])) := (((but_same s0).trans b1).trans b2).trans (But.new f1 _)
  have b23 : But [a] H0 (upd H2 p1 (HO.lst [V.str (Str.ofString "7"), V.str (Str.ofString "x1"), V.str (Str.ofString "(row)"), V.str (Str.ofString "(rec)")])) := (b1.trans b2).trans (But.new f1 _)
  refine ⟨a, 4, 2, rfl, hb3, by decide, by decide, by decide, fun r3 H3 b3 hb4 hr3 hr3' => ?_⟩
  have e31 : H3 p1 = some (.lst (seedsL.map V.str)) := b3 _ _ hp1 upd_same
  have b03 := b02.trans b3
  have b13 := b23.trans b3
  have e30 : H3 p0 = some (.lst us) := b13 _ _ hpa e0
  have hul : us.length = 29 := t0.length
  walk_at "evl"
  obtain ⟨n3, rfl⟩ := Int.eq_ofNat_of_zero_le hr3
  have hn3 : n3 < seedsL.length := by show n3 < 4; omega
  rw [atI_nat (j := n3) (v := V.str seedsL[n3]) (by rw [List.getElem?_map, List.getElem?_eq_getElem hn3]; rfl)]
  have hseed := seeds_ok _ (List.getElem_mem hn3)
  generalize seedsL[n3] = sd at hseed
  walk_at "evl"
  refine ⟨a, 29, 3, rfl, hb4, by decide, by decide, by decide, fun r4 H4 b4 hb5 hr4 hr4' => ?_⟩
  obtain ⟨n1, rfl⟩ := Int.eq_ofNat_of_zero_le hr1
  walk_at "evl"
  refine ⟨by omega, by omega, ?_⟩
  have b04 := b03.trans b4
  have b14 := b13.trans b4
  refine ⟨Int, _, _, fun r σ H' => ∃ (i : Nat) (t : Str) (pl : Nat) (ai : Nat) (c : Nat) (x7 x8 x9 x10 : Option V), i + r.length = 20 + n1 ∧ σ = [some (.ref a), some (.ref p0), some (.int (20 + (n1 : Int))), some (.bl (decide (r2 = 0))), some (.str t), some (.int (pl : Int)), some (.int (ai : Int)), x7, x8, x9, x10, none, none] ∧ But [a] H0 H' ∧ But [a] H H' ∧ BoxAt H' a c ∧ c ≤ 4 + i ∧ TextOk t i pl ∧ pl ≤ 1 + 3 * i ∧ ai < 29, rfl, ?_, fun _ _ _ _ => trivial, ?_, ?_⟩
  · obtain ⟨n4, rfl⟩ := Int.eq_ofNat_of_zero_le hr4
    refine ⟨0, sd, 1, n4, 4, none, none, none, none, ?_, rfl, b14, b04, hb5, by decide, hseed, by decide, by omega⟩
    rw [upto_len]
    omega
  · rintro y r σ H' ⟨i, t, pl, ai, c, x7, x8, x9, x10, hi, rfl, c1, c0, hb6, hc, ht, hpl, hai⟩
    rw [List.length_cons] at hi
    have e30' := c1 _ _ hpa e0
    walk_at "evl"
    have tl := ht.len
    split
    · obtain ⟨qa, A, B, ee, hq1, hq2, hw, he⟩ := form_at hb0 t0 (by omega : ai < us.length) c1
      rw [atI_nat hq1]
      walk_at "evl"
      have wl := hw.len
      exact ⟨sz_of (by omega), sz_of (by rw [str_len]; omega), i + 1, A ++ t ++ B, pl + ee, ai, c, _, _, _, _, by omega, rfl, hb6, by omega, wrap_text ht hw, by omega, hai⟩
    · refine ⟨a, 29, c, rfl, hb6, by omega, by decide, by decide, fun r5 H5 b5 hb7 hr5 hr5' => ?_⟩
      have c2 := c1.trans b5
      have c3 := c0.trans b5
      have e50' := c2 _ _ hpa e0
      obtain ⟨n5, rfl⟩ := Int.eq_ofNat_of_zero_le hr5
      obtain ⟨qa, A, B, ee, hq1, hq2, hw, he⟩ := form_at hb0 t0 (by omega : n5 < us.length) c2
      walk_at "evl"
      rw [atI_nat hq1]
      walk_at "evl"
      have wl := hw.len
      exact ⟨sz_of (by omega), sz_of (by rw [str_len]; omega), i + 1, A ++ t ++ B, pl + ee, n5, c + 1, _, _, _, _, by omega, rfl, hb7, by omega, wrap_text ht hw, by omega, by omega⟩
  · rintro σ H' ⟨i, t, pl, ai, c, x7, x8, x9, x10, hi, rfl, c1, c0, hb6, hc, ht, hpl, hai⟩
    walk_at "evl"
    have tl := ht.len
    rw [List.length_nil] at hi
    intro p5 f5
    have e1 : (Str.ofString "(def a ").length = 7 := by decide +kernel
    have e2 : (Str.ofString ")").length = 1 := by decide +kernel
    refine ⟨sz_of (by omega), sz_of (by rw [str_len]; omega), ?_⟩
    obtain ⟨rd1, rd2⟩ := read_text ht (by omega)
    have c5 := c0.trans (but_same (same_new f5 (HO.tup [V.non, V.bl false])))
    refine ⟨_, rfl, by rw [str_len, str_len]; omega, ?_⟩
    by_cases hi3 : i ≤ 23
    · obtain ⟨pp, rows, rd, rl⟩ := rd1 hi3
      rw [rd]
      intro H6 p6 dx ln lo lr s6 g1 g2 g3 g4 g5 hp
      obtain ⟨h1, h2, h3, vs, h4, h5⟩ := hp
      rw [if_neg (by omega)]
      walk_at "evl"
      rw [h5.length, rl, decide_eq_true rfl]
      exact q _ (c5.trans (but_same s6))
    · rw [rd2 (by omega)]
      intro H6 s6
      refine ⟨true, hex, fun _ a6 g6 => ?_, fun h => by cases h⟩
      walk_at "evl"
      rw [if_pos (by omega)]
      exact q _ (c5.trans (but_same s6))
def sp_law (K : PySem.W.Frag) : Sp := fun vs H Q _ => ∃ (a : Addr) (ns : List Int), vs = [.ref a] ∧ SqL K H a (ns.map V.int) ∧ ns.length ≤ 63 ∧ ∀ H', Q (.bl true) H'
theorem ok_law (F : Fun K "law" "law" s_law f fd) (c__law_folded : Cal P w K mg base CX0 1 "_law_folded" ["script", "size"] (sp_folded K)) (c__law_right : Cal P w K mg base CX0 112 "_law_right" ["box"] sp_right) (c__law_box : Cal P w K mg base CX0 1 "_law_box" ["script", "k"] (sp_box K))
    (z_len : mg "len" = none) (z_range : mg "range" = none) (z_all : mg "all" = none) (z_max : mg "max" = none) : FnOk P w K mg base CX0 114 f fd ["script"] (sp_law K) := by
  refine F.ok (k := 113) sc_law (fun vs H Q E h => by obtain ⟨_, _, rfl, _⟩ := h; rfl) (fun cdv A outer s H vs Q E hr h => ?_)
  have hu64 := hr.units
  refine ⟨_, (pss_cons (ps_set (i := 1) sc_law.nd rfl (Or.inr rfl) (pe_c c__law_folded hr (pa_cons (xv 0) (pa_cons pe_int pa_nil))))
  (pss_one (ps_ret (pe_callB yall (by rfl) z_all (by decide +kernel) (pa_cons (xlc (own := [("k", 2)]) sc_law.nd (xirng1 z_range (pe_callB ymax (by rfl) z_max (by decide +kernel) (pa_cons pe_int (pa_cons (pe_callB ylen (by rfl) z_len PySem.boot_len (pa_cons (xv 1) pa_nil)) pa_nil)))) (blkOk_by (own := [("k", 2)]) (N := ["script", "cells", "k"]) (sc := defScope s_law) (by decide +kernel)) (fun _ _ _ _ _ => (pg_name (i := 2) sc_law.nd rfl (Or.inl rfl))) (fun _ _ _ _ _ => pts_nil) (fun _ _ _ _ _ => (pe_c c__law_right hr (pa_cons (pe_c c__law_box hr (pa_cons (xv 1) (pa_cons (xv 2) pa_nil))) pa_nil)))) pa_nil))))), ?_⟩
  obtain ⟨a, ns, rfl, ha, hn, q⟩ := h
  walk_at "evl"
  refine ⟨a, ns, rfl, ha, hn, fun p1 H1 ms s1 f1 e1 hm => ?_⟩
  walk_at "evl"
  rw [List.length_map]
  have hm8 : (if (ms.length : Int) > 2 then (ms.length : Int) else 2) ≤ 8 ∧ 0 ≤ (if (ms.length : Int) > 2 then (ms.length : Int) else 2) := by split <;> omega
  generalize (if (ms.length : Int) > 2 then (ms.length : Int) else 2) = mm at hm8 ⊢
  refine ⟨by omega, by omega, fun D hD => lc_trues hD (by rw [upto_len]; omega) (fun _ _ => trivial) (fun y hy H' s' Fin fin => ?_) fun H' n s' e' => ?_⟩
  · obtain ⟨k, rfl, hk⟩ := mem_upto hy
    walk_at "evl"
    refine ⟨p1, ms, k, rfl, s' _ _ e1, by omega, fun p5 H5 s5 f5 hb => ?_⟩
    walk_at "evl"
    refine ⟨p5, rfl, hb, fun H6 b6 => ?_⟩
    have s6 : Same H' H6 := same_one s5 f5 b6
    exact fin H6 (s'.trans s6) fun l hl => s6 _ _ hl
  · rw [e']
    simp only [bls_trues, all_trues]
    exact q _
end
end Fk
namespace Fk
open PySem L2
theorem all_mk {l : PySem.W.OpenLaw} {w : World} {K : PySem.W.Frag} {h : Heap} {mg : Str → Option Value} {fa : Addr} (X : K.In h) (G : h.Ns mainGlobals mg) (hfa : mg "law" = some (.ref fa))
    {f_words_of f_is_name f_is_number f_pattern_of f_read f__law_box f__law_take f__law_folded f__law_forms f__law_right f_law C_Reader f_Reader_init f_Reader_ahead f_Reader_taken f_Reader_want f_Reader_named f_Reader_expr f_Reader_form f_Reader_pieces f_Reader_many C_Program f_Program_init C_BadText f_KEPT : Addr} {t_LETTERS : Tok} {t_FIGURES : Tok} {t_MOST_PLACES : Tok} {t_MOST_NEST : Tok}
    (a_words_of : PySem.W.nsIn K mainGlobals "words_of" = some (some (.ref f_words_of)))
    (g_words_of : FnG K "words_of" "words_of" s_words_of f_words_of)
    (a_is_name : PySem.W.nsIn K mainGlobals "is_name" = some (some (.ref f_is_name)))
    (g_is_name : FnG K "is_name" "is_name" s_is_name f_is_name)
    (a_is_number : PySem.W.nsIn K mainGlobals "is_number" = some (some (.ref f_is_number)))
    (g_is_number : FnG K "is_number" "is_number" s_is_number f_is_number)
    (a_pattern_of : PySem.W.nsIn K mainGlobals "pattern_of" = some (some (.ref f_pattern_of)))
    (g_pattern_of : FnG K "pattern_of" "pattern_of" s_pattern_of f_pattern_of)
    (a_read : PySem.W.nsIn K mainGlobals "read" = some (some (.ref f_read)))
    (g_read : FnG K "read" "read" s_read f_read)
    (a__law_box : PySem.W.nsIn K mainGlobals "_law_box" = some (some (.ref f__law_box)))
    (g__law_box : FnG K "_law_box" "_law_box" s_law_box f__law_box)
    (a__law_take : PySem.W.nsIn K mainGlobals "_law_take" = some (some (.ref f__law_take)))
    (g__law_take : FnG K "_law_take" "_law_take" s_law_take f__law_take)
    (a__law_folded : PySem.W.nsIn K mainGlobals "_law_folded" = some (some (.ref f__law_folded)))
    (g__law_folded : FnG K "_law_folded" "_law_folded" s_law_folded f__law_folded)
    (a__law_forms : PySem.W.nsIn K mainGlobals "_law_forms" = some (some (.ref f__law_forms)))
    (g__law_forms : FnG K "_law_forms" "_law_forms" s_law_forms f__law_forms)
    (a__law_right : PySem.W.nsIn K mainGlobals "_law_right" = some (some (.ref f__law_right)))
    (g__law_right : FnG K "_law_right" "_law_right" s_law_right f__law_right)
    (a_law : PySem.W.nsIn K mainGlobals "law" = some (some (.ref f_law)))
    (g_law : FnG K "law" "law" s_law f_law)
    (a_Reader : PySem.W.nsIn K mainGlobals "Reader" = some (some (.ref C_Reader)))
    (cl_Reader : ClsG K C_Reader)
    (n_Reader_words : PySem.W.findIn K (.ref C_Reader) "words" = some none)
    (n_Reader_front : PySem.W.findIn K (.ref C_Reader) "front" = some none)
    (n_Reader_rows : PySem.W.findIn K (.ref C_Reader) "rows" = some none)
    (mk_Reader : PySem.W.makesIn K C_Reader = true)
    (kc_Reader : PySem.W.keepIn K (.ref C_Reader) = true)
    (i_Reader : PySem.W.findIn K (.ref C_Reader) "__init__" = some (some (.ref f_Reader_init)))
    (if_Reader : PySem.W.isFn K (.ref f_Reader_init) = true)
    (g_Reader_init : FnG K "__init__" "Reader.__init__" s_Reader___init__ f_Reader_init)
    (i_Reader_ahead : PySem.W.findIn K (.ref C_Reader) "ahead" = some (some (.ref f_Reader_ahead)))
    (if_Reader_ahead : PySem.W.isFn K (.ref f_Reader_ahead) = true)
    (g_Reader_ahead : FnG K "ahead" "Reader.ahead" s_Reader_ahead f_Reader_ahead)
    (i_Reader_taken : PySem.W.findIn K (.ref C_Reader) "taken" = some (some (.ref f_Reader_taken)))
    (if_Reader_taken : PySem.W.isFn K (.ref f_Reader_taken) = true)
    (g_Reader_taken : FnG K "taken" "Reader.taken" s_Reader_taken f_Reader_taken)
    (i_Reader_want : PySem.W.findIn K (.ref C_Reader) "want" = some (some (.ref f_Reader_want)))
    (if_Reader_want : PySem.W.isFn K (.ref f_Reader_want) = true)
    (g_Reader_want : FnG K "want" "Reader.want" s_Reader_want f_Reader_want)
    (i_Reader_named : PySem.W.findIn K (.ref C_Reader) "named" = some (some (.ref f_Reader_named)))
    (if_Reader_named : PySem.W.isFn K (.ref f_Reader_named) = true)
    (g_Reader_named : FnG K "named" "Reader.named" s_Reader_named f_Reader_named)
    (i_Reader_expr : PySem.W.findIn K (.ref C_Reader) "expr" = some (some (.ref f_Reader_expr)))
    (if_Reader_expr : PySem.W.isFn K (.ref f_Reader_expr) = true)
    (g_Reader_expr : FnG K "expr" "Reader.expr" s_Reader_expr f_Reader_expr)
    (i_Reader_form : PySem.W.findIn K (.ref C_Reader) "form" = some (some (.ref f_Reader_form)))
    (if_Reader_form : PySem.W.isFn K (.ref f_Reader_form) = true)
    (g_Reader_form : FnG K "form" "Reader.form" s_Reader_form f_Reader_form)
    (i_Reader_pieces : PySem.W.findIn K (.ref C_Reader) "pieces" = some (some (.ref f_Reader_pieces)))
    (if_Reader_pieces : PySem.W.isFn K (.ref f_Reader_pieces) = true)
    (g_Reader_pieces : FnG K "pieces" "Reader.pieces" s_Reader_pieces f_Reader_pieces)
    (i_Reader_many : PySem.W.findIn K (.ref C_Reader) "many" = some (some (.ref f_Reader_many)))
    (if_Reader_many : PySem.W.isFn K (.ref f_Reader_many) = true)
    (g_Reader_many : FnG K "many" "Reader.many" s_Reader_many f_Reader_many)
    (a_Program : PySem.W.nsIn K mainGlobals "Program" = some (some (.ref C_Program)))
    (cl_Program : ClsG K C_Program)
    (n_Program_names : PySem.W.findIn K (.ref C_Program) "names" = some none)
    (n_Program_roots : PySem.W.findIn K (.ref C_Program) "roots" = some none)
    (n_Program_rows : PySem.W.findIn K (.ref C_Program) "rows" = some none)
    (mk_Program : PySem.W.makesIn K C_Program = true)
    (kc_Program : PySem.W.keepIn K (.ref C_Program) = true)
    (i_Program : PySem.W.findIn K (.ref C_Program) "__init__" = some (some (.ref f_Program_init)))
    (if_Program : PySem.W.isFn K (.ref f_Program_init) = true)
    (g_Program_init : FnG K "__init__" "Program.__init__" s_Program___init__ f_Program_init)
    (a_BadText : PySem.W.nsIn K mainGlobals "BadText" = some (some (.ref C_BadText)))
    (x_BadText : PySem.W.excIn K C_BadText [.type "ValueError", .type "Exception", .type "BaseException", .type "object"] "ValueError.__new__" = true)
    (k_BadText : PySem.W.keepIn K (.ref C_BadText) = true)
    (b_BadText : PySem.W.subIn K (.ref C_BadText) (.type "BaseException") = some true)
    (t_BadText : PySem.W.typeIn K (.ref C_BadText) = some (.type "type"))
    (ic_BadText : PySem.W.isClsIn K C_BadText = true)
    (sc_BadText : PySem.W.subIn K (.ref C_BadText) (.ref C_BadText) = some true)
    (q_len : PySem.W.nsIn K mainGlobals "len" = some none)
    (q_int : PySem.W.nsIn K mainGlobals "int" = some none)
    (q_tuple : PySem.W.nsIn K mainGlobals "tuple" = some none)
    (q_abs : PySem.W.nsIn K mainGlobals "abs" = some none)
    (q_divmod : PySem.W.nsIn K mainGlobals "divmod" = some none)
    (q_list : PySem.W.nsIn K mainGlobals "list" = some none)
    (q_enumerate : PySem.W.nsIn K mainGlobals "enumerate" = some none)
    (q_range : PySem.W.nsIn K mainGlobals "range" = some none)
    (q_all : PySem.W.nsIn K mainGlobals "all" = some none)
    (q_max : PySem.W.nsIn K mainGlobals "max" = some none)
    (q_LETTERS : PySem.W.nsIn K mainGlobals "LETTERS" = some (some (.str "abcdefghijklmnopqrstuvwxyz" t_LETTERS)))
    (q_FIGURES : PySem.W.nsIn K mainGlobals "FIGURES" = some (some (.str "0123456789" t_FIGURES)))
    (q_MOST_PLACES : PySem.W.nsIn K mainGlobals "MOST_PLACES" = some (some (.int 160 t_MOST_PLACES)))
    (q_MOST_NEST : PySem.W.nsIn K mainGlobals "MOST_NEST" = some (some (.int 24 t_MOST_NEST)))
    (q_KEPT : PySem.W.nsIn K mainGlobals "KEPT" = some (some (.ref f_KEPT)))
    (tt_KEPT : TupG K f_KEPT keptV)
    : ∃ fd : FuncData, (∀ (s : Shared) (v : Value), BindsTo s fd ⟨[v], []⟩ [("script", v)]) ∧ ∀ base : Heap, K.In base → base.Ns mainGlobals mg → FnOk l.prog w K mg base CX0 114 fa fd ["script"] (sp_law K) := by
  obtain ⟨fd_words_of, F_words_of⟩ := g_words_of
  have m_words_of := PySem.W.mg_of X G a_words_of
  obtain ⟨fd_is_name, F_is_name⟩ := g_is_name
  have m_is_name := PySem.W.mg_of X G a_is_name
  obtain ⟨fd_is_number, F_is_number⟩ := g_is_number
  have m_is_number := PySem.W.mg_of X G a_is_number
  obtain ⟨fd_pattern_of, F_pattern_of⟩ := g_pattern_of
  have m_pattern_of := PySem.W.mg_of X G a_pattern_of
  obtain ⟨fd_read, F_read⟩ := g_read
  have m_read := PySem.W.mg_of X G a_read
  obtain ⟨fd__law_box, F__law_box⟩ := g__law_box
  have m__law_box := PySem.W.mg_of X G a__law_box
  obtain ⟨fd__law_take, F__law_take⟩ := g__law_take
  have m__law_take := PySem.W.mg_of X G a__law_take
  obtain ⟨fd__law_folded, F__law_folded⟩ := g__law_folded
  have m__law_folded := PySem.W.mg_of X G a__law_folded
  obtain ⟨fd__law_forms, F__law_forms⟩ := g__law_forms
  have m__law_forms := PySem.W.mg_of X G a__law_forms
  obtain ⟨fd__law_right, F__law_right⟩ := g__law_right
  have m__law_right := PySem.W.mg_of X G a__law_right
  obtain ⟨fd_law, F_law⟩ := g_law
  have m_law := PySem.W.mg_of X G a_law
  have c_Reader : Cls K C_Reader := cl_Reader
  have m_Reader := PySem.W.mg_of X G a_Reader
  obtain ⟨fd_Reader_init, F_Reader_init⟩ := g_Reader_init
  have M_Reader : Mk K C_Reader f_Reader_init := ⟨mk_Reader, i_Reader, if_Reader, kc_Reader⟩
  obtain ⟨fd_Reader_ahead, F_Reader_ahead⟩ := g_Reader_ahead
  have M_Reader_ahead : Meth K C_Reader "ahead" f_Reader_ahead := ⟨i_Reader_ahead, if_Reader_ahead, F_Reader_ahead.kp⟩
  obtain ⟨fd_Reader_taken, F_Reader_taken⟩ := g_Reader_taken
  have M_Reader_taken : Meth K C_Reader "taken" f_Reader_taken := ⟨i_Reader_taken, if_Reader_taken, F_Reader_taken.kp⟩
  obtain ⟨fd_Reader_want, F_Reader_want⟩ := g_Reader_want
  have M_Reader_want : Meth K C_Reader "want" f_Reader_want := ⟨i_Reader_want, if_Reader_want, F_Reader_want.kp⟩
  obtain ⟨fd_Reader_named, F_Reader_named⟩ := g_Reader_named
  have M_Reader_named : Meth K C_Reader "named" f_Reader_named := ⟨i_Reader_named, if_Reader_named, F_Reader_named.kp⟩
  obtain ⟨fd_Reader_expr, F_Reader_expr⟩ := g_Reader_expr
  have M_Reader_expr : Meth K C_Reader "expr" f_Reader_expr := ⟨i_Reader_expr, if_Reader_expr, F_Reader_expr.kp⟩
  obtain ⟨fd_Reader_form, F_Reader_form⟩ := g_Reader_form
  have M_Reader_form : Meth K C_Reader "form" f_Reader_form := ⟨i_Reader_form, if_Reader_form, F_Reader_form.kp⟩
  obtain ⟨fd_Reader_pieces, F_Reader_pieces⟩ := g_Reader_pieces
  have M_Reader_pieces : Meth K C_Reader "pieces" f_Reader_pieces := ⟨i_Reader_pieces, if_Reader_pieces, F_Reader_pieces.kp⟩
  obtain ⟨fd_Reader_many, F_Reader_many⟩ := g_Reader_many
  have M_Reader_many : Meth K C_Reader "many" f_Reader_many := ⟨i_Reader_many, if_Reader_many, F_Reader_many.kp⟩
  have c_Program : Cls K C_Program := cl_Program
  have m_Program := PySem.W.mg_of X G a_Program
  obtain ⟨fd_Program_init, F_Program_init⟩ := g_Program_init
  have M_Program : Mk K C_Program f_Program_init := ⟨mk_Program, i_Program, if_Program, kc_Program⟩
  have e_BadText : ExcB K mg "BadText" C_BadText := ⟨PySem.W.mg_of X G a_BadText, x_BadText, k_BadText, b_BadText, t_BadText⟩
  have xs_BadText := exm_own b_BadText ic_BadText t_BadText sc_BadText
  have z_len := PySem.W.mg_none_of X G q_len
  have z_int := PySem.W.mg_none_of X G q_int
  have z_tuple := PySem.W.mg_none_of X G q_tuple
  have z_abs := PySem.W.mg_none_of X G q_abs
  have z_divmod := PySem.W.mg_none_of X G q_divmod
  have z_list := PySem.W.mg_none_of X G q_list
  have z_enumerate := PySem.W.mg_none_of X G q_enumerate
  have z_range := PySem.W.mg_none_of X G q_range
  have z_all := PySem.W.mg_none_of X G q_all
  have z_max := PySem.W.mg_none_of X G q_max
  have g_LETTERS := PySem.W.mg_of X G q_LETTERS
  have g_FIGURES := PySem.W.mg_of X G q_FIGURES
  have g_MOST_PLACES := PySem.W.mg_of X G q_MOST_PLACES
  have g_MOST_NEST := PySem.W.mg_of X G q_MOST_NEST
  have g_KEPT := PySem.W.mg_of X G q_KEPT
  have e := hfa.symm.trans m_law
  cases e
  have cn : Cn K mg := ⟨z_len, ⟨_, g_LETTERS⟩, ⟨_, g_FIGURES⟩, _, g_KEPT, tt_KEPT.sq⟩
  have rt : RdT K mg C_Reader C_BadText := ⟨c_Reader, n_Reader_words, n_Reader_front, n_Reader_rows, z_len, z_int, z_tuple, ⟨_, g_MOST_PLACES⟩, ⟨_, g_MOST_NEST⟩, e_BadText⟩
  have pt : PgT K mg C_Program := ⟨c_Program, n_Program_names, n_Program_roots, n_Program_rows⟩
  have rf : RdF K mg C_Reader := ⟨⟨_, _, F_Reader_ahead, M_Reader_ahead⟩, ⟨_, _, F_Reader_taken, M_Reader_taken⟩, ⟨_, _, F_Reader_want, M_Reader_want⟩, ⟨_, _, F_Reader_named, M_Reader_named⟩, ⟨_, _, F_Reader_expr, M_Reader_expr⟩, ⟨_, _, F_Reader_form, M_Reader_form⟩, ⟨_, _, F_Reader_pieces, M_Reader_pieces⟩, ⟨_, _, F_Reader_many, M_Reader_many⟩⟩
  obtain ⟨oc, od, kV, doc, pm, an, cdv, ct, osl, rfl, lk, hcd⟩ := F_law.ex
  refine ⟨PySem.W.fnOf "law" "law" (defArgs s_law) (defBody s_law) (defScope s_law) .none kV doc pm an cdv ct, fun s v => .of_eq rfl, fun base _ _ => ?_⟩
  have c1 : Cal l.prog w K mg base CX0 1 "words_of" ["text"] sp_words_of := ⟨_, _, ok_words_of F_words_of, m_words_of, F_words_of.kp, F_words_of.binds fun _ _ _ _ _ _ us hl => match us, hl with | [_], _ => rfl⟩
  have c2 : Cal l.prog w K mg base CX0 1 "is_name" ["word"] sp_is_name := ⟨_, _, ok_is_name F_is_name cn, m_is_name, F_is_name.kp, F_is_name.binds fun _ _ _ _ _ _ us hl => match us, hl with | [_], _ => rfl⟩
  have c3 : Cal l.prog w K mg base CX0 1 "is_number" ["word"] sp_is_number := ⟨_, _, ok_is_number F_is_number cn, m_is_number, F_is_number.kp, F_is_number.binds fun _ _ _ _ _ _ us hl => match us, hl with | [_], _ => rfl⟩
  have c4 : Cal l.prog w K mg base (L2.CX l.prog w) 1 "pattern_of" ["head"] (sp_pattern_of C_BadText) := ⟨_, _, ok_pattern_of F_pattern_of e_BadText, m_pattern_of, F_pattern_of.kp, F_pattern_of.binds fun _ _ _ _ _ _ us hl => match us, hl with | [_], _ => rfl⟩
  have kR : CalC l.prog w K mg base CX0 1 C_Reader "Reader" ["self", "words"] (sp_rinit C_Reader) := ⟨m_Reader, _, _, ok_init F_Reader_init rt, M_Reader, F_Reader_init.binds fun _ _ _ _ _ _ us hl => match us, hl with | [_, _], _ => rfl⟩
  have kP : CalC l.prog w K mg base CX0 1 C_Program "Program" ["self", "names", "roots", "rows"] (sp_pinit C_Program) := ⟨m_Program, _, _, ok_pinit F_Program_init pt, M_Program, F_Program_init.binds fun _ _ _ _ _ _ us hl => match us, hl with | [_, _, _, _], _ => rfl⟩
  have mx := rd_expr (P := l.prog) (w := w) (base := base) rt rf c2 c3 c4 24
  have c5 : Cal l.prog w K mg base (L2.CX l.prog w) 110 "read" ["text"] (sp_read C_Program C_BadText) := ⟨_, _, ok_read F_read rt c1 kR kP (rd_ahead rt rf) (rd_want rt rf) (rd_named rt rf c2) mx, m_read, F_read.kp, F_read.binds fun _ _ _ _ _ _ us hl => match us, hl with | [_], _ => rfl⟩
  have d1 : Cal l.prog w K mg base CX0 1 "_law_box" ["script", "k"] (sp_box K) := ⟨_, _, ok_box F__law_box z_len z_abs z_int, m__law_box, F__law_box.kp, F__law_box.binds fun _ _ _ _ _ _ us hl => match us, hl with | [_, _], _ => rfl⟩
  have d2 : Cal l.prog w K mg base CX0 1 "_law_take" ["box", "size"] (sp_take K) := ⟨_, _, ok_take F__law_take z_divmod, m__law_take, F__law_take.kp, F__law_take.binds fun _ _ _ _ _ _ us hl => match us, hl with | [_, _], _ => rfl⟩
  have d3 : Cal l.prog w K mg base CX0 1 "_law_folded" ["script", "size"] (sp_folded K) := ⟨_, _, ok_folded F__law_folded z_list z_enumerate, m__law_folded, F__law_folded.kp, F__law_folded.binds fun _ _ _ _ _ _ us hl => match us, hl with | [_, _], _ => rfl⟩
  have d4 : Cal l.prog w K mg base CX0 1 "_law_forms" [] sp_forms := ⟨_, _, ok_forms F__law_forms, m__law_forms, F__law_forms.kp, F__law_forms.binds fun _ _ _ _ _ _ us hl => match us, hl with | [], _ => rfl⟩
  have d5 : Cal l.prog w K mg base CX0 112 "_law_right" ["box"] sp_right := ⟨_, _, ok_right F__law_right d4 d2 z_len z_range c5 e_BadText xs_BadText c_Program n_Program_rows, m__law_right, F__law_right.kp, F__law_right.binds fun _ _ _ _ _ _ us hl => match us, hl with | [_], _ => rfl⟩
  exact ok_law F_law d3 d5 d1 z_len z_range z_all z_max
theorem walk {l : PySem.W.OpenLaw} {q : Program} {loose : List Str} {XP : (Str → Option Value) → Heap → Prop} {YP : World → Heap → Prop} {d : DefRec} {K : Params → PySem.W.Frag} (hn : l.most = some 63) (hdf : d.params.defaults = [])
    (hY : ∀ (w : World) (h : Heap), YP w h → (K w.params).In h)
    (F : ∀ (w : World) (mg : Str → Option Value) (fa : Addr) (h : Heap), (K w.params).In h → h.Ns mainGlobals mg → mg d.name = some (.ref fa) →
      ∃ fd : FuncData, (∀ (s : Shared) (u : Value), BindsTo s fd ⟨[u], []⟩ [("script", u)]) ∧ ∀ base : Heap, (K w.params).In base → base.Ns mainGlobals mg → FnOk l.prog w (K w.params) mg base CX0 114 fa fd ["script"] (sp_law (K w.params))) :
    PySem.W.WalkO q loose XP YP l.row.toRowW d [] (fun f vs => PySem.call f vs) :=
  L2.walk_of (n := 63) (k := 114) (x := "script") (CX := fun _ => CX0) (sp := fun w => sp_law (K w.params)) hn (by decide) hdf ⟨rfl, by decide, by decide⟩ hY F (fun _ _ a ns hl _ hS => ⟨a, ns, rfl, hS, hl, fun _ => rfl⟩) fun _ _ _ _ _ z => z
end Fk
open PySem PySem.W PyProof.Rows Fk
local macro_rules | `(tactic| walk_at "fn") => `(tactic| (refine' fn_g ?l ?c ?k; (case l => k_is); (case c => k_is); (case k => k_is)))
local macro_rules | `(tactic| walk_at "cls") => `(tactic| (refine' cls_g ?pg ?hd ?po ?sa; (case pg => k_is); (case hd => k_is); (case po => k_is); (case sa => k_is)))
local macro_rules | `(tactic| walk_at "tup") => `(tactic| (refine' tup_g ?l ?s ?v; (case l => k_is); (case s => exact sz_of (by decide)); (case v => (repeat' first | exact Paired.nil | refine Paired.cons ?_ ?_ | exact ⟨_, rfl⟩ | exact rfl))))
set_option maxRecDepth 100000 in
set_option maxHeartbeats 0 in
theorem PySem.Challenge.cw_flowkinds_k08_nests_by_each_spot_holds : PySem.Challenge.rw_flowkinds_k08_nests_by_each_spot.Holds := by
  w_on; o_law; k_head; (case hw => w_witness2)
  k_fill
  refine Fk.walk (l := PySem.Challenge.rw_flowkinds_k08_nests_by_each_spot) rfl rfl (fun w h Y => PySem.W.kIn_of Y) ?F
  case F =>
    intro w mg fa h KX G hmg
    refine' Fk.all_mk KX G hmg ?a_words_of ?g_words_of ?a_is_name ?g_is_name ?a_is_number ?g_is_number ?a_pattern_of ?g_pattern_of ?a_read ?g_read ?a__law_box ?g__law_box ?a__law_take ?g__law_take ?a__law_folded ?g__law_folded ?a__law_forms ?g__law_forms ?a__law_right ?g__law_right ?a_law ?g_law ?a_Reader ?cl_Reader ?n_Reader_words ?n_Reader_front ?n_Reader_rows ?mk_Reader ?kc_Reader ?i_Reader ?if_Reader ?g_Reader_init ?i_Reader_ahead ?if_Reader_ahead ?g_Reader_ahead ?i_Reader_taken ?if_Reader_taken ?g_Reader_taken ?i_Reader_want ?if_Reader_want ?g_Reader_want ?i_Reader_named ?if_Reader_named ?g_Reader_named ?i_Reader_expr ?if_Reader_expr ?g_Reader_expr ?i_Reader_form ?if_Reader_form ?g_Reader_form ?i_Reader_pieces ?if_Reader_pieces ?g_Reader_pieces ?i_Reader_many ?if_Reader_many ?g_Reader_many ?a_Program ?cl_Program ?n_Program_names ?n_Program_roots ?n_Program_rows ?mk_Program ?kc_Program ?i_Program ?if_Program ?g_Program_init ?a_BadText ?x_BadText ?k_BadText ?b_BadText ?t_BadText ?ic_BadText ?sc_BadText ?q_len ?q_int ?q_tuple ?q_abs ?q_divmod ?q_list ?q_enumerate ?q_range ?q_all ?q_max ?q_LETTERS ?q_FIGURES ?q_MOST_PLACES ?q_MOST_NEST ?q_KEPT ?tt_KEPT
    (case a_words_of => k_is)
    (case g_words_of => walk_at "fn")
    (case a_is_name => k_is)
    (case g_is_name => walk_at "fn")
    (case a_is_number => k_is)
    (case g_is_number => walk_at "fn")
    (case a_pattern_of => k_is)
    (case g_pattern_of => walk_at "fn")
    (case a_read => k_is)
    (case g_read => walk_at "fn")
    (case a__law_box => k_is)
    (case g__law_box => walk_at "fn")
    (case a__law_take => k_is)
    (case g__law_take => walk_at "fn")
    (case a__law_folded => k_is)
    (case g__law_folded => walk_at "fn")
    (case a__law_forms => k_is)
    (case g__law_forms => walk_at "fn")
    (case a__law_right => k_is)
    (case g__law_right => walk_at "fn")
    (case a_law => k_is)
    (case g_law => walk_at "fn")
    (case a_Reader => k_is)
    (case cl_Reader => walk_at "cls")
    (case n_Reader_words => k_is)
    (case n_Reader_front => k_is)
    (case n_Reader_rows => k_is)
    (case mk_Reader => k_is)
    (case kc_Reader => k_is)
    (case i_Reader => k_is)
    (case if_Reader => k_is)
    (case g_Reader_init => walk_at "fn")
    (case i_Reader_ahead => k_is)
    (case if_Reader_ahead => k_is)
    (case g_Reader_ahead => walk_at "fn")
    (case i_Reader_taken => k_is)
    (case if_Reader_taken => k_is)
    (case g_Reader_taken => walk_at "fn")
    (case i_Reader_want => k_is)
    (case if_Reader_want => k_is)
    (case g_Reader_want => walk_at "fn")
    (case i_Reader_named => k_is)
    (case if_Reader_named => k_is)
    (case g_Reader_named => walk_at "fn")
    (case i_Reader_expr => k_is)
    (case if_Reader_expr => k_is)
    (case g_Reader_expr => walk_at "fn")
    (case i_Reader_form => k_is)
    (case if_Reader_form => k_is)
    (case g_Reader_form => walk_at "fn")
    (case i_Reader_pieces => k_is)
    (case if_Reader_pieces => k_is)
    (case g_Reader_pieces => walk_at "fn")
    (case i_Reader_many => k_is)
    (case if_Reader_many => k_is)
    (case g_Reader_many => walk_at "fn")
    (case a_Program => k_is)
    (case cl_Program => walk_at "cls")
    (case n_Program_names => k_is)
    (case n_Program_roots => k_is)
    (case n_Program_rows => k_is)
    (case mk_Program => k_is)
    (case kc_Program => k_is)
    (case i_Program => k_is)
    (case if_Program => k_is)
    (case g_Program_init => walk_at "fn")
    (case a_BadText => k_is)
    (case x_BadText => k_exc)
    (case k_BadText => k_is)
    (case b_BadText => k_is)
    (case t_BadText => k_is)
    (case ic_BadText => k_is)
    (case sc_BadText => first | rfl | k_is)
    (case q_len => k_is)
    (case q_int => k_is)
    (case q_tuple => k_is)
    (case q_abs => k_is)
    (case q_divmod => k_is)
    (case q_list => k_is)
    (case q_enumerate => k_is)
    (case q_range => k_is)
    (case q_all => k_is)
    (case q_max => k_is)
    (case q_LETTERS => k_is)
    (case q_FIGURES => k_is)
    (case q_MOST_PLACES => k_is)
    (case q_MOST_NEST => k_is)
    (case q_KEPT => k_is)
    (case tt_KEPT => walk_at "tup")
#print axioms PySem.Challenge.cw_flowkinds_k08_nests_by_each_spot_holds
