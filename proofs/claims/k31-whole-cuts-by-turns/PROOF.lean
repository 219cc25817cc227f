import PyProof.Rows.All
import Wide.All
import OpenK.AllK
import Wide.FinOn
import KE.GoesZip
import KE.GoesMore
import KE.KDictWalk
import HandS.ForMost
import HandS.Walk
import HandS.Nested
import HandS.NestedK
import HandS.More
import HandS.IsInst
import HandS.HeadHook1
import HandS.HeadHook2
import HandS.HeadHook3
import HandS.HeadHook4
import HandS.HeadNt
import HandS.HeadEnd
import HandS.HeadWalk
import HandS.Head0
import HandS.Head1
import HandS.Head2
import HandS.Head3
import HandS.Head4
import HandS.Defaults
import HandS.GenOver
import HandS.GenBody
import HandS.GenYield
import HandS.GenCall
import HandS.GenList
import HandS.DictComp
import HandS.DictEq
import HandS.DictTup
import HandS.Zip
import HandS.Codes
import HandS.Star
import HandS.TupAny
import HandS.TupLe
import HandS.DeepEq
import HandS.ListEq
import HandS.Deep
import HandS.Property
import HandS.Sort
import HandS.SortKw
import HandS.Flow
import HandS.Style
import HandS.Small
import HandS.Wide
import HandS.WideMore
import HandS.WideBits
import HandS.RaiseMore
import HandS.Conv
import HandS.NoneIn
import HandS.Keys
import HandS.SetKeys
import HandS.Strs
import HandS.Lambda
import HandS.MakeKw
import HandS.CallSlots
import HandS.AnyAll
import PySem.Challenge.RW_belowneeds_k31_whole_cuts_by_turns
import HandS.Finally
import KE.KDictCopyH
set_option Elab.async false
set_option maxRecDepth 100000
set_option maxHeartbeats 4000000
/-! B1: promises by values (own packing): a def of the module, a method, a class made, a property; their call rules. -/
namespace Bn
open PySem PySem.Spec PyProof.Rows L2

/-- a promise: the arguments, the heap, what is wanted of the answer -/
abbrev Pr := List V → Hp → VK → Prop
section
variable (P : Program) (w : World) (K : PySem.W.Frag) (mg : Str → Option Value) (base : Heap) (k : Nat)
/-- room for k calls, no repr under way -/
structure Rm (k : Nat) (A : Around) : Prop where
  r : Room k A
  g : A.guards = some []
/-- the def at f keeps the promise p (nothing is raised) where no repr is under way -/
def Keeps (f : Addr) (p : Pr) : Prop := ∀ (A : Around) (outer : List Env) (s : Shared) (H : Hp) (us : List Value) (vs : List V) (Q : VK) (E : XK), Rm k A → Env0 P w K mg base A outer s H → Vals vs us → p vs H Q →
  codeAny (model P w) A (.call (.ref f) ⟨us, []⟩) (CR L2.CX0 outer P w H s Q E) s
/-- the module's name x is a def with this promise -/
def DefR (x : Str) (p : Pr) : Prop := ∃ f, mg x = some (.ref f) ∧ PySem.W.keepIn K (.ref f) = true ∧ Keeps P w K mg base k f p
/-- the class at C has m as a def with this promise -/
def MetR (C : Addr) (m : Str) (p : Pr) : Prop := ∃ f, Cls K C ∧ Meth K C m f ∧ Keeps P w K mg base k f p
/-- the module's name x is the class at C, its __init__ has this promise -/
def MakR (x : Str) (C : Addr) (p : Pr) : Prop := ∃ f, Mk K C f ∧ mg x = some (.ref C) ∧ Keeps P w K mg base k f p
/-- the class at C has f as a property whose getter has this promise -/
def PrpR (C : Addr) (f : Str) (p : Pr) : Prop := ∃ q g, Cls K C ∧ PropOf K C f q g ∧ Keeps P w K mg base k g p
end
section
variable {P : Program} {w : World} {K : PySem.W.Frag} {mg : Str → Option Value} {base : Heap} {j k : Nat} {x m : Str} {C : Addr} {p q : Pr}
theorem Rm.mono {A : Around} (r : Rm k A) (h : j ≤ k) : Rm j A := ⟨r.r.mono h, r.g⟩
theorem Rm.deeper {A : Around} (r : Rm (k + 1) A) (env : Env) : Rm k (A.deeper env) := ⟨r.r.deeper env, r.g⟩
theorem Rm.in1 {A : Around} (r : Rm (k + 1) A) : Rm k A.in1 := ⟨r.r.in1, r.g⟩
theorem Rm.make {A : Around} (r : Rm (k + 1) A) (C : Addr) (us : List Value) (kw : List (Str × Value)) : Rm k (A.under (.builtin "type.__call__" ⟨.ref C :: us, kw⟩)) :=
  ⟨r.r.make C us kw, by
    have e : (Code.builtin "type.__call__" ⟨.ref C :: us, kw⟩).guards = [] := by first | rfl | simp [Code.guards, Code.isGuard, guardIds]
    show pushGuards (Code.builtin "type.__call__" ⟨.ref C :: us, kw⟩).guards A.guards = some []
    rw [e, r.g]
    rfl⟩
theorem Keeps.mono {P : Program} {w : World} {K : PySem.W.Frag} {mg : Str → Option Value} {base : Heap} {f : Addr} {p : Pr} (F : Keeps P w K mg base j f p) (h : j ≤ k) : Keeps P w K mg base k f p := fun A o s H us vs Q E hr => F A o s H us vs Q E (hr.mono h)
theorem Keeps.imp {P : Program} {w : World} {K : PySem.W.Frag} {mg : Str → Option Value} {base : Heap} {f : Addr} {p q : Pr} (F : Keeps P w K mg base k f p) (h : ∀ vs H Q, q vs H Q → p vs H Q) : Keeps P w K mg base k f q := fun A o s H us vs Q E hr e r z => F A o s H us vs Q E hr e r (h _ _ _ z)
theorem keeps_fnr {P : Program} {w : World} {K : PySem.W.Frag} {mg : Str → Option Value} {base : Heap} {f : Addr} {p : Pr} (F : FnR P w K mg base L2.CX0 k f (fun vs H Q _ => p vs H Q)) : Keeps P w K mg base k f p := fun A o s H us vs Q E hr => F A o s H us vs Q E hr.r
theorem DefR.mono (D : DefR P w K mg base j x p) (h : j ≤ k) : DefR P w K mg base k x p := let ⟨f, a, b, F⟩ := D; ⟨f, a, b, F.mono h⟩
theorem MetR.mono (D : MetR P w K mg base j C m p) (h : j ≤ k) : MetR P w K mg base k C m p := let ⟨f, a, b, F⟩ := D; ⟨f, a, b, F.mono h⟩
theorem MakR.mono (D : MakR P w K mg base j x C p) (h : j ≤ k) : MakR P w K mg base k x C p := let ⟨f, a, b, F⟩ := D; ⟨f, a, b, F.mono h⟩
theorem PrpR.mono (D : PrpR P w K mg base j C m p) (h : j ≤ k) : PrpR P w K mg base k C m p := let ⟨f, g, a, b, F⟩ := D; ⟨f, g, a, b, F.mono h⟩
theorem MetR.imp (D : MetR P w K mg base k C m p) (h : ∀ vs H Q, q vs H Q → p vs H Q) : MetR P w K mg base k C m q := let ⟨f, a, b, F⟩ := D; ⟨f, a, b, F.imp h⟩
theorem DefR.imp (D : DefR P w K mg base k x p) (h : ∀ vs H Q, q vs H Q → p vs H Q) : DefR P w K mg base k x q := let ⟨f, a, b, F⟩ := D; ⟨f, a, b, F.imp h⟩
end

/-! ### readings -/
def tD (p : Pr) (t : TA) : TE := fun σ H Q => t σ H fun vs H1 => p vs H1 Q
def tM (W : Addr → Str → Pr → Prop) (m : Str) (ta : TE) (t : TA) : TE := fun σ H Q => ta σ H fun x H1 =>
  ∃ (a C dx : Addr) (fs : List (Str × V)) (p : Pr), x = .ref a ∧ H1 a = some (.ins C dx fs) ∧ fs.lookup m = none ∧ W C m p ∧ t σ H1 fun vs H2 => p (x :: vs) H2 Q
def tK (C : Addr) (p : Pr) (t : TA) : TE := fun σ H Q => t σ H fun vs H1 => ∀ x dx, H1 x = none → H1 dx = none → dx ≠ x →
  p (.ref x :: vs) (upd (upd H1 dx (.own x)) x (.ins C dx [])) fun v H2 => v = .non ∧ Q (.ref x) H2
def tP (W : Addr → Str → Pr → Prop) (f : Str) (ta : TE) : TE := fun σ H Q => ta σ H fun x H1 =>
  ∃ (a C dx : Addr) (fs : List (Str × V)) (p : Pr), x = .ref a ∧ H1 a = some (.ins C dx fs) ∧ W C f p ∧ p [x] H1 Q

section
variable {X : Cx} {k j : Nat} {C : Addr} {x m f : Str} {p : Pr} {ps pos apos : Pos} {e o : Expr} {es : List Expr} {ta : TE} {t : TA}
/-- the callee's code, in the caller's state -/
theorem run_kp {pins : List (Addr × Obj)} {σ : L2.St} {H : Hp} {s : Shared} {Q : VK} {us : List Value} {vs : List V} {g : Addr} (F : Keeps X.prog X.w X.K X.mg X.base k g p) (hr : Rm k X.A)
    (I : Inv X pins σ H s) (r : Vals vs us) (h : p vs H Q) : codeAny (model X.prog X.w) X.A (.call (.ref g) ⟨us, []⟩) (fun r s' => match r with | .ok (.ret v) => EP X pins σ Q v s' | .ok _ => False | .error e => X.xe e s') s := by
  refine codeAny_mono (F X.A X.stack s H us vs Q E0 hr I.env0 r h) fun z s' hq => ?_
  match z, hq with
  | .ok (.ret u), hq => exact I.after hq
  | .ok .next, hq => exact False.elim hq
  | .ok .brk, hq => exact False.elim hq
  | .ok .cont, hq => exact False.elim hq
  | .error e, hq => exact False.elim hq
theorem run_at {pins : List (Addr × Obj)} {σ : L2.St} {H : Hp} {s : Shared} {Q : VK} {us : List Value} {vs : List V} {g : Addr} (F : Keeps X.prog X.w X.K X.mg X.base k g p) (hr : Rm k X.A)
    (I : Inv X pins σ H s) (r : Vals vs us) (h : p vs H Q) : wpAny (model X.prog X.w) X.A (call (.ref g) us) (EP X pins σ Q) X.xe s :=
  wpAny_call (run_kp F hr I r h)
theorem pe_d (D : DefR X.prog X.w X.K X.mg X.base k x p) (hr : Rm k X.A) (hg : Gl X x) (ha : PA X (e :: es) t)
    (hdb : (x == ("__debug__" : Str)) = false := by decide) (he : starEach (e :: es) X.env = (false, eval e X.env) :: starEach es X.env := by rfl) (hpl : (backTo pos (starEach es X.env)).any (·.1) = false := by rfl) :
    PE X (.Call (.Name x ps) (e :: es) [] pos) (tD p t) := by
  obtain ⟨g, mg, kp, F⟩ := D
  constructor
  intro pins s σ H Q I h
  apply wpAny_Call_Name_kw
  refine ld_glob I hg mg (PySem.W.callWith_K (h₀ := X.base) I.ok.mod.kin kp ?_ he hpl) hdb
  exact thn (ha.run pos pins s σ H _ I h) fun us s1 ⟨vs, H1, I1, r, q⟩ => ⟨I1.kIn, run_at F hr I1 r q⟩
theorem pe_m {pl : Sem Bool} (hr : Rm k X.A) (he : PE X o ta) (ha : PA X (e :: es) t)
    (hst : starEach (e :: es) X.env = (false, eval e X.env) :: starEach es X.env := by rfl) (hpl : (backTo pos (starEach es X.env)).any (·.1) = false := by rfl)
    (ht : eval (.Call (.Attribute o m apos) (e :: es) [] pos) X.env = (eval o X.env >>= fun ov => standAt apos.atName >>= fun _ =>
      holding [ov] (getMethod ov m pl) >>= fun fr => callWith pos fr.1 fr.2 (backTo pos (starEach (e :: es) X.env)) (backToKw pos (keywordEach [] X.env))) := by rfl) :
    PE X (.Call (.Attribute o m apos) (e :: es) [] pos) (tM (MetR X.prog X.w X.K X.mg X.base k) m ta t) := by
  constructor
  intro pins s σ H Q I h
  refine PySem.W.methodCall_KW (pl := pl) (thn (he.run pins s σ H _ I h) ?_) ht
  rintro u s1 ⟨x, H1, I1, rx, a, C, dx, fs, p, rfl, ea, l, ⟨g, c, hm, F⟩, q⟩
  cases rx
  refine getmeth_ok I1 ea c hm l (PySem.W.callWith_K (first := [.ref a]) (h₀ := X.base) I.ok.mod.kin hm.kp ?_ hst hpl)
  exact thn (ha.run pos pins s1 σ H1 _ I1 q) fun us s2 ⟨vs, H2, I2, r, q2⟩ => ⟨I2.kIn, run_at (us := .ref a :: us) (vs := .ref a :: vs) F hr I2 (.cons rfl r) q2⟩
theorem pe_m0 {pl : Sem Bool} (hr : Rm k X.A) (he : PE X o ta)
    (ht : eval (.Call (.Attribute o m apos) [] [] pos) X.env = (eval o X.env >>= fun ov => standAt apos.atName >>= fun _ =>
      holding [ov] (getMethod ov m pl) >>= fun fr => callWith pos fr.1 fr.2 (backTo pos (starEach [] X.env)) (backToKw pos (keywordEach [] X.env))) := by rfl) :
    PE X (.Call (.Attribute o m apos) [] [] pos) (tM (MetR X.prog X.w X.K X.mg X.base k) m ta tNil) := by
  constructor
  intro pins s σ H Q I h
  refine PySem.W.methodCall_KW (pl := pl) (thn (he.run pins s σ H _ I h) ?_) ht
  rintro u s1 ⟨x, H1, I1, rx, a, C, dx, fs, p, rfl, ea, l, ⟨g, c, hm, F⟩, q⟩
  cases rx
  exact getmeth_ok I1 ea c hm l (PySem.W.callWith_K0 (first := [.ref a]) I1.kIn hm.kp (run_at (us := [.ref a]) (vs := [.ref a]) F hr I1 (.cons rfl .nil) q))
theorem pe_k (M : MakR X.prog X.w X.K X.mg X.base k x C p) (hr : Rm (k + 1) X.A) (hg : Gl X x) (ha : PA X (e :: es) t)
    (hdb : (x == ("__debug__" : Str)) = false := by decide) (he : starEach (e :: es) X.env = (false, eval e X.env) :: starEach es X.env := by rfl) (hpl : (backTo pos (starEach es X.env)).any (·.1) = false := by rfl) :
    PE X (.Call (.Name x ps) (e :: es) [] pos) (tK C p t) := by
  obtain ⟨g, Mk', mg, F⟩ := M
  constructor
  intro pins s σ H Q I h
  apply wpAny_Call_Name_kw
  refine ld_glob I hg mg (PySem.W.callWith_K (h₀ := X.base) I.ok.mod.kin Mk'.kp ?_ he hpl) hdb
  refine thn (ha.run pos pins s σ H _ I h) fun us s1 ⟨vs, H1, I1, r, q⟩ => ⟨I1.kIn, ?_⟩
  have z := q (s1.heap.objs.size + 1) s1.heap.objs.size (I1.hok.fresh (Nat.le_succ _)) (I1.hok.fresh (Nat.le_refl _)) (Nat.ne_of_lt (Nat.lt_succ_self _))
  have I2 := Inv.made (C := C) I1
  have r2 : Vals (V.ref (s1.heap.objs.size + 1) :: vs) (Value.ref (s1.heap.objs.size + 1) :: us) := .cons rfl r
  refine wpAny_call (make_map (f := g) I1.kIn Mk'.makes Mk'.init (beq_iff_eq.mp Mk'.fn) (codeAny_mono (F _ X.stack _ _ _ _ _ E0 (hr.make C us []) (I2.env0.make C us []) r2 z) ?_))
  intro res s' hq
  match res, hq with
  | .error e, hq => exact False.elim hq
  | .ok (.ret u), hq =>
    obtain ⟨v, H', I3, rv, ev, q3⟩ := I2.after hq
    subst ev
    exact ⟨rv, V.ref (s1.heap.objs.size + 1), H', I3, rfl, q3⟩
  | .ok .next, hq => exact False.elim hq
  | .ok .brk, hq => exact False.elim hq
  | .ok .cont, hq => exact False.elim hq
theorem pe_p (hr : Rm (k + 1) X.A) (he : PE X e ta) (hab : attributeBase e f X.env (eval e X.env) = eval e X.env) :
    PE X (.Attribute e f pos) (tP (PrpR X.prog X.w X.K X.mg X.base k) f ta) := by
  constructor
  intro pins s σ H Q I h
  refine attr_of hab (thn (he.run pins s σ H _ I h) ?_)
  rintro u s1 ⟨x, H1, I1, rx, a, C, dx, fs, p, rfl, ea, ⟨q', g, c, hp, F⟩, q⟩
  cases rx
  obtain ⟨mA, O, _, _, _, _⟩ := ins_get I1.hok ea
  obtain ⟨od, J, _⟩ := O.look
  obtain ⟨rest, hrec⟩ := hp.rec_
  have I2 := I1.tok (s1.toks + 1)
  have hc : (PySem.W.clsIn X.K C).isSome = true := by
    obtain ⟨cd, hc, _⟩ := PySem.W.any_some c.hd
    rw [hc]
    rfl
  refine PySem.W.get_bind I1.kIn J (PySem.W.plainGet_of (c.get f)).1 (PySem.W.findObj_data hc hp.at_ hp.get hp.tak) (PySem.W.plainGet_of (c.get f)).2 (wpAny_call (PySem.W.prop_get (s := { s1 with toks := s1.toks + 1 }) I1.kIn hrec ?_))
  refine codeAny_mono (F X.A.in1 X.stack { s1 with toks := s1.toks + 1 } H1 [.ref a] [.ref a] Q E0 hr.in1 I2.env0.in1 (.cons rfl .nil) q) ?_
  intro res s' hq
  match res, hq with
  | .error e, hq => exact False.elim hq
  | .ok (.ret u), hq =>
    obtain ⟨v, H', I3, rv, q3⟩ := I2.after hq
    show wpAny _ _ (handedOut u) _ _ _
    rw [PySem.W.handedOut_of (handed_of rv)]
    exact wpAny_pure ⟨v, H', I3, rv, q3⟩
  | .ok .next, hq => exact False.elim hq
  | .ok .brk, hq => exact False.elim hq
  | .ok .cont, hq => exact False.elim hq
end
end Bn
/-! B2: the head's facts as truth values over the written part, and what each gives. -/
namespace Bn
open PySem PySem.Spec PyProof.Rows L2
open He (ga ma)
abbrev Fr := PySem.W.Frag
/-- the getter of the property f of the class x -/
def pa (K : Fr) (x f : Str) : Addr := match PySem.W.recIn K (ma K (ga K x) f) "property" with
  | some (.ref g :: _) => g
  | _ => 0
/-! ### truth values -/
def bGlo (x : Str) (K : Fr) : Bool := He.eqO (PySem.W.nsIn K mainGlobals x) (some (some (.ref (ga K x)))) && PySem.W.keepIn K (.ref (ga K x))
def bFree (x : Str) (K : Fr) : Bool := He.eqO (PySem.W.nsIn K mainGlobals x) (some none)
def bVal (x : Str) (v : He.Dv) (K : Fr) : Bool := match PySem.W.nsIn K mainGlobals x with
  | some (some u) => He.relB (v.v K) u
  | _ => false
/-- the name x is some object of the module -/
def bRef (x : Str) (K : Fr) : Bool := He.eqO (PySem.W.nsIn K mainGlobals x) (some (some (.ref (ga K x))))
def bTup (x : Str) (vs : List He.Dv) (K : Fr) : Bool := He.tupB K x vs
def bCls (x : Str) (fl : List Str) (K : Fr) : Bool := (PySem.W.plainGet K (ga K x) Str.empty && PySem.W.hasDictIn K (ga K x)) && (PySem.W.plainOver K (ga K x) && He.eqO (PySem.W.findIn K (.ref (ga K x)) "__setattr__") (some (some (.builtin "object.__setattr__")))) &&
  fl.all fun f => He.eqO (PySem.W.findIn K (.ref (ga K x)) f) (some none)
def bIsi (x : Str) (K : Fr) : Bool := He.eqO (PySem.W.findIn K (.ref (ga K x)) "__class__") (some (some (.builtin "object.__class__"))) &&
  (He.eqO (PySem.W.specialIn K (.builtin "object.__class__") "__get__") (some (some (.builtin "getset_descriptor.__get__"))) && (decide (PySem.W.takesIn K (.builtin "object.__class__") = some true) && decide (PySem.W.mroIn K (ga K x) (.type "object") = some true)))
def bKit (x y : Str) (b : Bool) (K : Fr) : Bool := decide (PySem.W.kitOne K (.ref (ga K x)) (.ref (ga K y)) = some b)
/-- the class x has the method m, the def of the class y -/
def bMet (x m y : Str) (K : Fr) : Bool := He.eqO (PySem.W.findIn K (.ref (ga K x)) m) (some (some (.ref (ma K (ga K y) m)))) && (PySem.W.isFn K (.ref (ma K (ga K y) m)) && PySem.W.keepIn K (.ref (ma K (ga K y) m)))
def bMak (x y : Str) (K : Fr) : Bool := (PySem.W.makesIn K (ga K x) && He.eqO (PySem.W.findIn K (.ref (ga K x)) "__init__") (some (some (.ref (ma K (ga K y) "__init__"))))) && (PySem.W.isFn K (.ref (ma K (ga K y) "__init__")) && PySem.W.keepIn K (.ref (ga K x)))
def bPrp (x f : Str) (K : Fr) : Bool := He.eqO (PySem.W.findIn K (.ref (ga K x)) f) (some (some (.ref (ma K (ga K x) f)))) && (He.eqO (PySem.W.specialIn K (.ref (ma K (ga K x) f)) "__get__") (some (some (.builtin "property.__get__"))) &&
  (decide (PySem.W.takesIn K (.ref (ma K (ga K x) f)) = some true) && (match PySem.W.recIn K (ma K (ga K x) f) "property" with
  | some (.ref g :: _) => decide (g = pa K x f)
  | _ => false)))
/-- a constant of the class -/
def bCon (x f : Str) (v : He.Dv) (K : Fr) : Bool := He.conB K x f v
/-! ### what they give -/
structure CF (K : Fr) (C : Addr) (fl : List Str) : Prop where
  cl : Cls K C
  no : ∀ f ∈ fl, NoAttr K C f
structure Isi (K : Fr) (C : Addr) : Prop where
  ha : PySem.W.findIn K (.ref C) "__class__" = some (some (.builtin "object.__class__"))
  hn : PySem.W.specialIn K (.builtin "object.__class__") "__get__" = some (some (.builtin "getset_descriptor.__get__"))
  tk : PySem.W.takesIn K (.builtin "object.__class__") = some true
  hm : PySem.W.mroIn K C (.type "object") = some true
section
variable {K : Fr} {x y f m : Str}
theorem an {a b : Bool} (h : (a && b) = true) : a = true ∧ b = true := Bool.and_eq_true_iff.mp h
theorem cls_of {fl : List Str} (h : bCls x fl K = true) : CF K (ga K x) fl := by
  obtain ⟨h1, h4⟩ := an h
  obtain ⟨h1, h2⟩ := an h1
  obtain ⟨a, b⟩ := an h1
  obtain ⟨c, d⟩ := an h2
  exact ⟨⟨a, b, c, He.eqO_ok d⟩, fun g hg => He.eqO_ok (List.all_eq_true.mp h4 g hg)⟩
theorem isi_of (h : bIsi x K = true) : Isi K (ga K x) := by
  obtain ⟨a, h⟩ := an h
  obtain ⟨b, h⟩ := an h
  obtain ⟨c, d⟩ := an h
  exact ⟨He.eqO_ok a, He.eqO_ok b, of_decide_eq_true c, of_decide_eq_true d⟩
theorem met_of (h : bMet x m y K = true) : Meth K (ga K x) m (ma K (ga K y) m) := by
  obtain ⟨a, h⟩ := an h
  obtain ⟨b, c⟩ := an h
  exact ⟨He.eqO_ok a, b, c⟩
theorem mak_of (h : bMak x y K = true) : Mk K (ga K x) (ma K (ga K y) "__init__") := by
  obtain ⟨a, h⟩ := an h
  obtain ⟨a, b⟩ := an a
  obtain ⟨c, d⟩ := an h
  exact ⟨a, He.eqO_ok b, c, d⟩
theorem prp_of (h : bPrp x f K = true) : PropOf K (ga K x) f (ma K (ga K x) f) (pa K x f) := by
  obtain ⟨a, h⟩ := an h
  obtain ⟨b, h⟩ := an h
  obtain ⟨c, d⟩ := an h
  refine ⟨He.eqO_ok a, He.eqO_ok b, of_decide_eq_true c, ?_⟩
  revert d
  cases PySem.W.recIn K (ma K (ga K x) f) "property" with
  | none => intro d; cases d
  | some l =>
    cases l with
    | nil => intro d; cases d
    | cons v r =>
      cases v with
      | ref g => intro d; exact ⟨r, by rw [of_decide_eq_true d]⟩
      | _ => intro d; cases d
theorem kit_one {b : Bool} (h : bKit x y b K = true) : PySem.W.kitOne K (.ref (ga K x)) (.ref (ga K y)) = some b := of_decide_eq_true h
theorem val_of {v : He.Dv} (h : bVal x v K = true) : ∃ u, PySem.W.nsIn K mainGlobals x = some (some u) ∧ RelV (v.v K) u := by
  unfold bVal at h
  cases e : PySem.W.nsIn K mainGlobals x with
  | none => rw [e] at h; cases h
  | some r =>
    cases r with
    | none => rw [e] at h; cases h
    | some u => rw [e] at h; exact ⟨u, rfl, He.relB_ok h⟩
end
def bSys (K : Fr) : Bool := (K.lookup sysModules).isSome
/-! ### a method that closes over its class (it says super()) -/
abbrev FnS : Type := Option (Str × Str × Arguments × FuncBody × Scope × Addr × Addr)
def fnS (K : Fr) (a : Addr) : FnS := match K.lookup a with
  | some ⟨_, _, .func fd, _⟩ => some (fd.name, fd.qualname, fd.params, fd.body, fd.scope, fd.globals, fd.builtins)
  | _ => none
def DefS (d : He5.DefA) : FnS := some (d.name, d.qual, d.params, .stmts d.body, d.scope, mainGlobals, builtinsNs)
/-- its cell, its code -/
def supW (K : Fr) (a : Addr) : Addr × Addr := match K.lookup a with
  | some ⟨_, _, .func fd, _⟩ => (match fd.closure, fd.code with
    | [(_, cc)], .ref c => (cc, c)
    | _, _ => (0, 0))
  | _ => (0, 0)
def bSupF (file : Str) (D : Str) (q : Str) (f : Fr → Addr) (K : Fr) : Bool := (match K.lookup (f K) with
    | some ⟨_, _, .func fd, _⟩ => decide (fd.closure = [(("__class__" : Str), (supW K (f K)).1)]) && (decide (fd.code = .ref (supW K (f K)).2) && decide (fd.defaults = .none))
    | _ => false) && (PySem.W.codeIn K (.ref (supW K (f K)).2) q && ((match K.lookup (supW K (f K)).2 with
    | some ⟨_, _, .fields vs, _⟩ => (match (vs[2]? : Option Value) with
      | some (Value.str x _) => x == file
      | _ => false)
    | _ => false) && ((match K.lookup (supW K (f K)).1 with
    | some ⟨_, _, .cell (some (.ref d)), _⟩ => decide (d = ga K D)
    | _ => false) && ((PySem.W.clsIn K (ga K D)).isSome && He.eqO (PySem.W.nsIn K cStatics "thirdparty.any") (some none)))))
def bSupC (C D m y : Str) (K : Fr) : Bool := He.eqO (PySem.W.ks_superIn K (ga K C) (ga K D) m) (some (some (.ref (ma K (ga K y) m)))) && (PySem.W.fnIn K (ma K (ga K y) m) && (decide (PySem.W.typeIn K (.ref (ma K (ga K y) m)) = some (.type "function")) && decide (PySem.W.mroIn K (ga K C) (.ref (ga K D)) = some true)))
/-- C's own __len__, __eq__ -/
def bSpc (C m y : Str) (K : Fr) : Bool := He.eqO (PySem.W.findIn K (.ref (ga K C)) m) (some (some (.ref (ma K (ga K y) m)))) && PySem.W.isFn K (.ref (ma K (ga K y) m))
def bNe (C : Str) (K : Fr) : Bool := He.eqO (PySem.W.findIn K (.ref (ga K C)) "__ne__") (some (some (.builtin "object.__ne__"))) && decide (PySem.W.mroIn K (ga K C) (.type "object") = some true)
theorem spc_of {K : Fr} {C m y : Str} (h : bSpc C m y K = true) : PySem.W.findIn K (.ref (ga K C)) m = some (some (.ref (ma K (ga K y) m))) ∧ PySem.W.isFn K (.ref (ma K (ga K y) m)) = true := ⟨He.eqO_ok (an h).1, (an h).2⟩
theorem ne_of_ {K : Fr} {C : Str} (h : bNe C K = true) : PySem.W.findIn K (.ref (ga K C)) "__ne__" = some (some (.builtin "object.__ne__")) ∧ PySem.W.mroIn K (ga K C) (.type "object") = some true := ⟨He.eqO_ok (an h).1, of_decide_eq_true (an h).2⟩
/-! ### the ground: facts and defs by place -/
structure Gd (fb : List (Fr → Bool)) (fn fs : List He5.DefA) (K : Fr) (mg : Str → Option Value) : Prop where
  fact : ∀ (i : Nat) (b : Fr → Bool), fb[i]? = some b → b K = true
  dfn : ∀ (i : Nat) (d : He5.DefA), fn[i]? = some d → ∃ fd, FunD K d.name d.qual d.params d.body d.scope (d.dvs K) (d.kws K) (d.at_ K) fd
  sup : ∀ (i : Nat) (d : He5.DefA), fs[i]? = some d → fnS K (d.at_ K) = DefS d
  ns : ∀ (x : Str) (r : Option Value), PySem.W.nsIn K mainGlobals x = some r → mg x = r
section
variable {fb : List (Fr → Bool)} {fn fs : List He5.DefA} {K : Fr} {mg : Str → Option Value} {x f : Str}
theorem Gd.free (G : Gd fb fn fs K mg) (i : Nat) (h : fb[i]? = some (bFree x) := by rfl) : mg x = none := G.ns x none (He.eqO_ok (G.fact i _ h))
theorem Gd.glo (G : Gd fb fn fs K mg) (i : Nat) (h : fb[i]? = some (bGlo x) := by rfl) : mg x = some (.ref (ga K x)) := G.ns x _ (He.eqO_ok (an (G.fact i _ h)).1)
theorem Gd.kp (G : Gd fb fn fs K mg) (i : Nat) (h : fb[i]? = some (bGlo x) := by rfl) : PySem.W.keepIn K (.ref (ga K x)) = true := (an (G.fact i _ h)).2
theorem Gd.val (G : Gd fb fn fs K mg) (i : Nat) {v : He.Dv} (h : fb[i]? = some (bVal x v) := by rfl) : ∃ u, mg x = some u ∧ RelV (v.v K) u := by
  obtain ⟨u, e, r⟩ := val_of (G.fact i _ h)
  exact ⟨u, G.ns x _ e, r⟩
end
/-! ### the Hook -/
abbrev AlM : Type := He.AlD × List FnS
def obsM (fb : List (Fr → Bool)) (fn fs : List He5.DefA) (K : Fr) : AlM := (((fb.all fun b => b K) && fn.all fun d => d.ok K, fn.map fun d => He5.fnA K (d.at_ K)), fs.map fun d => fnS K (d.at_ K))
def valM (fn fs : List He5.DefA) : AlM := ((true, fn.map He5.DefA.val), fs.map DefS)
/-- the references that a class, a def, a dict, a property holds -/
def rV : Value → List Addr
  | .ref a => [a]
  | _ => []
def rF (o : Option Obj) : List Addr := match o with
  | some ⟨_, _, .func fd, _⟩ => rV fd.code ++ rV fd.defaults ++ rV fd.kwdefaults ++ fd.closure.map (·.2)
  | some ⟨_, _, .cls cd, _⟩ => [cd.ns]
  | some ⟨.type c, _, .fields vs, _⟩ => if c == "property" then vs.toList.flatMap rV else []
  | _ => []
def rD (o : Option Obj) : List Addr := match o with
  | some ⟨_, _, .dict es _, _⟩ => es.toList.flatMap fun e => rV e.val
  | _ => []
def asM (g : Addr → Option Obj) : List Addr :=
  let l1 := rD (g mainGlobals)
  let l2 := l1.flatMap fun a => rF (g a)
  let l3 := l2.flatMap fun a => rD (g a)
  let l4 := l3.flatMap fun a => rF (g a)
  let l5 := l4.flatMap fun a => rF (g a)
  mainGlobals :: cStatics :: sysModules :: (l1 ++ l2 ++ l3 ++ l4 ++ l5)
def frM (g : Addr → Option Obj) : Fr := He.frG g (asM g)
def hookM (fb : List (Fr → Bool)) (fn fs : List He5.DefA) : PySem.W.Hook where
  α := AlM
  obs := fun s => obsM fb fn fs (frM s.heap.get?)
  val := fun _ => valM fn fs
  says := fun _ h => ∃ K : Fr, K.In h ∧ obsM fb fn fs K = valM fn fs
  of := fun _ _ e => ⟨_, He.frG_in, e⟩
  keeps := fun _ _ _ ⟨K, hK, c⟩ k => ⟨K, PySem.W.Frag.In.keeps hK k, c⟩
def obT (fb : List (Fr → Bool)) (fn fs : List He5.DefA) (s : PySem.W.SharedT) : AlM := obsM fb fn fs (frM (HandSHeadRun.getT s))
theorem obT_eq (fb : List (Fr → Bool)) (fn fs : List He5.DefA) (s : PySem.W.SharedT) : obT fb fn fs s = (hookM fb fn fs).obs s.abs := by
  have e : HandSHeadRun.getT s = s.abs.heap.get? := funext fun a => HandSHeadRun.getT_eq s a
  unfold obT
  rw [e]
  rfl
theorem gd_of {fb : List (Fr → Bool)} {fn fs : List He5.DefA} {K : Fr} {mg : Str → Option Value} {h : Heap} (X : K.In h) (N : h.Ns mainGlobals mg) (c : obsM fb fn fs K = valM fn fs) : Gd fb fn fs K mg := by
  have c1 : ((fb.all fun b => b K) && fn.all fun d => d.ok K) = true := congrArg (fun z : AlM => z.1.1) c
  have c2 : fn.map (fun d => He5.fnA K (d.at_ K)) = fn.map He5.DefA.val := congrArg (fun z : AlM => z.1.2) c
  have c5 : fs.map (fun d => fnS K (d.at_ K)) = fs.map DefS := congrArg (fun z : AlM => z.2) c
  obtain ⟨c3, c4⟩ := an c1
  refine ⟨fun i b hb => List.all_eq_true.mp c3 b (List.mem_of_getElem? hb), fun i d hd => ?_, fun i d hd => ?_, fun x r e => ?_⟩
  · have e2 : (fn.map fun d => He5.fnA K (d.at_ K))[i]? = (fn.map He5.DefA.val)[i]? := by rw [c2]
    rw [List.getElem?_map, List.getElem?_map, hd] at e2
    exact He5.DefA.funD (Option.some.inj e2) (List.all_eq_true.mp c4 d (List.mem_of_getElem? hd))
  · have e2 : (fs.map fun d => fnS K (d.at_ K))[i]? = (fs.map DefS)[i]? := by rw [c5]
    rw [List.getElem?_map, List.getElem?_map, hd] at e2
    exact Option.some.inj e2
  · cases r with
    | none => exact PySem.W.mg_none_of X N e
    | some u => exact PySem.W.mg_of X N e
end Bn
/-! C1: where the program's defs stand, their names; the facts of the head (printed by gen/c1.py). -/
namespace Bn
open PySem PySem.Spec PyProof.Rows L2
open He (ga ma)
def top (i : Nat) : Stmt := PySem.Challenge.pw_belowneeds_k31_whole_cuts_by_turns.main.body.getD i (.Pass ⟨0, 0, 0, 0⟩)
def inS (s : Stmt) (j : Nat) : Stmt := match s with
  | .ClassDef _ _ _ b _ _ _ _ _ _ _ => b.getD j (.Pass ⟨0, 0, 0, 0⟩)
  | _ => .Pass ⟨0, 0, 0, 0⟩
abbrev s_is_integer : Stmt := top 25
abbrev N_is_integer : List Str := ["value"]
abbrev p_is_integer : List Str := ["value"]
theorem sc_is_integer : FnScope N_is_integer p_is_integer (defScope s_is_integer) := ⟨rfl, rfl, rfl, by decide +kernel, rfl, by decide +kernel, by decide +kernel⟩
abbrev s_is_list : Stmt := top 26
abbrev N_is_list : List Str := ["value"]
abbrev p_is_list : List Str := ["value"]
theorem sc_is_list : FnScope N_is_list p_is_list (defScope s_is_list) := ⟨rfl, rfl, rfl, by decide +kernel, rfl, by decide +kernel, by decide +kernel⟩
abbrev s_is_name : Stmt := top 27
abbrev N_is_name : List Str := ["value", "sign"]
abbrev p_is_name : List Str := ["value"]
theorem sc_is_name : FnScope N_is_name p_is_name (defScope s_is_name) := ⟨rfl, rfl, rfl, by decide +kernel, rfl, by decide +kernel, by decide +kernel⟩
abbrev s_is_value : Stmt := top 28
abbrev N_is_value : List Str := ["value", "modulus"]
abbrev p_is_value : List Str := ["value", "modulus"]
theorem sc_is_value : FnScope N_is_value p_is_value (defScope s_is_value) := ⟨rfl, rfl, rfl, by decide +kernel, rfl, by decide +kernel, by decide +kernel⟩
abbrev s_row_led_to : Stmt := top 30
abbrev N_row_led_to : List Str := ["row", "where"]
abbrev p_row_led_to : List Str := ["row", "where"]
theorem sc_row_led_to : FnScope N_row_led_to p_row_led_to (defScope s_row_led_to) := ⟨rfl, rfl, rfl, by decide +kernel, rfl, by decide +kernel, by decide +kernel⟩
abbrev s_want_column : Stmt := top 35
abbrev N_want_column : List Str := ["sheet", "column"]
abbrev p_want_column : List Str := ["sheet", "column"]
theorem sc_want_column : FnScope N_want_column p_want_column (defScope s_want_column) := ⟨rfl, rfl, rfl, by decide +kernel, rfl, by decide +kernel, by decide +kernel⟩
abbrev s_want_formula : Stmt := top 46
abbrev N_want_formula : List Str := ["value"]
abbrev p_want_formula : List Str := ["value"]
theorem sc_want_formula : FnScope N_want_formula p_want_formula (defScope s_want_formula) := ⟨rfl, rfl, rfl, by decide +kernel, rfl, by decide +kernel, by decide +kernel⟩
abbrev s_want_chosen : Stmt := top 58
abbrev N_want_chosen : List Str := ["value", "number", "one", "other"]
abbrev p_want_chosen : List Str := ["value"]
theorem sc_want_chosen : FnScope N_want_chosen p_want_chosen (defScope s_want_chosen) := ⟨rfl, rfl, rfl, by decide +kernel, rfl, by decide +kernel, by decide +kernel⟩
abbrev s_want_modulus : Stmt := top 70
abbrev N_want_modulus : List Str := ["modulus"]
abbrev p_want_modulus : List Str := ["modulus"]
theorem sc_want_modulus : FnScope N_want_modulus p_want_modulus (defScope s_want_modulus) := ⟨rfl, rfl, rfl, by decide +kernel, rfl, by decide +kernel, by decide +kernel⟩
abbrev s_want_columns : Stmt := top 71
abbrev N_want_columns : List Str := ["columns", "position", "column"]
abbrev p_want_columns : List Str := ["columns"]
theorem sc_want_columns : FnScope N_want_columns p_want_columns (defScope s_want_columns) := ⟨rfl, rfl, rfl, by decide +kernel, rfl, by decide +kernel, by decide +kernel⟩
abbrev s_has_columns : Stmt := top 72
abbrev N_has_columns : List Str := ["value", "columns", "column"]
abbrev p_has_columns : List Str := ["value", "columns"]
theorem sc_has_columns : FnScope N_has_columns p_has_columns (defScope s_has_columns) := ⟨rfl, rfl, rfl, by decide +kernel, rfl, by decide +kernel, by decide +kernel⟩
abbrev s_want_top : Stmt := top 73
abbrev N_want_top : List Str := ["top", "columns", "modulus", "column"]
abbrev p_want_top : List Str := ["top", "columns", "modulus"]
theorem sc_want_top : FnScope N_want_top p_want_top (defScope s_want_top) := ⟨rfl, rfl, rfl, by decide +kernel, rfl, by decide +kernel, by decide +kernel⟩
abbrev s_does_fit : Stmt := top 74
abbrev N_does_fit : List Str := ["value", "columns", "modulus"]
abbrev p_does_fit : List Str := ["value", "columns", "modulus"]
theorem sc_does_fit : FnScope N_does_fit p_does_fit (defScope s_does_fit) := ⟨rfl, rfl, rfl, by decide +kernel, rfl, by decide +kernel, by decide +kernel⟩
abbrev s_want_kinds : Stmt := top 75
abbrev N_want_kinds : List Str := ["kinds", "columns", "modulus", "kind", "column"]
abbrev p_want_kinds : List Str := ["kinds", "columns", "modulus"]
theorem sc_want_kinds : FnScope N_want_kinds p_want_kinds (defScope s_want_kinds) := ⟨rfl, rfl, rfl, by decide +kernel, rfl, by decide +kernel, by decide +kernel⟩
abbrev s_is_place : Stmt := top 76
abbrev N_is_place : List Str := ["value", "many"]
abbrev p_is_place : List Str := ["value", "many"]
theorem sc_is_place : FnScope N_is_place p_is_place (defScope s_is_place) := ⟨rfl, rfl, rfl, by decide +kernel, rfl, by decide +kernel, by decide +kernel⟩
abbrev s_is_place_row : Stmt := top 77
abbrev N_is_place_row : List Str := ["value", "kinds", "many", "kind"]
abbrev p_is_place_row : List Str := ["value", "kinds", "many"]
theorem sc_is_place_row : FnScope N_is_place_row p_is_place_row (defScope s_is_place_row) := ⟨rfl, rfl, rfl, by decide +kernel, rfl, by decide +kernel, by decide +kernel⟩
abbrev s_places_reached : Stmt := top 78
abbrev N_places_reached : List Str := ["rows", "found", "waiting", "row", "place"]
abbrev p_places_reached : List Str := ["rows"]
theorem sc_places_reached : FnScope N_places_reached p_places_reached (defScope s_places_reached) := ⟨rfl, rfl, rfl, by decide +kernel, rfl, by decide +kernel, by decide +kernel⟩
abbrev s_want_plan : Stmt := top 79
abbrev N_want_plan : List Str := ["plan", "kinds", "place", "row", "reached"]
abbrev p_want_plan : List Str := ["plan", "kinds"]
theorem sc_want_plan : FnScope N_want_plan p_want_plan (defScope s_want_plan) := ⟨rfl, rfl, rfl, by decide +kernel, rfl, by decide +kernel, by decide +kernel⟩
abbrev s_law_pot : Stmt := top 82
abbrev N_law_pot : List Str := ["_law_script", "_law_k", "_law_cell"]
abbrev p_law_pot : List Str := ["_law_script", "_law_k"]
theorem sc_law_pot : FnScope N_law_pot p_law_pot (defScope s_law_pot) := ⟨rfl, rfl, rfl, by decide +kernel, rfl, by decide +kernel, by decide +kernel⟩
abbrev s_law_draw : Stmt := top 83
abbrev N_law_draw : List Str := ["_law_pot_here", "_law_many", "_law_digit"]
abbrev p_law_draw : List Str := ["_law_pot_here", "_law_many"]
theorem sc_law_draw : FnScope N_law_draw p_law_draw (defScope s_law_draw) := ⟨rfl, rfl, rfl, by decide +kernel, rfl, by decide +kernel, by decide +kernel⟩
abbrev s_law_pick : Stmt := top 84
abbrev N_law_pick : List Str := ["_law_pot_here", "_law_some"]
abbrev p_law_pick : List Str := ["_law_pot_here", "_law_some"]
theorem sc_law_pick : FnScope N_law_pick p_law_pick (defScope s_law_pick) := ⟨rfl, rfl, rfl, by decide +kernel, rfl, by decide +kernel, by decide +kernel⟩
abbrev s_law_taken : Stmt := top 85
abbrev N_law_taken : List Str := ["_law_pot_here", "_law_menu", "_law_many", "_law_left", "_law_found", "_law_turn"]
abbrev p_law_taken : List Str := ["_law_pot_here", "_law_menu", "_law_many"]
theorem sc_law_taken : FnScope N_law_taken p_law_taken (defScope s_law_taken) := ⟨rfl, rfl, rfl, by decide +kernel, rfl, by decide +kernel, by decide +kernel⟩
abbrev s_law_leaf : Stmt := top 86
abbrev N_law_leaf : List Str := ["_law_pot_here", "_law_modulus", "_law_spots", "_law_way"]
abbrev p_law_leaf : List Str := ["_law_pot_here", "_law_modulus", "_law_spots"]
theorem sc_law_leaf : FnScope N_law_leaf p_law_leaf (defScope s_law_leaf) := ⟨rfl, rfl, rfl, by decide +kernel, rfl, by decide +kernel, by decide +kernel⟩
abbrev s_law_part : Stmt := top 87
abbrev N_law_part : List Str := ["_law_pot_here", "_law_modulus", "_law_spots", "_law_nodes", "_law_way", "_law_first", "_law_second", "_law_chosen", "_law_test", "_law_then", "_law_left", "_law_word_here", "_law_value"]
abbrev p_law_part : List Str := ["_law_pot_here", "_law_modulus", "_law_spots", "_law_nodes"]
theorem sc_law_part : FnScope N_law_part p_law_part (defScope s_law_part) := ⟨rfl, rfl, rfl, by decide +kernel, rfl, by decide +kernel, by decide +kernel⟩
abbrev s_law_plan : Stmt := top 88
abbrev N_law_plan : List Str := ["_law_pot_here", "_law_kinds", "_law_places", "_law_found", "_law_spot", "_law_some", "_law_row", "_law_kind"]
abbrev p_law_plan : List Str := ["_law_pot_here", "_law_kinds", "_law_places"]
theorem sc_law_plan : FnScope N_law_plan p_law_plan (defScope s_law_plan) := ⟨rfl, rfl, rfl, by decide +kernel, rfl, by decide +kernel, by decide +kernel⟩
abbrev s_law_sheet : Stmt := top 89
abbrev N_law_sheet : List Str := ["_law_pot_here", "_law_modulus", "_law_sizes", "_law_ups", "_law_downs", "_law_nodes", "_law_menu", "_law_columns", "_law_kinds", "_law_near", "_law_far", "_law_table", "_law_kind", "_law_at", "_law_column", "_law_own", "_law_row", "_law_top", "_law_plan_here"]
abbrev p_law_sheet : List Str := ["_law_pot_here", "_law_modulus", "_law_sizes", "_law_ups", "_law_downs", "_law_nodes"]
theorem sc_law_sheet : FnScope N_law_sheet p_law_sheet (defScope s_law_sheet) := ⟨rfl, rfl, rfl, by decide +kernel, rfl, by decide +kernel, by decide +kernel⟩
abbrev s_law_formula : Stmt := top 90
abbrev N_law_formula : List Str := ["_law_part_here", "_law_left", "_law_right_here"]
abbrev p_law_formula : List Str := ["_law_part_here"]
theorem sc_law_formula : FnScope N_law_formula p_law_formula (defScope s_law_formula) := ⟨rfl, rfl, rfl, by decide +kernel, rfl, by decide +kernel, by decide +kernel⟩
abbrev s_law_made : Stmt := top 91
abbrev N_law_made : List Str := ["_law_model", "_law_kinds", "_law_kind", "_law_parts", "_law_column"]
abbrev p_law_made : List Str := ["_law_model"]
theorem sc_law_made : FnScope N_law_made p_law_made (defScope s_law_made) := ⟨rfl, rfl, rfl, by decide +kernel, rfl, by decide +kernel, by decide +kernel⟩
abbrev s_law_joined : Stmt := top 92
abbrev N_law_joined : List Str := ["_law_modulus", "_law_word_here", "_law_one", "_law_other"]
abbrev p_law_joined : List Str := ["_law_modulus", "_law_word_here", "_law_one", "_law_other"]
theorem sc_law_joined : FnScope N_law_joined p_law_joined (defScope s_law_joined) := ⟨rfl, rfl, rfl, by decide +kernel, rfl, by decide +kernel, by decide +kernel⟩
abbrev s_law_worked : Stmt := top 93
abbrev N_law_worked : List Str := ["_law_modulus", "_law_part_here", "_law_above", "_law_own", "_law_below", "_law_row", "_law_value", "_law_first", "_law_second"]
abbrev p_law_worked : List Str := ["_law_modulus", "_law_part_here", "_law_above", "_law_own", "_law_below"]
theorem sc_law_worked : FnScope N_law_worked p_law_worked (defScope s_law_worked) := ⟨rfl, rfl, rfl, by decide +kernel, rfl, by decide +kernel, by decide +kernel⟩
abbrev s_law_beside : Stmt := top 94
abbrev N_law_beside : List Str := ["_law_model", "_law_rows", "_law_at", "_law_last", "_law_above", "_law_below"]
abbrev p_law_beside : List Str := ["_law_model", "_law_rows", "_law_at", "_law_last"]
theorem sc_law_beside : FnScope N_law_beside p_law_beside (defScope s_law_beside) := ⟨rfl, rfl, rfl, by decide +kernel, rfl, by decide +kernel, by decide +kernel⟩
abbrev s_law_cut : Stmt := top 95
abbrev N_law_cut : List Str := ["_law_model", "_law_word_here", "_law_last", "_law_rows", "_law_turn", "_law_changed", "_law_at", "_law_own", "_law_above", "_law_below", "_law_column", "_law_part_here", "_law_kind"]
abbrev p_law_cut : List Str := ["_law_model", "_law_word_here", "_law_last"]
theorem sc_law_cut : FnScope N_law_cut p_law_cut (defScope s_law_cut) := ⟨rfl, rfl, rfl, by decide +kernel, rfl, by decide +kernel, by decide +kernel⟩
abbrev s_law_words : Stmt := top 96
abbrev N_law_words : List Str := ["_law_model", "_law_spot", "_law_many", "_law_found", "_law_turn", "_law_longer", "_law_word_here", "_law_here", "_law_kind"]
abbrev p_law_words : List Str := ["_law_model", "_law_spot", "_law_many"]
theorem sc_law_words : FnScope N_law_words p_law_words (defScope s_law_words) := ⟨rfl, rfl, rfl, by decide +kernel, rfl, by decide +kernel, by decide +kernel⟩
abbrev s_law_word : Stmt := top 97
abbrev N_law_word : List Str := ["_law_pot_here", "_law_model", "_law_many", "_law_word_here", "_law_here", "_law_turn", "_law_kind"]
abbrev p_law_word : List Str := ["_law_pot_here", "_law_model", "_law_many"]
theorem sc_law_word : FnScope N_law_word p_law_word (defScope s_law_word) := ⟨rfl, rfl, rfl, by decide +kernel, rfl, by decide +kernel, by decide +kernel⟩
abbrev s_law_any : Stmt := top 98
abbrev N_law_any : List Str := ["_law_pot_here", "_law_modulus", "_law_sizes"]
abbrev p_law_any : List Str := ["_law_pot_here"]
theorem sc_law_any : FnScope N_law_any p_law_any (defScope s_law_any) := ⟨rfl, rfl, rfl, by decide +kernel, rfl, by decide +kernel, by decide +kernel⟩
abbrev s_law_is_right : Stmt := top 99
abbrev N_law_is_right : List Str := ["_law_cut_here", "_law_made_here", "_law_model", "_law_word_here", "_law_rows", "_law_told", "_law_at", "_law_found", "_law_column"]
abbrev p_law_is_right : List Str := ["_law_cut_here", "_law_made_here", "_law_model", "_law_word_here", "_law_rows"]
theorem sc_law_is_right : FnScope N_law_is_right p_law_is_right (defScope s_law_is_right) := ⟨rfl, rfl, rfl, by decide +kernel, rfl, by decide +kernel, by decide +kernel⟩
abbrev s_law_right : Stmt := top 100
abbrev N_law_right : List Str := ["_law_pot_here", "_law_model", "_law_made_here", "_law_words_here", "_law_many", "_law_handed", "_law_cuts", "_law_dues", "_law_word_here", "_law_turn", "_law_cut_here", "_law_rows"]
abbrev p_law_right : List Str := ["_law_pot_here"]
theorem sc_law_right : FnScope N_law_right p_law_right (defScope s_law_right) := ⟨rfl, rfl, rfl, by decide +kernel, rfl, by decide +kernel, by decide +kernel⟩
abbrev s_law : Stmt := top 101
abbrev N_law : List Str := ["_law_script", "_law_k"]
abbrev p_law : List Str := ["_law_script"]
theorem sc_law : FnScope N_law p_law (defScope s_law) := ⟨rfl, rfl, rfl, by decide +kernel, rfl, by decide +kernel, by decide +kernel⟩
abbrev s_Solver_init : Stmt := inS (top 31) 0
abbrev N_Solver_init : List Str := ["self", "sheet", "word", "foot", "row"]
abbrev p_Solver_init : List Str := ["self", "sheet", "word", "foot"]
theorem sc_Solver_init : FnScope N_Solver_init p_Solver_init (defScope s_Solver_init) := ⟨rfl, rfl, rfl, by decide +kernel, rfl, by decide +kernel, by decide +kernel⟩
abbrev s_Solver_cells : Stmt := inS (top 31) 1
abbrev N_Solver_cells : List Str := ["self", "row", "column"]
abbrev p_Solver_cells : List Str := ["self"]
theorem sc_Solver_cells : FnScope N_Solver_cells p_Solver_cells (defScope s_Solver_cells) := ⟨rfl, rfl, rfl, by decide +kernel, rfl, by decide +kernel, by decide +kernel⟩
abbrev s_Solver_formula_at : Stmt := inS (top 31) 2
abbrev N_Solver_formula_at : List Str := ["self", "cell"]
abbrev p_Solver_formula_at : List Str := ["self", "cell"]
theorem sc_Solver_formula_at : FnScope N_Solver_formula_at p_Solver_formula_at (defScope s_Solver_formula_at) := ⟨rfl, rfl, rfl, by decide +kernel, rfl, by decide +kernel, by decide +kernel⟩
abbrev s_Solver_beside : Stmt := inS (top 31) 3
abbrev N_Solver_beside : List Str := ["self", "row"]
abbrev p_Solver_beside : List Str := ["self", "row"]
theorem sc_Solver_beside : FnScope N_Solver_beside p_Solver_beside (defScope s_Solver_beside) := ⟨rfl, rfl, rfl, by decide +kernel, rfl, by decide +kernel, by decide +kernel⟩
abbrev s_Solver_solve : Stmt := inS (top 31) 4
abbrev N_Solver_solve : List Str := ["self", "modulus", "waiting", "behind", "cell", "formula", "parts", "need", "goal"]
abbrev p_Solver_solve : List Str := ["self"]
theorem sc_Solver_solve : FnScope N_Solver_solve p_Solver_solve (defScope s_Solver_solve) := ⟨rfl, rfl, rfl, by decide +kernel, rfl, by decide +kernel, by decide +kernel⟩
abbrev s_Solver_value_of : Stmt := inS (top 31) 5
abbrev N_Solver_value_of : List Str := ["self", "cell"]
abbrev p_Solver_value_of : List Str := ["self", "cell"]
theorem sc_Solver_value_of : FnScope N_Solver_value_of p_Solver_value_of (defScope s_Solver_value_of) := ⟨rfl, rfl, rfl, by decide +kernel, rfl, by decide +kernel, by decide +kernel⟩
abbrev s_Solver_led_to : Stmt := inS (top 31) 6
abbrev N_Solver_led_to : List Str := ["self", "cell", "parts", "found", "number", "where", "column", "row"]
abbrev p_Solver_led_to : List Str := ["self", "cell"]
theorem sc_Solver_led_to : FnScope N_Solver_led_to p_Solver_led_to (defScope s_Solver_led_to) := ⟨rfl, rfl, rfl, by decide +kernel, rfl, by decide +kernel, by decide +kernel⟩
abbrev s_Solver_round_count : Stmt := inS (top 31) 7
abbrev N_Solver_round_count : List Str := ["self", "found", "cell", "other"]
abbrev p_Solver_round_count : List Str := ["self"]
theorem sc_Solver_round_count : FnScope N_Solver_round_count p_Solver_round_count (defScope s_Solver_round_count) := ⟨rfl, rfl, rfl, by decide +kernel, rfl, by decide +kernel, by decide +kernel⟩
abbrev s_Cut_init : Stmt := inS (top 36) 0
abbrev N_Cut_init : List Str := ["self", "sheet", "word", "foot", "column"]
abbrev p_Cut_init : List Str := ["self", "sheet", "word", "foot"]
theorem sc_Cut_init : FnScope N_Cut_init p_Cut_init (defScope s_Cut_init) := ⟨rfl, rfl, rfl, by decide +kernel, rfl, by decide +kernel, by decide +kernel⟩
abbrev s_Cut_sheet : Stmt := inS (top 36) 1
abbrev N_Cut_sheet : List Str := ["self"]
abbrev p_Cut_sheet : List Str := ["self"]
theorem sc_Cut_sheet : FnScope N_Cut_sheet p_Cut_sheet (defScope s_Cut_sheet) := ⟨rfl, rfl, rfl, by decide +kernel, rfl, by decide +kernel, by decide +kernel⟩
abbrev s_Cut_word : Stmt := inS (top 36) 2
abbrev N_Cut_word : List Str := ["self"]
abbrev p_Cut_word : List Str := ["self"]
theorem sc_Cut_word : FnScope N_Cut_word p_Cut_word (defScope s_Cut_word) := ⟨rfl, rfl, rfl, by decide +kernel, rfl, by decide +kernel, by decide +kernel⟩
abbrev s_Cut_foot : Stmt := inS (top 36) 3
abbrev N_Cut_foot : List Str := ["self"]
abbrev p_Cut_foot : List Str := ["self"]
theorem sc_Cut_foot : FnScope N_Cut_foot p_Cut_foot (defScope s_Cut_foot) := ⟨rfl, rfl, rfl, by decide +kernel, rfl, by decide +kernel, by decide +kernel⟩
abbrev s_Cut_len : Stmt := inS (top 36) 5
abbrev N_Cut_len : List Str := ["self"]
abbrev p_Cut_len : List Str := ["self"]
theorem sc_Cut_len : FnScope N_Cut_len p_Cut_len (defScope s_Cut_len) := ⟨rfl, rfl, rfl, by decide +kernel, rfl, by decide +kernel, by decide +kernel⟩
abbrev s_Cut_want_cell : Stmt := inS (top 36) 6
abbrev N_Cut_want_cell : List Str := ["self", "row", "column"]
abbrev p_Cut_want_cell : List Str := ["self", "row", "column"]
theorem sc_Cut_want_cell : FnScope N_Cut_want_cell p_Cut_want_cell (defScope s_Cut_want_cell) := ⟨rfl, rfl, rfl, by decide +kernel, rfl, by decide +kernel, by decide +kernel⟩
abbrev s_Cut_want_row : Stmt := inS (top 36) 7
abbrev N_Cut_want_row : List Str := ["self", "row"]
abbrev p_Cut_want_row : List Str := ["self", "row"]
theorem sc_Cut_want_row : FnScope N_Cut_want_row p_Cut_want_row (defScope s_Cut_want_row) := ⟨rfl, rfl, rfl, by decide +kernel, rfl, by decide +kernel, by decide +kernel⟩
abbrev s_Cut_value_at : Stmt := inS (top 36) 8
abbrev N_Cut_value_at : List Str := ["self", "row", "column"]
abbrev p_Cut_value_at : List Str := ["self", "row", "column"]
theorem sc_Cut_value_at : FnScope N_Cut_value_at p_Cut_value_at (defScope s_Cut_value_at) := ⟨rfl, rfl, rfl, by decide +kernel, rfl, by decide +kernel, by decide +kernel⟩
abbrev s_Cut_row_values : Stmt := inS (top 36) 9
abbrev N_Cut_row_values : List Str := ["self", "row", "column"]
abbrev p_Cut_row_values : List Str := ["self", "row"]
theorem sc_Cut_row_values : FnScope N_Cut_row_values p_Cut_row_values (defScope s_Cut_row_values) := ⟨rfl, rfl, rfl, by decide +kernel, rfl, by decide +kernel, by decide +kernel⟩
abbrev s_Formula_init : Stmt := inS (top 47) 0
abbrev N_Formula_init : List Str := ["self", "parts", "inner", "depth", "part", "node"]
abbrev p_Formula_init : List Str := ["self", "parts"]
theorem sc_Formula_init : FnScope N_Formula_init p_Formula_init (defScope s_Formula_init) := ⟨rfl, rfl, rfl, by decide +kernel, rfl, by decide +kernel, by decide +kernel⟩
abbrev s_Formula_nodes : Stmt := inS (top 47) 3
abbrev N_Formula_nodes : List Str := ["self", "number", "node"]
abbrev p_Formula_nodes : List Str := ["self"]
theorem sc_Formula_nodes : L2.GScope N_Formula_nodes p_Formula_nodes (defScope s_Formula_nodes) := ⟨rfl, rfl, rfl, by decide +kernel, rfl, by decide +kernel, by decide +kernel⟩
abbrev s_Formula_fits : Stmt := inS (top 47) 5
abbrev N_Formula_fits : List Str := ["self", "modulus", "columns", "number", "node"]
abbrev p_Formula_fits : List Str := ["self", "modulus", "columns"]
theorem sc_Formula_fits : FnScope N_Formula_fits p_Formula_fits (defScope s_Formula_fits) := ⟨rfl, rfl, rfl, by decide +kernel, rfl, by decide +kernel, by decide +kernel⟩
abbrev s_Formula_fits_itself : Stmt := inS (top 47) 6
abbrev N_Formula_fits_itself : List Str := ["self", "modulus", "columns"]
abbrev p_Formula_fits_itself : List Str := ["self", "modulus", "columns"]
theorem sc_Formula_fits_itself : FnScope N_Formula_fits_itself p_Formula_fits_itself (defScope s_Formula_fits_itself) := ⟨rfl, rfl, rfl, by decide +kernel, rfl, by decide +kernel, by decide +kernel⟩
abbrev s_Formula_work_out : Stmt := inS (top 47) 10
abbrev N_Formula_work_out : List Str := ["self", "modulus", "above", "own", "below"]
abbrev p_Formula_work_out : List Str := ["self", "modulus", "above", "own", "below"]
theorem sc_Formula_work_out : FnScope N_Formula_work_out p_Formula_work_out (defScope s_Formula_work_out) := ⟨rfl, rfl, rfl, by decide +kernel, rfl, by decide +kernel, by decide +kernel⟩
abbrev s_Formula_need : Stmt := inS (top 47) 11
abbrev N_Formula_need : List Str := ["self", "modulus", "above", "own", "below", "value", "met"]
abbrev p_Formula_need : List Str := ["self", "modulus", "above", "own", "below"]
theorem sc_Formula_need : FnScope N_Formula_need p_Formula_need (defScope s_Formula_need) := ⟨rfl, rfl, rfl, by decide +kernel, rfl, by decide +kernel, by decide +kernel⟩
abbrev s_Formula_met : Stmt := inS (top 47) 12
abbrev N_Formula_met : List Str := ["self", "modulus", "above", "own", "below"]
abbrev p_Formula_met : List Str := ["self", "modulus", "above", "own", "below"]
theorem sc_Formula_met : FnScope N_Formula_met p_Formula_met (defScope s_Formula_met) := ⟨rfl, rfl, rfl, by decide +kernel, rfl, by decide +kernel, by decide +kernel⟩
abbrev s_Formula_len : Stmt := inS (top 47) 14
abbrev N_Formula_len : List Str := ["self"]
abbrev p_Formula_len : List Str := ["self"]
theorem sc_Formula_len : FnScope N_Formula_len p_Formula_len (defScope s_Formula_len) := ⟨rfl, rfl, rfl, by decide +kernel, rfl, by decide +kernel, by decide +kernel⟩
abbrev s_Number_init : Stmt := inS (top 48) 0
abbrev N_Number_init : List Str := ["self", "value", "__class__"]
abbrev p_Number_init : List Str := ["self", "value"]
theorem sc_Number_init : NdefX.NScope N_Number_init p_Number_init ["__class__"] (defScope s_Number_init) := NdefX.nscope_by (by decide +kernel)
abbrev s_Number_fits_itself : Stmt := inS (top 48) 1
abbrev N_Number_fits_itself : List Str := ["self", "modulus", "columns"]
abbrev p_Number_fits_itself : List Str := ["self", "modulus", "columns"]
theorem sc_Number_fits_itself : FnScope N_Number_fits_itself p_Number_fits_itself (defScope s_Number_fits_itself) := ⟨rfl, rfl, rfl, by decide +kernel, rfl, by decide +kernel, by decide +kernel⟩
abbrev s_Number_worked : Stmt := inS (top 48) 2
abbrev N_Number_worked : List Str := ["self", "modulus", "rows", "number"]
abbrev p_Number_worked : List Str := ["self", "modulus", "rows", "number"]
theorem sc_Number_worked : FnScope N_Number_worked p_Number_worked (defScope s_Number_worked) := ⟨rfl, rfl, rfl, by decide +kernel, rfl, by decide +kernel, by decide +kernel⟩
abbrev s_Reference_init : Stmt := inS (top 49) 2
abbrev N_Reference_init : List Str := ["self", "column", "__class__"]
abbrev p_Reference_init : List Str := ["self", "column"]
theorem sc_Reference_init : NdefX.NScope N_Reference_init p_Reference_init ["__class__"] (defScope s_Reference_init) := NdefX.nscope_by (by decide +kernel)
abbrev s_Reference_fits_itself : Stmt := inS (top 49) 4
abbrev N_Reference_fits_itself : List Str := ["self", "modulus", "columns"]
abbrev p_Reference_fits_itself : List Str := ["self", "modulus", "columns"]
theorem sc_Reference_fits_itself : FnScope N_Reference_fits_itself p_Reference_fits_itself (defScope s_Reference_fits_itself) := ⟨rfl, rfl, rfl, by decide +kernel, rfl, by decide +kernel, by decide +kernel⟩
abbrev s_Reference_worked : Stmt := inS (top 49) 5
abbrev N_Reference_worked : List Str := ["self", "modulus", "rows", "number"]
abbrev p_Reference_worked : List Str := ["self", "modulus", "rows", "number"]
theorem sc_Reference_worked : FnScope N_Reference_worked p_Reference_worked (defScope s_Reference_worked) := ⟨rfl, rfl, rfl, by decide +kernel, rfl, by decide +kernel, by decide +kernel⟩
abbrev s_Pair_init : Stmt := inS (top 53) 2
abbrev N_Pair_init : List Str := ["self", "left", "right", "__class__"]
abbrev p_Pair_init : List Str := ["self", "left", "right"]
theorem sc_Pair_init : NdefX.NScope N_Pair_init p_Pair_init ["__class__"] (defScope s_Pair_init) := NdefX.nscope_by (by decide +kernel)
abbrev s_Pair_worked : Stmt := inS (top 53) 6
abbrev N_Pair_worked : List Str := ["self", "modulus", "rows", "number", "left", "right", "first", "met", "second", "more"]
abbrev p_Pair_worked : List Str := ["self", "modulus", "rows", "number"]
theorem sc_Pair_worked : FnScope N_Pair_worked p_Pair_worked (defScope s_Pair_worked) := ⟨rfl, rfl, rfl, by decide +kernel, rfl, by decide +kernel, by decide +kernel⟩
abbrev s_Plus_joined : Stmt := inS (top 54) 2
abbrev N_Plus_joined : List Str := ["self", "modulus", "first", "second"]
abbrev p_Plus_joined : List Str := ["self", "modulus", "first", "second"]
theorem sc_Plus_joined : FnScope N_Plus_joined p_Plus_joined (defScope s_Plus_joined) := ⟨rfl, rfl, rfl, by decide +kernel, rfl, by decide +kernel, by decide +kernel⟩
abbrev s_Least_joined : Stmt := inS (top 55) 2
abbrev N_Least_joined : List Str := ["self", "modulus", "first", "second"]
abbrev p_Least_joined : List Str := ["self", "modulus", "first", "second"]
theorem sc_Least_joined : FnScope N_Least_joined p_Least_joined (defScope s_Least_joined) := ⟨rfl, rfl, rfl, by decide +kernel, rfl, by decide +kernel, by decide +kernel⟩
abbrev s_Most_joined : Stmt := inS (top 56) 2
abbrev N_Most_joined : List Str := ["self", "modulus", "first", "second"]
abbrev p_Most_joined : List Str := ["self", "modulus", "first", "second"]
theorem sc_Most_joined : FnScope N_Most_joined p_Most_joined (defScope s_Most_joined) := ⟨rfl, rfl, rfl, by decide +kernel, rfl, by decide +kernel, by decide +kernel⟩
abbrev s_Same_joined : Stmt := inS (top 57) 2
abbrev N_Same_joined : List Str := ["self", "modulus", "first", "second"]
abbrev p_Same_joined : List Str := ["self", "modulus", "first", "second"]
theorem sc_Same_joined : FnScope N_Same_joined p_Same_joined (defScope s_Same_joined) := ⟨rfl, rfl, rfl, by decide +kernel, rfl, by decide +kernel, by decide +kernel⟩
abbrev s_Choice_init : Stmt := inS (top 60) 0
abbrev N_Choice_init : List Str := ["self", "test", "chosen", "then", "other", "__class__"]
abbrev p_Choice_init : List Str := ["self", "test", "chosen", "then", "other"]
theorem sc_Choice_init : NdefX.NScope N_Choice_init p_Choice_init ["__class__"] (defScope s_Choice_init) := NdefX.nscope_by (by decide +kernel)
abbrev s_Choice_fits_itself : Stmt := inS (top 60) 5
abbrev N_Choice_fits_itself : List Str := ["self", "modulus", "columns", "number"]
abbrev p_Choice_fits_itself : List Str := ["self", "modulus", "columns"]
theorem sc_Choice_fits_itself : FnScope N_Choice_fits_itself p_Choice_fits_itself (defScope s_Choice_fits_itself) := ⟨rfl, rfl, rfl, by decide +kernel, rfl, by decide +kernel, by decide +kernel⟩
abbrev s_Choice_worked : Stmt := inS (top 60) 7
abbrev N_Choice_worked : List Str := ["self", "modulus", "rows", "number", "test", "then", "other", "first", "met", "at", "value", "more"]
abbrev p_Choice_worked : List Str := ["self", "modulus", "rows", "number"]
theorem sc_Choice_worked : FnScope N_Choice_worked p_Choice_worked (defScope s_Choice_worked) := ⟨rfl, rfl, rfl, by decide +kernel, rfl, by decide +kernel, by decide +kernel⟩
abbrev s_Sheet_init : Stmt := inS (top 80) 2
abbrev N_Sheet_init : List Str := ["self", "modulus", "columns", "top", "kinds", "plan", "rows", "kind", "column", "row"]
abbrev p_Sheet_init : List Str := ["self", "modulus", "columns", "top", "kinds", "plan"]
theorem sc_Sheet_init : FnScope N_Sheet_init p_Sheet_init (defScope s_Sheet_init) := ⟨rfl, rfl, rfl, by decide +kernel, rfl, by decide +kernel, by decide +kernel⟩
abbrev s_Sheet_modulus : Stmt := inS (top 80) 4
abbrev N_Sheet_modulus : List Str := ["self"]
abbrev p_Sheet_modulus : List Str := ["self"]
theorem sc_Sheet_modulus : FnScope N_Sheet_modulus p_Sheet_modulus (defScope s_Sheet_modulus) := ⟨rfl, rfl, rfl, by decide +kernel, rfl, by decide +kernel, by decide +kernel⟩
abbrev s_Sheet_columns : Stmt := inS (top 80) 5
abbrev N_Sheet_columns : List Str := ["self"]
abbrev p_Sheet_columns : List Str := ["self"]
theorem sc_Sheet_columns : FnScope N_Sheet_columns p_Sheet_columns (defScope s_Sheet_columns) := ⟨rfl, rfl, rfl, by decide +kernel, rfl, by decide +kernel, by decide +kernel⟩
abbrev s_Sheet_top : Stmt := inS (top 80) 8
abbrev N_Sheet_top : List Str := ["self"]
abbrev p_Sheet_top : List Str := ["self"]
theorem sc_Sheet_top : FnScope N_Sheet_top p_Sheet_top (defScope s_Sheet_top) := ⟨rfl, rfl, rfl, by decide +kernel, rfl, by decide +kernel, by decide +kernel⟩
abbrev s_Sheet_want_kind : Stmt := inS (top 80) 10
abbrev N_Sheet_want_kind : List Str := ["self", "kind"]
abbrev p_Sheet_want_kind : List Str := ["self", "kind"]
theorem sc_Sheet_want_kind : FnScope N_Sheet_want_kind p_Sheet_want_kind (defScope s_Sheet_want_kind) := ⟨rfl, rfl, rfl, by decide +kernel, rfl, by decide +kernel, by decide +kernel⟩
abbrev s_Sheet_want_column : Stmt := inS (top 80) 11
abbrev N_Sheet_want_column : List Str := ["self", "column"]
abbrev p_Sheet_want_column : List Str := ["self", "column"]
theorem sc_Sheet_want_column : FnScope N_Sheet_want_column p_Sheet_want_column (defScope s_Sheet_want_column) := ⟨rfl, rfl, rfl, by decide +kernel, rfl, by decide +kernel, by decide +kernel⟩
abbrev s_Sheet_want_place : Stmt := inS (top 80) 12
abbrev N_Sheet_want_place : List Str := ["self", "place"]
abbrev p_Sheet_want_place : List Str := ["self", "place"]
theorem sc_Sheet_want_place : FnScope N_Sheet_want_place p_Sheet_want_place (defScope s_Sheet_want_place) := ⟨rfl, rfl, rfl, by decide +kernel, rfl, by decide +kernel, by decide +kernel⟩
abbrev s_Sheet_formula : Stmt := inS (top 80) 13
abbrev N_Sheet_formula : List Str := ["self", "kind", "column"]
abbrev p_Sheet_formula : List Str := ["self", "kind", "column"]
theorem sc_Sheet_formula : FnScope N_Sheet_formula p_Sheet_formula (defScope s_Sheet_formula) := ⟨rfl, rfl, rfl, by decide +kernel, rfl, by decide +kernel, by decide +kernel⟩
abbrev s_Sheet_place_behind : Stmt := inS (top 80) 17
abbrev N_Sheet_place_behind : List Str := ["self", "word", "place", "here", "position", "kind"]
abbrev p_Sheet_place_behind : List Str := ["self", "word", "place"]
theorem sc_Sheet_place_behind : FnScope N_Sheet_place_behind p_Sheet_place_behind (defScope s_Sheet_place_behind) := ⟨rfl, rfl, rfl, by decide +kernel, rfl, by decide +kernel, by decide +kernel⟩
abbrev s_Sheet_eq : Stmt := inS (top 80) 23
abbrev N_Sheet_eq : List Str := ["self", "other"]
abbrev p_Sheet_eq : List Str := ["self", "other"]
theorem sc_Sheet_eq : FnScope N_Sheet_eq p_Sheet_eq (defScope s_Sheet_eq) := ⟨rfl, rfl, rfl, by decide +kernel, rfl, by decide +kernel, by decide +kernel⟩
/-! ### the defs, as data -/
def d_is_integer : He5.DefA := ⟨fun K => ga K "is_integer", "is_integer", "is_integer", defArgs s_is_integer, defBody s_is_integer, defScope s_is_integer, [], []⟩
def d_is_list : He5.DefA := ⟨fun K => ga K "is_list", "is_list", "is_list", defArgs s_is_list, defBody s_is_list, defScope s_is_list, [], []⟩
def d_is_name : He5.DefA := ⟨fun K => ga K "is_name", "is_name", "is_name", defArgs s_is_name, defBody s_is_name, defScope s_is_name, [], []⟩
def d_is_value : He5.DefA := ⟨fun K => ga K "is_value", "is_value", "is_value", defArgs s_is_value, defBody s_is_value, defScope s_is_value, [], []⟩
def d_row_led_to : He5.DefA := ⟨fun K => ga K "row_led_to", "row_led_to", "row_led_to", defArgs s_row_led_to, defBody s_row_led_to, defScope s_row_led_to, [], []⟩
def d_want_column : He5.DefA := ⟨fun K => ga K "want_column", "want_column", "want_column", defArgs s_want_column, defBody s_want_column, defScope s_want_column, [], []⟩
def d_want_formula : He5.DefA := ⟨fun K => ga K "want_formula", "want_formula", "want_formula", defArgs s_want_formula, defBody s_want_formula, defScope s_want_formula, [], []⟩
def d_want_chosen : He5.DefA := ⟨fun K => ga K "want_chosen", "want_chosen", "want_chosen", defArgs s_want_chosen, defBody s_want_chosen, defScope s_want_chosen, [], []⟩
def d_want_modulus : He5.DefA := ⟨fun K => ga K "want_modulus", "want_modulus", "want_modulus", defArgs s_want_modulus, defBody s_want_modulus, defScope s_want_modulus, [], []⟩
def d_want_columns : He5.DefA := ⟨fun K => ga K "want_columns", "want_columns", "want_columns", defArgs s_want_columns, defBody s_want_columns, defScope s_want_columns, [], []⟩
def d_has_columns : He5.DefA := ⟨fun K => ga K "has_columns", "has_columns", "has_columns", defArgs s_has_columns, defBody s_has_columns, defScope s_has_columns, [], []⟩
def d_want_top : He5.DefA := ⟨fun K => ga K "want_top", "want_top", "want_top", defArgs s_want_top, defBody s_want_top, defScope s_want_top, [], []⟩
def d_does_fit : He5.DefA := ⟨fun K => ga K "does_fit", "does_fit", "does_fit", defArgs s_does_fit, defBody s_does_fit, defScope s_does_fit, [], []⟩
def d_want_kinds : He5.DefA := ⟨fun K => ga K "want_kinds", "want_kinds", "want_kinds", defArgs s_want_kinds, defBody s_want_kinds, defScope s_want_kinds, [], []⟩
def d_is_place : He5.DefA := ⟨fun K => ga K "is_place", "is_place", "is_place", defArgs s_is_place, defBody s_is_place, defScope s_is_place, [], []⟩
def d_is_place_row : He5.DefA := ⟨fun K => ga K "is_place_row", "is_place_row", "is_place_row", defArgs s_is_place_row, defBody s_is_place_row, defScope s_is_place_row, [], []⟩
def d_places_reached : He5.DefA := ⟨fun K => ga K "places_reached", "places_reached", "places_reached", defArgs s_places_reached, defBody s_places_reached, defScope s_places_reached, [], []⟩
def d_want_plan : He5.DefA := ⟨fun K => ga K "want_plan", "want_plan", "want_plan", defArgs s_want_plan, defBody s_want_plan, defScope s_want_plan, [], []⟩
def d_law_pot : He5.DefA := ⟨fun K => ga K "_law_pot", "_law_pot", "_law_pot", defArgs s_law_pot, defBody s_law_pot, defScope s_law_pot, [], []⟩
def d_law_draw : He5.DefA := ⟨fun K => ga K "_law_draw", "_law_draw", "_law_draw", defArgs s_law_draw, defBody s_law_draw, defScope s_law_draw, [], []⟩
def d_law_pick : He5.DefA := ⟨fun K => ga K "_law_pick", "_law_pick", "_law_pick", defArgs s_law_pick, defBody s_law_pick, defScope s_law_pick, [], []⟩
def d_law_taken : He5.DefA := ⟨fun K => ga K "_law_taken", "_law_taken", "_law_taken", defArgs s_law_taken, defBody s_law_taken, defScope s_law_taken, [], []⟩
def d_law_leaf : He5.DefA := ⟨fun K => ga K "_law_leaf", "_law_leaf", "_law_leaf", defArgs s_law_leaf, defBody s_law_leaf, defScope s_law_leaf, [], []⟩
def d_law_part : He5.DefA := ⟨fun K => ga K "_law_part", "_law_part", "_law_part", defArgs s_law_part, defBody s_law_part, defScope s_law_part, [], []⟩
def d_law_plan : He5.DefA := ⟨fun K => ga K "_law_plan", "_law_plan", "_law_plan", defArgs s_law_plan, defBody s_law_plan, defScope s_law_plan, [], []⟩
def d_law_sheet : He5.DefA := ⟨fun K => ga K "_law_sheet", "_law_sheet", "_law_sheet", defArgs s_law_sheet, defBody s_law_sheet, defScope s_law_sheet, [], []⟩
def d_law_formula : He5.DefA := ⟨fun K => ga K "_law_formula", "_law_formula", "_law_formula", defArgs s_law_formula, defBody s_law_formula, defScope s_law_formula, [], []⟩
def d_law_made : He5.DefA := ⟨fun K => ga K "_law_made", "_law_made", "_law_made", defArgs s_law_made, defBody s_law_made, defScope s_law_made, [], []⟩
def d_law_joined : He5.DefA := ⟨fun K => ga K "_law_joined", "_law_joined", "_law_joined", defArgs s_law_joined, defBody s_law_joined, defScope s_law_joined, [], []⟩
def d_law_worked : He5.DefA := ⟨fun K => ga K "_law_worked", "_law_worked", "_law_worked", defArgs s_law_worked, defBody s_law_worked, defScope s_law_worked, [], []⟩
def d_law_beside : He5.DefA := ⟨fun K => ga K "_law_beside", "_law_beside", "_law_beside", defArgs s_law_beside, defBody s_law_beside, defScope s_law_beside, [], []⟩
def d_law_cut : He5.DefA := ⟨fun K => ga K "_law_cut", "_law_cut", "_law_cut", defArgs s_law_cut, defBody s_law_cut, defScope s_law_cut, [], []⟩
def d_law_words : He5.DefA := ⟨fun K => ga K "_law_words", "_law_words", "_law_words", defArgs s_law_words, defBody s_law_words, defScope s_law_words, [], []⟩
def d_law_word : He5.DefA := ⟨fun K => ga K "_law_word", "_law_word", "_law_word", defArgs s_law_word, defBody s_law_word, defScope s_law_word, [], []⟩
def d_law_any : He5.DefA := ⟨fun K => ga K "_law_any", "_law_any", "_law_any", defArgs s_law_any, defBody s_law_any, defScope s_law_any, [], []⟩
def d_law_is_right : He5.DefA := ⟨fun K => ga K "_law_is_right", "_law_is_right", "_law_is_right", defArgs s_law_is_right, defBody s_law_is_right, defScope s_law_is_right, [], []⟩
def d_law_right : He5.DefA := ⟨fun K => ga K "_law_right", "_law_right", "_law_right", defArgs s_law_right, defBody s_law_right, defScope s_law_right, [], []⟩
def d_law : He5.DefA := ⟨fun K => ga K "law", "law", "law", defArgs s_law, defBody s_law, defScope s_law, [], []⟩
def d_Solver_init : He5.DefA := ⟨fun K => ma K (ga K "Solver") "__init__", "__init__", "Solver.__init__", defArgs s_Solver_init, defBody s_Solver_init, defScope s_Solver_init, [], []⟩
def d_Solver_cells : He5.DefA := ⟨fun K => ma K (ga K "Solver") "cells", "cells", "Solver.cells", defArgs s_Solver_cells, defBody s_Solver_cells, defScope s_Solver_cells, [], []⟩
def d_Solver_formula_at : He5.DefA := ⟨fun K => ma K (ga K "Solver") "formula_at", "formula_at", "Solver.formula_at", defArgs s_Solver_formula_at, defBody s_Solver_formula_at, defScope s_Solver_formula_at, [], []⟩
def d_Solver_beside : He5.DefA := ⟨fun K => ma K (ga K "Solver") "beside", "beside", "Solver.beside", defArgs s_Solver_beside, defBody s_Solver_beside, defScope s_Solver_beside, [], []⟩
def d_Solver_solve : He5.DefA := ⟨fun K => ma K (ga K "Solver") "solve", "solve", "Solver.solve", defArgs s_Solver_solve, defBody s_Solver_solve, defScope s_Solver_solve, [], []⟩
def d_Solver_value_of : He5.DefA := ⟨fun K => ma K (ga K "Solver") "value_of", "value_of", "Solver.value_of", defArgs s_Solver_value_of, defBody s_Solver_value_of, defScope s_Solver_value_of, [], []⟩
def d_Solver_led_to : He5.DefA := ⟨fun K => ma K (ga K "Solver") "led_to", "led_to", "Solver.led_to", defArgs s_Solver_led_to, defBody s_Solver_led_to, defScope s_Solver_led_to, [], []⟩
def d_Solver_round_count : He5.DefA := ⟨fun K => ma K (ga K "Solver") "round_count", "round_count", "Solver.round_count", defArgs s_Solver_round_count, defBody s_Solver_round_count, defScope s_Solver_round_count, [], []⟩
def d_Cut_init : He5.DefA := ⟨fun K => ma K (ga K "Cut") "__init__", "__init__", "Cut.__init__", defArgs s_Cut_init, defBody s_Cut_init, defScope s_Cut_init, [], [("foot", .non)]⟩
def d_Cut_sheet : He5.DefA := ⟨fun K => pa K "Cut" "sheet", "sheet", "Cut.sheet", defArgs s_Cut_sheet, defBody s_Cut_sheet, defScope s_Cut_sheet, [], []⟩
def d_Cut_word : He5.DefA := ⟨fun K => pa K "Cut" "word", "word", "Cut.word", defArgs s_Cut_word, defBody s_Cut_word, defScope s_Cut_word, [], []⟩
def d_Cut_foot : He5.DefA := ⟨fun K => pa K "Cut" "foot", "foot", "Cut.foot", defArgs s_Cut_foot, defBody s_Cut_foot, defScope s_Cut_foot, [], []⟩
def d_Cut_len : He5.DefA := ⟨fun K => ma K (ga K "Cut") "__len__", "__len__", "Cut.__len__", defArgs s_Cut_len, defBody s_Cut_len, defScope s_Cut_len, [], []⟩
def d_Cut_want_cell : He5.DefA := ⟨fun K => ma K (ga K "Cut") "want_cell", "want_cell", "Cut.want_cell", defArgs s_Cut_want_cell, defBody s_Cut_want_cell, defScope s_Cut_want_cell, [], []⟩
def d_Cut_want_row : He5.DefA := ⟨fun K => ma K (ga K "Cut") "want_row", "want_row", "Cut.want_row", defArgs s_Cut_want_row, defBody s_Cut_want_row, defScope s_Cut_want_row, [], []⟩
def d_Cut_value_at : He5.DefA := ⟨fun K => ma K (ga K "Cut") "value_at", "value_at", "Cut.value_at", defArgs s_Cut_value_at, defBody s_Cut_value_at, defScope s_Cut_value_at, [], []⟩
def d_Cut_row_values : He5.DefA := ⟨fun K => ma K (ga K "Cut") "row_values", "row_values", "Cut.row_values", defArgs s_Cut_row_values, defBody s_Cut_row_values, defScope s_Cut_row_values, [], []⟩
def d_Formula_init : He5.DefA := ⟨fun K => ma K (ga K "Formula") "__init__", "__init__", "Formula.__init__", defArgs s_Formula_init, defBody s_Formula_init, defScope s_Formula_init, [], []⟩
def d_Formula_nodes : He5.DefA := ⟨fun K => ma K (ga K "Formula") "nodes", "nodes", "Formula.nodes", defArgs s_Formula_nodes, defBody s_Formula_nodes, defScope s_Formula_nodes, [], []⟩
def d_Formula_fits : He5.DefA := ⟨fun K => ma K (ga K "Formula") "fits", "fits", "Formula.fits", defArgs s_Formula_fits, defBody s_Formula_fits, defScope s_Formula_fits, [], []⟩
def d_Formula_fits_itself : He5.DefA := ⟨fun K => ma K (ga K "Formula") "fits_itself", "fits_itself", "Formula.fits_itself", defArgs s_Formula_fits_itself, defBody s_Formula_fits_itself, defScope s_Formula_fits_itself, [], []⟩
def d_Formula_work_out : He5.DefA := ⟨fun K => ma K (ga K "Formula") "work_out", "work_out", "Formula.work_out", defArgs s_Formula_work_out, defBody s_Formula_work_out, defScope s_Formula_work_out, [], []⟩
def d_Formula_need : He5.DefA := ⟨fun K => ma K (ga K "Formula") "need", "need", "Formula.need", defArgs s_Formula_need, defBody s_Formula_need, defScope s_Formula_need, [], []⟩
def d_Formula_met : He5.DefA := ⟨fun K => ma K (ga K "Formula") "met", "met", "Formula.met", defArgs s_Formula_met, defBody s_Formula_met, defScope s_Formula_met, [], []⟩
def d_Formula_len : He5.DefA := ⟨fun K => ma K (ga K "Formula") "__len__", "__len__", "Formula.__len__", defArgs s_Formula_len, defBody s_Formula_len, defScope s_Formula_len, [], []⟩
def d_Number_init : He5.DefA := ⟨fun K => ma K (ga K "Number") "__init__", "__init__", "Number.__init__", defArgs s_Number_init, defBody s_Number_init, defScope s_Number_init, [], []⟩
def d_Number_fits_itself : He5.DefA := ⟨fun K => ma K (ga K "Number") "fits_itself", "fits_itself", "Number.fits_itself", defArgs s_Number_fits_itself, defBody s_Number_fits_itself, defScope s_Number_fits_itself, [], []⟩
def d_Number_worked : He5.DefA := ⟨fun K => ma K (ga K "Number") "worked", "worked", "Number.worked", defArgs s_Number_worked, defBody s_Number_worked, defScope s_Number_worked, [], []⟩
def d_Reference_init : He5.DefA := ⟨fun K => ma K (ga K "Reference") "__init__", "__init__", "Reference.__init__", defArgs s_Reference_init, defBody s_Reference_init, defScope s_Reference_init, [], []⟩
def d_Reference_fits_itself : He5.DefA := ⟨fun K => ma K (ga K "Reference") "fits_itself", "fits_itself", "Reference.fits_itself", defArgs s_Reference_fits_itself, defBody s_Reference_fits_itself, defScope s_Reference_fits_itself, [], []⟩
def d_Reference_worked : He5.DefA := ⟨fun K => ma K (ga K "Reference") "worked", "worked", "Reference.worked", defArgs s_Reference_worked, defBody s_Reference_worked, defScope s_Reference_worked, [], []⟩
def d_Pair_init : He5.DefA := ⟨fun K => ma K (ga K "Pair") "__init__", "__init__", "Pair.__init__", defArgs s_Pair_init, defBody s_Pair_init, defScope s_Pair_init, [], []⟩
def d_Pair_worked : He5.DefA := ⟨fun K => ma K (ga K "Pair") "worked", "worked", "Pair.worked", defArgs s_Pair_worked, defBody s_Pair_worked, defScope s_Pair_worked, [], []⟩
def d_Plus_joined : He5.DefA := ⟨fun K => ma K (ga K "Plus") "joined", "joined", "Plus.joined", defArgs s_Plus_joined, defBody s_Plus_joined, defScope s_Plus_joined, [], []⟩
def d_Least_joined : He5.DefA := ⟨fun K => ma K (ga K "Least") "joined", "joined", "Least.joined", defArgs s_Least_joined, defBody s_Least_joined, defScope s_Least_joined, [], []⟩
def d_Most_joined : He5.DefA := ⟨fun K => ma K (ga K "Most") "joined", "joined", "Most.joined", defArgs s_Most_joined, defBody s_Most_joined, defScope s_Most_joined, [], []⟩
def d_Same_joined : He5.DefA := ⟨fun K => ma K (ga K "Same") "joined", "joined", "Same.joined", defArgs s_Same_joined, defBody s_Same_joined, defScope s_Same_joined, [], []⟩
def d_Choice_init : He5.DefA := ⟨fun K => ma K (ga K "Choice") "__init__", "__init__", "Choice.__init__", defArgs s_Choice_init, defBody s_Choice_init, defScope s_Choice_init, [], []⟩
def d_Choice_fits_itself : He5.DefA := ⟨fun K => ma K (ga K "Choice") "fits_itself", "fits_itself", "Choice.fits_itself", defArgs s_Choice_fits_itself, defBody s_Choice_fits_itself, defScope s_Choice_fits_itself, [], []⟩
def d_Choice_worked : He5.DefA := ⟨fun K => ma K (ga K "Choice") "worked", "worked", "Choice.worked", defArgs s_Choice_worked, defBody s_Choice_worked, defScope s_Choice_worked, [], []⟩
def d_Sheet_init : He5.DefA := ⟨fun K => ma K (ga K "Sheet") "__init__", "__init__", "Sheet.__init__", defArgs s_Sheet_init, defBody s_Sheet_init, defScope s_Sheet_init, [.non], []⟩
def d_Sheet_modulus : He5.DefA := ⟨fun K => pa K "Sheet" "modulus", "modulus", "Sheet.modulus", defArgs s_Sheet_modulus, defBody s_Sheet_modulus, defScope s_Sheet_modulus, [], []⟩
def d_Sheet_columns : He5.DefA := ⟨fun K => pa K "Sheet" "columns", "columns", "Sheet.columns", defArgs s_Sheet_columns, defBody s_Sheet_columns, defScope s_Sheet_columns, [], []⟩
def d_Sheet_top : He5.DefA := ⟨fun K => ma K (ga K "Sheet") "top", "top", "Sheet.top", defArgs s_Sheet_top, defBody s_Sheet_top, defScope s_Sheet_top, [], []⟩
def d_Sheet_want_kind : He5.DefA := ⟨fun K => ma K (ga K "Sheet") "want_kind", "want_kind", "Sheet.want_kind", defArgs s_Sheet_want_kind, defBody s_Sheet_want_kind, defScope s_Sheet_want_kind, [], []⟩
def d_Sheet_want_column : He5.DefA := ⟨fun K => ma K (ga K "Sheet") "want_column", "want_column", "Sheet.want_column", defArgs s_Sheet_want_column, defBody s_Sheet_want_column, defScope s_Sheet_want_column, [], []⟩
def d_Sheet_want_place : He5.DefA := ⟨fun K => ma K (ga K "Sheet") "want_place", "want_place", "Sheet.want_place", defArgs s_Sheet_want_place, defBody s_Sheet_want_place, defScope s_Sheet_want_place, [], []⟩
def d_Sheet_formula : He5.DefA := ⟨fun K => ma K (ga K "Sheet") "formula", "formula", "Sheet.formula", defArgs s_Sheet_formula, defBody s_Sheet_formula, defScope s_Sheet_formula, [], []⟩
def d_Sheet_place_behind : He5.DefA := ⟨fun K => ma K (ga K "Sheet") "place_behind", "place_behind", "Sheet.place_behind", defArgs s_Sheet_place_behind, defBody s_Sheet_place_behind, defScope s_Sheet_place_behind, [], [("place", .int 0)]⟩
def d_Sheet_eq : He5.DefA := ⟨fun K => ma K (ga K "Sheet") "__eq__", "__eq__", "Sheet.__eq__", defArgs s_Sheet_eq, defBody s_Sheet_eq, defScope s_Sheet_eq, [], []⟩
def FN : List He5.DefA := [d_is_integer, d_is_list, d_is_name, d_is_value, d_row_led_to, d_want_column, d_want_formula, d_want_chosen, d_want_modulus, d_want_columns, d_has_columns, d_want_top, d_does_fit, d_want_kinds, d_is_place, d_is_place_row, d_places_reached, d_want_plan, d_law_pot, d_law_draw, d_law_pick, d_law_taken, d_law_leaf, d_law_part, d_law_plan, d_law_sheet, d_law_formula, d_law_made, d_law_joined, d_law_worked, d_law_beside, d_law_cut, d_law_words, d_law_word, d_law_any, d_law_is_right, d_law_right, d_law, d_Solver_init, d_Solver_cells, d_Solver_formula_at, d_Solver_beside, d_Solver_solve, d_Solver_value_of, d_Solver_led_to, d_Solver_round_count, d_Cut_init, d_Cut_sheet, d_Cut_word, d_Cut_foot, d_Cut_len, d_Cut_want_cell, d_Cut_want_row, d_Cut_value_at, d_Cut_row_values, d_Formula_init, d_Formula_nodes, d_Formula_fits, d_Formula_fits_itself, d_Formula_work_out, d_Formula_need, d_Formula_met, d_Formula_len, d_Number_fits_itself, d_Number_worked, d_Reference_fits_itself, d_Reference_worked, d_Pair_worked, d_Plus_joined, d_Least_joined, d_Most_joined, d_Same_joined, d_Choice_fits_itself, d_Choice_worked, d_Sheet_init, d_Sheet_modulus, d_Sheet_columns, d_Sheet_top, d_Sheet_want_kind, d_Sheet_want_column, d_Sheet_want_place, d_Sheet_formula, d_Sheet_place_behind, d_Sheet_eq]
def FS : List He5.DefA := [d_Number_init, d_Reference_init, d_Pair_init, d_Choice_init]
abbrev PF : Str := PySem.Challenge.pw_belowneeds_k31_whole_cuts_by_turns.main.file
/-! ### the facts -/
def FB : List (Fr → Bool) := [
  bFree "isinstance",
  bFree "int",
  bFree "bool",
  bFree "str",
  bFree "list",
  bFree "tuple",
  bFree "dict",
  bFree "len",
  bFree "all",
  bFree "range",
  bFree "max",
  bFree "min",
  bFree "sorted",
  bFree "enumerate",
  bFree "zip",
  bFree "repr",
  bFree "abs",
  bFree "divmod",
  bFree "super",
  bGlo "is_integer",
  bGlo "is_list",
  bGlo "is_name",
  bGlo "is_value",
  bGlo "row_led_to",
  bGlo "want_column",
  bGlo "want_formula",
  bGlo "want_chosen",
  bGlo "want_modulus",
  bGlo "want_columns",
  bGlo "has_columns",
  bGlo "want_top",
  bGlo "does_fit",
  bGlo "want_kinds",
  bGlo "is_place",
  bGlo "is_place_row",
  bGlo "places_reached",
  bGlo "want_plan",
  bGlo "_law_pot",
  bGlo "_law_draw",
  bGlo "_law_pick",
  bGlo "_law_taken",
  bGlo "_law_leaf",
  bGlo "_law_part",
  bGlo "_law_plan",
  bGlo "_law_sheet",
  bGlo "_law_formula",
  bGlo "_law_made",
  bGlo "_law_joined",
  bGlo "_law_worked",
  bGlo "_law_beside",
  bGlo "_law_cut",
  bGlo "_law_words",
  bGlo "_law_word",
  bGlo "_law_any",
  bGlo "_law_is_right",
  bGlo "_law_right",
  bGlo "law",
  bCls "Solver" ["own_sheet", "own_word", "own_rows", "own_needs", "own_sequence"],
  bIsi "Solver",
  bCls "Cut" ["own_sheet", "own_word", "own_foot", "own_solver", "own_rounds"],
  bIsi "Cut",
  bCls "Number" ["own_parts", "own_inner", "own_depth", "value"],
  bIsi "Number",
  bCls "Here" ["own_parts", "own_inner", "own_depth", "column"],
  bIsi "Here",
  bCls "Up" ["own_parts", "own_inner", "own_depth", "column"],
  bIsi "Up",
  bCls "Down" ["own_parts", "own_inner", "own_depth", "column"],
  bIsi "Down",
  bCls "Plus" ["own_parts", "own_inner", "own_depth"],
  bIsi "Plus",
  bCls "Least" ["own_parts", "own_inner", "own_depth"],
  bIsi "Least",
  bCls "Most" ["own_parts", "own_inner", "own_depth"],
  bIsi "Most",
  bCls "Same" ["own_parts", "own_inner", "own_depth"],
  bIsi "Same",
  bCls "Choice" ["own_parts", "own_inner", "own_depth", "own_chosen"],
  bIsi "Choice",
  bCls "Sheet" ["own_modulus", "own_columns", "own_top", "own_formulas", "own_plan"],
  bIsi "Sheet",
  bMak "Solver" "Solver",
  bMak "Cut" "Cut",
  bMak "Number" "Number",
  bMak "Here" "Reference",
  bMak "Up" "Reference",
  bMak "Down" "Reference",
  bMak "Plus" "Pair",
  bMak "Least" "Pair",
  bMak "Most" "Pair",
  bMak "Same" "Pair",
  bMak "Choice" "Choice",
  bMak "Sheet" "Sheet",
  bMet "Number" "nodes" "Formula",
  bMet "Number" "fits" "Formula",
  bMet "Number" "fits_itself" "Number",
  bMet "Number" "work_out" "Formula",
  bMet "Number" "need" "Formula",
  bMet "Number" "met" "Formula",
  bMet "Number" "worked" "Number",
  bMet "Number" "__len__" "Formula",
  bKit "Number" "Formula" true,
  bMet "Here" "nodes" "Formula",
  bMet "Here" "fits" "Formula",
  bMet "Here" "fits_itself" "Reference",
  bMet "Here" "work_out" "Formula",
  bMet "Here" "need" "Formula",
  bMet "Here" "met" "Formula",
  bMet "Here" "worked" "Reference",
  bMet "Here" "__len__" "Formula",
  bKit "Here" "Formula" true,
  bMet "Up" "nodes" "Formula",
  bMet "Up" "fits" "Formula",
  bMet "Up" "fits_itself" "Reference",
  bMet "Up" "work_out" "Formula",
  bMet "Up" "need" "Formula",
  bMet "Up" "met" "Formula",
  bMet "Up" "worked" "Reference",
  bMet "Up" "__len__" "Formula",
  bKit "Up" "Formula" true,
  bMet "Down" "nodes" "Formula",
  bMet "Down" "fits" "Formula",
  bMet "Down" "fits_itself" "Reference",
  bMet "Down" "work_out" "Formula",
  bMet "Down" "need" "Formula",
  bMet "Down" "met" "Formula",
  bMet "Down" "worked" "Reference",
  bMet "Down" "__len__" "Formula",
  bKit "Down" "Formula" true,
  bMet "Plus" "nodes" "Formula",
  bMet "Plus" "fits" "Formula",
  bMet "Plus" "fits_itself" "Formula",
  bMet "Plus" "work_out" "Formula",
  bMet "Plus" "need" "Formula",
  bMet "Plus" "met" "Formula",
  bMet "Plus" "worked" "Pair",
  bMet "Plus" "__len__" "Formula",
  bMet "Plus" "joined" "Plus",
  bKit "Plus" "Formula" true,
  bMet "Least" "nodes" "Formula",
  bMet "Least" "fits" "Formula",
  bMet "Least" "fits_itself" "Formula",
  bMet "Least" "work_out" "Formula",
  bMet "Least" "need" "Formula",
  bMet "Least" "met" "Formula",
  bMet "Least" "worked" "Pair",
  bMet "Least" "__len__" "Formula",
  bMet "Least" "joined" "Least",
  bKit "Least" "Formula" true,
  bMet "Most" "nodes" "Formula",
  bMet "Most" "fits" "Formula",
  bMet "Most" "fits_itself" "Formula",
  bMet "Most" "work_out" "Formula",
  bMet "Most" "need" "Formula",
  bMet "Most" "met" "Formula",
  bMet "Most" "worked" "Pair",
  bMet "Most" "__len__" "Formula",
  bMet "Most" "joined" "Most",
  bKit "Most" "Formula" true,
  bMet "Same" "nodes" "Formula",
  bMet "Same" "fits" "Formula",
  bMet "Same" "fits_itself" "Formula",
  bMet "Same" "work_out" "Formula",
  bMet "Same" "need" "Formula",
  bMet "Same" "met" "Formula",
  bMet "Same" "worked" "Pair",
  bMet "Same" "__len__" "Formula",
  bMet "Same" "joined" "Same",
  bKit "Same" "Formula" true,
  bMet "Choice" "nodes" "Formula",
  bMet "Choice" "fits" "Formula",
  bMet "Choice" "fits_itself" "Choice",
  bMet "Choice" "work_out" "Formula",
  bMet "Choice" "need" "Formula",
  bMet "Choice" "met" "Formula",
  bMet "Choice" "worked" "Choice",
  bMet "Choice" "__len__" "Formula",
  bKit "Choice" "Formula" true,
  bMet "Solver" "cells" "Solver",
  bMet "Solver" "formula_at" "Solver",
  bMet "Solver" "beside" "Solver",
  bMet "Solver" "solve" "Solver",
  bMet "Solver" "value_of" "Solver",
  bMet "Solver" "led_to" "Solver",
  bMet "Solver" "round_count" "Solver",
  bMet "Cut" "__len__" "Cut",
  bMet "Cut" "want_cell" "Cut",
  bMet "Cut" "want_row" "Cut",
  bMet "Cut" "value_at" "Cut",
  bMet "Cut" "row_values" "Cut",
  bMet "Sheet" "top" "Sheet",
  bMet "Sheet" "want_kind" "Sheet",
  bMet "Sheet" "want_column" "Sheet",
  bMet "Sheet" "want_place" "Sheet",
  bMet "Sheet" "formula" "Sheet",
  bMet "Sheet" "place_behind" "Sheet",
  bMet "Sheet" "__eq__" "Sheet",
  bKit "Sheet" "Sheet" true,
  bPrp "Cut" "foot",
  bPrp "Cut" "sheet",
  bPrp "Cut" "word",
  bPrp "Sheet" "columns",
  bPrp "Sheet" "modulus",
  bCon "Here" "WORD" (.str "here"),
  bCon "Up" "WORD" (.str "up"),
  bCon "Down" "WORD" (.str "down"),
  bVal "MOST_SIGNS" (.int 8),
  bVal "MOST_ROWS" (.int 400),
  bVal "MOST_NODES" (.int 40),
  bVal "MOST_DEPTH" (.int 8),
  bVal "GREATEST_MODULUS" (.int 9),
  bVal "LEAST_MODULUS" (.int 2),
  bVal "MOST_MODULUS" (.int 9),
  bVal "MOST_COLUMNS" (.int 6),
  bVal "MOST_KINDS" (.int 4),
  bVal "MOST_PLACES" (.int 3),
  bVal "SMALL" (.str "abcdefghijklmnopqrstuvwxyz"),
  bTup "RESERVED" [.str "if", .str "then", .str "else", .str "in", .str "here", .str "up", .str "down", .str "least", .str "most"],
  bGlo "Formula",
  bSupF PF "Choice" "Choice.__init__" (fun K => ma K (ga K "Choice") "__init__"),
  bSupF PF "Number" "Number.__init__" (fun K => ma K (ga K "Number") "__init__"),
  bSupF PF "Pair" "Pair.__init__" (fun K => ma K (ga K "Pair") "__init__"),
  bSupF PF "Reference" "Reference.__init__" (fun K => ma K (ga K "Reference") "__init__"),
  bSupC "Number" "Number" "__init__" "Formula",
  bSupC "Here" "Reference" "__init__" "Formula",
  bSupC "Up" "Reference" "__init__" "Formula",
  bSupC "Down" "Reference" "__init__" "Formula",
  bSupC "Plus" "Pair" "__init__" "Formula",
  bSupC "Least" "Pair" "__init__" "Formula",
  bSupC "Most" "Pair" "__init__" "Formula",
  bSupC "Same" "Pair" "__init__" "Formula",
  bSupC "Choice" "Choice" "__init__" "Formula",
  bSpc "Number" "__len__" "Formula",
  bSpc "Here" "__len__" "Formula",
  bSpc "Up" "__len__" "Formula",
  bSpc "Down" "__len__" "Formula",
  bSpc "Plus" "__len__" "Formula",
  bSpc "Least" "__len__" "Formula",
  bSpc "Most" "__len__" "Formula",
  bSpc "Same" "__len__" "Formula",
  bSpc "Choice" "__len__" "Formula",
  bSpc "Cut" "__len__" "Cut",
  bSpc "Sheet" "__eq__" "Sheet",
  bNe "Sheet",
  bSys,
  bRef "RESERVED",
  bRef "Solver",
  bRef "Cut",
  bRef "Number",
  bRef "Here",
  bRef "Up",
  bRef "Down",
  bRef "Plus",
  bRef "Least",
  bRef "Most",
  bRef "Same",
  bRef "Choice",
  bRef "Sheet"]
abbrev GD (K : Fr) (mg : Str → Option Value) : Prop := Gd FB FN FS K mg
section
variable {K : Fr} {mg : Str → Option Value}
theorem gf_isinstance (G : GD K mg) : mg "isinstance" = none := G.free 0
theorem gf_int (G : GD K mg) : mg "int" = none := G.free 1
theorem gf_bool (G : GD K mg) : mg "bool" = none := G.free 2
theorem gf_str (G : GD K mg) : mg "str" = none := G.free 3
theorem gf_list (G : GD K mg) : mg "list" = none := G.free 4
theorem gf_tuple (G : GD K mg) : mg "tuple" = none := G.free 5
theorem gf_dict (G : GD K mg) : mg "dict" = none := G.free 6
theorem gf_len (G : GD K mg) : mg "len" = none := G.free 7
theorem gf_all (G : GD K mg) : mg "all" = none := G.free 8
theorem gf_range (G : GD K mg) : mg "range" = none := G.free 9
theorem gf_max (G : GD K mg) : mg "max" = none := G.free 10
theorem gf_min (G : GD K mg) : mg "min" = none := G.free 11
theorem gf_sorted (G : GD K mg) : mg "sorted" = none := G.free 12
theorem gf_enumerate (G : GD K mg) : mg "enumerate" = none := G.free 13
theorem gf_zip (G : GD K mg) : mg "zip" = none := G.free 14
theorem gf_repr (G : GD K mg) : mg "repr" = none := G.free 15
theorem gf_abs (G : GD K mg) : mg "abs" = none := G.free 16
theorem gf_divmod (G : GD K mg) : mg "divmod" = none := G.free 17
theorem gf_super (G : GD K mg) : mg "super" = none := G.free 18
theorem gg_is_integer (G : GD K mg) : mg "is_integer" = some (.ref (ga K "is_integer")) := G.glo 19
theorem gk_is_integer (G : GD K mg) : PySem.W.keepIn K (.ref (ga K "is_integer")) = true := G.kp 19
theorem gg_is_list (G : GD K mg) : mg "is_list" = some (.ref (ga K "is_list")) := G.glo 20
theorem gk_is_list (G : GD K mg) : PySem.W.keepIn K (.ref (ga K "is_list")) = true := G.kp 20
theorem gg_is_name (G : GD K mg) : mg "is_name" = some (.ref (ga K "is_name")) := G.glo 21
theorem gk_is_name (G : GD K mg) : PySem.W.keepIn K (.ref (ga K "is_name")) = true := G.kp 21
theorem gg_is_value (G : GD K mg) : mg "is_value" = some (.ref (ga K "is_value")) := G.glo 22
theorem gk_is_value (G : GD K mg) : PySem.W.keepIn K (.ref (ga K "is_value")) = true := G.kp 22
theorem gg_row_led_to (G : GD K mg) : mg "row_led_to" = some (.ref (ga K "row_led_to")) := G.glo 23
theorem gk_row_led_to (G : GD K mg) : PySem.W.keepIn K (.ref (ga K "row_led_to")) = true := G.kp 23
theorem gg_want_column (G : GD K mg) : mg "want_column" = some (.ref (ga K "want_column")) := G.glo 24
theorem gk_want_column (G : GD K mg) : PySem.W.keepIn K (.ref (ga K "want_column")) = true := G.kp 24
theorem gg_want_formula (G : GD K mg) : mg "want_formula" = some (.ref (ga K "want_formula")) := G.glo 25
theorem gk_want_formula (G : GD K mg) : PySem.W.keepIn K (.ref (ga K "want_formula")) = true := G.kp 25
theorem gg_want_chosen (G : GD K mg) : mg "want_chosen" = some (.ref (ga K "want_chosen")) := G.glo 26
theorem gk_want_chosen (G : GD K mg) : PySem.W.keepIn K (.ref (ga K "want_chosen")) = true := G.kp 26
theorem gg_want_modulus (G : GD K mg) : mg "want_modulus" = some (.ref (ga K "want_modulus")) := G.glo 27
theorem gk_want_modulus (G : GD K mg) : PySem.W.keepIn K (.ref (ga K "want_modulus")) = true := G.kp 27
theorem gg_want_columns (G : GD K mg) : mg "want_columns" = some (.ref (ga K "want_columns")) := G.glo 28
theorem gk_want_columns (G : GD K mg) : PySem.W.keepIn K (.ref (ga K "want_columns")) = true := G.kp 28
theorem gg_has_columns (G : GD K mg) : mg "has_columns" = some (.ref (ga K "has_columns")) := G.glo 29
theorem gk_has_columns (G : GD K mg) : PySem.W.keepIn K (.ref (ga K "has_columns")) = true := G.kp 29
theorem gg_want_top (G : GD K mg) : mg "want_top" = some (.ref (ga K "want_top")) := G.glo 30
theorem gk_want_top (G : GD K mg) : PySem.W.keepIn K (.ref (ga K "want_top")) = true := G.kp 30
theorem gg_does_fit (G : GD K mg) : mg "does_fit" = some (.ref (ga K "does_fit")) := G.glo 31
theorem gk_does_fit (G : GD K mg) : PySem.W.keepIn K (.ref (ga K "does_fit")) = true := G.kp 31
theorem gg_want_kinds (G : GD K mg) : mg "want_kinds" = some (.ref (ga K "want_kinds")) := G.glo 32
theorem gk_want_kinds (G : GD K mg) : PySem.W.keepIn K (.ref (ga K "want_kinds")) = true := G.kp 32
theorem gg_is_place (G : GD K mg) : mg "is_place" = some (.ref (ga K "is_place")) := G.glo 33
theorem gk_is_place (G : GD K mg) : PySem.W.keepIn K (.ref (ga K "is_place")) = true := G.kp 33
theorem gg_is_place_row (G : GD K mg) : mg "is_place_row" = some (.ref (ga K "is_place_row")) := G.glo 34
theorem gk_is_place_row (G : GD K mg) : PySem.W.keepIn K (.ref (ga K "is_place_row")) = true := G.kp 34
theorem gg_places_reached (G : GD K mg) : mg "places_reached" = some (.ref (ga K "places_reached")) := G.glo 35
theorem gk_places_reached (G : GD K mg) : PySem.W.keepIn K (.ref (ga K "places_reached")) = true := G.kp 35
theorem gg_want_plan (G : GD K mg) : mg "want_plan" = some (.ref (ga K "want_plan")) := G.glo 36
theorem gk_want_plan (G : GD K mg) : PySem.W.keepIn K (.ref (ga K "want_plan")) = true := G.kp 36
theorem gg_law_pot (G : GD K mg) : mg "_law_pot" = some (.ref (ga K "_law_pot")) := G.glo 37
theorem gk_law_pot (G : GD K mg) : PySem.W.keepIn K (.ref (ga K "_law_pot")) = true := G.kp 37
theorem gg_law_draw (G : GD K mg) : mg "_law_draw" = some (.ref (ga K "_law_draw")) := G.glo 38
theorem gk_law_draw (G : GD K mg) : PySem.W.keepIn K (.ref (ga K "_law_draw")) = true := G.kp 38
theorem gg_law_pick (G : GD K mg) : mg "_law_pick" = some (.ref (ga K "_law_pick")) := G.glo 39
theorem gk_law_pick (G : GD K mg) : PySem.W.keepIn K (.ref (ga K "_law_pick")) = true := G.kp 39
theorem gg_law_taken (G : GD K mg) : mg "_law_taken" = some (.ref (ga K "_law_taken")) := G.glo 40
theorem gk_law_taken (G : GD K mg) : PySem.W.keepIn K (.ref (ga K "_law_taken")) = true := G.kp 40
theorem gg_law_leaf (G : GD K mg) : mg "_law_leaf" = some (.ref (ga K "_law_leaf")) := G.glo 41
theorem gk_law_leaf (G : GD K mg) : PySem.W.keepIn K (.ref (ga K "_law_leaf")) = true := G.kp 41
theorem gg_law_part (G : GD K mg) : mg "_law_part" = some (.ref (ga K "_law_part")) := G.glo 42
theorem gk_law_part (G : GD K mg) : PySem.W.keepIn K (.ref (ga K "_law_part")) = true := G.kp 42
theorem gg_law_plan (G : GD K mg) : mg "_law_plan" = some (.ref (ga K "_law_plan")) := G.glo 43
theorem gk_law_plan (G : GD K mg) : PySem.W.keepIn K (.ref (ga K "_law_plan")) = true := G.kp 43
theorem gg_law_sheet (G : GD K mg) : mg "_law_sheet" = some (.ref (ga K "_law_sheet")) := G.glo 44
theorem gk_law_sheet (G : GD K mg) : PySem.W.keepIn K (.ref (ga K "_law_sheet")) = true := G.kp 44
theorem gg_law_formula (G : GD K mg) : mg "_law_formula" = some (.ref (ga K "_law_formula")) := G.glo 45
theorem gk_law_formula (G : GD K mg) : PySem.W.keepIn K (.ref (ga K "_law_formula")) = true := G.kp 45
theorem gg_law_made (G : GD K mg) : mg "_law_made" = some (.ref (ga K "_law_made")) := G.glo 46
theorem gk_law_made (G : GD K mg) : PySem.W.keepIn K (.ref (ga K "_law_made")) = true := G.kp 46
theorem gg_law_joined (G : GD K mg) : mg "_law_joined" = some (.ref (ga K "_law_joined")) := G.glo 47
theorem gk_law_joined (G : GD K mg) : PySem.W.keepIn K (.ref (ga K "_law_joined")) = true := G.kp 47
theorem gg_law_worked (G : GD K mg) : mg "_law_worked" = some (.ref (ga K "_law_worked")) := G.glo 48
theorem gk_law_worked (G : GD K mg) : PySem.W.keepIn K (.ref (ga K "_law_worked")) = true := G.kp 48
theorem gg_law_beside (G : GD K mg) : mg "_law_beside" = some (.ref (ga K "_law_beside")) := G.glo 49
theorem gk_law_beside (G : GD K mg) : PySem.W.keepIn K (.ref (ga K "_law_beside")) = true := G.kp 49
theorem gg_law_cut (G : GD K mg) : mg "_law_cut" = some (.ref (ga K "_law_cut")) := G.glo 50
theorem gk_law_cut (G : GD K mg) : PySem.W.keepIn K (.ref (ga K "_law_cut")) = true := G.kp 50
theorem gg_law_words (G : GD K mg) : mg "_law_words" = some (.ref (ga K "_law_words")) := G.glo 51
theorem gk_law_words (G : GD K mg) : PySem.W.keepIn K (.ref (ga K "_law_words")) = true := G.kp 51
theorem gg_law_word (G : GD K mg) : mg "_law_word" = some (.ref (ga K "_law_word")) := G.glo 52
theorem gk_law_word (G : GD K mg) : PySem.W.keepIn K (.ref (ga K "_law_word")) = true := G.kp 52
theorem gg_law_any (G : GD K mg) : mg "_law_any" = some (.ref (ga K "_law_any")) := G.glo 53
theorem gk_law_any (G : GD K mg) : PySem.W.keepIn K (.ref (ga K "_law_any")) = true := G.kp 53
theorem gg_law_is_right (G : GD K mg) : mg "_law_is_right" = some (.ref (ga K "_law_is_right")) := G.glo 54
theorem gk_law_is_right (G : GD K mg) : PySem.W.keepIn K (.ref (ga K "_law_is_right")) = true := G.kp 54
theorem gg_law_right (G : GD K mg) : mg "_law_right" = some (.ref (ga K "_law_right")) := G.glo 55
theorem gk_law_right (G : GD K mg) : PySem.W.keepIn K (.ref (ga K "_law_right")) = true := G.kp 55
theorem gg_law (G : GD K mg) : mg "law" = some (.ref (ga K "law")) := G.glo 56
theorem gk_law (G : GD K mg) : PySem.W.keepIn K (.ref (ga K "law")) = true := G.kp 56
theorem cf_Solver (G : GD K mg) : CF K (ga K "Solver") ["own_sheet", "own_word", "own_rows", "own_needs", "own_sequence"] := cls_of (G.fact 57 _ rfl)
theorem ci_Solver (G : GD K mg) : Isi K (ga K "Solver") := isi_of (G.fact 58 _ rfl)
theorem cf_Cut (G : GD K mg) : CF K (ga K "Cut") ["own_sheet", "own_word", "own_foot", "own_solver", "own_rounds"] := cls_of (G.fact 59 _ rfl)
theorem ci_Cut (G : GD K mg) : Isi K (ga K "Cut") := isi_of (G.fact 60 _ rfl)
theorem cf_Number (G : GD K mg) : CF K (ga K "Number") ["own_parts", "own_inner", "own_depth", "value"] := cls_of (G.fact 61 _ rfl)
theorem ci_Number (G : GD K mg) : Isi K (ga K "Number") := isi_of (G.fact 62 _ rfl)
theorem cf_Here (G : GD K mg) : CF K (ga K "Here") ["own_parts", "own_inner", "own_depth", "column"] := cls_of (G.fact 63 _ rfl)
theorem ci_Here (G : GD K mg) : Isi K (ga K "Here") := isi_of (G.fact 64 _ rfl)
theorem cf_Up (G : GD K mg) : CF K (ga K "Up") ["own_parts", "own_inner", "own_depth", "column"] := cls_of (G.fact 65 _ rfl)
theorem ci_Up (G : GD K mg) : Isi K (ga K "Up") := isi_of (G.fact 66 _ rfl)
theorem cf_Down (G : GD K mg) : CF K (ga K "Down") ["own_parts", "own_inner", "own_depth", "column"] := cls_of (G.fact 67 _ rfl)
theorem ci_Down (G : GD K mg) : Isi K (ga K "Down") := isi_of (G.fact 68 _ rfl)
theorem cf_Plus (G : GD K mg) : CF K (ga K "Plus") ["own_parts", "own_inner", "own_depth"] := cls_of (G.fact 69 _ rfl)
theorem ci_Plus (G : GD K mg) : Isi K (ga K "Plus") := isi_of (G.fact 70 _ rfl)
theorem cf_Least (G : GD K mg) : CF K (ga K "Least") ["own_parts", "own_inner", "own_depth"] := cls_of (G.fact 71 _ rfl)
theorem ci_Least (G : GD K mg) : Isi K (ga K "Least") := isi_of (G.fact 72 _ rfl)
theorem cf_Most (G : GD K mg) : CF K (ga K "Most") ["own_parts", "own_inner", "own_depth"] := cls_of (G.fact 73 _ rfl)
theorem ci_Most (G : GD K mg) : Isi K (ga K "Most") := isi_of (G.fact 74 _ rfl)
theorem cf_Same (G : GD K mg) : CF K (ga K "Same") ["own_parts", "own_inner", "own_depth"] := cls_of (G.fact 75 _ rfl)
theorem ci_Same (G : GD K mg) : Isi K (ga K "Same") := isi_of (G.fact 76 _ rfl)
theorem cf_Choice (G : GD K mg) : CF K (ga K "Choice") ["own_parts", "own_inner", "own_depth", "own_chosen"] := cls_of (G.fact 77 _ rfl)
theorem ci_Choice (G : GD K mg) : Isi K (ga K "Choice") := isi_of (G.fact 78 _ rfl)
theorem cf_Sheet (G : GD K mg) : CF K (ga K "Sheet") ["own_modulus", "own_columns", "own_top", "own_formulas", "own_plan"] := cls_of (G.fact 79 _ rfl)
theorem ci_Sheet (G : GD K mg) : Isi K (ga K "Sheet") := isi_of (G.fact 80 _ rfl)
theorem mk_Solver (G : GD K mg) : Mk K (ga K "Solver") (ma K (ga K "Solver") "__init__") := mak_of (G.fact 81 _ rfl)
theorem mk_Cut (G : GD K mg) : Mk K (ga K "Cut") (ma K (ga K "Cut") "__init__") := mak_of (G.fact 82 _ rfl)
theorem mk_Number (G : GD K mg) : Mk K (ga K "Number") (ma K (ga K "Number") "__init__") := mak_of (G.fact 83 _ rfl)
theorem mk_Here (G : GD K mg) : Mk K (ga K "Here") (ma K (ga K "Reference") "__init__") := mak_of (G.fact 84 _ rfl)
theorem mk_Up (G : GD K mg) : Mk K (ga K "Up") (ma K (ga K "Reference") "__init__") := mak_of (G.fact 85 _ rfl)
theorem mk_Down (G : GD K mg) : Mk K (ga K "Down") (ma K (ga K "Reference") "__init__") := mak_of (G.fact 86 _ rfl)
theorem mk_Plus (G : GD K mg) : Mk K (ga K "Plus") (ma K (ga K "Pair") "__init__") := mak_of (G.fact 87 _ rfl)
theorem mk_Least (G : GD K mg) : Mk K (ga K "Least") (ma K (ga K "Pair") "__init__") := mak_of (G.fact 88 _ rfl)
theorem mk_Most (G : GD K mg) : Mk K (ga K "Most") (ma K (ga K "Pair") "__init__") := mak_of (G.fact 89 _ rfl)
theorem mk_Same (G : GD K mg) : Mk K (ga K "Same") (ma K (ga K "Pair") "__init__") := mak_of (G.fact 90 _ rfl)
theorem mk_Choice (G : GD K mg) : Mk K (ga K "Choice") (ma K (ga K "Choice") "__init__") := mak_of (G.fact 91 _ rfl)
theorem mk_Sheet (G : GD K mg) : Mk K (ga K "Sheet") (ma K (ga K "Sheet") "__init__") := mak_of (G.fact 92 _ rfl)
theorem mt_Number_nodes (G : GD K mg) : Meth K (ga K "Number") "nodes" (ma K (ga K "Formula") "nodes") := met_of (G.fact 93 _ rfl)
theorem mt_Number_fits (G : GD K mg) : Meth K (ga K "Number") "fits" (ma K (ga K "Formula") "fits") := met_of (G.fact 94 _ rfl)
theorem mt_Number_fits_itself (G : GD K mg) : Meth K (ga K "Number") "fits_itself" (ma K (ga K "Number") "fits_itself") := met_of (G.fact 95 _ rfl)
theorem mt_Number_work_out (G : GD K mg) : Meth K (ga K "Number") "work_out" (ma K (ga K "Formula") "work_out") := met_of (G.fact 96 _ rfl)
theorem mt_Number_need (G : GD K mg) : Meth K (ga K "Number") "need" (ma K (ga K "Formula") "need") := met_of (G.fact 97 _ rfl)
theorem mt_Number_met (G : GD K mg) : Meth K (ga K "Number") "met" (ma K (ga K "Formula") "met") := met_of (G.fact 98 _ rfl)
theorem mt_Number_worked (G : GD K mg) : Meth K (ga K "Number") "worked" (ma K (ga K "Number") "worked") := met_of (G.fact 99 _ rfl)
theorem mt_Number_len (G : GD K mg) : Meth K (ga K "Number") "__len__" (ma K (ga K "Formula") "__len__") := met_of (G.fact 100 _ rfl)
theorem kt_Number (G : GD K mg) : PySem.W.kitOne K (.ref (ga K "Number")) (.ref (ga K "Formula")) = some true := kit_one (G.fact 101 _ rfl)
theorem mt_Here_nodes (G : GD K mg) : Meth K (ga K "Here") "nodes" (ma K (ga K "Formula") "nodes") := met_of (G.fact 102 _ rfl)
theorem mt_Here_fits (G : GD K mg) : Meth K (ga K "Here") "fits" (ma K (ga K "Formula") "fits") := met_of (G.fact 103 _ rfl)
theorem mt_Here_fits_itself (G : GD K mg) : Meth K (ga K "Here") "fits_itself" (ma K (ga K "Reference") "fits_itself") := met_of (G.fact 104 _ rfl)
theorem mt_Here_work_out (G : GD K mg) : Meth K (ga K "Here") "work_out" (ma K (ga K "Formula") "work_out") := met_of (G.fact 105 _ rfl)
theorem mt_Here_need (G : GD K mg) : Meth K (ga K "Here") "need" (ma K (ga K "Formula") "need") := met_of (G.fact 106 _ rfl)
theorem mt_Here_met (G : GD K mg) : Meth K (ga K "Here") "met" (ma K (ga K "Formula") "met") := met_of (G.fact 107 _ rfl)
theorem mt_Here_worked (G : GD K mg) : Meth K (ga K "Here") "worked" (ma K (ga K "Reference") "worked") := met_of (G.fact 108 _ rfl)
theorem mt_Here_len (G : GD K mg) : Meth K (ga K "Here") "__len__" (ma K (ga K "Formula") "__len__") := met_of (G.fact 109 _ rfl)
theorem kt_Here (G : GD K mg) : PySem.W.kitOne K (.ref (ga K "Here")) (.ref (ga K "Formula")) = some true := kit_one (G.fact 110 _ rfl)
theorem mt_Up_nodes (G : GD K mg) : Meth K (ga K "Up") "nodes" (ma K (ga K "Formula") "nodes") := met_of (G.fact 111 _ rfl)
theorem mt_Up_fits (G : GD K mg) : Meth K (ga K "Up") "fits" (ma K (ga K "Formula") "fits") := met_of (G.fact 112 _ rfl)
theorem mt_Up_fits_itself (G : GD K mg) : Meth K (ga K "Up") "fits_itself" (ma K (ga K "Reference") "fits_itself") := met_of (G.fact 113 _ rfl)
theorem mt_Up_work_out (G : GD K mg) : Meth K (ga K "Up") "work_out" (ma K (ga K "Formula") "work_out") := met_of (G.fact 114 _ rfl)
theorem mt_Up_need (G : GD K mg) : Meth K (ga K "Up") "need" (ma K (ga K "Formula") "need") := met_of (G.fact 115 _ rfl)
theorem mt_Up_met (G : GD K mg) : Meth K (ga K "Up") "met" (ma K (ga K "Formula") "met") := met_of (G.fact 116 _ rfl)
theorem mt_Up_worked (G : GD K mg) : Meth K (ga K "Up") "worked" (ma K (ga K "Reference") "worked") := met_of (G.fact 117 _ rfl)
theorem mt_Up_len (G : GD K mg) : Meth K (ga K "Up") "__len__" (ma K (ga K "Formula") "__len__") := met_of (G.fact 118 _ rfl)
theorem kt_Up (G : GD K mg) : PySem.W.kitOne K (.ref (ga K "Up")) (.ref (ga K "Formula")) = some true := kit_one (G.fact 119 _ rfl)
theorem mt_Down_nodes (G : GD K mg) : Meth K (ga K "Down") "nodes" (ma K (ga K "Formula") "nodes") := met_of (G.fact 120 _ rfl)
theorem mt_Down_fits (G : GD K mg) : Meth K (ga K "Down") "fits" (ma K (ga K "Formula") "fits") := met_of (G.fact 121 _ rfl)
theorem mt_Down_fits_itself (G : GD K mg) : Meth K (ga K "Down") "fits_itself" (ma K (ga K "Reference") "fits_itself") := met_of (G.fact 122 _ rfl)
theorem mt_Down_work_out (G : GD K mg) : Meth K (ga K "Down") "work_out" (ma K (ga K "Formula") "work_out") := met_of (G.fact 123 _ rfl)
theorem mt_Down_need (G : GD K mg) : Meth K (ga K "Down") "need" (ma K (ga K "Formula") "need") := met_of (G.fact 124 _ rfl)
theorem mt_Down_met (G : GD K mg) : Meth K (ga K "Down") "met" (ma K (ga K "Formula") "met") := met_of (G.fact 125 _ rfl)
theorem mt_Down_worked (G : GD K mg) : Meth K (ga K "Down") "worked" (ma K (ga K "Reference") "worked") := met_of (G.fact 126 _ rfl)
theorem mt_Down_len (G : GD K mg) : Meth K (ga K "Down") "__len__" (ma K (ga K "Formula") "__len__") := met_of (G.fact 127 _ rfl)
theorem kt_Down (G : GD K mg) : PySem.W.kitOne K (.ref (ga K "Down")) (.ref (ga K "Formula")) = some true := kit_one (G.fact 128 _ rfl)
theorem mt_Plus_nodes (G : GD K mg) : Meth K (ga K "Plus") "nodes" (ma K (ga K "Formula") "nodes") := met_of (G.fact 129 _ rfl)
theorem mt_Plus_fits (G : GD K mg) : Meth K (ga K "Plus") "fits" (ma K (ga K "Formula") "fits") := met_of (G.fact 130 _ rfl)
theorem mt_Plus_fits_itself (G : GD K mg) : Meth K (ga K "Plus") "fits_itself" (ma K (ga K "Formula") "fits_itself") := met_of (G.fact 131 _ rfl)
theorem mt_Plus_work_out (G : GD K mg) : Meth K (ga K "Plus") "work_out" (ma K (ga K "Formula") "work_out") := met_of (G.fact 132 _ rfl)
theorem mt_Plus_need (G : GD K mg) : Meth K (ga K "Plus") "need" (ma K (ga K "Formula") "need") := met_of (G.fact 133 _ rfl)
theorem mt_Plus_met (G : GD K mg) : Meth K (ga K "Plus") "met" (ma K (ga K "Formula") "met") := met_of (G.fact 134 _ rfl)
theorem mt_Plus_worked (G : GD K mg) : Meth K (ga K "Plus") "worked" (ma K (ga K "Pair") "worked") := met_of (G.fact 135 _ rfl)
theorem mt_Plus_len (G : GD K mg) : Meth K (ga K "Plus") "__len__" (ma K (ga K "Formula") "__len__") := met_of (G.fact 136 _ rfl)
theorem mt_Plus_joined (G : GD K mg) : Meth K (ga K "Plus") "joined" (ma K (ga K "Plus") "joined") := met_of (G.fact 137 _ rfl)
theorem kt_Plus (G : GD K mg) : PySem.W.kitOne K (.ref (ga K "Plus")) (.ref (ga K "Formula")) = some true := kit_one (G.fact 138 _ rfl)
theorem mt_Least_nodes (G : GD K mg) : Meth K (ga K "Least") "nodes" (ma K (ga K "Formula") "nodes") := met_of (G.fact 139 _ rfl)
theorem mt_Least_fits (G : GD K mg) : Meth K (ga K "Least") "fits" (ma K (ga K "Formula") "fits") := met_of (G.fact 140 _ rfl)
theorem mt_Least_fits_itself (G : GD K mg) : Meth K (ga K "Least") "fits_itself" (ma K (ga K "Formula") "fits_itself") := met_of (G.fact 141 _ rfl)
theorem mt_Least_work_out (G : GD K mg) : Meth K (ga K "Least") "work_out" (ma K (ga K "Formula") "work_out") := met_of (G.fact 142 _ rfl)
theorem mt_Least_need (G : GD K mg) : Meth K (ga K "Least") "need" (ma K (ga K "Formula") "need") := met_of (G.fact 143 _ rfl)
theorem mt_Least_met (G : GD K mg) : Meth K (ga K "Least") "met" (ma K (ga K "Formula") "met") := met_of (G.fact 144 _ rfl)
theorem mt_Least_worked (G : GD K mg) : Meth K (ga K "Least") "worked" (ma K (ga K "Pair") "worked") := met_of (G.fact 145 _ rfl)
theorem mt_Least_len (G : GD K mg) : Meth K (ga K "Least") "__len__" (ma K (ga K "Formula") "__len__") := met_of (G.fact 146 _ rfl)
theorem mt_Least_joined (G : GD K mg) : Meth K (ga K "Least") "joined" (ma K (ga K "Least") "joined") := met_of (G.fact 147 _ rfl)
theorem kt_Least (G : GD K mg) : PySem.W.kitOne K (.ref (ga K "Least")) (.ref (ga K "Formula")) = some true := kit_one (G.fact 148 _ rfl)
theorem mt_Most_nodes (G : GD K mg) : Meth K (ga K "Most") "nodes" (ma K (ga K "Formula") "nodes") := met_of (G.fact 149 _ rfl)
theorem mt_Most_fits (G : GD K mg) : Meth K (ga K "Most") "fits" (ma K (ga K "Formula") "fits") := met_of (G.fact 150 _ rfl)
theorem mt_Most_fits_itself (G : GD K mg) : Meth K (ga K "Most") "fits_itself" (ma K (ga K "Formula") "fits_itself") := met_of (G.fact 151 _ rfl)
theorem mt_Most_work_out (G : GD K mg) : Meth K (ga K "Most") "work_out" (ma K (ga K "Formula") "work_out") := met_of (G.fact 152 _ rfl)
theorem mt_Most_need (G : GD K mg) : Meth K (ga K "Most") "need" (ma K (ga K "Formula") "need") := met_of (G.fact 153 _ rfl)
theorem mt_Most_met (G : GD K mg) : Meth K (ga K "Most") "met" (ma K (ga K "Formula") "met") := met_of (G.fact 154 _ rfl)
theorem mt_Most_worked (G : GD K mg) : Meth K (ga K "Most") "worked" (ma K (ga K "Pair") "worked") := met_of (G.fact 155 _ rfl)
theorem mt_Most_len (G : GD K mg) : Meth K (ga K "Most") "__len__" (ma K (ga K "Formula") "__len__") := met_of (G.fact 156 _ rfl)
theorem mt_Most_joined (G : GD K mg) : Meth K (ga K "Most") "joined" (ma K (ga K "Most") "joined") := met_of (G.fact 157 _ rfl)
theorem kt_Most (G : GD K mg) : PySem.W.kitOne K (.ref (ga K "Most")) (.ref (ga K "Formula")) = some true := kit_one (G.fact 158 _ rfl)
theorem mt_Same_nodes (G : GD K mg) : Meth K (ga K "Same") "nodes" (ma K (ga K "Formula") "nodes") := met_of (G.fact 159 _ rfl)
theorem mt_Same_fits (G : GD K mg) : Meth K (ga K "Same") "fits" (ma K (ga K "Formula") "fits") := met_of (G.fact 160 _ rfl)
theorem mt_Same_fits_itself (G : GD K mg) : Meth K (ga K "Same") "fits_itself" (ma K (ga K "Formula") "fits_itself") := met_of (G.fact 161 _ rfl)
theorem mt_Same_work_out (G : GD K mg) : Meth K (ga K "Same") "work_out" (ma K (ga K "Formula") "work_out") := met_of (G.fact 162 _ rfl)
theorem mt_Same_need (G : GD K mg) : Meth K (ga K "Same") "need" (ma K (ga K "Formula") "need") := met_of (G.fact 163 _ rfl)
theorem mt_Same_met (G : GD K mg) : Meth K (ga K "Same") "met" (ma K (ga K "Formula") "met") := met_of (G.fact 164 _ rfl)
theorem mt_Same_worked (G : GD K mg) : Meth K (ga K "Same") "worked" (ma K (ga K "Pair") "worked") := met_of (G.fact 165 _ rfl)
theorem mt_Same_len (G : GD K mg) : Meth K (ga K "Same") "__len__" (ma K (ga K "Formula") "__len__") := met_of (G.fact 166 _ rfl)
theorem mt_Same_joined (G : GD K mg) : Meth K (ga K "Same") "joined" (ma K (ga K "Same") "joined") := met_of (G.fact 167 _ rfl)
theorem kt_Same (G : GD K mg) : PySem.W.kitOne K (.ref (ga K "Same")) (.ref (ga K "Formula")) = some true := kit_one (G.fact 168 _ rfl)
theorem mt_Choice_nodes (G : GD K mg) : Meth K (ga K "Choice") "nodes" (ma K (ga K "Formula") "nodes") := met_of (G.fact 169 _ rfl)
theorem mt_Choice_fits (G : GD K mg) : Meth K (ga K "Choice") "fits" (ma K (ga K "Formula") "fits") := met_of (G.fact 170 _ rfl)
theorem mt_Choice_fits_itself (G : GD K mg) : Meth K (ga K "Choice") "fits_itself" (ma K (ga K "Choice") "fits_itself") := met_of (G.fact 171 _ rfl)
theorem mt_Choice_work_out (G : GD K mg) : Meth K (ga K "Choice") "work_out" (ma K (ga K "Formula") "work_out") := met_of (G.fact 172 _ rfl)
theorem mt_Choice_need (G : GD K mg) : Meth K (ga K "Choice") "need" (ma K (ga K "Formula") "need") := met_of (G.fact 173 _ rfl)
theorem mt_Choice_met (G : GD K mg) : Meth K (ga K "Choice") "met" (ma K (ga K "Formula") "met") := met_of (G.fact 174 _ rfl)
theorem mt_Choice_worked (G : GD K mg) : Meth K (ga K "Choice") "worked" (ma K (ga K "Choice") "worked") := met_of (G.fact 175 _ rfl)
theorem mt_Choice_len (G : GD K mg) : Meth K (ga K "Choice") "__len__" (ma K (ga K "Formula") "__len__") := met_of (G.fact 176 _ rfl)
theorem kt_Choice (G : GD K mg) : PySem.W.kitOne K (.ref (ga K "Choice")) (.ref (ga K "Formula")) = some true := kit_one (G.fact 177 _ rfl)
theorem mt_Solver_cells (G : GD K mg) : Meth K (ga K "Solver") "cells" (ma K (ga K "Solver") "cells") := met_of (G.fact 178 _ rfl)
theorem mt_Solver_formula_at (G : GD K mg) : Meth K (ga K "Solver") "formula_at" (ma K (ga K "Solver") "formula_at") := met_of (G.fact 179 _ rfl)
theorem mt_Solver_beside (G : GD K mg) : Meth K (ga K "Solver") "beside" (ma K (ga K "Solver") "beside") := met_of (G.fact 180 _ rfl)
theorem mt_Solver_solve (G : GD K mg) : Meth K (ga K "Solver") "solve" (ma K (ga K "Solver") "solve") := met_of (G.fact 181 _ rfl)
theorem mt_Solver_value_of (G : GD K mg) : Meth K (ga K "Solver") "value_of" (ma K (ga K "Solver") "value_of") := met_of (G.fact 182 _ rfl)
theorem mt_Solver_led_to (G : GD K mg) : Meth K (ga K "Solver") "led_to" (ma K (ga K "Solver") "led_to") := met_of (G.fact 183 _ rfl)
theorem mt_Solver_round_count (G : GD K mg) : Meth K (ga K "Solver") "round_count" (ma K (ga K "Solver") "round_count") := met_of (G.fact 184 _ rfl)
theorem mt_Cut_len (G : GD K mg) : Meth K (ga K "Cut") "__len__" (ma K (ga K "Cut") "__len__") := met_of (G.fact 185 _ rfl)
theorem mt_Cut_want_cell (G : GD K mg) : Meth K (ga K "Cut") "want_cell" (ma K (ga K "Cut") "want_cell") := met_of (G.fact 186 _ rfl)
theorem mt_Cut_want_row (G : GD K mg) : Meth K (ga K "Cut") "want_row" (ma K (ga K "Cut") "want_row") := met_of (G.fact 187 _ rfl)
theorem mt_Cut_value_at (G : GD K mg) : Meth K (ga K "Cut") "value_at" (ma K (ga K "Cut") "value_at") := met_of (G.fact 188 _ rfl)
theorem mt_Cut_row_values (G : GD K mg) : Meth K (ga K "Cut") "row_values" (ma K (ga K "Cut") "row_values") := met_of (G.fact 189 _ rfl)
theorem mt_Sheet_top (G : GD K mg) : Meth K (ga K "Sheet") "top" (ma K (ga K "Sheet") "top") := met_of (G.fact 190 _ rfl)
theorem mt_Sheet_want_kind (G : GD K mg) : Meth K (ga K "Sheet") "want_kind" (ma K (ga K "Sheet") "want_kind") := met_of (G.fact 191 _ rfl)
theorem mt_Sheet_want_column (G : GD K mg) : Meth K (ga K "Sheet") "want_column" (ma K (ga K "Sheet") "want_column") := met_of (G.fact 192 _ rfl)
theorem mt_Sheet_want_place (G : GD K mg) : Meth K (ga K "Sheet") "want_place" (ma K (ga K "Sheet") "want_place") := met_of (G.fact 193 _ rfl)
theorem mt_Sheet_formula (G : GD K mg) : Meth K (ga K "Sheet") "formula" (ma K (ga K "Sheet") "formula") := met_of (G.fact 194 _ rfl)
theorem mt_Sheet_place_behind (G : GD K mg) : Meth K (ga K "Sheet") "place_behind" (ma K (ga K "Sheet") "place_behind") := met_of (G.fact 195 _ rfl)
theorem mt_Sheet_eq (G : GD K mg) : Meth K (ga K "Sheet") "__eq__" (ma K (ga K "Sheet") "__eq__") := met_of (G.fact 196 _ rfl)
theorem kt_Sheet (G : GD K mg) : PySem.W.kitOne K (.ref (ga K "Sheet")) (.ref (ga K "Sheet")) = some true := kit_one (G.fact 197 _ rfl)
theorem pr_Cut_foot (G : GD K mg) : PropOf K (ga K "Cut") "foot" (ma K (ga K "Cut") "foot") (pa K "Cut" "foot") := prp_of (G.fact 198 _ rfl)
theorem pr_Cut_sheet (G : GD K mg) : PropOf K (ga K "Cut") "sheet" (ma K (ga K "Cut") "sheet") (pa K "Cut" "sheet") := prp_of (G.fact 199 _ rfl)
theorem pr_Cut_word (G : GD K mg) : PropOf K (ga K "Cut") "word" (ma K (ga K "Cut") "word") (pa K "Cut" "word") := prp_of (G.fact 200 _ rfl)
theorem pr_Sheet_columns (G : GD K mg) : PropOf K (ga K "Sheet") "columns" (ma K (ga K "Sheet") "columns") (pa K "Sheet" "columns") := prp_of (G.fact 201 _ rfl)
theorem pr_Sheet_modulus (G : GD K mg) : PropOf K (ga K "Sheet") "modulus" (ma K (ga K "Sheet") "modulus") (pa K "Sheet" "modulus") := prp_of (G.fact 202 _ rfl)
theorem cn_Here (G : GD K mg) : bCon "Here" "WORD" (.str "here") K = true := G.fact 203 _ rfl
theorem cn_Up (G : GD K mg) : bCon "Up" "WORD" (.str "up") K = true := G.fact 204 _ rfl
theorem cn_Down (G : GD K mg) : bCon "Down" "WORD" (.str "down") K = true := G.fact 205 _ rfl
theorem gv_MOST_SIGNS (G : GD K mg) : ∃ u, mg "MOST_SIGNS" = some u ∧ RelV (V.int 8) u := G.val 206
theorem gv_MOST_ROWS (G : GD K mg) : ∃ u, mg "MOST_ROWS" = some u ∧ RelV (V.int 400) u := G.val 207
theorem gv_MOST_NODES (G : GD K mg) : ∃ u, mg "MOST_NODES" = some u ∧ RelV (V.int 40) u := G.val 208
theorem gv_MOST_DEPTH (G : GD K mg) : ∃ u, mg "MOST_DEPTH" = some u ∧ RelV (V.int 8) u := G.val 209
theorem gv_GREATEST_MODULUS (G : GD K mg) : ∃ u, mg "GREATEST_MODULUS" = some u ∧ RelV (V.int 9) u := G.val 210
theorem gv_LEAST_MODULUS (G : GD K mg) : ∃ u, mg "LEAST_MODULUS" = some u ∧ RelV (V.int 2) u := G.val 211
theorem gv_MOST_MODULUS (G : GD K mg) : ∃ u, mg "MOST_MODULUS" = some u ∧ RelV (V.int 9) u := G.val 212
theorem gv_MOST_COLUMNS (G : GD K mg) : ∃ u, mg "MOST_COLUMNS" = some u ∧ RelV (V.int 6) u := G.val 213
theorem gv_MOST_KINDS (G : GD K mg) : ∃ u, mg "MOST_KINDS" = some u ∧ RelV (V.int 4) u := G.val 214
theorem gv_MOST_PLACES (G : GD K mg) : ∃ u, mg "MOST_PLACES" = some u ∧ RelV (V.int 3) u := G.val 215
theorem gv_SMALL (G : GD K mg) : ∃ u, mg "SMALL" = some u ∧ RelV (V.str "abcdefghijklmnopqrstuvwxyz") u := G.val 216
theorem gt_RESERVED (G : GD K mg) : bTup "RESERVED" [.str "if", .str "then", .str "else", .str "in", .str "here", .str "up", .str "down", .str "least", .str "most"] K = true := G.fact 217 _ rfl
theorem gg_Formula (G : GD K mg) : mg "Formula" = some (.ref (ga K "Formula")) := G.glo 218
theorem gk_Formula (G : GD K mg) : PySem.W.keepIn K (.ref (ga K "Formula")) = true := G.kp 218
theorem sf_Choice (G : GD K mg) : bSupF PF "Choice" "Choice.__init__" (fun K => ma K (ga K "Choice") "__init__") K = true := G.fact 219 _ rfl
theorem sf_Number (G : GD K mg) : bSupF PF "Number" "Number.__init__" (fun K => ma K (ga K "Number") "__init__") K = true := G.fact 220 _ rfl
theorem sf_Pair (G : GD K mg) : bSupF PF "Pair" "Pair.__init__" (fun K => ma K (ga K "Pair") "__init__") K = true := G.fact 221 _ rfl
theorem sf_Reference (G : GD K mg) : bSupF PF "Reference" "Reference.__init__" (fun K => ma K (ga K "Reference") "__init__") K = true := G.fact 222 _ rfl
theorem su_Number (G : GD K mg) : bSupC "Number" "Number" "__init__" "Formula" K = true := G.fact 223 _ rfl
theorem su_Here (G : GD K mg) : bSupC "Here" "Reference" "__init__" "Formula" K = true := G.fact 224 _ rfl
theorem su_Up (G : GD K mg) : bSupC "Up" "Reference" "__init__" "Formula" K = true := G.fact 225 _ rfl
theorem su_Down (G : GD K mg) : bSupC "Down" "Reference" "__init__" "Formula" K = true := G.fact 226 _ rfl
theorem su_Plus (G : GD K mg) : bSupC "Plus" "Pair" "__init__" "Formula" K = true := G.fact 227 _ rfl
theorem su_Least (G : GD K mg) : bSupC "Least" "Pair" "__init__" "Formula" K = true := G.fact 228 _ rfl
theorem su_Most (G : GD K mg) : bSupC "Most" "Pair" "__init__" "Formula" K = true := G.fact 229 _ rfl
theorem su_Same (G : GD K mg) : bSupC "Same" "Pair" "__init__" "Formula" K = true := G.fact 230 _ rfl
theorem su_Choice (G : GD K mg) : bSupC "Choice" "Choice" "__init__" "Formula" K = true := G.fact 231 _ rfl
theorem ln_Number (G : GD K mg) : PySem.W.findIn K (.ref (ga K "Number")) "__len__" = some (some (.ref (ma K (ga K "Formula") "__len__"))) ∧ PySem.W.isFn K (.ref (ma K (ga K "Formula") "__len__")) = true := spc_of (G.fact 232 _ rfl)
theorem ln_Here (G : GD K mg) : PySem.W.findIn K (.ref (ga K "Here")) "__len__" = some (some (.ref (ma K (ga K "Formula") "__len__"))) ∧ PySem.W.isFn K (.ref (ma K (ga K "Formula") "__len__")) = true := spc_of (G.fact 233 _ rfl)
theorem ln_Up (G : GD K mg) : PySem.W.findIn K (.ref (ga K "Up")) "__len__" = some (some (.ref (ma K (ga K "Formula") "__len__"))) ∧ PySem.W.isFn K (.ref (ma K (ga K "Formula") "__len__")) = true := spc_of (G.fact 234 _ rfl)
theorem ln_Down (G : GD K mg) : PySem.W.findIn K (.ref (ga K "Down")) "__len__" = some (some (.ref (ma K (ga K "Formula") "__len__"))) ∧ PySem.W.isFn K (.ref (ma K (ga K "Formula") "__len__")) = true := spc_of (G.fact 235 _ rfl)
theorem ln_Plus (G : GD K mg) : PySem.W.findIn K (.ref (ga K "Plus")) "__len__" = some (some (.ref (ma K (ga K "Formula") "__len__"))) ∧ PySem.W.isFn K (.ref (ma K (ga K "Formula") "__len__")) = true := spc_of (G.fact 236 _ rfl)
theorem ln_Least (G : GD K mg) : PySem.W.findIn K (.ref (ga K "Least")) "__len__" = some (some (.ref (ma K (ga K "Formula") "__len__"))) ∧ PySem.W.isFn K (.ref (ma K (ga K "Formula") "__len__")) = true := spc_of (G.fact 237 _ rfl)
theorem ln_Most (G : GD K mg) : PySem.W.findIn K (.ref (ga K "Most")) "__len__" = some (some (.ref (ma K (ga K "Formula") "__len__"))) ∧ PySem.W.isFn K (.ref (ma K (ga K "Formula") "__len__")) = true := spc_of (G.fact 238 _ rfl)
theorem ln_Same (G : GD K mg) : PySem.W.findIn K (.ref (ga K "Same")) "__len__" = some (some (.ref (ma K (ga K "Formula") "__len__"))) ∧ PySem.W.isFn K (.ref (ma K (ga K "Formula") "__len__")) = true := spc_of (G.fact 239 _ rfl)
theorem ln_Choice (G : GD K mg) : PySem.W.findIn K (.ref (ga K "Choice")) "__len__" = some (some (.ref (ma K (ga K "Formula") "__len__"))) ∧ PySem.W.isFn K (.ref (ma K (ga K "Formula") "__len__")) = true := spc_of (G.fact 240 _ rfl)
theorem ln_Cut (G : GD K mg) : PySem.W.findIn K (.ref (ga K "Cut")) "__len__" = some (some (.ref (ma K (ga K "Cut") "__len__"))) ∧ PySem.W.isFn K (.ref (ma K (ga K "Cut") "__len__")) = true := spc_of (G.fact 241 _ rfl)
theorem eq_Sheet (G : GD K mg) : PySem.W.findIn K (.ref (ga K "Sheet")) "__eq__" = some (some (.ref (ma K (ga K "Sheet") "__eq__"))) ∧ PySem.W.isFn K (.ref (ma K (ga K "Sheet") "__eq__")) = true := spc_of (G.fact 242 _ rfl)
theorem ne_Sheet (G : GD K mg) : PySem.W.findIn K (.ref (ga K "Sheet")) "__ne__" = some (some (.builtin "object.__ne__")) ∧ PySem.W.mroIn K (ga K "Sheet") (.type "object") = some true := ne_of_ (G.fact 243 _ rfl)
theorem g_sys (G : GD K mg) : (K.lookup sysModules).isSome = true := G.fact 244 bSys rfl
theorem gr_RESERVED (G : GD K mg) : mg "RESERVED" = some (.ref (ga K "RESERVED")) := G.ns _ _ (He.eqO_ok (G.fact 245 (bRef "RESERVED") rfl))
theorem gr_Solver (G : GD K mg) : mg "Solver" = some (.ref (ga K "Solver")) := G.ns _ _ (He.eqO_ok (G.fact 246 (bRef "Solver") rfl))
theorem gr_Cut (G : GD K mg) : mg "Cut" = some (.ref (ga K "Cut")) := G.ns _ _ (He.eqO_ok (G.fact 247 (bRef "Cut") rfl))
theorem gr_Number (G : GD K mg) : mg "Number" = some (.ref (ga K "Number")) := G.ns _ _ (He.eqO_ok (G.fact 248 (bRef "Number") rfl))
theorem gr_Here (G : GD K mg) : mg "Here" = some (.ref (ga K "Here")) := G.ns _ _ (He.eqO_ok (G.fact 249 (bRef "Here") rfl))
theorem gr_Up (G : GD K mg) : mg "Up" = some (.ref (ga K "Up")) := G.ns _ _ (He.eqO_ok (G.fact 250 (bRef "Up") rfl))
theorem gr_Down (G : GD K mg) : mg "Down" = some (.ref (ga K "Down")) := G.ns _ _ (He.eqO_ok (G.fact 251 (bRef "Down") rfl))
theorem gr_Plus (G : GD K mg) : mg "Plus" = some (.ref (ga K "Plus")) := G.ns _ _ (He.eqO_ok (G.fact 252 (bRef "Plus") rfl))
theorem gr_Least (G : GD K mg) : mg "Least" = some (.ref (ga K "Least")) := G.ns _ _ (He.eqO_ok (G.fact 253 (bRef "Least") rfl))
theorem gr_Most (G : GD K mg) : mg "Most" = some (.ref (ga K "Most")) := G.ns _ _ (He.eqO_ok (G.fact 254 (bRef "Most") rfl))
theorem gr_Same (G : GD K mg) : mg "Same" = some (.ref (ga K "Same")) := G.ns _ _ (He.eqO_ok (G.fact 255 (bRef "Same") rfl))
theorem gr_Choice (G : GD K mg) : mg "Choice" = some (.ref (ga K "Choice")) := G.ns _ _ (He.eqO_ok (G.fact 256 (bRef "Choice") rfl))
theorem gr_Sheet (G : GD K mg) : mg "Sheet" = some (.ref (ga K "Sheet")) := G.ns _ _ (He.eqO_ok (G.fact 257 (bRef "Sheet") rfl))
theorem fs_Number_init (G : GD K mg) : fnS K ((fun K => ma K (ga K "Number") "__init__") K) = DefS d_Number_init := G.sup 0 d_Number_init rfl
theorem fs_Reference_init (G : GD K mg) : fnS K ((fun K => ma K (ga K "Reference") "__init__") K) = DefS d_Reference_init := G.sup 1 d_Reference_init rfl
theorem fs_Pair_init (G : GD K mg) : fnS K ((fun K => ma K (ga K "Pair") "__init__") K) = DefS d_Pair_init := G.sup 2 d_Pair_init rfl
theorem fs_Choice_init (G : GD K mg) : fnS K ((fun K => ma K (ga K "Choice") "__init__") K) = DefS d_Choice_init := G.sup 3 d_Choice_init rfl
theorem fd_is_integer (G : GD K mg) : ∃ fd, FunD K "is_integer" "is_integer" (defArgs s_is_integer) (defBody s_is_integer) (defScope s_is_integer) (d_is_integer.dvs K) (d_is_integer.kws K) ((fun K => ga K "is_integer") K) fd := G.dfn 0 d_is_integer rfl
theorem fd_is_list (G : GD K mg) : ∃ fd, FunD K "is_list" "is_list" (defArgs s_is_list) (defBody s_is_list) (defScope s_is_list) (d_is_list.dvs K) (d_is_list.kws K) ((fun K => ga K "is_list") K) fd := G.dfn 1 d_is_list rfl
theorem fd_is_name (G : GD K mg) : ∃ fd, FunD K "is_name" "is_name" (defArgs s_is_name) (defBody s_is_name) (defScope s_is_name) (d_is_name.dvs K) (d_is_name.kws K) ((fun K => ga K "is_name") K) fd := G.dfn 2 d_is_name rfl
theorem fd_is_value (G : GD K mg) : ∃ fd, FunD K "is_value" "is_value" (defArgs s_is_value) (defBody s_is_value) (defScope s_is_value) (d_is_value.dvs K) (d_is_value.kws K) ((fun K => ga K "is_value") K) fd := G.dfn 3 d_is_value rfl
theorem fd_row_led_to (G : GD K mg) : ∃ fd, FunD K "row_led_to" "row_led_to" (defArgs s_row_led_to) (defBody s_row_led_to) (defScope s_row_led_to) (d_row_led_to.dvs K) (d_row_led_to.kws K) ((fun K => ga K "row_led_to") K) fd := G.dfn 4 d_row_led_to rfl
theorem fd_want_column (G : GD K mg) : ∃ fd, FunD K "want_column" "want_column" (defArgs s_want_column) (defBody s_want_column) (defScope s_want_column) (d_want_column.dvs K) (d_want_column.kws K) ((fun K => ga K "want_column") K) fd := G.dfn 5 d_want_column rfl
theorem fd_want_formula (G : GD K mg) : ∃ fd, FunD K "want_formula" "want_formula" (defArgs s_want_formula) (defBody s_want_formula) (defScope s_want_formula) (d_want_formula.dvs K) (d_want_formula.kws K) ((fun K => ga K "want_formula") K) fd := G.dfn 6 d_want_formula rfl
theorem fd_want_chosen (G : GD K mg) : ∃ fd, FunD K "want_chosen" "want_chosen" (defArgs s_want_chosen) (defBody s_want_chosen) (defScope s_want_chosen) (d_want_chosen.dvs K) (d_want_chosen.kws K) ((fun K => ga K "want_chosen") K) fd := G.dfn 7 d_want_chosen rfl
theorem fd_want_modulus (G : GD K mg) : ∃ fd, FunD K "want_modulus" "want_modulus" (defArgs s_want_modulus) (defBody s_want_modulus) (defScope s_want_modulus) (d_want_modulus.dvs K) (d_want_modulus.kws K) ((fun K => ga K "want_modulus") K) fd := G.dfn 8 d_want_modulus rfl
theorem fd_want_columns (G : GD K mg) : ∃ fd, FunD K "want_columns" "want_columns" (defArgs s_want_columns) (defBody s_want_columns) (defScope s_want_columns) (d_want_columns.dvs K) (d_want_columns.kws K) ((fun K => ga K "want_columns") K) fd := G.dfn 9 d_want_columns rfl
theorem fd_has_columns (G : GD K mg) : ∃ fd, FunD K "has_columns" "has_columns" (defArgs s_has_columns) (defBody s_has_columns) (defScope s_has_columns) (d_has_columns.dvs K) (d_has_columns.kws K) ((fun K => ga K "has_columns") K) fd := G.dfn 10 d_has_columns rfl
theorem fd_want_top (G : GD K mg) : ∃ fd, FunD K "want_top" "want_top" (defArgs s_want_top) (defBody s_want_top) (defScope s_want_top) (d_want_top.dvs K) (d_want_top.kws K) ((fun K => ga K "want_top") K) fd := G.dfn 11 d_want_top rfl
theorem fd_does_fit (G : GD K mg) : ∃ fd, FunD K "does_fit" "does_fit" (defArgs s_does_fit) (defBody s_does_fit) (defScope s_does_fit) (d_does_fit.dvs K) (d_does_fit.kws K) ((fun K => ga K "does_fit") K) fd := G.dfn 12 d_does_fit rfl
theorem fd_want_kinds (G : GD K mg) : ∃ fd, FunD K "want_kinds" "want_kinds" (defArgs s_want_kinds) (defBody s_want_kinds) (defScope s_want_kinds) (d_want_kinds.dvs K) (d_want_kinds.kws K) ((fun K => ga K "want_kinds") K) fd := G.dfn 13 d_want_kinds rfl
theorem fd_is_place (G : GD K mg) : ∃ fd, FunD K "is_place" "is_place" (defArgs s_is_place) (defBody s_is_place) (defScope s_is_place) (d_is_place.dvs K) (d_is_place.kws K) ((fun K => ga K "is_place") K) fd := G.dfn 14 d_is_place rfl
theorem fd_is_place_row (G : GD K mg) : ∃ fd, FunD K "is_place_row" "is_place_row" (defArgs s_is_place_row) (defBody s_is_place_row) (defScope s_is_place_row) (d_is_place_row.dvs K) (d_is_place_row.kws K) ((fun K => ga K "is_place_row") K) fd := G.dfn 15 d_is_place_row rfl
theorem fd_places_reached (G : GD K mg) : ∃ fd, FunD K "places_reached" "places_reached" (defArgs s_places_reached) (defBody s_places_reached) (defScope s_places_reached) (d_places_reached.dvs K) (d_places_reached.kws K) ((fun K => ga K "places_reached") K) fd := G.dfn 16 d_places_reached rfl
theorem fd_want_plan (G : GD K mg) : ∃ fd, FunD K "want_plan" "want_plan" (defArgs s_want_plan) (defBody s_want_plan) (defScope s_want_plan) (d_want_plan.dvs K) (d_want_plan.kws K) ((fun K => ga K "want_plan") K) fd := G.dfn 17 d_want_plan rfl
theorem fd_law_pot (G : GD K mg) : ∃ fd, FunD K "_law_pot" "_law_pot" (defArgs s_law_pot) (defBody s_law_pot) (defScope s_law_pot) (d_law_pot.dvs K) (d_law_pot.kws K) ((fun K => ga K "_law_pot") K) fd := G.dfn 18 d_law_pot rfl
theorem fd_law_draw (G : GD K mg) : ∃ fd, FunD K "_law_draw" "_law_draw" (defArgs s_law_draw) (defBody s_law_draw) (defScope s_law_draw) (d_law_draw.dvs K) (d_law_draw.kws K) ((fun K => ga K "_law_draw") K) fd := G.dfn 19 d_law_draw rfl
theorem fd_law_pick (G : GD K mg) : ∃ fd, FunD K "_law_pick" "_law_pick" (defArgs s_law_pick) (defBody s_law_pick) (defScope s_law_pick) (d_law_pick.dvs K) (d_law_pick.kws K) ((fun K => ga K "_law_pick") K) fd := G.dfn 20 d_law_pick rfl
theorem fd_law_taken (G : GD K mg) : ∃ fd, FunD K "_law_taken" "_law_taken" (defArgs s_law_taken) (defBody s_law_taken) (defScope s_law_taken) (d_law_taken.dvs K) (d_law_taken.kws K) ((fun K => ga K "_law_taken") K) fd := G.dfn 21 d_law_taken rfl
theorem fd_law_leaf (G : GD K mg) : ∃ fd, FunD K "_law_leaf" "_law_leaf" (defArgs s_law_leaf) (defBody s_law_leaf) (defScope s_law_leaf) (d_law_leaf.dvs K) (d_law_leaf.kws K) ((fun K => ga K "_law_leaf") K) fd := G.dfn 22 d_law_leaf rfl
theorem fd_law_part (G : GD K mg) : ∃ fd, FunD K "_law_part" "_law_part" (defArgs s_law_part) (defBody s_law_part) (defScope s_law_part) (d_law_part.dvs K) (d_law_part.kws K) ((fun K => ga K "_law_part") K) fd := G.dfn 23 d_law_part rfl
theorem fd_law_plan (G : GD K mg) : ∃ fd, FunD K "_law_plan" "_law_plan" (defArgs s_law_plan) (defBody s_law_plan) (defScope s_law_plan) (d_law_plan.dvs K) (d_law_plan.kws K) ((fun K => ga K "_law_plan") K) fd := G.dfn 24 d_law_plan rfl
theorem fd_law_sheet (G : GD K mg) : ∃ fd, FunD K "_law_sheet" "_law_sheet" (defArgs s_law_sheet) (defBody s_law_sheet) (defScope s_law_sheet) (d_law_sheet.dvs K) (d_law_sheet.kws K) ((fun K => ga K "_law_sheet") K) fd := G.dfn 25 d_law_sheet rfl
theorem fd_law_formula (G : GD K mg) : ∃ fd, FunD K "_law_formula" "_law_formula" (defArgs s_law_formula) (defBody s_law_formula) (defScope s_law_formula) (d_law_formula.dvs K) (d_law_formula.kws K) ((fun K => ga K "_law_formula") K) fd := G.dfn 26 d_law_formula rfl
theorem fd_law_made (G : GD K mg) : ∃ fd, FunD K "_law_made" "_law_made" (defArgs s_law_made) (defBody s_law_made) (defScope s_law_made) (d_law_made.dvs K) (d_law_made.kws K) ((fun K => ga K "_law_made") K) fd := G.dfn 27 d_law_made rfl
theorem fd_law_joined (G : GD K mg) : ∃ fd, FunD K "_law_joined" "_law_joined" (defArgs s_law_joined) (defBody s_law_joined) (defScope s_law_joined) (d_law_joined.dvs K) (d_law_joined.kws K) ((fun K => ga K "_law_joined") K) fd := G.dfn 28 d_law_joined rfl
theorem fd_law_worked (G : GD K mg) : ∃ fd, FunD K "_law_worked" "_law_worked" (defArgs s_law_worked) (defBody s_law_worked) (defScope s_law_worked) (d_law_worked.dvs K) (d_law_worked.kws K) ((fun K => ga K "_law_worked") K) fd := G.dfn 29 d_law_worked rfl
theorem fd_law_beside (G : GD K mg) : ∃ fd, FunD K "_law_beside" "_law_beside" (defArgs s_law_beside) (defBody s_law_beside) (defScope s_law_beside) (d_law_beside.dvs K) (d_law_beside.kws K) ((fun K => ga K "_law_beside") K) fd := G.dfn 30 d_law_beside rfl
theorem fd_law_cut (G : GD K mg) : ∃ fd, FunD K "_law_cut" "_law_cut" (defArgs s_law_cut) (defBody s_law_cut) (defScope s_law_cut) (d_law_cut.dvs K) (d_law_cut.kws K) ((fun K => ga K "_law_cut") K) fd := G.dfn 31 d_law_cut rfl
theorem fd_law_words (G : GD K mg) : ∃ fd, FunD K "_law_words" "_law_words" (defArgs s_law_words) (defBody s_law_words) (defScope s_law_words) (d_law_words.dvs K) (d_law_words.kws K) ((fun K => ga K "_law_words") K) fd := G.dfn 32 d_law_words rfl
theorem fd_law_word (G : GD K mg) : ∃ fd, FunD K "_law_word" "_law_word" (defArgs s_law_word) (defBody s_law_word) (defScope s_law_word) (d_law_word.dvs K) (d_law_word.kws K) ((fun K => ga K "_law_word") K) fd := G.dfn 33 d_law_word rfl
theorem fd_law_any (G : GD K mg) : ∃ fd, FunD K "_law_any" "_law_any" (defArgs s_law_any) (defBody s_law_any) (defScope s_law_any) (d_law_any.dvs K) (d_law_any.kws K) ((fun K => ga K "_law_any") K) fd := G.dfn 34 d_law_any rfl
theorem fd_law_is_right (G : GD K mg) : ∃ fd, FunD K "_law_is_right" "_law_is_right" (defArgs s_law_is_right) (defBody s_law_is_right) (defScope s_law_is_right) (d_law_is_right.dvs K) (d_law_is_right.kws K) ((fun K => ga K "_law_is_right") K) fd := G.dfn 35 d_law_is_right rfl
theorem fd_law_right (G : GD K mg) : ∃ fd, FunD K "_law_right" "_law_right" (defArgs s_law_right) (defBody s_law_right) (defScope s_law_right) (d_law_right.dvs K) (d_law_right.kws K) ((fun K => ga K "_law_right") K) fd := G.dfn 36 d_law_right rfl
theorem fd_law (G : GD K mg) : ∃ fd, FunD K "law" "law" (defArgs s_law) (defBody s_law) (defScope s_law) (d_law.dvs K) (d_law.kws K) ((fun K => ga K "law") K) fd := G.dfn 37 d_law rfl
theorem fd_Solver_init (G : GD K mg) : ∃ fd, FunD K "__init__" "Solver.__init__" (defArgs s_Solver_init) (defBody s_Solver_init) (defScope s_Solver_init) (d_Solver_init.dvs K) (d_Solver_init.kws K) ((fun K => ma K (ga K "Solver") "__init__") K) fd := G.dfn 38 d_Solver_init rfl
theorem fd_Solver_cells (G : GD K mg) : ∃ fd, FunD K "cells" "Solver.cells" (defArgs s_Solver_cells) (defBody s_Solver_cells) (defScope s_Solver_cells) (d_Solver_cells.dvs K) (d_Solver_cells.kws K) ((fun K => ma K (ga K "Solver") "cells") K) fd := G.dfn 39 d_Solver_cells rfl
theorem fd_Solver_formula_at (G : GD K mg) : ∃ fd, FunD K "formula_at" "Solver.formula_at" (defArgs s_Solver_formula_at) (defBody s_Solver_formula_at) (defScope s_Solver_formula_at) (d_Solver_formula_at.dvs K) (d_Solver_formula_at.kws K) ((fun K => ma K (ga K "Solver") "formula_at") K) fd := G.dfn 40 d_Solver_formula_at rfl
theorem fd_Solver_beside (G : GD K mg) : ∃ fd, FunD K "beside" "Solver.beside" (defArgs s_Solver_beside) (defBody s_Solver_beside) (defScope s_Solver_beside) (d_Solver_beside.dvs K) (d_Solver_beside.kws K) ((fun K => ma K (ga K "Solver") "beside") K) fd := G.dfn 41 d_Solver_beside rfl
theorem fd_Solver_solve (G : GD K mg) : ∃ fd, FunD K "solve" "Solver.solve" (defArgs s_Solver_solve) (defBody s_Solver_solve) (defScope s_Solver_solve) (d_Solver_solve.dvs K) (d_Solver_solve.kws K) ((fun K => ma K (ga K "Solver") "solve") K) fd := G.dfn 42 d_Solver_solve rfl
theorem fd_Solver_value_of (G : GD K mg) : ∃ fd, FunD K "value_of" "Solver.value_of" (defArgs s_Solver_value_of) (defBody s_Solver_value_of) (defScope s_Solver_value_of) (d_Solver_value_of.dvs K) (d_Solver_value_of.kws K) ((fun K => ma K (ga K "Solver") "value_of") K) fd := G.dfn 43 d_Solver_value_of rfl
theorem fd_Solver_led_to (G : GD K mg) : ∃ fd, FunD K "led_to" "Solver.led_to" (defArgs s_Solver_led_to) (defBody s_Solver_led_to) (defScope s_Solver_led_to) (d_Solver_led_to.dvs K) (d_Solver_led_to.kws K) ((fun K => ma K (ga K "Solver") "led_to") K) fd := G.dfn 44 d_Solver_led_to rfl
theorem fd_Solver_round_count (G : GD K mg) : ∃ fd, FunD K "round_count" "Solver.round_count" (defArgs s_Solver_round_count) (defBody s_Solver_round_count) (defScope s_Solver_round_count) (d_Solver_round_count.dvs K) (d_Solver_round_count.kws K) ((fun K => ma K (ga K "Solver") "round_count") K) fd := G.dfn 45 d_Solver_round_count rfl
theorem fd_Cut_init (G : GD K mg) : ∃ fd, FunD K "__init__" "Cut.__init__" (defArgs s_Cut_init) (defBody s_Cut_init) (defScope s_Cut_init) (d_Cut_init.dvs K) (d_Cut_init.kws K) ((fun K => ma K (ga K "Cut") "__init__") K) fd := G.dfn 46 d_Cut_init rfl
theorem fd_Cut_sheet (G : GD K mg) : ∃ fd, FunD K "sheet" "Cut.sheet" (defArgs s_Cut_sheet) (defBody s_Cut_sheet) (defScope s_Cut_sheet) (d_Cut_sheet.dvs K) (d_Cut_sheet.kws K) ((fun K => pa K "Cut" "sheet") K) fd := G.dfn 47 d_Cut_sheet rfl
theorem fd_Cut_word (G : GD K mg) : ∃ fd, FunD K "word" "Cut.word" (defArgs s_Cut_word) (defBody s_Cut_word) (defScope s_Cut_word) (d_Cut_word.dvs K) (d_Cut_word.kws K) ((fun K => pa K "Cut" "word") K) fd := G.dfn 48 d_Cut_word rfl
theorem fd_Cut_foot (G : GD K mg) : ∃ fd, FunD K "foot" "Cut.foot" (defArgs s_Cut_foot) (defBody s_Cut_foot) (defScope s_Cut_foot) (d_Cut_foot.dvs K) (d_Cut_foot.kws K) ((fun K => pa K "Cut" "foot") K) fd := G.dfn 49 d_Cut_foot rfl
theorem fd_Cut_len (G : GD K mg) : ∃ fd, FunD K "__len__" "Cut.__len__" (defArgs s_Cut_len) (defBody s_Cut_len) (defScope s_Cut_len) (d_Cut_len.dvs K) (d_Cut_len.kws K) ((fun K => ma K (ga K "Cut") "__len__") K) fd := G.dfn 50 d_Cut_len rfl
theorem fd_Cut_want_cell (G : GD K mg) : ∃ fd, FunD K "want_cell" "Cut.want_cell" (defArgs s_Cut_want_cell) (defBody s_Cut_want_cell) (defScope s_Cut_want_cell) (d_Cut_want_cell.dvs K) (d_Cut_want_cell.kws K) ((fun K => ma K (ga K "Cut") "want_cell") K) fd := G.dfn 51 d_Cut_want_cell rfl
theorem fd_Cut_want_row (G : GD K mg) : ∃ fd, FunD K "want_row" "Cut.want_row" (defArgs s_Cut_want_row) (defBody s_Cut_want_row) (defScope s_Cut_want_row) (d_Cut_want_row.dvs K) (d_Cut_want_row.kws K) ((fun K => ma K (ga K "Cut") "want_row") K) fd := G.dfn 52 d_Cut_want_row rfl
theorem fd_Cut_value_at (G : GD K mg) : ∃ fd, FunD K "value_at" "Cut.value_at" (defArgs s_Cut_value_at) (defBody s_Cut_value_at) (defScope s_Cut_value_at) (d_Cut_value_at.dvs K) (d_Cut_value_at.kws K) ((fun K => ma K (ga K "Cut") "value_at") K) fd := G.dfn 53 d_Cut_value_at rfl
theorem fd_Cut_row_values (G : GD K mg) : ∃ fd, FunD K "row_values" "Cut.row_values" (defArgs s_Cut_row_values) (defBody s_Cut_row_values) (defScope s_Cut_row_values) (d_Cut_row_values.dvs K) (d_Cut_row_values.kws K) ((fun K => ma K (ga K "Cut") "row_values") K) fd := G.dfn 54 d_Cut_row_values rfl
theorem fd_Formula_init (G : GD K mg) : ∃ fd, FunD K "__init__" "Formula.__init__" (defArgs s_Formula_init) (defBody s_Formula_init) (defScope s_Formula_init) (d_Formula_init.dvs K) (d_Formula_init.kws K) ((fun K => ma K (ga K "Formula") "__init__") K) fd := G.dfn 55 d_Formula_init rfl
theorem fd_Formula_nodes (G : GD K mg) : ∃ fd, FunD K "nodes" "Formula.nodes" (defArgs s_Formula_nodes) (defBody s_Formula_nodes) (defScope s_Formula_nodes) (d_Formula_nodes.dvs K) (d_Formula_nodes.kws K) ((fun K => ma K (ga K "Formula") "nodes") K) fd := G.dfn 56 d_Formula_nodes rfl
theorem fd_Formula_fits (G : GD K mg) : ∃ fd, FunD K "fits" "Formula.fits" (defArgs s_Formula_fits) (defBody s_Formula_fits) (defScope s_Formula_fits) (d_Formula_fits.dvs K) (d_Formula_fits.kws K) ((fun K => ma K (ga K "Formula") "fits") K) fd := G.dfn 57 d_Formula_fits rfl
theorem fd_Formula_fits_itself (G : GD K mg) : ∃ fd, FunD K "fits_itself" "Formula.fits_itself" (defArgs s_Formula_fits_itself) (defBody s_Formula_fits_itself) (defScope s_Formula_fits_itself) (d_Formula_fits_itself.dvs K) (d_Formula_fits_itself.kws K) ((fun K => ma K (ga K "Formula") "fits_itself") K) fd := G.dfn 58 d_Formula_fits_itself rfl
theorem fd_Formula_work_out (G : GD K mg) : ∃ fd, FunD K "work_out" "Formula.work_out" (defArgs s_Formula_work_out) (defBody s_Formula_work_out) (defScope s_Formula_work_out) (d_Formula_work_out.dvs K) (d_Formula_work_out.kws K) ((fun K => ma K (ga K "Formula") "work_out") K) fd := G.dfn 59 d_Formula_work_out rfl
theorem fd_Formula_need (G : GD K mg) : ∃ fd, FunD K "need" "Formula.need" (defArgs s_Formula_need) (defBody s_Formula_need) (defScope s_Formula_need) (d_Formula_need.dvs K) (d_Formula_need.kws K) ((fun K => ma K (ga K "Formula") "need") K) fd := G.dfn 60 d_Formula_need rfl
theorem fd_Formula_met (G : GD K mg) : ∃ fd, FunD K "met" "Formula.met" (defArgs s_Formula_met) (defBody s_Formula_met) (defScope s_Formula_met) (d_Formula_met.dvs K) (d_Formula_met.kws K) ((fun K => ma K (ga K "Formula") "met") K) fd := G.dfn 61 d_Formula_met rfl
theorem fd_Formula_len (G : GD K mg) : ∃ fd, FunD K "__len__" "Formula.__len__" (defArgs s_Formula_len) (defBody s_Formula_len) (defScope s_Formula_len) (d_Formula_len.dvs K) (d_Formula_len.kws K) ((fun K => ma K (ga K "Formula") "__len__") K) fd := G.dfn 62 d_Formula_len rfl
theorem fd_Number_fits_itself (G : GD K mg) : ∃ fd, FunD K "fits_itself" "Number.fits_itself" (defArgs s_Number_fits_itself) (defBody s_Number_fits_itself) (defScope s_Number_fits_itself) (d_Number_fits_itself.dvs K) (d_Number_fits_itself.kws K) ((fun K => ma K (ga K "Number") "fits_itself") K) fd := G.dfn 63 d_Number_fits_itself rfl
theorem fd_Number_worked (G : GD K mg) : ∃ fd, FunD K "worked" "Number.worked" (defArgs s_Number_worked) (defBody s_Number_worked) (defScope s_Number_worked) (d_Number_worked.dvs K) (d_Number_worked.kws K) ((fun K => ma K (ga K "Number") "worked") K) fd := G.dfn 64 d_Number_worked rfl
theorem fd_Reference_fits_itself (G : GD K mg) : ∃ fd, FunD K "fits_itself" "Reference.fits_itself" (defArgs s_Reference_fits_itself) (defBody s_Reference_fits_itself) (defScope s_Reference_fits_itself) (d_Reference_fits_itself.dvs K) (d_Reference_fits_itself.kws K) ((fun K => ma K (ga K "Reference") "fits_itself") K) fd := G.dfn 65 d_Reference_fits_itself rfl
theorem fd_Reference_worked (G : GD K mg) : ∃ fd, FunD K "worked" "Reference.worked" (defArgs s_Reference_worked) (defBody s_Reference_worked) (defScope s_Reference_worked) (d_Reference_worked.dvs K) (d_Reference_worked.kws K) ((fun K => ma K (ga K "Reference") "worked") K) fd := G.dfn 66 d_Reference_worked rfl
theorem fd_Pair_worked (G : GD K mg) : ∃ fd, FunD K "worked" "Pair.worked" (defArgs s_Pair_worked) (defBody s_Pair_worked) (defScope s_Pair_worked) (d_Pair_worked.dvs K) (d_Pair_worked.kws K) ((fun K => ma K (ga K "Pair") "worked") K) fd := G.dfn 67 d_Pair_worked rfl
theorem fd_Plus_joined (G : GD K mg) : ∃ fd, FunD K "joined" "Plus.joined" (defArgs s_Plus_joined) (defBody s_Plus_joined) (defScope s_Plus_joined) (d_Plus_joined.dvs K) (d_Plus_joined.kws K) ((fun K => ma K (ga K "Plus") "joined") K) fd := G.dfn 68 d_Plus_joined rfl
theorem fd_Least_joined (G : GD K mg) : ∃ fd, FunD K "joined" "Least.joined" (defArgs s_Least_joined) (defBody s_Least_joined) (defScope s_Least_joined) (d_Least_joined.dvs K) (d_Least_joined.kws K) ((fun K => ma K (ga K "Least") "joined") K) fd := G.dfn 69 d_Least_joined rfl
theorem fd_Most_joined (G : GD K mg) : ∃ fd, FunD K "joined" "Most.joined" (defArgs s_Most_joined) (defBody s_Most_joined) (defScope s_Most_joined) (d_Most_joined.dvs K) (d_Most_joined.kws K) ((fun K => ma K (ga K "Most") "joined") K) fd := G.dfn 70 d_Most_joined rfl
theorem fd_Same_joined (G : GD K mg) : ∃ fd, FunD K "joined" "Same.joined" (defArgs s_Same_joined) (defBody s_Same_joined) (defScope s_Same_joined) (d_Same_joined.dvs K) (d_Same_joined.kws K) ((fun K => ma K (ga K "Same") "joined") K) fd := G.dfn 71 d_Same_joined rfl
theorem fd_Choice_fits_itself (G : GD K mg) : ∃ fd, FunD K "fits_itself" "Choice.fits_itself" (defArgs s_Choice_fits_itself) (defBody s_Choice_fits_itself) (defScope s_Choice_fits_itself) (d_Choice_fits_itself.dvs K) (d_Choice_fits_itself.kws K) ((fun K => ma K (ga K "Choice") "fits_itself") K) fd := G.dfn 72 d_Choice_fits_itself rfl
theorem fd_Choice_worked (G : GD K mg) : ∃ fd, FunD K "worked" "Choice.worked" (defArgs s_Choice_worked) (defBody s_Choice_worked) (defScope s_Choice_worked) (d_Choice_worked.dvs K) (d_Choice_worked.kws K) ((fun K => ma K (ga K "Choice") "worked") K) fd := G.dfn 73 d_Choice_worked rfl
theorem fd_Sheet_init (G : GD K mg) : ∃ fd, FunD K "__init__" "Sheet.__init__" (defArgs s_Sheet_init) (defBody s_Sheet_init) (defScope s_Sheet_init) (d_Sheet_init.dvs K) (d_Sheet_init.kws K) ((fun K => ma K (ga K "Sheet") "__init__") K) fd := G.dfn 74 d_Sheet_init rfl
theorem fd_Sheet_modulus (G : GD K mg) : ∃ fd, FunD K "modulus" "Sheet.modulus" (defArgs s_Sheet_modulus) (defBody s_Sheet_modulus) (defScope s_Sheet_modulus) (d_Sheet_modulus.dvs K) (d_Sheet_modulus.kws K) ((fun K => pa K "Sheet" "modulus") K) fd := G.dfn 75 d_Sheet_modulus rfl
theorem fd_Sheet_columns (G : GD K mg) : ∃ fd, FunD K "columns" "Sheet.columns" (defArgs s_Sheet_columns) (defBody s_Sheet_columns) (defScope s_Sheet_columns) (d_Sheet_columns.dvs K) (d_Sheet_columns.kws K) ((fun K => pa K "Sheet" "columns") K) fd := G.dfn 76 d_Sheet_columns rfl
theorem fd_Sheet_top (G : GD K mg) : ∃ fd, FunD K "top" "Sheet.top" (defArgs s_Sheet_top) (defBody s_Sheet_top) (defScope s_Sheet_top) (d_Sheet_top.dvs K) (d_Sheet_top.kws K) ((fun K => ma K (ga K "Sheet") "top") K) fd := G.dfn 77 d_Sheet_top rfl
theorem fd_Sheet_want_kind (G : GD K mg) : ∃ fd, FunD K "want_kind" "Sheet.want_kind" (defArgs s_Sheet_want_kind) (defBody s_Sheet_want_kind) (defScope s_Sheet_want_kind) (d_Sheet_want_kind.dvs K) (d_Sheet_want_kind.kws K) ((fun K => ma K (ga K "Sheet") "want_kind") K) fd := G.dfn 78 d_Sheet_want_kind rfl
theorem fd_Sheet_want_column (G : GD K mg) : ∃ fd, FunD K "want_column" "Sheet.want_column" (defArgs s_Sheet_want_column) (defBody s_Sheet_want_column) (defScope s_Sheet_want_column) (d_Sheet_want_column.dvs K) (d_Sheet_want_column.kws K) ((fun K => ma K (ga K "Sheet") "want_column") K) fd := G.dfn 79 d_Sheet_want_column rfl
theorem fd_Sheet_want_place (G : GD K mg) : ∃ fd, FunD K "want_place" "Sheet.want_place" (defArgs s_Sheet_want_place) (defBody s_Sheet_want_place) (defScope s_Sheet_want_place) (d_Sheet_want_place.dvs K) (d_Sheet_want_place.kws K) ((fun K => ma K (ga K "Sheet") "want_place") K) fd := G.dfn 80 d_Sheet_want_place rfl
theorem fd_Sheet_formula (G : GD K mg) : ∃ fd, FunD K "formula" "Sheet.formula" (defArgs s_Sheet_formula) (defBody s_Sheet_formula) (defScope s_Sheet_formula) (d_Sheet_formula.dvs K) (d_Sheet_formula.kws K) ((fun K => ma K (ga K "Sheet") "formula") K) fd := G.dfn 81 d_Sheet_formula rfl
theorem fd_Sheet_place_behind (G : GD K mg) : ∃ fd, FunD K "place_behind" "Sheet.place_behind" (defArgs s_Sheet_place_behind) (defBody s_Sheet_place_behind) (defScope s_Sheet_place_behind) (d_Sheet_place_behind.dvs K) (d_Sheet_place_behind.kws K) ((fun K => ma K (ga K "Sheet") "place_behind") K) fd := G.dfn 82 d_Sheet_place_behind rfl
theorem fd_Sheet_eq (G : GD K mg) : ∃ fd, FunD K "__eq__" "Sheet.__eq__" (defArgs s_Sheet_eq) (defBody s_Sheet_eq) (defScope s_Sheet_eq) (d_Sheet_eq.dvs K) (d_Sheet_eq.kws K) ((fun K => ma K (ga K "Sheet") "__eq__") K) fd := G.dfn 83 d_Sheet_eq rfl
end
end Bn
/-! H1: the head's run, its facts -/
namespace Bn
open PySem PySem.W PySem.Calls PyProof.Rows HandSHeadRun
abbrev R : OpenRow := OpenLaw.row PySem.Challenge.rw_belowneeds_k31_whole_cuts_by_turns
abbrev qv : Program := view R.prog [101]
def names0 : List PySem.Str := [("_wall" : PySem.Str), ("__name__" : PySem.Str), ("SheetError" : PySem.Str), ("InvalidNumber" : PySem.Str), ("InvalidName" : PySem.Str), ("InvalidFormula" : PySem.Str), ("InvalidChosen" : PySem.Str), ("InvalidColumns" : PySem.Str), ("InvalidTop" : PySem.Str), ("InvalidKinds" : PySem.Str), ("InvalidPlan" : PySem.Str), ("InvalidWord" : PySem.Str)]
def names1 : List PySem.Str := [("InvalidFoot" : PySem.Str), ("InvalidRow" : PySem.Str), ("InvalidText" : PySem.Str), ("MissingError" : PySem.Str), ("UnknownColumn" : PySem.Str), ("UnknownKind" : PySem.Str), ("UnknownPlace" : PySem.Str), ("LimitError" : PySem.Str), ("TooMany" : PySem.Str), ("SMALL" : PySem.Str), ("RESERVED" : PySem.Str), ("MOST_SIGNS" : PySem.Str)]
def names2 : List PySem.Str := [("is_integer" : PySem.Str), ("is_list" : PySem.Str), ("is_name" : PySem.Str), ("is_value" : PySem.Str), ("row_led_to" : PySem.Str), ("Solver" : PySem.Str), ("MOST_ROWS" : PySem.Str), ("want_foot" : PySem.Str), ("want_column" : PySem.Str), ("Cut" : PySem.Str), ("WHERES" : PySem.Str), ("DIGITS" : PySem.Str)]
def names3 : List PySem.Str := [("MOST_NODES" : PySem.Str), ("MOST_DEPTH" : PySem.Str), ("Reader" : PySem.Str), ("read_formula_model" : PySem.Str), ("GREATEST_MODULUS" : PySem.Str), ("want_formula" : PySem.Str), ("Formula" : PySem.Str), ("Number" : PySem.Str), ("Reference" : PySem.Str), ("Here" : PySem.Str), ("Up" : PySem.Str), ("Down" : PySem.Str)]
def names4 : List PySem.Str := [("Pair" : PySem.Str), ("Plus" : PySem.Str), ("Least" : PySem.Str), ("Most" : PySem.Str), ("Same" : PySem.Str), ("want_chosen" : PySem.Str), ("listed_text" : PySem.Str), ("Choice" : PySem.Str), ("reference_of" : PySem.Str), ("pair_of" : PySem.Str), ("formula_of" : PySem.Str), ("LEAST_MODULUS" : PySem.Str)]
def names5 : List PySem.Str := [("MOST_MODULUS" : PySem.Str), ("MOST_COLUMNS" : PySem.Str), ("MOST_KINDS" : PySem.Str), ("MOST_PLACES" : PySem.Str), ("want_modulus" : PySem.Str), ("want_columns" : PySem.Str), ("has_columns" : PySem.Str), ("want_top" : PySem.Str), ("does_fit" : PySem.Str), ("want_kinds" : PySem.Str), ("is_place" : PySem.Str), ("is_place_row" : PySem.Str)]
def names6 : List PySem.Str := [("places_reached" : PySem.Str), ("want_plan" : PySem.Str), ("Sheet" : PySem.Str), ("_law_pot" : PySem.Str), ("_law_draw" : PySem.Str), ("_law_pick" : PySem.Str), ("_law_taken" : PySem.Str), ("_law_leaf" : PySem.Str), ("_law_part" : PySem.Str), ("_law_plan" : PySem.Str), ("_law_sheet" : PySem.Str), ("_law_formula" : PySem.Str)]
def names7 : List PySem.Str := [("_law_made" : PySem.Str), ("_law_joined" : PySem.Str), ("_law_worked" : PySem.Str), ("_law_beside" : PySem.Str), ("_law_cut" : PySem.Str), ("_law_words" : PySem.Str), ("_law_word" : PySem.Str), ("_law_any" : PySem.Str), ("_law_is_right" : PySem.Str), ("_law_right" : PySem.Str)]
def names : List PySem.Str := names0 ++ names1 ++ names2 ++ names3 ++ names4 ++ names5 ++ names6 ++ names7

theorem all_cut {α : Type} (n : Nat) {l : List α} {f : α → Bool} (h1 : (l.take n).all f = true) (h2 : (l.drop n).all f = true) : l.all f = true := by
  rw [← List.take_append_drop n l, List.all_append, h1, h2]
  rfl
theorem run1 (w : World) : ∀ os : OsState, (endF (stepQ (denQ tabQ) R.prog w) 20000 R.prog w os).map (fun s => (FS.map (fun d => fnS (frM (getT s)) (d.at_ (frM (getT s)))), looksF R.prog (boot_heap w.params) s.abs)) = some (FS.map DefS, true) := by
  intro os
  kernel_rfl
theorem run2 (w : World) : ∀ os : OsState, (endF (stepQ (denQ tabQ) R.prog w) 20000 R.prog w os).map (fun s => FN.map fun d => He5.fnA (frM (getT s)) (d.at_ (frM (getT s)))) = some (FN.map He5.DefA.val) := by
  intro os
  kernel_rfl
theorem run3 (w : World) : ∀ os : OsState, (endF (stepQ (denQ tabQ) R.prog w) 20000 R.prog w os).map (fun s => seenQ qv names (importedModules R.prog.main.body) (fun s => xlAt qv [] s && recOk R.toRowW.records s) s.abs) = some (openGood qv names) := by
  intro os
  kernel_rfl
theorem run4 (w : World) : ∀ os : OsState, (endF (stepQ (denQ tabQ) R.prog w) 20000 R.prog w os).map (fun s => (FB.take 130).all fun b => b (frM (getT s))) = some true := by
  intro os
  kernel_rfl
theorem run5 (w : World) : ∀ os : OsState, (endF (stepQ (denQ tabQ) R.prog w) 20000 R.prog w os).map (fun s => (FB.drop 130).all fun b => b (frM (getT s))) = some true := by
  intro os
  kernel_rfl
theorem run6 (w : World) : ∀ os : OsState, (endF (stepQ (denQ tabQ) R.prog w) 20000 R.prog w os).map (fun s => (FN.drop 50).all fun d => d.ok (frM (getT s))) = some true := by
  intro os
  kernel_rfl
theorem run7 (w : World) : ∀ os : OsState, (endF (stepQ (denQ tabQ) R.prog w) 20000 R.prog w os).map (fun s => (FN.take 50).all fun d => d.ok (frM (getT s))) = some true := by
  intro os
  kernel_rfl
theorem run (w : World) : HandSHeadRun.RunEq R qv (hookM FB FN FS) (obT FB FN FS) 20000 names w := by
  intro os
  have r1 := run1 w os
  have r2 := run2 w os
  have r3 := run3 w os
  have r4 := run4 w os
  have r5 := run5 w os
  have r6 := run6 w os
  have r7 := run7 w os
  generalize endF (stepQ (denQ tabQ) R.prog w) 20000 R.prog w os = e at r1 r2 r3 r4 r5 r6 r7 ⊢
  cases e with
  | none => exact absurd r4 (by simp)
  | some t =>
    have s' := congrArg Prod.fst (Option.some.inj r1)
    have n1 := congrArg Prod.snd (Option.some.inj r1)
    have v' := Option.some.inj r2
    have n2 := Option.some.inj r3
    have b1 := Option.some.inj r4
    have b2 := Option.some.inj r5
    have o1 := Option.some.inj r7
    have o2 := Option.some.inj r6
    have b' : (FB.all fun b => b (frM (getT t))) = true := all_cut 130 b1 b2
    have o' : (FN.all fun d => d.ok (frM (getT t))) = true := all_cut 50 o1 o2
    refine congrArg some (Prod.ext n1 (Prod.ext n2 ?_))
    refine Prod.ext (Prod.ext ?_ v') s'
    show ((FB.all fun b => b (frM (getT t))) && FN.all fun d => d.ok (frM (getT t))) = true
    rw [b', o']
    rfl
end Bn
/-! B3: a method that says super().__init__(..) between other statements. -/
namespace Bn
open PySem PySem.Spec PyProof.Rows L2 NdefX

/-- what the written part holds of a method that closes over __class__ alone: its function, its cell, its code -/
structure SupF (P : Program) (K : Fr) (mg : Str → Option Value) (f : Addr) (F : NF) (D : Addr) : Prop where
  fn : ∃ (oc : Value) (od : Option Addr) (kV doc pm : Value) (an : Option Addr) (ct : Value) (osl : Array (Option Value)),
    K.lookup f = some ⟨oc, od, .func (PySem.W.fnX F.name F.qual F.params F.body F.scope F.cl .none kV doc pm an (.ref F.c) ct), osl⟩
  code : PySem.W.codeIn K (.ref F.c) F.qual = true
  file : ∃ (ccl : Value) (cdd : Option Addr) (vs : Array Value) (ccs : Array (Option Value)) (file : Str) (tf : Tok), K.lookup F.c = some ⟨ccl, cdd, .fields vs, ccs⟩ ∧ vs[2]? = some (.str file tf) ∧ ((P.main.file : Str) == file) = true
  clo : ∃ cc : Addr, F.cl = [(("__class__" : Str), cc)] ∧ ∃ (o : Obj), K.lookup cc = some o ∧ o.data = .cell (some (.ref D))
  cls : ∃ cd, PySem.W.clsIn K D = some cd
  opq : PySem.W.nsIn K cStatics "thirdparty.any" = some none
  sup : mg "super" = none
  top : (P.main.scope.names.lookup ("super" : Str)).isSome = false
/-- the class at C finds, behind D, the method at g -/
structure SupC (K : Fr) (C D : Addr) (m : Str) (g : Addr) : Prop where
  at_ : PySem.W.ks_superIn K C D m = some (some (.ref g))
  fn : PySem.W.fnIn K g = true
  ty : PySem.W.typeIn K (.ref g) = some (.type "function")
  sub : PySem.W.mroIn K C (.ref D) = some true

theorem execs_app (env : Env) : ∀ (a b : List Stmt), execs (a ++ b) env = (execs a env >>= fun f => match f with | .next => execs b env | f => pure f)
  | [], b => by
    show execs b env = (pure Flow.next >>= _)
    rw [pure_bind]
  | st :: a, b => by
    rw [List.cons_append, execs_cons, execs_cons, bind_assoc]
    congr 1
    funext f
    cases f with
    | next => exact execs_app env a b
    | ret v => exact (pure_bind _ _).symm
    | brk => exact (pure_bind _ _).symm
    | cont => exact (pure_bind _ _).symm
/-- the reading of the whole: pre, then super().m(args) of the object at slot 0, then post -/
def tSupM (W : Addr → Pr → Prop) (ta : TA) (tk : L2.St → Hp → Prop) : L2.St → Hp → Prop := fun σ1 H1 =>
  ∃ (x C dx : Addr) (fs : List (Str × V)) (p : Pr), σ1[0]? = some (some (.ref x)) ∧ H1 x = some (.ins C dx fs) ∧ W C p ∧ ta σ1 H1 fun vs H2 => p (.ref x :: vs) H2 fun _ H3 => tk σ1 H3
def tSup (W : Addr → Pr → Prop) (tpre : TS) (ta : TA) (tpost : TS) : TS := fun D σ H => tpre { D with nx := tSupM W ta (tpost D) } σ H

section
variable {P : Program} {w : World} {K : Fr} {mg : Str → Option Value} {base : Heap} {k : Nat} {f D : Addr} {F : NF} {N ps : List Str} {p : Pr}
/-- W of the rule: the class's way to the method behind D, with its promise -/
def SupW (P : Program) (w : World) (K : Fr) (mg : Str → Option Value) (base : Heap) (k : Nat) (D : Addr) (m : Str) (C : Addr) (p : Pr) : Prop :=
  ∃ g, Cls K C ∧ SupC K C D m g ∧ Keeps P w K mg base k g p
/-- the statement super().m(args), at the code that runs -/
theorem sup_stmt {A : Around} {outer : List Env} {s0 : Shared} {H0 : Hp} {E : XK} {m : Str} {ar : Arg} {args : List Expr} {p0 p1 apos cpos epos : Pos} {pl : Sem Bool} {ta : TA} {s : Shared} {σ : L2.St} {H : Hp} {tk : L2.St → Hp → Prop}
    (T : SupF P K mg f F D) (S : NScope N ps ["__class__"] F.scope) (hr : Rm k (ncx L2.CX0 P w K mg base N F f A outer s0 H0 E).nox.A)
    (hp : (F.params.posonlyargs ++ F.params.args).head? = some ar) (hN : N[0]? = some ar.arg) (hka : F.scope.names.lookup ar.arg = some .local) (hks : F.scope.names.lookup ("super" : Str) = some .globalImplicit) (hkc : F.scope.names.lookup ("__class__" : Str) = some .free)
    (hm : (m == ("__class__" : Str)) = false) (ha : PA (ncx L2.CX0 P w K mg base N F f A outer s0 H0 E).nox args ta)
    (hst : (backTo cpos (starEach args (envF F f s0.heap.objs.size))).any (·.1) = false)
    (he : eval (.Call (.Attribute (.Call (.Name "super" p0) [] [] p1) m apos) args [] cpos) (envF F f s0.heap.objs.size) = (attributeBase (.Call (.Name "super" p0) [] [] p1) m (envF F f s0.heap.objs.size) (eval (.Call (.Name "super" p0) [] [] p1) (envF F f s0.heap.objs.size)) >>= fun ov =>
      standAt apos.atName >>= fun _ => holding [ov] (getMethod ov m pl) >>= fun fx => callWith cpos fx.1 fx.2 (backTo cpos (starEach args (envF F f s0.heap.objs.size))) []))
    (hev : ∀ (q : Addr) (Q : Args → Shared → Prop) (E' : Value → Shared → Prop) (s : Shared), wpAny (model P w) (ncx L2.CX0 P w K mg base N F f A outer s0 H0 E).nox.A (spliced (backTo cpos (starEach args (envF F f s0.heap.objs.size)))) (fun vs => Q ⟨vs, []⟩) E' s →
      wpAny (model P w) (ncx L2.CX0 P w K mg base N F f A outer s0 H0 E).nox.A (evalArgs (.ref q) true (backTo cpos (starEach args (envF F f s0.heap.objs.size))) []) Q E' s)
    (hes : swapsWith (.Call (.Attribute (.Call (.Name "super" p0) [] [] p1) m apos) args [] cpos) none epos.line (envF F f s0.heap.objs.size) = pure false)
    (I : Inv (ncx L2.CX0 P w K mg base N F f A outer s0 H0 E).nox [] σ H s)
    (h : tSupM (SupW P w K mg base k D m) ta tk σ H) :
    _root_.PySem.wpAt (model P w) (ncx L2.CX0 P w K mg base N F f A outer s0 H0 E).nox.A (.func F.body (envF F f s0.heap.objs.size)) (exec (.Expr (.Call (.Attribute (.Call (.Name "super" p0) [] [] p1) m apos) args [] cpos) epos) (envF F f s0.heap.objs.size))
      (fun fl s' => fl = .next ∧ ∃ H', Inv (ncx L2.CX0 P w K mg base N F f A outer s0 H0 E).nox [] σ H' s' ∧ tk σ H') (fun _ _ => False) s := by
  let X0 := (ncx L2.CX0 P w K mg base N F f A outer s0 H0 E).nox
  obtain ⟨x, C, dx, fs, p, hσ, hx, ⟨g, hC, hS, hF⟩, hta⟩ := h
  obtain ⟨oc, od, kV, doc, pm, an, ct, osl, lf⟩ := T.fn
  obtain ⟨ccl, cdd, vs, ccs, file, tf, lc, hvs, hfile⟩ := T.file
  obtain ⟨cc, hcl, oC, lcc, hcell⟩ := T.clo
  obtain ⟨cdD, hcD⟩ := T.cls
  have kin : K.In s.heap := I.kIn
  have hquiet := I.quiet
  refine PySem.ks_wpAt_Expr_any ?_ hquiet hes
  rw [he]
  -- super()
  obtain ⟨mL, hnL, hlL⟩ := I.loc
  obtain ⟨uS, rS, lS⟩ := hlL 0 ar.arg (.ref x) hN hσ (.inl hka)
  cases rS
  have hmS : mL ar.arg = some (.ref x) := by
    rcases lS with ⟨_, z⟩ | ⟨z, _⟩
    · exact z
    · rcases z with z | z
      · rw [show (ncx L2.CX0 P w K mg base N F f A outer s0 H0 E).nox.env.kindOf ar.arg = some .local from hka] at z; cases z
      · rw [show (ncx L2.CX0 P w K mg base N F f A outer s0 H0 E).nox.env.kindOf ar.arg = some .local from hka] at z; cases z
  obtain ⟨mb, hb1, hb2⟩ := I.mod.blt
  obtain ⟨oD, hD1, hD2⟩ : ∃ oD, s.heap.get? D = some oD ∧ oD.data = .cls cdD := by
    unfold PySem.W.clsIn at hcD
    split at hcD
    · rename_i c d cd' sl ho
      cases hcD
      exact ⟨_, kin _ _ ho, rfl⟩
    · cases hcD
  obtain ⟨mA, O, _, _, _, _⟩ := ins_get I.hok hx
  obtain ⟨odx, J, _⟩ := O.look
  have hblt : X0.env.builtins = builtinsNs := I.ok.blt
  refine _root_.PySem.wpAt_bind (PySem.ks_wpAt_super_base (env := envF F f s0.heap.objs.size) hks hkc hm rfl (kin _ _ lf) rfl hp rfl (kin _ _ lc) rfl hvs hfile T.top ?_)
  refine PySem.W.ks_loadName_global (env := envF F f s0.heap.objs.size) I.ok.kind hks (Calls.loadGlobal_builtin (env := envF F f s0.heap.objs.size) (I.mod.glob.keeps I.bk) T.sup (hb1.keeps I.bk) ((hb2 _ (by decide +kernel)).trans PyProof.Rows.Boot.«super») ⟨rfl, ?_⟩)
  refine wpAny_loadName_free (c := cc) I.ok.kind hkc (by show F.cl.lookup _ = _; rw [hcl]; rfl) ⟨oC, kin _ _ lcc, hcell⟩ ?_
  refine wpAny_loadName_local I.ok.kind hka hnL hmS ?_
  have I0 := I
  obtain ⟨hh, gg, dd, tt, os⟩ := s
  refine PySem.ks_wpAny_isType_cls hD1 hD2 ⟨rfl, ?_⟩
  refine PySem.ks_wpAny_call_super hD1 hD2 J.at_ J.cls (fun c e => ?_) (PySem.W.looks_mroIn kin hS.sub) (fun h' e1 k1 => ?_)
  · have z := J.no
    unfold PySem.W.notCls at z
    rw [e] at z
    exact Bool.noConfusion z
  have I1 : Inv X0 [] σ H ⟨h', gg, dd, tt, os⟩ := I0.kept (t' := tt) k1
  refine _root_.PySem.wpAt_of_wpAny (wpAny_bind (wpAny_standAt (wpAny_bind (wpAny_holding ?_))))
  -- its method
  obtain ⟨od', lg⟩ : ∃ of, K.lookup g = some of ∧ of.cls = .type "function" := by
    have z : (K.lookup g).map (·.cls) = some (.type "function") := hS.ty
    cases q : K.lookup g with
    | none => rw [q] at z; cases z
    | some of => rw [q] at z; exact ⟨of, rfl, Option.some.inj z⟩
  obtain ⟨cdC, hcC, hsupC⟩ : ∃ cd, PySem.W.clsIn K C = some cd ∧ PySem.W.alongIn K m ((cd.mro.dropWhile (· != .ref D)).drop 1) = some (some (.ref g)) := by
    have z := hS.at_
    unfold PySem.W.ks_superIn at z
    cases q : PySem.W.clsIn K C with
    | none => rw [q] at z; cases z
    | some cd => rw [q] at z; exact ⟨cd, rfl, z⟩
  have kin1 : K.In h' := I1.kIn
  refine PySem.ks_wpAny_getMethod_super (l₀ := cdC.mro) e1 (PySem.W.looks_opaque kin1 T.opq) ((PySem.W.looks_clsIn kin1 hcC).andThen .now) rfl kin1 hsupC (kin1 _ _ lg.1) lg.2 (PySem.W.ks_ne kin J hcC) hm ?_
  -- the call
  generalize hq : h'.objs.size = q
  have hget : (h'.push (PySem.W.methodObj (.ref g) (.ref x))).get? q = some (PySem.W.methodObj (.ref g) (.ref x)) := by
    rw [← hq]
    exact Heap.get?_push_at rfl rfl
  have I2 : Inv X0 [] σ H ⟨h'.push (PySem.W.methodObj (.ref g) (.ref x)), gg, dd, tt + 1, os⟩ := I1.kept (t' := tt + 1) fun b o e => Heap.get?_push_of_some _ e
  have hnq : H q = none := I1.hok.fresh (Nat.le_of_eq hq)
  have fq := I1.fpOk (b := q) (Nat.le_of_eq hq) hnq
  have I3 : Inv X0 [(q, PySem.W.methodObj (.ref g) (.ref x))] σ H ⟨h'.push (PySem.W.methodObj (.ref g) (.ref x)), gg, dd, tt + 1, os⟩ := I2.pins_of fun z hz => by
    cases List.mem_singleton.mp hz
    exact ⟨hget, hnq, fq.2.1, fq.2.2.1, fun v e => by cases e⟩
  refine PySem.W.callWith_of (P := PySem.W.MethP K q g (.ref x)) (by rw [hst]; rfl) (PySem.W.keeps_M hS.fn) (hev q _ _ _ ?_)
  refine thn (ha.run cpos _ _ σ H _ I3 hta) fun us s4 ⟨vs', H4, I4, r4, q4⟩ => ?_
  have hg4 := (I4.pin (q, PySem.W.methodObj (.ref g) (.ref x)) (by simp)).1
  refine ⟨⟨hg4, I4.kIn⟩, wpAny_call (PySem.W.method_call hg4 (codeAny_mono (run_kp (us := Value.ref x :: us) (vs := V.ref x :: vs') hF hr I4 (.cons rfl r4) q4) fun r s5 hr5 => ?_))⟩
  match r, hr5 with
  | .ok (.ret u), hr5 =>
    obtain ⟨v, H5, I5, _, q5⟩ := hr5
    exact ⟨rfl, H5, I5.pins_of fun z hz => (nomatch hz), q5⟩
  | .error e, hr5 => exact hr5
/-- a method whose body says super().m(args) once, at its own level -/
theorem keeps_sup {pre post : List Stmt} {m : Str} {ar : Arg} {args : List Expr} {p0 p1 apos cpos epos : Pos} {pl : Sem Bool}
    (T : SupF P K mg f F D) (S : NScope N ps ["__class__"] F.scope) (hb : F.body = pre ++ .Expr (.Call (.Attribute (.Call (.Name "super" p0) [] [] p1) m apos) args [] cpos) epos :: post)
    (bind : ∀ (kV doc pm : Value) (an : Option Addr) (ct : Value) (us : List Value), us.length = ps.length → bindArgs (PySem.W.fnX F.name F.qual F.params F.body F.scope F.cl .none kV doc pm an (.ref F.c) ct) ⟨us, []⟩ = pure (ps.zip us))
    (hp : (F.params.posonlyargs ++ F.params.args).head? = some ar) (hN : N[0]? = some ar.arg) (hka : F.scope.names.lookup ar.arg = some .local) (hks : F.scope.names.lookup ("super" : Str) = some .globalImplicit) (hkc : F.scope.names.lookup ("__class__" : Str) = some .free)
    (hm : (m == ("__class__" : Str)) = false)
    (hst : ∀ L, (backTo cpos (starEach args (envF F f L))).any (·.1) = false)
    (he : ∀ L, eval (.Call (.Attribute (.Call (.Name "super" p0) [] [] p1) m apos) args [] cpos) (envF F f L) = (attributeBase (.Call (.Name "super" p0) [] [] p1) m (envF F f L) (eval (.Call (.Name "super" p0) [] [] p1) (envF F f L)) >>= fun ov =>
      standAt apos.atName >>= fun _ => holding [ov] (getMethod ov m pl) >>= fun fx => callWith cpos fx.1 fx.2 (backTo cpos (starEach args (envF F f L))) []))
    (hev : ∀ (L : Addr) (A : Around) (q : Addr) (Q : Args → Shared → Prop) (E' : Value → Shared → Prop) (s : Shared), wpAny (model P w) A (spliced (backTo cpos (starEach args (envF F f L)))) (fun vs => Q ⟨vs, []⟩) E' s →
      wpAny (model P w) A (evalArgs (.ref q) true (backTo cpos (starEach args (envF F f L))) []) Q E' s)
    (hes : ∀ L, swapsWith (.Call (.Attribute (.Call (.Name "super" p0) [] [] p1) m apos) args [] cpos) none epos.line (envF F f L) = pure false)
    (len : ∀ vs H Q, p vs H Q → vs.length = ps.length)
    (body : ∀ (A : Around) (outer : List Env) (s : Shared) (H : Hp) (vs : List V) (Q : VK), Rm k (A.deeper (envF F f s.heap.objs.size)) → p vs H Q →
      ∃ tpre ta tpost, PSs (ncx L2.CX0 P w K mg base N F f A outer s H E0).nox pre tpre ∧ PA (ncx L2.CX0 P w K mg base N F f A outer s H E0).nox args ta ∧ PSs (ncx L2.CX0 P w K mg base N F f A outer s H E0).nox post tpost ∧
        tSup (SupW P w K mg base k D m) tpre ta tpost { nx := fun _ H' => Q .non H', rt := Q } (startF N vs [none]) H) : Keeps P w K mg base (k + 1) f p := by
  intro A outer s H us vs Q E hr e0 r hsp
  obtain ⟨oc, od, kV, doc, pm, an, ct, osl, lf⟩ := T.fn
  obtain ⟨cc, hcl, oC, lcc, hcell⟩ := T.clo
  have kin : K.In s.heap := e0.mod.kin.keeps fun b o e => (e0.bs b o e).1
  have lim : s.heap.NoLimit := e0.mod.nolimit.keeps fun b o e => (e0.bs b o e).1
  have hl := len _ _ _ hsp
  have hC : CellsAt F.cl ["__class__"] [none] s.heap H := by
    have lk : ∀ y c, F.cl.lookup y = some c → y = "__class__" ∧ c = cc := fun y c e => by
      rw [hcl] at e
      by_cases hy : y = ("__class__" : Str)
      · subst hy
        rw [List.lookup_cons_self] at e
        exact ⟨rfl, (Option.some.inj e).symm⟩
      · rw [List.lookup_cons, show (y == ("__class__" : Str)) = false from beq_eq_false_iff_ne.mpr hy] at e
        cases e
    have hcc := e0.bs cc oC (e0.mod.kin _ _ lcc)
    refine ⟨rfl, fun y c e => ?_, fun y z c e1 e2 => (lk y c e1).1.trans (lk z c e2).1.symm, fun i y hy => ?_⟩
    · obtain ⟨_, rfl⟩ := lk y c e
      exact ⟨hcc.2, _, oC, hcc.1, hcell⟩
    · cases i with
      | zero =>
        cases hy
        exact ⟨cc, by rw [hcl]; rfl, fun v hv => by cases hv⟩
      | succ i => cases hy
  refine codeAny_call_function hr.r.depth (kin _ _ lf) rfl S.co S.gen rfl (PySem.W.codeRec_of kin T.code) ?_
  rw [bind kV doc pm an ct us (by rw [← r.length]; exact hl)]
  refine wpAny_pure (wpAny_newFunctionEnv S.nocell (fun z hz => S.par z.1 (List.of_mem_zip hz).1) (fun h1 hns hsb => ⟨lim.fresh _ hsb, ?_⟩) S.kind)
  show codeAny _ _ (.func F.body (envF F f s.heap.objs.size)) _ _
  have kp : ∀ b o, s.heap.get? b = some o → h1.get? b = some o := fun b o e => hsb.extBut b o (Nat.ne_of_lt (Heap.lt_size e)) (Heap.get?_push_of_some _ e)
  obtain ⟨tpre, ta, tpost, h_pre, h_a, h_post, hq⟩ := body A outer s H vs Q (hr.deeper _) hsp
  have I : Inv (ncx L2.CX0 P w K mg base N F f A outer s H E0).nox [] (startF N vs [none]) H { s with heap := h1, toks := s.toks + (ps.zip us).length } := (inv_startN S hr.r.hd e0 hl r hC hns kp).wish _
  have fin : ∀ {σ' : L2.St} {H' : Hp} {v : V} {u : Value} {s' : Shared}, Inv (ncx L2.CX0 P w K mg base N F f A outer s H E0).nox [] σ' H' s' → L2.RelV v u → Q v H' → CE outer P w H s Q u s' :=
    fun J rv q => ⟨_, _, J.os, J.bare, J.base, J.hok, rv, q⟩
  have rest : ∀ {fl : Flow} {s' : Shared}, SP (ncx L2.CX0 P w K mg base N F f A outer s H E0).nox [] { nx := fun _ H' => Q .non H', rt := Q } fl s' → CR L2.CX0 outer P w H s Q E (.ok (.ret (match fl with | .ret v => v | _ => .none))) s' := fun {fl s'} hs => by
    match fl, hs with
    | .ret u, hs => obtain ⟨v, σ', H', J, rv, q⟩ := hs; exact fin J rv q
    | .next, hs => obtain ⟨σ', H', J, q⟩ := hs; exact fin (v := V.non) (u := Value.none) J rfl q
    | .brk, hs => obtain ⟨_, _, _, q⟩ := hs; exact False.elim q
    | .cont, hs => obtain ⟨_, _, _, q⟩ := hs; exact False.elim q
  refine PySem.ks_codeAny_funcAt (PySem.wpAt_mono (E := fun _ _ => False) (Q := fun fl s' => SP (ncx L2.CX0 P w K mg base N F f A outer s H E0).nox [] { nx := fun _ H' => Q .non H', rt := Q } fl s') ?_ (fun fl s' hs => rest hs) fun _ _ z => z.elim)
  rw [hb, execs_app]
  refine _root_.PySem.wpAt_bind (_root_.PySem.wpAt_of_wpAny (thn (h_pre.run [] _ _ H _ I hq) fun fl s1 hs => ?_))
  match fl, hs with
  | .next, hs =>
    obtain ⟨σ1, H1, I1, q1⟩ := hs
    rw [← hb]
    refine PySem.ks_wpAt_execs_cons (PySem.wpAt_mono (sup_stmt (pl := pl) T S (hr.deeper _) hp hN hka hks hkc hm h_a (hst _) (he _) (fun q Q' E' s' => hev _ _ q Q' E' s') (hes _) I1 q1) (fun fl s2 hs2 => ?_) fun _ _ z => z)
    obtain ⟨rfl, H2, I2, q2⟩ := hs2
    exact _root_.PySem.wpAt_of_wpAny (h_post.run [] s2 σ1 H2 _ I2 q2)
  | .ret v, hs => exact _root_.PySem.wpAt_of_wpAny (wpAny_pure hs)
  | .brk, hs => exact _root_.PySem.wpAt_of_wpAny (wpAny_pure hs)
  | .cont, hs => exact _root_.PySem.wpAt_of_wpAny (wpAny_pure hs)
end
end Bn
/-! D1: the four __init__ that say super(): what the facts give. -/
namespace Bn
open PySem PySem.Spec PyProof.Rows L2 NdefX
open He (ga ma)
abbrev PP : Program := PySem.Challenge.pw_belowneeds_k31_whole_cuts_by_turns
abbrev nfS (d : He5.DefA) (K : Fr) : NF := ⟨d.name, d.qual, d.params, d.body, d.scope, [(("__class__" : Str), (supW K (d.at_ K)).1)], (supW K (d.at_ K)).2⟩
theorem supF_of {K : Fr} {mg : Str → Option Value} {d : He5.DefA} {D q : Str} (h1 : fnS K (d.at_ K) = DefS d) (h2 : bSupF PF D q d.at_ K = true) (hq : d.qual = q) (hm : mg "super" = none) : SupF PP K mg (d.at_ K) (nfS d K) (ga K D) := by
  unfold bSupF at h2
  obtain ⟨a1, h2⟩ := an h2
  obtain ⟨a2, h2⟩ := an h2
  obtain ⟨a3, h2⟩ := an h2
  obtain ⟨a4, h2⟩ := an h2
  obtain ⟨a5, a6⟩ := an h2
  refine ⟨?_, ?_, ?_, ?_, ?_, He.eqO_ok a6, hm, by decide +kernel⟩
  · unfold fnS DefS at h1
    revert a1
    cases e : K.lookup (d.at_ K) with
    | none => intro a1; cases a1
    | some o =>
      obtain ⟨oc, od, da, sl⟩ := o
      cases da with
      | func fd =>
        intro a1
        obtain ⟨b1, a1⟩ := an a1
        obtain ⟨b2, b3⟩ := an a1
        have b1 := of_decide_eq_true b1
        have b2 := of_decide_eq_true b2
        have b3 := of_decide_eq_true b3
        rw [e] at h1
        have h1 := Option.some.inj h1
        simp only [Prod.mk.injEq] at h1
        obtain ⟨c1, c2, c3, c4, c5, c6, c7⟩ := h1
        obtain ⟨nm, ql, pa, bd, sc, gl, cl, df, kd, dc, pm, an_, cd, ct, bl⟩ := fd
        cases c1; cases c2; cases c3; cases c4; cases c5; cases c6; cases c7
        cases b1; cases b2; cases b3
        exact ⟨oc, od, kd, dc, pm, an_, ct, sl, rfl⟩
      | _ => intro a1; cases a1
  · show PySem.W.codeIn K (.ref (supW K (d.at_ K)).2) d.qual = true
    rw [hq]
    exact a2
  · show ∃ (ccl : Value) (cdd : Option Addr) (vs : Array Value) (ccs : Array (Option Value)) (file : Str) (tf : Tok), K.lookup (supW K (d.at_ K)).2 = some ⟨ccl, cdd, .fields vs, ccs⟩ ∧ vs[2]? = some (.str file tf) ∧ ((PP.main.file : Str) == file) = true
    revert a3
    cases e : K.lookup (supW K (d.at_ K)).2 with
    | none => intro a3; cases a3
    | some o =>
      obtain ⟨oc, od, da, sl⟩ := o
      cases da with
      | fields vs =>
        intro a3
        dsimp only at a3
        cases e2 : (vs[2]? : Option Value) with
        | none => rw [e2] at a3; cases a3
        | some v =>
          rw [e2] at a3
          cases v with
          | str x t => exact ⟨oc, od, vs, sl, x, t, rfl, e2, by rw [beq_iff_eq.mp a3]; exact beq_self_eq_true _⟩
          | _ => cases a3
      | _ => intro a3; cases a3
  · refine ⟨(supW K (d.at_ K)).1, rfl, ?_⟩
    revert a4
    cases e : K.lookup (supW K (d.at_ K)).1 with
    | none => intro a4; cases a4
    | some o =>
      obtain ⟨oc, od, da, sl⟩ := o
      cases da with
      | cell c =>
        cases c with
        | none => intro a4; cases a4
        | some v =>
          cases v with
          | ref a => intro a4; exact ⟨_, rfl, by rw [of_decide_eq_true a4]⟩
          | _ => intro a4; cases a4
      | _ => intro a4; cases a4
  · exact Option.isSome_iff_exists.mp a5
theorem supC_of {K : Fr} {C D m y : Str} (h : bSupC C D m y K = true) : SupC K (ga K C) (ga K D) m (ma K (ga K y) m) := by
  unfold bSupC at h
  obtain ⟨a1, h⟩ := an h
  obtain ⟨a2, h⟩ := an h
  obtain ⟨a3, a4⟩ := an h
  exact ⟨He.eqO_ok a1, a2, of_decide_eq_true a3, of_decide_eq_true a4⟩
end Bn
/-! B4: a def's promise by its body, with room and no repr under way. -/
namespace Bn
open PySem PySem.Spec PyProof.Rows L2
section
variable {P : Program} {w : World} {K : PySem.W.Frag} {mg : Str → Option Value} {base : Heap} {x qual : Str} {params : Arguments} {body : List Stmt} {scope : Scope} {dvs : List V} {kws : List (Str × V)} {f : Addr} {fd : FuncData} {N ps : List Str} {k : Nat} {p : Pr}
/-- how the body ends, read as the call's end -/
theorem ends_call {X : Cx} {H0 : Hp} {s0 : Shared} {outer : List Env} {Q : VK} {E : XK} {u : Flow} {s' : Shared} (hf : X.fs = frs outer) (he : X.ex = []) (hH : X.H_0 = H0) (hs : X.s_0 = s0) (h : SP X [] { nx := fun _ H' => Q .non H', rt := Q } u s') :
    CR L2.CX0 outer X.prog X.w H0 s0 Q E (.ok (.ret (match u with | .ret v => v | _ => .none))) s' := by
  have fin : ∀ {σ' : L2.St} {H' : Hp} {v : V} {z : Value}, Inv X [] σ' H' s' → RelV v z → Q v H' → CE outer X.prog X.w H0 s0 Q z s' := fun {σ' H' v z} J rv q => by
    refine ⟨v, H', hs ▸ J.os, J.bare, ?_, J.hok, rv, q⟩
    have b := J.base
    rw [hf, he, hH, hs] at b
    exact b
  match u, h with
  | .ret z, h => obtain ⟨v, σ', H', J, rv, q⟩ := h; exact fin J rv q
  | .next, h => obtain ⟨σ', H', J, q⟩ := h; exact fin (v := V.non) J rfl q
  | .brk, h => obtain ⟨_, _, _, q⟩ := h; exact q.elim
  | .cont, h => obtain ⟨_, _, _, q⟩ := h; exact q.elim
theorem kp_fn {ds : List Value} {dv : List V} (F : FunD K x qual params body scope dvs kws f fd) (S : FnScope N ps scope) (hb : Binds K fd ps ds) (hd : Vals dv ds) (len : ∀ vs H Q, p vs H Q → vs.length = ps.length)
    (run : ∀ (cdv : Value) (A : Around) (outer : List Env) (s : Shared) (H : Hp) (vs : List V) (Q : VK) (E : XK), Rm k (A.deeper (envOfC qual scope s.heap.objs.size f cdv)) → p vs H Q →
      ∃ t, PSs (cxOf L2.CX0 P w K mg base N qual scope f cdv A outer s H E) body t ∧ t { nx := fun _ H' => Q .non H', rt := Q } (start N vs) H) :
    Keeps P w K mg base (k + 1) f (fun vs H Q => p (vs ++ dv) H Q) := by
  intro A outer s H us0 vs0 Q E hr e0 r0 hp
  obtain ⟨oc, od, dV, kV, doc, pm, an, cdv, ct, osl, rfl, lk, hcd, _, _⟩ := F.ex
  have r : Vals (vs0 ++ dv) (us0 ++ ds) := r0.append hd
  have hl := len _ _ _ hp
  have kin : K.In s.heap := e0.mod.kin.keeps fun b o e => (e0.bs b o e).1
  have lim : s.heap.NoLimit := e0.mod.nolimit.keeps fun b o e => (e0.bs b o e).1
  have hpar : ∀ y ∈ ps.zip (us0 ++ ds), scope.names.lookup y.1 = some .local ∨ (scope.names.lookup y.1 = some .cell ∧ ((cellsFrom (s.heap.objs.size + 1) scope.names []).lookup y.1).isSome = true) := by
    rintro ⟨n, v⟩ hy
    refine (S.par n (List.of_mem_zip hy).1).imp id fun q => ⟨q, PySem.W.cellsFrom_some _ _ _ (.inl q)⟩
  refine codeAny_call_function hr.r.depth (kin _ _ lk) rfl S.co S.gen rfl (PySem.W.codeRec_of kin hcd) (hb s us0 kin (by rw [← r.length]; exact hl) _ _ _ _ ?_)
  refine wpAny_newFunctionEnv_cells S.kind hpar fun env he s1 inc => ?_
  subst he
  obtain ⟨t, ht, hq⟩ := run cdv A outer s H _ Q E (hr.deeper _) hp
  have I : Inv (cxOf L2.CX0 P w K mg base N qual scope f cdv A outer s H E) [] (start N (vs0 ++ dv)) H s1 := inv_start S hr.r.hd e0 hl r inc
  refine ⟨lim.keeps inc.toInCall.keep, codeAny_func (wpAny_mono (ht.run [] s1 _ H _ I hq) (fun u s' hs => ?_) fun _ _ z => z)⟩
  have z := ends_call (E := E) (X := cxOf L2.CX0 P w K mg base N qual scope f cdv A outer s H E) rfl rfl rfl rfl hs
  cases u <;> exact z
/-- every parameter is written -/
theorem kp_fn0 (F : FunD K x qual params body scope [] kws f fd) (S : FnScope N ps scope)
    (bind : ∀ (kV doc pm : Value) (an : Option Addr) (cdv ct : Value) (us : List Value), us.length = ps.length → bindArgs (PySem.W.fnOf x qual params body scope .none kV doc pm an cdv ct) ⟨us, []⟩ = pure (ps.zip us))
    (len : ∀ vs H Q, p vs H Q → vs.length = ps.length)
    (run : ∀ (cdv : Value) (A : Around) (outer : List Env) (s : Shared) (H : Hp) (vs : List V) (Q : VK) (E : XK), Rm k (A.deeper (envOfC qual scope s.heap.objs.size f cdv)) → p vs H Q →
      ∃ t, PSs (cxOf L2.CX0 P w K mg base N qual scope f cdv A outer s H E) body t ∧ t { nx := fun _ H' => Q .non H', rt := Q } (start N vs) H) :
    Keeps P w K mg base (k + 1) f p := by
  have z := kp_fn (dv := []) (ds := []) F S (F.bindsN bind) .nil len run
  exact z.imp fun vs H Q h => by rw [List.append_nil]; exact h
/-- the same with the context where nothing is raised (loops ask for it) -/
theorem kp_fnN (F : FunD K x qual params body scope [] kws f fd) (S : FnScope N ps scope)
    (bind : ∀ (kV doc pm : Value) (an : Option Addr) (cdv ct : Value) (us : List Value), us.length = ps.length → bindArgs (PySem.W.fnOf x qual params body scope .none kV doc pm an cdv ct) ⟨us, []⟩ = pure (ps.zip us))
    (len : ∀ vs H Q, p vs H Q → vs.length = ps.length)
    (run : ∀ (cdv : Value) (A : Around) (outer : List Env) (s : Shared) (H : Hp) (vs : List V) (Q : VK) (E : XK), Rm k (A.deeper (envOfC qual scope s.heap.objs.size f cdv)) → p vs H Q →
      ∃ t, PSs (cxOf L2.CX0 P w K mg base N qual scope f cdv A outer s H E).nox body t ∧ t { nx := fun _ H' => Q .non H', rt := Q } (start N vs) H) :
    Keeps P w K mg base (k + 1) f p := kp_fn0 F S bind len fun cdv A outer s H vs Q E hr hp =>
  let ⟨t, h, q⟩ := run cdv A outer s H vs Q E hr hp
  ⟨t, h.nox, q⟩
end
end Bn
/-! D2: heaps, attributes, comprehensions: short words. -/
namespace Bn
open PySem PySem.Spec PyProof.Rows L2
/-! ### heaps -/
theorem ifT {c : Bool} {A B : Prop} (hc : c = true) (h : A) : if c = true then A else B := by rw [if_pos hc]; exact h
theorem ifF {c : Bool} {A B : Prop} (hc : c = false) (h : B) : if c = true then A else B := by rw [hc, if_neg Bool.false_ne_true]; exact h
theorem ifB {c : Bool} {A B : Prop} (h1 : c = true → A) (h2 : c = false → B) : if c = true then A else B := by
  cases c with
  | true => exact ifT rfl (h1 rfl)
  | false => exact ifF rfl (h2 rfl)
theorem _root_.L2.Same.new {H : Hp} {p : Addr} {o : HO} (n : H p = none) : Same H (upd H p o) := fun b u e => by rw [upd_ne (ne_of_none e n)]; exact e
theorem _root_.L2.Same.put {B H : Hp} {p : Addr} {o : HO} (s : Same B H) (n : B p = none) : Same B (upd H p o) := fun b u e => by rw [upd_ne (ne_of_none e n)]; exact s b u e
theorem _root_.L2.Same.nn {B H : Hp} {p : Addr} (s : Same B H) (n : H p = none) : B p = none := s.free n
theorem same_trans {H H1 H2 : Hp} (a : Same H H1) (b : Same H1 H2) : Same H H2 := fun c o h => b c o (a c o h)
/-- without what stands at p -/
def dr (p : Addr) (H : Hp) : Hp := fun b => if b = p then none else H b
theorem dr_at {p : Addr} {H : Hp} : dr p H p = none := by unfold dr; rw [if_pos rfl]
theorem dr_ne {p b : Addr} {H : Hp} (h : b ≠ p) : dr p H b = H b := by unfold dr; rw [if_neg h]
theorem dr_of {p b : Addr} {H : Hp} {o u : HO} (h : H b = some o) (hp : H p = some u) (d : o ≠ u) : dr p H b = some o := by rw [dr_ne (ne_of h hp d)]; exact h
theorem dr_le {p : Addr} {H : Hp} : Same (dr p H) H := fun b o e => by
  by_cases h : b = p
  · subst h; rw [dr_at] at e; cases e
  · rw [dr_ne h] at e; exact e
theorem dr_same {p : Addr} {H H' : Hp} (s : Same H H') : Same (dr p H) (dr p H') := fun b o e => by
  by_cases h : b = p
  · subst h; rw [dr_at] at e; cases e
  · rw [dr_ne h] at e ⊢; exact s b o e
theorem dr_new {p : Addr} {H H' : Hp} (s : Same H H') (n : H p = none) : Same H (dr p H') := fun b o e => by rw [dr_ne (ne_of_none e n)]; exact s b o e
theorem dr_upd {p : Addr} {H : Hp} {o : HO} : dr p (upd H p o) = dr p H := by
  funext b
  by_cases h : b = p
  · subst h; rw [dr_at, dr_at]
  · rw [dr_ne h, dr_ne h, upd_ne h]
theorem dr_upd_ne {p q : Addr} {H : Hp} {o : HO} (h : q ≠ p) : dr p (upd H q o) = upd (dr p H) q o := by
  funext b
  by_cases hb : b = p
  · subst hb; rw [dr_at, upd_ne (Ne.symm h), dr_at]
  · rw [dr_ne hb]
    by_cases hq : b = q
    · subst hq; rw [upd_same, upd_same]
    · rw [upd_ne hq, upd_ne hq, dr_ne hb]
theorem dr_comm {p q : Addr} {H : Hp} : dr p (dr q H) = dr q (dr p H) := by
  funext b
  unfold dr
  split <;> split <;> rfl
theorem dr_none {p : Addr} {H : Hp} (h : H p = none) : dr p H = H := by
  funext b
  by_cases hb : b = p
  · subst hb; rw [dr_at, h]
  · rw [dr_ne hb]
theorem dr_free {p q : Addr} {H : Hp} (h : H q = none) : dr p H q = none := by
  unfold dr
  split
  · rfl
  · exact h
/-! ### attributes, methods, properties: what stands at the object -/
def FldAt (K : Fr) (H : Hp) (x : V) (f : Str) (v : V) : Prop := ∃ (a C dx : Addr) (fs : List (Str × V)), x = .ref a ∧ H a = some (.ins C dx fs) ∧ Cls K C ∧ NoAttr K C f ∧ fs.lookup f = some v
def MetAt (W : Addr → Str → Pr → Prop) (H : Hp) (x : V) (m : Str) (p : Pr) : Prop := ∃ (a C dx : Addr) (fs : List (Str × V)), x = .ref a ∧ H a = some (.ins C dx fs) ∧ fs.lookup m = none ∧ W C m p
def PrpAt (W : Addr → Str → Pr → Prop) (H : Hp) (x : V) (f : Str) (p : Pr) : Prop := ∃ (a C dx : Addr) (fs : List (Str × V)), x = .ref a ∧ H a = some (.ins C dx fs) ∧ W C f p
theorem FldAt.up {K : Fr} {H H' : Hp} {x : V} {f : Str} {v : V} (s : Same H H') (h : FldAt K H x f v) : FldAt K H' x f v := let ⟨a, C, dx, fs, e, ea, c, n, l⟩ := h; ⟨a, C, dx, fs, e, s _ _ ea, c, n, l⟩
theorem MetAt.up {W : Addr → Str → Pr → Prop} {H H' : Hp} {x : V} {m : Str} {p : Pr} (s : Same H H') (h : MetAt W H x m p) : MetAt W H' x m p := let ⟨a, C, dx, fs, e, ea, l, q⟩ := h; ⟨a, C, dx, fs, e, s _ _ ea, l, q⟩
theorem fld_of {K : Fr} {H : Hp} {a C dx : Addr} {fs : List (Str × V)} {fl : List Str} {f : Str} {v : V} (e : H a = some (.ins C dx fs)) (c : CF K C fl) (h : f ∈ fl) (l : fs.lookup f = some v) : FldAt K H (.ref a) f v := ⟨a, C, dx, fs, rfl, e, c.cl, c.no f h, l⟩
def tFl (K : Fr) (ta : TE) (f : Str) : TE := fun σ H Q => ta σ H fun x H1 => ∃ v, FldAt K H1 x f v ∧ Q v H1
def tMm (W : Addr → Str → Pr → Prop) (m : Str) (ta : TE) (t : TA) : TE := fun σ H Q => ta σ H fun x H1 => ∃ p, MetAt W H1 x m p ∧ t σ H1 fun vs H2 => p (x :: vs) H2 Q
def tPp (W : Addr → Str → Pr → Prop) (f : Str) (ta : TE) : TE := fun σ H Q => ta σ H fun x H1 => ∃ p, PrpAt W H1 x f p ∧ p [x] H1 Q
section
variable {X : Cx} {k j : Nat} {o e : Expr} {es : List Expr} {m f : Str} {pos apos : Pos} {ta : TE} {t : TA}
theorem pe_fl (he : PE X e ta) (hb : attributeBase e f X.env (eval e X.env) = eval e X.env := by rfl) : PE X (.Attribute e f pos) (tFl X.K ta f) := by
  refine ⟨fun pins s σ H Q I h => ?_⟩
  refine attr_of hb (thn (he.run pins s σ H _ I h) ?_)
  rintro u s1 ⟨x, H1, I1, rx, v, ⟨a, C, dx, fs, rfl, ea, c, n, l⟩, q⟩
  cases rx
  obtain ⟨mA, O, r, _, _, _⟩ := ins_get I1.hok ea
  obtain ⟨z, hz, rz⟩ := RelO.some_of (v := v) (o := mA f) (by rw [← l]; exact r f)
  exact get_map I1.kIn O (c.get f) c.hd n hz (handed_of rz) ⟨v, H1, I1.tok _, rz, q⟩
theorem pe_mm {pl : Sem Bool} (hr : Rm k X.A) (he : PE X o ta) (ha : PA X (e :: es) t)
    (hst : starEach (e :: es) X.env = (false, eval e X.env) :: starEach es X.env := by rfl) (hpl : (backTo pos (starEach es X.env)).any (·.1) = false := by rfl)
    (ht : eval (.Call (.Attribute o m apos) (e :: es) [] pos) X.env = (eval o X.env >>= fun ov => standAt apos.atName >>= fun _ =>
      holding [ov] (getMethod ov m pl) >>= fun fr => callWith pos fr.1 fr.2 (backTo pos (starEach (e :: es) X.env)) (backToKw pos (keywordEach [] X.env))) := by rfl) :
    PE X (.Call (.Attribute o m apos) (e :: es) [] pos) (tMm (MetR X.prog X.w X.K X.mg X.base k) m ta t) := by
  constructor
  intro pins s σ H Q I h
  refine PySem.W.methodCall_KW (pl := pl) (thn (he.run pins s σ H _ I h) ?_) ht
  rintro u s1 ⟨x, H1, I1, rx, p, ⟨a, C, dx, fs, rfl, ea, l, ⟨g, c, hm, F⟩⟩, q⟩
  cases rx
  refine getmeth_ok I1 ea c hm l (PySem.W.callWith_K (first := [.ref a]) (h₀ := X.base) I.ok.mod.kin hm.kp ?_ hst hpl)
  exact thn (ha.run pos pins s1 σ H1 _ I1 q) fun us s2 ⟨vs, H2, I2, r, q2⟩ => ⟨I2.kIn, run_at (us := .ref a :: us) (vs := .ref a :: vs) F hr I2 (.cons rfl r) q2⟩
theorem pe_mm0 {pl : Sem Bool} (hr : Rm k X.A) (he : PE X o ta)
    (ht : eval (.Call (.Attribute o m apos) [] [] pos) X.env = (eval o X.env >>= fun ov => standAt apos.atName >>= fun _ =>
      holding [ov] (getMethod ov m pl) >>= fun fr => callWith pos fr.1 fr.2 (backTo pos (starEach [] X.env)) (backToKw pos (keywordEach [] X.env))) := by rfl) :
    PE X (.Call (.Attribute o m apos) [] [] pos) (tMm (MetR X.prog X.w X.K X.mg X.base k) m ta tNil) := by
  constructor
  intro pins s σ H Q I h
  refine PySem.W.methodCall_KW (pl := pl) (thn (he.run pins s σ H _ I h) ?_) ht
  rintro u s1 ⟨x, H1, I1, rx, p, ⟨a, C, dx, fs, rfl, ea, l, ⟨g, c, hm, F⟩⟩, q⟩
  cases rx
  exact getmeth_ok I1 ea c hm l (PySem.W.callWith_K0 (first := [.ref a]) I1.kIn hm.kp (run_at (us := [.ref a]) (vs := [.ref a]) F hr I1 (.cons rfl .nil) q))
theorem pe_pp (hr : Rm (k + 1) X.A) (he : PE X e ta) (hab : attributeBase e f X.env (eval e X.env) = eval e X.env := by rfl) :
    PE X (.Attribute e f pos) (tPp (PrpR X.prog X.w X.K X.mg X.base k) f ta) := by
  constructor
  intro pins s σ H Q I h
  refine attr_of hab (thn (he.run pins s σ H _ I h) ?_)
  rintro u s1 ⟨x, H1, I1, rx, p, ⟨a, C, dx, fs, rfl, ea, ⟨q', g, c, hp, F⟩⟩, q⟩
  cases rx
  obtain ⟨mA, O, _, _, _, _⟩ := ins_get I1.hok ea
  obtain ⟨od, J, _⟩ := O.look
  obtain ⟨rest, hrec⟩ := hp.rec_
  have I2 := I1.tok (s1.toks + 1)
  have hc : (PySem.W.clsIn X.K C).isSome = true := by
    obtain ⟨cd, hc, _⟩ := PySem.W.any_some c.hd
    rw [hc]
    rfl
  refine PySem.W.get_bind I1.kIn J (PySem.W.plainGet_of (c.get f)).1 (PySem.W.findObj_data hc hp.at_ hp.get hp.tak) (PySem.W.plainGet_of (c.get f)).2 (wpAny_call (PySem.W.prop_get (s := { s1 with toks := s1.toks + 1 }) I1.kIn hrec ?_))
  refine codeAny_mono (F X.A.in1 X.stack { s1 with toks := s1.toks + 1 } H1 [.ref a] [.ref a] Q E0 hr.in1 I2.env0.in1 (.cons rfl .nil) q) ?_
  intro res s' hq
  match res, hq with
  | .error e, hq => exact False.elim hq
  | .ok (.ret u), hq =>
    obtain ⟨v, H', I3, rv, q3⟩ := I2.after hq
    show wpAny _ _ (handedOut u) _ _ _
    rw [PySem.W.handedOut_of (handed_of rv)]
    exact wpAny_pure ⟨v, H', I3, rv, q3⟩
  | .ok .next, hq => exact False.elim hq
  | .ok .brk, hq => exact False.elim hq
  | .ok .cont, hq => exact False.elim hq
end
/-! ### comprehensions -/
theorem wipe_id {σ : L2.St} : wipe σ [] = σ := rfl
section
variable {J : It} {n : Nat} {G : Hp → Prop} {Y : Nat → Hp → V → Hp → Prop} {g : TG} {tt : TT} {te tk tv : TE} {vs : List Nat} {σ : L2.St} {B : Hp} {D : Addr} {Qd : Hp → Prop}
/-- a list comprehension, one item a turn: E tells how the heap may go on, R what is kept of each item -/
theorem lc_ev (w : Walk J n G Y) (hn : n ≤ sizeLine) (E : Hp → Hp → Prop) (R : Nat → V → Hp → Prop) (e0 : E B (upd B D (.lst [])))
    (et : ∀ H H' acc ys, E B H → H D = some (.lst acc) → E H H' → H' D = some (.lst acc) → E B (upd H' D (.lst ys)))
    (ed : ∀ H H' acc, E B H → H D = some (.lst acc) → E H H' → H' D = some (.lst acc))
    (rm : ∀ i y H H' acc ys, R i y H → H D = some (.lst acc) → E H H' → R i y (upd H' D (.lst ys)))
    (ru : ∀ i y H acc ys, R i y H → H D = some (.lst acc) → R i y (upd H D (.lst ys)))
    (hG : ∀ i H, i ≤ n → E B H → G H)
    (hs : ∀ i x H H' acc, i < n → E B H → H D = some (.lst acc) → Y i H x H' → ∀ Fin : V → Hp → Prop, (∀ y H4, E H H4 → R i y H4 → Fin y H4) → g x (wipe σ vs) H' fun σ2 H2 => wipe σ2 vs = wipe σ vs ∧ te σ2 H2 Fin)
    (hd : ∀ H ys, E B H → H D = some (.lst ys) → ys.length = n → (∀ i y, ys[i]? = some y → R i y H) → Qd H) :
    ∃ W : Nat → Nat → Hp → Prop, (∃ m, W 0 m (upd B D (.lst []))) ∧ ∀ i m H, W i m H →
      (J.stop i H ∧ Qd H) ∨ (J.go i H ∧ ∃ Nx : Hp → Prop, (∀ H', Nx H' → ∃ m', m' < m ∧ W (i + 1) m' H') ∧ ∀ x H', J.yld i H x H' → g x (wipe σ vs) H' fun σ2 H2 => wipe σ2 vs = wipe σ vs ∧ tYes σ2 H2 fun b H3 =>
        if b = true then te σ2 H3 fun y H4 => ∃ acc, H4 D = some (.lst acc) ∧ acc.length < sizeLine ∧ Nx (upd H4 D (.lst (acc ++ [y]))) else Nx H3) := by
  refine lc_it w (fun i H => E B H ∧ ∃ ys, H D = some (.lst ys) ∧ ys.length = i ∧ ∀ i y, ys[i]? = some y → R i y H) ⟨e0, [], upd_same, rfl, fun i y h => by simp at h⟩ (fun i H hi h => hG i H hi h.1) ?_ ?_
  · rintro i x H H' hi ⟨hE, ys, hD, hl, hR⟩ hY
    have z := hs i x H H' ys hi hE hD hY (fun y H4 => ∃ acc, H4 D = some (.lst acc) ∧ acc.length < sizeLine ∧ (E B (upd H4 D (.lst (acc ++ [y]))) ∧ ∃ ys, (upd H4 D (.lst (acc ++ [y]))) D = some (.lst ys) ∧ ys.length = i + 1 ∧ ∀ i y', ys[i]? = some y' → R i y' (upd H4 D (.lst (acc ++ [y])))))
      fun y H4 h1 h2 => ⟨ys, ed H H4 ys hE hD h1, by omega, et H H4 ys _ hE hD h1 (ed H H4 ys hE hD h1), _, upd_same, by rw [List.length_append, hl]; rfl, fun j y' hj => ?_⟩
    · exact z
    · by_cases hlt : j < ys.length
      · rw [List.getElem?_append_left hlt] at hj
        exact rm j y' H H4 ys _ (hR j y' hj) hD h1
      · have hlt2 : j < (ys ++ [y]).length := (List.getElem?_eq_some_iff.mp hj).1
        have hj' : j = ys.length := by simp at hlt2; omega
        subst hj'
        rw [List.getElem?_append_right (Nat.le_refl _), Nat.sub_self] at hj
        cases hj
        exact ru _ _ _ ys _ (hl ▸ h2) (ed H H4 ys hE hD h1)
  · rintro H ⟨hE, ys, hD, hl, hR⟩
    exact hd H ys hE hD hl hR
/-- where the heap only grows -/
theorem lc_gr (w : Walk J n G Y) (hn : n ≤ sizeLine) (hD : B D = none) (R : Nat → V → Hp → Prop) (mono : ∀ i y H H', Same H H' → R i y H → R i y H') (hG : ∀ i H, i ≤ n → Same B H → G H)
    (hs : ∀ i x H H' acc, i < n → Same B H → H D = some (.lst acc) → Y i H x H' → ∀ Fin : V → Hp → Prop, (∀ y H4, Same H H4 → R i y (dr D H4) → Fin y H4) → g x (wipe σ vs) H' fun σ2 H2 => wipe σ2 vs = wipe σ vs ∧ te σ2 H2 Fin)
    (hd : ∀ H ys, Same B H → H D = some (.lst ys) → ys.length = n → (∀ i y, ys[i]? = some y → R i y (dr D H)) → Qd H) :
    ∃ W : Nat → Nat → Hp → Prop, (∃ m, W 0 m (upd B D (.lst []))) ∧ ∀ i m H, W i m H →
      (J.stop i H ∧ Qd H) ∨ (J.go i H ∧ ∃ Nx : Hp → Prop, (∀ H', Nx H' → ∃ m', m' < m ∧ W (i + 1) m' H') ∧ ∀ x H', J.yld i H x H' → g x (wipe σ vs) H' fun σ2 H2 => wipe σ2 vs = wipe σ vs ∧ tYes σ2 H2 fun b H3 =>
        if b = true then te σ2 H3 fun y H4 => ∃ acc, H4 D = some (.lst acc) ∧ acc.length < sizeLine ∧ Nx (upd H4 D (.lst (acc ++ [y]))) else Nx H3) :=
  lc_ev w hn Same (fun i y H => R i y (dr D H)) (Same.new hD) (fun H H' acc ys a _ b _ => L2.Same.put (same_trans a b) hD) (fun H H' acc _ a b => b _ _ a)
    (fun i y H H' acc ys a _ b => by rw [dr_upd]; exact mono i y _ _ (dr_same b) a) (fun i y H acc ys a _ => by rw [dr_upd]; exact a) hG hs hd
/-- one turn of a dict comprehension -/
theorem dc_it (w : Walk J n G Y) {H1 : Hp} (Pv : Nat → Hp → Prop) (h0 : Pv 0 (upd H1 D (.dK []))) (hG : ∀ i H, i ≤ n → Pv i H → G H)
    (hs : ∀ i x H H', i < n → Pv i H → Y i H x H' → g x (wipe σ vs) H' fun σ2 H2 => wipe σ2 vs = wipe σ vs ∧ tt σ2 H2 fun b H3 =>
      if b = true then tk σ2 H3 fun y H4 => tv σ2 H4 fun z H5 => ∃ kvs k, y = kV k ∧ H5 D = some (.dK kvs) ∧ kvs.length < sizeLine ∧ Pv (i + 1) (upd H5 D (.dK (putK kvs k z))) else Pv (i + 1) H3) (hd : ∀ H, Pv n H → Qd H) :
    ∃ W : Nat → Nat → Hp → Prop, (∃ m, W 0 m (upd H1 D (.dK []))) ∧ ∀ i m H, W i m H →
      (J.stop i H ∧ Qd H) ∨ (J.go i H ∧ ∃ Nx : Hp → Prop, (∀ H', Nx H' → ∃ m', m' < m ∧ W (i + 1) m' H') ∧ ∀ x H', J.yld i H x H' → g x (wipe σ vs) H' fun σ2 H2 => wipe σ2 vs = wipe σ vs ∧ tt σ2 H2 fun b H3 =>
        if b = true then tk σ2 H3 fun y H4 => tv σ2 H4 fun z H5 => ∃ kvs k, y = kV k ∧ H5 D = some (.dK kvs) ∧ kvs.length < sizeLine ∧ Nx (upd H5 D (.dK (putK kvs k z))) else Nx H3) := by
  refine ⟨fun i m H => m = n - i ∧ i ≤ n ∧ Pv i H, ⟨n, by simp, Nat.zero_le _, h0⟩, ?_⟩
  rintro i m H ⟨rfl, hi, p⟩
  have q := hG i H hi p
  by_cases hlt : i < n
  · exact .inr ⟨w.goes i H hlt q, Pv (i + 1), fun H' p' => ⟨n - (i + 1), by omega, rfl, hlt, p'⟩, fun x H' y => hs i x H H' hlt p (w.yields i H x H' hlt q y)⟩
  · have e : i = n := by omega
    subst e
    exact .inl ⟨w.stops H q, hd H p⟩
def kvz (ks : List Key) (zs : List V) : List (Key × V) := List.zipWith (fun k z => (k, z)) ks zs
theorem kvz_len {ks : List Key} {zs : List V} (h : zs.length = ks.length) : (kvz ks zs).length = ks.length := by unfold kvz; rw [List.length_zipWith]; omega
theorem kvz_keys : ∀ {ks : List Key} {zs : List V}, zs.length = ks.length → (kvz ks zs).map (·.1) = ks
  | [], [], _ => rfl
  | [], _ :: _, h => by simp at h
  | _ :: _, [], h => by simp at h
  | k :: ks, z :: zs, h => by
    show k :: (kvz ks zs).map (·.1) = _
    rw [kvz_keys (by simpa using h)]
theorem kvz_none : ∀ {ks : List Key} {zs : List V} {k : Key}, k ∉ ks → valV (kvz ks zs) k = none
  | [], _, _, _ => rfl
  | _ :: _, [], _, _ => rfl
  | j :: ks, z :: zs, k, h => by
    rw [List.mem_cons, not_or] at h
    show valV ((j, z) :: kvz ks zs) k = none
    rw [valV_neg fun e => h.1 e.symm]
    exact kvz_none h.2
theorem kvz_get : ∀ {ks : List Key} {zs : List V} {i : Nat} {k : Key} {z : V}, ks.Nodup → ks[i]? = some k → zs[i]? = some z → valV (kvz ks zs) k = some z
  | [], _, _, _, _, _, h, _ => by simp at h
  | _ :: _, [], _, _, _, _, _, h => by simp at h
  | j :: ks, y :: zs, 0, k, z, _, h1, h2 => by
    cases h1
    cases h2
    exact valV_pos (p := (j, y)) rfl
  | j :: ks, y :: zs, i + 1, k, z, hn, h1, h2 => by
    rw [List.nodup_cons] at hn
    have h1' : ks[i]? = some k := by simpa using h1
    have hk : k ∈ ks := List.mem_of_getElem? h1'
    show valV ((j, y) :: kvz ks zs) k = some z
    rw [valV_neg fun e => hn.1 (by rw [show j = k from e]; exact hk)]
    exact kvz_get hn.2 h1' (by simpa using h2)
theorem kvz_snoc : ∀ {ks : List Key} {zs : List V} {k : Key} {z : V}, zs.length = ks.length → kvz (ks ++ [k]) (zs ++ [z]) = kvz ks zs ++ [(k, z)]
  | [], [], _, _, _ => rfl
  | [], _ :: _, _, _, h => by simp at h
  | _ :: _, [], _, _, h => by simp at h
  | j :: ks, y :: zs, k, z, h => by
    show (j, y) :: kvz (ks ++ [k]) (zs ++ [z]) = _
    rw [kvz_snoc (by simpa using h)]
    rfl
theorem take_snoc {α : Type} {l : List α} {i : Nat} {x : α} (h : l[i]? = some x) : l.take (i + 1) = l.take i ++ [x] := by
  obtain ⟨hi, e⟩ := List.getElem?_eq_some_iff.mp h
  rw [List.take_succ, h]
  rfl
theorem nd_take {α : Type} {l : List α} {i : Nat} {x : α} (hn : l.Nodup) (h : l[i]? = some x) : x ∉ l.take i := by
  intro hx
  obtain ⟨j, hj, e⟩ := List.getElem_of_mem hx
  rw [List.getElem_take] at e
  have hj' : j < i := by rw [List.length_take] at hj; omega
  obtain ⟨hi, e2⟩ := List.getElem?_eq_some_iff.mp h
  have := (List.getElem_inj hn).mp (e.trans e2.symm)
  omega
/-- a dict comprehension, the heap only grows, its keys known ahead -/
theorem dc_gr (w : Walk J n G Y) {ks : List Key} (hk : ks.length = n) (hnd : ks.Nodup) (hn : n ≤ sizeLine) (hD : B D = none) (R : Nat → V → Hp → Prop) (mono : ∀ i y H H', Same H H' → R i y H → R i y H') (hG : ∀ i H, i ≤ n → Same B H → G H)
    (hs : ∀ i x H H' acc, i < n → Same B H → H D = some (.dK acc) → Y i H x H' → ∀ Fin : V → V → Hp → Prop, (∀ k y H5, ks[i]? = some k → Same H H5 → R i y (dr D H5) → Fin (kV k) y H5) → g x (wipe σ vs) H' fun σ2 H2 => wipe σ2 vs = wipe σ vs ∧ tk σ2 H2 fun y H4 => tv σ2 H4 fun z H5 => Fin y z H5)
    (hd : ∀ H ys, Same B H → H D = some (.dK (kvz ks ys)) → ys.length = n → (∀ i y, ys[i]? = some y → R i y (dr D H)) → Qd H) :
    ∃ W : Nat → Nat → Hp → Prop, (∃ m, W 0 m (upd B D (.dK []))) ∧ ∀ i m H, W i m H →
      (J.stop i H ∧ Qd H) ∨ (J.go i H ∧ ∃ Nx : Hp → Prop, (∀ H', Nx H' → ∃ m', m' < m ∧ W (i + 1) m' H') ∧ ∀ x H', J.yld i H x H' → g x (wipe σ vs) H' fun σ2 H2 => wipe σ2 vs = wipe σ vs ∧ tYes σ2 H2 fun b H3 =>
        if b = true then tk σ2 H3 fun y H4 => tv σ2 H4 fun z H5 => ∃ kvs k, y = kV k ∧ H5 D = some (.dK kvs) ∧ kvs.length < sizeLine ∧ Nx (upd H5 D (.dK (putK kvs k z))) else Nx H3) := by
  refine dc_it w (fun i H => Same B H ∧ ∃ ys, H D = some (.dK (kvz (ks.take i) ys)) ∧ ys.length = i ∧ ∀ i y, ys[i]? = some y → R i y (dr D H)) ⟨Same.new hD, [], upd_same, rfl, fun i y h => by simp at h⟩ (fun i H hi h => hG i H hi h.1) ?_ ?_
  · rintro i x H H' hi ⟨hE, ys, hD', hl, hR⟩ hY
    have hlt : (ks.take i).length = i := by rw [List.length_take]; omega
    refine hs i x H H' _ hi hE hD' hY (fun y z H5 => ∃ kvs k, y = kV k ∧ H5 D = some (.dK kvs) ∧ kvs.length < sizeLine ∧ _) fun k y H5 h0 h1 h2 => ⟨_, k, rfl, h1 _ _ hD', ?_, L2.Same.put (same_trans hE h1) hD, ys ++ [y], ?_, by rw [List.length_append, hl]; rfl, fun j y' hj => ?_⟩
    · rw [kvz_len (by rw [hl, hlt]), hlt]; omega
    · rw [upd_same, putK_new _ (kvz_none (nd_take hnd h0)), take_snoc h0, kvz_snoc (by rw [hl, hlt])]
    · rw [dr_upd]
      by_cases hlt : j < ys.length
      · rw [List.getElem?_append_left hlt] at hj
        exact mono _ _ _ _ (dr_same h1) (hR j y' hj)
      · have hlt2 : j < (ys ++ [y]).length := (List.getElem?_eq_some_iff.mp hj).1
        have hj' : j = ys.length := by simp at hlt2; omega
        subst hj'
        rw [List.getElem?_append_right (Nat.le_refl _), Nat.sub_self] at hj
        cases hj
        rw [hl]
        exact h2
  · rintro H ⟨hE, ys, hD, hl, hR⟩
    rw [← hk, List.take_length] at hD
    exact hd H ys hE hD hl hR
end
end Bn
/-! D3: a comprehension with two fors. -/
namespace Bn
open PySem PySem.Spec PyProof.Rows L2
section
variable {J : It} {n : Nat} {G : Hp → Prop} {Y : Nat → Hp → V → Hp → Prop} {g g1 : TG} {wi1 : TI} {te : TE} {vs vs1 : List Nat} {σ : L2.St} {B : Hp} {D : Addr} {Qd : Hp → Prop}
/-- what the inner walk of a turn is to keep: it begins at H4, it ends in Pv -/
def In2 (D : Addr) (g1 : TG) (te : TE) (vs1 : List Nat) (Pn : Hp → Prop) (σ2 : L2.St) (J1 : It) (H4 : Hp) : Prop := ∃ (n1 : Nat) (G1 : Hp → Prop) (Y1 : Nat → Hp → V → Hp → Prop) (P1 : Nat → Hp → Prop), Walk J1 n1 G1 Y1 ∧ P1 0 H4 ∧ (∀ j H, j ≤ n1 → P1 j H → G1 H) ∧
  (∀ j x H H', j < n1 → P1 j H → Y1 j H x H' → g1 x (wipe σ2 vs1) H' fun σ3 H5 => wipe σ3 vs1 = wipe σ2 vs1 ∧ te σ3 H5 fun y H7 => ∃ acc, H7 D = some (.lst acc) ∧ acc.length < sizeLine ∧ P1 (j + 1) (upd H7 D (.lst (acc ++ [y])))) ∧
  ∀ H, P1 n1 H → Pn H
theorem lc2_it (w : Walk J n G Y) (Pv : Nat → Hp → Prop) (h0 : Pv 0 (upd B D (.lst []))) (hG : ∀ i H, i ≤ n → Pv i H → G H)
    (hs : ∀ i x H H', i < n → Pv i H → Y i H x H' → ∀ Fin : L2.St → It → Hp → Prop, (∀ σ2 J1 H4, In2 D g1 te vs1 (Pv (i + 1)) σ2 J1 H4 → Fin σ2 J1 H4) → g x (wipe σ vs) H' fun σ2 H2 => wipe σ2 vs = wipe σ vs ∧ wi1 σ2 H2 (Fin σ2))
    (hd : ∀ H, Pv n H → Qd H) :
    ∃ W : Nat → Nat → Hp → Prop, (∃ m, W 0 m (upd B D (.lst []))) ∧ ∀ i m H, W i m H →
      (J.stop i H ∧ Qd H) ∨ (J.go i H ∧ ∃ Nx : Hp → Prop, (∀ H', Nx H' → ∃ m', m' < m ∧ W (i + 1) m' H') ∧ ∀ x H', J.yld i H x H' → g x (wipe σ vs) H' fun σ2 H2 => wipe σ2 vs = wipe σ vs ∧ tYes σ2 H2 fun b H3 =>
        if b = true then wi1 σ2 H3 fun J1 H4 => ∃ W1 : Nat → Nat → Hp → Prop, (∃ m, W1 0 m H4) ∧ ∀ j k H, W1 j k H →
          (J1.stop j H ∧ Nx H) ∨ (J1.go j H ∧ ∃ Nx1 : Hp → Prop, (∀ H', Nx1 H' → ∃ k', k' < k ∧ W1 (j + 1) k' H') ∧ ∀ x H', J1.yld j H x H' → g1 x (wipe σ2 vs1) H' fun σ3 H5 => wipe σ3 vs1 = wipe σ2 vs1 ∧ tYes σ3 H5 fun b H6 =>
            if b = true then te σ3 H6 fun y H7 => ∃ acc, H7 D = some (.lst acc) ∧ acc.length < sizeLine ∧ Nx1 (upd H7 D (.lst (acc ++ [y]))) else Nx1 H6)
        else Nx H3) := by
  refine ⟨fun i m H => m = n - i ∧ i ≤ n ∧ Pv i H, ⟨n, by simp, Nat.zero_le _, h0⟩, ?_⟩
  rintro i m H ⟨rfl, hi, p⟩
  have q := hG i H hi p
  by_cases hlt : i < n
  · refine .inr ⟨w.goes i H hlt q, Pv (i + 1), fun H' p' => ⟨n - (i + 1), by omega, rfl, hlt, p'⟩, fun x H' y => ?_⟩
    refine hs i x H H' hlt p (w.yields i H x H' hlt q y) (fun σ2 J1 H4 => ∃ W1 : Nat → Nat → Hp → Prop, (∃ m, W1 0 m H4) ∧ ∀ j k H, W1 j k H →
          (J1.stop j H ∧ Pv (i + 1) H) ∨ (J1.go j H ∧ ∃ Nx1 : Hp → Prop, (∀ H', Nx1 H' → ∃ k', k' < k ∧ W1 (j + 1) k' H') ∧ ∀ x H', J1.yld j H x H' → g1 x (wipe σ2 vs1) H' fun σ3 H5 => wipe σ3 vs1 = wipe σ2 vs1 ∧ te σ3 H5 fun y H7 => ∃ acc, H7 D = some (.lst acc) ∧ acc.length < sizeLine ∧ Nx1 (upd H7 D (.lst (acc ++ [y]))))) ?_
    rintro σ2 J1 H4 ⟨n1, G1, Y1, P1, w1, p0, pG, ps, pe⟩
    refine ⟨fun j m H => m = n1 - j ∧ j ≤ n1 ∧ P1 j H, ⟨n1, by simp, Nat.zero_le _, p0⟩, ?_⟩
    rintro j k H5 ⟨rfl, hj, p5⟩
    have q5 := pG j H5 hj p5
    by_cases hlt1 : j < n1
    · exact .inr ⟨w1.goes j H5 hlt1 q5, P1 (j + 1), fun H' p' => ⟨n1 - (j + 1), by omega, rfl, hlt1, p'⟩, fun x H' y => ps j x H5 H' hlt1 p5 (w1.yields j H5 x H' hlt1 q5 y)⟩
    · have e : j = n1 := by omega
      subst e
      exact .inl ⟨w1.stops H5 q5, pe H5 p5⟩
  · have e : i = n := by omega
    subst e
    exact .inl ⟨w.stops H q, hd H p⟩
end
theorem list_is {α β : Type} {f : α → β} : ∀ {xs : List α} {ys : List β}, ys.length = xs.length → (∀ (i : Nat) (y : β), ys[i]? = some y → ∃ x, xs[i]? = some x ∧ y = f x) → ys = xs.map f
  | [], [], _, _ => rfl
  | [], _ :: _, h, _ => by simp at h
  | _ :: _, [], h, _ => by simp at h
  | x :: xs, y :: ys, h, e => by
    obtain ⟨x', h1, h2⟩ := e 0 y rfl
    cases h1
    have ih := list_is (f := f) (xs := xs) (ys := ys) (by simpa using h) (fun i z hz => by simpa using e (i + 1) z (by simpa using hz))
    rw [List.map_cons, h2, ih]
theorem some_map {α β : Type} {f : α → β} {xs : List α} {i : Nat} {y : β} (h : (xs.map f)[i]? = some y) : ∃ x, xs[i]? = some x ∧ y = f x := by
  rw [List.getElem?_map] at h
  obtain ⟨x, h1, h2⟩ := Option.map_eq_some_iff.mp h
  exact ⟨x, h1, h2.symm⟩
end Bn
/-! M1: formulas, their value, what they meet; plain. -/
namespace Bn
open PySem
inductive Wh where
  | here | up | down
  deriving DecidableEq
inductive O2 where
  | plus | least | most | same
  deriving DecidableEq
inductive Fm where
  | num (v : Int)
  | ref (w : Wh) (c : Str)
  | pair (o : O2) (a b : Fm)
  | cho (t : Fm) (ch : List Int) (a b : Fm)
abbrev Nd : Type := Wh × Str
abbrev Ev : Type := Wh → Str → Option Int
def jn (m : Int) : O2 → Int → Int → Int
  | .plus, x, y => (x + y) % m
  | .least, x, y => if y < x then y else x
  | .most, x, y => if y > x then y else x
  | .same, x, y => if x = y then 1 else 0
namespace Fm
/-- its value, or the first cell that is wanting -/
def ev (m : Int) (E : Ev) : Fm → Except Nd Int
  | .num v => .ok v
  | .ref w c => match E w c with
    | some v => .ok v
    | none => .error (w, c)
  | .pair o a b => match ev m E a with
    | .error g => .error g
    | .ok x => match ev m E b with
      | .error g => .error g
      | .ok y => .ok (jn m o x y)
  | .cho t ch a b => match ev m E t with
    | .error g => .error g
    | .ok x => if x ∈ ch then ev m E a else ev m E b
/-- the references that it met -/
def mt (m : Int) (E : Ev) : Fm → List Nd
  | .num _ => []
  | .ref w c => [(w, c)]
  | .pair _ a b => match ev m E a with
    | .error _ => mt m E a
    | .ok _ => mt m E a ++ mt m E b
  | .cho t ch a b => match ev m E t with
    | .error _ => mt m E t
    | .ok x => mt m E t ++ (if x ∈ ch then mt m E a else mt m E b)
def size : Fm → Nat
  | .num _ => 1
  | .ref _ _ => 1
  | .pair _ a b => 1 + a.size + b.size
  | .cho t _ a b => 1 + t.size + a.size + b.size
def depth : Fm → Nat
  | .num _ => 0
  | .ref _ _ => 0
  | .pair _ a b => 1 + max a.depth b.depth
  | .cho t _ a b => 1 + max t.depth (max a.depth b.depth)
/-- it fits a sheet: the numbers below m, its columns among cs, the chosen ascending -/
def fit (m : Int) (cs : List Str) : Fm → Prop
  | .num v => 0 ≤ v ∧ v < m
  | .ref _ c => c ∈ cs
  | .pair _ a b => a.fit m cs ∧ b.fit m cs
  | .cho t ch a b => t.fit m cs ∧ a.fit m cs ∧ b.fit m cs ∧ (∀ x ∈ ch, 0 ≤ x ∧ x < m) ∧ ch.Pairwise (· < ·)
theorem size_pos : ∀ f : Fm, 1 ≤ f.size
  | .num _ => Nat.le_refl _
  | .ref _ _ => Nat.le_refl _
  | .pair _ a b => by unfold size; omega
  | .cho t _ a b => by unfold size; omega
theorem depth_lt : ∀ f : Fm, f.depth < f.size
  | .num _ => by unfold depth size; omega
  | .ref _ _ => by unfold depth size; omega
  | .pair _ a b => by have := depth_lt a; have := depth_lt b; unfold depth size; omega
  | .cho t _ a b => by have := depth_lt t; have := depth_lt a; have := depth_lt b; unfold depth size; omega
section
variable {m : Int} {E E' : Ev}
theorem ev_err : ∀ {f : Fm} {g : Nd}, f.ev m E = .error g → E g.1 g.2 = none ∧ ∃ l, f.mt m E = l ++ [g]
  | .num v, g, h => by unfold ev at h; cases h
  | .ref w c, g, h => by
    unfold ev at h
    cases e : E w c with
    | some v => rw [e] at h; cases h
    | none => rw [e] at h; cases h; exact ⟨e, [], rfl⟩
  | .pair o a b, g, h => by
    unfold ev at h
    unfold mt
    cases e : ev m E a with
    | error g1 =>
      rw [e] at h
      cases h
      exact ev_err e
    | ok x =>
      rw [e] at h
      cases e2 : ev m E b with
      | error g2 =>
        simp only [e2] at h
        cases h
        obtain ⟨h1, l, h2⟩ := ev_err e2
        exact ⟨h1, mt m E a ++ l, by simp only [h2, List.append_assoc]⟩
      | ok y => simp only [e2] at h; cases h
  | .cho t ch a b, g, h => by
    unfold ev at h
    unfold mt
    cases e : ev m E t with
    | error g1 =>
      rw [e] at h
      cases h
      exact ev_err e
    | ok x =>
      rw [e] at h
      by_cases hx : x ∈ ch
      · simp only [if_pos hx] at h ⊢
        obtain ⟨h1, l, h2⟩ := ev_err h
        exact ⟨h1, mt m E t ++ l, by simp only [h2, List.append_assoc]⟩
      · simp only [if_neg hx] at h ⊢
        obtain ⟨h1, l, h2⟩ := ev_err h
        exact ⟨h1, mt m E t ++ l, by simp only [h2, List.append_assoc]⟩
theorem ev_met : ∀ {f : Fm} {v : Int}, f.ev m E = .ok v → ∀ g ∈ f.mt m E, (E g.1 g.2).isSome = true
  | .num v, _, h, g, hg => by unfold mt at hg; simp at hg
  | .ref w c, v, h, g, hg => by
    unfold ev at h
    unfold mt at hg
    cases List.mem_singleton.mp hg
    cases e : E w c with
    | some v => exact rfl
    | none => rw [e] at h; cases h
  | .pair o a b, v, h, g, hg => by
    unfold ev at h
    unfold mt at hg
    cases e : ev m E a with
    | error g1 => rw [e] at h; cases h
    | ok x =>
      rw [e] at h hg
      cases e2 : ev m E b with
      | error g2 => simp only [e2] at h; cases h
      | ok y =>
        rcases List.mem_append.mp hg with hg | hg
        · exact ev_met e g hg
        · exact ev_met e2 g hg
  | .cho t ch a b, v, h, g, hg => by
    unfold ev at h
    unfold mt at hg
    cases e : ev m E t with
    | error g1 => rw [e] at h; cases h
    | ok x =>
      rw [e] at h hg
      by_cases hx : x ∈ ch
      · simp only [if_pos hx] at h hg
        rcases List.mem_append.mp hg with hg | hg
        · exact ev_met e g hg
        · exact ev_met h g hg
      · simp only [if_neg hx] at h hg
        rcases List.mem_append.mp hg with hg | hg
        · exact ev_met e g hg
        · exact ev_met h g hg
/-- more is known -/
def Le (E E' : Ev) : Prop := ∀ w c v, E w c = some v → E' w c = some v
theorem ev_mono (h : Le E E') : ∀ {f : Fm} {v : Int}, f.ev m E = .ok v → f.ev m E' = .ok v ∧ f.mt m E' = f.mt m E
  | .num v, _, e => by unfold ev at e ⊢; exact ⟨e, rfl⟩
  | .ref w c, v, e => by
    unfold ev at e ⊢
    cases e1 : E w c with
    | some u => rw [e1] at e; rw [h w c u e1]; exact ⟨e, rfl⟩
    | none => rw [e1] at e; cases e
  | .pair o a b, v, e => by
    unfold ev at e ⊢
    unfold mt
    cases e1 : ev m E a with
    | error g1 => rw [e1] at e; cases e
    | ok x =>
      rw [e1] at e
      cases e2 : ev m E b with
      | error g2 => simp only [e2] at e; cases e
      | ok y =>
        obtain ⟨a1, a2⟩ := ev_mono h e1
        obtain ⟨b1, b2⟩ := ev_mono h e2
        simp only [e2] at e
        simp only [a1, a2, b1, b2]
        exact ⟨e, trivial⟩
  | .cho t ch a b, v, e => by
    unfold ev at e ⊢
    unfold mt
    cases e1 : ev m E t with
    | error g1 => rw [e1] at e; cases e
    | ok x =>
      rw [e1] at e
      obtain ⟨a1, a2⟩ := ev_mono h e1
      by_cases hx : x ∈ ch
      · simp only [if_pos hx] at e
        obtain ⟨b1, b2⟩ := ev_mono h e
        simp only [a1, a2, b1, b2, if_pos hx]
        exact ⟨trivial, trivial⟩
      · simp only [if_neg hx] at e
        obtain ⟨b1, b2⟩ := ev_mono h e
        simp only [a1, a2, b1, b2, if_neg hx]
        exact ⟨trivial, trivial⟩
theorem ev_stay (h : Le E E') : ∀ {f : Fm} {g : Nd}, f.ev m E = .error g → E' g.1 g.2 = none → f.ev m E' = .error g
  | .num v, _, e, _ => by unfold ev at e; cases e
  | .ref w c, g, e, n => by
    unfold ev at e ⊢
    cases e1 : E w c with
    | some u => rw [e1] at e; cases e
    | none => rw [e1] at e; cases e; rw [show E' w c = none from n]
  | .pair o a b, g, e, n => by
    unfold ev at e ⊢
    cases e1 : ev m E a with
    | error g1 => rw [e1] at e; cases e; rw [ev_stay h e1 n]
    | ok x =>
      rw [e1] at e
      rw [(ev_mono h e1).1]
      cases e2 : ev m E b with
      | error g2 => simp only [e2] at e; cases e; simp only [ev_stay h e2 n]
      | ok y => simp only [e2] at e; cases e
  | .cho t ch a b, g, e, n => by
    unfold ev at e ⊢
    cases e1 : ev m E t with
    | error g1 => rw [e1] at e; cases e; rw [ev_stay h e1 n]
    | ok x =>
      rw [e1] at e
      rw [(ev_mono h e1).1]
      by_cases hx : x ∈ ch
      · simp only [if_pos hx] at e ⊢; exact ev_stay h e n
      · simp only [if_neg hx] at e ⊢; exact ev_stay h e n
theorem mt_cols {cs : List Str} : ∀ {f : Fm}, f.fit m cs → ∀ g ∈ f.mt m E, g.2 ∈ cs
  | .num v, _, g, hg => by unfold mt at hg; simp at hg
  | .ref w c, hf, g, hg => by
    unfold mt at hg
    cases List.mem_singleton.mp hg
    exact hf
  | .pair o a b, hf, g, hg => by
    unfold mt at hg
    cases e : ev m E a with
    | error g1 => rw [e] at hg; exact mt_cols hf.1 g hg
    | ok x =>
      rw [e] at hg
      rcases List.mem_append.mp hg with hg | hg
      · exact mt_cols hf.1 g hg
      · exact mt_cols hf.2 g hg
  | .cho t ch a b, hf, g, hg => by
    unfold mt at hg
    cases e : ev m E t with
    | error g1 => rw [e] at hg; exact mt_cols hf.1 g hg
    | ok x =>
      rw [e] at hg
      rcases List.mem_append.mp hg with hg | hg
      · exact mt_cols hf.1 g hg
      · by_cases hx : x ∈ ch
        · simp only [if_pos hx] at hg; exact mt_cols hf.2.1 g hg
        · simp only [if_neg hx] at hg; exact mt_cols hf.2.2.1 g hg
theorem jn_rng (hm : 2 ≤ m) {o : O2} {x y : Int} (hx : 0 ≤ x ∧ x < m) (hy : 0 ≤ y ∧ y < m) : 0 ≤ jn m o x y ∧ jn m o x y < m := by
  cases o with
  | plus => exact ⟨Int.emod_nonneg _ (by omega), Int.emod_lt_of_pos _ (by omega)⟩
  | least => show 0 ≤ (if y < x then y else x) ∧ (if y < x then y else x) < m; split <;> assumption
  | most => show 0 ≤ (if y > x then y else x) ∧ (if y > x then y else x) < m; split <;> assumption
  | same => show 0 ≤ (if x = y then (1 : Int) else 0) ∧ (if x = y then (1 : Int) else 0) < m; split <;> omega
theorem ev_rng (hm : 2 ≤ m) {cs : List Str} (hE : ∀ w c v, E w c = some v → 0 ≤ v ∧ v < m) : ∀ {f : Fm} {v : Int}, f.fit m cs → f.ev m E = .ok v → 0 ≤ v ∧ v < m
  | .num v, _, hf, e => by unfold ev at e; cases e; exact hf
  | .ref w c, v, hf, e => by
    unfold ev at e
    cases e1 : E w c with
    | some u => rw [e1] at e; cases e; exact hE w c _ e1
    | none => rw [e1] at e; cases e
  | .pair o a b, v, hf, e => by
    unfold ev at e
    cases e1 : ev m E a with
    | error g1 => rw [e1] at e; cases e
    | ok x =>
      rw [e1] at e
      cases e2 : ev m E b with
      | error g2 => simp only [e2] at e; cases e
      | ok y =>
        simp only [e2] at e
        cases e
        exact jn_rng hm (ev_rng hm hE hf.1 e1) (ev_rng hm hE hf.2 e2)
  | .cho t ch a b, v, hf, e => by
    unfold ev at e
    cases e1 : ev m E t with
    | error g1 => rw [e1] at e; cases e
    | ok x =>
      rw [e1] at e
      by_cases hx : x ∈ ch
      · simp only [if_pos hx] at e; exact ev_rng hm hE hf.2.1 e
      · simp only [if_neg hx] at e; exact ev_rng hm hE hf.2.2.1 e
end
end Fm
/-! ### cells, valuations -/
abbrev Cell : Type := Int × Str
def dl : Wh → Int
  | .here => 0
  | .up => -1
  | .down => 1
abbrev Vn : Type := Int → Str → Option Int
def env (S : Vn) (r : Int) : Ev := fun w c => S (r + dl w) c
structure Prb where
  m : Int
  n : Nat
  cols : List Str
  F : Int → Str → Fm
  top : Str → Option Int
namespace Prb
variable (p : Prb)
def In (r : Int) (c : Str) : Prop := 1 ≤ r ∧ r ≤ p.n ∧ c ∈ p.cols
def Base (S : Vn) : Prop := (∀ c, S 0 c = p.top c) ∧ ∀ r c, r ≠ 0 → ¬ p.In r c → S r c = none
def at_ (S : Vn) (r : Int) (c : Str) : Except Nd Int := (p.F r c).ev p.m (env S r)
def Closed (S : Vn) : Prop := ∀ r c v, p.In r c → p.at_ S r c = .ok v → S r c = some v
def LeV (S T : Vn) : Prop := ∀ r c v, S r c = some v → T r c = some v
def Sound (S : Vn) : Prop := ∀ T, p.Base T → p.Closed T → LeV S T
def Just (S : Vn) : Prop := ∀ r c v, p.In r c → S r c = some v → p.at_ S r c = .ok v
def put (S : Vn) (r : Int) (c : Str) (v : Int) : Vn := fun r' c' => if r' = r ∧ c' = c then some v else S r' c'
/-- the sheet is in order -/
structure Wf : Prop where
  hm : 2 ≤ p.m
  ht : ∀ c v, p.top c = some v → 0 ≤ v ∧ v < p.m
  hc : ∀ c, c ∈ p.cols → (p.top c).isSome = true
  hf : ∀ r c, p.In r c → (p.F r c).fit p.m p.cols
/-- what both ways of filling a sheet keep -/
structure Good (S : Vn) : Prop where
  base : p.Base S
  sound : p.Sound S
  just : p.Just S
  rng : ∀ r c v, S r c = some v → 0 ≤ v ∧ v < p.m
variable {p}
theorem LeV.env {S T : Vn} (h : LeV S T) (r : Int) : Fm.Le (env S r) (env T r) := fun w c v e => h _ _ _ e
theorem uniq {S T : Vn} (hS : p.Good S) (hT : p.Good T) (cS : p.Closed S) (cT : p.Closed T) (r : Int) (c : Str) : S r c = T r c := by
  have a := hS.sound T hT.base cT r c
  have b := hT.sound S hS.base cS r c
  cases e : S r c with
  | some v => exact (a v e).symm
  | none =>
    cases e2 : T r c with
    | none => rfl
    | some v => rw [b v e2] at e; cases e
theorem put_le {S : Vn} {r : Int} {c : Str} {v : Int} (h : ∀ u, S r c = some u → u = v) : LeV S (put S r c v) := fun r' c' u e => by
  unfold put
  by_cases hc : r' = r ∧ c' = c
  · obtain ⟨rfl, rfl⟩ := hc
    rw [if_pos ⟨rfl, rfl⟩, h u e]
  · rw [if_neg hc]; exact e
theorem put_at {S : Vn} {r : Int} {c : Str} {v : Int} : put S r c v r c = some v := by unfold put; rw [if_pos ⟨rfl, rfl⟩]
theorem Good.agree {S : Vn} (g : p.Good S) {r : Int} {c : Str} {v : Int} (hi : p.In r c) (e : p.at_ S r c = .ok v) : ∀ u, S r c = some u → u = v := fun u hu => by
  have z := g.just r c u hi hu
  rw [e] at z
  cases z
  rfl
theorem Good.put (wf : p.Wf) {S : Vn} (g : p.Good S) {r : Int} {c : Str} {v : Int} (hi : p.In r c) (e : p.at_ S r c = .ok v) : p.Good (put S r c v) := by
  have hle : LeV S (Prb.put S r c v) := put_le (g.agree hi e)
  have hr : r ≠ 0 := by have := hi.1; omega
  refine ⟨⟨fun c' => ?_, fun r' c' h0 hn => ?_⟩, fun T bT cT r' c' u h => ?_, fun r' c' u hi' h => ?_, fun r' c' u h => ?_⟩
  · unfold Prb.put
    rw [if_neg fun z => hr z.1.symm]
    exact g.base.1 c'
  · unfold Prb.put
    rw [if_neg fun z => hn (by rw [z.1, z.2]; exact hi)]
    exact g.base.2 r' c' h0 hn
  · unfold Prb.put at h
    by_cases hc : r' = r ∧ c' = c
    · obtain ⟨rfl, rfl⟩ := hc
      rw [if_pos ⟨rfl, rfl⟩] at h
      cases h
      exact cT r' c' v hi (Fm.ev_mono (LeV.env (g.sound T bT cT) r') e).1
    · rw [if_neg hc] at h
      exact g.sound T bT cT r' c' u h
  · have e' : p.at_ S r' c' = .ok u := by
      unfold Prb.put at h
      by_cases hc : r' = r ∧ c' = c
      · obtain ⟨rfl, rfl⟩ := hc
        rw [if_pos ⟨rfl, rfl⟩] at h
        cases h
        exact e
      · rw [if_neg hc] at h
        exact g.just r' c' u hi' h
    exact (Fm.ev_mono (hle.env r') e').1
  · unfold Prb.put at h
    by_cases hc : r' = r ∧ c' = c
    · obtain ⟨rfl, rfl⟩ := hc
      rw [if_pos ⟨rfl, rfl⟩] at h
      cases h
      exact Fm.ev_rng wf.hm (fun w c v e => g.rng _ _ v e) (wf.hf _ _ hi) e
    · rw [if_neg hc] at h
      exact g.rng r' c' u h
/-- the start: only the top -/
def start (p : Prb) : Vn := fun r c => if r = 0 then p.top c else none
theorem good_start (wf : p.Wf) : p.Good p.start := by
  refine ⟨⟨fun c => rfl, fun r c h _ => if_neg h⟩, fun T bT cT r c v h => ?_, fun r c v hi h => ?_, fun r c v h => ?_⟩
  · unfold start at h
    by_cases hr : r = 0
    · rw [if_pos hr] at h
      rw [hr, bT.1 c]
      exact h
    · rw [if_neg hr] at h; cases h
  · unfold start at h
    rw [if_neg (by have := hi.1; omega)] at h
    cases h
  · unfold start at h
    by_cases hr : r = 0
    · rw [if_pos hr] at h; exact wf.ht c v h
    · rw [if_neg hr] at h; cases h
end Prb
end Bn
/-! F1: formula objects in the heap. -/
namespace Bn
open PySem PySem.Spec PyProof.Rows L2
open He (ga ma)
/-- instances and tuples stay as they are -/
def TI (H H' : Hp) : Prop := (∀ b C dx g fs, H b = some (.ins C dx (g :: fs)) → H' b = some (.ins C dx (g :: fs))) ∧ ∀ b xs, H b = some (.tup xs) → H' b = some (.tup xs)
theorem TI.of {H H' : Hp} (s : Same H H') : TI H H' := ⟨fun b C dx g fs e => s b _ e, fun b xs e => s b _ e⟩
theorem TI.dr {H : Hp} {p : Addr} {o : HO} (h : H p = some o) (h1 : ∀ C dx fs, o ≠ .ins C dx fs) (h2 : ∀ xs, o ≠ .tup xs) : TI H (dr p H) :=
  ⟨fun b C dx g fs e => dr_of e h (fun z => h1 _ _ _ z.symm), fun b xs e => dr_of e h (fun z => h2 _ z.symm)⟩
theorem TI.drL {H : Hp} {p : Addr} {l : List V} (h : H p = some (.lst l)) : TI H (Bn.dr p H) := TI.dr h (fun _ _ _ z => nomatch z) fun _ z => nomatch z
theorem TI.drD {H : Hp} {p : Addr} {l : List (Key × V)} (h : H p = some (.dK l)) : TI H (Bn.dr p H) := TI.dr h (fun _ _ _ z => nomatch z) fun _ z => nomatch z
theorem TI.trans {H H1 H2 : Hp} (a : TI H H1) (b : TI H1 H2) : TI H H2 := ⟨fun c C dx g fs e => b.1 _ _ _ _ _ (a.1 _ _ _ _ _ e), fun c xs e => b.2 _ _ (a.2 _ _ e)⟩
/-- all but x stays -/
def SB (x : Addr) (H H' : Hp) : Prop := ∀ b o, b ≠ x → H b = some o → H' b = some o
theorem SB.refl {x : Addr} {H : Hp} : SB x H H := fun _ _ _ e => e
theorem SB.of {x : Addr} {H H' : Hp} (s : Same H H') : SB x H H' := fun b o _ e => s b o e
theorem SB.trans {x : Addr} {H H1 H2 : Hp} (a : SB x H H1) (b : SB x H1 H2) : SB x H H2 := fun c o n e => b c o n (a c o n e)
theorem SB.upd {x : Addr} {H : Hp} {o : HO} : SB x H (L2.upd H x o) := fun b u n e => by rw [upd_ne n]; exact e
theorem SB.made {x dx C : Addr} {H H' : Hp} (nx : H x = none) (nd : H dx = none) (s : SB x (L2.upd (L2.upd H dx (.own x)) x (.ins C dx [])) H') : Same H H' := fun b o e => by
  have h1 : b ≠ x := ne_of_none e nx
  have h2 : b ≠ dx := ne_of_none e nd
  exact s b o h1 (by rw [upd_ne h1, upd_ne h2]; exact e)
theorem TI.sb {x C dx : Addr} {H H' : Hp} (s : SB x H H') (h : H x = some (.ins C dx [])) : TI H H' :=
  ⟨fun b C dx g fs e => s b _ (ne_of e h (fun z => nomatch z)) e, fun b xs e => s b _ (ne_of e h (fun z => nomatch z)) e⟩
def wS : Wh → Str
  | .here => "here"
  | .up => "up"
  | .down => "down"
def wC : Wh → Str
  | .here => "Here"
  | .up => "Up"
  | .down => "Down"
def oC : O2 → Str
  | .plus => "Plus"
  | .least => "Least"
  | .most => "Most"
  | .same => "Same"
/-- its class -/
def fC : Fm → Str
  | .num _ => "Number"
  | .ref w _ => wC w
  | .pair o _ _ => oC o
  | .cho _ _ _ _ => "Choice"
abbrev fsF (p i : Addr) (d : Nat) (more : List (Str × V)) : List (Str × V) := ("own_parts", V.ref p) :: ("own_inner", V.ref i) :: ("own_depth", V.int d) :: more
/-- the formula f stands at a, its inner nodes at l -/
def IsFm (K : Fr) (H : Hp) : Fm → Addr → List Addr → Prop
  | .num v, a, l => l = [] ∧ (0 ≤ v ∧ v < 9) ∧ ∃ dx p i, H a = some (.ins (ga K "Number") dx (fsF p i 0 [("value", .int v)])) ∧ H p = some (.tup []) ∧ H i = some (.tup [])
  | .ref w c, a, l => l = [] ∧ ∃ dx p i, H a = some (.ins (ga K (wC w)) dx (fsF p i 0 [("column", .str c)])) ∧ H p = some (.tup []) ∧ H i = some (.tup [])
  | .pair o x y, a, l => ∃ dx p i ax lx ay ly, H a = some (.ins (ga K (oC o)) dx (fsF p i (1 + max x.depth y.depth) [])) ∧ H p = some (.tup [.ref ax, .ref ay]) ∧ H i = some (.tup (l.map V.ref)) ∧ IsFm K H x ax lx ∧ IsFm K H y ay ly ∧ l = (ax :: lx) ++ (ay :: ly)
  | .cho t ch x y, a, l => ∃ dx p i c at_ lt ax lx ay ly, H a = some (.ins (ga K "Choice") dx (fsF p i (1 + max t.depth (max x.depth y.depth)) [("own_chosen", .ref c)])) ∧ H p = some (.tup [.ref at_, .ref ax, .ref ay]) ∧ H i = some (.tup (l.map V.ref)) ∧
    H c = some (.tup (ch.map V.int)) ∧ IsFm K H t at_ lt ∧ IsFm K H x ax lx ∧ IsFm K H y ay ly ∧ l = (at_ :: lt) ++ ((ax :: lx) ++ (ay :: ly))
theorem IsFm.ti {K : Fr} {H H' : Hp} (s : TI H H') : ∀ {f : Fm} {a : Addr} {l : List Addr}, IsFm K H f a l → IsFm K H' f a l
  | .num v, _, _, ⟨h0, h1, dx, p, i, e1, e2, e3⟩ => ⟨h0, h1, dx, p, i, s.1 _ _ _ _ _ e1, s.2 _ _ e2, s.2 _ _ e3⟩
  | .ref w c, _, _, ⟨h0, dx, p, i, e1, e2, e3⟩ => ⟨h0, dx, p, i, s.1 _ _ _ _ _ e1, s.2 _ _ e2, s.2 _ _ e3⟩
  | .pair o x y, _, _, ⟨dx, p, i, ax, lx, ay, ly, e1, e2, e3, h1, h2, h3⟩ => ⟨dx, p, i, ax, lx, ay, ly, s.1 _ _ _ _ _ e1, s.2 _ _ e2, s.2 _ _ e3, IsFm.ti s h1, IsFm.ti s h2, h3⟩
  | .cho t ch x y, _, _, ⟨dx, p, i, c, at_, lt, ax, lx, ay, ly, e1, e2, e3, e4, h0, h1, h2, h3⟩ =>
    ⟨dx, p, i, c, at_, lt, ax, lx, ay, ly, s.1 _ _ _ _ _ e1, s.2 _ _ e2, s.2 _ _ e3, s.2 _ _ e4, IsFm.ti s h0, IsFm.ti s h1, IsFm.ti s h2, h3⟩
theorem IsFm.up {K : Fr} {H H' : Hp} (s : Same H H') {f : Fm} {a : Addr} {l : List Addr} (h : IsFm K H f a l) : IsFm K H' f a l := h.ti (TI.of s)
theorem IsFm.len {K : Fr} {H : Hp} : ∀ {f : Fm} {a : Addr} {l : List Addr}, IsFm K H f a l → l.length + 1 = f.size
  | .num v, _, _, ⟨h0, _⟩ => by rw [h0]; rfl
  | .ref w c, _, _, ⟨h0, _⟩ => by rw [h0]; rfl
  | .pair o x y, _, _, ⟨dx, p, i, ax, lx, ay, ly, e1, e2, e3, h1, h2, h3⟩ => by
    have z1 := IsFm.len h1
    have z2 := IsFm.len h2
    rw [h3]
    simp only [List.length_append, List.length_cons]
    unfold Fm.size
    omega
  | .cho t ch x y, _, _, ⟨dx, p, i, c, at_, lt, ax, lx, ay, ly, e1, e2, e3, e4, h0, h1, h2, h3⟩ => by
    have z0 := IsFm.len h0
    have z1 := IsFm.len h1
    have z2 := IsFm.len h2
    rw [h3]
    simp only [List.length_append, List.length_cons]
    unfold Fm.size
    omega
def Mre (more : List (Str × V)) : Prop := more = [] ∨ (∃ v : Int, more = [(("value" : Str), V.int v)]) ∨ (∃ c : Str, more = [(("column" : Str), V.str c)]) ∨ ∃ c : Addr, more = [(("own_chosen" : Str), V.ref c)]
theorem Mre.no {more : List (Str × V)} {p i : Addr} {d : Int} {m : Str} (h : Mre more) (n1 : (m == ("own_parts" : Str)) = false) (n2 : (m == ("own_inner" : Str)) = false) (n3 : (m == ("own_depth" : Str)) = false) (n4 : (m == ("value" : Str)) = false) (n5 : (m == ("column" : Str)) = false)
    (n6 : (m == ("own_chosen" : Str)) = false) : (("own_parts", V.ref p) :: ("own_inner", V.ref i) :: ("own_depth", V.int d) :: more : List (Str × V)).lookup m = none := by
  rw [List.lookup_cons, n1, List.lookup_cons, n2, List.lookup_cons, n3]
  rcases h with rfl | ⟨v, rfl⟩ | ⟨v, rfl⟩ | ⟨v, rfl⟩
  · rfl
  · rw [List.lookup_cons, n4]; rfl
  · rw [List.lookup_cons, n5]; rfl
  · rw [List.lookup_cons, n6]; rfl
/-- what every formula has -/
theorem IsFm.obj {K : Fr} {H : Hp} {f : Fm} {a : Addr} {l : List Addr} (h : IsFm K H f a l) : ∃ dx p i more, H a = some (.ins (ga K (fC f)) dx (fsF p i f.depth more)) ∧ H i = some (.tup (l.map V.ref)) ∧ Mre more := by
  match f, h with
  | .num v, ⟨h0, _, dx, p, i, e1, e2, e3⟩ => exact ⟨dx, p, i, _, e1, by rw [h0]; exact e3, .inr (.inl ⟨_, rfl⟩)⟩
  | .ref w c, ⟨h0, dx, p, i, e1, e2, e3⟩ => exact ⟨dx, p, i, _, e1, by rw [h0]; exact e3, .inr (.inr (.inl ⟨_, rfl⟩))⟩
  | .pair o x y, ⟨dx, p, i, ax, lx, ay, ly, e1, e2, e3, h1, h2, h3⟩ => exact ⟨dx, p, i, _, e1, e3, .inl rfl⟩
  | .cho t ch x y, ⟨dx, p, i, c, at_, lt, ax, lx, ay, ly, e1, e2, e3, e4, h0, h1, h2, h3⟩ => exact ⟨dx, p, i, _, e1, e3, .inr (.inr (.inr ⟨_, rfl⟩))⟩
/-- all its nodes are formulas that fit where it fits -/
theorem IsFm.nodes {K : Fr} {H : Hp} {m : Int} {cs : List Str} : ∀ {f : Fm} {a : Addr} {l : List Addr}, IsFm K H f a l → f.fit m cs → ∀ b ∈ a :: l, ∃ g lg, IsFm K H g b lg ∧ g.fit m cs
  | .num v, a, _, h, hf, b, hb => by
    obtain ⟨h0, r⟩ := h
    rw [h0] at hb
    cases List.mem_singleton.mp hb
    exact ⟨.num v, [], ⟨rfl, r⟩, hf⟩
  | .ref w c, a, _, h, hf, b, hb => by
    obtain ⟨h0, r⟩ := h
    rw [h0] at hb
    cases List.mem_singleton.mp hb
    exact ⟨.ref w c, [], ⟨rfl, r⟩, hf⟩
  | .pair o x y, a, l, h, hf, b, hb => by
    rcases List.mem_cons.mp hb with rfl | hb
    · exact ⟨_, _, h, hf⟩
    · obtain ⟨dx, p, i, ax, lx, ay, ly, e1, e2, e3, h1, h2, h3⟩ := h
      rw [h3] at hb
      rcases List.mem_append.mp hb with hb | hb
      · exact IsFm.nodes h1 hf.1 b hb
      · exact IsFm.nodes h2 hf.2 b hb
  | .cho t ch x y, a, l, h, hf, b, hb => by
    rcases List.mem_cons.mp hb with rfl | hb
    · exact ⟨_, _, h, hf⟩
    · obtain ⟨dx, p, i, c, at_, lt, ax, lx, ay, ly, e1, e2, e3, e4, h0, h1, h2, h3⟩ := h
      rw [h3] at hb
      rcases List.mem_append.mp hb with hb | hb
      · exact IsFm.nodes h0 hf.1 b hb
      · rcases List.mem_append.mp hb with hb | hb
        · exact IsFm.nodes h1 hf.2.1 b hb
        · exact IsFm.nodes h2 hf.2.2.1 b hb
/-! ### rows, what was met -/
def oi : Option Int → V
  | some i => .int i
  | none => .non
def oe : Except Nd Int → V
  | .ok i => .int i
  | .error _ => .non
/-- a dict that tells r -/
def IsRow (H : Hp) (a : Addr) (r : Str → Option Int) : Prop := ∃ kvs, H a = some (.dK kvs) ∧ ∀ c, (valV kvs (.inr c)).getD .non = oi (r c)
theorem IsRow.up {H H' : Hp} {a : Addr} {r : Str → Option Int} (s : Same H H') (h : IsRow H a r) : IsRow H' a r := let ⟨kvs, e, q⟩ := h; ⟨kvs, s _ _ e, q⟩
def IsRows (H : Hp) (a : Addr) (E : Ev) : Prop := ∃ o u d, H a = some (.dK [(.inr "here", .ref o), (.inr "up", .ref u), (.inr "down", .ref d)]) ∧ IsRow H o (E .here) ∧ IsRow H u (E .up) ∧ IsRow H d (E .down)
theorem IsRows.up {H H' : Hp} {a : Addr} {E : Ev} (s : Same H H') (h : IsRows H a E) : IsRows H' a E := let ⟨o, u, d, e, x, y, z⟩ := h; ⟨o, u, d, s _ _ e, x.up s, y.up s, z.up s⟩
theorem IsRows.get {H : Hp} {a : Addr} {E : Ev} (h : IsRows H a E) (wh : Wh) : ∃ b, DGet H a (.str (wS wh)) (some (.ref b)) ∧ IsRow H b (E wh) := by
  obtain ⟨o, u, d, e, x, y, z⟩ := h
  cases wh with
  | here => exact ⟨o, .inl ⟨_, .inr "here", .inl e, rfl, by rfl⟩, x⟩
  | up => exact ⟨u, .inl ⟨_, .inr "up", .inl e, rfl, by rfl⟩, y⟩
  | down => exact ⟨d, .inl ⟨_, .inr "down", .inl e, rfl, by rfl⟩, z⟩
def MetV (H : Hp) (v : V) (g : Nd) : Prop := ∃ a i, v = .ref a ∧ H a = some (.tup [.int i, .str (wS g.1), .str g.2])
def Mets (H : Hp) (ms : List V) (gs : List Nd) : Prop := Paired (MetV H) ms gs
theorem Mets.up {H H' : Hp} {ms : List V} {gs : List Nd} (s : Same H H') (h : Mets H ms gs) : Mets H' ms gs := Paired.mapP h fun v g ⟨a, i, e, q⟩ => ⟨a, i, e, s _ _ q⟩
theorem paired_append {α β : Type} {F : α → β → Prop} : ∀ {a b : List α} {c d : List β}, Paired F a c → Paired F b d → Paired F (a ++ b) (c ++ d)
  | _, _, _, _, .nil, s => s
  | _, _, _, _, .cons r t, s => .cons r (paired_append t s)
theorem paired_len {α β : Type} {F : α → β → Prop} : ∀ {a : List α} {c : List β}, Paired F a c → a.length = c.length
  | _, _, .nil => rfl
  | _, _, .cons r t => congrArg (· + 1) (paired_len t)
end Bn
/-! W1: basics. -/
namespace Bn
open PySem PySem.Spec PyProof.Rows L2
open He (ga ma)
section
variable {w : World} {K : Fr} {mg : Str → Option Value} {base : Heap}
def pIsInt : Pr := fun vs H Q => ∃ i : Int, vs = [.int i] ∧ Q (.bl true) H
theorem k_is_integer (G : GD K mg) : Keeps PP w K mg base 1 (ga K "is_integer") pIsInt := by
  obtain ⟨fd, F⟩ := fd_is_integer G
  refine kp_fn0 (k := 0) F sc_is_integer (fun _ _ _ _ _ _ us hl => match us, hl with | [_], _ => rfl) (by rintro _ _ _ ⟨i, rfl, _⟩; rfl) fun cdv A outer s H vs Q E hr hp => ?_
  obtain ⟨i, rfl, hq⟩ := hp
  refine ⟨_, pss_one (ps_ret (pe_and (pe_callB call_isi (by rfl) (gf_isinstance G) rfl (pa_cons (pv 0) (pa_cons (pe_bltn (by rfl) (gf_int G) rfl (show RelV (.ty "int") _ from rfl)) pa_nil)))
    (pe_one (pe_not (pe_callB call_isi (by rfl) (gf_isinstance G) rfl (pa_cons (pv 0) (pa_cons (pe_bltn (by rfl) (gf_bool G) rfl (show RelV (.ty "bool") _ from rfl)) pa_nil))))))), ?_⟩
  refine ⟨_, rfl, _, _, _, _, true, rfl, .ty _, .base (.int _), kit_ty (by decide +kernel), _, rfl, iteT ?_⟩
  exact ⟨_, rfl, _, _, _, _, false, rfl, .ty _, .base (.int _), kit_ty (by decide +kernel), _, rfl, hq⟩
end
end Bn
/-! W6: is_list, is_name, is_value, want_formula, want_chosen. -/
namespace Bn
open PySem PySem.Spec PyProof.Rows L2 StX RZ
open He (ga ma)
section
variable {w : World} {K : Fr} {mg : Str → Option Value} {base : Heap}
/-- a list or a tuple -/
inductive Sq (H : Hp) (a : Addr) : Prop
  | l (xs : List V) (e : H a = some (.lst xs))
  | t (xs : List V) (e : H a = some (.tup xs))
def pIsList : Pr := fun vs H Q => ∃ a, vs = [.ref a] ∧ Sq H a ∧ ∀ H', Same H H' → Q (.bl true) H'
theorem k_is_list (G : GD K mg) : Keeps PP w K mg base 1 (ga K "is_list") pIsList := by
  obtain ⟨fd, F⟩ := fd_is_list G
  refine kp_fn0 (k := 0) F sc_is_list (fun _ _ _ _ _ _ us hl => match us, hl with | [_], _ => rfl) (by rintro _ _ _ ⟨a, rfl, _⟩; rfl) fun cdv A outer s H vs Q E hr hp => ?_
  obtain ⟨a, rfl, hs, hq⟩ := hp
  refine ⟨_, pss_one (ps_ret (pe_callB call_isiT (by rfl) (gf_isinstance G) rfl (pa_cons (pv 0) (pa_cons (pe_tup (pa_cons (pe_bltn (by rfl) (gf_list G) rfl (show RelV (.ty "list") _ from rfl)) (pa_cons (pe_bltn (by rfl) (gf_tuple G) rfl (show RelV (.ty "tuple") _ from rfl)) pa_nil))) pa_nil)))), ?_⟩
  refine ⟨_, rfl, (by show 2 ≤ sizeLine; decide), fun p hn => ?_⟩
  have s1 := Same.new (o := .tup [.ty "list", .ty "tuple"]) hn
  cases hs with
  | l xs e => exact ⟨_, p, _, .type "list", _, true, rfl, upd_same, .cons (.ty _) (.cons (.ty _) .nil), .base (.lst (s1 _ _ e)), kitAny_cons (b := true) (kit_ty (by decide +kernel)) (fun z => nomatch z) (fun _ => rfl), hq _ s1⟩
  | t xs e => exact ⟨_, p, _, .type "tuple", _, true, rfl, upd_same, .cons (.ty _) (.cons (.ty _) .nil), .base (.tup (s1 _ _ e)), kitAny_cons (b := false) (kit_ty (by decide +kernel)) (fun _ => kitAny_cons (b := true) (kit_ty (by decide +kernel)) (fun z => nomatch z) fun _ => rfl) (fun z => nomatch z), hq _ s1⟩
def pIsVal : Pr := fun vs H Q => ∃ i m : Int, vs = [.int i, .int m] ∧ 0 ≤ i ∧ i < m ∧ Q (.bl true) H
theorem k_is_value (G : GD K mg) : Keeps PP w K mg base 2 (ga K "is_value") pIsVal := by
  obtain ⟨fd, F⟩ := fd_is_value G
  refine kp_fn0 (k := 1) F sc_is_value (fun _ _ _ _ _ _ us hl => match us, hl with | [_, _], _ => rfl) (by rintro _ _ _ ⟨i, m, rfl, _⟩; rfl) fun cdv A outer s H vs Q E hr hp => ?_
  obtain ⟨i, m, rfl, h0, h1, hq⟩ := hp
  have D : DefR PP w K mg base 1 "is_integer" pIsInt := ⟨_, gg_is_integer G, gk_is_integer G, k_is_integer G⟩
  refine ⟨_, pss_one (ps_ret (pe_and (pe_d D hr (by rfl) (pa_cons (pv 0) pa_nil)) (pe_one (pe_chain op_le op_lt pe_int (pv 0) (pv 1))))), ?_⟩
  exact ⟨_, rfl, i, rfl, _, rfl, iteT ⟨_, rfl, _, _, rfl, rfl, _, rfl, ifT (by simp [h0]) ⟨_, rfl, _, _, rfl, rfl, by show Q (.bl (decide (i < m))) H; rw [decide_eq_true h1]; exact hq⟩⟩⟩
abbrev RES : List Str := ["if", "then", "else", "in", "here", "up", "down", "least", "most"]
abbrev SML : Str := "abcdefghijklmnopqrstuvwxyz"
/-- a name that a sheet takes -/
def okName (z : Str) : Bool := decide (1 ≤ z.length) && (decide (z.length ≤ 8) && (!inV (.str z) (RES.map V.str) && z.cps.toList.all fun c => decide (c ∈ SML.cps.toList)))
def pIsName : Pr := fun vs H Q => ∃ z, vs = [.str z] ∧ okName z = true ∧ ∀ H', Same H H' → Q (.bl true) H'
theorem bl_all {n : Nat} {ys : List V} (hl : ys.length = n) (h : ∀ (i : Nat) (y : V), ys[i]? = some y → y = .bl true) : ys = (List.replicate n true).map V.bl := by
  subst hl
  rw [List.map_replicate]
  apply List.eq_replicate_iff.mpr
  refine ⟨rfl, fun y hy => ?_⟩
  obtain ⟨i, hi, rfl⟩ := List.getElem_of_mem hy
  exact h i _ (List.getElem?_eq_getElem hi)
theorem all_rep (n : Nat) : (List.replicate n true).all id = true := by
  rw [List.all_eq_true]
  intro b hb
  exact (List.mem_replicate.mp hb).2
theorem k_is_name (G : GD K mg) : Keeps PP w K mg base 1 (ga K "is_name") pIsName := by
  obtain ⟨fd, F⟩ := fd_is_name G
  refine kp_fn0 (k := 0) F sc_is_name (fun _ _ _ _ _ _ us hl => match us, hl with | [_], _ => rfl) (by rintro _ _ _ ⟨a, rfl, _⟩; rfl) fun cdv A outer s H vs Q E hr hp => ?_
  obtain ⟨z, rfl, hz, hq⟩ := hp
  have nd := sc_is_name.nd
  unfold okName at hz
  obtain ⟨h1, hz⟩ := an hz
  obtain ⟨h2, hz⟩ := an hz
  obtain ⟨h3, h4⟩ := an hz
  have h1 := of_decide_eq_true h1
  have h2 := of_decide_eq_true h2
  have h3 : inV (.str z) (RES.map V.str) = false := by simpa using h3
  have hs := sizeLine_eq
  refine ⟨_, pss_cons (ps_if (PW.pt (pw_or (pt_not (pt_val (pe_callB call_isi (by rfl) (gf_isinstance G) rfl (pa_cons (pv 0) (pa_cons (pe_bltn (by rfl) (gf_str G) rfl (show RelV (.ty "str") _ from rfl)) pa_nil)))))
      (pw_or (pt_not (pt_chain op_le op_le pe_int (pe_callB call_len_str (by rfl) (gf_len G) rfl (pa_cons (pv 0) pa_nil)) (C8.pe_gc (by rfl) (gv_MOST_SIGNS G))))
        (pw_or1 (pt_cmpR op_in_seq (pv 0) (pe_glob (by rfl) (gr_RESERVED G) (show RelV (.ref _) _ from rfl)) rfl))))) (pss_one (ps_ret pe_bl)) pss_nil)
    (pss_one (ps_ret (pe_callB (cr_all rfl) (by rfl) (gf_all G) rfl (pa_cons (pe_lc (own := [("sign", 1)]) (g := gName 1) (tt := tYes) rfl nd (pi_str (pv 0)) (blkOk_by (N := N_is_name) (sc := defScope s_is_name) (by decide +kernel)) (fun _ _ _ _ _ => pg_name (i := 1) nd rfl (.inl rfl)) (fun _ _ _ _ _ => pts_nil)
      (fun _ _ _ _ _ => pe_cmpR op_in_sign (pv 1) (C8.pe_gc (by rfl) (gv_SMALL G)) rfl)) pa_nil)))), ?_⟩
  refine ⟨_, rfl, _, _, _, _, true, rfl, .ty _, .base (.str _), kit_ty (by decide +kernel), _, rfl, iteF ?_⟩
  refine ⟨_, rfl, z, rfl, by omega, _, _, rfl, rfl, _, rfl, ifT (by simp; omega) ⟨_, _, rfl, rfl, _, rfl, ?_⟩⟩
  refine ifF (by simp; omega) ⟨_, rfl, _, _, rfl, .inr (He.tupB_ok (gt_RESERVED G) H), rfl, rfl, _, rfl, ifF ?_ ?_⟩
  · exact h3
  refine ⟨_, rfl, z, rfl, fun D hD => lc_gr (B := H) (walk_str (z := z)) (by show z.length ≤ _; omega) hD (fun _ y _ => y = .bl true) (fun _ _ _ _ _ h => h) (fun _ _ _ _ => trivial) ?_ ?_⟩
  · rintro i x H1 H' acc hi hs1 hD1 ⟨rfl, c, hc, rfl⟩ Fin hFin
    refine ⟨rfl, _, rfl, c, SML, rfl, rfl, hFin _ _ (Same.refl _) ?_⟩
    have hm : c ∈ z.cps.toList := by
      obtain ⟨hi', e⟩ := Array.getElem?_eq_some_iff.mp hc
      rw [← e]
      simp
    have := List.all_eq_true.mp h4 c hm
    rw [this]
  · intro H1 ys hs1 hD1 hl hR
    have e := bl_all hl hR
    rw [e] at hD1
    exact ⟨D, _, rfl, .of hD1, by rw [all_rep]; exact hq _ hs1⟩
theorem fm_isi (G : GD K mg) {H : Hp} {f : Fm} {a : Addr} {l : List Addr} (h : IsFm K H f a l) : TyX K H (.ref a) (.ref (ga K (fC f))) ∧ PySem.W.kitOne K (.ref (ga K (fC f))) (.ref (ga K "Formula")) = some true := by
  obtain ⟨dx, p, i, more, e, _, _⟩ := h.obj
  have z : Isi K (ga K (fC f)) ∧ Cls K (ga K (fC f)) ∧ PySem.W.kitOne K (.ref (ga K (fC f))) (.ref (ga K "Formula")) = some true := by
    match f with
    | .num _ => exact ⟨ci_Number G, (cf_Number G).cl, kt_Number G⟩
    | .ref .here _ => exact ⟨ci_Here G, (cf_Here G).cl, kt_Here G⟩
    | .ref .up _ => exact ⟨ci_Up G, (cf_Up G).cl, kt_Up G⟩
    | .ref .down _ => exact ⟨ci_Down G, (cf_Down G).cl, kt_Down G⟩
    | .pair .plus _ _ => exact ⟨ci_Plus G, (cf_Plus G).cl, kt_Plus G⟩
    | .pair .least _ _ => exact ⟨ci_Least G, (cf_Least G).cl, kt_Least G⟩
    | .pair .most _ _ => exact ⟨ci_Most G, (cf_Most G).cl, kt_Most G⟩
    | .pair .same _ _ => exact ⟨ci_Same G, (cf_Same G).cl, kt_Same G⟩
    | .cho _ _ _ _ => exact ⟨ci_Choice G, (cf_Choice G).cl, kt_Choice G⟩
  obtain ⟨i1, c1, k1⟩ := z
  exact ⟨.base (.ins e c1 i1.ha i1.hn i1.tk i1.hm), k1⟩
def pWantF (K : Fr) : Pr := fun vs H Q => ∃ f a l, vs = [.ref a] ∧ IsFm K H f a l ∧ Q .non H
theorem k_want_formula (G : GD K mg) : Keeps PP w K mg base 1 (ga K "want_formula") (pWantF K) := by
  obtain ⟨fd, F⟩ := fd_want_formula G
  refine kp_fn0 (k := 0) F sc_want_formula (fun _ _ _ _ _ _ us hl => match us, hl with | [_], _ => rfl) (by rintro _ _ _ ⟨f, a, l, rfl, _⟩; rfl) fun cdv A outer s H vs Q E hr hp => ?_
  obtain ⟨f, a, l, rfl, hf, hq⟩ := hp
  obtain ⟨ty, kt⟩ := fm_isi G hf
  refine ⟨_, pss_one (ps_if (pt_not (pt_val (pe_callB call_isi (by rfl) (gf_isinstance G) rfl (pa_cons (pv 0) (pa_cons (pe_glob (by rfl) (gg_Formula G) (show RelV (.ref _) _ from rfl)) pa_nil))))) pss_never pss_nil), ?_⟩
  exact ⟨_, rfl, _, _, _, _, true, rfl, .own _, ty, kt, _, rfl, iteF hq⟩
theorem walk_zipT {a b : Addr} {xs ys : List V} {n : Nat} (hn : n = min xs.length ys.length) : Walk (ItzT K a b) n (fun H => SqT K H a xs ∧ SqT K H b ys) (YPair (fun i => xs[i]?) (fun i => ys[i]?)) := by
  subst hn
  refine ⟨fun i _ hi q => ?_, fun _ q => ⟨xs, ys, q.1, q.2, by omega⟩, fun i H v H' _ q y => ?_⟩
  · have h1 : i < xs.length := by omega
    have h2 : i < ys.length := by omega
    exact ⟨xs, ys, xs[i], ys[i], q.1, q.2, by simp [h1], by simp [h2]⟩
  · obtain ⟨T, x, z, h1, h2, h3, h4, h5⟩ := y
    exact ⟨T, x, z, h1, h2, h3, h4 xs q.1, h5 ys q.2⟩
theorem SqT.up {H H' : Hp} {a : Addr} {xs : List V} (e : Same H H') (h : SqT K H a xs) : SqT K H' a xs := by
  rcases h with (h | ⟨o, h⟩) | h
  · exact .inl (.inl (e _ _ h))
  · exact .inl (.inr ⟨o, e _ _ h⟩)
  · exact .inr h
theorem cut1 (xs : List V) : cutV xs (some 1) none = xs.drop 1 := by
  show (xs.drop (min 1 xs.length)).take (xs.length - min 1 xs.length) = _
  cases xs with
  | nil => rfl
  | cons x r =>
    rw [show min 1 (x :: r).length = 1 from by rw [List.length_cons]; omega]
    exact List.take_of_length_le (by simp)
def pWantC : Pr := fun vs H Q => ∃ (a : Addr) (ch : List Int), vs = [.ref a] ∧ H a = some (.tup (ch.map V.int)) ∧ (∀ x ∈ ch, 0 ≤ x ∧ x < 9) ∧ ch.Pairwise (· < ·) ∧ ch.length ≤ 100 ∧ ∀ H', Same H H' → Q .non H'
theorem k_want_chosen (G : GD K mg) : Keeps PP w K mg base 3 (ga K "want_chosen") pWantC := by
  obtain ⟨fd, F⟩ := fd_want_chosen G
  refine kp_fn0 (k := 2) F sc_want_chosen (fun _ _ _ _ _ _ us hl => match us, hl with | [_], _ => rfl) (by rintro _ _ _ ⟨a, ch, rfl, _⟩; rfl) fun cdv A outer s H vs Q E hr hp => ?_
  obtain ⟨a, ch, rfl, ha, h9, hpw, hlen, hq⟩ := hp
  have nd := sc_want_chosen.nd
  have hs := sizeLine_eq
  have D1 : DefR PP w K mg base 2 "is_list" pIsList := ⟨_, gg_is_list G, gk_is_list G, (k_is_list G).mono (by omega)⟩
  have D2 : DefR PP w K mg base 2 "is_value" pIsVal := ⟨_, gg_is_value G, gk_is_value G, k_is_value G⟩
  refine ⟨_, pss_cons (ps_if (PW.pt (pw_or (pt_not (pt_val (pe_d D1 hr (by rfl) (pa_cons (pv 0) pa_nil)))) (pw_or1 (pt_not (pt_val (pe_callB (cr_all rfl) (by rfl) (gf_all G) rfl (pa_cons (pe_lc (own := [("number", 1)]) (g := gName 1) (tt := tYes) rfl nd (pi_tup (pv 0))
      (blkOk_by (N := N_want_chosen) (sc := defScope s_want_chosen) (by decide +kernel)) (fun _ _ _ _ _ => pg_name (i := 1) nd rfl (.inl rfl)) (fun _ _ _ _ _ => pts_nil) (fun _ _ _ _ _ => pe_d D2 hr (by rfl) (pa_cons (pv 1) (pa_cons (C8.pe_gc (by rfl) (gv_GREATEST_MODULUS G)) pa_nil)))) pa_nil))))))) pss_never pss_nil)
    (pss_one (ps_if (pt_not (pt_val (pe_callB (cr_all rfl) (by rfl) (gf_all G) rfl (pa_cons (pe_lc (own := [("one", 2), ("other", 3)]) (g := gTup K 2 (gCons (gName 2) (gCons (gName 3) gNil))) (tt := tYes) rfl nd (pi_zipA (by rfl) (gf_zip G) (pa_cons (pv 0) (pa_cons (pe_slice sl_tupA (pv 0) (po_some pe_int) po_none) pa_nil)))
      (blkOk_by (N := N_want_chosen) (sc := defScope s_want_chosen) (by decide +kernel)) (fun _ _ _ _ _ => pg_tup rfl (pgs_cons (pg_name (i := 2) nd rfl (.inl rfl)) (pgs_cons (pg_name (i := 3) nd rfl (.inl rfl)) pgs_nil))) (fun _ _ _ _ _ => pts_nil) (fun _ _ _ _ _ => pe_cmpR op_lt (pv 2) (pv 3) rfl)) pa_nil)))) pss_never pss_nil)), ?_⟩
  refine ⟨_, rfl, a, rfl, .t _ ha, fun H1 s1 => ⟨_, rfl, iteF ?_⟩⟩
  have ha1 := s1 _ _ ha
  refine ⟨_, rfl, a, rfl, ⟨_, .of ha1⟩, fun D hD => lc_gr (B := H1) (walk_tup (a := a) (xs := ch.map V.int)) (by rw [List.length_map]; omega) hD (fun _ y _ => y = .bl true) (fun _ _ _ _ _ h => h) (fun _ _ _ s => .of (s _ _ ha1)) ?_ ?_⟩
  · rintro i x H2 H' acc hi hs1 hD1 ⟨rfl, hx⟩ Fin hFin
    rw [List.getElem?_map] at hx
    obtain ⟨n, hn, rfl⟩ := Option.map_eq_some_iff.mp hx
    have h9' := h9 n (List.mem_of_getElem? hn)
    exact ⟨rfl, _, rfl, n, 9, rfl, h9'.1, h9'.2, hFin _ _ (Same.refl _) rfl⟩
  · intro H2 ys s2 hD2 hl hR
    have e := bl_all hl hR
    rw [e] at hD2
    have ha2 := s2 _ _ ha1
    refine ⟨D, _, rfl, .of hD2, _, rfl, ?_⟩
    rw [all_rep]
    refine iteF ?_
    have s12 := same_trans s1 s2
    have pw : ∀ (i : Nat) (x1 x2 : V), (ch.map V.int)[i]? = some x1 → ((ch.map V.int).drop 1)[i]? = some x2 → ∃ n1 n2 : Int, x1 = .int n1 ∧ x2 = .int n2 ∧ n1 < n2 := fun i x1 x2 h1 h2 => by
      rw [List.getElem?_drop, List.getElem?_map] at h2
      rw [List.getElem?_map] at h1
      obtain ⟨n1, e1, rfl⟩ := Option.map_eq_some_iff.mp h1
      obtain ⟨n2, e2, rfl⟩ := Option.map_eq_some_iff.mp h2
      refine ⟨n1, n2, rfl, rfl, ?_⟩
      obtain ⟨l1, f1⟩ := List.getElem?_eq_some_iff.mp e1
      obtain ⟨l2, f2⟩ := List.getElem?_eq_some_iff.mp e2
      have z := List.pairwise_iff_getElem.mp hpw i (1 + i) l1 l2 (by omega)
      rw [f1, f2] at z
      exact z
    refine ⟨_, rfl, _, rfl, 1, rfl, a, _, rfl, .of ha2, fun hfull => ?_, fun hnot c hc => ?_⟩
    · have hb : SqT K H2 a ((ch.map V.int).drop 1) := by
        have h0 : ch.length = 0 := by
          have z := hfull.1
          have z2 : min 1 (ch.map V.int).length = 0 := z
          rw [List.length_map] at z2
          omega
        cases ch with
        | nil => exact .of ha2
        | cons x r => simp at h0
      refine ⟨a, a, _, _, rfl, .inr ⟨.of ha2, hb, fun D3 hD3 => lc_gr (B := H2) (walk_zipT rfl) (by rw [List.length_map]; omega) hD3 (fun _ y _ => y = .bl true) (fun _ _ _ _ _ h => h) (fun _ _ _ s => ⟨.of (s _ _ ha2), SqT.up s hb⟩) ?_ ?_⟩⟩
      · rintro i x H4 H' acc hi hs4 hD4 ⟨T, x1, x2, rfl, hT, rfl, hx1, hx2⟩ Fin hFin
        obtain ⟨n1, n2, e1, e2, hlt⟩ := pw i x1 x2 hx1 hx2
        subst e1
        subst e2
        refine ⟨T, _, rfl, .of upd_same, rfl, _, _, rfl, _, _, rfl, rfl, rfl, _, rfl, _, rfl, n1, n2, rfl, rfl, hFin _ _ (Same.new hT) ?_⟩
        show V.bl (decide (n1 < n2)) = V.bl true
        rw [decide_eq_true hlt]
      · intro H4 ys s4 hD4 hl4 hR4
        have e4 := bl_all hl4 hR4
        rw [e4] at hD4
        refine ⟨D3, _, rfl, .of hD4, _, rfl, ?_⟩
        rw [all_rep]
        exact iteF (hq _ (same_trans s12 s4))
    · have s3 := Same.new (o := .tup (cutV (ch.map V.int) (some 1) none)) hc
      have ha3 := s3 _ _ ha2
      have hb : SqT K (upd H2 c (.tup (cutV (ch.map V.int) (some 1) none))) c ((ch.map V.int).drop 1) := by
        rw [← cut1]
        exact .of upd_same
      refine ⟨a, c, _, _, rfl, .inr ⟨.of ha3, hb, fun D3 hD3 => lc_gr (B := _) (walk_zipT rfl) (by rw [List.length_map]; omega) hD3 (fun _ y _ => y = .bl true) (fun _ _ _ _ _ h => h) (fun _ _ _ s => ⟨.of (s _ _ ha3), SqT.up s hb⟩) ?_ ?_⟩⟩
      · rintro i x H4 H' acc hi hs4 hD4 ⟨T, x1, x2, rfl, hT, rfl, hx1, hx2⟩ Fin hFin
        obtain ⟨n1, n2, e1, e2, hlt⟩ := pw i x1 x2 hx1 hx2
        subst e1
        subst e2
        refine ⟨T, _, rfl, .of upd_same, rfl, _, _, rfl, _, _, rfl, rfl, rfl, _, rfl, _, rfl, n1, n2, rfl, rfl, hFin _ _ (Same.new hT) ?_⟩
        show V.bl (decide (n1 < n2)) = V.bl true
        rw [decide_eq_true hlt]
      · intro H4 ys s4 hD4 hl4 hR4
        have e4 := bl_all hl4 hR4
        rw [e4] at hD4
        refine ⟨D3, _, rfl, .of hD4, _, rfl, ?_⟩
        rw [all_rep]
        exact iteF (hq _ (same_trans s12 (same_trans s3 s4)))
end
end Bn
/-! B6: what only grows the heap (generators stay as they are): expressions, defs that return one. -/
namespace Bn
open PySem PySem.Spec PyProof.Rows L2
/-- the heap may have grown; generators and the system stay -/
structure Gr (s s' : Shared) : Prop where
  os : s'.os = s.os
  gens : s'.gens = s.gens
  keep : ∀ b o, s.heap.get? b = some o → s'.heap.get? b = some o
theorem Gr.refl (s : Shared) : Gr s s := ⟨rfl, rfl, fun _ _ e => e⟩
theorem Gr.trans {s s' s'' : Shared} (a : Gr s s') (b : Gr s' s'') : Gr s s'' := ⟨b.os.trans a.os, b.gens.trans a.gens, fun c o e => b.keep c o (a.keep c o e)⟩
theorem Gr.of {s : Shared} {h : Heap} {t : Nat} (k : ∀ b o, s.heap.get? b = some o → h.get? b = some o) : Gr s { s with heap := h, toks := t } := ⟨rfl, rfl, k⟩
section
variable {X : Cx} {pins : List (Addr × Obj)} {σ : L2.St} {H : Hp} {s s' : Shared}
theorem Gr.inv (a : Gr s s') (I : Inv X pins σ H s) : Inv X pins σ H s' := by
  exact I.call' (ch := []) a.os (Un.kept a.keep) (I.hok.kept a.keep) (by rw [a.gens]; exact I.bare) fun b z => by simp at z
/-- an expression that only grows the heap; its value by what is tracked -/
structure PEg (X : Cx) (e : Expr) (t : L2.St → Hp → (V → Prop) → Prop) : Prop where
  run : ∀ (pins : List (Addr × Obj)) (s : Shared) (σ : L2.St) (H : Hp) (Q : V → Prop) (E : Value → Shared → Prop), Inv X pins σ H s → t σ H Q → wpAny (model X.prog X.w) X.A (eval e X.env) (fun u s' => ∃ v, RelV v u ∧ Q v ∧ Gr s s') E s
theorem thg {α : Type} {M : Model} {A : Around} {t : Sem α} {Q Q' : α → Shared → Prop} {E : Value → Shared → Prop} (h : wpAny M A t Q E s) (hQ : ∀ a s', Q a s' → Q' a s') : wpAny M A t Q' E s := wpAny_mono h hQ fun _ _ z => z
def gVar (i : Nat) : L2.St → Hp → (V → Prop) → Prop := fun σ _ Q => ∃ v, σ[i]? = some (some v) ∧ Q v
theorem pg_var (i : Nat) {x : Str} {pos : Pos} (hN : X.N[i]? = some x := by rfl) (hv : Vis X.env.scope x := by first | exact Or.inl rfl | exact Or.inr (Or.inl rfl) | exact Or.inr (Or.inr rfl)) (hd : (x == ("__debug__" : Str)) = false := by decide)
    (hcd : (x == ("__classdict__" : Str)) = false := by decide) : PEg X (.Name x pos) (gVar i) := by
  refine ⟨fun pins s σ H Q E I ⟨v, e, q⟩ => ?_⟩
  obtain ⟨m, hn, hl⟩ := I.loc
  obtain ⟨u, r, l⟩ := hl i x v hN e hv
  have fin : ∃ v, RelV v u ∧ Q v ∧ Gr s s := ⟨v, r, q, .refl s⟩
  rcases l with ⟨hk, hm⟩ | ⟨hk | hk, c, hc, hcell⟩
  · exact wpAny_Name (wpAny_loadName_local I.ok.kind hk hn hm fin) hd
  · exact wpAny_Name (wpAny_loadName_cell I.ok.kind hk hc hcell fin) hd
  · exact wpAny_Name (wpAny_loadName_free I.ok.kind hk hc hcell fin hcd) hd
def gC (v : V) : L2.St → Hp → (V → Prop) → Prop := fun _ _ Q => Q v
theorem pg_bl {b : Bool} {j} {pos : Pos} : PEg X (.Constant (.bool b) j pos) (gC (.bl b)) := ⟨fun _ s _ _ _ _ _ h => Constant_bool ⟨.bl b, rfl, h, .refl s⟩⟩
def gFld (K : PySem.W.Frag) (t : L2.St → Hp → (V → Prop) → Prop) (f : Str) : L2.St → Hp → (V → Prop) → Prop := fun σ H Q => t σ H fun x => ∃ a C dx fs v, x = .ref a ∧ H a = some (.ins C dx fs) ∧ Cls K C ∧ NoAttr K C f ∧ fs.lookup f = some v ∧ Q v
theorem pg_fld {e : Expr} {f : Str} {pos : Pos} {t : L2.St → Hp → (V → Prop) → Prop} (he : PEg X e t) (hb : attributeBase e f X.env (eval e X.env) = eval e X.env) : PEg X (.Attribute e f pos) (gFld X.K t f) := by
  refine ⟨fun pins s σ H Q E I h => attr_of hb (thg (he.run pins s σ H _ E I h) ?_)⟩
  rintro u s1 ⟨x, rx, ⟨a, C, dx, fs, v, rfl, ea, c, n, l, q⟩, g⟩
  cases rx
  have I1 := g.inv I
  obtain ⟨mA, O, r, _, _, _⟩ := ins_get I1.hok ea
  obtain ⟨z, hz, rz⟩ := RelO.some_of (v := v) (o := mA f) (by rw [← l]; exact r f)
  exact get_map I1.kIn O (c.get f) c.hd n hz (handed_of rz) ⟨v, rz, q, g.trans (.of fun _ _ e => e)⟩
def gLt (ta tb : L2.St → Hp → (V → Prop) → Prop) : L2.St → Hp → (V → Prop) → Prop := fun σ H Q => ta σ H fun x => tb σ H fun y => ∃ i j : Int, x = .int i ∧ y = .int j ∧ Q (.bl (decide (i < j)))
theorem pg_lt {a b : Expr} {pos : Pos} {ta tb : L2.St → Hp → (V → Prop) → Prop} (ha : PEg X a ta) (hb : PEg X b tb) : PEg X (.Compare a [.Lt] [b] pos) (gLt ta tb) := by
  refine ⟨fun pins s σ H Q E I h => wpAny_Compare1 (thg (ha.run pins s σ H _ E I h) ?_) (nomark b)⟩
  rintro v s1 ⟨x, rx, hx, g1⟩
  refine thg (hb.run pins s1 σ H _ E (g1.inv I) hx) ?_
  rintro u s2 ⟨y, ry, ⟨i, j, rfl, rfl, q⟩, g2⟩
  obtain ⟨t, rfl⟩ := rx
  obtain ⟨t', rfl⟩ := ry
  exact PySem.wpAny_lt_int ⟨.bl _, rfl, q, g1.trans g2⟩
def gIn (K : PySem.W.Frag) (ta tb : L2.St → Hp → (V → Prop) → Prop) : L2.St → Hp → (V → Prop) → Prop := fun σ H Q => ta σ H fun x => tb σ H fun y => ∃ p xs, y = .ref p ∧ SqL K H p xs ∧ flatV x = true ∧ xs.all flatV = true ∧ Q (.bl (inV x xs))
theorem pg_in {a b : Expr} {pos : Pos} {ta tb : L2.St → Hp → (V → Prop) → Prop} (ha : PEg X a ta) (hb : PEg X b tb) (hm : behindInMarks .In b = false) : PEg X (.Compare a [.In] [b] pos) (gIn X.K ta tb) := by
  refine ⟨fun pins s σ H Q E I h => wpAny_Compare1 (thg (ha.run pins s σ H _ E I h) ?_) hm⟩
  rintro v s1 ⟨x, rx, hx, g1⟩
  refine thg (hb.run pins s1 σ H _ E (g1.inv I) hx) ?_
  rintro u s2 ⟨y, ry, ⟨p, xs, rfl, hs, fx, fs, q⟩, g2⟩
  cases ry
  obtain ⟨its, r, pl, hz⟩ := ((g1.trans g2).inv I).list hs
  refine SeqAt.in_listAt (eqU x) pl.isList (fun w hw => mem_eqAt rx fx r fs w (by simpa using hw)) ⟨.bl _, rfl, ?_, g1.trans g2⟩
  rw [show its.toArray.any (eqU x) = its.any (eqU x) by simp, any_eqU r fs]
  exact q
end
/-! ### defs -/
/-- the def at f returns v where q tells so, and only grows the heap -/
def Quiet (P : Program) (w : World) (K : PySem.W.Frag) (mg : Str → Option Value) (base : Heap) (k : Nat) (f : Addr) (q : List V → Hp → V → Prop) : Prop :=
  ∀ (A : Around) (outer : List Env) (s : Shared) (H : Hp) (us : List Value) (vs : List V) (v : V), Rm k A → Env0 P w K mg base A outer s H → Vals vs us → q vs H v →
    codeAny (model P w) A (.call (.ref f) ⟨us, []⟩) (fun r s' => ∃ u, r = .ok (.ret u) ∧ RelV v u ∧ Gr s s') s
section
variable {P : Program} {w : World} {K : PySem.W.Frag} {mg : Str → Option Value} {base : Heap} {x qual : Str} {params : Arguments} {scope : Scope} {f : Addr} {fd : FuncData} {N ps : List Str} {k : Nat}
theorem Quiet.imp {q q' : List V → Hp → V → Prop} (F : Quiet P w K mg base k f q) (h : ∀ vs H v, q' vs H v → q vs H v) : Quiet P w K mg base k f q' := fun A o s H us vs v hr e r z => F A o s H us vs v hr e r (h _ _ _ z)
theorem Quiet.mono {j : Nat} {q : List V → Hp → V → Prop} (F : Quiet P w K mg base j f q) (h : j ≤ k) : Quiet P w K mg base k f q := fun A o s H us vs v hr => F A o s H us vs v (hr.mono h)
/-- such a def: return e -/
theorem quiet_fn {e : Expr} {rp : Pos} {q : List V → Hp → V → Prop} (F : FunD K x qual params [.Return (some e) rp] scope [] [] f fd) (S : FnScope N ps scope)
    (bind : ∀ (kV doc pm : Value) (an : Option Addr) (cdv ct : Value) (us : List Value), us.length = ps.length → bindArgs (PySem.W.fnOf x qual params [.Return (some e) rp] scope .none kV doc pm an cdv ct) ⟨us, []⟩ = pure (ps.zip us))
    (len : ∀ vs H v, q vs H v → vs.length = ps.length)
    (run : ∀ (cdv : Value) (A : Around) (outer : List Env) (s : Shared) (H : Hp) (vs : List V) (v : V), Rm k (A.deeper (envOfC qual scope s.heap.objs.size f cdv)) → q vs H v →
      ∃ t, PEg (cxOf L2.CX0 P w K mg base N qual scope f cdv A outer s H E0) e t ∧ t (start N vs) H fun z => z = v) : Quiet P w K mg base (k + 1) f q := by
  intro A outer s H us vs v hr e0 r hq
  have hb := F.bindsN bind
  obtain ⟨oc, od, dV, kV, doc, pm, an, cdv, ct, osl, rfl, lk, hcd, _, _⟩ := F.ex
  have hl := len _ _ _ hq
  have kin : K.In s.heap := e0.mod.kin.keeps fun b o e => (e0.bs b o e).1
  have lim : s.heap.NoLimit := e0.mod.nolimit.keeps fun b o e => (e0.bs b o e).1
  have hpar : ∀ y ∈ ps.zip us, scope.names.lookup y.1 = some .local ∨ (scope.names.lookup y.1 = some .cell ∧ ((cellsFrom (s.heap.objs.size + 1) scope.names []).lookup y.1).isSome = true) := by
    rintro ⟨n, v⟩ hy
    refine (S.par n (List.of_mem_zip hy).1).imp id fun q => ⟨q, PySem.W.cellsFrom_some _ _ _ (.inl q)⟩
  have hbs := hb s us kin (by rw [List.append_nil, ← r.length]; exact hl)
  rw [List.append_nil] at hbs
  refine codeAny_call_function hr.r.depth (kin _ _ lk) rfl S.co S.gen rfl (PySem.W.codeRec_of kin hcd) (hbs _ _ _ _ ?_)
  refine wpAny_newFunctionEnv_cells S.kind hpar fun env he s1 inc => ?_
  subst he
  obtain ⟨t, ht, hz⟩ := run cdv A outer s H _ v (hr.deeper _) hq
  have I : Inv (cxOf L2.CX0 P w K mg base N qual scope f cdv A outer s H E0) [] (start N vs) H s1 := inv_start S hr.r.hd e0 hl r inc
  obtain ⟨h1, t1, e1, k1⟩ := inc.done
  refine ⟨lim.keeps inc.toInCall.keep, codeAny_func (wpAny_execs_cons (wpAny_Return_some (thg (ht.run [] s1 _ H _ _ I hz) ?_)))⟩
  rintro u s2 ⟨z, rz, rfl, g⟩
  exact ⟨u, rfl, rz, (show Gr s s1 from e1 ▸ .of k1).trans g⟩
end
end Bn
/-! B7: a list comprehension over an iterator whose state may lie outside the heap (a generator's); its items only grow the heap. -/
namespace Bn
open PySem PySem.Spec PyProof.Rows L2
/-! ### storing a local, state by state -/
section
variable {X : Cx} {pins : List (Addr × Obj)} {σ : L2.St} {H : Hp} {s : Shared}
/-- all but the block's own names stay -/
structure ChL (L : Addr) (s s' : Shared) : Prop where
  os : s'.os = s.os
  gens : s'.gens = s.gens
  keep : ∀ b o, b ≠ L → s.heap.get? b = some o → s'.heap.get? b = some o
theorem ChL.trans {L : Addr} {s s' s'' : Shared} (a : ChL L s s') (b : ChL L s' s'') : ChL L s s'' := ⟨b.os.trans a.os, b.gens.trans a.gens, fun c o n e => b.keep c o n (a.keep c o n e)⟩
theorem Gr.chL {s s' : Shared} (L : Addr) (a : Gr s s') : ChL L s s' := ⟨a.os, a.gens, fun c o _ => a.keep c o⟩
theorem store_L {i : Nat} {x : Str} {v : V} {u : Value} {M : Model} {A : Around} {E : Value → Shared → Prop} {Q : Unit → Shared → Prop} (I : Inv X pins σ H s) (hN : X.N.Nodup) (hi : X.N[i]? = some x) (hk : X.env.scope.names.lookup x = some .local) (r : RelV v u)
    (h : ∀ s', Inv X pins (σ.set i (some v)) H s' → ChL X.env.locals s s' → Q () s') : wpAny M A (storeName X.env x u) Q E s := by
  have I0 := I
  obtain ⟨m, hn, hl⟩ := I.loc
  have hiσ : i < σ.length := by rw [I.len]; exact (List.getElem?_eq_some_iff.mp hi).1
  have hcls : (X.env.scope.kind == .class || (X.env.scope.kind == .module && X.env.locals != X.env.globals)) = false := by rw [I.ok.kind]; rfl
  refine wpAny_storeName_local hk hn (fun h' hn' hs => h _ ?_ ⟨rfl, rfl, fun b o nb e => (hs.2 b nb).trans e⟩) hcls
  have kp : ∀ {b o}, b ≠ X.env.locals → s.heap.get? b = some o → h'.get? b = some o := fun nb e => (hs.2 _ nb).trans e
  have neL : ∀ {b o}, X.s_0.heap.get? b = some o → b ≠ X.env.locals := fun e => Nat.ne_of_lt (Nat.lt_of_lt_of_le (Heap.lt_size e) I.ok.above)
  have trk : ∀ {b u}, H b = some u → b ≠ X.env.locals := fun e z => by rw [z, I.free] at e; cases e
  obtain ⟨bk, bsl, bfr, bth, btu, bfz, btb⟩ := I.base
  refine ⟨I.ok, I.os, I.bare, ⟨fun b o e n hb hx => kp (neL e) (bk b o e n hb hx), fun b o e n hb hx => (bsl b o e n hb hx).imp fun sl q => kp (neL e) q, bfr, fun b o e hx => (bth b o e hx).imp fun o' q => kp (neL e) q, btu, bfz, btb⟩,
    ⟨_, hn', fun j y v' e1 e2 e3 => ?_⟩, fun y c e => ?_, I.free, I.freeC, fun p hp => ?_, fun b ob e => ?_, by rw [List.length_set]; exact I.len⟩
  · by_cases hj : j = i
    · subst hj
      cases e1.symm.trans hi
      rw [List.getElem?_set_self hiσ] at e2
      cases e2
      exact ⟨u, r, .inl ⟨hk, if_pos rfl⟩⟩
    · rw [List.getElem?_set_ne (Ne.symm hj)] at e2
      obtain ⟨u', r', q⟩ := hl j y v' e1 e2 e3
      have ny : y ≠ x := fun z => hj (nodup_ix hN e1 (z ▸ hi))
      refine ⟨u', r', q.imp (fun ⟨k, e⟩ => ⟨k, (if_neg ny).trans e⟩) fun ⟨k, c, e, z⟩ => ⟨k, c, e, z.sameBut hs (I0.cne y c e)⟩⟩
  · obtain ⟨w', z⟩ := I.cell y c e
    exact ⟨w', z.sameBut hs (I0.cne y c e)⟩
  · obtain ⟨e, n, ne, nf, d⟩ := I.pin p hp
    exact ⟨kp ne e, n, ne, nf, d⟩
  · refine (I.hok b ob e).stay (fun c w' hc q => kp ?_ q) (fun _ q => q) fun _ _ q => q
    rcases hc with rfl | hc
    · exact trk e
    · exact trk hc
end
/-! ### an iterator by the whole state -/
/-- what an iterator may do by itself: generators may turn, cells of its own may change; D, C: the comprehension's list and block -/
structure Mv (fp : List Addr) (M D C : Nat) (s s' : Shared) : Prop where
  os : s'.os = s.os
  bare : AllBare s.gens → AllBare s'.gens
  ch : ∃ wr : List Addr, (∀ b ∈ wr, b ≠ D ∧ b ≠ C ∧ (b ∈ fp ∨ M ≤ b) ∧ ∀ v, ¬ s.heap.IsCell b v) ∧ (∀ b o, b ∉ wr → s.heap.get? b = some o → s'.heap.get? b = some o)
structure SIt (P : Program) (w : World) (A : Around) (tg : Expr) (it : Addr) (fp : List Addr) (M D C n : Nat) (Y : Nat → Value → Heap → Prop) (St : Nat → Shared → Prop) (Dn : Shared → Prop) : Prop where
  keep : ∀ i s s', St i s → s'.gens = s.gens → s'.os = s.os → (∀ b o, b ≠ D → b ≠ C → s.heap.get? b = some o → s'.heap.get? b = some o) → St i s'
  item : ∀ (i : Nat) (s : Shared) (E : Value → Shared → Prop), i < n → St i s → (∃ o, s.heap.get? D = some o) → (∃ o, s.heap.get? C = some o) → wpAny (model P w) A (pyNext (.ref it)) (fun r s1 => ∃ u, r = some u ∧ wpAny (model P w) A (letOwnedTupleGo tg (.ref it) u) (fun _ s2 => St (i + 1) s2 ∧ Y i u s2.heap ∧ Mv fp M D C s s2) E s1) E s
  done : ∀ (s : Shared) (E : Value → Shared → Prop), St n s → (∃ o, s.heap.get? D = some o) → (∃ o, s.heap.get? C = some o) → wpAny (model P w) A (pyNext (.ref it)) (fun r s1 => r = none ∧ Dn s1 ∧ Mv fp M D C s s1) E s
  self : ∀ (s : Shared) (Q : Value → Shared → Prop) (E : Value → Shared → Prop), St 0 s → Q (.ref it) s → wpAny (model P w) A (pyIter (.ref it)) Q E s
/-- growth where generators may have turned -/
structure Gx (s s' : Shared) : Prop where
  os : s'.os = s.os
  bare : AllBare s.gens → AllBare s'.gens
  keep : ∀ b o, s.heap.get? b = some o → s'.heap.get? b = some o
theorem Gx.refl (s : Shared) : Gx s s := ⟨rfl, id, fun _ _ e => e⟩
theorem Gx.trans {s s' s'' : Shared} (a : Gx s s') (b : Gx s' s'') : Gx s s'' := ⟨b.os.trans a.os, fun h => b.bare (a.bare h), fun c o e => b.keep c o (a.keep c o e)⟩
theorem Gr.gx {s s' : Shared} (a : Gr s s') : Gx s s' := ⟨a.os, fun h => by rw [a.gens]; exact h, a.keep⟩
section
variable {X : Cx} {pins : List (Addr × Obj)} {σ : L2.St} {H : Hp} {s s' : Shared}
theorem Gx.inv (a : Gx s s') (I : Inv X pins σ H s) : Inv X pins σ H s' :=
  I.call' (ch := []) a.os (Un.kept a.keep) (I.hok.kept a.keep) (a.bare I.bare) fun b z => by simp at z
end
section
variable {X : Cx}
/-- [elt for tg in iter] -/
theorem lcg_core {pins : List (Addr × Obj)} {s : Shared} {σ : L2.St} {H : Hp} {elt tg iter : Expr} {scope : Scope} {own : List (Str × Nat)} {pos pos' : Pos} {Q : Value → Shared → Prop} {E : Value → Shared → Prop}
    (hN : X.N.Nodup) (I : Inv X pins σ H s) (ok : BlkOk X.N X.env.scope scope own) (nocell : ∀ y ∈ scope.names, y.2 ≠ .cell) (hs : ∀ x, foldedSetIterable iter X.env x = pure x)
    (hi : wpAny (model X.prog X.w) X.A (eval iter X.env) (fun xv s1 => wpAny (model X.prog X.w) X.A (pyIter xv) (fun itv s2 => ∃ (it : Addr) (fp : List Addr) (ys : List V), itv = .ref it ∧ Gx s s2 ∧ (∀ b ∈ fp, b < s2.heap.objs.size ∧ s.heap.get? b = none ∧ FpOk X pins H b) ∧ ys.length ≤ sizeLine ∧
      ∀ D C, s2.heap.objs.size ≤ D → D < C → ∃ (Y : Nat → Value → Heap → Prop) (St : Nat → Shared → Prop) (Dn : Shared → Prop), SIt X.prog X.w X.A tg it fp s2.heap.objs.size D C ys.length Y St Dn ∧ (∀ s4, Gr s2 s4 → (∃ o, s4.heap.get? D = some o) → (∃ o, s4.heap.get? C = some o) → St 0 s4) ∧ (∀ s4 s5, Dn s4 → ChL C s4 s5 → Dn s5) ∧
        (∀ (s3 : Shared) (H3 : Hp) (cl : List (Str × Addr)) (i : Nat) (y : V) (u : Value) (H5 : Hp) (s5 : Shared), ys[i]? = some y → Y i u s5.heap → Inv (X.blk s3 H3 scope (compEnvC scope cl C X.env) fp) [] (wipe σ (own.map (·.2))) H5 s5 → (∀ a o, H a = some o → H5 a = some o) →
          wpAny (model X.prog X.w) X.A (assign tg (compEnvC scope cl C X.env) u) (fun _ s6 => ∃ σ6, Inv (X.blk s3 H3 scope (compEnvC scope cl C X.env) fp) [] σ6 H5 s6 ∧ wipe σ6 (own.map (·.2)) = wipe σ (own.map (·.2)) ∧ ChL C s5 s6 ∧
            wpAny (model X.prog X.w) X.A (eval elt (compEnvC scope cl C X.env)) (fun z s7 => RelV y z ∧ Gr s6 s7) (fun _ _ => False) s6) (fun _ _ => False) s5) ∧
        (∀ (us : List Value) (c : Nat) (s' : Shared), Gx s s' → Dn s' → Vals ys us → s'.heap.get? D = some { cls := .type "list", data := .seq us.toArray c } → Q (.ref D) s')) E s1) E s) :
    wpAny (model X.prog X.w) X.A (comprehension (.ListComp elt [⟨tg, iter, [], 0⟩] scope pos) scope X.env pos' (newList []) false (eval iter X.env) none) Q E s := by
  have hfree : ∀ y ∈ scope.names, y.2 = .free → ∃ c, X.env.cells.lookup y.1 = some c := fun y hy e => (ok.free y hy e).elim (fun k => I.ok.has _ (.inl k)) fun k => I.ok.has _ (.inr k)
  refine wpAny_comprehension_free (use := none) rfl hs (closure_ok hfree) ok.kind (fun y hy e => by rw [ok.uniq y hy, e])
    (wpAny_mono hi (fun xv s1 hx => wpAny_mono hx (fun itv s2 h2 => ?_) fun _ _ z => z) fun _ _ z => z)
  obtain ⟨it, fp, ys, rfl, g2, hfp, hys, body⟩ := h2
  have I2 := g2.inv I
  refine wpAny_newObj_type (newEnv_comp ?_) (by show 0 ≤ sizeLine; decide)
  generalize hD : s2.heap.objs.size = D at body hfp ⊢
  have hDn : H D = none := I2.hok.fresh (Nat.le_of_eq hD)
  generalize hs3 : ({ s2 with heap := s2.heap.push { cls := .type "list", data := .seq ([] : List Value).toArray } } : Shared) = s3
  have h3 : s3.heap = s2.heap.push { cls := .type "list", data := .seq ([] : List Value).toArray } := by rw [← hs3]
  have I3 : Inv X pins σ (upd H D (.lst [])) s3 := by
    rw [← hs3]
    refine I2.laid (t' := s2.toks) (fun b o e => Heap.get?_push_of_some _ e) (Nat.le_of_eq hD) ⟨Nat.zero_le _, [], 0, .nil, ?_⟩
    rw [← hD]
    exact Heap.get?_push_size _ rfl
  have sz3 : s3.heap.objs.size = D + 1 := by rw [h3, Heap.size_push, hD]
  have f3 : ∀ b ∈ fp, FpOk X pins (upd H D (.lst [])) b ∧ b < s3.heap.objs.size := fun b hb => by
    obtain ⟨q2, _, z0, z1⟩ := hfp b hb
    exact ⟨⟨by rw [upd_ne (Nat.ne_of_lt q2)]; exact z0, z1⟩, by rw [sz3]; exact Nat.lt_succ_of_lt q2⟩
  have I4 := block_start I3 ok hN f3
  generalize hC : s3.heap.objs.size = C at I4 ⊢
  have lDC : D < C := by rw [← hC, sz3]; exact Nat.lt_succ_self _
  obtain ⟨Y, St, Dn, T, st0, dkC, turn, fin⟩ := body D C (Nat.le_refl _) lDC
  generalize hcl : cellsFrom (C + 1) scope.names (cloFrom X.env.cells scope.names []) = cl at I4 ⊢
  show codeAny _ _ (.compStart (.ListComp elt [⟨tg, iter, [], 0⟩] scope pos) 0 (.ref it) (.ref D) (compEnvC scope cl C X.env)) (compPost (model X.prog X.w) X.A E none Q (.ref D) C) _
  generalize hs4 : ({ s3 with heap := pushCells (s3.heap.push { cls := .type "dict", data := .dict #[] }) scope.names } : Shared) = s4 at I4 ⊢
  have g4 : Gr s2 s4 := by
    rw [← hs4, ← hs3]
    exact ⟨rfl, rfl, fun b o e => pushCells_keeps _ _ _ _ (Heap.get?_push_of_some _ (Heap.get?_push_of_some _ e))⟩
  have g4D : s4.heap.get? D = some { cls := .type "list", data := .seq ([] : List Value).toArray } := by
    rw [← hs4, ← hs3, ← hD]
    exact pushCells_keeps _ _ _ _ (Heap.get?_push_of_some _ (Heap.get?_push_size _ rfl))
  have st4 := st0 s4 g4 ⟨_, g4D⟩ (by
    obtain ⟨m, ⟨o, _, _, e, _⟩, _⟩ := I4.loc
    exact ⟨o, e⟩)
  generalize hB : X.blk s3 (upd H D (.lst [])) scope (compEnvC scope cl C X.env) fp = B at I4
  have bP : B.prog = X.prog := by rw [← hB]
  have bL : B.env.locals = C := by rw [← hB]; rfl
  have bst : B.s_0 = s3 := by rw [← hB]
  have bex : B.ex = fp := by rw [← hB]
  have bpn : B.pn = [] := by rw [← hB]
  have bA : B.A = X.A := by rw [← hB]
  have bw : B.w = X.w := by rw [← hB]
  have lt_of : ∀ {b o}, s.heap.get? b = some o → b < D ∧ b ∉ fp := fun e => by
    refine ⟨by rw [← hD]; exact Heap.lt_size (g2.keep _ _ e), fun z => ?_⟩
    rw [(hfp _ z).2.1] at e; cases e
  have hn : ∀ b, (b ∈ fp ∨ D ≤ b) → H b = none := fun b z => z.elim (fun z => (hfp b z).2.2.1) fun z => I2.hok.fresh (by rw [hD]; exact z)
  -- the iterator's own doings
  have mv : ∀ {σ' : L2.St} {xs : List V} {s5 s6 : Shared}, Mv fp D D C s5 s6 → Inv B [] σ' (upd H D (.lst xs)) s5 → Inv B [] σ' (upd H D (.lst xs)) s6 := fun {σ' xs s5 s6} m I5 => by
    obtain ⟨mo, mb, wr, hwr, hk⟩ := m
    have tr : ∀ b u, upd H D (.lst xs) b = some u → b ∉ wr := fun b u e z => by
      obtain ⟨z1, _, z3, _⟩ := hwr b z
      rw [upd_ne z1, hn b z3] at e
      cases e
    refine I5.call' (ch := wr) mo ⟨fun b o e _ _ hx => hk b o hx e, fun b o e _ _ hx => ⟨o.slots, hk b o hx e⟩, fun _ _ _ n _ => n, fun b o hx e => ⟨o, hk b o e hx⟩, fun _ _ q => q, fun _ _ _ q => q, fun _ ps q => ⟨#[], by rw [q]; simp⟩⟩ (fun b u e => ?_) (mb I5.bare) fun b hb => ?_
    · refine (I5.hok b u e).stay (fun c v hc q => hk c v ?_ q) (fun _ q => q) fun _ _ q => q
      rcases hc with rfl | hc
      · exact tr _ _ e
      · exact tr _ _ hc
    · obtain ⟨z1, z2, z3, z4⟩ := hwr b hb
      refine ⟨z3.imp (fun z => by rw [bex]; exact z) fun z => ?_, by rw [bL]; exact z2, fun x c e q => ?_, fun p hp => ?_⟩
      · rw [bst, sz3]
        exact Nat.lt_of_le_of_ne z (Ne.symm z1)
      · obtain ⟨v, y⟩ := I5.cell x c e
        exact z4 v (q ▸ y)
      · rw [bpn] at hp
        cases hp
  let W : Nat → Shared → Prop := fun m s' => ∃ i us c, m = ys.length - i ∧ i ≤ ys.length ∧ Inv B [] (wipe σ (own.map (·.2))) (upd H D (.lst (ys.take i))) s' ∧ St i s' ∧ Gx s s' ∧ Vals (ys.take i) us ∧ s'.heap.get? D = some { cls := .type "list", data := .seq us.toArray c }
  have loop : codeAny (model X.prog X.w) X.A (.compLoop (.ListComp elt [⟨tg, iter, [], 0⟩] scope pos) 0 (.ref it) (.ref D) (compEnvC scope cl C X.env)) (compPost (model X.prog X.w) X.A E none Q (.ref D) C) s4 := by
    refine compLoop_any W ?_ ys.length ⟨0, [], 0, rfl, Nat.zero_le _, I4, st4, g2.trans g4.gx, .nil, ?_⟩
    · rintro n s5 ⟨i, us, c, rfl, hle, I5, st5, g5, vs5, hD5⟩
      have lD : ∃ o, s5.heap.get? D = some o := ⟨_, hD5⟩
      have lC : ∃ o, s5.heap.get? C = some o := by
        obtain ⟨m, ⟨o, _, _, e, _⟩, _⟩ := I5.loc
        exact ⟨o, bL ▸ e⟩
      by_cases hlt : i < ys.length
      · have ey : ys[i]? = some ys[i] := List.getElem?_eq_getElem hlt
        refine thnF (T.item i s5 _ hlt st5 lD lC) fun r s6 ⟨u, hr, h6⟩ => ?_
        subst hr
        refine thnF h6 fun _ s7 ⟨st7, y7, m7⟩ => ?_
        have I7 := mv m7 I5
        obtain ⟨wr, hwr, hk7⟩ := m7.ch
        have hD7 := hk7 D _ (fun z => (hwr D z).1 rfl) hD5
        have old7 : ∀ b o, s.heap.get? b = some o → s7.heap.get? b = some o := fun b o e => by
          refine hk7 b o (fun z => ?_) (g5.keep b o e)
          obtain ⟨z1, z2⟩ := lt_of e
          rcases (hwr b z).2.2.1 with q | q
          · exact z2 q
          · exact absurd (Nat.lt_of_lt_of_le z1 q) (Nat.lt_irrefl _)
        subst hB
        refine thnF (turn s3 (upd H D (.lst [])) cl i ys[i] u _ s7 ey y7 I7 fun a o e => by rw [upd_ne (ne_of_none e hDn)]; exact e) fun _ s8 ⟨σ8, I8, w8, c8, h8⟩ => ?_
        refine wpAny_tests_nil ?_
        rw [if_pos rfl]
        refine thnF h8 fun z s9 ⟨rz, g9⟩ => ?_
        have I9 := g9.inv I8
        obtain ⟨o8, n8, k8⟩ := c8
        have hD9 := g9.keep _ _ (k8 D _ (Nat.ne_of_lt lDC) hD7)
        have st8 : St (i + 1) s8 := T.keep _ _ _ st7 n8 o8 fun b o _ nC e => k8 b o nC e
        have st9 : St (i + 1) s9 := T.keep _ _ _ st8 g9.gens g9.os fun b o _ _ e => g9.keep b o e
        have hl := vs5.length
        rw [List.length_take, Nat.min_eq_left hle] at hl
        refine append_at (hsz := by rw [List.size_toArray, ← hl]; exact Nat.le_trans hle hys) hD9 fun h' sb ho' => ?_
        have tk : ys.take i ++ [ys[i]] = ys.take (i + 1) := by rw [List.take_add_one, ey]; rfl
        have I10 : Inv (X.blk s3 (upd H D (.lst [])) scope (compEnvC scope cl C X.env) fp) [] σ8 (upd H D (.lst (ys.take (i + 1)))) { s9 with heap := h' } := by
          have z := I9.write (t' := s9.toks) (x := D) (e := D) (o := .lst (ys.take (i + 1))) (h' := h') (by rw [upd_same]; trivial) (.inl rfl) (fun b u hb q => (sb.2 b hb).trans q) ⟨_, ho'⟩
            ⟨by rw [List.length_take]; exact Nat.le_trans (Nat.min_le_right _ _) hys, us ++ [z], c + 1, by rw [← tk]; exact vs5.append (.cons rz .nil), by rw [ho']; simp⟩
          rw [upd_upd] at z
          exact z
        have hw : (wipe σ (own.map (·.2))).length = σ8.length := by rw [← w8, wipe_length]
        refine ⟨ys.length - (i + 1), by omega, i + 1, us ++ [z], c + 1, rfl, hlt, I10.weak hw fun j v e => ?_, ?_, ⟨?_, ?_, ?_⟩, ?_, ?_⟩
        · rw [← w8] at e
          exact (wipe_some e).1
        · exact T.keep _ _ _ st9 rfl rfl fun b o nD _ e => (sb.2 b nD).trans e
        · show s9.os = s.os
          rw [g9.os, o8]
          exact m7.os.trans g5.os
        · intro ha
          have q : AllBare s7.gens := m7.bare (g5.bare ha)
          show AllBare s9.gens
          rw [g9.gens, n8]
          exact q
        · intro b o e
          have l := lt_of e
          refine (sb.2 b (Nat.ne_of_lt l.1)).trans (g9.keep b o ?_)
          exact k8 b o (Nat.ne_of_lt (Nat.lt_trans l.1 lDC)) (old7 b o e)
        · rw [← tk]
          exact vs5.append (.cons rz .nil)
        · show h'.get? D = _
          rw [ho']
          simp
      · have e : i = ys.length := by omega
        subst e
        rw [List.take_length] at I5 vs5
        refine thnF (T.done s5 _ st5 lD lC) fun r s6 ⟨hr, dn, m6⟩ => ?_
        subst hr
        have I6 := mv m6 I5
        obtain ⟨m, hns, _⟩ := I6.loc
        rw [bL] at hns
        refine ⟨m, hns, fun h' sb => ?_⟩
        obtain ⟨wr, hwr, hk6⟩ := m6.ch
        have old6 : ∀ b o, s.heap.get? b = some o → s6.heap.get? b = some o := fun b o e => by
          refine hk6 b o (fun z => ?_) (g5.keep b o e)
          obtain ⟨z1, z2⟩ := lt_of e
          rcases (hwr b z).2.2.1 with q | q
          · exact z2 q
          · exact absurd (Nat.lt_of_lt_of_le z1 q) (Nat.lt_irrefl _)
        have hD6 := hk6 D _ (fun z => (hwr D z).1 rfl) hD5
        have cc : ChL C s6 { s6 with heap := h' } := ⟨rfl, rfl, fun b o nb e => (sb.2 b nb).trans e⟩
        refine fin us c _ ⟨m6.os.trans g5.os, fun ha => m6.bare (g5.bare ha), fun b o e => ?_⟩ (dkC _ _ dn cc) vs5 ((sb.2 D (Nat.ne_of_lt lDC)).trans hD6)
        exact (sb.2 b (Nat.ne_of_lt (Nat.lt_trans (lt_of e).1 lDC))).trans (old6 b o e)
    · exact g4D
  exact codeAny_compStart_list loop (T.self _ _ _ st4 loop)
end
end Bn
/-! B8: all([elt for x in a tuple]), all of a list: they only grow the heap. -/
namespace Bn
open PySem PySem.Spec PyProof.Rows L2
theorem wipe_get (σ : L2.St) : ∀ (vs : List Nat) (j : Nat), (wipe σ vs)[j]? = if j ∈ vs ∧ j < σ.length then some none else σ[j]?
  | [], j => by simp [wipe]
  | v :: vs, j => by
    unfold wipe
    by_cases hj : v = j
    · subst hj
      by_cases hl : v < σ.length
      · rw [List.getElem?_set_self (by rw [wipe_length]; exact hl), if_pos ⟨List.mem_cons_self, hl⟩]
      · rw [List.getElem?_eq_none (by rw [List.length_set, wipe_length]; omega), if_neg fun z => hl z.2, List.getElem?_eq_none (by omega)]
    · rw [List.getElem?_set_ne hj, wipe_get σ vs j]
      have : (j ∈ v :: vs ∧ j < σ.length) ↔ (j ∈ vs ∧ j < σ.length) := by
        rw [List.mem_cons]
        exact ⟨fun z => ⟨z.1.resolve_left fun e => hj e.symm, z.2⟩, fun z => ⟨.inr z.1, z.2⟩⟩
      simp only [this]
theorem wipe_set {σ : L2.St} {vs : List Nat} {i : Nat} {x : Option V} (h : i ∈ vs) : wipe ((wipe σ vs).set i x) vs = wipe σ vs := by
  apply List.ext_getElem?
  intro j
  rw [wipe_get, wipe_get, List.length_set, wipe_length]
  by_cases hj : j ∈ vs ∧ j < σ.length
  · rw [if_pos hj, if_pos hj]
  · rw [if_neg hj, if_neg hj]
    by_cases e : i = j
    · subst e
      have hl : σ.length ≤ i := Nat.le_of_not_lt fun z => hj ⟨h, z⟩
      rw [List.getElem?_eq_none (by rw [List.length_set, wipe_length]; exact hl), List.getElem?_eq_none hl]
    · rw [List.getElem?_set_ne e, wipe_get, if_neg hj]
theorem wipe_sets {σ τ : L2.St} {vs : List Nat} {i : Nat} {x : Option V} (h : i ∈ vs) (e : wipe τ vs = wipe σ vs) : wipe (τ.set i x) vs = wipe σ vs := by
  rw [← e]
  apply List.ext_getElem?
  intro j
  rw [wipe_get, wipe_get, List.length_set]
  by_cases hj : j ∈ vs ∧ j < τ.length
  · rw [if_pos hj, if_pos hj]
  · rw [if_neg hj, if_neg hj]
    by_cases ij : i = j
    · subst ij
      have hl : τ.length ≤ i := Nat.le_of_not_lt fun z => hj ⟨h, z⟩
      rw [List.getElem?_eq_none (by rw [List.length_set]; exact hl), List.getElem?_eq_none hl]
    · rw [List.getElem?_set_ne ij]
section
variable {P : Program} {w : World} {A : Around} {tg : Expr}
/-- an iterator whose state lies in the heap -/
theorem SIt.ofGoes {it : Addr} {fpG wr fp : List Addr} {M D C n : Nat} {Y : Nat → Value → Heap → Prop} {St : Nat → Heap → Prop} {G : Array GenState} (W : Goes P w A tg it fpG wr n Y St) (hD : D ∉ fpG) (hC : C ∉ fpG) (hw : ∀ b ∈ wr, b ∈ fp)
    (nc : ∀ i h b, St i h → b ∈ wr → ∀ v, ¬ h.IsCell b v) : SIt P w A tg it fp M D C n Y (fun i s => St i s.heap ∧ s.gens = G) (fun s => s.gens = G) where
  keep := fun i s s' st hg _ hk => ⟨W.frame i _ _ st.1 fun b hb o e => hk b o (fun z => hD (z ▸ hb)) (fun z => hC (z ▸ hb)) e, hg.trans st.2⟩
  item := fun i s E hi st _ _ => by
    refine W.goes i s _ E hi st.1 fun v h' tk hY st' hk _ => ⟨⟨st', st.2⟩, hY, rfl, id, wr, fun b hb => ⟨fun z => hD (z ▸ W.sub b hb), fun z => hC (z ▸ W.sub b hb), .inl (hw b hb), nc i _ b st.1 hb⟩, fun b o hb e => hk b o hb e⟩
  done := fun s E st _ _ => W.stops s _ E st.1 fun h' tk hk _ => ⟨st.2, rfl, id, wr, fun b hb => ⟨fun z => hD (z ▸ W.sub b hb), fun z => hC (z ▸ W.sub b hb), .inl (hw b hb), nc n _ b st.1 hb⟩, fun b o hb e => hk b o hb e⟩
  self := fun s Q E st h => W.self 0 s Q E st.1 h
/-- all of a list of bools -/
theorem all_list {E : Value → Shared → Prop} {s : Shared} {D c : Nat} {bs : List Bool} {us : List Value} {Q : Value → Shared → Prop} (hh : A.handled = none) (ho : s.heap.get? D = some { cls := .type "list", data := .seq us.toArray c }) (r : Vals (bs.map V.bl) us)
    (h : ∀ s', Gr s s' → Q (.bool (bs.all id)) s') : wpAny (model P w) A (call (.builtin "all") [.ref D]) Q E s := by
  have hl : s.heap.IsList D us.toArray := ⟨_, ho, rfl, c, rfl⟩
  have hb := r.bls
  refine call_all_walk (iter_any hl fun s₂ e2 st hne => ?_)
  subst e2
  refine ⟨_, _, _, _, _, _, _, rfl, Walks.list (A := A.in1) hh _ D hne us.toArray, st, truth_bools hb, fun h' tk hk => ?_⟩
  have z := h { s with heap := h', toks := tk } (.of fun b o eo => hk b o (fun hm => ?_) (Heap.get?_push_of_some _ eo))
  · rw [← L2.all_range] at z
    have e : bs.length = us.toArray.size := by rw [hb]; simp
    rw [e] at z
    exact z
  · rcases List.mem_cons.mp hm with e1 | hm
    · exact absurd (e1 ▸ Heap.lt_size eo) (Nat.lt_irrefl _)
    · cases hm
end
section
variable {X : Cx} {elt iter : Expr} {x : Str} {i : Nat} {px p lpos cpos : Pos} {scope : Scope} {ti te : L2.St → Hp → (V → Prop) → Prop}
def gAllLc (K : PySem.W.Frag) (i : Nat) (ti te : L2.St → Hp → (V → Prop) → Prop) : L2.St → Hp → (V → Prop) → Prop := fun σ H Q => ti σ H fun v => ∃ (T : Addr) (xs : List V) (bs : List Bool), v = .ref T ∧ SqT K H T xs ∧ bs.length = xs.length ∧
  (∀ (j : Nat) (y : V) (b : Bool) (H' : Hp), xs[j]? = some y → bs[j]? = some b → (∀ a o, H a = some o → H' a = some o) → te ((wipe σ [i]).set i (some y)) H' fun z => z = .bl b) ∧ Q (.bl (bs.all id))
theorem pg_allLc (hcalm : X.calm = true) (gl : Gl X "all") (hm : X.mg "all" = none) (hN : X.N.Nodup) (hx : X.N[i]? = some x) (ok : BlkOk X.N X.env.scope scope [(x, i)]) (nocell : ∀ y ∈ scope.names, y.2 ≠ .cell)
    (hxl : ∀ C cl, (compEnvC scope cl C X.env).scope.names.lookup x = some .local) (hi : PEg X iter ti) (he : ∀ (s : Shared) (H : Hp) (C : Addr) (cl : List (Str × Addr)) (fp : List Addr), PEg (X.blk s H scope (compEnvC scope cl C X.env) fp) elt te)
    (hs : ∀ x, foldedSetIterable iter X.env x = pure x := by intro _; rfl) : PEg X (.Call (.Name "all" p) [.ListComp elt [⟨.Name x px, iter, [], 0⟩] scope lpos] [] cpos) (gAllLc X.K i ti te) := by
  refine ⟨fun pins s σ H Q E I h => ?_⟩
  refine wpAny_Call_Name_kw (ld_blt (u := .builtin "all") I gl hm (by decide +kernel) (PyProof.Rows.callWith_builtin1 ?_ rfl rfl))
  refine Calls.spliced_cons ?_
  rw [eval_ListComp]
  refine lcg_core hN I ok nocell hs (thg (hi.run pins s σ H _ E I h) ?_)
  rintro xv s1 ⟨v, rv, ⟨T, xs, bs, rfl, hT, hl, hel, q⟩, g1⟩
  cases rv
  have I1 := g1.inv I
  obtain ⟨its, rt, ht, hz⟩ := I1.tuple hT
  have tlt : T < s1.heap.objs.size := ht.lt
  have ht' : s1.heap.IsTuple T its.toArray := ht
  refine PySem.wpAny_pyIter_tuple ht' ⟨s1.heap.objs.size, [s1.heap.objs.size], bs.map V.bl, rfl, g1.gx.trans (Gr.of fun b o e => Heap.get?_push_of_some _ e).gx, fun b hb => ?_, by rw [List.length_map, hl]; exact hz, fun D C hD hDC => ?_⟩
  · cases List.mem_singleton.mp hb
    refine ⟨by rw [Heap.size_push]; exact Nat.lt_succ_self _, ?_, I1.fpOk (Nat.le_refl _) (I1.hok.fresh (Nat.le_refl _))⟩
    cases e : s.heap.get? s1.heap.objs.size with
    | none => rfl
    | some o => exact absurd (Heap.lt_size (g1.keep _ _ e)) (Nat.lt_irrefl _)
  · rw [Heap.size_push] at hD
    have hh := I.ok.hd hcalm
    have ne1 : ∀ b ∈ [s1.heap.objs.size, T], b ≠ D ∧ b ≠ C := fun b hb => by
      have : b < D := by
        rcases List.mem_cons.mp hb with rfl | hb
        · exact hD
        · cases List.mem_singleton.mp hb
          exact Nat.lt_trans tlt hD
      exact ⟨Nat.ne_of_lt this, Nat.ne_of_lt (Nat.lt_trans this hDC)⟩
    have len : its.toArray.size = (bs.map V.bl).length := by rw [List.length_map, hl, rt.length]; simp
    have G := Goes.tuple (prog := X.prog) (w := X.w) (A := X.A) (target := .Name x px) hh s1.heap.objs.size T (Nat.ne_of_lt tlt) its.toArray
    rw [len] at G
    refine ⟨_, _, _, SIt.ofGoes (G := s1.gens) G (fun z => (ne1 _ z).1 rfl) (fun z => (ne1 _ z).2 rfl) (fun b hb => hb) (fun i h b st hb v hc => ?_), fun s4 g4 _ _ => ⟨⟨?_, ?_⟩, g4.gens⟩, fun s4 s5 dn c5 => c5.gens.trans dn, ?_, fun us c s' gx dn rus hD' => ?_⟩
    · cases List.mem_singleton.mp hb
      obtain ⟨⟨o, ho, hc1, hd1⟩, _⟩ := st
      obtain ⟨o', ho', hd'⟩ := hc
      rw [ho] at ho'
      cases ho'
      rw [hd1] at hd'
      cases hd'
    · exact ⟨_, g4.keep _ _ (Heap.get?_push_size _ rfl), rfl, rfl⟩
    · obtain ⟨o, ho, r⟩ := ht'
      exact ⟨o, g4.keep _ _ (Heap.get?_push_of_some _ ho), r⟩
    · intro s3 H3 cl j y u H5 s5 hy hY I5 hsub
      rw [List.getElem?_map] at hy
      obtain ⟨b, hb, rfl⟩ := Option.map_eq_some_iff.mp hy
      obtain ⟨xv, hxv⟩ : ∃ xv, xs[j]? = some xv := ⟨xs[j]'(by rw [← hl]; exact (List.getElem?_eq_some_iff.mp hb).1), List.getElem?_eq_getElem (by rw [← hl]; exact (List.getElem?_eq_some_iff.mp hb).1)⟩
      obtain ⟨u', hu', ru⟩ := rt.get hxv
      have eu : u = u' := by
        have hY' : its[j]? = some u := by simpa using hY
        rw [hu'] at hY'
        exact (Option.some.inj hY').symm
      subst eu
      refine wpAny_assign_Name (store_L I5 hN hx (hxl C cl) ru fun s6 I6 c6 => ⟨_, I6, wipe_set (by simp), c6, ?_⟩)
      exact thg ((he s3 H3 C cl _).run [] s6 _ H5 _ _ I6 (hel j xv b H5 hxv hb hsub)) fun z s7 ⟨v, rv, ev, g⟩ => ⟨ev ▸ rv, g⟩
    · refine Calls.spliced_nil ?_
      refine all_list (w := X.w) hh hD' rus fun s'' g'' => ⟨.bl _, rfl, q, ?_⟩
      exact ⟨g''.os.trans gx.os, g''.gens.trans (dn.trans g1.gens), fun b o e => g''.keep b o (gx.keep b o e)⟩
end
end Bn
/-! B9: a for loop in a generator def. -/
namespace Bn
open PySem PySem.Spec PyProof.Rows L2 GenW
section
variable {prog : Program} {w : World} {A : Around} {R : GenEnd} {Y : Protocol} {n : Nat} {s₀ s : Shared} {c : Code} {fs : List Frame} {env : Env} {K : Flow → Sem PySem.Fin} {J : Value → Sem PySem.Fin} {gd : Bool → Bool} {lv : List Value → List Value}
/-- the frame behind a loop's code -/
def forRet (env : Env) (K : Flow → Sem PySem.Fin) (J : Value → Sem PySem.Fin) (gd : Bool → Bool) (lv : List Value → List Value) (c : Code) (p : Pos) : Frame :=
  .ret (fun r => ((match r with | .ok f => (.pure f : Sem Flow) | .error e => .raise e).onRaise (cameBack env)).wrap K J gd lv) none (gd false) (lv []) c p []
theorem seg_For {tg iter : Expr} {body : List Stmt} {pos : Pos} (hs : ∀ x, foldedSetIterable iter env x = pure x)
    (h : wpAny (model prog w) (A.over c fs) (eval iter env) (fun x s1 => wpAny (model prog w) (A.over c fs) (pyIter x) (fun it s2 => ∀ p, Seg (model prog w) A R Y n s₀ (.forLoop tg it body [] env) ((model prog w).den (.forLoop tg it body [] env)) (forRet env K J gd lv c p :: fs) s2) (fun _ _ => False) s1) (fun _ _ => False) s) :
    Seg (model prog w) A R Y n s₀ c ((exec (.For tg iter body [] pos) env).wrap K J gd lv) fs s := by
  rw [exec_For]
  refine seg_bind_wrap (wpAny_standAt ?_)
  refine seg_bind_wrap (wpAny_mono h (fun x s1 h1 => ?_) fun _ _ z => z.elim)
  refine seg_bind_wrap (wpAny_of_eq (hs x) ?_)
  refine seg_bind_wrap (wpAny_standAt ?_)
  refine seg_bind_wrap (wpAny_holding (wpAny_mono h1 (fun it s2 h2 => ?_) fun _ _ z => z.elim))
  exact seg_call h2
theorem seg_forLoop {tg : Expr} {it : Value} {body : List Stmt}
    (h : wpAny (model prog w) (A.over (.forLoop tg it body [] env) fs) (pyNext it) (fun r s1 => match r with
      | none => Seg (model prog w) A R Y n s₀ (.forLoop tg it body [] env) (.pure (.again (.block [] env))) fs s1
      | some v => wpAny (model prog w) (A.over (.forLoop tg it body [] env) fs) (letOwnedTupleGo tg it v) (fun _ s2 => wpAny (model prog w) (A.over (.forLoop tg it body [] env) fs) (assign tg env v) (fun _ s3 =>
          Seg (model prog w) A R Y n s₀ (.forLoop tg it body [] env) ((execs body env).wrap (fun f => match f with
            | .next | .cont => .pure (.again (.forLoop tg it body [] env))
            | .brk => .pure (.done .next)
            | .ret v => .pure (.done (.ret v))) (fun e => (do noteFrame e env; theTreesLotGoes e : Sem Unit).wrap (fun _ => .raise e) .raise id id) id id) fs s3) (fun _ _ => False) s2) (fun _ _ => False) s1) (fun _ _ => False) s) :
    Seg (model prog w) A R Y n s₀ (.forLoop tg it body [] env) ((model prog w).den (.forLoop tg it body [] env)) fs s := by
  show Seg _ A R Y n s₀ _ ((forTurn tg it body [] env).onRaise (fun x => do noteFrame x env; theTreesLotGoes x)) fs s
  unfold forTurn
  rw [Sem.onRaise_eq_wrap]
  refine seg_bind_wrap (wpAny_standAt ?_)
  refine seg_bind_wrap (wpAny_onRaise (wpAny_mono h (fun r s1 h1 => ?_) fun _ _ z => z.elim))
  match r, h1 with
  | none, h1 => exact h1
  | some v, h1 =>
    refine seg_bind_wrap (wpAny_mono h1 (fun _ s2 h2 => ?_) fun _ _ z => z.elim)
    refine seg_bind_wrap (wpAny_mono h2 (fun _ s3 h3 => ?_) fun _ _ z => z.elim)
    rw [Sem.bind_eq_wrap', Sem.wrap_wrap]
    rw [Sem.wrap_congr (execs body env) _ _ (K' := fun f => match f with
            | .next | .cont => .pure (.again (.forLoop tg it body [] env))
            | .brk => .pure (.done .next)
            | .ret v => .pure (.done (.ret v))) (H' := (fun e => (do noteFrame e env; theTreesLotGoes e : Sem Unit).wrap (fun _ => .raise e) .raise id id))
      (fun f => by cases f <;> rfl) (fun e => by show (do noteFrame e env; theTreesLotGoes e : Sem Unit).bind (fun _ => .raise e) = _; rw [Sem.bind_eq_wrap])]
    exact h3
/-- the loop has ended: back in the frame behind it -/
theorem seg_forEnd {tg : Expr} {it : Value} {body : List Stmt} {p : Pos} (h : Seg (model prog w) A R Y n s₀ c (K .next) fs s) :
    Seg (model prog w) A R Y n s₀ (.forLoop tg it body [] env) (.pure (.again (.block [] env))) (forRet env K J gd lv c p :: fs) s := by
  refine seg_again rfl ?_
  show Seg _ A R Y n s₀ _ (do return Fin.done (← (execs [] env).onRaise (fun x => do noteFrame x env; theTreesLotGoes x))) _ s
  exact seg_leaf (.ok .next) h
end
end Bn
/-! B10: the generator «for number, node in enumerate([self, *self.f]): yield (number, node)», turn by turn. -/
namespace Bn
open PySem PySem.Spec PyProof.Rows L2 GenW
abbrev sNum : Str := "number"
abbrev sNode : Str := "node"
abbrev sSelf : Str := "self"
/-- what stands fast for such a generator: h0 the heap at its call, a0 the object, its the items of its tuple -/
structure NG (P : Program) (w : World) (K : PySem.W.Frag) (mg : Str → Option Value) (base : Heap) (env : Env) (h0 : Heap) (H : Hp) (a0 : Addr) (f : Str) (inn : Addr) (its : List Value) : Prop where
  mod : Mod K mg base
  bs : ∀ b o, base.get? b = some o → h0.get? b = some o
  hok : HOk P w H h0
  ins : ∃ C dx fs, H a0 = some (.ins C dx fs) ∧ Cls K C ∧ NoAttr K C f ∧ fs.lookup f = some (.ref inn)
  tup : IsTup h0 inn its.toArray
  sz : its.length < sizeLine
  kind : env.scope.kind = .function
  co : env.scope.isCoroutine = false
  glob : env.globals = mainGlobals
  blt : env.builtins = builtinsNs
  kself : env.kindOf sSelf = some .local
  knum : env.kindOf sNum = some .local
  knode : env.kindOf sNode = some .local
  kenum : env.kindOf "enumerate" = some .globalImplicit
  menum : mg "enumerate" = none
def gItems (a0 : Addr) (its : List Value) : Array Value := (Value.ref a0 :: its).toArray
/-- the iterators, i items being out -/
structure EL (a0 : Addr) (its : List Value) (en li lst : Addr) (i : Nat) (h : Heap) : Prop where
  en : ∃ o, IsEnum h en li (i : Int) o
  li : h.IsListIter li lst i
  ls : h.IsList lst (gItems a0 its)
/-- they stand apart from the consumer's cells -/
structure AL (L M D C n0 en li lst : Nat) : Prop where
  e1 : en ≠ D ∧ en ≠ C ∧ M ≤ en ∧ en ≠ L ∧ n0 ≤ en
  e2 : li ≠ D ∧ li ≠ C ∧ M ≤ li ∧ li ≠ L ∧ n0 ≤ li
  e3 : lst ≠ D ∧ lst ≠ C ∧ lst ≠ L
  ne : en ≠ li ∧ lst ≠ en ∧ lst ≠ li
/-- the generator's cells, i items being out -/
structure GV (h0 : Heap) (L a0 : Addr) (its : List Value) (en li lst : Addr) (i : Nat) (h : Heap) : Prop where
  old : ∀ b o, h0.get? b = some o → h.get? b = some o
  ns : ∃ m, h.Ns L m ∧ m sSelf = some (.ref a0)
  it : 0 < i → EL a0 its en li lst i h
/-- the generator's own doings -/
structure GM (L M D C : Nat) (s s' : Shared) : Prop where
  os : s'.os = s.os
  gens : s'.gens = s.gens
  ch : ∃ wr : List Addr, (∀ b ∈ wr, b ≠ D ∧ b ≠ C ∧ (b = L ∨ M ≤ b) ∧ ∀ v, ¬ s.heap.IsCell b v) ∧ (∀ b o, b ∉ wr → s.heap.get? b = some o → s'.heap.get? b = some o)
/-- what a turn hands out -/
def GYv (a0 : Addr) (its : List Value) (i : Nat) (v : Value) (h : Heap) : Prop := ∃ T x t, v = .ref T ∧ (gItems a0 its)[i]? = some x ∧ h.get? T = some { cls := .type "tuple", data := .seq #[.int i t, x] }
def GYp (h0 : Heap) (L M D C a0 : Nat) (its : List Value) : Protocol := fun n s₀ v s kap => ∃ (i : Nat) (en li lst : Addr), i + n + 1 = its.length + 1 ∧ GYv a0 its i v s.heap ∧ GV h0 L a0 its en li lst (i + 1) s.heap ∧ AL L M D C h0.objs.size en li lst ∧ GM L M D C s₀ s ∧
  ∀ s'', GV h0 L a0 its en li lst (i + 1) s''.heap → kap (.send .none) s''
def GRe (L M D C : Nat) : GenEnd := fun n s₀ r s => ((r = .ok (.ret .none) ∨ r = .ok .next) ∧ n = 0 ∧ GM L M D C s₀ s) ∨ ∃ e, r = .error e ∧ False
theorem notCell_of {h : Heap} {b : Addr} {o : Obj} (e : h.get? b = some o) (n : ∀ v, o.data ≠ .cell v) : ∀ v, ¬ h.IsCell b v := fun v ⟨o', e', d⟩ => by
  rw [e] at e'
  cases e'
  exact n v d
theorem notCell_new {h : Heap} {b : Addr} (e : h.get? b = none) : ∀ v, ¬ h.IsCell b v := fun v ⟨o', e', d⟩ => by
  rw [e] at e'
  cases e'
theorem notCell_ns {h : Heap} {b : Addr} {m : Str → Option Value} (n : h.Ns b m) : ∀ v, ¬ h.IsCell b v := by
  obtain ⟨o, es, ep, e, d, _⟩ := n
  exact notCell_of e fun v q => by rw [d] at q; cases q
abbrev nTg (p1 p2 p3 : Pos) (k : Nat) : Expr := .Tuple [.Name sNum p1, .Name sNode p2] k p3
abbrev nBody (q1 q2 q3 q4 q5 : Pos) (k : Nat) : List Stmt := [.Expr (.Yield (some (.Tuple [.Name sNum q1, .Name sNode q2] k q3)) q4) q5]
/-- what has changed since the wake -/
structure Mk (L en li : Addr) (s₀ s : Shared) : Prop where
  os : s.os = s₀.os
  gens : s.gens = s₀.gens
  keep : ∀ b o, b ≠ L → b ≠ en → b ≠ li → s₀.heap.get? b = some o → s.heap.get? b = some o
  nc : ∀ b, b = L ∨ b = en ∨ b = li → ∀ v, ¬ s₀.heap.IsCell b v
theorem Mk.gm {L M D C n0 en li lst : Nat} {s₀ s : Shared} (m : Mk L en li s₀ s) (a : AL L M D C n0 en li lst) (hL : L ≠ D ∧ L ≠ C) : GM L M D C s₀ s := by
  refine ⟨m.os, m.gens, [L, en, li], fun b hb => ?_, fun b o hb e => ?_⟩
  · have hb : b = L ∨ b = en ∨ b = li := by simpa using hb
    refine ⟨?_, ?_, ?_, m.nc b hb⟩
    · rcases hb with rfl | rfl | rfl
      · exact hL.1
      · exact a.e1.1
      · exact a.e2.1
    · rcases hb with rfl | rfl | rfl
      · exact hL.2
      · exact a.e1.2.1
      · exact a.e2.2.1
    · rcases hb with rfl | rfl | rfl
      · exact .inl rfl
      · exact .inr a.e1.2.2.1
      · exact .inr a.e2.2.2.1
  · have hb : ¬ (b = L ∨ b = en ∨ b = li) := by simpa using hb
    exact m.keep b o (fun z => hb (.inl z)) (fun z => hb (.inr (.inl z))) (fun z => hb (.inr (.inr z))) e
section
variable {P : Program} {w : World} {K : PySem.W.Frag} {mg : Str → Option Value} {base : Heap} {env : Env} {h0 : Heap} {H : Hp} {a0 : Addr} {f : Str} {inn : Addr} {its : List Value} {A : Around} {M D C : Nat}
/-- the turns from i on -/
theorem gen_turns (G : NG P w K mg base env h0 H a0 f inn its) (hh : A.handled = none) (hL : env.locals ≠ D ∧ env.locals ≠ C) (hL0 : h0.objs.size ≤ env.locals) {p1 p2 p3 q1 q2 q3 q4 q5 : Pos} {k kk : Nat} {body : List Stmt} {K0 : Flow → Sem PySem.Fin} {J0 : Value → Sem PySem.Fin} {gd : Bool → Bool} {lv : List Value → List Value} {en li lst : Addr}
    (al : AL env.locals M D C h0.objs.size en li lst) (hgd : gd false = false) (hK0 : K0 .next = leafOf (.ok (.ret .none))) (p : Pos) :
    ∀ (r i : Nat) (s₀ s : Shared), i + r = its.length + 1 → GV h0 env.locals a0 its en li lst 0 s.heap → EL a0 its en li lst i s.heap → Mk env.locals en li s₀ s →
      Seg (model P w) A (GRe env.locals M D C) (GYp h0 env.locals M D C a0 its) r s₀ (.forLoop (nTg p1 p2 p3 k) (.ref en) (nBody q1 q2 q3 q4 q5 kk) [] env) ((model P w).den (.forLoop (nTg p1 p2 p3 k) (.ref en) (nBody q1 q2 q3 q4 q5 kk) [] env)) [forRet env K0 J0 gd lv (.func body env) p] s := by
  have ho : A.over (.forLoop (nTg p1 p2 p3 k) (.ref en) (nBody q1 q2 q3 q4 q5 kk) [] env) [forRet env K0 J0 gd lv (.func body env) p] = A.deeper env := (over_loop rfl rfl).trans over_func
  have hcls : (env.scope.kind == .class || (env.scope.kind == .module && env.locals != env.globals)) = false := by rw [G.kind]; rfl
  have hh' : (A.deeper env).handled = none := hh
  intro r
  induction r with
  | zero =>
    intro i s₀ s hi gv el mk
    refine seg_forLoop ?_
    rw [ho]
    obtain ⟨⟨o, he⟩, hli, hls⟩ := el
    have hx : (gItems a0 its)[i]? = none := by unfold gItems; simp; omega
    refine wpAny_pyNext_enum_end hh' he hli hls hx fun h1 sb => seg_forEnd ?_
    rw [hK0]
    refine seg_end (.ok (.ret .none)) (.inl ⟨.inl rfl, rfl, Mk.gm (s := { s with heap := h1 }) ⟨mk.os, mk.gens, fun b o n1 n2 n3 e => sb b o n3 (mk.keep b o n1 n2 n3 e), mk.nc⟩ al hL⟩)
  | succ r ih =>
    intro i s₀ s hi gv el mk
    refine seg_forLoop ?_
    rw [ho]
    obtain ⟨⟨o, he⟩, hli, hls⟩ := el
    obtain ⟨x, hx⟩ : ∃ x, (gItems a0 its)[i]? = some x := ⟨_, Array.getElem?_eq_getElem (by unfold gItems; simp; omega)⟩
    refine wpAny_pyNext_enum_item he hli hls hx al.ne.1 fun h1 hout li1 hT hsz hk1 => ?_
    refine wpAny_letOwnedTupleGo_enum (s := { s with heap := h1, toks := s.toks + 1 }) hout fun h2 he2 sb2 => ?_
    have enl : en < s.heap.objs.size := Heap.lt_size he
    have hT2 : h2.get? s.heap.objs.size = some { cls := .type "tuple", data := .seq #[.int i s.toks, x] } := (sb2.2 _ (Nat.ne_of_gt enl)).trans hT
    refine assign_Tuple_tuple (s := { s with heap := h2, toks := s.toks + 1 }) hh' (t := s.heap.objs.size) (items := #[.int i s.toks, x]) ⟨_, hT2, rfl, _, rfl⟩ rfl rfl fun h3 hx3 => ?_
    obtain ⟨m0, hns0, hself⟩ := gv.ns
    have Lne : env.locals ≠ en ∧ env.locals ≠ li := ⟨Ne.symm al.e1.2.2.2.1, Ne.symm al.e2.2.2.2.1⟩
    have kp3 : ∀ b o, b ≠ en → b ≠ li → s.heap.get? b = some o → h3.get? b = some o := fun b o n1 n2 e => by
      have e2 := (sb2.2 b n1).trans (hk1 b o n1 n2 e)
      exact hx3 b o (Nat.ne_of_lt (Heap.lt_size e2)) e2
    have ns3 : h3.Ns env.locals m0 := by
      obtain ⟨o', es, ep, e, r⟩ := hns0
      exact ⟨o', es, ep, kp3 _ _ Lne.1 Lne.2 e, r⟩
    refine assignInOrder_cons (wpAny_assign_Name (wpAny_storeName_local (s := { s with heap := h3, toks := s.toks + 1 }) G.knum ns3 (fun h4 ns4 sb4 => ?_) hcls))
    refine assignInOrder_cons (wpAny_assign_Name (wpAny_storeName_local (s := { s with heap := h4, toks := s.toks + 1 + 1 }) G.knode ns4 (fun h5 ns5 sb5 => ?_) hcls))
    refine assignInOrder_nil ?_
    have kp5 : ∀ b o, b ≠ env.locals → b ≠ en → b ≠ li → s.heap.get? b = some o → h5.get? b = some o := fun b o n0 n1 n2 e => (sb5.2 b n0).trans ((sb4.2 b n0).trans (kp3 b o n1 n2 e))
    have he5 : IsEnum h5 en li ((i + 1 : Nat) : Int) x := by
      have e1 : ((i + 1 : Nat) : Int) = (i : Int) + 1 := by omega
      rw [e1]
      exact (sb5.2 en (Ne.symm Lne.1)).trans ((sb4.2 en (Ne.symm Lne.1)).trans (hx3 en _ (Nat.ne_of_lt (Heap.lt_size he2)) he2))
    have li5 : h5.IsListIter li lst (i + 1) := li1.at fun o e => by
      have e2 := (sb2.2 li (Ne.symm al.ne.1)).trans e
      exact (sb5.2 li (Ne.symm Lne.2)).trans ((sb4.2 li (Ne.symm Lne.2)).trans (hx3 li _ (Nat.ne_of_lt (Heap.lt_size e2)) e2))
    have ls5 : h5.IsList lst (gItems a0 its) := hls.at fun o e => kp5 lst o al.e3.2.2 al.ne.2.1 al.ne.2.2 e
    have hm5 : (fun y => if y = sNode then some x else if y = sNum then some (Value.int (i : Int) s.toks) else m0 y) sSelf = some (.ref a0) := hself
    refine seg_execs_cons (seg_Expr_Yield (fs := [forRet env K0 J0 gd lv (.func body env) p]) rfl rfl (by show (gd false || false) = false; rw [hgd]; rfl) ?_ G.co ?_)
    · rw [ho]
      refine wpAny_Tuple_spliced ?_
      refine Calls.spliced_cons (wpAny_Name (wpAny_loadName_local (m := fun y => if y = sNode then some x else if y = sNum then some (Value.int (i : Int) s.toks) else m0 y) G.kind G.knum ns5 rfl ?_) rfl)
      refine Calls.spliced_cons (wpAny_Name (wpAny_loadName_local (m := fun y => if y = sNode then some x else if y = sNum then some (Value.int (i : Int) s.toks) else m0 y) G.kind G.knode ns5 rfl ?_) rfl)
      refine Calls.spliced_nil ⟨by show 2 ≤ sizeLine; decide, fun kap hkap => ?_⟩
      have pk : ∀ b o, h5.get? b = some o → (h5.push { cls := .type "tuple", data := .seq [Value.int (i : Int) s.toks, x].toArray }).get? b = some o := fun b o e => Heap.get?_push_of_some _ e
      refine ⟨i, en, li, lst, by omega, ⟨h5.objs.size, x, s.toks, rfl, hx, Heap.get?_push_size _ rfl⟩, ⟨fun b o e => ?_, ⟨_, ns5.keeps pk, hm5⟩, fun _ => ⟨⟨x, pk _ _ he5⟩, li5.at fun o e => pk _ _ e, ls5.at fun o e => pk _ _ e⟩⟩, al, ?_, fun s'' gv'' => hkap .none s'' ?_⟩
      · have lb : b < h0.objs.size := Heap.lt_size e
        exact pk b o (kp5 b o (Nat.ne_of_lt (Nat.lt_of_lt_of_le lb hL0)) (Nat.ne_of_lt (Nat.lt_of_lt_of_le lb al.e1.2.2.2.2)) (Nat.ne_of_lt (Nat.lt_of_lt_of_le lb al.e2.2.2.2.2)) (gv.old b o e))
      · exact Mk.gm ⟨mk.os, mk.gens, fun b o n1 n2 n3 e => pk b o (kp5 b o n1 n2 n3 (mk.keep b o n1 n2 n3 e)), mk.nc⟩ al hL
      · refine seg_execs_nil (seg_again rfl ?_)
        have el'' := gv''.it (Nat.succ_pos i)
        refine ih (i + 1) s'' s'' (by omega) ⟨gv''.old, gv''.ns, fun z => absurd z (Nat.lt_irrefl _)⟩ el'' ⟨rfl, rfl, fun b o _ _ _ e => e, fun b hb => ?_⟩
        rcases hb with rfl | rfl | rfl
        · obtain ⟨m, n, _⟩ := gv''.ns
          exact notCell_ns n
        · obtain ⟨o, e⟩ := el''.en
          exact notCell_of e fun v q => nomatch q
        · obtain ⟨o, e, _, d⟩ := el''.li
          exact notCell_of e fun v q => by rw [d] at q; cases q
    · show interactive env = false
      unfold interactive
      rw [G.kind]
      rfl
end
end Bn
/-! B11: such a generator from its call on, as an iterator; a quiet method's call. -/
namespace Bn
open PySem PySem.Spec PyProof.Rows L2 GenW
section
variable {P : Program} {w : World} {K : PySem.W.Frag} {mg : Str → Option Value} {base : Heap} {env : Env} {h0 : Heap} {H : Hp} {a0 : Addr} {f : Str} {inn : Addr} {its : List Value} {A : Around} {M D C : Nat}
abbrev nIter (f : Str) (r1 r2 r3 r4 r5 r6 r7 : Pos) : Expr := .Call (.Name "enumerate" r1) [.List [.Name sSelf r2, .Starred (.Attribute (.Name sSelf r3) f r4) r5] r6] [] r7
abbrev nFor (f : Str) (p1 p2 p3 q1 q2 q3 q4 q5 r1 r2 r3 r4 r5 r6 r7 u : Pos) (k kk : Nat) : Stmt := .For (nTg p1 p2 p3 k) (nIter f r1 r2 r3 r4 r5 r6 r7) (nBody q1 q2 q3 q4 q5 kk) [] u
/-- the first wake -/
theorem gen_start (G : NG P w K mg base env h0 H a0 f inn its) (hh : A.handled = none) (hL : env.locals ≠ D ∧ env.locals ≠ C) (hL0 : h0.objs.size ≤ env.locals) (hMD : M ≤ D)
    {p1 p2 p3 q1 q2 q3 q4 q5 r1 r2 r3 r4 r5 r6 r7 u : Pos} {k kk : Nat} {en li lst : Addr} (hbase : ∀ (x : Sem Value), attributeBase (.Name sSelf r3) f env x = x)
    (hst : starEach [.Starred (.Attribute (.Name sSelf r3) f r4) r5] env = (true, eval (.Attribute (.Name sSelf r3) f r4) env) :: starEach [] env)
    {s : Shared} (hD : ∃ o, s.heap.get? D = some o) (hC : ∃ o, s.heap.get? C = some o) (gv : GV h0 env.locals a0 its en li lst 0 s.heap) :
    Seg (model P w) A (GRe env.locals M D C) (GYp h0 env.locals M D C a0 its) (its.length + 1) s (.func [nFor f p1 p2 p3 q1 q2 q3 q4 q5 r1 r2 r3 r4 r5 r6 r7 u k kk] env) ((model P w).den (.func [nFor f p1 p2 p3 q1 q2 q3 q4 q5 r1 r2 r3 r4 r5 r6 r7 u k kk] env)) [] s := by
  have hh' : (A.deeper env).handled = none := hh
  have bk : ∀ b o, base.get? b = some o → s.heap.get? b = some o := fun b o e => gv.old b o (G.bs b o e)
  have kin : K.In s.heap := G.mod.kin.keeps bk
  have hok : HOk P w H s.heap := G.hok.kept gv.old
  obtain ⟨m0, ns0, hself⟩ := gv.ns
  refine seg_func (seg_execs_cons (seg_For (fun _ => rfl) ?_))
  rw [over_func]
  obtain ⟨mb, hb1, hb2⟩ := G.mod.blt
  refine Call_ (Calls.Name_function_global G.kind G.kenum (Calls.loadGlobal_builtin (by rw [G.glob]; exact G.mod.glob.keeps bk) G.menum (by rw [G.blt]; exact hb1.keeps bk) ((hb2 _ (by decide)).trans boot_enumerate) (PyProof.Rows.callWith_type1 ?_ rfl rfl)))
  refine Calls.spliced_cons (wpAny_List_spliced (Calls.spliced_cons (wpAny_Name (wpAny_loadName_local G.kind G.kself ns0 hself ?_) rfl)))
  refine PySem.W.items_star (attr_of (hbase _) (wpAny_Name (wpAny_loadName_local G.kind G.kself ns0 hself ?_) rfl)) hst
  obtain ⟨Cc, dx, fs, ea, hc, hn, hl⟩ := G.ins
  obtain ⟨mA, O, r, _, _, _⟩ := ins_get hok ea
  obtain ⟨z, hz, rz⟩ := RelO.some_of (v := .ref inn) (o := mA f) (by rw [← hl]; exact r f)
  cases rz
  refine get_map kin O (hc.get f) hc.hd hn hz (handed_of (v := .ref inn) rfl) ?_
  obtain ⟨ot, hot, hoc, nt, hod⟩ := G.tup
  have hT : ({ s with toks := s.toks + 1 } : Shared).TypeIs (.ref inn) "tuple" := ⟨ot, gv.old _ _ hot, hoc⟩
  unfold PySem.W.StarOf notIterableAtAll
  refine wpAny_bind (wpAny_specialOf hT PySem.F.slot_tuple_iter.lookup (wpAny_pure ⟨rfl, ?_⟩))
  refine wpAny_collect_seq inn (.inr rfl) (gv.old _ _ hot) hoc hod (fun h1 k1 => ?_) (by rw [List.size_toArray]; exact Nat.le_of_lt G.sz)
  refine Calls.spliced_nil ⟨?_, ?_⟩
  · show (its.toArray.toList ++ []).length + 1 ≤ sizeLine
    have := G.sz
    simp
    omega
  have hit : (Value.ref a0 :: (its.toArray.toList ++ [])).toArray = gItems a0 its := by simp [gItems]
  rw [hit]
  have k1 : ∀ b o, s.heap.get? b = some o → h1.get? b = some o := k1
  have k2 : ∀ b o, s.heap.get? b = some o → (h1.push { cls := .type "list", data := .seq (gItems a0 its) }).get? b = some o := fun b o e => Heap.get?_push_of_some _ (k1 b o e)
  have l2 : (h1.push { cls := .type "list", data := .seq (gItems a0 its) }).IsList h1.objs.size (gItems a0 its) := ⟨_, Heap.get?_push_size _ rfl, rfl, _, rfl⟩
  have old1 : ∀ (b : Nat) (o : Obj), s.heap.get? b = some o → @LT.lt Nat _ b h1.objs.size := fun b o e => Heap.lt_size (k1 b o e)
  refine Calls.spliced_nil (call_enumerate_list (s := { s with heap := h1.push { cls := .type "list", data := .seq (gItems a0 its) }, toks := s.toks + 1 }) l2 fun h3 he hli hsz k3 => wpAny_pyIter_enum he fun p => ?_)
  rw [show ({ s with heap := h1.push { cls := .type "list", data := .seq (gItems a0 its) }, toks := s.toks + 1 } : Shared).heap.objs.size = h1.objs.size + 1 from Heap.size_push _ _] at he hli ⊢
  obtain ⟨oD, eD⟩ := hD
  obtain ⟨oC, eC⟩ := hC
  obtain ⟨oL, _, _, eL, _⟩ := id ns0
  have dl : @LT.lt Nat _ D h1.objs.size := old1 _ _ eD
  have cl : @LT.lt Nat _ C h1.objs.size := old1 _ _ eC
  have ll : @LT.lt Nat _ env.locals h1.objs.size := old1 _ _ eL
  have hL0' : @LE.le Nat _ h0.objs.size env.locals := hL0
  have al : AL env.locals M D C h0.objs.size (h1.objs.size + 1 + 1) (h1.objs.size + 1) h1.objs.size :=
    ⟨⟨by omega, by omega, by omega, by omega, by omega⟩, ⟨by omega, by omega, by omega, by omega, by omega⟩, ⟨by omega, by omega, by omega⟩, ⟨by omega, by omega, by omega⟩⟩
  have k4 : ∀ b o, s.heap.get? b = some o → h3.get? b = some o := fun b o e => k3 b o (k2 b o e)
  refine gen_turns G hh hL hL0 al rfl rfl p (its.length + 1) 0 s _ (Nat.zero_add _) ⟨fun b o e => k4 b o (gv.old b o e), ⟨m0, ns0.keeps k4, hself⟩, fun z => absurd z (Nat.lt_irrefl _)⟩ ⟨⟨_, he⟩, hli, l2.at fun o e => k3 _ o e⟩ ⟨rfl, rfl, fun b o _ _ _ e => k4 b o e, fun b hb => ?_⟩
  rcases hb with rfl | rfl | rfl
  · exact notCell_ns ns0
  · refine notCell_new ?_
    cases e : s.heap.get? (h1.objs.size + 1 + 1) with
    | none => rfl
    | some o => exact absurd (old1 _ _ e) (by omega)
  · refine notCell_new ?_
    cases e : s.heap.get? (h1.objs.size + 1) with
    | none => rfl
    | some o => exact absurd (old1 _ _ e) (by omega)
end
end Bn
/-! B12: the generator as an iterator of a comprehension; a quiet method's call. -/
namespace Bn
open PySem PySem.Spec PyProof.Rows L2 GenW
/-- where the generator at a (its state at g) stands, i items being out; D, C: the consumer's cells -/
structure GSt (P : Program) (w : World) (A : Around) (h0 : Heap) (L a0 : Addr) (its : List Value) (M D C : Nat) (a : Addr) (g : Nat) (i : Nat) (s : Shared) : Prop where
  gen : s.heap.IsGen a g
  st : ∃ (en li lst : Addr) (gs : GenState), s.gens[g]? = some gs ∧ GV h0 L a0 its en li lst i s.heap ∧ (0 < i → AL L M D C h0.objs.size en li lst) ∧
    ∀ s'', (∃ o, s''.heap.get? D = some o) → (∃ o, s''.heap.get? C = some o) → GV h0 L a0 its en li lst i s''.heap →
      gs.Goes (model P w) A.in1 (GRe L M D C) (GYp h0 L M D C a0 its) (its.length + 1 - i) (.send .none) s''
section
variable {P : Program} {w : World} {K : PySem.W.Frag} {mg : Str → Option Value} {base : Heap} {env : Env} {h0 : Heap} {H : Hp} {a0 : Addr} {f : Str} {inn : Addr} {its : List Value} {A : Around} {M D C : Nat} {a g : Nat}
theorem GV.keep {L : Addr} {en li lst : Addr} {i : Nat} {h h' : Heap} (v : GV h0 L a0 its en li lst i h) (al : 0 < i → AL L M D C h0.objs.size en li lst) (hM : h0.objs.size ≤ M) (hMD : M ≤ D) (hDC : D < C) (hL : L ≠ D ∧ L ≠ C)
    (k : ∀ b o, b ≠ D → b ≠ C → h.get? b = some o → h'.get? b = some o) : GV h0 L a0 its en li lst i h' where
  old := fun b o e => by
    have l : @LT.lt Nat _ b h0.objs.size := Heap.lt_size e
    exact k b o (by show ¬ (@Eq Nat b D); omega) (by show ¬ (@Eq Nat b C); omega) (v.old b o e)
  ns := by
    obtain ⟨m, ⟨o, es, ep, e, r⟩, q⟩ := v.ns
    exact ⟨m, ⟨o, es, ep, k _ _ hL.1 hL.2 e, r⟩, q⟩
  it := fun hi => by
    obtain ⟨⟨o, e⟩, li', ls⟩ := v.it hi
    obtain ⟨e1, e2, e3, _⟩ := al hi
    exact ⟨⟨o, k _ _ e1.1 e1.2.1 e⟩, li'.at fun o q => k _ _ e2.1 e2.2.1 q, ls.at fun o q => k _ _ e3.1 e3.2.1 q⟩
theorem gen_it (G : NG P w K mg base env h0 H a0 f inn its) (hh : A.handled = none) (hroom : A.depth < recursionLimit) (hL : env.locals ≠ D ∧ env.locals ≠ C) (haD : a ≠ D ∧ a ≠ C) (haL : a ≠ env.locals) (haM : a < M) (hM : h0.objs.size ≤ M) (hMD : M ≤ D) (hDC : D < C) {tg : Expr} :
    SIt P w A tg a [env.locals] M D C (its.length + 1) (GYv a0 its) (GSt P w A h0 env.locals a0 its M D C a g) (fun _ => True) where
  keep := fun i s s' st hg _ k => by
    obtain ⟨⟨o, nm, qn, ho, r⟩, en, li, lst, gs, h1, h2, h3, h4⟩ := st
    exact ⟨⟨o, nm, qn, k a o haD.1 haD.2 ho, r⟩, en, li, lst, gs, by rw [hg]; exact h1, h2.keep h3 hM hMD hDC hL k, h3, h4⟩
  self := fun s Q E st h => wpAny_pyIter_gen st.gen h
  item := fun i s E hi st hD hC => by
    obtain ⟨hgen, en, li, lst, gs, h1, h2, h3, h4⟩ := st
    have lim : s.heap.NoLimit := (G.mod.nolimit.keeps G.bs).keeps h2.old
    obtain ⟨m, hm⟩ : ∃ m, its.length + 1 - i = m + 1 := ⟨its.length - i, by omega⟩
    have go := h4 (s.setGen g .running) hD hC h2
    rw [hm] at go
    refine next_genG (n := m + 1) (F := fun n s₀ s₁ => n = 0 ∧ GM env.locals M D C s₀ s₁) (Er := fun _ _ => False) (Y := GYp h0 env.locals M D C a0 its) hh lim hroom hgen h1 go (fun v s₁ gs' hb hv => ?_) (fun s₁ hp => absurd hp.1 (Nat.succ_ne_zero m)) fun e s₁ he => he.elim
    obtain ⟨i', en', li', lst', e1, y1, v1, a1, gm, hk⟩ := hv
    have ei : i' = i := by have : m + 1 - 1 = m := rfl; omega
    subst ei
    have hgl : g < s.gens.size := (Array.getElem?_eq_some_iff.mp h1).1
    obtain ⟨gos, ggens, wr, hwr, hkeep⟩ := gm
    have naw : a ∉ wr := fun z => by
      rcases (hwr a z).2.2.1 with q | q
      · exact haL q
      · exact absurd (Nat.lt_of_lt_of_le haM q) (Nat.lt_irrefl _)
    obtain ⟨o, nm, qn, ho, hc, hd, hsl⟩ := hgen
    have ho1 : s₁.heap.get? a = some o := hkeep a o naw ho
    refine ⟨v, rfl, go_of (s := s₁.setGen g gs') (o := o) (n := "generator") ho1 hc hd rfl ⟨⟨⟨o, nm, qn, ho1, hc, hd, hsl⟩, en', li', lst', gs', ?_, v1, fun _ => a1, fun s'' _ _ gv'' => ?_⟩, y1, ?_, fun hb0 => ?_, wr, fun b hb' => ?_, fun b o' hb' e => hkeep b o' hb' e⟩⟩
    · refine setGen_at ?_
      rw [ggens]
      show g < (s.setGen g .running).gens.size
      rw [setGen_size]
      exact hgl
    · have e2 : its.length + 1 - (i' + 1) = m := by omega
      rw [e2]
      exact hk s'' gv''
    · exact gos
    · refine allBare_setGen ?_ hb
      rw [ggens]
      exact allBare_setGen hb0 rfl
    · obtain ⟨z1, z2, z3, z4⟩ := hwr b hb'
      exact ⟨z1, z2, z3.imp (fun q => by simp [q]) id, z4⟩
  done := fun s E st hD hC => by
    obtain ⟨hgen, en, li, lst, gs, h1, h2, h3, h4⟩ := st
    have lim : s.heap.NoLimit := (G.mod.nolimit.keeps G.bs).keeps h2.old
    have go := h4 (s.setGen g .running) hD hC h2
    rw [Nat.sub_self] at go
    refine next_genG (n := 0) (F := fun n s₀ s₁ => n = 0 ∧ GM env.locals M D C s₀ s₁) (Er := fun _ _ => False) (Y := GYp h0 env.locals M D C a0 its) hh lim hroom hgen h1 go (fun v s₁ gs' hb hv => ?_) (fun s₁ hp h' hk => ?_) fun e s₁ he => he.elim
    · obtain ⟨i', en', li', lst', e1, y1, v1, a1, gm, hk⟩ := hv
      exact (hk s₁ v1).elim
    · obtain ⟨_, gos, ggens, wr, hwr, hkeep⟩ := hp
      refine ⟨rfl, trivial, gos, fun hb0 => ?_, wr, fun b hb' => ?_, fun b o' hb' e => hk b o' (hkeep b o' hb' e)⟩
      · refine allBare_setGen (s := s₁) ?_ rfl
        rw [ggens]
        exact allBare_setGen hb0 rfl
      · obtain ⟨z1, z2, z3, z4⟩ := hwr b hb'
        exact ⟨z1, z2, z3.imp (fun q => by simp [q]) id, z4⟩
end
/-! ### a quiet method's call -/
/-- the class at C has m as a def that keeps the quiet promise q -/
def QMet (P : Program) (w : World) (K : PySem.W.Frag) (mg : Str → Option Value) (base : Heap) (k : Nat) (C : Addr) (m : Str) (q : List V → Hp → V → Prop) : Prop := ∃ f, Cls K C ∧ Meth K C m f ∧ Quiet P w K mg base k f q
section
variable {X : Cx} {k : Nat} {o e1 e2 : Expr} {m : Str} {apos pos : Pos} {pl : Sem Bool} {t t1 t2 : L2.St → Hp → (V → Prop) → Prop}
def gMet (W : Addr → Str → (List V → Hp → V → Prop) → Prop) (m : Str) (t t1 t2 : L2.St → Hp → (V → Prop) → Prop) : L2.St → Hp → (V → Prop) → Prop := fun σ H Q => t σ H fun x => ∃ (a C dx : Addr) (fs : List (Str × V)) (q : List V → Hp → V → Prop), x = .ref a ∧ H a = some (.ins C dx fs) ∧ fs.lookup m = none ∧ W C m q ∧
  t1 σ H fun y => t2 σ H fun z => ∃ v, q [x, y, z] H v ∧ Q v
theorem pg_met (hr : Rm k X.A) (he : PEg X o t) (h1 : PEg X e1 t1) (h2 : PEg X e2 t2)
    (hst : starEach [e1, e2] X.env = (false, eval e1 X.env) :: starEach [e2] X.env := by rfl) (hst2 : starEach [e2] X.env = [(false, eval e2 X.env)] := by rfl)
    (ht : eval (.Call (.Attribute o m apos) [e1, e2] [] pos) X.env = (eval o X.env >>= fun ov => standAt apos.atName >>= fun _ =>
      holding [ov] (getMethod ov m pl) >>= fun fr => callWith pos fr.1 fr.2 (backTo pos (starEach [e1, e2] X.env)) (backToKw pos (keywordEach [] X.env))) := by rfl) :
    PEg X (.Call (.Attribute o m apos) [e1, e2] [] pos) (gMet (QMet X.prog X.w X.K X.mg X.base k) m t t1 t2) := by
  refine ⟨fun pins s σ H Q E I h => ?_⟩
  refine PySem.W.methodCall_KW (pl := pl) (thg (he.run pins s σ H _ E I h) ?_) ht
  rintro u s1 ⟨x, rx, ⟨a, C, dx, fs, q, rfl, ea, l, ⟨g, c, hm, F⟩, h⟩, g1⟩
  cases rx
  have I1 := g1.inv I
  refine getmeth_ok I1 ea c hm l (PySem.W.callWith_K (first := [.ref a]) (h₀ := X.base) I.ok.mod.kin hm.kp ?_ hst (by rw [hst2]; rfl))
  rw [hst]
  refine Calls.spliced_cons (thg (h1.run pins s1 σ H _ E I1 h) ?_)
  rintro u1 s2 ⟨y, ry, h, g2⟩
  rw [hst2]
  refine Calls.spliced_cons (thg (h2.run pins s2 σ H _ E (g2.inv I1) h) ?_)
  rintro u2 s3 ⟨z, rz, ⟨v, hq, hQ⟩, g3⟩
  have I3 := g3.inv (g2.inv I1)
  refine Calls.spliced_nil ⟨I3.kIn, wpAny_call (codeAny_mono (F X.A X.stack s3 H [.ref a, u1, u2] [.ref a, y, z] v hr I3.env0 (.cons rfl (.cons ry (.cons rz .nil))) hq) ?_)⟩
  rintro r s4 ⟨u, rfl, ru, g4⟩
  exact ⟨v, ru, hQ, g1.trans (g2.trans (g3.trans g4))⟩
end
end Bn
/-! B13: def fits: return all([node.fits_itself(a, b) for number, node in self.nodes()]), nodes such a generator. -/
namespace Bn
open PySem PySem.Spec PyProof.Rows L2 GenW
abbrev sAll : Str := "all"
abbrev sEnum : Str := "enumerate"
abbrev sNodes : Str := "nodes"
abbrev sFi : Str := "fits_itself"
abbrev sInner : Str := "own_inner"
abbrev sMod : Str := "modulus"
abbrev sCols : Str := "columns"
/-- what of the text such a def has -/
structure FitsT (mg : Str → Option Value) (N : List Str) (scope lscope gscope : Scope) : Prop where
  sc : FnScope N [sSelf, sMod, sCols] scope
  gs : GScope [sSelf, sNum, sNode] [sSelf] gscope
  n0 : N[0]? = some sSelf
  n1 : N[1]? = some sMod
  n2 : N[2]? = some sCols
  n3 : N[3]? = some sNum
  n4 : N[4]? = some sNode
  v0 : Vis scope sSelf
  all_ : scope.names.lookup sAll = some .globalImplicit
  mall : mg sAll = none
  menum : mg sEnum = none
  blk : BlkOk N scope lscope [(sNum, 3), (sNode, 4)]
  nocell : ∀ y ∈ lscope.names, y.2 ≠ .cell
  l3 : ∀ (C : Addr) (cl : List (Str × Addr)) (env : Env), env.scope = scope → (compEnvC lscope cl C env).scope.names.lookup sNum = some .local
  l4 : ∀ (C : Addr) (cl : List (Str × Addr)) (env : Env), env.scope = scope → (compEnvC lscope cl C env).scope.names.lookup sNode = some .local
  va : ∀ (C : Addr) (cl : List (Str × Addr)) (env : Env), env.scope = scope → Vis (compEnvC lscope cl C env).scope sMod
  vb : ∀ (C : Addr) (cl : List (Str × Addr)) (env : Env), env.scope = scope → Vis (compEnvC lscope cl C env).scope sCols
  gself : gscope.names.lookup sSelf = some .local
  gnum : gscope.names.lookup sNum = some .local
  gnode : gscope.names.lookup sNode = some .local
  genum : gscope.names.lookup sEnum = some .globalImplicit
/-- the promise of fits -/
def fitsP (W : Addr → Str → (List V → Hp → V → Prop) → Prop) (G : Addr → Prop) : Pr := fun vs H Q => ∃ (a0 C dx : Addr) (fs : List (Str × V)) (y z : V) (inn : Addr) (xs : List V) (bs : List Bool), vs = [.ref a0, y, z] ∧ H a0 = some (.ins C dx fs) ∧ fs.lookup sNodes = none ∧ G C ∧
  fs.lookup sInner = some (.ref inn) ∧ H inn = some (.tup xs) ∧ xs.length + 1 < sizeLine ∧ bs.length = xs.length + 1 ∧
  (∀ (i : Nat) (b : Bool) (v : V), (V.ref a0 :: xs)[i]? = some v → bs[i]? = some b → ∃ (a C dx : Addr) (fs : List (Str × V)) (q : List V → Hp → V → Prop), v = .ref a ∧ H a = some (.ins C dx fs) ∧ fs.lookup sFi = none ∧ W C sFi q ∧ ∀ H', (∀ a o, H a = some o → H' a = some o) → q [v, y, z] H' (.bl b)) ∧
  Q (.bl (bs.all id)) H
section
variable {P : Program} {w : World} {K : PySem.W.Frag} {mg : Str → Option Value} {base : Heap} {k : Nat} {fa fg : Addr} {fd gfd : FuncData} {name qual gname gqual : Str} {params gparams : Arguments} {scope lscope gscope : Scope} {N : List Str}
  {p1 p2 p3 q1 q2 q3 q4 q5 r1 r2 r3 r4 r5 r6 r7 u1 : Pos} {kk kl : Nat} {a1 b1 b2 b3 b4 b5 c1 c2 c4 d1 d2 d3 e1 e2 rp : Pos} {c3 : Nat}
abbrev fitsBody (lscope : Scope) (a1 b1 b2 b3 b4 b5 c1 c2 c4 d1 d2 d3 e1 e2 rp : Pos) (c3 : Nat) : List Stmt :=
  [.Return (some (.Call (.Name sAll a1) [.ListComp (.Call (.Attribute (.Name sNode b1) sFi b2) [.Name sMod b3, .Name sCols b4] [] b5) [⟨.Tuple [.Name sNum c1, .Name sNode c2] c3 c4, .Call (.Attribute (.Name sSelf d1) sNodes d2) [] [] d3, [], 0⟩] lscope e1] [] e2)) rp]
/-- the expression -/
theorem fits_eval {pl1 pl2 : Env → Sem Bool} {X : Cx} (T : FitsT X.mg X.N X.env.scope lscope gscope) (hcalm : X.calm = true) (hr : Rm (k + 1) X.A)
    (Fg : FunD X.K gname gqual gparams [nFor sInner p1 p2 p3 q1 q2 q3 q4 q5 r1 r2 r3 r4 r5 r6 r7 u1 kk kl] gscope [] [] fg gfd)
    (bindg : ∀ (kV doc pm : Value) (an : Option Addr) (cdv ct : Value) (us : List Value), us.length = [sSelf].length → bindArgs (PySem.W.fnOf gname gqual gparams [nFor sInner p1 p2 p3 q1 q2 q3 q4 q5 r1 r2 r3 r4 r5 r6 r7 u1 kk kl] gscope .none kV doc pm an cdv ct) ⟨us, []⟩ = pure ([sSelf].zip us))
    (hm1 : ∀ env, eval (.Call (.Attribute (.Name sSelf d1) sNodes d2) [] [] d3) env = (eval (.Name sSelf d1) env >>= fun ov => standAt d2.atName >>= fun _ =>
      holding [ov] (getMethod ov sNodes (pl1 env)) >>= fun fr => callWith d3 fr.1 fr.2 (backTo d3 (starEach [] env)) (backToKw d3 (keywordEach [] env))))
    (hm2 : ∀ env, eval (.Call (.Attribute (.Name sNode b1) sFi b2) [.Name sMod b3, .Name sCols b4] [] b5) env = (eval (.Name sNode b1) env >>= fun ov => standAt b2.atName >>= fun _ =>
      holding [ov] (getMethod ov sFi (pl2 env)) >>= fun fr => callWith b5 fr.1 fr.2 (backTo b5 (starEach [.Name sMod b3, .Name sCols b4] env)) (backToKw b5 (keywordEach [] env))))
    (hbase : ∀ env (x : Sem Value), attributeBase (.Name sSelf r3) sInner env x = x)
    (hstar : ∀ env, starEach [.Starred (.Attribute (.Name sSelf r3) sInner r4) r5] env = (true, eval (.Attribute (.Name sSelf r3) sInner r4) env) :: starEach [] env)
    {pins : List (Addr × Obj)} {s : Shared} {H : Hp} {σ : L2.St} {a0 C dx inn : Addr} {fs : List (Str × V)} {y z : V} {xs : List V} {bs : List Bool} {E : Value → Shared → Prop} (I : Inv X pins σ H s) (hσ0 : σ[0]? = some (some (.ref a0))) (hσ1 : σ[1]? = some (some y)) (hσ2 : σ[2]? = some (some z)) (hlen : 4 < σ.length)
    (ea : H a0 = some (.ins C dx fs)) (lnod : fs.lookup sNodes = none) (hC : Cls X.K C) (hno : NoAttr X.K C sInner) (hme : Meth X.K C sNodes fg) (lin : fs.lookup sInner = some (.ref inn)) (einn : H inn = some (.tup xs)) (hsz : xs.length + 1 < sizeLine) (hbs : bs.length = xs.length + 1)
    (hel : ∀ (i : Nat) (b : Bool) (v : V), (V.ref a0 :: xs)[i]? = some v → bs[i]? = some b → ∃ (a C dx : Addr) (fs : List (Str × V)) (q : List V → Hp → V → Prop), v = .ref a ∧ H a = some (.ins C dx fs) ∧ fs.lookup sFi = none ∧ QMet X.prog X.w X.K X.mg X.base k C sFi q ∧ ∀ H', (∀ a o, H a = some o → H' a = some o) → q [v, y, z] H' (.bl b)) :
    wpAny (model X.prog X.w) X.A (eval (.Call (.Name sAll a1) [.ListComp (.Call (.Attribute (.Name sNode b1) sFi b2) [.Name sMod b3, .Name sCols b4] [] b5) [⟨.Tuple [.Name sNum c1, .Name sNode c2] c3 c4, .Call (.Attribute (.Name sSelf d1) sNodes d2) [] [] d3, [], 0⟩] lscope e1] [] e2) X.env)
      (fun u s' => u = .bool (bs.all id) ∧ Gx s s') E s := by
  have hh := I.ok.hd hcalm
  refine wpAny_Call_Name_kw (ld_blt (u := .builtin "all") I T.all_ T.mall (by decide +kernel) (PyProof.Rows.callWith_builtin1 ?_ rfl rfl))
  refine Calls.spliced_cons ?_
  rw [eval_ListComp]
  refine lcg_core T.sc.nd I T.blk T.nocell (fun _ => rfl) ?_
  refine PySem.W.methodCall_KW (pl := pl1 X.env) (thg ((pg_var 0 T.n0 T.v0).run pins s σ H (fun v => v = .ref a0) E I ⟨_, hσ0, rfl⟩) ?_) (hm1 X.env)
  rintro u s1 ⟨v, rv, rfl, g1⟩
  cases rv
  have I1 := g1.inv I
  refine getmeth_ok I1 ea hC hme lnod (PySem.W.callWith_K0 (first := [.ref a0]) I1.kIn hme.kp (wpAny_call ?_))
  have hb := Fg.bindsN bindg
  obtain ⟨oc, od, dV, kV, doc, pm, an, cdv, ct, osl, rfl, lk, hcd, _, _⟩ := Fg.ex
  have kin : X.K.In s1.heap := I1.kIn
  have hbs' := hb s1 [.ref a0] kin rfl
  rw [List.append_nil] at hbs'
  have hpar : ∀ y ∈ [sSelf].zip [Value.ref a0], gscope.names.lookup y.1 = some .local ∨ (gscope.names.lookup y.1 = some .cell ∧ ((cellsFrom (s1.heap.objs.size + 1) gscope.names []).lookup y.1).isSome = true) := by
    rintro ⟨n, v⟩ hy
    cases List.mem_singleton.mp hy
    exact .inl T.gself
  have hdep : X.A.depth < recursionLimit := hr.r.depth
  refine codeAny_call_generator hdep (kin _ _ lk) rfl T.gs.co T.gs.gen rfl (PySem.W.codeRec_of kin hcd) (hbs' _ _ _ _ ?_)
  refine wpAny_newFunctionEnv_cells T.gs.kind hpar fun env he s2 inc => ?_
  have lim2 : s2.heap.NoLimit := I1.nolimit.keeps inc.toInCall.keep
  refine ⟨lim2, ?_⟩
  obtain ⟨h2, t2, e2', k2⟩ := inc.done
  have eL : env.locals = s1.heap.objs.size := by rw [he]; rfl
  have hins := I1.hok _ _ einn
  obtain ⟨_, its, rt, ht⟩ := hins
  have lt := rt.length
  have G : NG X.prog X.w X.K X.mg X.base env s1.heap H a0 sInner inn its :=
    ⟨I1.ok.mod, I1.bk, I1.hok, ⟨C, dx, fs, ea, hC, hno, lin⟩, ht, by omega, by rw [he]; exact T.gs.kind, by rw [he]; exact T.gs.co, by rw [he]; rfl, by rw [he]; rfl, by rw [he]; exact T.gself, by rw [he]; exact T.gnum, by rw [he]; exact T.gnode, by rw [he]; exact T.genum, T.menum⟩
  have ns2 := inc.toInCall.ns
  have lL : @LT.lt Nat _ env.locals s2.heap.objs.size := ns2.lt
  have main : ∀ (go : Obj) (nm qn : Value) (tk : Nat), go.cls = .type "generator" → go.data = .fields #[.int s2.gens.size 0, nm, qn] → go.slots = #[] → (∀ h : Heap, (h.push go).get? h.objs.size = some go) →
      wpAny (model X.prog X.w) X.A (pyIter (.ref s2.heap.objs.size)) (fun itv s2' => ∃ (it : Addr) (fp : List Addr) (ys : List V), itv = .ref it ∧ Gx s s2' ∧ (∀ b ∈ fp, b < s2'.heap.objs.size ∧ s.heap.get? b = none ∧ FpOk X pins H b) ∧ ys.length ≤ sizeLine ∧
      ∀ D C, s2'.heap.objs.size ≤ D → D < C → ∃ (Y : Nat → Value → Heap → Prop) (St : Nat → Shared → Prop) (Dn : Shared → Prop), SIt X.prog X.w X.A (.Tuple [.Name sNum c1, .Name sNode c2] c3 c4) it fp s2'.heap.objs.size D C ys.length Y St Dn ∧ (∀ s4, Gr s2' s4 → (∃ o, s4.heap.get? D = some o) → (∃ o, s4.heap.get? C = some o) → St 0 s4) ∧ (∀ s4 s5, Dn s4 → ChL C s4 s5 → Dn s5) ∧
        (∀ (s3 : Shared) (H3 : Hp) (cl : List (Str × Addr)) (i : Nat) (y : V) (u : Value) (H5 : Hp) (s5 : Shared), ys[i]? = some y → Y i u s5.heap → Inv (X.blk s3 H3 lscope (compEnvC lscope cl C X.env) fp) [] (wipe σ ([(sNum, 3), (sNode, 4)].map (·.2))) H5 s5 → (∀ a o, H a = some o → H5 a = some o) →
          wpAny (model X.prog X.w) X.A (assign (.Tuple [.Name sNum c1, .Name sNode c2] c3 c4) (compEnvC lscope cl C X.env) u) (fun _ s6 => ∃ σ6, Inv (X.blk s3 H3 lscope (compEnvC lscope cl C X.env) fp) [] σ6 H5 s6 ∧ wipe σ6 ([(sNum, 3), (sNode, 4)].map (·.2)) = wipe σ ([(sNum, 3), (sNode, 4)].map (·.2)) ∧ ChL C s5 s6 ∧
            wpAny (model X.prog X.w) X.A (eval (.Call (.Attribute (.Name sNode b1) sFi b2) [.Name sMod b3, .Name sCols b4] [] b5) (compEnvC lscope cl C X.env)) (fun z s7 => RelV y z ∧ Gr s6 s7) (fun _ _ => False) s6) (fun _ _ => False) s5) ∧
        (∀ (us : List Value) (c : Nat) (s' : Shared), Gx s s' → Dn s' → Vals ys us → s'.heap.get? D = some { cls := .type "list", data := .seq us.toArray c } → wpAny (model X.prog X.w) X.A (spliced (backTo e2 (starEach [] X.env))) (fun vs s₁ => wpAny (model X.prog X.w) X.A (call (.builtin "all") (.ref D :: vs)) (fun u s' => u = .bool (bs.all id) ∧ Gx s s') E s₁) E s')) E
        { s2 with gens := s2.gens.push (.fresh (.func [nFor sInner p1 p2 p3 q1 q2 q3 q4 q5 r1 r2 r3 r4 r5 r6 r7 u1 kk kl] env)), toks := tk, heap := s2.heap.push go } := by
    intro go nm qn tk hgc hgd hgs hgp
    have kG : ∀ b o, s2.heap.get? b = some o → (s2.heap.push go).get? b = some o := fun b o e => Heap.get?_push_of_some _ e
    have hgen : ∀ h : Heap, h.get? s2.heap.objs.size = some go → h.IsGen s2.heap.objs.size s2.gens.size := fun h e => ⟨go, nm, qn, e, hgc, hgd, hgs⟩
    have k12 : ∀ b o, s1.heap.get? b = some o → s2.heap.get? b = some o := inc.toInCall.keep
    have os2 : s2.os = s1.os := by rw [e2']
    have gn2 : s2.gens = s1.gens := by rw [e2']
    refine wpAny_pyIter_gen (s := { s2 with gens := s2.gens.push (.fresh (.func [nFor sInner p1 p2 p3 q1 q2 q3 q4 q5 r1 r2 r3 r4 r5 r6 r7 u1 kk kl] env)), toks := tk, heap := s2.heap.push go }) (hgen _ (hgp _)) ?_
    have szG : (s2.heap.push go).objs.size = s2.heap.objs.size + 1 := Heap.size_push _ _
    refine ⟨s2.heap.objs.size, [env.locals], bs.map V.bl, rfl, ⟨os2.trans g1.os, fun ha => AllBare.push (by rw [gn2, g1.gens]; exact ha) rfl, fun b o e => kG b o (k12 b o (g1.keep b o e))⟩, fun b hb' => ?_, by rw [List.length_map, hbs]; omega, fun D C hD hDC => ?_⟩
    · cases List.mem_singleton.mp hb'
      refine ⟨by rw [szG]; exact Nat.lt_succ_of_lt lL, ?_, I1.fpOk (Nat.le_of_eq eL.symm) (I1.hok.fresh (Nat.le_of_eq eL.symm))⟩
      cases e : s.heap.get? env.locals with
      | none => rfl
      | some o =>
        have := Heap.lt_size (g1.keep _ _ e)
        rw [eL] at this
        exact absurd this (Nat.lt_irrefl _)
    · rw [show ({ s2 with gens := s2.gens.push (.fresh (.func [nFor sInner p1 p2 p3 q1 q2 q3 q4 q5 r1 r2 r3 r4 r5 r6 r7 u1 kk kl] env)), toks := tk, heap := s2.heap.push go } : Shared).heap.objs.size = s2.heap.objs.size + 1 from szG] at hD ⊢
      have len : (bs.map V.bl).length = its.length + 1 := by rw [List.length_map, hbs, lt]
      have hLD : env.locals ≠ D ∧ env.locals ≠ C := ⟨by show ¬ (@Eq Nat _ _); have : @LE.le Nat _ (s2.heap.objs.size + 1) D := hD; omega, by show ¬ (@Eq Nat _ _); have : @LE.le Nat _ (s2.heap.objs.size + 1) D := hD; have : @LT.lt Nat _ D C := hDC; omega⟩
      have haD : s2.heap.objs.size ≠ D ∧ s2.heap.objs.size ≠ C := ⟨Nat.ne_of_lt hD, Nat.ne_of_lt (Nat.lt_trans hD hDC)⟩
      have hs12 : s1.heap.objs.size ≤ s2.heap.objs.size := by rw [← eL]; exact Nat.le_of_lt lL
      rw [len]
      refine ⟨GYv a0 its, GSt X.prog X.w X.A s1.heap env.locals a0 its (s2.heap.objs.size + 1) D C s2.heap.objs.size s2.gens.size, fun _ => True,
        gen_it G hh hdep hLD haD (Nat.ne_of_gt lL) (Nat.lt_succ_self _) (Nat.le_succ_of_le hs12) hD hDC, fun s4 g4 eD eC => ?_, fun _ _ _ _ => trivial, ?_, fun us c s' gx _ rus hD' => ?_⟩
      · have k4 : ∀ b o, s1.heap.get? b = some o → s4.heap.get? b = some o := fun b o e => g4.keep b o (kG b o (k12 b o e))
        refine ⟨hgen _ (g4.keep _ _ (hgp _)), 0, 0, 0, .fresh (.func [nFor sInner p1 p2 p3 q1 q2 q3 q4 q5 r1 r2 r3 r4 r5 r6 r7 u1 kk kl] env), by rw [g4.gens]; exact Array.getElem?_push_size .., ?_, fun z => absurd z (Nat.lt_irrefl _), fun s'' eD'' eC'' gv'' => ⟨rfl, ?_⟩⟩
        · refine ⟨k4, ⟨_, ns2.keeps fun b o e => g4.keep b o (kG b o e), ?_⟩, fun z => absurd z (Nat.lt_irrefl _)⟩
          exact bindL_get (i := 0) (by simp) rfl rfl G.kself
        · exact gen_start (A := X.A.in1) G hh hLD (Nat.le_of_eq eL.symm) hD (hbase env) (hstar env) eD'' eC'' gv''
      · intro s3 H3 cl i y' u H5 s5 hy hY I5 hsub
        rw [List.getElem?_map] at hy
        obtain ⟨b, hb'', rfl⟩ := Option.map_eq_some_iff.mp hy
        obtain ⟨T5, x5, t5, rfl, hx5, hT5⟩ := hY
        obtain ⟨v5, hv5, rv5⟩ : ∃ v5, (V.ref a0 :: xs)[i]? = some v5 ∧ RelV v5 x5 := by
          have r2 : Vals (V.ref a0 :: xs) (Value.ref a0 :: its) := .cons rfl rt
          have hx5' : (Value.ref a0 :: its)[i]? = some x5 := by simpa [gItems] using hx5
          have hi : i < (V.ref a0 :: xs).length := by
            have := (List.getElem?_eq_some_iff.mp hx5').1
            rw [← r2.length] at this
            exact this
          obtain ⟨u5, hu5, ru5⟩ := r2.get (List.getElem?_eq_getElem hi)
          rw [hx5'] at hu5
          cases hu5
          exact ⟨_, List.getElem?_eq_getElem hi, ru5⟩
        obtain ⟨a5, C5, dx5, fs5, q5', rfl, ea5, l5, hW5, hq5⟩ := hel i b v5 hv5 hb''
        refine assign_Tuple_tuple (s := s5) hh (t := T5) (items := #[.int i t5, x5]) ⟨_, hT5, rfl, _, rfl⟩ rfl rfl fun h6 hx6 => ?_
        have g56 : Gr s5 { s5 with heap := h6 } := ⟨rfl, rfl, fun b o e => hx6 b o (Nat.ne_of_lt (Heap.lt_size e)) e⟩
        refine assignInOrder_cons (wpAny_assign_Name (store_L (X := X.blk s3 H3 lscope (compEnvC lscope cl C X.env) [env.locals]) (g56.inv I5) T.sc.nd T.n3 (T.l3 C cl X.env rfl) (v := .int i) ⟨t5, rfl⟩ fun s7 I7 c7 => ?_))
        refine assignInOrder_cons (wpAny_assign_Name (store_L (X := X.blk s3 H3 lscope (compEnvC lscope cl C X.env) [env.locals]) I7 T.sc.nd T.n4 (T.l4 C cl X.env rfl) rv5 fun s8 I8 c8 => ?_))
        refine assignInOrder_nil ⟨_, I8, wipe_sets (by simp) (wipe_set (by simp)), (g56.chL C).trans (c7.trans c8), ?_⟩
        have hr' : Rm k (X.blk s3 H3 lscope (compEnvC lscope cl C X.env) [env.locals]).A := hr.mono (Nat.le_succ k)
        have pm := pg_met (X := X.blk s3 H3 lscope (compEnvC lscope cl C X.env) [env.locals]) (pl := pl2 (compEnvC lscope cl C X.env)) (apos := b2) (pos := b5) hr' (pg_var (pos := b1) 4 T.n4 (.inl (T.l4 C cl X.env rfl))) (pg_var (pos := b3) 1 T.n1 (T.va C cl X.env rfl)) (pg_var (pos := b4) 2 T.n2 (T.vb C cl X.env rfl)) (m := sFi) rfl rfl (hm2 _)
        refine thg (pm.run [] s8 _ H5 (fun v => v = .bl b) _ I8 ?_) fun z' s9 ⟨v9, rv9, ev9, g9⟩ => ⟨ev9 ▸ rv9, g9⟩
        have e3 : ∀ j v, j ≠ 3 → j ≠ 4 → σ[j]? = some (some v) → (((wipe σ [3, 4]).set 3 (some (V.int i))).set 4 (some (V.ref a5)))[j]? = some (some v) := fun j v n3 n4 e => by
          rw [List.getElem?_set_ne (Ne.symm n4), List.getElem?_set_ne (Ne.symm n3), wipe_get, if_neg (by simp; omega)]
          exact e
        refine ⟨_, ?_, a5, C5, dx5, fs5, q5', rfl, hsub _ _ ea5, l5, hW5, _, e3 1 _ (by decide) (by decide) hσ1, _, e3 2 _ (by decide) (by decide) hσ2, _, hq5 H5 hsub, rfl⟩
        show (((wipe σ [3, 4]).set 3 (some (V.int i))).set 4 (some (V.ref a5)))[4]? = _
        rw [List.getElem?_set_self (by rw [List.length_set, wipe_length]; exact hlen)]
      · refine Calls.spliced_nil ?_
        exact all_list (w := X.w) hh hD' rus fun s'' g'' => ⟨rfl, gx.trans g''.gx⟩
  exact main _ _ _ _ rfl rfl rfl fun h => Heap.get?_push_size _ rfl
theorem keeps_fits {pl1 pl2 : Env → Sem Bool} (T : FitsT mg N scope lscope gscope)
    (F : FunD K name qual params (fitsBody lscope a1 b1 b2 b3 b4 b5 c1 c2 c4 d1 d2 d3 e1 e2 rp c3) scope [] [] fa fd)
    (Fg : FunD K gname gqual gparams [nFor sInner p1 p2 p3 q1 q2 q3 q4 q5 r1 r2 r3 r4 r5 r6 r7 u1 kk kl] gscope [] [] fg gfd)
    (bind : ∀ (kV doc pm : Value) (an : Option Addr) (cdv ct : Value) (us : List Value), us.length = [sSelf, sMod, sCols].length → bindArgs (PySem.W.fnOf name qual params (fitsBody lscope a1 b1 b2 b3 b4 b5 c1 c2 c4 d1 d2 d3 e1 e2 rp c3) scope .none kV doc pm an cdv ct) ⟨us, []⟩ = pure ([sSelf, sMod, sCols].zip us))
    (bindg : ∀ (kV doc pm : Value) (an : Option Addr) (cdv ct : Value) (us : List Value), us.length = [sSelf].length → bindArgs (PySem.W.fnOf gname gqual gparams [nFor sInner p1 p2 p3 q1 q2 q3 q4 q5 r1 r2 r3 r4 r5 r6 r7 u1 kk kl] gscope .none kV doc pm an cdv ct) ⟨us, []⟩ = pure ([sSelf].zip us))
    (hm1 : ∀ env, eval (.Call (.Attribute (.Name sSelf d1) sNodes d2) [] [] d3) env = (eval (.Name sSelf d1) env >>= fun ov => standAt d2.atName >>= fun _ =>
      holding [ov] (getMethod ov sNodes (pl1 env)) >>= fun fr => callWith d3 fr.1 fr.2 (backTo d3 (starEach [] env)) (backToKw d3 (keywordEach [] env))))
    (hm2 : ∀ env, eval (.Call (.Attribute (.Name sNode b1) sFi b2) [.Name sMod b3, .Name sCols b4] [] b5) env = (eval (.Name sNode b1) env >>= fun ov => standAt b2.atName >>= fun _ =>
      holding [ov] (getMethod ov sFi (pl2 env)) >>= fun fr => callWith b5 fr.1 fr.2 (backTo b5 (starEach [.Name sMod b3, .Name sCols b4] env)) (backToKw b5 (keywordEach [] env))))
    (hbase : ∀ env (x : Sem Value), attributeBase (.Name sSelf r3) sInner env x = x)
    (hstar : ∀ env, starEach [.Starred (.Attribute (.Name sSelf r3) sInner r4) r5] env = (true, eval (.Attribute (.Name sSelf r3) sInner r4) env) :: starEach [] env) :
    Keeps P w K mg base (k + 2) fa (fitsP (QMet P w K mg base k) fun C => Cls K C ∧ NoAttr K C sInner ∧ Meth K C sNodes fg) := by
  intro A outer s H us vs Q E hr e0 r hq
  have hb := F.bindsN bind
  obtain ⟨oc, od, dV, kV, doc, pm, an, cdv, ct, osl, rfl, lk, hcd, _, _⟩ := F.ex
  obtain ⟨a0, C, dx, fs, y, z, inn, xs, bs, rfl, ea, lnod, ⟨hC, hno, hme⟩, lin, einn, hsz, hbs, hel, hQ⟩ := hq
  have kin : K.In s.heap := e0.mod.kin.keeps fun b o e => (e0.bs b o e).1
  have lim : s.heap.NoLimit := e0.mod.nolimit.keeps fun b o e => (e0.bs b o e).1
  have hpar : ∀ y ∈ [sSelf, sMod, sCols].zip us, scope.names.lookup y.1 = some .local ∨ (scope.names.lookup y.1 = some .cell ∧ ((cellsFrom (s.heap.objs.size + 1) scope.names []).lookup y.1).isSome = true) := by
    rintro ⟨n, v⟩ hy
    refine (T.sc.par n (List.of_mem_zip hy).1).imp id fun q => ⟨q, PySem.W.cellsFrom_some _ _ _ (.inl q)⟩
  have hbs' := hb s us kin (by rw [List.append_nil, ← r.length]; rfl)
  rw [List.append_nil] at hbs'
  refine codeAny_call_function hr.r.depth (kin _ _ lk) rfl T.sc.co T.sc.gen rfl (PySem.W.codeRec_of kin hcd) (hbs' _ _ _ _ ?_)
  refine wpAny_newFunctionEnv_cells T.sc.kind hpar fun env he s1 inc => ?_
  subst he
  have I : Inv (cxOf L2.CX0 P w K mg base N qual scope fa cdv A outer s H E0) [] (start N [.ref a0, y, z]) H s1 := inv_start T.sc hr.r.hd e0 rfl r inc
  have hr1 : Rm (k + 1) (cxOf L2.CX0 P w K mg base N qual scope fa cdv A outer s H E0).A := hr.deeper _
  obtain ⟨h1, t1, e1', k1⟩ := inc.done
  have g01 : Gr s s1 := e1' ▸ .of k1
  refine ⟨lim.keeps inc.toInCall.keep, codeAny_func (wpAny_execs_cons (wpAny_Return_some ?_))⟩
  have hN4 : 4 < N.length := (List.getElem?_eq_some_iff.mp T.n4).1
  refine thg (fits_eval (X := cxOf L2.CX0 P w K mg base N qual scope fa cdv A outer s H E0) T rfl hr1 Fg bindg hm1 hm2 hbase hstar I rfl rfl rfl (by rw [I.len]; exact hN4) ea lnod hC hno hme lin einn hsz hbs hel) ?_
  rintro u s2 ⟨rfl, g2⟩
  have gx := g01.gx.trans g2
  exact ⟨.bl _, H, gx.os, gx.bare e0.bare, Un.kept gx.keep, e0.hok.kept gx.keep, rfl, hQ⟩
end
end Bn
/-! B16: small rules: setdefault of a dict with tuple keys, a list against [], a dict against {}, len of an own instance. -/
namespace Bn
open PySem PySem.Spec PyProof.Rows L2
theorem RelO.some_of' {o : Option V} {u : Value} (r : RelO o (some u)) : ∃ v, o = some v ∧ RelV v u := by
  cases o with
  | none => exact (show False from r).elim
  | some v => exact ⟨v, rfl, r⟩
theorem RelO.none_of' {o : Option V} (r : RelO o none) : o = none := by
  cases o with
  | none => rfl
  | some v => exact (show False from r).elim
section
variable {X : Cx}
def rSetdefT : V → List V → Hp → VK → Prop := fun x xs H Q => ∃ (a : Addr) (kvs : List (List L2.Key × V)) (k : List L2.Key) (b : Addr) (d : V), x = .ref a ∧ xs = [.ref b, d] ∧ H a = some (.dT kvs) ∧ H b = some (.tup (k.map kV)) ∧ kvs.length < sizeLine ∧
  (∀ v, valV kvs k = some v → Q v H) ∧ (valV kvs k = none → Q d (upd H a (.dT (putK kvs k d))))
theorem mt_setdefT (hu : X.A.units + 1 < cLine) : MtR X "dict.setdefault" rSetdefT := by
  intro pins s σ H x xs v us Q I rx rxs h
  obtain ⟨a, kvs, k, b, d, rfl, rfl, ha, hb, hl, q1, q2⟩ := h
  cases rx
  obtain ⟨u1, u2, rfl, r1, r2⟩ := vals2 rxs
  cases r1
  obtain ⟨z, hd, xs', rel, dd⟩ := dt_of I.hok ha
  have hz : xs'.length ≤ sizeLine := by rw [← Paired.length rel]; exact z
  refine call_setdefault_heap (hsz := hz) (tupleKind_room_in1 hu) (key_of I.hok hb) hd dd (fun p hp => ?_) fun hn h' dd' hs => ?_
  · have r := rel.val k
    rw [hp] at r
    obtain ⟨v0, ev, rv⟩ := Bn.RelO.some_of' r
    exact ⟨v0, H, I.tok _, rv, q1 v0 ev⟩
  · have r := rel.val k
    rw [hn] at r
    obtain ⟨o, es, ep, hq, h2, h3, h4, _, h5⟩ := dd'
    have lp : (putK kvs k d).length ≤ sizeLine := by have := length_putK kvs k d; omega
    refine ⟨d, upd H a (.dT (putK kvs k d)), d_write (ob := .dT (putK kvs k d)) I (by rw [ha]; exact True.intro) hs ⟨o, hq⟩ ⟨lp, hd, _, (rel.put k hb r2).keeps (fun c ys ec => by rw [upd_ne (ne_of ec ha (fun z => nomatch z))]; exact ec), o, es, ep, hq, h2, h3, h4, h5⟩, r2, q2 (Bn.RelO.none_of' r)⟩
/-- a list against [] -/
def rNeNil (K : PySem.W.Frag) : R2 := fun x y H Q => ∃ a b xs, x = .ref a ∧ y = .ref b ∧ SqL K H a xs ∧ SqL K H b [] ∧ Q (.bl (!xs.isEmpty)) H
theorem op_neNil (hu : X.A.units + 64 < cLine) : OpR X (compareOp .NotEq) (rNeNil X.K) := by
  intro pins s σ H x y v u Q I rx ry h
  obtain ⟨a, b, xs, rfl, rfl, ha, hb, q⟩ := h
  cases rx
  cases ry
  obtain ⟨us, r1, p1, _⟩ := I.list ha
  obtain ⟨ws, r2, p2, _⟩ := I.list hb
  cases r2
  have lu := r1.length
  cases xs with
  | nil =>
    cases r1
    exact SeqAt.RcNeAt.lists (e := fun _ => true) p1.isList p2.isList rfl (by omega) (fun j h1 h2 => absurd h1 (by simp)) X.prog X.w _ _ ⟨.bl false, H, I, rfl, q⟩
  | cons x xs =>
    refine SeqAt.RcNeAt.lists_lengths p1.isList p2.isList ?_ (by omega) X.prog X.w _ _ ⟨.bl true, H, I, rfl, q⟩
    rw [List.size_toArray, ← lu]
    simp
/-- a dict against {} -/
def rEqNilD : R2 := fun x y H Q => ∃ a b kvs, x = .ref a ∧ y = .ref b ∧ H a = some (.dK kvs) ∧ H b = some (.dK []) ∧ Q (.bl kvs.isEmpty) H
theorem op_eqNilD (hu : X.A.units + 64 < cLine) : OpR X (compareOp .Eq) rEqNilD := by
  intro pins s σ H x y v u Q I rx ry h
  obtain ⟨a, b, kvs, rfl, rfl, ha, hb, q⟩ := h
  cases rx
  cases ry
  obtain ⟨_, ya, vs, kv, D⟩ := I.hok _ _ ha
  obtain ⟨_, yb, ws, kw, D'⟩ := I.hok _ _ hb
  cases kw
  refine PySem.W.keq_eq (r := true) ya yb D D' (by omega) (fun e => ?_) ?_
  · cases vs with
    | nil => exact .nil
    | cons _ _ => exact absurd e (by simp)
  · have e : (vs.length == ([] : List (Key × Value)).length && true) = kvs.isEmpty := by
      cases kv with
      | nil => rfl
      | cons _ _ => simp
    rw [e]
    exact ⟨.bl kvs.isEmpty, H, I, rfl, q⟩
end
/-! ### len of an own instance -/
def LenR (P : Program) (w : World) (K : PySem.W.Frag) (mg : Str → Option Value) (base : Heap) (k : Nat) (C : Addr) (p : Pr) : Prop :=
  ∃ f, PySem.W.findIn K (.ref C) "__len__" = some (some (.ref f)) ∧ PySem.W.isFn K (.ref f) = true ∧ Keeps P w K mg base k f p
section
variable {X : Cx} {k : Nat}
def rLenOwn (W : Addr → Pr → Prop) : List V → Hp → VK → Prop := fun vs H Q => ∃ (a C dx : Addr) (fs : List (Str × V)) (p : Pr), vs = [.ref a] ∧ H a = some (.ins C dx fs) ∧ W C p ∧ p [.ref a] H fun v H' => ∃ n : Nat, v = .int n ∧ n < 2 ^ 63 ∧ Q (.int n) H'
theorem call_lenOwn (hr : Rm (k + 1) X.A) : CallR X (.builtin "len") (rLenOwn (LenR X.prog X.w X.K X.mg X.base k)) := by
  intro pins s σ H xs us Q I r h
  obtain ⟨a, C, dx, fs, p, rfl, ea, ⟨f, hs, hf, F⟩, q⟩ := h
  rw [Vals.ref1 r]
  obtain ⟨mA, O, _, _, _, _⟩ := ins_get I.hok ea
  obtain ⟨od, J, _⟩ := O.look
  obtain ⟨m, fr⟩ := I.fr
  refine PySem.W.len_K fr I.ok.mod.kin J hs hf (wpAny_call (codeAny_mono (F X.A.in1 X.stack s H [.ref a] [.ref a] _ E0 hr.in1 I.env0.in1 (.cons rfl .nil) q) ?_))
  intro r s' hq
  match r, hq with
  | .error e, hq => exact False.elim hq
  | .ok (.ret u), hq =>
    obtain ⟨v, H', I', rv, n, rfl, hn, q'⟩ := I.after hq
    obtain ⟨t, rfl⟩ := rv
    exact ⟨⟨by omega, by omega⟩, .int n, H', I'.tok _, ⟨_, rfl⟩, q'⟩
  | .ok .next, hq => exact False.elim hq
  | .ok .brk, hq => exact False.elim hq
  | .ok .cont, hq => exact False.elim hq
end
end Bn
/-! W2: what a formula works out: joined, __len__, worked. -/
namespace Bn
open PySem PySem.Spec PyProof.Rows L2 StX
open He (ga ma)
theorem Fm.mt_len {m : Int} {E : Ev} : ∀ f : Fm, (f.mt m E).length ≤ f.size
  | .num _ => Nat.zero_le _
  | .ref _ _ => Nat.le_refl _
  | .pair o a b => by
    have h1 := mt_len (m := m) (E := E) a
    have h2 := mt_len (m := m) (E := E) b
    unfold mt size
    split
    · omega
    · rw [List.length_append]; omega
  | .cho t ch a b => by
    have h0 := mt_len (m := m) (E := E) t
    have h1 := mt_len (m := m) (E := E) a
    have h2 := mt_len (m := m) (E := E) b
    unfold mt size
    split
    · omega
    · rw [List.length_append]
      split <;> omega
section
variable {w : World} {K : Fr} {mg : Str → Option Value} {base : Heap}
def pJn (o : O2) : Pr := fun vs H Q => ∃ (a : Addr) (m x y : Int), vs = [.ref a, .int m, .int x, .int y] ∧ 0 < m ∧ Q (.int (jn m o x y)) H
theorem k_Plus_joined (G : GD K mg) : Keeps PP w K mg base 1 (ma K (ga K "Plus") "joined") (pJn .plus) := by
  obtain ⟨fd, F⟩ := fd_Plus_joined G
  refine kp_fn0 (k := 0) F sc_Plus_joined (fun _ _ _ _ _ _ us hl => match us, hl with | [_, _, _, _], _ => rfl) (by rintro _ _ _ ⟨a, m, x, y, rfl, _⟩; rfl) fun cdv A outer s H vs Q E hr hp => ?_
  obtain ⟨a, m, x, y, rfl, hm, hq⟩ := hp
  refine ⟨_, pss_one (ps_ret (pe_op op_mod (pe_op op_add (pv 2) (pv 3)) (pv 1))), ?_⟩
  exact ⟨_, rfl, _, rfl, _, _, rfl, rfl, _, rfl, _, _, rfl, rfl, hm, hq⟩
theorem k_Least_joined (G : GD K mg) : Keeps PP w K mg base 1 (ma K (ga K "Least") "joined") (pJn .least) := by
  obtain ⟨fd, F⟩ := fd_Least_joined G
  refine kp_fn0 (k := 0) F sc_Least_joined (fun _ _ _ _ _ _ us hl => match us, hl with | [_, _, _, _], _ => rfl) (by rintro _ _ _ ⟨a, m, x, y, rfl, _⟩; rfl) fun cdv A outer s H vs Q E hr hp => ?_
  obtain ⟨a, m, x, y, rfl, hm, hq⟩ := hp
  refine ⟨_, pss_one (ps_ret (pe_callB (call_min2 rfl) (by rfl) (gf_min G) rfl (pa_cons (pv 2) (pa_cons (pv 3) pa_nil)))), ?_⟩
  exact ⟨_, rfl, _, rfl, _, _, rfl, hq⟩
theorem k_Most_joined (G : GD K mg) : Keeps PP w K mg base 1 (ma K (ga K "Most") "joined") (pJn .most) := by
  obtain ⟨fd, F⟩ := fd_Most_joined G
  refine kp_fn0 (k := 0) F sc_Most_joined (fun _ _ _ _ _ _ us hl => match us, hl with | [_, _, _, _], _ => rfl) (by rintro _ _ _ ⟨a, m, x, y, rfl, _⟩; rfl) fun cdv A outer s H vs Q E hr hp => ?_
  obtain ⟨a, m, x, y, rfl, hm, hq⟩ := hp
  refine ⟨_, pss_one (ps_ret (pe_callB (call_max2 rfl) (by rfl) (gf_max G) rfl (pa_cons (pv 2) (pa_cons (pv 3) pa_nil)))), ?_⟩
  exact ⟨_, rfl, _, rfl, _, _, rfl, hq⟩
theorem k_Same_joined (G : GD K mg) : Keeps PP w K mg base 1 (ma K (ga K "Same") "joined") (pJn .same) := by
  obtain ⟨fd, F⟩ := fd_Same_joined G
  refine kp_fn0 (k := 0) F sc_Same_joined (fun _ _ _ _ _ _ us hl => match us, hl with | [_, _, _, _], _ => rfl) (by rintro _ _ _ ⟨a, m, x, y, rfl, _⟩; rfl) fun cdv A outer s H vs Q E hr hp => ?_
  obtain ⟨a, m, x, y, rfl, hm, hq⟩ := hp
  refine ⟨_, pss_one (ps_ret (pe_ifExp (pt_cmpR op_eq (pv 2) (pv 3) (nomark _)) pe_int pe_int)), ?_⟩
  refine ⟨_, rfl, _, rfl, rfl, _, rfl, ?_⟩
  have e : jn m .same x y = if x = y then 1 else 0 := rfl
  rw [e] at hq
  by_cases h : x = y
  · rw [if_pos h] at hq
    exact ifT (by simp [h]) hq
  · rw [if_neg h] at hq
    exact ifF (by simp [h]) hq
def pLen (K : Fr) : Pr := fun vs H Q => ∃ (f : Fm) (a : Addr) (l : List Addr), vs = [.ref a] ∧ IsFm K H f a l ∧ f.size ≤ 40 ∧ ∀ H', Same H H' → Q (.int ((1 + l.length : Nat) : Int)) H'
/-- the attributes that every formula has -/
theorem fm_fld (G : GD K mg) {H : Hp} {f : Fm} {a : Addr} {l : List Addr} (h : IsFm K H f a l) : (∃ i, FldAt K H (.ref a) "own_inner" (.ref i) ∧ H i = some (.tup (l.map V.ref))) ∧ FldAt K H (.ref a) "own_depth" (.int f.depth) := by
  obtain ⟨dx, p, i, more, e, ei, _⟩ := h.obj
  have c : ∃ fl, CF K (ga K (fC f)) fl ∧ ("own_inner" : Str) ∈ fl ∧ ("own_depth" : Str) ∈ fl := by
    match f with
    | .num _ => exact ⟨_, cf_Number G, by decide +kernel, by decide +kernel⟩
    | .ref .here _ => exact ⟨_, cf_Here G, by decide +kernel, by decide +kernel⟩
    | .ref .up _ => exact ⟨_, cf_Up G, by decide +kernel, by decide +kernel⟩
    | .ref .down _ => exact ⟨_, cf_Down G, by decide +kernel, by decide +kernel⟩
    | .pair .plus _ _ => exact ⟨_, cf_Plus G, by decide +kernel, by decide +kernel⟩
    | .pair .least _ _ => exact ⟨_, cf_Least G, by decide +kernel, by decide +kernel⟩
    | .pair .most _ _ => exact ⟨_, cf_Most G, by decide +kernel, by decide +kernel⟩
    | .pair .same _ _ => exact ⟨_, cf_Same G, by decide +kernel, by decide +kernel⟩
    | .cho _ _ _ _ => exact ⟨_, cf_Choice G, by decide +kernel, by decide +kernel⟩
  obtain ⟨fl, c, h1, h2⟩ := c
  exact ⟨⟨i, fld_of e c h1 (by rfl), ei⟩, fld_of e c h2 (by rfl)⟩
theorem fm_cls (G : GD K mg) (f : Fm) : Cls K (ga K (fC f)) := by
  match f with
  | .num _ => exact (cf_Number G).cl
  | .ref .here _ => exact (cf_Here G).cl
  | .ref .up _ => exact (cf_Up G).cl
  | .ref .down _ => exact (cf_Down G).cl
  | .pair .plus _ _ => exact (cf_Plus G).cl
  | .pair .least _ _ => exact (cf_Least G).cl
  | .pair .most _ _ => exact (cf_Most G).cl
  | .pair .same _ _ => exact (cf_Same G).cl
  | .cho _ _ _ _ => exact (cf_Choice G).cl
theorem k_Formula_len (G : GD K mg) : Keeps PP w K mg base 1 (ma K (ga K "Formula") "__len__") (pLen K) := by
  obtain ⟨fd, F⟩ := fd_Formula_len G
  refine kp_fn0 (k := 0) F sc_Formula_len (fun _ _ _ _ _ _ us hl => match us, hl with | [_], _ => rfl) (by rintro _ _ _ ⟨f, a, l, rfl, _⟩; rfl) fun cdv A outer s H vs Q E hr hp => ?_
  obtain ⟨f, a, l, rfl, hf, hs, hq⟩ := hp
  obtain ⟨⟨i, h1, h2⟩, _⟩ := fm_fld G hf
  have hl := hf.len
  refine ⟨_, pss_one (ps_ret (pe_callB call_len_seq (by rfl) (gf_len G) rfl (pa_cons (pe_lst (pa_cons (pv 0) (pa_star (pe_fl (pv 0)) pa_nil))) pa_nil))), ?_⟩
  refine ⟨_, rfl, _, rfl, _, h1, _, _, rfl, .inl (.of h2), ?_, fun q hn => ⟨_, _, rfl, .inl (.of upd_same), ?_⟩⟩
  · have := sizeLine_eq
    simp
    omega
  · have z := hq (upd H q (.lst (V.ref a :: (l.map V.ref ++ [])))) (Same.new hn)
    simp only [List.length_cons, List.length_append, List.length_map, List.length_nil, Nat.add_zero, Nat.add_comm l.length 1] at z ⊢
    exact z
theorem len_all (G : GD K mg) {k : Nat} (hk : 1 ≤ k) (f : Fm) : LenR PP w K mg base k (ga K (fC f)) (pLen K) := by
  have F := (k_Formula_len (w := w) (base := base) G).mono hk
  match f with
  | .num _ => exact ⟨_, (ln_Number G).1, (ln_Number G).2, F⟩
  | .ref .here _ => exact ⟨_, (ln_Here G).1, (ln_Here G).2, F⟩
  | .ref .up _ => exact ⟨_, (ln_Up G).1, (ln_Up G).2, F⟩
  | .ref .down _ => exact ⟨_, (ln_Down G).1, (ln_Down G).2, F⟩
  | .pair .plus _ _ => exact ⟨_, (ln_Plus G).1, (ln_Plus G).2, F⟩
  | .pair .least _ _ => exact ⟨_, (ln_Least G).1, (ln_Least G).2, F⟩
  | .pair .most _ _ => exact ⟨_, (ln_Most G).1, (ln_Most G).2, F⟩
  | .pair .same _ _ => exact ⟨_, (ln_Same G).1, (ln_Same G).2, F⟩
  | .cho _ _ _ _ => exact ⟨_, (ln_Choice G).1, (ln_Choice G).2, F⟩
def fO : Fm → Str
  | .num _ => "Number"
  | .ref _ _ => "Reference"
  | .pair _ _ _ => "Pair"
  | .cho _ _ _ _ => "Choice"
theorem wk_meth (G : GD K mg) (f : Fm) : Meth K (ga K (fC f)) "worked" (ma K (ga K (fO f)) "worked") := by
  match f with
  | .num _ => exact mt_Number_worked G
  | .ref .here _ => exact mt_Here_worked G
  | .ref .up _ => exact mt_Up_worked G
  | .ref .down _ => exact mt_Down_worked G
  | .pair .plus _ _ => exact mt_Plus_worked G
  | .pair .least _ _ => exact mt_Least_worked G
  | .pair .most _ _ => exact mt_Most_worked G
  | .pair .same _ _ => exact mt_Same_worked G
  | .cho _ _ _ _ => exact mt_Choice_worked G
theorem jn_meth (G : GD K mg) {k : Nat} (hk : 1 ≤ k) (o : O2) : MetR PP w K mg base k (ga K (oC o)) "joined" (pJn o) := by
  match o with
  | .plus => exact ⟨_, (cf_Plus G).cl, mt_Plus_joined G, (k_Plus_joined G).mono hk⟩
  | .least => exact ⟨_, (cf_Least G).cl, mt_Least_joined G, (k_Least_joined G).mono hk⟩
  | .most => exact ⟨_, (cf_Most G).cl, mt_Most_joined G, (k_Most_joined G).mono hk⟩
  | .same => exact ⟨_, (cf_Same G).cl, mt_Same_joined G, (k_Same_joined G).mono hk⟩
/-- worked, of the formulas of φ -/
def pWk (K : Fr) (φ : Fm → Prop) : Pr := fun vs H Q => ∃ (f : Fm) (a : Addr) (l : List Addr) (m : Int) (rd : Addr) (num : Int) (E : Ev), φ f ∧ f.size ≤ 40 ∧ vs = [.ref a, .int m, .ref rd, .int num] ∧ IsFm K H f a l ∧ 0 < m ∧ IsRows H rd E ∧
  ∀ (H' : Hp) (t q : Addr) (ms : List V), Same H H' → H' t = some (.tup [oe (f.ev m E), .ref q]) → H' q = some (.lst ms) → Mets H' ms (f.mt m E) → Q (.ref t) H'
theorem k_Number_worked (G : GD K mg) : Keeps PP w K mg base 1 (ma K (ga K "Number") "worked") (pWk K fun f => fO f = "Number") := by
  obtain ⟨fd, F⟩ := fd_Number_worked G
  refine kp_fn0 (k := 0) F sc_Number_worked (fun _ _ _ _ _ _ us hl => match us, hl with | [_, _, _, _], _ => rfl) (by rintro _ _ _ ⟨f, a, l, m, rd, num, E, _, _, rfl, _⟩; rfl) fun cdv A outer s H vs Q E hr hp => ?_
  obtain ⟨f, a, l, m, rd, num, E', hφ, hz, rfl, hf, hm, hrow, hq⟩ := hp
  match f, hφ with
  | .num v, _ =>
    obtain ⟨_, _, dx, p, i, e1, _, _⟩ := hf
    refine ⟨_, pss_one (ps_ret (pe_tup (pa_cons (pe_fl (pv 0)) (pa_cons (pe_lst pa_nil) pa_nil)))), ?_⟩
    refine ⟨_, rfl, _, fld_of e1 (cf_Number G) (by decide +kernel) (by rfl), Nat.zero_le _, fun q hn => ⟨by show 2 ≤ sizeLine; decide, fun t ht => ?_⟩⟩
    exact hq _ t q [] (same_trans (Same.new hn) (Same.new ht)) upd_same (by rw [upd_ne (ne_of_none upd_same ht)]; exact upd_same) .nil
  | .pair o _ _, h => exact absurd (show ("Pair" : Str) = "Number" from h) (by decide +kernel)
  | .ref _ _, h => exact absurd (show ("Reference" : Str) = "Number" from h) (by decide +kernel)
  | .cho _ _ _ _, h => exact absurd (show ("Choice" : Str) = "Number" from h) (by decide +kernel)
end
end Bn
/-! W3: worked of references, pairs, choices; of all. -/
namespace Bn
open PySem PySem.Spec PyProof.Rows L2 StX
open He (ga ma)
section
variable {w : World} {K : Fr} {mg : Str → Option Value} {base : Heap}
theorem wc_con (G : GD K mg) (wh : Wh) : ∃ u, Con K (ga K (wC wh)) "WORD" (.str (wS wh)) u := by
  match wh with
  | .here => exact He.conB_ok (cn_Here G) (by decide +kernel)
  | .up => exact He.conB_ok (cn_Up G) (by decide +kernel)
  | .down => exact He.conB_ok (cn_Down G) (by decide +kernel)
theorem wc_col (G : GD K mg) (wh : Wh) : ∃ fl, CF K (ga K (wC wh)) fl ∧ ("column" : Str) ∈ fl := by
  match wh with
  | .here => exact ⟨_, cf_Here G, by decide +kernel⟩
  | .up => exact ⟨_, cf_Up G, by decide +kernel⟩
  | .down => exact ⟨_, cf_Down G, by decide +kernel⟩
theorem oc_parts (G : GD K mg) (o : O2) : ∃ fl, CF K (ga K (oC o)) fl ∧ ("own_parts" : Str) ∈ fl := by
  match o with
  | .plus => exact ⟨_, cf_Plus G, by decide +kernel⟩
  | .least => exact ⟨_, cf_Least G, by decide +kernel⟩
  | .most => exact ⟨_, cf_Most G, by decide +kernel⟩
  | .same => exact ⟨_, cf_Same G, by decide +kernel⟩
theorem oe_ref {m : Int} {E : Ev} {wh : Wh} {c : Str} : oe ((Fm.ref wh c).ev m E) = oi (E wh c) := by
  unfold Fm.ev
  cases E wh c <;> rfl
theorem k_Reference_worked (G : GD K mg) : Keeps PP w K mg base 1 (ma K (ga K "Reference") "worked") (pWk K fun f => fO f = "Reference") := by
  obtain ⟨fd, F⟩ := fd_Reference_worked G
  refine kp_fn0 (k := 0) F sc_Reference_worked (fun _ _ _ _ _ _ us hl => match us, hl with | [_, _, _, _], _ => rfl) (by rintro _ _ _ ⟨f, a, l, m, rd, num, E, _, _, rfl, _⟩; rfl) fun cdv A outer s H vs Q E hr hp => ?_
  obtain ⟨f, a, l, m, rd, num, E', hφ, hz, rfl, hf, hm, hrow, hq⟩ := hp
  match f, hφ with
  | .ref wh c, _ =>
    obtain ⟨_, dx, p, i, e1, _, _⟩ := hf
    obtain ⟨u, hcon⟩ := wc_con G wh
    obtain ⟨fl, cf, cm⟩ := wc_col G wh
    obtain ⟨b, hb1, kvs, hb2, hb3⟩ := hrow.get wh
    have nw : (fsF p i 0 [("column", .str c)]).lookup ("WORD" : Str) = none := by rfl
    have fc := fld_of (v := .str c) e1 cf cm (by rfl)
    refine ⟨_, pss_one (ps_ret (pe_tup (pa_cons (pe_dget2 (hu_of hr.r) (pe_dget (hu_of hr.r) (pv 2) (pe_con (pv 0) rfl) (fun _ _ => rfl)) (pe_fl (pv 0)) pe_non ⟨rfl, rfl, rfl, rfl⟩)
      (pa_cons (pe_lst (pa_cons (pe_tup (pa_cons (pv 3) (pa_cons (pe_con (pv 0) rfl) (pa_cons (pe_fl (pv 0)) pa_nil)))) pa_nil)) pa_nil)))), ?_⟩
    refine ⟨_, rfl, _, rfl, a, _, dx, _, _, u, rfl, e1, cf.cl, hcon, nw, rd, _, rfl, hb1, b, rfl, .inl ⟨kvs, .inl hb2⟩, _, rfl, _, fc, _, .inl ⟨kvs, .inr c, .inl hb2, rfl, rfl⟩, ?_⟩
    rw [hb3 c, ← oe_ref (m := m) (E := E') (wh := wh) (c := c)]
    refine ⟨_, rfl, _, rfl, a, _, dx, _, _, u, rfl, e1, cf.cl, hcon, nw, _, rfl, _, fc, (by show 3 ≤ sizeLine; decide), fun t ht => ⟨(by show 1 ≤ sizeLine; decide), fun q hn => ⟨(by show 2 ≤ sizeLine; decide), fun r hr' => ?_⟩⟩⟩
    have s1 := Same.new (o := .tup [.int num, .str (wS wh), .str c]) ht
    have s2 := Same.new (o := .lst [.ref t]) hn
    have s3 := Same.new (o := .tup [oe ((Fm.ref wh c).ev m E'), .ref q]) hr'
    exact hq _ r q [.ref t] (same_trans s1 (same_trans s2 s3)) upd_same (s3 _ _ upd_same) (.cons ⟨t, num, rfl, s3 _ _ (s2 _ _ upd_same)⟩ .nil)
  | .num _, h => exact absurd (show ("Number" : Str) = "Reference" from h) (by decide +kernel)
  | .pair o _ _, h => exact absurd (show ("Pair" : Str) = "Reference" from h) (by decide +kernel)
  | .cho _ _ _ _, h => exact absurd (show ("Choice" : Str) = "Reference" from h) (by decide +kernel)
theorem pair_err {m : Int} {E : Ev} {o : O2} {x y : Fm} {g : Nd} (h : x.ev m E = .error g) : (Fm.pair o x y).ev m E = .error g ∧ (Fm.pair o x y).mt m E = x.mt m E := by
  constructor
  · rw [Fm.ev, h]
  · rw [Fm.mt, h]
theorem pair_ok {m : Int} {E : Ev} {o : O2} {x y : Fm} {i : Int} (h : x.ev m E = .ok i) : (Fm.pair o x y).mt m E = x.mt m E ++ y.mt m E ∧ (∀ g, y.ev m E = .error g → (Fm.pair o x y).ev m E = .error g) ∧ ∀ j, y.ev m E = .ok j → (Fm.pair o x y).ev m E = .ok (jn m o i j) := by
  refine ⟨?_, fun g e => ?_, fun j e => ?_⟩
  · rw [Fm.mt, h]
  · rw [Fm.ev, h]; simp only [e]
  · rw [Fm.ev, h]; simp only [e]
theorem cho_err {m : Int} {E : Ev} {t x y : Fm} {ch : List Int} {g : Nd} (h : t.ev m E = .error g) : (Fm.cho t ch x y).ev m E = .error g ∧ (Fm.cho t ch x y).mt m E = t.mt m E := by
  constructor
  · rw [Fm.ev, h]
  · rw [Fm.mt, h]
theorem cho_ok {m : Int} {E : Ev} {t x y : Fm} {ch : List Int} {i : Int} (h : t.ev m E = .ok i) : (i ∈ ch → (Fm.cho t ch x y).ev m E = x.ev m E ∧ (Fm.cho t ch x y).mt m E = t.mt m E ++ x.mt m E) ∧ (i ∉ ch → (Fm.cho t ch x y).ev m E = y.ev m E ∧ (Fm.cho t ch x y).mt m E = t.mt m E ++ y.mt m E) := by
  refine ⟨fun hi => ?_, fun hi => ?_⟩
  · constructor
    · rw [Fm.ev, h]; exact if_pos hi
    · rw [Fm.mt, h]; simp only [if_pos hi]
  · constructor
    · rw [Fm.ev, h]; exact if_neg hi
    · rw [Fm.mt, h]; simp only [if_neg hi]
/-- all formulas up to a depth work -/
def WkAll (w : World) (K : Fr) (mg : Str → Option Value) (base : Heap) (n : Nat) : Prop := ∀ f : Fm, f.depth ≤ n → MetR PP w K mg base (n + 3) (ga K (fC f)) "worked" (pWk K fun g => g.depth ≤ n ∧ fO g = fO f)
theorem wk_at {k n : Nat} (W : WkAll w K mg base n) (hk : n + 3 ≤ k) {H : Hp} {f : Fm} {a : Addr} {l : List Addr} (h : IsFm K H f a l) (hd : f.depth ≤ n) : MetAt (MetR PP w K mg base k) H (.ref a) "worked" (pWk K fun g => g.depth ≤ n ∧ fO g = fO f) := by
  obtain ⟨dx, p, i, more, e, _, hm⟩ := h.obj
  exact ⟨a, _, dx, _, rfl, e, hm.no (by decide +kernel) (by decide +kernel) (by decide +kernel) (by decide +kernel) (by decide +kernel) (by decide +kernel), (W f hd).mono hk⟩
theorem k_Pair_worked (G : GD K mg) {n : Nat} (W : WkAll w K mg base n) : Keeps PP w K mg base (n + 4) (ma K (ga K "Pair") "worked") (pWk K fun f => f.depth ≤ n + 1 ∧ fO f = "Pair") := by
  obtain ⟨fd, F⟩ := fd_Pair_worked G
  refine kp_fn0 (k := n + 3) F sc_Pair_worked (fun _ _ _ _ _ _ us hl => match us, hl with | [_, _, _, _], _ => rfl) (by rintro _ _ _ ⟨f, a, l, m, rd, num, E, _, _, rfl, _⟩; rfl) fun cdv A outer s H vs Q E hr hp => ?_
  obtain ⟨f, a, l, m, rd, num, E', ⟨hdep, hφ⟩, hz, rfl, hf, hm, hrow, hq⟩ := hp
  have nd := sc_Pair_worked.nd
  match f, hφ with
  | .pair o x y, _ =>
    have hf0 := hf
    obtain ⟨dx, p, i, ax, lx, ay, ly, e1, e2, e3, hx, hy, hl⟩ := hf
    obtain ⟨fl, cf, cm⟩ := oc_parts G o
    have hdx : x.depth ≤ n := by unfold Fm.depth at hdep; omega
    have hdy : y.depth ≤ n := by unfold Fm.depth at hdep; omega
    have hzx : x.size ≤ 40 := by unfold Fm.size at hz; omega
    have hzy : y.size ≤ 40 := by unfold Fm.size at hz; omega
    refine ⟨_, pss_cons (ps_asg (pe_fl (pv 0)) (pg_tup rfl (pgs_cons (pg_name (i := 4) nd rfl (.inl rfl)) (pgs_cons (pg_name (i := 5) nd rfl (.inl rfl)) pgs_nil))))
      (pss_cons (ps_asg (pe_mm hr (pv 4) (pa_cons (pv 1) (pa_cons (pv 2) (pa_cons (pe_op op_add (pv 3) pe_int) pa_nil)))) (pg_tup rfl (pgs_cons (pg_name (i := 6) nd rfl (.inl rfl)) (pgs_cons (pg_name (i := 7) nd rfl (.inl rfl)) pgs_nil))))
      (pss_cons (ps_if (pt_cmp (pc_isN (pv 6))) (pss_one (ps_ret (pe_tup (pa_cons pe_non (pa_cons (pv 7) pa_nil))))) pss_nil)
      (pss_cons (ps_asg (pe_mm hr (pv 5) (pa_cons (pv 1) (pa_cons (pv 2) (pa_cons (pe_op op_add (pe_op op_add (pv 3) pe_int) (pe_callB (call_lenOwn (k := n + 2) hr) (by rfl) (gf_len G) rfl (pa_cons (pv 4) pa_nil))) pa_nil)))) (pg_tup rfl (pgs_cons (pg_name (i := 8) nd rfl (.inl rfl)) (pgs_cons (pg_name (i := 9) nd rfl (.inl rfl)) pgs_nil))))
      (pss_one (ps_ret (pe_tup (pa_cons (pe_ifExp (pt_cmp (pc_isN (pv 8))) pe_non (pe_mm hr (pv 0) (pa_cons (pv 1) (pa_cons (pv 6) (pa_cons (pv 8) pa_nil))))) (pa_cons (pe_op op_cat (pv 7) (pv 9)) pa_nil)))))))), ?_⟩
    refine ⟨_, rfl, _, fld_of e1 cf cm (by rfl), p, _, rfl, .of e2, rfl, _, _, rfl, _, _, rfl, rfl, ?_⟩
    refine ⟨_, rfl, _, wk_at W (Nat.le_refl _) hx hdx, _, rfl, _, rfl, _, rfl, _, _, rfl, rfl, x, ax, lx, m, rd, num + 1, E', ⟨hdx, rfl⟩, hzx, rfl, hx, hm, hrow, fun H1 t q ms s1 et eq hms => ?_⟩
    refine ⟨t, _, rfl, .of et, rfl, _, _, rfl, _, _, rfl, rfl, ?_⟩
    refine ⟨_, rfl, _, rfl, ?_⟩
    cases hxe : x.ev m E' with
    | error g =>
      rw [hxe] at et
      refine ifT rfl ⟨_, rfl, (by show 2 ≤ sizeLine; decide), fun r hr' => ?_⟩
      have s2 := Same.new (o := .tup [V.non, .ref q]) hr'
      obtain ⟨z1, z2⟩ := pair_err (o := o) (y := y) hxe
      rw [z1, z2] at hq
      exact hq _ r q ms (same_trans s1 s2) upd_same (s2 _ _ eq) (hms.up s2)
    | ok i1 =>
      obtain ⟨z1, z2, z3⟩ := pair_ok (o := o) (y := y) hxe
      refine ifF rfl ⟨_, rfl, _, wk_at W (Nat.le_refl _) (hy.up s1) hdy, _, rfl, _, rfl, _, rfl, _, _, rfl, rfl, _, rfl, ?_⟩
      obtain ⟨dx2, p2, i2, more2, e5, _, _⟩ := (hx.up s1).obj
      refine ⟨ax, _, dx2, _, _, rfl, e5, len_all G (by omega) x, x, ax, lx, rfl, hx.up s1, hzx, fun H2 s2 => ⟨_, rfl, ?_, ?_⟩⟩
      · have := hx.len; omega
      refine ⟨_, _, rfl, rfl, y, ay, ly, m, rd, _, E', ⟨hdy, rfl⟩, hzy, rfl, (hy.up s1).up s2, hm, (hrow.up s1).up s2, fun H3 t3 q3 ms3 s3 et3 eq3 hms3 => ?_⟩
      have s13 := same_trans s1 (same_trans s2 s3)
      have eq' := s3 _ _ (s2 _ _ eq)
      have hms' := (hms.up s2).up s3
      have hlen : ms.length + ms3.length ≤ sizeLine := by
        have h1 := paired_len hms
        have h2 := paired_len hms3
        have h3 := Fm.mt_len (m := m) (E := E') x
        have h4 := Fm.mt_len (m := m) (E := E') y
        rw [sizeLine_eq]
        omega
      refine ⟨t3, _, rfl, .of et3, rfl, _, _, rfl, _, _, rfl, rfl, ?_⟩
      rw [z1] at hq
      refine ⟨_, rfl, _, rfl, ?_⟩
      cases hye : y.ev m E' with
      | error g =>
        rw [z2 g hye] at hq
        refine ifT rfl ⟨_, rfl, _, rfl, q, q3, ms, ms3, rfl, rfl, eq', eq3, hlen, fun c hc => ⟨(by show 2 ≤ sizeLine; decide), fun r hr' => ?_⟩⟩
        have s4 := Same.new (o := .lst (ms ++ ms3)) hc
        have s5 := Same.new (o := .tup [V.non, .ref c]) hr'
        exact hq _ r c (ms ++ ms3) (same_trans s13 (same_trans s4 s5)) upd_same (s5 _ _ upd_same) (paired_append ((hms'.up s4).up s5) ((hms3.up s4).up s5))
      | ok j1 =>
        rw [z3 j1 hye] at hq
        refine ifF rfl ⟨_, rfl, _, ⟨a, _, dx, _, rfl, s13 _ _ e1, by rfl, jn_meth G (by omega) o⟩, _, rfl, _, rfl, _, rfl, a, m, i1, j1, rfl, hm, ?_⟩
        refine ⟨_, rfl, _, rfl, q, q3, ms, ms3, rfl, rfl, eq', eq3, hlen, fun c hc => ⟨(by show 2 ≤ sizeLine; decide), fun r hr' => ?_⟩⟩
        have s4 := Same.new (o := .lst (ms ++ ms3)) hc
        have s5 := Same.new (o := .tup [V.int (jn m o i1 j1), .ref c]) hr'
        exact hq _ r c (ms ++ ms3) (same_trans s13 (same_trans s4 s5)) upd_same (s5 _ _ upd_same) (paired_append ((hms'.up s4).up s5) ((hms3.up s4).up s5))
  | .num _, h => exact absurd (show ("Number" : Str) = "Pair" from h) (by decide +kernel)
  | .ref _ _, h => exact absurd (show ("Reference" : Str) = "Pair" from h) (by decide +kernel)
  | .cho _ _ _ _, h => exact absurd (show ("Choice" : Str) = "Pair" from h) (by decide +kernel)
end
end Bn
/-! W4: worked of choices; of all. -/
namespace Bn
open PySem PySem.Spec PyProof.Rows L2 StX
open He (ga ma)
theorem inV_ints {x : Int} {xs : List Int} : inV (.int x) (xs.map V.int) = decide (x ∈ xs) := by
  unfold inV
  induction xs with
  | nil => rfl
  | cons a r ih =>
    rw [List.map_cons, List.any_cons, ih]
    show ((a == x) || decide (x ∈ r)) = decide (x ∈ a :: r)
    by_cases h : a = x
    · simp [h]
    · have h' : ¬ x = a := fun e => h e.symm
      simp [h, h']
theorem flat_ints {xs : List Int} : (xs.map V.int).all flatV = true := by
  rw [List.all_eq_true]
  intro v hv
  obtain ⟨i, _, rfl⟩ := List.mem_map.mp hv
  rfl
section
variable {w : World} {K : Fr} {mg : Str → Option Value} {base : Heap}
theorem k_Choice_worked (G : GD K mg) {n : Nat} (W : WkAll w K mg base n) : Keeps PP w K mg base (n + 4) (ma K (ga K "Choice") "worked") (pWk K fun f => f.depth ≤ n + 1 ∧ fO f = "Choice") := by
  obtain ⟨fd, F⟩ := fd_Choice_worked G
  refine kp_fn0 (k := n + 3) F sc_Choice_worked (fun _ _ _ _ _ _ us hl => match us, hl with | [_, _, _, _], _ => rfl) (by rintro _ _ _ ⟨f, a, l, m, rd, num, E, _, _, rfl, _⟩; rfl) fun cdv A outer s H vs Q E hr hp => ?_
  obtain ⟨f, a, l, m, rd, num, E', ⟨hdep, hφ⟩, hz, rfl, hf, hm, hrow, hq⟩ := hp
  have nd := sc_Choice_worked.nd
  match f, hφ with
  | .cho u ch x y, _ =>
    obtain ⟨dx, p, i, c, au, lu, ax, lx, ay, ly, e1, e2, e3, e4, hu, hx, hy, hl⟩ := hf
    have cf := cf_Choice G
    have hdu : u.depth ≤ n := by unfold Fm.depth at hdep; omega
    have hdx : x.depth ≤ n := by unfold Fm.depth at hdep; omega
    have hdy : y.depth ≤ n := by unfold Fm.depth at hdep; omega
    have hzu : u.size ≤ 40 := by unfold Fm.size at hz; omega
    have hzx : x.size ≤ 40 := by unfold Fm.size at hz; omega
    have hzy : y.size ≤ 40 := by unfold Fm.size at hz; omega
    refine ⟨_, pss_cons (ps_asg (pe_fl (pv 0)) (pg_tup rfl (pgs_cons (pg_name (i := 4) nd rfl (.inl rfl)) (pgs_cons (pg_name (i := 5) nd rfl (.inl rfl)) (pgs_cons (pg_name (i := 6) nd rfl (.inl rfl)) pgs_nil)))))
      (pss_cons (ps_asg (pe_mm hr (pv 4) (pa_cons (pv 1) (pa_cons (pv 2) (pa_cons (pe_op op_add (pv 3) pe_int) pa_nil)))) (pg_tup rfl (pgs_cons (pg_name (i := 7) nd rfl (.inl rfl)) (pgs_cons (pg_name (i := 8) nd rfl (.inl rfl)) pgs_nil))))
      (pss_cons (ps_if (pt_cmp (pc_isN (pv 7))) (pss_one (ps_ret (pe_tup (pa_cons pe_non (pa_cons (pv 8) pa_nil))))) pss_nil)
      (pss_cons (ps_set (i := 9) nd rfl (.inl rfl) (pe_op op_add (pe_op op_add (pv 3) pe_int) (pe_callB (call_lenOwn (k := n + 2) hr) (by rfl) (gf_len G) rfl (pa_cons (pv 4) pa_nil))))
      (pss_cons (ps_if (pt_cmpR op_in_seq (pv 7) (pe_fl (pv 0)) rfl)
        (pss_one (ps_asg (pe_mm hr (pv 5) (pa_cons (pv 1) (pa_cons (pv 2) (pa_cons (pv 9) pa_nil)))) (pg_tup rfl (pgs_cons (pg_name (i := 10) nd rfl (.inl rfl)) (pgs_cons (pg_name (i := 11) nd rfl (.inl rfl)) pgs_nil)))))
        (pss_one (ps_asg (pe_mm hr (pv 6) (pa_cons (pv 1) (pa_cons (pv 2) (pa_cons (pe_op op_add (pv 9) (pe_callB (call_lenOwn (k := n + 2) hr) (by rfl) (gf_len G) rfl (pa_cons (pv 5) pa_nil))) pa_nil)))) (pg_tup rfl (pgs_cons (pg_name (i := 10) nd rfl (.inl rfl)) (pgs_cons (pg_name (i := 11) nd rfl (.inl rfl)) pgs_nil))))))
      (pss_one (ps_ret (pe_tup (pa_cons (pv 10) (pa_cons (pe_op op_cat (pv 8) (pv 11)) pa_nil))))))))), ?_⟩
    refine ⟨_, rfl, _, fld_of e1 cf (by decide +kernel) (by rfl), p, _, rfl, .of e2, rfl, _, _, rfl, _, _, rfl, _, _, rfl, rfl, ?_⟩
    refine ⟨_, rfl, _, wk_at W (Nat.le_refl _) hu hdu, _, rfl, _, rfl, _, rfl, _, _, rfl, rfl, u, au, lu, m, rd, num + 1, E', ⟨hdu, rfl⟩, hzu, rfl, hu, hm, hrow, fun H1 t q ms s1 et eq hms => ?_⟩
    refine ⟨t, _, rfl, .of et, rfl, _, _, rfl, _, _, rfl, rfl, ?_⟩
    refine ⟨_, rfl, _, rfl, ?_⟩
    cases hue : u.ev m E' with
    | error g =>
      rw [hue] at et
      refine ifT rfl ⟨_, rfl, (by show 2 ≤ sizeLine; decide), fun r hr' => ?_⟩
      have s2 := Same.new (o := .tup [V.non, .ref q]) hr'
      obtain ⟨z1, z2⟩ := cho_err (ch := ch) (x := x) (y := y) hue
      rw [z1, z2] at hq
      exact hq _ r q ms (same_trans s1 s2) upd_same (s2 _ _ eq) (hms.up s2)
    | ok i1 =>
      obtain ⟨z1, z2⟩ := cho_ok (ch := ch) (x := x) (y := y) hue
      obtain ⟨dx2, p2, i2, more2, e5, _, _⟩ := (hu.up s1).obj
      refine ifF rfl ⟨_, rfl, _, _, rfl, rfl, _, rfl, au, _, dx2, _, _, rfl, e5, len_all G (by omega) u, u, au, lu, rfl, hu.up s1, hzu, fun H2 s2 => ⟨_, rfl, ?_, ?_⟩⟩
      · have := hu.len; omega
      have s12 := same_trans s1 s2
      refine ⟨_, _, rfl, rfl, _, rfl, _, rfl, _, (fld_of e1 cf (by decide +kernel) (by rfl)).up s12, c, _, rfl, .inr (.of (s12 _ _ e4)), rfl, flat_ints, _, rfl, ?_⟩
      have fin : ∀ (H3 : Hp) (t3 q3 : Addr) (ms3 : List V) (z : Fm), z.size ≤ 40 → Same H2 H3 → H3 t3 = some (.tup [oe (z.ev m E'), .ref q3]) → H3 q3 = some (.lst ms3) → Mets H3 ms3 (z.mt m E') → (Fm.cho u ch x y).ev m E' = z.ev m E' → (Fm.cho u ch x y).mt m E' = u.mt m E' ++ z.mt m E' →
          H3 q = some (.lst ms) ∧ ms.length + ms3.length ≤ sizeLine ∧ ∀ c', H3 c' = none → ∀ r, upd H3 c' (.lst (ms ++ ms3)) r = none → Q (.ref r) (upd (upd H3 c' (.lst (ms ++ ms3))) r (.tup [oe (z.ev m E'), .ref c'])) := fun H3 t3 q3 ms3 z hz3 s3 et3 eq3 hms3 y1 y2 => by
        refine ⟨s3 _ _ (s2 _ _ eq), ?_, fun c' hc r hr' => ?_⟩
        · have h1 := paired_len hms
          have h2 := paired_len hms3
          have h3 := Fm.mt_len (m := m) (E := E') u
          have h4 := Fm.mt_len (m := m) (E := E') z
          rw [sizeLine_eq]
          omega
        · rw [y1, y2] at hq
          have s4 := Same.new (o := .lst (ms ++ ms3)) hc
          have s5 := Same.new (o := .tup [oe (z.ev m E'), .ref c']) hr'
          exact hq _ r c' (ms ++ ms3) (same_trans s12 (same_trans s3 (same_trans s4 s5))) upd_same (s5 _ _ upd_same) (paired_append ((((hms.up s2).up s3).up s4).up s5) ((hms3.up s4).up s5))
      refine ifB (fun hin => ?_) (fun hin => ?_)
      · have hin : i1 ∈ ch := by
          have z := inV_ints (x := i1) (xs := ch)
          exact of_decide_eq_true (z.symm.trans hin)
        obtain ⟨y1, y2⟩ := z1 hin
        refine ⟨_, rfl, _, wk_at W (Nat.le_refl _) (hx.up s12) hdx, _, rfl, _, rfl, _, rfl, x, ax, lx, m, rd, _, E', ⟨hdx, rfl⟩, hzx, rfl, hx.up s12, hm, hrow.up s12, fun H3 t3 q3 ms3 s3 et3 eq3 hms3 => ?_⟩
        obtain ⟨f1, f2, f3⟩ := fin H3 t3 q3 ms3 x hzx s3 et3 eq3 hms3 y1 y2
        refine ⟨t3, _, rfl, .of et3, rfl, _, _, rfl, _, _, rfl, rfl, ?_⟩
        exact ⟨_, rfl, _, rfl, _, rfl, q, q3, ms, ms3, rfl, rfl, f1, eq3, f2, fun c' hc => ⟨(by show 2 ≤ sizeLine; decide), fun r hr' => f3 c' hc r hr'⟩⟩
      · have hin : i1 ∉ ch := by
          have z := inV_ints (x := i1) (xs := ch)
          exact of_decide_eq_false (z.symm.trans hin)
        obtain ⟨y1, y2⟩ := z2 hin
        obtain ⟨dx3, p3, i3, more3, e6, _, _⟩ := (hx.up s12).obj
        refine ⟨_, rfl, _, wk_at W (Nat.le_refl _) (hy.up s12) hdy, _, rfl, _, rfl, _, rfl, _, rfl, ax, _, dx3, _, _, rfl, e6, len_all G (by omega) x, x, ax, lx, rfl, hx.up s12, hzx, fun H2' s2' => ⟨_, rfl, ?_, ?_⟩⟩
        · have := hx.len; omega
        refine ⟨_, _, rfl, rfl, y, ay, ly, m, rd, _, E', ⟨hdy, rfl⟩, hzy, rfl, (hy.up s12).up s2', hm, (hrow.up s12).up s2', fun H3 t3 q3 ms3 s3 et3 eq3 hms3 => ?_⟩
        obtain ⟨f1, f2, f3⟩ := fin H3 t3 q3 ms3 y hzy (same_trans s2' s3) et3 eq3 hms3 y1 y2
        refine ⟨t3, _, rfl, .of et3, rfl, _, _, rfl, _, _, rfl, rfl, ?_⟩
        exact ⟨_, rfl, _, rfl, _, rfl, q, q3, ms, ms3, rfl, rfl, f1, eq3, f2, fun c' hc => ⟨(by show 2 ≤ sizeLine; decide), fun r hr' => f3 c' hc r hr'⟩⟩
  | .num _, h => exact absurd (show ("Number" : Str) = "Choice" from h) (by decide +kernel)
  | .ref _ _, h => exact absurd (show ("Reference" : Str) = "Choice" from h) (by decide +kernel)
  | .pair _ _ _, h => exact absurd (show ("Pair" : Str) = "Choice" from h) (by decide +kernel)
theorem pWk_imp {φ ψ : Fm → Prop} (h : ∀ f, ψ f → φ f) : ∀ vs H Q, pWk K ψ vs H Q → pWk K φ vs H Q := fun vs H Q ⟨f, a, l, m, rd, num, E, h1, r⟩ => ⟨f, a, l, m, rd, num, E, h f h1, r⟩
theorem wk_all (G : GD K mg) : ∀ n, WkAll w K mg base n
  | 0, f, hd => by
    match f, hd with
    | .num v, _ => exact ⟨_, fm_cls G (.num v), wk_meth G (.num v), ((k_Number_worked G).mono (by omega)).imp (pWk_imp fun g hg => hg.2)⟩
    | .ref wh c, _ => exact ⟨_, fm_cls G (.ref wh c), wk_meth G (.ref wh c), ((k_Reference_worked G).mono (by omega)).imp (pWk_imp fun g hg => hg.2)⟩
    | .pair o x y, hd => unfold Fm.depth at hd; omega
    | .cho t ch x y, hd => unfold Fm.depth at hd; omega
  | n + 1, f, hd => by
    have W := wk_all G n
    match f, hd with
    | .num v, _ => exact ⟨_, fm_cls G (.num v), wk_meth G (.num v), ((k_Number_worked G).mono (by omega)).imp (pWk_imp fun g hg => hg.2)⟩
    | .ref wh c, _ => exact ⟨_, fm_cls G (.ref wh c), wk_meth G (.ref wh c), ((k_Reference_worked G).mono (by omega)).imp (pWk_imp fun g hg => hg.2)⟩
    | .pair o x y, hd => exact ⟨_, fm_cls G (.pair o x y), wk_meth G (.pair o x y), (k_Pair_worked G W).imp (pWk_imp fun g hg => hg)⟩
    | .cho t ch x y, hd => exact ⟨_, fm_cls G (.cho t ch x y), wk_meth G (.cho t ch x y), (k_Choice_worked G W).imp (pWk_imp fun g hg => hg)⟩
end
end Bn
/-! W9: fits. -/
namespace Bn
open PySem PySem.Spec PyProof.Rows L2 StX GenW
open He (ga ma)
section
variable {w : World} {K : Fr} {mg : Str → Option Value} {base : Heap}
def qFit (K : Fr) (φ : Fm → Prop) : List V → Hp → V → Prop := fun vs H v => ∃ (f : Fm) (a : Addr) (l : List Addr) (m : Int) (c : Addr) (cs : List Str), φ f ∧ vs = [.ref a, .int m, .ref c] ∧ IsFm K H f a l ∧ f.fit m cs ∧ H c = some (.lst (cs.map V.str)) ∧ v = .bl true
theorem q_Formula_fits_itself (G : GD K mg) : Quiet PP w K mg base 1 (ma K (ga K "Formula") "fits_itself") (qFit K fun f => fO f = "Pair") := by
  obtain ⟨fd, F⟩ := fd_Formula_fits_itself G
  refine quiet_fn (k := 0) F sc_Formula_fits_itself (fun _ _ _ _ _ _ us hl => match us, hl with | [_, _, _], _ => rfl) (by rintro _ _ _ ⟨f, a, l, m, c, cs, _, rfl, _⟩; rfl) fun cdv A outer s H vs v hr hq => ?_
  obtain ⟨f, a, l, m, c, cs, hφ, rfl, hf, hfit, hc, rfl⟩ := hq
  exact ⟨_, pg_bl, rfl⟩
theorem q_Number_fits_itself (G : GD K mg) : Quiet PP w K mg base 1 (ma K (ga K "Number") "fits_itself") (qFit K fun f => fO f = "Number") := by
  obtain ⟨fd, F⟩ := fd_Number_fits_itself G
  refine quiet_fn (k := 0) F sc_Number_fits_itself (fun _ _ _ _ _ _ us hl => match us, hl with | [_, _, _], _ => rfl) (by rintro _ _ _ ⟨f, a, l, m, c, cs, _, rfl, _⟩; rfl) fun cdv A outer s H vs v hr hq => ?_
  obtain ⟨f, a, l, m, c, cs, hφ, rfl, hf, hfit, hc, rfl⟩ := hq
  match f, hφ with
  | .num i, _ =>
    obtain ⟨_, _, dx, p, i', e1, _, _⟩ := hf
    refine ⟨_, pg_lt (pg_fld (pg_var 0) rfl) (pg_var 1), ?_⟩
    refine ⟨_, rfl, a, _, dx, _, _, rfl, e1, (cf_Number G).cl, (cf_Number G).no _ (by decide +kernel), (by rfl), _, rfl, i, m, rfl, rfl, ?_⟩
    rw [decide_eq_true hfit.2]
  | .ref _ _, h => exact absurd (show ("Reference" : Str) = "Number" from h) (by decide +kernel)
  | .pair _ _ _, h => exact absurd (show ("Pair" : Str) = "Number" from h) (by decide +kernel)
  | .cho _ _ _ _, h => exact absurd (show ("Choice" : Str) = "Number" from h) (by decide +kernel)
theorem inV_strs {x : Str} {xs : List Str} : inV (.str x) (xs.map V.str) = decide (x ∈ xs) := by
  unfold inV
  induction xs with
  | nil => rfl
  | cons a r ih =>
    rw [List.map_cons, List.any_cons, ih]
    show ((a == x) || decide (x ∈ r)) = decide (x ∈ a :: r)
    by_cases h : a = x
    · simp [h]
    · have h' : ¬ x = a := fun e => h e.symm
      simp [h, h']
theorem flat_strs {xs : List Str} : (xs.map V.str).all flatV = true := by
  rw [List.all_eq_true]
  intro v hv
  obtain ⟨i, _, rfl⟩ := List.mem_map.mp hv
  rfl
theorem q_Reference_fits_itself (G : GD K mg) : Quiet PP w K mg base 1 (ma K (ga K "Reference") "fits_itself") (qFit K fun f => fO f = "Reference") := by
  obtain ⟨fd, F⟩ := fd_Reference_fits_itself G
  refine quiet_fn (k := 0) F sc_Reference_fits_itself (fun _ _ _ _ _ _ us hl => match us, hl with | [_, _, _], _ => rfl) (by rintro _ _ _ ⟨f, a, l, m, c, cs, _, rfl, _⟩; rfl) fun cdv A outer s H vs v hr hq => ?_
  obtain ⟨f, a, l, m, c, cs, hφ, rfl, hf, hfit, hc, rfl⟩ := hq
  match f, hφ with
  | .ref wh x, _ =>
    obtain ⟨_, dx, p, i', e1, _, _⟩ := hf
    obtain ⟨fl, cf, cm⟩ := wc_col G wh
    refine ⟨_, pg_in (pg_fld (pg_var 0) rfl) (pg_var 2) rfl, ?_⟩
    refine ⟨_, rfl, a, _, dx, _, V.str x, rfl, e1, cf.cl, cf.no _ cm, (by rfl), _, rfl, c, _, rfl, .of hc, rfl, flat_strs, ?_⟩
    rw [inV_strs, decide_eq_true (show x ∈ cs from hfit)]
  | .num _, h => exact absurd (show ("Number" : Str) = "Reference" from h) (by decide +kernel)
  | .pair _ _ _, h => exact absurd (show ("Pair" : Str) = "Reference" from h) (by decide +kernel)
  | .cho _ _ _ _, h => exact absurd (show ("Choice" : Str) = "Reference" from h) (by decide +kernel)
theorem q_Choice_fits_itself (G : GD K mg) : Quiet PP w K mg base 1 (ma K (ga K "Choice") "fits_itself") (qFit K fun f => fO f = "Choice") := by
  obtain ⟨fd, F⟩ := fd_Choice_fits_itself G
  have nd := sc_Choice_fits_itself.nd
  refine quiet_fn (k := 0) F sc_Choice_fits_itself (fun _ _ _ _ _ _ us hl => match us, hl with | [_, _, _], _ => rfl) (by rintro _ _ _ ⟨f, a, l, m, c, cs, _, rfl, _⟩; rfl) fun cdv A outer s H vs v hr hq => ?_
  obtain ⟨f, a, l, m, c, cs, hφ, rfl, hf, hfit, hc, rfl⟩ := hq
  match f, hφ with
  | .cho t ch x y, _ =>
    obtain ⟨dx, p, i, cc, at_, lt, ax, lx, ay, ly, e1, e2, e3, e4, _⟩ := hf
    refine ⟨_, pg_allLc (i := 3) (x := "number") (te := gLt (gVar 3) (gVar 1)) rfl (by rfl) (gf_all G) nd rfl (blkOk_by (N := N_Choice_fits_itself) (sc := defScope s_Choice_fits_itself) (by decide +kernel)) (by decide +kernel) (fun _ _ => rfl) (pg_fld (pg_var 0) rfl) (fun _ _ _ _ _ => pg_lt (pg_var 3) (pg_var 1)), ?_⟩
    refine ⟨_, rfl, a, _, dx, _, V.ref cc, rfl, e1, (cf_Choice G).cl, (cf_Choice G).no _ (by decide +kernel), (by rfl), cc, _, List.replicate ch.length true, rfl, .of e4, (by simp), fun j y b H' h1 h2 s => ?_, ?_⟩
    · rw [List.getElem?_map] at h1
      obtain ⟨n, hn, rfl⟩ := Option.map_eq_some_iff.mp h1
      have hb : b = true := by
        have := List.mem_of_getElem? h2
        exact (List.mem_replicate.mp this).2
      have := (hfit.2.2.2.1 n (List.mem_of_getElem? hn)).2
      refine ⟨_, rfl, _, rfl, n, m, rfl, rfl, ?_⟩
      rw [hb, decide_eq_true this]
    · have z : (List.replicate ch.length true).all id = true := by
        rw [List.all_eq_true]
        intro b hb
        exact (List.mem_replicate.mp hb).2
      rw [z]
  | .num _, h => exact absurd (show ("Number" : Str) = "Choice" from h) (by decide +kernel)
  | .ref _ _, h => exact absurd (show ("Reference" : Str) = "Choice" from h) (by decide +kernel)
  | .pair _ _ _, h => exact absurd (show ("Pair" : Str) = "Choice" from h) (by decide +kernel)
theorem fi_all (G : GD K mg) (f : Fm) : QMet PP w K mg base 1 (ga K (fC f)) "fits_itself" (qFit K fun g => fO g = fO f) := by
  match f with
  | .num v => exact ⟨_, fm_cls G (.num v), mt_Number_fits_itself G, q_Number_fits_itself G⟩
  | .ref .here c => exact ⟨_, fm_cls G (.ref .here c), mt_Here_fits_itself G, q_Reference_fits_itself G⟩
  | .ref .up c => exact ⟨_, fm_cls G (.ref .up c), mt_Up_fits_itself G, q_Reference_fits_itself G⟩
  | .ref .down c => exact ⟨_, fm_cls G (.ref .down c), mt_Down_fits_itself G, q_Reference_fits_itself G⟩
  | .pair .plus a b => exact ⟨_, fm_cls G (.pair .plus a b), mt_Plus_fits_itself G, q_Formula_fits_itself G⟩
  | .pair .least a b => exact ⟨_, fm_cls G (.pair .least a b), mt_Least_fits_itself G, q_Formula_fits_itself G⟩
  | .pair .most a b => exact ⟨_, fm_cls G (.pair .most a b), mt_Most_fits_itself G, q_Formula_fits_itself G⟩
  | .pair .same a b => exact ⟨_, fm_cls G (.pair .same a b), mt_Same_fits_itself G, q_Formula_fits_itself G⟩
  | .cho t ch a b => exact ⟨_, fm_cls G (.cho t ch a b), mt_Choice_fits_itself G, q_Choice_fits_itself G⟩
theorem nodes_all (G : GD K mg) (f : Fm) : Meth K (ga K (fC f)) "nodes" (ma K (ga K "Formula") "nodes") := by
  match f with
  | .num _ => exact mt_Number_nodes G
  | .ref .here _ => exact mt_Here_nodes G
  | .ref .up _ => exact mt_Up_nodes G
  | .ref .down _ => exact mt_Down_nodes G
  | .pair .plus _ _ => exact mt_Plus_nodes G
  | .pair .least _ _ => exact mt_Least_nodes G
  | .pair .most _ _ => exact mt_Most_nodes G
  | .pair .same _ _ => exact mt_Same_nodes G
  | .cho _ _ _ _ => exact mt_Choice_nodes G
theorem inner_no (G : GD K mg) (f : Fm) : NoAttr K (ga K (fC f)) "own_inner" := by
  match f with
  | .num _ => exact (cf_Number G).no _ (by decide +kernel)
  | .ref .here _ => exact (cf_Here G).no _ (by decide +kernel)
  | .ref .up _ => exact (cf_Up G).no _ (by decide +kernel)
  | .ref .down _ => exact (cf_Down G).no _ (by decide +kernel)
  | .pair .plus _ _ => exact (cf_Plus G).no _ (by decide +kernel)
  | .pair .least _ _ => exact (cf_Least G).no _ (by decide +kernel)
  | .pair .most _ _ => exact (cf_Most G).no _ (by decide +kernel)
  | .pair .same _ _ => exact (cf_Same G).no _ (by decide +kernel)
  | .cho _ _ _ _ => exact (cf_Choice G).no _ (by decide +kernel)
/-- the scope of the comprehension in fits -/
def fitsL : Scope := match defBody s_Formula_fits with
  | [.Return (some (.Call _ [.ListComp _ _ sc _] _ _)) _] => sc
  | _ => defScope s_Formula_fits
def pFits (K : Fr) : Pr := fun vs H Q => ∃ (f : Fm) (a : Addr) (l : List Addr) (m : Int) (c : Addr) (cs : List Str), vs = [.ref a, .int m, .ref c] ∧ IsFm K H f a l ∧ f.size ≤ 40 ∧ f.fit m cs ∧ H c = some (.lst (cs.map V.str)) ∧ Q (.bl true) H
theorem k_Formula_fits (G : GD K mg) : Keeps PP w K mg base 3 (ma K (ga K "Formula") "fits") (pFits K) := by
  obtain ⟨fd, F⟩ := fd_Formula_fits G
  obtain ⟨gfd, Fg⟩ := fd_Formula_nodes G
  have T : FitsT mg N_Formula_fits (defScope s_Formula_fits) fitsL (defScope s_Formula_nodes) := {
    sc := sc_Formula_fits
    gs := sc_Formula_nodes
    n0 := rfl
    n1 := rfl
    n2 := rfl
    n3 := rfl
    n4 := rfl
    v0 := by first | exact Or.inl rfl | exact Or.inr (Or.inl rfl) | exact Or.inr (Or.inr rfl)
    all_ := rfl
    mall := gf_all G
    menum := gf_enumerate G
    blk := blkOk_by (N := N_Formula_fits) (sc := defScope s_Formula_fits) (by decide +kernel)
    nocell := by decide +kernel
    l3 := fun _ _ _ _ => rfl
    l4 := fun _ _ _ _ => rfl
    va := fun C cl env he => Or.inr (Or.inl (by
      show (relabel fitsL env).names.lookup sMod = some .cell
      unfold relabel Env.kindOf
      rw [he]
      decide +kernel))
    vb := fun C cl env he => Or.inr (Or.inl (by
      show (relabel fitsL env).names.lookup sCols = some .cell
      unfold relabel Env.kindOf
      rw [he]
      decide +kernel))
    gself := rfl
    gnum := rfl
    gnode := rfl
    genum := rfl }
  have z := keeps_fits (k := 1) (P := PP) (w := w) (base := base) T F Fg (fun _ _ _ _ _ _ us hl => match us, hl with | [_, _, _], _ => rfl) (fun _ _ _ _ _ _ us hl => match us, hl with | [_], _ => rfl) (fun _ => rfl) (fun _ => rfl) (fun _ _ => rfl) (fun _ => rfl)
  refine z.imp ?_
  rintro vs H Q ⟨f, a, l, m, c, cs, rfl, hf, hz, hfit, hc, hq⟩
  obtain ⟨dx, p, i, more, e, ei, hm⟩ := hf.obj
  have hlen := hf.len
  have hs := sizeLine_eq
  refine ⟨a, _, dx, _, _, _, i, l.map V.ref, List.replicate (l.length + 1) true, rfl, e, hm.no (by decide +kernel) (by decide +kernel) (by decide +kernel) (by decide +kernel) (by decide +kernel) (by decide +kernel), ⟨fm_cls G f, inner_no G f, nodes_all G f⟩, by rfl, ei, by rw [List.length_map]; omega, by rw [List.length_replicate, List.length_map], fun j b v h1 h2 => ?_, ?_⟩
  · have hb : b = true := (List.mem_replicate.mp (List.mem_of_getElem? h2)).2
    subst hb
    have h1' : ((a :: l).map V.ref)[j]? = some v := h1
    rw [List.getElem?_map] at h1'
    obtain ⟨n, hn, rfl⟩ := Option.map_eq_some_iff.mp h1'
    obtain ⟨g, lg, hg, hgf⟩ := hf.nodes hfit n (List.mem_of_getElem? hn)
    obtain ⟨dx', p', i', more', e', _, hm'⟩ := hg.obj
    exact ⟨n, _, dx', _, _, rfl, e', hm'.no (by decide +kernel) (by decide +kernel) (by decide +kernel) (by decide +kernel) (by decide +kernel) (by decide +kernel), fi_all G g, fun H' s => ⟨g, n, lg, m, c, cs, rfl, rfl, hg.up s, hgf, s _ _ hc, rfl⟩⟩
  · have z : (List.replicate (l.length + 1) true).all id = true := by
      rw [List.all_eq_true]
      intro b hb
      exact (List.mem_replicate.mp hb).2
    rw [z]
    exact hq
theorem fits_met (G : GD K mg) {k : Nat} (hk : 3 ≤ k) (f : Fm) : MetR PP w K mg base k (ga K (fC f)) "fits" (pFits K) := by
  have F := (k_Formula_fits (w := w) (base := base) G).mono hk
  match f with
  | .num v => exact ⟨_, fm_cls G (.num v), mt_Number_fits G, F⟩
  | .ref .here c => exact ⟨_, fm_cls G (.ref .here c), mt_Here_fits G, F⟩
  | .ref .up c => exact ⟨_, fm_cls G (.ref .up c), mt_Up_fits G, F⟩
  | .ref .down c => exact ⟨_, fm_cls G (.ref .down c), mt_Down_fits G, F⟩
  | .pair .plus a b => exact ⟨_, fm_cls G (.pair .plus a b), mt_Plus_fits G, F⟩
  | .pair .least a b => exact ⟨_, fm_cls G (.pair .least a b), mt_Least_fits G, F⟩
  | .pair .most a b => exact ⟨_, fm_cls G (.pair .most a b), mt_Most_fits G, F⟩
  | .pair .same a b => exact ⟨_, fm_cls G (.pair .same a b), mt_Same_fits G, F⟩
  | .cho t ch a b => exact ⟨_, fm_cls G (.cho t ch a b), mt_Choice_fits G, F⟩
end
end Bn
/-! S1: sheets: what they are made of, what stands in the heap. -/
namespace Bn
open PySem PySem.Spec PyProof.Rows L2
open He (ga ma)
/-- a sheet's model -/
structure Sm where
  m : Int
  cols : List Str
  top : Str → Int
  kinds : List Str
  fm : Str → Str → Fm
  plan : List (List Str × (Str → Int))
namespace Sm
variable (S : Sm)
structure Ok : Prop where
  m2 : 2 ≤ S.m
  m9 : S.m ≤ 9
  c1 : 1 ≤ S.cols.length
  c4 : S.cols.length ≤ 4
  cn : S.cols.Nodup
  co : ∀ c ∈ S.cols, okName c = true
  t : ∀ c ∈ S.cols, 0 ≤ S.top c ∧ S.top c < S.m
  k1 : 1 ≤ S.kinds.length
  k3 : S.kinds.length ≤ 3
  kn : S.kinds.Nodup
  ko : ∀ k ∈ S.kinds, okName k = true
  f : ∀ k ∈ S.kinds, ∀ c ∈ S.cols, (S.fm k c).fit S.m S.cols ∧ (S.fm k c).size ≤ 7
  p1 : 1 ≤ S.plan.length
  p3 : S.plan.length ≤ 3
  pr : ∀ r ∈ S.plan, 1 ≤ r.1.length ∧ r.1.length ≤ 3 ∧ r.1.Nodup ∧ (∀ k ∈ r.1, k ∈ S.kinds) ∧ ∀ k ∈ r.1, 0 ≤ r.2 k ∧ r.2 k < S.plan.length
  pl : ∀ (i : Nat) (r : List Str × (Str → Int)), S.plan[i]? = some r → i + 1 < S.plan.length → ∃ k ∈ r.1, r.2 k = ((i + 1 : Nat) : Int)
end Sm
/-- a dict from names, by its items -/
def dct (l : List Str) (f : Str → V) : List (Key × V) := l.map fun c => (.inr c, f c)
theorem valV_dct (f : Str → V) (c : Str) : ∀ l : List Str, valV (dct l f) (.inr c) = if c ∈ l then some (f c) else none
  | [] => rfl
  | a :: l => by
    show valV ((.inr a, f a) :: dct l f) (.inr c) = _
    by_cases h : a = c
    · subst h
      rw [if_pos List.mem_cons_self]
      exact valV_pos (p := ((Sum.inr a : Key), f a)) rfl
    · rw [valV_neg (p := ((Sum.inr a : Key), f a)) (fun e => h (Sum.inr.inj e)), valV_dct f c l]
      by_cases hc : c ∈ l
      · rw [if_pos hc, if_pos (List.mem_cons_of_mem _ hc)]
      · rw [if_neg hc, if_neg (fun z => by rcases List.mem_cons.mp z with e | e; exact h e.symm; exact hc e)]
theorem dct_in {f : Str → V} {c : Str} {l : List Str} (h : c ∈ l) : valV (dct l f) (.inr c) = some (f c) := by rw [valV_dct, if_pos h]
theorem dct_no {f : Str → V} {c : Str} {l : List Str} (h : c ∉ l) : valV (dct l f) (.inr c) = none := by rw [valV_dct, if_neg h]
theorem dct_len {f : Str → V} {l : List Str} : (dct l f).length = l.length := List.length_map _
theorem dct_keys {f : Str → V} {l : List Str} : (dct l f).map (·.1) = l.map Sum.inr := by
  unfold dct
  rw [List.map_map]
  rfl
theorem dct_kvz (f : Str → V) : ∀ l : List Str, kvz (l.map Sum.inr) (l.map f) = dct l f
  | [] => rfl
  | a :: l => congrArg _ (dct_kvz f l)
theorem nd_map {α β : Type} {f : α → β} (hf : ∀ a b, f a = f b → a = b) : ∀ {l : List α}, l.Nodup → (l.map f).Nodup
  | [], _ => List.nodup_nil
  | a :: l, h => by
    rw [List.nodup_cons] at h
    rw [List.map_cons, List.nodup_cons]
    refine ⟨fun hm => ?_, nd_map hf h.2⟩
    obtain ⟨b, hb, e⟩ := List.mem_map.mp hm
    rw [hf _ _ e] at hb
    exact h.1 hb
theorem nd_inr {l : List Str} (h : l.Nodup) : (l.map (Sum.inr : Str → Key)).Nodup := nd_map (fun _ _ e => Sum.inr.inj e) h
theorem merge_dct {f : Str → V} : ∀ {l : List Str}, l.Nodup → mergeK [] (dct l f) = dct l f := by
  have key : ∀ (l acc : List Str), (acc ++ l).Nodup → mergeK (dct acc f) (dct l f) = dct (acc ++ l) f := by
    intro l
    induction l with
    | nil => intro acc _; rw [List.append_nil]; rfl
    | cons a l ih =>
      intro acc h
      have hn : a ∉ acc := fun hc => (List.nodup_append.mp h).2.2 a hc a List.mem_cons_self rfl
      show mergeK (putK (dct acc f) (.inr a) (f a)) (dct l f) = _
      rw [putK_new _ (dct_no hn)]
      have z : dct acc f ++ [((Sum.inr a : Key), f a)] = dct (acc ++ [a]) f := by unfold dct; rw [List.map_append]; rfl
      rw [z, ih (acc ++ [a]) (by rw [List.append_assoc]; exact h), List.append_assoc]
      rfl
  intro l h
  exact key l [] h
/-- the parts that a sheet is made of -/
structure Src (K : Fr) (H : Hp) (S : Sm) (c t k p : Addr) : Prop where
  c : H c = some (.lst (S.cols.map V.str))
  t : H t = some (.dK (dct S.cols fun x => .int (S.top x)))
  k : ∃ ka : Str → Addr, H k = some (.dK (dct S.kinds fun x => .ref (ka x))) ∧ ∀ x ∈ S.kinds, ∃ fa : Str → Addr, H (ka x) = some (.dK (dct S.cols fun y => .ref (fa y))) ∧ ∀ y ∈ S.cols, ∃ l, IsFm K H (S.fm x y) (fa y) l
  p : ∃ rs : List Addr, H p = some (.lst (rs.map V.ref)) ∧ Paired (fun a r => H a = some (.dK (dct r.1 fun x => .int (r.2 x)))) rs S.plan
theorem Src.up {K : Fr} {H H' : Hp} {S : Sm} {c t k p : Addr} (s : Same H H') (h : Src K H S c t k p) : Src K H' S c t k p := by
  obtain ⟨h1, h2, ⟨ka, h3, h4⟩, ⟨rs, h5, h6⟩⟩ := h
  refine ⟨s _ _ h1, s _ _ h2, ⟨ka, s _ _ h3, fun x hx => ?_⟩, ⟨rs, s _ _ h5, Paired.mapP h6 fun a r e => s _ _ e⟩⟩
  obtain ⟨fa, e1, e2⟩ := h4 x hx
  exact ⟨fa, s _ _ e1, fun y hy => let ⟨l, e⟩ := e2 y hy; ⟨l, e.up s⟩⟩
/-- a sheet at a -/
def IsSheet (K : Fr) (H : Hp) (a : Addr) (S : Sm) : Prop := ∃ dx c t k p, H a = some (.ins (ga K "Sheet") dx [("own_modulus", .int S.m), ("own_columns", .ref c), ("own_top", .ref t), ("own_formulas", .ref k), ("own_plan", .ref p)]) ∧
  H c = some (.tup (S.cols.map V.str)) ∧ H t = some (.dK (dct S.cols fun x => .int (S.top x))) ∧
  (∃ (ys : List Str) (ka : Str → Addr), ys.Perm S.kinds ∧ H k = some (.dK (dct ys fun x => .ref (ka x))) ∧ ∀ x ∈ S.kinds, ∃ fa : Str → Addr, H (ka x) = some (.dK (dct S.cols fun y => .ref (fa y))) ∧ ∀ y ∈ S.cols, ∃ l, IsFm K H (S.fm x y) (fa y) l) ∧
  ∃ rs : List Addr, H p = some (.lst (rs.map V.ref)) ∧ Paired (fun a r => ∃ ys : List Str, ys.Perm r.1 ∧ H a = some (.dK (dct ys fun x => .int (r.2 x)))) rs S.plan
theorem IsSheet.up {K : Fr} {H H' : Hp} {S : Sm} {a : Addr} (s : Same H H') (h : IsSheet K H a S) : IsSheet K H' a S := by
  obtain ⟨dx, c, t, k, p, h0, h1, h2, ⟨ys, ka, hy, h3, h4⟩, ⟨rs, h5, h6⟩⟩ := h
  refine ⟨dx, c, t, k, p, s _ _ h0, s _ _ h1, s _ _ h2, ⟨ys, ka, hy, s _ _ h3, fun x hx => ?_⟩, ⟨rs, s _ _ h5, Paired.mapP h6 fun a r ⟨ys, y1, e⟩ => ⟨ys, y1, s _ _ e⟩⟩⟩
  obtain ⟨fa, e1, e2⟩ := h4 x hx
  exact ⟨fa, s _ _ e1, fun y hy => let ⟨l, e⟩ := e2 y hy; ⟨l, e.up s⟩⟩
theorem paired_get {α β : Type} {F : α → β → Prop} : ∀ {as : List α} {bs : List β} {i : Nat} {a : α}, Paired F as bs → as[i]? = some a → ∃ b, bs[i]? = some b ∧ F a b
  | _, _, _, _, .nil, h => by simp at h
  | _, _, 0, _, .cons r _, h => by cases h; exact ⟨_, rfl, r⟩
  | _, _, i + 1, a, .cons _ t, h => by
    obtain ⟨b, h1, h2⟩ := paired_get (i := i) (a := a) t (by simpa using h)
    exact ⟨b, by simpa using h1, h2⟩
theorem paired_get' {α β : Type} {F : α → β → Prop} : ∀ {as : List α} {bs : List β} {i : Nat} {b : β}, Paired F as bs → bs[i]? = some b → ∃ a, as[i]? = some a ∧ F a b
  | _, _, _, _, .nil, h => by simp at h
  | _, _, 0, _, .cons r _, h => by cases h; exact ⟨_, rfl, r⟩
  | _, _, i + 1, b, .cons _ t, h => by
    obtain ⟨a, h1, h2⟩ := paired_get' (i := i) (b := b) t (by simpa using h)
    exact ⟨a, by simpa using h1, h2⟩
theorem paired_of {α β : Type} {F : α → β → Prop} : ∀ {as : List α} {bs : List β}, as.length = bs.length → (∀ (i : Nat) (a : α) (b : β), as[i]? = some a → bs[i]? = some b → F a b) → Paired F as bs
  | [], [], _, _ => .nil
  | [], _ :: _, h, _ => by simp at h
  | _ :: _, [], h, _ => by simp at h
  | a :: as, b :: bs, h, f => .cons (f 0 a b rfl rfl) (paired_of (by simpa using h) fun i x y h1 h2 => f (i + 1) x y (by simpa using h1) (by simpa using h2))
/-! ### a dict while it is walked -/
theorem lock_same {H H' : Hp} {d : Addr} {od : Obj} {u : HO} (hd : H d = some u) (s : Same (upd H d (.frz od u)) H') : Same H (upd H' d u) := fun b o e => by
  by_cases h : b = d
  · subst h
    rw [hd] at e
    cases e
    exact upd_same
  · rw [upd_ne h]
    exact s b o (by rw [upd_ne h]; exact e)
theorem lock_ne {H : Hp} {d b : Addr} {od : Obj} {u o : HO} (h : H b = some o) (hd : H d = some u) (hn : o ≠ u) : upd H d (.frz od u) b = some o := by rw [upd_ne (ne_of h hd hn)]; exact h
section
variable {X : Cx}
/-- len of a dict, also while it is walked -/
theorem call_lenR : CallR X (.builtin "len") (fun xs H Q => ∃ (a : Addr) (kvs : List (Key × V)), xs = [V.ref a] ∧ Rd H a (.dK kvs) ∧ Q (.int kvs.length) H) := by
  intro pins s σ H xs us Q I r h
  obtain ⟨a, kvs, rfl, ha, q⟩ := h
  obtain ⟨u, rfl, ru⟩ := vals1 r
  cases ru
  exact d_len I ha fun t s' I' => ⟨.int kvs.length, H, I', ⟨t, rfl⟩, q⟩
end
end Bn
/-! D4: nested comprehensions, functions out of lists, an object that is being made. -/
namespace Bn
open PySem PySem.Spec PyProof.Rows L2
open He (ga ma)
/-- an expression that is not reached -/
theorem pe_nv {X : Cx} {e : Expr} : PE X e (fun _ _ _ => False) := ⟨fun _ _ _ _ _ _ h => h.elim⟩
def cscope : Expr → Scope
  | .ListComp _ _ sc _ => sc
  | .DictComp _ _ _ sc _ => sc
  | _ => { kind := .function, names := [], isGenerator := false, isCoroutine := false }
def aval : Stmt → Expr
  | .Assign _ e _ => e
  | .Return (some e) _ => e
  | .Expr e _ => e
  | _ => .Constant .none 0 ⟨0, 0, 0, 0⟩
/-- the scope of a comprehension within a def of this scope -/
def rl (sc outer : Scope) : Scope := relabel sc (envOfC Str.empty outer 0 0 .none)
theorem refs_fun {P : Str → Addr → Prop} : ∀ {ks : List Str} {zs : List V}, ks.Nodup → zs.length = ks.length → (∀ (i : Nat) (z : V), zs[i]? = some z → ∃ k a, ks[i]? = some k ∧ z = .ref a ∧ P k a) → ∃ fa : Str → Addr, kvz (ks.map Sum.inr) zs = dct ks (fun k => .ref (fa k)) ∧ ∀ k ∈ ks, P k (fa k)
  | [], [], _, _, _ => ⟨fun _ => 0, rfl, fun _ h => nomatch h⟩
  | [], _ :: _, _, h, _ => by simp at h
  | _ :: _, [], _, h, _ => by simp at h
  | k :: ks, z :: zs, hn, hl, h => by
    rw [List.nodup_cons] at hn
    obtain ⟨fa, e, hp⟩ := refs_fun (P := P) (ks := ks) (zs := zs) hn.2 (by simpa using hl) (fun i y hy => by simpa using h (i + 1) y (by simpa using hy))
    obtain ⟨k', a, h1, rfl, hP⟩ := h 0 z rfl
    cases h1
    refine ⟨fun x => if x = k then a else fa x, ?_, fun x hx => ?_⟩
    · show ((Sum.inr k : Key), V.ref a) :: kvz (ks.map Sum.inr) zs = ((Sum.inr k : Key), V.ref (if k = k then a else fa k)) :: dct ks _
      rw [if_pos rfl, e]
      congr 1
      unfold dct
      refine List.map_congr_left fun x hx => ?_
      have hne : ¬ x = k := fun z => hn.1 (z ▸ hx)
      show ((Sum.inr x : Key), V.ref (fa x)) = ((Sum.inr x : Key), V.ref (if x = k then a else fa x))
      rw [if_neg hne]
    · by_cases hxk : x = k
      · subst hxk
        show P x (if x = x then a else fa x)
        rw [if_pos rfl]
        exact hP
      · show P x (if x = k then a else fa x)
        rw [if_neg hxk]
        rcases List.mem_cons.mp hx with e' | hx
        · exact absurd e' hxk
        · exact hp x hx
theorem refs_list {P : Nat → Addr → Prop} : ∀ {ys : List V}, (∀ (i : Nat) (y : V), ys[i]? = some y → ∃ a, y = .ref a ∧ P i a) → ∃ rs : List Addr, ys = rs.map V.ref ∧ ∀ (i : Nat) (a : Addr), rs[i]? = some a → P i a
  | [], _ => ⟨[], rfl, fun _ _ h => by simp at h⟩
  | y :: ys, h => by
    obtain ⟨rs, e, hp⟩ := refs_list (P := fun i => P (i + 1)) (ys := ys) (fun i z hz => h (i + 1) z (by simpa using hz))
    obtain ⟨a, rfl, hP⟩ := h 0 y rfl
    refine ⟨a :: rs, by rw [e]; rfl, fun i b hb => ?_⟩
    cases i with
    | zero => cases hb; exact hP
    | succ i => exact hp i b (by simpa using hb)
theorem dct_congr {f g : Str → V} {l : List Str} (h : ∀ x ∈ l, f x = g x) : dct l f = dct l g := by
  unfold dct
  exact List.map_congr_left fun x hx => by rw [h x hx]
/-! ### the heap without the object that is being made -/
theorem SB.of_dr {x : Addr} {H H' : Hp} (s : Same (dr x H) H') : SB x H H' := fun b o n e => s b o (by rw [dr_ne n]; exact e)
theorem TI.drI {x C dx : Addr} {H : Hp} (h : H x = some (.ins C dx [])) : TI H (Bn.dr x H) := ⟨fun b C' dx' g fs e => dr_of e h (fun z => nomatch z), fun b xs e => dr_of e h (fun z => nomatch z)⟩
theorem Src.dr {K : Fr} {H : Hp} {S : Sm} {c t k p x C dx : Addr} (hx : H x = some (.ins C dx [])) (h : Src K H S c t k p) : Src K (Bn.dr x H) S c t k p := by
  obtain ⟨h1, h2, ⟨ka, h3, h4⟩, ⟨rs, h5, h6⟩⟩ := h
  have d : ∀ {b : Addr} {kvs : List (Key × V)}, H b = some (.dK kvs) → Bn.dr x H b = some (.dK kvs) := fun e => dr_of e hx (fun z => nomatch z)
  have l : ∀ {b : Addr} {xs : List V}, H b = some (.lst xs) → Bn.dr x H b = some (.lst xs) := fun e => dr_of e hx (fun z => nomatch z)
  refine ⟨l h1, d h2, ⟨ka, d h3, fun z hz => ?_⟩, ⟨rs, l h5, Paired.mapP h6 fun a r e => d e⟩⟩
  obtain ⟨fa, e1, e2⟩ := h4 z hz
  exact ⟨fa, d e1, fun y hy => let ⟨l, e⟩ := e2 y hy; ⟨l, e.ti (TI.drI hx)⟩⟩
/-- a new object: the view without x grows -/
theorem dr_grow {x q : Addr} {H : Hp} {o u : HO} (hx : H x = some u) (hq : H q = none) : Same (dr x H) (dr x (upd H q o)) := dr_same (Same.new hq)
theorem ne_fresh {x q : Addr} {H : Hp} {u : HO} (hx : H x = some u) (hq : H q = none) : q ≠ x := fun e => by rw [e, hx] at hq; cases hq
/-- x is being made: it has fs so far, all else has only grown since H0 -/
structure Mkg (C dx x : Addr) (H0 : Hp) (fs : List (Str × V)) (H : Hp) : Prop where
  v : Same (dr x H0) (dr x H)
  o : H x = some (.ins C dx fs)
section
variable {C dx x q : Addr} {H0 H H' : Hp} {fs : List (Str × V)} {o : HO}
theorem Mkg.set (m : Mkg C dx x H0 fs H) (f : Str) (v : V) : Mkg C dx x H0 (putF f v fs) (upd H x (.ins C dx (putF f v fs))) := ⟨by rw [dr_upd]; exact m.v, upd_same⟩
theorem Mkg.same (m : Mkg C dx x H0 fs H) (s : Same H H') : Mkg C dx x H0 fs H' := ⟨same_trans m.v (dr_same s), s _ _ m.o⟩
theorem Mkg.new (m : Mkg C dx x H0 fs H) (h : H q = none) : Mkg C dx x H0 fs (upd H q o) := m.same (Same.new h)
theorem Mkg.sb (m : Mkg C dx x H0 fs H) : SB x H0 H := SB.of_dr (same_trans m.v dr_le)
theorem Mkg.at_ (m : Mkg C dx x H0 fs H) {b : Addr} {u : HO} (h : dr x H0 b = some u) : H b = some u := dr_le _ _ (m.v _ _ h)
end
end Bn
/-! D5: what draws change: the pot alone; drawn formulas as tuples. -/
namespace Bn
open PySem PySem.Spec PyProof.Rows L2
def PotAt (H : Hp) (p : Addr) : Prop := ∃ a b : Int, H p = some (.lst [.int a, .int b]) ∧ 0 ≤ a ∧ 0 ≤ b ∧ b < 2147483648
structure Drw (p : Addr) (H H' : Hp) : Prop where
  pot : PotAt H' p
  s : Same (dr p H) (dr p H')
theorem PotAt.up {H H' : Hp} {p : Addr} (s : Same H H') (h : PotAt H p) : PotAt H' p := let ⟨a, b, e, r⟩ := h; ⟨a, b, s _ _ e, r⟩
theorem PotAt.ne {H : Hp} {p q : Addr} (h : PotAt H p) (hq : H q = none) : q ≠ p := fun e => by obtain ⟨a, b, e2, _⟩ := h; rw [e, e2] at hq; cases hq
namespace Drw
variable {p q : Addr} {H H' H'' : Hp} {o : HO}
theorem refl (h : PotAt H p) : Drw p H H := ⟨h, Same.refl _⟩
theorem trans (a : Drw p H H') (b : Drw p H' H'') : Drw p H H'' := ⟨b.pot, same_trans a.s b.s⟩
theorem of (h : PotAt H p) (s : Same H H') : Drw p H H' := ⟨h.up s, dr_same s⟩
theorem same (a : Drw p H H') (s : Same H' H'') : Drw p H H'' := ⟨a.pot.up s, same_trans a.s (dr_same s)⟩
theorem new (a : Drw p H H') (hq : H' q = none) : Drw p H (upd H' q o) := a.same (Same.new hq)
/-- what was new since H is another one now -/
theorem put (a : Drw p H H') (hq : dr p H q = none) (hp : q ≠ p) : Drw p H (upd H' q o) := by
  obtain ⟨⟨x, y, e, r⟩, s⟩ := a
  refine ⟨⟨x, y, by rw [upd_ne hp.symm]; exact e, r⟩, ?_⟩
  rw [dr_upd_ne hp]
  exact L2.Same.put s hq
theorem free (a : Drw p H H') (hq : H' q = none) : dr p H q = none := by
  exact a.s.free (dr_free hq)
theorem fresh (a : Drw p H H') (hq : H' q = none) : H q = none := by
  have h1 := a.free hq
  by_cases e : q = p
  · obtain ⟨x, y, e2, _⟩ := a.pot
    rw [e, e2] at hq
    cases hq
  · rw [dr_ne e] at h1; exact h1
theorem at_ (a : Drw p H H') (h : dr p H q = some o) : H' q = some o := dr_le _ _ (a.s _ _ h)
end Drw
theorem dr_tup {p q : Addr} {H : Hp} {xs : List V} (hp : PotAt H p) (h : H q = some (.tup xs)) : dr p H q = some (.tup xs) := by
  obtain ⟨a, b, e, _⟩ := hp
  exact dr_of h e (fun z => nomatch z)
theorem dr_dK {p q : Addr} {H : Hp} {kvs : List (Key × V)} (hp : PotAt H p) (h : H q = some (.dK kvs)) : dr p H q = some (.dK kvs) := by
  obtain ⟨a, b, e, _⟩ := hp
  exact dr_of h e (fun z => nomatch z)
def oW : O2 → Str
  | .plus => "plus"
  | .least => "least"
  | .most => "most"
  | .same => "same"
/-- the formula as tuples -/
def IsMd (H : Hp) : Fm → Addr → Prop
  | .num v, a => H a = some (.tup [.str "number", .int v])
  | .ref w c, a => H a = some (.tup [.str (wS w), .str c])
  | .pair o x y, a => ∃ ax ay, H a = some (.tup [.str (oW o), .ref ax, .ref ay]) ∧ IsMd H x ax ∧ IsMd H y ay
  | .cho t ch x y, a => ∃ at_ c ax ay, H a = some (.tup [.str "choice", .ref at_, .ref c, .ref ax, .ref ay]) ∧ H c = some (.tup (ch.map V.int)) ∧ IsMd H t at_ ∧ IsMd H x ax ∧ IsMd H y ay
theorem IsMd.ts {H H' : Hp} (s : ∀ b xs, H b = some (.tup xs) → H' b = some (.tup xs)) : ∀ {f : Fm} {a : Addr}, IsMd H f a → IsMd H' f a
  | .num v, _, h => s _ _ h
  | .ref w c, _, h => s _ _ h
  | .pair o x y, _, ⟨ax, ay, e, h1, h2⟩ => ⟨ax, ay, s _ _ e, IsMd.ts s h1, IsMd.ts s h2⟩
  | .cho t ch x y, _, ⟨at_, c, ax, ay, e, e2, h0, h1, h2⟩ => ⟨at_, c, ax, ay, s _ _ e, s _ _ e2, IsMd.ts s h0, IsMd.ts s h1, IsMd.ts s h2⟩
theorem IsMd.up {H H' : Hp} (s : Same H H') {f : Fm} {a : Addr} (h : IsMd H f a) : IsMd H' f a := h.ts fun b xs e => s b _ e
theorem IsMd.drw {p : Addr} {H H' : Hp} (hp : PotAt H p) (d : Drw p H H') {f : Fm} {a : Addr} (h : IsMd H f a) : IsMd H' f a := h.ts fun b xs e => d.at_ (dr_tup hp e)
theorem IsMd.updL {H : Hp} {q : Addr} {u o : HO} (hq : H q = some u) (d : ∀ xs, HO.tup xs ≠ u) {f : Fm} {a : Addr} (h : IsMd H f a) : IsMd (upd H q o) f a := h.ts fun b xs e => by rw [upd_ne (ne_of e hq (d xs))]; exact e
theorem IsMd.dr {H : Hp} {q : Addr} {u : HO} (hq : H q = some u) (d : ∀ xs, HO.tup xs ≠ u) {f : Fm} {a : Addr} (h : IsMd H f a) : IsMd (Bn.dr q H) f a := h.ts fun b xs e => dr_of e hq (d xs)
theorem erase_perm {α : Type} : ∀ {l : List α} {k : Nat} {y : α}, l[k]? = some y → (y :: l.eraseIdx k).Perm l
  | [], _, _, h => by simp at h
  | x :: l, 0, y, h => by cases h; exact List.Perm.refl _
  | x :: l, k + 1, y, h => by
    have ih := erase_perm (l := l) (k := k) (y := y) (by simpa using h)
    exact (List.Perm.swap x y _).trans (ih.cons x)
theorem map_eraseIdx' {α β : Type} (f : α → β) : ∀ (l : List α) (k : Nat), (l.map f).eraseIdx k = (l.eraseIdx k).map f
  | [], _ => rfl
  | x :: l, 0 => rfl
  | x :: l, k + 1 => congrArg (f x :: ·) (map_eraseIdx' f l k)
end Bn
/-! M2: the solver's lists, plain. -/
namespace Bn
open PySem
abbrev Ct : Type := Addr × Cell
abbrev Bh : Type := List (Cell × Addr × List Ct)
def lead (c : Cell) (g : Nd) : Cell := (c.1 + dl g.1, g.2)
def fnd (bs : Bh) (g : Cell) : Option (Addr × List Ct) := (bs.find? fun e => decide (e.1 = g)).map (·.2)
def drp (bs : Bh) (g : Cell) : Bh := bs.filter fun e => decide (e.1 ≠ g)
def app (bs : Bh) (g : Cell) (t : Ct) : Bh := bs.map fun e => if e.1 = g then (e.1, e.2.1, e.2.2 ++ [t]) else e
def tot (bs : Bh) : Nat := (bs.map fun e => e.2.2.length).sum
theorem fnd_cons {e : Cell × Addr × List Ct} {bs : Bh} {g : Cell} : fnd (e :: bs) g = if e.1 = g then some e.2 else fnd bs g := by
  unfold fnd
  rw [List.find?_cons]
  by_cases h : e.1 = g
  · simp [h]
  · simp [h]
theorem fnd_mem : ∀ {bs : Bh} {g : Cell} {x : Addr × List Ct}, fnd bs g = some x → (g, x) ∈ bs
  | [], _, _, h => by cases h
  | e :: bs, g, x, h => by
    rw [fnd_cons] at h
    by_cases hg : e.1 = g
    · rw [if_pos hg] at h
      cases h
      rw [← hg]
      exact List.mem_cons_self
    · rw [if_neg hg] at h
      exact List.mem_cons_of_mem _ (fnd_mem h)
theorem fnd_not : ∀ {bs : Bh} {g : Cell}, fnd bs g = none → g ∉ bs.map (·.1)
  | [], _, _ => by simp
  | e :: bs, g, h => by
    rw [fnd_cons] at h
    by_cases hg : e.1 = g
    · rw [if_pos hg] at h; cases h
    · rw [if_neg hg] at h
      rw [List.map_cons, List.mem_cons]
      rintro (z | z)
      · exact hg z.symm
      · exact fnd_not h z
theorem fnd_of : ∀ {bs : Bh} {e : Cell × Addr × List Ct}, (bs.map (·.1)).Nodup → e ∈ bs → fnd bs e.1 = some e.2
  | f :: bs, e, hn, he => by
    rw [fnd_cons]
    rw [List.map_cons, List.nodup_cons] at hn
    rcases List.mem_cons.mp he with rfl | he
    · rw [if_pos rfl]
    · rw [if_neg fun z => hn.1 (by rw [z]; exact List.mem_map_of_mem he)]
      exact fnd_of hn.2 he
theorem drp_no : ∀ {bs : Bh} {g : Cell}, g ∉ bs.map (·.1) → drp bs g = bs
  | [], _, _ => rfl
  | e :: bs, g, h => by
    rw [List.map_cons, List.mem_cons, not_or] at h
    unfold drp
    rw [List.filter_cons, if_pos (by simpa using fun z => h.1 z.symm)]
    exact congrArg _ (drp_no h.2)
theorem drp_mem {bs : Bh} {g : Cell} {e : Cell × Addr × List Ct} : e ∈ drp bs g ↔ e ∈ bs ∧ e.1 ≠ g := by
  unfold drp
  rw [List.mem_filter]
  simp
theorem drp_tot : ∀ {bs : Bh} {g : Cell} {x : Addr × List Ct}, (bs.map (·.1)).Nodup → fnd bs g = some x → tot bs = tot (drp bs g) + x.2.length
  | e :: bs, g, x, hn, h => by
    rw [fnd_cons] at h
    rw [List.map_cons, List.nodup_cons] at hn
    by_cases hg : e.1 = g
    · rw [if_pos hg] at h
      cases h
      have z : drp (e :: bs) g = bs := by
        unfold drp
        rw [List.filter_cons, if_neg (by simpa using hg)]
        exact drp_no (hg ▸ hn.1)
      rw [z]
      unfold tot
      rw [List.map_cons, List.sum_cons]
      omega
    · rw [if_neg hg] at h
      have ih := drp_tot hn.2 h
      have z : drp (e :: bs) g = e :: drp bs g := by
        unfold drp
        rw [List.filter_cons, if_pos (by simpa using hg)]
      rw [z]
      unfold tot at ih ⊢
      rw [List.map_cons, List.sum_cons, List.map_cons, List.sum_cons]
      omega
theorem drp_nd {bs : Bh} {g : Cell} (h : (bs.map (·.1)).Nodup) : ((drp bs g).map (·.1)).Nodup := List.Nodup.sublist (List.Sublist.map _ List.filter_sublist) h
theorem app_keys {bs : Bh} {g : Cell} {t : Ct} : (app bs g t).map (·.1) = bs.map (·.1) := by
  unfold app
  rw [List.map_map]
  apply List.map_congr_left
  intro e _
  show (if e.1 = g then (e.1, e.2.1, e.2.2 ++ [t]) else e).1 = e.1
  split <;> rfl
theorem app_addrs {bs : Bh} {g : Cell} {t : Ct} : (app bs g t).map (·.2.1) = bs.map (·.2.1) := by
  unfold app
  rw [List.map_map]
  apply List.map_congr_left
  intro e _
  show (if e.1 = g then (e.1, e.2.1, e.2.2 ++ [t]) else e).2.1 = e.2.1
  split <;> rfl
theorem app_no : ∀ {bs : Bh} {g : Cell} {t : Ct}, g ∉ bs.map (·.1) → app bs g t = bs
  | [], _, _, _ => rfl
  | e :: bs, g, t, h => by
    rw [List.map_cons, List.mem_cons, not_or] at h
    unfold app
    rw [List.map_cons, if_neg fun z => h.1 z.symm]
    exact congrArg _ (app_no h.2)
theorem app_tot : ∀ {bs : Bh} {g : Cell} {t : Ct} {x : Addr × List Ct}, (bs.map (·.1)).Nodup → fnd bs g = some x → tot (app bs g t) = tot bs + 1
  | e :: bs, g, t, x, hn, h => by
    rw [fnd_cons] at h
    rw [List.map_cons, List.nodup_cons] at hn
    by_cases hg : e.1 = g
    · have z : app (e :: bs) g t = (e.1, e.2.1, e.2.2 ++ [t]) :: bs := by
        unfold app
        rw [List.map_cons, if_pos hg]
        exact congrArg _ (app_no (bs := bs) (hg ▸ hn.1))
      rw [z]
      unfold tot
      rw [List.map_cons, List.sum_cons, List.map_cons, List.sum_cons]
      simp only [List.length_append, List.length_singleton]
      omega
    · rw [if_neg hg] at h
      have ih := app_tot (t := t) hn.2 h
      have z : app (e :: bs) g t = e :: app bs g t := by
        unfold app
        rw [List.map_cons, if_neg hg]
      rw [z]
      unfold tot at ih ⊢
      rw [List.map_cons, List.sum_cons, List.map_cons, List.sum_cons]
      omega
theorem app_mem {bs : Bh} {g : Cell} {t : Ct} {e : Cell × Addr × List Ct} (h : e ∈ app bs g t) : (e ∈ bs ∧ e.1 ≠ g) ∨ ∃ f ∈ bs, f.1 = g ∧ e = (f.1, f.2.1, f.2.2 ++ [t]) := by
  obtain ⟨f, hf, rfl⟩ := List.mem_map.mp h
  by_cases hg : f.1 = g
  · exact .inr ⟨f, hf, hg, by rw [if_pos hg]⟩
  · rw [if_neg hg]; exact .inl ⟨hf, hg⟩
theorem mem_app {bs : Bh} {g : Cell} {t : Ct} {e : Cell × Addr × List Ct} (h : e ∈ bs) : ∃ f ∈ app bs g t, f.1 = e.1 ∧ (∀ c ∈ e.2.2, c ∈ f.2.2) ∧ (e.1 = g → t ∈ f.2.2) := by
  by_cases hg : e.1 = g
  · exact ⟨(e.1, e.2.1, e.2.2 ++ [t]), List.mem_map.mpr ⟨e, h, by rw [if_pos hg]⟩, rfl, fun c hc => List.mem_append_left _ hc, fun _ => by simp⟩
  · exact ⟨e, List.mem_map.mpr ⟨e, h, by rw [if_neg hg]⟩, rfl, fun c hc => hc, fun z => absurd z hg⟩
/-- the list of those that wait behind g has one more -/
def add (bs : Bh) (g : Cell) (t : Ct) (l : Addr) : Bh := match fnd bs g with
  | some _ => app bs g t
  | none => bs ++ [(g, l, [t])]
namespace Prb
variable (p : Prb)
def met (S : Vn) (r : Int) (c : Str) : List Nd := (p.F r c).mt p.m (env S r)
structure SI (S : Vn) (wt : List Ct) (bs : Bh) (sq : List Ct) : Prop where
  good : p.Good S
  iw : ∀ t ∈ wt, p.In t.2.1 t.2.2
  ib : ∀ e ∈ bs, ∀ t ∈ e.2.2, p.In t.2.1 t.2.2
  nd : (bs.map (·.1)).Nodup
  cov : ∀ r c, p.In r c → S r c ≠ none ∨ (∃ t ∈ wt, t.2 = (r, c)) ∨ ∃ e ∈ bs, (∃ t ∈ e.2.2, t.2 = (r, c)) ∧ S e.1.1 e.1.2 = none ∧ ∃ g, p.at_ S r c = .error g ∧ lead (r, c) g = e.1
  sv : ∀ r c, p.In r c → S r c ≠ none → ∃ t ∈ sq, t.2 = (r, c)
  so : ∀ (i : Nat) (t : Ct), sq[i]? = some t → p.In t.2.1 t.2.2 ∧ S t.2.1 t.2.2 ≠ none ∧ ∀ g ∈ p.met S t.2.1 t.2.2, p.In (lead t.2 g).1 (lead t.2 g).2 → ∃ u ∈ sq.take i, u.2 = lead t.2 g
variable {p} {S : Vn} {wt : List Ct} {bs : Bh} {sq : List Ct}
theorem SI.closed (h : p.SI S [] bs sq) : p.Closed S := fun r c v hi e => by
  rcases h.cov r c hi with q | ⟨t, ht, _⟩ | ⟨e', _, _, _, g, e2, _⟩
  · cases e1 : S r c with
    | none => exact absurd e1 q
    | some u => rw [h.good.agree hi e u e1]
  · cases ht
  · rw [e] at e2; cases e2
/-- a cell with a value: it takes its place, those that waited for it come back -/
theorem SI.val (wf : p.Wf) {t : Ct} {v : Int} (h : p.SI S (wt ++ [t]) bs sq) (e : p.at_ S t.2.1 t.2.2 = .ok v) :
    p.SI (put S t.2.1 t.2.2 v) (wt ++ ((fnd bs t.2).map (·.2)).getD []) (drp bs t.2) (sq ++ [t]) := by
  have hi : p.In t.2.1 t.2.2 := h.iw t (by simp)
  have hle : LeV S (Prb.put S t.2.1 t.2.2 v) := put_le (h.good.agree hi e)
  have hput : ∀ r c, (r, c) ≠ t.2 → Prb.put S t.2.1 t.2.2 v r c = S r c := fun r c hne => by
    unfold Prb.put
    rw [if_neg fun z => hne (Prod.ext z.1 z.2)]
  refine ⟨h.good.put wf hi e, fun u hu => ?_, fun e' he' u hu => h.ib e' (drp_mem.mp he').1 u hu, drp_nd h.nd, fun r c hrc => ?_, fun r c hrc hs => ?_, fun i u hu => ?_⟩
  · rcases List.mem_append.mp hu with hu | hu
    · exact h.iw u (List.mem_append_left _ hu)
    · cases hf : fnd bs t.2 with
      | none => rw [hf] at hu; simp at hu
      | some x => rw [hf] at hu; exact h.ib _ (fnd_mem hf) u hu
  · by_cases hc : (r, c) = t.2
    · left
      have z : Prb.put S t.2.1 t.2.2 v r c = some v := by rw [← hc]; exact put_at
      rw [z]
      exact fun z => nomatch z
    · rcases h.cov r c hrc with q | ⟨u, hu, q⟩ | ⟨e', he', ⟨u, hu, q⟩, hn, g, hg, hl⟩
      · left
        rw [hput r c hc]
        exact q
      · rcases List.mem_append.mp hu with hu | hu
        · exact .inr (.inl ⟨u, List.mem_append_left _ hu, q⟩)
        · cases List.mem_singleton.mp hu
          exact absurd q.symm hc
      · by_cases hg' : e'.1 = t.2
        · right
          left
          have hf := fnd_of h.nd he'
          rw [hg'] at hf
          exact ⟨u, List.mem_append_right _ (by rw [hf]; exact hu), q⟩
        · right
          right
          have hn' : Prb.put S t.2.1 t.2.2 v e'.1.1 e'.1.2 = none := by rw [hput _ _ hg']; exact hn
          refine ⟨e', drp_mem.mpr ⟨he', hg'⟩, ⟨u, hu, q⟩, hn', g, Fm.ev_stay (hle.env r) hg ?_, hl⟩
          rw [← hl] at hn'
          exact hn'
  · by_cases hc : (r, c) = t.2
    · exact ⟨t, by simp, hc.symm⟩
    · rw [hput r c hc] at hs
      obtain ⟨u, hu, q⟩ := h.sv r c hrc hs
      exact ⟨u, List.mem_append_left _ hu, q⟩
  · have old : ∀ (i : Nat) (u : Ct), sq[i]? = some u → p.In u.2.1 u.2.2 ∧ Prb.put S t.2.1 t.2.2 v u.2.1 u.2.2 ≠ none ∧ ∀ g ∈ p.met (Prb.put S t.2.1 t.2.2 v) u.2.1 u.2.2, p.In (lead u.2 g).1 (lead u.2 g).2 → ∃ u' ∈ sq.take i, u'.2 = lead u.2 g := fun i u hu => by
      obtain ⟨a, b, c⟩ := h.so i u hu
      cases e1 : S u.2.1 u.2.2 with
      | none => exact absurd e1 b
      | some x =>
        refine ⟨a, (by rw [hle _ _ _ e1]; exact fun z => (nomatch z)), fun g hg => c g ?_⟩
        have z := (Fm.ev_mono (hle.env u.2.1) (h.good.just _ _ _ a e1)).2
        unfold met at hg ⊢
        rw [← z]
        exact hg
    by_cases hlt : i < sq.length
    · rw [List.getElem?_append_left hlt] at hu
      obtain ⟨a, b, c⟩ := old i u hu
      refine ⟨a, b, fun g hg hin => ?_⟩
      obtain ⟨u', hu', q⟩ := c g hg hin
      exact ⟨u', by rw [List.take_append_of_le_length (Nat.le_of_lt hlt)]; exact hu', q⟩
    · have hlt2 : i < (sq ++ [t]).length := (List.getElem?_eq_some_iff.mp hu).1
      have hi' : i = sq.length := by simp at hlt2; omega
      subst hi'
      rw [List.getElem?_append_right (Nat.le_refl _), Nat.sub_self] at hu
      cases hu
      refine ⟨hi, (by rw [put_at]; exact fun z => (nomatch z)), fun g hg hin => ?_⟩
      have z := (Fm.ev_mono (hle.env t.2.1) e)
      have hg' : g ∈ p.met S t.2.1 t.2.2 := by
        unfold met at hg ⊢
        rw [← z.2]
        exact hg
      have hs := Fm.ev_met e g hg'
      obtain ⟨u, hu, q⟩ := h.sv _ _ hin (by
        intro z
        have z' : (env S t.2.1 g.1 g.2).isSome = true := hs
        have z2 : env S t.2.1 g.1 g.2 = none := z
        rw [z2] at z'
        cases z')
      exact ⟨u, by simpa using hu, q⟩
/-- a cell without a value: it waits behind the one that it needs -/
theorem SI.wait {t : Ct} {g : Nd} {l : Addr} (h : p.SI S (wt ++ [t]) bs sq) (e : p.at_ S t.2.1 t.2.2 = .error g) : p.SI S wt (add bs (lead t.2 g) t l) sq := by
  have hi : p.In t.2.1 t.2.2 := h.iw t (by simp)
  have hn : S (lead t.2 g).1 (lead t.2 g).2 = none := (Fm.ev_err e).1
  have hcov : ∀ r c, p.In r c → S r c ≠ none ∨ (∃ u ∈ wt, u.2 = (r, c)) ∨ (r, c) = t.2 ∨ ∃ e' ∈ bs, (∃ u ∈ e'.2.2, u.2 = (r, c)) ∧ S e'.1.1 e'.1.2 = none ∧ ∃ g', p.at_ S r c = .error g' ∧ lead (r, c) g' = e'.1 := fun r c hrc => by
    rcases h.cov r c hrc with q | ⟨u, hu, q⟩ | q
    · exact .inl q
    · rcases List.mem_append.mp hu with hu | hu
      · exact .inr (.inl ⟨u, hu, q⟩)
      · cases List.mem_singleton.mp hu
        exact .inr (.inr (.inl q.symm))
    · exact .inr (.inr (.inr q))
  unfold add
  cases hf : fnd bs (lead t.2 g) with
  | some x =>
    refine ⟨h.good, fun u hu => h.iw u (List.mem_append_left _ hu), fun e' he' u hu => ?_, by rw [app_keys]; exact h.nd, fun r c hrc => ?_, h.sv, h.so⟩
    · rcases app_mem he' with ⟨he', _⟩ | ⟨f, hf', _, rfl⟩
      · exact h.ib e' he' u hu
      · rcases List.mem_append.mp hu with hu | hu
        · exact h.ib f hf' u hu
        · cases List.mem_singleton.mp hu; exact hi
    · rcases hcov r c hrc with q | q | q | ⟨e', he', ⟨u, hu, q⟩, hn', g', hg', hl⟩
      · exact .inl q
      · exact .inr (.inl q)
      · obtain ⟨f, hf', k, _, ht⟩ := mem_app (t := t) (g := lead t.2 g) (fnd_mem hf)
        refine .inr (.inr ⟨f, hf', ⟨t, ht rfl, q.symm⟩, by rw [k]; exact hn, g, ?_, ?_⟩)
        · rw [← q] at e; exact e
        · rw [k, ← q]
      · obtain ⟨f, hf', k, hc, _⟩ := mem_app (t := t) (g := lead t.2 g) he'
        exact .inr (.inr ⟨f, hf', ⟨u, hc u hu, q⟩, by rw [k]; exact hn', g', hg', by rw [k]; exact hl⟩)
  | none =>
    refine ⟨h.good, fun u hu => h.iw u (List.mem_append_left _ hu), fun e' he' u hu => ?_, ?_, fun r c hrc => ?_, h.sv, h.so⟩
    · rcases List.mem_append.mp he' with he' | he'
      · exact h.ib e' he' u hu
      · cases List.mem_singleton.mp he'
        cases List.mem_singleton.mp hu
        exact hi
    · rw [List.map_append, List.nodup_append]
      refine ⟨h.nd, by simp, fun a ha b hb z => ?_⟩
      cases List.mem_singleton.mp hb
      have z' : a = lead t.2 g := z
      exact fnd_not hf (z' ▸ ha)
    · rcases hcov r c hrc with q | q | q | ⟨e', he', q⟩
      · exact .inl q
      · exact .inr (.inl q)
      · refine .inr (.inr ⟨_, List.mem_append_right _ (List.mem_singleton.mpr rfl), ⟨t, by simp, q.symm⟩, hn, g, ?_, ?_⟩)
        · rw [← q] at e; exact e
        · rw [← q]
      · exact .inr (.inr ⟨e', List.mem_append_left _ he', q⟩)
theorem tot_val {t : Ct} (h : p.SI S (wt ++ [t]) bs sq) : (wt ++ ((fnd bs t.2).map (·.2)).getD []).length + tot (drp bs t.2) + 1 = (wt ++ [t]).length + tot bs := by
  cases hf : fnd bs t.2 with
  | none =>
    rw [drp_no (fnd_not hf)]
    simp
    omega
  | some x =>
    have z := drp_tot h.nd hf
    simp
    omega
theorem tot_add {t : Ct} {g : Cell} {l : Addr} (hn : (bs.map (·.1)).Nodup) : tot (add bs g t l) = tot bs + 1 := by
  unfold add
  cases hf : fnd bs g with
  | some x => exact app_tot hn hf
  | none =>
    show tot (bs ++ [(g, l, [t])]) = _
    unfold tot
    rw [List.map_append, List.sum_append]
    rfl
end Prb
end Bn
/-! M3: the turns of the law, plain. -/
namespace Bn
open PySem
namespace Prb
variable (p : Prb)
def cells : List Cell := (List.range p.n).flatMap fun i => p.cols.map fun c => (((i : Nat) : Int) + 1, c)
def cnt (S : Vn) : Nat := p.cells.countP fun x => (S x.1 x.2).isSome
variable {p}
theorem mem_cells {r : Int} {c : Str} : (r, c) ∈ p.cells ↔ p.In r c := by
  unfold cells In
  rw [List.mem_flatMap]
  constructor
  · rintro ⟨i, hi, h⟩
    obtain ⟨c', hc, e⟩ := List.mem_map.mp h
    cases e
    rw [List.mem_range] at hi
    exact ⟨by omega, by omega, hc⟩
  · rintro ⟨h1, h2, hc⟩
    refine ⟨(r - 1).toNat, List.mem_range.mpr (by omega), List.mem_map.mpr ⟨c, hc, ?_⟩⟩
    rw [show (((r - 1).toNat : Nat) : Int) + 1 = r from by omega]
theorem cells_len : p.cells.length = p.n * p.cols.length := by
  unfold cells
  rw [List.length_flatMap]
  simp only [List.length_map, List.map_const', List.length_range, List.sum_replicate_nat]
theorem cnt_le {S : Vn} : p.cnt S ≤ p.n * p.cols.length := by
  rw [← cells_len]
  exact List.countP_le_length
theorem countP_lt {α : Type} {f g : α → Bool} {a : α} : ∀ {l : List α}, (∀ x ∈ l, f x = true → g x = true) → a ∈ l → f a = false → g a = true → l.countP f < l.countP g
  | x :: l, h, ha, h1, h2 => by
    have hm : l.countP f ≤ l.countP g := List.countP_mono_left fun y hy => h y (List.mem_cons_of_mem _ hy)
    rw [List.countP_cons, List.countP_cons]
    rcases List.mem_cons.mp ha with rfl | ha
    · rw [h1, h2]
      simp
      omega
    · have ih := countP_lt (l := l) (fun y hy => h y (List.mem_cons_of_mem _ hy)) ha h1 h2
      by_cases hf : f x = true
      · rw [if_pos hf, if_pos (h x List.mem_cons_self hf)]
        omega
      · rw [if_neg hf]
        omega
theorem cnt_mono {S T : Vn} (h : LeV S T) : p.cnt S ≤ p.cnt T := List.countP_mono_left fun x _ hs => by
  obtain ⟨v, hv⟩ := Option.isSome_iff_exists.mp hs
  show (T x.1 x.2).isSome = true
  rw [h _ _ _ hv]
  rfl
theorem cnt_put {S : Vn} {r : Int} {c : Str} {v : Int} (hi : p.In r c) (hn : S r c = none) : p.cnt S < p.cnt (put S r c v) := by
  refine countP_lt (a := (r, c)) (fun x _ hs => ?_) (mem_cells.mpr hi) (by rw [hn]; rfl) (by show (put S r c v r c).isSome = true; rw [put_at]; rfl)
  obtain ⟨u, hu⟩ := Option.isSome_iff_exists.mp hs
  rw [put_le (fun u e => by rw [hn] at e; cases e) _ _ _ hu]
  rfl
/-- within a turn: what it began with, what it has now, the cells that it has seen, whether something changed -/
structure TI (p : Prb) (S0 S : Vn) (D : Int → Str → Prop) (b : Bool) : Prop where
  good : p.Good S
  le : LeV S0 S
  no : b = false → S = S0 ∧ ∀ r c, p.In r c → D r c → S r c = none → ∃ g, p.at_ S r c = .error g
  yes : b = true → p.cnt S0 < p.cnt S
theorem TI.start {S : Vn} (g : p.Good S) : p.TI S S (fun _ _ => False) false := ⟨g, fun _ _ _ e => e, fun _ => ⟨rfl, fun _ _ _ h => h.elim⟩, fun h => nomatch h⟩
theorem TI.imp {S0 S : Vn} {D D' : Int → Str → Prop} {b : Bool} (h : p.TI S0 S D b) (f : ∀ r c, p.In r c → D' r c → D r c) : p.TI S0 S D' b := ⟨h.good, h.le, fun hb => ⟨(h.no hb).1, fun r c hi hd => (h.no hb).2 r c hi (f r c hi hd)⟩, h.yes⟩
section
variable {S0 S : Vn} {D : Int → Str → Prop} {b : Bool} {r : Int} {c : Str}
theorem TI.skip (h : p.TI S0 S D b) (hs : S r c ≠ none) : p.TI S0 S (fun r' c' => D r' c' ∨ (r' = r ∧ c' = c)) b := ⟨h.good, h.le, fun hb => ⟨(h.no hb).1, fun r' c' hi hd hn => by
  rcases hd with hd | ⟨rfl, rfl⟩
  · exact (h.no hb).2 r' c' hi hd hn
  · exact absurd hn hs⟩, h.yes⟩
theorem TI.err {g : Nd} (h : p.TI S0 S D b) (e : p.at_ S r c = .error g) : p.TI S0 S (fun r' c' => D r' c' ∨ (r' = r ∧ c' = c)) b := ⟨h.good, h.le, fun hb => ⟨(h.no hb).1, fun r' c' hi hd hn => by
  rcases hd with hd | ⟨rfl, rfl⟩
  · exact (h.no hb).2 r' c' hi hd hn
  · exact ⟨g, e⟩⟩, h.yes⟩
theorem TI.val (wf : p.Wf) {v : Int} {D' : Int → Str → Prop} (h : p.TI S0 S D b) (hi : p.In r c) (hn : S r c = none) (e : p.at_ S r c = .ok v) : p.TI S0 (put S r c v) D' true := by
  have hle : LeV S (put S r c v) := put_le (fun u e => by rw [hn] at e; cases e)
  refine ⟨h.good.put wf hi e, fun r' c' u z => hle _ _ _ (h.le _ _ _ z), (fun z => nomatch z), fun _ => ?_⟩
  exact Nat.lt_of_le_of_lt (cnt_mono h.le) (cnt_put hi hn)
theorem TI.closed (h : p.TI S0 S D false) (all : ∀ r c, p.In r c → D r c) : p.Closed S := fun r c v hi e => by
  cases e1 : S r c with
  | none =>
    obtain ⟨g, z⟩ := (h.no rfl).2 r c hi (all r c hi) e1
    rw [e] at z
    cases z
  | some u => rw [h.good.agree hi e u e1]
end
end Prb
end Bn
/-! S2: a sheet with a word as a problem; the solver in the heap. -/
namespace Bn
open PySem PySem.Spec PyProof.Rows L2
open He (ga ma)
def prb (S : Sm) (ws : List Str) : Prb := ⟨S.m, ws.length, S.cols, fun r c => S.fm (ws.getD (r - 1).toNat Str.empty) c, fun c => if c ∈ S.cols then some (S.top c) else none⟩
theorem wd_get {ws : List Str} {r : Int} (h1 : 1 ≤ r) (h2 : r ≤ ws.length) : ws[(r - 1).toNat]? = some (ws.getD (r - 1).toNat Str.empty) := by
  have : (r - 1).toNat < ws.length := by omega
  rw [List.getD_eq_getElem?_getD, List.getElem?_eq_getElem this]
  rfl
theorem prb_wf {S : Sm} {ws : List Str} (ok : S.Ok) (hw : ∀ k ∈ ws, k ∈ S.kinds) : (prb S ws).Wf where
  hm := ok.m2
  ht := fun c v h => by
    have h : (if c ∈ S.cols then some (S.top c) else none) = some v := h
    by_cases hc : c ∈ S.cols
    · rw [if_pos hc] at h; cases h; exact ok.t c hc
    · rw [if_neg hc] at h; cases h
  hc := fun c hc => by
    show (if c ∈ S.cols then some (S.top c) else none).isSome = true
    rw [if_pos (show c ∈ S.cols from hc)]
    rfl
  hf := fun r c hi => (ok.f _ (hw _ (List.mem_of_getElem? (wd_get hi.1 hi.2.1))) c hi.2.2).1
/-- a row's dict, of at most b entries -/
def RowK (H : Hp) (a : Addr) (r : Str → Option Int) (b : Nat) : Prop := ∃ kvs, H a = some (.dK kvs) ∧ kvs.length ≤ b ∧ ∀ c, (valV kvs (.inr c)).getD .non = oi (r c)
theorem RowK.up {H H' : Hp} {a : Addr} {r : Str → Option Int} {b : Nat} (s : Same H H') (h : RowK H a r b) : RowK H' a r b := let ⟨kvs, e, q⟩ := h; ⟨kvs, s _ _ e, q⟩
theorem RowK.row {H : Hp} {a : Addr} {r : Str → Option Int} {b : Nat} (h : RowK H a r b) : IsRow H a r := let ⟨kvs, e, _, q⟩ := h; ⟨kvs, e, q⟩
theorem RowK.le {H : Hp} {a : Addr} {r : Str → Option Int} {b b' : Nat} (h : RowK H a r b) (l : b ≤ b') : RowK H a r b' := let ⟨kvs, e, h1, q⟩ := h; ⟨kvs, e, Nat.le_trans h1 l, q⟩
/-- a cell's tuple -/
def CellAt (H : Hp) (t : Ct) : Prop := H t.1 = some (.tup [.int t.2.1, .str t.2.2])
abbrev ck (c : Cell) : List Key := [.inl c.1, .inr c.2]
theorem CellAt.k {H : Hp} {t : Ct} (h : CellAt H t) : H t.1 = some (.tup ((ck t.2).map kV)) := h
abbrev cr (t : Ct) : V := .ref t.1
abbrev solFs (sh wt rd nd sq : Addr) : List (Str × V) := [("own_sheet", .ref sh), ("own_word", .ref wt), ("own_rows", .ref rd), ("own_needs", .ref nd), ("own_sequence", .ref sq)]
/-- the solver's object, its sheet, its word, the dict of its rows -/
structure SolF (K : Fr) (H : Hp) (S : Sm) (ws : List Str) (x sh wt rd nd sq : Addr) (ra : Int → Addr) : Prop where
  o : ∃ dx, H x = some (.ins (ga K "Solver") dx (solFs sh wt rd nd sq))
  sh : IsSheet K H sh S
  wt : H wt = some (.tup (ws.map V.str))
  rd : ∃ kvs, H rd = some (.dK kvs) ∧ ∀ r : Int, 0 ≤ r → r ≤ ws.length + 1 → valV kvs (.inl r) = some (.ref (ra r))
theorem SolF.up {K : Fr} {H H' : Hp} {S : Sm} {ws : List Str} {x sh wt rd nd sq : Addr} {ra : Int → Addr} (s : Same H H') (h : SolF K H S ws x sh wt rd nd sq ra) : SolF K H' S ws x sh wt rd nd sq ra := by
  obtain ⟨⟨dx, h1⟩, h2, h3, ⟨kvs, h4, h5⟩⟩ := h
  exact ⟨⟨dx, s _ _ h1⟩, h2.up s, s _ _ h3, kvs, s _ _ h4, h5⟩
/-- all rows -/
def RowsV (H : Hp) (n : Nat) (ra : Int → Addr) (T : Vn) (b : Nat) : Prop := ∀ r : Int, 0 ≤ r → r ≤ n + 1 → RowK H (ra r) (T r) b
theorem RowsV.up {H H' : Hp} {n : Nat} {ra : Int → Addr} {T : Vn} {b : Nat} (s : Same H H') (h : RowsV H n ra T b) : RowsV H' n ra T b := fun r h0 h1 => (h r h0 h1).up s
/-- a solver that is done -/
def SolAt (K : Fr) (H : Hp) (x : Addr) (S : Sm) (ws : List Str) (T : Vn) (sq : List Ct) : Prop := ∃ sh wt rd nd sa ra, SolF K H S ws x sh wt rd nd sa ra ∧ RowsV H ws.length ra T 20000 ∧ H sa = some (.lst (sq.map cr)) ∧ ∀ t ∈ sq, CellAt H t
theorem SolAt.up {K : Fr} {H H' : Hp} {x : Addr} {S : Sm} {ws : List Str} {T : Vn} {sq : List Ct} (s : Same H H') (h : SolAt K H x S ws T sq) : SolAt K H' x S ws T sq := by
  obtain ⟨sh, wt, rd, nd, sa, ra, h1, h2, h3, h4⟩ := h
  exact ⟨sh, wt, rd, nd, sa, ra, h1.up s, h2.up s, s _ _ h3, fun t ht => s _ _ (h4 t ht)⟩
/-! ### the dict of those that wait -/
def kvB (bs : Bh) : List (List Key × V) := bs.map fun e => (ck e.1, V.ref e.2.1)
theorem ck_inj {a b : Cell} (h : ck a = ck b) : a = b := by
  have h1 := (List.cons.inj h).1
  have h2 := (List.cons.inj (List.cons.inj h).2).1
  exact Prod.ext (Sum.inl.inj h1) (Sum.inr.inj h2)
theorem valV_kvB (g : Cell) : ∀ bs : Bh, valV (kvB bs) (ck g) = (fnd bs g).map fun x => V.ref x.1
  | [] => rfl
  | e :: bs => by
    show valV ((ck e.1, V.ref e.2.1) :: kvB bs) (ck g) = _
    rw [fnd_cons]
    by_cases h : e.1 = g
    · rw [if_pos h, valV_pos (p := (ck e.1, V.ref e.2.1)) (by rw [h])]
      rfl
    · rw [if_neg h, valV_neg (p := (ck e.1, V.ref e.2.1)) (fun z => h (ck_inj z)), valV_kvB g bs]
theorem dropK_kvB (g : Cell) : ∀ bs : Bh, dropK (kvB bs) (ck g) = kvB (drp bs g)
  | [] => rfl
  | e :: bs => by
    show dropK ((ck e.1, V.ref e.2.1) :: kvB bs) (ck g) = _
    by_cases h : e.1 = g
    · rw [dropK_pos (p := (ck e.1, V.ref e.2.1)) (by rw [h]), dropK_kvB g bs]
      unfold drp
      rw [List.filter_cons, if_neg (by simpa using h)]
    · rw [dropK_neg (p := (ck e.1, V.ref e.2.1)) (fun z => h (ck_inj z)), dropK_kvB g bs]
      unfold drp
      rw [List.filter_cons, if_pos (by simpa using h)]
      rfl
theorem kvB_app (g : Cell) (t : Ct) (bs : Bh) : kvB (app bs g t) = kvB bs := by
  unfold kvB app
  rw [List.map_map]
  apply List.map_congr_left
  intro e _
  show (ck (if e.1 = g then (e.1, e.2.1, e.2.2 ++ [t]) else e).1, V.ref (if e.1 = g then (e.1, e.2.1, e.2.2 ++ [t]) else e).2.1) = _
  split <;> rfl
theorem kvB_snoc (g : Cell) (l : Addr) (ts : List Ct) {bs : Bh} (h : fnd bs g = none) : putK (kvB bs) (ck g) (.ref l) = kvB (bs ++ [(g, l, ts)]) := by
  rw [putK_new _ (by rw [valV_kvB, h]; rfl)]
  unfold kvB
  rw [List.map_append]
  rfl
end Bn
/-! S3: the heap while the solver solves. -/
namespace Bn
open PySem PySem.Spec PyProof.Rows L2
open He (ga ma)
theorem upd_of {H : Hp} {p b : Addr} {u o o' : HO} (h : H b = some o) (hp : H p = some u) (d : o ≠ u) : upd H p o' b = some o := by rw [upd_ne (ne_of h hp d)]; exact h
theorem CellAt.upd {H : Hp} {t : Ct} {p : Addr} {u o : HO} (h : CellAt H t) (hp : H p = some u) (d : ∀ xs, HO.tup xs ≠ u) : CellAt (L2.upd H p o) t := upd_of h hp (d _)
theorem RowsV.upd {H : Hp} {n : Nat} {ra : Int → Addr} {T : Vn} {b : Nat} {p : Addr} {u o : HO} (h : RowsV H n ra T b) (hp : H p = some u) (d : ∀ xs, HO.dK xs ≠ u) : RowsV (L2.upd H p o) n ra T b := fun r h0 h1 =>
  let ⟨kvs, e, q⟩ := h r h0 h1
  ⟨kvs, upd_of e hp (d _), q⟩
structure SvH (B H : Hp) (n : Nat) (nd sq w d : Addr) (ra : Int → Addr) (T : Vn) (tw : List Ct) (bs : Bh) (ts : List Ct) (b : Nat) : Prop where
  s : Same B H
  r : RowsV H n ra T b
  ew : H w = some (.lst (tw.map cr))
  ed : H d = some (.dT (kvB bs))
  ek : ∀ e ∈ bs, H e.2.1 = some (.lst (e.2.2.map cr))
  en : ∃ kvs, H nd = some (.dT kvs) ∧ kvs.length ≤ b
  eq : H sq = some (.lst (ts.map cr))
  cw : ∀ t ∈ tw, CellAt H t
  cb : ∀ e ∈ bs, ∀ t ∈ e.2.2, CellAt H t
  cq : ∀ t ∈ ts, CellAt H t
  ea : (w :: sq :: bs.map (·.2.1)).Nodup
  dn : d ≠ nd
  bw : B w = none
  bd : B d = none
  bk : ∀ e ∈ bs, B e.2.1 = none
namespace SvH
section
variable {B H H' : Hp} {n : Nat} {nd sq w d p : Addr} {ra : Int → Addr} {T : Vn} {tw tw' : List Ct} {bs : Bh} {ts : List Ct} {b : Nat}
theorem up (s : Same H H') (h : SvH B H n nd sq w d ra T tw bs ts b) : SvH B H' n nd sq w d ra T tw bs ts b where
  s := same_trans h.s s
  r := h.r.up s
  ew := s _ _ h.ew
  ed := s _ _ h.ed
  ek := fun e he => s _ _ (h.ek e he)
  en := let ⟨kvs, e, l⟩ := h.en; ⟨kvs, s _ _ e, l⟩
  eq := s _ _ h.eq
  cw := fun t ht => s _ _ (h.cw t ht)
  cb := fun e he t ht => s _ _ (h.cb e he t ht)
  cq := fun t ht => s _ _ (h.cq t ht)
  ea := h.ea
  dn := h.dn
  bw := h.bw
  bd := h.bd
  bk := h.bk
theorem le {b' : Nat} (l : b ≤ b') (h : SvH B H n nd sq w d ra T tw bs ts b) : SvH B H n nd sq w d ra T tw bs ts b' := { h with
  r := fun r h0 h1 => (h.r r h0 h1).le l
  en := let ⟨kvs, e, q⟩ := h.en; ⟨kvs, e, Nat.le_trans q l⟩ }
theorem nws (h : SvH B H n nd sq w d ra T tw bs ts b) : w ≠ sq := fun e => (List.nodup_cons.mp h.ea).1 (by rw [e]; exact List.mem_cons_self)
theorem nwk (h : SvH B H n nd sq w d ra T tw bs ts b) : ∀ e ∈ bs, e.2.1 ≠ w := fun e he z => (List.nodup_cons.mp h.ea).1 (List.mem_cons_of_mem _ (by rw [← z]; exact List.mem_map_of_mem he))
theorem nsk (h : SvH B H n nd sq w d ra T tw bs ts b) : ∀ e ∈ bs, e.2.1 ≠ sq := fun e he z => (List.nodup_cons.mp (List.nodup_cons.mp h.ea).2).1 (by rw [← z]; exact List.mem_map_of_mem he)
/-- those that wait are other ones -/
theorem setW (h : SvH B H n nd sq w d ra T tw bs ts b) (c : ∀ t ∈ tw', CellAt H t) : SvH B (upd H w (.lst (tw'.map cr))) n nd sq w d ra T tw' bs ts b where
  s := h.s.put h.bw
  r := h.r.upd h.ew (fun _ z => nomatch z)
  ew := upd_same
  ed := upd_of h.ed h.ew (fun z => nomatch z)
  ek := fun e he => by rw [upd_ne (h.nwk e he)]; exact h.ek e he
  en := let ⟨kvs, e, l⟩ := h.en; ⟨kvs, upd_of e h.ew (fun z => nomatch z), l⟩
  eq := by rw [upd_ne h.nws.symm]; exact h.eq
  cw := fun t ht => (c t ht).upd h.ew (fun _ z => nomatch z)
  cb := fun e he t ht => (h.cb e he t ht).upd h.ew (fun _ z => nomatch z)
  cq := fun t ht => (h.cq t ht).upd h.ew (fun _ z => nomatch z)
  ea := h.ea
  dn := h.dn
  bw := h.bw
  bd := h.bd
  bk := h.bk
/-- a cell has its value now -/
theorem setR {r : Int} {c : Str} {v : Int} {kvs : List (Key × V)} (h : SvH B H n nd sq w d ra T tw bs ts b) (h0 : 0 ≤ r) (h1 : r ≤ n + 1) (inj : ∀ r' : Int, 0 ≤ r' → r' ≤ n + 1 → ra r' = ra r → r' = r) (hB : B (ra r) = none) (e : H (ra r) = some (.dK kvs)) (hl : kvs.length ≤ b) (hv : ∀ c, (valV kvs (.inr c)).getD .non = oi (T r c)) :
    SvH B (upd H (ra r) (.dK (putK kvs (.inr c) (.int v)))) n nd sq w d ra (Prb.put T r c v) tw bs ts (b + 1) where
  s := h.s.put hB
  r := fun r' g0 g1 => by
    by_cases hr : r' = r
    · subst hr
      refine ⟨_, upd_same, Nat.le_trans (length_putK _ _ _) (Nat.succ_le_succ hl), fun c' => ?_⟩
      rw [valV_put]
      unfold Prb.put
      by_cases hc : c' = c
      · subst hc
        rw [if_pos rfl, if_pos ⟨rfl, rfl⟩]
        rfl
      · rw [if_neg (fun z => hc (Sum.inr.inj z)), if_neg (fun z => hc z.2)]
        exact hv c'
    · obtain ⟨kv, e1, e2, e3⟩ := h.r r' g0 g1
      refine ⟨kv, by rw [upd_ne (fun z => hr (inj r' g0 g1 z))]; exact e1, Nat.le_succ_of_le e2, fun c' => ?_⟩
      unfold Prb.put
      rw [if_neg (fun z => hr z.1)]
      exact e3 c'
  ew := upd_of h.ew e (fun z => nomatch z)
  ed := upd_of h.ed e (fun z => nomatch z)
  ek := fun x hx => upd_of (h.ek x hx) e (fun z => nomatch z)
  en := let ⟨kv, e1, l⟩ := h.en; ⟨kv, upd_of e1 e (fun z => nomatch z), Nat.le_succ_of_le l⟩
  eq := upd_of h.eq e (fun z => nomatch z)
  cw := fun t ht => (h.cw t ht).upd e (fun _ z => nomatch z)
  cb := fun x hx t ht => (h.cb x hx t ht).upd e (fun _ z => nomatch z)
  cq := fun t ht => (h.cq t ht).upd e (fun _ z => nomatch z)
  ea := h.ea
  dn := h.dn
  bw := h.bw
  bd := h.bd
  bk := h.bk
/-- one more in the sequence -/
theorem addQ {t : Ct} (h : SvH B H n nd sq w d ra T tw bs ts b) (hB : B sq = none) (ht : CellAt H t) : SvH B (upd H sq (.lst (ts.map cr ++ [cr t]))) n nd sq w d ra T tw bs (ts ++ [t]) b where
  s := h.s.put hB
  r := h.r.upd h.eq (fun _ z => nomatch z)
  ew := by rw [upd_ne h.nws]; exact h.ew
  ed := upd_of h.ed h.eq (fun z => nomatch z)
  ek := fun e he => by rw [upd_ne (h.nsk e he)]; exact h.ek e he
  en := let ⟨kvs, e, l⟩ := h.en; ⟨kvs, upd_of e h.eq (fun z => nomatch z), l⟩
  eq := by rw [upd_same, List.map_append]; rfl
  cw := fun t ht => (h.cw t ht).upd h.eq (fun _ z => nomatch z)
  cb := fun e he t ht => (h.cb e he t ht).upd h.eq (fun _ z => nomatch z)
  cq := fun u hu => by
    rcases List.mem_append.mp hu with hu | hu
    · exact (h.cq u hu).upd h.eq (fun _ z => nomatch z)
    · cases List.mem_singleton.mp hu
      exact ht.upd h.eq (fun _ z => nomatch z)
  ea := h.ea
  dn := h.dn
  bw := h.bw
  bd := h.bd
  bk := h.bk
/-- the needs are other ones -/
theorem setN {kvs : List (List Key × V)} (h : SvH B H n nd sq w d ra T tw bs ts b) (hB : B nd = none) (hl : kvs.length ≤ b) : SvH B (upd H nd (.dT kvs)) n nd sq w d ra T tw bs ts b := by
  obtain ⟨k0, e, l⟩ := h.en
  exact {
    s := h.s.put hB
    r := h.r.upd e (fun _ z => nomatch z)
    ew := upd_of h.ew e (fun z => nomatch z)
    ed := by rw [upd_ne h.dn]; exact h.ed
    ek := fun x hx => upd_of (h.ek x hx) e (fun z => nomatch z)
    en := ⟨kvs, upd_same, hl⟩
    eq := upd_of h.eq e (fun z => nomatch z)
    cw := fun t ht => (h.cw t ht).upd e (fun _ z => nomatch z)
    cb := fun x hx t ht => (h.cb x hx t ht).upd e (fun _ z => nomatch z)
    cq := fun t ht => (h.cq t ht).upd e (fun _ z => nomatch z)
    ea := h.ea
    dn := h.dn
    bw := h.bw
    bd := h.bd
    bk := h.bk }
/-- those behind g are taken out -/
theorem popD (g : Cell) (h : SvH B H n nd sq w d ra T tw bs ts b) : SvH B (upd H d (.dT (kvB (drp bs g)))) n nd sq w d ra T tw (drp bs g) ts b where
  s := h.s.put h.bd
  r := h.r.upd h.ed (fun _ z => nomatch z)
  ew := upd_of h.ew h.ed (fun z => nomatch z)
  ed := upd_same
  ek := fun e he => upd_of (h.ek e (drp_mem.mp he).1) h.ed (fun z => nomatch z)
  en := let ⟨kvs, e, l⟩ := h.en; ⟨kvs, by rw [upd_ne h.dn.symm]; exact e, l⟩
  eq := upd_of h.eq h.ed (fun z => nomatch z)
  cw := fun t ht => (h.cw t ht).upd h.ed (fun _ z => nomatch z)
  cb := fun e he t ht => (h.cb e (drp_mem.mp he).1 t ht).upd h.ed (fun _ z => nomatch z)
  cq := fun t ht => (h.cq t ht).upd h.ed (fun _ z => nomatch z)
  ea := (List.Sublist.cons_cons _ (List.Sublist.cons_cons _ (List.Sublist.map _ List.filter_sublist))).nodup h.ea
  dn := h.dn
  bw := h.bw
  bd := h.bd
  bk := fun e he => h.bk e (drp_mem.mp he).1
/-- one more behind g, where some wait already -/
theorem appD {g : Cell} {l : Addr} {xs : List Ct} {t : Ct} (h : SvH B H n nd sq w d ra T tw bs ts b) (nb : (bs.map (·.1)).Nodup) (hf : fnd bs g = some (l, xs)) (ht : CellAt H t) : SvH B (upd H l (.lst (xs.map cr ++ [cr t]))) n nd sq w d ra T tw (app bs g t) ts b := by
  have hm := fnd_mem hf
  have hl := h.ek _ hm
  have key : ∀ f ∈ bs, f.1 ≠ g → f.2.1 ≠ l := fun f hf' hne z => by
    have nda := (List.nodup_cons.mp (List.nodup_cons.mp h.ea).2).2
    have := List.pairwise_map.mp nda
    have z2 : f = (g, l, xs) := by
      by_cases hq : f = (g, l, xs)
      · exact hq
      · exfalso
        obtain ⟨i, hi, e1⟩ := List.getElem_of_mem hf'
        obtain ⟨j, hj, e2⟩ := List.getElem_of_mem hm
        have hij : i ≠ j := fun e => hq (by subst e; rw [← e1, ← e2])
        rcases Nat.lt_or_gt_of_ne hij with hlt | hlt
        · have := List.pairwise_iff_getElem.mp this i j hi hj hlt
          rw [e1, e2] at this
          exact this z
        · have := List.pairwise_iff_getElem.mp this j i hj hi hlt
          rw [e1, e2] at this
          exact this z.symm
    exact hne (by rw [z2])
  have eapp : (app bs g t).map (·.2.1) = bs.map (·.2.1) := by
    unfold app
    rw [List.map_map]
    apply List.map_congr_left
    intro e _
    show (if e.1 = g then (e.1, e.2.1, e.2.2 ++ [t]) else e).2.1 = e.2.1
    split <;> rfl
  exact {
    s := h.s.put (h.bk _ hm)
    r := h.r.upd hl (fun _ z => nomatch z)
    ew := by rw [upd_ne (h.nwk _ hm).symm]; exact h.ew
    ed := by rw [kvB_app]; exact upd_of h.ed hl (fun z => nomatch z)
    ek := fun e he => by
      rcases app_mem he with ⟨he, hne⟩ | ⟨f, hf', hg, rfl⟩
      · rw [upd_ne (key e he hne)]; exact h.ek e he
      · have z := fnd_of nb hf'
        rw [hg, hf] at z
        have z := (Option.some.inj z).symm
        show upd H l _ f.2.1 = some (.lst ((f.2.2 ++ [t]).map cr))
        rw [z, upd_same, List.map_append]
        rfl
    en := let ⟨kvs, e, l'⟩ := h.en; ⟨kvs, upd_of e hl (fun z => nomatch z), l'⟩
    eq := by rw [upd_ne (h.nsk _ hm).symm]; exact h.eq
    cw := fun t ht => (h.cw t ht).upd hl (fun _ z => nomatch z)
    cb := fun e he u hu => by
      rcases app_mem he with ⟨he, hne⟩ | ⟨f, hf', hg, rfl⟩
      · exact (h.cb e he u hu).upd hl (fun _ z => nomatch z)
      · rcases List.mem_append.mp hu with hu | hu
        · exact (h.cb f hf' u hu).upd hl (fun _ z => nomatch z)
        · cases List.mem_singleton.mp hu
          exact ht.upd hl (fun _ z => nomatch z)
    cq := fun t ht => (h.cq t ht).upd hl (fun _ z => nomatch z)
    ea := by rw [eapp]; exact h.ea
    dn := h.dn
    bw := h.bw
    bd := h.bd
    bk := fun e he => by
      rcases app_mem he with ⟨he, hne⟩ | ⟨f, hf', hg, rfl⟩
      · exact h.bk e he
      · exact h.bk f hf' }
/-- one behind g, where none waits; l is a new empty list -/
theorem newD {g : Cell} {l : Addr} {t : Ct} (h : SvH B H n nd sq w d ra T tw bs ts b) (hf : fnd bs g = none) (hl : H l = some (.lst [])) (nl : l ≠ w ∧ l ≠ sq ∧ ∀ e ∈ bs, e.2.1 ≠ l) (hB : B l = none) (ht : CellAt H t) :
    SvH B (upd (upd H d (.dT (putK (kvB bs) (ck g) (.ref l)))) l (.lst ([] ++ [cr t]))) n nd sq w d ra T tw (bs ++ [(g, l, [t])]) ts b := by
  have hld : l ≠ d := ne_of hl h.ed (fun z => nomatch z)
  have hl1 : upd H d (.dT (putK (kvB bs) (ck g) (.ref l))) l = some (.lst []) := by rw [upd_ne hld]; exact hl
  have c1 : ∀ {u : Ct}, CellAt H u → CellAt (upd (upd H d (.dT (putK (kvB bs) (ck g) (.ref l)))) l (.lst ([] ++ [cr t]))) u := fun hu => (CellAt.upd (CellAt.upd hu h.ed (fun _ z => nomatch z)) hl1 (fun _ z => nomatch z))
  have m1 : ∀ {b' : Addr} {o : HO}, H b' = some o → b' ≠ l → b' ≠ d → upd (upd H d (.dT (putK (kvB bs) (ck g) (.ref l)))) l (.lst ([] ++ [cr t])) b' = some o := fun e n1 n2 => by rw [upd_ne n1, upd_ne n2]; exact e
  exact {
    s := (h.s.put h.bd).put hB
    r := (h.r.upd h.ed (fun _ z => nomatch z)).upd hl1 (fun _ z => nomatch z)
    ew := m1 h.ew nl.1.symm (ne_of h.ew h.ed (fun z => nomatch z))
    ed := by rw [upd_ne hld.symm, upd_same, kvB_snoc g l [t] hf]
    ek := fun e he => by
      rcases List.mem_append.mp he with he | he
      · exact m1 (h.ek e he) (nl.2.2 e he) (ne_of (h.ek e he) h.ed (fun z => nomatch z))
      · cases List.mem_singleton.mp he
        exact upd_same
    en := let ⟨kvs, e, l'⟩ := h.en; ⟨kvs, m1 e (ne_of e hl (fun z => nomatch z)) h.dn.symm, l'⟩
    eq := m1 h.eq nl.2.1.symm (ne_of h.eq h.ed (fun z => nomatch z))
    cw := fun t ht => c1 (h.cw t ht)
    cb := fun e he u hu => by
      rcases List.mem_append.mp he with he | he
      · exact c1 (h.cb e he u hu)
      · cases List.mem_singleton.mp he
        cases List.mem_singleton.mp hu
        exact c1 ht
    cq := fun t ht => c1 (h.cq t ht)
    ea := by
      have h1 := List.nodup_cons.mp h.ea
      have h2 := List.nodup_cons.mp h1.2
      rw [List.map_append, List.nodup_cons, List.nodup_cons]
      have hk : l ∉ bs.map (·.2.1) := fun hm => by
        obtain ⟨e, he, z⟩ := List.mem_map.mp hm
        exact nl.2.2 e he z
      refine ⟨fun hm => ?_, fun hm => ?_, ?_⟩
      · rcases List.mem_cons.mp hm with e | hm
        · exact h1.1 (by rw [e]; exact List.mem_cons_self)
        · rcases List.mem_append.mp hm with hm | hm
          · exact h1.1 (List.mem_cons_of_mem _ hm)
          · exact nl.1 (List.mem_singleton.mp hm).symm
      · rcases List.mem_append.mp hm with hm | hm
        · exact h2.1 hm
        · exact nl.2.1 (List.mem_singleton.mp hm).symm
      · rw [List.nodup_append]
        refine ⟨h2.2, by simp, fun x hx y hy z => ?_⟩
        have hy' : y = l := List.mem_singleton.mp hy
        exact hk (by rw [← hy', ← z]; exact hx)
    dn := h.dn
    bw := h.bw
    bd := h.bd
    bk := fun e he => by
      rcases List.mem_append.mp he with he | he
      · exact h.bk e he
      · cases List.mem_singleton.mp he
        exact hB }
end
end SvH
theorem Prb.SI.start {p : Prb} (wf : p.Wf) {ts : List Ct} (h : ts.map (·.2) = p.cells) : p.SI p.start ts [] [] where
  good := Prb.good_start wf
  iw := fun t ht => Prb.mem_cells.mp (by rw [← h]; exact List.mem_map_of_mem ht)
  ib := fun _ he => nomatch he
  nd := List.nodup_nil
  cov := fun r c hi => by
    have z := Prb.mem_cells.mpr hi
    rw [← h] at z
    obtain ⟨t, ht, e⟩ := List.mem_map.mp z
    exact .inr (.inl ⟨t, ht, e⟩)
  sv := fun r c hi hs => by
    have z : p.start r c = none := by
      unfold Prb.start
      rw [if_neg (by have := hi.1; omega)]
    exact absurd z hs
  so := fun i t h => by simp at h
end Bn
/-! W10: the checks of a sheet's modulus, columns, top. -/
namespace Bn
open PySem PySem.Spec PyProof.Rows L2 StX
open He (ga ma)
section
variable {w : World} {K : Fr} {mg : Str → Option Value} {base : Heap}
def pWantM : Pr := fun vs H Q => ∃ m : Int, vs = [.int m] ∧ 2 ≤ m ∧ m ≤ 9 ∧ Q .non H
theorem k_want_modulus (G : GD K mg) : Keeps PP w K mg base 2 (ga K "want_modulus") pWantM := by
  obtain ⟨fd, F⟩ := fd_want_modulus G
  refine kp_fnN (k := 1) F sc_want_modulus (fun _ _ _ _ _ _ us hl => match us, hl with | [_], _ => rfl) (by rintro _ _ _ ⟨m, rfl, _⟩; rfl) fun cdv A outer s H vs Q E hr hp => ?_
  obtain ⟨m, rfl, h2, h9, hq⟩ := hp
  have D : DefR PP w K mg base 1 "is_integer" pIsInt := ⟨_, gg_is_integer G, gk_is_integer G, k_is_integer G⟩
  refine ⟨_, pss_one (ps_if (PW.pt (pw_or (pt_not (pt_val (pe_d D hr (by rfl) (pa_cons (pv 0) pa_nil)))) (pw_or1 (pt_not (pt_chain op_le op_le (C8.pe_gc (by rfl) (gv_LEAST_MODULUS G)) (pv 0) (C8.pe_gc (by rfl) (gv_MOST_MODULUS G))))))) pss_never pss_nil), ?_⟩
  exact ⟨_, rfl, m, rfl, _, rfl, iteF ⟨_, rfl, _, _, rfl, rfl, _, rfl, ifT (by simp [h2]) ⟨_, _, rfl, rfl, _, rfl, ifF (by simp [h9]) hq⟩⟩⟩
theorem take_cut (xs : List V) (i : Nat) : cutV xs none (some (i : Int)) = xs.take i := by
  have e : HT.sIx xs.length xs.length (some ((i : Nat) : Int)) = min i xs.length := HT.sIx_nat _ _ _
  unfold cutV
  rw [e, HT.sIx_none, List.drop_zero, Nat.sub_zero]
  rw [show xs.take (min i xs.length) = xs.take i from by rw [← List.take_take, List.take_length]]
def pWantCols : Pr := fun vs H Q => ∃ (c : Addr) (cs : List Str), vs = [.ref c] ∧ H c = some (.lst (cs.map V.str)) ∧ 1 ≤ cs.length ∧ cs.length ≤ 6 ∧ cs.Nodup ∧ (∀ x ∈ cs, okName x = true) ∧ ∀ H', Same H H' → Q .non H'
theorem k_want_columns (G : GD K mg) : Keeps PP w K mg base 2 (ga K "want_columns") pWantCols := by
  obtain ⟨fd, F⟩ := fd_want_columns G
  refine kp_fnN (k := 1) F sc_want_columns (fun _ _ _ _ _ _ us hl => match us, hl with | [_], _ => rfl) (by rintro _ _ _ ⟨c, cs, rfl, _⟩; rfl) fun cdv A outer s H vs Q E hr hp => ?_
  obtain ⟨c, cs, rfl, hc, h1, h6, hn, ho, hq⟩ := hp
  have nd := sc_want_columns.nd
  have D1 : DefR PP w K mg base 1 "is_list" pIsList := ⟨_, gg_is_list G, gk_is_list G, k_is_list G⟩
  have D2 : DefR PP w K mg base 1 "is_name" pIsName := ⟨_, gg_is_name G, gk_is_name G, k_is_name G⟩
  refine ⟨_, pss_cons (ps_if (PW.pt (pw_or (pt_not (pt_val (pe_d D1 hr (by rfl) (pa_cons (pv 0) pa_nil)))) (pw_or1 (pt_not (pt_chain op_le op_le pe_int (pe_callB call_len_seq (by rfl) (gf_len G) rfl (pa_cons (pv 0) pa_nil)) (C8.pe_gc (by rfl) (gv_MOST_COLUMNS G))))))) pss_never pss_nil)
    (pss_one (ps_for PassesOwn.never rfl (pi_enum (by rfl) (gf_enumerate G) (pa_cons (pv 0) pa_nil)) (pg_tup rfl (pgs_cons (pg_name (i := 1) nd rfl (.inl rfl)) (pgs_cons (pg_name (i := 2) nd rfl (.inl rfl)) pgs_nil)))
      (pss_one (ps_if (PW.pt (pw_or (pt_not (pt_val (pe_d D2 hr (by rfl) (pa_cons (pv 2) pa_nil)))) (pw_or1 (pt_cmpR op_in_seq (pv 2) (pe_slice sl_list (pv 0) po_none (po_some (pv 1))) rfl)))) pss_never pss_nil)))), ?_⟩
  refine ⟨_, rfl, c, rfl, .l _ hc, fun H1 s1 => ⟨_, rfl, iteF ?_⟩⟩
  have hc1 := s1 _ _ hc
  refine ⟨_, rfl, c, _, rfl, .inl (.of hc1), _, _, rfl, rfl, _, rfl, ifT ?_ ⟨_, _, rfl, rfl, _, rfl, ifF ?_ ?_⟩⟩
  · rw [List.length_map]; show decide ((1 : Int) ≤ _) = true; rw [decide_eq_true_iff]; omega
  · rw [List.length_map]; show (!decide (_ ≤ (6 : Int))) = false; rw [Bool.not_eq_false', decide_eq_true_iff]; omega
  refine ⟨_, rfl, c, _, rfl, .of hc1, for_it (walk_enum (a := c) (xs := cs.map V.str)) (fun i σ H2 => Same H H2 ∧ ∃ x y, σ = [some (.ref c), x, y]) ⟨s1, none, none, rfl⟩ (fun i σ H2 _ h => .of (h.1 _ _ hc)) ?_ ?_⟩
  · rintro i x σ H2 H2' hi ⟨s2, x1, x2, rfl⟩ ⟨T, v1, v2, rfl, hT, rfl, e1, e2⟩
    cases e1
    obtain ⟨z, hz, rfl⟩ := some_map e2
    have s3 := Same.new (o := .tup [.int (i : Nat), .str z]) hT
    refine ⟨T, _, rfl, .of upd_same, rfl, _, _, rfl, _, _, rfl, rfl, ?_⟩
    refine ⟨_, rfl, z, rfl, ho z (List.mem_of_getElem? hz), fun H4 s4 => ⟨_, rfl, iteF ?_⟩⟩
    have hc4 := s4 _ _ (s3 _ _ (s2 _ _ hc))
    refine ⟨_, rfl, _, rfl, _, rfl, _, rfl, c, _, rfl, .of hc4, fun p hp => ⟨p, _, rfl, .inl (.of upd_same), rfl, ?_, _, rfl, ifF ?_ ⟨?_, _, _, rfl⟩⟩⟩
    · rw [take_cut, ← List.map_take]; exact flat_strs
    · rw [take_cut, ← List.map_take]
      show inV (.str z) ((cs.take i).map V.str) = false
      rw [inV_strs, decide_eq_false_iff_not]
      exact nd_take hn hz
    · exact same_trans s2 (same_trans s3 (same_trans s4 (Same.new hp)))
  · rintro σ H2 ⟨s2, _⟩
    exact hq _ s2
def pHasC : Pr := fun vs H Q => ∃ (v c : Addr) (cs : List Str) (f : Str → V), vs = [.ref v, .ref c] ∧ H v = some (.dK (dct cs f)) ∧ H c = some (.lst (cs.map V.str)) ∧ cs.length ≤ 1000 ∧ ∀ H', Same H H' → Q (.bl true) H'
theorem k_has_columns (G : GD K mg) : Keeps PP w K mg base 1 (ga K "has_columns") pHasC := by
  obtain ⟨fd, F⟩ := fd_has_columns G
  refine kp_fnN (k := 0) F sc_has_columns (fun _ _ _ _ _ _ us hl => match us, hl with | [_, _], _ => rfl) (by rintro _ _ _ ⟨v, c, cs, f, rfl, _⟩; rfl) fun cdv A outer s H vs Q E hr hp => ?_
  obtain ⟨v, c, cs, f, rfl, hv, hc, hlen, hq⟩ := hp
  have nd := sc_has_columns.nd
  have hs := sizeLine_eq
  refine ⟨_, pss_one (ps_ret (pe_and (pe_callB call_isi (by rfl) (gf_isinstance G) rfl (pa_cons (pv 0) (pa_cons (pe_bltn (by rfl) (gf_dict G) rfl (show RelV (.ty "dict") _ from rfl)) pa_nil)))
    (pe_and (pe_cmpR op_eq (pe_callB call_lenR (by rfl) (gf_len G) rfl (pa_cons (pv 0) pa_nil)) (pe_callB call_len_seq (by rfl) (gf_len G) rfl (pa_cons (pv 1) pa_nil)) (nomark _))
    (pe_one (pe_callB (cr_all rfl) (by rfl) (gf_all G) rfl (pa_cons (pe_lc (own := [("column", 2)]) (g := gName 2) (tt := tYes) (te := tDIn (tVar 2) (tVar 0)) rfl nd (pi_list (pv 1)) (blkOk_by (N := N_has_columns) (sc := defScope s_has_columns) (by decide +kernel)) (fun _ _ _ _ _ => pg_name (i := 2) nd rfl (.inl rfl)) (fun _ _ _ _ _ => pts_nil)
      (fun _ _ _ _ _ => pe_cmp (pc_din (hu_of hr.r) (pv 2) (pv 0)))) pa_nil)))))), ?_⟩
  refine ⟨_, rfl, _, _, _, _, true, rfl, .ty _, .base (.dK hv), kit_ty (by decide +kernel), _, rfl, iteT ?_⟩
  refine ⟨_, rfl, v, _, rfl, .inl hv, _, rfl, c, _, rfl, .inl (.of hc), rfl, _, rfl, ifT ?_ ?_⟩
  · rw [dct_len, List.length_map]; exact decide_eq_true rfl
  refine ⟨_, rfl, c, rfl, ⟨_, .of hc⟩, fun D hD => lc_gr (B := H) (walk_list (a := c) (xs := cs.map V.str)) (by rw [List.length_map]; omega) hD (fun _ y _ => y = .bl true) (fun _ _ _ _ _ h => h) (fun _ _ _ s => .of (s _ _ hc)) ?_ ?_⟩
  · rintro i x H2 H' acc hi s2 hD2 ⟨rfl, hx⟩ Fin hFin
    obtain ⟨z, hz, rfl⟩ := some_map hx
    refine ⟨rfl, _, rfl, _, rfl, v, _, rfl, .inl ⟨_, .inr z, .inl (s2 _ _ hv), rfl, rfl⟩, hFin _ _ (Same.refl _) ?_⟩
    rw [dct_in (List.mem_of_getElem? hz)]
    rfl
  · intro H2 ys s2 hD2 hl hR
    have e := bl_all hl hR
    rw [e] at hD2
    refine ⟨D, _, rfl, .of hD2, ?_⟩
    rw [all_rep]
    exact hq _ s2
def pWantT : Pr := fun vs H Q => ∃ (t c : Addr) (m : Int) (cs : List Str) (f : Str → Int), vs = [.ref t, .ref c, .int m] ∧ H t = some (.dK (dct cs fun x => .int (f x))) ∧ H c = some (.lst (cs.map V.str)) ∧ cs.length ≤ 1000 ∧ (∀ x ∈ cs, 0 ≤ f x ∧ f x < m) ∧ ∀ H', Same H H' → Q .non H'
theorem k_want_top (G : GD K mg) : Keeps PP w K mg base 3 (ga K "want_top") pWantT := by
  obtain ⟨fd, F⟩ := fd_want_top G
  refine kp_fnN (k := 2) F sc_want_top (fun _ _ _ _ _ _ us hl => match us, hl with | [_, _, _], _ => rfl) (by rintro _ _ _ ⟨t, c, m, cs, f, rfl, _⟩; rfl) fun cdv A outer s H vs Q E hr hp => ?_
  obtain ⟨t, c, m, cs, f, rfl, ht, hc, hlen, hf, hq⟩ := hp
  have nd := sc_want_top.nd
  have D1 : DefR PP w K mg base 2 "has_columns" pHasC := ⟨_, gg_has_columns G, gk_has_columns G, (k_has_columns G).mono (by omega)⟩
  have D2 : DefR PP w K mg base 2 "is_value" pIsVal := ⟨_, gg_is_value G, gk_is_value G, k_is_value G⟩
  refine ⟨_, pss_cons (ps_if (pt_not (pt_val (pe_d D1 hr (by rfl) (pa_cons (pv 0) (pa_cons (pv 1) pa_nil))))) pss_never pss_nil)
    (pss_one (ps_for PassesOwn.never rfl (pi_list (pv 1)) (pg_name (i := 3) nd rfl (.inl rfl))
      (pss_one (ps_if (pt_not (pt_val (pe_d D2 hr (by rfl) (pa_cons (pe_dget (hu_of hr.r) (pv 0) (pv 3) (fun _ _ => rfl)) (pa_cons (pv 2) pa_nil))))) pss_never pss_nil)))), ?_⟩
  refine ⟨_, rfl, _, rfl, t, c, cs, _, rfl, ht, hc, hlen, fun H1 s1 => ⟨_, rfl, iteF ?_⟩⟩
  refine ⟨_, rfl, c, rfl, ⟨_, .of (s1 _ _ hc)⟩, for_it (walk_list (a := c) (xs := cs.map V.str)) (fun i σ H2 => Same H H2 ∧ ∃ x, σ = [some (.ref t), some (.ref c), some (.int m), x]) ⟨s1, none, rfl⟩ (fun i σ H2 _ h => .of (h.1 _ _ hc)) ?_ ?_⟩
  · rintro i x σ H2 H2' hi ⟨s2, x1, rfl⟩ ⟨rfl, hx⟩
    obtain ⟨z, hz, rfl⟩ := some_map hx
    have hm := List.mem_of_getElem? hz
    refine ⟨_, rfl, _, rfl, t, _, rfl, .inl ⟨_, .inr z, .inl (s2 _ _ ht), rfl, (dct_in hm).symm⟩, _, rfl, f z, m, rfl, (hf z hm).1, (hf z hm).2, _, rfl, iteF ⟨s2, _, rfl⟩⟩
  · rintro σ H2 ⟨s2, _⟩
    exact hq _ s2
def pFit (K : Fr) : Pr := fun vs H Q => ∃ (f : Fm) (a : Addr) (l : List Addr) (m : Int) (c : Addr) (cs : List Str), vs = [.ref a, .ref c, .int m] ∧ IsFm K H f a l ∧ f.size ≤ 40 ∧ f.fit m cs ∧ H c = some (.lst (cs.map V.str)) ∧ Q (.bl true) H
theorem k_does_fit (G : GD K mg) : Keeps PP w K mg base 4 (ga K "does_fit") (pFit K) := by
  obtain ⟨fd, F⟩ := fd_does_fit G
  refine kp_fnN (k := 3) F sc_does_fit (fun _ _ _ _ _ _ us hl => match us, hl with | [_, _, _], _ => rfl) (by rintro _ _ _ ⟨f, a, l, m, c, cs, rfl, _⟩; rfl) fun cdv A outer s H vs Q E hr hp => ?_
  obtain ⟨f, a, l, m, c, cs, rfl, hf, hz, hfit, hc, hq⟩ := hp
  obtain ⟨ty, kt⟩ := fm_isi G hf
  refine ⟨_, pss_one (ps_ret (pe_and (pe_callB call_isi (by rfl) (gf_isinstance G) rfl (pa_cons (pv 0) (pa_cons (pe_glob (by rfl) (gg_Formula G) (show RelV (.ref _) _ from rfl)) pa_nil))) (pe_one (pe_mm hr (pv 0) (pa_cons (pv 2) (pa_cons (pv 1) pa_nil)))))), ?_⟩
  obtain ⟨dx, p, i, more, e, ei, hm⟩ := hf.obj
  refine ⟨_, rfl, _, _, _, _, true, rfl, .own _, ty, kt, _, rfl, iteT ?_⟩
  exact ⟨_, rfl, _, ⟨a, _, dx, _, rfl, e, hm.no (by decide +kernel) (by decide +kernel) (by decide +kernel) (by decide +kernel) (by decide +kernel) (by decide +kernel), fits_met G (by omega) f⟩, _, rfl, _, rfl, f, a, l, m, c, cs, rfl, hf, hz, hfit, hc, hq⟩
end
end Bn
/-! W11: the checks of a sheet's kinds, of a plan's rows. -/
namespace Bn
open PySem PySem.Spec PyProof.Rows L2 StX
open He (ga ma)
section
variable {w : World} {K : Fr} {mg : Str → Option Value} {base : Heap}
def pWantK (K : Fr) : Pr := fun vs H Q => ∃ (k c : Addr) (m : Int) (cs ks : List Str) (fm : Str → Str → Fm) (ka : Str → Addr), vs = [.ref k, .ref c, .int m] ∧ H c = some (.lst (cs.map V.str)) ∧ cs.length ≤ 1000 ∧ H k = some (.dK (dct ks fun x => .ref (ka x))) ∧ 1 ≤ ks.length ∧ ks.length ≤ 4 ∧ (∀ x ∈ ks, okName x = true) ∧
  (∀ x ∈ ks, ∃ fa : Str → Addr, H (ka x) = some (.dK (dct cs fun y => .ref (fa y))) ∧ ∀ y ∈ cs, ∃ l, IsFm K H (fm x y) (fa y) l ∧ (fm x y).fit m cs ∧ (fm x y).size ≤ 40) ∧ ∀ H', Same H H' → Q .non H'
theorem k_want_kinds (G : GD K mg) : Keeps PP w K mg base 5 (ga K "want_kinds") (pWantK K) := by
  obtain ⟨fd, F⟩ := fd_want_kinds G
  refine kp_fnN (k := 4) F sc_want_kinds (fun _ _ _ _ _ _ us hl => match us, hl with | [_, _, _], _ => rfl) (by rintro _ _ _ ⟨k, c, m, cs, ks, fm, ka, rfl, _⟩; rfl) fun cdv A outer s H vs Q E hr hp => ?_
  obtain ⟨k, c, m, cs, ks, fm, ka, rfl, hc, hlen, hk, h1, h4, ho, hf, hq⟩ := hp
  have nd := sc_want_kinds.nd
  have hs := sizeLine_eq
  have D1 : DefR PP w K mg base 4 "is_name" pIsName := ⟨_, gg_is_name G, gk_is_name G, (k_is_name G).mono (by omega)⟩
  have D2 : DefR PP w K mg base 4 "has_columns" pHasC := ⟨_, gg_has_columns G, gk_has_columns G, (k_has_columns G).mono (by omega)⟩
  have D3 : DefR PP w K mg base 4 "does_fit" (pFit K) := ⟨_, gg_does_fit G, gk_does_fit G, k_does_fit G⟩
  refine ⟨_, pss_cons (ps_lock (ps_if (PW.pt (pw_or (pt_not (pt_val (pe_callB call_isi (by rfl) (gf_isinstance G) rfl (pa_cons (pv 0) (pa_cons (pe_bltn (by rfl) (gf_dict G) rfl (show RelV (.ty "dict") _ from rfl)) pa_nil)))))
      (pw_or (pt_not (pt_chain op_le op_le pe_int (pe_callB call_lenR (by rfl) (gf_len G) rfl (pa_cons (pv 0) pa_nil)) (C8.pe_gc (by rfl) (gv_MOST_KINDS G))))
        (pw_or1 (pt_not (pt_val (pe_callB (cr_all rfl) (by rfl) (gf_all G) rfl (pa_cons (pe_lc (own := [("kind", 3)]) (g := gName 3) (tt := tYes) (te := tD pIsName (tCons (tVar 3) tNil)) rfl nd (pi_keys (pv 0)) (blkOk_by (N := N_want_kinds) (sc := defScope s_want_kinds) (by decide +kernel)) (fun _ _ _ _ _ => pg_name (i := 3) nd rfl (.inl rfl)) (fun _ _ _ _ _ => pts_nil)
          (fun _ _ _ _ _ => pe_d D1 hr (by rfl) (pa_cons (pv 3) pa_nil))) pa_nil)))))))) pss_never pss_nil))
    (pss_one (ps_for PassesOwn.never rfl (pi_list (pe_callB (call_sortedD rfl) (by rfl) (gf_sorted G) rfl (pa_cons (pv 0) pa_nil))) (pg_name (i := 3) nd rfl (.inl rfl))
      (pss_cons (ps_if (pt_not (pt_val (pe_d D2 hr (by rfl) (pa_cons (pe_dget (hu_of hr.r) (pv 0) (pv 3) (fun _ _ => rfl)) (pa_cons (pv 1) pa_nil))))) pss_never pss_nil)
      (pss_one (ps_for PassesOwn.never rfl (pi_list (pv 1)) (pg_name (i := 4) nd rfl (.inl rfl))
        (pss_one (ps_if (pt_not (pt_val (pe_d D3 hr (by rfl) (pa_cons (pe_dget (hu_of hr.r) (pe_dget (hu_of hr.r) (pv 0) (pv 3) (fun _ _ => rfl)) (pv 4) (fun _ _ => rfl)) (pa_cons (pv 1) (pa_cons (pv 2) pa_nil)))))) pss_never pss_nil))))))), ?_⟩
  refine ⟨k, _, hk, trivial, fun od => ?_⟩
  have hkl : upd H k (.frz od (.dK (dct ks fun x => V.ref (ka x)))) k = some (.frz od (.dK (dct ks fun x => V.ref (ka x)))) := upd_same
  generalize hHl : upd H k (.frz od (.dK (dct ks fun x => V.ref (ka x)))) = Hl at hkl
  refine ⟨_, rfl, _, _, _, _, true, rfl, .ty _, .fDict hkl, kit_ty (by decide +kernel), _, rfl, iteF ?_⟩
  refine ⟨_, rfl, k, _, rfl, .inr ⟨od, hkl⟩, _, _, rfl, rfl, _, rfl, ifT ?_ ⟨_, _, rfl, rfl, _, rfl, ifF ?_ ?_⟩⟩
  · rw [dct_len]; show decide ((1 : Int) ≤ _) = true; rw [decide_eq_true_iff]; omega
  · rw [dct_len]; show (!decide (_ ≤ (4 : Int))) = false; rw [Bool.not_eq_false', decide_eq_true_iff]; omega
  refine ⟨_, rfl, k, od, rfl, .inl ⟨_, hkl, fun D hD => lc_gr (B := Hl) (walk_keys (d := k) (o := od) (kvs := dct ks fun x => V.ref (ka x))) (by rw [dct_len]; omega) hD (fun _ y _ => y = .bl true) (fun _ _ _ _ _ h => h) (fun _ _ _ s => s _ _ hkl) ?_ ?_⟩⟩
  · rintro i x H2 H' acc hi s2 hD2 ⟨rfl, z, v, hz, rfl⟩ Fin hFin
    obtain ⟨y, hy, e⟩ := some_map hz
    cases e
    exact ⟨rfl, _, rfl, y, rfl, ho y (List.mem_of_getElem? hy), fun H3 s3 => hFin _ _ s3 rfl⟩
  · intro H2 ys s2 hD2 hl hR
    have e := bl_all hl hR
    rw [e] at hD2
    refine ⟨D, _, rfl, .of hD2, _, rfl, ?_⟩
    rw [all_rep]
    refine iteF ⟨s2 _ _ hkl, ?_⟩
    have s3 : Same H (upd H2 k (.dK (dct ks fun x => V.ref (ka x)))) := lock_same hk (by rw [hHl]; exact s2)
    generalize upd H2 k (.dK (dct ks fun x => V.ref (ka x))) = H3 at s3
    refine ⟨_, rfl, k, _, ks, rfl, .inl (s3 _ _ hk), dct_keys, by omega, fun ys p hperm _ hp => ⟨p, rfl, ⟨_, .of upd_same⟩, ?_⟩⟩
    have s4 := same_trans s3 (Same.new (o := .lst (ys.map V.str)) hp)
    refine for_it (walk_list (a := p) (xs := ys.map V.str)) (fun i σ H4 => Same H H4 ∧ H4 p = some (.lst (ys.map V.str)) ∧ ∃ x y, σ = [some (.ref k), some (.ref c), some (.int m), x, y]) ⟨s4, upd_same, none, none, rfl⟩ (fun i σ H4 _ h => .of h.2.1) ?_ ?_
    · rintro i x σ H4 H4' hi ⟨s5, hp5, x1, x2, rfl⟩ ⟨rfl, hx⟩
      obtain ⟨z, hz, rfl⟩ := some_map hx
      have hzk : z ∈ ks := hperm.mem_iff.mp (List.mem_of_getElem? hz)
      obtain ⟨fa, g1, g2⟩ := hf z hzk
      refine ⟨_, rfl, _, rfl, k, _, rfl, .inl ⟨_, .inr z, .inl (s5 _ _ hk), rfl, (dct_in hzk).symm⟩, _, rfl, ka z, c, cs, _, rfl, s5 _ _ g1, s5 _ _ hc, hlen, fun H5 s6 => ⟨_, rfl, iteF ?_⟩⟩
      have s56 := same_trans s5 s6
      refine ⟨_, rfl, c, rfl, ⟨_, .of (s56 _ _ hc)⟩, for_it (walk_list (a := c) (xs := cs.map V.str)) (fun i σ H6 => Same H5 H6 ∧ ∃ y, σ = [some (.ref k), some (.ref c), some (.int m), some (.str z), y]) ⟨Same.refl _, _, rfl⟩ (fun i σ H6 _ h => .of (h.1 _ _ (s56 _ _ hc))) ?_ ?_⟩
      · rintro j x σ H6 H6' hj ⟨s7, y1, rfl⟩ ⟨rfl, hx⟩
        obtain ⟨y, hy, rfl⟩ := some_map hx
        have hyc := List.mem_of_getElem? hy
        obtain ⟨l, l1, l2, l3⟩ := g2 y hyc
        have s57 := same_trans s56 s7
        exact ⟨_, rfl, _, rfl, k, _, rfl, .inl ⟨_, .inr z, .inl (s57 _ _ hk), rfl, (dct_in hzk).symm⟩, _, rfl, ka z, _, rfl, .inl ⟨_, .inr y, .inl (s57 _ _ g1), rfl, (dct_in hyc).symm⟩, _, rfl, _, rfl, fm z y, fa y, l, m, c, cs, rfl, l1.up s57, l3, l2, s57 _ _ hc, _, rfl, iteF ⟨s7, _, rfl⟩⟩
      · rintro σ H6 ⟨s7, y, rfl⟩
        exact ⟨same_trans s56 s7, s7 _ _ (s6 _ _ hp5), _, _, rfl⟩
    · rintro σ H4 ⟨s5, _⟩
      exact hq _ s5
theorem k_is_place (G : GD K mg) : Keeps PP w K mg base 2 (ga K "is_place") pIsVal := by
  obtain ⟨fd, F⟩ := fd_is_place G
  refine kp_fn0 (k := 1) F sc_is_place (fun _ _ _ _ _ _ us hl => match us, hl with | [_, _], _ => rfl) (by rintro _ _ _ ⟨i, m, rfl, _⟩; rfl) fun cdv A outer s H vs Q E hr hp => ?_
  obtain ⟨i, m, rfl, h0, h1, hq⟩ := hp
  have D : DefR PP w K mg base 1 "is_integer" pIsInt := ⟨_, gg_is_integer G, gk_is_integer G, k_is_integer G⟩
  refine ⟨_, pss_one (ps_ret (pe_and (pe_d D hr (by rfl) (pa_cons (pv 0) pa_nil)) (pe_one (pe_chain op_le op_lt pe_int (pv 0) (pv 1))))), ?_⟩
  exact ⟨_, rfl, i, rfl, _, rfl, iteT ⟨_, rfl, _, _, rfl, rfl, _, rfl, ifT (by simp [h0]) ⟨_, rfl, _, _, rfl, rfl, by show Q (.bl (decide (i < m))) H; rw [decide_eq_true h1]; exact hq⟩⟩⟩
def pPlaceR : Pr := fun vs H Q => ∃ (v k : Addr) (n : Int) (ks kinds : List Str) (g : Str → Int) (f : Str → V), vs = [.ref v, .ref k, .int n] ∧ v ≠ k ∧ H v = some (.dK (dct ks fun x => .int (g x))) ∧ H k = some (.dK (dct kinds f)) ∧ 1 ≤ ks.length ∧ ks.length ≤ 1000 ∧ (∀ x ∈ ks, x ∈ kinds ∧ 0 ≤ g x ∧ g x < n) ∧ ∀ H', Same H H' → Q (.bl true) H'
theorem k_is_place_row (G : GD K mg) : Keeps PP w K mg base 3 (ga K "is_place_row") pPlaceR := by
  obtain ⟨fd, F⟩ := fd_is_place_row G
  refine kp_fn0 (k := 2) F sc_is_place_row (fun _ _ _ _ _ _ us hl => match us, hl with | [_, _, _], _ => rfl) (by rintro _ _ _ ⟨v, k, n, ks, kinds, g, f, rfl, _⟩; rfl) fun cdv A outer s H vs Q E hr hp => ?_
  obtain ⟨v, k, n, ks, kinds, g, f, rfl, hvk, hv, hk, h1, hlen, hks, hq⟩ := hp
  have nd := sc_is_place_row.nd
  have hs := sizeLine_eq
  have D : DefR PP w K mg base 2 "is_place" pIsVal := ⟨_, gg_is_place G, gk_is_place G, k_is_place G⟩
  refine ⟨_, pss_cons (ps_if (PW.pt (pw_or (pt_not (pt_val (pe_callB call_isi (by rfl) (gf_isinstance G) rfl (pa_cons (pv 0) (pa_cons (pe_bltn (by rfl) (gf_dict G) rfl (show RelV (.ty "dict") _ from rfl)) pa_nil)))))
      (pw_or1 (pt_cmpR op_eq (pe_callB call_lenR (by rfl) (gf_len G) rfl (pa_cons (pv 0) pa_nil)) pe_int (nomark _))))) (pss_one (ps_ret pe_bl)) pss_nil)
    (pss_one (ps_lock (ps_ret (pe_callB (cr_all rfl) (by rfl) (gf_all G) rfl (pa_cons (pe_lc (own := [("kind", 3)]) (g := gName 3) (tt := tYes) (te := tAndV (tCB (rIsi K) (tCons (tVar 3) (tCons (tC (.ty "str")) tNil))) (tAndV (tDIn (tVar 3) (tVar 1)) (tD pIsVal (tCons (tDGet (tVar 0) (tVar 3)) (tCons (tVar 2) tNil))))) rfl nd (pi_keys (pv 0))
      (blkOk_by (N := N_is_place_row) (sc := defScope s_is_place_row) (by decide +kernel)) (fun _ _ _ _ _ => pg_name (i := 3) nd rfl (.inl rfl)) (fun _ _ _ _ _ => pts_nil)
      (fun _ _ _ _ _ => pe_and (pe_callB call_isi (by rfl) (gf_isinstance G) rfl (pa_cons (pv 3) (pa_cons (pe_bltn (by rfl) (gf_str G) rfl (show RelV (.ty "str") _ from rfl)) pa_nil)))
        (pe_and (pe_cmp (pc_din (hu_of hr.r) (pv 3) (pv 1))) (pe_one (pe_d D hr (by rfl) (pa_cons (pe_dget (hu_of hr.r) (pv 0) (pv 3) (fun _ _ => rfl)) (pa_cons (pv 2) pa_nil))))))) pa_nil))))), ?_⟩
  refine ⟨_, rfl, _, _, _, _, true, rfl, .ty _, .base (.dK hv), kit_ty (by decide +kernel), _, rfl, iteF ?_⟩
  refine ⟨_, rfl, v, _, rfl, .inl hv, rfl, _, rfl, ifF ?_ ?_⟩
  · rw [dct_len, decide_eq_false_iff_not]; intro e; have e := V.int.inj e; omega
  refine ⟨v, _, hv, trivial, fun od => ?_⟩
  have hvl : upd H v (.frz od (.dK (dct ks fun x => V.int (g x)))) v = some (.frz od (.dK (dct ks fun x => V.int (g x)))) := upd_same
  have hkl : upd H v (.frz od (.dK (dct ks fun x => V.int (g x)))) k = some (.dK (dct kinds f)) := by rw [upd_ne (Ne.symm hvk)]; exact hk
  generalize hHl : upd H v (.frz od (.dK (dct ks fun x => V.int (g x)))) = Hl at hvl hkl
  refine ⟨_, rfl, v, od, rfl, .inl ⟨_, hvl, fun D hD => lc_gr (B := Hl) (walk_keys (d := v) (o := od) (kvs := dct ks fun x => V.int (g x))) (by rw [dct_len]; omega) hD (fun _ y _ => y = .bl true) (fun _ _ _ _ _ h => h) (fun _ _ _ s => s _ _ hvl) ?_ ?_⟩⟩
  · rintro i x H2 H' acc hi s2 hD2 ⟨rfl, z, u, hz, rfl⟩ Fin hFin
    obtain ⟨y, hy, e⟩ := some_map hz
    cases e
    have hyk := List.mem_of_getElem? hy
    obtain ⟨y1, y2, y3⟩ := hks y hyk
    refine ⟨rfl, _, rfl, _, _, _, _, true, rfl, .ty _, .base (.str _), kit_ty (by decide +kernel), _, rfl, iteT ?_⟩
    refine ⟨_, rfl, _, rfl, k, _, rfl, .inl ⟨_, .inr y, .inl (s2 _ _ hkl), rfl, rfl⟩, _, rfl, ifT (by rw [dct_in y1]; rfl) ?_⟩
    exact ⟨_, rfl, _, rfl, v, _, rfl, .inl ⟨_, .inr y, .inr ⟨od, s2 _ _ hvl⟩, rfl, (dct_in hyk).symm⟩, _, rfl, g y, n, rfl, y2, y3, hFin _ _ (Same.refl _) rfl⟩
  · intro H2 ys s2 hD2 hl hR
    have e := bl_all hl hR
    rw [e] at hD2
    refine ⟨D, _, rfl, .of hD2, ?_⟩
    rw [all_rep]
    exact ⟨s2 _ _ hvl, hq _ (lock_same hv (by rw [hHl]; exact s2))⟩
end
end Bn
/-! W12: the plan: the places that are reached. -/
namespace Bn
open PySem PySem.Spec PyProof.Rows L2 StX
open He (ga ma)
abbrev Plan : Type := List (List Str × (Str → Int))
/-- the places that a row leads to -/
def succs (r : List Str × (Str → Int)) : List Int := r.1.map r.2
/-- the places up to n that are not yet found -/
def miss (n : Nat) (F : List Int) : Nat := (List.range n).countP fun i => decide (((i : Nat) : Int) ∉ F)
theorem miss_add {n : Nat} {F : List Int} {p : Int} (h0 : 0 ≤ p) (h1 : p < n) (hp : p ∉ F) : miss n (F ++ [p]) < miss n F := by
  unfold miss
  refine Prb.countP_lt (a := p.toNat) (fun x _ hx => ?_) (List.mem_range.mpr (by omega)) ?_ ?_
  · rw [decide_eq_true_iff] at hx ⊢
    exact fun z => hx (List.mem_append_left _ z)
  · rw [decide_eq_false_iff_not, Classical.not_not]
    exact List.mem_append_right _ (List.mem_singleton.mpr (by omega))
  · rw [decide_eq_true_iff, show ((p.toNat : Nat) : Int) = p from by omega]
    exact hp
def fK (F : List Int) : List (Key × V) := F.map fun p => (.inl p, .bl true)
theorem valV_fK (p : Int) : ∀ F : List Int, valV (fK F) (.inl p) = if p ∈ F then some (.bl true) else none
  | [] => rfl
  | a :: F => by
    show valV (((Sum.inl a : Key), V.bl true) :: fK F) (.inl p) = _
    by_cases h : a = p
    · subst h
      rw [if_pos List.mem_cons_self]
      exact valV_pos (p := ((Sum.inl a : Key), V.bl true)) rfl
    · rw [valV_neg (p := ((Sum.inl a : Key), V.bl true)) (fun e => h (Sum.inl.inj e)), valV_fK p F]
      by_cases hc : p ∈ F
      · rw [if_pos hc, if_pos (List.mem_cons_of_mem _ hc)]
      · rw [if_neg hc, if_neg (fun z => by rcases List.mem_cons.mp z with e | e; exact h e.symm; exact hc e)]
theorem fK_put {F : List Int} {p : Int} (h : p ∉ F) : putK (fK F) (.inl p) (.bl true) = fK (F ++ [p]) := by
  rw [putK_new _ (by rw [valV_fK, if_neg h])]
  unfold fK
  rw [List.map_append]
  rfl
/-- found so far, waiting; r: the row that is being read -/
structure Rch (pl : Plan) (F W : List Int) (r : Option Int) : Prop where
  rng : ∀ p ∈ F, 0 ≤ p ∧ p < pl.length
  z : (0 : Int) ∈ F
  w : ∀ p ∈ W, p ∈ F
  d : ∀ p ∈ F, p ∈ W ∨ r = some p ∨ ∀ row, pl[p.toNat]? = some row → ∀ q ∈ succs row, q ∈ F
section
variable {w : World} {K : Fr} {mg : Str → Option Value} {base : Heap}
theorem dLe {n m k : Nat} (h : n + 1 ≤ m) (h2 : m ≤ k) : n < k := by omega
def pReach : Pr := fun vs H Q => ∃ (p : Addr) (rs : List Addr) (pl : Plan), vs = [.ref p] ∧ H p = some (.lst (rs.map V.ref)) ∧ Paired (fun a r => H a = some (.dK (dct r.1 fun x => .int (r.2 x)))) rs pl ∧ 1 ≤ pl.length ∧ pl.length ≤ 100 ∧ (∀ r ∈ pl, r.1.length ≤ 100 ∧ ∀ k ∈ r.1, 0 ≤ r.2 k ∧ r.2 k < pl.length) ∧
  ∀ (H' : Hp) (r : Addr) (F : List Int), Same H H' → H' r = some (.dK (fK F)) → Rch pl F [] none → Q (.ref r) H'
theorem k_places_reached (G : GD K mg) : Keeps PP w K mg base 1 (ga K "places_reached") pReach := by
  obtain ⟨fd, F⟩ := fd_places_reached G
  refine kp_fnN (k := 0) F sc_places_reached (fun _ _ _ _ _ _ us hl => match us, hl with | [_], _ => rfl) (by rintro _ _ _ ⟨p, rs, pl, rfl, _⟩; rfl) fun cdv A outer s H vs Q E hr hp => ?_
  obtain ⟨p, rs, pl, rfl, hp, hrs, h1, h100, hrow, hq⟩ := hp
  have nd := sc_places_reached.nd
  have hs := sizeLine_eq
  have hu := hr.r.units
  refine ⟨_, pss_cons (ps_par (i := 1) (j := 2) rfl nd rfl rfl (by decide) rfl rfl (pa_cons (pe_disp (pps_cons pe_int pe_bl pps_nil) rfl rfl (by simp) (by decide)) (pa_cons (pe_lst (pa_cons pe_int pa_nil)) pa_nil)) rfl)
    (pss_cons (ps_while PassesOwn.never (pt_cmpR (op_neNil hu) (pv 2) (pe_lst pa_nil) (nomark _))
      (pss_cons (ps_set (i := 3) nd rfl (.inl rfl) (pe_ix ix_list (pv 0) (pe_bm0 PySem.F.plainAttrs_list PySem.F.slot_list_pop PySem.F.type_list_pop mt_pop (pv 2)) (fun _ _ => rfl)))
      (pss_one (ps_lock (ps_for PassesOwn.never rfl (pi_values (pv 3)) (pg_name (i := 4) nd rfl (.inl rfl))
        (pss_one (ps_if (pt_cmp (pc_dnotin (hu_of hr.r) (pv 4) (pv 1))) (pss_cons (ps_dput (hu_of hr.r) (pv 1) (pv 4) pe_bl rfl)
          (pss_one (ps_expr (pe_bm PySem.F.plainAttrs_list PySem.F.slot_list_append PySem.F.type_list_append mt_append (pv 2) (pa_cons (pv 4) pa_nil))))) pss_nil)))))))
    (pss_one (ps_ret (pv 1)))), ?_⟩
  refine fun fd hfd => ⟨upd_same, [((Sum.inl 0 : Key), V.bl true)], rfl, (by show 1 ≤ 15; decide), ?_⟩
  rw [upd_upd]
  refine ⟨(by show 1 ≤ sizeLine; decide), fun wd hwd => ⟨_, _, rfl, ?_⟩⟩
  have s0 : Same H (upd (upd H fd (.dK (mergeK [] [((Sum.inl 0 : Key), V.bl true)]))) wd (.lst [.int 0])) := same_trans (Same.new hfd) (Same.new hwd)
  have hwd' : H wd = none := (Same.new hfd).free hwd
  have hne : fd ≠ wd := ne_of_none upd_same hwd
  have hm0 : 1 + miss pl.length [0] ≤ pl.length := by
    have := miss_add (n := pl.length) (F := []) (p := 0) (by omega) (by omega) (by simp)
    have z : miss pl.length [] ≤ pl.length := by
      unfold miss
      refine Nat.le_trans List.countP_le_length ?_
      rw [List.length_range]
      exact Nat.le_refl _
    rw [List.nil_append] at this
    omega
  refine ⟨fun m σ H1 => ∃ F W x y, m = 2 * miss pl.length F + W.length ∧ σ = [some (.ref p), some (.ref fd), some (.ref wd), x, y] ∧ Same H H1 ∧ H1 fd = some (.dK (fK F)) ∧ H1 wd = some (.lst (W.map V.int)) ∧ Rch pl F W none ∧ F.length + miss pl.length F ≤ pl.length ∧ m ≤ 300,
    ⟨_, [0], [0], none, none, rfl, rfl, s0, by rw [upd_ne hne]; exact upd_same, upd_same, ⟨?_, by simp, fun p h => h, fun p h => .inl h⟩, hm0, by have : ([0] : List Int).length = 1 := rfl; omega⟩, ?_⟩
  · intro p hp
    cases List.mem_singleton.mp hp
    omega
  rintro m σ H1 ⟨F, W, x, y, hm, rfl, s1, hf, hw, hR, hFm, hm3⟩
  refine ⟨_, rfl, Nat.zero_le _, fun e he => ⟨wd, e, _, rfl, rfl, .of (Same.new he _ _ hw), .of upd_same, _, rfl, ?_⟩⟩
  have s2 := same_trans s1 (Same.new (o := .lst []) he)
  have hf2 := Same.new (o := .lst []) he _ _ hf
  have hw2 := Same.new (o := .lst []) he _ _ hw
  generalize upd H1 e (.lst []) = H2 at s2 hf2 hw2
  refine ifB (fun hb => ?one) (fun hb => ?nothing)
  case nothing =>
    have hW : W = [] := by
      cases W with
      | nil => rfl
      | cons a r => cases hb
    subst hW
    exact ⟨_, rfl, hq H2 fd F s2 hf2 hR⟩
  -- one is taken
  have hWne : W ≠ [] := fun z => by rw [z] at hb; cases hb
  obtain ⟨W0, r, rfl⟩ : ∃ W0 r, W = W0 ++ [r] := ⟨W.dropLast, W.getLast hWne, (List.dropLast_concat_getLast hWne).symm⟩
  have hrF : r ∈ F := hR.w r (by simp)
  obtain ⟨hr0, hr1⟩ := hR.rng r hrF
  obtain ⟨row, hrow'⟩ : ∃ row, pl[r.toNat]? = some row := ⟨pl[r.toNat]'(by omega), List.getElem?_eq_getElem (by omega)⟩
  obtain ⟨ra, hra, hrd⟩ := paired_get' hrs hrow'
  have hpl := hrow row (List.mem_of_getElem? hrow')
  rw [List.length_append, List.length_singleton] at hm
  refine ⟨fun σ' H' => ∃ F' W' x y, 2 * miss pl.length F' + W'.length < m ∧ σ' = [some (.ref p), some (.ref fd), some (.ref wd), x, y] ∧ Same H H' ∧ H' fd = some (.dK (fK F')) ∧ H' wd = some (.lst (W'.map V.int)) ∧ Rch pl F' W' none ∧ F'.length + miss pl.length F' ≤ pl.length, ?_, ?_⟩
  · rintro σ' H' ⟨F', W', x', y', h1, h2, h3, h4, h5, h6, h7⟩
    exact ⟨_, h1, F', W', x', y', rfl, h2, h3, h4, h5, h6, h7, by omega⟩
  refine ⟨_, rfl, _, rfl, .inl ⟨rfl, _, .of hw2⟩, wd, _, .int r, rfl, rfl, hw2, ?_, p, rs.map V.ref, r, .ref ra, rfl, rfl, .of ?_, ?_, ?_⟩
  · rw [List.map_append]; simp
  · rw [upd_ne (ne_of_none hp hwd')]; exact s2 _ _ hp
  · refine at_of (j := r.toNat) (by omega) ?_
    rw [List.getElem?_map, hra]
    rfl
  have s3 : Same H (upd H2 wd (.lst ((W0 ++ [r]).map V.int).dropLast)) := s2.put hwd'
  have hW0 : ((W0 ++ [r]).map V.int).dropLast = W0.map V.int := by rw [List.map_append]; simp
  rw [hW0] at s3 ⊢
  have hf3 : upd H2 wd (.lst (W0.map V.int)) fd = some (.dK (fK F)) := by rw [upd_ne hne]; exact hf2
  have hw3 : upd H2 wd (.lst (W0.map V.int)) wd = some (.lst (W0.map V.int)) := upd_same
  generalize upd H2 wd (.lst (W0.map V.int)) = H3 at s3 hf3 hw3
  refine ⟨ra, _, s3 _ _ hrd, trivial, fun od => ?_⟩
  have hfr : fd ≠ ra := (ne_of_none hrd hfd).symm
  have hwr : wd ≠ ra := (ne_of_none hrd hwd').symm
  have lk : Same (upd H ra (.frz od (.dK (dct row.1 fun x => V.int (row.2 x))))) (upd H3 ra (.frz od (.dK (dct row.1 fun x => V.int (row.2 x))))) := fun b o e => by
    by_cases h : b = ra
    · subst h; rw [upd_same] at e ⊢; exact e
    · rw [upd_ne h] at e ⊢; exact s3 b o e
  have hfl : upd H ra (.frz od (.dK (dct row.1 fun x => V.int (row.2 x)))) fd = none := by rw [upd_ne hfr]; exact hfd
  have hwl : upd H ra (.frz od (.dK (dct row.1 fun x => V.int (row.2 x)))) wd = none := by rw [upd_ne hwr]; exact hwd'
  have hrl : upd H ra (.frz od (.dK (dct row.1 fun x => V.int (row.2 x)))) ra = some (.frz od (.dK (dct row.1 fun x => V.int (row.2 x)))) := upd_same
  refine ⟨_, rfl, ra, od, _, rfl, upd_same, for_it (walk_values (d := ra) (o := od) (kvs := dct row.1 fun x => V.int (row.2 x))) (fun j σ H4 => ∃ F' W' y, σ = [some (.ref p), some (.ref fd), some (.ref wd), some (.ref ra), y] ∧
    Same (upd H ra (.frz od (.dK (dct row.1 fun x => V.int (row.2 x))))) H4 ∧ H4 fd = some (.dK (fK F')) ∧ H4 wd = some (.lst (W'.map V.int)) ∧ Rch pl F' W' (some r) ∧ F'.length + miss pl.length F' ≤ pl.length ∧ 2 * miss pl.length F' + W'.length ≤ 2 * miss pl.length F + W0.length ∧
    ∀ i k, i < j → row.1[i]? = some k → row.2 k ∈ F') ?_ (fun j σ H4 _ h => ?_) ?_ ?_⟩
  · refine ⟨F, W0, _, rfl, lk, by rw [upd_ne hfr]; exact hf3, by rw [upd_ne hwr]; exact hw3, ⟨hR.rng, hR.z, fun p hp => hR.w p (List.mem_append_left _ hp), fun p hp => ?_⟩, hFm, Nat.le_refl _, fun i k hi => absurd hi (Nat.not_lt_zero _)⟩
    rcases hR.d p hp with h | h | h
    · rcases List.mem_append.mp h with h | h
      · exact .inl h
      · cases List.mem_singleton.mp h; exact .inr (.inl rfl)
    · cases h
    · exact .inr (.inr h)
  · obtain ⟨F', W', y', _, s4, _⟩ := h
    exact s4 _ _ hrl
  · rintro j x' σ H4 H4' hj ⟨F', W', y', rfl, s4, hf4, hw4, hR4, hFm4, hms4, hdone⟩ ⟨rfl, k0, hx⟩
    obtain ⟨k, hk, e⟩ := some_map hx
    cases e
    have hkr := hpl.2 k (List.mem_of_getElem? hk)
    refine ⟨_, rfl, _, rfl, fd, _, rfl, .inl ⟨_, .inl (row.2 k), .inl hf4, rfl, rfl⟩, _, rfl, ?_⟩
    have more : ∀ F'' : List Int, (∀ p ∈ F', p ∈ F'') → row.2 k ∈ F'' → ∀ (i : Nat) (k' : Str), i < j + 1 → row.1[i]? = some k' → row.2 k' ∈ F'' := fun F'' hsub hin i k' hi hk' => by
      by_cases hij : i < j
      · exact hsub _ (hdone i k' hij hk')
      · have : i = j := by omega
        subst this
        rw [hk] at hk'
        cases hk'
        exact hin
    by_cases hin : row.2 k ∈ F'
    · refine ifF (by rw [valV_fK, if_pos hin]; rfl) ⟨F', W', _, rfl, s4, hf4, hw4, hR4, hFm4, hms4, more F' (fun _ h => h) hin⟩
    · have hmiss := miss_add hkr.1 hkr.2 hin
      refine ifT (by rw [valV_fK, if_neg hin]; rfl) ⟨_, rfl, _, rfl, fd, _, rfl, DPut.k (k := .inl (row.2 k)) hf4 ?_, ?_⟩
      · unfold fK; rw [List.length_map]; omega
      rw [fK_put hin]
      have hw5 : upd H4' fd (.dK (fK (F' ++ [row.2 k]))) wd = some (.lst (W'.map V.int)) := by rw [upd_ne hne.symm]; exact hw4
      refine ⟨_, rfl, .inl ⟨rfl, _, .of hw5⟩, _, rfl, wd, _, _, rfl, rfl, hw5, ?_, ?_⟩
      · rw [List.length_map]; omega
      refine ⟨F' ++ [row.2 k], W' ++ [row.2 k], _, rfl, (s4.put hfl).put hwl, ?_, ?_, ⟨?_, List.mem_append_left _ hR4.z, ?_, ?_⟩, ?_, ?_, more _ (fun _ h => List.mem_append_left _ h) (by simp)⟩
      · rw [upd_ne hne]; exact upd_same
      · rw [upd_same, List.map_append]; rfl
      · intro q hq'
        rcases List.mem_append.mp hq' with h | h
        · exact hR4.rng q h
        · cases List.mem_singleton.mp h; exact hkr
      · intro q hq'
        rcases List.mem_append.mp hq' with h | h
        · exact List.mem_append_left _ (hR4.w q h)
        · exact List.mem_append_right _ h
      · intro q hq'
        rcases List.mem_append.mp hq' with h | h
        · rcases hR4.d q h with h | h | h
          · exact .inl (List.mem_append_left _ h)
          · exact .inr (.inl h)
          · exact .inr (.inr fun row' h1 q' h2 => List.mem_append_left _ (h row' h1 q' h2))
        · exact .inl (List.mem_append_right _ h)
      · rw [List.length_append, List.length_singleton]; omega
      · rw [List.length_append, List.length_singleton]; omega
  · rintro σ H4 ⟨F', W', y', rfl, s4, hf4, hw4, hR4, hFm4, hms4, hdone⟩
    refine ⟨s4 _ _ hrl, F', W', _, _, by omega, rfl, lock_same hrd s4, ?_, ?_, ⟨hR4.rng, hR4.z, hR4.w, fun q hq' => ?_⟩, hFm4⟩
    · rw [upd_ne hfr]; exact hf4
    · rw [upd_ne hwr]; exact hw4
    · rcases hR4.d q hq' with h | h | h
      · exact .inl h
      · cases h
        refine .inr (.inr fun row' h1 q' h2 => ?_)
        rw [hrow'] at h1
        cases h1
        obtain ⟨k, hk, rfl⟩ := List.mem_map.mp h2
        obtain ⟨i, hi⟩ := List.mem_iff_getElem?.mp hk
        exact hdone i k (by rw [dct_len]; exact (List.getElem?_eq_some_iff.mp hi).1) hi
      · exact .inr (.inr h)
end
end Bn
/-! W23: the law's draws. -/
namespace Bn
open PySem PySem.Spec PyProof.Rows L2 StX
open He (ga ma)
theorem zA : (0 : Int) < 2147483563 := by decide
theorem zB : (0 : Int) < 2147483629 := by decide
theorem zC : (0 : Int) < 2147483587 := by decide
theorem zD : (0 : Int) < 2147483549 := by decide
theorem seqIx {d : Int} {n : Nat} (h0 : 0 ≤ d) (h1 : d < n) : seqIndex? d n = some d.toNat := by
  simp [seqIndex?, Int.not_lt.mpr h0, h0, h1]
section
variable {w : World} {K : Fr} {mg : Str → Option Value} {base : Heap}
theorem emod_rng {i m : Int} (h : 0 < m) : 0 ≤ i % m ∧ i % m < m := ⟨Int.emod_nonneg _ (by omega), Int.emod_lt_of_pos _ h⟩
def pPot (K : Fr) : Pr := fun vs H Q => ∃ (a : Addr) (ns : List Int) (k : Int), vs = [.ref a, .int k] ∧ SqL K H a (ns.map V.int) ∧ ns.length ≤ 1000 ∧ 0 ≤ k ∧ k < 100 ∧ ∀ H' p, Same H H' → H p = none → PotAt H' p → Q (.ref p) H'
theorem k_law_pot (G : GD K mg) : Keeps PP w K mg base 1 (ga K "_law_pot") (pPot K) := by
  obtain ⟨fd, F⟩ := fd_law_pot G
  refine kp_fn0 (k := 0) F sc_law_pot (fun _ _ _ _ _ _ us hl => match us, hl with | [_, _], _ => rfl) (by rintro _ _ _ ⟨a, ns, k, rfl, _⟩; rfl) fun cdv A outer s H vs Q E hr hp => ?_
  obtain ⟨a, ns, k, rfl, ha, hn, hk0, hk1, hq⟩ := hp
  have nd := sc_law_pot.nd
  refine ⟨_, PSs.nox (pss_cons (ps_set (i := 2) nd rfl (.inl rfl) (pe_ifExp (pt_cmpR op_lt (pv 1) (pe_callB call_len_seq (by rfl) (gf_len G) rfl (pa_cons (pv 0) pa_nil)) (nomark _)) (pe_callB call_abs (by rfl) (gf_abs G) rfl (pa_cons (pe_ix ix_list (pv 0) (pv 1) (fun _ _ => rfl)) pa_nil)) (pe_op op_add (pe_op op_mul pe_int (pv 1)) pe_int)))
    (pss_one (ps_ret (pe_lst (pa_cons (pe_callB (call_max2 rfl) (by rfl) (gf_max G) rfl (pa_cons pe_int (pa_cons (pe_op op_sub (pv 2) (pe_op op_pow pe_int pe_int)) pa_nil)))
      (pa_cons (pe_op op_add (pe_op op_mod (pe_callTy call_int1 (by rfl) (gf_int G) rfl (pa_cons (pe_op op_add (pe_op op_add (pe_op op_mul (pe_op op_mod (pe_callTy call_int1 (by rfl) (gf_int G) rfl (pa_cons (pv 2) pa_nil)) pe_int) pe_int) (pe_op op_mul pe_int (pv 1))) pe_int) pa_nil)) pe_int) pe_int) pa_nil)))))), ?_⟩
  have rest : ∀ c : Int, ∀ p, H p = none → Q (.ref p) (upd H p (.lst [.int (if (c - 10 ^ (18 : Int).toNat) > 0 then c - 10 ^ (18 : Int).toNat else 0), .int ((c % 2147483563 * 40014 + 52021 * k + 41) % 2147483629 + 1)])) := fun c p hp => by
    have r := emod_rng (i := c % 2147483563 * 40014 + 52021 * k + 41) (m := 2147483629) (by decide)
    refine hq _ p (Same.new hp) hp ⟨_, _, upd_same, ?_, by omega, by omega⟩
    split <;> omega
  refine ⟨_, rfl, _, rfl, a, _, rfl, .inl ha, _, _, rfl, rfl, _, rfl, ifB (fun hb => ?_) (fun hb => ?_)⟩
  · have hb := of_decide_eq_true hb
    rw [List.length_map] at hb
    refine ⟨_, rfl, _, rfl, a, _, k, .int (ns.getD k.toNat 0), rfl, rfl, ha, at_of (j := k.toNat) (by omega) ?_, _, rfl, ?_⟩
    · rw [List.getElem?_map, List.getD_eq_getElem?_getD, List.getElem?_eq_getElem (by omega)]
      rfl
    refine ⟨_, rfl, _, _, rfl, rfl, ⟨by decide, by decide, by decide⟩, _, _, rfl, rfl, _, _, rfl, ?_⟩
    refine ⟨_, rfl, .inl ⟨_, rfl, _, _, rfl, rfl, zA, _, _, rfl, rfl, .inr ⟨by decide, by decide⟩, _, rfl, _, _, rfl, rfl, .inl ⟨by decide, by decide⟩, _, _, rfl, rfl, _, _, rfl, rfl, .inl ⟨_, rfl, _, _, rfl, rfl, zB, _, _, rfl, rfl, (by show 2 ≤ sizeLine; decide), rest _⟩⟩⟩
  · refine ⟨_, rfl, _, _, rfl, rfl, .inl ⟨by decide, by decide⟩, _, _, rfl, rfl, ?_⟩
    refine ⟨_, rfl, _, _, rfl, rfl, ⟨by decide, by decide, by decide⟩, _, _, rfl, rfl, _, _, rfl, ?_⟩
    refine ⟨_, rfl, .inl ⟨_, rfl, _, _, rfl, rfl, zA, _, _, rfl, rfl, .inr ⟨by decide, by decide⟩, _, rfl, _, _, rfl, rfl, .inl ⟨by decide, by decide⟩, _, _, rfl, rfl, _, _, rfl, rfl, .inl ⟨_, rfl, _, _, rfl, rfl, zB, _, _, rfl, rfl, (by show 2 ≤ sizeLine; decide), rest _⟩⟩⟩
def pDraw : Pr := fun vs H Q => ∃ (p : Addr) (n : Int), vs = [.ref p, .int n] ∧ PotAt H p ∧ 1 ≤ n ∧ n ≤ 1000 ∧ ∀ H' d, Drw p H H' → 0 ≤ d → d < n → Q (.int d) H'
theorem no_pylong {i n : Int} (h1 : 1 ≤ n) (h2 : n ≤ 1000) : Builtin.divisionGoesByPylong i n = false := by
  unfold Builtin.divisionGoesByPylong
  have z : n.natAbs.log2 / 30 = 0 := by
    have : n.natAbs.log2 < 10 := (Nat.log2_lt (by omega)).mpr (by omega)
    omega
  simp only [z]
  split <;> simp
theorem k_law_draw (G : GD K mg) : Keeps PP w K mg base 1 (ga K "_law_draw") pDraw := by
  obtain ⟨fd, F⟩ := fd_law_draw G
  refine kp_fn0 (k := 0) F sc_law_draw (fun _ _ _ _ _ _ us hl => match us, hl with | [_, _], _ => rfl) (by rintro _ _ _ ⟨p, n, rfl, _⟩; rfl) fun cdv A outer s H vs Q E hr hp => ?_
  obtain ⟨p, n, rfl, hP, h1, h2, hq⟩ := hp
  have nd := sc_law_draw.nd
  obtain ⟨a, b, e, ha, hb, hb2⟩ := hP
  have hP : PotAt H p := ⟨a, b, e, ha, hb, hb2⟩
  refine ⟨_, PSs.nox (pss_cons (ps_if (pt_cmpR op_gt (pe_ix ix_list (pv 0) pe_int (fun _ _ => rfl)) pe_int (nomark _))
      (pss_cons (ps_asg (pe_callB call_divmodW (by rfl) (gf_divmod G) rfl (pa_cons (pe_ix ix_list (pv 0) pe_int (fun _ _ => rfl)) (pa_cons (pv 1) pa_nil))) (pg_tup rfl (pgs_cons (pg_sub (pv 0) pe_int set_list) (pgs_cons (pg_name (i := 2) nd rfl (.inl rfl)) pgs_nil)))) (pss_one (ps_ret (pv 2)))) pss_nil)
    (pss_cons (ps_asg (pe_op op_mod (pe_callTy call_int1 (by rfl) (gf_int G) rfl (pa_cons (pe_op op_add (pe_op op_mul (pe_ix ix_list (pv 0) pe_int (fun _ _ => rfl)) pe_int) pe_int) pa_nil)) pe_int) (pg_sub (pv 0) pe_int set_list))
    (pss_one (ps_ret (pe_op op_mod (pe_callTy call_int1 (by rfl) (gf_int G) rfl (pa_cons (pe_op op_fdiv (pe_op op_mod (pe_callTy call_int1 (by rfl) (gf_int G) rfl (pa_cons (pe_op op_mul (pe_ix ix_list (pv 0) pe_int (fun _ _ => rfl)) (pe_ix ix_list (pv 0) pe_int (fun _ _ => rfl))) pa_nil)) pe_int) pe_int) pa_nil)) (pv 1)))))), ?_⟩
  refine ⟨_, rfl, p, _, 0, .int a, rfl, rfl, .of e, rfl, _, _, rfl, rfl, _, rfl, ifB (fun hb' => ?_) (fun hb' => ?_)⟩
  · refine ⟨_, rfl, p, _, 0, .int a, rfl, rfl, .of e, rfl, _, rfl, a, n, rfl, ⟨by omega, no_pylong h1 h2⟩, fun t ht => ?_⟩
    have s1 := Same.new (o := .tup [.int (a / n), .int (a % n)]) ht
    have e1 := s1 _ _ e
    refine ⟨t, _, rfl, .of upd_same, rfl, _, _, rfl, _, rfl, p, _, 0, 0, rfl, rfl, e1, rfl, _, _, rfl, rfl, _, rfl, ?_⟩
    have r := emod_rng (i := a) (m := n) (by omega)
    exact hq _ _ ⟨⟨a / n, b, upd_same, Int.ediv_nonneg ha (by omega), hb, hb2⟩, by rw [dr_upd]; exact dr_same s1⟩ r.1 r.2
  · refine ⟨_, rfl, p, _, 1, .int b, rfl, rfl, .of e, rfl, _, _, rfl, rfl, .inr ⟨by decide, by decide⟩, _, _, rfl, rfl, .inl ⟨_, rfl, _, _, rfl, rfl, zC, ?_⟩⟩
    have r := emod_rng (i := b * 39373 + 12227) (m := 2147483587) (by decide)
    refine ⟨_, rfl, p, _, 1, 1, rfl, rfl, e, rfl, ?_⟩
    obtain ⟨b', hb''⟩ : ∃ b', (b * 39373 + 12227) % 2147483587 = b' := ⟨_, rfl⟩
    have e2 : upd H p (.lst ([V.int a, .int b].set 1 (.int ((b * 39373 + 12227) % 2147483587)))) p = some (.lst [.int a, .int b']) := by rw [hb'']; exact upd_same
    rw [hb''] at r
    refine ⟨_, rfl, p, _, 1, .int b', rfl, rfl, .of e2, rfl, _, rfl, p, _, 1, .int b', rfl, rfl, .of e2, rfl, _, _, rfl, rfl, .inl ⟨by omega, by omega⟩, .inl ⟨_, rfl, _, _, rfl, rfl, zD, _, _, rfl, rfl, ⟨by decide, by decide⟩, .inl ⟨_, rfl, _, rfl, _, _, rfl, rfl, by omega, ?_⟩⟩⟩
    have r2 := emod_rng (i := b' * b' % 2147483549 / 13) (m := n) (by omega)
    exact hq _ _ ⟨⟨a, b', e2, ha, r.1, by omega⟩, by rw [dr_upd]; exact Same.refl _⟩ r2.1 r2.2
theorem d_draw (G : GD K mg) {k : Nat} (hk : 1 ≤ k) : DefR PP w K mg base k "_law_draw" pDraw := ⟨_, gg_law_draw G, gk_law_draw G, (k_law_draw G).mono hk⟩
def pPick : Pr := fun vs H Q => ∃ (p c : Addr) (xs : List V), vs = [.ref p, .ref c] ∧ PotAt H p ∧ dr p H c = some (.lst xs) ∧ 1 ≤ xs.length ∧ xs.length ≤ 1000 ∧ ∀ H' y, Drw p H H' → y ∈ xs → Q y H'
theorem k_law_pick (G : GD K mg) : Keeps PP w K mg base 2 (ga K "_law_pick") pPick := by
  obtain ⟨fd, F⟩ := fd_law_pick G
  refine kp_fn0 (k := 1) F sc_law_pick (fun _ _ _ _ _ _ us hl => match us, hl with | [_, _], _ => rfl) (by rintro _ _ _ ⟨p, c, xs, rfl, _⟩; rfl) fun cdv A outer s H vs Q E hr hp => ?_
  obtain ⟨p, c, xs, rfl, hP, hc, h1, h2, hq⟩ := hp
  refine ⟨_, pss_one (ps_ret (pe_ix ix_list (pv 1) (pe_d (d_draw G (Nat.le_refl _)) hr (by rfl) (pa_cons (pv 0) (pa_cons (pe_callB call_len_seq (by rfl) (gf_len G) rfl (pa_cons (pv 1) pa_nil)) pa_nil))) (fun _ _ => rfl))), ?_⟩
  refine ⟨_, rfl, _, rfl, _, rfl, c, _, rfl, .inl (.of (dr_le _ _ hc)), p, _, rfl, hP, by omega, by omega, fun H' d hD d0 d1 => ?_⟩
  have hd : d.toNat < xs.length := by omega
  exact ⟨c, xs, d, xs[d.toNat], rfl, rfl, .of (hD.at_ hc), at_of (j := d.toNat) (by omega) (List.getElem?_eq_getElem hd), hq H' _ hD (List.getElem_mem hd)⟩
theorem d_pick (G : GD K mg) {k : Nat} (hk : 2 ≤ k) : DefR PP w K mg base k "_law_pick" pPick := ⟨_, gg_law_pick G, gk_law_pick G, (k_law_pick G).mono hk⟩
def pTaken : Pr := fun vs H Q => ∃ (p c : Addr) (ms : List Str) (n : Nat), vs = [.ref p, .ref c, .int n] ∧ PotAt H p ∧ dr p H c = some (.lst (ms.map V.str)) ∧ n ≤ ms.length ∧ ms.length ≤ 1000 ∧ ms.Nodup ∧
  ∀ (H' : Hp) (l : Addr) (xs : List Str), Drw p H H' → dr p H l = none → dr p H' l = some (.lst (xs.map V.str)) → xs.length = n → xs.Nodup → (∀ x ∈ xs, x ∈ ms) → Q (.ref l) H'
theorem k_law_taken (G : GD K mg) : Keeps PP w K mg base 2 (ga K "_law_taken") pTaken := by
  obtain ⟨fd, F⟩ := fd_law_taken G
  refine kp_fnN (k := 1) F sc_law_taken (fun _ _ _ _ _ _ us hl => match us, hl with | [_, _, _], _ => rfl) (by rintro _ _ _ ⟨p, c, ms, n, rfl, _⟩; rfl) fun cdv A outer s H vs Q E hr hp => ?_
  obtain ⟨p, c, ms, n, rfl, hP, hc, hn, hm, hnd, hq⟩ := hp
  have nd := sc_law_taken.nd
  have hs := sizeLine_eq
  refine ⟨_, pss_cons (ps_par (i := 3) (j := 4) rfl nd rfl rfl (by decide) rfl rfl (pa_cons (pe_callTy call_list_of (by rfl) (gf_list G) rfl (pa_cons (pv 1) pa_nil)) (pa_cons (pe_lst pa_nil) pa_nil)) rfl)
    (pss_cons (ps_for PassesOwn.never rfl (pi_range1 (by rfl) (gf_range G) (pa_cons (pv 2) pa_nil)) (pg_name (i := 5) nd rfl (.inl rfl))
      (pss_one (ps_expr (pe_bm PySem.F.plainAttrs_list PySem.F.slot_list_append PySem.F.type_list_append mt_append (pv 4) (pa_cons (pe_bm PySem.F.plainAttrs_list PySem.F.slot_list_pop PySem.F.type_list_pop mt_popAt (pv 3) (pa_cons (pe_d (d_draw G (Nat.le_refl _)) hr (by rfl) (pa_cons (pv 0) (pa_cons (pe_callB call_len_seq (by rfl) (gf_len G) rfl (pa_cons (pv 3) pa_nil)) pa_nil))) pa_nil)) pa_nil)))))
    (pss_one (ps_ret (pv 4)))), ?_⟩
  refine ⟨_, rfl, c, _, rfl, .inl (.of (dr_le _ _ hc)), fun L hL => ⟨Nat.zero_le _, fun f hf => ⟨_, _, rfl, ?_⟩⟩⟩
  have hLp := hP.ne hL
  have d1 := (Drw.refl hP).new (o := .lst (ms.map V.str)) hL
  have hfp := d1.pot.ne hf
  have hLf : L ≠ f := ne_of_none upd_same hf
  have d2 := d1.new (o := .lst []) hf
  have hLd : dr p H L = none := dr_free hL
  have hfd : dr p H f = none := d1.free hf
  refine ⟨_, rfl, n, rfl, by omega, by omega, for_it walk_range (fun i σ H2 => Drw p H H2 ∧ ∃ (rest fnd : List Str) (c5 : Option V), σ = [some (.ref p), some (.ref c), some (.int n), some (.ref L), some (.ref f), c5] ∧ H2 L = some (.lst (rest.map V.str)) ∧ H2 f = some (.lst (fnd.map V.str)) ∧ (fnd ++ rest).Perm ms ∧ fnd.length = i)
    ⟨d2, ms, [], none, rfl, by rw [upd_ne hLf]; exact upd_same, upd_same, List.Perm.refl _, rfl⟩ (fun _ _ _ _ _ => trivial) ?_ ?_⟩
  · rintro i v σ H2 H2' hi ⟨d3, rest, fnd, c5, rfl, hL2, hf2, hperm, hlen⟩ ⟨rfl, rfl⟩
    have hl2 := hperm.length_eq
    rw [List.length_append] at hl2
    have hi' : i < n := by omega
    refine ⟨_, rfl, .inl ⟨rfl, _, .of hf2⟩, _, rfl, .inl ⟨rfl, _, .of hL2⟩, _, rfl, _, rfl, L, _, rfl, .inl (.of hL2), p, _, rfl, d3.pot, ?_, ?_, fun H3 d hD d0 d1' => ?_⟩
    · rw [List.length_map]; omega
    · rw [List.length_map]; omega
    rw [List.length_map] at d1'
    have hdl : d.toNat < rest.length := by omega
    have hL3 : H3 L = some (.lst (rest.map V.str)) := hD.at_ (by rw [dr_ne hLp]; exact hL2)
    have hf3 : H3 f = some (.lst (fnd.map V.str)) := hD.at_ (by rw [dr_ne hfp]; exact hf2)
    have d4 := d3.trans hD
    refine ⟨L, _, d, d.toNat, .str rest[d.toNat], rfl, rfl, hL3, by omega, by omega, ?_, ?_, ?_⟩
    · rw [List.length_map]; exact seqIx d0 d1'
    · rw [List.getElem?_map, List.getElem?_eq_getElem hdl]; rfl
    have hep := erase_perm (List.getElem?_eq_getElem hdl)
    have d5 := d4.put (o := .lst ((rest.map V.str).eraseIdx d.toNat)) hLd hLp
    have hf5 : upd H3 L (.lst ((rest.map V.str).eraseIdx d.toNat)) f = some (.lst (fnd.map V.str)) := by rw [upd_ne hLf.symm]; exact hf3
    refine ⟨f, _, _, rfl, rfl, hf5, by rw [List.length_map]; omega, ?_⟩
    refine ⟨d5.put hfd hfp, rest.eraseIdx d.toNat, fnd ++ [rest[d.toNat]], _, rfl, ?_, ?_, ?_, ?_⟩
    · rw [upd_ne hLf, upd_same, map_eraseIdx']
    · rw [upd_same, List.map_append]; rfl
    · rw [List.append_assoc]
      exact (List.Perm.append_left fnd hep).trans hperm
    · rw [List.length_append, hlen]; rfl
  · rintro σ H2 ⟨d3, rest, fnd, c5, rfl, hL2, hf2, hperm, hlen⟩
    have hnd2 := hperm.nodup_iff.mpr hnd
    exact ⟨_, rfl, hq H2 f fnd d3 hfd (by rw [dr_ne hfp]; exact hf2) (by omega) (List.nodup_append.mp hnd2).1 fun x hx => hperm.mem_iff.mp (List.mem_append_left _ hx)⟩
theorem d_taken (G : GD K mg) {k : Nat} (hk : 2 ≤ k) : DefR PP w K mg base k "_law_taken" pTaken := ⟨_, gg_law_taken G, gk_law_taken G, (k_law_taken G).mono hk⟩
end
end Bn
/-! W25: a drawn plan. -/
namespace Bn
open PySem PySem.Spec PyProof.Rows L2 StX
open He (ga ma)
/-- a row of a plan in the heap -/
def RowD (H : Hp) (a : Addr) (r : List Str × (Str → Int)) : Prop := H a = some (.dK (dct r.1 fun x => .int (r.2 x)))
structure RowOk (n : Nat) (kinds : List Str) (i : Nat) (r : List Str × (Str → Int)) : Prop where
  l1 : 1 ≤ r.1.length
  l2 : r.1.length ≤ kinds.length
  nd : r.1.Nodup
  sub : ∀ k ∈ r.1, k ∈ kinds
  rng : ∀ k ∈ r.1, 0 ≤ r.2 k ∧ r.2 k < n
  nx : i + 1 < n → ∃ k ∈ r.1, r.2 k = ((i + 1 : Nat) : Int)
theorem put_dct (f : Str → Int) (k : Str) (v : Int) (l : List Str) : putK (dct l fun x => .int (f x)) (.inr k) (.int v) = dct (if k ∈ l then l else l ++ [k]) fun x => .int (if x = k then v else f x) := by
  by_cases h : k ∈ l
  · rw [if_pos h]
    unfold putK
    rw [if_pos]
    · unfold dct
      rw [List.map_map]
      apply List.map_congr_left
      intro x _
      show (if (Sum.inr x : Key) = Sum.inr k then ((Sum.inr x : Key), V.int v) else (Sum.inr x, V.int (f x))) = (Sum.inr x, V.int (if x = k then v else f x))
      by_cases e : x = k
      · rw [if_pos (by rw [e]), if_pos e]
      · rw [if_neg (fun z => e (Sum.inr.inj z)), if_neg e]
    · rw [List.any_eq_true]
      exact ⟨_, List.mem_map_of_mem h, by simp⟩
  · rw [if_neg h, putK_new _ (dct_no h)]
    unfold dct
    rw [List.map_append]
    congr 1
    · apply List.map_congr_left
      intro x hx
      show ((Sum.inr x : Key), V.int (f x)) = (Sum.inr x, V.int (if x = k then v else f x))
      rw [if_neg (show ¬ x = k from fun e => h (e ▸ hx))]
    · show [((Sum.inr k : Key), V.int v)] = [(Sum.inr k, V.int (if k = k then v else f k))]
      rw [if_pos rfl]
theorem nd_len {l m : List Str} (hn : l.Nodup) (hs : ∀ x ∈ l, x ∈ m) : l.length ≤ m.length := by
  induction l generalizing m with
  | nil => exact Nat.zero_le _
  | cons a l ih =>
    rw [List.nodup_cons] at hn
    have ha := hs a List.mem_cons_self
    have h1 := ih (m := m.erase a) hn.2 fun x hx => by
      refine (List.mem_erase_of_ne ?_).mpr (hs x (List.mem_cons_of_mem _ hx))
      exact fun e => hn.1 (e ▸ hx)
    rw [List.length_erase_of_mem ha] at h1
    have := List.length_pos_of_mem ha
    rw [List.length_cons]
    omega
/-- the pairs of a row as a row -/
theorem pairs_dct {P : Int → Prop} : ∀ {ks : List Str} {vs : List Int}, ks.Nodup → vs.length = ks.length → (∀ v ∈ vs, P v) → ∃ f : Str → Int, kvz (ks.map Sum.inr) (vs.map V.int) = dct ks (fun x => .int (f x)) ∧ ∀ k ∈ ks, P (f k)
  | [], [], _, _, _ => ⟨fun _ => 0, rfl, fun _ h => nomatch h⟩
  | [], _ :: _, _, h, _ => by simp at h
  | _ :: _, [], _, h, _ => by simp at h
  | k :: ks, v :: vs, hn, hl, hp => by
    rw [List.nodup_cons] at hn
    obtain ⟨f, e, h⟩ := pairs_dct (P := P) (ks := ks) (vs := vs) hn.2 (by simpa using hl) fun x hx => hp x (List.mem_cons_of_mem _ hx)
    refine ⟨fun x => if x = k then v else f x, ?_, fun x hx => ?_⟩
    · show ((Sum.inr k : Key), V.int v) :: kvz (ks.map Sum.inr) (vs.map V.int) = ((Sum.inr k : Key), V.int (if k = k then v else f k)) :: dct ks _
      rw [if_pos rfl, e]
      congr 1
      exact dct_congr fun x hx => by show V.int (f x) = V.int (if x = k then v else f x); rw [if_neg (show ¬ x = k from fun z => hn.1 (z ▸ hx))]
    · show P (if x = k then v else f x)
      by_cases hxk : x = k
      · rw [if_pos hxk]; exact hp v List.mem_cons_self
      · rw [if_neg hxk]
        rcases List.mem_cons.mp hx with e' | hx
        · exact absurd e' hxk
        · exact h x hx
theorem pairs_of {H : Hp} {P : Int → Prop} : ∀ {ks : List Str} {ys : List V}, ys.length = ks.length → (∀ (i : Nat) (y : V), ys[i]? = some y → ∃ k v a, ks[i]? = some k ∧ y = .ref a ∧ H a = some (.tup [.str k, .int v]) ∧ P v) →
    ∃ (as : List Addr) (vs : List Int), ys = as.map V.ref ∧ vs.length = ks.length ∧ (∀ v ∈ vs, P v) ∧ Paired (fun a kv => H a = some (.tup [kV kv.1, kv.2])) as (kvz (ks.map Sum.inr) (vs.map V.int))
  | [], [], _, _ => ⟨[], [], rfl, rfl, (fun _ h => nomatch h), .nil⟩
  | [], _ :: _, h, _ => by simp at h
  | _ :: _, [], h, _ => by simp at h
  | k :: ks, y :: ys, hl, h => by
    obtain ⟨as, vs, e1, e2, e3, e4⟩ := pairs_of (P := P) (ks := ks) (ys := ys) (by simpa using hl) fun i z hz => by simpa using h (i + 1) z (by simpa using hz)
    obtain ⟨k', v, a, f1, rfl, f3, f4⟩ := h 0 y rfl
    cases f1
    refine ⟨a :: as, v :: vs, by rw [e1]; rfl, by simp [e2], fun x hx => ?_, .cons f3 e4⟩
    rcases List.mem_cons.mp hx with rfl | hx
    · exact f4
    · exact e3 x hx
section
variable {w : World} {K : Fr} {mg : Str → Option Value} {base : Heap}
def pPlan : Pr := fun vs H Q => ∃ (p c : Addr) (kinds : List Str) (n : Nat), vs = [.ref p, .ref c, .int n] ∧ PotAt H p ∧ dr p H c = some (.lst (kinds.map V.str)) ∧ kinds.Nodup ∧ 1 ≤ kinds.length ∧ kinds.length ≤ 20 ∧ 1 ≤ n ∧ n ≤ 20 ∧
  ∀ (H' : Hp) (l : Addr) (rs : List Addr) (pl : Plan), Drw p H H' → dr p H l = none → dr p H' l = some (.lst (rs.map V.ref)) → Paired (RowD (dr p H')) rs pl → pl.length = n → (∀ i r, pl[i]? = some r → RowOk n kinds i r) → Q (.ref l) H'
theorem k_law_plan (G : GD K mg) : Keeps PP w K mg base 3 (ga K "_law_plan") pPlan := by
  obtain ⟨fd, F⟩ := fd_law_plan G
  refine kp_fnN (k := 2) F sc_law_plan (fun _ _ _ _ _ _ us hl => match us, hl with | [_, _, _], _ => rfl) (by rintro _ _ _ ⟨p, c, kinds, n, rfl, _⟩; rfl) fun cdv A outer s H vs Q E hr hp => ?_
  obtain ⟨p, c, kinds, n, rfl, hP, hc, hnd, hk1, hk20, hn1, hn20, hq⟩ := hp
  have nd := sc_law_plan.nd
  have hs := sizeLine_eq
  have hu := hu_of hr.r
  have D1 := d_draw (w := w) (base := base) G (k := 2) (by omega)
  have D2 := d_pick (w := w) (base := base) G (k := 2) (by omega)
  refine ⟨_, pss_cons (ps_set (i := 3) nd rfl (.inl rfl) (pe_lst pa_nil))
    (pss_cons (ps_for PassesOwn.never rfl (pi_range1 (by rfl) (gf_range G) (pa_cons (pv 2) pa_nil)) (pg_name (i := 4) nd rfl (.inl rfl))
      (pss_cons (ps_setLc (i := 5) (own := [("_law_kind", 7)]) (g := gName 7) (tt := tTest (tOp (rI0 fun i j => .bl (decide (j < i))) (tD pDraw (tCons (tVar 0) (tCons (tC (.int 3)) tNil))) (tC (.int 0)))) (te := tVar 7) rfl nd rfl rfl (sw_true rfl rfl rfl (by decide +kernel)) (pi_list (pv 1)) (blkOk_by (N := N_law_plan) (sc := defScope s_law_plan) (by decide +kernel))
          (fun _ _ _ _ _ => pg_name (i := 7) nd rfl (.inl rfl)) (fun _ _ _ _ _ => pts_one (pt_cmpR op_gt (pe_d D1 hr (by rfl) (pa_cons (pv 0) (pa_cons pe_int pa_nil))) pe_int (nomark _))) (fun _ _ _ _ _ => pv 7))
      (pss_cons (ps_set (i := 6) nd rfl (.inl rfl) (pe_callTy (call_dictP rfl) (by rfl) (gf_dict G) rfl (pa_cons (pe_lc (own := [("_law_kind", 7)]) (g := gName 7) (tt := tYes) (te := tTup (tCons (tVar 7) (tCons (tD pDraw (tCons (tVar 0) (tCons (tVar 2) tNil))) tNil))) rfl nd (pi_list (pv 5)) (blkOk_by (N := N_law_plan) (sc := defScope s_law_plan) (by decide +kernel))
          (fun _ _ _ _ _ => pg_name (i := 7) nd rfl (.inl rfl)) (fun _ _ _ _ _ => pts_nil) (fun _ _ _ _ _ => pe_tup (pa_cons (pv 7) (pa_cons (pe_d D1 hr (by rfl) (pa_cons (pv 0) (pa_cons (pv 2) pa_nil))) pa_nil)))) pa_nil)))
      (C8.pss_cut (ps_if (PW.pt (pw_or (pt_cmpR op_lt (pe_op op_add (pv 4) pe_int) (pv 2) (nomark _)) (pw_or1 (pt_cmpR (op_eqNilD hr.r.units) (pv 6) pe_dnewK (nomark _)))))
          (pss_one (ps_dput hu (pv 6) (pe_d D2 hr (by rfl) (pa_cons (pv 0) (pa_cons (pv 1) pa_nil))) (pe_callB (call_min2 rfl) (by rfl) (gf_min G) rfl (pa_cons (pe_op op_add (pv 4) pe_int) (pa_cons (pe_op op_sub (pv 2) pe_int) pa_nil))) rfl)) pss_nil)
      (pss_one (ps_expr (pe_bm PySem.F.plainAttrs_list PySem.F.slot_list_append PySem.F.type_list_append mt_append (pv 3) (pa_cons (pv 6) pa_nil))))))))
    (pss_one (ps_ret (pv 3)))), ?_⟩
  refine ⟨Nat.zero_le _, fun fo hfo => ?_⟩
  have hfop := hP.ne hfo
  have hfod : dr p H fo = none := dr_free hfo
  refine ⟨_, rfl, n, rfl, by omega, by omega, for_it walk_range (fun i σ H1 => Drw p H H1 ∧ ∃ (rs : List Addr) (pl : Plan) (c4 c5 c6 c7 : Option V), σ = [some (.ref p), some (.ref c), some (.int n), some (.ref fo), c4, c5, c6, c7] ∧ H1 fo = some (.lst (rs.map V.ref)) ∧ Paired (RowD (dr p H1)) rs pl ∧ pl.length = i ∧ ∀ j r, pl[j]? = some r → RowOk n kinds j r)
    ⟨(Drw.refl hP).new hfo, [], [], none, none, none, none, rfl, upd_same, .nil, rfl, fun j r h => by simp at h⟩ (fun _ _ _ _ _ => trivial) ?_ ?_⟩
  · rintro i v σ H1 H1' hi ⟨d1, rs, pl, c4, c5, c6, c7, rfl, hfo1, hpr, hpl, hok⟩ ⟨rfl, rfl⟩
    have hi : i < n := by omega
    have hc1 : dr p H1' c = some (.lst (kinds.map V.str)) := d1.s _ _ hc
    -- some
    refine ⟨_, rfl, c, rfl, ⟨_, .of (dr_le _ _ hc1)⟩, fun D hD => lc_it (walk_list (a := c) (xs := kinds.map V.str)) (fun j H2 => Drw p H1' H2 ∧ ∃ ks : List Str, H2 D = some (.lst (ks.map V.str)) ∧ ks.Sublist (kinds.take j)) ⟨(Drw.refl d1.pot).new hD, [], upd_same, List.nil_sublist _⟩ (fun j H2 _ h => .of (h.1.at_ hc1)) ?_ ?_⟩
    · rintro j v' H2 H2' hj ⟨d2, ks, hD2, hsub⟩ ⟨rfl, hv'⟩
      obtain ⟨z, hz, rfl⟩ := some_map hv'
      have hDp := d1.pot.ne hD
      refine ⟨rfl, _, rfl, p, 3, rfl, d2.pot, by decide, by decide, fun H3 d d3 e0 e1 => ⟨_, _, rfl, rfl, _, rfl, ifB (fun _ => ?_) (fun _ => ?_)⟩⟩
      · have hD3 : H3 D = some (.lst (ks.map V.str)) := d3.at_ (by rw [dr_ne hDp]; exact hD2)
        have hkl := hsub.length_le
        rw [List.length_take] at hkl
        refine ⟨_, rfl, _, hD3, by rw [List.length_map]; omega, (d2.trans d3).put (dr_free hD) hDp, ks ++ [z], by rw [upd_same, List.map_append]; rfl, ?_⟩
        rw [take_snoc hz]
        exact List.Sublist.append hsub (List.Sublist.refl _)
      · have hD3 : H3 D = some (.lst (ks.map V.str)) := d3.at_ (by rw [dr_ne hDp]; exact hD2)
        refine ⟨d2.trans d3, ks, hD3, ?_⟩
        rw [take_snoc hz]
        exact hsub.trans (List.sublist_append_left _ _)
    rintro H2 ⟨d2, ks, hD2, hsub⟩
    rw [List.length_map, List.take_length] at hsub
    have hkn := hsub.nodup hnd
    have hkl := hsub.length_le
    have hksub : ∀ k ∈ ks, k ∈ kinds := fun k hk => hsub.subset hk
    have hDp := d1.pot.ne hD
    have hD2' : dr p H2 D = some (.lst (ks.map V.str)) := by rw [dr_ne hDp]; exact hD2
    -- row
    refine ⟨_, rfl, D, rfl, ⟨_, .of hD2⟩, fun D2 hDn => lc_it (walk_list (a := D) (xs := ks.map V.str)) (fun j H3 => Drw p H2 H3 ∧ ∃ (as : List Addr) (vs : List Int), H3 D2 = some (.lst (as.map V.ref)) ∧ as.length ≤ j ∧ vs.length = (ks.take j).length ∧ (∀ v ∈ vs, 0 ≤ v ∧ v < n) ∧ Paired (fun a kv => H3 a = some (.tup [kV kv.1, kv.2])) as (kvz ((ks.take j).map Sum.inr) (vs.map V.int)))
      ⟨(Drw.refl d2.pot).new hDn, [], [], upd_same, Nat.zero_le _, rfl, (fun _ h => nomatch h), .nil⟩ (fun j H3 _ h => .of (h.1.at_ hD2')) ?_ ?_⟩
    · rintro j v' H3 H3' hj ⟨d3, as, vs, hD3, hal, hvl, hv, hpa⟩ ⟨rfl, hv'⟩
      obtain ⟨z, hz, rfl⟩ := some_map hv'
      have hDnp := d2.pot.ne hDn
      refine ⟨rfl, _, rfl, _, rfl, _, rfl, p, n, rfl, d3.pot, by omega, by omega, fun H4 d d4 e0 e1 => ⟨(by show 2 ≤ sizeLine; decide), fun t ht => ?_⟩⟩
      have s5 := Same.new (o := .tup [.str z, .int d]) ht
      have hD5 : upd H4 t (.tup [.str z, .int d]) D2 = some (.lst (as.map V.ref)) := s5 _ _ (d4.at_ (by rw [dr_ne hDnp]; exact hD3))
      rw [List.length_map] at hj
      have htD : t ≠ D2 := fun e => by rw [e] at ht; rw [d4.at_ (by rw [dr_ne hDnp]; exact hD3)] at ht; cases ht
      refine ⟨_, hD5, by rw [List.length_map]; omega, ((d3.trans d4).new ht).put (dr_free hDn) hDnp, as ++ [t], vs ++ [d], by rw [upd_same, List.map_append]; rfl, by rw [List.length_append, List.length_singleton]; omega, ?_, fun x hx => ?_, ?_⟩
      · rw [take_snoc hz, List.length_append, List.length_append, hvl]; rfl
      · rcases List.mem_append.mp hx with hx | hx
        · exact hv x hx
        · cases List.mem_singleton.mp hx; exact ⟨e0, e1⟩
      · rw [take_snoc hz, List.map_append, List.map_append]
        have z2 := kvz_snoc (ks := (ks.take j).map Sum.inr) (zs := vs.map V.int) (k := Sum.inr z) (z := .int d) (by rw [List.length_map, List.length_map]; exact hvl)
        show Paired _ (as ++ [t]) (kvz ((ks.take j).map Sum.inr ++ [Sum.inr z]) (vs.map V.int ++ [V.int d]))
        rw [z2]
        refine paired_append (Paired.mapP hpa fun a kv e => ?_) (.cons ?_ .nil)
        · exact upd_of (s5 _ _ (d4.at_ (dr_tup d3.pot e))) hD5 (fun z => nomatch z)
        · rw [upd_ne htD, upd_same]; rfl
    rintro H3 ⟨d3, as, vs, hD3, hal, hvl, hv, hpa⟩
    rw [List.length_map, List.take_length] at hvl hpa
    obtain ⟨f, ef, hf⟩ := pairs_dct (P := fun v => 0 ≤ v ∧ v < n) hkn hvl hv
    rw [ef] at hpa
    refine ⟨D2, as, _, rfl, .of hD3, Paired.mapP hpa (fun a kv e => .of e), fun rw_ hrw => ?_⟩
    rw [merge_dct hkn]
    have d13 := (d1.trans d2).trans d3
    have hrwp := d3.pot.ne hrw
    have hrwd := d13.free hrw
    have hrwf : rw_ ≠ fo := fun e => by
      have z := (d2.trans d3).at_ (q := fo) (o := .lst (rs.map V.ref)) (by rw [dr_ne hfop]; exact hfo1)
      rw [← e, hrw] at z
      cases z
    have d14 := d13.new (o := .dK (dct ks fun x => V.int (f x))) hrw
    have g4 := ((d2.trans d3).new (o := .dK (dct ks fun x => V.int (f x))) hrw)
    have h4 : upd H3 rw_ (.dK (dct ks fun x => V.int (f x))) rw_ = some (.dK (dct ks fun x => V.int (f x))) := upd_same
    generalize upd H3 rw_ (.dK (dct ks fun x => V.int (f x))) = H4 at d14 h4 g4
    -- the way on
    refine ⟨fun σ' H' => ∃ r : List Str × (Str → Int), (∃ c5, σ' = [some (.ref p), some (.ref c), some (.int n), some (.ref fo), some (.int (0 + ((i : Nat) : Int))), c5, some (.ref rw_), c7]) ∧ Drw p H H' ∧ Drw p H1' H' ∧ RowD H' rw_ r ∧ RowOk n kinds i r, ?_, ?_⟩
    · have body : ∀ H5 : Hp, Drw p H H5 → Drw p H1' H5 → H5 rw_ = some (.dK (dct ks fun x => .int (f x))) → ∀ (H6 : Hp) (y : V), Drw p H5 H6 → y ∈ kinds.map V.str → ∃ z : Str, y = .str z ∧ H6 rw_ = some (.dK (dct ks fun x => .int (f x))) ∧
          ∃ r : List Str × (Str → Int), Drw p H (upd H6 rw_ (.dK (putK (dct ks fun x => .int (f x)) (.inr z) (.int (if (n : Int) - 1 < 0 + ((i : Nat) : Int) + 1 then (n : Int) - 1 else 0 + ((i : Nat) : Int) + 1))))) ∧ Drw p H1' (upd H6 rw_ (.dK (putK (dct ks fun x => .int (f x)) (.inr z) (.int (if (n : Int) - 1 < 0 + ((i : Nat) : Int) + 1 then (n : Int) - 1 else 0 + ((i : Nat) : Int) + 1))))) ∧
            RowD (upd H6 rw_ (.dK (putK (dct ks fun x => .int (f x)) (.inr z) (.int (if (n : Int) - 1 < 0 + ((i : Nat) : Int) + 1 then (n : Int) - 1 else 0 + ((i : Nat) : Int) + 1))))) rw_ r ∧ RowOk n kinds i r := fun H5 d5 g5 h5 H6 y d6 hy => by
        obtain ⟨z, hz, rfl⟩ := List.mem_map.mp hy
        refine ⟨z, rfl, d6.at_ (by rw [dr_ne hrwp]; exact h5), (if z ∈ ks then ks else ks ++ [z], fun x => if x = z then (if (n : Int) - 1 < 0 + ((i : Nat) : Int) + 1 then (n : Int) - 1 else 0 + ((i : Nat) : Int) + 1) else f x), (d5.trans d6).put hrwd hrwp, (g5.trans d6).put ((d2.trans d3).free hrw) hrwp, ?_, ?_⟩
        · unfold RowD
          rw [upd_same, put_dct]
        have hz' : z ∈ (if z ∈ ks then ks else ks ++ [z]) := by
          split
          · assumption
          · simp
        have hsub' : ∀ k ∈ (if z ∈ ks then ks else ks ++ [z]), k ∈ ks ∨ k = z := fun k hk => by
          split at hk
          · exact .inl hk
          · rcases List.mem_append.mp hk with hk | hk
            · exact .inl hk
            · exact .inr (List.mem_singleton.mp hk)
        have hnd' : (if z ∈ ks then ks else ks ++ [z]).Nodup := by
          split
          · exact hkn
          · rename_i hzk
            rw [List.nodup_append]
            refine ⟨hkn, by simp, fun a ha b hb e => ?_⟩
            cases List.mem_singleton.mp hb
            exact hzk (e ▸ ha)
        have hsk : ∀ k ∈ (if z ∈ ks then ks else ks ++ [z]), k ∈ kinds := fun k hk => (hsub' k hk).elim (hksub k) fun e => e ▸ hz
        refine ⟨List.length_pos_of_mem hz', nd_len hnd' hsk, hnd', hsk, fun k hk => ?_, fun hin => ⟨z, hz', ?_⟩⟩
        · show 0 ≤ (if k = z then (if (n : Int) - 1 < 0 + ((i : Nat) : Int) + 1 then (n : Int) - 1 else 0 + ((i : Nat) : Int) + 1) else f k) ∧ (if k = z then (if (n : Int) - 1 < 0 + ((i : Nat) : Int) + 1 then (n : Int) - 1 else 0 + ((i : Nat) : Int) + 1) else f k) < n
          by_cases e : k = z
          · rw [if_pos e]
            split <;> omega
          · rw [if_neg e]
            exact hf k ((hsub' k hk).resolve_right e)
        · show (if z = z then (if (n : Int) - 1 < 0 + ((i : Nat) : Int) + 1 then (n : Int) - 1 else 0 + ((i : Nat) : Int) + 1) else f z) = _
          rw [if_pos rfl, if_neg (by omega)]
          omega
      have hc4 : dr p H4 c = some (.lst (kinds.map V.str)) := g4.s _ _ hc1
      refine ⟨_, rfl, _, _, rfl, rfl, _, rfl, _, _, rfl, rfl, _, rfl, ifB (fun _ => ?_) (fun hb => ⟨_, rfl, fun e he => ⟨rw_, e, _, rfl, rfl, Same.new he _ _ h4, upd_same, _, rfl, ifB (fun _ => ?_) (fun hb2 => ?_)⟩⟩)⟩
      · refine ⟨_, rfl, _, _, rfl, rfl, _, rfl, _, _, rfl, rfl, _, _, rfl, _, rfl, _, rfl, _, rfl, p, c, _, rfl, d14.pot, hc4, by rw [List.length_map]; exact hk1, by rw [List.length_map]; omega, fun H6 y d6 hy => ?_⟩
        obtain ⟨z, rfl, h6, r, r1, r2, r3, r4⟩ := body H4 d14 g4 h4 H6 y d6 hy
        exact ⟨rw_, _, rfl, DPut.k (k := .inr z) h6 (by rw [dct_len]; omega), r, ⟨_, rfl⟩, r1, r2, r3, r4⟩
      · have d15 := d14.new (o := .dK []) he
        have g5 := g4.new (o := .dK []) he
        have h5 := Same.new (o := .dK []) he _ _ h4
        refine ⟨_, rfl, _, _, rfl, rfl, _, rfl, _, _, rfl, rfl, _, _, rfl, _, rfl, _, rfl, _, rfl, p, c, _, rfl, d15.pot, g5.s _ _ hc1, by rw [List.length_map]; exact hk1, by rw [List.length_map]; omega, fun H6 y d6 hy => ?_⟩
        obtain ⟨z, rfl, h6, r, r1, r2, r3, r4⟩ := body _ d15 g5 h5 H6 y d6 hy
        exact ⟨rw_, _, rfl, DPut.k (k := .inr z) h6 (by rw [dct_len]; omega), r, ⟨_, rfl⟩, r1, r2, r3, r4⟩
      · refine ⟨(ks, f), ⟨_, rfl⟩, d14.new he, g4.new he, Same.new he _ _ h4, ⟨?_, hkl, hkn, hksub, hf, fun hin => ?_⟩⟩
        · cases hks : ks with
          | nil => rw [hks] at hb2; cases hb2
          | cons a r => show 1 ≤ r.length + 1; omega
        · have hb := of_decide_eq_false hb
          omega
    rintro σ' H5 ⟨r, ⟨c5', rfl⟩, d5, g5, hr5, hro⟩
    have hfo5 : H5 fo = some (.lst (rs.map V.ref)) := g5.at_ (by rw [dr_ne hfop]; exact hfo1)
    have hfo5' : dr p H5 fo = some (.lst (rs.map V.ref)) := by rw [dr_ne hfop]; exact hfo5
    have hrl := paired_len hpr
    refine ⟨_, rfl, .inl ⟨rfl, _, .of hfo5⟩, _, rfl, fo, _, _, rfl, rfl, hfo5, by rw [List.length_map]; omega, d5.put hfod hfop, rs ++ [rw_], pl ++ [r], _, _, _, _, rfl, by rw [upd_same, List.map_append]; rfl, ?_, by rw [List.length_append, hpl]; rfl, fun j r' hj => ?_⟩
    · rw [dr_upd_ne hfop]
      refine paired_append (Paired.mapP hpr fun a q e => ?_) (.cons ?_ .nil)
      · exact upd_of (g5.s _ _ e) hfo5' (fun z => nomatch z)
      · exact upd_of (dr_dK d5.pot hr5) hfo5' (fun z => nomatch z)
    · by_cases hlt : j < pl.length
      · rw [List.getElem?_append_left hlt] at hj
        exact hok j r' hj
      · have hlt2 : j < (pl ++ [r]).length := (List.getElem?_eq_some_iff.mp hj).1
        have hj' : j = pl.length := by simp at hlt2; omega
        subst hj'
        rw [List.getElem?_append_right (Nat.le_refl _), Nat.sub_self] at hj
        cases hj
        rw [hpl]
        exact hro
  · rintro σ H1 ⟨d1, rs, pl, c4, c5, c6, c7, rfl, hfo1, hpr, hpl, hok⟩
    exact ⟨_, rfl, hq H1 fo rs pl d1 hfod (by rw [dr_ne hfop]; exact hfo1) hpr (by omega) hok⟩
end
end Bn
/-! D6: a drawn sheet's model. -/
namespace Bn
open PySem PySem.Spec PyProof.Rows L2
structure MoP (H : Hp) (S : Sm) (c t k p : Addr) : Prop where
  c : H c = some (.lst (S.cols.map V.str))
  t : H t = some (.dK (dct S.cols fun x => .int (S.top x)))
  k : ∃ ka : Str → Addr, H k = some (.dK (dct S.kinds fun x => .ref (ka x))) ∧ ∀ x ∈ S.kinds, ∃ fa : Str → Addr, H (ka x) = some (.dK (dct S.cols fun y => .ref (fa y))) ∧ ∀ y ∈ S.cols, IsMd H (S.fm x y) (fa y)
  p : ∃ rs : List Addr, H p = some (.lst (rs.map V.ref)) ∧ Paired (RowD H) rs S.plan
abbrev moKv (S : Sm) (c t k p : Addr) : List (Key × V) := [(.inr "modulus", .int S.m), (.inr "columns", .ref c), (.inr "top", .ref t), (.inr "kinds", .ref k), (.inr "plan", .ref p)]
/-- the model at a -/
def IsMo (H : Hp) (a : Addr) (S : Sm) : Prop := ∃ c t k p, H a = some (.dK (moKv S c t k p)) ∧ MoP H S c t k p
theorem MoP.up {H H' : Hp} {S : Sm} {c t k p : Addr} (s : Same H H') (h : MoP H S c t k p) : MoP H' S c t k p := by
  obtain ⟨h1, h2, ⟨ka, h3, h4⟩, ⟨rs, h5, h6⟩⟩ := h
  refine ⟨s _ _ h1, s _ _ h2, ⟨ka, s _ _ h3, fun x hx => ?_⟩, ⟨rs, s _ _ h5, Paired.mapP h6 fun a r e => s _ _ e⟩⟩
  obtain ⟨fa, e1, e2⟩ := h4 x hx
  exact ⟨fa, s _ _ e1, fun y hy => (e2 y hy).up s⟩
theorem IsMo.up {H H' : Hp} {S : Sm} {a : Addr} (s : Same H H') (h : IsMo H a S) : IsMo H' a S := let ⟨c, t, k, p, e, m⟩ := h; ⟨c, t, k, p, s _ _ e, m.up s⟩
theorem choose_on {α β : Type} [Nonempty β] {P : α → β → Prop} {l : List α} (h : ∀ x ∈ l, ∃ b, P x b) : ∃ f : α → β, ∀ x ∈ l, P x (f x) := by
  classical
  refine ⟨fun x => if hx : x ∈ l then Classical.choose (h x hx) else Classical.choice inferInstance, fun x hx => ?_⟩
  dsimp only
  rw [dif_pos hx]
  exact Classical.choose_spec (h x hx)
theorem dct_put {f : Str → V} {k : Str} {v : V} {l : List Str} (h : k ∉ l) : putK (dct l f) (.inr k) v = dct (l ++ [k]) fun x => if x = k then v else f x := by
  rw [putK_new _ (dct_no h)]
  unfold dct
  rw [List.map_append]
  congr 1
  · apply List.map_congr_left
    intro x hx
    show ((Sum.inr x : Key), f x) = (Sum.inr x, if x = k then v else f x)
    rw [if_neg (show ¬ x = k from fun e => h (e ▸ hx))]
  · show [((Sum.inr k : Key), v)] = [(Sum.inr k, if k = k then v else f k)]
    rw [if_pos rfl]
abbrev MENU : List Str := ["a", "b", "n", "u", "sum", "gap", "left", "x", "total", "zz", "kind", "plan"]
abbrev MENK : List Str := ["item", "end", "a", "b", "plan", "gap", "head"]
theorem menu_ok : ∀ x ∈ MENU, okName x = true := by decide +kernel
theorem menk_ok : ∀ x ∈ MENK, okName x = true := by decide +kernel
theorem menu_nd : MENU.Nodup := by decide +kernel
theorem menk_nd : MENK.Nodup := by decide +kernel
/-- the rows of a kind so far -/
def KRow (H : Hp) (m : Int) (cols done : List Str) (a : Addr) : Prop := ∃ (fa : Str → Addr) (g : Str → Fm), H a = some (.dK (dct done fun y => .ref (fa y))) ∧ ∀ y ∈ done, IsMd H (g y) (fa y) ∧ (g y).fit m cols ∧ (g y).size ≤ 7
theorem KRow.drw {p : Addr} {H H' : Hp} {m : Int} {cols done : List Str} {a : Addr} (hp : PotAt H p) (d : Drw p H H') (h : KRow H m cols done a) : KRow H' m cols done a := by
  obtain ⟨fa, g, e, h⟩ := h
  exact ⟨fa, g, d.at_ (dr_dK hp e), fun y hy => ⟨(h y hy).1.drw hp d, (h y hy).2⟩⟩
theorem KRow.upd {H : Hp} {m : Int} {cols done : List Str} {a q : Addr} {kvs : List (Key × V)} {o : HO} (h : KRow H m cols done a) (hq : H q = some (.dK kvs)) (ne : a ≠ q) : KRow (L2.upd H q o) m cols done a := by
  obtain ⟨fa, g, e, h⟩ := h
  exact ⟨fa, g, by rw [upd_ne ne]; exact e, fun y hy => ⟨(h y hy).1.updL hq (fun _ z => nomatch z), (h y hy).2⟩⟩
theorem KRow.up {H H' : Hp} {m : Int} {cols done : List Str} {a : Addr} (s : Same H H') (h : KRow H m cols done a) : KRow H' m cols done a := by
  obtain ⟨fa, g, e, h⟩ := h
  exact ⟨fa, g, s _ _ e, fun y hy => ⟨(h y hy).1.up s, (h y hy).2⟩⟩
end Bn
/-! B18: for x, y, z in zip(A, B, C), three lists. -/
namespace Bn
open PySem PySem.Spec PyProof.Rows L2
/-- the lists at a, b, c as they stand at each turn -/
def Itz3 (K : PySem.W.Frag) (a b c : Addr) : It :=
  ⟨fun i H => ∃ (xs ys zs : List V) (x y z : V), SqL K H a xs ∧ SqL K H b ys ∧ SqL K H c zs ∧ xs[i]? = some x ∧ ys[i]? = some y ∧ zs[i]? = some z,
    fun i H v H' => ∃ T x y z, v = .ref T ∧ H T = none ∧ H' = upd H T (.tup [x, y, z]) ∧ (∀ xs, SqL K H a xs → xs[i]? = some x) ∧ (∀ ys, SqL K H b ys → ys[i]? = some y) ∧ ∀ zs, SqL K H c zs → zs[i]? = some z,
    fun i H => ∃ xs ys zs : List V, SqL K H a xs ∧ SqL K H b ys ∧ SqL K H c zs ∧ xs.length = i ∧ ys.length = i ∧ zs.length = i⟩
abbrev zFp (n : Nat) : List Addr := [n + 5, n + 4, n, n + 1, n + 2, n + 3]
theorem zip_sep {n a b c : Nat} (ha : a < n) (hb : b < n) (hc : c < n) : ZipSep3 (n + 5) (n + 3) (n + 4) n (n + 1) (n + 2) [n, a] [n + 1, b] [n + 2, c] := by
  have k : ∀ {x y z : Nat}, x ≠ y → x ≠ z → x ∉ ([y, z] : List Addr) := fun h1 h2 m => by
    rcases List.mem_cons.mp m with e | m
    · exact h1 e
    · exact h2 (List.mem_singleton.mp m)
  constructor <;> first | exact k (by omega) (by omega) | (show ¬ (@Eq Nat _ _); omega) | exact List.mem_cons_self
theorem turn_zip3 {P : Program} {w : World} {K : PySem.W.Frag} {elts : List Expr} {kk : Nat} {tpos : Pos} {n a b c : Nat} (ha : a < n) (hb : b < n) (hc : c < n) :
    Turn P w K (.Tuple elts kk tpos) (Itz3 K a b c) (zFp n) (n + 5) (fun i h => IsZip h (n + 5) (n + 3) (n + 4) .none ∧ IsTupOf3 h (n + 3) (.ref n) (.ref (n + 1)) (.ref (n + 2)) ∧ (∃ x y z, IsTupOf3 h (n + 4) x y z) ∧ h.IsListIter n a i ∧ h.IsListIter (n + 1) b i ∧ h.IsListIter (n + 2) c i) where
  mem := by simp
  obj := fun i h st d hd => by
    obtain ⟨hz, hTI, ⟨x, y, z, hTO⟩, ⟨o1, e1, _, d1⟩, ⟨o2, e2, _, d2⟩, ⟨o3, e3, _, d3⟩⟩ := st
    have e' : d = n + 5 ∨ d = n + 4 ∨ d = n ∨ d = n + 1 ∨ d = n + 2 ∨ d = n + 3 := by simpa using hd
    rcases e' with q | q | q | q | q | q <;> rw [q]
    · exact ⟨_, hz, fun v q => nomatch q⟩
    · exact ⟨_, hTO, fun v q => nomatch q⟩
    · exact ⟨o1, e1, fun v q => by rw [d1] at q; cases q⟩
    · exact ⟨o2, e2, fun v q => by rw [d2] at q; cases q⟩
    · exact ⟨o3, e3, fun v q => by rw [d3] at q; cases q⟩
    · exact ⟨_, hTI, fun v q => nomatch q⟩
  keep := fun i h h' st k => by
    obtain ⟨hz, hTI, ⟨x, y, z, hTO⟩, h1, h2, h3⟩ := st
    exact ⟨k _ (by simp) _ hz, k _ (by simp) _ hTI, ⟨x, y, z, k _ (by simp) _ hTO⟩, h1.at fun o q => k _ (by simp) o q, h2.at fun o q => k _ (by simp) o q, h3.at fun o q => k _ (by simp) o q⟩
  item := by
    intro X hP hw hK hca i pins s σ H E I hf st hg
    subst hP hw hK
    obtain ⟨hz, hTI, ⟨x0, y0, z0, hTO⟩, h1, h2, h3⟩ := st
    obtain ⟨xs, ys, zs, x, y, z, hqx, hqy, hqz, hx, hy, hz'⟩ := hg
    obtain ⟨its, rv, p, _⟩ := I.list hqx
    obtain ⟨its2, rv2, p2, _⟩ := I.list hqy
    obtain ⟨its3, rv3, p3, _⟩ := I.list hqz
    obtain ⟨u, hu, ru⟩ := rv.get hx
    obtain ⟨u2, hu2, ru2⟩ := rv2.get hy
    obtain ⟨u3, hu3, ru3⟩ := rv3.get hz'
    have hh := I.ok.hd hca
    have S := zip_sep ha hb hc
    have zl : n + 5 < s.heap.objs.size := Heap.lt_size hz
    have ix : ∀ {l : List Value} {v : Value}, l[i]? = some v → i < l.toArray.size := fun e => by simpa using (List.getElem?_eq_some_iff.mp e).1
    refine wpAny_pyNext_zipD3_item S (Draws.list (A := X.A.in1) hh n a (Nat.ne_of_lt ha) its.toArray) (Draws.list (A := X.A.in1) hh (n + 1) b (Nat.ne_of_lt (Nat.lt_succ_of_lt hb)) its2.toArray) (Draws.list (A := X.A.in1) hh (n + 2) c (Nat.ne_of_lt (Nat.lt_succ_of_lt (Nat.lt_succ_of_lt hc))) its3.toArray) hz hTI hTO ⟨h1, p.isList⟩ ⟨h2, p2.isList⟩ ⟨h3, p3.isList⟩ (ix hu) (ix hu2) (ix hu3)
      fun v1 v2 v3 h' tk e1 e2 e3 z' TO' st1 st2 st3 hT hsz hk => ?_
    have q1 : v1 = u := by
      have e1' : its[i]? = some v1 := by simpa using e1
      rw [hu] at e1'
      exact (Option.some.inj e1').symm
    have q2 : v2 = u2 := by
      have e2' : its2[i]? = some v2 := by simpa using e2
      rw [hu2] at e2'
      exact (Option.some.inj e2').symm
    have q3 : v3 = u3 := by
      have e3' : its3[i]? = some v3 := by simpa using e3
      rw [hu3] at e3'
      exact (Option.some.inj e3').symm
    subst q1 q2 q3
    refine ⟨_, rfl, wpAny_letOwnedTupleGo_zip (s := { s with heap := h', toks := tk }) z' fun h'' z'' sb => ?_⟩
    have sz : ∀ {d : Nat}, d ≤ n + 5 → d ≠ s.heap.objs.size := fun hd => Nat.ne_of_lt (Nat.lt_of_le_of_lt hd zl)
    have hT2 : h''.get? s.heap.objs.size = some { cls := .type "tuple", data := .seq #[v1, v2, v3] } := (sb.2 _ (Nat.ne_of_gt zl)).trans hT
    have new : ObjOk X.prog X.w (upd H s.heap.objs.size (.tup [x, y, z])) h'' s.heap.objs.size (.tup [x, y, z]) :=
      ⟨by show 3 ≤ sizeLine; decide, [v1, v2, v3], .cons ru (.cons ru2 (.cons ru3 .nil)), ⟨_, hT2, rfl, _, rfl⟩⟩
    have I1 : Inv X pins σ (upd H s.heap.objs.size (.tup [x, y, z])) { s with heap := h'', toks := tk } :=
      I.turnedNew (t' := tk) (ch := zFp n) (fun d o hb q => (sb.2 d (fun q' => hb (by simp [q']))).trans (hk d o (fun q' => hb (by simp [q'])) (fun q' => hb (by simp [q'])) (fun q' => hb (by simp [q'])) (fun q' => hb (by simp [q'])) (fun q' => hb (by simp [q'])) q)) hf (Nat.le_refl _) new
    refine ⟨.ref s.heap.objs.size, _, I1, rfl, ⟨_, x, y, z, rfl, I.hok.fresh (Nat.le_refl _), rfl, fun l hl => by rw [I.list_inj hl hqx]; exact hx, fun l hl => by rw [I.list_inj hl hqy]; exact hy, fun l hl => by rw [I.list_inj hl hqz]; exact hz'⟩, ⟨z'', ?_, ⟨v1, v2, v3, ?_⟩, ?_, ?_, ?_⟩, fun d hd => ?_⟩
    · exact (sb.2 _ S.TIz).trans (hk _ _ S.TIz S.TITO S.TIi1 S.TIi2 S.TIi3 hTI)
    · exact (sb.2 _ S.TOz).trans TO'
    · exact st1.1.at fun o q => (sb.2 _ (Ne.symm S.zi1)).trans q
    · exact st2.1.at fun o q => (sb.2 _ (Ne.symm S.zi2)).trans q
    · exact st3.1.at fun o q => (sb.2 _ (Ne.symm S.zi3)).trans q
    · have hle : d ≤ n + 5 := by
        have e' : d = n + 5 ∨ d = n + 4 ∨ d = n ∨ d = n + 1 ∨ d = n + 2 ∨ d = n + 3 := by simpa using hd
        rcases e' with q | q | q | q | q | q <;> rw [q] <;> (show @LE.le Nat _ _ _) <;> omega
      rw [upd_ne (sz hle)]
      exact (hf d hd).1
  done := by
    intro X hP hw hK hca i pins s σ H E I hf st hg
    subst hP hw hK
    obtain ⟨hz, hTI, ⟨x0, y0, z0, hTO⟩, h1, h2, h3⟩ := st
    obtain ⟨xs, ys, zs, hqx, hqy, hqz, l1, l2, l3⟩ := hg
    obtain ⟨its, rv, p, _⟩ := I.list hqx
    obtain ⟨its2, rv2, p2, _⟩ := I.list hqy
    obtain ⟨its3, rv3, p3, _⟩ := I.list hqz
    have hh := I.ok.hd hca
    have m1 : i = its.toArray.size := by rw [List.size_toArray, ← rv.length, l1]
    have m2 : i = its2.toArray.size := by rw [List.size_toArray, ← rv2.length, l2]
    have m3 : i = its3.toArray.size := by rw [List.size_toArray, ← rv3.length, l3]
    exact wpAny_pyNext_zipD3_end (zip_sep ha hb hc) (Draws.list (A := X.A.in1) hh n a (Nat.ne_of_lt ha) its.toArray) (Draws.list (A := X.A.in1) hh (n + 1) b (Nat.ne_of_lt (Nat.lt_succ_of_lt hb)) its2.toArray) (Draws.list (A := X.A.in1) hh (n + 2) c (Nat.ne_of_lt (Nat.lt_succ_of_lt (Nat.lt_succ_of_lt hc))) its3.toArray) hz hTI hTO ⟨h1, p.isList⟩ ⟨h2, p2.isList⟩ ⟨h3, p3.isList⟩ (Nat.le_of_eq m1) (Nat.le_of_eq m2) (Nat.le_of_eq m3) (.inl m1)
      fun h' tk hk => ⟨rfl, I.turnedL (t' := tk) (ch := zFp n) (fun d o hb q => hk d o (fun q' => hb (by simp [q'])) (fun q' => hb (by simp [q'])) (fun q' => hb (by simp [q'])) (fun q' => hb (by simp [q'])) (fun q' => hb (by simp [q'])) q) hf⟩
  self := fun A i s Q E st h => wpAny_pyIter_zip st.1 h
def iZip3 (K : PySem.W.Frag) (ta : TA) : L2.TI := fun σ H R => ta σ H fun vs H1 => ∃ a b c xs ys zs, vs = [.ref a, .ref b, .ref c] ∧ SqL K H1 a xs ∧ SqL K H1 b ys ∧ SqL K H1 c zs ∧ R (Itz3 K a b c) H1
theorem pi_zip3 {X : Cx} {e e2 e3 : Expr} {ta : TA} {p pos tpos : Pos} {elts : List Expr} {kk : Nat} (hg : Gl X "zip") (hm : X.mg "zip" = none) (ha : PA X [e, e2, e3] ta)
    (hs : starEach [e, e2, e3] X.env = (false, eval e X.env) :: starEach [e2, e3] X.env := by rfl) (hpl : (backTo pos (starEach [e2, e3] X.env)).any (·.1) = false := by rfl) :
    PI X (.Tuple elts kk tpos) (.Call (.Name "zip" p) [e, e2, e3] [] pos) (iZip3 X.K ta) := by
  refine ⟨fun pins s σ H R I h => ?_⟩
  refine Call_ (ld_blt I hg hm PyProof.Rows.boot_zip (PyProof.Rows.callWith_type1 (thn (ha.run pos pins s σ H _ I h) fun us s1 ⟨vs, H1, I1, r1, q1⟩ => ?_) hs hpl))
  obtain ⟨a, b, c, xs, ys, zs, rfl, hqx, hqy, hqz, q⟩ := q1
  cases r1 with
  | cons r rr =>
    cases rr with
    | cons r' rr =>
      cases rr with
      | cons r'' rr =>
        cases rr
        cases r
        cases r'
        cases r''
        obtain ⟨its, rv, p1, _⟩ := I1.list hqx
        obtain ⟨its2, rv2, p2, _⟩ := I1.list hqy
        obtain ⟨its3, rv3, p3, _⟩ := I1.list hqz
        refine zip_begins3 (begins_list a its.toArray) (begins_list b its2.toArray) (begins_list c its3.toArray) p1.isList p2.isList p3.isList fun h' hz hTI hTO h1 h2 h3 hsz hk => wpAny_pyIter_zip hz ?_
        have I2 : Inv X pins σ H1 { s1 with heap := h' } := I1.kept (t' := s1.toks) hk
        refine ⟨s1.heap.objs.size + 5, zFp s1.heap.objs.size, _, _, H1, rfl, I2, turn_zip3 p1.lt p2.lt p3.lt, ⟨hz, hTI, ⟨_, _, _, hTO⟩, ⟨_, h1, rfl, rfl⟩, ⟨_, h2, rfl, rfl⟩, ⟨_, h3, rfl, rfl⟩⟩, fun d hd => ?_, q⟩
        have hle : s1.heap.objs.size ≤ d := by
          have e' : d = s1.heap.objs.size + 5 ∨ d = s1.heap.objs.size + 4 ∨ d = s1.heap.objs.size ∨ d = s1.heap.objs.size + 1 ∨ d = s1.heap.objs.size + 2 ∨ d = s1.heap.objs.size + 3 := by simpa using hd
          rcases e' with z | z | z | z | z | z <;> rw [z] <;> (show @LE.le Nat _ _ _) <;> omega
        exact I1.fpOk hle (I1.hok.fresh hle)
end Bn
/-! B14: a != b by an own __eq__ (object.__ne__ asks it). -/
namespace Bn
open PySem PySem.Spec PyProof.Rows L2
/-- the class at C has an own __eq__ with the promise p, and object's __ne__ -/
def EqR (P : Program) (w : World) (K : PySem.W.Frag) (mg : Str → Option Value) (base : Heap) (k : Nat) (C : Addr) (p : Pr) : Prop :=
  ∃ f, PySem.W.findIn K (.ref C) "__ne__" = some (some (.builtin "object.__ne__")) ∧ PySem.W.mroIn K C (.type "object") = some true ∧ PySem.W.findIn K (.ref C) "__eq__" = some (some (.ref f)) ∧ PySem.W.isFn K (.ref f) = true ∧ Keeps P w K mg base k f p
theorem ne_bind (self : Value) : bindSpecial (.builtin "object.__ne__") self = pure (.builtin "object.__ne__", [self]) :=
  (Slot.of (T := "object") (name := "__ne__") (owner := "object") (n := "__ne__") (by rw [typeLookup_type, builtinLookup_eq_fast]; kernel_rfl) (by decide +kernel) (by decide +kernel) (by decide +kernel)
    (.inl (by decide +kernel)) (by rw [isSubtype_type]; kernel_rfl)).bind self
section
variable {prog : Program} {w : World} {A : Around} {E : Value → Shared → Prop} {s : Shared} {K : PySem.W.Frag} {x C f : Addr} {ox : Obj} {od : Option Obj} {b : Value}
theorem ne_body {Q : PySem.Fin → Shared → Prop} (X : K.In s.heap) (I : PySem.W.InstAt s.heap x ox C od) (hs : PySem.W.findIn K (.ref C) "__eq__" = some (some (.ref f))) (hf : PySem.W.isFn K (.ref f) = true) (hu : A.units < cLine)
    (h : wpAny (model prog w) A (call (.ref f) [.ref x, b]) (fun v s' => ∃ t, v = .bool t ∧ Q (.done (.ret (.bool (!t)))) s') E s) :
    wpAny (model prog w) A (Builtin.«object.__ne__» ⟨[.ref x, b], []⟩) Q E s := by
  unfold Builtin.«object.__ne__»
  refine wpAny_bind (m := slotArgs "__ne__" 1 ⟨[.ref x, b], []⟩) (wpAny_of_eq (a := (.ref x, [b])) rfl ?_)
  dsimp only
  refine wpAny_bind (wpAny_cRoomFor hu ?_)
  refine wpAny_bind (PySem.W.ifBound_K X I hs hf (wpAny_mono h (fun v s' hv => ?_) fun _ _ z => z))
  obtain ⟨t, rfl, q⟩ := hv
  refine wpAny_bind (m := truthy (.bool t)) (wpAny_truthy_bool ?_)
  exact wpAny_pure q
theorem ne_own {Q : Value → Shared → Prop} (X : K.In s.heap) (I : PySem.W.InstAt s.heap x ox C od) (hb : PySem.W.Looks (model prog w) s.heap (typeOf b) (.ref C)) (hn : PySem.W.findIn K (.ref C) "__ne__" = some (some (.builtin "object.__ne__"))) (hm : PySem.W.mroIn K C (.type "object") = some true)
    (hs : PySem.W.findIn K (.ref C) "__eq__" = some (some (.ref f))) (hf : PySem.W.isFn K (.ref f) = true) (hu : A.units + 1 < cLine)
    (h : wpAny (model prog w) A.in1 (call (.ref f) [.ref x, b]) (fun v s' => ∃ t, v = .bool t ∧ Q (.bool (!t)) s') E s) :
    wpAny (model prog w) A (compareOp .NotEq (.ref x) b) Q E s := by
  have step : wpAny (model prog w) A (call (.builtin "object.__ne__") [.ref x, b]) (fun v s' => ∃ t, v = .bool t ∧ Q (.bool t) s') E s := by
    refine wpAny_call (codeAny_call_builtin (by decide +kernel) F.cmpEntry_ne (PySem.W.check_slot F.cmpKind_ne F.cmpSplit_ne ?_ (F.cmpArgs_ne _ _) (ne_body (A := A.in1) X I hs hf hu (wpAny_mono h (fun v s' hv => ?_) fun _ _ z => z))))
    · exact I.type.andThen (PySem.W.looks_mroIn X hm)
    · obtain ⟨t, rfl, q⟩ := hv
      exact ⟨t, rfl, ⟨!t, rfl, q⟩⟩
  have one : wpAny (model prog w) A (tryCompare (.ref x) "__ne__" b) (fun r s' => ∃ t, r = some (.bool t) ∧ Q (.bool t) s') E s := by
    unfold tryCompare
    refine wpAny_bind ?_
    simp only [callSpecialIfBound?, bindSpecialIfBound?]
    refine wpAny_holding (wpAny_bind (wpAny_bind (wpAny_bind (I.type.here ((PySem.W.looks_findIn X hn).here ?_)))))
    refine wpAny_bind (wpAny_askSetting (wpAny_ite ?_))
    rw [ne_bind]
    have fin : wpAny (model prog w) A (call (.builtin "object.__ne__") ([.ref x] ++ [b]) >>= fun v => pure (some v)) (fun r s' => wpAny (model prog w) A (match r with | some .notImplemented | none => pure none | some v => pure (some v)) (fun r s' => ∃ t, r = some (.bool t) ∧ Q (.bool t) s') E s') E s := by
      refine wpAny_bind (wpAny_mono step (fun v s' hv => ?_) fun _ _ z => z)
      obtain ⟨t, rfl, q⟩ := hv
      exact wpAny_pure (wpAny_pure ⟨t, rfl, q⟩)
    split
    · exact wpAny_bind (wpAny_pure (wpAny_pure fin))
    · exact wpAny_tryCatch (wpAny_bind (wpAny_pure (wpAny_pure fin)))
  unfold compareOp richCompare
  simp only [oneThing_ref]
  refine wpAny_holding (wpAny_bind (wpAny_cRoomFor (Nat.lt_of_succ_lt hu) ?_))
  refine wpAny_bind (I.type.here (wpAny_bind (hb.here ?_)))
  rw [show (Value.ref C != Value.ref C) = false from by simp]
  simp only [Bool.false_eq_true, if_false]
  refine wpAny_bind (wpAny_pure ?_)
  simp only [Bool.false_eq_true, if_false]
  refine wpAny_bind (wpAny_mono one (fun r s' z => ?_) fun _ _ z => z)
  obtain ⟨t, rfl, q⟩ := z
  exact wpAny_pure q
end
section
variable {X : Cx} {k : Nat}
def rNeOwn (W : Addr → Pr → Prop) : R2 := fun x y H Q => ∃ (a b C dx dy : Addr) (fs gs : List (Str × V)) (p : Pr), x = .ref a ∧ y = .ref b ∧ H a = some (.ins C dx fs) ∧ H b = some (.ins C dy gs) ∧ W C p ∧ p [.ref a, .ref b] H fun v H' => ∃ t, v = .bl t ∧ Q (.bl (!t)) H'
theorem op_neOwn (hr : Rm (k + 1) X.A) : OpR X (compareOp .NotEq) (rNeOwn (EqR X.prog X.w X.K X.mg X.base k)) := by
  intro pins s σ H x y v u Q I rx ry h
  obtain ⟨a, b, C, dx, dy, fs, gs, p, rfl, rfl, ea, eb, ⟨f, hn, hm, hs, hf, F⟩, q⟩ := h
  cases rx
  cases ry
  obtain ⟨mA, O, _, _, _, _⟩ := ins_get I.hok ea
  obtain ⟨mB, O', _, _, _, _⟩ := ins_get I.hok eb
  obtain ⟨od, J, _⟩ := O.look
  obtain ⟨od', J', _⟩ := O'.look
  refine ne_own I.kIn J J'.type hn hm hs hf (by have := hr.r.un; omega) (wpAny_call (codeAny_mono (F X.A.in1 X.stack s H [.ref a, .ref b] [.ref a, .ref b] _ E0 hr.in1 I.env0.in1 (.cons rfl (.cons rfl .nil)) q) ?_))
  intro r s' hq
  match r, hq with
  | .error e, hq => exact False.elim hq
  | .ok (.ret u), hq =>
    obtain ⟨v, H', I', rv, t, rfl, q'⟩ := I.after hq
    cases rv
    exact ⟨t, rfl, .bl (!t), H', I', rfl, q'⟩
  | .ok .next, hq => exact False.elim hq
  | .ok .brk, hq => exact False.elim hq
  | .ok .cont, hq => exact False.elim hq
end
end Bn
/-! B15: a dict against itself. -/
namespace Bn
open PySem PySem.Spec PyProof.Rows L2
theorem valueAt_self {K : Type} [DecidableEq K] : ∀ {l : List (K × Value)} {p : K × Value}, (l.map (·.1)).Nodup → p ∈ l → valueAt l p.1 = some p.2
  | q :: l, p, hn, hp => by
    unfold valueAt
    rw [List.find?_cons]
    rw [List.map_cons, List.nodup_cons] at hn
    rcases List.mem_cons.mp hp with rfl | hp
    · simp
    · have ne : q.1 ≠ p.1 := fun e => hn.1 (e ▸ List.mem_map_of_mem hp)
      simp only [ne, decide_false, Bool.false_eq_true]
      exact valueAt_self hn.2 hp
theorem hits_self {K : Type} [DecidableEq K] {A : Around} {s : Shared} {l : List (K × Value)} : ∀ {r : List (K × Value)}, (∀ p ∈ r, valueAt l p.1 = some p.2) → PySem.W.KeqHits A s l r true
  | [], _ => .nil
  | (k, v) :: r, h => by
    have z := PySem.W.KeqHits.hit (A := A) (s := s) (h (k, v) List.mem_cons_self) (SeqAt.EqAt.same v) (hits_self (r := r) fun p hp => h p (List.mem_cons_of_mem _ hp))
    exact z
section
variable {X : Cx}
def rSelf (b : Bool) : R2 := fun x y H Q => ∃ d kvs, x = .ref d ∧ y = .ref d ∧ H d = some (.dK kvs) ∧ Q (.bl b) H
theorem op_eqSelf (hu : X.A.units + 64 < cLine) : OpR X (compareOp .Eq) (rSelf true) := by
  intro pins s σ H x y v u Q I rx ry h
  obtain ⟨d, kvs, rfl, rfl, hd, q⟩ := h
  cases rx
  cases ry
  obtain ⟨_, yd, vs, kv, D⟩ := I.hok _ _ hd
  have hn : (vs.map (·.1)).Nodup := by obtain ⟨_, _, _, _, _, _, _, _, n⟩ := D; exact n
  refine PySem.W.keq_eq (r := true) yd yd D D (by omega) (fun _ => hits_self fun p hp => valueAt_self hn hp) ?_
  rw [show (vs.length == vs.length && true) = true from by simp]
  exact ⟨.bl true, H, I, rfl, q⟩
theorem op_neSelf (hu : X.A.units + 64 < cLine) : OpR X (compareOp .NotEq) (rSelf false) := by
  intro pins s σ H x y v u Q I rx ry h
  obtain ⟨d, kvs, rfl, rfl, hd, q⟩ := h
  cases rx
  cases ry
  obtain ⟨_, yd, vs, kv, D⟩ := I.hok _ _ hd
  have hn : (vs.map (·.1)).Nodup := by obtain ⟨_, _, _, _, _, _, _, _, n⟩ := D; exact n
  refine PySem.W.keq_ne (r := true) yd yd D D (by omega) (fun _ => hits_self fun p hp => valueAt_self hn hp) ?_
  rw [show (!(vs.length == vs.length && true)) = false from by simp]
  exact ⟨.bl false, H, I, rfl, q⟩
end
end Bn
/-! W13: want_plan. -/
namespace Bn
open PySem PySem.Spec PyProof.Rows L2 StX
open He (ga ma)
section
variable {w : World} {K : Fr} {mg : Str → Option Value} {base : Heap}
theorem reach_all {pl : Plan} {F : List Int} (h : Rch pl F [] none) (hl : ∀ (i : Nat) (r : List Str × (Str → Int)), pl[i]? = some r → i + 1 < pl.length → ∃ k ∈ r.1, r.2 k = ((i + 1 : Nat) : Int)) : ∀ i : Nat, i < pl.length → (i : Int) ∈ F
  | 0, _ => h.z
  | i + 1, hi => by
    have ih := reach_all h hl i (by omega)
    have hr : pl[i]? = some (pl[i]'(by omega)) := List.getElem?_eq_getElem (by omega)
    obtain ⟨k, hk, e⟩ := hl i _ hr hi
    rcases h.d _ ih with z | z | z
    · cases z
    · cases z
    · rw [← e]
      exact z _ (by simpa using hr) _ (List.mem_map_of_mem hk)
def pWantP : Pr := fun vs H Q => ∃ (p k : Addr) (rs : List Addr) (pl : Plan) (kinds : List Str) (ka : Str → Addr), vs = [.ref p, .ref k] ∧ H p = some (.lst (rs.map V.ref)) ∧ Paired (fun a r => H a = some (.dK (dct r.1 fun x => .int (r.2 x)))) rs pl ∧ H k = some (.dK (dct kinds fun x => .ref (ka x))) ∧ 1 ≤ pl.length ∧ pl.length ≤ 3 ∧
  (∀ r ∈ pl, 1 ≤ r.1.length ∧ r.1.length ≤ 100 ∧ (∀ k ∈ r.1, k ∈ kinds) ∧ ∀ k ∈ r.1, 0 ≤ r.2 k ∧ r.2 k < pl.length) ∧ (∀ (i : Nat) (r : List Str × (Str → Int)), pl[i]? = some r → i + 1 < pl.length → ∃ k ∈ r.1, r.2 k = ((i + 1 : Nat) : Int)) ∧ ∀ H', Same H H' → Q .non H'
theorem k_want_plan (G : GD K mg) : Keeps PP w K mg base 4 (ga K "want_plan") pWantP := by
  obtain ⟨fd, F⟩ := fd_want_plan G
  refine kp_fnN (k := 3) F sc_want_plan (fun _ _ _ _ _ _ us hl => match us, hl with | [_, _], _ => rfl) (by rintro _ _ _ ⟨p, k, rs, pl, kinds, ka, rfl, _⟩; rfl) fun cdv A outer s H vs Q E hr hp => ?_
  obtain ⟨p, k, rs, pl, kinds, ka, rfl, hp, hrs, hk, h1, h3, hrow, hnext, hq⟩ := hp
  have nd := sc_want_plan.nd
  have hs := sizeLine_eq
  have hlen := paired_len hrs
  have D1 : DefR PP w K mg base 3 "is_list" pIsList := ⟨_, gg_is_list G, gk_is_list G, (k_is_list G).mono (by omega)⟩
  have D2 : DefR PP w K mg base 3 "is_place_row" pPlaceR := ⟨_, gg_is_place_row G, gk_is_place_row G, k_is_place_row G⟩
  have D3 : DefR PP w K mg base 3 "places_reached" pReach := ⟨_, gg_places_reached G, gk_places_reached G, (k_places_reached G).mono (by omega)⟩
  refine ⟨_, pss_cons (ps_if (PW.pt (pw_or (pt_not (pt_val (pe_d D1 hr (by rfl) (pa_cons (pv 0) pa_nil)))) (pw_or1 (pt_not (pt_chain op_le op_le pe_int (pe_callB call_len_seq (by rfl) (gf_len G) rfl (pa_cons (pv 0) pa_nil)) (C8.pe_gc (by rfl) (gv_MOST_PLACES G))))))) pss_never pss_nil)
    (pss_cons (ps_for PassesOwn.never rfl (pi_enum (by rfl) (gf_enumerate G) (pa_cons (pv 0) pa_nil)) (pg_tup rfl (pgs_cons (pg_name (i := 2) nd rfl (.inl rfl)) (pgs_cons (pg_name (i := 3) nd rfl (.inl rfl)) pgs_nil)))
      (pss_one (ps_if (pt_not (pt_val (pe_d D2 hr (by rfl) (pa_cons (pv 3) (pa_cons (pv 1) (pa_cons (pe_callB call_len_seq (by rfl) (gf_len G) rfl (pa_cons (pv 0) pa_nil)) pa_nil)))))) pss_never pss_nil)))
    (pss_cons (ps_set (i := 4) nd rfl (.inl rfl) (pe_d D3 hr (by rfl) (pa_cons (pv 0) pa_nil)))
    (pss_one (ps_for PassesOwn.never rfl (pi_range1 (by rfl) (gf_range G) (pa_cons (pe_callB call_len_seq (by rfl) (gf_len G) rfl (pa_cons (pv 0) pa_nil)) pa_nil)) (pg_name (i := 2) nd rfl (.inl rfl))
      (pss_one (ps_if (pt_cmp (pc_dnotin (hu_of hr.r) (pv 2) (pv 4))) pss_never pss_nil)))))), ?_⟩
  refine ⟨_, rfl, p, rfl, .l _ hp, fun H1 s1 => ⟨_, rfl, iteF ?_⟩⟩
  refine ⟨_, rfl, p, _, rfl, .inl (.of (s1 _ _ hp)), _, _, rfl, rfl, _, rfl, ifT ?_ ⟨_, _, rfl, rfl, _, rfl, ifF ?_ ?_⟩⟩
  · rw [List.length_map]; show decide ((1 : Int) ≤ _) = true; rw [decide_eq_true_iff]; omega
  · rw [List.length_map]; show (!decide (_ ≤ (3 : Int))) = false; rw [Bool.not_eq_false', decide_eq_true_iff]; omega
  refine ⟨_, rfl, p, _, rfl, .of (s1 _ _ hp), for_it (walk_enum (a := p) (xs := rs.map V.ref)) (fun i σ H2 => Same H H2 ∧ ∃ x y, σ = [some (.ref p), some (.ref k), x, y, none]) ⟨s1, none, none, rfl⟩ (fun i σ H2 _ h => .of (h.1 _ _ hp)) ?_ ?_⟩
  · rintro i x σ H2 H2' hi ⟨s2, x1, x2, rfl⟩ ⟨T, v1, v2, rfl, hT, rfl, e1, e2⟩
    cases e1
    obtain ⟨a, ha, rfl⟩ := some_map e2
    obtain ⟨r, hr', had⟩ := paired_get hrs ha
    have hrm := List.mem_of_getElem? hr'
    obtain ⟨r1, r2, r3, r4⟩ := hrow r hrm
    have s3 := same_trans s2 (Same.new (o := .tup [.int (i : Nat), .ref a]) hT)
    have hak : a ≠ k := ne_of had hk fun z => by
      have z := HO.dK.inj z
      cases e : r.1 with
      | nil => rw [e] at r1; simp at r1
      | cons c cs =>
        rw [e] at z
        cases e' : kinds with
        | nil => rw [e'] at z; cases z
        | cons c' cs' =>
          rw [e'] at z
          have z := (List.cons.inj z).1
          have z := congrArg Prod.snd z
          cases z
    refine ⟨T, _, rfl, .of upd_same, rfl, _, _, rfl, _, _, rfl, rfl, ?_⟩
    refine ⟨_, rfl, _, rfl, _, rfl, p, _, rfl, .inl (.of (s3 _ _ hp)), a, k, _, r.1, kinds, r.2, _, rfl, hak, s3 _ _ had, s3 _ _ hk, r1, by omega, fun x hx => ⟨r3 x hx, (r4 x hx).1, ?_⟩, fun H4 s4 => ⟨_, rfl, iteF ⟨same_trans s3 s4, _, _, rfl⟩⟩⟩
    rw [List.length_map, hlen]
    exact (r4 x hx).2
  · rintro σ H2 ⟨s2, x1, x2, rfl⟩
    refine ⟨_, rfl, p, rs, pl, rfl, s2 _ _ hp, Paired.mapP hrs (fun a r e => s2 _ _ e), h1, by omega, fun r hr' => ⟨(hrow r hr').2.1, (hrow r hr').2.2.2⟩, fun H3 rd F s3 hrd hR => ?_⟩
    have s23 := same_trans s2 s3
    refine ⟨_, rfl, p, _, rfl, .inl (.of (s23 _ _ hp)), _, rfl, ?_, ?_, for_it walk_range (fun i σ H4 => H4 = H3 ∧ ∃ x y, σ = [some (.ref p), some (.ref k), x, y, some (.ref rd)]) ⟨rfl, x1, x2, rfl⟩ (fun _ _ _ _ _ => trivial) ?_ ?_⟩
    · omega
    · rw [List.length_map]; omega
    · rintro i x σ H4 H4' hi ⟨rfl, y1, y2, rfl⟩ ⟨rfl, rfl⟩
      rw [List.length_map] at hi
      have hin := reach_all hR hnext i (by omega)
      refine ⟨_, rfl, _, rfl, rd, _, rfl, .inl ⟨_, .inl ((0 : Int) + (i : Nat)), .inl hrd, rfl, rfl⟩, _, rfl, ifF ?_ ⟨rfl, _, _, rfl⟩⟩
      rw [valV_fK, if_pos (by rw [Int.zero_add]; exact hin)]
      rfl
    · rintro σ H4 ⟨rfl, _⟩
      exact hq _ s23
end
end Bn
/-! W15: what a sheet tells. -/
namespace Bn
open PySem PySem.Spec PyProof.Rows L2 StX
open He (ga ma)
/-- a word that the plan allows from a place -/
def Val (pl : Plan) : Int → List Str → Prop
  | _, [] => True
  | i, k :: ws => ∃ r, pl[i.toNat]? = some r ∧ k ∈ r.1 ∧ Val pl (r.2 k) ws
section
variable {w : World} {K : Fr} {mg : Str → Option Value} {base : Heap}
def pShMod (K : Fr) : Pr := fun vs H Q => ∃ a S, vs = [.ref a] ∧ IsSheet K H a S ∧ Q (.int S.m) H
theorem k_Sheet_modulus (G : GD K mg) : Keeps PP w K mg base 1 (pa K "Sheet" "modulus") (pShMod K) := by
  obtain ⟨fd, F⟩ := fd_Sheet_modulus G
  refine kp_fn0 (k := 0) F sc_Sheet_modulus (fun _ _ _ _ _ _ us hl => match us, hl with | [_], _ => rfl) (by rintro _ _ _ ⟨a, S, rfl, _⟩; rfl) fun cdv A outer s H vs Q E hr hp => ?_
  obtain ⟨a, S, rfl, ⟨dx, c, t, k, p, h0, _⟩, hq⟩ := hp
  exact ⟨_, pss_one (ps_ret (pe_fl (pv 0))), _, rfl, _, fld_of h0 (cf_Sheet G) (by decide +kernel) (by rfl), hq⟩
def pShCols (K : Fr) : Pr := fun vs H Q => ∃ a S, vs = [.ref a] ∧ IsSheet K H a S ∧ ∀ c, H c = some (.tup (S.cols.map V.str)) → Q (.ref c) H
theorem k_Sheet_columns (G : GD K mg) : Keeps PP w K mg base 1 (pa K "Sheet" "columns") (pShCols K) := by
  obtain ⟨fd, F⟩ := fd_Sheet_columns G
  refine kp_fn0 (k := 0) F sc_Sheet_columns (fun _ _ _ _ _ _ us hl => match us, hl with | [_], _ => rfl) (by rintro _ _ _ ⟨a, S, rfl, _⟩; rfl) fun cdv A outer s H vs Q E hr hp => ?_
  obtain ⟨a, S, rfl, ⟨dx, c, t, k, p, h0, h1, _⟩, hq⟩ := hp
  exact ⟨_, pss_one (ps_ret (pe_fl (pv 0))), _, rfl, _, fld_of h0 (cf_Sheet G) (by decide +kernel) (by rfl), hq c h1⟩
def pShTop (K : Fr) : Pr := fun vs H Q => ∃ a S, vs = [.ref a] ∧ IsSheet K H a S ∧ ∀ (H' : Hp) (d : Addr), Same H H' → H d = none → H' d = some (.dK (dct S.cols fun x => .int (S.top x))) → Q (.ref d) H'
theorem k_Sheet_top (G : GD K mg) : Keeps PP w K mg base 1 (ma K (ga K "Sheet") "top") (pShTop K) := by
  obtain ⟨fd, F⟩ := fd_Sheet_top G
  refine kp_fn0 (k := 0) F sc_Sheet_top (fun _ _ _ _ _ _ us hl => match us, hl with | [_], _ => rfl) (by rintro _ _ _ ⟨a, S, rfl, _⟩; rfl) fun cdv A outer s H vs Q E hr hp => ?_
  obtain ⟨a, S, rfl, ⟨dx, c, t, k, p, h0, h1, h2, _⟩, hq⟩ := hp
  refine ⟨_, pss_one (ps_ret (pe_callTy call_dictD (by rfl) (gf_dict G) rfl (pa_cons (pe_fl (pv 0)) pa_nil))), ?_⟩
  exact ⟨_, rfl, _, fld_of h0 (cf_Sheet G) (by decide +kernel) (by rfl), t, _, rfl, .inl h2, fun d hd => hq _ d (Same.new hd) hd upd_same⟩
def pShK (K : Fr) : Pr := fun vs H Q => ∃ a S k, vs = [.ref a, .str k] ∧ IsSheet K H a S ∧ k ∈ S.kinds ∧ Q .non H
theorem k_Sheet_want_kind (G : GD K mg) : Keeps PP w K mg base 1 (ma K (ga K "Sheet") "want_kind") (pShK K) := by
  obtain ⟨fd, F⟩ := fd_Sheet_want_kind G
  refine kp_fn0 (k := 0) F sc_Sheet_want_kind (fun _ _ _ _ _ _ us hl => match us, hl with | [_, _], _ => rfl) (by rintro _ _ _ ⟨a, S, k, rfl, _⟩; rfl) fun cdv A outer s H vs Q E hr hp => ?_
  obtain ⟨a, S, k, rfl, ⟨dx, c, t, kd, p, h0, h1, h2, ⟨ys, ka, hy, h3, h4⟩, _⟩, hk, hq⟩ := hp
  refine ⟨_, pss_one (ps_if (PW.pt (pw_or (pt_not (pt_val (pe_callB call_isi (by rfl) (gf_isinstance G) rfl (pa_cons (pv 1) (pa_cons (pe_bltn (by rfl) (gf_str G) rfl (show RelV (.ty "str") _ from rfl)) pa_nil))))) (pw_or1 (pt_cmp (pc_dnotin (hu_of hr.r) (pv 1) (pe_fl (pv 0))))))) pss_never pss_nil), ?_⟩
  refine ⟨_, rfl, _, _, _, _, true, rfl, .ty _, .base (.str _), kit_ty (by decide +kernel), _, rfl, iteF ?_⟩
  exact ⟨_, rfl, _, rfl, _, fld_of h0 (cf_Sheet G) (by decide +kernel) (by rfl), kd, _, rfl, .inl ⟨_, .inr k, .inl h3, rfl, rfl⟩, _, rfl, ifF (by rw [dct_in (hy.mem_iff.mpr hk)]; rfl) hq⟩
def pShC (K : Fr) : Pr := fun vs H Q => ∃ a S c, vs = [.ref a, .str c] ∧ IsSheet K H a S ∧ c ∈ S.cols ∧ Q .non H
theorem k_Sheet_want_column (G : GD K mg) : Keeps PP w K mg base 1 (ma K (ga K "Sheet") "want_column") (pShC K) := by
  obtain ⟨fd, F⟩ := fd_Sheet_want_column G
  refine kp_fn0 (k := 0) F sc_Sheet_want_column (fun _ _ _ _ _ _ us hl => match us, hl with | [_, _], _ => rfl) (by rintro _ _ _ ⟨a, S, k, rfl, _⟩; rfl) fun cdv A outer s H vs Q E hr hp => ?_
  obtain ⟨a, S, x, rfl, ⟨dx, c, t, kd, p, h0, h1, _⟩, hx, hq⟩ := hp
  refine ⟨_, pss_one (ps_if (PW.pt (pw_or (pt_not (pt_val (pe_callB call_isi (by rfl) (gf_isinstance G) rfl (pa_cons (pv 1) (pa_cons (pe_bltn (by rfl) (gf_str G) rfl (show RelV (.ty "str") _ from rfl)) pa_nil))))) (pw_or1 (pt_cmpR op_notIn_seq (pv 1) (pe_fl (pv 0)) rfl)))) pss_never pss_nil), ?_⟩
  refine ⟨_, rfl, _, _, _, _, true, rfl, .ty _, .base (.str _), kit_ty (by decide +kernel), _, rfl, iteF ?_⟩
  refine ⟨_, rfl, _, rfl, _, fld_of h0 (cf_Sheet G) (by decide +kernel) (by rfl), c, _, rfl, .inr (.of h1), rfl, flat_strs, _, rfl, ifF ?_ hq⟩
  show (!inV (.str x) (S.cols.map V.str)) = false
  rw [inV_strs, decide_eq_true hx]
  rfl
def pShP (K : Fr) : Pr := fun vs H Q => ∃ a S i, vs = [.ref a, .int i] ∧ IsSheet K H a S ∧ 0 ≤ i ∧ i < S.plan.length ∧ Q .non H
theorem k_Sheet_want_place (G : GD K mg) : Keeps PP w K mg base 3 (ma K (ga K "Sheet") "want_place") (pShP K) := by
  obtain ⟨fd, F⟩ := fd_Sheet_want_place G
  refine kp_fn0 (k := 2) F sc_Sheet_want_place (fun _ _ _ _ _ _ us hl => match us, hl with | [_, _], _ => rfl) (by rintro _ _ _ ⟨a, S, k, rfl, _⟩; rfl) fun cdv A outer s H vs Q E hr hp => ?_
  obtain ⟨a, S, i, rfl, ⟨dx, c, t, kd, p, h0, h1, h2, h3, ⟨rs, h5, h6⟩⟩, hi0, hi1, hq⟩ := hp
  have D : DefR PP w K mg base 2 "is_place" pIsVal := ⟨_, gg_is_place G, gk_is_place G, k_is_place G⟩
  refine ⟨_, pss_one (ps_if (pt_not (pt_val (pe_d D hr (by rfl) (pa_cons (pv 1) (pa_cons (pe_callB call_len_seq (by rfl) (gf_len G) rfl (pa_cons (pe_fl (pv 0)) pa_nil)) pa_nil))))) pss_never pss_nil), ?_⟩
  refine ⟨_, rfl, _, rfl, _, fld_of h0 (cf_Sheet G) (by decide +kernel) (by rfl), p, _, rfl, .inl (.of h5), i, _, rfl, hi0, ?_, _, rfl, iteF hq⟩
  rw [List.length_map, paired_len h6]
  exact hi1
def pShF (K : Fr) : Pr := fun vs H Q => ∃ a S k c, vs = [.ref a, .str k, .str c] ∧ IsSheet K H a S ∧ k ∈ S.kinds ∧ c ∈ S.cols ∧ ∀ f l, IsFm K H (S.fm k c) f l → Q (.ref f) H
theorem k_Sheet_formula (G : GD K mg) : Keeps PP w K mg base 2 (ma K (ga K "Sheet") "formula") (pShF K) := by
  obtain ⟨fd, F⟩ := fd_Sheet_formula G
  refine kp_fn0 (k := 1) F sc_Sheet_formula (fun _ _ _ _ _ _ us hl => match us, hl with | [_, _, _], _ => rfl) (by rintro _ _ _ ⟨a, S, k, c, rfl, _⟩; rfl) fun cdv A outer s H vs Q E hr hp => ?_
  obtain ⟨a, S, k, x, rfl, hS, hk, hx, hq⟩ := hp
  have hS' := hS
  obtain ⟨dx, c, t, kd, p, h0, h1, h2, ⟨ys, ka, hy, h3, h4⟩, _⟩ := hS
  obtain ⟨fa, e1, e2⟩ := h4 k hk
  obtain ⟨l, e3⟩ := e2 x hx
  refine ⟨_, pss_cons (ps_expr (pe_mm hr (pv 0) (pa_cons (pv 1) pa_nil))) (pss_cons (ps_expr (pe_mm hr (pv 0) (pa_cons (pv 2) pa_nil))) (pss_one (ps_ret (pe_dget (hu_of hr.r) (pe_dget (hu_of hr.r) (pe_fl (pv 0)) (pv 1) (fun _ _ => rfl)) (pv 2) (fun _ _ => rfl))))), ?_⟩
  refine ⟨_, rfl, _, ⟨a, _, dx, _, rfl, h0, by rfl, ⟨_, (cf_Sheet G).cl, mt_Sheet_want_kind G, k_Sheet_want_kind G⟩⟩, _, rfl, a, S, k, rfl, hS', hk, ?_⟩
  refine ⟨_, rfl, _, ⟨a, _, dx, _, rfl, h0, by rfl, ⟨_, (cf_Sheet G).cl, mt_Sheet_want_column G, k_Sheet_want_column G⟩⟩, _, rfl, a, S, x, rfl, hS', hx, ?_⟩
  exact ⟨_, rfl, _, fld_of h0 (cf_Sheet G) (by decide +kernel) (by rfl), _, rfl, kd, _, rfl, .inl ⟨_, .inr k, .inl h3, rfl, (dct_in (hy.mem_iff.mpr hk)).symm⟩, _, rfl, ka k, _, rfl, .inl ⟨_, .inr x, .inl e1, rfl, (dct_in hx).symm⟩, hq _ l e3⟩
def pShB (K : Fr) : Pr := fun vs H Q => ∃ a S wd ws, vs = [.ref a, .ref wd] ∧ IsSheet K H a S ∧ S.Ok ∧ H wd = some (.lst (ws.map V.str)) ∧ Val S.plan 0 ws ∧ ws.length ≤ 1000 ∧ ∀ (H' : Hp) (i : Int), Same H H' → Q (.int i) H'
def pShB0 (K : Fr) : Pr := fun vs H Q => ∃ a S wd ws, vs = [.ref a, .ref wd, .int 0] ∧ IsSheet K H a S ∧ S.Ok ∧ H wd = some (.lst (ws.map V.str)) ∧ Val S.plan 0 ws ∧ ws.length ≤ 1000 ∧ ∀ (H' : Hp) (i : Int), Same H H' → Q (.int i) H'
theorem k_Sheet_place_behind (G : GD K mg) : Keeps PP w K mg base 4 (ma K (ga K "Sheet") "place_behind") (pShB K) := by
  obtain ⟨fd, F⟩ := fd_Sheet_place_behind G
  obtain ⟨ds, hd, hb⟩ := F.binds0 (ps := p_Sheet_place_behind) 2 (by show [(("place" : Str), V.int 0)] ≠ []; simp) rfl (fun D doc pm an cdv ct us ks l1 l2 => match us, l1, ks, l2 with | [_, _], _, [_], _ => ⟨_, _, _, _, _, _, rfl, rfl, rfl⟩)
  have nd := sc_Sheet_place_behind.nd
  have cf := cf_Sheet G
  refine (kp_fn (k := 3) (p := pShB0 K) F sc_Sheet_place_behind hb hd (by rintro _ _ _ ⟨a, S, wd, ws, rfl, _⟩; rfl) fun cdv A outer s H vs Q E hr hp => ?_).imp fun vs H Q ⟨a, S, wd, ws, e, h⟩ => ⟨a, S, wd, ws, by rw [e]; rfl, h⟩
  obtain ⟨a, S, wd, ws, rfl, hS, ok, hw, hv, hlen, hq⟩ := hp
  have hS' := hS
  obtain ⟨dx, c, t, kd, p, h0, h1, h2, h3, ⟨rs, h5, h6⟩⟩ := hS
  have D1 : DefR PP w K mg base 3 "is_list" pIsList := ⟨_, gg_is_list G, gk_is_list G, (k_is_list G).mono (by omega)⟩
  refine ⟨_, PSs.nox (pss_cons (ps_expr (pe_mm hr (pv 0) (pa_cons (pv 2) pa_nil)))
    (pss_cons (ps_if (pt_not (pt_val (pe_d D1 hr (by rfl) (pa_cons (pv 1) pa_nil)))) pss_never pss_nil)
    (pss_cons (ps_set (i := 3) nd rfl (.inl rfl) (pv 2))
    (pss_cons (ps_for PassesOwn.never rfl (pi_enum (by rfl) (gf_enumerate G) (pa_cons (pv 1) pa_nil)) (pg_tup rfl (pgs_cons (pg_name (i := 4) nd rfl (.inl rfl)) (pgs_cons (pg_name (i := 5) nd rfl (.inl rfl)) pgs_nil)))
      (pss_cons (ps_if (PW.pt (pw_or (pt_not (pt_val (pe_callB call_isi (by rfl) (gf_isinstance G) rfl (pa_cons (pv 5) (pa_cons (pe_bltn (by rfl) (gf_str G) rfl (show RelV (.ty "str") _ from rfl)) pa_nil))))) (pw_or1 (pt_cmp (pc_dnotin (hu_of hr.r) (pv 5) (pe_ix ix_list (pe_fl (pv 0)) (pv 3) (fun _ _ => rfl))))))) pss_never pss_nil)
      (pss_one (ps_set (i := 3) nd rfl (.inl rfl) (pe_dget (hu_of hr.r) (pe_ix ix_list (pe_fl (pv 0)) (pv 3) (fun _ _ => rfl)) (pv 5) (fun _ _ => rfl))))))
    (pss_one (ps_ret (pv 3))))))), ?_⟩
  refine ⟨_, rfl, _, ⟨a, _, dx, _, rfl, h0, by rfl, ⟨_, cf.cl, mt_Sheet_want_place G, k_Sheet_want_place G⟩⟩, _, rfl, a, S, 0, rfl, hS', by omega, by have := ok.p1; omega, ?_⟩
  refine ⟨_, rfl, wd, rfl, .l _ hw, fun H1 s1 => ⟨_, rfl, iteF ⟨_, rfl, ?_⟩⟩⟩
  refine ⟨_, rfl, wd, _, rfl, .of (s1 _ _ hw), for_it (walk_enum (a := wd) (xs := ws.map V.str)) (fun j σ H2 => Same H H2 ∧ ∃ (h : Int) (x y : Option V), σ = [some (.ref a), some (.ref wd), some (.int 0), some (.int h), x, y] ∧ 0 ≤ h ∧ h < S.plan.length ∧ Val S.plan h (ws.drop j)) ⟨s1, 0, none, none, rfl, by omega, by have := ok.p1; omega, hv⟩ (fun i σ H2 _ h => .of (h.1 _ _ hw)) ?_ ?_⟩
  · rintro j x σ H2 H2' hj ⟨s2, h, x1, x2, rfl, hh0, hh1, hval⟩ ⟨T, v1, v2, rfl, hT, rfl, e1, e2⟩
    cases e1
    obtain ⟨z, hz, rfl⟩ := some_map e2
    have s3 := same_trans s2 (Same.new (o := .tup [.int (j : Nat), .str z]) hT)
    have hdr : ws.drop j = z :: ws.drop (j + 1) := by
      obtain ⟨hj', e⟩ := List.getElem?_eq_some_iff.mp hz
      rw [← e, List.drop_eq_getElem_cons hj']
    rw [hdr] at hval
    obtain ⟨r, hr1, hr2, hr3⟩ := hval
    obtain ⟨ra, hra, ys, hys, hrd⟩ := paired_get' h6 hr1
    have hat : atI (rs.map V.ref) h = some (.ref ra) := at_of (j := h.toNat) (by omega) (by rw [List.getElem?_map, hra]; rfl)
    have hfp := (fld_of h0 cf (f := "own_plan") (by decide +kernel) (v := .ref p) (by rfl)).up s3
    have hrow := ok.pr r (List.mem_of_getElem? hr1)
    refine ⟨T, _, rfl, .of upd_same, rfl, _, _, rfl, _, _, rfl, rfl, ?_⟩
    refine ⟨_, rfl, _, _, _, _, true, rfl, .ty _, .base (.str _), kit_ty (by decide +kernel), _, rfl, iteF ?_⟩
    refine ⟨_, rfl, _, rfl, _, hfp, _, rfl, p, _, h, _, rfl, rfl, .of (s3 _ _ h5), hat, ra, _, rfl, .inl ⟨_, .inr z, .inl (s3 _ _ hrd), rfl, rfl⟩, _, rfl, ifF (by rw [dct_in (hys.mem_iff.mpr hr2)]; rfl) ?_⟩
    exact ⟨_, rfl, _, hfp, _, rfl, p, _, h, _, rfl, rfl, .of (s3 _ _ h5), hat, _, rfl, ra, _, rfl, .inl ⟨_, .inr z, .inl (s3 _ _ hrd), rfl, (dct_in (hys.mem_iff.mpr hr2)).symm⟩, s3, r.2 z, _, _, rfl, (hrow.2.2.2.2 z hr2).1, (hrow.2.2.2.2 z hr2).2, hr3⟩
  · rintro σ H2 ⟨s2, h, x1, x2, rfl, _⟩
    exact ⟨_, rfl, hq _ h s2⟩
end
end Bn
/-! B17: d.values() of a dict with tuple keys, and its list. -/
namespace Bn
open PySem PySem.Spec PyProof.Rows L2
/-- a view of the values of the dict at a -/
def valsO (p a : Addr) : HO := .ext fun h => h.get? p = some { cls := .type "dict_values", data := .fields #[.ref a] }
theorem valsO_ok {P : Program} {w : World} {H : Hp} {h : Heap} {p a : Addr} (e : h.get? p = some { cls := .type "dict_values", data := .fields #[.ref a] }) : ObjOk P w H h p (valsO p a) :=
  ⟨e, ⟨_, e⟩, fun h1 h2 e1 k => k _ e1⟩
theorem kt_vals {H : Hp} {kvs : List (List L2.Key × V)} {xs : List (List L2.Key × Addr × Value)} (r : KT H kvs xs) : Vals (kvs.map (·.2)) (xs.map (·.2.2)) := by
  induction r with
  | nil => exact .nil
  | cons h _ ih => exact .cons h.2.2 ih
section
variable {X : Cx}
def rValsT : V → List V → Hp → VK → Prop := fun x xs H Q => ∃ (a : Addr) (kvs : List (List L2.Key × V)), x = .ref a ∧ xs = [] ∧ H a = some (.dT kvs) ∧ ∀ p, H p = none → Q (.ref p) (upd H p (valsO p a))
theorem mt_valsT : MtR X "dict.values" rValsT := by
  intro pins s σ H x xs v us Q I rx rxs h
  obtain ⟨a, kvs, rfl, rfl, ha, q⟩ := h
  cases rx
  cases rxs
  obtain ⟨z, hd, xs', rel, o, es, ep, ho, hx, hdat, _⟩ := dt_of I.hok ha
  have raw : s.heap.DictRaw a es ep := ⟨o, ho, hx, hdat⟩
  refine call_meetsIn PySem.F.slot_dict_values raw.typeIs PySem.F.entry_dict_values (PySem.F.args_dict_values_1 _) (meets_dict_values_raw a hd) ⟨⟨es, ep, raw⟩, ?_⟩
  have hf : H s.heap.objs.size = none := I.hok.fresh (Nat.le_refl _)
  exact ⟨.ref s.heap.objs.size, upd H s.heap.objs.size (valsO s.heap.objs.size a), I.laid (t' := s.toks) (fun b u e => Heap.get?_push_of_some _ e) (Nat.le_refl _) (valsO_ok (Heap.get?_push_size _ rfl)), rfl, q _ hf⟩
def rListVals : List V → Hp → VK → Prop := fun vs H Q => ∃ (p a : Addr) (kvs : List (List L2.Key × V)), vs = [.ref p] ∧ H p = some (valsO p a) ∧ H a = some (.dT kvs) ∧ ∀ l, H l = none → Q (.ref l) (upd H l (.lst (kvs.map (·.2))))
theorem call_listValsT (hc : X.calm = true) : CallR X (.type "list") rListVals := by
  intro pins s σ H vs us Q I r h
  obtain ⟨p, a, kvs, rfl, hp, ha, q⟩ := h
  rw [Vals.ref1 r]
  obtain ⟨z, hd, xs', rel, o, es, ep, ho, hx, hdat, hes, _⟩ := dt_of I.hok ha
  have hv : s.heap.get? p = some { cls := .type "dict_values", data := .fields #[.ref a] } := (I.hok _ _ hp).1
  have raw : s.heap.DictRaw a es ep := ⟨o, ho, hx, hdat⟩
  have len : es.size = kvs.length := by
    have e := congrArg List.length hes
    rw [List.length_map] at e
    rw [Paired.length rel, ← e]
    simp
  refine PySem.W.kdl_call (KdlSrc.rawValues (prog := X.prog) (w := X.w) (r := p) (d := a) (es := es) (ep := ep)) (I.ok.hd hc) ⟨⟨_, hv, rfl, rfl⟩, raw⟩ (by rw [len]; exact z) fun h' tk acc c hk hD hacc => ?_
  have hf : H s.heap.objs.size = none := I.hok.fresh (Nat.le_refl _)
  refine ⟨.ref s.heap.objs.size, _, I.laid (t' := tk) hk (Nat.le_refl _) (o := .lst (kvs.map (·.2))) ⟨by rw [List.length_map]; exact z, acc.toList, c, ?_, by simpa using hD⟩, rfl, q _ hf⟩
  have e1 : acc.toList = xs'.map (·.2.2) := by
    apply List.ext_getElem?
    intro j
    have e2 : es.size = xs'.length := by rw [len, Paired.length rel]
    by_cases hj : j < acc.size
    · obtain ⟨hi, ev⟩ := hacc.2 j acc[j] (by simp [hj])
      have e3 : es[j]? = (xs'.map (entryOfKey (tupleKind (mixKind X.prog X.w))))[j]? := by rw [← hes, Array.getElem?_toList]
      rw [Array.getElem?_eq_getElem hi, List.getElem?_map] at e3
      obtain ⟨x, hx', ex⟩ := Option.map_eq_some_iff.mp e3.symm
      rw [Array.getElem?_toList, Array.getElem?_eq_getElem hj, ev, ← ex, List.getElem?_map, hx']
      rfl
    · rw [List.getElem?_eq_none (by simp; omega), List.getElem?_eq_none (by rw [List.length_map, ← e2, ← hacc.1]; omega)]
  rw [e1]
  exact kt_vals rel
end
end Bn
/-! B19: pop and setdefault of a dict with tuple keys, both ways as one. -/
namespace Bn
open PySem PySem.Spec PyProof.Rows L2
section
variable {X : Cx}
def rPopA : V → List V → Hp → VK → Prop := fun x xs H Q => ∃ (a : Addr) (kvs : List (List L2.Key × V)) (k : List L2.Key) (b : Addr) (d : V), x = .ref a ∧ xs = [.ref b, d] ∧ H a = some (.dT kvs) ∧ H b = some (.tup (k.map kV)) ∧
  ∀ v H', ((valV kvs k = some v ∧ H' = upd H a (.dT (dropK kvs k))) ∨ (valV kvs k = none ∧ v = d ∧ H' = H)) → Q v H'
theorem mt_popA (hu : X.A.units + 1 < cLine) : MtR X "dict.pop" rPopA := by
  intro pins s σ H x xs v us Q I rx rxs h
  obtain ⟨a, kvs, k, b, d, e1, e2, ha, hb, q⟩ := h
  exact DX.mt_popT hu pins s σ H x xs v us Q I rx rxs ⟨a, kvs, k, b, d, e1, e2, ha, hb, fun v h => q v _ (.inl ⟨h, rfl⟩), fun h => q d _ (.inr ⟨h, rfl, rfl⟩)⟩
def rSetdefA : V → List V → Hp → VK → Prop := fun x xs H Q => ∃ (a : Addr) (kvs : List (List L2.Key × V)) (k : List L2.Key) (b : Addr) (d : V), x = .ref a ∧ xs = [.ref b, d] ∧ H a = some (.dT kvs) ∧ H b = some (.tup (k.map kV)) ∧ kvs.length < sizeLine ∧
  ∀ v H', ((valV kvs k = some v ∧ H' = H) ∨ (valV kvs k = none ∧ v = d ∧ H' = upd H a (.dT (putK kvs k d)))) → Q v H'
theorem mt_setdefA (hu : X.A.units + 1 < cLine) : MtR X "dict.setdefault" rSetdefA := by
  intro pins s σ H x xs v us Q I rx rxs h
  obtain ⟨a, kvs, k, b, d, e1, e2, ha, hb, hl, q⟩ := h
  exact mt_setdefT hu pins s σ H x xs v us Q I rx rxs ⟨a, kvs, k, b, d, e1, e2, ha, hb, hl, fun v h => q v _ (.inl ⟨h, rfl⟩), fun h => q d _ (.inr ⟨h, rfl, rfl⟩)⟩
end
end Bn
/-! W5: work_out, need, met. -/
namespace Bn
open PySem PySem.Spec PyProof.Rows L2 StX
open He (ga ma)
structure FmIn (K : Fr) (H : Hp) (vs : List V) (f : Fm) (a : Addr) (l : List Addr) (m : Int) (E : Ev) (ab ow be : Addr) : Prop where
  vs : vs = [.ref a, .int m, .ref ab, .ref ow, .ref be]
  fm : IsFm K H f a l
  d : f.depth ≤ 7
  z : f.size ≤ 40
  m : 0 < m
  u : IsRow H ab (E .up)
  o : IsRow H ow (E .here)
  b : IsRow H be (E .down)
theorem paired_snoc {α β : Type} {F : α → β → Prop} : ∀ {a : List α} {c : List β} {y : β}, Paired F a (c ++ [y]) → ∃ b x, a = b ++ [x] ∧ F x y
  | [], [], y, h => by cases h
  | [], _ :: _, y, h => by cases h
  | x :: a, [], y, h => by
    cases h with
    | cons r t => cases t; exact ⟨[], x, rfl, r⟩
  | x :: a, z :: c, y, h => by
    cases h with
    | cons r t =>
      obtain ⟨b, u, e, f⟩ := paired_snoc t
      exact ⟨x :: b, u, by rw [e]; rfl, f⟩
section
variable {w : World} {K : Fr} {mg : Str → Option Value} {base : Heap}
def pWo (K : Fr) : Pr := fun vs H Q => ∃ f a l m E ab ow be, FmIn K H vs f a l m E ab ow be ∧ ∀ H', Same H H' → Q (oe (f.ev m E)) H'
def pMet (K : Fr) : Pr := fun vs H Q => ∃ f a l m E ab ow be, FmIn K H vs f a l m E ab ow be ∧ ∀ (H' : Hp) (q : Addr) (ms : List V), Same H H' → H' q = some (.lst ms) → Mets H' ms (f.mt m E) → Q (.ref q) H'
def pNeed (K : Fr) : Pr := fun vs H Q => ∃ f a l m E ab ow be, FmIn K H vs f a l m E ab ow be ∧ (∀ (H' : Hp) (v : Int), Same H H' → f.ev m E = .ok v → Q .non H') ∧
  ∀ (H' : Hp) (g : Nd) (t : Addr), Same H H' → f.ev m E = .error g → H' t = some (.tup [.str (wS g.1), .str g.2]) → Q (.ref t) H'
abbrev rowsO (ow ab be : Addr) : List (Key × V) := [(.inr "here", .ref ow), (.inr "up", .ref ab), (.inr "down", .ref be)]
theorem rows_merge (ow ab be : Addr) : mergeK [] (rowsO ow ab be) = rowsO ow ab be := by rfl
theorem rows_of {H : Hp} {p : Addr} {ow ab be : Addr} {E : Ev} (h : H p = some (.dK (rowsO ow ab be))) (o : IsRow H ow (E .here)) (u : IsRow H ab (E .up)) (b : IsRow H be (E .down)) : IsRows H p E := ⟨ow, ab, be, h, o, u, b⟩
theorem k_Formula_work_out (G : GD K mg) : Keeps PP w K mg base 11 (ma K (ga K "Formula") "work_out") (pWo K) := by
  obtain ⟨fd, F⟩ := fd_Formula_work_out G
  refine kp_fn0 (k := 10) F sc_Formula_work_out (fun _ _ _ _ _ _ us hl => match us, hl with | [_, _, _, _, _], _ => rfl) (by rintro _ _ _ ⟨f, a, l, m, E, ab, ow, be, h, _⟩; rw [h.vs]; rfl) fun cdv A outer s H vs Q E hr hp => ?_
  obtain ⟨f, a, l, m, E', ab, ow, be, ⟨rfl, hf, hd, hz, hm, hu, ho, hb⟩, hq⟩ := hp
  refine ⟨_, pss_one (ps_ret (pe_ix ix_tup (pe_mm hr (pv 0) (pa_cons (pv 1) (pa_cons (pe_disp (pps_cons pe_str (pv 3) (pps_cons pe_str (pv 2) (pps_cons pe_str (pv 4) pps_nil))) rfl rfl (by simp) (by decide)) (pa_cons pe_int pa_nil)))) pe_int (fun _ _ => rfl))), ?_⟩
  refine ⟨_, rfl, _, wk_at (wk_all G 7) (Nat.le_refl _) hf hd, _, rfl, fun p hp => ⟨_, rfl, _, rfl, _, rfl, upd_same, rowsO ow ab be, rfl, (by show 3 ≤ 15; decide), ?_⟩⟩
  rw [rows_merge, upd_upd]
  have s1 := Same.new (o := .dK (rowsO ow ab be)) hp
  refine ⟨f, a, l, m, p, 0, E', ⟨hd, rfl⟩, hz, rfl, hf.up s1, hm, rows_of upd_same (ho.up s1) (hu.up s1) (hb.up s1), fun H' t q ms s2 et eq hms => ?_⟩
  exact ⟨t, _, 0, _, rfl, rfl, .of et, rfl, hq H' (same_trans s1 s2)⟩
theorem k_Formula_met (G : GD K mg) : Keeps PP w K mg base 11 (ma K (ga K "Formula") "met") (pMet K) := by
  obtain ⟨fd, F⟩ := fd_Formula_met G
  refine kp_fn0 (k := 10) F sc_Formula_met (fun _ _ _ _ _ _ us hl => match us, hl with | [_, _, _, _, _], _ => rfl) (by rintro _ _ _ ⟨f, a, l, m, E, ab, ow, be, h, _⟩; rw [h.vs]; rfl) fun cdv A outer s H vs Q E hr hp => ?_
  obtain ⟨f, a, l, m, E', ab, ow, be, ⟨rfl, hf, hd, hz, hm, hu, ho, hb⟩, hq⟩ := hp
  refine ⟨_, pss_one (ps_ret (pe_ix ix_tup (pe_mm hr (pv 0) (pa_cons (pv 1) (pa_cons (pe_disp (pps_cons pe_str (pv 3) (pps_cons pe_str (pv 2) (pps_cons pe_str (pv 4) pps_nil))) rfl rfl (by simp) (by decide)) (pa_cons pe_int pa_nil)))) pe_int (fun _ _ => rfl))), ?_⟩
  refine ⟨_, rfl, _, wk_at (wk_all G 7) (Nat.le_refl _) hf hd, _, rfl, fun p hp => ⟨_, rfl, _, rfl, _, rfl, upd_same, rowsO ow ab be, rfl, (by show 3 ≤ 15; decide), ?_⟩⟩
  rw [rows_merge, upd_upd]
  have s1 := Same.new (o := .dK (rowsO ow ab be)) hp
  refine ⟨f, a, l, m, p, 0, E', ⟨hd, rfl⟩, hz, rfl, hf.up s1, hm, rows_of upd_same (ho.up s1) (hu.up s1) (hb.up s1), fun H' t q ms s2 et eq hms => ?_⟩
  exact ⟨t, _, 1, _, rfl, rfl, .of et, rfl, hq H' q ms (same_trans s1 s2) eq hms⟩
theorem k_Formula_need (G : GD K mg) : Keeps PP w K mg base 11 (ma K (ga K "Formula") "need") (pNeed K) := by
  obtain ⟨fd, F⟩ := fd_Formula_need G
  refine kp_fn0 (k := 10) F sc_Formula_need (fun _ _ _ _ _ _ us hl => match us, hl with | [_, _, _, _, _], _ => rfl) (by rintro _ _ _ ⟨f, a, l, m, E, ab, ow, be, h, _⟩; rw [h.vs]; rfl) fun cdv A outer s H vs Q E hr hp => ?_
  obtain ⟨f, a, l, m, E', ab, ow, be, ⟨rfl, hf, hd, hz, hm, hu, ho, hb⟩, hq1, hq2⟩ := hp
  have nd := sc_Formula_need.nd
  refine ⟨_, pss_cons (ps_asg (pe_mm hr (pv 0) (pa_cons (pv 1) (pa_cons (pe_disp (pps_cons pe_str (pv 3) (pps_cons pe_str (pv 2) (pps_cons pe_str (pv 4) pps_nil))) rfl rfl (by simp) (by decide)) (pa_cons pe_int pa_nil))))
      (pg_tup rfl (pgs_cons (pg_name (i := 5) nd rfl (.inl rfl)) (pgs_cons (pg_name (i := 6) nd rfl (.inl rfl)) pgs_nil))))
    (pss_one (ps_ret (pe_ifExp (pt_cmp (pc_notN (pv 5))) pe_non (pe_slice sl_tupA (pe_ix ix_list (pv 6) (pe_un un_neg pe_int) (fun _ _ => rfl)) (po_some pe_int) po_none)))), ?_⟩
  refine ⟨_, rfl, _, wk_at (wk_all G 7) (Nat.le_refl _) hf hd, _, rfl, fun p hp => ⟨_, rfl, _, rfl, _, rfl, upd_same, rowsO ow ab be, rfl, (by show 3 ≤ 15; decide), ?_⟩⟩
  rw [rows_merge, upd_upd]
  have s1 := Same.new (o := .dK (rowsO ow ab be)) hp
  refine ⟨f, a, l, m, p, 0, E', ⟨hd, rfl⟩, hz, rfl, hf.up s1, hm, rows_of upd_same (ho.up s1) (hu.up s1) (hb.up s1), fun H' t q ms s2 et eq hms => ?_⟩
  have s12 := same_trans s1 s2
  refine ⟨t, _, rfl, .of et, rfl, _, _, rfl, _, _, rfl, rfl, ?_⟩
  refine ⟨_, rfl, _, rfl, ?_⟩
  cases he : f.ev m E' with
  | ok v => exact ifT rfl (hq1 H' v s12 he)
  | error g =>
    obtain ⟨_, ll, hl⟩ := Fm.ev_err he
    rw [hl] at hms
    obtain ⟨b, x, rfl, ta, ti, rfl, hta⟩ := paired_snoc hms
    refine ifF rfl ⟨_, rfl, 1, rfl, q, _, _, _, rfl, rfl, .of eq, atI_last b (.ref ta), 1, rfl, ta, _, rfl, .of hta, fun h => absurd (show (1 : Nat) = 0 from h.1) (by decide), fun _ c hc => ?_⟩
    exact hq2 _ g c (same_trans s12 (Same.new hc)) he upd_same
/-- of all formulas -/
theorem fm3 (G : GD K mg) {k : Nat} (hk : 11 ≤ k) (f : Fm) : MetR PP w K mg base k (ga K (fC f)) "work_out" (pWo K) ∧ MetR PP w K mg base k (ga K (fC f)) "need" (pNeed K) ∧ MetR PP w K mg base k (ga K (fC f)) "met" (pMet K) := by
  have F1 := (k_Formula_work_out (w := w) (base := base) G).mono hk
  have F2 := (k_Formula_need (w := w) (base := base) G).mono hk
  have F3 := (k_Formula_met (w := w) (base := base) G).mono hk
  match f with
  | .num v => exact ⟨⟨_, fm_cls G (.num v), mt_Number_work_out G, F1⟩, ⟨_, fm_cls G (.num v), mt_Number_need G, F2⟩, ⟨_, fm_cls G (.num v), mt_Number_met G, F3⟩⟩
  | .ref .here c => exact ⟨⟨_, fm_cls G (.ref .here c), mt_Here_work_out G, F1⟩, ⟨_, fm_cls G (.ref .here c), mt_Here_need G, F2⟩, ⟨_, fm_cls G (.ref .here c), mt_Here_met G, F3⟩⟩
  | .ref .up c => exact ⟨⟨_, fm_cls G (.ref .up c), mt_Up_work_out G, F1⟩, ⟨_, fm_cls G (.ref .up c), mt_Up_need G, F2⟩, ⟨_, fm_cls G (.ref .up c), mt_Up_met G, F3⟩⟩
  | .ref .down c => exact ⟨⟨_, fm_cls G (.ref .down c), mt_Down_work_out G, F1⟩, ⟨_, fm_cls G (.ref .down c), mt_Down_need G, F2⟩, ⟨_, fm_cls G (.ref .down c), mt_Down_met G, F3⟩⟩
  | .pair .plus a b => exact ⟨⟨_, fm_cls G (.pair .plus a b), mt_Plus_work_out G, F1⟩, ⟨_, fm_cls G (.pair .plus a b), mt_Plus_need G, F2⟩, ⟨_, fm_cls G (.pair .plus a b), mt_Plus_met G, F3⟩⟩
  | .pair .least a b => exact ⟨⟨_, fm_cls G (.pair .least a b), mt_Least_work_out G, F1⟩, ⟨_, fm_cls G (.pair .least a b), mt_Least_need G, F2⟩, ⟨_, fm_cls G (.pair .least a b), mt_Least_met G, F3⟩⟩
  | .pair .most a b => exact ⟨⟨_, fm_cls G (.pair .most a b), mt_Most_work_out G, F1⟩, ⟨_, fm_cls G (.pair .most a b), mt_Most_need G, F2⟩, ⟨_, fm_cls G (.pair .most a b), mt_Most_met G, F3⟩⟩
  | .pair .same a b => exact ⟨⟨_, fm_cls G (.pair .same a b), mt_Same_work_out G, F1⟩, ⟨_, fm_cls G (.pair .same a b), mt_Same_need G, F2⟩, ⟨_, fm_cls G (.pair .same a b), mt_Same_met G, F3⟩⟩
  | .cho t ch a b => exact ⟨⟨_, fm_cls G (.cho t ch a b), mt_Choice_work_out G, F1⟩, ⟨_, fm_cls G (.cho t ch a b), mt_Choice_need G, F2⟩, ⟨_, fm_cls G (.cho t ch a b), mt_Choice_met G, F3⟩⟩
theorem fm_met {W : Addr → Str → Pr → Prop} {H : Hp} {f : Fm} {a : Addr} {l : List Addr} {m : Str} {p : Pr} (h : IsFm K H f a l) (hm : W (ga K (fC f)) m p) (n1 : (m == ("own_parts" : Str)) = false) (n2 : (m == ("own_inner" : Str)) = false) (n3 : (m == ("own_depth" : Str)) = false) (n4 : (m == ("value" : Str)) = false) (n5 : (m == ("column" : Str)) = false)
    (n6 : (m == ("own_chosen" : Str)) = false) : MetAt W H (.ref a) m p := by
  obtain ⟨dx, p', i, more, e, _, hm'⟩ := h.obj
  exact ⟨a, _, dx, _, rfl, e, hm'.no n1 n2 n3 n4 n5 n6, hm⟩
theorem at_wo (G : GD K mg) {k : Nat} (hk : 11 ≤ k) {H : Hp} {f : Fm} {a : Addr} {l : List Addr} (h : IsFm K H f a l) : MetAt (MetR PP w K mg base k) H (.ref a) "work_out" (pWo K) := fm_met h (fm3 G hk f).1 (by decide +kernel) (by decide +kernel) (by decide +kernel) (by decide +kernel) (by decide +kernel) (by decide +kernel)
theorem at_need (G : GD K mg) {k : Nat} (hk : 11 ≤ k) {H : Hp} {f : Fm} {a : Addr} {l : List Addr} (h : IsFm K H f a l) : MetAt (MetR PP w K mg base k) H (.ref a) "need" (pNeed K) := fm_met h (fm3 G hk f).2.1 (by decide +kernel) (by decide +kernel) (by decide +kernel) (by decide +kernel) (by decide +kernel) (by decide +kernel)
theorem at_met (G : GD K mg) {k : Nat} (hk : 11 ≤ k) {H : Hp} {f : Fm} {a : Addr} {l : List Addr} (h : IsFm K H f a l) : MetAt (MetR PP w K mg base k) H (.ref a) "met" (pMet K) := fm_met h (fm3 G hk f).2.2 (by decide +kernel) (by decide +kernel) (by decide +kernel) (by decide +kernel) (by decide +kernel) (by decide +kernel)
end
end Bn
/-! W17: the solver's small methods. -/
namespace Bn
open PySem PySem.Spec PyProof.Rows L2 StX
open He (ga ma)
section
variable {w : World} {K : Fr} {mg : Str → Option Value} {base : Heap}
def pLed : Pr := fun vs H Q => ∃ (r : Int) (wh : Wh), vs = [.int r, .str (wS wh)] ∧ ∀ H', Same H H' → Q (.int (r + dl wh)) H'
theorem k_row_led_to (G : GD K mg) : Keeps PP w K mg base 1 (ga K "row_led_to") pLed := by
  obtain ⟨fd, F⟩ := fd_row_led_to G
  refine kp_fn0 (k := 0) F sc_row_led_to (fun _ _ _ _ _ _ us hl => match us, hl with | [_, _], _ => rfl) (by rintro _ _ _ ⟨r, wh, rfl, _⟩; rfl) fun cdv A outer s H vs Q E hr hp => ?_
  obtain ⟨r, wh, rfl, hq⟩ := hp
  refine ⟨_, pss_one (ps_ret (pe_dget (hu_of hr.r) (pe_disp (pps_cons pe_str (pv 0) (pps_cons pe_str (pe_op op_sub (pv 0) pe_int) (pps_cons pe_str (pe_op op_add (pv 0) pe_int) pps_nil))) rfl rfl (by simp) (by decide)) (pv 1) (fun _ _ => rfl))), ?_⟩
  refine fun p hp => ⟨_, rfl, _, rfl, _, _, rfl, rfl, _, rfl, _, _, rfl, rfl, upd_same, [(.inr "here", .int r), (.inr "up", .int (r - 1)), (.inr "down", .int (r + 1))], rfl, (by show 3 ≤ 15; decide), ?_⟩
  rw [upd_upd]
  have hm : mergeK [] [((Sum.inr "here" : Key), V.int r), (.inr "up", .int (r - 1)), (.inr "down", .int (r + 1))] = [((Sum.inr "here" : Key), V.int r), (.inr "up", .int (r - 1)), (.inr "down", .int (r + 1))] := by rfl
  rw [hm]
  have s1 := Same.new (o := .dK [((Sum.inr "here" : Key), V.int r), (.inr "up", .int (r - 1)), (.inr "down", .int (r + 1))]) hp
  have z := hq _ s1
  match wh, z with
  | .here, z => exact ⟨_, rfl, p, _, rfl, .inl ⟨_, .inr "here", .inl upd_same, rfl, (by rfl)⟩, by have e : r + dl Wh.here = r := Int.add_zero r; rw [e] at z; exact z⟩
  | .up, z => exact ⟨_, rfl, p, _, rfl, .inl ⟨_, .inr "up", .inl upd_same, rfl, (by rfl)⟩, z⟩
  | .down, z => exact ⟨_, rfl, p, _, rfl, .inl ⟨_, .inr "down", .inl upd_same, rfl, (by rfl)⟩, z⟩
/-- the solver's attributes -/
theorem sol_fld (G : GD K mg) {H : Hp} {S : Sm} {ws : List Str} {x sh wt rd nd sq : Addr} {ra : Int → Addr} (h : SolF K H S ws x sh wt rd nd sq ra) : FldAt K H (.ref x) "own_sheet" (.ref sh) ∧ FldAt K H (.ref x) "own_word" (.ref wt) ∧ FldAt K H (.ref x) "own_rows" (.ref rd) ∧ FldAt K H (.ref x) "own_needs" (.ref nd) ∧ FldAt K H (.ref x) "own_sequence" (.ref sq) := by
  obtain ⟨dx, e⟩ := h.o
  have cf := cf_Solver G
  exact ⟨fld_of e cf (by decide +kernel) (by rfl), fld_of e cf (by decide +kernel) (by rfl), fld_of e cf (by decide +kernel) (by rfl), fld_of e cf (by decide +kernel) (by rfl), fld_of e cf (by decide +kernel) (by rfl)⟩
theorem sol_met {W : Addr → Str → Pr → Prop} {H : Hp} {S : Sm} {ws : List Str} {x sh wt rd nd sq : Addr} {ra : Int → Addr} {m : Str} {p : Pr} (h : SolF K H S ws x sh wt rd nd sq ra) (n : (solFs sh wt rd nd sq).lookup m = none) (hw : W (ga K "Solver") m p) : MetAt W H (.ref x) m p := by
  obtain ⟨dx, e⟩ := h.o
  exact ⟨x, _, dx, _, rfl, e, n, hw⟩
theorem sh_met {W : Addr → Str → Pr → Prop} {H : Hp} {S : Sm} {a : Addr} {m : Str} {p : Pr} (h : IsSheet K H a S) (n : (m == ("own_modulus" : Str)) = false ∧ (m == ("own_columns" : Str)) = false ∧ (m == ("own_top" : Str)) = false ∧ (m == ("own_formulas" : Str)) = false ∧ (m == ("own_plan" : Str)) = false) (hw : W (ga K "Sheet") m p) : MetAt W H (.ref a) m p := by
  obtain ⟨dx, c, t, k, pl, e, _⟩ := h
  refine ⟨a, _, dx, _, rfl, e, ?_, hw⟩
  rw [List.lookup_cons, n.1, List.lookup_cons, n.2.1, List.lookup_cons, n.2.2.1, List.lookup_cons, n.2.2.2.1, List.lookup_cons, n.2.2.2.2]
  rfl
theorem sh_prp {W : Addr → Str → Pr → Prop} {H : Hp} {S : Sm} {a : Addr} {m : Str} {p : Pr} (h : IsSheet K H a S) (hw : W (ga K "Sheet") m p) : PrpAt W H (.ref a) m p := by
  obtain ⟨dx, c, t, k, pl, e, _⟩ := h
  exact ⟨a, _, dx, _, rfl, e, hw⟩
theorem prp_cols (G : GD K mg) {k : Nat} (hk : 1 ≤ k) : PrpR PP w K mg base k (ga K "Sheet") "columns" (pShCols K) := ⟨_, _, (cf_Sheet G).cl, pr_Sheet_columns G, (k_Sheet_columns G).mono hk⟩
theorem prp_mod (G : GD K mg) {k : Nat} (hk : 1 ≤ k) : PrpR PP w K mg base k (ga K "Sheet") "modulus" (pShMod K) := ⟨_, _, (cf_Sheet G).cl, pr_Sheet_modulus G, (k_Sheet_modulus G).mono hk⟩
def pFAt (K : Fr) : Pr := fun vs H Q => ∃ (S : Sm) (ws : List Str) (x sh wt rd nd sq : Addr) (ra : Int → Addr) (t : Ct), vs = [.ref x, .ref t.1] ∧ SolF K H S ws x sh wt rd nd sq ra ∧ (∀ k ∈ ws, k ∈ S.kinds) ∧ CellAt H t ∧ (prb S ws).In t.2.1 t.2.2 ∧ ∀ f l, IsFm K H ((prb S ws).F t.2.1 t.2.2) f l → Q (.ref f) H
theorem k_formula_at (G : GD K mg) : Keeps PP w K mg base 3 (ma K (ga K "Solver") "formula_at") (pFAt K) := by
  obtain ⟨fd, F⟩ := fd_Solver_formula_at G
  refine kp_fn0 (k := 2) F sc_Solver_formula_at (fun _ _ _ _ _ _ us hl => match us, hl with | [_, _], _ => rfl) (by rintro _ _ _ ⟨S, ws, x, sh, wt, rd, nd, sq, ra, t, rfl, _⟩; rfl) fun cdv A outer s H vs Q E hr hp => ?_
  obtain ⟨S, ws, x, sh, wt, rd, nd, sq, ra, t, rfl, hS, hk, ht, hi, hq⟩ := hp
  obtain ⟨f1, f2, _⟩ := sol_fld G hS
  have hg := wd_get hi.1 hi.2.1
  refine ⟨_, pss_one (ps_ret (pe_mm hr (pe_fl (pv 0)) (pa_cons (pe_ix ix_tup (pe_fl (pv 0)) (pe_op op_sub (pe_ix ix_tup (pv 1) pe_int (fun _ _ => rfl)) pe_int) (fun _ _ => rfl)) (pa_cons (pe_ix ix_tup (pv 1) pe_int (fun _ _ => rfl)) pa_nil)))), ?_⟩
  refine ⟨_, rfl, _, f1, _, sh_met hS.sh ⟨by decide +kernel, by decide +kernel, by decide +kernel, by decide +kernel, by decide +kernel⟩ ⟨_, (cf_Sheet G).cl, mt_Sheet_formula G, k_Sheet_formula G⟩, ?_⟩
  refine ⟨_, rfl, _, f2, _, rfl, t.1, _, 0, _, rfl, rfl, .of ht, rfl, _, _, rfl, rfl, wt, _, t.2.1 - 1, .str (ws.getD (t.2.1 - 1).toNat Str.empty), rfl, rfl, .of hS.wt, at_of (j := (t.2.1 - 1).toNat) (by have := hi.1; omega) (by rw [List.getElem?_map, hg]; rfl), ?_⟩
  exact ⟨_, rfl, t.1, _, 1, _, rfl, rfl, .of ht, rfl, sh, S, _, _, rfl, hS.sh, hk _ (List.mem_of_getElem? hg), hi.2.2, hq⟩
def pBes (K : Fr) : Pr := fun vs H Q => ∃ (S : Sm) (ws : List Str) (x sh wt rd nd sq : Addr) (ra : Int → Addr) (r : Int), vs = [.ref x, .int r] ∧ SolF K H S ws x sh wt rd nd sq ra ∧ 1 ≤ r ∧ r ≤ ws.length ∧ ∀ (H' : Hp) (t : Addr), Same H H' → H' t = some (.tup [.ref (ra (r - 1)), .ref (ra r), .ref (ra (r + 1))]) → Q (.ref t) H'
theorem k_beside (G : GD K mg) : Keeps PP w K mg base 1 (ma K (ga K "Solver") "beside") (pBes K) := by
  obtain ⟨fd, F⟩ := fd_Solver_beside G
  refine kp_fn0 (k := 0) F sc_Solver_beside (fun _ _ _ _ _ _ us hl => match us, hl with | [_, _], _ => rfl) (by rintro _ _ _ ⟨S, ws, x, sh, wt, rd, nd, sq, ra, r, rfl, _⟩; rfl) fun cdv A outer s H vs Q E hr hp => ?_
  obtain ⟨S, ws, x, sh, wt, rd, nd, sq, ra, r, rfl, hS, h1, h2, hq⟩ := hp
  obtain ⟨_, _, f3, _⟩ := sol_fld G hS
  obtain ⟨kvs, hrd, hg⟩ := hS.rd
  refine ⟨_, pss_one (ps_ret (pe_tup (pa_cons (pe_dget (hu_of hr.r) (pe_fl (pv 0)) (pe_op op_sub (pv 1) pe_int) (fun _ _ => rfl)) (pa_cons (pe_dget (hu_of hr.r) (pe_fl (pv 0)) (pv 1) (fun _ _ => rfl)) (pa_cons (pe_dget (hu_of hr.r) (pe_fl (pv 0)) (pe_op op_add (pv 1) pe_int) (fun _ _ => rfl)) pa_nil))))), ?_⟩
  refine ⟨_, rfl, _, f3, _, rfl, _, _, rfl, rfl, rd, _, rfl, .inl ⟨_, .inl (r - 1), .inl hrd, rfl, (hg _ (by omega) (by omega)).symm⟩, ?_⟩
  refine ⟨_, rfl, _, f3, _, rfl, rd, _, rfl, .inl ⟨_, .inl r, .inl hrd, rfl, (hg _ (by omega) (by omega)).symm⟩, ?_⟩
  refine ⟨_, rfl, _, f3, _, rfl, _, _, rfl, rfl, rd, _, rfl, .inl ⟨_, .inl (r + 1), .inl hrd, rfl, (hg _ (by omega) (by omega)).symm⟩, (by show 3 ≤ sizeLine; decide), fun t ht => hq _ t (Same.new ht) upd_same⟩
def pVal (K : Fr) : Pr := fun vs H Q => ∃ (S : Sm) (ws : List Str) (x : Addr) (T : Vn) (sq : List Ct) (t : Ct), vs = [.ref x, .ref t.1] ∧ SolAt K H x S ws T sq ∧ CellAt H t ∧ (prb S ws).In t.2.1 t.2.2 ∧ Q (oi (T t.2.1 t.2.2)) H
theorem k_value_of (G : GD K mg) : Keeps PP w K mg base 1 (ma K (ga K "Solver") "value_of") (pVal K) := by
  obtain ⟨fd, F⟩ := fd_Solver_value_of G
  refine kp_fn0 (k := 0) F sc_Solver_value_of (fun _ _ _ _ _ _ us hl => match us, hl with | [_, _], _ => rfl) (by rintro _ _ _ ⟨S, ws, x, T, sq, t, rfl, _⟩; rfl) fun cdv A outer s H vs Q E hr hp => ?_
  obtain ⟨S, ws, x, T, sq, t, rfl, ⟨sh, wt, rd, nd, sa, ra, hS, hR, _, _⟩, ht, hi, hq⟩ := hp
  obtain ⟨_, _, f3, _⟩ := sol_fld G hS
  obtain ⟨kvs, hrd, hg⟩ := hS.rd
  obtain ⟨h1, h2, h3⟩ := hi
  have h2 : t.2.1 ≤ ws.length := h2
  obtain ⟨kr, e1, _, e2⟩ := hR t.2.1 (by omega) (by omega)
  refine ⟨_, pss_one (ps_ret (pe_dget2 (hu_of hr.r) (pe_dget (hu_of hr.r) (pe_fl (pv 0)) (pe_ix ix_tup (pv 1) pe_int (fun _ _ => rfl)) (fun _ _ => rfl)) (pe_ix ix_tup (pv 1) pe_int (fun _ _ => rfl)) pe_non ⟨rfl, rfl, rfl, rfl⟩)), ?_⟩
  refine ⟨_, rfl, _, f3, _, rfl, t.1, _, 0, _, rfl, rfl, .of ht, rfl, rd, _, rfl, .inl ⟨_, .inl t.2.1, .inl hrd, rfl, (hg _ (by omega) (by omega)).symm⟩, ?_⟩
  refine ⟨_, rfl, .inl ⟨kr, .inl e1⟩, _, rfl, t.1, _, 1, _, rfl, rfl, .of ht, rfl, _, .inl ⟨kr, .inr t.2.2, .inl e1, rfl, rfl⟩, ?_⟩
  rw [e2]
  exact hq
end
end Bn
/-! W18: the solver's cells. -/
namespace Bn
open PySem PySem.Spec PyProof.Rows L2 StX
open He (ga ma)
/-- the cells of the first i rows -/
def cellsTo (cols : List Str) (i : Nat) : List Cell := (List.range i).flatMap fun i => cols.map fun c => (((i : Nat) : Int) + 1, c)
theorem cellsTo_len {cols : List Str} {i : Nat} : (cellsTo cols i).length = i * cols.length := by
  unfold cellsTo
  rw [List.length_flatMap]
  simp only [List.length_map, List.map_const', List.length_range, List.sum_replicate_nat]
theorem cellsTo_succ {cols : List Str} {i : Nat} : cellsTo cols (i + 1) = cellsTo cols i ++ cols.map fun c => (((i : Nat) : Int) + 1, c) := by
  unfold cellsTo
  rw [List.range_succ, List.flatMap_append]
  simp
section
variable {w : World} {K : Fr} {mg : Str → Option Value} {base : Heap}
theorem CellAt.up {H H' : Hp} {t : Ct} (s : Same H H') (h : CellAt H t) : CellAt H' t := s _ _ h
theorem CellAt.updL {H : Hp} {t : Ct} {D : Addr} {xs ys : List V} (h : CellAt H t) (hD : H D = some (.lst xs)) : CellAt (L2.upd H D (.lst ys)) t := by
  unfold CellAt at h ⊢
  rw [upd_ne (ne_of h hD (fun z => nomatch z))]
  exact h
def pCells (K : Fr) : Pr := fun vs H Q => ∃ (S : Sm) (ws : List Str) (x sh wt rd nd sq : Addr) (ra : Int → Addr), vs = [.ref x] ∧ SolF K H S ws x sh wt rd nd sq ra ∧ S.cols.length ≤ 6 ∧ ws.length ≤ 1000 ∧
  ∀ (H' : Hp) (l : Addr) (ts : List Ct), Same H H' → H l = none → H' l = some (.lst (ts.map cr)) → (∀ t ∈ ts, CellAt H' t) → ts.map (·.2) = (prb S ws).cells → Q (.ref l) H'
theorem k_cells (G : GD K mg) : Keeps PP w K mg base 3 (ma K (ga K "Solver") "cells") (pCells K) := by
  obtain ⟨fd, F⟩ := fd_Solver_cells G
  refine kp_fn0 (k := 2) F sc_Solver_cells (fun _ _ _ _ _ _ us hl => match us, hl with | [_], _ => rfl) (by rintro _ _ _ ⟨S, ws, x, sh, wt, rd, nd, sq, ra, rfl, _⟩; rfl) fun cdv A outer s H vs Q E hr hp => ?_
  obtain ⟨S, ws, x, sh, wt, rd, nd, sq, ra, rfl, hS, hc6, hlen, hq⟩ := hp
  obtain ⟨f1, f2, _⟩ := sol_fld G hS
  have nd' := sc_Solver_cells.nd
  have hs := sizeLine_eq
  refine ⟨_, pss_one (ps_ret (pe_lc2 (own := [("row", 1), ("column", 2)]) (vs1 := [2]) (g := gName 1) (g1 := gName 2) (wi1 := iTup K (tPp (PrpR PP w K mg base 1) "columns" (tFl K (tVar 0) "own_sheet"))) (tt := tYes) (tt1 := tYes)
    (te := tTup (tCons (tOp (rI0 fun i j => .int (i + j)) (tVar 1) (tC (.int 1))) (tCons (tVar 2) tNil))) rfl nd' (pi_range1 (by rfl) (gf_range G) (pa_cons (pe_callB call_len_seq (by rfl) (gf_len G) rfl (pa_cons (pe_fl (pv 0)) pa_nil)) pa_nil)) (blkOk_by (N := N_Solver_cells) (sc := defScope s_Solver_cells) (by decide +kernel)) (by simp)
    (fun _ _ _ _ _ => pg_name (i := 1) nd' rfl (by first | exact Or.inl rfl | exact Or.inr rfl)) (fun _ _ _ _ _ => pts_nil) (fun _ _ _ _ _ => pi_tup (pe_pp (k := 1) hr (pe_fl (pv 0)))) (fun _ _ _ _ _ => pg_name (i := 2) nd' rfl (by first | exact Or.inl rfl | exact Or.inr rfl)) (fun _ _ _ _ _ => pts_nil)
    (fun _ _ _ _ _ => pe_tup (pa_cons (pe_op op_add (pv 1) pe_int) (pa_cons (pv 2) pa_nil))))), ?_⟩
  refine ⟨_, rfl, _, f2, wt, _, rfl, .inr (.of hS.wt), _, rfl, by omega, by rw [List.length_map]; omega, fun D hD => lc2_it (B := H) walk_range (fun i H1 => Same H H1 ∧ ∃ ts : List Ct, H1 D = some (.lst (ts.map cr)) ∧ (∀ t ∈ ts, CellAt H1 t) ∧ ts.map (·.2) = cellsTo S.cols i) ⟨Same.new hD, [], upd_same, (fun _ h => nomatch h), rfl⟩ (fun _ _ _ _ => trivial) ?_ ?_⟩
  · rintro i x' H1 H1' hi ⟨s1, ts, hD1, hts, hcs⟩ ⟨rfl, rfl⟩ Fin hFin
    rw [List.length_map] at hi
    have hi : i < ws.length := by omega
    have hS1 := hS.up s1
    refine ⟨rfl, _, rfl, _, (f1.up s1), _, sh_prp hS1.sh (prp_cols G (by omega)), sh, S, rfl, hS1.sh, fun c hc => ⟨c, rfl, ⟨_, .of hc⟩, hFin _ _ _ ⟨_, _, _, fun j H2 => Same H H2 ∧ H2 c = some (.tup (S.cols.map V.str)) ∧ ∃ ts : List Ct, H2 D = some (.lst (ts.map cr)) ∧ (∀ t ∈ ts, CellAt H2 t) ∧ ts.map (·.2) = cellsTo S.cols i ++ (S.cols.take j).map fun c => (((i : Nat) : Int) + 1, c), walk_tup (a := c) (xs := S.cols.map V.str),
      ⟨s1, hc, ts, hD1, hts, by rw [hcs, List.take_zero]; simp⟩, fun j H2 _ h => .of h.2.1, ?_, ?_⟩⟩⟩
    · rintro j y H2 H2' hj ⟨s2, hc2, ts2, hD2, hts2, hcs2⟩ ⟨rfl, hy⟩
      obtain ⟨z, hz, rfl⟩ := some_map hy
      rw [List.length_map] at hj
      refine ⟨rfl, _, rfl, _, _, rfl, rfl, _, rfl, (by show 2 ≤ sizeLine; decide), fun q hq' => ?_⟩
      have s3 := Same.new (o := .tup [.int ((0 + ((i : Nat) : Int)) + 1), .str z]) hq'
      have hD3 := s3 _ _ hD2
      have hl2 : ts2.length = i * S.cols.length + j := by
        have := congrArg List.length hcs2
        rw [List.length_map, List.length_append, cellsTo_len, List.length_map, List.length_take] at this
        omega
      have hb : i * S.cols.length ≤ 1000 * 6 := Nat.mul_le_mul (by omega) hc6
      refine ⟨_, hD3, by rw [List.length_map]; omega, L2.Same.put (same_trans s2 s3) hD, ?_, ts2 ++ [(q, ((i : Nat) : Int) + 1, z)], ?_, ?_, ?_⟩
      · rw [upd_ne (ne_of (s3 _ _ hc2) hD3 (fun z => nomatch z))]; exact s3 _ _ hc2
      · rw [upd_same, List.map_append]; rfl
      · intro t ht
        rcases List.mem_append.mp ht with ht | ht
        · exact ((hts2 t ht).up s3).updL hD3
        · cases List.mem_singleton.mp ht
          refine CellAt.updL (xs := ts2.map cr) ?_ hD3
          show upd H2' q _ q = _
          rw [upd_same, Int.zero_add]
      · rw [List.map_append, hcs2, take_snoc hz, List.map_append, List.append_assoc]
        rfl
    · rintro H2 ⟨s2, _, ts2, hD2, hts2, hcs2⟩
      rw [List.length_map, List.take_length] at hcs2
      exact ⟨s2, ts2, hD2, hts2, by rw [cellsTo_succ]; exact hcs2⟩
  · rintro H1 ⟨s1, ts, hD1, hts, hcs⟩
    refine hq H1 D ts s1 hD hD1 hts ?_
    rw [hcs]
    show cellsTo S.cols _ = cellsTo S.cols ws.length
    congr 1
    rw [List.length_map]
    omega
end
end Bn
/-! W19: the solver solves. -/
namespace Bn
open PySem PySem.Spec PyProof.Rows L2 StX
open He (ga ma)
/-- each cell of the sequence stands behind those that it met -/
def SqOk (p : Prb) (T : Vn) (sq : List Ct) : Prop := ∀ (i : Nat) (t : Ct), sq[i]? = some t → p.In t.2.1 t.2.2 ∧ T t.2.1 t.2.2 ≠ none ∧ ∀ g ∈ p.met T t.2.1 t.2.2, p.In (lead t.2 g).1 (lead t.2 g).2 → ∃ u ∈ sq.take i, u.2 = lead t.2 g
structure Solved (K : Fr) (H : Hp) (x sh : Addr) (S : Sm) (ws : List Str) (T : Vn) (sq : List Ct) : Prop where
  at_ : SolAt K H x S ws T sq
  good : (prb S ws).Good T
  closed : (prb S ws).Closed T
  ok : SqOk (prb S ws) T sq
  few : sq.length ≤ 20000
  own : ∃ dx wt rd nd sa, H x = some (.ins (ga K "Solver") dx (solFs sh wt rd nd sa))
theorem Solved.up {K : Fr} {H H' : Hp} {x sh : Addr} {S : Sm} {ws : List Str} {T : Vn} {sq : List Ct} (s : Same H H') (h : Solved K H x sh S ws T sq) : Solved K H' x sh S ws T sq := { h with
  at_ := h.at_.up s
  own := let ⟨dx, wt, rd, nd, sa, e⟩ := h.own; ⟨dx, wt, rd, nd, sa, s _ _ e⟩ }
theorem env_rows {H : Hp} {n : Nat} {ra : Int → Addr} {T : Vn} {b : Nat} {r : Int} (h : RowsV H n ra T b) (h1 : 1 ≤ r) (h2 : r ≤ n) : IsRow H (ra (r - 1)) (env T r .up) ∧ IsRow H (ra r) (env T r .here) ∧ IsRow H (ra (r + 1)) (env T r .down) := by
  refine ⟨(h _ (by omega) (by omega)).row, ?_, (h _ (by omega) (by omega)).row⟩
  have e : env T r .here = T r := by
    funext c
    show T (r + 0) c = T r c
    rw [Int.add_zero]
  rw [e]
  exact (h _ (by omega) (by omega)).row
theorem mem_tot : ∀ {bs : Bh} {e : Cell × Addr × List Ct}, e ∈ bs → e.2.2.length ≤ tot bs
  | f :: bs, e, h => by
    unfold tot
    rw [List.map_cons, List.sum_cons]
    rcases List.mem_cons.mp h with rfl | h
    · omega
    · have := mem_tot h
      unfold tot at this
      omega
section
variable {w : World} {K : Fr} {mg : Str → Option Value} {base : Heap}
def pSolve (K : Fr) : Pr := fun vs H Q => ∃ (S : Sm) (ws : List Str) (x sh wt rd nd sq : Addr) (ra : Int → Addr) (B : Hp), vs = [.ref x] ∧ SolF K B S ws x sh wt rd nd sq ra ∧ Same B H ∧ S.Ok ∧ (∀ k ∈ ws, k ∈ S.kinds) ∧ ws.length ≤ 16 ∧ RowsV H ws.length ra (prb S ws).start 10 ∧
  (∀ r : Int, 0 ≤ r → r ≤ ws.length + 1 → B (ra r) = none) ∧ (∀ r r' : Int, 0 ≤ r → r ≤ ws.length + 1 → 0 ≤ r' → r' ≤ ws.length + 1 → ra r' = ra r → r' = r) ∧ B nd = none ∧ H nd = some (.dT []) ∧ B sq = none ∧ H sq = some (.lst []) ∧
  ∀ (H' : Hp) (T : Vn) (ts : List Ct), Same B H' → Solved K H' x sh S ws T ts → Q .non H'
theorem k_solve (G : GD K mg) : Keeps PP w K mg base 12 (ma K (ga K "Solver") "solve") (pSolve K) := by
  obtain ⟨fd, F⟩ := fd_Solver_solve G
  refine kp_fnN (k := 11) F sc_Solver_solve (fun _ _ _ _ _ _ us hl => match us, hl with | [_], _ => rfl) (by rintro _ _ _ ⟨S, ws, x, sh, wt, rd, nd, sq, ra, B, rfl, _⟩; rfl) fun cdv A outer s H vs Q E hr hp => ?_
  obtain ⟨S, ws, x, sh, wt, rd, nd, sq, ra, B, rfl, hS, sB, ok, hk, hlen, hrow0, hrn, hri, hndB, hnd, hsqB, hsq, hq⟩ := hp
  have nd' := sc_Solver_solve.nd
  have hs := sizeLine_eq
  have hu := hu_of hr.r
  have wf := prb_wf ok hk
  have D1 : DefR PP w K mg base 11 "row_led_to" pLed := ⟨_, gg_row_led_to G, gk_row_led_to G, (k_row_led_to G).mono (by omega)⟩
  refine ⟨_, pss_cons (ps_par3 (i := 1) (j := 2) (l := 3) rfl nd' rfl rfl rfl (by decide) (by decide) (by decide) rfl rfl rfl (pa_cons (pe_pp (k := 10) hr (pe_fl (pv 0))) (pa_cons (pe_mm0 hr (pv 0)) (pa_cons pe_dnewT pa_nil))) rfl)
    (pss_one (ps_while PassesOwn.never (pt_cmpR (op_neNil hr.r.units) (pv 2) (pe_lst pa_nil) (nomark _))
      (pss_cons (ps_set (i := 4) nd' rfl (.inl rfl) (pe_bm0 PySem.F.plainAttrs_list PySem.F.slot_list_pop PySem.F.type_list_pop mt_pop (pv 2)))
      (pss_cons (ps_par (i := 5) (j := 6) rfl nd' rfl rfl (by decide) rfl rfl (pa_cons (pe_mm hr (pv 0) (pa_cons (pv 4) pa_nil)) (pa_cons (pe_mm hr (pv 0) (pa_cons (pe_ix ix_tup (pv 4) pe_int (fun _ _ => rfl)) pa_nil)) pa_nil)) rfl)
      (pss_cons (ps_set (i := 7) nd' rfl (.inl rfl) (pe_mm hr (pv 5) (pa_cons (pv 1) (pa_cons (pe_ix ix_tup (pv 6) pe_int (fun _ _ => rfl)) (pa_cons (pe_ix ix_tup (pv 6) pe_int (fun _ _ => rfl)) (pa_cons (pe_ix ix_tup (pv 6) pe_int (fun _ _ => rfl)) pa_nil))))))
      (pss_one (ps_if (pt_cmp (pc_isN (pv 7)))
        (pss_cons (ps_dput hu (pe_dget hu (pe_fl (pv 0)) (pe_ix ix_tup (pv 4) pe_int (fun _ _ => rfl)) (fun _ _ => rfl)) (pe_ix ix_tup (pv 4) pe_int (fun _ _ => rfl))
            (pe_mm hr (pv 5) (pa_cons (pv 1) (pa_cons (pe_ix ix_tup (pv 6) pe_int (fun _ _ => rfl)) (pa_cons (pe_ix ix_tup (pv 6) pe_int (fun _ _ => rfl)) (pa_cons (pe_ix ix_tup (pv 6) pe_int (fun _ _ => rfl)) pa_nil))))) rfl)
        (pss_cons (ps_expr (pe_bm PySem.F.plainAttrs_list PySem.F.slot_list_append PySem.F.type_list_append mt_append (pe_fl (pv 0)) (pa_cons (pv 4) pa_nil)))
        (pss_cons (ps_expr (pe_bm PySem.F.plainAttrs_dict PySem.F.slot_dict_pop PySem.F.type_dict_pop (mt_popA hu) (pe_fl (pv 0)) (pa_cons (pv 4) (pa_cons pe_non pa_nil))))
        (pss_one (ps_expr (pe_bm PySem.F.plainAttrs_list PySem.F.slot_list_extend PySem.F.type_list_extend mt_extend (pv 2) (pa_cons (pe_bm PySem.F.plainAttrs_dict PySem.F.slot_dict_pop PySem.F.type_dict_pop (mt_popA hu) (pv 3) (pa_cons (pv 4) (pa_cons (pe_lst pa_nil) pa_nil))) pa_nil)))))))
        (pss_cons (ps_set (i := 8) nd' rfl (.inl rfl) (pe_tup (pa_cons (pe_d D1 hr (by rfl) (pa_cons (pe_ix ix_tup (pv 4) pe_int (fun _ _ => rfl)) (pa_cons (pe_ix ix_tup (pv 7) pe_int (fun _ _ => rfl)) pa_nil))) (pa_cons (pe_ix ix_tup (pv 7) pe_int (fun _ _ => rfl)) pa_nil))))
        (pss_cons (ps_dput hu (pe_fl (pv 0)) (pv 4) (pv 8) rfl)
        (pss_one (ps_expr (pe_bm PySem.F.plainAttrs_list PySem.F.slot_list_append PySem.F.type_list_append mt_append (pe_bm PySem.F.plainAttrs_dict PySem.F.slot_dict_setdefault PySem.F.type_dict_setdefault (mt_setdefA hu) (pv 3) (pa_cons (pv 8) (pa_cons (pe_lst pa_nil) pa_nil))) (pa_cons (pv 4) pa_nil))))))))))))), ?_⟩
  have hS1 := hS.up sB
  obtain ⟨f1, f2, f3, f4, f5⟩ := sol_fld G hS1
  refine ⟨_, rfl, _, f1, _, sh_prp hS1.sh (prp_mod G (by omega)), sh, S, rfl, hS1.sh, ?_⟩
  refine ⟨_, rfl, _, sol_met hS1 (by rfl) ⟨_, (cf_Solver G).cl, mt_Solver_cells G, (k_cells G).mono (by omega)⟩, S, ws, x, sh, wt, rd, nd, sq, ra, rfl, hS1, by have := ok.c4; omega, by omega, fun H1 wl ts s1 hwl0 hwl hts hcs => ?_⟩
  refine fun d hd => ⟨_, _, _, rfl, ?_⟩
  have hc4 := ok.c4
  have hN : ts.length ≤ 64 := by
    have e := congrArg List.length hcs
    rw [List.length_map, Prb.cells_len] at e
    have : ws.length * S.cols.length ≤ 16 * 4 := Nat.mul_le_mul hlen hc4
    have e' : ts.length = ws.length * S.cols.length := e
    omega
  have s2 := Same.new (o := .dT []) hd
  have s12 := same_trans s1 s2
  have i0 : SvH B (upd H1 d (.dT [])) ws.length nd sq wl d ra (prb S ws).start ts [] [] 10 := {
    s := same_trans sB s12
    r := hrow0.up s12
    ew := s2 _ _ hwl
    ed := upd_same
    ek := fun _ he => nomatch he
    en := ⟨[], s12 _ _ hnd, Nat.zero_le _⟩
    eq := s12 _ _ hsq
    cw := fun t ht => (hts t ht).up s2
    cb := fun _ he => nomatch he
    cq := fun _ he => nomatch he
    ea := by
      have : wl ≠ sq := fun e => by rw [e, hsq] at hwl0; cases hwl0
      simp [this]
    dn := fun e => by rw [e, s1 _ _ hnd] at hd; cases hd
    bw := sB.free hwl0
    bd := (same_trans sB s1).free hd
    bk := fun _ he => nomatch he }
  refine ⟨fun m σ H1 => ∃ T tw bs tq b c4 c5 c6 c7 c8, m = (tw.length + tot bs) * 100 + tw.length ∧ σ = [some (.ref x), some (.int S.m), some (.ref wl), some (.ref d), c4, c5, c6, c7, c8] ∧ SvH B H1 ws.length nd sq wl d ra T tw bs tq b ∧ (prb S ws).SI T tw bs tq ∧ b + m ≤ 6600 ∧ tw.length + tot bs ≤ 64 ∧ tq.length + (tw.length + tot bs) ≤ 64 ∧ bs.length ≤ b,
    ⟨_, _, ts, [], [], 10, none, none, none, none, none, rfl, rfl, i0, Prb.SI.start wf hcs, ?_, ?_, ?_, Nat.zero_le _⟩, ?_⟩
  · show 10 + ((ts.length + 0) * 100 + ts.length) ≤ 6600
    omega
  · show ts.length + 0 ≤ 64
    omega
  · show 0 + (ts.length + 0) ≤ 64
    omega
  rintro m σ H2 ⟨T, tw, bs, tq, b, c4, c5, c6, c7, c8, hm, rfl, iv, si, hb, ht64, hq64, hbb⟩
  refine ⟨_, rfl, Nat.zero_le _, fun e he => ⟨wl, e, _, rfl, rfl, .of (Same.new he _ _ iv.ew), .of upd_same, _, rfl, ?_⟩⟩
  have iv := iv.up (Same.new (o := .lst []) he)
  generalize upd H2 e (.lst []) = H3 at iv
  clear he
  refine ifB (fun hne => ?one) (fun hne => ?nothing)
  case nothing =>
    have htw : tw = [] := by
      cases tw with
      | nil => rfl
      | cons a r => cases hne
    subst htw
    refine hq H3 T tq iv.s ⟨⟨sh, wt, rd, nd, sq, ra, hS.up iv.s, fun r h0 h1 => (iv.r r h0 h1).le (by omega), iv.eq, iv.cq⟩, si.good, si.closed, si.so, by omega, let ⟨dx, e⟩ := (hS.up iv.s).o; ⟨dx, wt, rd, nd, sq, e⟩⟩
  have htwne : tw ≠ [] := fun z => by rw [z] at hne; cases hne
  obtain ⟨tw0, t, rfl⟩ : ∃ tw0 t, tw = tw0 ++ [t] := ⟨tw.dropLast, tw.getLast htwne, (List.dropLast_concat_getLast htwne).symm⟩
  have hin : (prb S ws).In t.2.1 t.2.2 := si.iw t (by simp)
  obtain ⟨hi1, hi2, hi3⟩ := hin
  have hi2 : t.2.1 ≤ ws.length := hi2
  refine ⟨fun σ' H' => ∃ T tw bs tq b c4 c5 c6 c7 c8, (tw.length + tot bs) * 100 + tw.length < m ∧ σ' = [some (.ref x), some (.int S.m), some (.ref wl), some (.ref d), c4, c5, c6, c7, c8] ∧ SvH B H' ws.length nd sq wl d ra T tw bs tq b ∧ (prb S ws).SI T tw bs tq ∧ b + ((tw.length + tot bs) * 100 + tw.length) ≤ 6600 ∧ tw.length + tot bs ≤ 64 ∧ tq.length + (tw.length + tot bs) ≤ 64 ∧ bs.length ≤ b, ?_, ?_⟩
  · rintro σ' H' ⟨T, tw, bs, tq, b, c4, c5, c6, c7, c8, h1, h2, h3, h4, h5, h6, h7, h8⟩
    exact ⟨_, h1, T, tw, bs, tq, b, c4, c5, c6, c7, c8, rfl, h2, h3, h4, h5, h6, h7, h8⟩
  -- one is taken
  refine ⟨_, rfl, .inl ⟨rfl, _, .of iv.ew⟩, wl, _, cr t, rfl, rfl, iv.ew, (by rw [List.map_append]; simp), ?_⟩
  have htc : CellAt H3 t := iv.cw t (by simp)
  have hdl : ((tw0 ++ [t]).map cr).dropLast = tw0.map cr := by rw [List.map_append]; simp
  rw [hdl]
  have iv1 := iv.setW (tw' := tw0) fun u hu => iv.cw u (List.mem_append_left _ hu)
  have htc1 := htc.upd (o := .lst (tw0.map cr)) iv.ew (fun _ z => nomatch z)
  generalize upd H3 wl (.lst (tw0.map cr)) = H4 at iv1 htc1
  have hS4 := hS.up iv1.s
  refine ⟨_, rfl, _, sol_met hS4 (by rfl) ⟨_, (cf_Solver G).cl, mt_Solver_formula_at G, (k_formula_at G).mono (by omega)⟩, _, rfl, S, ws, x, sh, wt, rd, nd, sq, ra, t, rfl, hS4, hk, htc1, ⟨hi1, hi2, hi3⟩, fun fa fl hfa => ?_⟩
  refine ⟨_, rfl, _, sol_met hS4 (by rfl) ⟨_, (cf_Solver G).cl, mt_Solver_beside G, (k_beside G).mono (by omega)⟩, _, rfl, t.1, _, 0, _, rfl, rfl, .of htc1, rfl, S, ws, x, sh, wt, rd, nd, sq, ra, t.2.1, rfl, hS4, hi1, hi2, fun H5 q5 s5 hq5 => ⟨_, _, rfl, ?_⟩⟩
  have iv5 := iv1.up s5
  have htc5 := htc1.up s5
  have hfa5 := hfa.up s5
  obtain ⟨fit, fsz⟩ : ((prb S ws).F t.2.1 t.2.2).fit S.m S.cols ∧ ((prb S ws).F t.2.1 t.2.2).size ≤ 7 := ok.f _ (hk _ (List.mem_of_getElem? (wd_get hi1 hi2))) _ hi3
  have fdp := Fm.depth_lt ((prb S ws).F t.2.1 t.2.2)
  obtain ⟨r1, r2, r3⟩ := env_rows iv5.r hi1 hi2
  have m2 := ok.m2
  refine ⟨_, rfl, _, at_need G (by omega) hfa5, _, rfl, _, rfl, q5, _, 0, _, rfl, rfl, .of hq5, rfl, _, rfl, q5, _, 1, _, rfl, rfl, .of hq5, rfl, _, rfl, q5, _, 2, _, rfl, rfl, .of hq5, rfl, _, fa, fl, S.m, env T t.2.1, _, _, _, ⟨rfl, hfa5, by omega, by omega, by omega, r1, r2, r3⟩, fun H6 v s6 hev => ?okv, fun H6 g tg s6 hev htg => ?err⟩
  case okv =>
    have iv6 := iv5.up s6
    have htc6 := htc5.up s6
    have hq6 := s6 _ _ hq5
    have hfa6 := hfa5.up s6
    obtain ⟨r1, r2, r3⟩ := env_rows iv6.r hi1 hi2
    refine ⟨_, rfl, _, rfl, iteT ?_⟩
    refine ⟨_, rfl, _, at_wo G (by omega) hfa6, _, rfl, _, rfl, q5, _, 0, _, rfl, rfl, .of hq6, rfl, _, rfl, q5, _, 1, _, rfl, rfl, .of hq6, rfl, _, rfl, q5, _, 2, _, rfl, rfl, .of hq6, rfl, _, fa, fl, S.m, env T t.2.1, _, _, _, ⟨rfl, hfa6, by omega, by omega, by omega, r1, r2, r3⟩, fun H7 s7 => ?_⟩
    have iv7 := iv6.up s7
    have htc7 := htc6.up s7
    have hS7 := hS.up iv7.s
    obtain ⟨_, _, f3, f4, f5⟩ := sol_fld G hS7
    obtain ⟨kvr, hrd, hg⟩ := hS7.rd
    have hev' : (prb S ws).at_ T t.2.1 t.2.2 = .ok v := hev
    obtain ⟨kv, e1, e2, e3⟩ := iv7.r t.2.1 (by omega) (by omega)
    refine ⟨_, rfl, _, f3, _, rfl, t.1, _, 0, _, rfl, rfl, .of htc7, rfl, rd, _, rfl, .inl ⟨_, .inl t.2.1, .inl hrd, rfl, (hg _ (by omega) (by omega)).symm⟩, _, rfl, t.1, _, 1, _, rfl, rfl, .of htc7, rfl, _, _, rfl, DPut.k (k := .inr t.2.2) e1 (by omega), ?_⟩
    rw [show oe (((prb S ws).F t.2.1 t.2.2).ev S.m (env T t.2.1)) = V.int v from by rw [hev]; rfl]
    have iv8 := iv7.setR (c := t.2.2) (v := v) (by omega) (by omega) (fun r' g0 g1 z => hri t.2.1 r' (by omega) (by omega) g0 g1 z) (hrn _ (by omega) (by omega)) e1 e2 e3
    have htc8 := htc7.upd (o := .dK (putK kv (.inr t.2.2) (.int v))) e1 (fun _ z => nomatch z)
    generalize upd H7 (ra t.2.1) (.dK (putK kv (.inr t.2.2) (.int v))) = H8 at iv8 htc8
    obtain ⟨_, _, _, _, f5⟩ := sol_fld G (hS.up iv8.s)
    have hql : tq.length ≤ 64 := by omega
    refine ⟨_, rfl, _, f5, .inl ⟨rfl, _, .of iv8.eq⟩, _, rfl, sq, _, _, rfl, rfl, iv8.eq, by rw [List.length_map]; omega, ?_⟩
    have iv9 := iv8.addQ hsqB htc8
    have htc9 := htc8.upd (o := .lst (tq.map cr ++ [cr t])) iv8.eq (fun _ z => nomatch z)
    generalize upd H8 sq (.lst (tq.map cr ++ [cr t])) = H9 at iv9 htc9
    obtain ⟨_, _, _, f4, _⟩ := sol_fld G (hS.up iv9.s)
    obtain ⟨kn, en1, en2⟩ := iv9.en
    have si' := si.val wf hev'
    have tv := Prb.tot_val si
    refine ⟨_, rfl, _, f4, .inr (.inr (.inl ⟨rfl, .inr ⟨_, en1⟩⟩)), _, rfl, nd, kn, ck t.2, t.1, .non, rfl, rfl, en1, htc9.k, fun u H10 hu' => ?_⟩
    obtain ⟨iv10, htc10⟩ : SvH B H10 ws.length nd sq wl d ra (Prb.put T t.2.1 t.2.2 v) tw0 bs (tq ++ [t]) (b + 1) ∧ CellAt H10 t := by
      rcases hu' with ⟨_, rfl⟩ | ⟨_, _, rfl⟩
      · exact ⟨iv9.setN (kvs := dropK kn (ck t.2)) hndB (Nat.le_trans (List.length_filter_le _ _) en2), htc9.upd en1 (fun _ z => nomatch z)⟩
      · exact ⟨iv9, htc9⟩
    clear hu' iv9 htc9 en1
    have hbs : tot bs ≤ 64 := by omega
    refine ⟨_, rfl, .inl ⟨rfl, _, .of iv10.ew⟩, _, rfl, .inr (.inr (.inl ⟨rfl, .inr ⟨_, iv10.ed⟩⟩)), _, rfl, Nat.zero_le _, fun e2' he2 => ?_⟩
    have iv11 := iv10.up (Same.new (o := .lst []) he2)
    have htc11 := htc10.up (Same.new (o := .lst []) he2)
    have hel : upd H10 e2' (.lst []) e2' = some (.lst []) := upd_same
    generalize upd H10 e2' (.lst []) = H11 at iv11 htc11 hel
    refine ⟨d, _, ck t.2, t.1, .ref e2', rfl, rfl, iv11.ed, htc11.k, fun u H12 hu' => ?_⟩
    obtain ⟨l, rfl, hl12, iv12⟩ : ∃ l, u = .ref l ∧ H12 l = some (.lst ((((fnd bs t.2).map (·.2)).getD []).map cr)) ∧ SvH B H12 ws.length nd sq wl d ra (Prb.put T t.2.1 t.2.2 v) tw0 (drp bs t.2) (tq ++ [t]) (b + 1) ∧ ∀ z ∈ ((fnd bs t.2).map (·.2)).getD [], CellAt H12 z := by
      rcases hu' with ⟨h1, rfl⟩ | ⟨h1, rfl, rfl⟩
      · rw [valV_kvB] at h1
        cases hf : fnd bs t.2 with
        | none => rw [hf] at h1; cases h1
        | some y =>
          rw [hf] at h1
          have hm := fnd_mem hf
          refine ⟨y.1, (Option.some.inj h1).symm, ?_, ?_, fun z hz => ?_⟩
          · exact upd_of (iv11.ek _ hm) iv11.ed (fun z => nomatch z)
          · rw [dropK_kvB]; exact iv11.popD t.2
          · exact (iv11.cb _ hm z hz).upd iv11.ed (fun _ z => nomatch z)
      · rw [valV_kvB] at h1
        cases hf : fnd bs t.2 with
        | some y => rw [hf] at h1; cases h1
        | none =>
          refine ⟨e2', rfl, hel, ?_, fun z hz => nomatch hz⟩
          rw [drp_no (fnd_not hf)]
          exact iv11
    obtain ⟨iv12, hcz⟩ := iv12
    rw [List.length_append] at tv
    refine ⟨wl, l, _, _, rfl, rfl, iv12.ew, hl12, ?_, ?_⟩
    · rw [List.length_map, List.length_map]
      omega
    rw [← List.map_append]
    have iv13 := iv12.setW (tw' := tw0 ++ ((fnd bs t.2).map (·.2)).getD []) fun z hz => by
      rcases List.mem_append.mp hz with hz | hz
      · exact iv12.cw z hz
      · exact hcz z hz
    have tv' : (tw0 ++ ((fnd bs t.2).map (·.2)).getD []).length + tot (drp bs t.2) + 1 = (tw0 ++ [t]).length + tot bs := by rw [List.length_append]; exact tv
    generalize tw0 ++ ((fnd bs t.2).map (·.2)).getD [] = tw1 at iv13 si' tv'
    have hdb : (drp bs t.2).length ≤ b := Nat.le_trans (List.length_filter_le _ _) hbb
    generalize drp bs t.2 = bs1 at iv13 si' tv' hdb
    have hlt : tw1.length ≤ 64 := by omega
    refine ⟨_, tw1, bs1, _, b + 1, _, _, _, _, _, ?_, rfl, iv13, si', ?_, ?_, ?_, by omega⟩
    · omega
    · omega
    · omega
    · rw [List.length_append, List.length_singleton]; omega
  case err =>
    have iv6 := iv5.up s6
    have htc6 := htc5.up s6
    have hev' : (prb S ws).at_ T t.2.1 t.2.2 = .error g := hev
    refine ⟨_, rfl, _, rfl, iteF ?_⟩
    refine ⟨_, rfl, t.1, _, 0, _, rfl, rfl, .of htc6, rfl, _, rfl, tg, _, 0, _, rfl, rfl, .of htg, rfl, t.2.1, g.1, rfl, fun H7 s7 => ?_⟩
    have iv7 := iv6.up s7
    have htc7 := htc6.up s7
    have htg7 := s7 _ _ htg
    refine ⟨_, rfl, tg, _, 1, _, rfl, rfl, .of htg7, rfl, (by show 2 ≤ sizeLine; decide), fun q8 hq8 => ?_⟩
    have s8 := Same.new (o := .tup [.int (t.2.1 + dl g.1), .str g.2]) hq8
    have iv8 := iv7.up s8
    have htc8 := htc7.up s8
    have hgc : CellAt (upd H7 q8 (.tup [.int (t.2.1 + dl g.1), .str g.2])) (q8, lead t.2 g) := upd_same
    generalize upd H7 q8 (.tup [.int (t.2.1 + dl g.1), .str g.2]) = H8 at iv8 htc8 hgc
    obtain ⟨_, _, _, f4, _⟩ := sol_fld G (hS.up iv8.s)
    obtain ⟨kn, en1, en2⟩ := iv8.en
    refine ⟨_, rfl, _, rfl, _, f4, _, rfl, nd, _, rfl, DPut.t en1 htc8.k (by omega), ?_⟩
    have iv9 := (iv8.le (Nat.le_succ b)).setN (kvs := putK kn (ck t.2) (.ref q8)) hndB (Nat.le_trans (length_putK _ _ _) (Nat.succ_le_succ en2))
    have htc9 := htc8.upd (o := .dT (putK kn (ck t.2) (.ref q8))) en1 (fun _ z => nomatch z)
    have hgc9 := hgc.upd (o := .dT (putK kn (ck t.2) (.ref q8))) en1 (fun _ z => nomatch z)
    generalize upd H8 nd (.dT (putK kn (ck t.2) (.ref q8))) = H9 at iv9 htc9 hgc9
    refine ⟨_, rfl, .inr (.inr (.inl ⟨rfl, .inr ⟨_, iv9.ed⟩⟩)), _, rfl, Nat.zero_le _, fun l hl => ?_⟩
    have iv10 := iv9.up (Same.new (o := .lst []) hl)
    have htc10 := htc9.up (Same.new (o := .lst []) hl)
    have hgc10 := hgc9.up (Same.new (o := .lst []) hl)
    have hl10 : upd H9 l (.lst []) l = some (.lst []) := upd_same
    have hlB : B l = none := iv9.s.free hl
    have nl : l ≠ wl ∧ l ≠ sq ∧ ∀ e ∈ bs, e.2.1 ≠ l := ⟨fun e => (by rw [e, iv9.ew] at hl; cases hl), fun e => (by rw [e, iv9.eq] at hl; cases hl), fun e he z => (by rw [← z, iv9.ek e he] at hl; cases hl)⟩
    clear hl
    generalize upd H9 l (.lst []) = H10 at iv10 htc10 hgc10 hl10
    have hbl : (kvB bs).length ≤ b := by
      unfold kvB; rw [List.length_map]; omega
    have si' := si.wait (l := l) hev'
    have ta := Prb.tot_add (t := t) (g := lead t.2 g) (l := l) si.nd
    refine ⟨d, _, ck (lead t.2 g), q8, .ref l, rfl, rfl, iv10.ed, hgc10.k, by omega, fun u H11 hu' => ?_⟩
    rw [List.length_append, List.length_singleton] at ht64 hq64 hm
    rcases hu' with ⟨h1, rfl⟩ | ⟨h1, rfl, rfl⟩
    · rw [valV_kvB] at h1
      cases hf : fnd bs (lead t.2 g) with
      | none => rw [hf] at h1; cases h1
      | some y =>
        rw [hf] at h1
        have h1 : V.ref y.1 = u := Option.some.inj h1
        subst h1
        have hm' := fnd_mem hf
        have iv12 := iv10.appD si.nd hf htc10
        refine ⟨.inl ⟨rfl, _, .of (iv10.ek _ hm')⟩, _, rfl, y.1, _, _, rfl, rfl, iv10.ek _ hm', ?_, ?_⟩
        · have hmt : y.2.length ≤ tot bs := mem_tot hm'
          refine Nat.lt_of_le_of_lt (m := tot bs) ?_ (by omega)
          rw [List.length_map]
          exact hmt
        have hab : (app bs (lead t.2 g) t).length ≤ b := by unfold app; rw [List.length_map]; exact hbb
        have ea : add bs (lead t.2 g) t l = app bs (lead t.2 g) t := by unfold add; rw [hf]
        rw [ea] at si' ta
        generalize app bs (lead t.2 g) t = bs1 at iv12 si' ta hab
        exact ⟨_, tw0, bs1, _, b + 1, _, _, _, _, _, by omega, rfl, iv12, si', by omega, by omega, by omega, by omega⟩
    · rw [valV_kvB] at h1
      cases hf : fnd bs (lead t.2 g) with
      | some y => rw [hf] at h1; cases h1
      | none =>
        have iv12 := iv10.newD hf hl10 nl hlB htc10
        have hld : l ≠ d := ne_of hl10 iv10.ed (fun z => nomatch z)
        have hl11 : upd H10 d (.dT (putK (kvB bs) (ck (lead t.2 g)) (.ref l))) l = some (.lst []) := by rw [upd_ne hld]; exact hl10
        refine ⟨.inl ⟨rfl, _, .of hl11⟩, _, rfl, l, _, _, rfl, rfl, hl11, (by show 0 < sizeLine; decide), ?_⟩
        have ea : add bs (lead t.2 g) t l = bs ++ [(lead t.2 g, l, [t])] := by unfold add; rw [hf]
        rw [ea] at si' ta
        have hab : (bs ++ [(lead t.2 g, l, [t])]).length ≤ b + 1 := by rw [List.length_append, List.length_singleton]; omega
        generalize bs ++ [(lead t.2 g, l, [t])] = bs1 at iv12 si' ta hab
        exact ⟨_, tw0, bs1, _, b + 1, _, _, _, _, _, by omega, rfl, iv12, si', by omega, by omega, by omega, by omega⟩
end
end Bn
/-! W20: the solver's led_to, round_count. -/
namespace Bn
open PySem PySem.Spec PyProof.Rows L2 StX
open He (ga ma)
theorem SolAt.fld {K : Fr} {mg : Str → Option Value} (G : GD K mg) {H : Hp} {x : Addr} {S : Sm} {ws : List Str} {T : Vn} {sq : List Ct} (h : SolAt K H x S ws T sq) : ∃ sa, FldAt K H (.ref x) "own_sequence" (.ref sa) ∧ H sa = some (.lst (sq.map cr)) ∧ ∀ t ∈ sq, CellAt H t := by
  obtain ⟨sh, wt, rd, nd, sa, ra, hS, hR, hs, hc⟩ := h
  exact ⟨sa, (sol_fld G hS).2.2.2.2, hs, hc⟩
theorem SolAt.met {K : Fr} {W : Addr → Str → Pr → Prop} {H : Hp} {x : Addr} {S : Sm} {ws : List Str} {T : Vn} {sq : List Ct} {m : Str} {p : Pr} (h : SolAt K H x S ws T sq) (n : (m == ("own_sheet" : Str)) = false ∧ (m == ("own_word" : Str)) = false ∧ (m == ("own_rows" : Str)) = false ∧ (m == ("own_needs" : Str)) = false ∧ (m == ("own_sequence" : Str)) = false) (hw : W (ga K "Solver") m p) : MetAt W H (.ref x) m p := by
  obtain ⟨sh, wt, rd, nd, sa, ra, hS, _⟩ := h
  refine sol_met hS ?_ hw
  rw [List.lookup_cons, n.1, List.lookup_cons, n.2.1, List.lookup_cons, n.2.2.1, List.lookup_cons, n.2.2.2.1, List.lookup_cons, n.2.2.2.2]
  rfl
section
variable {w : World} {K : Fr} {mg : Str → Option Value} {base : Heap}
def pLedTo (K : Fr) : Pr := fun vs H Q => ∃ (S : Sm) (ws : List Str) (x : Addr) (T : Vn) (sq : List Ct) (t : Ct), vs = [.ref x, .ref t.1] ∧ SolAt K H x S ws T sq ∧ S.Ok ∧ (∀ k ∈ ws, k ∈ S.kinds) ∧ CellAt H t ∧ (prb S ws).In t.2.1 t.2.2 ∧
  ∀ (H' : Hp) (q : Addr) (rs : List Ct), Same H H' → H' q = some (.lst (rs.map cr)) → rs.length ≤ 40 → (∀ u ∈ rs, CellAt H' u ∧ ∃ g ∈ (prb S ws).met T t.2.1 t.2.2, u.2 = lead t.2 g ∧ (prb S ws).In u.2.1 u.2.2) → Q (.ref q) H'
theorem k_led_to (G : GD K mg) : Keeps PP w K mg base 12 (ma K (ga K "Solver") "led_to") (pLedTo K) := by
  obtain ⟨fd, F⟩ := fd_Solver_led_to G
  refine kp_fnN (k := 11) F sc_Solver_led_to (fun _ _ _ _ _ _ us hl => match us, hl with | [_, _], _ => rfl) (by rintro _ _ _ ⟨S, ws, x, T, sq, t, rfl, _⟩; rfl) fun cdv A outer s H vs Q E hr hp => ?_
  obtain ⟨S, ws, x, T, sq, t, rfl, hA, ok, hk, ht, hin, hq⟩ := hp
  have nd' := sc_Solver_led_to.nd
  have hs := sizeLine_eq
  have hA0 := hA
  obtain ⟨sh, wt, rd, nd, sa, ra, hS, hR, _, _⟩ := hA
  have D1 : DefR PP w K mg base 11 "row_led_to" pLed := ⟨_, gg_row_led_to G, gk_row_led_to G, (k_row_led_to G).mono (by omega)⟩
  refine ⟨_, pss_cons (ps_par (i := 2) (j := 3) rfl nd' rfl rfl (by decide) rfl rfl (pa_cons (pe_mm hr (pv 0) (pa_cons (pe_ix ix_tup (pv 1) pe_int (fun _ _ => rfl)) pa_nil)) (pa_cons (pe_lst pa_nil) pa_nil)) rfl)
    (pss_cons (ps_for PassesOwn.never rfl (pi_list (pe_mm hr (pe_mm hr (pv 0) (pa_cons (pv 1) pa_nil)) (pa_cons (pe_pp (k := 10) hr (pe_fl (pv 0))) (pa_cons (pe_ix ix_tup (pv 2) pe_int (fun _ _ => rfl)) (pa_cons (pe_ix ix_tup (pv 2) pe_int (fun _ _ => rfl)) (pa_cons (pe_ix ix_tup (pv 2) pe_int (fun _ _ => rfl)) pa_nil))))))
        (pg_tup rfl (pgs_cons (pg_name (i := 4) nd' rfl (.inl rfl)) (pgs_cons (pg_name (i := 5) nd' rfl (.inl rfl)) (pgs_cons (pg_name (i := 6) nd' rfl (.inl rfl)) pgs_nil))))
      (pss_cons (ps_set (i := 7) nd' rfl (.inl rfl) (pe_d D1 hr (by rfl) (pa_cons (pe_ix ix_tup (pv 1) pe_int (fun _ _ => rfl)) (pa_cons (pv 5) pa_nil))))
      (pss_one (ps_if (pt_chain op_lt op_le pe_int (pv 7) (pe_callB call_len_seq (by rfl) (gf_len G) rfl (pa_cons (pe_fl (pv 0)) pa_nil)))
        (pss_one (ps_expr (pe_bm PySem.F.plainAttrs_list PySem.F.slot_list_append PySem.F.type_list_append mt_append (pv 3) (pa_cons (pe_tup (pa_cons (pv 7) (pa_cons (pv 6) pa_nil))) pa_nil)))) pss_nil))))
    (pss_one (ps_ret (pv 3)))), ?_⟩
  obtain ⟨hi1, hi2, hi3⟩ := hin
  have hi2 : t.2.1 ≤ ws.length := hi2
  refine ⟨_, rfl, _, sol_met hS (by rfl) ⟨_, (cf_Solver G).cl, mt_Solver_beside G, (k_beside G).mono (by omega)⟩, _, rfl, t.1, _, 0, _, rfl, rfl, .of ht, rfl, S, ws, x, sh, wt, rd, nd, sa, ra, t.2.1, rfl, hS, hi1, hi2, fun H1 q1 s1 hq1 => ⟨Nat.zero_le _, fun fl hfl => ⟨_, _, rfl, ?_⟩⟩⟩
  have s2 := same_trans s1 (Same.new (o := .lst []) hfl)
  have hfl0 : H fl = none := s1.free hfl
  have hq2 := Same.new (o := .lst []) hfl _ _ hq1
  have hfl2 : upd H1 fl (.lst []) fl = some (.lst []) := upd_same
  generalize upd H1 fl (.lst []) = H2 at s2 hq2 hfl2
  have hS2 := hS.up s2
  have ht2 := ht.up s2
  obtain ⟨f1, f2, _⟩ := sol_fld G hS2
  refine ⟨_, rfl, _, sol_met hS2 (by rfl) ⟨_, (cf_Solver G).cl, mt_Solver_formula_at G, (k_formula_at G).mono (by omega)⟩, _, rfl, S, ws, x, sh, wt, rd, nd, sa, ra, t, rfl, hS2, hk, ht2, ⟨hi1, hi2, hi3⟩, fun fa fll hfa => ?_⟩
  obtain ⟨fit, fsz⟩ : ((prb S ws).F t.2.1 t.2.2).fit S.m S.cols ∧ ((prb S ws).F t.2.1 t.2.2).size ≤ 7 := ok.f _ (hk _ (List.mem_of_getElem? (wd_get hi1 hi2))) _ hi3
  have fdp := Fm.depth_lt ((prb S ws).F t.2.1 t.2.2)
  obtain ⟨r1, r2, r3⟩ := env_rows (hR.up s2) hi1 hi2
  have m2 := ok.m2
  refine ⟨_, at_met G (by omega) hfa, _, rfl, _, f1, _, sh_prp hS2.sh (prp_mod G (by omega)), sh, S, rfl, hS2.sh, _, rfl, q1, _, 0, _, rfl, rfl, .of hq2, rfl, _, rfl, q1, _, 1, _, rfl, rfl, .of hq2, rfl, _, rfl, q1, _, 2, _, rfl, rfl, .of hq2, rfl, _, fa, fll, S.m, env T t.2.1, _, _, _, ⟨rfl, hfa, by omega, by omega, by omega, r1, r2, r3⟩, fun H3 q ms s3 hq3 hms => ⟨q, rfl, ⟨_, .of hq3⟩, ?_⟩⟩
  have hml : ms.length ≤ 7 := by
    have h1 := paired_len hms
    have h2 := Fm.mt_len (m := S.m) (E := env T t.2.1) ((prb S ws).F t.2.1 t.2.2)
    have h3 : ms.length ≤ ((prb S ws).F t.2.1 t.2.2).size := by
      rw [h1]
      exact h2
    omega
  have s23 := same_trans s2 s3
  have hfl3 := s3 _ _ hfl2
  have hB : Same (dr fl H3) H3 := dr_le
  have g0 : Same H (dr fl H3) := dr_new s23 hfl0
  refine for_it (walk_list (a := q) (xs := ms)) (fun i σ H4 => Same (dr fl H3) H4 ∧ (i = 0 → H4 = H3) ∧ ∃ (rs : List Ct) (c4 c5 c6 c7 : Option V), σ = [some (.ref x), some (.ref t.1), some (.ref q1), some (.ref fl), c4, c5, c6, c7] ∧ H4 fl = some (.lst (rs.map cr)) ∧ rs.length ≤ i ∧ ∀ u ∈ rs, CellAt H4 u ∧ ∃ g ∈ (prb S ws).met T t.2.1 t.2.2, u.2 = lead t.2 g ∧ (prb S ws).In u.2.1 u.2.2)
    ⟨hB, fun _ => rfl, [], none, none, none, none, rfl, hfl3, Nat.zero_le _, fun _ h => nomatch h⟩ (fun i σ H4 hi h => ?_) ?_ ?_
  · obtain ⟨h1, h2, _⟩ := h
    by_cases hqf : q = fl
    · have hm0 : ms = [] := by
        rw [hqf, hfl3] at hq3
        exact (HO.lst.inj (Option.some.inj hq3)).symm
      rw [h2 (by rw [hm0] at hi; exact Nat.le_zero.mp hi)]
      exact .of hq3
    · exact .of (h1 _ _ (by rw [dr_ne hqf]; exact hq3))
  · rintro i v σ H4 H4' hi ⟨s4, _, rs, c4, c5, c6, c7, rfl, hfl4, hrl, hrs⟩ ⟨rfl, hv⟩
    obtain ⟨g, hg, a, num, rfl, ha⟩ := paired_get hms hv
    have hgm : g ∈ (prb S ws).met T t.2.1 t.2.2 := List.mem_of_getElem? hg
    have hafl : a ≠ fl := ne_of ha hfl3 (fun z => nomatch z)
    have ha4 := s4 _ _ (by rw [dr_ne hafl]; exact ha)
    have g4 := same_trans g0 s4
    have ht4 := ht.up g4
    refine ⟨a, _, rfl, .of ha4, rfl, _, _, rfl, _, _, rfl, _, _, rfl, rfl, ?_⟩
    refine ⟨_, rfl, t.1, _, 0, _, rfl, rfl, .of ht4, rfl, _, rfl, t.2.1, g.1, rfl, fun H5 s5 => ?_⟩
    have g5 := same_trans g4 s5
    have hS5 := hS.up g5
    obtain ⟨_, f2, _⟩ := sol_fld G hS5
    have hfl5 := s5 _ _ hfl4
    have s45 := same_trans s4 s5
    refine ⟨_, rfl, _, _, rfl, rfl, _, rfl, ifB (fun hb1 => ?_) (fun hb1 => ?_)⟩
    · have hb1 := of_decide_eq_true hb1
      refine ⟨_, rfl, _, f2, wt, _, rfl, .inr (.of hS5.wt), _, _, rfl, rfl, _, rfl, ifB (fun hb2 => ?_) (fun hb2 => ?_)⟩
      · have hb2 : t.2.1 + dl g.1 ≤ ((ws.map V.str).length : Int) := by simpa using hb2
        rw [List.length_map] at hb2
        refine ⟨_, rfl, .inl ⟨rfl, _, .of hfl5⟩, _, rfl, _, rfl, (by show 2 ≤ sizeLine; decide), fun q6 hq6 => ?_⟩
        have s6 := Same.new (o := .tup [.int (t.2.1 + dl g.1), .str g.2]) hq6
        have hfl6 := s6 _ _ hfl5
        refine ⟨fl, _, _, rfl, rfl, hfl6, by rw [List.length_map]; omega, ?_⟩
        refine ⟨?_, fun z => absurd z (Nat.succ_ne_zero i), rs ++ [(q6, lead t.2 g)], _, _, _, _, rfl, ?_, by rw [List.length_append, List.length_singleton]; omega, fun u hu => ?_⟩
        · exact L2.Same.put (same_trans s45 s6) dr_at
        · rw [upd_same, List.map_append]; rfl
        · rcases List.mem_append.mp hu with hu | hu
          · obtain ⟨u1, u2⟩ := hrs u hu
            exact ⟨(u1.up (same_trans s5 s6)).upd hfl6 (fun _ z => nomatch z), u2⟩
          · cases List.mem_singleton.mp hu
            refine ⟨CellAt.upd (p := fl) (show CellAt (upd H5 q6 (.tup [.int (t.2.1 + dl g.1), .str g.2])) (q6, lead t.2 g) from upd_same) hfl6 (fun _ z => nomatch z), g, hgm, rfl, ?_, ?_, ?_⟩
            · show (1 : Int) ≤ t.2.1 + dl g.1
              omega
            · exact hb2
            · exact Fm.mt_cols fit g hgm
      · exact ⟨s45, fun z => absurd z (Nat.succ_ne_zero i), rs, _, _, _, _, rfl, hfl5, by omega, fun u hu => ⟨(hrs u hu).1.up s5, (hrs u hu).2⟩⟩
    · exact ⟨_, rfl, ifF rfl ⟨s45, fun z => absurd z (Nat.succ_ne_zero i), rs, _, _, _, _, rfl, hfl5, by omega, fun u hu => ⟨(hrs u hu).1.up s5, (hrs u hu).2⟩⟩⟩
  · rintro σ H4 ⟨s4, _, rs, c4, c5, c6, c7, rfl, hfl4, hrl, hrs⟩
    exact ⟨_, rfl, hq H4 fl rs (same_trans g0 s4) hfl4 (by omega) hrs⟩
def AllI (kvs : List (List Key × V)) : Prop := ∀ p ∈ kvs, ∃ n : Int, p.2 = .int n
theorem AllI.put {kvs : List (List Key × V)} {k : List Key} {n : Int} (h : AllI kvs) : AllI (putK kvs k (.int n)) := fun p hp => by
  unfold putK at hp
  split at hp
  · obtain ⟨q, hq, rfl⟩ := List.mem_map.mp hp
    by_cases e : q.1 = k
    · rw [if_pos e]; exact ⟨n, rfl⟩
    · rw [if_neg e]; exact h q hq
  · rcases List.mem_append.mp hp with hp | hp
    · exact h p hp
    · cases List.mem_singleton.mp hp; exact ⟨n, rfl⟩
theorem AllI.list : ∀ {kvs : List (List Key × V)}, AllI kvs → ∃ ns : List Int, kvs.map (·.2) = ns.map V.int
  | [], _ => ⟨[], rfl⟩
  | p :: kvs, h => by
    obtain ⟨n, e⟩ := h p List.mem_cons_self
    obtain ⟨ns, e2⟩ := AllI.list (kvs := kvs) fun q hq => h q (List.mem_cons_of_mem _ hq)
    exact ⟨n :: ns, by rw [List.map_cons, List.map_cons, e, e2]⟩
theorem ints_of {ys : List V} (h : ∀ (i : Nat) (y : V), ys[i]? = some y → ∃ n : Int, y = .int n) : ∃ ns : List Int, ys = ns.map V.int := by
  induction ys with
  | nil => exact ⟨[], rfl⟩
  | cons y ys ih =>
    obtain ⟨n, e⟩ := h 0 y rfl
    obtain ⟨ns, e2⟩ := ih fun i z hz => h (i + 1) z (by simpa using hz)
    exact ⟨n :: ns, by rw [List.map_cons, e, e2]⟩
def pRound (K : Fr) : Pr := fun vs H Q => ∃ (S : Sm) (ws : List Str) (x sh : Addr) (T : Vn) (sq : List Ct), vs = [.ref x] ∧ Solved K H x sh S ws T sq ∧ S.Ok ∧ (∀ k ∈ ws, k ∈ S.kinds) ∧ ∀ (H' : Hp) (n : Int), Same H H' → Q (.int n) H'
theorem k_round_count (G : GD K mg) : Keeps PP w K mg base 13 (ma K (ga K "Solver") "round_count") (pRound K) := by
  obtain ⟨fd, F⟩ := fd_Solver_round_count G
  refine kp_fnN (k := 12) F sc_Solver_round_count (fun _ _ _ _ _ _ us hl => match us, hl with | [_], _ => rfl) (by rintro _ _ _ ⟨S, ws, x, sh, T, sq, rfl, _⟩; rfl) fun cdv A outer s H vs Q E hr hp => ?_
  obtain ⟨S, ws, x, sh, T, sq, rfl, hSv, ok, hk, hq⟩ := hp
  have nd' := sc_Solver_round_count.nd
  have hs := sizeLine_eq
  have hu := hu_of hr.r
  have hfew := hSv.few
  refine ⟨_, pss_cons (ps_set (i := 1) nd' rfl (.inr rfl) pe_dnewT)
    (pss_cons (ps_for PassesOwn.never rfl (pi_list (pe_fl (pv 0))) (pg_name (i := 2) nd' rfl (.inl rfl))
      (pss_one (ps_dput hu (pv 1) (pv 2) (pe_op op_add pe_int (pe_callB (cr_max rfl) (by rfl) (gf_max G) rfl (pa_cons (pe_op op_cat (pe_lst (pa_cons pe_int pa_nil))
        (pe_lc (own := [("other", 3)]) (g := gName 3) (tt := tYes) (te := tDGet (tVar 1) (tVar 3)) rfl nd' (pi_list (pe_mm hr (pv 0) (pa_cons (pv 2) pa_nil))) (blkOk_by (N := N_Solver_round_count) (sc := defScope s_Solver_round_count) (by decide +kernel))
          (fun _ _ _ _ _ => pg_name (i := 3) nd' rfl (.inl rfl)) (fun _ _ _ _ _ => pts_nil) (fun _ _ _ _ _ => pe_dget hu (pv 1) (pv 3) (fun _ _ => rfl)))) pa_nil))) rfl)))
    (pss_one (ps_ret (pe_callB (cr_max rfl) (by rfl) (gf_max G) rfl (pa_cons (pe_op op_cat (pe_lst (pa_cons pe_int pa_nil)) (pe_callTy (call_listValsT rfl) (by rfl) (gf_list G) rfl (pa_cons (pe_bm0 PySem.F.plainAttrs_dict PySem.F.slot_dict_values PySem.F.type_dict_values mt_valsT (pv 1)) pa_nil))) pa_nil))))), ?_⟩
  refine fun d hd => ?_
  have s1 := Same.new (o := .dT []) hd
  have hSv1 := hSv.up s1
  have hd1 : upd H d (.dT []) d = some (.dT []) := upd_same
  generalize upd H d (.dT []) = H1 at s1 hSv1 hd1
  obtain ⟨sa, f5, hsa, hct⟩ := hSv.at_.fld G
  refine ⟨_, rfl, _, f5.up s1, sa, rfl, ⟨_, .of (s1 _ _ hsa)⟩, ?_⟩
  refine for_it (walk_list (a := sa) (xs := sq.map cr)) (fun i σ H2 => Same H H2 ∧ ∃ (kvs : List (List Key × V)) (c2 c3 : Option V), σ = [some (.ref x), some (.ref d), c2, c3] ∧ H2 d = some (.dT kvs) ∧ kvs.length ≤ i ∧ AllI kvs ∧ ∀ (j : Nat) (u : Ct), j < i → sq[j]? = some u → ∃ n : Int, valV kvs (ck u.2) = some (.int n))
    ⟨s1, [], none, none, rfl, hd1, Nat.zero_le _, (fun _ h => nomatch h), fun j u hj => absurd hj (Nat.not_lt_zero _)⟩ (fun i σ H2 _ h => .of (h.1 _ _ hsa)) ?_ ?_
  · rintro i v σ H2 H2' hi ⟨s2, kvs, c2, c3, rfl, hd2, hkl, hka, hkd⟩ ⟨rfl, hv⟩
    obtain ⟨t, ht, rfl⟩ := some_map hv
    rw [List.length_map] at hi
    obtain ⟨o1, o2, o3⟩ := hSv.ok i t ht
    have hSv2 := hSv.up s2
    have hct2 := (hct t (List.mem_of_getElem? ht)).up s2
    refine ⟨(by show 1 ≤ sizeLine; decide), fun l0 hl0 => ?_⟩
    have s3 := Same.new (o := .lst [.int 0]) hl0
    have hl03 : upd H2' l0 (.lst [.int 0]) l0 = some (.lst [.int 0]) := upd_same
    generalize upd H2' l0 (.lst [.int 0]) = H3 at s3 hl03
    refine ⟨_, rfl, _, hSv2.at_.up s3 |>.met ⟨by decide +kernel, by decide +kernel, by decide +kernel, by decide +kernel, by decide +kernel⟩ ⟨_, (cf_Solver G).cl, mt_Solver_led_to G, k_led_to G⟩, _, rfl, S, ws, x, T, sq, t, rfl, hSv2.at_.up s3, ok, hk, hct2.up s3, o1, fun H4 q rs s4 hq4 hrl hrs => ⟨q, rfl, ⟨_, .of hq4⟩, ?_⟩⟩
    refine fun D hD => lc_gr (B := H4) (walk_list (a := q) (xs := rs.map cr)) (by rw [List.length_map]; omega) hD (fun _ y _ => ∃ n : Int, y = .int n) (fun _ _ _ _ _ h => h) (fun _ _ _ s => .of (s _ _ hq4)) ?_ ?_
    · rintro j v' H5 H5' acc hj s5 hD5 ⟨rfl, hv'⟩ Fin hFin
      obtain ⟨u, hu', rfl⟩ := some_map hv'
      obtain ⟨u1, g, g1, g2, g3⟩ := hrs u (List.mem_of_getElem? hu')
      obtain ⟨u2, hu2, e2⟩ := o3 g g1 (by rw [← g2]; exact g3)
      obtain ⟨j', hj', e3⟩ := List.getElem_of_mem hu2
      rw [List.getElem_take] at e3
      have hj2 : j' < i := by rw [List.length_take] at hj'; omega
      obtain ⟨n, hn⟩ := hkd j' u2 hj2 (by rw [← e3]; exact List.getElem?_eq_getElem _)
      rw [e2, ← g2] at hn
      have hd5 := s5 _ _ (s4 _ _ (s3 _ _ hd2))
      exact ⟨rfl, _, rfl, _, rfl, d, _, rfl, .inr ⟨kvs, ck u.2, u.1, .inl hd5, rfl, s5 _ _ u1.k, hn.symm⟩, hFin _ _ (Same.refl _) ⟨n, rfl⟩⟩
    · intro H5 ys s5 hD5 hl5 hR5
      obtain ⟨ns, rfl⟩ := ints_of hR5
      rw [List.length_map, List.length_map] at hl5
      have hl05 := s5 _ _ (s4 _ _ hl03)
      refine ⟨l0, D, _, _, rfl, rfl, hl05, hD5, by simp only [List.length_singleton, List.length_map]; omega, fun p hp => ⟨p, 0 :: ns, rfl, .of (by rw [upd_same]; rfl), by simp, fun m hm1 hm2 => ?_⟩⟩
      have s25 := same_trans s2 (same_trans s3 (same_trans s4 (same_trans s5 (Same.new (o := .lst ([.int 0] ++ ns.map V.int)) hp))))
      have hd6 := (same_trans s3 (same_trans s4 (same_trans s5 (Same.new (o := .lst ([.int 0] ++ ns.map V.int)) hp)))) _ _ hd2
      have hct6 := (hct t (List.mem_of_getElem? ht)).up s25
      generalize upd H5 p (.lst ([.int 0] ++ ns.map V.int)) = H6 at s25 hd6 hct6
      refine ⟨_, _, rfl, rfl, _, rfl, _, rfl, d, _, rfl, DPut.t hd6 hct6.k (by omega), s25.put hd, putK kvs (ck t.2) (.int (1 + m)), _, _, rfl, upd_same, Nat.le_trans (length_putK _ _ _) (Nat.succ_le_succ hkl), hka.put, fun j u hj hu' => ?_⟩
      rw [valV_put]
      by_cases he : ck u.2 = ck t.2
      · rw [if_pos he]; exact ⟨_, rfl⟩
      · rw [if_neg he]
        by_cases hji : j < i
        · exact hkd j u hji hu'
        · have : j = i := by omega
          subst this
          rw [ht] at hu'
          cases hu'
          exact absurd rfl he
  · rintro σ H2 ⟨s2, kvs, c2, c3, rfl, hd2, hkl, hka, _⟩
    rw [List.length_map] at hkl
    obtain ⟨ns, hns⟩ := hka.list
    refine ⟨(by show 1 ≤ sizeLine; decide), fun l0 hl0 => ?_⟩
    have s3 := same_trans s2 (Same.new (o := .lst [.int 0]) hl0)
    have hd3 := Same.new (o := .lst [.int 0]) hl0 _ _ hd2
    have hl3 : upd H2 l0 (.lst [.int 0]) l0 = some (.lst [.int 0]) := upd_same
    generalize upd H2 l0 (.lst [.int 0]) = H3 at s3 hd3 hl3
    refine ⟨_, rfl, .inr (.inr (.inl ⟨rfl, .inr ⟨_, hd3⟩⟩)), d, _, rfl, rfl, hd3, fun p hp => ?_⟩
    have s4 := same_trans s3 (Same.new (o := valsO p d) hp)
    refine ⟨p, d, kvs, rfl, upd_same, Same.new hp _ _ hd3, fun l hl => ?_⟩
    have s5 := same_trans s4 (Same.new (o := .lst (kvs.map (·.2))) hl)
    have hl5 := Same.new (o := .lst (kvs.map (·.2))) hl _ _ (Same.new (o := valsO p d) hp _ _ hl3)
    refine ⟨l0, l, _, _, rfl, rfl, hl5, upd_same, ?_, fun q hq' => ⟨q, 0 :: ns, rfl, .of (by rw [upd_same, hns]; rfl), by simp, fun m hm1 hm2 => hq _ m (same_trans s5 (Same.new hq'))⟩⟩
    rw [List.length_map, List.length_singleton]
    omega
end
end Bn
/-! W21: the making of a solver. -/
namespace Bn
open PySem PySem.Spec PyProof.Rows L2 StX
open He (ga ma)
theorem _root_.L2.Same.add {B H : Hp} {p : Addr} {o : HO} (s : Same B H) (h : H p = some o) : Same (upd B p o) H := fun b u e => by
  by_cases hb : b = p
  · subst hb
    rw [upd_same] at e
    rw [h, e]
  · rw [upd_ne hb] at e
    exact s b u e
section
variable {w : World} {K : Fr} {mg : Str → Option Value} {base : Heap}
def pSolI (K : Fr) : Pr := fun vs H Q => ∃ (S : Sm) (ws : List Str) (x dx sh wt : Addr) (B : Hp), vs = [.ref x, .ref sh, .ref wt, .non] ∧ Same B H ∧ B x = none ∧ H x = some (.ins (ga K "Solver") dx []) ∧ IsSheet K B sh S ∧ B wt = some (.tup (ws.map V.str)) ∧ S.Ok ∧ (∀ k ∈ ws, k ∈ S.kinds) ∧ ws.length ≤ 16 ∧
  ∀ (H' : Hp) (T : Vn) (ts : List Ct), Same B H' → Solved K H' x sh S ws T ts → Q .non H'
theorem k_Solver_init (G : GD K mg) : Keeps PP w K mg base 13 (ma K (ga K "Solver") "__init__") (pSolI K) := by
  obtain ⟨fd, F⟩ := fd_Solver_init G
  refine kp_fnN (k := 12) F sc_Solver_init (fun _ _ _ _ _ _ us hl => match us, hl with | [_, _, _, _], _ => rfl) (by rintro _ _ _ ⟨S, ws, x, dx, sh, wt, B, rfl, _⟩; rfl) fun cdv A outer s H vs Q E hr hp => ?_
  obtain ⟨S, ws, x, dx, sh, wt, B, rfl, sB, hxB, hx, hsh, hwt, ok, hk, hlen, hq⟩ := hp
  have nd' := sc_Solver_init.nd
  have hs := sizeLine_eq
  have hu := hu_of hr.r
  have cf := cf_Solver G
  have hc4 := ok.c4
  refine ⟨_, pss_cons (ps_fld (pv 0) (pv 1) rfl)
    (pss_cons (ps_fld (pv 0) (pe_callTy call_tuple_of (by rfl) (gf_tuple G) rfl (pa_cons (pv 2) pa_nil)) rfl)
    (pss_cons (ps_fld (pv 0) (pe_dc (own := [("row", 4)]) (g := gName 4) (tt := tYes) (tk := tOp (rI0 fun i j => .int (i + j)) (tVar 4) (tC (.int 1))) (tv := tDNewK) rfl nd' (pi_range1 (by rfl) (gf_range G) (pa_cons (pe_callB call_len_seq (by rfl) (gf_len G) rfl (pa_cons (pe_fl (pv 0)) pa_nil)) pa_nil)) (blkOk_by (N := N_Solver_init) (sc := defScope s_Solver_init) (by decide +kernel))
        (fun _ _ _ _ _ => pg_name (i := 4) nd' rfl (.inl rfl)) (fun _ _ _ _ _ => pts_nil) (fun _ _ _ _ _ => pe_op op_add (pv 4) pe_int) (fun _ _ _ _ _ => pe_dnewK)) rfl)
    (pss_cons (ps_dput hu (pe_fl (pv 0)) pe_int (pe_mm0 hr (pv 1)) rfl)
    (pss_cons (ps_dput hu (pe_fl (pv 0)) (pe_op op_add (pe_callB call_len_seq (by rfl) (gf_len G) rfl (pa_cons (pe_fl (pv 0)) pa_nil)) pe_int) (pe_ifExp (pt_cmp (pc_isN (pv 3))) pe_dnewK pe_nv) rfl)
    (pss_cons (ps_fld (pv 0) pe_dnewT rfl)
    (pss_cons (ps_fld (pv 0) (pe_lst pa_nil) rfl)
    (pss_one (ps_expr (pe_mm0 hr (pv 0)))))))))), ?_⟩
  have hwx : wt ≠ x := ne_of_none hwt hxB
  -- own_sheet, own_word
  refine ⟨_, rfl, _, rfl, x, _, dx, _, rfl, hx, cf.cl, cf.no _ (by decide +kernel), (by show 0 < 1000; decide), ?_⟩
  have s1 := sB.put (o := .ins (ga K "Solver") dx (putF "own_sheet" (.ref sh) [])) hxB
  have x1 : upd H x (.ins (ga K "Solver") dx (putF "own_sheet" (.ref sh) [])) x = some (.ins (ga K "Solver") dx [("own_sheet", .ref sh)]) := upd_same
  generalize upd H x (.ins (ga K "Solver") dx (putF "own_sheet" (.ref sh) [])) = H1 at s1 x1
  refine ⟨_, rfl, wt, _, rfl, .inr ⟨.of (s1 _ _ hwt), _, rfl, x, _, dx, _, rfl, x1, cf.cl, cf.no _ (by decide +kernel), (by show 1 < 1000; decide), ?_⟩⟩
  have s2 := s1.put (o := .ins (ga K "Solver") dx (putF "own_word" (.ref wt) [("own_sheet", .ref sh)])) hxB
  have x2 : upd H1 x (.ins (ga K "Solver") dx (putF "own_word" (.ref wt) [("own_sheet", .ref sh)])) x = some (.ins (ga K "Solver") dx [("own_sheet", .ref sh), ("own_word", .ref wt)]) := upd_same
  generalize upd H1 x (.ins (ga K "Solver") dx (putF "own_word" (.ref wt) [("own_sheet", .ref sh)])) = H2 at s2 x2
  -- own_rows
  refine ⟨_, rfl, _, fld_of x2 cf (by decide +kernel) (by rfl), wt, _, rfl, .inr (.of (s2 _ _ hwt)), _, rfl, (by rw [List.length_map]; omega), (by rw [List.length_map]; omega), fun D hD => dc_it walk_range (fun i H3 => Same H2 H3 ∧ ∃ (ra : Int → Addr) (kvs : List (Key × V)), H3 D = some (.dK kvs) ∧ kvs.length ≤ i ∧ (∀ r : Int, 1 ≤ r → r ≤ i → valV kvs (.inl r) = some (.ref (ra r)) ∧ H3 (ra r) = some (.dK []) ∧ ra r ≠ D ∧ B (ra r) = none) ∧ ∀ r r' : Int, 1 ≤ r → r ≤ i → 1 ≤ r' → r' ≤ i → ra r' = ra r → r' = r)
    ⟨Same.new hD, fun _ => 0, [], upd_same, Nat.zero_le _, fun r h1 h2 => absurd h1 (by omega), fun r r' h1 h2 => absurd h1 (by omega)⟩ (fun _ _ _ _ => trivial) ?_ ?_⟩
  · rintro i y H3 H3' hi ⟨s3, ra, kvs, hD3, hkl, hra, hinj⟩ ⟨rfl, rfl⟩
    rw [List.length_map] at hi
    refine ⟨rfl, ?_⟩
    unfold tYes
    refine iteT ?_
    refine ⟨_, rfl, _, _, rfl, rfl, fun e he => ?_⟩
    have he2 : B e = none := (same_trans s2 s3).free he
    have hne : ∀ r : Int, 1 ≤ r → r ≤ i → ra r ≠ e := fun r h1 h2 => ne_of_none (hra r h1 h2).2.1 he
    have hDe : e ≠ D := (ne_of_none hD3 he).symm
    have hD4 : upd H3' e (.dK []) D = some (.dK kvs) := by rw [upd_ne hDe.symm]; exact hD3
    refine ⟨kvs, .inl ((0 + ((i : Nat) : Int)) + 1), rfl, hD4, by omega, L2.Same.put (same_trans s3 (Same.new he)) hD, fun r => if r = ((i : Nat) : Int) + 1 then e else ra r, _, upd_same, Nat.le_trans (length_putK _ _ _) (Nat.succ_le_succ hkl), fun r h1 h2 => ?_, fun r r' h1 h2 h3 h4 => ?_⟩
    · rw [valV_put, Int.zero_add]
      by_cases hr' : r = ((i : Nat) : Int) + 1
      · subst hr'
        rw [if_pos rfl]
        dsimp only
        rw [if_pos rfl]
        exact ⟨rfl, by rw [upd_ne hDe, upd_same], hDe, he2⟩
      · rw [if_neg (fun z => hr' (Sum.inl.inj z))]
        dsimp only
        rw [if_neg hr']
        obtain ⟨q1, q2, q3, q4⟩ := hra r h1 (by omega)
        exact ⟨q1, by rw [upd_ne q3, upd_ne (hne r h1 (by omega))]; exact q2, q3, q4⟩
    · show (if r' = ((i : Nat) : Int) + 1 then e else ra r') = (if r = ((i : Nat) : Int) + 1 then e else ra r) → _
      by_cases e1 : r' = ((i : Nat) : Int) + 1 <;> by_cases e2 : r = ((i : Nat) : Int) + 1
      · intro _; omega
      · rw [if_pos e1, if_neg e2]; intro z; exact absurd z.symm (hne r h1 (by omega))
      · rw [if_neg e1, if_pos e2]; intro z; exact absurd z (hne r' h3 (by omega))
      · rw [if_neg e1, if_neg e2]; exact hinj r r' h1 (by omega) h3 (by omega)
  rintro H3 ⟨s3, ra, kvs, hD3, hkl, hra, hinj⟩
  rw [List.length_map] at hkl hra hinj
  have s23 := same_trans s2 s3
  have x3 := s3 _ _ x2
  have hDB : B D = none := s2.free hD
  have hDx : D ≠ x := ne_of hD3 x3 (fun z => nomatch z)
  have hrx : ∀ r : Int, 1 ≤ r → r ≤ ws.length → ra r ≠ x := fun r h1 h2 => ne_of (hra r h1 (by omega)).2.1 x3 (fun z => nomatch z)
  refine ⟨_, rfl, x, _, dx, _, rfl, x3, cf.cl, cf.no _ (by decide +kernel), (by show 2 < 1000; decide), ?_⟩
  have s4 := s23.put (o := .ins (ga K "Solver") dx (putF "own_rows" (.ref D) [("own_sheet", .ref sh), ("own_word", .ref wt)])) hxB
  have x4 : upd H3 x (.ins (ga K "Solver") dx (putF "own_rows" (.ref D) [("own_sheet", .ref sh), ("own_word", .ref wt)])) x = some (.ins (ga K "Solver") dx [("own_sheet", .ref sh), ("own_word", .ref wt), ("own_rows", .ref D)]) := upd_same
  have d4 : upd H3 x (.ins (ga K "Solver") dx (putF "own_rows" (.ref D) [("own_sheet", .ref sh), ("own_word", .ref wt)])) D = some (.dK kvs) := by rw [upd_ne hDx]; exact hD3
  have r4 : ∀ r : Int, 1 ≤ r → r ≤ ws.length → upd H3 x (.ins (ga K "Solver") dx (putF "own_rows" (.ref D) [("own_sheet", .ref sh), ("own_word", .ref wt)])) (ra r) = some (.dK []) := fun r h1 h2 => by rw [upd_ne (hrx r h1 h2)]; exact (hra r h1 (by omega)).2.1
  generalize upd H3 x (.ins (ga K "Solver") dx (putF "own_rows" (.ref D) [("own_sheet", .ref sh), ("own_word", .ref wt)])) = H4 at s4 x4 d4 r4
  -- own_rows[0]
  refine ⟨_, rfl, _, sh_met (hsh.up s4) ⟨by decide +kernel, by decide +kernel, by decide +kernel, by decide +kernel, by decide +kernel⟩ ⟨_, (cf_Sheet G).cl, mt_Sheet_top G, (k_Sheet_top G).mono (by omega)⟩, sh, S, rfl, hsh.up s4, fun H5 t s5 ht0 ht => ?_⟩
  have htB : B t = none := s4.free ht0
  have s45 := same_trans s4 s5
  have x5 := s5 _ _ x4
  have d5 := s5 _ _ d4
  have htD : t ≠ D := (ne_of_none d4 ht0).symm
  have htr : ∀ r : Int, 1 ≤ r → r ≤ ws.length → ra r ≠ t := fun r h1 h2 => ne_of_none (r4 r h1 h2) ht0
  refine ⟨_, rfl, _, fld_of x5 cf (by decide +kernel) (by rfl), D, _, rfl, DPut.k (k := .inl 0) d5 (by omega), ?_⟩
  have s6 := s45.put (o := .dK (putK kvs (.inl 0) (.ref t))) hDB
  have x6 : upd H5 D (.dK (putK kvs (.inl 0) (.ref t))) x = some (.ins (ga K "Solver") dx [("own_sheet", .ref sh), ("own_word", .ref wt), ("own_rows", .ref D)]) := by rw [upd_ne hDx.symm]; exact x5
  have d6 : upd H5 D (.dK (putK kvs (.inl 0) (.ref t))) D = some (.dK (putK kvs (.inl 0) (.ref t))) := upd_same
  have t6 : upd H5 D (.dK (putK kvs (.inl 0) (.ref t))) t = some (.dK (dct S.cols fun x => .int (S.top x))) := by rw [upd_ne htD]; exact ht
  have r6 : ∀ r : Int, 1 ≤ r → r ≤ ws.length → upd H5 D (.dK (putK kvs (.inl 0) (.ref t))) (ra r) = some (.dK []) := fun r h1 h2 => by rw [upd_ne (hra r h1 (by omega)).2.2.1]; exact s5 _ _ (r4 r h1 h2)
  generalize upd H5 D (.dK (putK kvs (.inl 0) (.ref t))) = H6 at s6 x6 d6 t6 r6
  have hl6 := length_putK kvs (.inl 0) (V.ref t)
  -- own_rows[n + 1]
  refine ⟨_, rfl, _, rfl, ifT rfl (fun e he => ?_)⟩
  have heB : B e = none := s6.free he
  have s7 := same_trans s6 (Same.new (o := .dK []) he)
  have n7 := Same.new (o := .dK []) he
  have heD : e ≠ D := (ne_of_none d6 he).symm
  have het : e ≠ t := (ne_of_none t6 he).symm
  have her : ∀ r : Int, 1 ≤ r → r ≤ ws.length → ra r ≠ e := fun r h1 h2 => ne_of_none (r6 r h1 h2) he
  have e7 : upd H6 e (.dK []) e = some (.dK []) := upd_same
  refine ⟨_, rfl, _, fld_of (n7 _ _ x6) cf (by decide +kernel) (by rfl), _, rfl, _, fld_of (n7 _ _ x6) cf (by decide +kernel) (by rfl), wt, _, rfl, .inr (.of (s7 _ _ hwt)), _, _, rfl, rfl, D, _, rfl, DPut.k (k := .inl (((ws.map V.str).length : Int) + 1)) (n7 _ _ d6) (by omega), ?_⟩
  rw [List.length_map]
  have s8 := s7.put (o := .dK (putK (putK kvs (.inl 0) (.ref t)) (.inl ((ws.length : Int) + 1)) (.ref e))) hDB
  have x8 : upd (upd H6 e (.dK [])) D (.dK (putK (putK kvs (.inl 0) (.ref t)) (.inl ((ws.length : Int) + 1)) (.ref e))) x = some (.ins (ga K "Solver") dx [("own_sheet", .ref sh), ("own_word", .ref wt), ("own_rows", .ref D)]) := by rw [upd_ne hDx.symm]; exact n7 _ _ x6
  have d8 : upd (upd H6 e (.dK [])) D (.dK (putK (putK kvs (.inl 0) (.ref t)) (.inl ((ws.length : Int) + 1)) (.ref e))) D = some (.dK (putK (putK kvs (.inl 0) (.ref t)) (.inl ((ws.length : Int) + 1)) (.ref e))) := upd_same
  have t8 : upd (upd H6 e (.dK [])) D (.dK (putK (putK kvs (.inl 0) (.ref t)) (.inl ((ws.length : Int) + 1)) (.ref e))) t = some (.dK (dct S.cols fun x => .int (S.top x))) := by rw [upd_ne htD]; exact n7 _ _ t6
  have e8 : upd (upd H6 e (.dK [])) D (.dK (putK (putK kvs (.inl 0) (.ref t)) (.inl ((ws.length : Int) + 1)) (.ref e))) e = some (.dK []) := by rw [upd_ne heD]; exact e7
  have r8 : ∀ r : Int, 1 ≤ r → r ≤ ws.length → upd (upd H6 e (.dK [])) D (.dK (putK (putK kvs (.inl 0) (.ref t)) (.inl ((ws.length : Int) + 1)) (.ref e))) (ra r) = some (.dK []) := fun r h1 h2 => by rw [upd_ne (hra r h1 (by omega)).2.2.1]; exact n7 _ _ (r6 r h1 h2)
  generalize upd (upd H6 e (.dK [])) D (.dK (putK (putK kvs (.inl 0) (.ref t)) (.inl ((ws.length : Int) + 1)) (.ref e))) = H8 at s8 x8 d8 t8 e8 r8
  clear e7 n7 s7 d6 x6 t6 r6 s6
  -- own_needs
  refine fun nd hnd => ?_
  have hndB : B nd = none := s8.free hnd
  have s9 := same_trans s8 (Same.new (o := .dT []) hnd)
  have n9 := Same.new (o := .dT []) hnd
  have hndx : nd ≠ x := (ne_of_none x8 hnd).symm
  have hndD : nd ≠ D := (ne_of_none d8 hnd).symm
  have m9 : upd H8 nd (.dT []) nd = some (.dT []) := upd_same
  refine ⟨_, rfl, x, _, dx, _, rfl, n9 _ _ x8, cf.cl, cf.no _ (by decide +kernel), (by show 3 < 1000; decide), ?_⟩
  have s10 := s9.put (o := .ins (ga K "Solver") dx (putF "own_needs" (.ref nd) [("own_sheet", .ref sh), ("own_word", .ref wt), ("own_rows", .ref D)])) hxB
  have x10 : upd (upd H8 nd (.dT [])) x (.ins (ga K "Solver") dx (putF "own_needs" (.ref nd) [("own_sheet", .ref sh), ("own_word", .ref wt), ("own_rows", .ref D)])) x = some (.ins (ga K "Solver") dx [("own_sheet", .ref sh), ("own_word", .ref wt), ("own_rows", .ref D), ("own_needs", .ref nd)]) := upd_same
  have o10 : ∀ {b : Addr} {o : HO}, H8 b = some o → b ≠ x → upd (upd H8 nd (.dT [])) x (.ins (ga K "Solver") dx (putF "own_needs" (.ref nd) [("own_sheet", .ref sh), ("own_word", .ref wt), ("own_rows", .ref D)])) b = some o := fun h1 h2 => by rw [upd_ne h2]; exact n9 _ _ h1
  have m10 : upd (upd H8 nd (.dT [])) x (.ins (ga K "Solver") dx (putF "own_needs" (.ref nd) [("own_sheet", .ref sh), ("own_word", .ref wt), ("own_rows", .ref D)])) nd = some (.dT []) := by rw [upd_ne hndx]; exact m9
  have d10 := o10 d8 hDx
  have t10 := o10 t8 (ne_of t8 x8 (fun z => nomatch z))
  have e10 := o10 e8 (ne_of e8 x8 (fun z => nomatch z))
  have r10 : ∀ r : Int, 1 ≤ r → r ≤ ws.length → _ := fun r h1 h2 => o10 (r8 r h1 h2) (hrx r h1 h2)
  clear o10
  generalize upd (upd H8 nd (.dT [])) x (.ins (ga K "Solver") dx (putF "own_needs" (.ref nd) [("own_sheet", .ref sh), ("own_word", .ref wt), ("own_rows", .ref D)])) = H10 at s10 x10 m10 d10 t10 e10 r10
  -- own_sequence
  refine ⟨Nat.zero_le _, fun sq hsq => ?_⟩
  have hsqB : B sq = none := s10.free hsq
  have s11 := same_trans s10 (Same.new (o := .lst []) hsq)
  have n11 := Same.new (o := .lst []) hsq
  have hsqx : sq ≠ x := (ne_of_none x10 hsq).symm
  have hsqD : sq ≠ D := (ne_of_none d10 hsq).symm
  refine ⟨_, rfl, x, _, dx, _, rfl, n11 _ _ x10, cf.cl, cf.no _ (by decide +kernel), (by show 4 < 1000; decide), ?_⟩
  have s12 := s11.put (o := .ins (ga K "Solver") dx (putF "own_sequence" (.ref sq) [("own_sheet", .ref sh), ("own_word", .ref wt), ("own_rows", .ref D), ("own_needs", .ref nd)])) hxB
  have x12 : upd (upd H10 sq (.lst [])) x (.ins (ga K "Solver") dx (putF "own_sequence" (.ref sq) [("own_sheet", .ref sh), ("own_word", .ref wt), ("own_rows", .ref D), ("own_needs", .ref nd)])) x = some (.ins (ga K "Solver") dx (solFs sh wt D nd sq)) := upd_same
  have o12 : ∀ {b : Addr} {o : HO}, H10 b = some o → b ≠ x → upd (upd H10 sq (.lst [])) x (.ins (ga K "Solver") dx (putF "own_sequence" (.ref sq) [("own_sheet", .ref sh), ("own_word", .ref wt), ("own_rows", .ref D), ("own_needs", .ref nd)])) b = some o := fun h1 h2 => by rw [upd_ne h2]; exact n11 _ _ h1
  have q12 : upd (upd H10 sq (.lst [])) x (.ins (ga K "Solver") dx (putF "own_sequence" (.ref sq) [("own_sheet", .ref sh), ("own_word", .ref wt), ("own_rows", .ref D), ("own_needs", .ref nd)])) sq = some (.lst []) := by rw [upd_ne hsqx, upd_same]
  have m12 := o12 m10 hndx
  have d12 := o12 d10 hDx
  have t12 := o12 t10 (ne_of t10 x10 (fun z => nomatch z))
  have e12 := o12 e10 (ne_of e10 x10 (fun z => nomatch z))
  have r12 : ∀ r : Int, 1 ≤ r → r ≤ ws.length → _ := fun r h1 h2 => o12 (r10 r h1 h2) (hrx r h1 h2)
  clear o12
  generalize upd (upd H10 sq (.lst [])) x (.ins (ga K "Solver") dx (putF "own_sequence" (.ref sq) [("own_sheet", .ref sh), ("own_word", .ref wt), ("own_rows", .ref D), ("own_needs", .ref nd)])) = H12 at s12 x12 q12 m12 d12 t12 e12 r12
  -- solve
  have hbb : Same B (upd (upd B D (.dK (putK (putK kvs (.inl 0) (.ref t)) (.inl ((ws.length : Int) + 1)) (.ref e)))) x (.ins (ga K "Solver") dx (solFs sh wt D nd sq))) := same_trans (Same.new hDB) (Same.new (by rw [upd_ne hDx.symm]; exact hxB))
  have hno : ∀ b : Addr, B b = none → b ≠ D → b ≠ x → upd (upd B D (.dK (putK (putK kvs (.inl 0) (.ref t)) (.inl ((ws.length : Int) + 1)) (.ref e)))) x (.ins (ga K "Solver") dx (solFs sh wt D nd sq)) b = none := fun b h1 h2 h3 => by rw [upd_ne h3, upd_ne h2]; exact h1
  have htx : t ≠ x := ne_of t12 x12 (fun z => nomatch z)
  have hex : e ≠ x := ne_of e12 x12 (fun z => nomatch z)
  refine ⟨_, rfl, _, ⟨x, _, dx, _, rfl, x12, by rfl, ⟨_, cf.cl, mt_Solver_solve G, k_solve G⟩⟩, S, ws, x, sh, wt, D, nd, sq, (fun r => if r = 0 then t else if r = (ws.length : Int) + 1 then e else ra r), _, rfl,
    ⟨⟨dx, upd_same⟩, hsh.up hbb, hbb _ _ hwt, _, by rw [upd_ne hDx, upd_same], fun r h0 h1 => ?_⟩, (s12.add d12).add x12, ok, hk, hlen, fun r h0 h1 => ?_, fun r h0 h1 => ?_, fun r r' h0 h1 h2 h3 => ?_, hno nd hndB hndD hndx, m12, hno sq hsqB hsqD hsqx, q12, fun H' T ts s' hs' => hq H' T ts (same_trans hbb s') hs'⟩
  · rw [valV_put, valV_put]
    by_cases e1 : r = 0
    · subst e1
      rw [if_neg (fun z => by have := Sum.inl.inj z; omega), if_pos rfl, if_pos rfl]
    · rw [if_neg e1]
      by_cases e2 : r = (ws.length : Int) + 1
      · rw [if_pos e2, if_pos (by rw [e2])]
      · rw [if_neg e2, if_neg (fun z => e2 (Sum.inl.inj z)), if_neg (fun z => e1 (Sum.inl.inj z))]
        exact (hra r (by omega) (by omega)).1
  · show RowK H12 (if r = 0 then t else if r = (ws.length : Int) + 1 then e else ra r) ((prb S ws).start r) 10
    by_cases e1 : r = 0
    · rw [if_pos e1]
      refine ⟨_, t12, by rw [dct_len]; omega, fun c => ?_⟩
      rw [valV_dct]
      unfold Prb.start
      rw [if_pos e1]
      show _ = oi (if c ∈ S.cols then some (S.top c) else none)
      by_cases hc : c ∈ S.cols
      · rw [if_pos hc, if_pos hc]; rfl
      · rw [if_neg hc, if_neg hc]; rfl
    · rw [if_neg e1]
      have z : ∀ c, (prb S ws).start r c = none := fun c => by unfold Prb.start; rw [if_neg e1]
      by_cases e2 : r = (ws.length : Int) + 1
      · rw [if_pos e2]
        exact ⟨[], e12, Nat.zero_le _, fun c => by rw [z c]; rfl⟩
      · rw [if_neg e2]
        exact ⟨[], r12 r (by omega) (by omega), Nat.zero_le _, fun c => by rw [z c]; rfl⟩
  · show upd (upd B D _) x _ (if r = 0 then t else if r = (ws.length : Int) + 1 then e else ra r) = none
    by_cases e1 : r = 0
    · rw [if_pos e1]; exact hno t htB htD htx
    · rw [if_neg e1]
      by_cases e2 : r = (ws.length : Int) + 1
      · rw [if_pos e2]; exact hno e heB heD hex
      · rw [if_neg e2]
        obtain ⟨_, _, q3, q4⟩ := hra r (by omega) (by omega)
        exact hno _ q4 q3 (hrx r (by omega) (by omega))
  · show (if r' = 0 then t else if r' = (ws.length : Int) + 1 then e else ra r') = (if r = 0 then t else if r = (ws.length : Int) + 1 then e else ra r) → _
    by_cases a1 : r' = 0 <;> by_cases b1 : r = 0
    · intro _; omega
    · rw [if_pos a1, if_neg b1]
      by_cases b2 : r = (ws.length : Int) + 1
      · rw [if_pos b2]; intro z; exact absurd z.symm het
      · rw [if_neg b2]; intro z; exact absurd z.symm (htr r (by omega) (by omega))
    · rw [if_neg a1, if_pos b1]
      by_cases a2 : r' = (ws.length : Int) + 1
      · rw [if_pos a2]; intro z; exact absurd z het
      · rw [if_neg a2]; intro z; exact absurd z (htr r' (by omega) (by omega))
    · rw [if_neg a1, if_neg b1]
      by_cases a2 : r' = (ws.length : Int) + 1 <;> by_cases b2 : r = (ws.length : Int) + 1
      · intro _; omega
      · rw [if_pos a2, if_neg b2]; intro z; exact absurd z.symm (her r (by omega) (by omega))
      · rw [if_neg a2, if_pos b2]; intro z; exact absurd z (her r' (by omega) (by omega))
      · rw [if_neg a2, if_neg b2]; exact hinj r r' (by omega) (by omega) (by omega) (by omega)
end
end Bn
/-! W22: cuts. -/
namespace Bn
open PySem PySem.Spec PyProof.Rows L2 StX
open He (ga ma)
/-- a solver's rows -/
def SolV (K : Fr) (H : Hp) (x : Addr) (n : Nat) (T : Vn) : Prop := ∃ dx sh wt rd nd sa kvs ra, H x = some (.ins (ga K "Solver") dx (solFs sh wt rd nd sa)) ∧ H rd = some (.dK kvs) ∧ (∀ r : Int, 0 ≤ r → r ≤ n + 1 → valV kvs (.inl r) = some (.ref (ra r))) ∧ RowsV H n ra T 20000
theorem SolV.up {K : Fr} {H H' : Hp} {x : Addr} {n : Nat} {T : Vn} (s : Same H H') (h : SolV K H x n T) : SolV K H' x n T := by
  obtain ⟨dx, sh, wt, rd, nd, sa, kvs, ra, h1, h2, h3, h4⟩ := h
  exact ⟨dx, sh, wt, rd, nd, sa, kvs, ra, s _ _ h1, s _ _ h2, h3, h4.up s⟩
theorem SolV.updL {K : Fr} {H : Hp} {x l : Addr} {n : Nat} {T : Vn} {xs : List V} {o : HO} (h : SolV K H x n T) (hl : H l = some (.lst xs)) : SolV K (upd H l o) x n T := by
  obtain ⟨dx, sh, wt, rd, nd, sa, kvs, ra, h1, h2, h3, h4⟩ := h
  exact ⟨dx, sh, wt, rd, nd, sa, kvs, ra, upd_of h1 hl (fun z => nomatch z), upd_of h2 hl (fun z => nomatch z), h3, h4.upd hl (fun _ z => nomatch z)⟩
theorem SolAt.v {K : Fr} {H : Hp} {x : Addr} {S : Sm} {ws : List Str} {T : Vn} {sq : List Ct} (h : SolAt K H x S ws T sq) : SolV K H x ws.length T := by
  obtain ⟨sh, wt, rd, nd, sa, ra, ⟨⟨dx, h1⟩, _, _, ⟨kvs, h2, h3⟩⟩, h4, _⟩ := h
  exact ⟨dx, sh, wt, rd, nd, sa, kvs, ra, h1, h2, h3, h4⟩
abbrev cutFs (sh wt x : Addr) (n : Int) : List (Str × V) := [("own_sheet", .ref sh), ("own_word", .ref wt), ("own_foot", .non), ("own_solver", .ref x), ("own_rounds", .int n)]
def CutAt (K : Fr) (H : Hp) (y : Addr) (ws : List Str) (sh : Addr) (T : Vn) : Prop := ∃ dx wt x n, H y = some (.ins (ga K "Cut") dx (cutFs sh wt x n)) ∧ H wt = some (.tup (ws.map V.str)) ∧ SolV K H x ws.length T
theorem CutAt.up {K : Fr} {H H' : Hp} {y sh : Addr} {ws : List Str} {T : Vn} (s : Same H H') (h : CutAt K H y ws sh T) : CutAt K H' y ws sh T := by
  obtain ⟨dx, wt, x, n, h1, h2, h3⟩ := h
  exact ⟨dx, wt, x, n, s _ _ h1, s _ _ h2, h3.up s⟩
theorem CutAt.updL {K : Fr} {H : Hp} {y sh l : Addr} {ws : List Str} {T : Vn} {xs : List V} {o : HO} (h : CutAt K H y ws sh T) (hl : H l = some (.lst xs)) : CutAt K (upd H l o) y ws sh T := by
  obtain ⟨dx, wt, x, n, h1, h2, h3⟩ := h
  exact ⟨dx, wt, x, n, upd_of h1 hl (fun z => nomatch z), upd_of h2 hl (fun z => nomatch z), h3.updL hl⟩
theorem val_kinds {S : Sm} (ok : S.Ok) : ∀ {ws : List Str} {i : Int}, Val S.plan i ws → ∀ k ∈ ws, k ∈ S.kinds
  | [], _, _, _, h => nomatch h
  | a :: ws, i, ⟨r, h1, h2, h3⟩, k, h => by
    rcases List.mem_cons.mp h with rfl | h
    · exact (ok.pr r (List.mem_of_getElem? h1)).2.2.2.1 _ h2
    · exact val_kinds ok h3 k h
theorem Solved.updI {K : Fr} {H : Hp} {x sh y C dy : Addr} {fs : List (Str × V)} {S : Sm} {ws : List Str} {T : Vn} {ts : List Ct} {o : HO} (h : Solved K H x sh S ws T ts) (hy : H y = some (.ins C dy fs)) (hyx : x ≠ y) (hS : IsSheet K (upd H y o) sh S) : Solved K (upd H y o) x sh S ws T ts := by
  obtain ⟨⟨sh', wt, rd, nd, sa, ra, ⟨⟨dx, h1⟩, _, h2, ⟨kvs, h3, h4⟩⟩, h5, h6, h7⟩, h8, h9, h10, h11, ⟨dx', wt', rd', nd', sa', h12⟩⟩ := h
  have e : sh' = sh := by
    rw [h1] at h12
    injection h12 with h12
    injection h12 with _ _ h12
    injection h12 with h12 _
    injection h12 with _ h12
    injection h12
  subst e
  exact ⟨⟨sh', wt, rd, nd, sa, ra, ⟨⟨dx, by rw [upd_ne hyx]; exact h1⟩, hS, upd_of h2 hy (fun z => nomatch z), ⟨kvs, upd_of h3 hy (fun z => nomatch z), h4⟩⟩, h5.upd hy (fun _ z => nomatch z), upd_of h6 hy (fun z => nomatch z), fun t ht => (h7 t ht).upd hy (fun _ z => nomatch z)⟩, h8, h9, h10, h11, ⟨dx, wt, rd, nd, sa, by rw [upd_ne hyx]; exact h1⟩⟩
section
variable {w : World} {K : Fr} {mg : Str → Option Value} {base : Heap}
def pVal2 (K : Fr) : Pr := fun vs H Q => ∃ (n : Nat) (x : Addr) (T : Vn) (t : Ct), vs = [.ref x, .ref t.1] ∧ SolV K H x n T ∧ CellAt H t ∧ 1 ≤ t.2.1 ∧ t.2.1 ≤ n ∧ Q (oi (T t.2.1 t.2.2)) H
theorem k_value_of2 (G : GD K mg) : Keeps PP w K mg base 1 (ma K (ga K "Solver") "value_of") (pVal2 K) := by
  obtain ⟨fd, F⟩ := fd_Solver_value_of G
  refine kp_fn0 (k := 0) F sc_Solver_value_of (fun _ _ _ _ _ _ us hl => match us, hl with | [_, _], _ => rfl) (by rintro _ _ _ ⟨n, x, T, t, rfl, _⟩; rfl) fun cdv A outer s H vs Q E hr hp => ?_
  obtain ⟨n, x, T, t, rfl, ⟨dx, sh, wt, rd, nd, sa, kvs, ra, h0, hrd, hg, hR⟩, ht, h1, h2, hq⟩ := hp
  have f3 := fld_of h0 (cf_Solver G) (f := "own_rows") (by decide +kernel) (v := .ref rd) (by rfl)
  obtain ⟨kr, e1, _, e2⟩ := hR t.2.1 (by omega) (by omega)
  refine ⟨_, pss_one (ps_ret (pe_dget2 (hu_of hr.r) (pe_dget (hu_of hr.r) (pe_fl (pv 0)) (pe_ix ix_tup (pv 1) pe_int (fun _ _ => rfl)) (fun _ _ => rfl)) (pe_ix ix_tup (pv 1) pe_int (fun _ _ => rfl)) pe_non ⟨rfl, rfl, rfl, rfl⟩)), ?_⟩
  refine ⟨_, rfl, _, f3, _, rfl, t.1, _, 0, _, rfl, rfl, .of ht, rfl, rd, _, rfl, .inl ⟨_, .inl t.2.1, .inl hrd, rfl, (hg _ (by omega) (by omega)).symm⟩, ?_⟩
  refine ⟨_, rfl, .inl ⟨kr, .inl e1⟩, _, rfl, t.1, _, 1, _, rfl, rfl, .of ht, rfl, _, .inl ⟨kr, .inr t.2.2, .inl e1, rfl, rfl⟩, ?_⟩
  rw [e2]
  exact hq
def pWcol (K : Fr) : Pr := fun vs H Q => ∃ sh S c, vs = [.ref sh, .str c] ∧ IsSheet K H sh S ∧ c ∈ S.cols ∧ Q .non H
theorem k_want_column (G : GD K mg) : Keeps PP w K mg base 3 (ga K "want_column") (pWcol K) := by
  obtain ⟨fd, F⟩ := fd_want_column G
  refine kp_fn0 (k := 2) F sc_want_column (fun _ _ _ _ _ _ us hl => match us, hl with | [_, _], _ => rfl) (by rintro _ _ _ ⟨a, S, k, rfl, _⟩; rfl) fun cdv A outer s H vs Q E hr hp => ?_
  obtain ⟨sh, S, c, rfl, hS, hc, hq⟩ := hp
  refine ⟨_, pss_one (ps_if (PW.pt (pw_or (pt_not (pt_val (pe_callB call_isi (by rfl) (gf_isinstance G) rfl (pa_cons (pv 1) (pa_cons (pe_bltn (by rfl) (gf_str G) rfl (show RelV (.ty "str") _ from rfl)) pa_nil))))) (pw_or1 (pt_cmpR op_notIn_seq (pv 1) (pe_pp (k := 1) hr (pv 0)) rfl)))) pss_never pss_nil), ?_⟩
  refine ⟨_, rfl, _, _, _, _, true, rfl, .ty _, .base (.str _), kit_ty (by decide +kernel), _, rfl, iteF ?_⟩
  refine ⟨_, rfl, _, rfl, _, sh_prp hS (prp_cols G (Nat.le_refl _)), sh, S, rfl, hS, fun ct hct => ⟨ct, _, rfl, .inr (.of hct), rfl, flat_strs, _, rfl, ifF ?_ hq⟩⟩
  show (!inV (.str c) (S.cols.map V.str)) = false
  rw [inV_strs, decide_eq_true hc]
  rfl
theorem cut_fld (G : GD K mg) {H : Hp} {y sh : Addr} {ws : List Str} {T : Vn} (h : CutAt K H y ws sh T) : FldAt K H (.ref y) "own_sheet" (.ref sh) ∧ (∃ wt, FldAt K H (.ref y) "own_word" (.ref wt) ∧ H wt = some (.tup (ws.map V.str))) ∧ FldAt K H (.ref y) "own_foot" .non ∧ ∃ x, FldAt K H (.ref y) "own_solver" (.ref x) ∧ SolV K H x ws.length T := by
  obtain ⟨dx, wt, x, n, h1, h2, h3⟩ := h
  have cf := cf_Cut G
  exact ⟨fld_of h1 cf (by decide +kernel) (by rfl), ⟨wt, fld_of h1 cf (by decide +kernel) (by rfl), h2⟩, fld_of h1 cf (by decide +kernel) (by rfl), x, fld_of h1 cf (by decide +kernel) (by rfl), h3⟩
theorem cut_met {W : Addr → Str → Pr → Prop} {H : Hp} {y sh : Addr} {ws : List Str} {T : Vn} {m : Str} {p : Pr} (h : CutAt K H y ws sh T) (n : (m == ("own_sheet" : Str)) = false ∧ (m == ("own_word" : Str)) = false ∧ (m == ("own_foot" : Str)) = false ∧ (m == ("own_solver" : Str)) = false ∧ (m == ("own_rounds" : Str)) = false) (hw : W (ga K "Cut") m p) : MetAt W H (.ref y) m p := by
  obtain ⟨dx, wt, x, k, h1, _⟩ := h
  refine ⟨y, _, dx, _, rfl, h1, ?_, hw⟩
  rw [List.lookup_cons, n.1, List.lookup_cons, n.2.1, List.lookup_cons, n.2.2.1, List.lookup_cons, n.2.2.2.1, List.lookup_cons, n.2.2.2.2]
  rfl
theorem cut_prp {W : Addr → Str → Pr → Prop} {H : Hp} {y sh : Addr} {ws : List Str} {T : Vn} {m : Str} {p : Pr} (h : CutAt K H y ws sh T) (hw : W (ga K "Cut") m p) : PrpAt W H (.ref y) m p := by
  obtain ⟨dx, wt, x, k, h1, _⟩ := h
  exact ⟨y, _, dx, _, rfl, h1, hw⟩
theorem SolV.met {W : Addr → Str → Pr → Prop} {H : Hp} {x : Addr} {n : Nat} {T : Vn} {p : Pr} (h : SolV K H x n T) (hw : W (ga K "Solver") "value_of" p) : MetAt W H (.ref x) "value_of" p := by
  obtain ⟨dx, sh, wt, rd, nd, sa, kvs, ra, h1, _⟩ := h
  exact ⟨x, _, dx, _, rfl, h1, by rfl, hw⟩
def pCutS (K : Fr) : Pr := fun vs H Q => ∃ y ws sh T, vs = [.ref y] ∧ CutAt K H y ws sh T ∧ Q (.ref sh) H
theorem k_Cut_sheet (G : GD K mg) : Keeps PP w K mg base 1 (pa K "Cut" "sheet") (pCutS K) := by
  obtain ⟨fd, F⟩ := fd_Cut_sheet G
  refine kp_fn0 (k := 0) F sc_Cut_sheet (fun _ _ _ _ _ _ us hl => match us, hl with | [_], _ => rfl) (by rintro _ _ _ ⟨y, ws, sh, T, rfl, _⟩; rfl) fun cdv A outer s H vs Q E hr hp => ?_
  obtain ⟨y, ws, sh, T, rfl, hC, hq⟩ := hp
  exact ⟨_, pss_one (ps_ret (pe_fl (pv 0))), _, rfl, _, (cut_fld G hC).1, hq⟩
def pCutW (K : Fr) : Pr := fun vs H Q => ∃ y ws sh T, vs = [.ref y] ∧ CutAt K H y ws sh T ∧ ∀ wt, H wt = some (.tup (ws.map V.str)) → Q (.ref wt) H
theorem k_Cut_word (G : GD K mg) : Keeps PP w K mg base 1 (pa K "Cut" "word") (pCutW K) := by
  obtain ⟨fd, F⟩ := fd_Cut_word G
  refine kp_fn0 (k := 0) F sc_Cut_word (fun _ _ _ _ _ _ us hl => match us, hl with | [_], _ => rfl) (by rintro _ _ _ ⟨y, ws, sh, T, rfl, _⟩; rfl) fun cdv A outer s H vs Q E hr hp => ?_
  obtain ⟨y, ws, sh, T, rfl, hC, hq⟩ := hp
  obtain ⟨_, ⟨wt, f2, hw⟩, _⟩ := cut_fld G hC
  exact ⟨_, pss_one (ps_ret (pe_fl (pv 0))), _, rfl, _, f2, hq wt hw⟩
def pCutF (K : Fr) : Pr := fun vs H Q => ∃ y ws sh T, vs = [.ref y] ∧ CutAt K H y ws sh T ∧ Q .non H
theorem k_Cut_foot (G : GD K mg) : Keeps PP w K mg base 1 (pa K "Cut" "foot") (pCutF K) := by
  obtain ⟨fd, F⟩ := fd_Cut_foot G
  refine kp_fn0 (k := 0) F sc_Cut_foot (fun _ _ _ _ _ _ us hl => match us, hl with | [_], _ => rfl) (by rintro _ _ _ ⟨y, ws, sh, T, rfl, _⟩; rfl) fun cdv A outer s H vs Q E hr hp => ?_
  obtain ⟨y, ws, sh, T, rfl, hC, hq⟩ := hp
  obtain ⟨_, _, f3, _⟩ := cut_fld G hC
  exact ⟨_, pss_one (ps_ret (pe_ifExp (pt_cmp (pc_isN (pe_fl (pv 0)))) pe_non pe_nv)), _, rfl, _, f3, _, rfl, ifT rfl hq⟩
def pCutL (K : Fr) : Pr := fun vs H Q => ∃ y ws sh T, vs = [.ref y] ∧ CutAt K H y ws sh T ∧ Q (.int ws.length) H
theorem k_Cut_len (G : GD K mg) : Keeps PP w K mg base 1 (ma K (ga K "Cut") "__len__") (pCutL K) := by
  obtain ⟨fd, F⟩ := fd_Cut_len G
  refine kp_fn0 (k := 0) F sc_Cut_len (fun _ _ _ _ _ _ us hl => match us, hl with | [_], _ => rfl) (by rintro _ _ _ ⟨y, ws, sh, T, rfl, _⟩; rfl) fun cdv A outer s H vs Q E hr hp => ?_
  obtain ⟨y, ws, sh, T, rfl, hC, hq⟩ := hp
  obtain ⟨_, ⟨wt, f2, hw⟩, _⟩ := cut_fld G hC
  exact ⟨_, pss_one (ps_ret (pe_callB call_len_seq (by rfl) (gf_len G) rfl (pa_cons (pe_fl (pv 0)) pa_nil))), _, rfl, _, f2, wt, _, rfl, .inr (.of hw), by rw [List.length_map]; exact hq⟩
def pCutR (K : Fr) : Pr := fun vs H Q => ∃ y ws sh T r, vs = [.ref y, .int r] ∧ CutAt K H y ws sh T ∧ 1 ≤ r ∧ r ≤ ws.length ∧ Q .non H
theorem k_Cut_want_row (G : GD K mg) : Keeps PP w K mg base 2 (ma K (ga K "Cut") "want_row") (pCutR K) := by
  obtain ⟨fd, F⟩ := fd_Cut_want_row G
  refine kp_fn0 (k := 1) F sc_Cut_want_row (fun _ _ _ _ _ _ us hl => match us, hl with | [_, _], _ => rfl) (by rintro _ _ _ ⟨y, ws, sh, T, r, rfl, _⟩; rfl) fun cdv A outer s H vs Q E hr hp => ?_
  obtain ⟨y, ws, sh, T, r, rfl, hC, h1, h2, hq⟩ := hp
  obtain ⟨_, ⟨wt, f2, hw⟩, _⟩ := cut_fld G hC
  have D : DefR PP w K mg base 1 "is_integer" pIsInt := ⟨_, gg_is_integer G, gk_is_integer G, k_is_integer G⟩
  refine ⟨_, pss_one (ps_if (PW.pt (pw_or (pt_not (pt_val (pe_d D hr (by rfl) (pa_cons (pv 1) pa_nil)))) (pw_or1 (pt_not (pt_chain op_le op_le pe_int (pv 1) (pe_callB call_len_seq (by rfl) (gf_len G) rfl (pa_cons (pe_fl (pv 0)) pa_nil))))))) pss_never pss_nil), ?_⟩
  exact ⟨_, rfl, r, rfl, _, rfl, iteF ⟨_, rfl, _, _, rfl, rfl, _, rfl, ifT (by simp [h1]) ⟨_, rfl, _, f2, wt, _, rfl, .inr (.of hw), _, _, rfl, rfl, _, rfl, ifF (by simp [h2]) hq⟩⟩⟩
def pCutC (K : Fr) : Pr := fun vs H Q => ∃ y ws sh T r c S, vs = [.ref y, .int r, .str c] ∧ CutAt K H y ws sh T ∧ 1 ≤ r ∧ r ≤ ws.length ∧ IsSheet K H sh S ∧ c ∈ S.cols ∧ Q .non H
theorem k_Cut_want_cell (G : GD K mg) : Keeps PP w K mg base 4 (ma K (ga K "Cut") "want_cell") (pCutC K) := by
  obtain ⟨fd, F⟩ := fd_Cut_want_cell G
  refine kp_fn0 (k := 3) F sc_Cut_want_cell (fun _ _ _ _ _ _ us hl => match us, hl with | [_, _, _], _ => rfl) (by rintro _ _ _ ⟨y, ws, sh, T, r, c, S, rfl, _⟩; rfl) fun cdv A outer s H vs Q E hr hp => ?_
  obtain ⟨y, ws, sh, T, r, c, S, rfl, hC, h1, h2, hS, hc, hq⟩ := hp
  have D : DefR PP w K mg base 3 "want_column" (pWcol K) := ⟨_, gg_want_column G, gk_want_column G, k_want_column G⟩
  refine ⟨_, pss_cons (ps_expr (pe_mm hr (pv 0) (pa_cons (pv 1) pa_nil))) (pss_one (ps_expr (pe_d D hr (by rfl) (pa_cons (pe_fl (pv 0)) (pa_cons (pv 2) pa_nil))))), ?_⟩
  refine ⟨_, rfl, _, cut_met hC ⟨by decide +kernel, by decide +kernel, by decide +kernel, by decide +kernel, by decide +kernel⟩ ⟨_, (cf_Cut G).cl, mt_Cut_want_row G, (k_Cut_want_row G).mono (by omega)⟩, _, rfl, y, ws, sh, T, r, rfl, hC, h1, h2, ?_⟩
  exact ⟨_, rfl, _, (cut_fld G hC).1, _, rfl, sh, S, c, rfl, hS, hc, hq⟩
theorem v_met (G : GD K mg) {k : Nat} (hk : 1 ≤ k) : MetR PP w K mg base k (ga K "Solver") "value_of" (pVal2 K) := ⟨_, (cf_Solver G).cl, mt_Solver_value_of G, (k_value_of2 G).mono hk⟩
def pCutV (K : Fr) : Pr := fun vs H Q => ∃ y ws sh T r c S, vs = [.ref y, .int r, .str c] ∧ CutAt K H y ws sh T ∧ 1 ≤ r ∧ r ≤ ws.length ∧ IsSheet K H sh S ∧ c ∈ S.cols ∧ ∀ H', Same H H' → Q (oi (T r c)) H'
theorem k_Cut_value_at (G : GD K mg) : Keeps PP w K mg base 5 (ma K (ga K "Cut") "value_at") (pCutV K) := by
  obtain ⟨fd, F⟩ := fd_Cut_value_at G
  refine kp_fn0 (k := 4) F sc_Cut_value_at (fun _ _ _ _ _ _ us hl => match us, hl with | [_, _, _], _ => rfl) (by rintro _ _ _ ⟨y, ws, sh, T, r, c, S, rfl, _⟩; rfl) fun cdv A outer s H vs Q E hr hp => ?_
  obtain ⟨y, ws, sh, T, r, c, S, rfl, hC, h1, h2, hS, hc, hq⟩ := hp
  obtain ⟨_, _, _, x, f4, hx⟩ := cut_fld G hC
  refine ⟨_, pss_cons (ps_expr (pe_mm hr (pv 0) (pa_cons (pv 1) (pa_cons (pv 2) pa_nil)))) (pss_one (ps_ret (pe_mm hr (pe_fl (pv 0)) (pa_cons (pe_tup (pa_cons (pv 1) (pa_cons (pv 2) pa_nil))) pa_nil)))), ?_⟩
  refine ⟨_, rfl, _, cut_met hC ⟨by decide +kernel, by decide +kernel, by decide +kernel, by decide +kernel, by decide +kernel⟩ ⟨_, (cf_Cut G).cl, mt_Cut_want_cell G, k_Cut_want_cell G⟩, _, rfl, _, rfl, y, ws, sh, T, r, c, S, rfl, hC, h1, h2, hS, hc, ?_⟩
  refine ⟨_, rfl, _, f4, _, hx.met (v_met G (by omega)), _, rfl, _, rfl, (by show 2 ≤ sizeLine; decide), fun t ht => ?_⟩
  have s := Same.new (o := .tup [.int r, .str c]) ht
  exact ⟨ws.length, x, T, (t, r, c), rfl, hx.up s, upd_same, h1, h2, hq _ s⟩
def pCutRV (K : Fr) : Pr := fun vs H Q => ∃ y ws sh T r S, vs = [.ref y, .int r] ∧ CutAt K H y ws sh T ∧ 1 ≤ r ∧ r ≤ ws.length ∧ IsSheet K H sh S ∧ S.Ok ∧ ∀ (H' : Hp) (d : Addr), Same H H' → H d = none → H' d = some (.dK (dct S.cols fun c => oi (T r c))) → Q (.ref d) H'
theorem k_Cut_row_values (G : GD K mg) : Keeps PP w K mg base 3 (ma K (ga K "Cut") "row_values") (pCutRV K) := by
  obtain ⟨fd, F⟩ := fd_Cut_row_values G
  refine kp_fn0 (k := 2) F sc_Cut_row_values (fun _ _ _ _ _ _ us hl => match us, hl with | [_, _], _ => rfl) (by rintro _ _ _ ⟨y, ws, sh, T, r, S, rfl, _⟩; rfl) fun cdv A outer s H vs Q E hr hp => ?_
  obtain ⟨y, ws, sh, T, r, S, rfl, hC, h1, h2, hS, ok, hq⟩ := hp
  have nd := sc_Cut_row_values.nd
  have hs := sizeLine_eq
  have hc4 := ok.c4
  obtain ⟨f1, _, _, x, f4, hx⟩ := cut_fld G hC
  refine ⟨_, pss_cons (ps_expr (pe_mm hr (pv 0) (pa_cons (pv 1) pa_nil))) (pss_one (ps_ret (pe_dc (own := [("column", 2)]) (g := gName 2) (tt := tYes) (tk := tVar 2) (tv := tMm (MetR PP w K mg base 2) "value_of" (tFl K (tVar 0) "own_solver") (tCons (tTup (tCons (tVar 1) (tCons (tVar 2) tNil))) tNil)) rfl nd (pi_tup (pe_pp (k := 1) hr (pe_fl (pv 0)))) (blkOk_by (N := N_Cut_row_values) (sc := defScope s_Cut_row_values) (by decide +kernel))
      (fun _ _ _ _ _ => pg_name (i := 2) nd rfl (.inl rfl)) (fun _ _ _ _ _ => pts_nil) (fun _ _ _ _ _ => pv 2) (fun _ _ _ _ _ => pe_mm hr (pe_fl (pv 0)) (pa_cons (pe_tup (pa_cons (pv 1) (pa_cons (pv 2) pa_nil))) pa_nil))))), ?_⟩
  refine ⟨_, rfl, _, cut_met hC ⟨by decide +kernel, by decide +kernel, by decide +kernel, by decide +kernel, by decide +kernel⟩ ⟨_, (cf_Cut G).cl, mt_Cut_want_row G, k_Cut_want_row G⟩, _, rfl, y, ws, sh, T, r, rfl, hC, h1, h2, ?_⟩
  refine ⟨_, rfl, _, f1, _, sh_prp hS (prp_cols G (Nat.le_refl _)), sh, S, rfl, hS, fun ct hct => ⟨ct, rfl, ⟨_, .of hct⟩, fun D hD => dc_gr (B := H) (walk_tup (a := ct) (xs := S.cols.map V.str)) (ks := S.cols.map Sum.inr) (by rw [List.length_map, List.length_map]) (nd_inr ok.cn) (by rw [List.length_map]; omega) hD (fun i y _ => ∃ z, S.cols[i]? = some z ∧ y = oi (T r z)) (fun _ _ _ _ _ h => h) (fun _ _ _ s => .of (s _ _ hct)) ?_ ?_⟩⟩
  · rintro i x' H2 H2' acc hi s2 hD2 ⟨rfl, hx'⟩ Fin hFin
    obtain ⟨z, hz, rfl⟩ := some_map hx'
    refine ⟨rfl, _, rfl, _, rfl, _, f4.up s2, _, (hx.up s2).met (v_met G (by omega)), _, rfl, _, rfl, (by show 2 ≤ sizeLine; decide), fun t ht => ?_⟩
    have s3 := Same.new (o := .tup [.int r, .str z]) ht
    exact ⟨ws.length, x, T, (t, r, z), rfl, (hx.up s2).up s3, upd_same, h1, h2, hFin (.inr z) _ _ (by rw [List.getElem?_map, hz]; rfl) s3 ⟨z, hz, rfl⟩⟩
  · intro H2 ys s2 hD2 hl2 hR2
    rw [List.length_map] at hl2
    rw [list_is (f := fun z => oi (T r z)) hl2 hR2, dct_kvz] at hD2
    exact hq H2 D s2 hD hD2
def pCutI (K : Fr) : Pr := fun vs H Q => ∃ (y dx sh wd : Addr) (S : Sm) (ws : List Str) (B : Hp), vs = [.ref y, .ref sh, .ref wd] ∧ Same B H ∧ B y = none ∧ H y = some (.ins (ga K "Cut") dx []) ∧ IsSheet K B sh S ∧ S.Ok ∧ B wd = some (.lst (ws.map V.str)) ∧ Val S.plan 0 ws ∧ ws.length ≤ 16 ∧
  ∀ (H' : Hp) (T : Vn), Same B H' → CutAt K H' y ws sh T → (prb S ws).Good T → (prb S ws).Closed T → Q .non H'
def pCutI0 (K : Fr) : Pr := fun vs H Q => ∃ (y dx sh wd : Addr) (S : Sm) (ws : List Str) (B : Hp), vs = [.ref y, .ref sh, .ref wd, .non] ∧ Same B H ∧ B y = none ∧ H y = some (.ins (ga K "Cut") dx []) ∧ IsSheet K B sh S ∧ S.Ok ∧ B wd = some (.lst (ws.map V.str)) ∧ Val S.plan 0 ws ∧ ws.length ≤ 16 ∧
  ∀ (H' : Hp) (T : Vn), Same B H' → CutAt K H' y ws sh T → (prb S ws).Good T → (prb S ws).Closed T → Q .non H'
theorem k_Cut_init (G : GD K mg) : Keeps PP w K mg base 15 (ma K (ga K "Cut") "__init__") (pCutI K) := by
  obtain ⟨fd, F⟩ := fd_Cut_init G
  obtain ⟨ds, hd, hb⟩ := F.binds0 (ps := p_Cut_init) 3 (by show [(("foot" : Str), V.non)] ≠ []; simp) rfl (fun D doc pm an cdv ct us ks l1 l2 => match us, l1, ks, l2 with | [_, _, _], _, [_], _ => ⟨_, _, _, _, _, _, rfl, rfl, rfl⟩)
  have nd := sc_Cut_init.nd
  have hs := sizeLine_eq
  have cf := cf_Cut G
  refine (kp_fn (k := 14) (p := pCutI0 K) F sc_Cut_init hb hd (by rintro _ _ _ ⟨y, dx, sh, wd, S, ws, B, rfl, _⟩; rfl) fun cdv A outer s H vs Q E hr hp => ?_).imp fun vs H Q ⟨y, dx, sh, wd, S, ws, B, e, h⟩ => ⟨y, dx, sh, wd, S, ws, B, by rw [e]; rfl, h⟩
  obtain ⟨y, dx, sh, wd, S, ws, B, rfl, sB, hyB, hy, hS, ok, hwd, hv, hlen, hq⟩ := hp
  have M : MakR PP w K mg base 13 "Solver" (ga K "Solver") (pSolI K) := ⟨_, mk_Solver G, gr_Solver G, k_Solver_init G⟩
  refine ⟨_, PSs.nox (pss_cons (ps_expr (pe_mm hr (pv 1) (pa_cons (pv 2) pa_nil)))
    (pss_cons (ps_if (pt_cmp (pc_notN (pv 3))) pss_never pss_nil)
    (pss_cons (ps_if (pt_cmpR op_gt (pe_callB call_len_seq (by rfl) (gf_len G) rfl (pa_cons (pv 2) pa_nil)) (C8.pe_gc (by rfl) (gv_MOST_ROWS G)) (nomark _)) pss_never pss_nil)
    (pss_cons (ps_fld (pv 0) (pv 1) rfl)
    (pss_cons (ps_fld (pv 0) (pe_callTy call_tuple_of (by rfl) (gf_tuple G) rfl (pa_cons (pv 2) pa_nil)) rfl)
    (pss_cons (ps_fld (pv 0) (pe_ifExp (pt_cmp (pc_isN (pv 3))) pe_non pe_nv) rfl)
    (pss_cons (ps_fld (pv 0) (pe_k M (hr.mono (by omega)) (by rfl) (pa_cons (pv 1) (pa_cons (pe_fl (pv 0)) (pa_cons (pe_fl (pv 0)) pa_nil)))) rfl)
    (pss_one (ps_fld (pv 0) (pe_mm0 hr (pe_fl (pv 0))) rfl))))))))), ?_⟩
  have hk := val_kinds ok hv
  have hdy : wd ≠ y := ne_of_none hwd hyB
  refine ⟨_, rfl, _, sh_met (hS.up sB) ⟨by decide +kernel, by decide +kernel, by decide +kernel, by decide +kernel, by decide +kernel⟩ ⟨_, (cf_Sheet G).cl, mt_Sheet_place_behind G, (k_Sheet_place_behind G).mono (by omega)⟩, _, rfl, sh, S, wd, ws, rfl, hS.up sB, ok, sB _ _ hwd, hv, by omega, fun H1 i s1 => ?_⟩
  have y1 := s1 _ _ hy
  have s1 := same_trans sB s1
  refine ⟨_, rfl, _, rfl, ifF rfl ?_⟩
  refine ⟨_, rfl, wd, _, rfl, .inl (.of (s1 _ _ hwd)), _, _, rfl, rfl, _, rfl, ifF ?_ ?_⟩
  · rw [List.length_map]
    show decide ((400 : Int) < _) = false
    rw [decide_eq_false_iff_not]
    omega
  refine ⟨_, rfl, _, rfl, y, _, dx, _, rfl, y1, cf.cl, cf.no _ (by decide +kernel), (by show 0 < 1000; decide), ?_⟩
  have s2 := s1.put (o := .ins (ga K "Cut") dx (putF "own_sheet" (.ref sh) [])) hyB
  have y2 : upd H1 y (.ins (ga K "Cut") dx (putF "own_sheet" (.ref sh) [])) y = some (.ins (ga K "Cut") dx [("own_sheet", .ref sh)]) := upd_same
  generalize upd H1 y (.ins (ga K "Cut") dx (putF "own_sheet" (.ref sh) [])) = H2 at s2 y2
  refine ⟨_, rfl, wd, _, rfl, .inl ⟨.of (s2 _ _ hwd), fun wt hwt => ?_⟩⟩
  have hwtB : B wt = none := s2.free hwt
  have hwty : wt ≠ y := (ne_of_none y2 hwt).symm
  have s3 := same_trans s2 (Same.new (o := .tup (ws.map V.str)) hwt)
  have w3 : upd H2 wt (.tup (ws.map V.str)) wt = some (.tup (ws.map V.str)) := upd_same
  have y3 := Same.new (o := .tup (ws.map V.str)) hwt _ _ y2
  generalize upd H2 wt (.tup (ws.map V.str)) = H3 at s3 w3 y3
  refine ⟨_, rfl, y, _, dx, _, rfl, y3, cf.cl, cf.no _ (by decide +kernel), (by show 1 < 1000; decide), ?_⟩
  have s4 := s3.put (o := .ins (ga K "Cut") dx (putF "own_word" (.ref wt) [("own_sheet", .ref sh)])) hyB
  have w4 : upd H3 y (.ins (ga K "Cut") dx (putF "own_word" (.ref wt) [("own_sheet", .ref sh)])) wt = some (.tup (ws.map V.str)) := by rw [upd_ne hwty]; exact w3
  have y4 : upd H3 y (.ins (ga K "Cut") dx (putF "own_word" (.ref wt) [("own_sheet", .ref sh)])) y = some (.ins (ga K "Cut") dx [("own_sheet", .ref sh), ("own_word", .ref wt)]) := upd_same
  generalize upd H3 y (.ins (ga K "Cut") dx (putF "own_word" (.ref wt) [("own_sheet", .ref sh)])) = H4 at s4 w4 y4
  refine ⟨_, rfl, _, rfl, ifT rfl ⟨_, rfl, y, _, dx, _, rfl, y4, cf.cl, cf.no _ (by decide +kernel), (by show 2 < 1000; decide), ?_⟩⟩
  have s5 := s4.put (o := .ins (ga K "Cut") dx (putF "own_foot" .non [("own_sheet", .ref sh), ("own_word", .ref wt)])) hyB
  have w5 : upd H4 y (.ins (ga K "Cut") dx (putF "own_foot" .non [("own_sheet", .ref sh), ("own_word", .ref wt)])) wt = some (.tup (ws.map V.str)) := by rw [upd_ne hwty]; exact w4
  have y5 : upd H4 y (.ins (ga K "Cut") dx (putF "own_foot" .non [("own_sheet", .ref sh), ("own_word", .ref wt)])) y = some (.ins (ga K "Cut") dx [("own_sheet", .ref sh), ("own_word", .ref wt), ("own_foot", .non)]) := upd_same
  generalize upd H4 y (.ins (ga K "Cut") dx (putF "own_foot" .non [("own_sheet", .ref sh), ("own_word", .ref wt)])) = H5 at s5 w5 y5
  refine ⟨_, rfl, _, rfl, _, fld_of y5 cf (by decide +kernel) (by rfl), _, rfl, _, fld_of y5 cf (by decide +kernel) (by rfl), fun x dx' hx hdx hne => ?_⟩
  have hxy : x ≠ y := (ne_of_none y5 hx).symm
  have hbb : Same B (upd (upd B wt (.tup (ws.map V.str))) y (.ins (ga K "Cut") dx [("own_sheet", .ref sh), ("own_word", .ref wt), ("own_foot", .non)])) := same_trans (Same.new hwtB) (Same.new (by rw [upd_ne hwty.symm]; exact hyB))
  have s6 : Same (upd (upd B wt (.tup (ws.map V.str))) y (.ins (ga K "Cut") dx [("own_sheet", .ref sh), ("own_word", .ref wt), ("own_foot", .non)])) H5 := (s5.add w5).add y5
  have s7 : Same H5 (upd (upd H5 dx' (.own x)) x (.ins (ga K "Solver") dx' [])) := same_trans (Same.new hdx) (Same.new (by rw [upd_ne hne.symm]; exact hx))
  refine ⟨S, ws, x, dx', sh, wt, _, rfl, same_trans s6 s7, s6.free hx, upd_same, hS.up hbb, by rw [upd_ne hwty, upd_same], ok, hk, hlen, fun H' T ts s' hs' => ⟨rfl, ?_⟩⟩
  have y8 := s' _ _ (upd_same (H := upd B wt (.tup (ws.map V.str))) (a := y) (o := .ins (ga K "Cut") dx [("own_sheet", .ref sh), ("own_word", .ref wt), ("own_foot", .non)]))
  have w8 : H' wt = some (.tup (ws.map V.str)) := s' _ _ (by rw [upd_ne hwty, upd_same])
  have s8 := same_trans hbb s'
  clear s' s6 s7 hbb
  refine ⟨_, rfl, y, _, dx, _, rfl, y8, cf.cl, cf.no _ (by decide +kernel), (by show 3 < 1000; decide), ?_⟩
  have s9 := s8.put (o := .ins (ga K "Cut") dx (putF "own_solver" (.ref x) [("own_sheet", .ref sh), ("own_word", .ref wt), ("own_foot", .non)])) hyB
  have w9 : upd H' y (.ins (ga K "Cut") dx (putF "own_solver" (.ref x) [("own_sheet", .ref sh), ("own_word", .ref wt), ("own_foot", .non)])) wt = some (.tup (ws.map V.str)) := by rw [upd_ne hwty]; exact w8
  have y9 : upd H' y (.ins (ga K "Cut") dx (putF "own_solver" (.ref x) [("own_sheet", .ref sh), ("own_word", .ref wt), ("own_foot", .non)])) y = some (.ins (ga K "Cut") dx [("own_sheet", .ref sh), ("own_word", .ref wt), ("own_foot", .non), ("own_solver", .ref x)]) := upd_same
  have v9 := hs'.updI (o := .ins (ga K "Cut") dx (putF "own_solver" (.ref x) [("own_sheet", .ref sh), ("own_word", .ref wt), ("own_foot", .non)])) y8 hxy (hS.up s9)
  generalize upd H' y (.ins (ga K "Cut") dx (putF "own_solver" (.ref x) [("own_sheet", .ref sh), ("own_word", .ref wt), ("own_foot", .non)])) = H9 at s9 w9 y9 v9
  refine ⟨_, rfl, _, fld_of y9 cf (by decide +kernel) (by rfl), _, v9.at_.met ⟨by decide +kernel, by decide +kernel, by decide +kernel, by decide +kernel, by decide +kernel⟩ ⟨_, (cf_Solver G).cl, mt_Solver_round_count G, (k_round_count G).mono (by omega)⟩, S, ws, x, sh, T, ts, rfl, v9, ok, hk, fun H10 n s10 => ?_⟩
  have y10 := s10 _ _ y9
  refine ⟨_, rfl, y, _, dx, _, rfl, y10, cf.cl, cf.no _ (by decide +kernel), (by show 4 < 1000; decide), ?_⟩
  have v10 := (v9.up s10).updI (o := .ins (ga K "Cut") dx (putF "own_rounds" (.int n) [("own_sheet", .ref sh), ("own_word", .ref wt), ("own_foot", .non), ("own_solver", .ref x)])) y10 hxy (hS.up ((same_trans s9 s10).put hyB))
  exact hq _ T ((same_trans s9 s10).put hyB) ⟨dx, wt, x, n, upd_same, by rw [upd_ne hwty]; exact s10 _ _ w9, v10.at_.v⟩ v10.good v10.closed
end
end Bn
/-! W24: drawn formulas. -/
namespace Bn
open PySem PySem.Spec PyProof.Rows L2 StX
open He (ga ma)
/-- the columns that may be read here, by up, by down -/
def Spots (H : Hp) (sp : Addr) (cs : List Str) : Prop := ∃ (o u d : Addr) (os us ds : List Str), H sp = some (.tup [.ref o, .ref u, .ref d]) ∧ H o = some (.lst (os.map V.str)) ∧ H u = some (.lst (us.map V.str)) ∧ H d = some (.lst (ds.map V.str)) ∧ os.length ≤ 100 ∧ us.length ≤ 100 ∧ ds.length ≤ 100 ∧ (∀ x ∈ os, x ∈ cs) ∧ (∀ x ∈ us, x ∈ cs) ∧ ∀ x ∈ ds, x ∈ cs
theorem Spots.up {H H' : Hp} {sp : Addr} {cs : List Str} (s : Same H H') (h : Spots H sp cs) : Spots H' sp cs := by
  obtain ⟨o, u, d, os, us, ds, h1, h2, h3, h4, r⟩ := h
  exact ⟨o, u, d, os, us, ds, s _ _ h1, s _ _ h2, s _ _ h3, s _ _ h4, r⟩
/-- each of the three -/
theorem Spots.get {H : Hp} {sp : Addr} {cs : List Str} (h : Spots H sp cs) : ∃ xs : List V, H sp = some (.tup xs) ∧ xs.length = 3 ∧ ∀ j : Nat, j < 3 → ∃ (q : Addr) (ys : List Str), xs[j]? = some (.ref q) ∧ H q = some (.lst (ys.map V.str)) ∧ ys.length ≤ 100 ∧ ∀ x ∈ ys, x ∈ cs := by
  obtain ⟨o, u, d, os, us, ds, h1, h2, h3, h4, l1, l2, l3, m1, m2, m3⟩ := h
  refine ⟨_, h1, rfl, fun j hj => ?_⟩
  match j, hj with
  | 0, _ => exact ⟨o, os, rfl, h2, l1, m1⟩
  | 1, _ => exact ⟨u, us, rfl, h3, l2, m2⟩
  | 2, _ => exact ⟨d, ds, rfl, h4, l3, m3⟩
section
variable {w : World} {K : Fr} {mg : Str → Option Value} {base : Heap}
def pLeaf : Pr := fun vs H Q => ∃ (p sp : Addr) (m : Int) (cs : List Str), vs = [.ref p, .int m, .ref sp] ∧ PotAt H p ∧ 2 ≤ m ∧ m ≤ 9 ∧ Spots (dr p H) sp cs ∧ ∀ H' t f, Drw p H H' → IsMd H' f t → f.size = 1 → f.fit m cs → Q (.ref t) H'
theorem k_law_leaf (G : GD K mg) : Keeps PP w K mg base 3 (ga K "_law_leaf") pLeaf := by
  obtain ⟨fd, F⟩ := fd_law_leaf G
  refine kp_fnN (k := 2) F sc_law_leaf (fun _ _ _ _ _ _ us hl => match us, hl with | [_, _, _], _ => rfl) (by rintro _ _ _ ⟨p, sp, m, cs, rfl, _⟩; rfl) fun cdv A outer s H vs Q E hr hp => ?_
  obtain ⟨p, sp, m, cs, rfl, hP, hm2, hm9, hSp, hq⟩ := hp
  have nd := sc_law_leaf.nd
  have hu := hr.r.units
  have D1 := d_draw (w := w) (base := base) G (k := 2) (by omega)
  have D2 := d_pick (w := w) (base := base) G (k := 2) (by omega)
  refine ⟨_, pss_cons (ps_set (i := 3) nd rfl (.inl rfl) (pe_d D1 hr (by rfl) (pa_cons (pv 0) (pa_cons pe_int pa_nil))))
    (C8.pss_cut (ps_if (PW.pt (pw_and (pt_cmpR op_in_seq (pv 3) (pe_tup (pa_cons pe_int (pa_cons pe_int pa_nil))) rfl) (pw_and1 (pt_cmpR (op_neNil hu) (pe_ix ix_tup (pv 2) pe_int (fun _ _ => rfl)) (pe_lst pa_nil) (nomark _))))) (pss_one (ps_ret (pe_tup (pa_cons pe_str (pa_cons (pe_d D2 hr (by rfl) (pa_cons (pv 0) (pa_cons (pe_ix ix_tup (pv 2) pe_int (fun _ _ => rfl)) pa_nil))) pa_nil))))) pss_nil)
    (C8.pss_cut (ps_if (PW.pt (pw_and (pt_cmpR op_in_seq (pv 3) (pe_tup (pa_cons pe_int (pa_cons pe_int pa_nil))) rfl) (pw_and1 (pt_cmpR (op_neNil hu) (pe_ix ix_tup (pv 2) pe_int (fun _ _ => rfl)) (pe_lst pa_nil) (nomark _))))) (pss_one (ps_ret (pe_tup (pa_cons pe_str (pa_cons (pe_d D2 hr (by rfl) (pa_cons (pv 0) (pa_cons (pe_ix ix_tup (pv 2) pe_int (fun _ _ => rfl)) pa_nil))) pa_nil))))) pss_nil)
    (C8.pss_cut (ps_if (PW.pt (pw_and (pt_cmpR op_in_seq (pv 3) (pe_tup (pa_cons pe_int (pa_cons pe_int pa_nil))) rfl) (pw_and1 (pt_cmpR (op_neNil hu) (pe_ix ix_tup (pv 2) pe_int (fun _ _ => rfl)) (pe_lst pa_nil) (nomark _))))) (pss_one (ps_ret (pe_tup (pa_cons pe_str (pa_cons (pe_d D2 hr (by rfl) (pa_cons (pv 0) (pa_cons (pe_ix ix_tup (pv 2) pe_int (fun _ _ => rfl)) pa_nil))) pa_nil))))) pss_nil)
    (pss_one (ps_ret (pe_tup (pa_cons pe_str (pa_cons (pe_d D1 hr (by rfl) (pa_cons (pv 0) (pa_cons (pv 1) pa_nil))) pa_nil)))))))), ?_⟩
  refine ⟨_, rfl, p, 7, rfl, hP, by decide, by decide, fun H1 way d1 hw0 hw1 => ?_⟩
  have fin : ∀ (H2 : Hp) (t : Addr) (wh : Wh) (c : Str), Drw p H H2 → H2 t = none → c ∈ cs → Q (.ref t) (upd H2 t (.tup [.str (wS wh), .str c])) := fun H2 t wh c d ht hc => hq _ t (.ref wh c) (d.new ht) upd_same rfl hc
  obtain ⟨xs, hx1, hx2, hx3⟩ := hSp.get
  have hx3' : ∀ (j : Nat) (H2 : Hp), j < 3 → Drw p H H2 → ∃ (q : Addr) (ys : List Str), H2 sp = some (.tup xs) ∧ atI xs (j : Int) = some (.ref q) ∧ dr p H2 q = some (.lst (ys.map V.str)) ∧ ys.length ≤ 100 ∧ ∀ x ∈ ys, x ∈ cs := fun j H2 hj d => by
    obtain ⟨q, ys, e1, e2, e3, e4⟩ := hx3 j hj
    exact ⟨q, ys, d.at_ hx1, at_of (j := j) (by omega) e1, d.s _ _ e2, e3, e4⟩
  have mid : ∀ {H2 : Hp} (d : Drw p H H2) {q : Addr} {ys : List Str} {e : Addr}, H2 e = none → dr p H2 q = some (.lst (ys.map V.str)) → SqL K (upd H2 e (.lst [])) q (ys.map V.str) := fun d _ _ _ he h => .of (Same.new he _ _ (dr_le _ _ h))
  refine ⟨fun σ' H' => σ' = [some (.ref p), some (.int m), some (.ref sp), some (.int way)] ∧ Drw p H H', ?_, ?_⟩
  · refine ⟨_, rfl, (by show 2 ≤ sizeLine; decide), fun t ht => ⟨t, _, rfl, .inr (.of upd_same), rfl, rfl, _, rfl, ifB (fun _ => ?_) (fun _ => ?_)⟩⟩
    · have d2 := d1.new (o := .tup [.int 1, .int 2]) ht
      generalize upd H1 t (.tup [.int 1, .int 2]) = H2 at d2
      obtain ⟨q, ys, y1, y2, y3, y4, y5⟩ := hx3' 0 H2 (by decide) d2
      refine ⟨_, rfl, sp, _, 0, _, rfl, rfl, .of y1, y2, Nat.zero_le _, fun e he => ⟨q, e, _, rfl, rfl, mid d2 he y3, .of upd_same, _, rfl, ifB (fun hb => ?_) (fun _ => ?_)⟩⟩
      · have d3 := d2.new (o := .lst []) he
        have y3' := dr_same (p := p) (Same.new (o := .lst []) he) _ _ y3
        have y1' := Same.new (o := .lst []) he _ _ y1
        generalize upd H2 e (.lst []) = H3 at d3 y3' y1'
        refine ⟨_, rfl, _, rfl, sp, _, 0, _, rfl, rfl, .of y1', y2, p, q, _, rfl, d3.pot, y3', ?_, by rw [List.length_map]; omega, fun H4 y d4 hy => ⟨(by show 2 ≤ sizeLine; decide), fun t' ht' => ?_⟩⟩
        · rw [List.length_map]
          cases ys with
          | nil => cases hb
          | cons a r => simp
        obtain ⟨c, hc, rfl⟩ := List.mem_map.mp hy
        exact fin H4 t' .here c (d3.trans d4) ht' (y5 c hc)
      · exact ⟨rfl, d2.new he⟩
    · exact ⟨rfl, d1.new ht⟩
  rintro σ H1 ⟨rfl, d1⟩
  refine ⟨fun σ' H' => σ' = [some (.ref p), some (.int m), some (.ref sp), some (.int way)] ∧ Drw p H H', ?_, ?_⟩
  · refine ⟨_, rfl, (by show 2 ≤ sizeLine; decide), fun t ht => ⟨t, _, rfl, .inr (.of upd_same), rfl, rfl, _, rfl, ifB (fun _ => ?_) (fun _ => ?_)⟩⟩
    · have d2 := d1.new (o := .tup [.int 3, .int 4]) ht
      generalize upd H1 t (.tup [.int 3, .int 4]) = H2 at d2
      obtain ⟨q, ys, y1, y2, y3, y4, y5⟩ := hx3' 1 H2 (by decide) d2
      refine ⟨_, rfl, sp, _, 1, _, rfl, rfl, .of y1, y2, Nat.zero_le _, fun e he => ⟨q, e, _, rfl, rfl, mid d2 he y3, .of upd_same, _, rfl, ifB (fun hb => ?_) (fun _ => ?_)⟩⟩
      · have d3 := d2.new (o := .lst []) he
        have y3' := dr_same (p := p) (Same.new (o := .lst []) he) _ _ y3
        have y1' := Same.new (o := .lst []) he _ _ y1
        generalize upd H2 e (.lst []) = H3 at d3 y3' y1'
        refine ⟨_, rfl, _, rfl, sp, _, 1, _, rfl, rfl, .of y1', y2, p, q, _, rfl, d3.pot, y3', ?_, by rw [List.length_map]; omega, fun H4 y d4 hy => ⟨(by show 2 ≤ sizeLine; decide), fun t' ht' => ?_⟩⟩
        · rw [List.length_map]
          cases ys with
          | nil => cases hb
          | cons a r => simp
        obtain ⟨c, hc, rfl⟩ := List.mem_map.mp hy
        exact fin H4 t' .up c (d3.trans d4) ht' (y5 c hc)
      · exact ⟨rfl, d2.new he⟩
    · exact ⟨rfl, d1.new ht⟩
  rintro σ H1 ⟨rfl, d1⟩
  refine ⟨fun σ' H' => σ' = [some (.ref p), some (.int m), some (.ref sp), some (.int way)] ∧ Drw p H H', ?_, ?_⟩
  · refine ⟨_, rfl, (by show 2 ≤ sizeLine; decide), fun t ht => ⟨t, _, rfl, .inr (.of upd_same), rfl, rfl, _, rfl, ifB (fun _ => ?_) (fun _ => ?_)⟩⟩
    · have d2 := d1.new (o := .tup [.int 5, .int 6]) ht
      generalize upd H1 t (.tup [.int 5, .int 6]) = H2 at d2
      obtain ⟨q, ys, y1, y2, y3, y4, y5⟩ := hx3' 2 H2 (by decide) d2
      refine ⟨_, rfl, sp, _, 2, _, rfl, rfl, .of y1, y2, Nat.zero_le _, fun e he => ⟨q, e, _, rfl, rfl, mid d2 he y3, .of upd_same, _, rfl, ifB (fun hb => ?_) (fun _ => ?_)⟩⟩
      · have d3 := d2.new (o := .lst []) he
        have y3' := dr_same (p := p) (Same.new (o := .lst []) he) _ _ y3
        have y1' := Same.new (o := .lst []) he _ _ y1
        generalize upd H2 e (.lst []) = H3 at d3 y3' y1'
        refine ⟨_, rfl, _, rfl, sp, _, 2, _, rfl, rfl, .of y1', y2, p, q, _, rfl, d3.pot, y3', ?_, by rw [List.length_map]; omega, fun H4 y d4 hy => ⟨(by show 2 ≤ sizeLine; decide), fun t' ht' => ?_⟩⟩
        · rw [List.length_map]
          cases ys with
          | nil => cases hb
          | cons a r => simp
        obtain ⟨c, hc, rfl⟩ := List.mem_map.mp hy
        exact fin H4 t' .down c (d3.trans d4) ht' (y5 c hc)
      · exact ⟨rfl, d2.new he⟩
    · exact ⟨rfl, d1.new ht⟩
  rintro σ H1 ⟨rfl, d1⟩
  refine ⟨_, rfl, _, rfl, p, m, rfl, d1.pot, by omega, by omega, fun H2 v d2 h0 h1 => ⟨(by show 2 ≤ sizeLine; decide), fun t ht => ?_⟩⟩
  exact hq _ t (.num v) ((d1.trans d2).new ht) upd_same rfl ⟨h0, h1⟩
theorem d_leaf (G : GD K mg) {k : Nat} (hk : 3 ≤ k) : DefR PP w K mg base k "_law_leaf" pLeaf := ⟨_, gg_law_leaf G, gk_law_leaf G, (k_law_leaf G).mono hk⟩
def pPart (n : Nat) : Pr := fun vs H Q => ∃ (p sp : Addr) (m nodes : Int) (cs : List Str), vs = [.ref p, .int m, .ref sp, .int nodes] ∧ PotAt H p ∧ 2 ≤ m ∧ m ≤ 9 ∧ 1 ≤ nodes ∧ nodes ≤ n ∧ nodes ≤ 100 ∧ Spots (dr p H) sp cs ∧ ∀ H' t f, Drw p H H' → IsMd H' f t → (f.size : Int) ≤ nodes → f.fit m cs → Q (.ref t) H'
theorem words_of {y : V} (h : y ∈ [V.str "plus", .str "plus", .str "least", .str "most", .str "same"]) : ∃ o : O2, y = .str (oW o) := by
  rcases List.mem_cons.mp h with rfl | h
  · exact ⟨.plus, rfl⟩
  rcases List.mem_cons.mp h with rfl | h
  · exact ⟨.plus, rfl⟩
  rcases List.mem_cons.mp h with rfl | h
  · exact ⟨.least, rfl⟩
  rcases List.mem_cons.mp h with rfl | h
  · exact ⟨.most, rfl⟩
  rcases List.mem_cons.mp h with rfl | h
  · exact ⟨.same, rfl⟩
  cases h
theorem k_law_part (G : GD K mg) : ∀ n : Nat, Keeps PP w K mg base (n + 4) (ga K "_law_part") (pPart n)
  | 0 => by
    obtain ⟨fd, F⟩ := fd_law_part G
    refine kp_fnN (k := 3) F sc_law_part (fun _ _ _ _ _ _ us hl => match us, hl with | [_, _, _, _], _ => rfl) (by rintro _ _ _ ⟨p, sp, m, nodes, cs, rfl, _⟩; rfl) fun cdv A outer s H vs Q E hr hp => ?_
    obtain ⟨p, sp, m, nodes, cs, rfl, hP, hm2, hm9, h1, h2, _⟩ := hp
    omega
  | n + 1 => by
    have ih := k_law_part G n
    obtain ⟨fd, F⟩ := fd_law_part G
    refine kp_fnN (k := n + 4) F sc_law_part (fun _ _ _ _ _ _ us hl => match us, hl with | [_, _, _, _], _ => rfl) (by rintro _ _ _ ⟨p, sp, m, nodes, cs, rfl, _⟩; rfl) fun cdv A outer s H vs Q E hr hp => ?_
    obtain ⟨p, sp, m, nodes, cs, rfl, hP, hm2, hm9, h1, h2, h100, hSp, hq⟩ := hp
    have nd := sc_law_part.nd
    have hs := sizeLine_eq
    have D0 : DefR PP w K mg base (n + 4) "_law_part" (pPart n) := ⟨_, gg_law_part G, gk_law_part G, ih⟩
    have D1 := d_draw (w := w) (base := base) G (k := n + 4) (by omega)
    have D2 := d_pick (w := w) (base := base) G (k := n + 4) (by omega)
    have D3 := d_leaf (w := w) (base := base) G (k := n + 4) (by omega)
    refine ⟨_, pss_cons (ps_set (i := 4) nd rfl (.inl rfl) (pe_d D1 hr (by rfl) (pa_cons (pv 0) (pa_cons pe_int pa_nil))))
      (C8.pss_cut (ps_if (PW.pt (pw_and (pt_cmpR op_lt (pv 4) pe_int (nomark _)) (pw_and1 (pt_cmpR op_gt (pv 3) pe_int (nomark _)))))
        (pss_cons (ps_set (i := 5) nd rfl (.inl rfl) (pe_op op_add pe_int (pe_d D1 hr (by rfl) (pa_cons (pv 0) (pa_cons (pe_op op_sub (pv 3) pe_int) pa_nil)))))
        (pss_cons (ps_set (i := 6) nd rfl (.inl rfl) (pe_op op_add pe_int (pe_d D1 hr (by rfl) (pa_cons (pv 0) (pa_cons (pe_op op_sub (pe_op op_sub (pv 3) pe_int) (pv 5)) pa_nil)))))
        (pss_cons (ps_set (i := 7) nd rfl (.inl rfl) (pe_callTy call_tuple_of (by rfl) (gf_tuple G) rfl (pa_cons (pe_lc (own := [("_law_value", 12)]) (g := gName 12) (tt := tTest (tOp rEq (tD pDraw (tCons (tVar 0) (tCons (tC (.int 2)) tNil))) (tC (.int 0)))) rfl nd (pi_range1 (by rfl) (gf_range G) (pa_cons (pv 1) pa_nil)) (blkOk_by (N := N_law_part) (sc := defScope s_law_part) (by decide +kernel))
            (fun _ _ _ _ _ => pg_name (i := 12) nd rfl (.inl rfl)) (fun _ _ _ _ _ => pts_one (pt_cmpR op_eq (pe_d D1 hr (by rfl) (pa_cons (pv 0) (pa_cons pe_int pa_nil))) pe_int (nomark _))) (fun _ _ _ _ _ => pv 12)) pa_nil)))
        (pss_cons (ps_par (i := 8) (j := 9) rfl nd rfl rfl (by decide) rfl rfl (pa_cons (pe_d D0 hr (by rfl) (pa_cons (pv 0) (pa_cons (pv 1) (pa_cons (pv 2) (pa_cons (pv 5) pa_nil))))) (pa_cons (pe_d D0 hr (by rfl) (pa_cons (pv 0) (pa_cons (pv 1) (pa_cons (pv 2) (pa_cons (pv 6) pa_nil))))) pa_nil)) rfl)
        (pss_one (ps_ret (pe_tup (pa_cons pe_str (pa_cons (pv 8) (pa_cons (pv 7) (pa_cons (pv 9) (pa_cons (pe_d D0 hr (by rfl) (pa_cons (pv 0) (pa_cons (pv 1) (pa_cons (pv 2) (pa_cons (pe_op op_sub (pe_op op_sub (pe_op op_sub (pv 3) pe_int) (pv 5)) (pv 6)) pa_nil))))) pa_nil)))))))))))) pss_nil)
      (C8.pss_cut (ps_if (PW.pt (pw_and (pt_cmpR op_lt (pv 4) pe_int (nomark _)) (pw_and1 (pt_cmpR op_gt (pv 3) pe_int (nomark _)))))
        (pss_cons (ps_set (i := 5) nd rfl (.inl rfl) (pe_op op_add pe_int (pe_d D1 hr (by rfl) (pa_cons (pv 0) (pa_cons (pe_op op_sub (pv 3) pe_int) pa_nil)))))
        (pss_cons (ps_set (i := 10) nd rfl (.inl rfl) (pe_d D0 hr (by rfl) (pa_cons (pv 0) (pa_cons (pv 1) (pa_cons (pv 2) (pa_cons (pv 5) pa_nil))))))
        (pss_cons (ps_set (i := 11) nd rfl (.inl rfl) (pe_d D2 hr (by rfl) (pa_cons (pv 0) (pa_cons (pe_lst (pa_cons pe_str (pa_cons pe_str (pa_cons pe_str (pa_cons pe_str (pa_cons pe_str pa_nil)))))) pa_nil))))
        (pss_one (ps_ret (pe_tup (pa_cons (pv 11) (pa_cons (pv 10) (pa_cons (pe_d D0 hr (by rfl) (pa_cons (pv 0) (pa_cons (pv 1) (pa_cons (pv 2) (pa_cons (pe_op op_sub (pe_op op_sub (pv 3) pe_int) (pv 5)) pa_nil))))) pa_nil))))))))) pss_nil)
      (pss_one (ps_ret (pe_d D3 hr (by rfl) (pa_cons (pv 0) (pa_cons (pv 1) (pa_cons (pv 2) pa_nil)))))))), ?_⟩
    refine ⟨_, rfl, p, 8, rfl, hP, by decide, by decide, fun H1 way d1 hw0 hw1 => ?_⟩
    refine ⟨fun σ' H' => (∃ c5 c6 c7 c8 c9 c10 c11 c12, σ' = [some (.ref p), some (.int m), some (.ref sp), some (.int nodes), some (.int way), c5, c6, c7, c8, c9, c10, c11, c12]) ∧ Drw p H H', ?_, ?_⟩
    · refine ⟨_, rfl, _, _, rfl, rfl, _, rfl, ifB (fun _ => ⟨_, rfl, _, _, rfl, rfl, _, rfl, ifB (fun hb => ?_) (fun _ => ⟨⟨_, _, _, _, _, _, _, _, rfl⟩, d1⟩)⟩) (fun _ => ⟨⟨_, _, _, _, _, _, _, _, rfl⟩, d1⟩)⟩
      have hb : 3 < nodes := of_decide_eq_true hb
      refine ⟨_, rfl, _, rfl, _, _, rfl, rfl, p, nodes - 3, rfl, d1.pot, by omega, by omega, fun H2 f1 d2 a0 a1 => ⟨_, _, rfl, rfl, ?_⟩⟩
      refine ⟨_, rfl, _, rfl, _, _, rfl, rfl, _, rfl, _, _, rfl, rfl, p, nodes - 2 - (1 + f1), rfl, d2.pot, by omega, by omega, fun H3 f2 d3 b0 b1 => ⟨_, _, rfl, rfl, ?_⟩⟩
      have d13 := (d1.trans d2).trans d3
      refine ⟨_, rfl, m, rfl, by omega, by omega, fun D hD => lc_it walk_range (fun i H4 => Drw p H3 H4 ∧ ∃ ch : List Int, H4 D = some (.lst (ch.map V.int)) ∧ (∀ x ∈ ch, 0 ≤ x ∧ x < i) ∧ ch.Pairwise (· < ·) ∧ ch.length ≤ i) ⟨(Drw.refl d3.pot).new hD, [], upd_same, (fun _ h => nomatch h), .nil, Nat.zero_le _⟩ (fun _ _ _ _ => trivial) ?_ ?_⟩
      · rintro i v H4 H4' hi ⟨d4, ch, hD4, hc1, hc2, hc3⟩ ⟨rfl, rfl⟩
        have hDp := d3.pot.ne hD
        refine ⟨rfl, _, rfl, p, 2, rfl, d4.pot, by decide, by decide, fun H5 d d5 e0 e1 => ⟨rfl, _, rfl, ifB (fun _ => ?_) (fun _ => ?_)⟩⟩
        · have hD5 : H5 D = some (.lst (ch.map V.int)) := d5.at_ (by rw [dr_ne hDp]; exact hD4)
          refine ⟨_, rfl, _, hD5, by rw [List.length_map]; omega, (d4.trans d5).put (dr_free hD) hDp, ch ++ [0 + ((i : Nat) : Int)], by rw [upd_same, List.map_append]; rfl, fun x hx => ?_, ?_, by rw [List.length_append, List.length_singleton]; omega⟩
          · rcases List.mem_append.mp hx with hx | hx
            · have := hc1 x hx; omega
            · cases List.mem_singleton.mp hx; omega
          · rw [List.pairwise_append]
            refine ⟨hc2, List.pairwise_singleton _ _, fun a ha b hb => ?_⟩
            cases List.mem_singleton.mp hb
            have := (hc1 a ha).2
            omega
        · have hD5 : H5 D = some (.lst (ch.map V.int)) := d5.at_ (by rw [dr_ne hDp]; exact hD4)
          exact ⟨d4.trans d5, ch, hD5, fun x hx => by have := hc1 x hx; omega, hc2, by omega⟩
      rintro H4 ⟨d4, ch, hD4, hc1, hc2, hc3⟩
      refine ⟨D, _, rfl, .inl ⟨.of hD4, fun ct hct => ?_⟩⟩
      have d14 := (d13.trans d4).new (o := .tup (ch.map V.int)) hct
      have hch : upd H4 ct (.tup (ch.map V.int)) ct = some (.tup (ch.map V.int)) := upd_same
      generalize upd H4 ct (.tup (ch.map V.int)) = H5 at d14 hch
      refine ⟨_, rfl, _, rfl, _, rfl, _, rfl, p, sp, m, 1 + f1, cs, rfl, d14.pot, hm2, hm9, by omega, by omega, by omega, hSp.up d14.s, fun H6 t1 g1 d6 m1 z1 f1' => ?_⟩
      have d16 := d14.trans d6
      refine ⟨_, rfl, _, rfl, _, rfl, _, rfl, p, sp, m, 1 + f2, cs, rfl, d16.pot, hm2, hm9, by omega, by omega, by omega, hSp.up d16.s, fun H7 t2 g2 d7 m2 z2 f2' => ⟨_, _, rfl, ?_⟩⟩
      have d17 := d16.trans d7
      refine ⟨_, rfl, _, rfl, _, rfl, _, rfl, _, rfl, _, rfl, _, rfl, _, _, rfl, rfl, _, rfl, _, _, rfl, rfl, _, rfl, _, _, rfl, rfl, p, sp, m, nodes - 1 - (1 + f1) - (1 + f2), cs, rfl, d17.pot, hm2, hm9, by omega, by omega, by omega, hSp.up d17.s, fun H8 t3 g3 d8 m3 z3 f3' => ⟨(by show 5 ≤ sizeLine; decide), fun t ht => ?_⟩⟩
      have s9 := Same.new (o := .tup [.str "choice", .ref t1, .ref ct, .ref t2, .ref t3]) ht
      have hch8 : H8 ct = some (.tup (ch.map V.int)) := ((d6.trans d7).trans d8).at_ (dr_tup d14.pot hch)
      refine hq _ t (.cho g1 ch g2 g3) ((d17.trans d8).new ht) ⟨t1, ct, t2, t3, upd_same, s9 _ _ hch8, ((m1.drw d16.pot (d7.trans d8)).up s9), ((m2.drw d17.pot d8).up s9), m3.up s9⟩ ?_ ⟨f1', f2', f3', fun x hx => ?_, hc2⟩
      · unfold Fm.size
        omega
      · have := hc1 x hx
        omega
    rintro σ H1 ⟨⟨c5, c6, c7, c8, c9, c10, c11, c12, rfl⟩, d1⟩
    refine ⟨fun σ' H' => (∃ c5 c6 c7 c8 c9 c10 c11 c12, σ' = [some (.ref p), some (.int m), some (.ref sp), some (.int nodes), some (.int way), c5, c6, c7, c8, c9, c10, c11, c12]) ∧ Drw p H H', ?_, ?_⟩
    · refine ⟨_, rfl, _, _, rfl, rfl, _, rfl, ifB (fun _ => ⟨_, rfl, _, _, rfl, rfl, _, rfl, ifB (fun hb => ?_) (fun _ => ⟨⟨_, _, _, _, _, _, _, _, rfl⟩, d1⟩)⟩) (fun _ => ⟨⟨_, _, _, _, _, _, _, _, rfl⟩, d1⟩)⟩
      have hb : 2 < nodes := of_decide_eq_true hb
      refine ⟨_, rfl, _, rfl, _, _, rfl, rfl, p, nodes - 2, rfl, d1.pot, by omega, by omega, fun H2 f1 d2 a0 a1 => ⟨_, _, rfl, rfl, ?_⟩⟩
      have d12 := d1.trans d2
      refine ⟨_, rfl, _, rfl, _, rfl, _, rfl, p, sp, m, 1 + f1, cs, rfl, d12.pot, hm2, hm9, by omega, by omega, by omega, hSp.up d12.s, fun H3 t1 g1 d3 m1 z1 f1' => ?_⟩
      have d13 := d12.trans d3
      refine ⟨_, rfl, (by show 5 ≤ sizeLine; decide), fun l hl => ?_⟩
      have d14 := d13.new (o := .lst [.str "plus", .str "plus", .str "least", .str "most", .str "same"]) hl
      have hl4 : dr p (upd H3 l (.lst [.str "plus", .str "plus", .str "least", .str "most", .str "same"])) l = some (.lst [.str "plus", .str "plus", .str "least", .str "most", .str "same"]) := by rw [dr_ne (d13.pot.ne hl), upd_same]
      have m14 := m1.up (Same.new (o := .lst [.str "plus", .str "plus", .str "least", .str "most", .str "same"]) hl)
      generalize upd H3 l (.lst [.str "plus", .str "plus", .str "least", .str "most", .str "same"]) = H4 at d14 hl4 m14
      refine ⟨p, l, _, rfl, d14.pot, hl4, (by decide), (by decide), fun H5 y d5 hy => ?_⟩
      obtain ⟨o, rfl⟩ := words_of hy
      have d15 := d14.trans d5
      refine ⟨_, rfl, _, rfl, _, rfl, _, rfl, _, rfl, _, rfl, _, _, rfl, rfl, _, rfl, _, _, rfl, rfl, p, sp, m, nodes - 1 - (1 + f1), cs, rfl, d15.pot, hm2, hm9, by omega, by omega, by omega, hSp.up d15.s, fun H6 t2 g2 d6 m2 z2 f2' => ⟨(by show 3 ≤ sizeLine; decide), fun t ht => ?_⟩⟩
      have s9 := Same.new (o := .tup [.str (oW o), .ref t1, .ref t2]) ht
      refine hq _ t (.pair o g1 g2) ((d15.trans d6).new ht) ⟨t1, t2, upd_same, (m14.drw d14.pot (d5.trans d6)).up s9, m2.up s9⟩ ?_ ⟨f1', f2'⟩
      unfold Fm.size
      omega
    rintro σ H1 ⟨⟨c5, c6, c7, c8, c9, c10, c11, c12, rfl⟩, d1⟩
    exact ⟨_, rfl, _, rfl, _, rfl, p, sp, m, cs, rfl, d1.pot, hm2, hm9, hSp.up d1.s, fun H2 t f d2 h1' h2' h3' => hq H2 t f (d1.trans d2) h1' (by omega) h3'⟩
theorem d_part (G : GD K mg) (n : Nat) {k : Nat} (hk : n + 4 ≤ k) : DefR PP w K mg base k "_law_part" (pPart n) := ⟨_, gg_law_part G, gk_law_part G, (k_law_part G n).mono hk⟩
end
end Bn
/-! W26: a drawn sheet. -/
namespace Bn
open PySem PySem.Spec PyProof.Rows L2 StX
open He (ga ma)
section
variable {w : World} {K : Fr} {mg : Str → Option Value} {base : Heap}
theorem d_plan (G : GD K mg) {k : Nat} (hk : 3 ≤ k) : DefR PP w K mg base k "_law_plan" pPlan := ⟨_, gg_law_plan G, gk_law_plan G, (k_law_plan G).mono hk⟩
theorem nat_min (a b : Nat) : ∃ x : Nat, x ≤ a ∧ (if (a : Int) < (b : Int) then (a : Int) else (b : Int)) = (x : Int) := by
  by_cases h : (a : Int) < (b : Int)
  · exact ⟨a, Nat.le_refl _, if_pos h⟩
  · exact ⟨b, by omega, if_neg h⟩
def pSheetM : Pr := fun vs H Q => ∃ (p sz : Addr) (m : Int) (n0 n1 n2 ups dws : Nat), vs = [.ref p, .int m, .ref sz, .int (ups : Nat), .int (dws : Nat), .int 7] ∧ PotAt H p ∧ 2 ≤ m ∧ m ≤ 9 ∧ H sz = some (.tup [.int (n0 : Nat), .int (n1 : Nat), .int (n2 : Nat)]) ∧ 1 ≤ n0 ∧ n0 ≤ 4 ∧ 1 ≤ n1 ∧ n1 ≤ 3 ∧ 1 ≤ n2 ∧ n2 ≤ 3 ∧
  ∀ H' a S, Drw p H H' → S.Ok → IsMo (dr p H') a S → Q (.ref a) H'
theorem k_law_sheet (G : GD K mg) : Keeps PP w K mg base 12 (ga K "_law_sheet") pSheetM := by
  obtain ⟨fd, F⟩ := fd_law_sheet G
  refine kp_fnN (k := 11) F sc_law_sheet (fun _ _ _ _ _ _ us hl => match us, hl with | [_, _, _, _, _, _], _ => rfl) (by rintro _ _ _ ⟨p, sz, m, n0, n1, n2, ups, dws, rfl, _⟩; rfl) fun cdv A outer s H vs Q E hr hp => ?_
  obtain ⟨p, sz, m, n0, n1, n2, ups, dws, rfl, hP, hm2, hm9, hsz, a1, a2, b1, b2, c1, c2, hq⟩ := hp
  have nd := sc_law_sheet.nd
  have hs := sizeLine_eq
  have hu := hu_of hr.r
  have D1 := d_draw (w := w) (base := base) G (k := 11) (by omega)
  have D2 := d_taken (w := w) (base := base) G (k := 11) (by omega)
  have D3 := d_part (w := w) (base := base) G 7 (k := 11) (by omega)
  have D4 := d_plan (w := w) (base := base) G (k := 11) (by omega)
  refine ⟨_, pss_cons (ps_set (i := 6) nd rfl (.inl rfl) (pe_lst (pa_cons pe_str (pa_cons pe_str (pa_cons pe_str (pa_cons pe_str (pa_cons pe_str (pa_cons pe_str (pa_cons pe_str (pa_cons pe_str (pa_cons pe_str (pa_cons pe_str (pa_cons pe_str (pa_cons pe_str pa_nil))))))))))))))
    (pss_cons (ps_set (i := 7) nd rfl (.inl rfl) (pe_d D2 hr (by rfl) (pa_cons (pv 0) (pa_cons (pv 6) (pa_cons (pe_ix ix_tup (pv 2) pe_int (fun _ _ => rfl)) pa_nil)))))
    (pss_cons (ps_set (i := 8) nd rfl (.inl rfl) (pe_d D2 hr (by rfl) (pa_cons (pv 0) (pa_cons (pe_lst (pa_cons pe_str (pa_cons pe_str (pa_cons pe_str (pa_cons pe_str (pa_cons pe_str (pa_cons pe_str (pa_cons pe_str pa_nil)))))))) (pa_cons (pe_ix ix_tup (pv 2) pe_int (fun _ _ => rfl)) pa_nil)))))
    (pss_cons (ps_par (i := 9) (j := 10) rfl nd rfl rfl (by decide) rfl rfl (pa_cons (pe_d D2 hr (by rfl) (pa_cons (pv 0) (pa_cons (pv 7) (pa_cons (pe_callB (call_min2 rfl) (by rfl) (gf_min G) rfl (pa_cons (pv 3) (pa_cons (pe_ix ix_tup (pv 2) pe_int (fun _ _ => rfl)) pa_nil))) pa_nil))))
        (pa_cons (pe_d D2 hr (by rfl) (pa_cons (pv 0) (pa_cons (pv 7) (pa_cons (pe_callB (call_min2 rfl) (by rfl) (gf_min G) rfl (pa_cons (pv 4) (pa_cons (pe_ix ix_tup (pv 2) pe_int (fun _ _ => rfl)) pa_nil))) pa_nil)))) pa_nil)) rfl)
    (pss_cons (ps_set (i := 11) nd rfl (.inl rfl) pe_dnewK)
    (pss_cons (ps_for PassesOwn.never rfl (pi_list (pv 8)) (pg_name (i := 12) nd rfl (.inl rfl))
      (pss_cons (ps_dput hu (pv 11) (pv 12) pe_dnewK rfl)
      (pss_one (ps_for PassesOwn.never rfl (pi_enum (by rfl) (gf_enumerate G) (pa_cons (pv 7) pa_nil)) (pg_tup rfl (pgs_cons (pg_name (i := 13) nd rfl (.inl rfl)) (pgs_cons (pg_name (i := 14) nd rfl (.inl rfl)) pgs_nil)))
        (C8.pss_cut (ps_set (i := 15) nd rfl (.inl rfl) (pe_ifExp (pt_cmpR op_eq (pe_d D1 hr (by rfl) (pa_cons (pv 0) (pa_cons pe_int pa_nil))) pe_int (nomark _)) (pe_callTy call_list_of (by rfl) (gf_list G) rfl (pa_cons (pv 7) pa_nil)) (pe_slice sl_list (pv 7) po_none (po_some (pv 13)))))
        (pss_cons (ps_set (i := 16) nd rfl (.inl rfl) (pe_dget hu (pv 11) (pv 12) (fun _ _ => rfl)))
        (pss_one (ps_dput hu (pv 16) (pv 14) (pe_d D3 hr (by rfl) (pa_cons (pv 0) (pa_cons (pv 1) (pa_cons (pe_tup (pa_cons (pv 15) (pa_cons (pv 9) (pa_cons (pv 10) pa_nil)))) (pa_cons (pe_op op_add pe_int (pe_d D1 hr (by rfl) (pa_cons (pv 0) (pa_cons (pv 5) pa_nil)))) pa_nil))))) rfl))))))))
    (pss_cons (ps_set (i := 17) nd rfl (.inl rfl) (pe_callTy (call_dictP rfl) (by rfl) (gf_dict G) rfl (pa_cons (pe_lc (own := [("_law_column", 14)]) (g := gName 14) (tt := tYes) (te := tTup (tCons (tVar 14) (tCons (tD pDraw (tCons (tVar 0) (tCons (tVar 1) tNil))) tNil))) rfl nd (pi_list (pv 7)) (blkOk_by (N := N_law_sheet) (sc := defScope s_law_sheet) (by decide +kernel))
          (fun _ _ _ _ _ => pg_name (i := 14) nd rfl (.inl rfl)) (fun _ _ _ _ _ => pts_nil) (fun _ _ _ _ _ => pe_tup (pa_cons (pv 14) (pa_cons (pe_d D1 hr (by rfl) (pa_cons (pv 0) (pa_cons (pv 1) pa_nil))) pa_nil)))) pa_nil)))
    (pss_cons (ps_set (i := 18) nd rfl (.inl rfl) (pe_d D4 hr (by rfl) (pa_cons (pv 0) (pa_cons (pv 8) (pa_cons (pe_ix ix_tup (pv 2) pe_int (fun _ _ => rfl)) pa_nil)))))
    (pss_one (ps_ret (pe_disp (pps_cons pe_str (pv 1) (pps_cons pe_str (pv 7) (pps_cons pe_str (pv 17) (pps_cons pe_str (pv 11) (pps_cons pe_str (pv 18) pps_nil))))) rfl rfl (by simp) (by decide))))))))))), ?_⟩
  -- columns
  refine ⟨(by show 12 ≤ sizeLine; decide), fun ml hml => ?_⟩
  have d1 := (Drw.refl hP).new (o := .lst (MENU.map V.str)) hml
  have ml1 : dr p (upd H ml (.lst (MENU.map V.str))) ml = some (.lst (MENU.map V.str)) := by rw [dr_ne (hP.ne hml), upd_same]
  have sz1 := Same.new (o := .lst (MENU.map V.str)) hml _ _ hsz
  refine ⟨_, rfl, _, rfl, _, rfl, sz, _, 0, _, rfl, rfl, .of sz1, rfl, p, ml, MENU, n0, rfl, d1.pot, ml1, (by show n0 ≤ 12; omega), (by decide), menu_nd, fun H2 c cols d2 _ hc hcl hcn hcs => ?_⟩
  have d12 := d1.trans d2
  have sz2 := d2.at_ (dr_tup d1.pot sz1)
  -- kinds
  refine ⟨_, rfl, (by show 7 ≤ sizeLine; decide), fun mk hmk => ?_⟩
  have d3 := (Drw.refl d2.pot).new (o := .lst (MENK.map V.str)) hmk
  have mk3 : dr p (upd H2 mk (.lst (MENK.map V.str))) mk = some (.lst (MENK.map V.str)) := by rw [dr_ne (d2.pot.ne hmk), upd_same]
  have sz3 := Same.new (o := .lst (MENK.map V.str)) hmk _ _ sz2
  refine ⟨_, rfl, sz, _, 1, _, rfl, rfl, .of sz3, rfl, p, mk, MENK, n1, rfl, d3.pot, mk3, (by show n1 ≤ 7; omega), (by decide), menk_nd, fun H4 kd kinds d4 _ hkd hkl hkn hks => ?_⟩
  have d34 := d3.trans d4
  have sz4 := d4.at_ (dr_tup d3.pot sz3)
  have hc4 := d34.s _ _ hc
  -- near, far
  obtain ⟨x1, hx1, e1⟩ := nat_min n0 ups
  obtain ⟨x2, hx2, e2⟩ := nat_min n0 dws
  refine ⟨_, rfl, _, rfl, _, rfl, _, rfl, sz, _, 0, _, rfl, rfl, .of sz4, rfl, _, _, rfl, p, c, cols, x1, by rw [e1], d34.pot, hc4, by omega, by omega, hcn, fun H5 nr near d5 _ hnr hnl _ hns => ?_⟩
  have sz5 := d5.at_ (dr_tup d34.pot sz4)
  have hc5 := d5.s _ _ hc4
  refine ⟨_, rfl, _, rfl, _, rfl, _, rfl, sz, _, 0, _, rfl, rfl, .of sz5, rfl, _, _, rfl, p, c, cols, x2, by rw [e2], d5.pot, hc5, by omega, by omega, hcn, fun H6 fr far d6 _ hfr hfl _ hfs => ⟨_, _, rfl, ?_⟩⟩
  have sz6 := d6.at_ (dr_tup d5.pot sz5)
  have hc6 := d6.s _ _ hc5
  have hkd6 := d6.s _ _ (d5.s _ _ hkd)
  have hnr6 := d6.s _ _ hnr
  have d16 := ((d12.trans d34).trans d5).trans d6
  clear hc5 hc4 sz5 sz4 sz3 sz2 sz1 mk3 ml1 hkd hnr
  -- table
  refine fun tb htb => ?_
  have htbp := d6.pot.ne htb
  have htbd : dr p H6 tb = none := dr_free htb
  refine ⟨_, rfl, kd, rfl, ⟨_, .of (Same.new htb _ _ (dr_le _ _ hkd6))⟩, for_it (walk_list (a := kd) (xs := kinds.map V.str)) (fun i σ H7 => Drw p H6 H7 ∧ ∃ (ka : Str → Addr) (c12 c13 c14 c15 c16 c17 c18 : Option V), σ = [some (.ref p), some (.int m), some (.ref sz), some (.int (ups : Nat)), some (.int (dws : Nat)), some (.int 7), some (.ref ml), some (.ref c), some (.ref kd), some (.ref nr), some (.ref fr), some (.ref tb), c12, c13, c14, c15, c16, c17, c18] ∧
      H7 tb = some (.dK (dct (kinds.take i) fun x => .ref (ka x))) ∧ ∀ x ∈ kinds.take i, ka x ≠ tb ∧ KRow H7 m cols cols (ka x))
    ⟨(Drw.refl d6.pot).new htb, fun _ => 0, none, none, none, none, none, none, none, rfl, upd_same, (fun _ h => by simp at h)⟩ (fun i σ H7 _ h => .of (h.1.at_ hkd6)) ?_ ?_⟩
  · rintro i v σ H7 H7' hi ⟨d7, ka, c12, c13, c14, c15, c16, c17, c18, rfl, htb7, hka⟩ ⟨rfl, hv⟩
    obtain ⟨z, hz, rfl⟩ := some_map hv
    rw [List.length_map] at hi
    have hzt : z ∉ kinds.take i := nd_take hkn hz
    refine fun rk hrk => ⟨_, rfl, _, rfl, tb, _, rfl, DPut.k (k := .inr z) (Same.new hrk _ _ htb7) (by rw [dct_len, List.length_take]; omega), ?_⟩
    rw [dct_put hzt, ← take_snoc hz]
    have hrkp := d7.pot.ne hrk
    have hrkd := d7.free hrk
    have hrktb : rk ≠ tb := (ne_of_none htb7 hrk).symm
    have d8 := (d7.new (o := .dK []) hrk).put (o := .dK (dct (kinds.take (i + 1)) fun x => if x = z then .ref rk else .ref (ka x))) htbd htbp
    have tb8 : upd (upd H7' rk (.dK [])) tb (.dK (dct (kinds.take (i + 1)) fun x => if x = z then .ref rk else .ref (ka x))) tb = some (.dK (dct (kinds.take (i + 1)) fun x => if x = z then .ref rk else .ref (ka x))) := upd_same
    have rk8 : upd (upd H7' rk (.dK [])) tb (.dK (dct (kinds.take (i + 1)) fun x => if x = z then .ref rk else .ref (ka x))) rk = some (.dK []) := by rw [upd_ne hrktb, upd_same]
    have ka8 : ∀ x ∈ kinds.take i, ka x ≠ rk ∧ ka x ≠ tb ∧ KRow (upd (upd H7' rk (.dK [])) tb (.dK (dct (kinds.take (i + 1)) fun x => if x = z then .ref rk else .ref (ka x)))) m cols cols (ka x) := fun x hx => by
      obtain ⟨k1, k2⟩ := hka x hx
      have k3 := k2
      obtain ⟨fa, g, e, _⟩ := k3
      exact ⟨ne_of_none e hrk, k1, (k2.up (Same.new hrk)).upd (Same.new hrk _ _ htb7) k1⟩
    generalize upd (upd H7' rk (.dK [])) tb (.dK (dct (kinds.take (i + 1)) fun x => if x = z then .ref rk else .ref (ka x))) = H8 at d8 tb8 rk8 ka8
    have hc8 := d8.s _ _ hc6
    refine ⟨_, rfl, c, _, rfl, .of (dr_le _ _ hc8), for_it (walk_enum (a := c) (xs := cols.map V.str)) (fun j σ H9 => Drw p H6 H9 ∧ ∃ (c13 c14 c15 c16 : Option V), σ = [some (.ref p), some (.int m), some (.ref sz), some (.int (ups : Nat)), some (.int (dws : Nat)), some (.int 7), some (.ref ml), some (.ref c), some (.ref kd), some (.ref nr), some (.ref fr), some (.ref tb), some (.str z), c13, c14, c15, c16, c17, c18] ∧
        H9 tb = some (.dK (dct (kinds.take (i + 1)) fun x => if x = z then .ref rk else .ref (ka x))) ∧ KRow H9 m cols (cols.take j) rk ∧ ∀ x ∈ kinds.take i, KRow H9 m cols cols (ka x))
      ⟨d8, _, _, _, _, rfl, tb8, ⟨fun _ => 0, fun _ => .num 0, rk8, fun _ h => by simp at h⟩, fun x hx => (ka8 x hx).2.2⟩ (fun j σ H9 _ h => .of (h.1.at_ hc6)) ?_ ?_⟩
    · rintro j v' σ H9 H9' hj ⟨d9, c13, c14, c15, c16, rfl, tb9, rk9, ka9⟩ ⟨T, v1, v2, rfl, hT, rfl, f1, f2⟩
      cases f1
      obtain ⟨y, hy, rfl⟩ := some_map f2
      rw [List.length_map] at hj
      have hyt : y ∉ cols.take j := nd_take hcn hy
      have hyc := List.mem_of_getElem? hy
      have d10 := d9.new (o := .tup [.int (j : Nat), .str y]) hT
      have s10 := Same.new (o := .tup [.int (j : Nat), .str y]) hT
      have hT10 : upd H9 T (.tup [.int (j : Nat), .str y]) T = some (.tup [.int (j : Nat), .str y]) := upd_same
      refine ⟨T, _, rfl, .of hT10, rfl, _, _, rfl, _, _, rfl, rfl, ?_⟩
      have tb10 := s10 _ _ tb9
      have rk10 := rk9.up s10
      have ka10 : ∀ x ∈ kinds.take i, KRow _ m cols cols (ka x) := fun x hx => (ka9 x hx).up s10
      clear hT10
      generalize upd H9 T (.tup [.int (j : Nat), .str y]) = H10 at d10 s10 tb10 rk10 ka10
      have d6a := d10
      refine ⟨fun σ' H' => ∃ (ow : Addr) (os : List Str), σ' = [some (.ref p), some (.int m), some (.ref sz), some (.int (ups : Nat)), some (.int (dws : Nat)), some (.int 7), some (.ref ml), some (.ref c), some (.ref kd), some (.ref nr), some (.ref fr), some (.ref tb), some (.str z), some (.int (j : Nat)), some (.str y), some (.ref ow), c16, c17, c18] ∧ Drw p H10 H' ∧ dr p H' ow = some (.lst (os.map V.str)) ∧ os.length ≤ 100 ∧ ∀ x ∈ os, x ∈ cols, ?_, ?_⟩
      · refine ⟨_, rfl, p, 5, rfl, d10.pot, by decide, by decide, fun H11 d d11 _ _ => ⟨rfl, _, rfl, ifB (fun _ => ?_) (fun _ => ?_)⟩⟩
        · have hc11 := (d6a.trans d11).s _ _ hc6
          refine ⟨_, rfl, c, _, rfl, .inl (.of (dr_le _ _ hc11)), fun ow how => ⟨ow, cols, rfl, d11.new how, ?_, by omega, fun x hx => hx⟩⟩
          rw [dr_ne (d11.pot.ne how), upd_same]
        · have hc11 := (d6a.trans d11).s _ _ hc6
          refine ⟨_, rfl, _, rfl, _, rfl, c, _, rfl, .of (dr_le _ _ hc11), fun ow how => ⟨ow, cols.take j, rfl, d11.new how, ?_, ?_, fun x hx => List.mem_of_mem_take hx⟩⟩
          · rw [dr_ne (d11.pot.ne how), upd_same, take_cut, List.map_take]
          · rw [List.length_take]; omega
      rintro σ' H12 ⟨ow, os, rfl, d12', how, hol, hos⟩
      have tb12 := d12'.at_ (dr_dK d10.pot tb10)
      have hzi : z ∈ kinds.take (i + 1) := by rw [take_snoc hz]; simp
      refine ⟨_, rfl, _, rfl, tb, .ref rk, rfl, .inl ⟨_, .inr z, .inl tb12, rfl, ?_⟩, ?_⟩
      · rw [dct_in hzi, if_pos rfl]
      refine ⟨_, rfl, _, rfl, _, rfl, _, rfl, _, rfl, (by show 3 ≤ sizeLine; decide), fun sp hsp => ?_⟩
      have d13 := d12'.new (o := .tup [.ref ow, .ref nr, .ref fr]) hsp
      have hsp13 : dr p (upd H12 sp (.tup [.ref ow, .ref nr, .ref fr])) sp = some (.tup [.ref ow, .ref nr, .ref fr]) := dr_tup d13.pot upd_same
      have how13 := dr_same (p := p) (Same.new (o := .tup [.ref ow, .ref nr, .ref fr]) hsp) _ _ how
      generalize upd H12 sp (.tup [.ref ow, .ref nr, .ref fr]) = H13 at d13 hsp13 how13
      refine ⟨_, rfl, _, rfl, p, 7, rfl, d13.pot, by decide, by decide, fun H14 d d14 e0 e1 => ⟨_, _, rfl, rfl, ?_⟩⟩
      have d6b := (d6a.trans d13).trans d14
      refine ⟨p, sp, m, 1 + d, cols, rfl, d14.pot, hm2, hm9, by omega, by omega, by omega, ⟨ow, nr, fr, os, near, far, d14.s _ _ hsp13, d14.s _ _ how13, d6b.s _ _ hnr6, d6b.s _ _ hfr, hol, by omega, by omega, hos, hns, hfs⟩, fun H15 t f d15 m15 z15 f15 => ?_⟩
      have d1015 := (d13.trans d14).trans d15
      obtain ⟨fa, g, rk15, rkg⟩ := rk10.drw d10.pot d1015
      refine ⟨_, rfl, _, rfl, rk, _, rfl, DPut.k (k := .inr y) rk15 (by rw [dct_len, List.length_take]; omega), ?_⟩
      rw [dct_put hyt, ← take_snoc hy]
      have tb15 := d1015.at_ (dr_dK d10.pot tb10)
      refine ⟨(d10.trans d1015).put hrkd hrkp, _, _, _, _, rfl, ?_, ?_, fun x hx => ?_⟩
      · rw [upd_ne hrktb.symm]; exact tb15
      · refine ⟨fun x => if x = y then t else fa x, fun x => if x = y then f else g x, ?_, fun x hx => ?_⟩
        · rw [upd_same]
          congr 2
          exact dct_congr fun x _ => by show _ = V.ref (if x = y then t else fa x); split <;> rfl
        · rw [take_snoc hy] at hx
          have up : ∀ {q : Fm} {b : Addr}, IsMd H15 q b → IsMd (upd H15 rk (.dK (dct (cols.take (j + 1)) fun x => if x = y then .ref t else .ref (fa x)))) q b := fun h => h.updL rk15 (fun _ z => nomatch z)
          show IsMd _ (if x = y then f else g x) (if x = y then t else fa x) ∧ (if x = y then f else g x).fit m cols ∧ (if x = y then f else g x).size ≤ 7
          by_cases hxy : x = y
          · rw [if_pos hxy, if_pos hxy]
            exact ⟨up m15, f15, by omega⟩
          · rw [if_neg hxy, if_neg hxy]
            rcases List.mem_append.mp hx with hx | hx
            · exact ⟨up (rkg x hx).1, (rkg x hx).2⟩
            · exact absurd (List.mem_singleton.mp hx) hxy
      · exact ((ka10 x hx).drw d10.pot d1015).upd rk15 (ka8 x hx).1
    · rintro σ H9 ⟨d9, c13, c14, c15, c16, rfl, tb9, rk9, ka9⟩
      rw [List.length_map, List.take_length] at rk9
      refine ⟨d9, fun x => if x = z then rk else ka x, _, _, _, _, _, _, _, rfl, ?_, fun x hx => ?_⟩
      · rw [tb9]
        congr 2
        exact dct_congr fun x _ => by show _ = V.ref (if x = z then rk else ka x); split <;> rfl
      · rw [take_snoc hz] at hx
        show (if x = z then rk else ka x) ≠ tb ∧ KRow H9 m cols cols (if x = z then rk else ka x)
        by_cases hxz : x = z
        · rw [if_pos hxz]; exact ⟨hrktb, rk9⟩
        · rw [if_neg hxz]
          rcases List.mem_append.mp hx with hx | hx
          · exact ⟨(ka8 x hx).2.1, ka9 x hx⟩
          · exact absurd (List.mem_singleton.mp hx) hxz
  · rintro σ H7 ⟨d7, ka, c12, c13, c14, c15, c16, c17, c18, rfl, htb7, hka⟩
    rw [List.length_map, List.take_length] at htb7 hka
    have hc7 := d7.s _ _ hc6
    have hkd7 := d7.s _ _ hkd6
    have sz7 := d7.at_ (dr_tup d6.pot sz6)
    -- top
    refine ⟨_, rfl, c, rfl, ⟨_, .of (dr_le _ _ hc7)⟩, fun D hD => lc_it (walk_list (a := c) (xs := cols.map V.str)) (fun j H8 => Drw p H7 H8 ∧ ∃ (as : List Addr) (vs : List Int), H8 D = some (.lst (as.map V.ref)) ∧ as.length ≤ j ∧ vs.length = (cols.take j).length ∧ (∀ v ∈ vs, 0 ≤ v ∧ v < m) ∧ Paired (fun a kv => H8 a = some (.tup [kV kv.1, kv.2])) as (kvz ((cols.take j).map Sum.inr) (vs.map V.int)))
      ⟨(Drw.refl d7.pot).new hD, [], [], upd_same, Nat.zero_le _, rfl, (fun _ h => nomatch h), .nil⟩ (fun j H8 _ h => .of (h.1.at_ hc7)) ?_ ?_⟩
    · rintro j v' H8 H8' hj ⟨d8, as, vs, hD8, hal, hvl, hv, hpa⟩ ⟨rfl, hv'⟩
      obtain ⟨y, hy, rfl⟩ := some_map hv'
      have hDp := d7.pot.ne hD
      refine ⟨rfl, _, rfl, _, rfl, _, rfl, p, m, rfl, d8.pot, by omega, by omega, fun H9 d d9 e0 e1 => ⟨(by show 2 ≤ sizeLine; decide), fun t ht => ?_⟩⟩
      have s10 := Same.new (o := .tup [.str y, .int d]) ht
      have hD9 := d9.at_ (by rw [dr_ne hDp]; exact hD8)
      have hD10 := s10 _ _ hD9
      have htD : t ≠ D := (ne_of_none hD9 ht).symm
      rw [List.length_map] at hj
      refine ⟨_, hD10, by rw [List.length_map]; omega, ((d8.trans d9).new ht).put (dr_free hD) hDp, as ++ [t], vs ++ [d], by rw [upd_same, List.map_append]; rfl, by rw [List.length_append, List.length_singleton]; omega, ?_, fun x hx => ?_, ?_⟩
      · rw [take_snoc hy, List.length_append, List.length_append, hvl]; rfl
      · rcases List.mem_append.mp hx with hx | hx
        · exact hv x hx
        · cases List.mem_singleton.mp hx; exact ⟨e0, e1⟩
      · rw [take_snoc hy, List.map_append, List.map_append]
        have z2 := kvz_snoc (ks := (cols.take j).map Sum.inr) (zs := vs.map V.int) (k := Sum.inr y) (z := .int d) (by rw [List.length_map, List.length_map]; exact hvl)
        show Paired _ (as ++ [t]) (kvz ((cols.take j).map Sum.inr ++ [Sum.inr y]) (vs.map V.int ++ [V.int d]))
        rw [z2]
        refine paired_append (Paired.mapP hpa fun a kv e => ?_) (.cons ?_ .nil)
        · exact upd_of (s10 _ _ (d9.at_ (dr_tup d8.pot e))) hD10 (fun z => nomatch z)
        · rw [upd_ne htD, upd_same]; rfl
    rintro H8 ⟨d8, as, vs, hD8, hal, hvl, hv, hpa⟩
    rw [List.length_map, List.take_length] at hvl hpa
    obtain ⟨top, etop, htop⟩ := pairs_dct (P := fun v => 0 ≤ v ∧ v < m) hcn hvl hv
    rw [etop] at hpa
    refine ⟨D, as, _, rfl, .of hD8, Paired.mapP hpa (fun a kv e => .of e), fun tp htp => ?_⟩
    rw [merge_dct hcn]
    have d9 := d8.new (o := .dK (dct cols fun x => V.int (top x))) htp
    have tp9 : upd H8 tp (.dK (dct cols fun x => V.int (top x))) tp = some (.dK (dct cols fun x => V.int (top x))) := upd_same
    generalize upd H8 tp (.dK (dct cols fun x => V.int (top x))) = H9 at d9 tp9
    have sz9 := d9.at_ (dr_tup d7.pot sz7)
    -- plan
    refine ⟨_, rfl, _, rfl, _, rfl, sz, _, 2, _, rfl, rfl, .of sz9, rfl, p, kd, kinds, n2, rfl, d9.pot, d9.s _ _ hkd7, hkn, by omega, by omega, c1, by omega, fun H10 pl rs plan d10 _ hpl hpr hpn hpo => ?_⟩
    have d710 := d9.trans d10
    have tb10 := d710.at_ (dr_dK d7.pot htb7)
    have tp10 := d10.at_ (dr_dK d9.pot tp9)
    -- the formulas
    have hka10 : ∀ x ∈ kinds, KRow H10 m cols cols (ka x) := fun x hx => (hka x hx).2.drw d7.pot d710
    haveI : Nonempty Fm := ⟨.num 0⟩
    obtain ⟨fm, hfm⟩ := choose_on (P := fun x (g : Str → Fm) => ∃ fa : Str → Addr, H10 (ka x) = some (.dK (dct cols fun y => .ref (fa y))) ∧ ∀ y ∈ cols, IsMd H10 (g y) (fa y) ∧ (g y).fit m cols ∧ (g y).size ≤ 7) (l := kinds) fun x hx => by
      obtain ⟨fa, g, h1, h2⟩ := hka10 x hx
      exact ⟨g, fa, h1, h2⟩
    refine fun md hmd => ⟨_, rfl, _, rfl, _, rfl, _, rfl, _, rfl, upd_same, [(.inr "modulus", .int m), (.inr "columns", .ref c), (.inr "top", .ref tp), (.inr "kinds", .ref tb), (.inr "plan", .ref pl)], rfl, (by show 5 ≤ 15; decide), ?_⟩
    rw [upd_upd]
    have hmg : mergeK [] [((Sum.inr "modulus" : Key), V.int m), (.inr "columns", .ref c), (.inr "top", .ref tp), (.inr "kinds", .ref tb), (.inr "plan", .ref pl)] = [((Sum.inr "modulus" : Key), V.int m), (.inr "columns", .ref c), (.inr "top", .ref tp), (.inr "kinds", .ref tb), (.inr "plan", .ref pl)] := by rfl
    rw [hmg]
    have d11 := (((d16.trans d7).trans d710)).new (o := .dK [((Sum.inr "modulus" : Key), V.int m), (.inr "columns", .ref c), (.inr "top", .ref tp), (.inr "kinds", .ref tb), (.inr "plan", .ref pl)]) hmd
    have s11 := dr_same (p := p) (Same.new (o := .dK [((Sum.inr "modulus" : Key), V.int m), (.inr "columns", .ref c), (.inr "top", .ref tp), (.inr "kinds", .ref tb), (.inr "plan", .ref pl)]) hmd)
    obtain ⟨pa, pb, pe, _⟩ := d10.pot
    refine hq _ md ⟨m, cols, top, kinds, fm, plan⟩ d11 ⟨hm2, hm9, by show 1 ≤ cols.length; omega, by show cols.length ≤ 4; omega, hcn, fun x hx => menu_ok x (hcs x hx), htop, by show 1 ≤ kinds.length; omega, by show kinds.length ≤ 3; omega, hkn, fun x hx => menk_ok x (hks x hx), fun x hx y hy => ?_, by show 1 ≤ plan.length; omega, by show plan.length ≤ 3; omega, fun r hr' => ?_, fun i r hi hin => ?_⟩
      ⟨c, tp, tb, pl, by rw [dr_ne (d10.pot.ne hmd), upd_same], ⟨s11 _ _ (d710.s _ _ hc7), s11 _ _ (dr_dK d10.pot tp10), ⟨ka, s11 _ _ (dr_dK d10.pot tb10), fun x hx => ?_⟩, rs, s11 _ _ hpl, Paired.mapP hpr fun a r e => s11 _ _ e⟩⟩
    · obtain ⟨fa, _, h2⟩ := hfm x hx
      exact (h2 y hy).2
    · obtain ⟨i, hi⟩ := List.mem_iff_getElem?.mp hr'
      have o := hpo i r hi
      refine ⟨o.l1, by have := o.l2; omega, o.nd, o.sub, fun k hk => ?_⟩
      have := o.rng k hk
      show 0 ≤ r.2 k ∧ r.2 k < (plan.length : Int)
      rw [hpn]
      exact this
    · have o := hpo i r hi
      have hin : i + 1 < plan.length := hin
      exact o.nx (by omega)
    · obtain ⟨fa, h1, h2⟩ := hfm x hx
      exact ⟨fa, s11 _ _ (dr_dK d10.pot h1), fun y hy => ((h2 y hy).1.dr pe (fun _ z => nomatch z)).up s11⟩
theorem d_sheet (G : GD K mg) {k : Nat} (hk : 12 ≤ k) : DefR PP w K mg base k "_law_sheet" pSheetM := ⟨_, gg_law_sheet G, gk_law_sheet G, (k_law_sheet G).mono hk⟩
def pAny : Pr := fun vs H Q => ∃ p : Addr, vs = [.ref p] ∧ PotAt H p ∧ ∀ H' a S, Drw p H H' → S.Ok → IsMo (dr p H') a S → Q (.ref a) H'
theorem k_law_any (G : GD K mg) : Keeps PP w K mg base 13 (ga K "_law_any") pAny := by
  obtain ⟨fd, F⟩ := fd_law_any G
  refine kp_fnN (k := 12) F sc_law_any (fun _ _ _ _ _ _ us hl => match us, hl with | [_], _ => rfl) (by rintro _ _ _ ⟨p, rfl, _⟩; rfl) fun cdv A outer s H vs Q E hr hp => ?_
  obtain ⟨p, rfl, hP, hq⟩ := hp
  have nd := sc_law_any.nd
  have D1 := d_draw (w := w) (base := base) G (k := 12) (by omega)
  have D2 := d_pick (w := w) (base := base) G (k := 12) (by omega)
  have D3 := d_sheet (w := w) (base := base) G (k := 12) (by omega)
  refine ⟨_, pss_cons (ps_set (i := 1) nd rfl (.inl rfl) (pe_d D2 hr (by rfl) (pa_cons (pv 0) (pa_cons (pe_lst (pa_cons pe_int (pa_cons pe_int (pa_cons pe_int (pa_cons pe_int (pa_cons (pe_op op_add pe_int (pe_d D1 hr (by rfl) (pa_cons (pv 0) (pa_cons pe_int pa_nil)))) pa_nil)))))) pa_nil))))
    (pss_cons (ps_set (i := 2) nd rfl (.inl rfl) (pe_tup (pa_cons (pe_op op_add pe_int (pe_d D1 hr (by rfl) (pa_cons (pv 0) (pa_cons pe_int pa_nil)))) (pa_cons (pe_op op_add pe_int (pe_d D1 hr (by rfl) (pa_cons (pv 0) (pa_cons pe_int pa_nil)))) (pa_cons (pe_op op_add pe_int (pe_d D1 hr (by rfl) (pa_cons (pv 0) (pa_cons pe_int pa_nil)))) pa_nil)))))
    (pss_one (ps_ret (pe_d D3 hr (by rfl) (pa_cons (pv 0) (pa_cons (pv 1) (pa_cons (pv 2) (pa_cons (pe_d D1 hr (by rfl) (pa_cons (pv 0) (pa_cons pe_int pa_nil))) (pa_cons (pe_op op_add pe_int (pe_d D1 hr (by rfl) (pa_cons (pv 0) (pa_cons pe_int pa_nil)))) (pa_cons pe_int pa_nil)))))))))), ?_⟩
  refine ⟨_, rfl, _, rfl, p, 8, rfl, hP, by decide, by decide, fun H1 d d1 e0 e1 => ⟨_, _, rfl, rfl, (by show 5 ≤ sizeLine; decide), fun l hl => ?_⟩⟩
  have d2 := d1.new (o := .lst [.int 2, .int 2, .int 3, .int 9, .int (2 + d)]) hl
  have hl2 : dr p (upd H1 l (.lst [.int 2, .int 2, .int 3, .int 9, .int (2 + d)])) l = some (.lst [.int 2, .int 2, .int 3, .int 9, .int (2 + d)]) := by rw [dr_ne (d1.pot.ne hl), upd_same]
  refine ⟨p, l, _, rfl, d2.pot, hl2, (by show 1 ≤ 5; decide), (by show 5 ≤ 1000; decide), fun H3 y d3 hy => ?_⟩
  obtain ⟨m, rfl, hm2, hm9⟩ : ∃ m : Int, y = .int m ∧ 2 ≤ m ∧ m ≤ 9 := by
    rcases List.mem_cons.mp hy with rfl | hy
    · exact ⟨2, rfl, by decide, by decide⟩
    rcases List.mem_cons.mp hy with rfl | hy
    · exact ⟨2, rfl, by decide, by decide⟩
    rcases List.mem_cons.mp hy with rfl | hy
    · exact ⟨3, rfl, by decide, by decide⟩
    rcases List.mem_cons.mp hy with rfl | hy
    · exact ⟨9, rfl, by decide, by decide⟩
    cases List.mem_singleton.mp hy
    exact ⟨2 + d, rfl, by omega, by omega⟩
  have d13 := d2.trans d3
  refine ⟨_, rfl, p, 4, rfl, d13.pot, by decide, by decide, fun H4 x1 d4 g0 g1 => ⟨_, _, rfl, rfl, _, rfl, p, 3, rfl, d4.pot, by decide, by decide, fun H5 x2 d5 g2 g3 => ⟨_, _, rfl, rfl, _, rfl, p, 3, rfl, d5.pot, by decide, by decide, fun H6 x3 d6 g4 g5 => ⟨_, _, rfl, rfl, (by show 3 ≤ sizeLine; decide), fun sz hsz => ?_⟩⟩⟩⟩
  have d16 := (((d13.trans d4).trans d5).trans d6).new (o := .tup [.int (1 + x1), .int (1 + x2), .int (1 + x3)]) hsz
  have hsz7 : upd H6 sz (.tup [.int (1 + x1), .int (1 + x2), .int (1 + x3)]) sz = some (.tup [.int (1 + x1), .int (1 + x2), .int (1 + x3)]) := upd_same
  generalize upd H6 sz (.tup [.int (1 + x1), .int (1 + x2), .int (1 + x3)]) = H7 at d16 hsz7
  obtain ⟨n0, e0'⟩ : ∃ n : Nat, 1 + x1 = (n : Int) := ⟨(1 + x1).toNat, by omega⟩
  obtain ⟨n1, e1'⟩ : ∃ n : Nat, 1 + x2 = (n : Int) := ⟨(1 + x2).toNat, by omega⟩
  obtain ⟨n2, e2'⟩ : ∃ n : Nat, 1 + x3 = (n : Int) := ⟨(1 + x3).toNat, by omega⟩
  rw [e0', e1', e2'] at hsz7
  refine ⟨_, rfl, _, rfl, _, rfl, _, rfl, p, 4, rfl, d16.pot, by decide, by decide, fun H8 u d8 g6 g7 => ⟨_, rfl, p, 4, rfl, d8.pot, by decide, by decide, fun H9 v d9 g8 g9 => ⟨_, _, rfl, rfl, ?_⟩⟩⟩
  obtain ⟨nu, eu⟩ : ∃ n : Nat, u = (n : Int) := ⟨u.toNat, by omega⟩
  obtain ⟨nv, ev⟩ : ∃ n : Nat, 1 + v = (n : Int) := ⟨(1 + v).toNat, by omega⟩
  refine ⟨p, sz, m, n0, n1, n2, nu, nv, by rw [eu, ← ev], d9.pot, hm2, hm9, (d8.trans d9).at_ (dr_tup d16.pot hsz7), by omega, by omega, by omega, by omega, by omega, by omega, fun H' a S d hok hmo => hq H' a S (((d16.trans d8).trans d9).trans d) hok hmo⟩
theorem d_any (G : GD K mg) {k : Nat} (hk : 13 ≤ k) : DefR PP w K mg base k "_law_any" pAny := ⟨_, gg_law_any G, gk_law_any G, (k_law_any G).mono hk⟩
end
end Bn
/-! W7: the making of formulas. -/
namespace Bn
open PySem PySem.Spec PyProof.Rows L2 StX
open He (ga ma)
abbrev Pt : Type := Fm × Addr × List Addr
def innr (ps : List Pt) : List Addr := ps.flatMap fun p => p.2.1 :: p.2.2
theorem innr_snoc {ps : List Pt} {i : Nat} {p : Pt} (h : ps[i]? = some p) : innr (ps.take (i + 1)) = innr (ps.take i) ++ (p.2.1 :: p.2.2) := by
  rw [take_snoc h]
  unfold innr
  rw [List.flatMap_append]
  simp
section
variable {w : World} {K : Fr} {mg : Str → Option Value} {base : Heap}
/-- all parts in order -/
def Parts (K : Fr) (H : Hp) (ps : List Pt) : Prop := ∀ p ∈ ps, IsFm K H p.1 p.2.1 p.2.2 ∧ p.1.depth ≤ 7
theorem Parts.up {H H' : Hp} {ps : List Pt} (s : Same H H') (h : Parts K H ps) : Parts K H' ps := fun p hp => ⟨(h p hp).1.up s, (h p hp).2⟩
def pFI0 (K : Fr) : Pr := fun vs H Q => ∃ (x C dx t : Addr) (fl : List Str) (ps : List Pt), vs = [.ref x, .ref t] ∧ H t = some (.tup (ps.map fun p => V.ref p.2.1)) ∧ ps.length ≤ 3 ∧ CF K C fl ∧ ("own_parts" : Str) ∈ fl ∧ ("own_inner" : Str) ∈ fl ∧ ("own_depth" : Str) ∈ fl ∧
  H x = some (.ins C dx []) ∧ Parts K H ps ∧ (innr ps).length ≤ 39 ∧
  ∀ (H' : Hp) (i : Addr) (d : Nat), SB x H H' → H' x = some (.ins C dx (fsF t i d [])) → H' i = some (.tup ((innr ps).map V.ref)) → (d = 0 ∨ ∃ p ∈ ps, d = 1 + p.1.depth) → (∀ p ∈ ps, 1 + p.1.depth ≤ d) → Q .non H'
def pFI (K : Fr) : Pr := fun vs H Q => ∃ (x C dx : Addr) (fl : List Str) (ps : List Pt), vs = .ref x :: ps.map (fun p => V.ref p.2.1) ∧ ps.length ≤ 3 ∧ CF K C fl ∧ ("own_parts" : Str) ∈ fl ∧ ("own_inner" : Str) ∈ fl ∧ ("own_depth" : Str) ∈ fl ∧
  H x = some (.ins C dx []) ∧ Parts K H ps ∧ (innr ps).length ≤ 39 ∧
  ∀ (H' : Hp) (t i : Addr) (d : Nat), SB x H H' → H' x = some (.ins C dx (fsF t i d [])) → H' t = some (.tup (ps.map fun p => V.ref p.2.1)) → H' i = some (.tup ((innr ps).map V.ref)) → (d = 0 ∨ ∃ p ∈ ps, d = 1 + p.1.depth) → (∀ p ∈ ps, 1 + p.1.depth ≤ d) → Q .non H'
theorem k_Formula_init (G : GD K mg) : Keeps PP w K mg base 1 (ma K (ga K "Formula") "__init__") (pFI K) := by
  obtain ⟨fd, F⟩ := fd_Formula_init G
  obtain ⟨oc, od, dV, kV, doc, pm, an, cdv, ct, osl, rfl, lk, hcd, hdf, _⟩ := F.ex
  obtain rfl : dV = .none := by
    rcases hdf with ⟨_, e⟩ | ⟨e, _⟩
    · exact e
    · exact absurd rfl e
  have nd := sc_Formula_init.nd
  refine (keeps_fnr (fn_ofV (CX := L2.CX0) (k := 0) (nmax := 3) (sp := fun vs H Q _ => pFI0 K vs H Q) lk hcd sc_Formula_init (by decide) (fun u rest h => match rest, h with | [], _ => rfl | [_], _ => rfl | [_, _], _ => rfl | [_, _, _], _ => rfl | _ :: _ :: _ :: _ :: _, h => absurd h (by simp)) (fun _ _ _ _ _ _ _ _ _ _ _ _ h => h) ?_)).imp ?_
  · intro A outer s H vs Q E hr hp
    obtain ⟨x, C, dx, t, fl, ps, rfl, ht, hlen, cf, c1, c2, c3, hx, hps, hin, hq⟩ := hp
    have hsz := sizeLine_eq
    refine ⟨_, pss_cons (ps_setLc2 (i := 2) (own := [("part", 4), ("node", 5)]) (vs1 := [5]) (g := gName 4) (g1 := gName 5) (wi1 := iList K (tLst (tCons (tVar 4) (tStar K (tFl K (tVar 4) "own_inner") tNil)))) (tt := tYes) (tt1 := tYes) rfl nd rfl rfl (sw_true rfl rfl rfl (by decide +kernel)) (pi_tup (pv 1)) (blkOk_by (N := N_Formula_init) (sc := defScope s_Formula_init) (by decide +kernel)) (by simp)
        (fun _ _ _ _ _ => pg_name (i := 4) nd rfl (.inl rfl)) (fun _ _ _ _ _ => pts_nil) (fun _ _ _ _ _ => pi_list (pe_lst (pa_cons (pv 4) (pa_star (pe_fl (pv 4)) pa_nil)))) (fun _ _ _ _ _ => pg_name (i := 5) nd rfl (.inl rfl)) (fun _ _ _ _ _ => pts_nil) (fun _ _ _ _ _ => pv 5))
      (pss_cons (ps_set (i := 3) nd rfl (.inl rfl) (pe_callB (cr_max rfl) (by rfl) (gf_max G) rfl (pa_cons (pe_op op_cat (pe_lst (pa_cons pe_int pa_nil)) (pe_lc (own := [("part", 4)]) (g := gName 4) (tt := tYes) (te := tOp (rI0 fun i j => .int (i + j)) (tC (.int 1)) (tFl K (tVar 4) "own_depth")) rfl nd (pi_tup (pv 1)) (blkOk_by (N := N_Formula_init) (sc := defScope s_Formula_init) (by decide +kernel))
        (fun _ _ _ _ _ => pg_name (i := 4) nd rfl (.inl rfl)) (fun _ _ _ _ _ => pts_nil) (fun _ _ _ _ _ => pe_op op_add pe_int (pe_fl (pv 4))))) pa_nil)))
      (pss_cons (ps_if (pt_cmpR op_ge (pe_callB call_len_seq (by rfl) (gf_len G) rfl (pa_cons (pv 2) pa_nil)) (C8.pe_gc (by rfl) (gv_MOST_NODES G)) (nomark _)) pss_never pss_nil)
      (pss_cons (ps_if (pt_cmpR op_gt (pv 3) (C8.pe_gc (by rfl) (gv_MOST_DEPTH G)) (nomark _)) pss_never pss_nil)
      (pss_cons (ps_fld (pv 0) (pv 1) rfl)
      (pss_cons (ps_fld (pv 0) (pe_callTy call_tuple_of (by rfl) (gf_tuple G) rfl (pa_cons (pv 2) pa_nil)) rfl)
      (pss_one (ps_fld (pv 0) (pv 3) rfl))))))), ?_⟩
    refine ⟨_, rfl, t, rfl, ⟨_, .of ht⟩, fun D hD => lc2_it (B := H) (walk_tup (a := t) (xs := ps.map fun p => V.ref p.2.1)) (fun i H1 => Same H H1 ∧ H1 D = some (.lst ((innr (ps.take i)).map V.ref))) ⟨Same.new hD, upd_same⟩ (fun i H1 _ h => .of (h.1 _ _ ht)) ?_ ?_⟩
    · rintro i x' H1 H1' hi ⟨s1, hD1⟩ ⟨rfl, hx'⟩ Fin hFin
      obtain ⟨p, hp, rfl⟩ := some_map hx'
      have hpm := List.mem_of_getElem? hp
      obtain ⟨⟨ii, f1, f2⟩, _⟩ := fm_fld G ((hps p hpm).1.up s1)
      have hlen1 : (innr (ps.take (i + 1))).length ≤ 39 := by
        refine Nat.le_trans ?_ hin
        have z : innr ps = innr (ps.take (i + 1)) ++ innr (ps.drop (i + 1)) := by
          unfold innr
          rw [← List.flatMap_append, List.take_append_drop]
        rw [z, List.length_append]
        omega
      rw [innr_snoc hp, List.length_append, List.length_cons] at hlen1
      refine ⟨rfl, _, rfl, _, rfl, _, f1, _, _, rfl, .inl (.of f2), ?_, fun L hL => ⟨L, rfl, ⟨_, .of upd_same⟩, hFin _ _ _ ⟨_, _, _, fun j H2 => Same H H2 ∧ H2 L = some (.lst (V.ref p.2.1 :: (p.2.2.map V.ref ++ []))) ∧ H2 D = some (.lst ((innr (ps.take i)).map V.ref ++ (V.ref p.2.1 :: (p.2.2.map V.ref ++ [])).take j)), walk_list, ⟨?_, upd_same, ?_⟩, fun j H2 _ h => .of h.2.1, ?_, ?_⟩⟩⟩
      · simp only [List.length_cons, List.length_append, List.length_map, List.length_nil]; omega
      · exact same_trans s1 (Same.new hL)
      · rw [upd_ne (ne_of_none hD1 hL), hD1, List.take_zero, List.append_nil]
      · rintro j y H2 H2' hj ⟨s2, hL2, hD2⟩ ⟨rfl, hy⟩
        have hLD : L ≠ D := fun e => by rw [e] at hL; rw [hL] at hD1; cases hD1
        refine ⟨rfl, _, rfl, _, hD2, ?_, L2.Same.put s2 hD, ?_, ?_⟩
        · rw [List.length_append, List.length_take, List.length_map]
          simp only [List.length_cons, List.length_append, List.length_map, List.length_nil]
          omega
        · rw [upd_ne hLD]; exact hL2
        · rw [upd_same, take_snoc hy, List.append_assoc]
      · rintro H2 ⟨s2, hL2, hD2⟩
        refine ⟨s2, ?_⟩
        rw [hD2, List.take_length, innr_snoc hp, List.append_nil, List.map_append, List.map_cons]
    · rintro H1 ⟨s1, hD1⟩
      rw [List.length_map, List.take_length] at hD1
      have hps1 := hps.up s1
      have ht1 := s1 _ _ ht
      refine ⟨(by show 1 ≤ sizeLine; decide), fun L0 hL0 => ?_⟩
      have s2 := Same.new (o := .lst [.int 0]) hL0
      refine ⟨_, rfl, t, rfl, ⟨_, .of (s2 _ _ ht1)⟩, fun D2 hD2 => lc_gr (B := upd H1 L0 (.lst [.int 0])) (walk_tup (a := t) (xs := ps.map fun p => V.ref p.2.1)) (by rw [List.length_map]; omega) hD2 (fun i y _ => ∃ p, ps[i]? = some p ∧ y = .int ((1 + p.1.depth : Nat) : Int)) (fun _ _ _ _ _ h => h) (fun _ _ _ s => .of (s _ _ (s2 _ _ ht1))) ?_ ?_⟩
      · rintro i x' H3 H3' acc hi s3 hD3 ⟨rfl, hx'⟩ Fin hFin
        obtain ⟨p, hp, rfl⟩ := some_map hx'
        have hpm := List.mem_of_getElem? hp
        have hfd := (fm_fld G ((hps1 p hpm).1.up (same_trans s2 s3))).2
        refine ⟨rfl, _, rfl, _, hfd, _, _, rfl, rfl, hFin _ _ (Same.refl _) ⟨p, hp, ?_⟩⟩
        show V.int (1 + (p.1.depth : Int)) = _
        rw [Int.natCast_add]
        rfl
      · intro H3 ys s3 hD3 hl3 hR3
        rw [List.length_map] at hl3
        have e3 := list_is (f := fun p : Pt => V.int ((1 + p.1.depth : Nat) : Int)) hl3 hR3
        have hL3 := s3 _ _ (upd_same (H := H1) (a := L0) (o := .lst [.int 0]))
        have s13 := same_trans s1 (same_trans s2 s3)
        have hD1' := s3 _ _ (s2 _ _ hD1)
        refine ⟨L0, D2, _, _, rfl, rfl, hL3, hD3, ?_, fun q hq3 => ⟨q, (0 :: ps.map fun p => ((1 + p.1.depth : Nat) : Int)), rfl, .of ?_, by simp, fun m hm1 hm2 => ?_⟩⟩
        · rw [List.length_singleton]; omega
        · rw [upd_same, e3]
          simp only [List.map_cons, List.map_map, List.singleton_append]
          rfl
        have s4 := Same.new (o := .lst ([.int 0] ++ ys)) hq3
        -- the depth is a natural number
        obtain ⟨d, rfl, hd1, hd2⟩ : ∃ d : Nat, m = (d : Int) ∧ (d = 0 ∨ ∃ p ∈ ps, d = 1 + p.1.depth) ∧ ∀ p ∈ ps, 1 + p.1.depth ≤ d := by
          have z : ∃ d : Nat, m = (d : Int) ∧ (d = 0 ∨ ∃ p ∈ ps, d = 1 + p.1.depth) := by
            rcases List.mem_cons.mp hm1 with e | hm1
            · exact ⟨0, e, .inl rfl⟩
            · obtain ⟨p, hp, e⟩ := List.mem_map.mp hm1
              exact ⟨_, e.symm, .inr ⟨p, hp, rfl⟩⟩
          obtain ⟨d, e, h⟩ := z
          refine ⟨d, e, h, fun p hp => ?_⟩
          have := hm2 _ (List.mem_cons_of_mem _ (List.mem_map_of_mem hp))
          rw [e] at this
          omega
        have hd8 : d ≤ 8 := by
          rcases hd1 with e | ⟨p, hp, e⟩
          · omega
          · have := (hps p hp).2; omega
        have s14 := same_trans s13 s4
        have hx4 := s14 _ _ hx
        refine ⟨_, rfl, D, _, rfl, .inl (.of (s4 _ _ hD1')), _, _, rfl, rfl, _, rfl, ifF ?_ ?_⟩
        · rw [List.length_map]
          show decide ((40 : Int) ≤ _) = false
          rw [decide_eq_false_iff_not]
          omega
        refine ⟨_, rfl, _, _, rfl, rfl, _, rfl, ifF ?_ ?_⟩
        · show decide ((8 : Int) < (d : Int)) = false
          rw [decide_eq_false_iff_not]
          omega
        refine ⟨_, rfl, _, rfl, x, C, dx, _, rfl, hx4, cf.cl, cf.no _ c1, (by show 0 < 1000; decide), ?_⟩
        have hDx : D ≠ x := (ne_of_none hx hD).symm
        have hD5 : upd (upd H3 q (.lst ([.int 0] ++ ys))) x (.ins C dx (putF "own_parts" (.ref t) [])) D = some (.lst ((innr ps).map V.ref)) := by
          rw [upd_ne hDx]
          exact s4 _ _ hD1'
        refine ⟨_, rfl, D, _, rfl, .inl ⟨.of hD5, fun i hi => ?_⟩⟩
        have hix : i ≠ x := by
          intro e
          subst e
          rw [upd_same] at hi
          cases hi
        refine ⟨_, rfl, x, C, dx, _, rfl, by rw [upd_ne hix.symm]; exact upd_same, cf.cl, cf.no _ c2, (by show 1 < 1000; decide), ?_⟩
        refine ⟨_, rfl, _, rfl, x, C, dx, _, rfl, upd_same, cf.cl, cf.no _ c3, (by show 2 < 1000; decide), ?_⟩
        refine hq _ i d ((SB.of s14).trans (SB.upd.trans ((SB.of (Same.new hi)).trans (SB.upd.trans SB.upd)))) upd_same ?_ hd1 hd2
        rw [upd_ne hix, upd_ne hix, upd_same]
  · rintro vs H Q ⟨x, C, dx, fl, ps, rfl, hlen, cf, c1, c2, c3, hx, hps, hin, hq⟩
    refine ⟨_, _, rfl, by rw [List.length_map]; exact hlen, fun t ht => ?_⟩
    have s := Same.new (o := .tup (ps.map fun p => V.ref p.2.1)) ht
    refine ⟨x, C, dx, t, fl, ps, rfl, upd_same, hlen, cf, c1, c2, c3, s _ _ hx, hps.up s, hin, fun H' i d hb h1 h2 h3 h4 => ?_⟩
    exact hq H' t i d ((SB.of s).trans hb) h1 (hb _ _ (ne_of_none hx ht).symm upd_same) h2 h3 h4
end
end Bn
/-! W8: the making of numbers, references, pairs, choices. -/
namespace Bn
open PySem PySem.Spec PyProof.Rows L2 StX NdefX
open He (ga ma)
theorem evalArgs_plain0 {M : Model} {A : Around} {E : Value → Shared → Prop} {s : Shared} {f : Value} {Q : Args → Shared → Prop} (h : wpAny M A (spliced []) (fun vs s' => Q ⟨vs, []⟩ s') E s) : wpAny M A (evalArgs f true [] []) Q E s := by
  unfold evalArgs
  show wpAny M A (spliced [] >>= _) Q E s
  refine wpAny_bind (wpAny_mono h (fun vs s' h' => ?_) fun _ _ x => x)
  refine wpAny_bind (wpAny_pure ?_)
  refine wpAny_holding ?_
  exact wpAny_bind (wpAny_pure (wpAny_bind (wpAny_pure (wpAny_pure h'))))
section
variable {w : World} {K : Fr} {mg : Str → Option Value} {base : Heap}
/-- the way behind a class to Formula.__init__ -/
theorem sup_w (G : GD K mg) {k : Nat} (hk : 1 ≤ k) {C D : Str} (c : Cls K (ga K C)) (h : bSupC C D "__init__" "Formula" K = true) : SupW PP w K mg base k (ga K D) "__init__" (ga K C) (pFI K) := ⟨_, c, supC_of h, (k_Formula_init G).mono hk⟩
def pNumI (K : Fr) : Pr := fun vs H Q => ∃ (x dx : Addr) (v : Int), vs = [.ref x, .int v] ∧ H x = some (.ins (ga K "Number") dx []) ∧ 0 ≤ v ∧ v < 9 ∧ ∀ H', SB x H H' → IsFm K H' (.num v) x [] → Q .non H'
theorem k_Number_init (G : GD K mg) : Keeps PP w K mg base 3 (ma K (ga K "Number") "__init__") (pNumI K) := by
  have D : DefR PP w K mg base 2 "is_value" pIsVal := ⟨_, gg_is_value G, gk_is_value G, k_is_value G⟩
  refine keeps_sup (k := 2) (N := N_Number_init) (ps := p_Number_init) (p := pNumI K) (pre := [_]) (post := [_]) (args := []) (supF_of (d := d_Number_init) (fs_Number_init G) (sf_Number G) rfl (gf_super G)) sc_Number_init rfl
    (fun _ _ _ _ _ us hl => match us, hl with | [_, _], _ => rfl) rfl rfl rfl rfl rfl (by decide +kernel) (fun _ => rfl) (fun _ => rfl) (fun _ _ _ _ _ _ h => evalArgs_plain0 h) (fun _ => rfl) (by rintro _ _ _ ⟨x, dx, v, rfl, _⟩; rfl) fun A outer s H vs Q hr hp => ?_
  obtain ⟨x, dx, v, rfl, hx, h0, h9, hq⟩ := hp
  refine ⟨_, _, _, pss_one (ps_if (pt_not (pt_val (pe_d D hr (by rfl) (pa_cons (pv 1) (pa_cons (C8.pe_gc (by rfl) (gv_GREATEST_MODULUS G)) pa_nil))))) pss_never pss_nil), pa_nil, pss_one (ps_fld (pv 0) (pv 1) rfl), ?_⟩
  refine ⟨_, rfl, v, 9, rfl, h0, h9, _, rfl, iteF ?_⟩
  refine ⟨x, _, dx, _, _, rfl, hx, sup_w G (by omega) (cf_Number G).cl (su_Number G), x, _, dx, _, [], rfl, (by decide), cf_Number G, (by decide +kernel), (by decide +kernel), (by decide +kernel), hx, (fun p hp => nomatch hp), (by decide), fun H' t i d hb h1 h2 h3 h4 h5 => ?_⟩
  obtain rfl : d = 0 := by
    rcases h4 with e | ⟨p, hp, _⟩
    · exact e
    · cases hp
  have htx : t ≠ x := ne_of h2 h1 (fun z => nomatch z)
  have hix : i ≠ x := ne_of h3 h1 (fun z => nomatch z)
  refine ⟨_, rfl, _, rfl, x, _, dx, _, rfl, h1, (cf_Number G).cl, (cf_Number G).no _ (by decide +kernel), (by show 3 < 1000; decide), ?_⟩
  refine hq _ (hb.trans SB.upd) ⟨rfl, ⟨h0, h9⟩, dx, t, i, upd_same, ?_, ?_⟩
  · rw [upd_ne htx]; exact h2
  · rw [upd_ne hix]; exact h3
def pRefI (K : Fr) : Pr := fun vs H Q => ∃ (x dx : Addr) (wh : Wh) (c : Str), vs = [.ref x, .str c] ∧ H x = some (.ins (ga K (wC wh)) dx []) ∧ okName c = true ∧ ∀ H', SB x H H' → IsFm K H' (.ref wh c) x [] → Q .non H'
theorem wc_all (G : GD K mg) (wh : Wh) : ∃ fl, CF K (ga K (wC wh)) fl ∧ ("own_parts" : Str) ∈ fl ∧ ("own_inner" : Str) ∈ fl ∧ ("own_depth" : Str) ∈ fl ∧ ("column" : Str) ∈ fl ∧ bSupC (wC wh) "Reference" "__init__" "Formula" K = true := by
  match wh with
  | .here => exact ⟨_, cf_Here G, by decide +kernel, by decide +kernel, by decide +kernel, by decide +kernel, su_Here G⟩
  | .up => exact ⟨_, cf_Up G, by decide +kernel, by decide +kernel, by decide +kernel, by decide +kernel, su_Up G⟩
  | .down => exact ⟨_, cf_Down G, by decide +kernel, by decide +kernel, by decide +kernel, by decide +kernel, su_Down G⟩
theorem oc_all (G : GD K mg) (o : O2) : ∃ fl, CF K (ga K (oC o)) fl ∧ ("own_parts" : Str) ∈ fl ∧ ("own_inner" : Str) ∈ fl ∧ ("own_depth" : Str) ∈ fl ∧ bSupC (oC o) "Pair" "__init__" "Formula" K = true := by
  match o with
  | .plus => exact ⟨_, cf_Plus G, by decide +kernel, by decide +kernel, by decide +kernel, su_Plus G⟩
  | .least => exact ⟨_, cf_Least G, by decide +kernel, by decide +kernel, by decide +kernel, su_Least G⟩
  | .most => exact ⟨_, cf_Most G, by decide +kernel, by decide +kernel, by decide +kernel, su_Most G⟩
  | .same => exact ⟨_, cf_Same G, by decide +kernel, by decide +kernel, by decide +kernel, su_Same G⟩
theorem k_Reference_init (G : GD K mg) : Keeps PP w K mg base 3 (ma K (ga K "Reference") "__init__") (pRefI K) := by
  have D : DefR PP w K mg base 2 "is_name" pIsName := ⟨_, gg_is_name G, gk_is_name G, (k_is_name G).mono (by omega)⟩
  refine keeps_sup (k := 2) (N := N_Reference_init) (ps := p_Reference_init) (p := pRefI K) (pre := [_]) (post := [_]) (args := []) (supF_of (d := d_Reference_init) (fs_Reference_init G) (sf_Reference G) rfl (gf_super G)) sc_Reference_init rfl
    (fun _ _ _ _ _ us hl => match us, hl with | [_, _], _ => rfl) rfl rfl rfl rfl rfl (by decide +kernel) (fun _ => rfl) (fun _ => rfl) (fun _ _ _ _ _ _ h => evalArgs_plain0 h) (fun _ => rfl) (by rintro _ _ _ ⟨x, dx, wh, c, rfl, _⟩; rfl) fun A outer s H vs Q hr hp => ?_
  obtain ⟨x, dx, wh, c, rfl, hx, hc, hq⟩ := hp
  obtain ⟨fl, cf, c1, c2, c3, c4, su⟩ := wc_all G wh
  refine ⟨_, _, _, pss_one (ps_if (pt_not (pt_val (pe_d D hr (by rfl) (pa_cons (pv 1) pa_nil)))) pss_never pss_nil), pa_nil, pss_one (ps_fld (pv 0) (pv 1) rfl), ?_⟩
  refine ⟨_, rfl, c, rfl, hc, fun H1 s1 => ⟨_, rfl, iteF ?_⟩⟩
  have hx1 := s1 _ _ hx
  refine ⟨x, _, dx, _, _, rfl, hx1, sup_w G (by omega) cf.cl su, x, _, dx, _, [], rfl, (by decide), cf, c1, c2, c3, hx1, (fun p hp => nomatch hp), (by decide), fun H' t i d hb h1 h2 h3 h4 h5 => ?_⟩
  obtain rfl : d = 0 := by
    rcases h4 with e | ⟨p, hp, _⟩
    · exact e
    · cases hp
  have htx : t ≠ x := ne_of h2 h1 (fun z => nomatch z)
  have hix : i ≠ x := ne_of h3 h1 (fun z => nomatch z)
  refine ⟨_, rfl, _, rfl, x, _, dx, _, rfl, h1, cf.cl, cf.no _ c4, (by show 3 < 1000; decide), ?_⟩
  refine hq _ ((SB.of s1).trans (hb.trans SB.upd)) ⟨rfl, dx, t, i, upd_same, ?_, ?_⟩
  · rw [upd_ne htx]; exact h2
  · rw [upd_ne hix]; exact h3
def pPairI (K : Fr) : Pr := fun vs H Q => ∃ (x dx : Addr) (o : O2) (f g : Fm) (a b : Addr) (la lb : List Addr), vs = [.ref x, .ref a, .ref b] ∧ H x = some (.ins (ga K (oC o)) dx []) ∧ IsFm K H f a la ∧ IsFm K H g b lb ∧ f.depth ≤ 7 ∧ g.depth ≤ 7 ∧ f.size + g.size ≤ 39 ∧
  ∀ H' l, SB x H H' → IsFm K H' (.pair o f g) x l → Q .non H'
theorem k_Pair_init (G : GD K mg) : Keeps PP w K mg base 3 (ma K (ga K "Pair") "__init__") (pPairI K) := by
  have D : DefR PP w K mg base 2 "want_formula" (pWantF K) := ⟨_, gg_want_formula G, gk_want_formula G, (k_want_formula G).mono (by omega)⟩
  refine keeps_sup (k := 2) (N := N_Pair_init) (ps := p_Pair_init) (p := pPairI K) (pre := [_, _]) (post := []) (args := [_, _]) (supF_of (d := d_Pair_init) (fs_Pair_init G) (sf_Pair G) rfl (gf_super G)) sc_Pair_init rfl
    (fun _ _ _ _ _ us hl => match us, hl with | [_, _, _], _ => rfl) rfl rfl rfl rfl rfl (by decide +kernel) (fun _ => rfl) (fun _ => rfl) (fun _ _ _ _ _ _ h => Calls.evalArgs_plain h) (fun _ => rfl) (by rintro _ _ _ ⟨x, dx, o, f, g, a, b, la, lb, rfl, _⟩; rfl) fun A outer s H vs Q hr hp => ?_
  obtain ⟨x, dx, o, f, g, a, b, la, lb, rfl, hx, hf, hg, df, dg, hz, hq⟩ := hp
  obtain ⟨fl, cf, c1, c2, c3, su⟩ := oc_all G o
  refine ⟨_, _, _, pss_cons (ps_expr (pe_d D hr (by rfl) (pa_cons (pv 1) pa_nil))) (pss_one (ps_expr (pe_d D hr (by rfl) (pa_cons (pv 2) pa_nil)))), pa_cons (pv 1) (pa_cons (pv 2) pa_nil), pss_nil, ?_⟩
  refine ⟨_, rfl, f, a, la, rfl, hf, _, rfl, g, b, lb, rfl, hg, ?_⟩
  have lf := hf.len
  have lg := hg.len
  refine ⟨x, _, dx, _, _, rfl, hx, sup_w G (by omega) cf.cl su, _, rfl, _, rfl, x, _, dx, _, [(f, a, la), (g, b, lb)], rfl, (by show 2 ≤ 3; decide), cf, c1, c2, c3, hx, ?_, ?_, fun H' t i d hb h1 h2 h3 h4 h5 => ?_⟩
  · intro p hp
    rcases List.mem_cons.mp hp with rfl | hp
    · exact ⟨hf, df⟩
    · cases List.mem_singleton.mp hp
      exact ⟨hg, dg⟩
  · show (a :: la ++ (b :: lb ++ [])).length ≤ 39
    simp only [List.length_append, List.length_cons, List.length_nil]
    omega
  · obtain rfl : d = 1 + max f.depth g.depth := by
      have e1 := h5 (f, a, la) (by simp)
      have e2 := h5 (g, b, lb) (by simp)
      rcases h4 with e | ⟨p, hp, e⟩
      · omega
      · rcases List.mem_cons.mp hp with rfl | hp
        · simp only at e e1 e2; omega
        · cases List.mem_singleton.mp hp
          simp only at e e1 e2; omega
    have ti := TI.sb hb hx
    exact hq H' _ hb ⟨dx, t, i, a, la, b, lb, h1, h2, h3, hf.ti ti, hg.ti ti, by simp [innr]⟩
def pChoI (K : Fr) : Pr := fun vs H Q => ∃ (x dx : Addr) (f g h : Fm) (ch : List Int) (a b c d : Addr) (la lb lc : List Addr), vs = [.ref x, .ref a, .ref d, .ref b, .ref c] ∧ H x = some (.ins (ga K "Choice") dx []) ∧ IsFm K H f a la ∧ IsFm K H g b lb ∧ IsFm K H h c lc ∧ H d = some (.tup (ch.map V.int)) ∧
  (∀ x ∈ ch, 0 ≤ x ∧ x < 9) ∧ ch.Pairwise (· < ·) ∧ ch.length ≤ 100 ∧ f.depth ≤ 7 ∧ g.depth ≤ 7 ∧ h.depth ≤ 7 ∧ f.size + g.size + h.size ≤ 39 ∧ ∀ H' l, SB x H H' → IsFm K H' (.cho f ch g h) x l → Q .non H'
theorem k_Choice_init (G : GD K mg) : Keeps PP w K mg base 4 (ma K (ga K "Choice") "__init__") (pChoI K) := by
  have D : DefR PP w K mg base 3 "want_formula" (pWantF K) := ⟨_, gg_want_formula G, gk_want_formula G, (k_want_formula G).mono (by omega)⟩
  have D2 : DefR PP w K mg base 3 "want_chosen" pWantC := ⟨_, gg_want_chosen G, gk_want_chosen G, k_want_chosen G⟩
  refine keeps_sup (k := 3) (N := N_Choice_init) (ps := p_Choice_init) (p := pChoI K) (pre := [_, _, _, _]) (post := [_]) (args := [_, _, _]) (supF_of (d := d_Choice_init) (fs_Choice_init G) (sf_Choice G) rfl (gf_super G)) sc_Choice_init rfl
    (fun _ _ _ _ _ us hl => match us, hl with | [_, _, _, _, _], _ => rfl) rfl rfl rfl rfl rfl (by decide +kernel) (fun _ => rfl) (fun _ => rfl) (fun _ _ _ _ _ _ h => Calls.evalArgs_plain h) (fun _ => rfl) (by rintro _ _ _ ⟨x, dx, f, g, h, ch, a, b, c, d, la, lb, lc, rfl, _⟩; rfl) fun A outer s H vs Q hr hp => ?_
  obtain ⟨x, dx, f, g, h, ch, a, b, c, d, la, lb, lc, rfl, hx, hf, hg, hh, hd, h9, hpw, hlen, df, dg, dh, hz, hq⟩ := hp
  have cf := cf_Choice G
  refine ⟨_, _, _, pss_cons (ps_expr (pe_d D hr (by rfl) (pa_cons (pv 1) pa_nil))) (pss_cons (ps_expr (pe_d D2 hr (by rfl) (pa_cons (pv 2) pa_nil))) (pss_cons (ps_expr (pe_d D hr (by rfl) (pa_cons (pv 3) pa_nil))) (pss_one (ps_expr (pe_d D hr (by rfl) (pa_cons (pv 4) pa_nil)))))),
    pa_cons (pv 1) (pa_cons (pv 3) (pa_cons (pv 4) pa_nil)), pss_one (ps_fld (pv 0) (pe_callTy call_tuple_of (by rfl) (gf_tuple G) rfl (pa_cons (pv 2) pa_nil)) rfl), ?_⟩
  refine ⟨_, rfl, f, a, la, rfl, hf, _, rfl, d, ch, rfl, hd, h9, hpw, hlen, fun H1 s1 => ⟨_, rfl, g, b, lb, rfl, hg.up s1, _, rfl, h, c, lc, rfl, hh.up s1, ?_⟩⟩
  have lf := hf.len
  have lg := hg.len
  have lh := hh.len
  have hx1 := s1 _ _ hx
  have hd1 := s1 _ _ hd
  refine ⟨x, _, dx, _, _, rfl, hx1, sup_w G (by omega) cf.cl (su_Choice G), _, rfl, _, rfl, _, rfl, x, _, dx, _, [(f, a, la), (g, b, lb), (h, c, lc)], rfl, (by show 3 ≤ 3; decide), cf, (by decide +kernel), (by decide +kernel), (by decide +kernel), hx1, ?_, ?_, fun H' t i e hb h1 h2 h3 h4 h5 => ?_⟩
  · intro p hp
    rcases List.mem_cons.mp hp with rfl | hp
    · exact ⟨hf.up s1, df⟩
    · rcases List.mem_cons.mp hp with rfl | hp
      · exact ⟨hg.up s1, dg⟩
      · cases List.mem_singleton.mp hp
        exact ⟨hh.up s1, dh⟩
  · show (a :: la ++ (b :: lb ++ (c :: lc ++ []))).length ≤ 39
    simp only [List.length_append, List.length_cons, List.length_nil]
    omega
  · obtain rfl : e = 1 + max f.depth (max g.depth h.depth) := by
      have e1 := h5 (f, a, la) (by simp)
      have e2 := h5 (g, b, lb) (by simp)
      have e3 := h5 (h, c, lc) (by simp)
      rcases h4 with e0 | ⟨p, hp, e0⟩
      · omega
      · rcases List.mem_cons.mp hp with rfl | hp
        · simp only at e0 e1 e2 e3; omega
        · rcases List.mem_cons.mp hp with rfl | hp
          · simp only at e0 e1 e2 e3; omega
          · cases List.mem_singleton.mp hp
            simp only at e0 e1 e2 e3; omega
    have ti := TI.sb hb hx1
    have hd2 := ti.2 _ _ hd1
    have htx : t ≠ x := ne_of h2 h1 (fun z => nomatch z)
    have hix : i ≠ x := ne_of h3 h1 (fun z => nomatch z)
    have hdx : d ≠ x := ne_of hd2 h1 (fun z => nomatch z)
    refine ⟨_, rfl, d, _, rfl, .inr ⟨.of hd2, ?_⟩⟩
    refine ⟨_, rfl, x, _, dx, _, rfl, h1, cf.cl, cf.no _ (by decide +kernel), (by show 3 < 1000; decide), ?_⟩
    have up1 : ∀ {z : Fm} {za : Addr} {zl : List Addr}, IsFm K H1 z za zl → IsFm K (upd H' x (.ins (ga K "Choice") dx (putF "own_chosen" (.ref d) (fsF t i (1 + max f.depth (max g.depth h.depth)) [])))) z za zl := fun hz => hz.ti (TI.sb (hb.trans SB.upd) hx1)
    refine hq _ (innr [(f, a, la), (g, b, lb), (h, c, lc)]) ((SB.of s1).trans (hb.trans SB.upd)) ⟨dx, t, i, d, a, la, b, lb, c, lc, upd_same, ?_, ?_, ?_, up1 (hf.up s1), up1 (hg.up s1), up1 (hh.up s1), ?_⟩
    · rw [upd_ne htx]; exact h2
    · rw [upd_ne hix]; exact h3
    · rw [upd_ne hdx]; exact hd2
    · simp [innr]
/-! ### the makings -/
theorem m_num (G : GD K mg) {k : Nat} (hk : 3 ≤ k) : MakR PP w K mg base k "Number" (ga K "Number") (pNumI K) := ⟨_, mk_Number G, gr_Number G, (k_Number_init G).mono hk⟩
theorem m_here (G : GD K mg) {k : Nat} (hk : 3 ≤ k) : MakR PP w K mg base k "Here" (ga K "Here") (pRefI K) := ⟨_, mk_Here G, gr_Here G, (k_Reference_init G).mono hk⟩
theorem m_up (G : GD K mg) {k : Nat} (hk : 3 ≤ k) : MakR PP w K mg base k "Up" (ga K "Up") (pRefI K) := ⟨_, mk_Up G, gr_Up G, (k_Reference_init G).mono hk⟩
theorem m_down (G : GD K mg) {k : Nat} (hk : 3 ≤ k) : MakR PP w K mg base k "Down" (ga K "Down") (pRefI K) := ⟨_, mk_Down G, gr_Down G, (k_Reference_init G).mono hk⟩
theorem m_plus (G : GD K mg) {k : Nat} (hk : 3 ≤ k) : MakR PP w K mg base k "Plus" (ga K "Plus") (pPairI K) := ⟨_, mk_Plus G, gr_Plus G, (k_Pair_init G).mono hk⟩
theorem m_least (G : GD K mg) {k : Nat} (hk : 3 ≤ k) : MakR PP w K mg base k "Least" (ga K "Least") (pPairI K) := ⟨_, mk_Least G, gr_Least G, (k_Pair_init G).mono hk⟩
theorem m_most (G : GD K mg) {k : Nat} (hk : 3 ≤ k) : MakR PP w K mg base k "Most" (ga K "Most") (pPairI K) := ⟨_, mk_Most G, gr_Most G, (k_Pair_init G).mono hk⟩
theorem m_same (G : GD K mg) {k : Nat} (hk : 3 ≤ k) : MakR PP w K mg base k "Same" (ga K "Same") (pPairI K) := ⟨_, mk_Same G, gr_Same G, (k_Pair_init G).mono hk⟩
theorem m_cho (G : GD K mg) {k : Nat} (hk : 4 ≤ k) : MakR PP w K mg base k "Choice" (ga K "Choice") (pChoI K) := ⟨_, mk_Choice G, gr_Choice G, (k_Choice_init G).mono hk⟩
end
end Bn
/-! W14: the making of a sheet. -/
namespace Bn
open PySem PySem.Spec PyProof.Rows L2 StX
open He (ga ma)
section
variable {w : World} {K : Fr} {mg : Str → Option Value} {base : Heap}
def pSheetI (K : Fr) : Pr := fun vs H Q => ∃ (x dx : Addr) (S : Sm) (c t k p : Addr), vs = [.ref x, .int S.m, .ref c, .ref t, .ref k, .ref p] ∧ S.Ok ∧ H x = some (.ins (ga K "Sheet") dx []) ∧ Src K H S c t k p ∧ ∀ H', SB x H H' → IsSheet K H' x S → Q .non H'
theorem k_Sheet_init (G : GD K mg) : Keeps PP w K mg base 6 (ma K (ga K "Sheet") "__init__") (pSheetI K) := by
  obtain ⟨fd, F⟩ := fd_Sheet_init G
  obtain ⟨ds, hd, hb⟩ := F.binds1 (ps := p_Sheet_init) 6 1 (by show [V.non] ≠ []; simp) rfl (fun T kV doc pm an cdv ct us its l1 l2 => match us, l1, its, l2 with | [_, _, _, _, _, _], _, [_], _ => ⟨_, rfl, rfl⟩)
  have nd := sc_Sheet_init.nd
  have cf := cf_Sheet G
  have hs := sizeLine_eq
  refine (kp_fn (k := 5) (dv := []) (p := pSheetI K) F sc_Sheet_init hb hd (by rintro _ _ _ ⟨x, dx, S, c, t, k, p, rfl, _⟩; rfl) fun cdv A outer s H vs Q E hr hp => ?_).imp fun vs H Q h => by rw [List.append_nil]; exact h
  obtain ⟨x, dx, S, c, t, k, p, rfl, ok, hx, src, hq⟩ := hp
  have D1 : DefR PP w K mg base 5 "want_modulus" pWantM := ⟨_, gg_want_modulus G, gk_want_modulus G, (k_want_modulus G).mono (by omega)⟩
  have D2 : DefR PP w K mg base 5 "want_columns" pWantCols := ⟨_, gg_want_columns G, gk_want_columns G, (k_want_columns G).mono (by omega)⟩
  have D3 : DefR PP w K mg base 5 "want_top" pWantT := ⟨_, gg_want_top G, gk_want_top G, (k_want_top G).mono (by omega)⟩
  have D4 : DefR PP w K mg base 5 "want_kinds" (pWantK K) := ⟨_, gg_want_kinds G, gk_want_kinds G, k_want_kinds G⟩
  have D5 : DefR PP w K mg base 5 "want_plan" pWantP := ⟨_, gg_want_plan G, gk_want_plan G, (k_want_plan G).mono (by omega)⟩
  refine ⟨_, PSs.nox (pss_cons (ps_expr (pe_d D1 hr (by rfl) (pa_cons (pv 1) pa_nil)))
    (pss_cons (ps_expr (pe_d D2 hr (by rfl) (pa_cons (pv 2) pa_nil)))
    (pss_cons (ps_expr (pe_d D3 hr (by rfl) (pa_cons (pv 3) (pa_cons (pv 2) (pa_cons (pv 1) pa_nil)))))
    (pss_cons (ps_expr (pe_d D4 hr (by rfl) (pa_cons (pv 4) (pa_cons (pv 2) (pa_cons (pv 1) pa_nil)))))
    (pss_cons (ps_set (i := 6) nd rfl (.inl rfl) (pe_ifExp (pt_cmp (pc_isN (pv 5))) pe_nv (pv 5)))
    (pss_cons (ps_expr (pe_d D5 hr (by rfl) (pa_cons (pv 6) (pa_cons (pv 4) pa_nil))))
    (pss_cons (ps_fld (pv 0) (pv 1) rfl)
    (pss_cons (ps_fld (pv 0) (pe_callTy call_tuple_of (by rfl) (gf_tuple G) rfl (pa_cons (pv 2) pa_nil)) rfl)
    (pss_cons (ps_fld (pv 0) (pe_dc (own := [("column", 8)]) (g := gName 8) (tt := tYes) (tk := tVar 8) (tv := tDGet (tVar 3) (tVar 8)) rfl nd (pi_list (pv 2)) (blkOk_by (N := N_Sheet_init) (sc := defScope s_Sheet_init) (by decide +kernel)) (fun _ _ _ _ _ => pg_name (i := 8) nd rfl (.inl rfl)) (fun _ _ _ _ _ => pts_nil)
      (fun _ _ _ _ _ => pv 8) (fun _ _ _ _ _ => pe_dget (hu_of hr.r) (pv 3) (pv 8) (fun _ _ => rfl))) rfl)
    (pss_cons (ps_fld (pv 0) (pe_dc (own := [("kind", 7)]) (g := gName 7) (tt := tYes) (tk := tVar 7) (tv := tDc (iList K (tVar 2)) (gName 8) tYes (tVar 8) (tDGet (tDGet (tVar 4) (tVar 7)) (tVar 8)) [8]) rfl nd (pi_list (pe_callB (call_sortedD rfl) (by rfl) (gf_sorted G) rfl (pa_cons (pv 4) pa_nil)))
      (blkOk_by (N := N_Sheet_init) (sc := defScope s_Sheet_init) (by decide +kernel)) (fun _ _ _ _ _ => pg_name (i := 7) nd rfl (by first | exact Or.inl rfl | exact Or.inr rfl)) (fun _ _ _ _ _ => pts_nil) (fun _ _ _ _ _ => pv 7)
      (fun _ _ _ _ _ => pe_dc (own := [("column", 8)]) rfl nd (pi_list (pv 2)) (blkOk_by (N := N_Sheet_init) (sc := rl (cscope (aval ((defBody s_Sheet_init).getD 9 (.Pass ⟨0, 0, 0, 0⟩)))) (defScope s_Sheet_init)) (by decide +kernel)) (fun _ _ _ _ _ => pg_name (i := 8) nd rfl (.inl rfl)) (fun _ _ _ _ _ => pts_nil)
        (fun _ _ _ _ _ => pv 8) (fun _ _ _ _ _ => pe_dget (hu_of hr.r) (pe_dget (hu_of hr.r) (pv 4) (pv 7) (fun _ _ => rfl)) (pv 8) (fun _ _ => rfl)))) rfl)
    (pss_one (ps_fld (pv 0) (pe_lc (own := [("row", 9)]) (g := gName 9) (tt := tYes) (te := tDc (iList K (tCB (fun xs H Q => ∃ (a : Addr) (kvs : List (Key × V)) (ks : List Str), xs = [.ref a] ∧ Rd H a (.dK kvs) ∧ kvs.map (·.1) = ks.map Sum.inr ∧ ks.length < 64 ∧ ∀ ys p, ys.Perm ks → sortedS ys = true → H p = none → Q (.ref p) (upd H p (.lst (ys.map V.str)))) (tCons (tVar 9) tNil))) (gName 7) tYes (tVar 7) (tDGet (tVar 9) (tVar 7)) [7]) rfl nd (pi_list (pv 6))
      (blkOk_by (N := N_Sheet_init) (sc := defScope s_Sheet_init) (by decide +kernel)) (fun _ _ _ _ _ => pg_name (i := 9) nd rfl (by first | exact Or.inl rfl | exact Or.inr rfl)) (fun _ _ _ _ _ => pts_nil)
      (fun _ _ _ _ _ => pe_dc (own := [("kind", 7)]) rfl nd (pi_list (pe_callB (call_sortedD rfl) (by rfl) (gf_sorted G) rfl (pa_cons (pv 9) pa_nil))) (blkOk_by (N := N_Sheet_init) (sc := rl (cscope (aval ((defBody s_Sheet_init).getD 10 (.Pass ⟨0, 0, 0, 0⟩)))) (defScope s_Sheet_init)) (by decide +kernel)) (fun _ _ _ _ _ => pg_name (i := 7) nd rfl (by first | exact Or.inl rfl | exact Or.inr rfl)) (fun _ _ _ _ _ => pts_nil)
        (fun _ _ _ _ _ => pv 7) (fun _ _ _ _ _ => pe_dget (hu_of hr.r) (pv 9) (pv 7) (fun _ _ => rfl)))) rfl)))))))))))), ?_⟩
  have src0 := src.dr hx
  have m0 : Mkg (ga K "Sheet") dx x H [] H := ⟨Same.refl _, hx⟩
  have hc4 := ok.c4
  have hk3 := ok.k3
  refine ⟨_, rfl, S.m, rfl, ok.m2, ok.m9, _, rfl, c, S.cols, rfl, src.c, ok.c1, by omega, ok.cn, ok.co, fun H1 s1 => ?_⟩
  refine ⟨_, rfl, _, rfl, _, rfl, t, c, S.m, S.cols, S.top, rfl, (src.up s1).t, (src.up s1).c, by omega, ok.t, fun H2 s2 => ?_⟩
  have s12 := same_trans s1 s2
  obtain ⟨ka, hka1, hka2⟩ := src0.k
  refine ⟨_, rfl, _, rfl, _, rfl, k, c, S.m, S.cols, S.kinds, S.fm, ka, rfl, s12 _ _ src.c, by omega, s12 _ _ (dr_le _ _ hka1), ok.k1, by omega, ok.ko, fun z hz => ?_, fun H3 s3 => ?_⟩
  · obtain ⟨fa, e1, e2⟩ := hka2 z hz
    refine ⟨fa, s12 _ _ (dr_le _ _ e1), fun y hy => ?_⟩
    obtain ⟨l, e3⟩ := e2 y hy
    obtain ⟨f1, f2⟩ := ok.f z hz y hy
    exact ⟨l, (e3.up dr_le).up s12, f1, by omega⟩
  have s13 := same_trans s12 s3
  refine ⟨_, rfl, _, rfl, ifF rfl ⟨_, rfl, ?_⟩⟩
  obtain ⟨rs, hrs1, hrs2⟩ := src0.p
  have hp3 := ok.p3
  refine ⟨_, rfl, _, rfl, p, k, rs, S.plan, S.kinds, ka, rfl, s13 _ _ (dr_le _ _ hrs1), Paired.mapP hrs2 (fun a r e => s13 _ _ (dr_le _ _ e)), s13 _ _ (dr_le _ _ hka1), ok.p1, ok.p3, fun r hr' => ?_, ok.pl, fun H4 s4 => ?_⟩
  · obtain ⟨r1, r2, r3, r4, r5⟩ := ok.pr r hr'
    exact ⟨r1, by omega, r4, r5⟩
  have m4 := m0.same (same_trans s13 s4)
  refine ⟨_, rfl, _, rfl, x, _, dx, _, rfl, m4.o, cf.cl, cf.no _ (by decide +kernel), (by show 0 < 1000; decide), ?_⟩
  have m5 := m4.set "own_modulus" (.int S.m)
  generalize upd H4 x (.ins (ga K "Sheet") dx (putF "own_modulus" (.int S.m) [])) = H5 at m5
  -- own_columns
  refine ⟨_, rfl, c, _, rfl, .inl ⟨.of (m5.at_ src0.c), fun tc htc => ?_⟩⟩
  have m6 := m5.new (o := .tup (S.cols.map V.str)) htc
  have htx : tc ≠ x := ne_fresh m5.o htc
  have c6 : dr x (upd H5 tc (.tup (S.cols.map V.str))) tc = some (.tup (S.cols.map V.str)) := by rw [dr_ne htx, upd_same]
  generalize upd H5 tc (.tup (S.cols.map V.str)) = H6 at m6 c6
  refine ⟨_, rfl, x, _, dx, _, rfl, m6.o, cf.cl, cf.no _ (by decide +kernel), (by show 1 < 1000; decide), ?_⟩
  have m7 := m6.set "own_columns" (.ref tc)
  have c7 : dr x (upd H6 x (.ins (ga K "Sheet") dx (putF "own_columns" (.ref tc) (putF "own_modulus" (.int S.m) [])))) tc = some (.tup (S.cols.map V.str)) := by rw [dr_upd]; exact c6
  generalize upd H6 x (.ins (ga K "Sheet") dx (putF "own_columns" (.ref tc) (putF "own_modulus" (.int S.m) []))) = H7 at m7 c7
  -- own_top
  refine ⟨_, rfl, c, rfl, ⟨_, .of (m7.at_ src0.c)⟩, fun D hD => dc_gr (B := H7) (walk_list (a := c) (xs := S.cols.map V.str)) (ks := S.cols.map Sum.inr) (by rw [List.length_map, List.length_map]) (nd_inr ok.cn) (by rw [List.length_map]; omega) hD (fun i y _ => ∃ z, S.cols[i]? = some z ∧ y = .int (S.top z)) (fun _ _ _ _ _ h => h) (fun _ _ _ s => .of (s _ _ (m7.at_ src0.c))) ?_ ?_⟩
  · rintro i x' H8 H8' acc hi s8 hD8 ⟨rfl, hx'⟩ Fin hFin
    obtain ⟨z, hz, rfl⟩ := some_map hx'
    exact ⟨rfl, _, rfl, _, rfl, _, rfl, t, _, rfl, .inl ⟨_, .inr z, .inl (s8 _ _ (m7.at_ src0.t)), rfl, (dct_in (List.mem_of_getElem? hz)).symm⟩, hFin (.inr z) _ _ (by rw [List.getElem?_map, hz]; rfl) (Same.refl _) ⟨z, hz, rfl⟩⟩
  intro H8 ys s8 hD8 hl8 hR8
  rw [List.length_map] at hl8
  rw [list_is (f := fun z => V.int (S.top z)) hl8 hR8, dct_kvz] at hD8
  have m8 := m7.same s8
  have hDx : D ≠ x := ne_fresh m7.o hD
  have c8 := dr_same (p := x) s8 _ _ c7
  have t8 : dr x H8 D = some (.dK (dct S.cols fun z => V.int (S.top z))) := by rw [dr_ne hDx]; exact hD8
  refine ⟨_, rfl, x, _, dx, _, rfl, m8.o, cf.cl, cf.no _ (by decide +kernel), (by show 2 < 1000; decide), ?_⟩
  have m9 := m8.set "own_top" (.ref D)
  have c9 : dr x (upd H8 x (.ins (ga K "Sheet") dx (putF "own_top" (.ref D) (putF "own_columns" (.ref tc) (putF "own_modulus" (.int S.m) []))))) tc = some (.tup (S.cols.map V.str)) := by rw [dr_upd]; exact c8
  have t9 : dr x (upd H8 x (.ins (ga K "Sheet") dx (putF "own_top" (.ref D) (putF "own_columns" (.ref tc) (putF "own_modulus" (.int S.m) []))))) D = some (.dK (dct S.cols fun z => V.int (S.top z))) := by rw [dr_upd]; exact t8
  generalize upd H8 x (.ins (ga K "Sheet") dx (putF "own_top" (.ref D) (putF "own_columns" (.ref tc) (putF "own_modulus" (.int S.m) [])))) = H9 at m9 c9 t9
  clear hD8 hR8
  -- own_formulas
  refine ⟨_, rfl, k, _, S.kinds, rfl, .inl (m9.at_ hka1), dct_keys, by omega, fun yk q hperm _ hq9 => ⟨q, rfl, ⟨_, .of upd_same⟩, fun Df hDf => ?_⟩⟩
  have m10 := m9.new (o := .lst (yk.map V.str)) hq9
  have c10 := dr_grow (x := x) (o := .lst (yk.map V.str)) m9.o hq9 _ _ c9
  have t10 := dr_grow (x := x) (o := .lst (yk.map V.str)) m9.o hq9 _ _ t9
  have q10 : upd H9 q (.lst (yk.map V.str)) q = some (.lst (yk.map V.str)) := upd_same
  generalize upd H9 q (.lst (yk.map V.str)) = H10 at m10 c10 t10 q10 hDf
  have hkl : yk.length = S.kinds.length := hperm.length_eq
  have ykn : yk.Nodup := hperm.nodup_iff.mpr ok.kn
  refine dc_gr (B := H10) (walk_list (a := q) (xs := yk.map V.str)) (ks := yk.map Sum.inr) (by rw [List.length_map, List.length_map]) (nd_inr ykn) (by rw [List.length_map]; omega) hDf
    (fun i y H => ∃ z a, yk[i]? = some z ∧ y = .ref a ∧ ∃ fa : Str → Addr, dr x H a = some (.dK (dct S.cols fun y => .ref (fa y))) ∧ ∀ y ∈ S.cols, ∃ l, IsFm K (dr x H) (S.fm z y) (fa y) l)
    (fun i y H H' s ⟨z, a, h1, h2, fa, h3, h4⟩ => ⟨z, a, h1, h2, fa, dr_same s _ _ h3, fun y hy => let ⟨l, e⟩ := h4 y hy; ⟨l, e.up (dr_same s)⟩⟩) (fun _ _ _ s => .of (s _ _ q10)) ?_ ?_
  · rintro i x' H11 H11' acc hi s11 hD11 ⟨rfl, hx'⟩ Fin hFin
    obtain ⟨z, hz, rfl⟩ := some_map hx'
    have hzk : z ∈ S.kinds := hperm.mem_iff.mp (List.mem_of_getElem? hz)
    obtain ⟨fa, e1, e2⟩ := hka2 z hzk
    have m11 := m10.same s11
    refine ⟨rfl, _, rfl, _, rfl, c, rfl, ⟨_, .of (m11.at_ src0.c)⟩, fun D2 hD2 => dc_gr (walk_list (a := c) (xs := S.cols.map V.str)) (ks := S.cols.map Sum.inr) (by rw [List.length_map, List.length_map]) (nd_inr ok.cn) (by rw [List.length_map]; omega) hD2 (fun i y _ => ∃ z2, S.cols[i]? = some z2 ∧ y = .ref (fa z2)) (fun _ _ _ _ _ h => h) (fun _ _ _ s => .of (s _ _ (m11.at_ src0.c))) ?_ ?_⟩
    · rintro j x2 H12 H12' acc2 hj s12' hD12 ⟨rfl, hx2⟩ Fin2 hFin2
      obtain ⟨y, hy, rfl⟩ := some_map hx2
      have m12 := m11.same s12'
      refine ⟨rfl, _, rfl, _, rfl, _, rfl, k, _, rfl, .inl ⟨_, .inr z, .inl (m12.at_ hka1), rfl, (dct_in hzk).symm⟩, _, rfl, ka z, _, rfl, .inl ⟨_, .inr y, .inl (m12.at_ e1), rfl, (dct_in (List.mem_of_getElem? hy)).symm⟩, hFin2 (.inr y) _ _ (by rw [List.getElem?_map, hy]; rfl) (Same.refl _) ⟨y, hy, rfl⟩⟩
    · intro H12 ys2 s12' hD12 hl12 hR12
      rw [List.length_map] at hl12
      rw [list_is (f := fun z => V.ref (fa z)) hl12 hR12, dct_kvz] at hD12
      have hDD : D2 ≠ Df := fun e => by rw [e, hD11] at hD2; cases hD2
      refine hFin (.inr z) _ _ (by rw [List.getElem?_map, hz]; rfl) s12' ⟨z, D2, hz, rfl, fa, by rw [dr_ne (ne_fresh m11.o hD2), dr_ne hDD]; exact hD12, fun y hy => ?_⟩
      obtain ⟨l, e3⟩ := e2 y hy
      refine ⟨l, ?_⟩
      have g1 : Same H10 (dr Df H12) := dr_new (same_trans s11 s12') hDf
      exact (e3.up m10.v).up (dr_same g1)
  intro H11 yf s11 hD11 hl11 hR11
  rw [List.length_map] at hl11
  obtain ⟨kf, ekf, hkf⟩ := refs_fun (P := fun z a => ∃ fa : Str → Addr, dr x (dr Df H11) a = some (.dK (dct S.cols fun y => .ref (fa y))) ∧ ∀ y ∈ S.cols, ∃ l, IsFm K (dr x (dr Df H11)) (S.fm z y) (fa y) l) ykn hl11 (fun i y hy => by
    obtain ⟨z, a, h1, h2, h3⟩ := hR11 i y hy
    exact ⟨z, a, h1, h2, h3⟩)
  rw [ekf] at hD11
  have m11 := m10.same s11
  have hDfx : Df ≠ x := ne_fresh m10.o hDf
  have c11 := dr_same (p := x) s11 _ _ c10
  have t11 := dr_same (p := x) s11 _ _ t10
  have f11 : dr x H11 Df = some (.dK (dct yk fun z => .ref (kf z))) := by rw [dr_ne hDfx]; exact hD11
  have g11 : ∀ z ∈ S.kinds, ∃ fa : Str → Addr, dr x H11 (kf z) = some (.dK (dct S.cols fun y => .ref (fa y))) ∧ ∀ y ∈ S.cols, ∃ l, IsFm K (dr x H11) (S.fm z y) (fa y) l := fun z hz => by
    obtain ⟨fa, e1, e2⟩ := hkf z (hperm.mem_iff.mpr hz)
    exact ⟨fa, dr_same dr_le _ _ e1, fun y hy => let ⟨l, e⟩ := e2 y hy; ⟨l, e.up (dr_same dr_le)⟩⟩
  clear hD11 hR11 hkf
  refine ⟨_, rfl, x, _, dx, _, rfl, m11.o, cf.cl, cf.no _ (by decide +kernel), (by show 3 < 1000; decide), ?_⟩
  have m12 := m11.set "own_formulas" (.ref Df)
  have v12 : dr x (upd H11 x (.ins (ga K "Sheet") dx (putF "own_formulas" (.ref Df) (putF "own_top" (.ref D) (putF "own_columns" (.ref tc) (putF "own_modulus" (.int S.m) [])))))) = dr x H11 := dr_upd
  rw [← v12] at c11 t11 f11 g11
  generalize upd H11 x (.ins (ga K "Sheet") dx (putF "own_formulas" (.ref Df) (putF "own_top" (.ref D) (putF "own_columns" (.ref tc) (putF "own_modulus" (.int S.m) []))))) = H12 at m12 c11 t11 f11 g11
  clear v12
  -- own_plan
  refine ⟨_, rfl, p, rfl, ⟨_, .of (m12.at_ hrs1)⟩, fun Dp hDp => lc_gr (B := H12) (walk_list (a := p) (xs := rs.map V.ref)) (by rw [List.length_map, paired_len hrs2]; omega) hDp (fun i y H => ∃ r a, S.plan[i]? = some r ∧ y = .ref a ∧ ∃ ys : List Str, ys.Perm r.1 ∧ dr x H a = some (.dK (dct ys fun z => .int (r.2 z))))
    (fun i y H H' s ⟨r, a, h1, h2, ys, h3, h4⟩ => ⟨r, a, h1, h2, ys, h3, dr_same s _ _ h4⟩) (fun _ _ _ s => .of (s _ _ (m12.at_ hrs1))) ?_ ?_⟩
  · rintro i x' H13 H13' acc hi s13' hD13 ⟨rfl, hx'⟩ Fin hFin
    obtain ⟨a, ha, rfl⟩ := some_map hx'
    obtain ⟨r, hr', had⟩ := paired_get hrs2 ha
    obtain ⟨r1, r2, r3, r4, r5⟩ := ok.pr r (List.mem_of_getElem? hr')
    have m13 := m12.same s13'
    refine ⟨rfl, _, rfl, a, _, r.1, rfl, .inl (m13.at_ had), dct_keys, by omega, fun ys q2 hpm _ hq2 => ⟨q2, rfl, ⟨_, .of upd_same⟩, fun D2 hD2 => ?_⟩⟩
    have m14 := m13.new (o := .lst (ys.map V.str)) hq2
    have s14 := Same.new (o := .lst (ys.map V.str)) hq2
    have q14 : upd H13' q2 (.lst (ys.map V.str)) q2 = some (.lst (ys.map V.str)) := upd_same
    have hyl : ys.length = r.1.length := hpm.length_eq
    refine dc_gr (walk_list (a := q2) (xs := ys.map V.str)) (ks := ys.map Sum.inr) (by rw [List.length_map, List.length_map]) (nd_inr (hpm.nodup_iff.mpr r3)) (by rw [List.length_map]; omega) hD2 (fun i y _ => ∃ z2, ys[i]? = some z2 ∧ y = .int (r.2 z2)) (fun _ _ _ _ _ h => h) (fun _ _ _ s => .of (s _ _ q14)) ?_ ?_
    · rintro j x2 H15 H15' acc2 hj s15 hD15 ⟨rfl, hx2⟩ Fin2 hFin2
      obtain ⟨y, hy, rfl⟩ := some_map hx2
      have m15 := m14.same s15
      exact ⟨rfl, _, rfl, _, rfl, _, rfl, a, _, rfl, .inl ⟨_, .inr y, .inl (m15.at_ had), rfl, (dct_in (hpm.mem_iff.mp (List.mem_of_getElem? hy))).symm⟩, hFin2 (.inr y) _ _ (by rw [List.getElem?_map, hy]; rfl) (Same.refl _) ⟨y, hy, rfl⟩⟩
    · intro H15 ys2 s15 hD15 hl15 hR15
      rw [List.length_map] at hl15
      rw [list_is (f := fun z => V.int (r.2 z)) hl15 hR15, dct_kvz] at hD15
      have hDD : D2 ≠ Dp := fun e => by rw [e, s14 _ _ hD13] at hD2; cases hD2
      exact hFin _ _ (same_trans s14 s15) ⟨r, D2, hr', rfl, ys, hpm, by rw [dr_ne (ne_fresh m14.o hD2), dr_ne hDD]; exact hD15⟩
  intro H13 yp s13' hD13 hl13 hR13
  rw [List.length_map] at hl13
  obtain ⟨rp, erp, hrp⟩ := refs_list (P := fun i a => ∃ r, S.plan[i]? = some r ∧ ∃ ys : List Str, ys.Perm r.1 ∧ dr x (dr Dp H13) a = some (.dK (dct ys fun z => .int (r.2 z)))) (ys := yp) (fun i y hy => by
    obtain ⟨r, a, h1, h2, h3⟩ := hR13 i y hy
    exact ⟨a, h2, r, h1, h3⟩)
  rw [erp] at hD13 hl13
  rw [List.length_map] at hl13
  have m13 := m12.same s13'
  have hDpx : Dp ≠ x := ne_fresh m12.o hDp
  have up13 := dr_same (p := x) s13'
  refine ⟨_, rfl, x, _, dx, _, rfl, m13.o, cf.cl, cf.no _ (by decide +kernel), (by show 4 < 1000; decide), ?_⟩
  have m14 := m13.set "own_plan" (.ref Dp)
  have v14 : dr x (upd H13 x (.ins (ga K "Sheet") dx (putF "own_plan" (.ref Dp) (putF "own_formulas" (.ref Df) (putF "own_top" (.ref D) (putF "own_columns" (.ref tc) (putF "own_modulus" (.int S.m) []))))))) = dr x H13 := dr_upd
  have le : Same (dr x H13) (upd H13 x (.ins (ga K "Sheet") dx (putF "own_plan" (.ref Dp) (putF "own_formulas" (.ref Df) (putF "own_top" (.ref D) (putF "own_columns" (.ref tc) (putF "own_modulus" (.int S.m) []))))))) := by
    rw [← v14]
    exact dr_le
  refine hq _ m14.sb ⟨dx, tc, D, Df, Dp, m14.o, le _ _ (up13 _ _ c11), le _ _ (up13 _ _ t11), ⟨yk, kf, hperm, le _ _ (up13 _ _ f11), fun z hz => ?_⟩, rp, ?_, ?_⟩
  · obtain ⟨fa, e1, e2⟩ := g11 z hz
    exact ⟨fa, le _ _ (up13 _ _ e1), fun y hy => let ⟨l, e⟩ := e2 y hy; ⟨l, (e.up up13).up le⟩⟩
  · rw [upd_ne hDpx]; exact hD13
  · refine paired_of (by rw [hl13, paired_len hrs2]) fun i a r ha hr' => ?_
    obtain ⟨r', h1, ys, h2, h3⟩ := hrp i a ha
    rw [hr'] at h1
    cases h1
    exact ⟨ys, h2, le _ _ (dr_same dr_le _ _ h3)⟩
end
end Bn
/-! W27: a model's formulas as the package's. -/
namespace Bn
open PySem PySem.Spec PyProof.Rows L2 StX
open He (ga ma)
theorem wS_no (wh : Wh) (x : Str) (h : x = "number" ∨ x = "choice") : decide (V.str (wS wh) = V.str x) = false := by
  rcases h with rfl | rfl <;> cases wh <;> decide +kernel
theorem oW_no (o : O2) (x : Str) (h : x = "number" ∨ x = "choice") : decide (V.str (oW o) = V.str x) = false := by
  rcases h with rfl | rfl <;> cases o <;> decide +kernel
theorem wS_in (wh : Wh) : inV (.str (wS wh)) [.str "here", .str "up", .str "down"] = true := by cases wh <;> decide +kernel
theorem oW_in (o : O2) : inV (.str (oW o)) [.str "here", .str "up", .str "down"] = false := by cases o <;> decide +kernel
theorem ch_in : inV (.str "choice") [.str "here", .str "up", .str "down"] = false := by decide +kernel
theorem up_len : ∀ {l : List Int} {lo : Int}, l.Pairwise (· < ·) → (∀ x ∈ l, lo ≤ x ∧ x < 9) → lo ≤ 9 → (l.length : Int) ≤ 9 - lo
  | [], lo, _, _, h => by show (0 : Int) ≤ _; omega
  | x :: l, lo, hp, h, h9 => by
    rw [List.pairwise_cons] at hp
    have hx := h x List.mem_cons_self
    have ih := up_len (l := l) (lo := x + 1) hp.2 (fun y hy => ⟨by have := hp.1 y hy; omega, (h y (List.mem_cons_of_mem _ hy)).2⟩) (by omega)
    rw [List.length_cons]
    push_cast
    omega
section
variable {w : World} {K : Fr} {mg : Str → Option Value} {base : Heap}
def pForm (K : Fr) (n : Nat) : Pr := fun vs H Q => ∃ (a : Addr) (f : Fm) (m : Int) (cs : List Str), vs = [.ref a] ∧ IsMd H f a ∧ f.depth < n ∧ f.size ≤ 7 ∧ f.fit m cs ∧ m ≤ 9 ∧ (∀ c ∈ cs, okName c = true) ∧ ∀ H' b l, Same H H' → IsFm K H' f b l → Q (.ref b) H'
theorem k_law_formula (G : GD K mg) : ∀ n : Nat, Keeps PP w K mg base (n + 6) (ga K "_law_formula") (pForm K n)
  | 0 => by
    obtain ⟨fd, F⟩ := fd_law_formula G
    refine kp_fnN (k := 5) F sc_law_formula (fun _ _ _ _ _ _ us hl => match us, hl with | [_], _ => rfl) (by rintro _ _ _ ⟨a, f, m, cs, rfl, _⟩; rfl) fun cdv A outer s H vs Q E hr hp => ?_
    obtain ⟨a, f, m, cs, rfl, hf, hd, _⟩ := hp
    omega
  | n + 1 => by
    have ih := k_law_formula G n
    obtain ⟨fd, F⟩ := fd_law_formula G
    refine kp_fnN (k := n + 6) F sc_law_formula (fun _ _ _ _ _ _ us hl => match us, hl with | [_], _ => rfl) (by rintro _ _ _ ⟨a, f, m, cs, rfl, _⟩; rfl) fun cdv A outer s H vs Q E hr hp => ?_
    obtain ⟨a, f, m, cs, rfl, hf, hd, hz, hfit, hm9, hcs, hq⟩ := hp
    have nd := sc_law_formula.nd
    have D0 : DefR PP w K mg base (n + 6) "_law_formula" (pForm K n) := ⟨_, gg_law_formula G, gk_law_formula G, ih⟩
    have M1 := m_num (w := w) (base := base) G (k := n + 5) (by omega)
    have M2 := m_here (w := w) (base := base) G (k := n + 5) (by omega)
    have M3 := m_up (w := w) (base := base) G (k := n + 5) (by omega)
    have M4 := m_down (w := w) (base := base) G (k := n + 5) (by omega)
    have M5 := m_cho (w := w) (base := base) G (k := n + 5) (by omega)
    have M6 := m_plus (w := w) (base := base) G (k := n + 5) (by omega)
    have M7 := m_least (w := w) (base := base) G (k := n + 5) (by omega)
    have M8 := m_most (w := w) (base := base) G (k := n + 5) (by omega)
    have M9 := m_same (w := w) (base := base) G (k := n + 5) (by omega)
    refine ⟨_, pss_cons (ps_if (pt_cmpR op_eq (pe_ix ix_tup (pv 0) pe_int (fun _ _ => rfl)) pe_str (nomark _)) (pss_one (ps_ret (pe_k M1 hr (by rfl) (pa_cons (pe_ix ix_tup (pv 0) pe_int (fun _ _ => rfl)) pa_nil)))) pss_nil)
      (pss_cons (ps_if (pt_cmpR op_in_seq (pe_ix ix_tup (pv 0) pe_int (fun _ _ => rfl)) (pe_tup (pa_cons pe_str (pa_cons pe_str (pa_cons pe_str pa_nil)))) rfl)
        (pss_one (ps_ret (pe_ifExp (pt_cmpR op_eq (pe_ix ix_tup (pv 0) pe_int (fun _ _ => rfl)) pe_str (nomark _)) (pe_k M2 hr (by rfl) (pa_cons (pe_ix ix_tup (pv 0) pe_int (fun _ _ => rfl)) pa_nil))
          (pe_ifExp (pt_cmpR op_eq (pe_ix ix_tup (pv 0) pe_int (fun _ _ => rfl)) pe_str (nomark _)) (pe_k M3 hr (by rfl) (pa_cons (pe_ix ix_tup (pv 0) pe_int (fun _ _ => rfl)) pa_nil)) (pe_k M4 hr (by rfl) (pa_cons (pe_ix ix_tup (pv 0) pe_int (fun _ _ => rfl)) pa_nil)))))) pss_nil)
      (pss_cons (ps_if (pt_cmpR op_eq (pe_ix ix_tup (pv 0) pe_int (fun _ _ => rfl)) pe_str (nomark _))
        (pss_one (ps_ret (pe_k M5 hr (by rfl) (pa_cons (pe_d D0 hr (by rfl) (pa_cons (pe_ix ix_tup (pv 0) pe_int (fun _ _ => rfl)) pa_nil)) (pa_cons (pe_ix ix_tup (pv 0) pe_int (fun _ _ => rfl)) (pa_cons (pe_d D0 hr (by rfl) (pa_cons (pe_ix ix_tup (pv 0) pe_int (fun _ _ => rfl)) pa_nil)) (pa_cons (pe_d D0 hr (by rfl) (pa_cons (pe_ix ix_tup (pv 0) pe_int (fun _ _ => rfl)) pa_nil)) pa_nil))))))) pss_nil)
      (pss_cons (ps_par (i := 1) (j := 2) rfl nd rfl rfl (by decide) rfl rfl (pa_cons (pe_d D0 hr (by rfl) (pa_cons (pe_ix ix_tup (pv 0) pe_int (fun _ _ => rfl)) pa_nil)) (pa_cons (pe_d D0 hr (by rfl) (pa_cons (pe_ix ix_tup (pv 0) pe_int (fun _ _ => rfl)) pa_nil)) pa_nil)) rfl)
      (pss_cons (ps_if (pt_cmpR op_eq (pe_ix ix_tup (pv 0) pe_int (fun _ _ => rfl)) pe_str (nomark _)) (pss_one (ps_ret (pe_k M6 hr (by rfl) (pa_cons (pv 1) (pa_cons (pv 2) pa_nil))))) pss_nil)
      (pss_cons (ps_if (pt_cmpR op_eq (pe_ix ix_tup (pv 0) pe_int (fun _ _ => rfl)) pe_str (nomark _)) (pss_one (ps_ret (pe_k M7 hr (by rfl) (pa_cons (pv 1) (pa_cons (pv 2) pa_nil))))) pss_nil)
      (pss_one (ps_ret (pe_ifExp (pt_cmpR op_eq (pe_ix ix_tup (pv 0) pe_int (fun _ _ => rfl)) pe_str (nomark _)) (pe_k M8 hr (by rfl) (pa_cons (pv 1) (pa_cons (pv 2) pa_nil))) (pe_k M9 hr (by rfl) (pa_cons (pv 1) (pa_cons (pv 2) pa_nil))))))))))), ?_⟩
    match f, hf, hd, hz, hfit, hq with
    | .num v, hf, _, _, hfit, hq =>
      have hf : H a = some (.tup [.str "number", .int v]) := hf
      refine ⟨_, rfl, a, _, 0, _, rfl, rfl, .of hf, rfl, rfl, _, rfl, ifT (by decide +kernel) ?_⟩
      refine ⟨_, rfl, a, _, 1, _, rfl, rfl, .of hf, rfl, fun x dx hx hdx hne => ⟨x, dx, v, rfl, upd_same, hfit.1, by have := hfit.2; omega, fun H' sb hi => ⟨rfl, hq H' x [] (SB.made hx hdx sb) hi⟩⟩⟩
    | .ref wh c, hf, _, _, hfit, hq =>
      have hf : H a = some (.tup [.str (wS wh), .str c]) := hf
      refine ⟨_, rfl, a, _, 0, _, rfl, rfl, .of hf, rfl, rfl, _, rfl, ifF (wS_no wh _ (.inl rfl)) ?_⟩
      refine ⟨_, rfl, a, _, 0, _, rfl, rfl, .of hf, rfl, (by show 3 ≤ sizeLine; decide), fun t ht => ⟨t, _, rfl, .inr (.of upd_same), rfl, rfl, _, rfl, ifT (wS_in wh) ?_⟩⟩
      have s1 := Same.new (o := .tup [.str "here", .str "up", .str "down"]) ht
      have hf1 := s1 _ _ hf
      generalize upd H t (.tup [.str "here", .str "up", .str "down"]) = H1 at s1 hf1
      have hc := hcs c hfit
      have fin : ∀ (x dx : Addr), H1 x = none → H1 dx = none → ∀ H', SB x (upd (upd H1 dx (.own x)) x (.ins (ga K (wC wh)) dx [])) H' → IsFm K H' (.ref wh c) x [] → Q (.ref x) H' := fun x dx hx hdx H' sb hi => hq H' x [] (same_trans s1 (SB.made hx hdx sb)) hi
      match wh, hf1, fin with
      | .here, hf1, fin => exact ⟨_, rfl, a, _, 0, _, rfl, rfl, .of hf1, rfl, rfl, _, rfl, ifT (by decide +kernel) ⟨_, rfl, a, _, 1, _, rfl, rfl, .of hf1, rfl, fun x dx hx hdx hne => ⟨x, dx, .here, c, rfl, upd_same, hc, fun H' sb hi => ⟨rfl, fin x dx hx hdx H' sb hi⟩⟩⟩⟩
      | .up, hf1, fin => exact ⟨_, rfl, a, _, 0, _, rfl, rfl, .of hf1, rfl, rfl, _, rfl, ifF (by decide +kernel) ⟨_, rfl, a, _, 0, _, rfl, rfl, .of hf1, rfl, rfl, _, rfl, ifT (by decide +kernel) ⟨_, rfl, a, _, 1, _, rfl, rfl, .of hf1, rfl, fun x dx hx hdx hne => ⟨x, dx, .up, c, rfl, upd_same, hc, fun H' sb hi => ⟨rfl, fin x dx hx hdx H' sb hi⟩⟩⟩⟩⟩
      | .down, hf1, fin => exact ⟨_, rfl, a, _, 0, _, rfl, rfl, .of hf1, rfl, rfl, _, rfl, ifF (by decide +kernel) ⟨_, rfl, a, _, 0, _, rfl, rfl, .of hf1, rfl, rfl, _, rfl, ifF (by decide +kernel) ⟨_, rfl, a, _, 1, _, rfl, rfl, .of hf1, rfl, fun x dx hx hdx hne => ⟨x, dx, .down, c, rfl, upd_same, hc, fun H' sb hi => ⟨rfl, fin x dx hx hdx H' sb hi⟩⟩⟩⟩⟩
    | .cho t ch x y, hf, hd, hz, hfit, hq =>
      obtain ⟨at_, ac, ax, ay, hf, hch, ht, hx, hy⟩ := hf
      obtain ⟨ft, fx, fy, fch, fpw⟩ := hfit
      unfold Fm.size at hz
      unfold Fm.depth at hd
      have e0 := Fm.depth_lt t
      have e1 := Fm.depth_lt x
      have e2 := Fm.depth_lt y
      refine ⟨_, rfl, a, _, 0, _, rfl, rfl, .of hf, rfl, rfl, _, rfl, ifF (by decide +kernel) ?_⟩
      refine ⟨_, rfl, a, _, 0, _, rfl, rfl, .of hf, rfl, (by show 3 ≤ sizeLine; decide), fun tt htt => ⟨tt, _, rfl, .inr (.of upd_same), rfl, rfl, _, rfl, ifF ch_in ?_⟩⟩
      have s1 := Same.new (o := .tup [.str "here", .str "up", .str "down"]) htt
      generalize upd H tt (.tup [.str "here", .str "up", .str "down"]) = H1 at s1
      have hf1 := s1 _ _ hf
      refine ⟨_, rfl, a, _, 0, _, rfl, rfl, .of hf1, rfl, rfl, _, rfl, ifT (by decide +kernel) ?_⟩
      refine ⟨_, rfl, a, _, 1, _, rfl, rfl, .of hf1, rfl, at_, t, m, cs, rfl, ht.up s1, by omega, by omega, ft, hm9, hcs, fun H2 b1 l1 s2 i1 => ?_⟩
      have s12 := same_trans s1 s2
      refine ⟨_, rfl, a, _, 2, _, rfl, rfl, .of (s12 _ _ hf), rfl, _, rfl, a, _, 3, _, rfl, rfl, .of (s12 _ _ hf), rfl, ax, x, m, cs, rfl, hx.up s12, by omega, by omega, fx, hm9, hcs, fun H3 b2 l2 s3 i2 => ?_⟩
      have s13 := same_trans s12 s3
      refine ⟨_, rfl, a, _, 4, _, rfl, rfl, .of (s13 _ _ hf), rfl, ay, y, m, cs, rfl, hy.up s13, by omega, by omega, fy, hm9, hcs, fun H4 b3 l3 s4 i3 => ?_⟩
      have s14 := same_trans s13 s4
      refine fun z dz hz' hdz hne => ?_
      have s5 : Same H4 (upd (upd H4 dz (.own z)) z (.ins (ga K "Choice") dz [])) := same_trans (Same.new hdz) (Same.new (by rw [upd_ne hne.symm]; exact hz'))
      have hl := up_len (lo := 0) fpw (fun q hq' => by have := fch q hq'; omega) (by omega)
      exact ⟨z, dz, t, x, y, ch, b1, b2, b3, ac, l1, l2, l3, rfl, upd_same, ((i1.up s3).up s4).up s5, (i2.up s4).up s5, i3.up s5, s5 _ _ (s14 _ _ hch), fun q hq' => by have := fch q hq'; omega, fpw, by omega, by omega, by omega, by omega, by omega, fun H' l sb hi => ⟨rfl, hq H' z l (same_trans s14 (SB.made hz' hdz sb)) hi⟩⟩
    | .pair o x y, hf, hd, hz, hfit, hq =>
      obtain ⟨ax, ay, hf, hx, hy⟩ := hf
      obtain ⟨fx, fy⟩ := hfit
      unfold Fm.size at hz
      unfold Fm.depth at hd
      have e1 := Fm.depth_lt x
      have e2 := Fm.depth_lt y
      refine ⟨_, rfl, a, _, 0, _, rfl, rfl, .of hf, rfl, rfl, _, rfl, ifF (oW_no o _ (.inl rfl)) ?_⟩
      refine ⟨_, rfl, a, _, 0, _, rfl, rfl, .of hf, rfl, (by show 3 ≤ sizeLine; decide), fun tt htt => ⟨tt, _, rfl, .inr (.of upd_same), rfl, rfl, _, rfl, ifF (oW_in o) ?_⟩⟩
      have s1 := Same.new (o := .tup [.str "here", .str "up", .str "down"]) htt
      generalize upd H tt (.tup [.str "here", .str "up", .str "down"]) = H1 at s1
      have hf1 := s1 _ _ hf
      refine ⟨_, rfl, a, _, 0, _, rfl, rfl, .of hf1, rfl, rfl, _, rfl, ifF (oW_no o _ (.inr rfl)) ?_⟩
      refine ⟨_, rfl, a, _, 1, _, rfl, rfl, .of hf1, rfl, ax, x, m, cs, rfl, hx.up s1, by omega, by omega, fx, hm9, hcs, fun H2 b1 l1 s2 i1 => ?_⟩
      have s12 := same_trans s1 s2
      refine ⟨_, rfl, a, _, 2, _, rfl, rfl, .of (s12 _ _ hf), rfl, ay, y, m, cs, rfl, hy.up s12, by omega, by omega, fy, hm9, hcs, fun H3 b2 l2 s3 i2 => ⟨_, _, rfl, ?_⟩⟩
      have s13 := same_trans s12 s3
      have hf3 := s13 _ _ hf
      have fin : ∀ (z dz : Addr), H3 z = none → H3 dz = none → dz ≠ z → ∀ (Q' : VK), (∀ H' l, SB z (upd (upd H3 dz (.own z)) z (.ins (ga K (oC o)) dz [])) H' → IsFm K H' (.pair o x y) z l → Q' .non H') → pPairI K [.ref z, .ref b1, .ref b2] (upd (upd H3 dz (.own z)) z (.ins (ga K (oC o)) dz [])) Q' := fun z dz hz' hdz hne Q' h => by
        have s5 : Same H3 (upd (upd H3 dz (.own z)) z (.ins (ga K (oC o)) dz [])) := same_trans (Same.new hdz) (Same.new (by rw [upd_ne hne.symm]; exact hz'))
        exact ⟨z, dz, o, x, y, b1, b2, l1, l2, rfl, upd_same, (i1.up s3).up s5, i2.up s5, by omega, by omega, by omega, h⟩
      have fin2 : ∀ (z dz : Addr), H3 z = none → H3 dz = none → ∀ H' l, SB z (upd (upd H3 dz (.own z)) z (.ins (ga K (oC o)) dz [])) H' → IsFm K H' (.pair o x y) z l → Q (.ref z) H' := fun z dz hz' hdz H' l sb hi => hq H' z l (same_trans s13 (SB.made hz' hdz sb)) hi
      match o, hf3, fin, fin2 with
      | .plus, hf3, fin, fin2 => exact ⟨_, rfl, a, _, 0, _, rfl, rfl, .of hf3, rfl, rfl, _, rfl, ifT (by decide +kernel) ⟨_, rfl, _, rfl, fun z dz hz' hdz hne => fin z dz hz' hdz hne _ fun H' l sb hi => ⟨rfl, fin2 z dz hz' hdz H' l sb hi⟩⟩⟩
      | .least, hf3, fin, fin2 => exact ⟨_, rfl, a, _, 0, _, rfl, rfl, .of hf3, rfl, rfl, _, rfl, ifF (by decide +kernel) ⟨_, rfl, a, _, 0, _, rfl, rfl, .of hf3, rfl, rfl, _, rfl, ifT (by decide +kernel) ⟨_, rfl, _, rfl, fun z dz hz' hdz hne => fin z dz hz' hdz hne _ fun H' l sb hi => ⟨rfl, fin2 z dz hz' hdz H' l sb hi⟩⟩⟩⟩
      | .most, hf3, fin, fin2 => exact ⟨_, rfl, a, _, 0, _, rfl, rfl, .of hf3, rfl, rfl, _, rfl, ifF (by decide +kernel) ⟨_, rfl, a, _, 0, _, rfl, rfl, .of hf3, rfl, rfl, _, rfl, ifF (by decide +kernel) ⟨_, rfl, a, _, 0, _, rfl, rfl, .of hf3, rfl, rfl, _, rfl, ifT (by decide +kernel) ⟨_, rfl, _, rfl, fun z dz hz' hdz hne => fin z dz hz' hdz hne _ fun H' l sb hi => ⟨rfl, fin2 z dz hz' hdz H' l sb hi⟩⟩⟩⟩⟩
      | .same, hf3, fin, fin2 => exact ⟨_, rfl, a, _, 0, _, rfl, rfl, .of hf3, rfl, rfl, _, rfl, ifF (by decide +kernel) ⟨_, rfl, a, _, 0, _, rfl, rfl, .of hf3, rfl, rfl, _, rfl, ifF (by decide +kernel) ⟨_, rfl, a, _, 0, _, rfl, rfl, .of hf3, rfl, rfl, _, rfl, ifF (by decide +kernel) ⟨_, rfl, _, rfl, fun z dz hz' hdz hne => fin z dz hz' hdz hne _ fun H' l sb hi => ⟨rfl, fin2 z dz hz' hdz H' l sb hi⟩⟩⟩⟩⟩
end
end Bn
/-! W28: a model's sheet as the package's. -/
namespace Bn
open PySem PySem.Spec PyProof.Rows L2 StX
open He (ga ma)
theorem upd_comm {H : Hp} {p q : Addr} {o u : HO} (h : p ≠ q) : upd (upd H p o) q u = upd (upd H q u) p o := by
  funext b
  by_cases h1 : b = q
  · subst h1; rw [upd_same, upd_ne h.symm, upd_same]
  · by_cases h2 : b = p
    · subst h2; rw [upd_ne h1, upd_same, upd_same]
    · rw [upd_ne h1, upd_ne h2, upd_ne h2, upd_ne h1]
theorem TI.updD {H : Hp} {p : Addr} {kvs : List (Key × V)} {o : HO} (h : H p = some (.dK kvs)) : TI H (upd H p o) := ⟨fun b C dx g fs e => by rw [upd_ne (ne_of e h (fun z => nomatch z))]; exact e, fun b xs e => by rw [upd_ne (ne_of e h (fun z => nomatch z))]; exact e⟩
theorem TI.updF {H : Hp} {p : Addr} {od : Obj} {u o : HO} (h : H p = some (.frz od u)) : TI H (upd H p o) := ⟨fun b C dx g fs e => by rw [upd_ne (ne_of e h (fun z => nomatch z))]; exact e, fun b xs e => by rw [upd_ne (ne_of e h (fun z => nomatch z))]; exact e⟩
/-- pairs of a name and a reference as a dict -/
theorem pairs_ref {H : Hp} {P : Str → Addr → Prop} : ∀ {cs : List Str} {ys : List V}, cs.Nodup → ys.length = cs.length → (∀ (i : Nat) (y : V), ys[i]? = some y → ∃ c t b, cs[i]? = some c ∧ y = .ref t ∧ H t = some (.tup [.str c, .ref b]) ∧ P c b) →
    ∃ (as : List Addr) (fa : Str → Addr), ys = as.map V.ref ∧ Paired (fun a kv => H a = some (.tup [kV kv.1, kv.2])) as (dct cs fun c => .ref (fa c)) ∧ ∀ c ∈ cs, P c (fa c)
  | [], [], _, _, _ => ⟨[], fun _ => 0, rfl, .nil, fun _ h => nomatch h⟩
  | [], _ :: _, _, h, _ => by simp at h
  | _ :: _, [], _, h, _ => by simp at h
  | c :: cs, y :: ys, hn, hl, h => by
    rw [List.nodup_cons] at hn
    obtain ⟨as, fa, e1, e2, e3⟩ := pairs_ref (P := P) (cs := cs) (ys := ys) hn.2 (by simpa using hl) fun i z hz => by simpa using h (i + 1) z (by simpa using hz)
    obtain ⟨c', t, b, f1, rfl, f3, f4⟩ := h 0 y rfl
    cases f1
    have ec : dct cs (fun x => V.ref (fa x)) = dct cs fun x => V.ref (if x = c then b else fa x) := dct_congr fun x hx => by rw [if_neg (show ¬ x = c from fun z => hn.1 (z ▸ hx))]
    refine ⟨t :: as, fun x => if x = c then b else fa x, by rw [e1]; rfl, ?_, fun x hx => ?_⟩
    · show Paired _ (t :: as) (((Sum.inr c : Key), V.ref (if c = c then b else fa c)) :: dct cs fun x => V.ref (if x = c then b else fa x))
      rw [if_pos rfl, ← ec]
      exact .cons f3 e2
    · show P x (if x = c then b else fa x)
      by_cases hxc : x = c
      · rw [if_pos hxc, hxc]; exact f4
      · rw [if_neg hxc]
        rcases List.mem_cons.mp hx with e | hx
        · exact absurd e hxc
        · exact e3 x hx
section
variable {w : World} {K : Fr} {mg : Str → Option Value} {base : Heap}
def pMade (K : Fr) : Pr := fun vs H Q => ∃ (md : Addr) (S : Sm), vs = [.ref md] ∧ IsMo H md S ∧ S.Ok ∧ ∀ H' a, Same H H' → IsSheet K H' a S → Q (.ref a) H'
theorem k_law_made (G : GD K mg) : Keeps PP w K mg base 14 (ga K "_law_made") (pMade K) := by
  obtain ⟨fd, F⟩ := fd_law_made G
  refine kp_fnN (k := 13) F sc_law_made (fun _ _ _ _ _ _ us hl => match us, hl with | [_], _ => rfl) (by rintro _ _ _ ⟨md, S, rfl, _⟩; rfl) fun cdv A outer s H vs Q E hr hp => ?_
  obtain ⟨md, S, rfl, ⟨c, t, k, p, hmd, hM⟩, ok, hq⟩ := hp
  have nd := sc_law_made.nd
  have hs := sizeLine_eq
  have hu := hu_of hr.r
  have D0 : DefR PP w K mg base 13 "_law_formula" (pForm K 7) := ⟨_, gg_law_formula G, gk_law_formula G, k_law_formula G 7⟩
  have M0 : MakR PP w K mg base 12 "Sheet" (ga K "Sheet") (pSheetI K) := ⟨_, mk_Sheet G, gr_Sheet G, (k_Sheet_init G).mono (by omega)⟩
  refine ⟨_, pss_cons (ps_set (i := 1) nd rfl (.inl rfl) pe_dnewK)
    (pss_cons (ps_lock (ps_for PassesOwn.never rfl (pi_keys (pe_dget hu (pv 0) pe_str (fun _ _ => rfl))) (pg_name (i := 2) nd rfl (.inl rfl))
      (pss_cons (ps_set (i := 3) nd rfl (.inr rfl) (pe_dget hu (pe_dget hu (pv 0) pe_str (fun _ _ => rfl)) (pv 2) (fun _ _ => rfl)))
      (pss_one (ps_lock (ps_dput hu (pv 1) (pv 2) (pe_callTy (call_dictP rfl) (by rfl) (gf_dict G) rfl (pa_cons (pe_lc (own := [("_law_column", 4)]) (g := gName 4) (tt := tYes) (te := tTup (tCons (tVar 4) (tCons (tD (pForm K 7) (tCons (tDGet (tVar 3) (tVar 4)) tNil)) tNil))) rfl nd (pi_keys (pv 3)) (blkOk_by (N := N_law_made) (sc := defScope s_law_made) (by decide +kernel))
          (fun _ _ _ _ _ => pg_name (i := 4) nd rfl (.inl rfl)) (fun _ _ _ _ _ => pts_nil) (fun _ _ _ _ _ => pe_tup (pa_cons (pv 4) (pa_cons (pe_d D0 hr (by rfl) (pa_cons (pe_dget hu (pv 3) (pv 4) (fun _ _ => rfl)) pa_nil)) pa_nil)))) pa_nil)) rfl))))))
    (pss_one (ps_ret (pe_k M0 hr (by rfl) (pa_cons (pe_dget hu (pv 0) pe_str (fun _ _ => rfl)) (pa_cons (pe_dget hu (pv 0) pe_str (fun _ _ => rfl)) (pa_cons (pe_dget hu (pv 0) pe_str (fun _ _ => rfl)) (pa_cons (pv 1) (pa_cons (pe_dget hu (pv 0) pe_str (fun _ _ => rfl)) pa_nil))))))))), ?_⟩
  obtain ⟨mc, mt, ⟨ka, mk, mka⟩, ⟨rs, mp, mpr⟩⟩ := hM
  have hc1 := ok.c1
  have hc4 := ok.c4
  have hk3 := ok.k3
  have hmk : md ≠ k := ne_of hmd mk fun z => by
    have z := HO.dK.inj z
    cases e : S.kinds with
    | nil => rw [e] at z; cases z
    | cons a r =>
      rw [e] at z
      have z := congrArg Prod.snd (List.cons.inj z).1
      cases z
  have hka : ∀ x ∈ S.kinds, ka x ≠ k := fun x hx e => by
    obtain ⟨fa, e1, e2⟩ := mka x hx
    rw [e, mk] at e1
    have z := HO.dK.inj (Option.some.inj e1)
    have hk0 : S.kinds ≠ [] := fun z => by rw [z] at hx; cases hx
    obtain ⟨y, ks, hks⟩ : ∃ y ks, S.kinds = y :: ks := by
      cases h : S.kinds with
      | nil => exact absurd h hk0
      | cons a r => exact ⟨a, r, rfl⟩
    cases hcs : S.cols with
    | nil => rw [hcs] at hc1; exact absurd hc1 (by decide)
    | cons b cs =>
      rw [hks, hcs] at z
      have z := (List.cons.inj z).1
      have zk := Sum.inr.inj (congrArg Prod.fst z)
      have za := V.ref.inj (congrArg Prod.snd z)
      obtain ⟨fa', e3, _⟩ := mka y (by rw [hks]; exact List.mem_cons_self)
      have h2 := e2 b (by rw [hcs]; exact List.mem_cons_self)
      rw [← za] at h2
      have tup : ∀ {f : Fm} {a : Addr}, IsMd H f a → ∃ xs, H a = some (.tup xs) := fun {f a} h => by
        match f, h with
        | .num v, h => exact ⟨_, h⟩
        | .ref w c, h => exact ⟨_, h⟩
        | .pair o x y, ⟨_, _, h, _⟩ => exact ⟨_, h⟩
        | .cho t ch x y, ⟨_, _, _, _, h, _⟩ => exact ⟨_, h⟩
      obtain ⟨xs, h3⟩ := tup h2
      rw [e3] at h3
      cases h3
  refine fun kn hkn => ?_
  have hknk : kn ≠ k := (ne_of_none mk hkn).symm
  have mk1 := Same.new (o := .dK []) hkn _ _ mk
  refine ⟨k, _, mk1, trivial, fun od => ?_⟩
  have hB : ∀ {b : Addr} {o : HO}, H b = some o → b ≠ k → upd H k (.frz od (.dK (dct S.kinds fun x => V.ref (ka x)))) b = some o := fun e n => by rw [upd_ne n]; exact e
  have hBk : upd H k (.frz od (.dK (dct S.kinds fun x => V.ref (ka x)))) k = some (.frz od (.dK (dct S.kinds fun x => V.ref (ka x)))) := upd_same
  have hBkn : upd H k (.frz od (.dK (dct S.kinds fun x => V.ref (ka x)))) kn = none := by rw [upd_ne hknk]; exact hkn
  have hBmd : ∀ {f : Fm} {a : Addr}, IsMd H f a → IsMd (upd H k (.frz od (.dK (dct S.kinds fun x => V.ref (ka x))))) f a := fun h => h.updL mk (fun _ z => nomatch z)
  have s0 : Same (upd H k (.frz od (.dK (dct S.kinds fun x => V.ref (ka x))))) (upd (upd H kn (.dK [])) k (.frz od (.dK (dct S.kinds fun x => V.ref (ka x))))) := by
    rw [upd_comm hknk]
    exact Same.new hBkn
  have n0 : upd (upd H kn (.dK [])) k (.frz od (.dK (dct S.kinds fun x => V.ref (ka x)))) kn = some (.dK []) := by rw [upd_ne hknk, upd_same]
  generalize hBe : upd H k (.frz od (.dK (dct S.kinds fun x => V.ref (ka x)))) = B at hB hBk hBkn hBmd s0
  generalize upd (upd H kn (.dK [])) k (.frz od (.dK (dct S.kinds fun x => V.ref (ka x)))) = H1 at s0 n0
  refine ⟨_, rfl, md, .ref k, rfl, .inl ⟨_, .inr "kinds", .inl (s0 _ _ (hB hmd hmk)), rfl, (by rfl)⟩, k, od, rfl, .inl ⟨_, s0 _ _ hBk, ?_⟩⟩
  refine for_it (walk_keys (d := k) (o := od) (kvs := dct S.kinds fun x => V.ref (ka x))) (fun i σ H2 => Same B H2 ∧ ∃ (kb : Str → Addr) (c2 c3 c4 : Option V), σ = [some (.ref md), some (.ref kn), c2, c3, c4] ∧ H2 kn = some (.dK (dct (S.kinds.take i) fun x => .ref (kb x))) ∧ ∀ x ∈ S.kinds.take i, H (kb x) = none ∧ kb x ≠ kn ∧ ∃ fb : Str → Addr, H2 (kb x) = some (.dK (dct S.cols fun y => .ref (fb y))) ∧ ∀ y ∈ S.cols, ∃ l, IsFm K H2 (S.fm x y) (fb y) l)
    ⟨s0, fun _ => 0, none, none, none, rfl, n0, (fun _ h => by simp at h)⟩ (fun i σ H2 _ h => h.1 _ _ hBk) ?_ ?_
  · rintro i v σ H2 H2' hi ⟨s2, kb, c2, c3, c4, rfl, hn2, hkb⟩ ⟨rfl, zk, v', hzv, rfl⟩
    obtain ⟨z, hz, e⟩ := some_map hzv
    cases e
    rw [dct_len] at hi
    have hzk := List.mem_of_getElem? hz
    have hzt : z ∉ S.kinds.take i := nd_take ok.kn hz
    obtain ⟨fa, e1, e2⟩ := mka z hzk
    have hpk := hka z hzk
    have hpn : kn ≠ ka z := (ne_of_none e1 hkn).symm
    have hpa : H2' (ka z) = some (.dK (dct S.cols fun y => .ref (fa y))) := s2 _ _ (hB e1 hpk)
    refine ⟨_, rfl, md, .ref k, rfl, .inl ⟨_, .inr "kinds", .inl (s2 _ _ (hB hmd hmk)), rfl, (by rfl)⟩, _, rfl, k, .ref (ka z), rfl, .inl ⟨_, .inr z, .inr ⟨od, s2 _ _ hBk⟩, rfl, (dct_in (f := fun x => V.ref (ka x)) hzk).symm⟩, ?_⟩
    refine ⟨ka z, _, hpa, trivial, fun od2 => ?_⟩
    have hl2 : upd H2' (ka z) (.frz od2 (.dK (dct S.cols fun y => .ref (fa y)))) (ka z) = some (.frz od2 (.dK (dct S.cols fun y => .ref (fa y)))) := upd_same
    have hln : upd H2' (ka z) (.frz od2 (.dK (dct S.cols fun y => .ref (fa y)))) kn = some (.dK (dct (S.kinds.take i) fun x => .ref (kb x))) := by rw [upd_ne hpn]; exact hn2
    have hlm : ∀ {f : Fm} {a : Addr}, IsMd H f a → IsMd (upd H2' (ka z) (.frz od2 (.dK (dct S.cols fun y => .ref (fa y))))) f a := fun h => ((hBmd h).up s2).updL hpa (fun _ z => nomatch z)
    refine ⟨_, rfl, ka z, od2, rfl, .inl ⟨_, hl2, fun D hD => lc_gr (B := upd H2' (ka z) (.frz od2 (.dK (dct S.cols fun y => .ref (fa y))))) (walk_keys (d := ka z) (o := od2) (kvs := dct S.cols fun y => V.ref (fa y))) (by rw [dct_len]; omega) hD
      (fun i y H3 => ∃ c t b, S.cols[i]? = some c ∧ y = .ref t ∧ H3 t = some (.tup [.str c, .ref b]) ∧ ∃ l, IsFm K H3 (S.fm z c) b l) (fun i y H3 H4 s3 ⟨c, t, b, h1, h2, h3, l, h4⟩ => ⟨c, t, b, h1, h2, s3 _ _ h3, l, h4.up s3⟩) (fun _ _ _ s3 => s3 _ _ hl2) ?_ ?_⟩⟩
    · rintro j y H3 H3' acc hj s3 hD3 ⟨rfl, yk, v', hyv, rfl⟩ Fin hFin
      obtain ⟨y', hy, e⟩ := some_map hyv
      cases e
      have hyc := List.mem_of_getElem? hy
      obtain ⟨g1, g2⟩ := ok.f z hzk y' hyc
      have gd := Fm.depth_lt (S.fm z y')
      refine ⟨rfl, _, rfl, _, rfl, _, rfl, ka z, .ref (fa y'), rfl, .inl ⟨_, .inr y', .inr ⟨od2, s3 _ _ hl2⟩, rfl, (dct_in (f := fun x => V.ref (fa x)) hyc).symm⟩, fa y', S.fm z y', S.m, S.cols, rfl, (hlm (e2 y' hyc)).up s3, by omega, g2, g1, ok.m9, ok.co, fun H4 b l s4 hb => ⟨(by show 2 ≤ sizeLine; decide), fun t ht => ?_⟩⟩
      have s5 := Same.new (o := .tup [.str y', .ref b]) ht
      have hD5 := s5 _ _ (s4 _ _ hD3)
      refine hFin _ _ (same_trans s4 s5) ⟨y', t, b, hy, rfl, ?_, l, (hb.up s5).ti (TI.drL hD5)⟩
      exact dr_of upd_same hD5 (fun z => nomatch z)
    intro H3 ys s3 hD3 hl3 hR3
    rw [dct_len] at hl3
    obtain ⟨as, fb, rfl, hpr, hfb⟩ := pairs_ref (P := fun c b => ∃ l, IsFm K (dr D H3) (S.fm z c) b l) ok.cn hl3 hR3
    refine ⟨D, as, _, rfl, .of hD3, Paired.mapP hpr (fun a kv e => .of (dr_le _ _ e)), fun nb hnb => ?_⟩
    rw [merge_dct ok.cn]
    have s4 := same_trans s3 (Same.new (o := .dK (dct S.cols fun c => V.ref (fb c))) hnb)
    have f4 : ∀ y ∈ S.cols, ∃ l, IsFm K (upd H3 nb (.dK (dct S.cols fun c => V.ref (fb c)))) (S.fm z y) (fb y) l := fun y hy => let ⟨l, e⟩ := hfb y hy; ⟨l, (e.up dr_le).up (Same.new hnb)⟩
    have nb4 : upd H3 nb (.dK (dct S.cols fun c => V.ref (fb c))) nb = some (.dK (dct S.cols fun c => V.ref (fb c))) := upd_same
    have hnb2 : upd H2' (ka z) (.frz od2 (.dK (dct S.cols fun y => .ref (fa y)))) nb = none := s3.free hnb
    have hnba : nb ≠ ka z := (ne_of_none hl2 hnb2).symm
    have hnbn : nb ≠ kn := (ne_of_none hln hnb2).symm
    have hnbH : H nb = none := by
      have z1 : H2' nb = none := by rw [upd_ne hnba] at hnb2; exact hnb2
      have z2 : B nb = none := s2.free z1
      have z3 : nb ≠ k := fun e => by rw [e, hBk] at z2; cases z2
      rw [← hBe, upd_ne z3] at z2
      exact z2
    generalize upd H3 nb (.dK (dct S.cols fun c => V.ref (fb c))) = H4 at s4 f4 nb4
    have hn4 := s4 _ _ hln
    refine ⟨_, rfl, _, rfl, kn, _, rfl, DPut.k (k := .inr z) hn4 (by rw [dct_len, List.length_take]; omega), ?_⟩
    rw [dct_put hzt, ← take_snoc hz]
    refine ⟨by rw [upd_ne hpn.symm]; exact s4 _ _ hl2, ?_⟩
    rw [upd_comm hpn]
    have s5 : Same H2' (upd H4 (ka z) (.dK (dct S.cols fun y => .ref (fa y)))) := lock_same hpa s4
    have hn5 : upd H4 (ka z) (.dK (dct S.cols fun y => .ref (fa y))) kn = some (.dK (dct (S.kinds.take i) fun x => .ref (kb x))) := by rw [upd_ne hpn]; exact hn4
    have t5 : TI H4 (upd H4 (ka z) (.dK (dct S.cols fun y => .ref (fa y)))) := TI.updF (s4 _ _ hl2)
    have nb5 : upd H4 (ka z) (.dK (dct S.cols fun y => .ref (fa y))) nb = some (.dK (dct S.cols fun c => V.ref (fb c))) := by rw [upd_ne hnba]; exact nb4
    generalize upd H4 (ka z) (.dK (dct S.cols fun y => .ref (fa y))) = H5 at s5 hn5 t5 nb5
    have t6 : TI H5 (upd H5 kn (.dK (dct (S.kinds.take (i + 1)) fun x => if x = z then .ref nb else .ref (kb x)))) := TI.updD hn5
    refine ⟨(same_trans s2 s5).put hBkn, fun x => if x = z then nb else kb x, _, _, _, rfl, ?_, fun x hx => ?_⟩
    · rw [upd_same]
      congr 2
      exact dct_congr fun x _ => by show _ = V.ref (if x = z then nb else kb x); split <;> rfl
    · rw [take_snoc hz] at hx
      show H (if x = z then nb else kb x) = none ∧ (if x = z then nb else kb x) ≠ kn ∧ ∃ fb : Str → Addr, upd H5 kn _ (if x = z then nb else kb x) = some (.dK (dct S.cols fun y => .ref (fb y))) ∧ ∀ y ∈ S.cols, ∃ l, IsFm K (upd H5 kn _) (S.fm x y) (fb y) l
      by_cases hxz : x = z
      · rw [if_pos hxz, hxz]
        exact ⟨hnbH, hnbn, fb, by rw [upd_ne hnbn]; exact nb5, fun y hy => let ⟨l, e⟩ := f4 y hy; ⟨l, (e.ti t5).ti t6⟩⟩
      · rw [if_neg hxz]
        rcases List.mem_append.mp hx with hx | hx
        · obtain ⟨h1, h2, fb', h3, h4⟩ := hkb x hx
          exact ⟨h1, h2, fb', by rw [upd_ne h2]; exact s5 _ _ h3, fun y hy => let ⟨l, e⟩ := h4 y hy; ⟨l, (e.up s5).ti t6⟩⟩
        · exact absurd (List.mem_singleton.mp hx) hxz
  · rintro σ H2 ⟨s2, kb, c2, c3, c4, rfl, hn2, hkb⟩
    rw [dct_len, List.take_length] at hn2 hkb
    refine ⟨s2 _ _ hBk, ?_⟩
    have s3 : Same H (upd H2 k (.dK (dct S.kinds fun x => V.ref (ka x)))) := lock_same mk (by rw [hBe]; exact s2)
    have t3 : TI H2 (upd H2 k (.dK (dct S.kinds fun x => V.ref (ka x)))) := TI.updF (s2 _ _ hBk)
    have hn3 : upd H2 k (.dK (dct S.kinds fun x => V.ref (ka x))) kn = some (.dK (dct S.kinds fun x => .ref (kb x))) := by rw [upd_ne hknk]; exact hn2
    have k3 : ∀ x ∈ S.kinds, ∃ fb : Str → Addr, upd H2 k (.dK (dct S.kinds fun x => V.ref (ka x))) (kb x) = some (.dK (dct S.cols fun y => .ref (fb y))) ∧ ∀ y ∈ S.cols, ∃ l, IsFm K (upd H2 k (.dK (dct S.kinds fun x => V.ref (ka x)))) (S.fm x y) (fb y) l := fun x hx => by
      obtain ⟨h1, h2, fb, h3, h4⟩ := hkb x hx
      have hne : kb x ≠ k := (ne_of_none mk h1).symm
      exact ⟨fb, by rw [upd_ne hne]; exact h3, fun y hy => let ⟨l, e⟩ := h4 y hy; ⟨l, e.ti t3⟩⟩
    generalize upd H2 k (.dK (dct S.kinds fun x => V.ref (ka x))) = H3 at s3 hn3 k3
    have hmd3 := s3 _ _ hmd
    refine ⟨_, rfl, md, .int S.m, rfl, .inl ⟨_, .inr "modulus", .inl hmd3, rfl, (by rfl)⟩, _, rfl, md, .ref c, rfl, .inl ⟨_, .inr "columns", .inl hmd3, rfl, (by rfl)⟩, _, rfl, md, .ref t, rfl, .inl ⟨_, .inr "top", .inl hmd3, rfl, (by rfl)⟩, _, rfl, _, rfl, md, .ref p, rfl, .inl ⟨_, .inr "plan", .inl hmd3, rfl, (by rfl)⟩, fun x dx hx hdx hne => ?_⟩
    have s4 : Same H3 (upd (upd H3 dx (.own x)) x (.ins (ga K "Sheet") dx [])) := same_trans (Same.new hdx) (Same.new (by rw [upd_ne hne.symm]; exact hx))
    have s34 := same_trans s3 s4
    refine ⟨x, dx, S, c, t, kn, p, rfl, ok, upd_same, ⟨s34 _ _ mc, s34 _ _ mt, ⟨kb, s4 _ _ hn3, fun x hx => ?_⟩, rs, s34 _ _ mp, Paired.mapP mpr fun a r e => s34 _ _ e⟩, fun H' sb hS => ⟨rfl, hq H' x (same_trans s3 (SB.made hx hdx sb)) hS⟩⟩
    obtain ⟨fb, h1, h2⟩ := k3 x hx
    exact ⟨fb, s4 _ _ h1, fun y hy => let ⟨l, e⟩ := h2 y hy; ⟨l, e.up s4⟩⟩
end
end Bn
/-! W29: the law's own working out. -/
namespace Bn
open PySem PySem.Spec PyProof.Rows L2 StX
open He (ga ma)
section
variable {w : World} {K : Fr} {mg : Str → Option Value} {base : Heap}
def pLJn : Pr := fun vs H Q => ∃ (o : O2) (m x y : Int), vs = [.int m, .str (oW o), .int x, .int y] ∧ 0 < m ∧ Q (.int (jn m o x y)) H
theorem k_law_joined (G : GD K mg) : Keeps PP w K mg base 1 (ga K "_law_joined") pLJn := by
  obtain ⟨fd, F⟩ := fd_law_joined G
  refine kp_fnN (k := 0) F sc_law_joined (fun _ _ _ _ _ _ us hl => match us, hl with | [_, _, _, _], _ => rfl) (by rintro _ _ _ ⟨o, m, x, y, rfl, _⟩; rfl) fun cdv A outer s H vs Q E hr hp => ?_
  obtain ⟨o, m, x, y, rfl, hm, hq⟩ := hp
  refine ⟨_, pss_cons (ps_if (pt_cmpR op_eq (pv 1) pe_str (nomark _)) (pss_one (ps_ret (pe_op op_mod (pe_callTy call_int1 (by rfl) (gf_int G) rfl (pa_cons (pe_op op_add (pv 2) (pv 3)) pa_nil)) (pv 0)))) pss_nil)
    (pss_cons (ps_if (pt_cmpR op_eq (pv 1) pe_str (nomark _)) (pss_one (ps_ret (pe_callTy call_int1 (by rfl) (gf_int G) rfl (pa_cons (pe_cmpR op_eq (pv 2) (pv 3) (nomark _)) pa_nil)))) pss_nil)
    (pss_one (ps_ret (pe_ifExp (pt_cmpR op_eq (pv 1) pe_str (nomark _)) (pe_callB (call_min2 rfl) (by rfl) (gf_min G) rfl (pa_cons (pv 2) (pa_cons (pv 3) pa_nil))) (pe_callB (call_max2 rfl) (by rfl) (gf_max G) rfl (pa_cons (pv 2) (pa_cons (pv 3) pa_nil))))))), ?_⟩
  match o, hq with
  | .plus, hq => exact ⟨_, rfl, rfl, _, rfl, ifT (by decide +kernel) ⟨_, rfl, _, rfl, _, _, rfl, rfl, .inl ⟨_, rfl, _, rfl, _, _, rfl, rfl, hm, hq⟩⟩⟩
  | .same, hq =>
    refine ⟨_, rfl, rfl, _, rfl, ifF (by decide +kernel) ⟨_, rfl, rfl, _, rfl, ifT (by decide +kernel) ⟨_, rfl, _, rfl, rfl, .inr ⟨_, rfl, ?_⟩⟩⟩⟩
    have e : jn m .same x y = if x = y then 1 else 0 := rfl
    rw [e] at hq
    by_cases h : x = y
    · rw [if_pos h] at hq
      rw [if_pos (by simp [h])]
      exact hq
    · rw [if_neg h] at hq
      rw [if_neg (by simp [h])]
      exact hq
  | .least, hq => exact ⟨_, rfl, rfl, _, rfl, ifF (by decide +kernel) ⟨_, rfl, rfl, _, rfl, ifF (by decide +kernel) ⟨_, rfl, rfl, _, rfl, ifT (by decide +kernel) ⟨_, rfl, _, rfl, _, _, rfl, hq⟩⟩⟩⟩
  | .most, hq => exact ⟨_, rfl, rfl, _, rfl, ifF (by decide +kernel) ⟨_, rfl, rfl, _, rfl, ifF (by decide +kernel) ⟨_, rfl, rfl, _, rfl, ifF (by decide +kernel) ⟨_, rfl, _, rfl, _, _, rfl, hq⟩⟩⟩⟩
def pLWk (n : Nat) : Pr := fun vs H Q => ∃ (a : Addr) (f : Fm) (m : Int) (ab ow be : Addr) (E : Ev), vs = [.int m, .ref a, .ref ab, .ref ow, .ref be] ∧ IsMd H f a ∧ f.depth < n ∧ 0 < m ∧ IsRow H ab (E .up) ∧ IsRow H ow (E .here) ∧ IsRow H be (E .down) ∧
  ∀ H' t nd, Same H H' → H' t = some (.tup [oe (f.ev m E), nd]) → Q (.ref t) H'
theorem k_law_worked (G : GD K mg) : ∀ n : Nat, Keeps PP w K mg base (n + 2) (ga K "_law_worked") (pLWk n)
  | 0 => by
    obtain ⟨fd, F⟩ := fd_law_worked G
    refine kp_fnN (k := 1) F sc_law_worked (fun _ _ _ _ _ _ us hl => match us, hl with | [_, _, _, _, _], _ => rfl) (by rintro _ _ _ ⟨a, f, m, ab, ow, be, E, rfl, _⟩; rfl) fun cdv A outer s H vs Q E hr hp => ?_
    obtain ⟨a, f, m, ab, ow, be, E', rfl, hf, hd, _⟩ := hp
    omega
  | n + 1 => by
    have ih := k_law_worked G n
    obtain ⟨fd, F⟩ := fd_law_worked G
    refine kp_fnN (k := n + 2) F sc_law_worked (fun _ _ _ _ _ _ us hl => match us, hl with | [_, _, _, _, _], _ => rfl) (by rintro _ _ _ ⟨a, f, m, ab, ow, be, E, rfl, _⟩; rfl) fun cdv A outer s H vs Q E hr hp => ?_
    obtain ⟨a, f, m, ab, ow, be, E', rfl, hf, hd, hm, hu, ho, hb, hq⟩ := hp
    have nd := sc_law_worked.nd
    have D0 : DefR PP w K mg base (n + 2) "_law_worked" (pLWk n) := ⟨_, gg_law_worked G, gk_law_worked G, ih⟩
    have D1 : DefR PP w K mg base (n + 2) "_law_joined" pLJn := ⟨_, gg_law_joined G, gk_law_joined G, (k_law_joined G).mono (by omega)⟩
    have huu := hu_of hr.r
    refine ⟨_, pss_cons (ps_if (pt_cmpR op_eq (pe_ix ix_tup (pv 1) pe_int (fun _ _ => rfl)) pe_str (nomark _)) (pss_one (ps_ret (pe_tup (pa_cons (pe_ix ix_tup (pv 1) pe_int (fun _ _ => rfl)) (pa_cons pe_non pa_nil))))) pss_nil)
      (pss_cons (ps_if (pt_cmpR op_in_seq (pe_ix ix_tup (pv 1) pe_int (fun _ _ => rfl)) (pe_tup (pa_cons pe_str (pa_cons pe_str (pa_cons pe_str pa_nil)))) rfl)
        (pss_cons (ps_set (i := 5) nd rfl (.inl rfl) (pe_ifExp (pt_cmpR op_eq (pe_ix ix_tup (pv 1) pe_int (fun _ _ => rfl)) pe_str (nomark _)) (pv 3) (pe_ifExp (pt_cmpR op_eq (pe_ix ix_tup (pv 1) pe_int (fun _ _ => rfl)) pe_str (nomark _)) (pv 2) (pv 4))))
        (pss_cons (ps_set (i := 6) nd rfl (.inl rfl) (pe_dget2 huu (pv 5) (pe_ix ix_tup (pv 1) pe_int (fun _ _ => rfl)) pe_non ⟨rfl, rfl, rfl, rfl⟩))
        (pss_one (ps_ret (pe_tup (pa_cons (pv 6) (pa_cons (pe_ifExp (pt_cmp (pc_isN (pv 6))) (pe_tup (pa_cons (pe_ix ix_tup (pv 1) pe_int (fun _ _ => rfl)) (pa_cons (pe_ix ix_tup (pv 1) pe_int (fun _ _ => rfl)) pa_nil))) pe_non) pa_nil))))))) pss_nil)
      (pss_cons (ps_set (i := 7) nd rfl (.inl rfl) (pe_d D0 hr (by rfl) (pa_cons (pv 0) (pa_cons (pe_ix ix_tup (pv 1) pe_int (fun _ _ => rfl)) (pa_cons (pv 2) (pa_cons (pv 3) (pa_cons (pv 4) pa_nil)))))))
      (pss_cons (ps_if (pt_cmp (pc_isN (pe_ix ix_tup (pv 7) pe_int (fun _ _ => rfl)))) (pss_one (ps_ret (pv 7))) pss_nil)
      (pss_cons (ps_if (pt_cmpR op_eq (pe_ix ix_tup (pv 1) pe_int (fun _ _ => rfl)) pe_str (nomark _))
        (pss_one (ps_ret (pe_d D0 hr (by rfl) (pa_cons (pv 0) (pa_cons (pe_ifExp (pt_cmpR op_in_seq (pe_ix ix_tup (pv 7) pe_int (fun _ _ => rfl)) (pe_ix ix_tup (pv 1) pe_int (fun _ _ => rfl)) rfl) (pe_ix ix_tup (pv 1) pe_int (fun _ _ => rfl)) (pe_ix ix_tup (pv 1) pe_int (fun _ _ => rfl))) (pa_cons (pv 2) (pa_cons (pv 3) (pa_cons (pv 4) pa_nil)))))))) pss_nil)
      (pss_cons (ps_set (i := 8) nd rfl (.inl rfl) (pe_d D0 hr (by rfl) (pa_cons (pv 0) (pa_cons (pe_ix ix_tup (pv 1) pe_int (fun _ _ => rfl)) (pa_cons (pv 2) (pa_cons (pv 3) (pa_cons (pv 4) pa_nil)))))))
      (pss_cons (ps_if (pt_cmp (pc_isN (pe_ix ix_tup (pv 8) pe_int (fun _ _ => rfl)))) (pss_one (ps_ret (pv 8))) pss_nil)
      (pss_one (ps_ret (pe_tup (pa_cons (pe_d D1 hr (by rfl) (pa_cons (pv 0) (pa_cons (pe_ix ix_tup (pv 1) pe_int (fun _ _ => rfl)) (pa_cons (pe_ix ix_tup (pv 7) pe_int (fun _ _ => rfl)) (pa_cons (pe_ix ix_tup (pv 8) pe_int (fun _ _ => rfl)) pa_nil))))) (pa_cons pe_non pa_nil))))))))))), ?_⟩
    match f, hf, hd, hq with
    | .num v, hf, _, hq =>
      have hf : H a = some (.tup [.str "number", .int v]) := hf
      refine ⟨_, rfl, a, _, 0, _, rfl, rfl, .of hf, rfl, rfl, _, rfl, ifT (by decide +kernel) ?_⟩
      exact ⟨_, rfl, a, _, 1, _, rfl, rfl, .of hf, rfl, (by show 2 ≤ sizeLine; decide), fun t ht => hq _ t .non (Same.new ht) upd_same⟩
    | .ref wh c, hf, _, hq =>
      have hf : H a = some (.tup [.str (wS wh), .str c]) := hf
      refine ⟨_, rfl, a, _, 0, _, rfl, rfl, .of hf, rfl, rfl, _, rfl, ifF (wS_no wh _ (.inl rfl)) ?_⟩
      refine ⟨_, rfl, a, _, 0, _, rfl, rfl, .of hf, rfl, (by show 3 ≤ sizeLine; decide), fun t ht => ⟨t, _, rfl, .inr (.of upd_same), rfl, rfl, _, rfl, ifT (wS_in wh) ?_⟩⟩
      have s1 := Same.new (o := .tup [.str "here", .str "up", .str "down"]) ht
      generalize upd H t (.tup [.str "here", .str "up", .str "down"]) = H1 at s1
      have hf1 := s1 _ _ hf
      have go : ∀ (x : V) (H2 : Hp), Same H1 H2 → x = oi (E' wh c) → (decide (x = V.non) = true → ∀ p2, H2 p2 = none → ∀ q, upd H2 p2 (.tup [.str (wS wh), .str c]) q = none → Q (.ref q) (upd (upd H2 p2 (.tup [.str (wS wh), .str c])) q (.tup [x, .ref p2]))) ∧ (decide (x = V.non) = false → ∀ q, H2 q = none → Q (.ref q) (upd H2 q (.tup [x, .non]))) := fun x H2 s2 hx => by
        subst hx
        have e : oe ((Fm.ref wh c).ev m E') = oi (E' wh c) := oe_ref
        refine ⟨fun _ p2 hp2 q hq2 => ?_, fun _ q hq2 => ?_⟩
        · refine hq _ q (.ref p2) (same_trans s1 (same_trans s2 (same_trans (Same.new hp2) (Same.new hq2)))) ?_
          rw [upd_same, e]
        · refine hq _ q .non (same_trans s1 (same_trans s2 (Same.new hq2))) ?_
          rw [upd_same, e]
      have tail : ∀ (rw_ : Addr) (r : Str → Option Int), IsRow H1 rw_ r → r c = E' wh c → ∃ kvs, H1 rw_ = some (.dK kvs) ∧ (valV kvs (.inr c)).getD .non = oi (E' wh c) := fun rw_ r ⟨kvs, h1, h2⟩ e => ⟨kvs, h1, by rw [h2 c, e]⟩
      match wh, hf1, go, tail with
      | .here, hf1, go, tail =>
        obtain ⟨kvs, h1, h2⟩ := tail ow _ (ho.up s1) rfl
        refine ⟨_, rfl, a, _, 0, _, rfl, rfl, .of hf1, rfl, rfl, _, rfl, ifT (by decide +kernel) ⟨_, rfl, ?_⟩⟩
        refine ⟨_, rfl, _, rfl, .inl ⟨kvs, .inl h1⟩, _, rfl, a, _, 1, _, rfl, rfl, .of hf1, rfl, _, .inl ⟨kvs, .inr c, .inl h1, rfl, rfl⟩, ?_⟩
        obtain ⟨g1, g2⟩ := go _ H1 (Same.refl _) h2
        exact ⟨_, rfl, _, rfl, _, rfl, ifB (fun hb => ⟨_, rfl, a, _, 0, _, rfl, rfl, .of hf1, rfl, _, rfl, a, _, 1, _, rfl, rfl, .of hf1, rfl, (by show 2 ≤ sizeLine; decide), fun p2 hp2 => ⟨(by show 2 ≤ sizeLine; decide), fun q hq2 => g1 hb p2 hp2 q hq2⟩⟩) (fun hb => ⟨(by show 2 ≤ sizeLine; decide), fun q hq2 => g2 hb q hq2⟩)⟩
      | .up, hf1, go, tail =>
        obtain ⟨kvs, h1, h2⟩ := tail ab _ (hu.up s1) rfl
        refine ⟨_, rfl, a, _, 0, _, rfl, rfl, .of hf1, rfl, rfl, _, rfl, ifF (by decide +kernel) ⟨_, rfl, a, _, 0, _, rfl, rfl, .of hf1, rfl, rfl, _, rfl, ifT (by decide +kernel) ⟨_, rfl, ?_⟩⟩⟩
        refine ⟨_, rfl, _, rfl, .inl ⟨kvs, .inl h1⟩, _, rfl, a, _, 1, _, rfl, rfl, .of hf1, rfl, _, .inl ⟨kvs, .inr c, .inl h1, rfl, rfl⟩, ?_⟩
        obtain ⟨g1, g2⟩ := go _ H1 (Same.refl _) h2
        exact ⟨_, rfl, _, rfl, _, rfl, ifB (fun hb => ⟨_, rfl, a, _, 0, _, rfl, rfl, .of hf1, rfl, _, rfl, a, _, 1, _, rfl, rfl, .of hf1, rfl, (by show 2 ≤ sizeLine; decide), fun p2 hp2 => ⟨(by show 2 ≤ sizeLine; decide), fun q hq2 => g1 hb p2 hp2 q hq2⟩⟩) (fun hb => ⟨(by show 2 ≤ sizeLine; decide), fun q hq2 => g2 hb q hq2⟩)⟩
      | .down, hf1, go, tail =>
        obtain ⟨kvs, h1, h2⟩ := tail be _ (hb.up s1) rfl
        refine ⟨_, rfl, a, _, 0, _, rfl, rfl, .of hf1, rfl, rfl, _, rfl, ifF (by decide +kernel) ⟨_, rfl, a, _, 0, _, rfl, rfl, .of hf1, rfl, rfl, _, rfl, ifF (by decide +kernel) ⟨_, rfl, ?_⟩⟩⟩
        refine ⟨_, rfl, _, rfl, .inl ⟨kvs, .inl h1⟩, _, rfl, a, _, 1, _, rfl, rfl, .of hf1, rfl, _, .inl ⟨kvs, .inr c, .inl h1, rfl, rfl⟩, ?_⟩
        obtain ⟨g1, g2⟩ := go _ H1 (Same.refl _) h2
        exact ⟨_, rfl, _, rfl, _, rfl, ifB (fun hb => ⟨_, rfl, a, _, 0, _, rfl, rfl, .of hf1, rfl, _, rfl, a, _, 1, _, rfl, rfl, .of hf1, rfl, (by show 2 ≤ sizeLine; decide), fun p2 hp2 => ⟨(by show 2 ≤ sizeLine; decide), fun q hq2 => g1 hb p2 hp2 q hq2⟩⟩) (fun hb => ⟨(by show 2 ≤ sizeLine; decide), fun q hq2 => g2 hb q hq2⟩)⟩
    | .cho t ch x y, hf, hd, hq =>
      obtain ⟨at_, ac, ax, ay, hf, hch, ht, hx, hy⟩ := hf
      unfold Fm.depth at hd
      refine ⟨_, rfl, a, _, 0, _, rfl, rfl, .of hf, rfl, rfl, _, rfl, ifF (by decide +kernel) ?_⟩
      refine ⟨_, rfl, a, _, 0, _, rfl, rfl, .of hf, rfl, (by show 3 ≤ sizeLine; decide), fun tt htt => ⟨tt, _, rfl, .inr (.of upd_same), rfl, rfl, _, rfl, ifF ch_in ?_⟩⟩
      have s1 := Same.new (o := .tup [.str "here", .str "up", .str "down"]) htt
      generalize upd H tt (.tup [.str "here", .str "up", .str "down"]) = H1 at s1
      refine ⟨_, rfl, _, rfl, a, _, 1, _, rfl, rfl, .of (s1 _ _ hf), rfl, _, rfl, _, rfl, _, rfl, at_, t, m, ab, ow, be, E', rfl, ht.up s1, by omega, hm, hu.up s1, ho.up s1, hb.up s1, fun H2 t1 n1 s2 e1 => ?_⟩
      have s12 := same_trans s1 s2
      refine ⟨_, rfl, t1, _, 0, _, rfl, rfl, .of e1, rfl, _, rfl, ?_⟩
      cases het : t.ev m E' with
      | error g =>
        rw [het] at e1
        refine ifT rfl ⟨_, rfl, hq H2 t1 n1 s12 ?_⟩
        rw [(cho_err het).1]
        exact e1
      | ok i1 =>
        rw [het] at e1
        obtain ⟨z1, z2⟩ := cho_ok (ch := ch) (x := x) (y := y) het
        refine ifF rfl ⟨_, rfl, a, _, 0, _, rfl, rfl, .of (s12 _ _ hf), rfl, rfl, _, rfl, ifT (by decide +kernel) ?_⟩
        refine ⟨_, rfl, _, rfl, t1, _, 0, _, rfl, rfl, .of e1, rfl, _, rfl, a, _, 2, _, rfl, rfl, .of (s12 _ _ hf), rfl, ac, _, rfl, .inr (.of (s12 _ _ hch)), rfl, flat_ints, _, rfl, ifB (fun hin => ?_) (fun hin => ?_)⟩
        · have hin : i1 ∈ ch := of_decide_eq_true ((inV_ints (x := i1) (xs := ch)).symm.trans hin)
          refine ⟨_, rfl, a, _, 3, _, rfl, rfl, .of (s12 _ _ hf), rfl, _, rfl, _, rfl, _, rfl, ax, x, m, ab, ow, be, E', rfl, hx.up s12, by omega, hm, hu.up s12, ho.up s12, hb.up s12, fun H3 t2 n2 s3 e2 => hq H3 t2 n2 (same_trans s12 s3) ?_⟩
          rw [(z1 hin).1]
          exact e2
        · have hin : i1 ∉ ch := of_decide_eq_false ((inV_ints (x := i1) (xs := ch)).symm.trans hin)
          refine ⟨_, rfl, a, _, 4, _, rfl, rfl, .of (s12 _ _ hf), rfl, _, rfl, _, rfl, _, rfl, ay, y, m, ab, ow, be, E', rfl, hy.up s12, by omega, hm, hu.up s12, ho.up s12, hb.up s12, fun H3 t2 n2 s3 e2 => hq H3 t2 n2 (same_trans s12 s3) ?_⟩
          rw [(z2 hin).1]
          exact e2
    | .pair o x y, hf, hd, hq =>
      obtain ⟨ax, ay, hf, hx, hy⟩ := hf
      unfold Fm.depth at hd
      refine ⟨_, rfl, a, _, 0, _, rfl, rfl, .of hf, rfl, rfl, _, rfl, ifF (oW_no o _ (.inl rfl)) ?_⟩
      refine ⟨_, rfl, a, _, 0, _, rfl, rfl, .of hf, rfl, (by show 3 ≤ sizeLine; decide), fun tt htt => ⟨tt, _, rfl, .inr (.of upd_same), rfl, rfl, _, rfl, ifF (oW_in o) ?_⟩⟩
      have s1 := Same.new (o := .tup [.str "here", .str "up", .str "down"]) htt
      generalize upd H tt (.tup [.str "here", .str "up", .str "down"]) = H1 at s1
      refine ⟨_, rfl, _, rfl, a, _, 1, _, rfl, rfl, .of (s1 _ _ hf), rfl, _, rfl, _, rfl, _, rfl, ax, x, m, ab, ow, be, E', rfl, hx.up s1, by omega, hm, hu.up s1, ho.up s1, hb.up s1, fun H2 t1 n1 s2 e1 => ?_⟩
      have s12 := same_trans s1 s2
      refine ⟨_, rfl, t1, _, 0, _, rfl, rfl, .of e1, rfl, _, rfl, ?_⟩
      cases hex : x.ev m E' with
      | error g =>
        rw [hex] at e1
        refine ifT rfl ⟨_, rfl, hq H2 t1 n1 s12 ?_⟩
        rw [(pair_err hex).1]
        exact e1
      | ok i1 =>
        rw [hex] at e1
        obtain ⟨z1, z2, z3⟩ := pair_ok (o := o) (y := y) hex
        refine ifF rfl ⟨_, rfl, a, _, 0, _, rfl, rfl, .of (s12 _ _ hf), rfl, rfl, _, rfl, ifF (oW_no o _ (.inr rfl)) ?_⟩
        refine ⟨_, rfl, _, rfl, a, _, 2, _, rfl, rfl, .of (s12 _ _ hf), rfl, _, rfl, _, rfl, _, rfl, ay, y, m, ab, ow, be, E', rfl, hy.up s12, by omega, hm, hu.up s12, ho.up s12, hb.up s12, fun H3 t2 n2 s3 e2 => ?_⟩
        have s13 := same_trans s12 s3
        refine ⟨_, rfl, t2, _, 0, _, rfl, rfl, .of e2, rfl, _, rfl, ?_⟩
        cases hey : y.ev m E' with
        | error g =>
          rw [hey] at e2
          refine ifT rfl ⟨_, rfl, hq H3 t2 n2 s13 ?_⟩
          rw [z2 g hey]
          exact e2
        | ok j1 =>
          rw [hey] at e2
          refine ifF rfl ⟨_, rfl, _, rfl, a, _, 0, _, rfl, rfl, .of (s13 _ _ hf), rfl, _, rfl, t1, _, 0, _, rfl, rfl, .of (s3 _ _ e1), rfl, _, rfl, t2, _, 0, _, rfl, rfl, .of e2, rfl, o, m, i1, j1, rfl, hm, (by show 2 ≤ sizeLine; decide), fun q hq2 => ?_⟩
          refine hq _ q .non (same_trans s13 (Same.new hq2)) ?_
          rw [z3 j1 hey, upd_same]
          rfl
def pBeside : Pr := fun vs H Q => ∃ (md rw_ t : Addr) (rs : List Addr) (S : Sm) (c k p : Addr) (i : Nat), vs = [.ref md, .ref rw_, .int (i : Nat), .non] ∧ H md = some (.dK (moKv S c t k p)) ∧ H rw_ = some (.lst (rs.map V.ref)) ∧ i < rs.length ∧
  ∀ (H' : Hp) (q ab be : Addr), Same H H' → H' q = some (.tup [.ref ab, .ref be]) → (0 < i → rs[i - 1]? = some ab) → (i = 0 → ab = t) → (i + 1 < rs.length → rs[i + 1]? = some be) → (i + 1 = rs.length → H' be = some (.dK [])) → Q (.ref q) H'
theorem k_law_beside (G : GD K mg) : Keeps PP w K mg base 1 (ga K "_law_beside") pBeside := by
  obtain ⟨fd, F⟩ := fd_law_beside G
  refine kp_fnN (k := 0) F sc_law_beside (fun _ _ _ _ _ _ us hl => match us, hl with | [_, _, _, _], _ => rfl) (by rintro _ _ _ ⟨md, rw_, t, rs, S, c, k, p, i, rfl, _⟩; rfl) fun cdv A outer s H vs Q E hr hp => ?_
  obtain ⟨md, rw_, t, rs, S, c, k, p, i, rfl, hmd, hrw, hi, hq⟩ := hp
  have nd := sc_law_beside.nd
  have hu := hu_of hr.r
  refine ⟨_, C8.pss_cut (ps_set (i := 4) nd rfl (.inl rfl) (pe_ifExp (pt_cmpR op_gt (pv 2) pe_int (nomark _)) (pe_ix ix_list (pv 1) (pe_op op_sub (pv 2) pe_int) (fun _ _ => rfl)) (pe_dget hu (pv 0) pe_str (fun _ _ => rfl))))
    (C8.pss_cut (ps_set (i := 5) nd rfl (.inl rfl) (pe_ifExp (pt_cmpR op_lt (pe_op op_add (pv 2) pe_int) (pe_callB call_len_seq (by rfl) (gf_len G) rfl (pa_cons (pv 1) pa_nil)) (nomark _)) (pe_ix ix_list (pv 1) (pe_op op_add (pv 2) pe_int) (fun _ _ => rfl)) (pv 3)))
    (pss_one (ps_ret (pe_tup (pa_cons (pv 4) (pa_cons (pe_ifExp (pt_cmp (pc_isN (pv 5))) pe_dnewK (pv 5)) pa_nil)))))), ?_⟩
  refine ⟨fun σ' H' => H' = H ∧ ∃ ab, σ' = [some (.ref md), some (.ref rw_), some (.int (i : Nat)), some .non, some (.ref ab), none] ∧ (0 < i → rs[i - 1]? = some ab) ∧ (i = 0 → ab = t), ?_, ?_⟩
  · refine ⟨_, rfl, _, _, rfl, rfl, _, rfl, ifB (fun hb => ?_) (fun hb => ?_)⟩
    · have hb := of_decide_eq_true hb
      have hi1 : i - 1 < rs.length := by omega
      refine ⟨_, rfl, _, rfl, _, _, rfl, rfl, rw_, _, _, .ref rs[i - 1], rfl, rfl, .of hrw, at_of (j := i - 1) (by omega) (by rw [List.getElem?_map, List.getElem?_eq_getElem hi1]; rfl), rfl, _, rfl, fun _ => List.getElem?_eq_getElem hi1, fun h => by omega⟩
    · have hb := of_decide_eq_false hb
      exact ⟨_, rfl, md, .ref t, rfl, .inl ⟨_, .inr "top", .inl hmd, rfl, (by rfl)⟩, rfl, _, rfl, fun h => by omega, fun _ => rfl⟩
  rintro σ H1 ⟨rfl, ab, rfl, h1, h2⟩
  refine ⟨fun σ' H' => H' = H1 ∧ ∃ y : V, σ' = [some (.ref md), some (.ref rw_), some (.int (i : Nat)), some .non, some (.ref ab), some y] ∧ (i + 1 < rs.length → ∃ be, y = .ref be ∧ rs[i + 1]? = some be) ∧ (i + 1 = rs.length → y = .non), ?_, ?_⟩
  · refine ⟨_, rfl, _, _, rfl, rfl, _, rfl, rw_, _, rfl, .inl (.of hrw), _, _, rfl, rfl, _, rfl, ifB (fun hb => ?_) (fun hb => ?_)⟩
    · have hb := of_decide_eq_true hb
      rw [List.length_map] at hb
      have hi1 : i + 1 < rs.length := by omega
      refine ⟨_, rfl, _, rfl, _, _, rfl, rfl, rw_, _, _, .ref rs[i + 1], rfl, rfl, .of hrw, at_of (j := i + 1) (by omega) (by rw [List.getElem?_map, List.getElem?_eq_getElem hi1]; rfl), rfl, _, rfl, fun _ => ⟨_, rfl, List.getElem?_eq_getElem hi1⟩, fun h => by omega⟩
    · have hb := of_decide_eq_false hb
      rw [List.length_map] at hb
      exact ⟨_, rfl, rfl, _, rfl, fun h => by omega, fun _ => rfl⟩
  rintro σ H2 ⟨rfl, y, rfl, h3, h4⟩
  refine ⟨_, rfl, _, rfl, _, rfl, ifB (fun hb => ?_) (fun hb => ?_)⟩
  · have hy : y = .non := of_decide_eq_true hb
    have hn : i + 1 = rs.length := by
      by_cases h : i + 1 < rs.length
      · obtain ⟨be, e, _⟩ := h3 h
        rw [hy] at e
        cases e
      · omega
    refine fun e he => ⟨(by show 2 ≤ sizeLine; decide), fun q hq2 => ?_⟩
    have s1 := Same.new (o := .dK []) he
    have s2 := Same.new (o := .tup [.ref ab, .ref e]) hq2
    exact hq _ q ab e (same_trans s1 s2) upd_same h1 h2 (fun h => by omega) fun _ => s2 _ _ upd_same
  · have hy : y ≠ .non := of_decide_eq_false hb
    have hn : i + 1 < rs.length := by
      by_cases h : i + 1 = rs.length
      · exact absurd (h4 h) hy
      · omega
    obtain ⟨be, rfl, e⟩ := h3 hn
    exact ⟨_, rfl, (by show 2 ≤ sizeLine; decide), fun q hq2 => hq _ q ab be (Same.new hq2) upd_same h1 h2 (fun _ => e) fun h => by omega⟩
end
end Bn
/-! W30: the law's own turns. -/
namespace Bn
open PySem PySem.Spec PyProof.Rows L2 StX
open He (ga ma)
/-- the rows of a cut as the law holds them -/
def RowsT (H : Hp) (rs : List Addr) (cols : List Str) (T : Vn) : Prop := ∀ (i : Nat) (r : Addr), rs[i]? = some r → H r = some (.dK (dct cols fun c => oi (T (((i : Nat) : Int) + 1) c)))
def DueAt (H : Hp) (rw_ : Addr) (cols : List Str) (n : Nat) (T : Vn) : Prop := ∃ rs : List Addr, H rw_ = some (.lst (rs.map V.ref)) ∧ rs.length = n ∧ RowsT H rs cols T
theorem RowsT.up {H H' : Hp} {rs : List Addr} {cols : List Str} {T : Vn} (s : Same H H') (h : RowsT H rs cols T) : RowsT H' rs cols T := fun i r hr => s _ _ (h i r hr)
theorem DueAt.up {H H' : Hp} {rw_ : Addr} {cols : List Str} {n : Nat} {T : Vn} (s : Same H H') (h : DueAt H rw_ cols n T) : DueAt H' rw_ cols n T := let ⟨rs, e, l, q⟩ := h; ⟨rs, s _ _ e, l, q.up s⟩
theorem row_is {H : Hp} {a : Addr} {cols : List Str} {f : Str → Option Int} (h : H a = some (.dK (dct cols fun c => oi (f c)))) (hb : ∀ c, c ∉ cols → f c = none) : IsRow H a f := by
  refine ⟨_, h, fun c => ?_⟩
  rw [valV_dct]
  by_cases hc : c ∈ cols
  · rw [if_pos hc]; rfl
  · rw [if_neg hc, hb c hc]; rfl
theorem dct_set {f : Str → V} {k : Str} {v : V} {l : List Str} (h : k ∈ l) : putK (dct l f) (.inr k) v = dct l fun x => if x = k then v else f x := by
  unfold putK
  rw [if_pos]
  · unfold dct
    rw [List.map_map]
    apply List.map_congr_left
    intro x _
    show (if (Sum.inr x : Key) = Sum.inr k then ((Sum.inr x : Key), v) else (Sum.inr x, f x)) = (Sum.inr x, if x = k then v else f x)
    by_cases e : x = k
    · rw [if_pos (by rw [e]), if_pos e]
    · rw [if_neg (fun z => e (Sum.inr.inj z)), if_neg e]
  · rw [List.any_eq_true]
    exact ⟨_, List.mem_map_of_mem h, by simp⟩
/-- a cell of a row set anew -/
theorem RowsT.set {H : Hp} {rs : List Addr} {cols : List Str} {T : Vn} {i : Nat} {a : Addr} {c : Str} {v : Option Int} (h : RowsT H rs cols T) (hn : rs.Nodup) (hi : rs[i]? = some a) (hc : c ∈ cols) (T' : Vn) (h1 : T' (((i : Nat) : Int) + 1) c = v) (h2 : ∀ r c', (r, c') ≠ (((i : Nat) : Int) + 1, c) → T' r c' = T r c') :
    RowsT (upd H a (.dK (putK (dct cols fun c => oi (T (((i : Nat) : Int) + 1) c)) (.inr c) (oi v)))) rs cols T' := fun j r hj => by
  by_cases e : j = i
  · subst e
    rw [hi] at hj
    cases hj
    rw [upd_same, dct_set hc]
    congr 2
    refine dct_congr fun x _ => ?_
    by_cases hx : x = c
    · rw [if_pos hx, hx, h1]
    · rw [if_neg hx, h2 _ _ (fun z => hx (Prod.ext_iff.mp z).2)]
  · have hne : r ≠ a := fun z => by
      subst z
      obtain ⟨l1, g1⟩ := List.getElem?_eq_some_iff.mp hj
      obtain ⟨l2, g2⟩ := List.getElem?_eq_some_iff.mp hi
      exact e ((List.getElem_inj hn).mp (g1.trans g2.symm))
    rw [upd_ne hne, h j r hj]
    congr 2
    refine dct_congr fun x _ => ?_
    rw [h2 _ _ (fun z => e (by have := (Prod.ext_iff.mp z).1; dsimp only at this; omega))]
theorem pairs_con {H : Hp} {v : V} : ∀ {cs : List Str} {ys : List V}, ys.length = cs.length → (∀ (i : Nat) (y : V), ys[i]? = some y → ∃ c t, cs[i]? = some c ∧ y = .ref t ∧ H t = some (.tup [.str c, v])) →
    ∃ as : List Addr, ys = as.map V.ref ∧ Paired (fun a kv => H a = some (.tup [kV kv.1, kv.2])) as (dct cs fun _ => v)
  | [], [], _, _ => ⟨[], rfl, .nil⟩
  | [], _ :: _, h, _ => by simp at h
  | _ :: _, [], h, _ => by simp at h
  | c :: cs, y :: ys, hl, h => by
    obtain ⟨as, e1, e2⟩ := pairs_con (cs := cs) (ys := ys) (by simpa using hl) fun i z hz => by simpa using h (i + 1) z (by simpa using hz)
    obtain ⟨c', t, f1, rfl, f3⟩ := h 0 y rfl
    cases f1
    exact ⟨t :: as, by rw [e1]; rfl, .cons f3 e2⟩
theorem tYes_if {σ : L2.St} {H : Hp} {A B : Hp → Prop} (h : A H) : tYes σ H fun b H3 => if b = true then A H3 else B H3 := by
  show (if true = true then A H else B H)
  rw [if_pos rfl]
  exact h
section
variable {w : World} {K : Fr} {mg : Str → Option Value} {base : Heap}
def pLCut : Pr := fun vs H Q => ∃ (md wd : Addr) (S : Sm) (ws : List Str), vs = [.ref md, .ref wd, .non] ∧ IsMo H md S ∧ S.Ok ∧ H wd = some (.lst (ws.map V.str)) ∧ (∀ k ∈ ws, k ∈ S.kinds) ∧ ws.length ≤ 16 ∧
  ∀ (H' : Hp) (rw_ : Addr) (T : Vn), Same H H' → H rw_ = none → DueAt H' rw_ S.cols ws.length T → (prb S ws).Good T → (prb S ws).Closed T → Q (.ref rw_) H'
theorem k_law_cut (G : GD K mg) : Keeps PP w K mg base 10 (ga K "_law_cut") pLCut := by
  obtain ⟨fd, F⟩ := fd_law_cut G
  refine kp_fnN (k := 9) F sc_law_cut (fun _ _ _ _ _ _ us hl => match us, hl with | [_, _, _], _ => rfl) (by rintro _ _ _ ⟨md, wd, S, ws, rfl, _⟩; rfl) fun cdv A outer s H vs Q E hr hp => ?_
  obtain ⟨md, wd, S, ws, rfl, ⟨c, t, k, p, hmd, hM⟩, ok, hwd, hk, hlen, hq⟩ := hp
  have nd := sc_law_cut.nd
  have hs := sizeLine_eq
  have hu := hu_of hr.r
  have wf := prb_wf ok hk
  have D1 : DefR PP w K mg base 9 "_law_beside" pBeside := ⟨_, gg_law_beside G, gk_law_beside G, (k_law_beside G).mono (by omega)⟩
  have D2 : DefR PP w K mg base 9 "_law_worked" (pLWk 7) := ⟨_, gg_law_worked G, gk_law_worked G, k_law_worked G 7⟩
  refine ⟨_, pss_cons (ps_setLc (i := 3) (own := [("_law_kind", 12)]) (g := gName 12) (tt := tYes) (te := tCB (fun xs H Q => ∃ (a : Addr) (ps : List Addr) (kvs : List (Key × V)), xs = [.ref a] ∧ SqL K H a (ps.map V.ref) ∧ Paired (fun p kv => SqT K H p [kV kv.1, kv.2]) ps kvs ∧ ∀ p, H p = none → Q (.ref p) (upd H p (.dK (mergeK [] kvs)))) (tCons (tLc (iList K (tDGet (tVar 0) (tC (.str "columns")))) (gName 10) tYes (tTup (tCons (tVar 10) (tCons (tC .non) tNil))) [10]) tNil)) rfl nd rfl rfl (sw_true rfl rfl rfl (by decide +kernel)) (pi_list (pv 1)) (blkOk_by (N := N_law_cut) (sc := defScope s_law_cut) (by decide +kernel))
      (fun _ _ _ _ _ => pg_name (i := 12) nd rfl (by first | exact Or.inl rfl | exact Or.inr rfl)) (fun _ _ _ _ _ => pts_nil)
      (fun _ _ _ _ _ => pe_callTy (call_dictP rfl) (by rfl) (gf_dict G) rfl (pa_cons (pe_lc (own := [("_law_column", 10)]) rfl nd (pi_list (pe_dget hu (pv 0) pe_str (fun _ _ => rfl))) (blkOk_by (N := N_law_cut) (sc := rl (cscope (aval ((defBody s_law_cut).getD 0 (.Pass ⟨0, 0, 0, 0⟩)))) (defScope s_law_cut)) (by decide +kernel))
        (fun _ _ _ _ _ => pg_name (i := 10) nd rfl (.inl rfl)) (fun _ _ _ _ _ => pts_nil) (fun _ _ _ _ _ => pe_tup (pa_cons (pv 10) (pa_cons pe_non pa_nil)))) pa_nil)))
    (pss_cons (ps_for PassesOwn.never rfl (pi_range1 (by rfl) (gf_range G) (pa_cons (pe_op op_add (pe_op op_mul (pe_callB call_len_seq (by rfl) (gf_len G) rfl (pa_cons (pv 1) pa_nil)) (pe_callB call_len_seq (by rfl) (gf_len G) rfl (pa_cons (pe_dget hu (pv 0) pe_str (fun _ _ => rfl)) pa_nil))) pe_int) pa_nil)) (pg_name (i := 4) nd rfl (.inl rfl))
      (pss_cons (ps_set (i := 5) nd rfl (.inl rfl) pe_bl)
      (pss_cons (ps_for PassesOwn.never rfl (pi_range3 (by rfl) (gf_range G) (pa_cons (pe_op op_sub (pe_callB call_len_seq (by rfl) (gf_len G) rfl (pa_cons (pv 1) pa_nil)) pe_int) (pa_cons (pe_un un_neg pe_int) (pa_cons (pe_un un_neg pe_int) pa_nil)))) (pg_name (i := 6) nd rfl (.inl rfl))
        (pss_cons (ps_set (i := 7) nd rfl (.inl rfl) (pe_ix ix_list (pv 3) (pv 6) (fun _ _ => rfl)))
        (pss_cons (ps_asg (pe_d D1 hr (by rfl) (pa_cons (pv 0) (pa_cons (pv 3) (pa_cons (pv 6) (pa_cons (pv 2) pa_nil))))) (pg_tup rfl (pgs_cons (pg_name (i := 8) nd rfl (.inl rfl)) (pgs_cons (pg_name (i := 9) nd rfl (.inl rfl)) pgs_nil))))
        (pss_one (ps_for PassesOwn.never rfl (pi_list (pe_dget hu (pv 0) pe_str (fun _ _ => rfl))) (pg_name (i := 10) nd rfl (.inl rfl))
          (pss_one (ps_if (pt_cmp (pc_isN (pe_dget hu (pv 7) (pv 10) (fun _ _ => rfl))))
            (pss_cons (ps_set (i := 11) nd rfl (.inl rfl) (pe_dget hu (pe_dget hu (pe_dget hu (pv 0) pe_str (fun _ _ => rfl)) (pe_ix ix_list (pv 1) (pv 6) (fun _ _ => rfl)) (fun _ _ => rfl)) (pv 10) (fun _ _ => rfl)))
            (pss_cons (ps_dput hu (pv 7) (pv 10) (pe_ix ix_tup (pe_d D2 hr (by rfl) (pa_cons (pe_dget hu (pv 0) pe_str (fun _ _ => rfl)) (pa_cons (pv 11) (pa_cons (pv 8) (pa_cons (pv 7) (pa_cons (pv 9) pa_nil)))))) pe_int (fun _ _ => rfl)) rfl)
            (pss_one (ps_set (i := 5) nd rfl (.inl rfl) (pe_or (pv 5) (pe_one (pe_cmp (pc_notN (pe_dget hu (pv 7) (pv 10) (fun _ _ => rfl))) rfl))))))) pss_nil)))))))
      (pss_one (ps_if (pt_not (pt_val (pv 5))) (pss_one ps_break) pss_nil)))))
    (pss_one (ps_ret (pv 3)))), ?_⟩
  obtain ⟨mc, mt, ⟨ka, mk, mka⟩, _⟩ := hM
  have hc1 := ok.c1
  have hc4 := ok.c4
  -- the rows
  refine ⟨_, rfl, wd, rfl, ⟨_, .of hwd⟩, fun D hD => lc_it (walk_list (a := wd) (xs := ws.map V.str)) (fun j H1 => Same H H1 ∧ ∃ rs : List Addr, H1 D = some (.lst (rs.map V.ref)) ∧ rs.length = j ∧ rs.Nodup ∧ ∀ r ∈ rs, r ≠ D ∧ H r = none ∧ H1 r = some (.dK (dct S.cols fun _ => .non))) ⟨Same.new hD, [], upd_same, rfl, .nil, fun _ h => nomatch h⟩ (fun j H1 _ h => .of (h.1 _ _ hwd)) ?_ ?_⟩
  · rintro j v H1 H1' hj ⟨s1, rs, hD1, hrl, hrn, hrs⟩ ⟨rfl, _⟩
    rw [List.length_map] at hj
    refine ⟨rfl, tYes_if ?_⟩
    refine ⟨_, rfl, md, .ref c, rfl, .inl ⟨_, .inr "columns", .inl (s1 _ _ hmd), rfl, (by rfl)⟩, c, rfl, ⟨_, .of (s1 _ _ mc)⟩, fun D2 hD2 => lc_gr (B := H1') (walk_list (K := K) (a := c) (xs := S.cols.map V.str)) (by rw [List.length_map]; omega) hD2 (fun i y H3 => ∃ z a, S.cols[i]? = some z ∧ y = .ref a ∧ H3 a = some (.tup [.str z, .non])) (fun i y H3 H4 s3 ⟨z, a, h1, h2, h3⟩ => ⟨z, a, h1, h2, s3 _ _ h3⟩) (fun _ _ _ s => .of (s _ _ (s1 _ _ mc))) ?_ ?_⟩
    · rintro l v2 H3 H3' acc hl s3 hD3 ⟨rfl, hv2⟩ Fin hFin
      obtain ⟨z, hz, rfl⟩ := some_map hv2
      refine ⟨rfl, _, rfl, (by show 2 ≤ sizeLine; decide), fun a ha => hFin _ _ (Same.new ha) ⟨z, a, hz, rfl, ?_⟩⟩
      exact dr_of upd_same (Same.new ha _ _ hD3) (fun z => nomatch z)
    intro H3 ys s3 hD3 hl3 hR3
    rw [List.length_map] at hl3
    obtain ⟨as, rfl, hpa⟩ := pairs_con hl3 hR3
    refine ⟨D2, as, _, rfl, .of hD3, Paired.mapP hpa (fun a kv e => .of (dr_le _ _ e)), fun nb hnb => ?_⟩
    rw [merge_dct ok.cn]
    have s4 := same_trans s3 (Same.new (o := .dK (dct S.cols fun _ => .non)) hnb)
    have hD4 := s4 _ _ hD1
    have hnb1 : H1' nb = none := s3.free hnb
    have hnbD : nb ≠ D := (ne_of_none hD1 hnb1).symm
    refine ⟨_, hD4, by rw [List.length_map]; omega, L2.Same.put (same_trans s1 s4) hD, rs ++ [nb], by rw [upd_same, List.map_append]; rfl, by rw [List.length_append, hrl]; rfl, ?_, fun r hr' => ?_⟩
    · rw [List.nodup_append]
      refine ⟨hrn, by simp, fun a ha b hb e => ?_⟩
      cases List.mem_singleton.mp hb
      have := (hrs a ha).2.2
      rw [e, hnb1] at this
      cases this
    · rcases List.mem_append.mp hr' with hr' | hr'
      · obtain ⟨q1, q2, q3⟩ := hrs r hr'
        exact ⟨q1, q2, by rw [upd_ne q1]; exact s4 _ _ q3⟩
      · cases List.mem_singleton.mp hr'
        exact ⟨hnbD, s1.free hnb1, by rw [upd_ne hnbD, upd_same]⟩
  rintro H1 ⟨s1, rs, hD1, hrl, hrn, hrs⟩
  rw [List.length_map] at hrl
  have hrH : ∀ r ∈ rs, H r = none := fun r hr' => (hrs r hr').2.1
  have hrD : ∀ r ∈ rs, r ≠ D := fun r hr' => (hrs r hr').1
  have rt1 : RowsT H1 rs S.cols (prb S ws).start := fun i r hi => by
    rw [(hrs r (List.mem_of_getElem? hi)).2.2]
    have e : (dct S.cols fun _ => V.non) = dct S.cols fun c => oi ((prb S ws).start (((i : Nat) : Int) + 1) c) := dct_congr fun x _ => by
      unfold Prb.start
      rw [if_neg (by omega)]
      rfl
    rw [e]
  clear hrs
  have hNb : ws.length * S.cols.length ≤ 16 * 4 := Nat.mul_le_mul hlen hc4
  have hNz : (ws.length : Int) * (S.cols.length : Int) = ((ws.length * S.cols.length : Nat) : Int) := (Int.natCast_mul _ _).symm
  refine ⟨_, rfl, wd, _, rfl, .inl (.of (s1 _ _ hwd)), _, rfl, md, .ref c, rfl, .inl ⟨_, .inr "columns", .inl (s1 _ _ hmd), rfl, (by rfl)⟩, c, _, rfl, .inl (.of (s1 _ _ mc)), _, _, rfl, rfl, .inl ⟨?_, ?_⟩, _, _, rfl, rfl, _, rfl, ?_, ?_, ?_⟩
  · rw [List.length_map]; omega
  · rw [List.length_map]; omega
  · rw [List.length_map, List.length_map, hNz]; omega
  · rw [List.length_map, List.length_map, hNz]; omega
  rw [List.length_map, List.length_map, hNz]
  refine for_it walk_range (fun i σ H2 => Same H H2 ∧ ∃ (T : Vn) (c4 c5 c6 c7 c8 c9 c10 c11 c12 : Option V), σ = [some (.ref md), some (.ref wd), some .non, some (.ref D), c4, c5, c6, c7, c8, c9, c10, c11, c12] ∧ H2 D = some (.lst (rs.map V.ref)) ∧ RowsT H2 rs S.cols T ∧ (prb S ws).Good T ∧ i ≤ (prb S ws).cnt T)
    ⟨s1, _, none, none, none, none, none, none, none, none, none, rfl, hD1, rt1, Prb.good_start wf, Nat.zero_le _⟩ (fun _ _ _ _ _ => trivial) ?_ ?_
  · rintro i v σ H2 H2' hi ⟨s2, T0, c4, c5, c6, c7, c8, c9, c10, c11, c12, rfl, hD2, rt2, gd, hcnt⟩ ⟨rfl, rfl⟩
    refine ⟨_, rfl, wd, _, rfl, .inl (.of (s2 _ _ hwd)), _, _, rfl, rfl, _, rfl, _, rfl, _, _, -1, ws.length, rfl, ?_, for_it walk_rangeC (fun j σ H3 => Same H H3 ∧ ∃ (T : Vn) (b : Bool) (c6 c7 c8 c9 c10 c11 : Option V), σ = [some (.ref md), some (.ref wd), some .non, some (.ref D), some (.int (0 + ((i : Nat) : Int))), some (.bl b), c6, c7, c8, c9, c10, c11, c12] ∧ H3 D = some (.lst (rs.map V.ref)) ∧ RowsT H3 rs S.cols T ∧ (prb S ws).TI T0 T (fun r _ => (ws.length : Int) - j < r) b)
      ⟨s2, T0, false, _, _, _, _, _, _, rfl, hD2, rt2, (Prb.TI.start gd).imp fun r c hin hd => ?_⟩ (fun _ _ _ _ _ => trivial) ?_ ?_⟩
    · rw [List.length_map]
      have z := RgC.neg (i := (ws.length : Int) - 1) (j := -1) (by omega) (by omega) (by omega) (by omega)
      rw [show ((ws.length : Int) - 1 - -1).toNat = ws.length by omega] at z
      exact z
    · have h2 : r ≤ ws.length := hin.2.1
      have hd : (ws.length : Int) - ((0 : Nat) : Int) < r := hd
      omega
    · rintro j v σ H3 H3' hj ⟨s3, T, b, c6, c7, c8, c9, c10, c11, rfl, hD3, rt3, ti⟩ ⟨rfl, rfl⟩
      obtain ⟨i0, hi0⟩ : ∃ i0 : Nat, ws.length = j + 1 + i0 := ⟨ws.length - j - 1, by omega⟩
      have hat : ((ws.map V.str).length : Int) - 1 + ((j : Nat) : Int) * -1 = ((i0 : Nat) : Int) := by rw [List.length_map]; omega
      dsimp only
      rw [hat]
      have hi0r : i0 < rs.length := by omega
      obtain ⟨ro, hro⟩ : ∃ ro, rs[i0]? = some ro := ⟨_, List.getElem?_eq_getElem hi0r⟩
      obtain ⟨kw, hkw⟩ : ∃ kw, ws[i0]? = some kw := ⟨_, List.getElem?_eq_getElem (by omega)⟩
      have hkk := hk kw (List.mem_of_getElem? hkw)
      obtain ⟨fa, fe1, fe2⟩ := mka kw hkk
      refine ⟨_, rfl, _, rfl, D, _, _, .ref ro, rfl, rfl, .of hD3, at_of (j := i0) rfl (by rw [List.getElem?_map, hro]; rfl), ?_⟩
      refine ⟨_, rfl, _, rfl, _, rfl, _, rfl, md, D, t, rs, S, c, k, p, i0, rfl, s3 _ _ hmd, hD3, hi0r, fun H4 q ab be s4 hq4 g1 g2 g3 g4 => ?_⟩
      refine ⟨q, _, rfl, .of hq4, rfl, _, _, rfl, _, _, rfl, rfl, ?_⟩
      have s34 := same_trans s3 s4
      refine ⟨_, rfl, md, .ref c, rfl, .inl ⟨_, .inr "columns", .inl (s34 _ _ hmd), rfl, (by rfl)⟩, c, rfl, ⟨_, .of (s34 _ _ mc)⟩, ?_⟩
      refine for_it (walk_list (a := c) (xs := S.cols.map V.str)) (fun l σ H5 => Same H H5 ∧ ∃ (T : Vn) (b : Bool) (c10 c11 : Option V), σ = [some (.ref md), some (.ref wd), some .non, some (.ref D), some (.int (0 + ((i : Nat) : Int))), some (.bl b), some (.int ((i0 : Nat) : Int)), some (.ref ro), some (.ref ab), some (.ref be), c10, c11, c12] ∧ H5 D = some (.lst (rs.map V.ref)) ∧ RowsT H5 rs S.cols T ∧ (i0 + 1 = rs.length → H5 be = some (.dK [])) ∧ (prb S ws).TI T0 T (fun r' c' => (ws.length : Int) - j < r' ∨ (r' = ((i0 : Nat) : Int) + 1 ∧ c' ∈ S.cols.take l)) b)
        ⟨s34, T, b, _, _, rfl, s4 _ _ hD3, rt3.up s4, g4, ti.imp fun r' c' _ hd => hd.elim (fun h => h) fun h => by simp at h⟩ (fun l σ H5 _ h => .of (h.1 _ _ mc)) ?_ ?_
      · rintro l v σ H5 H5' hl ⟨s5, T, b, c10, c11, rfl, hD5, rt5, hbe5, ti⟩ ⟨rfl, hv⟩
        obtain ⟨z, hz, rfl⟩ := some_map hv
        have hzc := List.mem_of_getElem? hz
        have hin : (prb S ws).In (((i0 : Nat) : Int) + 1) z := ⟨by omega, by show ((i0 : Nat) : Int) + 1 ≤ (ws.length : Int); omega, hzc⟩
        have more : ∀ {T' : Vn} {b' : Bool}, (prb S ws).TI T0 T' (fun r' c' => ((ws.length : Int) - j < r' ∨ (r' = ((i0 : Nat) : Int) + 1 ∧ c' ∈ S.cols.take l)) ∨ (r' = ((i0 : Nat) : Int) + 1 ∧ c' = z)) b' → (prb S ws).TI T0 T' (fun r' c' => (ws.length : Int) - j < r' ∨ (r' = ((i0 : Nat) : Int) + 1 ∧ c' ∈ S.cols.take (l + 1))) b' := fun h => h.imp fun r' c' _ hd => by
          rcases hd with h | ⟨h1, h2⟩
          · exact .inl (.inl h)
          · rw [take_snoc hz] at h2
            rcases List.mem_append.mp h2 with h2 | h2
            · exact .inl (.inr ⟨h1, h2⟩)
            · exact .inr ⟨h1, List.mem_singleton.mp h2⟩
        have hro5 := rt5 i0 ro hro
        have nocol : ∀ (r' : Int) (x : Str), r' ≠ 0 → x ∉ S.cols → T r' x = none := fun r' x h0 hx => ti.good.base.2 r' x h0 fun h => hx h.2.2
        refine ⟨_, rfl, _, rfl, ro, oi (T (((i0 : Nat) : Int) + 1) z), rfl, .inl ⟨_, .inr z, .inl hro5, rfl, (dct_in (f := fun c => oi (T (((i0 : Nat) : Int) + 1) c)) hzc).symm⟩, _, rfl, ifB (fun hb => ?_) (fun hb => ?_)⟩
        · have hnone : T (((i0 : Nat) : Int) + 1) z = none := by
            have hb := of_decide_eq_true hb
            cases e : T (((i0 : Nat) : Int) + 1) z with
            | none => rfl
            | some u => rw [e] at hb; cases hb
          refine ⟨_, rfl, md, .ref k, rfl, .inl ⟨_, .inr "kinds", .inl (s5 _ _ hmd), rfl, (by rfl)⟩, _, rfl, _, rfl, wd, _, _, .str kw, rfl, rfl, .of (s5 _ _ hwd), at_of (j := i0) rfl (by rw [List.getElem?_map, hkw]; rfl), k, .ref (ka kw), rfl, .inl ⟨_, .inr kw, .inl (s5 _ _ mk), rfl, (dct_in (f := fun x => V.ref (ka x)) hkk).symm⟩, _, rfl, ka kw, .ref (fa z), rfl, .inl ⟨_, .inr z, .inl (s5 _ _ fe1), rfl, (dct_in (f := fun x => V.ref (fa x)) hzc).symm⟩, ?_⟩
          obtain ⟨ft, fz⟩ := ok.f kw hkk z hzc
          have fd' := Fm.depth_lt (S.fm kw z)
          have m2 := ok.m2
          have hF : (prb S ws).F (((i0 : Nat) : Int) + 1) z = S.fm kw z := by
            show S.fm (ws.getD (((i0 : Nat) : Int) + 1 - 1).toNat Str.empty) z = _
            rw [show (((i0 : Nat) : Int) + 1 - 1).toNat = i0 from by omega, List.getD_eq_getElem?_getD, hkw]
            rfl
          have hup : IsRow H5' ab (env T (((i0 : Nat) : Int) + 1) .up) := by
            have e : env T (((i0 : Nat) : Int) + 1) .up = T ((i0 : Nat) : Int) := by
              funext x
              show T (((i0 : Nat) : Int) + 1 + -1) x = _
              rw [show ((i0 : Nat) : Int) + 1 + -1 = ((i0 : Nat) : Int) from by omega]
            rw [e]
            by_cases h0 : i0 = 0
            · rw [g2 h0]
              refine ⟨_, s5 _ _ mt, fun x => ?_⟩
              rw [valV_dct, h0]
              show _ = oi (T 0 x)
              rw [ti.good.base.1 x]
              show _ = oi (if x ∈ S.cols then some (S.top x) else none)
              by_cases hx : x ∈ S.cols
              · rw [if_pos hx, if_pos hx]; rfl
              · rw [if_neg hx, if_neg hx]; rfl
            · have z1 := rt5 _ _ (g1 (by omega))
              rw [show (((i0 - 1 : Nat) : Int) + 1) = ((i0 : Nat) : Int) from by omega] at z1
              exact row_is z1 fun x hx => nocol _ x (by omega) hx
          have hhe : IsRow H5' ro (env T (((i0 : Nat) : Int) + 1) .here) := by
            have e : env T (((i0 : Nat) : Int) + 1) .here = T (((i0 : Nat) : Int) + 1) := by
              funext x
              show T (((i0 : Nat) : Int) + 1 + 0) x = _
              rw [Int.add_zero]
            rw [e]
            exact row_is hro5 fun x hx => nocol _ x (by omega) hx
          have hdo : IsRow H5' be (env T (((i0 : Nat) : Int) + 1) .down) := by
            have e : env T (((i0 : Nat) : Int) + 1) .down = T (((i0 + 1 : Nat) : Int) + 1) := by
              funext x
              show T (((i0 : Nat) : Int) + 1 + 1) x = _
              rw [show (((i0 + 1 : Nat) : Int)) = ((i0 : Nat) : Int) + 1 from by omega]
            rw [e]
            by_cases hlast : i0 + 1 = rs.length
            · refine ⟨[], hbe5 hlast, fun x => ?_⟩
              have z1 : T (((i0 + 1 : Nat) : Int) + 1) x = none := ti.good.base.2 _ x (by omega) fun h => by
                have h2 : ((i0 + 1 : Nat) : Int) + 1 ≤ (ws.length : Int) := h.2.1
                omega
              rw [z1]
              rfl
            · exact row_is (rt5 _ _ (g3 (by omega))) fun x hx => nocol _ x (by omega) hx
          refine ⟨_, rfl, md, .int S.m, rfl, .inl ⟨_, .inr "modulus", .inl (s5 _ _ hmd), rfl, (by rfl)⟩, _, rfl, _, rfl, _, rfl, _, rfl, fa z, S.fm kw z, S.m, ab, ro, be, env T (((i0 : Nat) : Int) + 1), rfl, (fe2 z hzc).up s5, by omega, by omega, hup, hhe, hdo, fun H6 tt nd2 s6 e6 => ?_⟩
          refine ⟨tt, _, 0, _, rfl, rfl, .of e6, rfl, _, rfl, _, rfl, ro, _, rfl, DPut.k (k := .inr z) (s6 _ _ hro5) (by rw [dct_len]; omega), ?_⟩
          have rt6 := rt5.up s6
          have s56 := same_trans s5 s6
          have hroH := hrH ro (List.mem_of_getElem? hro)
          have hroD := hrD ro (List.mem_of_getElem? hro)
          have hbe6 : i0 + 1 = rs.length → be ≠ ro := fun h e => by
            have z1 := hbe5 h
            rw [e, hro5] at z1
            have z1 := HO.dK.inj (Option.some.inj z1)
            have z2 := congrArg List.length z1
            rw [dct_len] at z2
            rw [z2] at hc1
            exact absurd hc1 (by decide)
          have ev0 : (prb S ws).at_ T (((i0 : Nat) : Int) + 1) z = (S.fm kw z).ev S.m (env T (((i0 : Nat) : Int) + 1)) := by
            unfold Prb.at_
            rw [hF]
            rfl
          cases hev : (S.fm kw z).ev S.m (env T (((i0 : Nat) : Int) + 1)) with
          | ok u =>
            have rt7 := rt6.set (v := some u) hrn hro hzc (Prb.put T (((i0 : Nat) : Int) + 1) z u) Prb.put_at fun r' c' hne => by
              unfold Prb.put
              rw [if_neg fun h => hne (Prod.ext h.1 h.2)]
            have rt7 : RowsT (upd H6 ro (.dK (putK (dct S.cols fun c => oi (T (((i0 : Nat) : Int) + 1) c)) (.inr z) (oe (.ok u))))) rs S.cols (Prb.put T (((i0 : Nat) : Int) + 1) z u) := rt7
            have s7 := s56.put (o := .dK (putK (dct S.cols fun c => oi (T (((i0 : Nat) : Int) + 1) c)) (.inr z) (oe (.ok u)))) hroH
            have hD7 : upd H6 ro (.dK (putK (dct S.cols fun c => oi (T (((i0 : Nat) : Int) + 1) c)) (.inr z) (oe (.ok u)))) D = some (.lst (rs.map V.ref)) := by rw [upd_ne hroD.symm]; exact s6 _ _ hD5
            have hb7 : i0 + 1 = rs.length → upd H6 ro (.dK (putK (dct S.cols fun c => oi (T (((i0 : Nat) : Int) + 1) c)) (.inr z) (oe (.ok u)))) be = some (.dK []) := fun h => by rw [upd_ne (hbe6 h)]; exact s6 _ _ (hbe5 h)
            show _
            generalize upd H6 ro (.dK (putK (dct S.cols fun c => oi (T (((i0 : Nat) : Int) + 1) c)) (.inr z) (oe (.ok u)))) = H7 at rt7 s7 hD7 hb7
            have ti7 := ti.val wf (D' := fun r' c' => (ws.length : Int) - j < r' ∨ (r' = ((i0 : Nat) : Int) + 1 ∧ c' ∈ S.cols.take (l + 1))) hin hnone (ev0.trans hev)
            refine ⟨_, rfl, b, rfl, ifB (fun _ => ⟨s7, _, true, _, _, rfl, hD7, rt7, hb7, ti7⟩) (fun _ => ?_)⟩
            refine ⟨_, rfl, _, rfl, ro, .int u, rfl, .inl ⟨_, .inr z, .inl (rt7 i0 ro hro), rfl, ?_⟩, s7, _, true, _, _, rfl, hD7, rt7, hb7, ti7⟩
            rw [dct_in hzc, Prb.put_at]
            rfl
          | error g =>
            have rt7 := rt6.set (v := none) hrn hro hzc T hnone fun r' c' hne => rfl
            have rt7 : RowsT (upd H6 ro (.dK (putK (dct S.cols fun c => oi (T (((i0 : Nat) : Int) + 1) c)) (.inr z) (oe (.error g))))) rs S.cols T := rt7
            have s7 := s56.put (o := .dK (putK (dct S.cols fun c => oi (T (((i0 : Nat) : Int) + 1) c)) (.inr z) (oe (.error g)))) hroH
            have hD7 : upd H6 ro (.dK (putK (dct S.cols fun c => oi (T (((i0 : Nat) : Int) + 1) c)) (.inr z) (oe (.error g)))) D = some (.lst (rs.map V.ref)) := by rw [upd_ne hroD.symm]; exact s6 _ _ hD5
            have hb7 : i0 + 1 = rs.length → upd H6 ro (.dK (putK (dct S.cols fun c => oi (T (((i0 : Nat) : Int) + 1) c)) (.inr z) (oe (.error g)))) be = some (.dK []) := fun h => by rw [upd_ne (hbe6 h)]; exact s6 _ _ (hbe5 h)
            show _
            generalize upd H6 ro (.dK (putK (dct S.cols fun c => oi (T (((i0 : Nat) : Int) + 1) c)) (.inr z) (oe (.error g)))) = H7 at rt7 s7 hD7 hb7
            have ti7 := more (ti.err (ev0.trans hev))
            refine ⟨_, rfl, b, rfl, ifB (fun hbt => ?_) (fun hbf => ?_)⟩
            · subst hbt
              exact ⟨s7, _, true, _, _, rfl, hD7, rt7, hb7, ti7⟩
            · subst hbf
              refine ⟨_, rfl, _, rfl, ro, .non, rfl, .inl ⟨_, .inr z, .inl (rt7 i0 ro hro), rfl, ?_⟩, s7, _, false, _, _, rfl, hD7, rt7, hb7, ti7⟩
              rw [dct_in hzc, hnone]
              rfl
        · have hsome : T (((i0 : Nat) : Int) + 1) z ≠ none := fun e => by
            have hb := of_decide_eq_false hb
            rw [e] at hb
            exact hb rfl
          exact ⟨s5, T, b, _, _, rfl, hD5, rt5, hbe5, more (ti.skip hsome)⟩
      · rintro σ H5 ⟨s5, T, b, c10, c11, rfl, hD5, rt5, hbe5, ti⟩
        refine ⟨s5, T, b, _, _, _, _, _, _, rfl, hD5, rt5, ti.imp fun r' c' hin hd => ?_⟩
        rw [List.length_map, List.take_length]
        have h2 : r' ≤ (ws.length : Int) := hin.2.1
        have hd : (ws.length : Int) - ((j + 1 : Nat) : Int) < r' := hd
        by_cases hr' : r' = ((i0 : Nat) : Int) + 1
        · exact .inr ⟨hr', hin.2.2⟩
        · exact .inl (by omega)
    · rintro σ H3 ⟨s3, T, b, c6, c7, c8, c9, c10, c11, rfl, hD3, rt3, ti⟩
      refine ⟨_, rfl, _, rfl, ifB (fun hb => ?_) (fun hb => ?_)⟩
      · have hb : b = false := by simpa using hb
        subst hb
        refine ⟨_, rfl, hq H3 D T s3 hD ⟨rs, hD3, hrl, rt3⟩ ti.good (ti.closed fun r c hin => ?_)⟩
        have := hin.1
        omega
      · have hb : b = true := by simpa using hb
        subst hb
        exact ⟨s3, T, _, _, _, _, _, _, _, _, _, rfl, hD3, rt3, ti.good, by have := ti.yes rfl; omega⟩
  · rintro σ H2 ⟨s2, T, c4, c5, c6, c7, c8, c9, c10, c11, c12, rfl, hD2, rt2, gd, hcnt⟩
    have h1 := Prb.cnt_le (p := prb S ws) (S := T)
    have h2 : (prb S ws).cnt T ≤ ws.length * S.cols.length := h1
    omega
end
end Bn
/-! W31: the words that the law tries. -/
namespace Bn
open PySem PySem.Spec PyProof.Rows L2 StX
open He (ga ma)
/-- ws leads from place i to place j -/
structure GoW (S : Sm) (ws : List Str) (j : Int) : Prop where
  r0 : 0 ≤ j
  r1 : j < S.plan.length
  k : ∀ x ∈ ws, x ∈ S.kinds
  v : ∀ us, Val S.plan j us → Val S.plan 0 (ws ++ us)
theorem GoW.nil {S : Sm} (ok : S.Ok) : GoW S [] 0 := ⟨by omega, by have := ok.p1; omega, (fun _ h => nomatch h), fun us h => h⟩
theorem GoW.row {S : Sm} {ws : List Str} {j : Int} (h : GoW S ws j) : ∃ r, S.plan[j.toNat]? = some r := ⟨_, List.getElem?_eq_getElem (by have := h.r0; have := h.r1; omega)⟩
theorem GoW.add {S : Sm} (ok : S.Ok) {ws : List Str} {j : Int} (h : GoW S ws j) {r : List Str × (Str → Int)} {k : Str} (hr : S.plan[j.toNat]? = some r) (hk : k ∈ r.1) : GoW S (ws ++ [k]) (r.2 k) := by
  obtain ⟨_, _, _, p4, p5⟩ := ok.pr r (List.mem_of_getElem? hr)
  refine ⟨(p5 k hk).1, (p5 k hk).2, fun x hx => ?_, fun us hv => ?_⟩
  · rcases List.mem_append.mp hx with hx | hx
    · exact h.k x hx
    · cases List.mem_singleton.mp hx
      exact p4 _ hk
  · rw [List.append_assoc]
    exact h.v _ ⟨r, hr, hk, hv⟩
theorem GoW.val {S : Sm} {ws : List Str} {j : Int} (h : GoW S ws j) : Val S.plan 0 ws := by
  have z := h.v [] trivial
  rw [List.append_nil] at z
  exact z
/-- a word's list -/
def WdL (H : Hp) (S : Sm) (a : Addr) : Prop := ∃ ws : List Str, H a = some (.lst (ws.map V.str)) ∧ (∀ k ∈ ws, k ∈ S.kinds) ∧ ws.length ≤ 10 ∧ Val S.plan 0 ws
theorem WdL.up {H H' : Hp} {S : Sm} {a : Addr} (s : Same H H') (h : WdL H S a) : WdL H' S a := let ⟨ws, e, h⟩ := h; ⟨ws, s _ _ e, h⟩
/-- a word and where it leads -/
def PairW (B H : Hp) (S : Sm) (n : Nat) (t : Addr) : Prop := ∃ (wl : Addr) (ws : List Str) (j : Int), H t = some (.tup [.ref wl, .int j]) ∧ H wl = some (.lst (ws.map V.str)) ∧ ws.length = n ∧ B wl = none ∧ GoW S ws j
theorem PairW.up {B H H' : Hp} {S : Sm} {n : Nat} {a : Addr} (s : Same H H') (h : PairW B H S n a) : PairW B H' S n a := let ⟨wl, ws, j, e1, e2, h⟩ := h; ⟨wl, ws, j, s _ _ e1, s _ _ e2, h⟩
theorem refs_of {P : Addr → Prop} : ∀ {ys : List V}, (∀ (i : Nat) (y : V), ys[i]? = some y → ∃ t, y = .ref t ∧ P t) → ∃ ts : List Addr, ys = ts.map V.ref ∧ ∀ t ∈ ts, P t
  | [], _ => ⟨[], rfl, fun _ h => nomatch h⟩
  | y :: ys, h => by
    obtain ⟨ts, rfl, h2⟩ := refs_of (P := P) (ys := ys) fun i z hz => h (i + 1) z (by simpa using hz)
    obtain ⟨t, rfl, h3⟩ := h 0 y rfl
    refine ⟨t :: ts, rfl, fun x hx => ?_⟩
    rcases List.mem_cons.mp hx with rfl | hx
    · exact h3
    · exact h2 x hx
section
variable {w : World} {K : Fr} {mg : Str → Option Value} {base : Heap}
def pWords : Pr := fun vs H Q => ∃ (md : Addr) (S : Sm) (n : Nat), vs = [.ref md, .int 0, .int n] ∧ IsMo H md S ∧ S.Ok ∧ n ≤ 2 ∧
  ∀ (H' : Hp) (a : Addr) (as : List Addr), Same H H' → H a = none → H' a = some (.lst (as.map V.ref)) → as.length ≤ 9 → (∀ x ∈ as, H x = none ∧ WdL H' S x) → Q (.ref a) H'
theorem k_law_words (G : GD K mg) : Keeps PP w K mg base 1 (ga K "_law_words") pWords := by
  obtain ⟨fd, F⟩ := fd_law_words G
  refine kp_fnN (k := 0) F sc_law_words (fun _ _ _ _ _ _ us hl => match us, hl with | [_, _, _], _ => rfl) (by rintro _ _ _ ⟨md, S, n, rfl, _⟩; rfl) fun cdv A outer s H vs Q E hr hp => ?_
  obtain ⟨md, S, n, rfl, ⟨c, t, k, p, hmd, hM⟩, ok, hn, hq⟩ := hp
  have nd := sc_law_words.nd
  have hs := sizeLine_eq
  have hu := hu_of hr.r
  refine ⟨_, pss_cons (ps_set (i := 3) nd rfl (.inl rfl) (pe_lst (pa_cons (pe_tup (pa_cons (pe_lst pa_nil) (pa_cons (pv 1) pa_nil))) pa_nil)))
    (pss_cons (ps_for PassesOwn.never rfl (pi_range1 (by rfl) (gf_range G) (pa_cons (pv 2) pa_nil)) (pg_name (i := 4) nd rfl (.inl rfl))
      (pss_cons (ps_set (i := 5) nd rfl (.inl rfl) (pe_lst pa_nil))
      (pss_cons (ps_for PassesOwn.never rfl (pi_list (pv 3)) (pg_tup rfl (pgs_cons (pg_name (i := 6) nd rfl (by first | exact Or.inl rfl | exact Or.inr rfl)) (pgs_cons (pg_name (i := 7) nd rfl (by first | exact Or.inl rfl | exact Or.inr rfl)) pgs_nil)))
        (pss_one (ps_expr (pe_bm PySem.F.plainAttrs_list PySem.F.slot_list_extend PySem.F.type_list_extend mt_extend (pv 5) (pa_cons (pe_lc (own := [("_law_kind", 8)]) (g := gName 8) (tt := tYes) (te := tTup (tCons (tOp rCat (tVar 6) (tLst (tCons (tVar 8) tNil))) (tCons (tDGet (tOp (rIxL K) (tDGet (tVar 0) (tC (.str "plan"))) (tVar 7)) (tVar 8)) tNil))) rfl nd
            (pi_list (pe_callB (call_sortedD rfl) (by rfl) (gf_sorted G) rfl (pa_cons (pe_ix ix_list (pe_dget hu (pv 0) pe_str (fun _ _ => rfl)) (pv 7) (fun _ _ => rfl)) pa_nil)))
            (blkOk_by (N := N_law_words) (sc := defScope s_law_words) (by decide +kernel)) (fun _ _ _ _ _ => pg_name (i := 8) nd rfl (.inl rfl)) (fun _ _ _ _ _ => pts_nil)
            (fun _ _ _ _ _ => pe_tup (pa_cons (pe_op op_cat (pv 6) (pe_lst (pa_cons (pv 8) pa_nil))) (pa_cons (pe_dget hu (pe_ix ix_list (pe_dget hu (pv 0) pe_str (fun _ _ => rfl)) (pv 7) (fun _ _ => rfl)) (pv 8) (fun _ _ => rfl)) pa_nil)))) pa_nil)))))
      (pss_one (ps_set (i := 3) nd rfl (.inl rfl) (pv 5))))))
    (pss_one (ps_ret (pe_lc (own := [("_law_word_here", 6), ("_law_here", 7)]) (g := gTup K 2 (gCons (gName 6) (gCons (gName 7) gNil))) (tt := tYes) (te := tVar 6) rfl nd (pi_list (pv 3))
        (blkOk_by (N := N_law_words) (sc := defScope s_law_words) (by decide +kernel)) (fun _ _ _ _ _ => pg_tup rfl (pgs_cons (pg_name (i := 6) nd rfl (.inl rfl)) (pgs_cons (pg_name (i := 7) nd rfl (.inl rfl)) pgs_nil))) (fun _ _ _ _ _ => pts_nil) (fun _ _ _ _ _ => pv 6))))), ?_⟩
  obtain ⟨mc, mt, _, ⟨rs, mp, mpr⟩⟩ := hM
  have row : ∀ {H1 : Hp} {j : Int}, Same H H1 → 0 ≤ j → j < S.plan.length → ∃ (q : Addr) (r : List Str × (Str → Int)), rs[j.toNat]? = some q ∧ S.plan[j.toNat]? = some r ∧ H1 q = some (.dK (dct r.1 fun x => .int (r.2 x))) := fun {H1 j} s1 h0 h1 => by
    obtain ⟨r, hr⟩ : ∃ r, S.plan[j.toNat]? = some r := ⟨_, List.getElem?_eq_getElem (by omega)⟩
    obtain ⟨q, hq', e⟩ := paired_get' mpr hr
    exact ⟨q, r, hq', hr, s1 _ _ e⟩
  refine ⟨Nat.zero_le _, fun e0 he0 => ⟨_, rfl, (by show 2 ≤ sizeLine; decide), fun t0 ht0 => ⟨(by show 1 ≤ sizeLine; decide), fun f0 hf0 => ?_⟩⟩⟩
  have s1 := Same.new (o := .lst []) he0
  have s2 := Same.new (o := .tup [.ref e0, .int 0]) ht0
  have s3 := Same.new (o := .lst [.ref t0]) hf0
  have he3 := s3 _ _ (s2 _ _ (show upd H e0 (.lst []) e0 = some (.lst []) from upd_same))
  have ht3 := s3 _ _ (show upd (upd H e0 (.lst [])) t0 (.tup [.ref e0, .int 0]) t0 = some (.tup [.ref e0, .int 0]) from upd_same)
  have hf3 : upd (upd (upd H e0 (.lst [])) t0 (.tup [.ref e0, .int 0])) f0 (.lst [.ref t0]) f0 = some (.lst [.ref t0]) := upd_same
  have s03 := same_trans (same_trans s1 s2) s3
  generalize upd (upd (upd H e0 (.lst [])) t0 (.tup [.ref e0, .int 0])) f0 (.lst [.ref t0]) = H3 at he3 ht3 hf3 s03
  refine ⟨_, rfl, n, rfl, by omega, by omega, for_it walk_range (fun j σ H1 => Same H H1 ∧ ∃ (fa : Addr) (ts : List Addr) (c4 c5 c6 c7 c8 : Option V), σ = [some (.ref md), some (.int 0), some (.int n), some (.ref fa), c4, c5, c6, c7, c8] ∧ H1 fa = some (.lst (ts.map V.ref)) ∧ ts.length ≤ 3 ^ j ∧ ∀ t ∈ ts, PairW H H1 S j t)
    ⟨s03, f0, [t0], none, none, none, none, none, rfl, hf3, (show 1 ≤ 1 from Nat.le_refl 1), fun t ht => by cases List.mem_singleton.mp ht; exact ⟨e0, [], 0, ht3, he3, rfl, he0, GoW.nil ok⟩⟩ (fun _ _ _ _ _ => trivial) ?_ ?_⟩
  · rintro j v σ H1 H1' hj ⟨s1, fa, ts, c4, c5, c6, c7, c8, rfl, hfa, htl, hts⟩ ⟨rfl, rfl⟩
    have hj2 : 3 ^ j ≤ 9 := by
      have : j = 0 ∨ j = 1 := by omega
      rcases this with rfl | rfl <;> decide
    refine ⟨Nat.zero_le _, fun fl hfl => ?_⟩
    have hfl0 := s1.free hfl
    have s4 := Same.new (o := .lst []) hfl
    have s14 := same_trans s1 s4
    have hfl4 : upd H1' fl (.lst []) fl = some (.lst []) := upd_same
    have hts4 : ∀ t ∈ ts, PairW H (upd H1' fl (.lst [])) S j t := fun t ht => (hts t ht).up s4
    have hfa4 := s4 _ _ hfa
    have hne : fa ≠ fl := ne_of_none hfa hfl
    have hg4 : ∀ {H5 : Hp}, Same H1' H5 → Same H H5 := fun s => same_trans s1 s
    generalize upd H1' fl (.lst []) = H4 at s4 s14 hfl4 hts4 hfa4
    refine ⟨_, rfl, fa, rfl, ⟨_, .of hfa4⟩, for_it (walk_list (a := fa) (xs := ts.map V.ref)) (fun l σ H5 => Same H1' H5 ∧ ∃ (us : List Addr) (c6 c7 : Option V), σ = [some (.ref md), some (.int 0), some (.int n), some (.ref fa), some (.int (0 + ((j : Nat) : Int))), some (.ref fl), c6, c7, c8] ∧ H5 fl = some (.lst (us.map V.ref)) ∧ us.length ≤ 3 * l ∧ ∀ t ∈ us, PairW H (dr fl H5) S (j + 1) t)
      ⟨s4, [], _, _, rfl, hfl4, Nat.zero_le _, fun _ h => nomatch h⟩ (fun l σ H5 _ h => .of (h.1 _ _ hfa)) ?_ ?_⟩
    · rintro l v σ H5 H5' hl ⟨s5, us, c6, c7, rfl, hfl5, hul, hus⟩ ⟨rfl, hv⟩
      rw [List.length_map] at hl
      obtain ⟨t, ht, rfl⟩ := some_map hv
      obtain ⟨wl, ws, i, et, ew, hwl, hwn, hgo⟩ := (hts t (List.mem_of_getElem? ht)).up s5
      obtain ⟨q, r, hq1, hr1, hq5⟩ := row (hg4 s5) hgo.r0 hgo.r1
      obtain ⟨rl1, rl3, rnd, rk, _⟩ := ok.pr r (List.mem_of_getElem? hr1)
      have hmd5 := hg4 s5 _ _ hmd
      have hp5 := hg4 s5 _ _ mp
      have hati : atI (rs.map V.ref) i = some (.ref q) := at_of (j := i.toNat) (by have := hgo.r0; omega) (by rw [List.getElem?_map, hq1]; rfl)
      refine ⟨t, _, rfl, .of et, rfl, _, _, rfl, _, _, rfl, rfl, ?_⟩
      refine ⟨_, rfl, .inl ⟨rfl, _, .of hfl5⟩, _, rfl, md, .ref p, rfl, .inl ⟨_, .inr "plan", .inl hmd5, rfl, (by rfl)⟩, _, rfl, p, _, _, .ref q, rfl, rfl, .of hp5, hati, q, _, r.1, rfl, .inl hq5, dct_keys, by omega, fun ys pp hperm _ hpp => ⟨pp, rfl, ⟨_, .of upd_same⟩, fun D hD => ?_⟩⟩
      have s6 := Same.new (o := .lst (ys.map V.str)) hpp
      have hpp6 : upd H5' pp (.lst (ys.map V.str)) pp = some (.lst (ys.map V.str)) := upd_same
      generalize upd H5' pp (.lst (ys.map V.str)) = H6 at s6 hpp6 hD
      have hyl : ys.length ≤ 3 := by rw [hperm.length_eq]; exact rl3
      have s56 := same_trans s5 s6
      have hfl6 := s6 _ _ hfl5
      have hDfl : D ≠ fl := (ne_of_none hfl6 hD).symm
      refine lc_gr (B := H6) (walk_list (K := K) (a := pp) (xs := ys.map V.str)) (by rw [List.length_map]; omega) hD (fun _ y H7 => ∃ t, y = .ref t ∧ PairW H (dr fl H7) S (j + 1) t) (fun _ y H7 H8 s ⟨t, e, h⟩ => ⟨t, e, h.up (dr_same s)⟩) (fun _ _ _ s => .of (s _ _ hpp6)) ?_ ?_
      · rintro m v2 H7 H7' acc hm s7 hD7 ⟨rfl, hv2⟩ Fin hFin
        obtain ⟨z, hz, rfl⟩ := some_map hv2
        have hzr : z ∈ r.1 := hperm.mem_iff.mp (List.mem_of_getElem? hz)
        have s67 := same_trans s6 s7
        refine ⟨rfl, _, rfl, _, rfl, (by show 1 ≤ sizeLine; decide), fun o1 ho1 => ?_⟩
        have s8 := Same.new (o := .lst [.str z]) ho1
        have ho8 : upd H7' o1 (.lst [.str z]) o1 = some (.lst [.str z]) := upd_same
        generalize upd H7' o1 (.lst [.str z]) = H8 at s8 ho8
        have s68 := same_trans s67 s8
        refine ⟨wl, o1, _, _, rfl, rfl, s68 _ _ ew, ho8, (by rw [List.length_map, List.length_singleton]; have : j = 0 ∨ j = 1 := (by omega); omega), fun o2 ho2 => ?_⟩
        have s9 := Same.new (o := .lst (ws.map V.str ++ [.str z])) ho2
        have ho9 : upd H8 o2 (.lst (ws.map V.str ++ [.str z])) o2 = some (.lst (ws.map V.str ++ [.str z])) := upd_same
        have ho2fl : o2 ≠ fl := (ne_of_none (s68 _ _ hfl5) ho2).symm
        have ho2D : o2 ≠ D := (ne_of_none (s8 _ _ hD7) ho2).symm
        generalize upd H8 o2 (.lst (ws.map V.str ++ [.str z])) = H9 at s9 ho9
        have s69 := same_trans s68 s9
        have s59 := same_trans s5 s69
        refine ⟨_, rfl, md, .ref p, rfl, .inl ⟨_, .inr "plan", .inl (s69 _ _ hmd5), rfl, (by rfl)⟩, _, rfl, p, _, _, .ref q, rfl, rfl, .of (s69 _ _ hp5), hati, _, rfl, q, .int (r.2 z), rfl, .inl ⟨_, .inr z, .inl (s69 _ _ hq5), rfl, (dct_in (f := fun x => V.int (r.2 x)) hzr).symm⟩, (by show 2 ≤ sizeLine; decide), fun t2 ht2 => ?_⟩
        have s10 := Same.new (o := .tup [.ref o2, .int (r.2 z)]) ht2
        have ht2fl : t2 ≠ fl := (ne_of_none (s69 _ _ hfl5) ht2).symm
        have ht2D : t2 ≠ D := (ne_of_none (s9 _ _ (s8 _ _ hD7)) ht2).symm
        refine hFin _ _ (same_trans (same_trans s8 s9) s10) ⟨t2, rfl, o2, ws ++ [z], r.2 z, ?_, ?_, by rw [List.length_append, hwl]; rfl, (same_trans (hg4 s5) s68).free ho2, hgo.add ok hr1 hzr⟩
        · rw [dr_ne ht2fl, dr_ne ht2D, upd_same]
        · rw [dr_ne ho2fl, dr_ne ho2D, s10 _ _ ho9, List.map_append]; rfl
      · intro H7 ys7 s7 hD7 hl7 hR7
        rw [List.length_map] at hl7
        obtain ⟨ts7, rfl, hts7⟩ := refs_of fun i y hy => hR7 i y hy
        rw [List.length_map] at hl7
        have s67 := same_trans s6 s7
        have s57 := same_trans s5 s67
        have hfl7 := s67 _ _ hfl5
        have hl9 : l < 9 := by omega
        refine ⟨fl, D, _, _, rfl, rfl, hfl7, hD7, (by rw [List.length_map, List.length_map]; omega), ?_⟩
        refine ⟨L2.Same.put s57 hfl, us ++ ts7, _, _, rfl, by rw [upd_same, List.map_append], by rw [List.length_append]; omega, fun t ht => ?_⟩
        rw [dr_upd]
        rcases List.mem_append.mp ht with ht | ht
        · exact (hus t ht).up (dr_same s67)
        · exact (hts7 t ht).up (dr_same dr_le)
    · rintro σ H5 ⟨s5, us, c6, c7, rfl, hfl5, hul, hus⟩
      rw [List.length_map] at hul
      exact ⟨_, rfl, hg4 s5, fl, us, _, _, _, _, _, rfl, hfl5, by rw [Nat.pow_succ]; omega, fun t ht => (hus t ht).up dr_le⟩
  · rintro σ H1 ⟨s1, fa, ts, c4, c5, c6, c7, c8, rfl, hfa, htl, hts⟩
    have hj2 : 3 ^ n ≤ 9 := by
      have : n = 0 ∨ n = 1 ∨ n = 2 := by omega
      rcases this with rfl | rfl | rfl <;> decide
    have htl : ts.length ≤ 9 := Nat.le_trans htl hj2
    refine ⟨_, rfl, fa, rfl, ⟨_, .of hfa⟩, fun D hD => lc_gr (B := H1) (walk_list (K := K) (a := fa) (xs := ts.map V.ref)) (by rw [List.length_map]; omega) hD (fun _ y H7 => ∃ t, y = .ref t ∧ H t = none ∧ WdL H7 S t) (fun _ y H7 H8 s ⟨t, e, e2, h⟩ => ⟨t, e, e2, h.up s⟩) (fun _ _ _ s => .of (s _ _ hfa)) ?_ ?_⟩
    · rintro m v2 H7 H7' acc hm s7 hD7 ⟨rfl, hv2⟩ Fin hFin
      obtain ⟨t, ht, rfl⟩ := some_map hv2
      obtain ⟨wl, ws, i, et, ew, hwl, hwn, hgo⟩ := hts t (List.mem_of_getElem? ht)
      have hwD : wl ≠ D := ne_of_none ew hD
      exact ⟨t, _, rfl, .of (s7 _ _ et), rfl, _, _, rfl, _, _, rfl, rfl, rfl, _, rfl, hFin _ _ (Same.refl _) ⟨wl, rfl, hwn, ws, by rw [dr_ne hwD]; exact s7 _ _ ew, hgo.k, by omega, hgo.val⟩⟩
    · intro H7 ys7 s7 hD7 hl7 hR7
      rw [List.length_map] at hl7
      obtain ⟨ts7, rfl, hts7⟩ := refs_of fun i y hy => hR7 i y hy
      rw [List.length_map] at hl7
      exact hq H7 D ts7 (same_trans s1 s7) (s1.free hD) hD7 (by omega) fun x hx => ⟨(hts7 x hx).1, (hts7 x hx).2.up dr_le⟩
end
end Bn
/-! W32: a drawn word. -/
namespace Bn
open PySem PySem.Spec PyProof.Rows L2 StX
open He (ga ma)
section
variable {w : World} {K : Fr} {mg : Str → Option Value} {base : Heap}
def pWord : Pr := fun vs H Q => ∃ (p md : Addr) (S : Sm) (n : Nat), vs = [.ref p, .ref md, .int n] ∧ PotAt H p ∧ IsMo (dr p H) md S ∧ S.Ok ∧ n ≤ 10 ∧
  ∀ (H' : Hp) (a : Addr), Drw p H H' → H a = none → a ≠ p → WdL H' S a → Q (.ref a) H'
theorem k_law_word (G : GD K mg) : Keeps PP w K mg base 3 (ga K "_law_word") pWord := by
  obtain ⟨fd, F⟩ := fd_law_word G
  refine kp_fnN (k := 2) F sc_law_word (fun _ _ _ _ _ _ us hl => match us, hl with | [_, _, _], _ => rfl) (by rintro _ _ _ ⟨p, md, S, n, rfl, _⟩; rfl) fun cdv A outer s H vs Q E hr hp => ?_
  obtain ⟨p, md, S, n, rfl, hP, ⟨c, t, k, pl, hmd, hM⟩, ok, hn, hq⟩ := hp
  have nd := sc_law_word.nd
  have hs := sizeLine_eq
  have hu := hu_of hr.r
  have D2 := d_pick (w := w) (base := base) G (k := 2) (by omega)
  refine ⟨_, pss_cons (ps_par (i := 3) (j := 4) rfl nd rfl rfl (by decide) rfl rfl (pa_cons (pe_lst pa_nil) (pa_cons pe_int pa_nil)) rfl)
    (pss_cons (ps_for PassesOwn.never rfl (pi_range1 (by rfl) (gf_range G) (pa_cons (pv 2) pa_nil)) (pg_name (i := 5) nd rfl (.inl rfl))
      (pss_cons (ps_set (i := 6) nd rfl (.inl rfl) (pe_d D2 hr (by rfl) (pa_cons (pv 0) (pa_cons (pe_callB (call_sortedD rfl) (by rfl) (gf_sorted G) rfl (pa_cons (pe_ix ix_list (pe_dget hu (pv 1) pe_str (fun _ _ => rfl)) (pv 4) (fun _ _ => rfl)) pa_nil)) pa_nil))))
      (pss_cons (ps_expr (pe_bm PySem.F.plainAttrs_list PySem.F.slot_list_append PySem.F.type_list_append mt_append (pv 3) (pa_cons (pv 6) pa_nil)))
      (pss_one (ps_set (i := 4) nd rfl (.inl rfl) (pe_dget hu (pe_ix ix_list (pe_dget hu (pv 1) pe_str (fun _ _ => rfl)) (pv 4) (fun _ _ => rfl)) (pv 6) (fun _ _ => rfl)))))))
    (pss_one (ps_ret (pv 3)))), ?_⟩
  obtain ⟨mc, mt, _, ⟨rs, mp, mpr⟩⟩ := hM
  refine ⟨Nat.zero_le _, fun wl hwl => ⟨_, _, rfl, ?_⟩⟩
  have hwp := hP.ne hwl
  have hwd : dr p H wl = none := dr_free hwl
  refine ⟨_, rfl, n, rfl, by omega, by omega, for_it walk_range (fun i σ H1 => Drw p H H1 ∧ ∃ (ws : List Str) (j : Int) (c5 c6 : Option V), σ = [some (.ref p), some (.ref md), some (.int n), some (.ref wl), some (.int j), c5, c6] ∧ H1 wl = some (.lst (ws.map V.str)) ∧ ws.length = i ∧ GoW S ws j)
    ⟨(Drw.refl hP).new hwl, [], 0, none, none, rfl, upd_same, rfl, GoW.nil ok⟩ (fun _ _ _ _ _ => trivial) ?_ ?_⟩
  · rintro i v σ H1 H1' hi ⟨d1, ws, j, c5, c6, rfl, hw1, hwsl, hgo⟩ ⟨rfl, rfl⟩
    obtain ⟨r, hr1⟩ := hgo.row
    obtain ⟨q, hq1, hq0⟩ := paired_get' mpr hr1
    obtain ⟨rl1, rl3, rnd, rk, _⟩ := ok.pr r (List.mem_of_getElem? hr1)
    have hati : atI (rs.map V.ref) j = some (.ref q) := at_of (j := j.toNat) (by have := hgo.r0; omega) (by rw [List.getElem?_map, hq1]; rfl)
    refine ⟨_, rfl, _, rfl, md, .ref pl, rfl, .inl ⟨_, .inr "plan", .inl (dr_le _ _ (d1.s _ _ hmd)), rfl, (by rfl)⟩, _, rfl, pl, _, _, .ref q, rfl, rfl, .of (dr_le _ _ (d1.s _ _ mp)), hati, q, _, r.1, rfl, .inl (dr_le _ _ (d1.s _ _ hq0)), dct_keys, by omega, fun ys pp hperm _ hpp => ?_⟩
    have d2 := d1.new (o := .lst (ys.map V.str)) hpp
    have hpp2 : dr p (upd H1' pp (.lst (ys.map V.str))) pp = some (.lst (ys.map V.str)) := by rw [dr_ne (d1.pot.ne hpp), upd_same]
    have hw2 := Same.new (o := .lst (ys.map V.str)) hpp _ _ hw1
    generalize upd H1' pp (.lst (ys.map V.str)) = H2 at d2 hpp2 hw2
    have hyl := hperm.length_eq
    refine ⟨p, pp, _, rfl, d2.pot, hpp2, (by rw [List.length_map]; omega), (by rw [List.length_map]; omega), fun H3 y d3 hy => ?_⟩
    obtain ⟨z, hz, rfl⟩ := List.mem_map.mp hy
    have hzr : z ∈ r.1 := hperm.mem_iff.mp hz
    have d4 := d2.trans d3
    have hw3 := dr_le _ _ (d3.s _ _ (show dr p H2 wl = _ from (dr_ne hwp).trans hw2))
    refine ⟨_, rfl, .inl ⟨rfl, _, .of hw3⟩, _, rfl, wl, _, _, rfl, rfl, hw3, by rw [List.length_map]; omega, ?_⟩
    have d5 := d4.put (o := .lst (ws.map V.str ++ [.str z])) hwd hwp
    have hw5 : upd H3 wl (.lst (ws.map V.str ++ [.str z])) wl = some (.lst (ws.map V.str ++ [.str z])) := upd_same
    generalize upd H3 wl (.lst (ws.map V.str ++ [.str z])) = H5 at d5 hw5
    refine ⟨_, rfl, md, .ref pl, rfl, .inl ⟨_, .inr "plan", .inl (dr_le _ _ (d5.s _ _ hmd)), rfl, (by rfl)⟩, _, rfl, pl, _, _, .ref q, rfl, rfl, .of (dr_le _ _ (d5.s _ _ mp)), hati, _, rfl, q, .int (r.2 z), rfl, .inl ⟨_, .inr z, .inl (dr_le _ _ (d5.s _ _ hq0)), rfl, (dct_in (f := fun x => V.int (r.2 x)) hzr).symm⟩, ?_⟩
    exact ⟨d5, ws ++ [z], r.2 z, _, _, rfl, by rw [hw5, List.map_append]; rfl, by rw [List.length_append, hwsl]; rfl, hgo.add ok hr1 hzr⟩
  · rintro σ H1 ⟨d1, ws, j, c5, c6, rfl, hw1, hwsl, hgo⟩
    have hwsl : ws.length = n := hwsl
    exact ⟨_, rfl, hq H1 wl d1 hwl hwp ⟨ws, hw1, hgo.k, by omega, hgo.val⟩⟩
end
end Bn
/-! B5: repr of data (none, bools, ints, texts, lists, tuples, dicts with text keys). -/
namespace Bn
open PySem PySem.Spec PyProof.Rows L2
mutual
/-- v stands for d in the heap H; every list and dict in it is tracked -/
inductive Dq (H : Hp) : V → PyData → Prop
  | non : Dq H .non .none
  | bl (b : Bool) : Dq H (.bl b) (.bool b)
  | int (i : Int) : Dq H (.int i) (.int i)
  | str (x : Str) : Dq H (.str x) (.str x)
  | lst {a : Addr} {xs : List V} {ds : List PyData} : H a = some (.lst xs) → DqAll H xs ds → Dq H (.ref a) (.list ds)
  | tup {a : Addr} {xs : List V} {ds : List PyData} : H a = some (.tup xs) → DqAll H xs ds → Dq H (.ref a) (.tuple ds)
  | dic {a : Addr} {kvs : List (Key × V)} {ps : List (PyData × PyData)} : H a = some (.dK kvs) → DqKv H kvs ps → Dq H (.ref a) (.dict ps)
inductive DqAll (H : Hp) : List V → List PyData → Prop
  | nil : DqAll H [] []
  | cons {v : V} {vs : List V} {d : PyData} {ds : List PyData} : Dq H v d → DqAll H vs ds → DqAll H (v :: vs) (d :: ds)
inductive DqKv (H : Hp) : List (Key × V) → List (PyData × PyData) → Prop
  | nil : DqKv H [] []
  | cons {x : Str} {v : V} {kvs : List (Key × V)} {d : PyData} {ps : List (PyData × PyData)} : Dq H v d → DqKv H kvs ps → DqKv H ((.inr x, v) :: kvs) ((.str x, d) :: ps)
end
theorem readsAll_len {h : Heap} {vs : List Value} {ds : List PyData} {as : List Addr} (r : ReadsAll h vs ds as) : vs.length = ds.length := by
  induction vs generalizing ds as with
  | nil => cases r; rfl
  | cons v vs ih => cases r with | cons _ q => simp [ih q]
section
variable {X : Cx} {pins : List (Addr × Obj)} {σ : L2.St} {H : Hp} {s : Shared}
mutual
theorem Dq.reads (I : Inv X pins σ H s) : ∀ (d : PyData) (v : V) (u : Value), Dq H v d → RelV v u → ∃ as, Reads s.heap u d as ∧ ∀ a ∈ as, H a ≠ none
  | .none, _, _, h, r => by cases h; cases r; exact ⟨_, .none, fun _ z => nomatch z⟩
  | .bool b, _, _, h, r => by cases h; cases r; exact ⟨_, .bool b, fun _ z => nomatch z⟩
  | .int i, _, _, h, r => by cases h; obtain ⟨t, rfl⟩ := r; exact ⟨_, .int i t, fun _ z => nomatch z⟩
  | .str x, _, _, h, r => by cases h; obtain ⟨t, rfl⟩ := r; exact ⟨_, .str x t, fun _ z => nomatch z⟩
  | .list ds, _, _, h, r => by
    cases h with
    | lst hs ha =>
      cases r
      obtain ⟨_, its, n, rv, ho⟩ := I.hok _ _ hs
      obtain ⟨as, hr, ht⟩ := Dq.readsAll I ds _ its ha rv
      refine ⟨_, .list ho rfl rfl hr, fun a hm => ?_⟩
      rcases List.mem_cons.mp hm with e | hm
      · rw [e, hs]; exact fun z => nomatch z
      · exact ht a hm
  | .tuple ds, _, _, h, r => by
    cases h with
    | tup hs ha =>
      cases r
      obtain ⟨_, its, rv, o, ho, hc, n, hd⟩ := I.hok _ _ hs
      obtain ⟨as, hr, ht⟩ := Dq.readsAll I ds _ its ha rv
      exact ⟨_, .tuple ho hc hd hr, ht⟩
  | .dict ps, _, _, h, r => by
    cases h with
    | dic hs ha =>
      cases r
      obtain ⟨_, _, vs, kv, o, es, ep, ho, hx, hd, _, hp, _⟩ := I.hok _ _ hs
      obtain ⟨as, bs, r1, r2, t1, t2⟩ := Dq.readsKv I ps _ vs es.toList ha kv hp
      refine ⟨_, .dict ho hx.1 hd r1 r2, fun a hm => ?_⟩
      have hm := (List.mem_cons.mp (by simpa only [List.cons_append] using hm) : _ ∨ a ∈ as ++ bs)
      rcases hm with e | hm
      · rw [e, hs]; exact fun z => nomatch z
      · rcases List.mem_append.mp hm with hm | hm
        · exact t1 a hm
        · exact t2 a hm
theorem Dq.readsAll (I : Inv X pins σ H s) : ∀ (ds : List PyData) (vs : List V) (us : List Value), DqAll H vs ds → Vals vs us → ∃ as, ReadsAll s.heap us ds as ∧ ∀ a ∈ as, H a ≠ none
  | [], _, _, h, r => by cases h; cases r; exact ⟨_, .nil, fun _ z => nomatch z⟩
  | d :: ds, _, _, h, r => by
    cases h with
    | cons h1 h2 =>
      cases r with
      | cons r1 r2 =>
        obtain ⟨as, q1, t1⟩ := Dq.reads I d _ _ h1 r1
        obtain ⟨bs, q2, t2⟩ := Dq.readsAll I ds _ _ h2 r2
        exact ⟨_, .cons q1 q2, fun a hm => (List.mem_append.mp hm).elim (t1 a) (t2 a)⟩
theorem Dq.readsKv (I : Inv X pins σ H s) : ∀ (ps : List (PyData × PyData)) (kvs : List (Key × V)) (vs : List (Key × Value)) (es : List DictEntry), DqKv H kvs ps → KV kvs vs → Pairs (mixKind X.prog X.w) es vs →
    ∃ as bs, ReadsAll s.heap (es.map (·.key)) (ps.map (·.1)) as ∧ ReadsAll s.heap (es.map (·.val)) (ps.map (·.2)) bs ∧ (∀ a ∈ as, H a ≠ none) ∧ ∀ a ∈ bs, H a ≠ none
  | [], _, _, _, h, k, p => by
    cases h
    cases k
    cases p
    exact ⟨[], [], .nil, .nil, ⟨fun _ z => (nomatch z), fun _ z => (nomatch z)⟩⟩
  | (kd, d) :: ps, _, _, _, h, k, p => by
    cases h with
    | cons h1 h2 =>
      cases k with
      | cons k1 k2 =>
        cases p with
        | cons hk hv p2 =>
          obtain ⟨e1, e2⟩ := k1
          have hk' : keyIs _ _ = true := hk
          rw [← e1] at hk'
          rcases keyIs_shape hk' with ⟨_, _, z, _⟩ | ⟨y, t, z, ek⟩
          · cases z
          · cases z
            obtain ⟨as, q1, t1⟩ := Dq.reads I d _ _ h1 (hv ▸ e2)
            obtain ⟨bs, cs, q2, q3, t2, t3⟩ := Dq.readsKv I ps _ _ _ h2 k2 p2
            have q0 : Reads s.heap _ (.str _) [] := ek ▸ Reads.str _ t
            refine ⟨_, _, .cons q0 q2, .cons q1 q3, fun a hm => ?_, fun a hm => (List.mem_append.mp hm).elim (t1 a) (t3 a)⟩
            exact t2 a (by simpa using hm)
end
end
/-- small enough to be shown -/
def Shows (d : PyData) : Prop := d.showable = true ∧ d.leavesShort 13 = true ∧ d.weight ≤ 2 ^ 20 ∧ d.depth ≤ 8
section
variable {X : Cx} {p pos : Pos} {e : Expr} {ta : TA}
def rRepr : List V → Hp → VK → Prop := fun vs H Q => ∃ a d, vs = [.ref a] ∧ Dq H (.ref a) d ∧ Shows d ∧ Q (.str d.shown) H
/-- nothing tracked stands at sys.modules -/
theorem no_sys {pins : List (Addr × Obj)} {σ : L2.St} {H : Hp} {s : Shared} (hs : (X.K.lookup sysModules).isSome = true) (I : Inv X pins σ H s) : H sysModules = none := by
  obtain ⟨o, ho⟩ := Option.isSome_iff_exists.mp hs
  exact (I.bs _ _ (I.mod.kin _ _ ho)).2
theorem call_reprD {k : Nat} (hr : Rm k X.A) (hs : (X.K.lookup sysModules).isSome = true) : CallR X (.builtin "repr") rRepr := by
  intro pins s σ H xs us Q I r h
  obtain ⟨a, d, rfl, hd, ⟨h1, h2, h3, h4⟩, q⟩ := h
  cases r with
  | cons r1 r2 =>
    cases r2
    obtain ⟨as, rd, ht⟩ := Dq.reads I d _ _ hd r1
    cases r1
    refine repr_of_reads' rd h1 (fun _ hm => ht _ hm (no_sys hs I)) hr.g ?_ (fun _ _ z => z) (fun h' u tk hk => ⟨.str d.shown, H, I.kept hk, ⟨u, rfl⟩, q⟩) (PyData.shown_fits (by decide) (by decide) h2 h3)
    have := hr.r.un
    omega
end
end Bn
/-! W33: what is told of a cut, as data. -/
namespace Bn
open PySem PySem.Spec PyProof.Rows L2
structure Sh (d : PyData) (w p : Nat) : Prop where
  s : d.showable = true
  l : d.leavesShort 13 = true
  w : d.weight ≤ w
  p : d.depth ≤ p
theorem Sh.shows {d : PyData} {w p : Nat} (h : Sh d w p) (hw : w ≤ 2 ^ 20) (hp : p ≤ 8) : Shows d := ⟨h.s, h.l, Nat.le_trans h.w hw, Nat.le_trans h.p hp⟩
theorem Sh.mono {d : PyData} {w p w' p' : Nat} (h : Sh d w p) (hw : w ≤ w') (hp : p ≤ p') : Sh d w' p' := ⟨h.s, h.l, Nat.le_trans h.w hw, Nat.le_trans h.p hp⟩
theorem sh_none : Sh .none 8 0 := ⟨rfl, rfl, Nat.zero_le _, Nat.le_refl _⟩
def intOk (n : Nat) : Bool := (PyData.int n).showable && (PyData.int n).leavesShort 13 && decide ((PyData.int n).weight ≤ 8) && decide ((PyData.int n).depth ≤ 0)
theorem ints_ok : ∀ n : Nat, n < 64 → intOk n = true := by decide +kernel
theorem sh_int {i : Int} (h0 : 0 ≤ i) (h1 : i < 64) : Sh (.int i) 8 0 := by
  obtain ⟨n, rfl⟩ : ∃ n : Nat, i = n := ⟨i.toNat, by omega⟩
  have z := ints_ok n (by omega)
  unfold intOk at z
  simp only [Bool.and_eq_true, decide_eq_true_iff] at z
  exact ⟨z.1.1.1, z.1.1.2, z.1.2, z.2⟩
theorem sml_lt : ∀ c ∈ SML.cps.toList, c < 16 ^ 8 := by decide +kernel
theorem sh_str {x : Str} (h : okName x = true) : Sh (.str x) 8 0 := by
  unfold okName at h
  simp only [Bool.and_eq_true, decide_eq_true_iff] at h
  refine ⟨rfl, ?_, h.2.1, Nat.le_refl _⟩
  show (x.cps.toList.all fun c => decide (c < 16 ^ 8)) = true
  rw [List.all_eq_true]
  intro c hc
  have z := List.all_eq_true.mp h.2.2.2 c hc
  rw [decide_eq_true_iff] at z ⊢
  exact sml_lt c z
theorem sh_all {w p : Nat} : ∀ {ds : List PyData}, (∀ d ∈ ds, Sh d w p) → PyData.showableAll ds = true ∧ PyData.leavesShortAll 13 ds = true ∧ PyData.weightAll ds ≤ (w + 1) * ds.length ∧ PyData.depthAll ds ≤ p
  | [], _ => ⟨rfl, rfl, Nat.zero_le _, Nat.zero_le _⟩
  | d :: ds, h => by
    obtain ⟨h1, h2, h3, h4⟩ := sh_all (w := w) (p := p) (ds := ds) fun x hx => h x (List.mem_cons_of_mem _ hx)
    obtain ⟨g1, g2, g3, g4⟩ := h d List.mem_cons_self
    refine ⟨?_, ?_, ?_, ?_⟩
    · show (d.showable && PyData.showableAll ds) = true
      rw [g1, h1]; rfl
    · show (d.leavesShort 13 && PyData.leavesShortAll 13 ds) = true
      rw [g2, h2]; rfl
    · show d.weight + 1 + PyData.weightAll ds ≤ (w + 1) * (ds.length + 1)
      rw [Nat.mul_succ]; omega
    · show max d.depth (PyData.depthAll ds) ≤ p
      omega
theorem sh_kv {w p : Nat} : ∀ {ps : List (PyData × PyData)}, (∀ q ∈ ps, Sh q.1 w p ∧ Sh q.2 w p) → PyData.showableKv ps = true ∧ PyData.leavesShortKv 13 ps = true ∧ PyData.weightKv ps ≤ (2 * w + 2) * ps.length ∧ PyData.depthKv ps ≤ p
  | [], _ => ⟨rfl, rfl, Nat.zero_le _, Nat.zero_le _⟩
  | (a, b) :: ps, h => by
    obtain ⟨h1, h2, h3, h4⟩ := sh_kv (w := w) (p := p) (ps := ps) fun x hx => h x (List.mem_cons_of_mem _ hx)
    obtain ⟨⟨g1, g2, g3, g4⟩, ⟨f1, f2, f3, f4⟩⟩ : Sh a w p ∧ Sh b w p := h (a, b) List.mem_cons_self
    refine ⟨?_, ?_, ?_, ?_⟩
    · show (a.showable && b.showable && PyData.showableKv ps) = true
      rw [g1, f1, h1]; rfl
    · show (a.leavesShort 13 && b.leavesShort 13 && PyData.leavesShortKv 13 ps) = true
      rw [g2, f2, h2]; rfl
    · show a.weight + b.weight + 2 + PyData.weightKv ps ≤ (2 * w + 2) * (ps.length + 1)
      rw [Nat.mul_succ]; omega
    · show max (max a.depth b.depth) (PyData.depthKv ps) ≤ p
      omega
theorem sh_list {w p : Nat} {ds : List PyData} (h : ∀ d ∈ ds, Sh d w p) : Sh (.list ds) ((w + 1) * ds.length) (p + 1) := by
  obtain ⟨h1, h2, h3, h4⟩ := sh_all h
  exact ⟨h1, h2, h3, Nat.succ_le_succ h4⟩
theorem sh_tuple {w p : Nat} {ds : List PyData} (h : ∀ d ∈ ds, Sh d w p) : Sh (.tuple ds) ((w + 1) * ds.length) (p + 1) := by
  obtain ⟨h1, h2, h3, h4⟩ := sh_all h
  exact ⟨h1, h2, h3, Nat.succ_le_succ h4⟩
theorem sh_dict {w p : Nat} {ps : List (PyData × PyData)} (h : ∀ q ∈ ps, Sh q.1 w p ∧ Sh q.2 w p) : Sh (.dict ps) ((2 * w + 2) * ps.length) (p + 1) := by
  obtain ⟨h1, h2, h3, h4⟩ := sh_kv h
  exact ⟨h1, h2, h3, Nat.succ_le_succ h4⟩
/-! the data themselves -/
def oiD : Option Int → PyData
  | none => .none
  | some i => .int i
theorem sh_oi {o : Option Int} (h : ∀ i, o = some i → 0 ≤ i ∧ i < 64) : Sh (oiD o) 8 0 := by
  cases o with
  | none => exact sh_none
  | some i => exact sh_int (h i rfl).1 (h i rfl).2
theorem dq_oi {H : Hp} : ∀ {o : Option Int}, Dq H (oi o) (oiD o)
  | none => .non
  | some i => .int i
theorem dq_map {α : Type} {H : Hp} {f : α → V} {g : α → PyData} : ∀ {l : List α}, (∀ x ∈ l, Dq H (f x) (g x)) → DqAll H (l.map f) (l.map g)
  | [], _ => .nil
  | x :: l, h => .cons (h x List.mem_cons_self) (dq_map (l := l) fun y hy => h y (List.mem_cons_of_mem _ hy))
def rowD (cols : List Str) (f : Str → Option Int) : PyData := .dict (cols.map fun c => (.str c, oiD (f c)))
theorem dq_row {H : Hp} {f : Str → Option Int} : ∀ {cols : List Str}, DqKv H (dct cols fun c => oi (f c)) (cols.map fun c => (.str c, oiD (f c)))
  | [] => .nil
  | _ :: _ => .cons dq_oi dq_row
def rowsD (cols : List Str) (T : Vn) : Nat → Nat → List PyData
  | _, 0 => []
  | k, n + 1 => rowD cols (T ((k : Int) + 1)) :: rowsD cols T (k + 1) n
theorem rowsD_len {cols : List Str} {T : Vn} : ∀ {n k : Nat}, (rowsD cols T k n).length = n
  | 0, _ => rfl
  | n + 1, k => congrArg Nat.succ (rowsD_len (n := n) (k := k + 1))
theorem mem_rowsD {cols : List Str} {T : Vn} {d : PyData} : ∀ {n k : Nat}, d ∈ rowsD cols T k n → ∃ r : Int, d = rowD cols (T r)
  | 0, _, h => nomatch h
  | n + 1, k, h => by
    rcases List.mem_cons.mp h with rfl | h
    · exact ⟨_, rfl⟩
    · exact mem_rowsD (n := n) (k := k + 1) h
theorem rows_dq {H : Hp} {cols : List Str} {T : Vn} : ∀ {rs : List Addr} {k : Nat}, (∀ (i : Nat) (r : Addr), rs[i]? = some r → H r = some (.dK (dct cols fun c => oi (T (((k + i : Nat) : Int) + 1) c)))) → DqAll H (rs.map V.ref) (rowsD cols T k rs.length)
  | [], _, _ => .nil
  | r :: rs, k, h => by
    refine .cons (.dic (h 0 r rfl) dq_row) (rows_dq (rs := rs) (k := k + 1) fun i q hq => ?_)
    have z := h (i + 1) q (by simpa using hq)
    rw [show k + 1 + i = k + (i + 1) from by omega]
    exact z
theorem sh_rows {cols : List Str} {T : Vn} {n : Nat} (hc : ∀ c ∈ cols, okName c = true) (hl : cols.length ≤ 4) (hr : ∀ r c i, T r c = some i → 0 ≤ i ∧ i < 64) : Sh (.list (rowsD cols T 0 n)) (73 * n) 2 := by
  have z := sh_list (w := 72) (p := 1) (ds := rowsD cols T 0 n) fun d hd => by
    obtain ⟨r, rfl⟩ := mem_rowsD hd
    have z := sh_dict (w := 8) (p := 0) (ps := cols.map fun c => (PyData.str c, oiD (T r c))) fun q hq => by
      obtain ⟨c, h, rfl⟩ := List.mem_map.mp hq
      exact ⟨sh_str (hc c h), sh_oi (hr r c)⟩
    rw [List.length_map] at z
    exact z.mono (by omega) (Nat.le_refl _)
  rw [rowsD_len] at z
  exact z
end Bn
/-! W16: a sheet against itself. -/
namespace Bn
open PySem PySem.Spec PyProof.Rows L2 StX
open He (ga ma)
theorem ok_str {z : Str} (h : okName z = true) : PyData.strOk z = true := by
  unfold okName at h
  have h4 := (an (an (an h).2).2).2
  unfold PyData.strOk
  rw [← Array.all_toList, List.all_eq_true]
  intro c hc
  have z := of_decide_eq_true (List.all_eq_true.mp h4 c hc)
  have key : ∀ c ∈ SML.cps.toList, c < 0x110000 := by decide +kernel
  exact decide_eq_true (key c z)
theorem strs_lay : ∀ {cs : List Str}, (∀ c ∈ cs, okName c = true) → PyData.canLayAll0 (cs.map PyData.str) = true ∧ PyData.depthAll (cs.map PyData.str) = 0
  | [], _ => ⟨rfl, rfl⟩
  | c :: cs, h => by
    obtain ⟨h1, h2⟩ := strs_lay (cs := cs) fun z hz => h z (List.mem_cons_of_mem _ hz)
    constructor
    · show PyData.canLayAll0 (PyData.str c :: cs.map PyData.str) = true
      rw [PyData.canLayAll0, PyData.canLay0, ok_str (h c List.mem_cons_self), h1]
      rfl
    · show PyData.depthAll (PyData.str c :: cs.map PyData.str) = 0
      rw [PyData.depthAll, PyData.depth, h2]
      rfl
theorem strs_eqv : ∀ cs : List Str, PyData.eqvAll (cs.map PyData.str) (cs.map PyData.str) = true
  | [] => rfl
  | c :: cs => by
    show PyData.eqvAll (PyData.str c :: cs.map PyData.str) (PyData.str c :: cs.map PyData.str) = true
    rw [PyData.eqvAll, strs_eqv cs, PyData.eqv]
    simp
theorem strs_shaped {cs : List Str} (h : ∀ c ∈ cs, okName c = true) : SeqAt.shaped (.tuple (cs.map PyData.str)) = true := by
  obtain ⟨h1, h2⟩ := strs_lay h
  unfold SeqAt.shaped
  rw [PyData.canLay0, PyData.depth, h1, h2]
  rfl
theorem strs_dp {K : Fr} {H : Hp} : ∀ cs : List Str, DpAll K H (cs.map V.str) (cs.map PyData.str)
  | [] => .nil
  | c :: cs => .cons (.str c) (strs_dp cs)
section
variable {w : World} {K : Fr} {mg : Str → Option Value} {base : Heap}
def pShEq (K : Fr) : Pr := fun vs H Q => ∃ a S, vs = [.ref a, .ref a] ∧ IsSheet K H a S ∧ S.Ok ∧ Q (.bl true) H
theorem k_Sheet_eq (G : GD K mg) : Keeps PP w K mg base 1 (ma K (ga K "Sheet") "__eq__") (pShEq K) := by
  obtain ⟨fd, F⟩ := fd_Sheet_eq G
  refine kp_fn0 (k := 0) F sc_Sheet_eq (fun _ _ _ _ _ _ us hl => match us, hl with | [_, _], _ => rfl) (by rintro _ _ _ ⟨a, S, rfl, _⟩; rfl) fun cdv A outer s H vs Q E hr hp => ?_
  obtain ⟨a, S, rfl, ⟨dx, c, t, kd, p, h0, h1, h2, ⟨ys, ka, hy, h3, h4⟩, ⟨rs, h5, h6⟩⟩, ok, hq⟩ := hp
  have cf := cf_Sheet G
  have ci := ci_Sheet G
  have hu := hr.r.units
  have fm := fld_of h0 cf (f := "own_modulus") (by decide +kernel) (v := .int S.m) (by rfl)
  have fc := fld_of h0 cf (f := "own_columns") (by decide +kernel) (v := .ref c) (by rfl)
  have ft := fld_of h0 cf (f := "own_top") (by decide +kernel) (v := .ref t) (by rfl)
  have fk := fld_of h0 cf (f := "own_formulas") (by decide +kernel) (v := .ref kd) (by rfl)
  have fp := fld_of h0 cf (f := "own_plan") (by decide +kernel) (v := .ref p) (by rfl)
  refine ⟨_, pss_cons (ps_if (PW.pt (pw_or (pt_not (pt_val (pe_callB call_isi (by rfl) (gf_isinstance G) rfl (pa_cons (pv 1) (pa_cons (pe_glob (by rfl) (gr_Sheet G) (show RelV (.ref _) _ from rfl)) pa_nil))))) (pw_or1 (pt_cmpR op_ne (pe_fl (pv 0)) (pe_fl (pv 1)) (nomark _))))) (pss_one (ps_ret pe_bl)) pss_nil)
    (pss_cons (ps_if (PW.pt (pw_or (pt_cmpR (op_neD hu) (pe_fl (pv 0)) (pe_fl (pv 1)) (nomark _)) (pw_or1 (pt_cmpR (op_neSelf hu) (pe_fl (pv 0)) (pe_fl (pv 1)) (nomark _))))) (pss_one (ps_ret pe_bl)) pss_nil)
    (pss_one (ps_ret (pe_and (pe_cmpR (op_eqV hu) (pe_fl (pv 0)) (pe_fl (pv 1)) (nomark _)) (pe_one (pe_cmpR (op_eqSelf hu) (pe_fl (pv 0)) (pe_fl (pv 1)) (nomark _))))))), ?_⟩
  refine ⟨_, rfl, _, _, _, _, true, rfl, .own _, .base (.ins h0 cf.cl ci.ha ci.hn ci.tk ci.hm), kt_Sheet G, _, rfl, iteF ?_⟩
  refine ⟨_, rfl, _, fm, _, rfl, _, fm, rfl, _, rfl, ifF (by simp) ?_⟩
  refine ⟨_, rfl, _, fc, _, rfl, _, fc, .tuple (S.cols.map PyData.str), .tuple (S.cols.map PyData.str), .tup (.of h1) (strs_dp _), .tup (.of h1) (strs_dp _), strs_shaped ok.co, strs_shaped ok.co, _, rfl, ifF ?_ ?_⟩
  · rw [PyData.eqv, strs_eqv]; rfl
  refine ⟨_, rfl, _, ft, _, rfl, _, ft, t, _, rfl, rfl, h2, _, rfl, iteF ?_⟩
  refine ⟨_, rfl, _, fp, _, rfl, _, fp, 1, by omega, .inl ⟨p, p, _, _, rfl, rfl, .of h5, .of h5, ?_⟩, _, rfl, iteT ?_⟩
  · refine paired_of rfl fun i x y hx hy => ?_
    rw [hx] at hy
    cases hy
    obtain ⟨b, _, rfl⟩ := some_map hx
    exact .inr (.inl ⟨b, rfl, rfl⟩)
  exact ⟨_, rfl, _, fk, _, rfl, _, fk, kd, _, rfl, rfl, h3, hq⟩
theorem eq_sheet (G : GD K mg) {k : Nat} (hk : 1 ≤ k) : EqR PP w K mg base k (ga K "Sheet") (pShEq K) := ⟨_, (ne_Sheet G).1, (ne_Sheet G).2, (eq_Sheet G).1, (eq_Sheet G).2, (k_Sheet_eq G).mono hk⟩
end
end Bn
/-! W34: _law_is_right. -/
namespace Bn
open PySem PySem.Spec PyProof.Rows L2 StX
open He (ga ma)
theorem map_of {α : Type} {f : α → V} : ∀ {l : List α} {ys : List V}, ys.length = l.length → (∀ (i : Nat) (y : V), ys[i]? = some y → ∃ z, l[i]? = some z ∧ y = f z) → ys = l.map f
  | [], [], _, _ => rfl
  | [], _ :: _, h, _ => by simp at h
  | _ :: _, [], h, _ => by simp at h
  | x :: l, y :: ys, hl, h => by
    obtain ⟨z, e1, e2⟩ := h 0 y rfl
    cases e1
    rw [List.map_cons, ← e2, ← map_of (f := f) (l := l) (ys := ys) (by simpa using hl) fun i w hw => h (i + 1) w (by simpa using hw)]
section
variable {w : World} {K : Fr} {mg : Str → Option Value} {base : Heap}
def pIsR (K : Fr) : Pr := fun vs H Q => ∃ (y mh md wd rw_ : Addr) (S : Sm) (ws : List Str) (T : Vn), vs = [.ref y, .ref mh, .ref md, .ref wd, .ref rw_] ∧ CutAt K H y ws mh T ∧ IsSheet K H mh S ∧ S.Ok ∧ IsMo H md S ∧ H wd = some (.lst (ws.map V.str)) ∧ DueAt H rw_ S.cols ws.length T ∧ (∀ k ∈ ws, k ∈ S.kinds) ∧ ws.length ≤ 16 ∧ (prb S ws).Good T ∧
  ∀ H' : Hp, Same H H' → Q (.bl true) H'
theorem k_law_is_right (G : GD K mg) : Keeps PP w K mg base 6 (ga K "_law_is_right") (pIsR K) := by
  obtain ⟨fd, F⟩ := fd_law_is_right G
  refine kp_fnN (k := 5) F sc_law_is_right (fun _ _ _ _ _ _ us hl => match us, hl with | [_, _, _, _, _], _ => rfl) (by rintro _ _ _ ⟨y, mh, md, wd, rw_, S, ws, T, rfl, _⟩; rfl) fun cdv A outer s H vs Q E hr hp => ?_
  obtain ⟨y, mh, md, wd, rw_, S, ws, T, rfl, hC, hS, ok, ⟨c, t, k, p, hmd, hM⟩, hwd, ⟨rs, hrw, hrl, hrt⟩, hk, hlen, gd, hq⟩ := hp
  have nd := sc_law_is_right.nd
  have hs := sizeLine_eq
  have hu := hu_of hr.r
  refine ⟨_, pss_cons (ps_setLc (i := 5) (own := [("_law_at", 6)]) (g := gName 6) (tt := tYes) (te := tMm (MetR PP w K mg base 5) "row_values" (tVar 0) (tCons (tOp (rI0 fun i j => .int (i + j)) (tVar 6) (tC (.int 1))) tNil)) rfl nd rfl rfl (sw_true rfl rfl rfl (by decide +kernel)) (pi_range1 (by rfl) (gf_range G) (pa_cons (pe_callB call_len_seq (by rfl) (gf_len G) rfl (pa_cons (pv 3) pa_nil)) pa_nil)) (blkOk_by (N := N_law_is_right) (sc := defScope s_law_is_right) (by decide +kernel))
      (fun _ _ _ _ _ => pg_name (i := 6) nd rfl (by first | exact Or.inl rfl | exact Or.inr rfl)) (fun _ _ _ _ _ => pts_nil) (fun _ _ _ _ _ => pe_mm hr (pv 0) (pa_cons (pe_op op_add (pv 6) pe_int) pa_nil)))
    (pss_cons (ps_if (PW.pt (pw_or (pt_cmpR op_ne (pe_callB (call_reprD hr (g_sys G)) (by rfl) (gf_repr G) rfl (pa_cons (pv 5) pa_nil)) (pe_callB (call_reprD hr (g_sys G)) (by rfl) (gf_repr G) rfl (pa_cons (pv 4) pa_nil)) (nomark _)) (pw_or1 (pt_cmpR (op_neOwn (k := 4) hr) (pe_pp (k := 4) hr (pv 0)) (pv 1) (nomark _))))) pss_never pss_nil)
    (pss_cons (ps_for PassesOwn.never rfl (pi_range1 (by rfl) (gf_range G) (pa_cons (pe_callB call_len_seq (by rfl) (gf_len G) rfl (pa_cons (pv 3) pa_nil)) pa_nil)) (pg_name (i := 6) nd rfl (by first | exact Or.inl rfl | exact Or.inr rfl))
      (pss_cons (ps_expr (pe_dclear (pe_ix ix_list (pv 5) (pv 6) (fun _ _ => rfl))))
      (pss_cons (ps_setLc (i := 7) (own := [("_law_column", 8)]) (g := gName 8) (tt := tYes) (te := tMm (MetR PP w K mg base 5) "value_at" (tVar 0) (tCons (tOp (rI0 fun i j => .int (i + j)) (tVar 6) (tC (.int 1))) (tCons (tVar 8) tNil))) rfl nd rfl rfl (sw_true rfl rfl rfl (by decide +kernel)) (pi_list (pe_dget hu (pv 2) pe_str (fun _ _ => rfl))) (blkOk_by (N := N_law_is_right) (sc := defScope s_law_is_right) (by decide +kernel))
        (fun _ _ _ _ _ => pg_name (i := 8) nd rfl (by first | exact Or.inl rfl | exact Or.inr rfl)) (fun _ _ _ _ _ => pts_nil) (fun _ _ _ _ _ => pe_mm hr (pv 0) (pa_cons (pe_op op_add (pv 6) pe_int) (pa_cons (pv 8) pa_nil))))
      (pss_one (ps_if (pt_cmpR op_ne (pe_callB (call_reprD hr (g_sys G)) (by rfl) (gf_repr G) rfl (pa_cons (pv 7) pa_nil)) (pe_callB (call_reprD hr (g_sys G)) (by rfl) (gf_repr G) rfl (pa_cons (pe_lc (own := [("_law_column", 8)]) (g := gName 8) (tt := tYes) (te := tDGet (tOp (rIxL K) (tVar 4) (tVar 6)) (tVar 8)) rfl nd (pi_list (pe_dget hu (pv 2) pe_str (fun _ _ => rfl))) (blkOk_by (N := N_law_is_right) (sc := defScope s_law_is_right) (by decide +kernel))
        (fun _ _ _ _ _ => pg_name (i := 8) nd rfl (by first | exact Or.inl rfl | exact Or.inr rfl)) (fun _ _ _ _ _ => pts_nil) (fun _ _ _ _ _ => pe_dget hu (pe_ix ix_list (pv 4) (pv 6) (fun _ _ => rfl)) (pv 8) (fun _ _ => rfl))) pa_nil)) (nomark _)) pss_never pss_nil)))))
    (pss_one (ps_ret (pe_cmpR op_eq (pe_callB (call_reprD hr (g_sys G)) (by rfl) (gf_repr G) rfl (pa_cons (pe_lst (pa_cons (pe_callB (call_lenOwn (k := 4) hr) (by rfl) (gf_len G) rfl (pa_cons (pv 0) pa_nil)) (pa_cons (pe_pp (k := 4) hr (pv 0)) (pa_cons (pe_pp (k := 4) hr (pv 0)) pa_nil)))) pa_nil))
      (pe_callB (call_reprD hr (g_sys G)) (by rfl) (gf_repr G) rfl (pa_cons (pe_lst (pa_cons (pe_callB call_len_seq (by rfl) (gf_len G) rfl (pa_cons (pv 3) pa_nil)) (pa_cons (pe_callTy call_tuple_of (by rfl) (gf_tuple G) rfl (pa_cons (pv 3) pa_nil)) (pa_cons pe_non pa_nil)))) pa_nil)) (nomark _)))))), ?_⟩
  obtain ⟨mc, _⟩ := hM
  have hc4 := ok.c4
  have m9 := ok.m9
  have hrng : ∀ r c i, T r c = some i → 0 ≤ i ∧ i < 64 := fun r c i h => by
    obtain ⟨h1, h2⟩ := gd.rng r c i h
    have h2 : i < S.m := h2
    exact ⟨h1, by omega⟩
  have hll : (ws.map V.str).length = ws.length := List.length_map _
  have mets : ∀ {H1 : Hp}, Same H H1 → MetAt (MetR PP w K mg base 5) H1 (.ref y) "row_values" (pCutRV K) ∧ MetAt (MetR PP w K mg base 5) H1 (.ref y) "value_at" (pCutV K) := fun s => ⟨cut_met (hC.up s) ⟨by decide +kernel, by decide +kernel, by decide +kernel, by decide +kernel, by decide +kernel⟩ ⟨_, (cf_Cut G).cl, mt_Cut_row_values G, (k_Cut_row_values G).mono (by omega)⟩, cut_met (hC.up s) ⟨by decide +kernel, by decide +kernel, by decide +kernel, by decide +kernel, by decide +kernel⟩ ⟨_, (cf_Cut G).cl, mt_Cut_value_at G, (k_Cut_value_at G).mono (by omega)⟩⟩
  refine ⟨_, rfl, wd, _, rfl, .inl (.of hwd), ws.length, by rw [hll], by omega, by omega, fun D hD => lc_it walk_range (fun j H1 => Same H H1 ∧ ∃ ds : List Addr, H1 D = some (.lst (ds.map V.ref)) ∧ ds.length = j ∧ (∀ r ∈ ds, H r = none) ∧ RowsT H1 ds S.cols T) ⟨Same.new hD, [], upd_same, rfl, (fun _ h => nomatch h), fun i r h => by simp at h⟩ (fun _ _ _ _ => trivial) ?_ ?_⟩
  · rintro j v H1 H1' hj ⟨s1, ds, hD1, hdl, hdn, hdr⟩ ⟨rfl, rfl⟩
    refine ⟨rfl, tYes_if ?_⟩
    refine ⟨_, rfl, _, (mets s1).1, _, rfl, _, _, rfl, rfl, y, ws, mh, T, ((j : Nat) : Int) + 1, S, by rw [Int.zero_add], hC.up s1, by omega, by omega, hS.up s1, ok, fun H2 d s2 hd hd2 => ?_⟩
    have hD2 := s2 _ _ hD1
    have hdD : d ≠ D := (ne_of_none hD1 hd).symm
    refine ⟨_, hD2, by rw [List.length_map]; omega, L2.Same.put (same_trans s1 s2) hD, ds ++ [d], by rw [upd_same, List.map_append]; rfl, by rw [List.length_append, hdl]; rfl, fun r hr' => ?_, fun i r hir => ?_⟩
    · rcases List.mem_append.mp hr' with hr' | hr'
      · exact hdn r hr'
      · cases List.mem_singleton.mp hr'
        exact s1.free hd
    · by_cases hlt : i < ds.length
      · rw [List.getElem?_append_left hlt] at hir
        have z := hdr i r hir
        exact upd_of (s2 _ _ z) hD2 (fun z => nomatch z)
      · have hlt2 : i < (ds ++ [d]).length := (List.getElem?_eq_some_iff.mp hir).1
        have hi' : i = ds.length := by simp at hlt2; omega
        subst hi'
        rw [List.getElem?_append_right (Nat.le_refl _), Nat.sub_self] at hir
        cases hir
        rw [upd_ne hdD, hdl]
        exact hd2
  rintro H1 ⟨s1, ds, hD1, hdl, hdn, hdr⟩
  have hdl : ds.length = ws.length := hdl
  have q1 : ∀ {rs : List Addr} {a : Addr}, H1 a = some (.lst (rs.map V.ref)) → rs.length = ws.length → RowsT H1 rs S.cols T → Dq H1 (.ref a) (.list (rowsD S.cols T 0 ws.length)) := fun {rs a} h1 h2 h3 => .lst h1 (by rw [← h2]; exact rows_dq fun i r hir => by rw [Nat.zero_add]; exact h3 i r hir)
  have sh1 : Shows (.list (rowsD S.cols T 0 ws.length)) := (sh_rows ok.co hc4 hrng).shows (by omega) (by omega)
  have hS1 := hS.up s1
  obtain ⟨dxs, _, _, _, _, hS0, _⟩ := hS1
  refine ⟨_, rfl, D, _, rfl, q1 hD1 hdl hdr, sh1, _, rfl, rw_, _, rfl, q1 (s1 _ _ hrw) hrl (hrt.up s1), sh1, rfl, _, rfl, ifF (by simp) ?_⟩
  refine ⟨_, rfl, _, cut_prp (hC.up s1) ⟨_, _, (cf_Cut G).cl, pr_Cut_sheet G, (k_Cut_sheet G).mono (by omega)⟩, y, ws, mh, T, rfl, hC.up s1, _, rfl, mh, mh, _, dxs, dxs, _, _, pShEq K, rfl, rfl, hS0, hS0, eq_sheet G (by omega), mh, S, rfl, hS.up s1, ok, true, rfl, _, rfl, ifF rfl ?_⟩
  refine ⟨_, rfl, wd, _, rfl, .inl (.of (s1 _ _ hwd)), ws.length, by rw [hll], by omega, by omega, for_it walk_range (fun i σ H3 => Same H H3 ∧ H3 D = some (.lst (ds.map V.ref)) ∧ (∀ r ∈ ds, ∃ kvs, H3 r = some (.dK kvs)) ∧ ∃ (c6 c7 c8 : Option V), σ = [some (.ref y), some (.ref mh), some (.ref md), some (.ref wd), some (.ref rw_), some (.ref D), c6, c7, c8])
    ⟨s1, hD1, fun r hr' => by obtain ⟨i, hi⟩ := List.mem_iff_getElem?.mp hr'; exact ⟨_, hdr i r hi⟩, _, _, _, rfl⟩ (fun _ _ _ _ _ => trivial) ?_ ?_⟩
  · rintro i v σ H3 H3' hi ⟨s3, hD3, hds3, c6, c7, c8, rfl⟩ ⟨rfl, rfl⟩
    obtain ⟨r, hr1⟩ : ∃ r, ds[i]? = some r := ⟨_, List.getElem?_eq_getElem (by omega)⟩
    obtain ⟨kvs, hkvs⟩ := hds3 r (List.mem_of_getElem? hr1)
    have hrD : r ≠ D := ne_of hkvs hD3 (fun z => nomatch z)
    refine ⟨_, rfl, _, rfl, D, _, _, .ref r, rfl, rfl, .of hD3, at_of (j := i) (by omega) (by rw [List.getElem?_map, hr1]; rfl), .inr (.inr (.inl ⟨rfl, .inl ⟨_, hkvs⟩⟩)), r, kvs, rfl, rfl, hkvs, ?_⟩
    have s4 := s3.put (o := .dK []) (hdn r (List.mem_of_getElem? hr1))
    have hD4 : upd H3' r (.dK []) D = some (.lst (ds.map V.ref)) := by rw [upd_ne hrD.symm]; exact hD3
    have hds4 : ∀ q ∈ ds, ∃ kvs, upd H3' r (.dK []) q = some (.dK kvs) := fun q hq' => by
      by_cases e : q = r
      · rw [e]; exact ⟨_, upd_same⟩
      · rw [upd_ne e]; exact hds3 q hq'
    generalize upd H3' r (.dK []) = H4 at s4 hD4 hds4
    have mc4 := s4 _ _ mc
    refine ⟨_, rfl, md, .ref c, rfl, .inl ⟨_, .inr "columns", .inl (s4 _ _ hmd), rfl, (by rfl)⟩, c, rfl, ⟨_, .of mc4⟩, fun F hF => lc_gr (B := H4) (walk_list (K := K) (a := c) (xs := S.cols.map V.str)) (by rw [List.length_map]; omega) hF (fun l v _ => ∃ z, S.cols[l]? = some z ∧ v = oi (T (((i : Nat) : Int) + 1) z)) (fun _ _ _ _ _ h => h) (fun _ _ _ s => .of (s _ _ mc4)) ?_ ?_⟩
    · rintro l v2 H5 H5' acc hl s5 hF5 ⟨rfl, hv2⟩ Fin hFin
      obtain ⟨z, hz, rfl⟩ := some_map hv2
      have s45 := same_trans s4 s5
      exact ⟨rfl, _, rfl, _, (mets s45).2, _, rfl, _, _, rfl, rfl, _, rfl, y, ws, mh, T, ((i : Nat) : Int) + 1, z, S, by rw [Int.zero_add], hC.up s45, by omega, by omega, hS.up s45, List.mem_of_getElem? hz, fun H6 s6 => hFin _ _ s6 ⟨z, hz, rfl⟩⟩
    intro H5 ys s5 hF5 hl5 hR5
    rw [List.length_map] at hl5
    have e5 := map_of hl5 hR5
    subst e5
    have s45 := same_trans s4 s5
    have mc5 := s45 _ _ mc
    have shF : Shows (.list (S.cols.map fun z => oiD (T (((i : Nat) : Int) + 1) z))) := by
      have z := sh_list (w := 8) (p := 0) (ds := S.cols.map fun z => oiD (T (((i : Nat) : Int) + 1) z)) fun d hd => by
        obtain ⟨c', h, rfl⟩ := List.mem_map.mp hd
        exact sh_oi (hrng _ c')
      rw [List.length_map] at z
      exact z.shows (by omega) (by omega)
    refine ⟨_, rfl, F, _, rfl, .lst hF5 (dq_map fun _ _ => dq_oi), shF, ?_⟩
    obtain ⟨ro, hro⟩ : ∃ ro, rs[i]? = some ro := ⟨_, List.getElem?_eq_getElem (by omega)⟩
    refine ⟨_, rfl, md, .ref c, rfl, .inl ⟨_, .inr "columns", .inl (s45 _ _ hmd), rfl, (by rfl)⟩, c, rfl, ⟨_, .of mc5⟩, fun F2 hF2 => lc_gr (B := H5) (walk_list (K := K) (a := c) (xs := S.cols.map V.str)) (by rw [List.length_map]; omega) hF2 (fun l v _ => ∃ z, S.cols[l]? = some z ∧ v = oi (T (((i : Nat) : Int) + 1) z)) (fun _ _ _ _ _ h => h) (fun _ _ _ s => .of (s _ _ mc5)) ?_ ?_⟩
    · rintro l v2 H6 H6' acc hl s6 hF6 ⟨rfl, hv2⟩ Fin hFin
      obtain ⟨z, hz, rfl⟩ := some_map hv2
      have hzc := List.mem_of_getElem? hz
      have s46 := same_trans s45 s6
      exact ⟨rfl, _, rfl, _, rfl, rw_, _, _, .ref ro, rfl, rfl, .of (s46 _ _ hrw), at_of (j := i) (by omega) (by rw [List.getElem?_map, hro]; rfl), _, rfl, ro, oi (T (((i : Nat) : Int) + 1) z), rfl, .inl ⟨_, .inr z, .inl (s46 _ _ (hrt i ro hro)), rfl, (dct_in (f := fun c => oi (T (((i : Nat) : Int) + 1) c)) hzc).symm⟩, hFin _ _ (Same.refl _) ⟨z, hz, rfl⟩⟩
    intro H6 ys6 s6 hF6 hl6 hR6
    rw [List.length_map] at hl6
    have e6 := map_of hl6 hR6
    subst e6
    have s46 := same_trans s45 s6
    have s56 := same_trans s5 s6
    refine ⟨F2, _, rfl, .lst hF6 (dq_map fun _ _ => dq_oi), shF, rfl, _, rfl, ifF (by simp) ?_⟩
    exact ⟨s46, s56 _ _ hD4, fun q hq' => by obtain ⟨kvs, e⟩ := hds4 q hq'; exact ⟨kvs, s56 _ _ e⟩, _, _, _, rfl⟩
  · rintro σ H3 ⟨s3, hD3, hds3, c6, c7, c8, rfl⟩
    have hC3 := hC.up s3
    obtain ⟨dy, _, _, _, hy0, _⟩ := hC3
    have hC3 := hC.up s3
    have shW : Shows (.list [.int (ws.length : Int), .tuple (ws.map PyData.str), .none]) := by
      have zt := sh_tuple (w := 8) (p := 0) (ds := ws.map PyData.str) fun d hd => by
        obtain ⟨x, h, rfl⟩ := List.mem_map.mp hd
        exact sh_str (ok.ko x (hk x h))
      rw [List.length_map] at zt
      have z := sh_list (w := 144) (p := 1) (ds := [.int (ws.length : Int), .tuple (ws.map PyData.str), .none]) fun d hd => by
        rcases List.mem_cons.mp hd with rfl | hd
        · exact (sh_int (by omega) (by omega)).mono (by omega) (by omega)
        rcases List.mem_cons.mp hd with rfl | hd
        · exact zt.mono (by omega) (by omega)
        cases List.mem_singleton.mp hd
        exact sh_none.mono (by omega) (by omega)
      exact z.shows (by show 145 * 3 ≤ _; omega) (by omega)
    refine ⟨_, rfl, y, _, dy, _, pCutL K, rfl, hy0, ⟨_, (ln_Cut G).1, (ln_Cut G).2, (k_Cut_len G).mono (by omega)⟩, y, ws, mh, T, rfl, hC3, ws.length, rfl, by omega, ?_⟩
    refine ⟨_, rfl, _, cut_prp hC3 ⟨_, _, (cf_Cut G).cl, pr_Cut_word G, (k_Cut_word G).mono (by omega)⟩, y, ws, mh, T, rfl, hC3, fun wt hwt => ⟨_, rfl, _, cut_prp hC3 ⟨_, _, (cf_Cut G).cl, pr_Cut_foot G, (k_Cut_foot G).mono (by omega)⟩, y, ws, mh, T, rfl, hC3, (by show 3 ≤ sizeLine; decide), fun l1 hl1 => ?_⟩⟩
    have s4 := Same.new (o := .lst [.int (ws.length : Int), .ref wt, .non]) hl1
    have h4 : upd H3 l1 (.lst [.int (ws.length : Int), .ref wt, .non]) l1 = some (.lst [.int (ws.length : Int), .ref wt, .non]) := upd_same
    generalize upd H3 l1 (.lst [.int (ws.length : Int), .ref wt, .non]) = H4 at s4 h4
    refine ⟨l1, .list [.int (ws.length : Int), .tuple (ws.map PyData.str), .none], rfl, .lst h4 (.cons (.int _) (.cons (.tup (s4 _ _ hwt) (dq_map fun x _ => .str x)) (.cons .non .nil))), shW, ?_⟩
    have s34 := same_trans s3 s4
    have hwd4 := s34 _ _ hwd
    refine ⟨_, rfl, wd, _, rfl, .inl (.of hwd4), _, rfl, wd, _, rfl, .inl ⟨.of hwd4, fun tp htp => ⟨(by show 3 ≤ sizeLine; decide), fun l2 hl2 => ?_⟩⟩⟩
    have s5 := Same.new (o := .tup (ws.map V.str)) htp
    have h5 : upd H4 tp (.tup (ws.map V.str)) tp = some (.tup (ws.map V.str)) := upd_same
    generalize upd H4 tp (.tup (ws.map V.str)) = H5 at s5 h5 hl2
    have s6 := Same.new (o := .lst [.int ((ws.map V.str).length : Int), .ref tp, .non]) hl2
    refine ⟨l2, .list [.int (ws.length : Int), .tuple (ws.map PyData.str), .none], rfl, .lst upd_same (.cons (by rw [hll]; exact .int _) (.cons (.tup (s6 _ _ h5) (dq_map fun x _ => .str x)) (.cons .non .nil))), shW, rfl, ?_⟩
    rw [decide_eq_true rfl]
    exact hq _ (same_trans s34 (same_trans s5 s6))
end
end Bn
/-! W35: what _law_right keeps. -/
namespace Bn
open PySem PySem.Spec PyProof.Rows L2
open He (ga ma)
def YTrip (xs ys zs : List V) : Nat → Hp → V → Hp → Prop := fun i H v H' => ∃ T x y z, v = .ref T ∧ H T = none ∧ H' = upd H T (.tup [x, y, z]) ∧ xs[i]? = some x ∧ ys[i]? = some y ∧ zs[i]? = some z
theorem walk_zip3 {K : Fr} {a b c : Addr} {xs ys zs : List V} (hab : ys.length = xs.length) (hac : zs.length = xs.length) : Walk (Itz3 K a b c) xs.length (fun H => SqL K H a xs ∧ SqL K H b ys ∧ SqL K H c zs) (YTrip xs ys zs) :=
  ⟨fun i _ hi q => ⟨xs, ys, zs, xs[i], ys[i]'(by omega), zs[i]'(by omega), q.1, q.2.1, q.2.2, by simp [hi], by simp [hab, hi], by simp [hac, hi]⟩,
    fun _ q => ⟨xs, ys, zs, q.1, q.2.1, q.2.2, rfl, hab, hac⟩,
    fun _ _ _ _ _ q ⟨T, x, y, z, h1, h2, h3, h4, h5, h6⟩ => ⟨T, x, y, z, h1, h2, h3, h4 _ q.1, h5 _ q.2.1, h6 _ q.2.2⟩⟩
theorem ti_dr {H : Hp} {p : Addr} (hp : PotAt H p) : TI H (dr p H) := by
  obtain ⟨a, b, e, _⟩ := hp
  exact ⟨fun _ _ _ _ _ h => dr_of h e (fun z => nomatch z), fun _ _ h => dr_of h e (fun z => nomatch z)⟩
theorem IsSheet.dr {K : Fr} {H : Hp} {S : Sm} {a p : Addr} (ok : S.Ok) (hp : PotAt H p) (h : IsSheet K H a S) : IsSheet K (Bn.dr p H) a S := by
  have ti := ti_dr hp
  obtain ⟨dx, c, t, k, pl, h0, h1, h2, ⟨ys, ka, hy, h3, h4⟩, ⟨rs, h5, h6⟩⟩ := h
  refine ⟨dx, c, t, k, pl, ti.1 _ _ _ _ _ h0, ti.2 _ _ h1, dr_dK hp h2, ⟨ys, ka, hy, dr_dK hp h3, fun x hx => ?_⟩, rs, ?_, Paired.mapP h6 fun a r ⟨ys, y1, e⟩ => ⟨ys, y1, dr_dK hp e⟩⟩
  · obtain ⟨fa, e1, e2⟩ := h4 x hx
    exact ⟨fa, dr_dK hp e1, fun y hy => let ⟨l, e3⟩ := e2 y hy; ⟨l, e3.ti ti⟩⟩
  · obtain ⟨x, y, e, _⟩ := hp
    refine dr_of h5 e fun z => ?_
    have hl := paired_len h6
    have p1 := ok.p1
    cases rs with
    | nil => rw [← hl] at p1; exact absurd p1 (by decide)
    | cons r rs => injection z with z; injection z with z _; cases z
theorem WdL.dr {H : Hp} {S : Sm} {a p : Addr} (hp : PotAt H p) (h : WdL H S a) : WdL (Bn.dr p H) S a := by
  obtain ⟨ws, e, r⟩ := h
  obtain ⟨x, y, e2, _⟩ := hp
  refine ⟨ws, dr_of e e2 fun z => ?_, r⟩
  cases ws with
  | nil => cases z
  | cons w ws => injection z with z; injection z with z _; cases z
theorem WdL.drw {H H' : Hp} {S : Sm} {a p : Addr} (hp : PotAt H p) (d : Drw p H H') (h : WdL H S a) : WdL H' S a := ((h.dr hp).up d.s).up dr_le
theorem WdL.upd {H : Hp} {S : Sm} {a q : Addr} {o : HO} (h : WdL H S a) (n : a ≠ q) : WdL (L2.upd H q o) S a := let ⟨ws, e, r⟩ := h; ⟨ws, by rw [upd_ne n]; exact e, r⟩
theorem DueAt.updL {H : Hp} {a l : Addr} {cols : List Str} {n : Nat} {T : Vn} {xs : List V} {o : HO} (h : DueAt H a cols n T) (ne : a ≠ l) (hl : H l = some (.lst xs)) : DueAt (L2.upd H l o) a cols n T := by
  obtain ⟨rs, e, r, q⟩ := h
  exact ⟨rs, by rw [upd_ne ne]; exact e, r, fun i r hr => upd_of (q i r hr) hl (fun z => nomatch z)⟩
theorem refs_idx {P : Nat → Addr → Prop} : ∀ {ys : List V}, (∀ (i : Nat) (y : V), ys[i]? = some y → ∃ t, y = .ref t ∧ P i t) → ∃ ts : List Addr, ys = ts.map V.ref ∧ ∀ (i : Nat) (t : Addr), ts[i]? = some t → P i t
  | [], _ => ⟨[], rfl, fun i t h => by simp at h⟩
  | y :: ys, h => by
    obtain ⟨ts, rfl, h2⟩ := refs_idx (P := fun i t => P (i + 1) t) (ys := ys) fun i z hz => h (i + 1) z (by simpa using hz)
    obtain ⟨t, rfl, h3⟩ := h 0 y rfl
    refine ⟨t :: ts, rfl, fun i x hx => ?_⟩
    cases i with
    | zero => cases hx; exact h3
    | succ i => exact h2 i x (by simpa using hx)
/-- the cuts and the law's own ones -/
structure RightAt (K : Fr) (B H : Hp) (S : Sm) (mh CL DL : Addr) (as cs ds : List Addr) (wo : Addr → List Str) : Prop where
  s : Same B H
  c : H CL = some (.lst (cs.map V.ref))
  d : H DL = some (.lst (ds.map V.ref))
  fc : ∀ (i : Nat) (c : Addr), cs[i]? = some c → ∃ x T, as[i]? = some x ∧ CutAt K H c (wo x) mh T ∧ (prb S (wo x)).Good T ∧ (prb S (wo x)).Closed T
  fd : ∀ (i : Nat) (r : Addr), ds[i]? = some r → ∃ x T, as[i]? = some x ∧ DueAt H r S.cols (wo x).length T ∧ (prb S (wo x)).Good T ∧ (prb S (wo x)).Closed T
theorem RightAt.up {K : Fr} {B H H' : Hp} {S : Sm} {mh CL DL : Addr} {as cs ds : List Addr} {wo : Addr → List Str} (h : RightAt K B H S mh CL DL as cs ds wo) (s : Same H H') : RightAt K B H' S mh CL DL as cs ds wo :=
  ⟨same_trans h.s s, s _ _ h.c, s _ _ h.d, fun i c hc => let ⟨x, T, e1, e2, e3⟩ := h.fc i c hc; ⟨x, T, e1, e2.up s, e3⟩, fun i c hc => let ⟨x, T, e1, e2, e3⟩ := h.fd i c hc; ⟨x, T, e1, e2.up s, e3⟩⟩
theorem RightAt.app {K : Fr} {B H : Hp} {S : Sm} {mh CL DL : Addr} {as cs ds : List Addr} {wo : Addr → List Str} (h : RightAt K B H S mh CL DL as cs ds wo) {a : Addr} {xs : List V} {o : HO} (ha : H a = some (.lst xs)) (hb : B a = none) (h1 : CL ≠ a) (h2 : DL ≠ a) (h3 : ∀ r ∈ ds, r ≠ a) : RightAt K B (L2.upd H a o) S mh CL DL as cs ds wo :=
  ⟨h.s.put hb, by rw [upd_ne h1]; exact h.c, by rw [upd_ne h2]; exact h.d, fun i c hc => let ⟨x, T, e1, e2, e3⟩ := h.fc i c hc; ⟨x, T, e1, e2.updL ha, e3⟩, fun i c hc => let ⟨x, T, e1, e2, e3⟩ := h.fd i c hc; ⟨x, T, e1, e2.updL (h3 c (List.mem_of_getElem? hc)) ha, e3⟩⟩
end Bn
/-! W36: _law_right. -/
namespace Bn
open PySem PySem.Spec PyProof.Rows L2 StX
open He (ga ma)
section
variable {w : World} {K : Fr} {mg : Str → Option Value} {base : Heap}
def pRight : Pr := fun vs H Q => ∃ p : Addr, vs = [.ref p] ∧ PotAt H p ∧ ∀ H', Drw p H H' → Q (.bl true) H'
theorem k_law_right (G : GD K mg) : Keeps PP w K mg base 17 (ga K "_law_right") pRight := by
  obtain ⟨fd, F⟩ := fd_law_right G
  refine kp_fnN (k := 16) F sc_law_right (fun _ _ _ _ _ _ us hl => match us, hl with | [_], _ => rfl) (by rintro _ _ _ ⟨p, rfl, _⟩; rfl) fun cdv A outer s H vs Q E hr hp => ?_
  obtain ⟨p, rfl, hP, hq⟩ := hp
  have nd := sc_law_right.nd
  have hs := sizeLine_eq
  have hu := hu_of hr.r
  have D1 := d_draw (w := w) (base := base) G (k := 16) (by omega)
  have D2 : DefR PP w K mg base 16 "_law_any" pAny := d_any G (by omega)
  have D3 : DefR PP w K mg base 16 "_law_made" (pMade K) := ⟨_, gg_law_made G, gk_law_made G, (k_law_made G).mono (by omega)⟩
  have D4 : DefR PP w K mg base 16 "_law_words" pWords := ⟨_, gg_law_words G, gk_law_words G, (k_law_words G).mono (by omega)⟩
  have D5 : DefR PP w K mg base 16 "_law_word" pWord := ⟨_, gg_law_word G, gk_law_word G, (k_law_word G).mono (by omega)⟩
  have D6 : DefR PP w K mg base 16 "_law_cut" pLCut := ⟨_, gg_law_cut G, gk_law_cut G, (k_law_cut G).mono (by omega)⟩
  have D7 : DefR PP w K mg base 16 "_law_is_right" (pIsR K) := ⟨_, gg_law_is_right G, gk_law_is_right G, (k_law_is_right G).mono (by omega)⟩
  have M0 : MakR PP w K mg base 15 "Cut" (ga K "Cut") (pCutI K) := ⟨_, mk_Cut G, gr_Cut G, k_Cut_init G⟩
  refine ⟨_, pss_cons (ps_set (i := 1) nd rfl (by first | exact Or.inl rfl | exact Or.inr rfl) (pe_d D2 hr (by rfl) (pa_cons (pv 0) pa_nil)))
    (pss_cons (ps_asg (pe_tup (pa_cons (pe_d D3 hr (by rfl) (pa_cons (pv 1) pa_nil)) (pa_cons (pe_lst pa_nil) pa_nil))) (pg_tup rfl (pgs_cons (pg_name (i := 2) nd rfl (by first | exact Or.inl rfl | exact Or.inr rfl)) (pgs_cons (pg_name (i := 3) nd rfl (by first | exact Or.inl rfl | exact Or.inr rfl)) pgs_nil))))
    (pss_cons (ps_for PassesOwn.never rfl (pi_range1 (by rfl) (gf_range G) (pa_cons pe_int pa_nil)) (pg_name (i := 4) nd rfl (.inl rfl))
      (pss_one (ps_expr (pe_bm PySem.F.plainAttrs_list PySem.F.slot_list_extend PySem.F.type_list_extend mt_extend (pv 3) (pa_cons (pe_d D4 hr (by rfl) (pa_cons (pv 1) (pa_cons pe_int (pa_cons (pv 4) pa_nil)))) pa_nil)))))
    (pss_cons (ps_expr (pe_bm PySem.F.plainAttrs_list PySem.F.slot_list_extend PySem.F.type_list_extend mt_extend (pv 3) (pa_cons (pe_lc (own := [("_law_turn", 9)]) (g := gName 9) (tt := tYes) (te := tD pWord (tCons (tVar 0) (tCons (tVar 1) (tCons (tOp (rI0 fun i j => .int (i + j)) (tC (.int 1)) (tD pDraw (tCons (tVar 0) (tCons (tC (.int 10)) tNil)))) tNil)))) rfl nd (pi_range1 (by rfl) (gf_range G) (pa_cons pe_int pa_nil))
        (blkOk_by (N := N_law_right) (sc := defScope s_law_right) (by decide +kernel)) (fun _ _ _ _ _ => pg_name (i := 9) nd rfl (by first | exact Or.inl rfl | exact Or.inr rfl)) (fun _ _ _ _ _ => pts_nil)
        (fun _ _ _ _ _ => pe_d D5 hr (by rfl) (pa_cons (pv 0) (pa_cons (pv 1) (pa_cons (pe_op op_add pe_int (pe_d D1 hr (by rfl) (pa_cons (pv 0) (pa_cons pe_int pa_nil)))) pa_nil))))) pa_nil)))
    (pss_cons (ps_setLc (i := 5) (own := [("_law_word_here", 8)]) (g := gName 8) (tt := tYes) (te := tCB (fun xs H Q => ∃ p ys, xs = [V.ref p] ∧ (SqL K H p ys ∨ SqT K H p ys) ∧ ∀ l, H l = none → Q (.ref l) (upd H l (.lst ys))) (tCons (tVar 8) tNil)) rfl nd rfl rfl (sw_true rfl rfl rfl (by decide +kernel)) (pi_list (pv 3)) (blkOk_by (N := N_law_right) (sc := defScope s_law_right) (by decide +kernel))
        (fun _ _ _ _ _ => pg_name (i := 8) nd rfl (by first | exact Or.inl rfl | exact Or.inr rfl)) (fun _ _ _ _ _ => pts_nil) (fun _ _ _ _ _ => pe_callTy call_list_of (by rfl) (gf_list G) rfl (pa_cons (pv 8) pa_nil)))
    (pss_cons (ps_par (i := 6) (j := 7) rfl nd rfl rfl (by decide) rfl rfl
        (pa_cons (pe_lc (own := [("_law_word_here", 8)]) (g := gName 8) (tt := tYes) (te := tK (ga K "Cut") (pCutI K) (tCons (tVar 2) (tCons (tVar 8) tNil))) rfl nd (pi_list (pv 5)) (blkOk_by (N := N_law_right) (sc := defScope s_law_right) (by decide +kernel))
          (fun _ _ _ _ _ => pg_name (i := 8) nd rfl (by first | exact Or.inl rfl | exact Or.inr rfl)) (fun _ _ _ _ _ => pts_nil) (fun _ _ _ _ _ => pe_k M0 hr (by rfl) (pa_cons (pv 2) (pa_cons (pv 8) pa_nil))))
        (pa_cons (pe_lc (own := [("_law_word_here", 8)]) (g := gName 8) (tt := tYes) (te := tD pLCut (tCons (tVar 1) (tCons (tVar 8) (tCons (tC .non) tNil)))) rfl nd (pi_list (pv 3)) (blkOk_by (N := N_law_right) (sc := defScope s_law_right) (by decide +kernel))
          (fun _ _ _ _ _ => pg_name (i := 8) nd rfl (by first | exact Or.inl rfl | exact Or.inr rfl)) (fun _ _ _ _ _ => pts_nil) (fun _ _ _ _ _ => pe_d D6 hr (by rfl) (pa_cons (pv 1) (pa_cons (pv 8) (pa_cons pe_non pa_nil))))) pa_nil)) rfl)
    (pss_cons (ps_for PassesOwn.never rfl (pi_list (pv 5)) (pg_name (i := 8) nd rfl (.inl rfl))
      (pss_one (ps_expr (pe_bm PySem.F.plainAttrs_list PySem.F.slot_list_append PySem.F.type_list_append mt_append (pv 8) (pa_cons pe_str pa_nil)))))
    (pss_cons (ps_for PassesOwn.never rfl (pi_range1 (by rfl) (gf_range G) (pa_cons pe_int pa_nil)) (pg_name (i := 9) nd rfl (.inl rfl))
      (pss_one (ps_for PassesOwn.never rfl (pi_zip3 (by rfl) (gf_zip G) (pa_cons (pv 6) (pa_cons (pv 3) (pa_cons (pv 7) pa_nil)))) (pg_tup rfl (pgs_cons (pg_name (i := 10) nd rfl (.inl rfl)) (pgs_cons (pg_name (i := 8) nd rfl (.inl rfl)) (pgs_cons (pg_name (i := 11) nd rfl (.inl rfl)) pgs_nil))))
        (pss_one (ps_if (pt_not (pt_val (pe_d D7 hr (by rfl) (pa_cons (pv 10) (pa_cons (pv 2) (pa_cons (pv 1) (pa_cons (pv 8) (pa_cons (pv 11) pa_nil)))))))) pss_never pss_nil)))))
    (pss_one (ps_ret pe_bl))))))))), ?_⟩
  refine ⟨_, rfl, p, rfl, hP, fun H1 md S d1 ok hmo => ?_⟩
  refine ⟨_, rfl, md, S, rfl, hmo.up dr_le, ok, fun H2 mh s2 hsh => ⟨Nat.zero_le _, fun W hW => ⟨(by show 2 ≤ sizeLine; decide), fun tp htp => ⟨tp, _, rfl, .of upd_same, rfl, _, _, rfl, _, _, rfl, rfl, ?_⟩⟩⟩⟩
  have d2 := d1.same s2
  have hmo2 := hmo.up (dr_same (p := p) s2)
  have P2 := d2.pot
  have hsh2 := hsh.dr ok P2
  clear hmo s2
  have hWp := P2.ne hW
  have hWd : dr p H2 W = none := dr_free hW
  have d24 := ((Drw.refl P2).new (o := .lst []) hW).new (o := .tup [.ref mh, .ref W]) htp
  have hW4 := Same.new (o := .tup [.ref mh, .ref W]) htp _ _ (show upd H2 W (.lst []) W = some (.lst []) from upd_same)
  generalize upd (upd H2 W (.lst [])) tp (.tup [.ref mh, .ref W]) = H4 at d24 hW4
  refine ⟨3, rfl, by decide, by decide, for_it walk_range (fun i σ H5 => Drw p H2 H5 ∧ ∃ (as : List Addr) (c4 : Option V), σ = [some (.ref p), some (.ref md), some (.ref mh), some (.ref W), c4, none, none, none, none, none, none, none] ∧ H5 W = some (.lst (as.map V.ref)) ∧ as.length ≤ 9 * i ∧ ∀ x ∈ as, x ≠ W ∧ WdL H5 S x)
    ⟨d24, [], none, rfl, hW4, Nat.zero_le _, fun _ h => nomatch h⟩ (fun _ _ _ _ _ => trivial) ?_ ?_⟩
  · rintro i v σ H5 H5' hi ⟨d5, as, c4, rfl, hW5, hal, has⟩ ⟨rfl, rfl⟩
    have hi : i < 3 := hi
    refine ⟨_, rfl, .inl ⟨rfl, _, .of hW5⟩, _, rfl, _, rfl, md, S, i, by dsimp only; rw [Int.zero_add], (hmo2.up d5.s).up dr_le, ok, by omega, fun H6 a as' s6 ha hal' hasl has' => ?_⟩
    have hW6 := s6 _ _ hW5
    refine ⟨W, a, _, _, rfl, rfl, hW6, hal', by rw [List.length_map, List.length_map]; omega, (d5.same s6).put hWd hWp, as ++ as', _, rfl, by rw [upd_same, List.map_append], by rw [List.length_append]; omega, fun x hx => ?_⟩
    rcases List.mem_append.mp hx with hx | hx
    · obtain ⟨q1, q2⟩ := has x hx
      exact ⟨q1, (q2.up s6).upd q1⟩
    · obtain ⟨q1, q2⟩ := has' x hx
      have q3 := (ne_of_none hW5 q1).symm
      exact ⟨q3, q2.upd q3⟩
  rintro σ H5 ⟨d5, as, c4, rfl, hW5, hal, has⟩
  have hal : as.length ≤ 27 := hal
  have mo5 : ∀ {H6 : Hp}, Drw p H5 H6 → IsMo (dr p H6) md S := fun d => hmo2.up (d5.trans d).s
  have at5 : ∀ {H6 : Hp}, Drw p H5 H6 → H6 W = some (.lst (as.map V.ref)) := fun d => d.at_ (by rw [dr_ne hWp]; exact hW5)
  refine ⟨_, rfl, .inl ⟨rfl, _, .of hW5⟩, 3, rfl, by decide, by decide, fun D hD => lc_it walk_range (fun j H6 => Drw p H5 H6 ∧ ∃ ys : List Addr, H6 D = some (.lst (ys.map V.ref)) ∧ ys.length = j ∧ ∀ y ∈ ys, y ≠ D ∧ y ≠ W ∧ WdL H6 S y) ⟨(Drw.refl d5.pot).new hD, [], upd_same, rfl, fun _ h => nomatch h⟩ (fun _ _ _ _ => trivial) ?_ ?_⟩
  · rintro j v H6 H6' hj ⟨d6, ys, hD6, hyl, hys⟩ ⟨rfl, rfl⟩
    have hj : j < 3 := hj
    have hDp := d5.pot.ne hD
    have hDd : dr p H5 D = none := dr_free hD
    refine ⟨rfl, tYes_if ?_⟩
    refine ⟨_, rfl, _, rfl, _, rfl, p, 10, rfl, d6.pot, by decide, by decide, fun H7 u d7 u0 u1 => ?_⟩
    obtain ⟨n, hn⟩ : ∃ n : Nat, 1 + u = (n : Int) := ⟨(1 + u).toNat, by omega⟩
    refine ⟨_, _, rfl, rfl, p, md, S, n, by dsimp only; rw [hn], d7.pot, mo5 (d6.trans d7), ok, by omega, fun H8 a d8 ha hap hwl => ?_⟩
    have hD7 := d7.at_ (show dr p _ D = _ from (dr_ne hDp).trans hD6)
    have hD8 := d8.at_ (show dr p _ D = _ from (dr_ne hDp).trans hD7)
    have haD := (ne_of_none hD7 ha).symm
    have haW := (ne_of_none (at5 (d6.trans d7)) ha).symm
    refine ⟨_, hD8, by rw [List.length_map]; omega, ((d6.trans d7).trans d8).put hDd hDp, ys ++ [a], by rw [upd_same, List.map_append]; rfl, by rw [List.length_append, hyl]; rfl, fun y hy => ?_⟩
    rcases List.mem_append.mp hy with hy | hy
    · obtain ⟨q1, q2, q3⟩ := hys y hy
      exact ⟨q1, q2, (q3.drw d6.pot (d7.trans d8)).upd q1⟩
    · cases List.mem_singleton.mp hy
      exact ⟨haD, haW, hwl.upd haD⟩
  rintro H6 ⟨d6, ys, hD6, hyl, hys⟩
  have hyl : ys.length = 3 := hyl
  have hW6 := at5 d6
  refine ⟨W, D, _, _, rfl, rfl, hW6, hD6, by rw [List.length_map, List.length_map]; omega, ?_⟩
  have dB := (d5.trans d6).put (o := .lst (as.map V.ref ++ ys.map V.ref)) hWd hWp
  have hWB : upd H6 W (.lst (as.map V.ref ++ ys.map V.ref)) W = some (.lst ((as ++ ys).map V.ref)) := by rw [upd_same, List.map_append]
  have hasB : ∀ x ∈ as ++ ys, WdL (upd H6 W (.lst (as.map V.ref ++ ys.map V.ref))) S x := fun x hx => by
    rcases List.mem_append.mp hx with hx | hx
    · obtain ⟨q1, q2⟩ := has x hx
      exact (q2.drw d5.pot d6).upd q1
    · obtain ⟨_, q1, q2⟩ := hys x hx
      exact q2.upd q1
  have hasl : (as ++ ys).length ≤ 30 := by rw [List.length_append]; omega
  generalize upd H6 W (.lst (as.map V.ref ++ ys.map V.ref)) = B at dB hWB hasB
  clear has hys hal hyl mo5 at5 hW5 hW6 hD6
  generalize as ++ ys = as at hWB hasB hasl
  have hmoB := (hmo2.up dB.s).up dr_le
  have hshB := (hsh2.up dB.s).up dr_le
  obtain ⟨wo, hwo⟩ := choose_on hasB
  -- the copies
  refine ⟨_, rfl, W, rfl, ⟨_, .of hWB⟩, fun HD hHD => lc_gr (B := B) (walk_list (K := K) (a := W) (xs := as.map V.ref)) (by rw [List.length_map]; omega) hHD (fun i y H7 => ∃ a, y = .ref a ∧ ∃ x, as[i]? = some x ∧ B a = none ∧ H7 a = some (.lst ((wo x).map V.str))) (fun i y H7 H8 s ⟨a, e, x, e1, e2, e3⟩ => ⟨a, e, x, e1, e2, s _ _ e3⟩) (fun _ _ _ s => .of (s _ _ hWB)) ?_ ?_⟩
  · rintro m v2 H7 H7' acc hm s7 hD7 ⟨rfl, hv2⟩ Fin hFin
    obtain ⟨x, hx, rfl⟩ := some_map hv2
    obtain ⟨w1, _⟩ := hwo x (List.mem_of_getElem? hx)
    refine ⟨rfl, _, rfl, x, _, rfl, .inl (.of (s7 _ _ w1)), fun l hl => hFin _ _ (Same.new hl) ⟨l, rfl, x, hx, s7.free hl, ?_⟩⟩
    rw [dr_ne (ne_of_none hD7 hl).symm, upd_same]
  intro H8 ys8 s8 hHD8 hl8 hR8
  rw [List.length_map] at hl8
  obtain ⟨hs_, rfl, hhs⟩ := refs_idx hR8
  rw [List.length_map] at hl8
  have hhs8 : ∀ a ∈ hs_, B a = none ∧ a ≠ HD ∧ ∃ xs, H8 a = some (.lst xs) ∧ xs.length ≤ 10 := fun a ha => by
    obtain ⟨i, hi⟩ := List.mem_iff_getElem?.mp ha
    obtain ⟨x, e1, e2, e3⟩ := hhs i a hi
    refine ⟨e2, fun e => ?_, _, dr_le _ _ e3, by rw [List.length_map]; exact (hwo x (List.mem_of_getElem? e1)).2.2.1⟩
    rw [e, dr_at] at e3
    cases e3
  -- the cuts
  refine ⟨_, rfl, HD, rfl, ⟨_, .of hHD8⟩, fun CL hCL => lc_ev (B := H8) (walk_list (K := K) (a := HD) (xs := hs_.map V.ref)) (by rw [List.length_map]; omega) Same (fun i y H => ∃ c, y = .ref c ∧ ∃ x T, as[i]? = some x ∧ CutAt K H c (wo x) mh T ∧ (prb S (wo x)).Good T ∧ (prb S (wo x)).Closed T) (Same.new hCL)
    (fun H H' acc ys a _ b _ => L2.Same.put (same_trans a b) hCL) (fun H H' acc _ a b => b _ _ a) (fun i y H H' acc ys ⟨c, e, x, T, e1, e2, e3⟩ hD s => ⟨c, e, x, T, e1, (e2.up s).updL (s _ _ hD), e3⟩) (fun i y H acc ys ⟨c, e, x, T, e1, e2, e3⟩ hD => ⟨c, e, x, T, e1, e2.updL hD, e3⟩) (fun _ _ _ s => .of (s _ _ hHD8)) ?_ ?_⟩
  · rintro i v H9 H9' acc hi s9 hD9 ⟨rfl, hv⟩ Fin hFin
    obtain ⟨a, ha, rfl⟩ := some_map hv
    obtain ⟨x, e1, e2, e3⟩ := hhs i a ha
    obtain ⟨w1, w2, w3, w4⟩ := hwo x (List.mem_of_getElem? e1)
    refine ⟨rfl, _, rfl, _, rfl, fun y dx hy hdx hne => ?_⟩
    exact ⟨y, dx, mh, a, S, wo x, _, rfl, same_trans (Same.new hdx) (Same.new (by rw [upd_ne hne.symm]; exact hy)), hy, upd_same, hshB.up (same_trans s8 s9), ok, s9 _ _ (dr_le _ _ e3), w4, by omega, fun H' T s' hC g cl => ⟨rfl, hFin _ _ s' ⟨y, rfl, x, T, e1, hC, g, cl⟩⟩⟩
  intro H9 ys9 s9 hCL9 hl9 hR9
  rw [List.length_map] at hl9
  obtain ⟨cs, rfl, hcs⟩ := refs_idx hR9
  rw [List.length_map] at hl9
  have sB9 := same_trans s8 s9
  -- the dues
  refine ⟨_, rfl, W, rfl, ⟨_, .of (sB9 _ _ hWB)⟩, fun DL hDL => lc_ev (B := H9) (walk_list (K := K) (a := W) (xs := as.map V.ref)) (by rw [List.length_map]; omega) Same (fun i y H => ∃ r, y = .ref r ∧ r ≠ DL ∧ H9 r = none ∧ ∃ x T, as[i]? = some x ∧ DueAt H r S.cols (wo x).length T ∧ (prb S (wo x)).Good T ∧ (prb S (wo x)).Closed T) (Same.new hDL)
    (fun H H' acc ys a _ b _ => L2.Same.put (same_trans a b) hDL) (fun H H' acc _ a b => b _ _ a) (fun i y H H' acc ys ⟨c, e, n1, n2, x, T, e1, e2, e3⟩ hD s => ⟨c, e, n1, n2, x, T, e1, (e2.up s).updL n1 (s _ _ hD), e3⟩) (fun i y H acc ys ⟨c, e, n1, n2, x, T, e1, e2, e3⟩ hD => ⟨c, e, n1, n2, x, T, e1, e2.updL n1 hD, e3⟩) (fun _ _ _ s => .of (s _ _ (sB9 _ _ hWB))) ?_ ?_⟩
  · rintro i v H10 H10' acc hi s10 hD10 ⟨rfl, hv⟩ Fin hFin
    obtain ⟨x, hx, rfl⟩ := some_map hv
    obtain ⟨w1, w2, w3, w4⟩ := hwo x (List.mem_of_getElem? hx)
    have sB10 := same_trans sB9 s10
    exact ⟨rfl, _, rfl, _, rfl, md, x, S, wo x, rfl, hmoB.up sB10, ok, sB10 _ _ w1, w2, by omega, fun H' r T s' hr hdue g cl => hFin _ _ s' ⟨r, rfl, (ne_of_none hD10 hr).symm, s10.free hr, x, T, hx, hdue, g, cl⟩⟩
  intro H10 ys10 s10 hDL10 hl10 hR10
  rw [List.length_map] at hl10
  obtain ⟨ds, rfl, hds⟩ := refs_idx hR10
  rw [List.length_map] at hl10
  have sB10 := same_trans sB9 s10
  have s810 := same_trans s9 s10
  have ra : RightAt K B H10 S mh CL DL as cs ds wo := ⟨sB10, s10 _ _ hCL9, hDL10, fun i c hc => let ⟨x, T, e1, e2, e3⟩ := hcs i c hc; ⟨x, T, e1, e2.up s10, e3⟩, fun i r hr' => let ⟨_, _, x, T, e⟩ := hds i r hr'; ⟨x, T, e⟩⟩
  have hHD10 := s810 _ _ hHD8
  have hsx : ∀ a ∈ hs_, B a = none ∧ HD ≠ a ∧ CL ≠ a ∧ DL ≠ a ∧ ∀ r ∈ ds, r ≠ a := fun a ha => by
    obtain ⟨q1, q2, xs, q3, _⟩ := hhs8 a ha
    refine ⟨q1, q2.symm, (ne_of_none q3 hCL).symm, (ne_of_none (s9 _ _ q3) hDL).symm, fun r hr' => ?_⟩
    obtain ⟨i, hi⟩ := List.mem_iff_getElem?.mp hr'
    exact (ne_of_none (s9 _ _ q3) (hds i r hi).2.1).symm
  have hs10 : ∀ a ∈ hs_, ∃ xs, H10 a = some (.lst xs) ∧ xs.length ≤ 10 := fun a ha => let ⟨_, _, xs, q3, q4⟩ := hhs8 a ha; ⟨xs, s810 _ _ q3, q4⟩
  refine ⟨_, _, rfl, ?_⟩
  -- more
  refine ⟨_, rfl, HD, rfl, ⟨_, .of hHD10⟩, for_it (walk_list (a := HD) (xs := hs_.map V.ref)) (fun l σ H11 => RightAt K B H11 S mh CL DL as cs ds wo ∧ H11 HD = some (.lst (hs_.map V.ref)) ∧ (∀ a ∈ hs_, ∃ xs, H11 a = some (.lst xs) ∧ xs.length ≤ 10 + l) ∧ ∃ c8, σ = [some (.ref p), some (.ref md), some (.ref mh), some (.ref W), c4, some (.ref HD), some (.ref CL), some (.ref DL), c8, none, none, none])
    ⟨ra, hHD10, hs10, _, rfl⟩ (fun l σ H _ h => .of h.2.1) ?_ ?_⟩
  · rintro l v σ H11 H11' hl ⟨ra, hHD11, hs11, c8, rfl⟩ ⟨rfl, hv⟩
    rw [List.length_map] at hl
    obtain ⟨a, ha, rfl⟩ := some_map hv
    have hah := List.mem_of_getElem? ha
    obtain ⟨xs, hxs, hxl⟩ := hs11 a hah
    obtain ⟨q1, q2, q3, q4, q5⟩ := hsx a hah
    refine ⟨_, rfl, .inl ⟨rfl, _, .of hxs⟩, a, _, _, rfl, rfl, hxs, by omega, ra.app hxs q1 q3 q4 q5, by rw [upd_ne q2]; exact hHD11, fun b hb => ?_, _, rfl⟩
    by_cases e : b = a
    · subst e
      exact ⟨_, upd_same, by rw [List.length_append, List.length_singleton]; omega⟩
    · obtain ⟨ys, e1, e2⟩ := hs11 b hb
      exact ⟨ys, by rw [upd_ne e]; exact e1, by omega⟩
  rintro σ H11 ⟨ra, _, _, c8, rfl⟩
  -- both tell the same
  refine ⟨2, rfl, by decide, by decide, for_it walk_range (fun _ σ H12 => RightAt K B H12 S mh CL DL as cs ds wo ∧ ∃ c8 c9 c10 c11, σ = [some (.ref p), some (.ref md), some (.ref mh), some (.ref W), c4, some (.ref HD), some (.ref CL), some (.ref DL), c8, c9, c10, c11])
    ⟨ra, _, _, _, _, rfl⟩ (fun _ _ _ _ _ => trivial) ?_ ?_⟩
  · rintro i v σ H12 H12' hi ⟨ra, c8, c9, c10, c11, rfl⟩ ⟨rfl, rfl⟩
    refine ⟨_, rfl, _, rfl, _, rfl, CL, W, DL, _, _, _, rfl, .of ra.c, .of (ra.s _ _ hWB), .of ra.d, for_it (walk_zip3 (a := CL) (b := W) (c := DL) (xs := cs.map V.ref) (ys := as.map V.ref) (zs := ds.map V.ref) (by rw [List.length_map, List.length_map]; omega) (by rw [List.length_map, List.length_map]; omega)) (fun _ σ H13 => RightAt K B H13 S mh CL DL as cs ds wo ∧ ∃ c8 c10 c11, σ = [some (.ref p), some (.ref md), some (.ref mh), some (.ref W), c4, some (.ref HD), some (.ref CL), some (.ref DL), c8, some (.int (0 + ((i : Nat) : Int))), c10, c11])
      ⟨ra, _, _, _, rfl⟩ (fun l σ H _ h => ⟨.of h.1.c, .of (h.1.s _ _ hWB), .of h.1.d⟩) ?_ ?_⟩
    · rintro l v σ H13 H13' hl ⟨ra, c8, c10, c11, rfl⟩ ⟨tz, x, y, z, rfl, hT, rfl, hx, hy, hz⟩
      obtain ⟨c, hc, rfl⟩ := some_map hx
      obtain ⟨x, hx, rfl⟩ := some_map hy
      obtain ⟨r, hr', rfl⟩ := some_map hz
      have ra := ra.up (Same.new (o := .tup [.ref c, .ref x, .ref r]) hT)
      refine ⟨tz, _, rfl, .of upd_same, rfl, _, _, rfl, _, _, rfl, _, _, rfl, rfl, ?_⟩
      generalize upd H13 tz (.tup [.ref c, .ref x, .ref r]) = H14 at ra
      obtain ⟨x1, T1, e1, hC, g1, cl1⟩ := ra.fc l c hc
      obtain ⟨x2, T2, e2, hD, g2, cl2⟩ := ra.fd l r hr'
      rw [hx] at e1 e2
      cases e1
      cases e2
      have eT : T1 = T2 := by
        funext a b
        exact Prb.uniq g1 g2 cl1 cl2 a b
      subst eT
      obtain ⟨w1, w2, w3, w4⟩ := hwo x (List.mem_of_getElem? hx)
      refine ⟨_, rfl, _, rfl, _, rfl, _, rfl, _, rfl, c, mh, md, x, r, S, wo x, T1, rfl, hC, hshB.up ra.s, ok, hmoB.up ra.s, ra.s _ _ w1, hD, w2, by omega, g1, fun H15 s15 => ⟨_, rfl, iteF ?_⟩⟩
      exact ⟨ra.up s15, _, _, _, rfl⟩
    · rintro σ H13 ⟨ra, c8, c10, c11, rfl⟩
      exact ⟨ra, _, _, _, _, rfl⟩
  · rintro σ H12 ⟨ra, c8, c9, c10, c11, rfl⟩
    exact hq _ ((d2.trans dB).same ra.s)
end
end Bn
/-! W37: the law. -/
namespace Bn
open PySem PySem.Spec PyProof.Rows L2 StX
open He (ga ma)
theorem sql_up {K : Fr} {H H' : Hp} {a : Addr} {xs : List V} (s : Same H H') (h : SqL K H a xs) : SqL K H' a xs := by
  rcases h with (h | ⟨o, h⟩) | h
  · exact .inl (.inl (s _ _ h))
  · exact .inl (.inr ⟨o, s _ _ h⟩)
  · exact .inr h
section
variable {w : World} {K : Fr} {mg : Str → Option Value} {base : Heap}
def pLaw (K : Fr) : Pr := fun vs H Q => ∃ (a : Addr) (ns : List Int), vs = [.ref a] ∧ SqL K H a (ns.map V.int) ∧ ns.length ≤ 1000 ∧ ∀ H', Q (.bl true) H'
theorem k_law (G : GD K mg) : Keeps PP w K mg base 18 (ga K "law") (pLaw K) := by
  obtain ⟨fd, F⟩ := fd_law G
  refine kp_fnN (k := 17) F sc_law (fun _ _ _ _ _ _ us hl => match us, hl with | [_], _ => rfl) (by rintro _ _ _ ⟨a, ns, rfl, _⟩; rfl) fun cdv A outer s H vs Q E hr hp => ?_
  obtain ⟨a, ns, rfl, ha, hn, hq⟩ := hp
  have nd := sc_law.nd
  have hs := sizeLine_eq
  have D1 : DefR PP w K mg base 17 "_law_pot" (pPot K) := ⟨_, gg_law_pot G, gk_law_pot G, (k_law_pot G).mono (by omega)⟩
  have D2 : DefR PP w K mg base 17 "_law_right" pRight := ⟨_, gg_law_right G, gk_law_right G, k_law_right G⟩
  refine ⟨_, pss_one (ps_ret (pe_callB (cr_all rfl) (by rfl) (gf_all G) rfl (pa_cons (pe_lc (own := [("_law_k", 1)]) (g := gName 1) (tt := tYes) (te := tD pRight (tCons (tD (pPot K) (tCons (tVar 0) (tCons (tVar 1) tNil))) tNil)) rfl nd
      (pi_range1 (by rfl) (gf_range G) (pa_cons (pe_callB (call_max2 rfl) (by rfl) (gf_max G) rfl (pa_cons pe_int (pa_cons (pe_callB (call_min2 rfl) (by rfl) (gf_min G) rfl (pa_cons (pe_callB call_len_seq (by rfl) (gf_len G) rfl (pa_cons (pv 0) pa_nil)) (pa_cons pe_int pa_nil))) pa_nil))) pa_nil))
      (blkOk_by (N := N_law) (sc := defScope s_law) (by decide +kernel)) (fun _ _ _ _ _ => pg_name (i := 1) nd rfl (by first | exact Or.inl rfl | exact Or.inr rfl)) (fun _ _ _ _ _ => pts_nil)
      (fun _ _ _ _ _ => pe_d D2 hr (by rfl) (pa_cons (pe_d D1 hr (by rfl) (pa_cons (pv 0) (pa_cons (pv 1) pa_nil))) pa_nil))) pa_nil))), ?_⟩
  obtain ⟨n, hn1, hn2⟩ : ∃ n : Nat, (if (if (3 : Int) < ((ns.map V.int).length : Int) then (3 : Int) else ((ns.map V.int).length : Int)) > 1 then (if (3 : Int) < ((ns.map V.int).length : Int) then (3 : Int) else ((ns.map V.int).length : Int)) else 1) = (n : Int) ∧ n ≤ 3 := by
    refine ⟨(if (if (3 : Int) < ((ns.map V.int).length : Int) then (3 : Int) else ((ns.map V.int).length : Int)) > 1 then (if (3 : Int) < ((ns.map V.int).length : Int) then (3 : Int) else ((ns.map V.int).length : Int)) else 1).toNat, ?_, ?_⟩
    · split <;> split at * <;> omega
    · split <;> split at * <;> omega
  refine ⟨_, rfl, a, _, rfl, .inl ha, _, _, rfl, _, _, rfl, n, by rw [hn1], by omega, by omega, fun D hD => lc_gr (B := H) (walk_range (lo := 0) (n := n)) (by omega) hD (fun _ y _ => y = .bl true) (fun _ _ _ _ _ h => h) (fun _ _ _ _ => trivial) ?_ ?_⟩
  · rintro i v H1 H1' acc hi s1 hD1 ⟨rfl, rfl⟩ Fin hFin
    refine ⟨rfl, _, rfl, _, rfl, a, ns, 0 + ((i : Nat) : Int), rfl, sql_up s1 ha, hn, by omega, by omega, fun H2 p s2 hp hP => ⟨p, rfl, hP, fun H3 d3 => hFin _ _ ?_ rfl⟩⟩
    exact same_trans (dr_new s2 hp) (same_trans d3.s dr_le)
  · intro H1 ys s1 hD1 hl hR
    have e := bl_all hl hR
    rw [e] at hD1
    refine ⟨D, _, rfl, .of hD1, ?_⟩
    rw [all_rep]
    exact hq _
/-- the law called from outside, no repr being under way -/
theorem own_call {P : Program} {w : World} {K : Fr} {mg mb : Str → Option Value} {k : Nat} {fa a : Addr} {p : Pr} {s : Shared} {vs : List Value} {ns : List Int}
    (KX : K.In s.heap) (hns : s.heap.Ns mainGlobals mg) (hb : s.heap.Ns builtinsNs mb) (hbb : ∀ x : Str, x ≠ "__name__" → mb x = bootBuiltins x) (hlim : s.heap.NoLimit) (hg : s.gens = #[])
    (ha : s.heap.get? a = some { cls := .type "list", data := .seq vs.toArray }) (hi : IntsAre vs ns) (hl : ns.length ≤ sizeLine) (hr : Rm k callerA)
    (F : ∀ base : Heap, K.In base → base.Ns mainGlobals mg → Keeps P w K mg base k fa p) (hp : ∀ H : Hp, SqL K H a (ns.map V.int) → p [.ref a] H fun v _ => v = .bl true) :
    codeAny (model P w) callerA (.call (.ref fa) ⟨[.ref a], []⟩) (fun r s' => r = .ok (.ret (.bool true)) ∧ OldK s.heap s'.heap ∧ s'.os = s.os ∧ AllBare s'.gens) s := by
  have rv := vals_ints hi
  have step : ∀ H : Hp, SqL K H a (ns.map V.int) → HOk P w H s.heap → (∀ b u, H b = some u → b = a ∧ K.lookup a = none ∧ ∃ ob xs, u = .frz ob (.lst xs)) →
      codeAny (model P w) callerA (.call (.ref fa) ⟨[.ref a], []⟩) (fun r s' => r = .ok (.ret (.bool true)) ∧ OldK s.heap s'.heap ∧ s'.os = s.os ∧ AllBare s'.gens) s := by
    intro H hS hok only
    have away : ∀ {b : Addr}, (b = a → K.lookup a = none → False) → H b = none := fun {b} z => by
      cases q : H b with
      | none => rfl
      | some u => exact (z (only b u q).1 (only b u q).2.1).elim
    have dict : ∀ {b : Addr} {m : Str → Option Value}, s.heap.Ns b m → (hidT s.heap H).Ns b m := fun {b m} ⟨o, es, ep, e, d, r⟩ => by
      refine ⟨o, es, ep, hidT_get e (away fun z _ => ?_), d, r⟩
      rw [z, ha] at e
      cases e
      exact nomatch (show Data.seq vs.toArray _ = Data.dict es ep from d)
    have kin : K.In (hidT s.heap H) := fun b o e => hidT_get (KX b o e) (away fun z q => by rw [z, q] at e; cases e)
    have hM : Mod K mg (hidT s.heap H) := ⟨kin, dict hns, ⟨mb, dict hb, hbb⟩, let ⟨mc, h1, h2⟩ := hlim; ⟨mc, dict h1, h2⟩⟩
    have e0 : Env0 P w K mg (hidT s.heap H) callerA [] s H := ⟨rfl, hM, fun b o e => of_hidT e, Nat.le_of_eq (hidT_size _ _), trivial, (fun b h => nomatch (show b ∈ ([] : List Addr) from h)), hok, .of_eq hg⟩
    refine codeAny_mono (F _ kin (dict hns) callerA [] s H [.ref a] [.ref a] _ (fun _ _ _ => False) hr e0 (.cons rfl .nil) (hp H hS)) fun r s' h => ?_
    match r, h with
    | .error e, h => exact False.elim h
    | .ok .next, h => exact False.elim h
    | .ok .brk, h => exact False.elim h
    | .ok .cont, h => exact False.elim h
    | .ok (.ret u), ⟨v, H', os, bare, un, hok', rv', q⟩ =>
      have q : v = .bl true := q
      subst q
      obtain rfl : u = Value.bool true := rv'
      refine ⟨rfl, OldK.of_keep fun b o e => ?_, os, bare⟩
      cases q : H b with
      | none => exact un.keep b o e q (fun z => nomatch (show b ∈ ([] : List Addr) from z)) (by simp)
      | some u =>
        obtain ⟨_, _, ob, xs, rfl⟩ := only b u q
        obtain ⟨e1, _⟩ := hok b _ q
        obtain ⟨e2, _⟩ := hok' b _ (un.frzs b ob _ q)
        rw [e] at e1
        cases e1
        exact e2
  cases hk : K.lookup a with
  | some o =>
    have e := KX a o hk
    rw [ha] at e
    cases e
    exact step (fun _ => none) (.inr ⟨_, vs.toArray, _, hk, rfl, rfl, rfl, by rw [List.size_toArray, hi.length]; exact hl, by simpa using rv⟩) (fun b u z => nomatch (show (none : Option HO) = some u from z)) fun b u z => nomatch (show (none : Option HO) = some u from z)
  | none =>
    have at_ : upd (fun _ => none) a (.frz { cls := .type "list", data := .seq vs.toArray } (.lst (ns.map V.int))) a = some (.frz { cls := .type "list", data := .seq vs.toArray } (.lst (ns.map V.int))) := upd_same
    have no : ∀ b u, upd (fun _ => none) a (.frz { cls := .type "list", data := .seq vs.toArray } (.lst (ns.map V.int))) b = some u → b = a ∧ u = .frz { cls := .type "list", data := .seq vs.toArray } (.lst (ns.map V.int)) := fun b u z => by
      by_cases h : b = a
      · rw [h, at_] at z
        exact ⟨h, (Option.some.inj z).symm⟩
      · rw [upd_ne h] at z
        cases z
    refine step _ (.inl (.inr ⟨_, at_⟩)) (fun b u z => ?_) fun b u z => ?_
    · obtain ⟨rfl, rfl⟩ := no b u z
      exact ⟨ha, by rw [List.length_map]; exact hl, vs, _, rv, ha⟩
    · obtain ⟨h1, rfl⟩ := no b u z
      exact ⟨h1, hk, _, _, rfl⟩
end
end Bn
/-! W38: the statement. -/
namespace Bn
open PySem PySem.Spec PyProof.Rows L2
open He (ga ma)
theorem law_walk : PySem.W.WalkO qv names (PySem.W.XL qv []) (hookM FB FN FS).says R.toRowW (HandSHeadRun.topDef R.prog 101) [] (fun f vs => PySem.call f vs) := by
  refine Att.attach_call (l := PySem.Challenge.rw_belowneeds_k31_whole_cuts_by_turns) (n := 63) rfl (by kernel_rfl) fun w s₀ s₁ mg mb fa o pm cd doc a vs ns G Y ho hd hcd hmg0 hobj hints hlen hg => ?_
  obtain ⟨K, KX, c⟩ := Y
  have hmg : mg ("law" : PySem.Str) = some (.ref fa) := by
    have e : (HandSHeadRun.topDef R.prog 101).name = ("law" : PySem.Str) := by kernel_rfl
    rw [← e]
    exact hmg0
  have D : GD K mg := gd_of KX G.T.g c
  have e := hmg.symm.trans (gg_law D)
  cases e
  have s63 : 63 ≤ sizeLine := by decide
  exact own_call (P := PP) (k := 18) KX G.T.g G.T.b G.T.builtins G.T.nolimit hg hobj hints (Nat.le_trans hlen s63) ⟨⟨rfl, by decide, by decide⟩, rfl⟩ (fun base _ _ => k_law D) fun H hS => ⟨a, ns, rfl, hS, by omega, fun _ => rfl⟩
end Bn
open PySem PySem.W PySem.Calls PyProof.Rows in
theorem PySem.Challenge.cw_belowneeds_k31_whole_cuts_by_turns_holds : PySem.Challenge.rw_belowneeds_k31_whole_cuts_by_turns.Holds := by
  w_on; o_law
  refine HandSHeadRun.head_any (r := Bn.R) (q := Bn.qv) (H := Bn.hookM Bn.FB Bn.FN Bn.FS) (ob := Bn.obT Bn.FB Bn.FN Bn.FS) (M := 20000) (loose := Bn.names) (d := HandSHeadRun.topDef Bn.R.prog 101) (kwd := []) (Bn.obT_eq Bn.FB Bn.FN Bn.FS)
    (by kernel_rfl) (fun s => by kernel_rfl) Bn.run (by kernel_rfl) (by kernel_rfl) (by kernel_rfl) (by rfl) (by first | assumption | decide +kernel) (by decide +kernel) ⟨rfl, rfl, rfl, rfl, rfl, by decide +kernel⟩ ?hw ?hc
  case hw => w_witness2
  case hc => exact Bn.law_walk
