import PyProof.Rows.All
import Wide.All
import OpenK.AllK
import Wide.FinOn
import KE.KCallOwn
import HandS.ForMost
import HandS.ForExc
import HandS.Defaults
import HandS.IsInst
import HandS.ExcIs
import HandS.FStr
import HandS.Wide
import HandS.Flow
import HandS.Head2
import HandS.HeadHook4
import HandS.HeadEnd
import PySem.Challenge.RW_tellsnone_k00_ratios
set_option Elab.async false
set_option linter.all false
set_option maxRecDepth 100000
set_option maxHeartbeats 4000000
/-! own layer: calls by name, operators, ==, str of own classes -/
namespace TL
open PySem PySem.Spec PyProof.Rows L2
/-- a def of the module, by its name: what it promises and how it is called -/
def Okd (P : Program) (w : World) (K : PySem.W.Frag) (mg : Str → Option Value) (base : Heap) (CX : CXT) (k : Nat) (x : Str) (ps : List Str) (sp : Sp) : Prop :=
  ∃ fd, FnOk P w K mg base CX k (He.ga K x) fd ps sp ∧ Binds K fd ps [] ∧ PySem.W.keepIn K (.ref (He.ga K x)) = true ∧ mg x = some (.ref (He.ga K x))
/-- a method of a class of the module -/
def Okm (P : Program) (w : World) (K : PySem.W.Frag) (mg : Str → Option Value) (base : Heap) (CX : CXT) (k : Nat) (c m : Str) (ps : List Str) (sp : Sp) : Prop :=
  ∃ fd, FnOk P w K mg base CX k (He.ma K (He.ga K c) m) fd ps sp ∧ Binds K fd ps [] ∧ Cls K (He.ga K c) ∧ Meth K (He.ga K c) m (He.ma K (He.ga K c) m)
/-- the making of an instance: the promise of __init__ with the defaults ds -/
def Oki (P : Program) (w : World) (K : PySem.W.Frag) (mg : Str → Option Value) (base : Heap) (CX : CXT) (k : Nat) (c : Str) (ps : List Str) (dvs : List V) (sp : Sp) : Prop :=
  ∃ fd ds, FnOk P w K mg base CX k (He.ma K (He.ga K c) "__init__") fd ps sp ∧ Vals dvs ds ∧ Binds K fd ps ds ∧ Mk K (He.ga K c) (He.ma K (He.ga K c) "__init__") ∧ mg c = some (.ref (He.ga K c))
section
variable {X : Cx} {CX : CXT} {k j : Nat} {sp : Sp} {ps : List Str} {E : XK} {x c m : Str} {p pos apos : Pos} {e o : Expr} {es : List Expr} {ta : TE} {t : TA} {dvs : List V}
theorem pf (G : Okd X.prog X.w X.K X.mg X.base CX k x ps sp) (hr : Room k X.A) (hg : Gl X x) (hx : Passes CX X E) (ha : PA X (e :: es) t)
    (hdb : (x == ("__debug__" : Str)) = false := by decide) (he : starEach (e :: es) X.env = (false, eval e X.env) :: starEach es X.env := by rfl) (hpl : (backTo pos (starEach es X.env)).any (·.1) = false := by rfl) :
    PE X (.Call (.Name x p) (e :: es) [] pos) (tCall sp [] E t) := by
  obtain ⟨fd, F, hb, hk, hm⟩ := G
  exact pe_call F hr hg hm hk hb .nil hx ha hdb he hpl
theorem pf0 (G : Okd X.prog X.w X.K X.mg X.base CX k x ps sp) (hr : Room k X.A) (hg : Gl X x) (hx : Passes CX X E)
    (hdb : (x == ("__debug__" : Str)) = false := by decide) :
    PE X (.Call (.Name x p) [] [] pos) (tCall sp [] E tNil) := by
  obtain ⟨fd, F, hb, hk, hm⟩ := G
  exact pe_call0 F hr hg hm hk hb .nil hx hdb
theorem pm {pl : Sem Bool} (G : Okm X.prog X.w X.K X.mg X.base CX k c m ps sp) (hr : Room k X.A) (hx : Passes CX X E) (he : PE X o ta) (ha : PA X (e :: es) t)
    (hst : starEach (e :: es) X.env = (false, eval e X.env) :: starEach es X.env := by rfl) (hpl : (backTo pos (starEach es X.env)).any (·.1) = false := by rfl)
    (ht : eval (.Call (.Attribute o m apos) (e :: es) [] pos) X.env = (do
      let ov ← eval o X.env
      standAt apos.atName
      let (f, first) ← holding [ov] (getMethod ov m pl)
      callWith pos f first (backTo pos (starEach (e :: es) X.env)) (backToKw pos (keywordEach [] X.env))) := by rfl) :
    PE X (.Call (.Attribute o m apos) (e :: es) [] pos) (tMeth (He.ga X.K c) m sp [] E ta t) := by
  obtain ⟨fd, F, hb, hc, hm⟩ := G
  exact pe_meth he hc hm F hr hb .nil hx ha hst hpl ht
theorem pm0 {pl : Sem Bool} (G : Okm X.prog X.w X.K X.mg X.base CX k c m ps sp) (hr : Room k X.A) (hx : Passes CX X E) (he : PE X o ta)
    (ht : eval (.Call (.Attribute o m apos) [] [] pos) X.env = (do
      let ov ← eval o X.env
      standAt apos.atName
      let (f, first) ← holding [ov] (getMethod ov m pl)
      callWith pos f first (backTo pos (starEach [] X.env)) (backToKw pos (keywordEach [] X.env))) := by rfl) :
    PE X (.Call (.Attribute o m apos) [] [] pos) (tMeth (He.ga X.K c) m sp [] E ta tNil) := by
  obtain ⟨fd, F, hb, hc, hm⟩ := G
  exact pe_meth0 he hc hm F hr hb .nil hx ht
theorem pmk (G : Oki X.prog X.w X.K X.mg X.base CX k x ps dvs sp) (hr : Room (k + 1) X.A) (hg : Gl X x) (hx : Passes CX X E) (ha : PA X (e :: es) t)
    (hdb : (x == ("__debug__" : Str)) = false := by decide) (he : starEach (e :: es) X.env = (false, eval e X.env) :: starEach es X.env := by rfl) (hpl : (backTo pos (starEach es X.env)).any (·.1) = false := by rfl) :
    PE X (.Call (.Name x p) (e :: es) [] pos) (tMake (He.ga X.K x) sp dvs E t) := by
  obtain ⟨fd, ds, F, hd, hb, M, hm⟩ := G
  exact pe_make M F hr hg hm hb hd hx ha (he := he) (hpl := hpl) hdb
/-! ### operators of own classes -/
theorem cmpBack {pins : List (Addr × Obj)} {σ : L2.St} {Q : VK} {v : Value} {s' : Shared} (h : EP X pins σ Q v s') : PySem.W.CmpBack (EP X pins σ Q) v s' := by
  obtain ⟨z, H', I, r, q⟩ := id h
  cases z with
  | non => cases r; exact h
  | bl _ => cases r; exact h
  | int _ => obtain ⟨t, rfl⟩ := r; exact h
  | str _ => obtain ⟨t, rfl⟩ := r; exact h
  | byt _ => obtain ⟨t, rfl⟩ := r; exact h
  | flt _ => obtain ⟨t, rfl⟩ := r; exact h
  | ref _ => cases r; exact h
  | ty _ => cases r; exact h
/-- a op b, both instances of the class C, by its own method -/
def rOwn (C : Addr) (sp : Sp) (E : XK) : R2 := fun x y H Q => ∃ a b dx dy fs gs, x = .ref a ∧ y = .ref b ∧ H a = some (.ins C dx fs) ∧ H b = some (.ins C dy gs) ∧ sp [x, y] H Q E
theorem op_own {op : Operator} (hs : PySem.W.selfFirst X.K (He.ga X.K c) = true) (G : Okm X.prog X.w X.K X.mg X.base CX k c (PySem.dunder op.info.2) ps sp) (hr : Room k X.A) (hx : Passes CX X E) : OpR X (binaryOp op) (rOwn (He.ga X.K c) sp E) := by
  obtain ⟨fd, F, hb, hc, hm⟩ := G
  intro pins s σ H x y v u Q I rx ry h
  obtain ⟨a, b, dx, dy, fs, gs, rfl, rfl, ha, hb', h⟩ := h
  cases rx
  cases ry
  obtain ⟨mA, J, _⟩ := ins_get I.hok ha
  obtain ⟨mB, J', _⟩ := ins_get I.hok hb'
  obtain ⟨od, J, _⟩ := J.look
  obtain ⟨od', J', _⟩ := J'.look
  obtain ⟨m, hF⟩ := I.fr
  refine PySem.W.binop_K hF I.ok.mod.kin J J'.type hs hm.at_ hm.fn ?_
  exact thn (run_fn (us := [.ref a, .ref b]) (vs := [.ref a, .ref b]) F hr hb .nil hx I (.cons rfl (.cons rfl .nil)) h) fun v s' hv => cmpBack hv
theorem op_eqOwn (G : Okm X.prog X.w X.K X.mg X.base CX k c "__eq__" ps sp) (hr : Room k X.A) (hx : Passes CX X E) : OpR X (compareOp .Eq) (rOwn (He.ga X.K c) sp E) := by
  obtain ⟨fd, F, hb, hc, hm⟩ := G
  intro pins s σ H x y v u Q I rx ry h
  obtain ⟨a, b, dx, dy, fs, gs, rfl, rfl, ha, hb', h⟩ := h
  cases rx
  cases ry
  obtain ⟨mA, J, _⟩ := ins_get I.hok ha
  obtain ⟨mB, J', _⟩ := ins_get I.hok hb'
  obtain ⟨od, J, _⟩ := J.look
  obtain ⟨od', J', _⟩ := J'.look
  obtain ⟨m, hF⟩ := I.fr
  show wpAny (model X.prog X.w) X.A (richCompare .Eq _ _) _ _ _
  refine PySem.W.cmp_K (op := .Eq) (tb := .ref (He.ga X.K c)) hr.units0 hF I.ok.mod.kin J J'.type (by simp [PySem.W.notFirst]) hm.at_ hm.fn ?_
  exact thn (run_fn (us := [.ref a, .ref b]) (vs := [.ref a, .ref b]) F hr hb .nil hx I (.cons rfl (.cons rfl .nil)) h) fun v s' hv => cmpBack hv
/-- str(x), x an instance with its own __str__ -/
def rStrOwn (C : Addr) (sp : Sp) (E : XK) : List V → Hp → VK → Prop := fun xs H Q => ∃ a dx fs, xs = [.ref a] ∧ H a = some (.ins C dx fs) ∧ sp [.ref a] H (fun v H' => ∃ z, v = .str z ∧ Q v H') E
theorem env0_2 {pins : List (Addr × Obj)} {σ : L2.St} {H : Hp} {s : Shared} (I : Inv X pins σ H s) : Env0 X.prog X.w X.K X.mg X.base X.A.in1.in1 X.stack s H := I.env0.in1.in1
theorem call_strOwn (G : Okm X.prog X.w X.K X.mg X.base CX k c "__str__" ps sp) (hr : Room (k + 1) X.A) (hx : Passes CX X E) : CallR X (.type "str") (rStrOwn (He.ga X.K c) sp E) := by
  obtain ⟨fd, F, hb, hc, hm⟩ := G
  intro pins s σ H xs us Q I r h
  obtain ⟨a, dx, fs, rfl, ha, h⟩ := h
  cases r with
  | cons r rn =>
  cases rn
  cases r
  obtain ⟨mA, J, _⟩ := ins_get I.hok ha
  obtain ⟨od, J, _⟩ := J.look
  have hr2 : Room k X.A.in1.in1 := ⟨hr.hd, by have := hr.dp; show X.A.depth + 3 * k + 5 < recursionLimit; omega, by have := hr.un; show X.A.units + 1 + 1 + 16 * k + 200 < cLine; omega⟩
  refine PySem.W.kso_call (by have := hr2.un; omega) I.kIn J hm.at_ hm.fn ?_
  have hl := F.len _ _ _ _ h
  refine wpAny_call (codeAny_mono (F.run X.A.in1.in1 X.stack s H ⟨[.ref a], []⟩ [.ref a] [.ref a] _ E hr2 (env0_2 I) (by
    have := hb s [.ref a] I.kIn (by simpa using hl)
    simpa using this) (.cons rfl .nil) h) fun r s' hq => ?_)
  cases r with
  | error e => exact hx pins σ H s e s' I hq
  | ok fl =>
    cases fl with
    | ret w =>
      obtain ⟨z, H', I', rz, y, ez, q⟩ := I.after hq
      subst ez
      obtain ⟨t, rfl⟩ := rz
      exact ⟨.str y, H', I', ⟨t, rfl⟩, q⟩
    | next => exact False.elim hq
    | brk => exact False.elim hq
    | cont => exact False.elim hq
end
/-! ### the head's facts -/
def mkD (x : Str) (st : Stmt) (dv : List He.Dv) : He.DefD := ⟨(x, none), x, x, defArgs st, defBody st, defScope st, dv, []⟩
def mkM (c m q : Str) (st : Stmt) (dv : List He.Dv) : He.DefD := ⟨(c, some m), m, q, defArgs st, defBody st, defScope st, dv, []⟩
structure Tx (fa : List He.Fa) (fn : List He.DefD) (ex : List (PySem.W.Frag → Bool)) (K : PySem.W.Frag) (mg : Str → Option Value) : Prop where
  D : He.SaysD fa fn K
  hh : ∃ h : Heap, K.In h ∧ h.Ns mainGlobals mg
  e : (ex.all fun f => f K) = true
/-- more facts that a head can tell: of a class whose instances are asked isinstance; of an exception's class; isinstance's answers -/
def insB (x : Str) (K : PySem.W.Frag) : Bool := He.eqO (PySem.W.findIn K (.ref (He.ga K x)) "__class__") (some (some (.builtin "object.__class__"))) && (He.eqO (PySem.W.specialIn K (.builtin "object.__class__") "__get__") (some (some (.builtin "getset_descriptor.__get__"))) &&
  (decide (PySem.W.takesIn K (.builtin "object.__class__") = some true) && decide (PySem.W.mroIn K (He.ga K x) (.type "object") = some true)))
def excB (x : Str) (K : PySem.W.Frag) : Bool := He.eqO (PySem.W.findIn K (.ref (He.ga K x)) "__getattribute__") (some (some (.builtin "BaseException.__getattribute__"))) && (He.eqO (PySem.W.findIn K (.ref (He.ga K x)) "__getattr__") (some none) &&
  (decide (PySem.W.subIn K (.ref (He.ga K x)) (.type "BaseException") = some true) && (PySem.W.hasDictIn K (He.ga K x) && insB x K)))
def isB (x y : Str) (b : Bool) (K : PySem.W.Frag) : Bool := decide (PySem.W.kitOne K (.ref (He.ga K x)) (.ref (He.ga K y)) = some b)
def isTyB (x y : String) (b : Bool) (K : PySem.W.Frag) : Bool := decide (PySem.W.kitOne K (.ref (He.ga K x)) (.type y) = some b)
def selfB (x : Str) (K : PySem.W.Frag) : Bool := PySem.W.selfFirst K (He.ga K x)
structure InsC (K : PySem.W.Frag) (C : Addr) : Prop where
  cl : Cls K C
  ha : PySem.W.findIn K (.ref C) "__class__" = some (some (.builtin "object.__class__"))
  hn : PySem.W.specialIn K (.builtin "object.__class__") "__get__" = some (some (.builtin "getset_descriptor.__get__"))
  ht : PySem.W.takesIn K (.builtin "object.__class__") = some true
  hm : PySem.W.mroIn K C (.type "object") = some true
theorem insB_ok {x : Str} {K : PySem.W.Frag} (cl : Cls K (He.ga K x)) (h : insB x K = true) : InsC K (He.ga K x) := by
  obtain ⟨h1, h⟩ := He.ba h
  obtain ⟨h2, h⟩ := He.ba h
  obtain ⟨h3, h4⟩ := He.ba h
  exact ⟨cl, He.eqO_ok h1, He.eqO_ok h2, of_decide_eq_true h3, of_decide_eq_true h4⟩
theorem excB_ok {x : Str} {K : PySem.W.Frag} (h : excB x K = true) : ExcC K (He.ga K x) := by
  obtain ⟨h1, h⟩ := He.ba h
  obtain ⟨h2, h⟩ := He.ba h
  obtain ⟨h3, h⟩ := He.ba h
  obtain ⟨h4, h⟩ := He.ba h
  obtain ⟨k1, h⟩ := He.ba h
  obtain ⟨k2, h⟩ := He.ba h
  obtain ⟨k3, k4⟩ := He.ba h
  exact ⟨He.eqO_ok h1, He.eqO_ok h2, of_decide_eq_true h3, h4, He.eqO_ok k1, He.eqO_ok k2, of_decide_eq_true k3, of_decide_eq_true k4⟩
theorem isB_ok {x y : Str} {b : Bool} {K : PySem.W.Frag} (h : isB x y b K = true) : PySem.W.kitOne K (.ref (He.ga K x)) (.ref (He.ga K y)) = some b := of_decide_eq_true h
theorem isTyB_ok {x y : String} {b : Bool} {K : PySem.W.Frag} (h : isTyB x y b K = true) : PySem.W.kitOne K (.ref (He.ga K x)) (.type y) = some b := of_decide_eq_true h
theorem ixT_at {K : PySem.W.Frag} {H : Hp} {p : Addr} {xs : List V} {v : V} {Q : VK} (k : Nat) (h : H p = some (.tup xs)) (e : xs[k]? = some v) (q : Q v H) : rIxT K (.ref p) (.int (k : Int)) H Q := ⟨p, xs, _, v, rfl, rfl, SqT.of h, atI_nat e, q⟩
theorem ixL_at {K : PySem.W.Frag} {H : Hp} {p : Addr} {xs : List V} {v : V} {Q : VK} (k : Nat) (h : H p = some (.lst xs)) (e : xs[k]? = some v) (q : Q v H) : rIxL K (.ref p) (.int (k : Int)) H Q := ⟨p, xs, _, v, rfl, rfl, SqL.of h, atI_nat e, q⟩
theorem empty_app (x : Str) : Str.empty ++ x = x := by
  obtain ⟨a⟩ := x
  show Str.append Str.empty ⟨a⟩ = ⟨a⟩
  unfold Str.append Str.empty
  simp
theorem sc_ii (i j : Int) : scal (.int i) (.int j) = true := rfl
theorem sc_ss (i j : Str) : scal (.str i) (.str j) = true := rfl
theorem sc_bb (i j : Bool) : scal (.bl i) (.bl j) = true := rfl
theorem sc_in (i : Int) : scal (.int i) .non = true := rfl
theorem sc_ni (i : Int) : scal .non (.int i) = true := rfl
theorem sc_nn : scal .non .non = true := rfl
theorem sc_si (i : Str) (j : Int) : scal (.str i) (.int j) = true := rfl
theorem sc_is (i : Int) (j : Str) : scal (.int i) (.str j) = true := rfl
theorem for_r1 {ta : TA} {g : TG} {tb : TS} {D : Ends} {σ : L2.St} {H : Hp} (n : Nat) (hn : n < 2 ^ 62) (h : ∀ R : List V → Hp → Prop, R [.int (n : Int)] H → ta σ H R) (Pv : Nat → L2.St → Hp → Prop) (h0 : Pv 0 σ H)
    (hs : ∀ i σ H, i < n → Pv i σ H → g (.int (i : Int)) σ H fun σ2 H2 => tb { D with nx := Pv (i + 1), ct := Pv (i + 1), bk := D.nx } σ2 H2) (hd : ∀ σ H, Pv n σ H → D.nx σ H) : tFor (iRng1 ta) g tb D σ H := by
  refine h _ ⟨n, rfl, by omega, by omega, ?_⟩
  refine for_range (lo := 0) (n := n) Pv h0 (fun i σ H hi hp => ?_) hd
  have := hs i σ H hi hp
  rw [Int.zero_add]
  exact this
def isAnyB (x : Str) (ys : List Str) (b : Bool) (K : PySem.W.Frag) : Bool := decide (PySem.W.kitAny K (.ref (He.ga K x)) (ys.map fun y => .ref (He.ga K y)) = some b)
theorem isAnyB_ok {x : Str} {ys : List Str} {b : Bool} {K : PySem.W.Frag} (h : isAnyB x ys b K = true) : PySem.W.kitAny K (.ref (He.ga K x)) (ys.map fun y => .ref (He.ga K y)) = some b := of_decide_eq_true h
theorem own_all {K : PySem.W.Frag} : ∀ ys : List Str, Paired ClsV (ys.map fun y => V.ref (He.ga K y)) (ys.map fun y => Value.ref (He.ga K y))
  | [] => .nil
  | _ :: r => .cons (.own _) (own_all r)
theorem ixT_menu {K : PySem.W.Frag} {H : Hp} {p : Addr} {vs : List V} {Q : VK} {k : Int} (h : H p = some (.tup vs)) (h0 : 0 ≤ k) (h1 : k < vs.length) (q : ∀ v ∈ vs, Q v H) : rIxT K (.ref p) (.int k) H Q := by
  obtain ⟨j, rfl⟩ := Int.eq_ofNat_of_zero_le h0
  have hj : j < vs.length := by omega
  exact ixT_at j h (List.getElem?_eq_getElem hj) (q _ (List.getElem_mem hj))
theorem same_upd {H : Hp} {p : Addr} {o : HO} (np : H p = none) : Same H (upd H p o) := fun b u e => by rw [upd_ne (ne_of_none e np)]; exact e
theorem menu_new {K : PySem.W.Frag} {H : Hp} {p : Addr} {vs : List V} {Q : VK} {k : Int} (np : H p = none) (h0 : 0 ≤ k) (h1 : k < vs.length) (q : ∀ v ∈ vs, ∀ H', Same H H' → Q v H') : rIxT K (.ref p) (.int k) (upd H p (.tup vs)) Q :=
  ixT_menu upd_same h0 h1 fun v hv => q v hv _ (same_upd np)
theorem rOwn_at {C a b dx dy : Addr} {fs gs : List (Str × V)} {sp : Sp} {E : XK} {H : Hp} {Q : VK} (ha : H a = some (.ins C dx fs)) (hb : H b = some (.ins C dy gs)) (h : sp [.ref a, .ref b] H Q E) : rOwn C sp E (.ref a) (.ref b) H Q := ⟨a, b, dx, dy, fs, gs, rfl, rfl, ha, hb, h⟩
/-- isinstance by kinds -/
theorem isi_int {K : PySem.W.Frag} {i : Int} {n : String} {b : Bool} {H : Hp} {Q : VK} (e : kitB "int" n = some b) (h : Q (.bl b) H) : rIsi K [.int i, .ty n] H Q := ⟨_, _, _, _, b, rfl, .ty _, .base (.int i), kit_ty e, h⟩
theorem isi_bl {K : PySem.W.Frag} {i : Bool} {n : String} {b : Bool} {H : Hp} {Q : VK} (e : kitB "bool" n = some b) (h : Q (.bl b) H) : rIsi K [.bl i, .ty n] H Q := ⟨_, _, _, _, b, rfl, .ty _, .base (.bl i), kit_ty e, h⟩
theorem isi_ins {K : PySem.W.Frag} {a C D dx : Addr} {fs : List (Str × V)} {b : Bool} {H : Hp} {Q : VK} (c : InsC K C) (ha : H a = some (.ins C dx fs)) (e : PySem.W.kitOne K (.ref C) (.ref D) = some b) (h : Q (.bl b) H) : rIsi K [.ref a, .ref D] H Q :=
  ⟨_, _, _, _, b, rfl, .own _, .base (.ins ha c.cl c.ha c.hn c.ht c.hm), e, h⟩
theorem kit_self {K : PySem.W.Frag} {t : Value} : PySem.W.kitOne K t t = some true := by
  unfold PySem.W.kitOne
  rw [if_pos (beq_self_eq_true t)]
section
variable {P : Program} {w : World} {K : PySem.W.Frag} {mg : Str → Option Value} {base : Heap} {fa : List He.Fa} {fn : List He.DefD} {ex : List (PySem.W.Frag → Bool)}
theorem Tx.fx (T : Tx fa fn ex K mg) (i : Nat) {f : PySem.W.Frag → Bool} (h : ex[i]? = some f := by rfl) : f K = true := List.all_eq_true.mp T.e f (List.mem_of_getElem? h)
theorem Tx.glo (T : Tx fa fn ex K mg) (i : Nat) {x : Str} (h : fa[i]? = some (.glo x) := by rfl) : mg x = some (.ref (He.ga K x)) := by
  obtain ⟨hp, X, G⟩ := T.hh
  exact He.glo_ok X G (T.D.fact i h)
theorem Tx.free (T : Tx fa fn ex K mg) (i : Nat) {x : Str} (h : fa[i]? = some (.free x) := by rfl) : mg x = none := by
  obtain ⟨hp, X, G⟩ := T.hh
  exact He.free_ok X G (T.D.fact i h)
theorem Tx.int (T : Tx fa fn ex K mg) (i : Nat) {x : Str} {z : Int} (h : fa[i]? = some (.int x z) := by rfl) : ∃ t, mg x = some (.int z t) := by
  obtain ⟨hp, X, G⟩ := T.hh
  exact He.int_ok X G (T.D.fact i h)
theorem Tx.str (T : Tx fa fn ex K mg) (i : Nat) {x z : Str} (h : fa[i]? = some (.str x z) := by rfl) : ∃ t, mg x = some (.str z t) := by
  obtain ⟨hp, X, G⟩ := T.hh
  exact He.str_ok X G (T.D.fact i h)
theorem Tx.cls (T : Tx fa fn ex K mg) (i : Nat) {x : Str} (h : fa[i]? = some (.cls x) := by rfl) : Cls K (He.ga K x) := He.cls_ok (T.D.fact i h)
theorem Tx.noat (T : Tx fa fn ex K mg) (i : Nat) {x f : Str} (h : fa[i]? = some (.noat x f) := by rfl) : NoAttr K (He.ga K x) f := He.noat_ok (T.D.fact i h)
theorem Tx.meth (T : Tx fa fn ex K mg) (i : Nat) {x m : Str} (h : fa[i]? = some (.meth x m) := by rfl) : Meth K (He.ga K x) m (He.ma K (He.ga K x) m) := He.meth_ok (T.D.fact i h)
theorem Tx.mkr (T : Tx fa fn ex K mg) (i : Nat) {x : Str} (h : fa[i]? = some (.mkr x) := by rfl) : Mk K (He.ga K x) (He.ma K (He.ga K x) "__init__") := He.mkr_ok (T.D.fact i h)
theorem Tx.exc (T : Tx fa fn ex K mg) (i : Nat) {x : Str} (h : fa[i]? = some (.exc x) := by rfl) : PySem.W.excIn K (He.ga K x) He.veBase "ValueError.__new__" = true ∧ PySem.W.keepIn K (.ref (He.ga K x)) = true ∧
    PySem.W.subIn K (.ref (He.ga K x)) (.type "BaseException") = some true ∧ PySem.W.typeIn K (.ref (He.ga K x)) = some (.type "type") := He.exc_ok (T.D.fact i h)
theorem Tx.exm (T : Tx fa fn ex K mg) (i : Nat) {x y : Str} {b : Bool} (h : fa[i]? = some (.exm x y b) := by rfl) : PySem.W.exmOne K (.ref (He.ga K x)) (.ref (He.ga K y)) = some b := He.exm_ok (T.D.fact i h)
theorem Tx.df (T : Tx fa fn ex K mg) (i : Nat) {d : He.DefD} (h : fn[i]? = some d := by rfl) : ∃ fd, FunD K d.name d.qual d.params d.body d.scope (d.dvs K) (d.kws K) (He.fAd K d.at_) fd := T.D.def_ i h
/-- the body's context -/
abbrev cxB (P : Program) (w : World) (K : PySem.W.Frag) (mg : Str → Option Value) (base : Heap) (N : List Str) (q : Str) (st : Stmt) (f : Addr) (cdv : Value) (A : Around) (outer : List Env) (s : Shared) (H : Hp) (E : XK) : Cx := cxOf (L2.CX P w) P w K mg base N q (defScope st) f cdv A outer s H E
/-- what a body is to show: hpo for loops and tries, tk for raises, px for calls that raise nothing -/
def BodyOk (P : Program) (w : World) (K : PySem.W.Frag) (mg : Str → Option Value) (base : Heap) (N : List Str) (q : Str) (st : Stmt) (f : Addr) (k : Nat) (sp : Sp) : Prop :=
  ∀ (cdv : Value) (A : Around) (outer : List Env) (s : Shared) (H : Hp) (vs : List V) (Q : VK) (E : XK), sp vs H Q E → Room k (A.deeper (envOfC q (defScope st) s.heap.objs.size f cdv)) →
    PassesOwn (model P w) (cxB P w K mg base N q st f cdv A outer s H E).A (cxB P w K mg base N q st f cdv A outer s H E).env (cxB P w K mg base N q st f cdv A outer s H E).xe → Takes (cxB P w K mg base N q st f cdv A outer s H E) (fun cls d _ H => E cls d H) →
    Passes (L2.CX P w) (cxB P w K mg base N q st f cdv A outer s H E) E0 → Passes (L2.CX P w) (cxB P w K mg base N q st f cdv A outer s H E) E →
    ∃ t, PSs (cxB P w K mg base N q st f cdv A outer s H E) (defBody st) t ∧ t { nx := fun _ H' => Q .non H', rt := Q } (L2.start N vs) H
theorem BodyOk.to {N : List Str} {q : Str} {st : Stmt} {f : Addr} {k : Nat} {sp : Sp} (h : BodyOk P w K mg base N q st f k sp) (cdv : Value) (A : Around) (outer : List Env) (s : Shared) (H : Hp) (vs : List V) (Q : VK) (E : XK)
    (hr : Room k (A.deeper (envOfC q (defScope st) s.heap.objs.size f cdv))) (hs : sp vs H Q E) :
    ∃ t, PSs (cxOf (L2.CX P w) P w K mg base N q (defScope st) f cdv A outer s H E) (defBody st) t ∧ t { nx := fun _ H' => Q .non H', rt := Q } (L2.start N vs) H :=
  h cdv A outer s H vs Q E hs hr (passes_of (X := cxB P w K mg base N q st f cdv A outer s H E) rfl) (takes_of (X := cxB P w K mg base N q st f cdv A outer s H E) rfl rfl rfl (E := E) rfl) passL
    (passes_call (takes_of (X := cxB P w K mg base N q st f cdv A outer s H E) rfl rfl rfl (E := E) rfl) (fun _ _ _ _ z => z))
/-- the law's own body: nothing leaves it -/
abbrev cxL (P : Program) (w : World) (K : PySem.W.Frag) (mg : Str → Option Value) (base : Heap) (N : List Str) (q : Str) (st : Stmt) (f : Addr) (cdv : Value) (A : Around) (outer : List Env) (s : Shared) (H : Hp) (E : XK) : Cx := cxOf CX0 P w K mg base N q (defScope st) f cdv A outer s H E
def BodyLaw (P : Program) (w : World) (K : PySem.W.Frag) (mg : Str → Option Value) (base : Heap) (N : List Str) (q : Str) (st : Stmt) (f : Addr) (k : Nat) (sp : Sp) : Prop :=
  ∀ (cdv : Value) (A : Around) (outer : List Env) (s : Shared) (H : Hp) (vs : List V) (Q : VK) (E : XK), sp vs H Q E → Room k (A.deeper (envOfC q (defScope st) s.heap.objs.size f cdv)) →
    PassesOwn (model P w) (cxL P w K mg base N q st f cdv A outer s H E).A (cxL P w K mg base N q st f cdv A outer s H E).env (cxL P w K mg base N q st f cdv A outer s H E).xe → Takes (cxL P w K mg base N q st f cdv A outer s H E) (fun _ _ _ _ => False) →
    Passes (L2.CX P w) (cxL P w K mg base N q st f cdv A outer s H E) E0 →
    ∃ t, PSs (cxL P w K mg base N q st f cdv A outer s H E) (defBody st) t ∧ t { nx := fun _ H' => Q .non H', rt := Q } (L2.start N vs) H
theorem BodyLaw.to {N : List Str} {q : Str} {st : Stmt} {f : Addr} {k : Nat} {sp : Sp} (h : BodyLaw P w K mg base N q st f k sp) (cdv : Value) (A : Around) (outer : List Env) (s : Shared) (H : Hp) (vs : List V) (Q : VK) (E : XK)
    (hr : Room k (A.deeper (envOfC q (defScope st) s.heap.objs.size f cdv))) (hs : sp vs H Q E) :
    ∃ t, PSs (cxOf CX0 P w K mg base N q (defScope st) f cdv A outer s H E) (defBody st) t ∧ t { nx := fun _ H' => Q .non H', rt := Q } (L2.start N vs) H :=
  h cdv A outer s H vs Q E hs hr (passes_of (X := cxL P w K mg base N q st f cdv A outer s H E) rfl) takes0 passL
/-- a def keeps its promise -/
theorem Okd.of {x : Str} (st : Stmt) {N ps : List Str} {k : Nat} {sp : Sp} (F : ∃ fd, FunD K x x (defArgs st) (defBody st) (defScope st) [] [] (He.ga K x) fd) (g : mg x = some (.ref (He.ga K x))) (S : FnScope N ps (defScope st))
    (hb : ∀ (kV doc pm : Value) (an : Option Addr) (cdv ct : Value) (us : List Value), us.length = ps.length → bindArgs (PySem.W.fnOf x x (defArgs st) (defBody st) (defScope st) .none kV doc pm an cdv ct) ⟨us, []⟩ = pure (ps.zip us))
    (len : ∀ vs H Q E, sp vs H Q E → vs.length = ps.length) (h : BodyOk P w K mg base N x st (He.ga K x) k sp) : Okd P w K mg base (L2.CX P w) (k + 1) x ps sp := by
  obtain ⟨fd, F⟩ := F
  exact ⟨fd, F.ok S len h.to, F.bindsN hb, F.kp, g⟩
theorem Okm.of {c m q : Str} (st : Stmt) {N ps : List Str} {k : Nat} {sp : Sp} (F : ∃ fd, FunD K m q (defArgs st) (defBody st) (defScope st) [] [] (He.ma K (He.ga K c) m) fd) (hc : Cls K (He.ga K c)) (hm : Meth K (He.ga K c) m (He.ma K (He.ga K c) m)) (S : FnScope N ps (defScope st))
    (hb : ∀ (kV doc pm : Value) (an : Option Addr) (cdv ct : Value) (us : List Value), us.length = ps.length → bindArgs (PySem.W.fnOf m q (defArgs st) (defBody st) (defScope st) .none kV doc pm an cdv ct) ⟨us, []⟩ = pure (ps.zip us))
    (len : ∀ vs H Q E, sp vs H Q E → vs.length = ps.length) (h : BodyOk P w K mg base N q st (He.ma K (He.ga K c) m) k sp) : Okm P w K mg base (L2.CX P w) (k + 1) c m ps sp := by
  obtain ⟨fd, F⟩ := F
  exact ⟨fd, F.ok S len h.to, F.bindsN hb, hc, hm⟩
/-- an __init__ without defaults -/
theorem Oki.of {c q : Str} (st : Stmt) {N ps : List Str} {k : Nat} {sp : Sp} (F : ∃ fd, FunD K "__init__" q (defArgs st) (defBody st) (defScope st) [] [] (He.ma K (He.ga K c) "__init__") fd) (g : mg c = some (.ref (He.ga K c))) (hm : Mk K (He.ga K c) (He.ma K (He.ga K c) "__init__")) (S : FnScope N ps (defScope st))
    (hb : ∀ (kV doc pm : Value) (an : Option Addr) (cdv ct : Value) (us : List Value), us.length = ps.length → bindArgs (PySem.W.fnOf "__init__" q (defArgs st) (defBody st) (defScope st) .none kV doc pm an cdv ct) ⟨us, []⟩ = pure (ps.zip us))
    (len : ∀ vs H Q E, sp vs H Q E → vs.length = ps.length) (h : BodyOk P w K mg base N q st (He.ma K (He.ga K c) "__init__") k sp) : Oki P w K mg base (L2.CX P w) (k + 1) c ps [] sp := by
  obtain ⟨fd, F⟩ := F
  exact ⟨fd, [], F.ok S len h.to, .nil, F.bindsN hb, hm, g⟩
/-- an __init__ with defaults dvs; j of them are given by the caller -/
theorem Oki.ofD {c q : Str} (st : Stmt) (dvs : List V) {N ps : List Str} {k : Nat} {sp : Sp} (n j : Nat) (F : ∃ fd, FunD K "__init__" q (defArgs st) (defBody st) (defScope st) dvs [] (He.ma K (He.ga K c) "__init__") fd) (hd : dvs ≠ []) (hn : n + (dvs.length - j) = ps.length) (g : mg c = some (.ref (He.ga K c))) (hm : Mk K (He.ga K c) (He.ma K (He.ga K c) "__init__")) (S : FnScope N ps (defScope st))
    (hb : ∀ (T : Addr) (kV doc pm : Value) (an : Option Addr) (cdv ct : Value) (us its : List Value), us.length = n → its.length = dvs.length →
      ∃ k, bindArgs (PySem.W.fnOf "__init__" q (defArgs st) (defBody st) (defScope st) (.ref T) kV doc pm an cdv ct) ⟨us, []⟩ = seqItems? (.ref T) >>= k ∧ k (some its.toArray) = pure (ps.zip (us ++ its.drop j)))
    (len : ∀ vs H Q E, sp vs H Q E → vs.length = ps.length) (h : BodyOk P w K mg base N q st (He.ma K (He.ga K c) "__init__") k sp) : Oki P w K mg base (L2.CX P w) (k + 1) c ps (dvs.drop j) sp := by
  obtain ⟨fd, F⟩ := F
  obtain ⟨ds, hds, hB⟩ := F.binds1 n j hd hn hb
  exact ⟨fd, ds, F.ok S len h.to, hds, hB, hm, g⟩
/-- a def with defaults, called with j of them -/
def Okdd (P : Program) (w : World) (K : PySem.W.Frag) (mg : Str → Option Value) (base : Heap) (CX : CXT) (k : Nat) (x : Str) (ps : List Str) (dvs : List V) (sp : Sp) : Prop :=
  ∃ fd ds, FnOk P w K mg base CX k (He.ga K x) fd ps sp ∧ Vals dvs ds ∧ Binds K fd ps ds ∧ PySem.W.keepIn K (.ref (He.ga K x)) = true ∧ mg x = some (.ref (He.ga K x))
theorem Okdd.ofD {x : Str} (st : Stmt) (dvs : List V) {N ps : List Str} {k : Nat} {sp : Sp} (n j : Nat) (F : ∃ fd, FunD K x x (defArgs st) (defBody st) (defScope st) dvs [] (He.ga K x) fd) (hd : dvs ≠ []) (hn : n + (dvs.length - j) = ps.length) (g : mg x = some (.ref (He.ga K x))) (S : FnScope N ps (defScope st))
    (hb : ∀ (T : Addr) (kV doc pm : Value) (an : Option Addr) (cdv ct : Value) (us its : List Value), us.length = n → its.length = dvs.length →
      ∃ k, bindArgs (PySem.W.fnOf x x (defArgs st) (defBody st) (defScope st) (.ref T) kV doc pm an cdv ct) ⟨us, []⟩ = seqItems? (.ref T) >>= k ∧ k (some its.toArray) = pure (ps.zip (us ++ its.drop j)))
    (len : ∀ vs H Q E, sp vs H Q E → vs.length = ps.length) (h : BodyOk P w K mg base N x st (He.ga K x) k sp) : Okdd P w K mg base (L2.CX P w) (k + 1) x ps (dvs.drop j) sp := by
  obtain ⟨fd, F⟩ := F
  obtain ⟨ds, hds, hB⟩ := F.binds1 n j hd hn hb
  exact ⟨fd, ds, F.ok S len h.to, hds, hB, F.kp, g⟩
end
/-! ### calls within a try's body, wishes at the slots; what the caught exception is -/
def tMakeS (C : Addr) (sp : Sp) (dvs : List V) (E : L2.St → XK) (t : TA) : TE := fun σ H Q => t σ H fun vs H1 => ∀ x dx, H1 x = none → H1 dx = none → dx ≠ x →
  sp (.ref x :: (vs ++ dvs)) (upd (upd H1 dx (.own x)) x (.ins C dx [])) (fun v H2 => v = .non ∧ Q (.ref x) H2) (E σ)
section
variable {X : Cx} {CX : CXT} {k j : Nat} {sp : Sp} {ps : List Str} {E : L2.St → XK} {x c m : Str} {p pos apos : Pos} {e o : Expr} {es : List Expr} {ta : TE} {t : TA} {dvs : List V}
theorem pfS (G : Okd X.prog X.w X.K X.mg X.base CX k x ps sp) (hr : Room k X.A) (hg : Gl X x) (hx : ∀ σ, PassesAt CX X σ (E σ)) (ha : PA X (e :: es) t)
    (hdb : (x == ("__debug__" : Str)) = false := by decide) (he : starEach (e :: es) X.env = (false, eval e X.env) :: starEach es X.env := by rfl) (hpl : (backTo pos (starEach es X.env)).any (·.1) = false := by rfl) :
    PE X (.Call (.Name x p) (e :: es) [] pos) (tCallS sp E t) := by
  obtain ⟨fd, F, hb, hk, hm⟩ := G
  exact pe_callS F hr hg hm hk hb hx ha hdb he hpl
theorem pmkS (G : Oki X.prog X.w X.K X.mg X.base CX k x ps dvs sp) (hr : Room (k + 1) X.A) (hg : Gl X x) (hx : ∀ σ, PassesAt CX X σ (E σ)) (ha : PA X (e :: es) t)
    (hdb : (x == ("__debug__" : Str)) = false := by decide) (he : starEach (e :: es) X.env = (false, eval e X.env) :: starEach es X.env := by rfl) (hpl : (backTo pos (starEach es X.env)).any (·.1) = false := by rfl) :
    PE X (.Call (.Name x p) (e :: es) [] pos) (tMakeS (He.ga X.K x) sp dvs E t) := by
  obtain ⟨fd, ds, F, hd, hb, M, hm⟩ := G
  refine ⟨fun pins s σ H Q I h => ?_⟩
  refine wpAny_Call_Name_kw (ld_glob I hg hm ?_ hdb)
  refine PySem.W.callWith_K (h₀ := X.base) I.ok.mod.kin M.kp (thn (ha.run pos pins s σ H _ I h) fun us s ⟨vs, H, I, r, h⟩ => ⟨I.kIn, ?_⟩) he hpl
  have hq := h (s.heap.objs.size + 1) s.heap.objs.size (I.hok.fresh (Nat.le_succ _)) (I.hok.fresh (Nat.le_refl _)) (Nat.ne_of_lt (Nat.lt_succ_self _))
  have I2 := Inv.made (C := He.ga X.K x) I
  have r2 : Vals (V.ref (s.heap.objs.size + 1) :: (vs ++ dvs)) (Value.ref (s.heap.objs.size + 1) :: (us ++ ds)) := .cons rfl (r.append hd)
  have hl : (Value.ref (s.heap.objs.size + 1) :: us ++ ds).length = ps.length := by
    have e := r2.length
    rw [F.len _ _ _ _ hq] at e
    exact e.symm
  refine wpAny_call (make_map (f := He.ma X.K (He.ga X.K x) "__init__") I.kIn M.makes M.init (beq_iff_eq.mp M.fn) (codeAny_mono (F.run _ X.stack _ _ ⟨Value.ref (s.heap.objs.size + 1) :: us, []⟩ (Value.ref (s.heap.objs.size + 1) :: (us ++ ds)) _ _ (E σ) (hr.make (He.ga X.K x) us [])
    (I2.env0.make (He.ga X.K x) us []) (hb _ (Value.ref (s.heap.objs.size + 1) :: us) I2.kIn hl) r2 hq) fun r s' hq' => ?_))
  cases r with
  | error e => exact hx σ pins _ _ e s' I2 hq'
  | ok fl =>
    cases fl with
    | ret u =>
      obtain ⟨v, H', I3, rv, ev, q3⟩ := I2.after hq'
      subst ev
      exact ⟨rv, ⟨V.ref (s.heap.objs.size + 1), H', I3, rfl, q3⟩⟩
    | next => exact False.elim hq'
    | brk => exact False.elim hq'
    | cont => exact False.elim hq'
/-- isinstance(e, c), e the exception that the suite holds, of the class D, without a dict of its own -/
def rIsX (K : PySem.W.Frag) (a : Addr) (cls : Value) (d : Option Addr) : List V → Hp → VK → Prop := fun xs H Q => ∃ (D : Addr) (c : V) (cv : Value) (b : Bool), cls = .ref D ∧ d = none ∧ ExcC K D ∧ xs = [.ref a, c] ∧ ClsV c cv ∧ PySem.W.kitOne K (.ref D) cv = some b ∧ Q (.bl b) H
theorem call_isX {X : Cx} {a : Addr} {cls : Value} {d : Option Addr} {oe : Obj} {pn : List (Addr × Obj)} (hz : Zc cls d oe) (hf : ∃ vs, oe.data = .fields vs) : CallR (X.suite a ((a, oe) :: pn)) (.builtin "isinstance") (rIsX X.K a cls d) := by
  intro pins s σ H xs us Q I r h
  obtain ⟨D, c, cv, b, rfl, rfl, C, rfl, k, e, q⟩ := h
  exact call_isE C hz hf pins s σ H _ us Q I r ⟨c, cv, b, rfl, fun u ru => k.eq ru, e, q⟩
/-- isinstance(e, (c1, c2, ..)) -/
def rIsXT (K : PySem.W.Frag) (a : Addr) (cls : Value) (d : Option Addr) : List V → Hp → VK → Prop := fun xs H Q => ∃ (D tp : Addr) (cs : List V) (us : List Value) (b : Bool), cls = .ref D ∧ d = none ∧ ExcC K D ∧ xs = [.ref a, .ref tp] ∧ H tp = some (.tup cs) ∧ Paired ClsV cs us ∧ PySem.W.kitAny K (.ref D) us = some b ∧ Q (.bl b) H
theorem call_isXT {X : Cx} {a : Addr} {cls : Value} {d : Option Addr} {oe : Obj} {pn : List (Addr × Obj)} (hz : Zc cls d oe) (hf : ∃ vs, oe.data = .fields vs) : CallR (X.suite a ((a, oe) :: pn)) (.builtin "isinstance") (rIsXT X.K a cls d) := by
  intro pins s σ H xs us Q I r h
  obtain ⟨D, tp, cs, ws, b, rfl, rfl, C, rfl, hT, k, e, q⟩ := h
  cases r with
  | cons rx rr =>
    cases rr with
    | cons rt rr =>
      cases rr
      cases rx
      cases rt
      obtain ⟨hget, _⟩ := I.pin (a, oe) (List.mem_append.mpr (.inl List.mem_cons_self))
      obtain ⟨vs, hv⟩ := hf
      have J : PySem.W.InstAt s.heap a oe D none := by
        obtain ⟨oc, od, oda, osl⟩ := oe
        obtain ⟨h1, h2⟩ := hz
        dsimp only at h1 h2 hv
        subst h1 h2 hv
        exact ⟨hget, rfl, rfl, trivial⟩
      obtain ⟨_, its, rv, o, h1, h2, n, h3⟩ := (show ObjOk X.prog X.w H s.heap tp (.tup cs) from I.hok tp _ hT)
      have e3 := ClsV.all k rv
      subst e3
      obtain ⟨oc, od, dt, sl⟩ := o
      simp only at h2 h3
      subst h2 h3
      exact PySem.W.kia_tup (PySem.W.handS_kitx_exc C.hg C.hk C.hs C.hd C.ha C.hn C.ht C.hm) I.kIn J h1 e (fun z => nomatch z) fun tk => ⟨.bl b, H, I.tok tk, rfl, q⟩
end
end TL

/-! plain lemmas: fractions in lowest terms, Euclid's steps, lengths of written numbers -/
namespace PL
open PySem
theorem gcd_step {a b : Int} (ha : 0 ≤ a) (hb : 0 < b) : Int.gcd b (a % b) = Int.gcd a b := by
  rw [Int.gcd_eq_natAbs_gcd_natAbs, Int.gcd_eq_natAbs_gcd_natAbs]
  have e : (a % b).natAbs = a.natAbs % b.natAbs := by
    apply Int.ofNat.inj
    show ((a % b).natAbs : Int) = ((a.natAbs % b.natAbs : Nat) : Int)
    rw [Int.natAbs_of_nonneg (Int.emod_nonneg _ (by omega)), Int.natCast_emod, Int.natAbs_of_nonneg ha, Int.natAbs_of_nonneg (by omega)]
  rw [e, Nat.gcd_comm a.natAbs, Nat.gcd_comm, ← Nat.gcd_rec]
def red (n d : Int) : Int × Int := (n / (Int.gcd n d : Int), d / (Int.gcd n d : Int))
theorem gcd_pos {n d : Int} (h : 0 < d) : 0 < (Int.gcd n d : Int) := by
  have := Int.gcd_pos_of_ne_zero_right n (b := d) (by omega)
  omega
theorem gcd_le {n d : Int} (h : 0 < d) : (Int.gcd n d : Int) ≤ d := by
  have h1 := Int.gcd_dvd_right n d
  exact Int.le_of_dvd h h1
theorem red_den_pos {n d : Int} (h : 0 < d) : 0 < (red n d).2 := by
  obtain ⟨k, hk⟩ := Int.gcd_dvd_right n d
  have g := gcd_pos (n := n) h
  show 0 < d / (Int.gcd n d : Int)
  exact Int.ediv_pos_of_pos_of_dvd h (by omega) (Int.gcd_dvd_right n d)
theorem red_den_le {n d : Int} (h : 0 < d) : (red n d).2 ≤ d := by
  have g := gcd_pos (n := n) h
  show d / (Int.gcd n d : Int) ≤ d
  exact Int.ediv_le_self _ (by omega)
theorem red_num {n d : Int} : (red n d).1 * (Int.gcd n d : Int) = n := Int.ediv_mul_cancel (Int.gcd_dvd_left n d)
theorem red_den {n d : Int} : (red n d).2 * (Int.gcd n d : Int) = d := Int.ediv_mul_cancel (Int.gcd_dvd_right n d)
theorem red_num_le {n d : Int} (h : 0 < d) : (red n d).1.natAbs ≤ n.natAbs := by
  have g := gcd_pos (n := n) h
  have e := red_num (n := n) (d := d)
  have e2 : ((red n d).1 * (Int.gcd n d : Int)).natAbs = n.natAbs := by rw [e]
  rw [Int.natAbs_mul] at e2
  have g2 : 1 ≤ (Int.gcd n d : Int).natAbs := by omega
  calc (red n d).1.natAbs = (red n d).1.natAbs * 1 := by rw [Nat.mul_one]
    _ ≤ (red n d).1.natAbs * (Int.gcd n d : Int).natAbs := Nat.mul_le_mul_left _ g2
    _ = n.natAbs := e2
/-- lowest terms are one -/
theorem red_eq {n d m e : Int} (hd : 0 < d) (he : 0 < e) (h : n * e = m * d) : red n d = red m e := by
  have key : ∀ {n d m e : Int}, 0 < d → 0 < e → n * e = m * d → (Int.gcd n d : Int) * e = (Int.gcd m e : Int) * d := by
    intro n d m e hd he h
    have h1 : Int.gcd (n * e) (d * e) = Int.gcd n d * e.natAbs := Int.gcd_mul_right ..
    have h2 : Int.gcd (m * d) (e * d) = Int.gcd m e * d.natAbs := Int.gcd_mul_right ..
    rw [h, Int.mul_comm d e] at h1
    have h3 : ((Int.gcd n d * e.natAbs : Nat) : Int) = ((Int.gcd m e * d.natAbs : Nat) : Int) := by rw [← h1, h2]
    rw [Int.natCast_mul, Int.natCast_mul, Int.natAbs_of_nonneg (by omega), Int.natAbs_of_nonneg (by omega)] at h3
    exact h3
  have k := key hd he h
  have gp := gcd_pos (n := n) hd
  have gq := gcd_pos (n := m) he
  have e1 : n / (Int.gcd n d : Int) = m / (Int.gcd m e : Int) := by
    -- n * g' = m * g
    have a1 := red_num (n := n) (d := d)
    have a2 := red_num (n := m) (d := e)
    have hx : (red n d).1 * ((Int.gcd n d : Int) * e) = (red m e).1 * ((Int.gcd m e : Int) * d) := by
      rw [← Int.mul_assoc, ← Int.mul_assoc, a1, a2, h]
    rw [k] at hx
    have hne : (Int.gcd m e : Int) * d ≠ 0 := Int.ne_of_gt (Int.mul_pos gq hd)
    exact Int.eq_of_mul_eq_mul_right hne hx
  have e2 : d / (Int.gcd n d : Int) = e / (Int.gcd m e : Int) := by
    have a1 := red_den (n := n) (d := d)
    have a2 := red_den (n := m) (d := e)
    have hx : (red n d).2 * ((Int.gcd n d : Int) * e) = (red m e).2 * ((Int.gcd m e : Int) * d) := by
      rw [← Int.mul_assoc, ← Int.mul_assoc, a1, a2, Int.mul_comm]
    rw [k] at hx
    have hne : (Int.gcd m e : Int) * d ≠ 0 := Int.ne_of_gt (Int.mul_pos gq hd)
    exact Int.eq_of_mul_eq_mul_right hne hx
  unfold red
  rw [e1, e2]
theorem red_cross {n d m e : Int} (hd : 0 < d) (he : 0 < e) (h : red n d = red m e) : n * e = m * d := by
  have a1 := red_num (n := n) (d := d)
  have a2 := red_num (n := m) (d := e)
  have b1 := red_den (n := n) (d := d)
  have b2 := red_den (n := m) (d := e)
  rw [h] at a1 b1
  generalize (red m e).1 = x at *
  generalize (red m e).2 = y at *
  generalize (Int.gcd n d : Int) = g at *
  generalize (Int.gcd m e : Int) = g' at *
  subst a1 a2 b1 b2
  rw [Int.mul_assoc, Int.mul_assoc, Int.mul_left_comm g y g', Int.mul_left_comm g' y g, Int.mul_comm g g']
theorem red_iff {n d m e : Int} (hd : 0 < d) (he : 0 < e) : red n d = red m e ↔ n * e = m * d := ⟨red_cross hd he, red_eq hd he⟩
theorem red_red {n d : Int} (hd : 0 < d) : red (red n d).1 (red n d).2 = red n d := by
  refine red_eq (red_den_pos hd) hd ?_
  have a1 := red_num (n := n) (d := d)
  have b1 := red_den (n := n) (d := d)
  generalize (red n d).1 = x at *
  generalize (red n d).2 = y at *
  generalize (Int.gcd n d : Int) = g at *
  subst a1 b1
  rw [Int.mul_left_comm, Int.mul_comm y, Int.mul_assoc]
/-- the value of a reduced fraction, used crosswise -/
theorem red_val {n d : Int} : (red n d).1 * d = n * (red n d).2 := by
  have a1 := red_num (n := n) (d := d)
  have b1 := red_den (n := n) (d := d)
  generalize (red n d).1 = x at *
  generalize (red n d).2 = y at *
  generalize (Int.gcd n d : Int) = g at *
  subst a1 b1
  rw [Int.mul_right_comm, Int.mul_assoc]
theorem red_add {a b c d : Int} (hb : 0 < b) (hd : 0 < d) : red ((red a b).1 * (red c d).2 + (red c d).1 * (red a b).2) ((red a b).2 * (red c d).2) = red (a * d + c * b) (b * d) := by
  refine red_eq (Int.mul_pos (red_den_pos hb) (red_den_pos hd)) (Int.mul_pos hb hd) ?_
  have h1 := red_val (n := a) (d := b)
  have h2 := red_val (n := c) (d := d)
  generalize (red a b).1 = p1 at *
  generalize (red a b).2 = p2 at *
  generalize (red c d).1 = q1 at *
  generalize (red c d).2 = q2 at *
  have e1 : p1 * q2 * (b * d) = a * d * (p2 * q2) := by
    calc p1 * q2 * (b * d) = (p1 * b) * (q2 * d) := by ac_rfl
      _ = (a * p2) * (q2 * d) := by rw [h1]
      _ = _ := by ac_rfl
  have e2 : q1 * p2 * (b * d) = c * b * (p2 * q2) := by
    calc q1 * p2 * (b * d) = (q1 * d) * (p2 * b) := by ac_rfl
      _ = (c * q2) * (p2 * b) := by rw [h2]
      _ = _ := by ac_rfl
  rw [Int.add_mul, Int.add_mul, e1, e2]
theorem red_sub {a b c d : Int} (hb : 0 < b) (hd : 0 < d) : red ((red a b).1 * (red c d).2 - (red c d).1 * (red a b).2) ((red a b).2 * (red c d).2) = red (a * d - c * b) (b * d) := by
  refine red_eq (Int.mul_pos (red_den_pos hb) (red_den_pos hd)) (Int.mul_pos hb hd) ?_
  have h1 := red_val (n := a) (d := b)
  have h2 := red_val (n := c) (d := d)
  generalize (red a b).1 = p1 at *
  generalize (red a b).2 = p2 at *
  generalize (red c d).1 = q1 at *
  generalize (red c d).2 = q2 at *
  have e1 : p1 * q2 * (b * d) = a * d * (p2 * q2) := by
    calc p1 * q2 * (b * d) = (p1 * b) * (q2 * d) := by ac_rfl
      _ = (a * p2) * (q2 * d) := by rw [h1]
      _ = _ := by ac_rfl
  have e2 : q1 * p2 * (b * d) = c * b * (p2 * q2) := by
    calc q1 * p2 * (b * d) = (q1 * d) * (p2 * b) := by ac_rfl
      _ = (c * q2) * (p2 * b) := by rw [h2]
      _ = _ := by ac_rfl
  rw [Int.sub_mul, Int.sub_mul, e1, e2]
theorem red_mul {a b c d : Int} (hb : 0 < b) (hd : 0 < d) : red ((red a b).1 * (red c d).1) ((red a b).2 * (red c d).2) = red (a * c) (b * d) := by
  refine red_eq (Int.mul_pos (red_den_pos hb) (red_den_pos hd)) (Int.mul_pos hb hd) ?_
  have h1 := red_val (n := a) (d := b)
  have h2 := red_val (n := c) (d := d)
  generalize (red a b).1 = p1 at *
  generalize (red a b).2 = p2 at *
  generalize (red c d).1 = q1 at *
  generalize (red c d).2 = q2 at *
  calc p1 * q1 * (b * d) = (p1 * b) * (q1 * d) := by ac_rfl
    _ = (a * p2) * (c * q2) := by rw [h1, h2]
    _ = _ := by ac_rfl
theorem red_lt {a b c d : Int} (hb : 0 < b) (hd : 0 < d) : (red a b).1 * (red c d).2 < (red c d).1 * (red a b).2 ↔ a * d < c * b := by
  have a1 := red_num (n := a) (d := b)
  have a2 := red_num (n := c) (d := d)
  have b1 := red_den (n := a) (d := b)
  have b2 := red_den (n := c) (d := d)
  have g1 := gcd_pos (n := a) hb
  have g2 := gcd_pos (n := c) hd
  generalize (red a b).1 = p1 at *
  generalize (red a b).2 = p2 at *
  generalize (red c d).1 = q1 at *
  generalize (red c d).2 = q2 at *
  generalize (Int.gcd a b : Int) = g at *
  generalize (Int.gcd c d : Int) = g' at *
  have e1 : a * d = (p1 * q2) * (g * g') := by rw [← a1, ← b2]; ac_rfl
  have e2 : c * b = (q1 * p2) * (g * g') := by rw [← a2, ← b1]; ac_rfl
  rw [e1, e2]
  exact (Int.mul_lt_mul_right (Int.mul_pos g1 g2)).symm
/-! ### sizes -/
/-- below 2 ^ k -/
def Lt2 (z : Int) (k : Nat) : Prop := z.natAbs < 2 ^ k
theorem Lt2.mono {z : Int} {k j : Nat} (h : Lt2 z k) (hk : k ≤ j) : Lt2 z j := Nat.lt_of_lt_of_le h (Nat.pow_le_pow_right (by decide) hk)
theorem Lt2.mul {x y : Int} {a b : Nat} (hx : Lt2 x a) (hy : Lt2 y b) : Lt2 (x * y) (a + b) := L2.wide_lt hx hy
theorem Lt2.add {x y : Int} {a : Nat} (hx : Lt2 x a) (hy : Lt2 y a) : Lt2 (x + y) (a + 1) := by
  unfold Lt2 at *
  rw [Nat.pow_succ]
  have := Int.natAbs_add_le x y
  omega
theorem Lt2.neg {x : Int} {a : Nat} (hx : Lt2 x a) : Lt2 (-x) a := by
  unfold Lt2 at *
  rw [Int.natAbs_neg]
  exact hx
theorem Lt2.sub {x y : Int} {a : Nat} (hx : Lt2 x a) (hy : Lt2 y a) : Lt2 (x - y) (a + 1) := by
  rw [Int.sub_eq_add_neg]
  exact hx.add hy.neg
theorem Lt2.of_le {x y : Int} {a : Nat} (h : x.natAbs ≤ y.natAbs) (hy : Lt2 y a) : Lt2 x a := Nat.lt_of_le_of_lt h hy
theorem Lt2.num {n d : Int} {a : Nat} (hd : 0 < d) (h : Lt2 n a) : Lt2 (red n d).1 a := .of_le (red_num_le hd) h
theorem Lt2.den {n d : Int} {a : Nat} (hd : 0 < d) (h : Lt2 d a) : Lt2 (red n d).2 a := .of_le (by have := red_den_pos (n := n) hd; have := red_den_le (n := n) hd; omega) h
theorem Lt2.cmul {x y : Int} {a b : Nat} (hx : Lt2 x a) (hy : Lt2 y b) (h : a + b ≤ 999998) : L2.CMulW x y := L2.wide_mul (hx.mono (Nat.le_succ a)) (hy.mono (Nat.le_succ b)) (Nat.succ_pos _) (Nat.succ_pos _) (by omega)
theorem Lt2.cdiv {x y : Int} {a : Nat} (h0 : 0 < y) (hy : Lt2 y a) (h : a ≤ 8999) : L2.CDivW x y := L2.wide_div h0 (hy.mono (Nat.le_succ a)) (Nat.succ_pos _) (by omega)
/-! ### Euclid's steps end -/
/-- after k steps from (a, b) -/
def euc : Nat → Int × Int → Int × Int
  | 0, p => p
  | k + 1, p => euc k (if p.2 = 0 then p else (p.2, p.1 % p.2))
/-- b is so small that k turns end it -/
def Short : Nat → Int → Int → Prop
  | 0, _, b => b = 0
  | k + 1, a, b => b = 0 ∨ Short k b (a % b)
theorem Short.mono : ∀ {k : Nat} {a b : Int}, Short k a b → Short (k + 1) a b
  | 0, _, _, h => .inl h
  | k + 1, a, b, h => by
    rcases h with h | h
    · exact .inl h
    · exact .inr (Short.mono h)
theorem Short.more {k : Nat} {a b : Int} (h : Short k a b) : ∀ j, Short (k + j) a b
  | 0 => h
  | j + 1 => (Short.more h j).mono
theorem short_pow : ∀ (j : Nat) {a b : Int}, 0 ≤ b → b < 2 ^ j → Short (2 * j + 1) a b
  | 0, a, b, h0, h => .inl (by have : b < 1 := h; omega)
  | j + 1, a, b, h0, h => by
    by_cases hb : b = 0
    · exact .inl hb
    · right
      show Short (2 * (j + 1)) b (a % b)
      have r0 := Int.emod_nonneg a hb
      have r1 := Int.emod_lt_of_pos a (show 0 < b by omega)
      have hp : (2 : Int) ^ (j + 1) = 2 ^ j * 2 := Int.pow_succ ..
      generalize hr : a % b = r at *
      show r = 0 ∨ Short (2 * j + 1) r (b % r)
      by_cases hz : r = 0
      · exact .inl hz
      · right
        have s0 := Int.emod_nonneg b hz
        have s1 := Int.emod_lt_of_pos b (show 0 < r by omega)
        have hq : 1 ≤ b / r := (Int.le_ediv_iff_mul_le (by omega)).mpr (by omega)
        have he := Int.mul_ediv_add_emod b r
        have hm : r ≤ r * (b / r) := by
          have := Int.mul_le_mul_of_nonneg_left hq (show 0 ≤ r by omega)
          omega
        have h2 : 2 * (b % r) < b := by omega
        exact short_pow j s0 (by omega)
theorem short_2000 {a b : Int} (h0 : 0 ≤ b) (h : b < 2 ^ 999) : Short 2000 a b := (short_pow 999 (a := a) h0 h).more 1
end PL

namespace K00
open PySem PySem.Spec PyProof.Rows L2 TL PL
def top (i : Nat) : Stmt := PySem.Challenge.pw_tellsnone_k00_ratios.main.body.getD i (.Pass ⟨0, 0, 0, 0⟩)
abbrev s_Ratio_init : Stmt := inClass (top 10) 0
abbrev N_Ratio_init : List Str := ["self", "num", "den", "divisor", "rest"]
theorem sc_Ratio_init : FnScope N_Ratio_init ["self", "num", "den"] (defScope s_Ratio_init) := ⟨rfl, rfl, rfl, by decide +kernel, rfl, by decide +kernel, by decide +kernel⟩
abbrev s_Ratio_add : Stmt := inClass (top 10) 1
abbrev N_Ratio_add : List Str := ["self", "other"]
theorem sc_Ratio_add : FnScope N_Ratio_add ["self", "other"] (defScope s_Ratio_add) := ⟨rfl, rfl, rfl, by decide +kernel, rfl, by decide +kernel, by decide +kernel⟩
abbrev s_Ratio_sub : Stmt := inClass (top 10) 2
abbrev N_Ratio_sub : List Str := ["self", "other"]
theorem sc_Ratio_sub : FnScope N_Ratio_sub ["self", "other"] (defScope s_Ratio_sub) := ⟨rfl, rfl, rfl, by decide +kernel, rfl, by decide +kernel, by decide +kernel⟩
abbrev s_Ratio_mul : Stmt := inClass (top 10) 3
abbrev N_Ratio_mul : List Str := ["self", "other"]
theorem sc_Ratio_mul : FnScope N_Ratio_mul ["self", "other"] (defScope s_Ratio_mul) := ⟨rfl, rfl, rfl, by decide +kernel, rfl, by decide +kernel, by decide +kernel⟩
abbrev s_Ratio_eq : Stmt := inClass (top 10) 4
abbrev N_Ratio_eq : List Str := ["self", "other"]
theorem sc_Ratio_eq : FnScope N_Ratio_eq ["self", "other"] (defScope s_Ratio_eq) := ⟨rfl, rfl, rfl, by decide +kernel, rfl, by decide +kernel, by decide +kernel⟩
abbrev s_Ratio_str : Stmt := inClass (top 10) 5
abbrev N_Ratio_str : List Str := ["self"]
theorem sc_Ratio_str : FnScope N_Ratio_str ["self"] (defScope s_Ratio_str) := ⟨rfl, rfl, rfl, by decide +kernel, rfl, by decide +kernel, by decide +kernel⟩
abbrev s_Ratio_below : Stmt := inClass (top 10) 6
abbrev N_Ratio_below : List Str := ["self", "other"]
theorem sc_Ratio_below : FnScope N_Ratio_below ["self", "other"] (defScope s_Ratio_below) := ⟨rfl, rfl, rfl, by decide +kernel, rfl, by decide +kernel, by decide +kernel⟩
abbrev s_l_cell : Stmt := top 12
abbrev N_l_cell : List Str := ["_law_script", "_law_k"]
theorem sc_l_cell : FnScope N_l_cell ["_law_script", "_law_k"] (defScope s_l_cell) := ⟨rfl, rfl, rfl, by decide +kernel, rfl, by decide +kernel, by decide +kernel⟩
abbrev s_l_is_integer : Stmt := top 13
abbrev N_l_is_integer : List Str := ["_law_actual"]
theorem sc_l_is_integer : FnScope N_l_is_integer ["_law_actual"] (defScope s_l_is_integer) := ⟨rfl, rfl, rfl, by decide +kernel, rfl, by decide +kernel, by decide +kernel⟩
abbrev s_l_less : Stmt := top 15
abbrev N_l_less : List Str := ["_law_num", "_law_den", "_law_a", "_law_b", "_law_k", "_law_c"]
theorem sc_l_less : FnScope N_l_less ["_law_num", "_law_den"] (defScope s_l_less) := ⟨rfl, rfl, rfl, by decide +kernel, rfl, by decide +kernel, by decide +kernel⟩
abbrev s_l_is : Stmt := top 18
abbrev N_l_is : List Str := ["_law_actual", "_law_num", "_law_den", "_law_due", "_law_text"]
theorem sc_l_is : FnScope N_l_is ["_law_actual", "_law_num", "_law_den"] (defScope s_l_is) := ⟨rfl, rfl, rfl, by decide +kernel, rfl, by decide +kernel, by decide +kernel⟩
abbrev s_l_refused : Stmt := top 19
abbrev N_l_refused : List Str := ["_law_num", "_law_den", "e"]
theorem sc_l_refused : FnScope N_l_refused ["_law_num", "_law_den"] (defScope s_l_refused) := ⟨rfl, rfl, rfl, by decide +kernel, rfl, by decide +kernel, by decide +kernel⟩
abbrev s_law : Stmt := top 20
abbrev N_law : List Str := ["_law_script", "_law_k", "_law_a", "_law_c", "_law_b", "_law_d", "_law_one", "_law_other", "_law_told"]
theorem sc_law : FnScope N_law ["_law_script"] (defScope s_law) := ⟨rfl, rfl, rfl, by decide +kernel, rfl, by decide +kernel, by decide +kernel⟩
def fn : List He.DefD := [TL.mkD "_law_cell" s_l_cell [],
  TL.mkD "_law_is_integer" s_l_is_integer [],
  TL.mkM "Ratio" "__init__" "Ratio.__init__" s_Ratio_init [.int 1],
  TL.mkM "Ratio" "__add__" "Ratio.__add__" s_Ratio_add [],
  TL.mkM "Ratio" "__sub__" "Ratio.__sub__" s_Ratio_sub [],
  TL.mkM "Ratio" "__mul__" "Ratio.__mul__" s_Ratio_mul [],
  TL.mkM "Ratio" "below" "Ratio.below" s_Ratio_below [],
  TL.mkM "Ratio" "__eq__" "Ratio.__eq__" s_Ratio_eq [],
  TL.mkM "Ratio" "__str__" "Ratio.__str__" s_Ratio_str [],
  TL.mkD "_law_less" s_l_less [],
  TL.mkD "_law_is" s_l_is [],
  TL.mkD "_law_refused" s_l_refused [],
  TL.mkD "law" s_law []]
def exl : List (PySem.W.Frag → Bool) := [TL.selfB "Ratio", TL.insB "Ratio", TL.excB "BadBound", TL.isAnyB "BadBound" ["BadCall", "BadPaper", "BadPlayer", "BadStep", "BadText", "TooLarge"] false, TL.isTyB "BadBound" "ValueError" true]
def fa : List He.Fa := [.free "len", .free "bool", .free "isinstance", .free "int", .free "abs", .exc "BadBound", .glo "BadBound", .glo "Ratio", .free "range", .free "str", .exc "PlayError", .glo "PlayError", .free "ValueError", .glo "TooLarge", .glo "BadText", .glo "BadStep", .glo "BadPlayer", .glo "BadPaper", .glo "BadCall", .glo "_law_cell", .glo "_law_is_integer", .mkr "Ratio", .cls "Ratio", .meth "Ratio" "__add__", .meth "Ratio" "__sub__", .meth "Ratio" "__mul__", .meth "Ratio" "below", .meth "Ratio" "__eq__", .meth "Ratio" "__str__", .glo "_law_less", .glo "_law_is", .glo "_law_refused", .glo "law", .noat "Ratio" "num", .noat "Ratio" "den", .exm "BadBound" "PlayError" true]
abbrev Tk := Tx fa fn exl
theorem nd_kn : ¬ ("num" : Str) = "den" := by decide +kernel
def RatF (p : Int × Int) : List (Str × V) := putF "den" (.int p.2) (putF "num" (.int p.1) [])
theorem RatF_num (p) : (RatF p).lookup ("num" : Str) = some (.int p.1) := by
  unfold RatF
  rw [lookup_putF, if_neg nd_kn, lookup_putF, if_pos rfl]
theorem RatF_den (p) : (RatF p).lookup ("den" : Str) = some (.int p.2) := by
  unfold RatF
  rw [lookup_putF, if_pos rfl]
theorem RatF_no (p) {m : Str} (h1 : ¬ m = "num") (h2 : ¬ m = "den") : (RatF p).lookup m = none := by
  unfold RatF
  rw [lookup_putF, if_neg h2, lookup_putF, if_neg h1] <;> rfl
section
variable {P : Program} {w : World} {K : PySem.W.Frag} {mg : Str → Option Value} {base : Heap}
def spCell (K : PySem.W.Frag) (a : Addr) (ns : List Int) : Sp := fun vs H Q _ => ∃ (k : Int), vs = [.ref a, .int k] ∧ SqL K H a (ns.map V.int) ∧ 0 ≤ k ∧ Q (.int (ns.getD k.toNat 0)) H
theorem ok_l_cell (T : Tk K mg) (a : Addr) (ns : List Int) : Okd P w K mg base (L2.CX P w) 1 "_law_cell" ["_law_script", "_law_k"] (spCell K a ns) := by
  refine Okd.of s_l_cell (T.df 0) (T.glo 19) sc_l_cell (fun _ _ _ _ _ _ us hl => match us, hl with | [_, _], _ => rfl) (fun vs H Q E h => ?_) (fun cdv A outer s H vs Q E h hr hpo tk px pxe => ?_)
  · obtain ⟨k, rfl, _⟩ := h; rfl
  obtain ⟨k, rfl, hS, hk, hQ⟩ := h
  refine ⟨_, (pss_cons (ps_if (pt_cmpR op_lt (pv 1) (pe_callB call_len_seq (by rfl) (T.free 0) (by decide +kernel) (pa_cons (pv 0) pa_nil)) (nomark _)) (pss_one (ps_ret (pe_ix ix_list (pv 0) (pv 1) (fun _ _ => rfl)))) pss_nil)
  (pss_one (ps_ret pe_int))), ?_⟩
  simp only [tSeq, tIfS, tTest, tOp, tVar, tC, tCB, tCons, tNil, tRet, tAsg, gName, tNext, tDrop, rI, rI0, rEq, rNe, sc_ii, sc_ss, sc_bb, sc_in, sc_ni, sc_nn, sc_si, sc_is, List.getElem?_cons_zero, List.getElem?_cons_succ, List.set_cons_zero, List.set_cons_succ, Option.some.injEq, exists_eq_left', exists_eq_left, L2.start, cxOf, List.cons.injEq, and_true, exists_and_left, exists_and_right, exists_eq', V.int.injEq, V.bl.injEq, V.str.injEq, V.ref.injEq, List.length_cons, List.length_nil, List.cons_append, List.nil_append, true_and, List.map, List.replicate, tAndV, tOrV, tNotV, tTest, tB, tNot, tAnd, tOr, Nat.zero_add, Nat.reduceAdd, Nat.reduceSub, Nat.sub_self, sFld, tFld, tPar, tMake, tCall, tMeth, tTup, tLst, HO.ins.injEq, and_assoc, reduceCtorEq, false_and, exists_false, false_or, or_false, tFmt, tJs, tBreak, tCont, tMakeS, tCallS, Int.zero_add, if_true, if_false, Bool.false_eq_true, Bool.not_true, Bool.not_false, tUn, rU]
  refine ⟨_, .inl hS, ?_⟩
  rw [List.length_map]
  refine ite2 (fun c => ?_) (fun c => ?_)
  · have c' : k < (ns.length : Int) := of_decide_eq_true c
    obtain ⟨j, rfl⟩ := Int.eq_ofNat_of_zero_le hk
    have hj : j < ns.length := by omega
    refine ⟨a, _, _, _, rfl, rfl, hS, atI_nat (v := .int (ns.getD j 0)) ?_, hQ⟩
    rw [List.getElem?_map, List.getElem?_eq_getElem hj, List.getD_eq_getElem?_getD, List.getElem?_eq_getElem hj]
    rfl
  · have c' : ¬ k < (ns.length : Int) := fun z => c (decide_eq_true z)
    have e : ns.getD k.toNat 0 = 0 := by
      rw [List.getD_eq_getElem?_getD, List.getElem?_eq_none (by omega)]; rfl
    rw [e] at hQ
    exact hQ
def spIsInt : Sp := fun vs H Q _ => ∃ i : Int, vs = [.int i] ∧ Q (.bl true) H
theorem ok_l_is_integer (T : Tk K mg) : Okd P w K mg base (L2.CX P w) 1 "_law_is_integer" ["_law_actual"] spIsInt := by
  refine Okd.of s_l_is_integer (T.df 1) (T.glo 20) sc_l_is_integer (fun _ _ _ _ _ _ us hl => match us, hl with | [_], _ => rfl) (fun vs H Q E h => ?_) (fun cdv A outer s H vs Q E h hr hpo tk px pxe => ?_)
  · obtain ⟨i, rfl, _⟩ := h; rfl
  obtain ⟨i, rfl, hQ⟩ := h
  refine ⟨_, (pss_one (ps_ret (pe_and (pe_callB call_isi (by rfl) (T.free 2) (by decide +kernel) (pa_cons (pv 0) (pa_cons (pe_bltn (v := .ty "int") (by rfl) (T.free 3) (by decide +kernel) rfl) pa_nil))) (pe_one (pe_not (pe_callB call_isi (by rfl) (T.free 2) (by decide +kernel) (pa_cons (pv 0) (pa_cons (pe_bltn (v := .ty "bool") (by rfl) (T.free 1) (by decide +kernel) rfl) pa_nil)))))))), ?_⟩
  simp only [tSeq, tIfS, tTest, tOp, tVar, tC, tCB, tCons, tNil, tRet, tAsg, gName, tNext, tDrop, rI, rI0, rEq, rNe, sc_ii, sc_ss, sc_bb, sc_in, sc_ni, sc_nn, sc_si, sc_is, List.getElem?_cons_zero, List.getElem?_cons_succ, List.set_cons_zero, List.set_cons_succ, Option.some.injEq, exists_eq_left', exists_eq_left, L2.start, cxOf, List.cons.injEq, and_true, exists_and_left, exists_and_right, exists_eq', V.int.injEq, V.bl.injEq, V.str.injEq, V.ref.injEq, List.length_cons, List.length_nil, List.cons_append, List.nil_append, true_and, List.map, List.replicate, tAndV, tOrV, tNotV, tTest, tB, tNot, tAnd, tOr, Nat.zero_add, Nat.reduceAdd, Nat.reduceSub, Nat.sub_self, sFld, tFld, tPar, tMake, tCall, tMeth, tTup, tLst, HO.ins.injEq, and_assoc, reduceCtorEq, false_and, exists_false, false_or, or_false, tFmt, tJs, tBreak, tCont, tMakeS, tCallS, Int.zero_add, if_true, if_false, Bool.false_eq_true, Bool.not_true, Bool.not_false, tUn, rU]
  refine isi_int (b := true) (by decide +kernel) ⟨true, rfl, iteT (isi_int (b := false) (by decide +kernel) ⟨false, rfl, hQ⟩)⟩
def spInit (K : PySem.W.Frag) : Sp := fun vs H Q E => ∃ (p dx : Addr) (n d : Int), vs = [.ref p, .int n, .int d] ∧ H p = some (.ins (He.ga K "Ratio") dx []) ∧ Lt2 d 900 ∧
  (d ≤ 0 → E (.ref (He.ga K "BadBound")) none H) ∧ (0 < d → ∀ H', (∀ b, b ≠ p → H' b = H b) → H' p = some (.ins (He.ga K "Ratio") dx (RatF (red n d))) → Q .non H')
theorem init_body (T : Tk K mg) : BodyOk P w K mg base N_Ratio_init "Ratio.__init__" s_Ratio_init (He.ma K (He.ga K "Ratio") "__init__") 0 (spInit K) := by
  intro cdv A outer s H vs Q E h hr hpo tk px pxe
  obtain ⟨p, dx, n, d, rfl, hp, hd, hbad, hok⟩ := h
  refine ⟨_, (pss_cons (ps_if (pt_cmpR op_le (pv 2) pe_int (nomark _)) (pss_one (ps_raise rfl tk (pmk_own PySem.F.excBase_ValueError (T.exc 5).1 (T.glo 6) (T.exc 5).2.1 (raises_own (T.exc 5).2.2.1 (T.exc 5).2.2.2) (by rfl)))) pss_nil)
  (pss_cons (ps_set (i := 3) sc_Ratio_init.nd rfl (Or.inl rfl) (pv 2))
  (pss_cons (ps_set (i := 4) sc_Ratio_init.nd rfl (Or.inl rfl) (pe_callB call_abs (by rfl) (T.free 4) (by decide +kernel) (pa_cons (pv 1) pa_nil)))
  (pss_cons (ps_while hpo (pt_truth (pv 4) (fun _ => rfl)) (pss_one (ps_par (i := 3) (j := 4) rfl sc_Ratio_init.nd rfl rfl (by decide) rfl rfl (pa_cons (pv 4) (pa_cons (pe_op op_mod (pv 3) (pv 4)) pa_nil)) (by rfl))))
  (pss_cons (ps_fld (pv 0) (pe_op op_fdivW (pv 1) (pv 3)) rfl)
  (pss_one (ps_fld (pv 0) (pe_op op_fdivW (pv 2) (pv 3)) rfl))))))), ?_⟩
  clear hr hpo tk px pxe
  simp only [tSeq, tIfS, tTest, tOp, tVar, tC, tCB, tCons, tNil, tRet, tAsg, gName, tNext, tDrop, rI, rI0, rEq, rNe, sc_ii, sc_ss, sc_bb, sc_in, sc_ni, sc_nn, sc_si, sc_is, List.getElem?_cons_zero, List.getElem?_cons_succ, List.set_cons_zero, List.set_cons_succ, Option.some.injEq, exists_eq_left', exists_eq_left, L2.start, cxOf, List.cons.injEq, and_true, exists_and_left, exists_and_right, exists_eq', V.int.injEq, V.bl.injEq, V.str.injEq, V.ref.injEq, List.length_cons, List.length_nil, List.cons_append, List.nil_append, true_and, List.map, List.replicate, tAndV, tOrV, tNotV, tTest, tB, tNot, tAnd, tOr, Nat.zero_add, Nat.reduceAdd, Nat.reduceSub, Nat.sub_self, sFld, tFld, tPar, tMake, tCall, tMeth, tTup, tLst, HO.ins.injEq, and_assoc, reduceCtorEq, false_and, exists_false, false_or, or_false, tFmt, tJs, tBreak, tCont, tMakeS, tCallS, Int.zero_add, if_true, if_false, Bool.false_eq_true, Bool.not_true, Bool.not_false, tUn, rU]
  refine ite2 (fun c => hbad (of_decide_eq_true c)) (fun c => ?_)
  have hd0 : 0 < d := by
    have : ¬ d ≤ 0 := fun z => c (decide_eq_true z)
    omega
  have habs : (if n < 0 then -n else n) = ((n.natAbs : Nat) : Int) := by split <;> omega
  rw [habs]
  refine ⟨fun m σ H' => ∃ a b : Int, σ = [some (.ref p), some (.int n), some (.int d), some (.int a), some (.int b)] ∧ H' = H ∧ 0 < a ∧ 0 ≤ b ∧ Int.gcd a b = Int.gcd n d ∧ b.toNat = m, ⟨_, d, _, rfl, rfl, hd0, by omega, ?_, rfl⟩, ?_⟩
  · rw [Int.gcd_comm n d, Int.gcd_eq_natAbs_gcd_natAbs, Int.gcd_eq_natAbs_gcd_natAbs, Int.natAbs_natCast]
  rintro m σ H' ⟨a, b, rfl, rfl, ha, hb, hg, rfl⟩
  refine ⟨.int b, rfl, _, rfl, ?_⟩
  refine ite2 (fun c => ?_) (fun c => ?_)
  · have hb0 : b ≠ 0 := by simpa using c
    have hbp : 0 < b := by omega
    refine ⟨_, fun _ _ h => h, ?_⟩
    simp only [tSeq, tIfS, tTest, tOp, tVar, tC, tCB, tCons, tNil, tRet, tAsg, gName, tNext, tDrop, rI, rI0, rEq, rNe, sc_ii, sc_ss, sc_bb, sc_in, sc_ni, sc_nn, sc_si, sc_is, List.getElem?_cons_zero, List.getElem?_cons_succ, List.set_cons_zero, List.set_cons_succ, Option.some.injEq, exists_eq_left', exists_eq_left, L2.start, cxOf, List.cons.injEq, and_true, exists_and_left, exists_and_right, exists_eq', V.int.injEq, V.bl.injEq, V.str.injEq, V.ref.injEq, List.length_cons, List.length_nil, List.cons_append, List.nil_append, true_and, List.map, List.replicate, tAndV, tOrV, tNotV, tTest, tB, tNot, tAnd, tOr, Nat.zero_add, Nat.reduceAdd, Nat.reduceSub, Nat.sub_self, sFld, tFld, tPar, tMake, tCall, tMeth, tTup, tLst, HO.ins.injEq, and_assoc, reduceCtorEq, false_and, exists_false, false_or, or_false, tFmt, tJs, tBreak, tCont, tMakeS, tCallS, Int.zero_add, if_true, if_false, Bool.false_eq_true, Bool.not_true, Bool.not_false, tUn, rU]
    have e0 := Int.emod_nonneg a hb0
    have e1 := Int.emod_lt_of_pos a hbp
    exact ⟨hbp, (a % b).toNat, by omega, hbp, e0, by rw [gcd_step (by omega) hbp, hg], rfl⟩
  · have hb0 : b = 0 := by simpa using c
    subst hb0
    have hga : a = (Int.gcd n d : Int) := by rw [← hg, Int.gcd_zero_right]; omega
    have hgl := gcd_le (n := n) hd0
    have hcd : ∀ z, CDivW z a := fun z => Lt2.cdiv (a := 900) ha (.of_le (by omega) hd) (by decide)
    simp only [tSeq, tIfS, tTest, tOp, tVar, tC, tCB, tCons, tNil, tRet, tAsg, gName, tNext, tDrop, rI, rI0, rEq, rNe, sc_ii, sc_ss, sc_bb, sc_in, sc_ni, sc_nn, sc_si, sc_is, List.getElem?_cons_zero, List.getElem?_cons_succ, List.set_cons_zero, List.set_cons_succ, Option.some.injEq, exists_eq_left', exists_eq_left, L2.start, cxOf, List.cons.injEq, and_true, exists_and_left, exists_and_right, exists_eq', V.int.injEq, V.bl.injEq, V.str.injEq, V.ref.injEq, List.length_cons, List.length_nil, List.cons_append, List.nil_append, true_and, List.map, List.replicate, tAndV, tOrV, tNotV, tTest, tB, tNot, tAnd, tOr, Nat.zero_add, Nat.reduceAdd, Nat.reduceSub, Nat.sub_self, sFld, tFld, tPar, tMake, tCall, tMeth, tTup, tLst, HO.ins.injEq, and_assoc, reduceCtorEq, false_and, exists_false, false_or, or_false, tFmt, tJs, tBreak, tCont, tMakeS, tCallS, Int.zero_add, if_true, if_false, Bool.false_eq_true, Bool.not_true, Bool.not_false, tUn, rU]
    refine ⟨hcd _, _, _, _, hp, T.cls 22, T.noat 33, (by decide), hcd _, _, _, _, upd_same, T.cls 22, T.noat 34, (by show 1 < 1000; decide), ?_⟩
    rw [upd_upd]
    refine hok hd0 _ (fun b hb => upd_ne hb) ?_
    rw [upd_same, hga]
    rfl
theorem mk_Ratio_2 (T : Tk K mg) : Oki P w K mg base (L2.CX P w) 1 "Ratio" ["self", "num", "den"] [] (spInit K) := by
  refine Oki.ofD s_Ratio_init [.int 1] 3 1 (T.df 2) (by simp) (by decide) (T.glo 7) (T.mkr 21) sc_Ratio_init (fun _ _ _ _ _ _ _ us its hu hi => match us, its, hu, hi with | [_, _, _], [_], _, _ => ⟨_, rfl, rfl⟩) (fun vs H Q E h => ?_) (init_body T)
  obtain ⟨p, dx, n, d, rfl, _⟩ := h; rfl
theorem mk_Ratio_1 (T : Tk K mg) : Oki P w K mg base (L2.CX P w) 1 "Ratio" ["self", "num", "den"] [.int 1] (spInit K) := by
  refine Oki.ofD s_Ratio_init [.int 1] 2 0 (T.df 2) (by simp) (by decide) (T.glo 7) (T.mkr 21) sc_Ratio_init (fun _ _ _ _ _ _ _ us its hu hi => match us, its, hu, hi with | [_, _], [_], _, _ => ⟨_, rfl, rfl⟩) (fun vs H Q E h => ?_) (init_body T)
  obtain ⟨p, dx, n, d, rfl, _⟩ := h; rfl
/-- a ratio stands at a -/
def RatAt (K : PySem.W.Frag) (H : Hp) (a : Addr) (p : Int × Int) : Prop := ∃ dx, H a = some (.ins (He.ga K "Ratio") dx (RatF p))
/-- + - * -/
def spArith (K : PySem.W.Frag) (f g : Int × Int → Int × Int → Int) : Sp := fun vs H Q _ => ∃ (a b : Addr) (p q : Int × Int), vs = [.ref a, .ref b] ∧ RatAt K H a p ∧ RatAt K H b q ∧ Lt2 p.1 200 ∧ Lt2 q.1 200 ∧ 0 < p.2 ∧ 0 < q.2 ∧ Lt2 p.2 200 ∧ Lt2 q.2 200 ∧
  ∀ (c : Addr) (H' : Hp), Same H H' → H c = none → RatAt K H' c (red (f p q) (g p q)) → Q (.ref c) H'
theorem CL (T : Tk K mg) : Cls K (He.ga K "Ratio") := T.cls 22
theorem NN (T : Tk K mg) : NoAttr K (He.ga K "Ratio") "num" := T.noat 33
theorem ND (T : Tk K mg) : NoAttr K (He.ga K "Ratio") "den" := T.noat 34
/-- a new ratio, behind the making -/
theorem made_ratio {H : Hp} {G : Addr → Hp → Prop} {n d : Int} (h0 : 0 < d) (hd : Lt2 d 900)
    (hQ : ∀ (c : Addr) (H' : Hp), Same H H' → H c = none → RatAt K H' c (red n d) → G c H') {E : XK} : ∀ x dx, H x = none → H dx = none → dx ≠ x →
    spInit K [.ref x, .int n, .int d] (upd (upd H dx (.own x)) x (.ins (He.ga K "Ratio") dx [])) (fun v H2 => v = .non ∧ G x H2) E := by
  intro x dx nx ndx ne
  refine ⟨x, dx, n, d, rfl, upd_same, hd, fun z => absurd h0 (by omega), fun _ H' k1 k2 => ⟨rfl, hQ x H' (fun b o e => ?_) nx ⟨dx, k2⟩⟩⟩
  have hb : b ≠ x := ne_of_none e nx
  rw [k1 b hb, upd_ne hb, upd_ne (ne_of_none e ndx)]
  exact e
theorem ok_Ratio_add (T : Tk K mg) : Okm P w K mg base (L2.CX P w) 3 "Ratio" "__add__" ["self", "other"] (spArith K (fun p q => p.1 * q.2 + q.1 * p.2) (fun p q => p.2 * q.2)) := by
  refine Okm.of s_Ratio_add (T.df 3) (T.cls 22) (T.meth 23) sc_Ratio_add (fun _ _ _ _ _ _ us hl => match us, hl with | [_, _], _ => rfl) (fun vs H Q E h => ?_) (fun cdv A outer s H vs Q E h hr hpo tk px pxe => ?_)
  · obtain ⟨a, b, p, q, rfl, _⟩ := h; rfl
  obtain ⟨a, b, p, q, rfl, ⟨dx, ha⟩, ⟨dy, hb⟩, p1, q1, p0, q0, p2, q2, hQ⟩ := h
  refine ⟨_, (pss_one (ps_ret (pmk (mk_Ratio_2 T) (hr.mono (by decide)) (by rfl) px (pa_cons (pe_op op_add (pe_op op_mulW (pe_fld (pv 0) rfl) (pe_fld (pv 1) rfl)) (pe_op op_mulW (pe_fld (pv 1) rfl) (pe_fld (pv 0) rfl))) (pa_cons (pe_op op_mulW (pe_fld (pv 0) rfl) (pe_fld (pv 1) rfl)) pa_nil))))), ?_⟩
  clear hr hpo tk px pxe
  have m1 := p1.cmul q2 (by decide); have m2 := q1.cmul p2 (by decide); have m3 := p2.cmul q2 (by decide)
  simp only [tSeq, tIfS, tTest, tOp, tVar, tC, tCB, tCons, tNil, tRet, tAsg, gName, tNext, tDrop, rI, rI0, rEq, rNe, sc_ii, sc_ss, sc_bb, sc_in, sc_ni, sc_nn, sc_si, sc_is, List.getElem?_cons_zero, List.getElem?_cons_succ, List.set_cons_zero, List.set_cons_succ, Option.some.injEq, exists_eq_left', exists_eq_left, L2.start, cxOf, List.cons.injEq, and_true, exists_and_left, exists_and_right, exists_eq', V.int.injEq, V.bl.injEq, V.str.injEq, V.ref.injEq, List.length_cons, List.length_nil, List.cons_append, List.nil_append, true_and, List.map, List.replicate, tAndV, tOrV, tNotV, tTest, tB, tNot, tAnd, tOr, Nat.zero_add, Nat.reduceAdd, Nat.reduceSub, Nat.sub_self, sFld, tFld, tPar, tMake, tCall, tMeth, tTup, tLst, HO.ins.injEq, and_assoc, reduceCtorEq, false_and, exists_false, false_or, or_false, tFmt, tJs, tBreak, tCont, tMakeS, tCallS, Int.zero_add, if_true, if_false, Bool.false_eq_true, Bool.not_true, Bool.not_false, tUn, rU, ha, hb, RatF_num, RatF_den, CL T, NN T, ND T, m1, m2, m3]
  exact made_ratio (Int.mul_pos p0 q0) ((p2.mul q2).mono (by decide)) hQ
theorem ok_Ratio_sub (T : Tk K mg) : Okm P w K mg base (L2.CX P w) 3 "Ratio" "__sub__" ["self", "other"] (spArith K (fun p q => p.1 * q.2 - q.1 * p.2) (fun p q => p.2 * q.2)) := by
  refine Okm.of s_Ratio_sub (T.df 4) (T.cls 22) (T.meth 24) sc_Ratio_sub (fun _ _ _ _ _ _ us hl => match us, hl with | [_, _], _ => rfl) (fun vs H Q E h => ?_) (fun cdv A outer s H vs Q E h hr hpo tk px pxe => ?_)
  · obtain ⟨a, b, p, q, rfl, _⟩ := h; rfl
  obtain ⟨a, b, p, q, rfl, ⟨dx, ha⟩, ⟨dy, hb⟩, p1, q1, p0, q0, p2, q2, hQ⟩ := h
  refine ⟨_, (pss_one (ps_ret (pmk (mk_Ratio_2 T) (hr.mono (by decide)) (by rfl) px (pa_cons (pe_op op_sub (pe_op op_mulW (pe_fld (pv 0) rfl) (pe_fld (pv 1) rfl)) (pe_op op_mulW (pe_fld (pv 1) rfl) (pe_fld (pv 0) rfl))) (pa_cons (pe_op op_mulW (pe_fld (pv 0) rfl) (pe_fld (pv 1) rfl)) pa_nil))))), ?_⟩
  clear hr hpo tk px pxe
  have m1 := p1.cmul q2 (by decide); have m2 := q1.cmul p2 (by decide); have m3 := p2.cmul q2 (by decide)
  simp only [tSeq, tIfS, tTest, tOp, tVar, tC, tCB, tCons, tNil, tRet, tAsg, gName, tNext, tDrop, rI, rI0, rEq, rNe, sc_ii, sc_ss, sc_bb, sc_in, sc_ni, sc_nn, sc_si, sc_is, List.getElem?_cons_zero, List.getElem?_cons_succ, List.set_cons_zero, List.set_cons_succ, Option.some.injEq, exists_eq_left', exists_eq_left, L2.start, cxOf, List.cons.injEq, and_true, exists_and_left, exists_and_right, exists_eq', V.int.injEq, V.bl.injEq, V.str.injEq, V.ref.injEq, List.length_cons, List.length_nil, List.cons_append, List.nil_append, true_and, List.map, List.replicate, tAndV, tOrV, tNotV, tTest, tB, tNot, tAnd, tOr, Nat.zero_add, Nat.reduceAdd, Nat.reduceSub, Nat.sub_self, sFld, tFld, tPar, tMake, tCall, tMeth, tTup, tLst, HO.ins.injEq, and_assoc, reduceCtorEq, false_and, exists_false, false_or, or_false, tFmt, tJs, tBreak, tCont, tMakeS, tCallS, Int.zero_add, if_true, if_false, Bool.false_eq_true, Bool.not_true, Bool.not_false, tUn, rU, ha, hb, RatF_num, RatF_den, CL T, NN T, ND T, m1, m2, m3]
  exact made_ratio (Int.mul_pos p0 q0) ((p2.mul q2).mono (by decide)) hQ
theorem ok_Ratio_mul (T : Tk K mg) : Okm P w K mg base (L2.CX P w) 3 "Ratio" "__mul__" ["self", "other"] (spArith K (fun p q => p.1 * q.1) (fun p q => p.2 * q.2)) := by
  refine Okm.of s_Ratio_mul (T.df 5) (T.cls 22) (T.meth 25) sc_Ratio_mul (fun _ _ _ _ _ _ us hl => match us, hl with | [_, _], _ => rfl) (fun vs H Q E h => ?_) (fun cdv A outer s H vs Q E h hr hpo tk px pxe => ?_)
  · obtain ⟨a, b, p, q, rfl, _⟩ := h; rfl
  obtain ⟨a, b, p, q, rfl, ⟨dx, ha⟩, ⟨dy, hb⟩, p1, q1, p0, q0, p2, q2, hQ⟩ := h
  refine ⟨_, (pss_one (ps_ret (pmk (mk_Ratio_2 T) (hr.mono (by decide)) (by rfl) px (pa_cons (pe_op op_mulW (pe_fld (pv 0) rfl) (pe_fld (pv 1) rfl)) (pa_cons (pe_op op_mulW (pe_fld (pv 0) rfl) (pe_fld (pv 1) rfl)) pa_nil))))), ?_⟩
  clear hr hpo tk px pxe
  have m1 := p1.cmul q1 (by decide); have m3 := p2.cmul q2 (by decide)
  simp only [tSeq, tIfS, tTest, tOp, tVar, tC, tCB, tCons, tNil, tRet, tAsg, gName, tNext, tDrop, rI, rI0, rEq, rNe, sc_ii, sc_ss, sc_bb, sc_in, sc_ni, sc_nn, sc_si, sc_is, List.getElem?_cons_zero, List.getElem?_cons_succ, List.set_cons_zero, List.set_cons_succ, Option.some.injEq, exists_eq_left', exists_eq_left, L2.start, cxOf, List.cons.injEq, and_true, exists_and_left, exists_and_right, exists_eq', V.int.injEq, V.bl.injEq, V.str.injEq, V.ref.injEq, List.length_cons, List.length_nil, List.cons_append, List.nil_append, true_and, List.map, List.replicate, tAndV, tOrV, tNotV, tTest, tB, tNot, tAnd, tOr, Nat.zero_add, Nat.reduceAdd, Nat.reduceSub, Nat.sub_self, sFld, tFld, tPar, tMake, tCall, tMeth, tTup, tLst, HO.ins.injEq, and_assoc, reduceCtorEq, false_and, exists_false, false_or, or_false, tFmt, tJs, tBreak, tCont, tMakeS, tCallS, Int.zero_add, if_true, if_false, Bool.false_eq_true, Bool.not_true, Bool.not_false, tUn, rU, ha, hb, RatF_num, RatF_den, CL T, NN T, ND T, m1, m3]
  exact made_ratio (Int.mul_pos p0 q0) ((p2.mul q2).mono (by decide)) hQ
def spBelow (K : PySem.W.Frag) : Sp := fun vs H Q _ => ∃ (a b : Addr) (p q : Int × Int), vs = [.ref a, .ref b] ∧ RatAt K H a p ∧ RatAt K H b q ∧ Lt2 p.1 200 ∧ Lt2 q.1 200 ∧ Lt2 p.2 200 ∧ Lt2 q.2 200 ∧ Q (.bl (decide (p.1 * q.2 < q.1 * p.2))) H
theorem ok_Ratio_below (T : Tk K mg) : Okm P w K mg base (L2.CX P w) 1 "Ratio" "below" ["self", "other"] (spBelow K) := by
  refine Okm.of s_Ratio_below (T.df 6) (T.cls 22) (T.meth 26) sc_Ratio_below (fun _ _ _ _ _ _ us hl => match us, hl with | [_, _], _ => rfl) (fun vs H Q E h => ?_) (fun cdv A outer s H vs Q E h hr hpo tk px pxe => ?_)
  · obtain ⟨a, b, p, q, rfl, _⟩ := h; rfl
  obtain ⟨a, b, p, q, rfl, ⟨dx, ha⟩, ⟨dy, hb⟩, p1, q1, p2, q2, hQ⟩ := h
  refine ⟨_, (pss_one (ps_ret (pe_cmpR op_lt (pe_op op_mulW (pe_fld (pv 0) rfl) (pe_fld (pv 1) rfl)) (pe_op op_mulW (pe_fld (pv 1) rfl) (pe_fld (pv 0) rfl)) (nomark _)))), ?_⟩
  clear hr hpo tk px pxe
  have m1 := p1.cmul q2 (by decide); have m2 := q1.cmul p2 (by decide)
  simp only [tSeq, tIfS, tTest, tOp, tVar, tC, tCB, tCons, tNil, tRet, tAsg, gName, tNext, tDrop, rI, rI0, rEq, rNe, sc_ii, sc_ss, sc_bb, sc_in, sc_ni, sc_nn, sc_si, sc_is, List.getElem?_cons_zero, List.getElem?_cons_succ, List.set_cons_zero, List.set_cons_succ, Option.some.injEq, exists_eq_left', exists_eq_left, L2.start, cxOf, List.cons.injEq, and_true, exists_and_left, exists_and_right, exists_eq', V.int.injEq, V.bl.injEq, V.str.injEq, V.ref.injEq, List.length_cons, List.length_nil, List.cons_append, List.nil_append, true_and, List.map, List.replicate, tAndV, tOrV, tNotV, tTest, tB, tNot, tAnd, tOr, Nat.zero_add, Nat.reduceAdd, Nat.reduceSub, Nat.sub_self, sFld, tFld, tPar, tMake, tCall, tMeth, tTup, tLst, HO.ins.injEq, and_assoc, reduceCtorEq, false_and, exists_false, false_or, or_false, tFmt, tJs, tBreak, tCont, tMakeS, tCallS, Int.zero_add, if_true, if_false, Bool.false_eq_true, Bool.not_true, Bool.not_false, tUn, rU, ha, hb, RatF_num, RatF_den, CL T, NN T, ND T, m1, m2]
  exact hQ
def spEq (K : PySem.W.Frag) : Sp := fun vs H Q _ => ∃ (a b : Addr) (p q : Int × Int), vs = [.ref a, .ref b] ∧ RatAt K H a p ∧ RatAt K H b q ∧ Q (.bl (decide (p = q))) H
theorem ok_Ratio_eq (T : Tk K mg) : Okm P w K mg base (L2.CX P w) 1 "Ratio" "__eq__" ["self", "other"] (spEq K) := by
  refine Okm.of s_Ratio_eq (T.df 7) (T.cls 22) (T.meth 27) sc_Ratio_eq (fun _ _ _ _ _ _ us hl => match us, hl with | [_, _], _ => rfl) (fun vs H Q E h => ?_) (fun cdv A outer s H vs Q E h hr hpo tk px pxe => ?_)
  · obtain ⟨a, b, p, q, rfl, _⟩ := h; rfl
  obtain ⟨a, b, p, q, rfl, ⟨dx, ha⟩, ⟨dy, hb⟩, hQ⟩ := h
  refine ⟨_, (pss_one (ps_ret (pe_and (pe_callB call_isi (by rfl) (T.free 2) (by decide +kernel) (pa_cons (pv 1) (pa_cons (pe_glob (v := .ref (He.ga K "Ratio")) (by rfl) (T.glo 7) rfl) pa_nil))) (pe_and (pe_cmpR op_eq (pe_fld (pv 0) rfl) (pe_fld (pv 1) rfl) (nomark _)) (pe_one (pe_cmpR op_eq (pe_fld (pv 0) rfl) (pe_fld (pv 1) rfl) (nomark _))))))), ?_⟩
  clear hr hpo tk px pxe
  simp only [tSeq, tIfS, tTest, tOp, tVar, tC, tCB, tCons, tNil, tRet, tAsg, gName, tNext, tDrop, rI, rI0, rEq, rNe, sc_ii, sc_ss, sc_bb, sc_in, sc_ni, sc_nn, sc_si, sc_is, List.getElem?_cons_zero, List.getElem?_cons_succ, List.set_cons_zero, List.set_cons_succ, Option.some.injEq, exists_eq_left', exists_eq_left, L2.start, cxOf, List.cons.injEq, and_true, exists_and_left, exists_and_right, exists_eq', V.int.injEq, V.bl.injEq, V.str.injEq, V.ref.injEq, List.length_cons, List.length_nil, List.cons_append, List.nil_append, true_and, List.map, List.replicate, tAndV, tOrV, tNotV, tTest, tB, tNot, tAnd, tOr, Nat.zero_add, Nat.reduceAdd, Nat.reduceSub, Nat.sub_self, sFld, tFld, tPar, tMake, tCall, tMeth, tTup, tLst, HO.ins.injEq, and_assoc, reduceCtorEq, false_and, exists_false, false_or, or_false, tFmt, tJs, tBreak, tCont, tMakeS, tCallS, Int.zero_add, if_true, if_false, Bool.false_eq_true, Bool.not_true, Bool.not_false, tUn, rU, ha, hb, RatF_num, RatF_den, CL T, NN T, ND T]
  refine isi_ins (insB_ok (CL T) (T.fx 1)) hb kit_self ⟨true, rfl, iteT ?_⟩
  simp only [tSeq, tIfS, tTest, tOp, tVar, tC, tCB, tCons, tNil, tRet, tAsg, gName, tNext, tDrop, rI, rI0, rEq, rNe, sc_ii, sc_ss, sc_bb, sc_in, sc_ni, sc_nn, sc_si, sc_is, List.getElem?_cons_zero, List.getElem?_cons_succ, List.set_cons_zero, List.set_cons_succ, Option.some.injEq, exists_eq_left', exists_eq_left, L2.start, cxOf, List.cons.injEq, and_true, exists_and_left, exists_and_right, exists_eq', V.int.injEq, V.bl.injEq, V.str.injEq, V.ref.injEq, List.length_cons, List.length_nil, List.cons_append, List.nil_append, true_and, List.map, List.replicate, tAndV, tOrV, tNotV, tTest, tB, tNot, tAnd, tOr, Nat.zero_add, Nat.reduceAdd, Nat.reduceSub, Nat.sub_self, sFld, tFld, tPar, tMake, tCall, tMeth, tTup, tLst, HO.ins.injEq, and_assoc, reduceCtorEq, false_and, exists_false, false_or, or_false, tFmt, tJs, tBreak, tCont, tMakeS, tCallS, Int.zero_add, if_true, if_false, Bool.false_eq_true, Bool.not_true, Bool.not_false, tUn, rU, ha, hb, RatF_num, RatF_den, CL T, NN T, ND T]
  have e : decide (p = q) = (if decide (p.1 = q.1) = true then decide (p.2 = q.2) else false) := by
    obtain ⟨p1, p2⟩ := p
    obtain ⟨q1, q2⟩ := q
    by_cases h1 : p1 = q1 <;> by_cases h2 : p2 = q2 <;> simp [h1, h2]
  rw [e] at hQ
  revert hQ
  split <;> exact id
def numS (i : Int) : Str := Str.ofString (toString i)
theorem numS_len {i : Int} {k : Nat} (h : i.natAbs < 10 ^ k) (h0 : 0 < k) : (numS i).length ≤ k + 1 := by
  cases i with
  | ofNat n =>
    have := toString_length_le (v := (n : Int)) (by omega) h0 (by
      have : ((n : Nat) : Int) < ((10 ^ k : Nat) : Int) := Int.ofNat_lt.mpr (by simpa using h)
      simpa using this)
    show (Str.ofString (toString (Int.ofNat n))).length ≤ k + 1
    exact Nat.le_succ_of_le this
  | negSucc n =>
    have := toString_length_le (v := ((n + 1 : Nat) : Int)) (by omega) h0 (by
      have : ((n + 1 : Nat) : Int) < ((10 ^ k : Nat) : Int) := Int.ofNat_lt.mpr (by simpa using h)
      simpa using this)
    have e : toString (Int.negSucc n) = "-" ++ toString ((n + 1 : Nat) : Int) := rfl
    unfold numS
    rw [e, PySem.ofString_length, String.length_append]
    rw [PySem.ofString_length] at this
    have z : ("-" : String).length = 1 := by decide
    omega
theorem log_of {z : Int} {k : Nat} (h : Lt2 z k) (h0 : 0 < k) (hk : k ≤ 1920) : z.natAbs.log2 < 1920 := Nat.lt_of_lt_of_le (PySem.Flt.log2_lt_of h0 h) hk
def ratText (p : Int × Int) : Str := if p.2 = 1 then numS p.1 else numS p.1 ++ ("/" : Str) ++ numS p.2
/-- numbers that are written -/
def Wr (z : Int) : Prop := z.natAbs < 10 ^ 60
theorem Wr.lt {z : Int} (h : Wr z) : Lt2 z 200 := Nat.lt_of_lt_of_le h (by decide)
theorem Wr.len {z : Int} (h : Wr z) : (numS z).length ≤ 61 := numS_len h (by decide)
def spStr (K : PySem.W.Frag) : Sp := fun vs H Q _ => ∃ (a : Addr) (p : Int × Int), vs = [.ref a] ∧ RatAt K H a p ∧ Wr p.1 ∧ Wr p.2 ∧ Q (.str (ratText p)) H
theorem ok_Ratio_str (T : Tk K mg) : Okm P w K mg base (L2.CX P w) 1 "Ratio" "__str__" ["self"] (spStr K) := by
  refine Okm.of s_Ratio_str (T.df 8) (T.cls 22) (T.meth 28) sc_Ratio_str (fun _ _ _ _ _ _ us hl => match us, hl with | [_], _ => rfl) (fun vs H Q E h => ?_) (fun cdv A outer s H vs Q E h hr hpo tk px pxe => ?_)
  · obtain ⟨a, p, rfl, _⟩ := h; rfl
  obtain ⟨a, p, rfl, ⟨dx, ha⟩, w1, w2, hQ⟩ := h
  refine ⟨_, (pss_cons (ps_if (pt_cmpR op_eq (pe_fld (pv 0) rfl) pe_int (nomark _)) (pss_one (ps_ret (pe_joined1 (pe_fmt (pe_fld (pv 0) rfl))))) pss_nil)
  (pss_one (ps_ret (pe_joined (PJ.cons (pe_fmt (pe_fld (pv 0) rfl)) (PJ.cons pe_str (PJ.cons (pe_fmt (pe_fld (pv 0) rfl)) PJ.nil))))))), ?_⟩
  clear hr hpo tk px pxe
  have l1 := log_of w1.lt (by decide) (by decide); have l2 := log_of w2.lt (by decide) (by decide)
  have n1 := w1.len; have n2 := w2.len
  simp only [tSeq, tIfS, tTest, tOp, tVar, tC, tCB, tCons, tNil, tRet, tAsg, gName, tNext, tDrop, rI, rI0, rEq, rNe, sc_ii, sc_ss, sc_bb, sc_in, sc_ni, sc_nn, sc_si, sc_is, List.getElem?_cons_zero, List.getElem?_cons_succ, List.set_cons_zero, List.set_cons_succ, Option.some.injEq, exists_eq_left', exists_eq_left, L2.start, cxOf, List.cons.injEq, and_true, exists_and_left, exists_and_right, exists_eq', V.int.injEq, V.bl.injEq, V.str.injEq, V.ref.injEq, List.length_cons, List.length_nil, List.cons_append, List.nil_append, true_and, List.map, List.replicate, tAndV, tOrV, tNotV, tTest, tB, tNot, tAnd, tOr, Nat.zero_add, Nat.reduceAdd, Nat.reduceSub, Nat.sub_self, sFld, tFld, tPar, tMake, tCall, tMeth, tTup, tLst, HO.ins.injEq, and_assoc, reduceCtorEq, false_and, exists_false, false_or, or_false, tFmt, tJs, tBreak, tCont, tMakeS, tCallS, Int.zero_add, if_true, if_false, Bool.false_eq_true, Bool.not_true, Bool.not_false, tUn, rU, ha, RatF_num, RatF_den, CL T, NN T, ND T, l1, l2]
  refine ite2 (fun c => ?_) (fun c => ?_)
  · have c' : p.2 = 1 := of_decide_eq_true c
    rw [ratText, if_pos c'] at hQ
    exact hQ
  · have c' : ¬ p.2 = 1 := fun z => c (decide_eq_true z)
    rw [ratText, if_neg c'] at hQ
    rw [empty_app]
    have z : (("/" : Str)).length = 1 := by decide +kernel
    have b : 10000 ≤ sizeLine := by decide
    refine ⟨Nat.le_trans n1 (Nat.le_trans (by decide) b), ?_, ?_, hQ⟩
    · rw [Str.length_append, z]
      exact Nat.le_trans (Nat.add_le_add_right n1 _) (Nat.le_trans (by decide) b)
    · rw [Str.length_append, Str.length_append, z]
      exact Nat.le_trans (Nat.add_le_add (Nat.add_le_add_right n1 _) n2) (Nat.le_trans (by decide) b)
def spLess : Sp := fun vs H Q _ => ∃ (n d : Int), vs = [.int n, .int d] ∧ 0 < d ∧ Lt2 d 900 ∧ ∀ c, H c = none → Q (.ref c) (upd H c (.tup [.int (red n d).1, .int (red n d).2]))
theorem ok_l_less (T : Tk K mg) : Okd P w K mg base (L2.CX P w) 1 "_law_less" ["_law_num", "_law_den"] spLess := by
  refine Okd.of s_l_less (T.df 9) (T.glo 29) sc_l_less (fun _ _ _ _ _ _ us hl => match us, hl with | [_, _], _ => rfl) (fun vs H Q E h => ?_) (fun cdv A outer s H vs Q E h hr hpo tk px pxe => ?_)
  · obtain ⟨n, d, rfl, _⟩ := h; rfl
  obtain ⟨n, d, rfl, hd0, hd, hQ⟩ := h
  refine ⟨_, (pss_cons (ps_set (i := 2) sc_l_less.nd rfl (Or.inl rfl) (pe_callB call_abs (by rfl) (T.free 4) (by decide +kernel) (pa_cons (pv 0) pa_nil)))
  (pss_cons (ps_set (i := 3) sc_l_less.nd rfl (Or.inl rfl) (pv 1))
  (pss_cons (ps_for hpo rfl (pi_range1 rfl (T.free 8) (pa_cons pe_int pa_nil)) (pg_name (i := 4) sc_l_less.nd rfl (Or.inl rfl)) (pss_cons (ps_if (pt_cmpR op_eq (pv 3) pe_int (nomark _)) (pss_one ps_break) pss_nil)
   (pss_cons (ps_set (i := 5) sc_l_less.nd rfl (Or.inl rfl) (pe_op op_mod (pe_callTy call_int1 (by rfl) (T.free 3) (by decide +kernel) (pa_cons (pv 2) pa_nil)) (pv 3)))
   (pss_cons (ps_set (i := 2) sc_l_less.nd rfl (Or.inl rfl) (pv 3))
   (pss_one (ps_set (i := 3) sc_l_less.nd rfl (Or.inl rfl) (pv 5)))))))
  (pss_one (ps_ret (pe_tup (pa_cons (pe_op op_fdivW (pv 0) (pv 2)) (pa_cons (pe_op op_fdivW (pv 1) (pv 2)) pa_nil)))))))), ?_⟩
  clear hr hpo tk px pxe
  simp only [tSeq, tIfS, tTest, tOp, tVar, tC, tCB, tCons, tNil, tRet, tAsg, gName, tNext, tDrop, rI, rI0, rEq, rNe, sc_ii, sc_ss, sc_bb, sc_in, sc_ni, sc_nn, sc_si, sc_is, List.getElem?_cons_zero, List.getElem?_cons_succ, List.set_cons_zero, List.set_cons_succ, Option.some.injEq, exists_eq_left', exists_eq_left, L2.start, cxOf, List.cons.injEq, and_true, exists_and_left, exists_and_right, exists_eq', V.int.injEq, V.bl.injEq, V.str.injEq, V.ref.injEq, List.length_cons, List.length_nil, List.cons_append, List.nil_append, true_and, List.map, List.replicate, tAndV, tOrV, tNotV, tTest, tB, tNot, tAnd, tOr, Nat.zero_add, Nat.reduceAdd, Nat.reduceSub, Nat.sub_self, sFld, tFld, tPar, tMake, tCall, tMeth, tTup, tLst, HO.ins.injEq, and_assoc, reduceCtorEq, false_and, exists_false, false_or, or_false, tFmt, tJs, tBreak, tCont, tMakeS, tCallS, Int.zero_add, if_true, if_false, Bool.false_eq_true, Bool.not_true, Bool.not_false, tUn, rU]
  have habs : (if n < 0 then -n else n) = ((n.natAbs : Nat) : Int) := by split <;> omega
  rw [habs]
  refine ⟨2000, rfl, by decide, by decide, for_range (n := 2000) (fun i σ H' => ∃ (a b : Int) (v c : Option V), σ = [some (.int n), some (.int d), some (.int a), some (.int b), v, c] ∧ H' = H ∧ 0 ≤ a ∧ 0 ≤ b ∧ Int.gcd a b = Int.gcd n d ∧ Short (2000 - i) a b) ?_ ?_ ?_⟩
  · refine ⟨_, d, none, none, rfl, rfl, by omega, by omega, ?_, short_2000 (by omega) ?_⟩
    · rw [Int.gcd_eq_natAbs_gcd_natAbs, Int.gcd_eq_natAbs_gcd_natAbs, Int.natAbs_natCast]
    · have h9 : Lt2 d 999 := hd.mono (by decide)
      have h8 : d.natAbs < 2 ^ 999 := h9
      have : ((d.natAbs : Nat) : Int) < ((2 ^ 999 : Nat) : Int) := Int.ofNat_lt.mpr h8
      rw [Int.natAbs_of_nonneg (by omega)] at this
      rw [Int.natCast_pow] at this
      exact this
  · rintro i σ H' hi ⟨a, b, v, c, rfl, rfl, ha, hb, hg, hs⟩
    simp only [tSeq, tIfS, tTest, tOp, tVar, tC, tCB, tCons, tNil, tRet, tAsg, gName, tNext, tDrop, rI, rI0, rEq, rNe, sc_ii, sc_ss, sc_bb, sc_in, sc_ni, sc_nn, sc_si, sc_is, List.getElem?_cons_zero, List.getElem?_cons_succ, List.set_cons_zero, List.set_cons_succ, Option.some.injEq, exists_eq_left', exists_eq_left, L2.start, cxOf, List.cons.injEq, and_true, exists_and_left, exists_and_right, exists_eq', V.int.injEq, V.bl.injEq, V.str.injEq, V.ref.injEq, List.length_cons, List.length_nil, List.cons_append, List.nil_append, true_and, List.map, List.replicate, tAndV, tOrV, tNotV, tTest, tB, tNot, tAnd, tOr, Nat.zero_add, Nat.reduceAdd, Nat.reduceSub, Nat.sub_self, sFld, tFld, tPar, tMake, tCall, tMeth, tTup, tLst, HO.ins.injEq, and_assoc, reduceCtorEq, false_and, exists_false, false_or, or_false, tFmt, tJs, tBreak, tCont, tMakeS, tCallS, Int.zero_add, if_true, if_false, Bool.false_eq_true, Bool.not_true, Bool.not_false, tUn, rU]
    refine ite2 (fun c => ?_) (fun c => ?_)
    · have hb0 : b = 0 := of_decide_eq_true c
      subst hb0
      have hga : a = (Int.gcd n d : Int) := by rw [← hg, Int.gcd_zero_right]; omega
      have h1 := gcd_pos (n := n) hd0
      have h2 := gcd_le (n := n) hd0
      have hcd : ∀ z, CDivW z a := fun z => Lt2.cdiv (a := 900) (by omega) (.of_le (by omega) hd) (by decide)
      refine ⟨hcd _, hcd _, by decide, ?_⟩
      rw [hga]
      exact hQ
    · have hb0 : b ≠ 0 := fun z => c (decide_eq_true z)
      have hs' : PL.Short ((2000 - (i + 1)) + 1) a b := by
        rw [show 2000 - (i + 1) + 1 = 2000 - i by omega]; exact hs
      exact ⟨by omega, hb, Int.emod_nonneg _ hb0, by rw [gcd_step ha (by omega), hg], hs'.resolve_left hb0⟩
  · rintro σ H' ⟨a, b, v, c, rfl, rfl, ha, hb, hg, hs⟩
    have hb0 : b = 0 := hs
    subst hb0
    simp only [tSeq, tIfS, tTest, tOp, tVar, tC, tCB, tCons, tNil, tRet, tAsg, gName, tNext, tDrop, rI, rI0, rEq, rNe, sc_ii, sc_ss, sc_bb, sc_in, sc_ni, sc_nn, sc_si, sc_is, List.getElem?_cons_zero, List.getElem?_cons_succ, List.set_cons_zero, List.set_cons_succ, Option.some.injEq, exists_eq_left', exists_eq_left, L2.start, cxOf, List.cons.injEq, and_true, exists_and_left, exists_and_right, exists_eq', V.int.injEq, V.bl.injEq, V.str.injEq, V.ref.injEq, List.length_cons, List.length_nil, List.cons_append, List.nil_append, true_and, List.map, List.replicate, tAndV, tOrV, tNotV, tTest, tB, tNot, tAnd, tOr, Nat.zero_add, Nat.reduceAdd, Nat.reduceSub, Nat.sub_self, sFld, tFld, tPar, tMake, tCall, tMeth, tTup, tLst, HO.ins.injEq, and_assoc, reduceCtorEq, false_and, exists_false, false_or, or_false, tFmt, tJs, tBreak, tCont, tMakeS, tCallS, Int.zero_add, if_true, if_false, Bool.false_eq_true, Bool.not_true, Bool.not_false, tUn, rU]
    have hga : a = (Int.gcd n d : Int) := by rw [← hg, Int.gcd_zero_right]; omega
    have h1 := gcd_pos (n := n) hd0
    have h2 := gcd_le (n := n) hd0
    have hcd : ∀ z, CDivW z a := fun z => Lt2.cdiv (a := 900) (by omega) (.of_le (by omega) hd) (by decide)
    refine ⟨hcd _, hcd _, by decide, ?_⟩
    rw [hga]
    exact hQ
def spIs (K : PySem.W.Frag) : Sp := fun vs H Q _ => ∃ (a : Addr) (n d : Int), vs = [.ref a, .int n, .int d] ∧ RatAt K H a (red n d) ∧ 0 < d ∧ Wr n ∧ Wr d ∧ ∀ H', Same H H' → Q (.bl true) H'
theorem Wr.num {n d : Int} (hd : 0 < d) (h : Wr n) : Wr (red n d).1 := Nat.lt_of_le_of_lt (red_num_le hd) h
theorem Wr.den {n d : Int} (hd : 0 < d) (h : Wr d) : Wr (red n d).2 := Nat.lt_of_le_of_lt (by have := red_den_pos (n := n) hd; have := red_den_le (n := n) hd; omega) h
theorem ok_l_is (T : Tk K mg) : Okd P w K mg base (L2.CX P w) 3 "_law_is" ["_law_actual", "_law_num", "_law_den"] (spIs K) := by
  refine Okd.of s_l_is (T.df 10) (T.glo 30) sc_l_is (fun _ _ _ _ _ _ us hl => match us, hl with | [_, _, _], _ => rfl) (fun vs H Q E h => ?_) (fun cdv A outer s H vs Q E h hr hpo tk px pxe => ?_)
  · obtain ⟨a, n, d, rfl, _⟩ := h; rfl
  obtain ⟨a, n, d, rfl, ha, hd0, wn, wd, hQ⟩ := h
  refine ⟨_, (pss_cons (ps_set (i := 3) sc_l_is.nd rfl (Or.inl rfl) (pf (ok_l_less T) (hr.mono (by decide)) (by rfl) px (pa_cons (pv 1) (pa_cons (pv 2) pa_nil))))
  (pss_cons (ps_if (PW.pt (pw_or (pt_not (pt_val (pe_callB call_isi (by rfl) (T.free 2) (by decide +kernel) (pa_cons (pv 0) (pa_cons (pe_glob (v := .ref (He.ga K "Ratio")) (by rfl) (T.glo 7) rfl) pa_nil))))) (pw_or (pt_not (pt_val (pf (ok_l_is_integer T) (hr.mono (by decide)) (by rfl) px (pa_cons (pe_fld (pv 0) rfl) pa_nil)))) (pw_or1 (pt_not (pt_val (pf (ok_l_is_integer T) (hr.mono (by decide)) (by rfl) px (pa_cons (pe_fld (pv 0) rfl) pa_nil)))))))) (pss_one (ps_ret pe_bl)) pss_nil)
  (pss_cons (ps_set (i := 4) sc_l_is.nd rfl (Or.inl rfl) (pe_callTy call_str_int (by rfl) (T.free 9) (by decide +kernel) (pa_cons (pe_ix ix_tup (pv 3) pe_int (fun _ _ => rfl)) pa_nil)))
  (pss_cons (ps_if (pt_cmpR op_ne (pe_ix ix_tup (pv 3) pe_int (fun _ _ => rfl)) pe_int (nomark _)) (pss_one (ps_set (i := 4) sc_l_is.nd rfl (Or.inl rfl) (pe_op op_add_str (pe_op op_add_str (pv 4) pe_str) (pe_callTy call_str_int (by rfl) (T.free 9) (by decide +kernel) (pa_cons (pe_ix ix_tup (pv 3) pe_int (fun _ _ => rfl)) pa_nil))))) pss_nil)
  (pss_one (ps_ret (pe_and (pe_cmpR (op_eqD hr.units) (pe_tup (pa_cons (pe_fld (pv 0) rfl) (pa_cons (pe_fld (pv 0) rfl) pa_nil))) (pv 3) (nomark _)) (pe_one (pe_cmpR op_eq (pe_callTy (call_strOwn (ok_Ratio_str T) (hr.mono (by decide)) px) (by rfl) (T.free 9) (by decide +kernel) (pa_cons (pv 0) pa_nil)) (pv 4) (nomark _)))))))))), ?_⟩
  clear hr hpo tk px pxe
  have w1 := wn.num hd0; have w2 := wd.den (n := n) hd0
  have l1 := log_of w1.lt (by decide) (by decide); have l2 := log_of w2.lt (by decide) (by decide)
  simp only [tSeq, tIfS, tTest, tOp, tVar, tC, tCB, tCons, tNil, tRet, tAsg, gName, tNext, tDrop, rI, rI0, rEq, rNe, sc_ii, sc_ss, sc_bb, sc_in, sc_ni, sc_nn, sc_si, sc_is, List.getElem?_cons_zero, List.getElem?_cons_succ, List.set_cons_zero, List.set_cons_succ, Option.some.injEq, exists_eq_left', exists_eq_left, L2.start, cxOf, List.cons.injEq, and_true, exists_and_left, exists_and_right, exists_eq', V.int.injEq, V.bl.injEq, V.str.injEq, V.ref.injEq, List.length_cons, List.length_nil, List.cons_append, List.nil_append, true_and, List.map, List.replicate, tAndV, tOrV, tNotV, tTest, tB, tNot, tAnd, tOr, Nat.zero_add, Nat.reduceAdd, Nat.reduceSub, Nat.sub_self, sFld, tFld, tPar, tMake, tCall, tMeth, tTup, tLst, HO.ins.injEq, and_assoc, reduceCtorEq, false_and, exists_false, false_or, or_false, tFmt, tJs, tBreak, tCont, tMakeS, tCallS, Int.zero_add, if_true, if_false, Bool.false_eq_true, Bool.not_true, Bool.not_false, tUn, rU]
  refine ⟨n, d, rfl, hd0, wd.lt.mono (by decide), fun c hc => ?_⟩
  obtain ⟨dx, ha⟩ := ha
  have nca := ne_of_none ha hc
  refine isi_ins (insB_ok (CL T) (T.fx 1)) (dx := dx) (by rw [upd_ne nca]; exact ha) kit_self ⟨true, rfl, ?_⟩
  simp only [tSeq, tIfS, tTest, tOp, tVar, tC, tCB, tCons, tNil, tRet, tAsg, gName, tNext, tDrop, rI, rI0, rEq, rNe, sc_ii, sc_ss, sc_bb, sc_in, sc_ni, sc_nn, sc_si, sc_is, List.getElem?_cons_zero, List.getElem?_cons_succ, List.set_cons_zero, List.set_cons_succ, Option.some.injEq, exists_eq_left', exists_eq_left, L2.start, cxOf, List.cons.injEq, and_true, exists_and_left, exists_and_right, exists_eq', V.int.injEq, V.bl.injEq, V.str.injEq, V.ref.injEq, List.length_cons, List.length_nil, List.cons_append, List.nil_append, true_and, List.map, List.replicate, tAndV, tOrV, tNotV, tTest, tB, tNot, tAnd, tOr, Nat.zero_add, Nat.reduceAdd, Nat.reduceSub, Nat.sub_self, sFld, tFld, tPar, tMake, tCall, tMeth, tTup, tLst, HO.ins.injEq, and_assoc, reduceCtorEq, false_and, exists_false, false_or, or_false, tFmt, tJs, tBreak, tCont, tMakeS, tCallS, Int.zero_add, if_true, if_false, Bool.false_eq_true, Bool.not_true, Bool.not_false, tUn, rU, Bool.not_true, Bool.false_eq_true, if_false, if_true, upd_ne nca, ha, RatF_num, RatF_den, CL T, NN T, ND T]
  have hcc : upd H c (HO.tup [V.int (red n d).fst, V.int (red n d).snd]) c = some (HO.tup [V.int (red n d).fst, V.int (red n d).snd]) := upd_same
  have haa : upd H c (HO.tup [V.int (red n d).fst, V.int (red n d).snd]) a = some (.ins (He.ga K "Ratio") dx (RatF (red n d))) := by rw [upd_ne nca]; exact ha
  have sm : Same H (upd H c (HO.tup [V.int (red n d).fst, V.int (red n d).snd])) := fun b o e => by rw [upd_ne (ne_of_none e hc)]; exact e
  generalize upd H c (HO.tup [V.int (red n d).fst, V.int (red n d).snd]) = H1 at *
  have n1 := w1.len; have n2 := w2.len
  have z : (("/" : Str)).length = 1 := by decide +kernel
  have b : 10000 ≤ sizeLine := by decide
  have tail : ∀ txt, txt = ratText (red n d) → (2 ≤ sizeLine ∧ ∀ p, H1 p = none → rEqD K (V.ref p) (V.ref c) (upd H1 p (HO.tup [V.int (red n d).fst, V.int (red n d).snd])) fun x H1 => ∃ c, x = V.bl c ∧
      if c = true then rStrOwn (He.ga K "Ratio") (spStr K) E0 [V.ref a] H1 fun x H1 => scal x (V.str txt) = true ∧ Q (V.bl (decide (x = V.str txt))) H1 else Q (V.bl false) H1) := by
    rintro txt rfl
    refine ⟨by decide, fun p hp => ?_⟩
    have ncp := ne_of_none hcc hp
    have nap := ne_of_none haa hp
    refine ⟨.tuple [.int _, .int _], .tuple [.int _, .int _], .tup (SqT.of upd_same) (.cons (.int _) (.cons (.int _) .nil)), .tup (SqT.of (by rw [upd_ne ncp]; exact hcc)) (.cons (.int _) (.cons (.int _) .nil)), by rfl, by rfl, true, by simp [PyData.eqv, PyData.eqvAll], ?_⟩
    refine iteT ⟨a, dx, _, rfl, by rw [upd_ne nap]; exact haa, a, red n d, rfl, ⟨dx, by rw [upd_ne nap]; exact haa⟩, w1, w2, _, rfl, rfl, ?_⟩
    rw [decide_eq_true rfl]
    exact hQ _ (fun b o e => by rw [upd_ne (ne_of_none (sm b o e) hp)]; exact sm b o e)
  refine ⟨_, rfl, true, rfl, ?_⟩
  simp only [tSeq, tIfS, tTest, tOp, tVar, tC, tCB, tCons, tNil, tRet, tAsg, gName, tNext, tDrop, rI, rI0, rEq, rNe, sc_ii, sc_ss, sc_bb, sc_in, sc_ni, sc_nn, sc_si, sc_is, List.getElem?_cons_zero, List.getElem?_cons_succ, List.set_cons_zero, List.set_cons_succ, Option.some.injEq, exists_eq_left', exists_eq_left, L2.start, cxOf, List.cons.injEq, and_true, exists_and_left, exists_and_right, exists_eq', V.int.injEq, V.bl.injEq, V.str.injEq, V.ref.injEq, List.length_cons, List.length_nil, List.cons_append, List.nil_append, true_and, List.map, List.replicate, tAndV, tOrV, tNotV, tTest, tB, tNot, tAnd, tOr, Nat.zero_add, Nat.reduceAdd, Nat.reduceSub, Nat.sub_self, sFld, tFld, tPar, tMake, tCall, tMeth, tTup, tLst, HO.ins.injEq, and_assoc, reduceCtorEq, false_and, exists_false, false_or, or_false, tFmt, tJs, tBreak, tCont, tMakeS, tCallS, Int.zero_add, if_true, if_false, Bool.false_eq_true, Bool.not_true, Bool.not_false, tUn, rU, Bool.not_true, Bool.false_eq_true, if_false, if_true, haa, RatF_num, RatF_den, CL T, NN T, ND T]
  refine ⟨_, rfl, true, rfl, ?_⟩
  simp only [tSeq, tIfS, tTest, tOp, tVar, tC, tCB, tCons, tNil, tRet, tAsg, gName, tNext, tDrop, rI, rI0, rEq, rNe, sc_ii, sc_ss, sc_bb, sc_in, sc_ni, sc_nn, sc_si, sc_is, List.getElem?_cons_zero, List.getElem?_cons_succ, List.set_cons_zero, List.set_cons_succ, Option.some.injEq, exists_eq_left', exists_eq_left, L2.start, cxOf, List.cons.injEq, and_true, exists_and_left, exists_and_right, exists_eq', V.int.injEq, V.bl.injEq, V.str.injEq, V.ref.injEq, List.length_cons, List.length_nil, List.cons_append, List.nil_append, true_and, List.map, List.replicate, tAndV, tOrV, tNotV, tTest, tB, tNot, tAnd, tOr, Nat.zero_add, Nat.reduceAdd, Nat.reduceSub, Nat.sub_self, sFld, tFld, tPar, tMake, tCall, tMeth, tTup, tLst, HO.ins.injEq, and_assoc, reduceCtorEq, false_and, exists_false, false_or, or_false, tFmt, tJs, tBreak, tCont, tMakeS, tCallS, Int.zero_add, if_true, if_false, Bool.false_eq_true, Bool.not_true, Bool.not_false, tUn, rU, Bool.not_true, Bool.false_eq_true, if_false, if_true, haa, RatF_num, RatF_den, CL T, NN T, ND T]
  refine ixT_at 0 hcc rfl ⟨_, rfl, l1, ixT_at 1 hcc rfl ⟨rfl, ?_⟩⟩
  simp only [tSeq, tIfS, tTest, tOp, tVar, tC, tCB, tCons, tNil, tRet, tAsg, gName, tNext, tDrop, rI, rI0, rEq, rNe, sc_ii, sc_ss, sc_bb, sc_in, sc_ni, sc_nn, sc_si, sc_is, List.getElem?_cons_zero, List.getElem?_cons_succ, List.set_cons_zero, List.set_cons_succ, Option.some.injEq, exists_eq_left', exists_eq_left, L2.start, cxOf, List.cons.injEq, and_true, exists_and_left, exists_and_right, exists_eq', V.int.injEq, V.bl.injEq, V.str.injEq, V.ref.injEq, List.length_cons, List.length_nil, List.cons_append, List.nil_append, true_and, List.map, List.replicate, tAndV, tOrV, tNotV, tTest, tB, tNot, tAnd, tOr, Nat.zero_add, Nat.reduceAdd, Nat.reduceSub, Nat.sub_self, sFld, tFld, tPar, tMake, tCall, tMeth, tTup, tLst, HO.ins.injEq, and_assoc, reduceCtorEq, false_and, exists_false, false_or, or_false, tFmt, tJs, tBreak, tCont, tMakeS, tCallS, Int.zero_add, if_true, if_false, Bool.false_eq_true, Bool.not_true, Bool.not_false, tUn, rU, haa, RatF_num, RatF_den, CL T, NN T, ND T]
  refine ite2 (fun c => ?_) (fun c => ?_)
  · refine ⟨?_, ixT_at 1 hcc rfl ⟨_, rfl, l2, ?_, ?_⟩⟩
    · rw [z]; exact Nat.le_trans (Nat.add_le_add_right n1 _) (Nat.le_trans (by decide) b)
    · rw [Str.length_append, z]; exact Nat.le_trans (Nat.add_le_add (Nat.add_le_add_right n1 _) n2) (Nat.le_trans (by decide) b)
    simp only [tSeq, tIfS, tTest, tOp, tVar, tC, tCB, tCons, tNil, tRet, tAsg, gName, tNext, tDrop, rI, rI0, rEq, rNe, sc_ii, sc_ss, sc_bb, sc_in, sc_ni, sc_nn, sc_si, sc_is, List.getElem?_cons_zero, List.getElem?_cons_succ, List.set_cons_zero, List.set_cons_succ, Option.some.injEq, exists_eq_left', exists_eq_left, L2.start, cxOf, List.cons.injEq, and_true, exists_and_left, exists_and_right, exists_eq', V.int.injEq, V.bl.injEq, V.str.injEq, V.ref.injEq, List.length_cons, List.length_nil, List.cons_append, List.nil_append, true_and, List.map, List.replicate, tAndV, tOrV, tNotV, tTest, tB, tNot, tAnd, tOr, Nat.zero_add, Nat.reduceAdd, Nat.reduceSub, Nat.sub_self, sFld, tFld, tPar, tMake, tCall, tMeth, tTup, tLst, HO.ins.injEq, and_assoc, reduceCtorEq, false_and, exists_false, false_or, or_false, tFmt, tJs, tBreak, tCont, tMakeS, tCallS, Int.zero_add, if_true, if_false, Bool.false_eq_true, Bool.not_true, Bool.not_false, tUn, rU, haa, RatF_num, RatF_den, CL T, NN T, ND T]
    refine tail _ ?_
    have c' : ¬ (red n d).2 = 1 := by simpa using c
    rw [ratText, if_neg c'] <;> rfl
  · refine tail _ ?_
    have c' : (red n d).2 = 1 := by simpa using c
    rw [ratText, if_pos c'] <;> rfl
def spRef (K : PySem.W.Frag) : Sp := fun vs H Q _ => ∃ (n d : Int), vs = [.int n, .int d] ∧ d ≤ 0 ∧ Lt2 d 900 ∧ ∀ H', Same H H' → Q (.bl true) H'
theorem ok_l_refused (T : Tk K mg) : Okd P w K mg base (L2.CX P w) 3 "_law_refused" ["_law_num", "_law_den"] (spRef K) := by
  refine Okd.of s_l_refused (T.df 11) (T.glo 31) sc_l_refused (fun _ _ _ _ _ _ us hl => match us, hl with | [_, _], _ => rfl) (fun vs H Q E h => ?_) (fun cdv A outer s H vs Q E h hr hpo tk px pxe => ?_)
  · obtain ⟨n, d, rfl, _⟩ := h; rfl
  obtain ⟨n, d, rfl, hd0, hd, hQ⟩ := h
  refine ⟨_, (pss_cons (ps_try_as (i := 2) (tb := fun W => (tDrop (tMakeS (He.ga K "Ratio") (spInit K) [] (WE W) (tCons (tVar 0) (tCons (tVar 1) tNil))))) (ts := fun a cls d => (tSeq (tIfS (tB (tCB (rIsXT K a cls d) (tCons (tVar 2) (tCons (tTup (tCons (tC (.ref (He.ga K "BadCall"))) (tCons (tC (.ref (He.ga K "BadPaper"))) (tCons (tC (.ref (He.ga K "BadPlayer"))) (tCons (tC (.ref (He.ga K "BadStep"))) (tCons (tC (.ref (He.ga K "BadText"))) (tCons (tC (.ref (He.ga K "TooLarge"))) tNil))))))) tNil)))) (tRet (tC (.bl false))) tNext) (tRet (tAndV (tCB (rIsX K a cls d) (tCons (tVar 2) (tCons (tC (.ref (He.ga K "BadBound"))) tNil))) (tCB (rIsX K a cls d) (tCons (tVar 2) (tCons (tC (.ty "ValueError")) tNil))))))) rfl rfl sc_l_refused.nd rfl rfl ⟨by rfl, by decide, .inl (T.glo 11)⟩ takes0 (fun W pn xe tk hpo => (pss_one (ps_expr (by exact (pmkS (mk_Ratio_2 T) (hr.mono (by decide)) (by rfl) (fun σ => passAt tk σ) (pa_cons (pv 0) (pa_cons (pv 1) pa_nil))))))) (fun a oe cls d pn hz hf => (pss_cons (ps_if (pt_val (pe_callB (call_isXT hz hf) (by rfl) (T.free 2) (by decide +kernel) (pa_cons (pv 2) (pa_cons (pe_tup (pa_cons (pe_glob (v := .ref (He.ga K "BadCall")) (by rfl) (T.glo 18) rfl) (pa_cons (pe_glob (v := .ref (He.ga K "BadPaper")) (by rfl) (T.glo 17) rfl) (pa_cons (pe_glob (v := .ref (He.ga K "BadPlayer")) (by rfl) (T.glo 16) rfl) (pa_cons (pe_glob (v := .ref (He.ga K "BadStep")) (by rfl) (T.glo 15) rfl) (pa_cons (pe_glob (v := .ref (He.ga K "BadText")) (by rfl) (T.glo 14) rfl) (pa_cons (pe_glob (v := .ref (He.ga K "TooLarge")) (by rfl) (T.glo 13) rfl) pa_nil))))))) pa_nil)))) (pss_one (ps_ret pe_bl)) pss_nil)
   (pss_one (ps_ret (pe_and (pe_callB (call_isX hz hf) (by rfl) (T.free 2) (by decide +kernel) (pa_cons (pv 2) (pa_cons (pe_glob (v := .ref (He.ga K "BadBound")) (by rfl) (T.glo 6) rfl) pa_nil))) (pe_one (pe_callB (call_isX hz hf) (by rfl) (T.free 2) (by decide +kernel) (pa_cons (pv 2) (pa_cons (pe_bltn (v := .ty "ValueError") (by rfl) (T.free 12) (by decide +kernel) rfl) pa_nil))))))))))
  (pss_one (ps_ret pe_bl))), ?_⟩
  clear hr hpo tk px pxe
  simp only [tSeq, tIfS, tTest, tOp, tVar, tC, tCB, tCons, tNil, tRet, tAsg, gName, tNext, tDrop, rI, rI0, rEq, rNe, sc_ii, sc_ss, sc_bb, sc_in, sc_ni, sc_nn, sc_si, sc_is, List.getElem?_cons_zero, List.getElem?_cons_succ, List.set_cons_zero, List.set_cons_succ, Option.some.injEq, exists_eq_left', exists_eq_left, L2.start, cxOf, List.cons.injEq, and_true, exists_and_left, exists_and_right, exists_eq', V.int.injEq, V.bl.injEq, V.str.injEq, V.ref.injEq, List.length_cons, List.length_nil, List.cons_append, List.nil_append, true_and, List.map, List.replicate, tAndV, tOrV, tNotV, tTest, tB, tNot, tAnd, tOr, Nat.zero_add, Nat.reduceAdd, Nat.reduceSub, Nat.sub_self, sFld, tFld, tPar, tMake, tCall, tMeth, tTup, tLst, HO.ins.injEq, and_assoc, reduceCtorEq, false_and, exists_false, false_or, or_false, tFmt, tJs, tBreak, tCont, tMakeS, tCallS, Int.zero_add, if_true, if_false, Bool.false_eq_true, Bool.not_true, Bool.not_false, tUn, rU]
  refine fun x dx nx ndx ne => ⟨x, dx, n, d, rfl, upd_same, hd, fun _ => ⟨true, T.exm 35, fun _ a ha => ?_, fun z => nomatch z⟩, fun z => absurd z (by omega)⟩
  have sm : Same H (upd (upd H dx (.own x)) x (.ins (He.ga K "Ratio") dx [])) := fun b o e => by rw [upd_ne (ne_of_none e nx), upd_ne (ne_of_none e ndx)]; exact e
  generalize upd (upd H dx (.own x)) x (.ins (He.ga K "Ratio") dx []) = H1 at *
  simp only [tSeq, tIfS, tTest, tOp, tVar, tC, tCB, tCons, tNil, tRet, tAsg, gName, tNext, tDrop, rI, rI0, rEq, rNe, sc_ii, sc_ss, sc_bb, sc_in, sc_ni, sc_nn, sc_si, sc_is, List.getElem?_cons_zero, List.getElem?_cons_succ, List.set_cons_zero, List.set_cons_succ, Option.some.injEq, exists_eq_left', exists_eq_left, L2.start, cxOf, List.cons.injEq, and_true, exists_and_left, exists_and_right, exists_eq', V.int.injEq, V.bl.injEq, V.str.injEq, V.ref.injEq, List.length_cons, List.length_nil, List.cons_append, List.nil_append, true_and, List.map, List.replicate, tAndV, tOrV, tNotV, tTest, tB, tNot, tAnd, tOr, Nat.zero_add, Nat.reduceAdd, Nat.reduceSub, Nat.sub_self, sFld, tFld, tPar, tMake, tCall, tMeth, tTup, tLst, HO.ins.injEq, and_assoc, reduceCtorEq, false_and, exists_false, false_or, or_false, tFmt, tJs, tBreak, tCont, tMakeS, tCallS, Int.zero_add, if_true, if_false, Bool.false_eq_true, Bool.not_true, Bool.not_false, tUn, rU]
  refine ⟨by decide, fun p hp => ?_⟩
  have hE := excB_ok (T.fx 2)
  refine ⟨_, p, _, _, false, rfl, rfl, hE, rfl, upd_same, own_all ["BadCall", "BadPaper", "BadPlayer", "BadStep", "BadText", "TooLarge"], isAnyB_ok (T.fx 3), false, rfl, iteF ?_⟩
  refine ⟨_, _, _, true, rfl, rfl, hE, rfl, .own _, kit_self, true, rfl, iteT ?_⟩
  refine ⟨_, _, _, true, rfl, rfl, hE, rfl, .ty _, isTyB_ok (T.fx 4), ?_⟩
  exact hQ _ (fun b o e => by rw [upd_ne (ne_of_none (sm b o e) hp)]; exact sm b o e)
theorem CMulW_of {x y : Int} (hx : x.natAbs < 2 ^ 100) (hy : y.natAbs < 2 ^ 100) : CMulW x y := Lt2.cmul (a := 100) (b := 100) hx hy (by decide)
def spLaw (K : PySem.W.Frag) : Sp := fun vs H Q _ => ∃ (a : Addr) (ns : List Int), vs = [.ref a] ∧ SqL K H a (ns.map V.int) ∧ ns.length ≤ 63 ∧ ∀ H', Q (.bl true) H'
theorem law_body (T : Tk K mg) : BodyLaw P w K mg base N_law "law" s_law (He.ga K "law") 4 (spLaw K) := by
  intro cdv A outer s H vs Q E h hr hpo tk px
  obtain ⟨a, ns, rfl, hS, hlen, hQ⟩ := h
  refine ⟨_, (pss_cons (ps_for hpo rfl (pi_range1 rfl (T.free 8) (pa_cons (pe_op op_fdiv (pe_op op_add (pe_callB call_len_seq (by rfl) (T.free 0) (by decide +kernel) (pa_cons (pv 0) pa_nil)) pe_int) pe_int) pa_nil)) (pg_name (i := 1) sc_law.nd rfl (Or.inl rfl)) (pss_cons (ps_set (i := 2) sc_law.nd rfl (Or.inl rfl) (pe_op op_sub (pe_op op_mod (pe_callTy call_int1 (by rfl) (T.free 3) (by decide +kernel) (pa_cons (pf (ok_l_cell T a ns) (hr.mono (by decide)) (by rfl) px (pa_cons (pv 0) (pa_cons (pe_op op_mulW pe_int (pv 1)) pa_nil))) pa_nil)) (pe_op op_mulW pe_int (pe_op op_pow pe_int pe_int))) (pe_op op_pow pe_int pe_int)))
   (pss_cons (ps_set (i := 3) sc_law.nd rfl (Or.inl rfl) (pe_op op_sub (pe_op op_mod (pe_callTy call_int1 (by rfl) (T.free 3) (by decide +kernel) (pa_cons (pf (ok_l_cell T a ns) (hr.mono (by decide)) (by rfl) px (pa_cons (pv 0) (pa_cons (pe_op op_add (pe_op op_mulW pe_int (pv 1)) pe_int) pa_nil))) pa_nil)) (pe_op op_mulW pe_int (pe_op op_pow pe_int pe_int))) (pe_op op_pow pe_int pe_int)))
   (pss_cons (ps_set (i := 4) sc_law.nd rfl (Or.inl rfl) (pe_op op_add pe_int (pe_op op_mod (pe_op op_fdiv (pe_callTy call_int1 (by rfl) (T.free 3) (by decide +kernel) (pa_cons (pf (ok_l_cell T a ns) (hr.mono (by decide)) (by rfl) px (pa_cons (pv 0) (pa_cons (pe_op op_mulW pe_int (pv 1)) pa_nil))) pa_nil)) pe_int) (pe_ix ix_tup (pe_tup (pa_cons pe_int (pa_cons pe_int (pa_cons pe_int (pa_cons pe_int (pa_cons pe_int (pa_cons pe_int pa_nil))))))) (pe_op op_mod (pv 1) pe_int) (fun _ _ => rfl)))))
   (pss_cons (ps_set (i := 5) sc_law.nd rfl (Or.inl rfl) (pe_op op_add pe_int (pe_op op_mod (pe_op op_fdiv (pe_callTy call_int1 (by rfl) (T.free 3) (by decide +kernel) (pa_cons (pf (ok_l_cell T a ns) (hr.mono (by decide)) (by rfl) px (pa_cons (pv 0) (pa_cons (pe_op op_add (pe_op op_mulW pe_int (pv 1)) pe_int) pa_nil))) pa_nil)) pe_int) (pe_ix ix_tup (pe_tup (pa_cons pe_int (pa_cons pe_int (pa_cons pe_int (pa_cons pe_int (pa_cons pe_int (pa_cons pe_int pa_nil))))))) (pe_op op_mod (pv 1) pe_int) (fun _ _ => rfl)))))
   (pss_cons (ps_set (i := 6) sc_law.nd rfl (Or.inl rfl) (pmk (mk_Ratio_2 T) (hr.mono (by decide)) (by rfl) px (pa_cons (pv 2) (pa_cons (pv 4) pa_nil))))
   (pss_cons (ps_set (i := 7) sc_law.nd rfl (Or.inl rfl) (pmk (mk_Ratio_2 T) (hr.mono (by decide)) (by rfl) px (pa_cons (pv 3) (pa_cons (pv 5) pa_nil))))
   (pss_cons (ps_if (PW.pt (pw_or (pt_not (pt_val (pf (ok_l_is T) (hr.mono (by decide)) (by rfl) px (pa_cons (pv 6) (pa_cons (pv 2) (pa_cons (pv 4) pa_nil)))))) (pw_or1 (pt_not (pt_val (pf (ok_l_is T) (hr.mono (by decide)) (by rfl) px (pa_cons (pe_op (op_own (T.fx 0) (ok_Ratio_add T) (hr.mono (by decide)) px) (pv 6) (pv 7)) (pa_cons (pe_op op_add (pe_op op_mulW (pv 2) (pv 5)) (pe_op op_mulW (pv 3) (pv 4))) (pa_cons (pe_op op_mulW (pv 4) (pv 5)) pa_nil))))))))) (pss_one (ps_ret pe_bl)) pss_nil)
   (pss_cons (ps_if (PW.pt (pw_or (pt_not (pt_val (pf (ok_l_is T) (hr.mono (by decide)) (by rfl) px (pa_cons (pe_op (op_own (T.fx 0) (ok_Ratio_sub T) (hr.mono (by decide)) px) (pv 6) (pv 7)) (pa_cons (pe_op op_sub (pe_op op_mulW (pv 2) (pv 5)) (pe_op op_mulW (pv 3) (pv 4))) (pa_cons (pe_op op_mulW (pv 4) (pv 5)) pa_nil)))))) (pw_or1 (pt_not (pt_val (pf (ok_l_is T) (hr.mono (by decide)) (by rfl) px (pa_cons (pe_op (op_own (T.fx 0) (ok_Ratio_mul T) (hr.mono (by decide)) px) (pv 6) (pv 7)) (pa_cons (pe_op op_mulW (pv 2) (pv 3)) (pa_cons (pe_op op_mulW (pv 4) (pv 5)) pa_nil))))))))) (pss_one (ps_ret pe_bl)) pss_nil)
   (pss_cons (ps_set (i := 8) sc_law.nd rfl (Or.inl rfl) (pm (ok_Ratio_below T) (hr.mono (by decide)) px (pv 6) (pa_cons (pv 7) pa_nil)))
   (pss_cons (ps_if (PW.pt (pw_or (pt_not (pt_val (pe_callB call_isi (by rfl) (T.free 2) (by decide +kernel) (pa_cons (pv 8) (pa_cons (pe_bltn (v := .ty "bool") (by rfl) (T.free 1) (by decide +kernel) rfl) pa_nil))))) (pw_or (pt_cmpR op_ne (pv 8) (pe_cmpR op_lt (pe_op op_mulW (pv 2) (pv 5)) (pe_op op_mulW (pv 3) (pv 4)) (nomark _)) (nomark _)) (pw_or1 (pt_cmpR op_ne (pe_cmpR (op_eqOwn (ok_Ratio_eq T) (hr.mono (by decide)) px) (pv 6) (pv 7) (nomark _)) (pe_cmpR op_eq (pe_op op_mulW (pv 2) (pv 5)) (pe_op op_mulW (pv 3) (pv 4)) (nomark _)) (nomark _)))))) (pss_one (ps_ret pe_bl)) pss_nil)
   (pss_one (ps_if (PW.pt (pw_or (pt_not (pt_val (pf (ok_l_refused T) (hr.mono (by decide)) (by rfl) px (pa_cons (pv 2) (pa_cons pe_int pa_nil))))) (pw_or1 (pt_not (pt_val (pf (ok_l_refused T) (hr.mono (by decide)) (by rfl) px (pa_cons (pv 2) (pa_cons (pe_un un_neg (pv 4)) pa_nil)))))))) (pss_one (ps_ret pe_bl)) pss_nil)))))))))))))
  (pss_one (ps_ret (pf (ok_l_is T) (hr.mono (by decide)) (by rfl) px (pa_cons (pmk (mk_Ratio_1 T) (hr.mono (by decide)) (by rfl) px (pa_cons pe_int pa_nil)) (pa_cons pe_int (pa_cons pe_int pa_nil))))))), ?_⟩
  clear hr hpo tk px
  simp only [tSeq, tIfS, tTest, tOp, tVar, tC, tCB, tCons, tNil, tRet, tAsg, gName, tNext, tDrop, rI, rI0, rEq, rNe, sc_ii, sc_ss, sc_bb, sc_in, sc_ni, sc_nn, sc_si, sc_is, List.getElem?_cons_zero, List.getElem?_cons_succ, List.set_cons_zero, List.set_cons_succ, Option.some.injEq, exists_eq_left', exists_eq_left, L2.start, cxOf, List.cons.injEq, and_true, exists_and_left, exists_and_right, exists_eq', V.int.injEq, V.bl.injEq, V.str.injEq, V.ref.injEq, List.length_cons, List.length_nil, List.cons_append, List.nil_append, true_and, List.map, List.replicate, tAndV, tOrV, tNotV, tTest, tB, tNot, tAnd, tOr, Nat.zero_add, Nat.reduceAdd, Nat.reduceSub, Nat.sub_self, sFld, tFld, tPar, tMake, tCall, tMeth, tTup, tLst, HO.ins.injEq, and_assoc, reduceCtorEq, false_and, exists_false, false_or, or_false, tFmt, tJs, tBreak, tCont, tMakeS, tCallS, Int.zero_add, if_true, if_false, Bool.false_eq_true, Bool.not_true, Bool.not_false, tUn, rU]
  refine for_r1 ((ns.length + 1) / 2) (by omega) (fun R hR => ?_) (fun i σ H' => ∃ v1 v2 v3 v4 v5 v6 v7 v8, σ = [some (.ref a), v1, v2, v3, v4, v5, v6, v7, v8] ∧ Same H H') ?_ ?_ ?_
  · simp only [tSeq, tIfS, tTest, tOp, tVar, tC, tCB, tCons, tNil, tRet, tAsg, gName, tNext, tDrop, rI, rI0, rEq, rNe, sc_ii, sc_ss, sc_bb, sc_in, sc_ni, sc_nn, sc_si, sc_is, List.getElem?_cons_zero, List.getElem?_cons_succ, List.set_cons_zero, List.set_cons_succ, Option.some.injEq, exists_eq_left', exists_eq_left, L2.start, cxOf, List.cons.injEq, and_true, exists_and_left, exists_and_right, exists_eq', V.int.injEq, V.bl.injEq, V.str.injEq, V.ref.injEq, List.length_cons, List.length_nil, List.cons_append, List.nil_append, true_and, List.map, List.replicate, tAndV, tOrV, tNotV, tTest, tB, tNot, tAnd, tOr, Nat.zero_add, Nat.reduceAdd, Nat.reduceSub, Nat.sub_self, sFld, tFld, tPar, tMake, tCall, tMeth, tTup, tLst, HO.ins.injEq, and_assoc, reduceCtorEq, false_and, exists_false, false_or, or_false, tFmt, tJs, tBreak, tCont, tMakeS, tCallS, Int.zero_add, if_true, if_false, Bool.false_eq_true, Bool.not_true, Bool.not_false, tUn, rU]
    refine ⟨_, .inl hS, ⟨by decide, by decide⟩, ?_⟩
    rw [List.length_map]
    exact hR
  · exact ⟨_, _, _, _, _, _, _, _, rfl, Same.refl _⟩
  · rintro i σ H' hi ⟨v1, v2, v3, v4, v5, v6, v7, v8, rfl, sm⟩
    have hS' := sm.seq hS
    have i0 : 0 ≤ (2 : Int) * (i : Int) := by omega
    have i1 : 0 ≤ (2 : Int) * (i : Int) + 1 := by omega
    have m2 : CMulW 2 (i : Int) := CMulW_of (by decide) (by omega)
    have c9 : CPow 10 9 := ⟨by decide, by decide, by decide⟩
    have m9 : CMulW 2 (10 ^ Int.toNat 9) := CMulW_of (by decide) (by decide)
    have p9 : (0 : Int) < 2 * 10 ^ Int.toNat 9 := by decide
    have d7 : ∀ z, CDiv z 7 := fun z => ⟨by decide, by decide⟩
    have l6 : 6 ≤ sizeLine := by decide
    have z6 : (0 : Int) < 6 := by decide
    simp only [gName]
    simp only [tSeq]
    simp only [tIfS, tTest, tOp, tVar, tC, tCB, tCons, tNil, tRet, tAsg, gName, tNext, tDrop, rI, rI0, rEq, rNe, sc_ii, sc_ss, sc_bb, sc_in, sc_ni, sc_nn, sc_si, sc_is, List.getElem?_cons_zero, List.getElem?_cons_succ, List.set_cons_zero, List.set_cons_succ, Option.some.injEq, exists_eq_left', exists_eq_left, L2.start, cxOf, List.cons.injEq, and_true, exists_and_left, exists_and_right, exists_eq', V.int.injEq, V.bl.injEq, V.str.injEq, V.ref.injEq, List.length_cons, List.length_nil, List.cons_append, List.nil_append, true_and, List.map, List.replicate, tAndV, tOrV, tNotV, tTest, tB, tNot, tAnd, tOr, Nat.zero_add, Nat.reduceAdd, Nat.reduceSub, Nat.sub_self, sFld, tFld, tPar, tMake, tCall, tMeth, tTup, tLst, HO.ins.injEq, and_assoc, reduceCtorEq, false_and, exists_false, false_or, or_false, tFmt, tJs, tBreak, tCont, tMakeS, tCallS, Int.zero_add, if_true, if_false, Bool.false_eq_true, Bool.not_true, Bool.not_false, tUn, rU, spCell, hS', i0, m2, c9, m9, p9]
    generalize ha1 : ns.getD (2 * (i : Int)).toNat 0 % (2 * 10 ^ Int.toNat 9) - 10 ^ Int.toNat 9 = va
    simp only [tSeq]
    simp only [tIfS, tTest, tOp, tVar, tC, tCB, tCons, tNil, tRet, tAsg, gName, tNext, tDrop, rI, rI0, rEq, rNe, sc_ii, sc_ss, sc_bb, sc_in, sc_ni, sc_nn, sc_si, sc_is, List.getElem?_cons_zero, List.getElem?_cons_succ, List.set_cons_zero, List.set_cons_succ, Option.some.injEq, exists_eq_left', exists_eq_left, L2.start, cxOf, List.cons.injEq, and_true, exists_and_left, exists_and_right, exists_eq', V.int.injEq, V.bl.injEq, V.str.injEq, V.ref.injEq, List.length_cons, List.length_nil, List.cons_append, List.nil_append, true_and, List.map, List.replicate, tAndV, tOrV, tNotV, tTest, tB, tNot, tAnd, tOr, Nat.zero_add, Nat.reduceAdd, Nat.reduceSub, Nat.sub_self, sFld, tFld, tPar, tMake, tCall, tMeth, tTup, tLst, HO.ins.injEq, and_assoc, reduceCtorEq, false_and, exists_false, false_or, or_false, tFmt, tJs, tBreak, tCont, tMakeS, tCallS, Int.zero_add, if_true, if_false, Bool.false_eq_true, Bool.not_true, Bool.not_false, tUn, rU, spCell, hS', i1, m2, c9, m9, p9]
    generalize hc1 : ns.getD (2 * (i : Int) + 1).toNat 0 % (2 * 10 ^ Int.toNat 9) - 10 ^ Int.toNat 9 = vc
    simp only [tSeq]
    simp only [tIfS, tTest, tOp, tVar, tC, tCB, tCons, tNil, tRet, tAsg, gName, tNext, tDrop, rI, rI0, rEq, rNe, sc_ii, sc_ss, sc_bb, sc_in, sc_ni, sc_nn, sc_si, sc_is, List.getElem?_cons_zero, List.getElem?_cons_succ, List.set_cons_zero, List.set_cons_succ, Option.some.injEq, exists_eq_left', exists_eq_left, L2.start, cxOf, List.cons.injEq, and_true, exists_and_left, exists_and_right, exists_eq', V.int.injEq, V.bl.injEq, V.str.injEq, V.ref.injEq, List.length_cons, List.length_nil, List.cons_append, List.nil_append, true_and, List.map, List.replicate, tAndV, tOrV, tNotV, tTest, tB, tNot, tAnd, tOr, Nat.zero_add, Nat.reduceAdd, Nat.reduceSub, Nat.sub_self, sFld, tFld, tPar, tMake, tCall, tMeth, tTup, tLst, HO.ins.injEq, and_assoc, reduceCtorEq, false_and, exists_false, false_or, or_false, tFmt, tJs, tBreak, tCont, tMakeS, tCallS, Int.zero_add, if_true, if_false, Bool.false_eq_true, Bool.not_true, Bool.not_false, tUn, rU, spCell, hS', i0, m2, d7, l6, z6]
    intro p1 np1
    refine menu_new np1 (Int.emod_nonneg _ (by decide)) (Int.emod_lt_of_pos _ (by decide)) (fun v hv H1 sq => ?_)
    have sm1 := sm.trans sq
    obtain ⟨x1, rfl, x1a, x1b⟩ : ∃ x, v = V.int x ∧ 0 < x ∧ x ≤ 1000000 := by
      simp only [List.mem_cons, List.not_mem_nil, or_false] at hv
      rcases hv with h | h | h | h | h | h <;> subst h <;> exact ⟨_, rfl, by decide, by decide⟩
    refine ⟨x1, rfl, x1a, ?_⟩
    have e1 := Int.emod_nonneg (ns.getD (2 * (i : Int)).toNat 0 / 7) (show x1 ≠ 0 by omega)
    have e2 := Int.emod_lt_of_pos (ns.getD (2 * (i : Int)).toNat 0 / 7) x1a
    generalize hb1 : ns.getD (2 * (i : Int)).toNat 0 / 7 % x1 = w1 at *
    have b0 : 0 < 1 + w1 := by omega
    have b9 : 1 + w1 ≤ 1000000 := by omega
    generalize 1 + w1 = vb at *
    clear hb1 e1 e2 x1a x1b
    have hS1 := sm1.seq hS
    simp only [tSeq]
    simp only [tIfS, tTest, tOp, tVar, tC, tCB, tCons, tNil, tRet, tAsg, gName, tNext, tDrop, rI, rI0, rEq, rNe, sc_ii, sc_ss, sc_bb, sc_in, sc_ni, sc_nn, sc_si, sc_is, List.getElem?_cons_zero, List.getElem?_cons_succ, List.set_cons_zero, List.set_cons_succ, Option.some.injEq, exists_eq_left', exists_eq_left, L2.start, cxOf, List.cons.injEq, and_true, exists_and_left, exists_and_right, exists_eq', V.int.injEq, V.bl.injEq, V.str.injEq, V.ref.injEq, List.length_cons, List.length_nil, List.cons_append, List.nil_append, true_and, List.map, List.replicate, tAndV, tOrV, tNotV, tTest, tB, tNot, tAnd, tOr, Nat.zero_add, Nat.reduceAdd, Nat.reduceSub, Nat.sub_self, sFld, tFld, tPar, tMake, tCall, tMeth, tTup, tLst, HO.ins.injEq, and_assoc, reduceCtorEq, false_and, exists_false, false_or, or_false, tFmt, tJs, tBreak, tCont, tMakeS, tCallS, Int.zero_add, if_true, if_false, Bool.false_eq_true, Bool.not_true, Bool.not_false, tUn, rU, spCell, hS1, i1, m2, d7, l6, z6]
    intro p2 np2
    refine menu_new np2 (Int.emod_nonneg _ (by decide)) (Int.emod_lt_of_pos _ (by decide)) (fun v hv H2 sq => ?_)
    have sm2 := sm1.trans sq
    obtain ⟨x2, rfl, x2a, x2b⟩ : ∃ x, v = V.int x ∧ 0 < x ∧ x ≤ 1000000 := by
      simp only [List.mem_cons, List.not_mem_nil, or_false] at hv
      rcases hv with h | h | h | h | h | h <;> subst h <;> exact ⟨_, rfl, by decide, by decide⟩
    refine ⟨x2, rfl, x2a, ?_⟩
    have e1 := Int.emod_nonneg (ns.getD (2 * (i : Int) + 1).toNat 0 / 7) (show x2 ≠ 0 by omega)
    have e2 := Int.emod_lt_of_pos (ns.getD (2 * (i : Int) + 1).toNat 0 / 7) x2a
    generalize hb1 : ns.getD (2 * (i : Int) + 1).toNat 0 / 7 % x2 = w2 at *
    have d0 : 0 < 1 + w2 := by omega
    have d9 : 1 + w2 ≤ 1000000 := by omega
    generalize 1 + w2 = vd at *
    clear hb1 e1 e2 x2a x2b
    have a9 : va.natAbs ≤ 1000000000 := by
      have q0 := Int.emod_nonneg (ns.getD (2 * (i : Int)).toNat 0) (show (2 * 10 ^ Int.toNat 9 : Int) ≠ 0 by decide)
      have q1 := Int.emod_lt_of_pos (ns.getD (2 * (i : Int)).toNat 0) (show (0 : Int) < 2 * 10 ^ Int.toNat 9 by decide)
      have z : (10 : Int) ^ Int.toNat 9 = 1000000000 := by decide
      rw [z] at q0 q1 ha1 hc1
      omega
    have c9 : vc.natAbs ≤ 1000000000 := by
      have q0 := Int.emod_nonneg (ns.getD (2 * (i : Int) + 1).toNat 0) (show (2 * 10 ^ Int.toNat 9 : Int) ≠ 0 by decide)
      have q1 := Int.emod_lt_of_pos (ns.getD (2 * (i : Int) + 1).toNat 0) (show (0 : Int) < 2 * 10 ^ Int.toNat 9 by decide)
      have z : (10 : Int) ^ Int.toNat 9 = 1000000000 := by decide
      rw [z] at q0 q1 ha1 hc1
      omega
    clear hc1 ha1 hS1 hS' sm sm1 np1 np2
    have la : Lt2 va 60 := Nat.lt_of_le_of_lt a9 (by decide)
    have lc : Lt2 vc 60 := Nat.lt_of_le_of_lt c9 (by decide)
    have lb : Lt2 vb 60 := Nat.lt_of_le_of_lt (show vb.natAbs ≤ 1000000 by omega) (by decide)
    have ld : Lt2 vd 60 := Nat.lt_of_le_of_lt (show vd.natAbs ≤ 1000000 by omega) (by decide)
    have k1 : CMulW va vd := la.cmul ld (by decide)
    have k2 : CMulW vc vb := lc.cmul lb (by decide)
    have k3 : CMulW vb vd := lb.cmul ld (by decide)
    have k4 : CMulW va vc := la.cmul lc (by decide)
    simp only [tSeq]
    simp only [tIfS, tTest, tOp, tVar, tC, tCB, tCons, tNil, tRet, tAsg, gName, tNext, tDrop, rI, rI0, rEq, rNe, sc_ii, sc_ss, sc_bb, sc_in, sc_ni, sc_nn, sc_si, sc_is, List.getElem?_cons_zero, List.getElem?_cons_succ, List.set_cons_zero, List.set_cons_succ, Option.some.injEq, exists_eq_left', exists_eq_left, L2.start, cxOf, List.cons.injEq, and_true, exists_and_left, exists_and_right, exists_eq', V.int.injEq, V.bl.injEq, V.str.injEq, V.ref.injEq, List.length_cons, List.length_nil, List.cons_append, List.nil_append, true_and, List.map, List.replicate, tAndV, tOrV, tNotV, tTest, tB, tNot, tAnd, tOr, Nat.zero_add, Nat.reduceAdd, Nat.reduceSub, Nat.sub_self, sFld, tFld, tPar, tMake, tCall, tMeth, tTup, tLst, HO.ins.injEq, and_assoc, reduceCtorEq, false_and, exists_false, false_or, or_false, tFmt, tJs, tBreak, tCont, tMakeS, tCallS, Int.zero_add, if_true, if_false, Bool.false_eq_true, Bool.not_true, Bool.not_false, tUn, rU]
    refine made_ratio b0 (lb.mono (by decide)) (fun o1 H3 s3 no1 r1 => ?_)
    simp only [tSeq]
    simp only [tIfS, tTest, tOp, tVar, tC, tCB, tCons, tNil, tRet, tAsg, gName, tNext, tDrop, rI, rI0, rEq, rNe, sc_ii, sc_ss, sc_bb, sc_in, sc_ni, sc_nn, sc_si, sc_is, List.getElem?_cons_zero, List.getElem?_cons_succ, List.set_cons_zero, List.set_cons_succ, Option.some.injEq, exists_eq_left', exists_eq_left, L2.start, cxOf, List.cons.injEq, and_true, exists_and_left, exists_and_right, exists_eq', V.int.injEq, V.bl.injEq, V.str.injEq, V.ref.injEq, List.length_cons, List.length_nil, List.cons_append, List.nil_append, true_and, List.map, List.replicate, tAndV, tOrV, tNotV, tTest, tB, tNot, tAnd, tOr, Nat.zero_add, Nat.reduceAdd, Nat.reduceSub, Nat.sub_self, sFld, tFld, tPar, tMake, tCall, tMeth, tTup, tLst, HO.ins.injEq, and_assoc, reduceCtorEq, false_and, exists_false, false_or, or_false, tFmt, tJs, tBreak, tCont, tMakeS, tCallS, Int.zero_add, if_true, if_false, Bool.false_eq_true, Bool.not_true, Bool.not_false, tUn, rU]
    refine made_ratio d0 (ld.mono (by decide)) (fun o2 H4 s4 no2 r2 => ?_)
    have r1' : RatAt K H4 o1 (red va vb) := r1.imp fun dx h => s4 _ _ h
    have t1 := la.num b0; have t2 := lc.num d0; have t3 := lb.den (n := va) b0; have t4 := ld.den (n := vc) d0
    have u1 := red_den_pos (n := va) b0; have u2 := red_den_pos (n := vc) d0
    have wa : Wr va := Nat.lt_of_le_of_lt a9 (by decide)
    have wb : Wr vb := Nat.lt_of_le_of_lt (show vb.natAbs ≤ 1000000 by omega) (by decide)
    have vbd : 0 < vb * vd := Int.mul_pos b0 d0
    have wbd : Wr (vb * vd) := Nat.lt_of_lt_of_le (lb.mul ld) (by decide)
    have sm4 := (sm2.trans s3).trans s4
    clear s3 s4 no1 no2 r1 sm2
    simp only [tSeq]
    simp only [tIfS, tTest, tOp, tVar, tC, tCB, tCons, tNil, tRet, tAsg, gName, tNext, tDrop, rI, rI0, rEq, rNe, sc_ii, sc_ss, sc_bb, sc_in, sc_ni, sc_nn, sc_si, sc_is, List.getElem?_cons_zero, List.getElem?_cons_succ, List.set_cons_zero, List.set_cons_succ, Option.some.injEq, exists_eq_left', exists_eq_left, L2.start, cxOf, List.cons.injEq, and_true, exists_and_left, exists_and_right, exists_eq', V.int.injEq, V.bl.injEq, V.str.injEq, V.ref.injEq, List.length_cons, List.length_nil, List.cons_append, List.nil_append, true_and, List.map, List.replicate, tAndV, tOrV, tNotV, tTest, tB, tNot, tAnd, tOr, Nat.zero_add, Nat.reduceAdd, Nat.reduceSub, Nat.sub_self, sFld, tFld, tPar, tMake, tCall, tMeth, tTup, tLst, HO.ins.injEq, and_assoc, reduceCtorEq, false_and, exists_false, false_or, or_false, tFmt, tJs, tBreak, tCont, tMakeS, tCallS, Int.zero_add, if_true, if_false, Bool.false_eq_true, Bool.not_true, Bool.not_false, tUn, rU, k1, k2, k3]
    refine ⟨o1, va, vb, rfl, r1', b0, wa, wb, fun H5 s5 => ⟨true, rfl, ?_⟩⟩
    obtain ⟨x1, r1⟩ := r1'
    obtain ⟨x2, r2⟩ := r2
    have sm5 := sm4.trans s5
    have h1 := s5 _ _ r1; have h2 := s5 _ _ r2
    have wad : Wr (va * vd + vc * vb) := Nat.lt_of_lt_of_le ((la.mul ld).add (lc.mul lb)) (by decide)
    have wsd : Wr (va * vd - vc * vb) := Nat.lt_of_lt_of_le ((la.mul ld).sub (lc.mul lb)) (by decide)
    have wac : Wr (va * vc) := Nat.lt_of_lt_of_le (la.mul lc) (by decide)
    have q1 := t1.mono (show 60 ≤ 200 by decide); have q2 := t2.mono (show 60 ≤ 200 by decide); have q3 := t3.mono (show 60 ≤ 200 by decide); have q4 := t4.mono (show 60 ≤ 200 by decide)
    simp only [tIfS, tTest, tOp, tVar, tC, tCB, tCons, tNil, tRet, tAsg, gName, tNext, tDrop, rI, rI0, rEq, rNe, sc_ii, sc_ss, sc_bb, sc_in, sc_ni, sc_nn, sc_si, sc_is, List.getElem?_cons_zero, List.getElem?_cons_succ, List.set_cons_zero, List.set_cons_succ, Option.some.injEq, exists_eq_left', exists_eq_left, L2.start, cxOf, List.cons.injEq, and_true, exists_and_left, exists_and_right, exists_eq', V.int.injEq, V.bl.injEq, V.str.injEq, V.ref.injEq, List.length_cons, List.length_nil, List.cons_append, List.nil_append, true_and, List.map, List.replicate, tAndV, tOrV, tNotV, tTest, tB, tNot, tAnd, tOr, Nat.zero_add, Nat.reduceAdd, Nat.reduceSub, Nat.sub_self, sFld, tFld, tPar, tMake, tCall, tMeth, tTup, tLst, HO.ins.injEq, and_assoc, reduceCtorEq, false_and, exists_false, false_or, or_false, tFmt, tJs, tBreak, tCont, tMakeS, tCallS, Int.zero_add, if_true, if_false, Bool.false_eq_true, Bool.not_true, Bool.not_false, tUn, rU, k1, k2, k3]
    refine rOwn_at h1 h2 ⟨o1, o2, _, _, rfl, ⟨_, h1⟩, ⟨_, h2⟩, q1, q2, u1, u2, q3, q4, fun c H6 s6 nc rc => ?_⟩
    rw [red_add b0 d0] at rc
    refine ⟨c, _, _, rfl, rc, vbd, wad, wbd, fun H7 s7 => ⟨true, rfl, ?_⟩⟩
    have sm7 := (sm5.trans s6).trans s7
    have h1 := s7 _ _ (s6 _ _ h1); have h2 := s7 _ _ (s6 _ _ h2)
    clear s6 nc rc s7 sm5 r1 r2 s5
    simp only [tIfS, tTest, tOp, tVar, tC, tCB, tCons, tNil, tRet, tAsg, gName, tNext, tDrop, rI, rI0, rEq, rNe, sc_ii, sc_ss, sc_bb, sc_in, sc_ni, sc_nn, sc_si, sc_is, List.getElem?_cons_zero, List.getElem?_cons_succ, List.set_cons_zero, List.set_cons_succ, Option.some.injEq, exists_eq_left', exists_eq_left, L2.start, cxOf, List.cons.injEq, and_true, exists_and_left, exists_and_right, exists_eq', V.int.injEq, V.bl.injEq, V.str.injEq, V.ref.injEq, List.length_cons, List.length_nil, List.cons_append, List.nil_append, true_and, List.map, List.replicate, tAndV, tOrV, tNotV, tTest, tB, tNot, tAnd, tOr, Nat.zero_add, Nat.reduceAdd, Nat.reduceSub, Nat.sub_self, sFld, tFld, tPar, tMake, tCall, tMeth, tTup, tLst, HO.ins.injEq, and_assoc, reduceCtorEq, false_and, exists_false, false_or, or_false, tFmt, tJs, tBreak, tCont, tMakeS, tCallS, Int.zero_add, if_true, if_false, Bool.false_eq_true, Bool.not_true, Bool.not_false, tUn, rU]
    simp only [tSeq]
    simp only [tIfS, tTest, tOp, tVar, tC, tCB, tCons, tNil, tRet, tAsg, gName, tNext, tDrop, rI, rI0, rEq, rNe, sc_ii, sc_ss, sc_bb, sc_in, sc_ni, sc_nn, sc_si, sc_is, List.getElem?_cons_zero, List.getElem?_cons_succ, List.set_cons_zero, List.set_cons_succ, Option.some.injEq, exists_eq_left', exists_eq_left, L2.start, cxOf, List.cons.injEq, and_true, exists_and_left, exists_and_right, exists_eq', V.int.injEq, V.bl.injEq, V.str.injEq, V.ref.injEq, List.length_cons, List.length_nil, List.cons_append, List.nil_append, true_and, List.map, List.replicate, tAndV, tOrV, tNotV, tTest, tB, tNot, tAnd, tOr, Nat.zero_add, Nat.reduceAdd, Nat.reduceSub, Nat.sub_self, sFld, tFld, tPar, tMake, tCall, tMeth, tTup, tLst, HO.ins.injEq, and_assoc, reduceCtorEq, false_and, exists_false, false_or, or_false, tFmt, tJs, tBreak, tCont, tMakeS, tCallS, Int.zero_add, if_true, if_false, Bool.false_eq_true, Bool.not_true, Bool.not_false, tUn, rU, k1, k2, k3, k4]
    refine rOwn_at h1 h2 ⟨o1, o2, _, _, rfl, ⟨_, h1⟩, ⟨_, h2⟩, q1, q2, u1, u2, q3, q4, fun c H8 s8 nc rc => ?_⟩
    rw [red_sub b0 d0] at rc
    refine ⟨c, _, _, rfl, rc, vbd, wsd, wbd, fun H9 s9 => ⟨true, rfl, ?_⟩⟩
    have sm9 := (sm7.trans s8).trans s9
    have h1 := s9 _ _ (s8 _ _ h1); have h2 := s9 _ _ (s8 _ _ h2)
    clear s8 nc rc s9 sm7
    simp only [tIfS, tTest, tOp, tVar, tC, tCB, tCons, tNil, tRet, tAsg, gName, tNext, tDrop, rI, rI0, rEq, rNe, sc_ii, sc_ss, sc_bb, sc_in, sc_ni, sc_nn, sc_si, sc_is, List.getElem?_cons_zero, List.getElem?_cons_succ, List.set_cons_zero, List.set_cons_succ, Option.some.injEq, exists_eq_left', exists_eq_left, L2.start, cxOf, List.cons.injEq, and_true, exists_and_left, exists_and_right, exists_eq', V.int.injEq, V.bl.injEq, V.str.injEq, V.ref.injEq, List.length_cons, List.length_nil, List.cons_append, List.nil_append, true_and, List.map, List.replicate, tAndV, tOrV, tNotV, tTest, tB, tNot, tAnd, tOr, Nat.zero_add, Nat.reduceAdd, Nat.reduceSub, Nat.sub_self, sFld, tFld, tPar, tMake, tCall, tMeth, tTup, tLst, HO.ins.injEq, and_assoc, reduceCtorEq, false_and, exists_false, false_or, or_false, tFmt, tJs, tBreak, tCont, tMakeS, tCallS, Int.zero_add, if_true, if_false, Bool.false_eq_true, Bool.not_true, Bool.not_false, tUn, rU, k1, k2, k3, k4]
    refine rOwn_at h1 h2 ⟨o1, o2, _, _, rfl, ⟨_, h1⟩, ⟨_, h2⟩, q1, q2, u1, u2, q3, q4, fun c H8 s8 nc rc => ?_⟩
    rw [red_mul b0 d0] at rc
    refine ⟨c, _, _, rfl, rc, vbd, wac, wbd, fun H10 s10 => ⟨true, rfl, ?_⟩⟩
    have sm10 := (sm9.trans s8).trans s10
    have h1 := s10 _ _ (s8 _ _ h1); have h2 := s10 _ _ (s8 _ _ h2)
    clear s8 nc rc s10 sm9
    simp only [tIfS, tTest, tOp, tVar, tC, tCB, tCons, tNil, tRet, tAsg, gName, tNext, tDrop, rI, rI0, rEq, rNe, sc_ii, sc_ss, sc_bb, sc_in, sc_ni, sc_nn, sc_si, sc_is, List.getElem?_cons_zero, List.getElem?_cons_succ, List.set_cons_zero, List.set_cons_succ, Option.some.injEq, exists_eq_left', exists_eq_left, L2.start, cxOf, List.cons.injEq, and_true, exists_and_left, exists_and_right, exists_eq', V.int.injEq, V.bl.injEq, V.str.injEq, V.ref.injEq, List.length_cons, List.length_nil, List.cons_append, List.nil_append, true_and, List.map, List.replicate, tAndV, tOrV, tNotV, tTest, tB, tNot, tAnd, tOr, Nat.zero_add, Nat.reduceAdd, Nat.reduceSub, Nat.sub_self, sFld, tFld, tPar, tMake, tCall, tMeth, tTup, tLst, HO.ins.injEq, and_assoc, reduceCtorEq, false_and, exists_false, false_or, or_false, tFmt, tJs, tBreak, tCont, tMakeS, tCallS, Int.zero_add, if_true, if_false, Bool.false_eq_true, Bool.not_true, Bool.not_false, tUn, rU]
    simp only [tSeq]
    simp only [tIfS, tTest, tOp, tVar, tC, tCB, tCons, tNil, tRet, tAsg, gName, tNext, tDrop, rI, rI0, rEq, rNe, sc_ii, sc_ss, sc_bb, sc_in, sc_ni, sc_nn, sc_si, sc_is, List.getElem?_cons_zero, List.getElem?_cons_succ, List.set_cons_zero, List.set_cons_succ, Option.some.injEq, exists_eq_left', exists_eq_left, L2.start, cxOf, List.cons.injEq, and_true, exists_and_left, exists_and_right, exists_eq', V.int.injEq, V.bl.injEq, V.str.injEq, V.ref.injEq, List.length_cons, List.length_nil, List.cons_append, List.nil_append, true_and, List.map, List.replicate, tAndV, tOrV, tNotV, tTest, tB, tNot, tAnd, tOr, Nat.zero_add, Nat.reduceAdd, Nat.reduceSub, Nat.sub_self, sFld, tFld, tPar, tMake, tCall, tMeth, tTup, tLst, HO.ins.injEq, and_assoc, reduceCtorEq, false_and, exists_false, false_or, or_false, tFmt, tJs, tBreak, tCont, tMakeS, tCallS, Int.zero_add, if_true, if_false, Bool.false_eq_true, Bool.not_true, Bool.not_false, tUn, rU, k1, k2, k3, k4, h1]
    refine ⟨RatF_no _ (by decide +kernel) (by decide +kernel), o1, o2, _, _, rfl, ⟨_, h1⟩, ⟨_, h2⟩, q1, q2, q3, q4, ?_⟩
    have lt : decide ((red va vb).1 * (red vc vd).2 < (red vc vd).1 * (red va vb).2) = decide (va * vd < vc * vb) := decide_eq_decide.mpr (red_lt b0 d0)
    have eq : decide (red va vb = red vc vd) = decide (va * vd = vc * vb) := decide_eq_decide.mpr (red_iff b0 d0)
    rw [lt]
    simp only [tSeq]
    simp only [tIfS, tTest, tOp, tVar, tC, tCB, tCons, tNil, tRet, tAsg, gName, tNext, tDrop, rI, rI0, rEq, rNe, sc_ii, sc_ss, sc_bb, sc_in, sc_ni, sc_nn, sc_si, sc_is, List.getElem?_cons_zero, List.getElem?_cons_succ, List.set_cons_zero, List.set_cons_succ, Option.some.injEq, exists_eq_left', exists_eq_left, L2.start, cxOf, List.cons.injEq, and_true, exists_and_left, exists_and_right, exists_eq', V.int.injEq, V.bl.injEq, V.str.injEq, V.ref.injEq, List.length_cons, List.length_nil, List.cons_append, List.nil_append, true_and, List.map, List.replicate, tAndV, tOrV, tNotV, tTest, tB, tNot, tAnd, tOr, Nat.zero_add, Nat.reduceAdd, Nat.reduceSub, Nat.sub_self, sFld, tFld, tPar, tMake, tCall, tMeth, tTup, tLst, HO.ins.injEq, and_assoc, reduceCtorEq, false_and, exists_false, false_or, or_false, tFmt, tJs, tBreak, tCont, tMakeS, tCallS, Int.zero_add, if_true, if_false, Bool.false_eq_true, Bool.not_true, Bool.not_false, tUn, rU, k1, k2, k3, k4]
    refine isi_bl (b := true) (by decide +kernel) ⟨true, rfl, ?_⟩
    simp only [tIfS, tTest, tOp, tVar, tC, tCB, tCons, tNil, tRet, tAsg, gName, tNext, tDrop, rI, rI0, rEq, rNe, sc_ii, sc_ss, sc_bb, sc_in, sc_ni, sc_nn, sc_si, sc_is, List.getElem?_cons_zero, List.getElem?_cons_succ, List.set_cons_zero, List.set_cons_succ, Option.some.injEq, exists_eq_left', exists_eq_left, L2.start, cxOf, List.cons.injEq, and_true, exists_and_left, exists_and_right, exists_eq', V.int.injEq, V.bl.injEq, V.str.injEq, V.ref.injEq, List.length_cons, List.length_nil, List.cons_append, List.nil_append, true_and, List.map, List.replicate, tAndV, tOrV, tNotV, tTest, tB, tNot, tAnd, tOr, Nat.zero_add, Nat.reduceAdd, Nat.reduceSub, Nat.sub_self, sFld, tFld, tPar, tMake, tCall, tMeth, tTup, tLst, HO.ins.injEq, and_assoc, reduceCtorEq, false_and, exists_false, false_or, or_false, tFmt, tJs, tBreak, tCont, tMakeS, tCallS, Int.zero_add, if_true, if_false, Bool.false_eq_true, Bool.not_true, Bool.not_false, tUn, rU, k1, k2, k3, k4, decide_true]
    refine rOwn_at h1 h2 ⟨o1, o2, _, _, rfl, ⟨_, h1⟩, ⟨_, h2⟩, ?_⟩
    rw [eq]
    simp only [tIfS, tTest, tOp, tVar, tC, tCB, tCons, tNil, tRet, tAsg, gName, tNext, tDrop, rI, rI0, rEq, rNe, sc_ii, sc_ss, sc_bb, sc_in, sc_ni, sc_nn, sc_si, sc_is, List.getElem?_cons_zero, List.getElem?_cons_succ, List.set_cons_zero, List.set_cons_succ, Option.some.injEq, exists_eq_left', exists_eq_left, L2.start, cxOf, List.cons.injEq, and_true, exists_and_left, exists_and_right, exists_eq', V.int.injEq, V.bl.injEq, V.str.injEq, V.ref.injEq, List.length_cons, List.length_nil, List.cons_append, List.nil_append, true_and, List.map, List.replicate, tAndV, tOrV, tNotV, tTest, tB, tNot, tAnd, tOr, Nat.zero_add, Nat.reduceAdd, Nat.reduceSub, Nat.sub_self, sFld, tFld, tPar, tMake, tCall, tMeth, tTup, tLst, HO.ins.injEq, and_assoc, reduceCtorEq, false_and, exists_false, false_or, or_false, tFmt, tJs, tBreak, tCont, tMakeS, tCallS, Int.zero_add, if_true, if_false, Bool.false_eq_true, Bool.not_true, Bool.not_false, tUn, rU, k1, k2, k3, k4, decide_true]
    have z0 : Lt2 0 900 := show 0 < 2 ^ 900 from Nat.two_pow_pos 900
    refine ⟨va, 0, rfl, by decide, z0, fun H11 s11 => ⟨true, rfl, ?_⟩⟩
    simp only [tIfS, tTest, tOp, tVar, tC, tCB, tCons, tNil, tRet, tAsg, gName, tNext, tDrop, rI, rI0, rEq, rNe, sc_ii, sc_ss, sc_bb, sc_in, sc_ni, sc_nn, sc_si, sc_is, List.getElem?_cons_zero, List.getElem?_cons_succ, List.set_cons_zero, List.set_cons_succ, Option.some.injEq, exists_eq_left', exists_eq_left, L2.start, cxOf, List.cons.injEq, and_true, exists_and_left, exists_and_right, exists_eq', V.int.injEq, V.bl.injEq, V.str.injEq, V.ref.injEq, List.length_cons, List.length_nil, List.cons_append, List.nil_append, true_and, List.map, List.replicate, tAndV, tOrV, tNotV, tTest, tB, tNot, tAnd, tOr, Nat.zero_add, Nat.reduceAdd, Nat.reduceSub, Nat.sub_self, sFld, tFld, tPar, tMake, tCall, tMeth, tTup, tLst, HO.ins.injEq, and_assoc, reduceCtorEq, false_and, exists_false, false_or, or_false, tFmt, tJs, tBreak, tCont, tMakeS, tCallS, Int.zero_add, if_true, if_false, Bool.false_eq_true, Bool.not_true, Bool.not_false, tUn, rU]
    refine ⟨va, -vb, rfl, by omega, lb.neg.mono (by decide), fun H12 s12 => ⟨true, rfl, ?_⟩⟩
    simp only [tIfS, tTest, tOp, tVar, tC, tCB, tCons, tNil, tRet, tAsg, gName, tNext, tDrop, rI, rI0, rEq, rNe, sc_ii, sc_ss, sc_bb, sc_in, sc_ni, sc_nn, sc_si, sc_is, List.getElem?_cons_zero, List.getElem?_cons_succ, List.set_cons_zero, List.set_cons_succ, Option.some.injEq, exists_eq_left', exists_eq_left, L2.start, cxOf, List.cons.injEq, and_true, exists_and_left, exists_and_right, exists_eq', V.int.injEq, V.bl.injEq, V.str.injEq, V.ref.injEq, List.length_cons, List.length_nil, List.cons_append, List.nil_append, true_and, List.map, List.replicate, tAndV, tOrV, tNotV, tTest, tB, tNot, tAnd, tOr, Nat.zero_add, Nat.reduceAdd, Nat.reduceSub, Nat.sub_self, sFld, tFld, tPar, tMake, tCall, tMeth, tTup, tLst, HO.ins.injEq, and_assoc, reduceCtorEq, false_and, exists_false, false_or, or_false, tFmt, tJs, tBreak, tCont, tMakeS, tCallS, Int.zero_add, if_true, if_false, Bool.false_eq_true, Bool.not_true, Bool.not_false, tUn, rU]
    exact (sm10.trans s11).trans s12
  · rintro σ H' ⟨v1, v2, v3, v4, v5, v6, v7, v8, rfl, sm⟩
    simp only [tSeq, tIfS, tTest, tOp, tVar, tC, tCB, tCons, tNil, tRet, tAsg, gName, tNext, tDrop, rI, rI0, rEq, rNe, sc_ii, sc_ss, sc_bb, sc_in, sc_ni, sc_nn, sc_si, sc_is, List.getElem?_cons_zero, List.getElem?_cons_succ, List.set_cons_zero, List.set_cons_succ, Option.some.injEq, exists_eq_left', exists_eq_left, L2.start, cxOf, List.cons.injEq, and_true, exists_and_left, exists_and_right, exists_eq', V.int.injEq, V.bl.injEq, V.str.injEq, V.ref.injEq, List.length_cons, List.length_nil, List.cons_append, List.nil_append, true_and, List.map, List.replicate, tAndV, tOrV, tNotV, tTest, tB, tNot, tAnd, tOr, Nat.zero_add, Nat.reduceAdd, Nat.reduceSub, Nat.sub_self, sFld, tFld, tPar, tMake, tCall, tMeth, tTup, tLst, HO.ins.injEq, and_assoc, reduceCtorEq, false_and, exists_false, false_or, or_false, tFmt, tJs, tBreak, tCont, tMakeS, tCallS, Int.zero_add, if_true, if_false, Bool.false_eq_true, Bool.not_true, Bool.not_false, tUn, rU]
    have l1 : Lt2 1 900 := Lt2.mono (k := 1) (show (1 : Int).natAbs < 2 ^ 1 by decide) (by decide)
    refine made_ratio (by decide) l1 (fun o H3 s3 no r => ?_)
    exact ⟨o, 7, 1, rfl, r, by decide, by show (7 : Int).natAbs < 10 ^ 60; decide, by show (1 : Int).natAbs < 10 ^ 60; decide, fun H4 s4 => hQ H4⟩
end
/-! ### the head -/
abbrev R : PySem.W.OpenRow := PySem.W.OpenLaw.row PySem.Challenge.rw_tellsnone_k00_ratios
abbrev exf : PySem.W.Frag → Bool := fun K => exl.all fun f => f K
abbrev hk : PySem.W.Hook := He.hookX 5 fa fn [] [] exf
def ob (s : PySem.W.SharedT) : He.AlX := He.obsX 5 fa fn [] [] exf (HandSHeadRun.getT s)
theorem ob_eq (s : PySem.W.SharedT) : ob s = hk.obs s.abs := He.obsX_eq (HandSHeadRun.getT_eq s)
def names : List PySem.Str := ["PlayError", "BadText", "BadCall", "BadPlayer", "BadStep", "BadPaper", "BadBound", "TooLarge", "Ratio", "_law_cell", "_law_is_integer", "_law_row", "_law_less", "_law_plus", "_law_times", "_law_is", "_law_refused"]
theorem run (w : World) : HandSHeadRun.RunEq R (PySem.W.view R.prog [20]) hk ob 6000 names w := by
  intro os
  kernel_rfl
theorem law_facts {P : Program} {w : World} {K : PySem.W.Frag} {h : Heap} {mg : Str → Option Value} {f : Addr} (X : K.In h) (G : h.Ns mainGlobals mg) (hfa : mg ("law" : Str) = some (.ref f)) (c : He.SaysX fa fn [] [] exf w h K) :
    ∃ fd : FuncData, (∀ (s : Shared) (v : Value), BindsTo s fd ⟨[v], []⟩ [("_law_script", v)]) ∧ ∀ base : Heap, K.In base → base.Ns mainGlobals mg → FnOk P w K mg base CX0 5 f fd ["_law_script"] (spLaw K) := by
  have T : Tk K mg := ⟨c.t.d, ⟨h, X, G⟩, c.more⟩
  obtain ⟨fd, F⟩ := T.df 12
  have e := hfa.symm.trans (T.glo 32)
  cases e
  have b := FunD.bindsA (ps := ["_law_script"]) F fun _ _ _ _ _ _ us hl => match us, hl with | [_], _ => rfl
  exact ⟨fd, fun s v => b s [v] rfl, fun base _ _ => F.ok sc_law (fun vs H Q E h => by obtain ⟨a, ns, rfl, _⟩ := h; rfl) (law_body T).to⟩
end K00
open PySem PySem.W PySem.Calls PyProof.Rows
set_option maxRecDepth 100000 in
set_option maxHeartbeats 0 in
theorem PySem.Challenge.cw_tellsnone_k00_ratios_holds : PySem.Challenge.rw_tellsnone_k00_ratios.Holds := by
  w_on; o_law
  refine HandSHeadRun.head_any (r := OpenLaw.row PySem.Challenge.rw_tellsnone_k00_ratios) (q := view (OpenLaw.row PySem.Challenge.rw_tellsnone_k00_ratios).prog [20]) (H := K00.hk) (ob := K00.ob) (M := 6000) (loose := K00.names) (d := HandSHeadRun.topDef (OpenLaw.row PySem.Challenge.rw_tellsnone_k00_ratios).prog 20) (kwd := []) K00.ob_eq
    (by kernel_rfl) (fun s => by kernel_rfl) K00.run (by kernel_rfl) (by kernel_rfl) (by kernel_rfl) (by rfl) (by first | assumption | decide +kernel) (by decide +kernel) ⟨rfl, rfl, rfl, rfl, rfl, by decide +kernel⟩ ?hw ?hc
  case hw => w_witness2
  case hc =>
    refine L2.walk_ofE (l := PySem.Challenge.rw_tellsnone_k00_ratios) (n := 63) (k := 5) (x := "_law_script") (CX := L2.CX0) rfl (by decide) (by kernel_rfl) ⟨rfl, by decide, by decide⟩ ?F (fun _ _ _ _ z => z)
    intro w mg fa h Y G hmg0
    obtain ⟨K, KX, c⟩ := Y
    have hmg : mg ("law" : PySem.Str) = some (.ref fa) := by
      have e : (HandSHeadRun.topDef (OpenLaw.row PySem.Challenge.rw_tellsnone_k00_ratios).prog 20).name = ("law" : PySem.Str) := by kernel_rfl
      rw [← e]
      exact hmg0
    obtain ⟨fd, hb, hF⟩ := K00.law_facts (P := (PySem.Challenge.rw_tellsnone_k00_ratios).prog) (w := w) KX G hmg c
    exact ⟨K, fd, K00.spLaw K, KX, hb, fun H a ns hl _ hS => ⟨a, ns, rfl, hS, hl, fun _ => rfl⟩, hF⟩

