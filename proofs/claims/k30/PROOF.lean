import PyProof.Rows.All
import Wide.All
import OpenK.AllK
import Wide.FinOn
import KE.KCallOwn
import HandS.ForMost
import HandS.ForExc
import HandS.Defaults
import HandS.IsInst
import HandS.ExcIs
import HandS.FStr
import HandS.Wide
import HandS.Flow
import HandS.Codes
import HandS.Conv
import HandS.Head2
import HandS.HeadHook4
import HandS.HeadEnd
import PySem.Challenge.RW_tellsnone_k30_bounds
set_option Elab.async false
set_option linter.all false
set_option maxRecDepth 100000
set_option maxHeartbeats 4000000
/-! own layer: calls by name, operators, ==, str of own classes -/
namespace TL
open PySem PySem.Spec PyProof.Rows L2
/-- a def of the module, by its name: what it promises and how it is called -/
def Okd (P : Program) (w : World) (K : PySem.W.Frag) (mg : Str → Option Value) (base : Heap) (CX : CXT) (k : Nat) (x : Str) (ps : List Str) (sp : Sp) : Prop :=
  ∃ fd, FnOk P w K mg base CX k (He.ga K x) fd ps sp ∧ Binds K fd ps [] ∧ PySem.W.keepIn K (.ref (He.ga K x)) = true ∧ mg x = some (.ref (He.ga K x))
/-- a method of a class of the module -/
def Okm (P : Program) (w : World) (K : PySem.W.Frag) (mg : Str → Option Value) (base : Heap) (CX : CXT) (k : Nat) (c m : Str) (ps : List Str) (sp : Sp) : Prop :=
  ∃ fd, FnOk P w K mg base CX k (He.ma K (He.ga K c) m) fd ps sp ∧ Binds K fd ps [] ∧ Cls K (He.ga K c) ∧ Meth K (He.ga K c) m (He.ma K (He.ga K c) m)
/-- the making of an instance: the promise of __init__ with the defaults ds -/
def Oki (P : Program) (w : World) (K : PySem.W.Frag) (mg : Str → Option Value) (base : Heap) (CX : CXT) (k : Nat) (c : Str) (ps : List Str) (dvs : List V) (sp : Sp) : Prop :=
  ∃ fd ds, FnOk P w K mg base CX k (He.ma K (He.ga K c) "__init__") fd ps sp ∧ Vals dvs ds ∧ Binds K fd ps ds ∧ Mk K (He.ga K c) (He.ma K (He.ga K c) "__init__") ∧ mg c = some (.ref (He.ga K c))
section
variable {X : Cx} {CX : CXT} {k j : Nat} {sp : Sp} {ps : List Str} {E : XK} {x c m : Str} {p pos apos : Pos} {e o : Expr} {es : List Expr} {ta : TE} {t : TA} {dvs : List V}
theorem pf (G : Okd X.prog X.w X.K X.mg X.base CX k x ps sp) (hr : Room k X.A) (hg : Gl X x) (hx : Passes CX X E) (ha : PA X (e :: es) t)
    (hdb : (x == ("__debug__" : Str)) = false := by decide) (he : starEach (e :: es) X.env = (false, eval e X.env) :: starEach es X.env := by rfl) (hpl : (backTo pos (starEach es X.env)).any (·.1) = false := by rfl) :
    PE X (.Call (.Name x p) (e :: es) [] pos) (tCall sp [] E t) := by
  obtain ⟨fd, F, hb, hk, hm⟩ := G
  exact pe_call F hr hg hm hk hb .nil hx ha hdb he hpl
theorem pf0 (G : Okd X.prog X.w X.K X.mg X.base CX k x ps sp) (hr : Room k X.A) (hg : Gl X x) (hx : Passes CX X E)
    (hdb : (x == ("__debug__" : Str)) = false := by decide) :
    PE X (.Call (.Name x p) [] [] pos) (tCall sp [] E tNil) := by
  obtain ⟨fd, F, hb, hk, hm⟩ := G
  exact pe_call0 F hr hg hm hk hb .nil hx hdb
theorem pm {pl : Sem Bool} (G : Okm X.prog X.w X.K X.mg X.base CX k c m ps sp) (hr : Room k X.A) (hx : Passes CX X E) (he : PE X o ta) (ha : PA X (e :: es) t)
    (hst : starEach (e :: es) X.env = (false, eval e X.env) :: starEach es X.env := by rfl) (hpl : (backTo pos (starEach es X.env)).any (·.1) = false := by rfl)
    (ht : eval (.Call (.Attribute o m apos) (e :: es) [] pos) X.env = (do
      let ov ← eval o X.env
      standAt apos.atName
      let (f, first) ← holding [ov] (getMethod ov m pl)
      callWith pos f first (backTo pos (starEach (e :: es) X.env)) (backToKw pos (keywordEach [] X.env))) := by rfl) :
    PE X (.Call (.Attribute o m apos) (e :: es) [] pos) (tMeth (He.ga X.K c) m sp [] E ta t) := by
  obtain ⟨fd, F, hb, hc, hm⟩ := G
  exact pe_meth he hc hm F hr hb .nil hx ha hst hpl ht
theorem pm0 {pl : Sem Bool} (G : Okm X.prog X.w X.K X.mg X.base CX k c m ps sp) (hr : Room k X.A) (hx : Passes CX X E) (he : PE X o ta)
    (ht : eval (.Call (.Attribute o m apos) [] [] pos) X.env = (do
      let ov ← eval o X.env
      standAt apos.atName
      let (f, first) ← holding [ov] (getMethod ov m pl)
      callWith pos f first (backTo pos (starEach [] X.env)) (backToKw pos (keywordEach [] X.env))) := by rfl) :
    PE X (.Call (.Attribute o m apos) [] [] pos) (tMeth (He.ga X.K c) m sp [] E ta tNil) := by
  obtain ⟨fd, F, hb, hc, hm⟩ := G
  exact pe_meth0 he hc hm F hr hb .nil hx ht
theorem pmk (G : Oki X.prog X.w X.K X.mg X.base CX k x ps dvs sp) (hr : Room (k + 1) X.A) (hg : Gl X x) (hx : Passes CX X E) (ha : PA X (e :: es) t)
    (hdb : (x == ("__debug__" : Str)) = false := by decide) (he : starEach (e :: es) X.env = (false, eval e X.env) :: starEach es X.env := by rfl) (hpl : (backTo pos (starEach es X.env)).any (·.1) = false := by rfl) :
    PE X (.Call (.Name x p) (e :: es) [] pos) (tMake (He.ga X.K x) sp dvs E t) := by
  obtain ⟨fd, ds, F, hd, hb, M, hm⟩ := G
  exact pe_make M F hr hg hm hb hd hx ha (he := he) (hpl := hpl) hdb
/-! ### operators of own classes -/
theorem cmpBack {pins : List (Addr × Obj)} {σ : L2.St} {Q : VK} {v : Value} {s' : Shared} (h : EP X pins σ Q v s') : PySem.W.CmpBack (EP X pins σ Q) v s' := by
  obtain ⟨z, H', I, r, q⟩ := id h
  cases z with
  | non => cases r; exact h
  | bl _ => cases r; exact h
  | int _ => obtain ⟨t, rfl⟩ := r; exact h
  | str _ => obtain ⟨t, rfl⟩ := r; exact h
  | byt _ => obtain ⟨t, rfl⟩ := r; exact h
  | flt _ => obtain ⟨t, rfl⟩ := r; exact h
  | ref _ => cases r; exact h
  | ty _ => cases r; exact h
/-- a op b, both instances of the class C, by its own method -/
def rOwn (C : Addr) (sp : Sp) (E : XK) : R2 := fun x y H Q => ∃ a b dx dy fs gs, x = .ref a ∧ y = .ref b ∧ H a = some (.ins C dx fs) ∧ H b = some (.ins C dy gs) ∧ sp [x, y] H Q E
theorem op_own {op : Operator} (hs : PySem.W.selfFirst X.K (He.ga X.K c) = true) (G : Okm X.prog X.w X.K X.mg X.base CX k c (PySem.dunder op.info.2) ps sp) (hr : Room k X.A) (hx : Passes CX X E) : OpR X (binaryOp op) (rOwn (He.ga X.K c) sp E) := by
  obtain ⟨fd, F, hb, hc, hm⟩ := G
  intro pins s σ H x y v u Q I rx ry h
  obtain ⟨a, b, dx, dy, fs, gs, rfl, rfl, ha, hb', h⟩ := h
  cases rx
  cases ry
  obtain ⟨mA, J, _⟩ := ins_get I.hok ha
  obtain ⟨mB, J', _⟩ := ins_get I.hok hb'
  obtain ⟨od, J, _⟩ := J.look
  obtain ⟨od', J', _⟩ := J'.look
  obtain ⟨m, hF⟩ := I.fr
  refine PySem.W.binop_K hF I.ok.mod.kin J J'.type hs hm.at_ hm.fn ?_
  exact thn (run_fn (us := [.ref a, .ref b]) (vs := [.ref a, .ref b]) F hr hb .nil hx I (.cons rfl (.cons rfl .nil)) h) fun v s' hv => cmpBack hv
theorem op_eqOwn (G : Okm X.prog X.w X.K X.mg X.base CX k c "__eq__" ps sp) (hr : Room k X.A) (hx : Passes CX X E) : OpR X (compareOp .Eq) (rOwn (He.ga X.K c) sp E) := by
  obtain ⟨fd, F, hb, hc, hm⟩ := G
  intro pins s σ H x y v u Q I rx ry h
  obtain ⟨a, b, dx, dy, fs, gs, rfl, rfl, ha, hb', h⟩ := h
  cases rx
  cases ry
  obtain ⟨mA, J, _⟩ := ins_get I.hok ha
  obtain ⟨mB, J', _⟩ := ins_get I.hok hb'
  obtain ⟨od, J, _⟩ := J.look
  obtain ⟨od', J', _⟩ := J'.look
  obtain ⟨m, hF⟩ := I.fr
  show wpAny (model X.prog X.w) X.A (richCompare .Eq _ _) _ _ _
  refine PySem.W.cmp_K (op := .Eq) (tb := .ref (He.ga X.K c)) hr.units0 hF I.ok.mod.kin J J'.type (by simp [PySem.W.notFirst]) hm.at_ hm.fn ?_
  exact thn (run_fn (us := [.ref a, .ref b]) (vs := [.ref a, .ref b]) F hr hb .nil hx I (.cons rfl (.cons rfl .nil)) h) fun v s' hv => cmpBack hv
/-- str(x), x an instance with its own __str__ -/
def rStrOwn (C : Addr) (sp : Sp) (E : XK) : List V → Hp → VK → Prop := fun xs H Q => ∃ a dx fs, xs = [.ref a] ∧ H a = some (.ins C dx fs) ∧ sp [.ref a] H (fun v H' => ∃ z, v = .str z ∧ Q v H') E
theorem env0_2 {pins : List (Addr × Obj)} {σ : L2.St} {H : Hp} {s : Shared} (I : Inv X pins σ H s) : Env0 X.prog X.w X.K X.mg X.base X.A.in1.in1 X.stack s H := I.env0.in1.in1
theorem call_strOwn (G : Okm X.prog X.w X.K X.mg X.base CX k c "__str__" ps sp) (hr : Room (k + 1) X.A) (hx : Passes CX X E) : CallR X (.type "str") (rStrOwn (He.ga X.K c) sp E) := by
  obtain ⟨fd, F, hb, hc, hm⟩ := G
  intro pins s σ H xs us Q I r h
  obtain ⟨a, dx, fs, rfl, ha, h⟩ := h
  cases r with
  | cons r rn =>
  cases rn
  cases r
  obtain ⟨mA, J, _⟩ := ins_get I.hok ha
  obtain ⟨od, J, _⟩ := J.look
  have hr2 : Room k X.A.in1.in1 := ⟨hr.hd, by have := hr.dp; show X.A.depth + 3 * k + 5 < recursionLimit; omega, by have := hr.un; show X.A.units + 1 + 1 + 16 * k + 200 < cLine; omega⟩
  refine PySem.W.kso_call (by have := hr2.un; omega) I.kIn J hm.at_ hm.fn ?_
  have hl := F.len _ _ _ _ h
  refine wpAny_call (codeAny_mono (F.run X.A.in1.in1 X.stack s H ⟨[.ref a], []⟩ [.ref a] [.ref a] _ E hr2 (env0_2 I) (by
    have := hb s [.ref a] I.kIn (by simpa using hl)
    simpa using this) (.cons rfl .nil) h) fun r s' hq => ?_)
  cases r with
  | error e => exact hx pins σ H s e s' I hq
  | ok fl =>
    cases fl with
    | ret w =>
      obtain ⟨z, H', I', rz, y, ez, q⟩ := I.after hq
      subst ez
      obtain ⟨t, rfl⟩ := rz
      exact ⟨.str y, H', I', ⟨t, rfl⟩, q⟩
    | next => exact False.elim hq
    | brk => exact False.elim hq
    | cont => exact False.elim hq
end
/-! ### the head's facts -/
def mkD (x : Str) (st : Stmt) (dv : List He.Dv) : He.DefD := ⟨(x, none), x, x, defArgs st, defBody st, defScope st, dv, []⟩
def mkM (c m q : Str) (st : Stmt) (dv : List He.Dv) : He.DefD := ⟨(c, some m), m, q, defArgs st, defBody st, defScope st, dv, []⟩
structure Tx (fa : List He.Fa) (fn : List He.DefD) (ex : List (PySem.W.Frag → Bool)) (K : PySem.W.Frag) (mg : Str → Option Value) : Prop where
  D : He.SaysD fa fn K
  hh : ∃ h : Heap, K.In h ∧ h.Ns mainGlobals mg
  e : (ex.all fun f => f K) = true
/-- more facts that a head can tell: of a class whose instances are asked isinstance; of an exception's class; isinstance's answers -/
def insB (x : Str) (K : PySem.W.Frag) : Bool := He.eqO (PySem.W.findIn K (.ref (He.ga K x)) "__class__") (some (some (.builtin "object.__class__"))) && (He.eqO (PySem.W.specialIn K (.builtin "object.__class__") "__get__") (some (some (.builtin "getset_descriptor.__get__"))) &&
  (decide (PySem.W.takesIn K (.builtin "object.__class__") = some true) && decide (PySem.W.mroIn K (He.ga K x) (.type "object") = some true)))
def excB (x : Str) (K : PySem.W.Frag) : Bool := He.eqO (PySem.W.findIn K (.ref (He.ga K x)) "__getattribute__") (some (some (.builtin "BaseException.__getattribute__"))) && (He.eqO (PySem.W.findIn K (.ref (He.ga K x)) "__getattr__") (some none) &&
  (decide (PySem.W.subIn K (.ref (He.ga K x)) (.type "BaseException") = some true) && (PySem.W.hasDictIn K (He.ga K x) && insB x K)))
def isB (x y : Str) (b : Bool) (K : PySem.W.Frag) : Bool := decide (PySem.W.kitOne K (.ref (He.ga K x)) (.ref (He.ga K y)) = some b)
def isTyB (x y : String) (b : Bool) (K : PySem.W.Frag) : Bool := decide (PySem.W.kitOne K (.ref (He.ga K x)) (.type y) = some b)
def selfB (x : Str) (K : PySem.W.Frag) : Bool := PySem.W.selfFirst K (He.ga K x)
structure InsC (K : PySem.W.Frag) (C : Addr) : Prop where
  cl : Cls K C
  ha : PySem.W.findIn K (.ref C) "__class__" = some (some (.builtin "object.__class__"))
  hn : PySem.W.specialIn K (.builtin "object.__class__") "__get__" = some (some (.builtin "getset_descriptor.__get__"))
  ht : PySem.W.takesIn K (.builtin "object.__class__") = some true
  hm : PySem.W.mroIn K C (.type "object") = some true
theorem insB_ok {x : Str} {K : PySem.W.Frag} (cl : Cls K (He.ga K x)) (h : insB x K = true) : InsC K (He.ga K x) := by
  obtain ⟨h1, h⟩ := He.ba h
  obtain ⟨h2, h⟩ := He.ba h
  obtain ⟨h3, h4⟩ := He.ba h
  exact ⟨cl, He.eqO_ok h1, He.eqO_ok h2, of_decide_eq_true h3, of_decide_eq_true h4⟩
theorem excB_ok {x : Str} {K : PySem.W.Frag} (h : excB x K = true) : ExcC K (He.ga K x) := by
  obtain ⟨h1, h⟩ := He.ba h
  obtain ⟨h2, h⟩ := He.ba h
  obtain ⟨h3, h⟩ := He.ba h
  obtain ⟨h4, h⟩ := He.ba h
  obtain ⟨k1, h⟩ := He.ba h
  obtain ⟨k2, h⟩ := He.ba h
  obtain ⟨k3, k4⟩ := He.ba h
  exact ⟨He.eqO_ok h1, He.eqO_ok h2, of_decide_eq_true h3, h4, He.eqO_ok k1, He.eqO_ok k2, of_decide_eq_true k3, of_decide_eq_true k4⟩
theorem isB_ok {x y : Str} {b : Bool} {K : PySem.W.Frag} (h : isB x y b K = true) : PySem.W.kitOne K (.ref (He.ga K x)) (.ref (He.ga K y)) = some b := of_decide_eq_true h
theorem isTyB_ok {x y : String} {b : Bool} {K : PySem.W.Frag} (h : isTyB x y b K = true) : PySem.W.kitOne K (.ref (He.ga K x)) (.type y) = some b := of_decide_eq_true h
theorem ixT_at {K : PySem.W.Frag} {H : Hp} {p : Addr} {xs : List V} {v : V} {Q : VK} (k : Nat) (h : H p = some (.tup xs)) (e : xs[k]? = some v) (q : Q v H) : rIxT K (.ref p) (.int (k : Int)) H Q := ⟨p, xs, _, v, rfl, rfl, SqT.of h, atI_nat e, q⟩
theorem ixL_at {K : PySem.W.Frag} {H : Hp} {p : Addr} {xs : List V} {v : V} {Q : VK} (k : Nat) (h : H p = some (.lst xs)) (e : xs[k]? = some v) (q : Q v H) : rIxL K (.ref p) (.int (k : Int)) H Q := ⟨p, xs, _, v, rfl, rfl, SqL.of h, atI_nat e, q⟩
theorem empty_app (x : Str) : Str.empty ++ x = x := by
  obtain ⟨a⟩ := x
  show Str.append Str.empty ⟨a⟩ = ⟨a⟩
  unfold Str.append Str.empty
  simp
theorem sc_ii (i j : Int) : scal (.int i) (.int j) = true := rfl
theorem sc_ss (i j : Str) : scal (.str i) (.str j) = true := rfl
theorem sc_bb (i j : Bool) : scal (.bl i) (.bl j) = true := rfl
theorem sc_in (i : Int) : scal (.int i) .non = true := rfl
theorem sc_ni (i : Int) : scal .non (.int i) = true := rfl
theorem sc_nn : scal .non .non = true := rfl
theorem sc_si (i : Str) (j : Int) : scal (.str i) (.int j) = true := rfl
theorem sc_is (i : Int) (j : Str) : scal (.int i) (.str j) = true := rfl
theorem for_r1 {ta : TA} {g : TG} {tb : TS} {D : Ends} {σ : L2.St} {H : Hp} (n : Nat) (hn : n < 2 ^ 62) (h : ∀ R : List V → Hp → Prop, R [.int (n : Int)] H → ta σ H R) (Pv : Nat → L2.St → Hp → Prop) (h0 : Pv 0 σ H)
    (hs : ∀ i σ H, i < n → Pv i σ H → g (.int (i : Int)) σ H fun σ2 H2 => tb { D with nx := Pv (i + 1), ct := Pv (i + 1), bk := D.nx } σ2 H2) (hd : ∀ σ H, Pv n σ H → D.nx σ H) : tFor (iRng1 ta) g tb D σ H := by
  refine h _ ⟨n, rfl, by omega, by omega, ?_⟩
  refine for_range (lo := 0) (n := n) Pv h0 (fun i σ H hi hp => ?_) hd
  have := hs i σ H hi hp
  rw [Int.zero_add]
  exact this
def isAnyB (x : Str) (ys : List Str) (b : Bool) (K : PySem.W.Frag) : Bool := decide (PySem.W.kitAny K (.ref (He.ga K x)) (ys.map fun y => .ref (He.ga K y)) = some b)
theorem isAnyB_ok {x : Str} {ys : List Str} {b : Bool} {K : PySem.W.Frag} (h : isAnyB x ys b K = true) : PySem.W.kitAny K (.ref (He.ga K x)) (ys.map fun y => .ref (He.ga K y)) = some b := of_decide_eq_true h
theorem own_all {K : PySem.W.Frag} : ∀ ys : List Str, Paired ClsV (ys.map fun y => V.ref (He.ga K y)) (ys.map fun y => Value.ref (He.ga K y))
  | [] => .nil
  | _ :: r => .cons (.own _) (own_all r)
theorem ixT_menu {K : PySem.W.Frag} {H : Hp} {p : Addr} {vs : List V} {Q : VK} {k : Int} (h : H p = some (.tup vs)) (h0 : 0 ≤ k) (h1 : k < vs.length) (q : ∀ v ∈ vs, Q v H) : rIxT K (.ref p) (.int k) H Q := by
  obtain ⟨j, rfl⟩ := Int.eq_ofNat_of_zero_le h0
  have hj : j < vs.length := by omega
  exact ixT_at j h (List.getElem?_eq_getElem hj) (q _ (List.getElem_mem hj))
theorem same_upd {H : Hp} {p : Addr} {o : HO} (np : H p = none) : Same H (upd H p o) := fun b u e => by rw [upd_ne (ne_of_none e np)]; exact e
theorem menu_new {K : PySem.W.Frag} {H : Hp} {p : Addr} {vs : List V} {Q : VK} {k : Int} (np : H p = none) (h0 : 0 ≤ k) (h1 : k < vs.length) (q : ∀ v ∈ vs, ∀ H', Same H H' → Q v H') : rIxT K (.ref p) (.int k) (upd H p (.tup vs)) Q :=
  ixT_menu upd_same h0 h1 fun v hv => q v hv _ (same_upd np)
theorem rOwn_at {C a b dx dy : Addr} {fs gs : List (Str × V)} {sp : Sp} {E : XK} {H : Hp} {Q : VK} (ha : H a = some (.ins C dx fs)) (hb : H b = some (.ins C dy gs)) (h : sp [.ref a, .ref b] H Q E) : rOwn C sp E (.ref a) (.ref b) H Q := ⟨a, b, dx, dy, fs, gs, rfl, rfl, ha, hb, h⟩
theorem ty_lst {K : PySem.W.Frag} {p : Addr} {xs : List V} {H : Hp} (h : H p = some (.lst xs)) : tyV K "list" (.ref p) H := Or.inl ⟨rfl, _, Or.inl (Or.inl h)⟩
theorem len_line {n : Nat} (h : n ≤ 100000) : n < sizeLine := Nat.lt_of_le_of_lt h (by decide)
/-- isinstance by kinds -/
theorem isi_int {K : PySem.W.Frag} {i : Int} {n : String} {b : Bool} {H : Hp} {Q : VK} (e : kitB "int" n = some b) (h : Q (.bl b) H) : rIsi K [.int i, .ty n] H Q := ⟨_, _, _, _, b, rfl, .ty _, .base (.int i), kit_ty e, h⟩
theorem isi_bl {K : PySem.W.Frag} {i : Bool} {n : String} {b : Bool} {H : Hp} {Q : VK} (e : kitB "bool" n = some b) (h : Q (.bl b) H) : rIsi K [.bl i, .ty n] H Q := ⟨_, _, _, _, b, rfl, .ty _, .base (.bl i), kit_ty e, h⟩
theorem isi_ins {K : PySem.W.Frag} {a C D dx : Addr} {fs : List (Str × V)} {b : Bool} {H : Hp} {Q : VK} (c : InsC K C) (ha : H a = some (.ins C dx fs)) (e : PySem.W.kitOne K (.ref C) (.ref D) = some b) (h : Q (.bl b) H) : rIsi K [.ref a, .ref D] H Q :=
  ⟨_, _, _, _, b, rfl, .own _, .base (.ins ha c.cl c.ha c.hn c.ht c.hm), e, h⟩
theorem kit_self {K : PySem.W.Frag} {t : Value} : PySem.W.kitOne K t t = some true := by
  unfold PySem.W.kitOne
  rw [if_pos (beq_self_eq_true t)]
section
variable {P : Program} {w : World} {K : PySem.W.Frag} {mg : Str → Option Value} {base : Heap} {fa : List He.Fa} {fn : List He.DefD} {ex : List (PySem.W.Frag → Bool)}
theorem Tx.fx (T : Tx fa fn ex K mg) (i : Nat) {f : PySem.W.Frag → Bool} (h : ex[i]? = some f := by rfl) : f K = true := List.all_eq_true.mp T.e f (List.mem_of_getElem? h)
theorem Tx.glo (T : Tx fa fn ex K mg) (i : Nat) {x : Str} (h : fa[i]? = some (.glo x) := by rfl) : mg x = some (.ref (He.ga K x)) := by
  obtain ⟨hp, X, G⟩ := T.hh
  exact He.glo_ok X G (T.D.fact i h)
theorem Tx.free (T : Tx fa fn ex K mg) (i : Nat) {x : Str} (h : fa[i]? = some (.free x) := by rfl) : mg x = none := by
  obtain ⟨hp, X, G⟩ := T.hh
  exact He.free_ok X G (T.D.fact i h)
theorem Tx.int (T : Tx fa fn ex K mg) (i : Nat) {x : Str} {z : Int} (h : fa[i]? = some (.int x z) := by rfl) : ∃ t, mg x = some (.int z t) := by
  obtain ⟨hp, X, G⟩ := T.hh
  exact He.int_ok X G (T.D.fact i h)
theorem Tx.str (T : Tx fa fn ex K mg) (i : Nat) {x z : Str} (h : fa[i]? = some (.str x z) := by rfl) : ∃ t, mg x = some (.str z t) := by
  obtain ⟨hp, X, G⟩ := T.hh
  exact He.str_ok X G (T.D.fact i h)
theorem Tx.cls (T : Tx fa fn ex K mg) (i : Nat) {x : Str} (h : fa[i]? = some (.cls x) := by rfl) : Cls K (He.ga K x) := He.cls_ok (T.D.fact i h)
theorem Tx.noat (T : Tx fa fn ex K mg) (i : Nat) {x f : Str} (h : fa[i]? = some (.noat x f) := by rfl) : NoAttr K (He.ga K x) f := He.noat_ok (T.D.fact i h)
theorem Tx.meth (T : Tx fa fn ex K mg) (i : Nat) {x m : Str} (h : fa[i]? = some (.meth x m) := by rfl) : Meth K (He.ga K x) m (He.ma K (He.ga K x) m) := He.meth_ok (T.D.fact i h)
theorem Tx.mkr (T : Tx fa fn ex K mg) (i : Nat) {x : Str} (h : fa[i]? = some (.mkr x) := by rfl) : Mk K (He.ga K x) (He.ma K (He.ga K x) "__init__") := He.mkr_ok (T.D.fact i h)
theorem Tx.exc (T : Tx fa fn ex K mg) (i : Nat) {x : Str} (h : fa[i]? = some (.exc x) := by rfl) : PySem.W.excIn K (He.ga K x) He.veBase "ValueError.__new__" = true ∧ PySem.W.keepIn K (.ref (He.ga K x)) = true ∧
    PySem.W.subIn K (.ref (He.ga K x)) (.type "BaseException") = some true ∧ PySem.W.typeIn K (.ref (He.ga K x)) = some (.type "type") := He.exc_ok (T.D.fact i h)
theorem Tx.exm (T : Tx fa fn ex K mg) (i : Nat) {x y : Str} {b : Bool} (h : fa[i]? = some (.exm x y b) := by rfl) : PySem.W.exmOne K (.ref (He.ga K x)) (.ref (He.ga K y)) = some b := He.exm_ok (T.D.fact i h)
theorem Tx.df (T : Tx fa fn ex K mg) (i : Nat) {d : He.DefD} (h : fn[i]? = some d := by rfl) : ∃ fd, FunD K d.name d.qual d.params d.body d.scope (d.dvs K) (d.kws K) (He.fAd K d.at_) fd := T.D.def_ i h
/-- the body's context -/
abbrev cxB (P : Program) (w : World) (K : PySem.W.Frag) (mg : Str → Option Value) (base : Heap) (N : List Str) (q : Str) (st : Stmt) (f : Addr) (cdv : Value) (A : Around) (outer : List Env) (s : Shared) (H : Hp) (E : XK) : Cx := cxOf (L2.CX P w) P w K mg base N q (defScope st) f cdv A outer s H E
/-- what a body is to show: hpo for loops and tries, tk for raises, px for calls that raise nothing -/
def BodyOk (P : Program) (w : World) (K : PySem.W.Frag) (mg : Str → Option Value) (base : Heap) (N : List Str) (q : Str) (st : Stmt) (f : Addr) (k : Nat) (sp : Sp) : Prop :=
  ∀ (cdv : Value) (A : Around) (outer : List Env) (s : Shared) (H : Hp) (vs : List V) (Q : VK) (E : XK), sp vs H Q E → Room k (A.deeper (envOfC q (defScope st) s.heap.objs.size f cdv)) →
    PassesOwn (model P w) (cxB P w K mg base N q st f cdv A outer s H E).A (cxB P w K mg base N q st f cdv A outer s H E).env (cxB P w K mg base N q st f cdv A outer s H E).xe → Takes (cxB P w K mg base N q st f cdv A outer s H E) (fun cls d _ H => E cls d H) →
    Passes (L2.CX P w) (cxB P w K mg base N q st f cdv A outer s H E) E0 → Passes (L2.CX P w) (cxB P w K mg base N q st f cdv A outer s H E) E →
    ∃ t, PSs (cxB P w K mg base N q st f cdv A outer s H E) (defBody st) t ∧ t { nx := fun _ H' => Q .non H', rt := Q } (L2.start N vs) H
theorem BodyOk.to {N : List Str} {q : Str} {st : Stmt} {f : Addr} {k : Nat} {sp : Sp} (h : BodyOk P w K mg base N q st f k sp) (cdv : Value) (A : Around) (outer : List Env) (s : Shared) (H : Hp) (vs : List V) (Q : VK) (E : XK)
    (hr : Room k (A.deeper (envOfC q (defScope st) s.heap.objs.size f cdv))) (hs : sp vs H Q E) :
    ∃ t, PSs (cxOf (L2.CX P w) P w K mg base N q (defScope st) f cdv A outer s H E) (defBody st) t ∧ t { nx := fun _ H' => Q .non H', rt := Q } (L2.start N vs) H :=
  h cdv A outer s H vs Q E hs hr (passes_of (X := cxB P w K mg base N q st f cdv A outer s H E) rfl) (takes_of (X := cxB P w K mg base N q st f cdv A outer s H E) rfl rfl rfl (E := E) rfl) passL
    (passes_call (takes_of (X := cxB P w K mg base N q st f cdv A outer s H E) rfl rfl rfl (E := E) rfl) (fun _ _ _ _ z => z))
/-- the law's own body: nothing leaves it -/
abbrev cxL (P : Program) (w : World) (K : PySem.W.Frag) (mg : Str → Option Value) (base : Heap) (N : List Str) (q : Str) (st : Stmt) (f : Addr) (cdv : Value) (A : Around) (outer : List Env) (s : Shared) (H : Hp) (E : XK) : Cx := cxOf CX0 P w K mg base N q (defScope st) f cdv A outer s H E
def BodyLaw (P : Program) (w : World) (K : PySem.W.Frag) (mg : Str → Option Value) (base : Heap) (N : List Str) (q : Str) (st : Stmt) (f : Addr) (k : Nat) (sp : Sp) : Prop :=
  ∀ (cdv : Value) (A : Around) (outer : List Env) (s : Shared) (H : Hp) (vs : List V) (Q : VK) (E : XK), sp vs H Q E → Room k (A.deeper (envOfC q (defScope st) s.heap.objs.size f cdv)) →
    PassesOwn (model P w) (cxL P w K mg base N q st f cdv A outer s H E).A (cxL P w K mg base N q st f cdv A outer s H E).env (cxL P w K mg base N q st f cdv A outer s H E).xe → Takes (cxL P w K mg base N q st f cdv A outer s H E) (fun _ _ _ _ => False) →
    Passes (L2.CX P w) (cxL P w K mg base N q st f cdv A outer s H E) E0 →
    ∃ t, PSs (cxL P w K mg base N q st f cdv A outer s H E) (defBody st) t ∧ t { nx := fun _ H' => Q .non H', rt := Q } (L2.start N vs) H
theorem BodyLaw.to {N : List Str} {q : Str} {st : Stmt} {f : Addr} {k : Nat} {sp : Sp} (h : BodyLaw P w K mg base N q st f k sp) (cdv : Value) (A : Around) (outer : List Env) (s : Shared) (H : Hp) (vs : List V) (Q : VK) (E : XK)
    (hr : Room k (A.deeper (envOfC q (defScope st) s.heap.objs.size f cdv))) (hs : sp vs H Q E) :
    ∃ t, PSs (cxOf CX0 P w K mg base N q (defScope st) f cdv A outer s H E) (defBody st) t ∧ t { nx := fun _ H' => Q .non H', rt := Q } (L2.start N vs) H :=
  h cdv A outer s H vs Q E hs hr (passes_of (X := cxL P w K mg base N q st f cdv A outer s H E) rfl) takes0 passL
/-- a def keeps its promise -/
theorem Okd.of {x : Str} (st : Stmt) {N ps : List Str} {k : Nat} {sp : Sp} (F : ∃ fd, FunD K x x (defArgs st) (defBody st) (defScope st) [] [] (He.ga K x) fd) (g : mg x = some (.ref (He.ga K x))) (S : FnScope N ps (defScope st))
    (hb : ∀ (kV doc pm : Value) (an : Option Addr) (cdv ct : Value) (us : List Value), us.length = ps.length → bindArgs (PySem.W.fnOf x x (defArgs st) (defBody st) (defScope st) .none kV doc pm an cdv ct) ⟨us, []⟩ = pure (ps.zip us))
    (len : ∀ vs H Q E, sp vs H Q E → vs.length = ps.length) (h : BodyOk P w K mg base N x st (He.ga K x) k sp) : Okd P w K mg base (L2.CX P w) (k + 1) x ps sp := by
  obtain ⟨fd, F⟩ := F
  exact ⟨fd, F.ok S len h.to, F.bindsN hb, F.kp, g⟩
theorem Okm.of {c m q : Str} (st : Stmt) {N ps : List Str} {k : Nat} {sp : Sp} (F : ∃ fd, FunD K m q (defArgs st) (defBody st) (defScope st) [] [] (He.ma K (He.ga K c) m) fd) (hc : Cls K (He.ga K c)) (hm : Meth K (He.ga K c) m (He.ma K (He.ga K c) m)) (S : FnScope N ps (defScope st))
    (hb : ∀ (kV doc pm : Value) (an : Option Addr) (cdv ct : Value) (us : List Value), us.length = ps.length → bindArgs (PySem.W.fnOf m q (defArgs st) (defBody st) (defScope st) .none kV doc pm an cdv ct) ⟨us, []⟩ = pure (ps.zip us))
    (len : ∀ vs H Q E, sp vs H Q E → vs.length = ps.length) (h : BodyOk P w K mg base N q st (He.ma K (He.ga K c) m) k sp) : Okm P w K mg base (L2.CX P w) (k + 1) c m ps sp := by
  obtain ⟨fd, F⟩ := F
  exact ⟨fd, F.ok S len h.to, F.bindsN hb, hc, hm⟩
/-- an __init__ without defaults -/
theorem Oki.of {c q : Str} (st : Stmt) {N ps : List Str} {k : Nat} {sp : Sp} (F : ∃ fd, FunD K "__init__" q (defArgs st) (defBody st) (defScope st) [] [] (He.ma K (He.ga K c) "__init__") fd) (g : mg c = some (.ref (He.ga K c))) (hm : Mk K (He.ga K c) (He.ma K (He.ga K c) "__init__")) (S : FnScope N ps (defScope st))
    (hb : ∀ (kV doc pm : Value) (an : Option Addr) (cdv ct : Value) (us : List Value), us.length = ps.length → bindArgs (PySem.W.fnOf "__init__" q (defArgs st) (defBody st) (defScope st) .none kV doc pm an cdv ct) ⟨us, []⟩ = pure (ps.zip us))
    (len : ∀ vs H Q E, sp vs H Q E → vs.length = ps.length) (h : BodyOk P w K mg base N q st (He.ma K (He.ga K c) "__init__") k sp) : Oki P w K mg base (L2.CX P w) (k + 1) c ps [] sp := by
  obtain ⟨fd, F⟩ := F
  exact ⟨fd, [], F.ok S len h.to, .nil, F.bindsN hb, hm, g⟩
/-- an __init__ with defaults dvs; j of them are given by the caller -/
theorem Oki.ofD {c q : Str} (st : Stmt) (dvs : List V) {N ps : List Str} {k : Nat} {sp : Sp} (n j : Nat) (F : ∃ fd, FunD K "__init__" q (defArgs st) (defBody st) (defScope st) dvs [] (He.ma K (He.ga K c) "__init__") fd) (hd : dvs ≠ []) (hn : n + (dvs.length - j) = ps.length) (g : mg c = some (.ref (He.ga K c))) (hm : Mk K (He.ga K c) (He.ma K (He.ga K c) "__init__")) (S : FnScope N ps (defScope st))
    (hb : ∀ (T : Addr) (kV doc pm : Value) (an : Option Addr) (cdv ct : Value) (us its : List Value), us.length = n → its.length = dvs.length →
      ∃ k, bindArgs (PySem.W.fnOf "__init__" q (defArgs st) (defBody st) (defScope st) (.ref T) kV doc pm an cdv ct) ⟨us, []⟩ = seqItems? (.ref T) >>= k ∧ k (some its.toArray) = pure (ps.zip (us ++ its.drop j)))
    (len : ∀ vs H Q E, sp vs H Q E → vs.length = ps.length) (h : BodyOk P w K mg base N q st (He.ma K (He.ga K c) "__init__") k sp) : Oki P w K mg base (L2.CX P w) (k + 1) c ps (dvs.drop j) sp := by
  obtain ⟨fd, F⟩ := F
  obtain ⟨ds, hds, hB⟩ := F.binds1 n j hd hn hb
  exact ⟨fd, ds, F.ok S len h.to, hds, hB, hm, g⟩
/-- a def with defaults, called with j of them -/
def Okdd (P : Program) (w : World) (K : PySem.W.Frag) (mg : Str → Option Value) (base : Heap) (CX : CXT) (k : Nat) (x : Str) (ps : List Str) (dvs : List V) (sp : Sp) : Prop :=
  ∃ fd ds, FnOk P w K mg base CX k (He.ga K x) fd ps sp ∧ Vals dvs ds ∧ Binds K fd ps ds ∧ PySem.W.keepIn K (.ref (He.ga K x)) = true ∧ mg x = some (.ref (He.ga K x))
theorem Okdd.ofD {x : Str} (st : Stmt) (dvs : List V) {N ps : List Str} {k : Nat} {sp : Sp} (n j : Nat) (F : ∃ fd, FunD K x x (defArgs st) (defBody st) (defScope st) dvs [] (He.ga K x) fd) (hd : dvs ≠ []) (hn : n + (dvs.length - j) = ps.length) (g : mg x = some (.ref (He.ga K x))) (S : FnScope N ps (defScope st))
    (hb : ∀ (T : Addr) (kV doc pm : Value) (an : Option Addr) (cdv ct : Value) (us its : List Value), us.length = n → its.length = dvs.length →
      ∃ k, bindArgs (PySem.W.fnOf x x (defArgs st) (defBody st) (defScope st) (.ref T) kV doc pm an cdv ct) ⟨us, []⟩ = seqItems? (.ref T) >>= k ∧ k (some its.toArray) = pure (ps.zip (us ++ its.drop j)))
    (len : ∀ vs H Q E, sp vs H Q E → vs.length = ps.length) (h : BodyOk P w K mg base N x st (He.ga K x) k sp) : Okdd P w K mg base (L2.CX P w) (k + 1) x ps (dvs.drop j) sp := by
  obtain ⟨fd, F⟩ := F
  obtain ⟨ds, hds, hB⟩ := F.binds1 n j hd hn hb
  exact ⟨fd, ds, F.ok S len h.to, hds, hB, F.kp, g⟩
end
/-! ### calls within a try's body, wishes at the slots; what the caught exception is -/
def tMakeS (C : Addr) (sp : Sp) (dvs : List V) (E : L2.St → XK) (t : TA) : TE := fun σ H Q => t σ H fun vs H1 => ∀ x dx, H1 x = none → H1 dx = none → dx ≠ x →
  sp (.ref x :: (vs ++ dvs)) (upd (upd H1 dx (.own x)) x (.ins C dx [])) (fun v H2 => v = .non ∧ Q (.ref x) H2) (E σ)
section
variable {X : Cx} {CX : CXT} {k j : Nat} {sp : Sp} {ps : List Str} {E : L2.St → XK} {x c m : Str} {p pos apos : Pos} {e o : Expr} {es : List Expr} {ta : TE} {t : TA} {dvs : List V}
theorem pfS (G : Okd X.prog X.w X.K X.mg X.base CX k x ps sp) (hr : Room k X.A) (hg : Gl X x) (hx : ∀ σ, PassesAt CX X σ (E σ)) (ha : PA X (e :: es) t)
    (hdb : (x == ("__debug__" : Str)) = false := by decide) (he : starEach (e :: es) X.env = (false, eval e X.env) :: starEach es X.env := by rfl) (hpl : (backTo pos (starEach es X.env)).any (·.1) = false := by rfl) :
    PE X (.Call (.Name x p) (e :: es) [] pos) (tCallS sp E t) := by
  obtain ⟨fd, F, hb, hk, hm⟩ := G
  exact pe_callS F hr hg hm hk hb hx ha hdb he hpl
theorem pmkS (G : Oki X.prog X.w X.K X.mg X.base CX k x ps dvs sp) (hr : Room (k + 1) X.A) (hg : Gl X x) (hx : ∀ σ, PassesAt CX X σ (E σ)) (ha : PA X (e :: es) t)
    (hdb : (x == ("__debug__" : Str)) = false := by decide) (he : starEach (e :: es) X.env = (false, eval e X.env) :: starEach es X.env := by rfl) (hpl : (backTo pos (starEach es X.env)).any (·.1) = false := by rfl) :
    PE X (.Call (.Name x p) (e :: es) [] pos) (tMakeS (He.ga X.K x) sp dvs E t) := by
  obtain ⟨fd, ds, F, hd, hb, M, hm⟩ := G
  refine ⟨fun pins s σ H Q I h => ?_⟩
  refine wpAny_Call_Name_kw (ld_glob I hg hm ?_ hdb)
  refine PySem.W.callWith_K (h₀ := X.base) I.ok.mod.kin M.kp (thn (ha.run pos pins s σ H _ I h) fun us s ⟨vs, H, I, r, h⟩ => ⟨I.kIn, ?_⟩) he hpl
  have hq := h (s.heap.objs.size + 1) s.heap.objs.size (I.hok.fresh (Nat.le_succ _)) (I.hok.fresh (Nat.le_refl _)) (Nat.ne_of_lt (Nat.lt_succ_self _))
  have I2 := Inv.made (C := He.ga X.K x) I
  have r2 : Vals (V.ref (s.heap.objs.size + 1) :: (vs ++ dvs)) (Value.ref (s.heap.objs.size + 1) :: (us ++ ds)) := .cons rfl (r.append hd)
  have hl : (Value.ref (s.heap.objs.size + 1) :: us ++ ds).length = ps.length := by
    have e := r2.length
    rw [F.len _ _ _ _ hq] at e
    exact e.symm
  refine wpAny_call (make_map (f := He.ma X.K (He.ga X.K x) "__init__") I.kIn M.makes M.init (beq_iff_eq.mp M.fn) (codeAny_mono (F.run _ X.stack _ _ ⟨Value.ref (s.heap.objs.size + 1) :: us, []⟩ (Value.ref (s.heap.objs.size + 1) :: (us ++ ds)) _ _ (E σ) (hr.make (He.ga X.K x) us [])
    (I2.env0.make (He.ga X.K x) us []) (hb _ (Value.ref (s.heap.objs.size + 1) :: us) I2.kIn hl) r2 hq) fun r s' hq' => ?_))
  cases r with
  | error e => exact hx σ pins _ _ e s' I2 hq'
  | ok fl =>
    cases fl with
    | ret u =>
      obtain ⟨v, H', I3, rv, ev, q3⟩ := I2.after hq'
      subst ev
      exact ⟨rv, ⟨V.ref (s.heap.objs.size + 1), H', I3, rfl, q3⟩⟩
    | next => exact False.elim hq'
    | brk => exact False.elim hq'
    | cont => exact False.elim hq'
/-- isinstance(e, c), e the exception that the suite holds, of the class D, without a dict of its own -/
def rIsX (K : PySem.W.Frag) (a : Addr) (cls : Value) (d : Option Addr) : List V → Hp → VK → Prop := fun xs H Q => ∃ (D : Addr) (c : V) (cv : Value) (b : Bool), cls = .ref D ∧ d = none ∧ ExcC K D ∧ xs = [.ref a, c] ∧ ClsV c cv ∧ PySem.W.kitOne K (.ref D) cv = some b ∧ Q (.bl b) H
theorem call_isX {X : Cx} {a : Addr} {cls : Value} {d : Option Addr} {oe : Obj} {pn : List (Addr × Obj)} (hz : Zc cls d oe) (hf : ∃ vs, oe.data = .fields vs) : CallR (X.suite a ((a, oe) :: pn)) (.builtin "isinstance") (rIsX X.K a cls d) := by
  intro pins s σ H xs us Q I r h
  obtain ⟨D, c, cv, b, rfl, rfl, C, rfl, k, e, q⟩ := h
  exact call_isE C hz hf pins s σ H _ us Q I r ⟨c, cv, b, rfl, fun u ru => k.eq ru, e, q⟩
/-- isinstance(e, (c1, c2, ..)) -/
def rIsXT (K : PySem.W.Frag) (a : Addr) (cls : Value) (d : Option Addr) : List V → Hp → VK → Prop := fun xs H Q => ∃ (D tp : Addr) (cs : List V) (us : List Value) (b : Bool), cls = .ref D ∧ d = none ∧ ExcC K D ∧ xs = [.ref a, .ref tp] ∧ H tp = some (.tup cs) ∧ Paired ClsV cs us ∧ PySem.W.kitAny K (.ref D) us = some b ∧ Q (.bl b) H
theorem call_isXT {X : Cx} {a : Addr} {cls : Value} {d : Option Addr} {oe : Obj} {pn : List (Addr × Obj)} (hz : Zc cls d oe) (hf : ∃ vs, oe.data = .fields vs) : CallR (X.suite a ((a, oe) :: pn)) (.builtin "isinstance") (rIsXT X.K a cls d) := by
  intro pins s σ H xs us Q I r h
  obtain ⟨D, tp, cs, ws, b, rfl, rfl, C, rfl, hT, k, e, q⟩ := h
  cases r with
  | cons rx rr =>
    cases rr with
    | cons rt rr =>
      cases rr
      cases rx
      cases rt
      obtain ⟨hget, _⟩ := I.pin (a, oe) (List.mem_append.mpr (.inl List.mem_cons_self))
      obtain ⟨vs, hv⟩ := hf
      have J : PySem.W.InstAt s.heap a oe D none := by
        obtain ⟨oc, od, oda, osl⟩ := oe
        obtain ⟨h1, h2⟩ := hz
        dsimp only at h1 h2 hv
        subst h1 h2 hv
        exact ⟨hget, rfl, rfl, trivial⟩
      obtain ⟨_, its, rv, o, h1, h2, n, h3⟩ := (show ObjOk X.prog X.w H s.heap tp (.tup cs) from I.hok tp _ hT)
      have e3 := ClsV.all k rv
      subst e3
      obtain ⟨oc, od, dt, sl⟩ := o
      simp only at h2 h3
      subst h2 h3
      exact PySem.W.kia_tup (PySem.W.handS_kitx_exc C.hg C.hk C.hs C.hd C.ha C.hn C.ht C.hm) I.kIn J h1 e (fun z => nomatch z) fun tk => ⟨.bl b, H, I.tok tk, rfl, q⟩
end
end TL

/-! plain lemmas: fractions in lowest terms, Euclid's steps, lengths of written numbers -/
namespace PL
open PySem
theorem gcd_step {a b : Int} (ha : 0 ≤ a) (hb : 0 < b) : Int.gcd b (a % b) = Int.gcd a b := by
  rw [Int.gcd_eq_natAbs_gcd_natAbs, Int.gcd_eq_natAbs_gcd_natAbs]
  have e : (a % b).natAbs = a.natAbs % b.natAbs := by
    apply Int.ofNat.inj
    show ((a % b).natAbs : Int) = ((a.natAbs % b.natAbs : Nat) : Int)
    rw [Int.natAbs_of_nonneg (Int.emod_nonneg _ (by omega)), Int.natCast_emod, Int.natAbs_of_nonneg ha, Int.natAbs_of_nonneg (by omega)]
  rw [e, Nat.gcd_comm a.natAbs, Nat.gcd_comm, ← Nat.gcd_rec]
def red (n d : Int) : Int × Int := (n / (Int.gcd n d : Int), d / (Int.gcd n d : Int))
theorem gcd_pos {n d : Int} (h : 0 < d) : 0 < (Int.gcd n d : Int) := by
  have := Int.gcd_pos_of_ne_zero_right n (b := d) (by omega)
  omega
theorem gcd_le {n d : Int} (h : 0 < d) : (Int.gcd n d : Int) ≤ d := by
  have h1 := Int.gcd_dvd_right n d
  exact Int.le_of_dvd h h1
theorem red_den_pos {n d : Int} (h : 0 < d) : 0 < (red n d).2 := by
  obtain ⟨k, hk⟩ := Int.gcd_dvd_right n d
  have g := gcd_pos (n := n) h
  show 0 < d / (Int.gcd n d : Int)
  exact Int.ediv_pos_of_pos_of_dvd h (by omega) (Int.gcd_dvd_right n d)
theorem red_den_le {n d : Int} (h : 0 < d) : (red n d).2 ≤ d := by
  have g := gcd_pos (n := n) h
  show d / (Int.gcd n d : Int) ≤ d
  exact Int.ediv_le_self _ (by omega)
theorem red_num {n d : Int} : (red n d).1 * (Int.gcd n d : Int) = n := Int.ediv_mul_cancel (Int.gcd_dvd_left n d)
theorem red_den {n d : Int} : (red n d).2 * (Int.gcd n d : Int) = d := Int.ediv_mul_cancel (Int.gcd_dvd_right n d)
theorem red_num_le {n d : Int} (h : 0 < d) : (red n d).1.natAbs ≤ n.natAbs := by
  have g := gcd_pos (n := n) h
  have e := red_num (n := n) (d := d)
  have e2 : ((red n d).1 * (Int.gcd n d : Int)).natAbs = n.natAbs := by rw [e]
  rw [Int.natAbs_mul] at e2
  have g2 : 1 ≤ (Int.gcd n d : Int).natAbs := by omega
  calc (red n d).1.natAbs = (red n d).1.natAbs * 1 := by rw [Nat.mul_one]
    _ ≤ (red n d).1.natAbs * (Int.gcd n d : Int).natAbs := Nat.mul_le_mul_left _ g2
    _ = n.natAbs := e2
/-- lowest terms are one -/
theorem red_eq {n d m e : Int} (hd : 0 < d) (he : 0 < e) (h : n * e = m * d) : red n d = red m e := by
  have key : ∀ {n d m e : Int}, 0 < d → 0 < e → n * e = m * d → (Int.gcd n d : Int) * e = (Int.gcd m e : Int) * d := by
    intro n d m e hd he h
    have h1 : Int.gcd (n * e) (d * e) = Int.gcd n d * e.natAbs := Int.gcd_mul_right ..
    have h2 : Int.gcd (m * d) (e * d) = Int.gcd m e * d.natAbs := Int.gcd_mul_right ..
    rw [h, Int.mul_comm d e] at h1
    have h3 : ((Int.gcd n d * e.natAbs : Nat) : Int) = ((Int.gcd m e * d.natAbs : Nat) : Int) := by rw [← h1, h2]
    rw [Int.natCast_mul, Int.natCast_mul, Int.natAbs_of_nonneg (by omega), Int.natAbs_of_nonneg (by omega)] at h3
    exact h3
  have k := key hd he h
  have gp := gcd_pos (n := n) hd
  have gq := gcd_pos (n := m) he
  have e1 : n / (Int.gcd n d : Int) = m / (Int.gcd m e : Int) := by
    -- n * g' = m * g
    have a1 := red_num (n := n) (d := d)
    have a2 := red_num (n := m) (d := e)
    have hx : (red n d).1 * ((Int.gcd n d : Int) * e) = (red m e).1 * ((Int.gcd m e : Int) * d) := by
      rw [← Int.mul_assoc, ← Int.mul_assoc, a1, a2, h]
    rw [k] at hx
    have hne : (Int.gcd m e : Int) * d ≠ 0 := Int.ne_of_gt (Int.mul_pos gq hd)
    exact Int.eq_of_mul_eq_mul_right hne hx
  have e2 : d / (Int.gcd n d : Int) = e / (Int.gcd m e : Int) := by
    have a1 := red_den (n := n) (d := d)
    have a2 := red_den (n := m) (d := e)
    have hx : (red n d).2 * ((Int.gcd n d : Int) * e) = (red m e).2 * ((Int.gcd m e : Int) * d) := by
      rw [← Int.mul_assoc, ← Int.mul_assoc, a1, a2, Int.mul_comm]
    rw [k] at hx
    have hne : (Int.gcd m e : Int) * d ≠ 0 := Int.ne_of_gt (Int.mul_pos gq hd)
    exact Int.eq_of_mul_eq_mul_right hne hx
  unfold red
  rw [e1, e2]
theorem red_cross {n d m e : Int} (hd : 0 < d) (he : 0 < e) (h : red n d = red m e) : n * e = m * d := by
  have a1 := red_num (n := n) (d := d)
  have a2 := red_num (n := m) (d := e)
  have b1 := red_den (n := n) (d := d)
  have b2 := red_den (n := m) (d := e)
  rw [h] at a1 b1
  generalize (red m e).1 = x at *
  generalize (red m e).2 = y at *
  generalize (Int.gcd n d : Int) = g at *
  generalize (Int.gcd m e : Int) = g' at *
  subst a1 a2 b1 b2
  rw [Int.mul_assoc, Int.mul_assoc, Int.mul_left_comm g y g', Int.mul_left_comm g' y g, Int.mul_comm g g']
theorem red_iff {n d m e : Int} (hd : 0 < d) (he : 0 < e) : red n d = red m e ↔ n * e = m * d := ⟨red_cross hd he, red_eq hd he⟩
theorem red_red {n d : Int} (hd : 0 < d) : red (red n d).1 (red n d).2 = red n d := by
  refine red_eq (red_den_pos hd) hd ?_
  have a1 := red_num (n := n) (d := d)
  have b1 := red_den (n := n) (d := d)
  generalize (red n d).1 = x at *
  generalize (red n d).2 = y at *
  generalize (Int.gcd n d : Int) = g at *
  subst a1 b1
  rw [Int.mul_left_comm, Int.mul_comm y, Int.mul_assoc]
/-- the value of a reduced fraction, used crosswise -/
theorem red_val {n d : Int} : (red n d).1 * d = n * (red n d).2 := by
  have a1 := red_num (n := n) (d := d)
  have b1 := red_den (n := n) (d := d)
  generalize (red n d).1 = x at *
  generalize (red n d).2 = y at *
  generalize (Int.gcd n d : Int) = g at *
  subst a1 b1
  rw [Int.mul_right_comm, Int.mul_assoc]
theorem red_add {a b c d : Int} (hb : 0 < b) (hd : 0 < d) : red ((red a b).1 * (red c d).2 + (red c d).1 * (red a b).2) ((red a b).2 * (red c d).2) = red (a * d + c * b) (b * d) := by
  refine red_eq (Int.mul_pos (red_den_pos hb) (red_den_pos hd)) (Int.mul_pos hb hd) ?_
  have h1 := red_val (n := a) (d := b)
  have h2 := red_val (n := c) (d := d)
  generalize (red a b).1 = p1 at *
  generalize (red a b).2 = p2 at *
  generalize (red c d).1 = q1 at *
  generalize (red c d).2 = q2 at *
  have e1 : p1 * q2 * (b * d) = a * d * (p2 * q2) := by
    calc p1 * q2 * (b * d) = (p1 * b) * (q2 * d) := by ac_rfl
      _ = (a * p2) * (q2 * d) := by rw [h1]
      _ = _ := by ac_rfl
  have e2 : q1 * p2 * (b * d) = c * b * (p2 * q2) := by
    calc q1 * p2 * (b * d) = (q1 * d) * (p2 * b) := by ac_rfl
      _ = (c * q2) * (p2 * b) := by rw [h2]
      _ = _ := by ac_rfl
  rw [Int.add_mul, Int.add_mul, e1, e2]
theorem red_sub {a b c d : Int} (hb : 0 < b) (hd : 0 < d) : red ((red a b).1 * (red c d).2 - (red c d).1 * (red a b).2) ((red a b).2 * (red c d).2) = red (a * d - c * b) (b * d) := by
  refine red_eq (Int.mul_pos (red_den_pos hb) (red_den_pos hd)) (Int.mul_pos hb hd) ?_
  have h1 := red_val (n := a) (d := b)
  have h2 := red_val (n := c) (d := d)
  generalize (red a b).1 = p1 at *
  generalize (red a b).2 = p2 at *
  generalize (red c d).1 = q1 at *
  generalize (red c d).2 = q2 at *
  have e1 : p1 * q2 * (b * d) = a * d * (p2 * q2) := by
    calc p1 * q2 * (b * d) = (p1 * b) * (q2 * d) := by ac_rfl
      _ = (a * p2) * (q2 * d) := by rw [h1]
      _ = _ := by ac_rfl
  have e2 : q1 * p2 * (b * d) = c * b * (p2 * q2) := by
    calc q1 * p2 * (b * d) = (q1 * d) * (p2 * b) := by ac_rfl
      _ = (c * q2) * (p2 * b) := by rw [h2]
      _ = _ := by ac_rfl
  rw [Int.sub_mul, Int.sub_mul, e1, e2]
theorem red_mul {a b c d : Int} (hb : 0 < b) (hd : 0 < d) : red ((red a b).1 * (red c d).1) ((red a b).2 * (red c d).2) = red (a * c) (b * d) := by
  refine red_eq (Int.mul_pos (red_den_pos hb) (red_den_pos hd)) (Int.mul_pos hb hd) ?_
  have h1 := red_val (n := a) (d := b)
  have h2 := red_val (n := c) (d := d)
  generalize (red a b).1 = p1 at *
  generalize (red a b).2 = p2 at *
  generalize (red c d).1 = q1 at *
  generalize (red c d).2 = q2 at *
  calc p1 * q1 * (b * d) = (p1 * b) * (q1 * d) := by ac_rfl
    _ = (a * p2) * (c * q2) := by rw [h1, h2]
    _ = _ := by ac_rfl
theorem red_lt {a b c d : Int} (hb : 0 < b) (hd : 0 < d) : (red a b).1 * (red c d).2 < (red c d).1 * (red a b).2 ↔ a * d < c * b := by
  have a1 := red_num (n := a) (d := b)
  have a2 := red_num (n := c) (d := d)
  have b1 := red_den (n := a) (d := b)
  have b2 := red_den (n := c) (d := d)
  have g1 := gcd_pos (n := a) hb
  have g2 := gcd_pos (n := c) hd
  generalize (red a b).1 = p1 at *
  generalize (red a b).2 = p2 at *
  generalize (red c d).1 = q1 at *
  generalize (red c d).2 = q2 at *
  generalize (Int.gcd a b : Int) = g at *
  generalize (Int.gcd c d : Int) = g' at *
  have e1 : a * d = (p1 * q2) * (g * g') := by rw [← a1, ← b2]; ac_rfl
  have e2 : c * b = (q1 * p2) * (g * g') := by rw [← a2, ← b1]; ac_rfl
  rw [e1, e2]
  exact (Int.mul_lt_mul_right (Int.mul_pos g1 g2)).symm
def rd (p : Int × Int) : Int × Int := red p.1 p.2
def rad (p q : Int × Int) : Int × Int := red (p.1 * q.2 + q.1 * p.2) (p.2 * q.2)
def rmu (p q : Int × Int) : Int × Int := red (p.1 * q.1) (p.2 * q.2)
theorem rad_rd {p q : Int × Int} (hp : 0 < p.2) (hq : 0 < q.2) : rad (rd p) (rd q) = rad p q := red_add hp hq
theorem rmu_rd {p q : Int × Int} (hp : 0 < p.2) (hq : 0 < q.2) : rmu (rd p) (rd q) = rmu p q := red_mul hp hq
theorem rd_rd {p : Int × Int} (hp : 0 < p.2) : rd (rd p) = rd p := red_red hp
theorem rd_one (n : Int) : rd (n, 1) = (n, 1) := by
  have g : (Int.gcd n 1 : Int) = 1 := by
    have h1 := gcd_pos (n := n) (d := 1) (by decide)
    have h2 := gcd_le (n := n) (d := 1) (by decide)
    omega
  show (n / (Int.gcd n 1 : Int), 1 / (Int.gcd n 1 : Int)) = (n, 1)
  rw [g, Int.ediv_one] <;> rfl
theorem rd_pos {p : Int × Int} (hp : 0 < p.2) : 0 < (rd p).2 := red_den_pos hp
theorem rad_l {p q : Int × Int} (hp : 0 < p.2) (hq : 0 < q.2) : rad (rd p) q = rad p q := by
  have h := red_eq (n := (rd p).1 * q.2 + q.1 * (rd p).2) (d := (rd p).2 * q.2) (m := p.1 * q.2 + q.1 * p.2) (e := p.2 * q.2) (Int.mul_pos (rd_pos hp) hq) (Int.mul_pos hp hq) (by
    have h1 := red_val (n := p.1) (d := p.2)
    show ((red p.1 p.2).1 * q.2 + q.1 * (red p.1 p.2).2) * (p.2 * q.2) = (p.1 * q.2 + q.1 * p.2) * ((red p.1 p.2).2 * q.2)
    generalize (red p.1 p.2).1 = x at *
    generalize (red p.1 p.2).2 = y at *
    rw [Int.add_mul, Int.add_mul]
    have e1 : x * q.2 * (p.2 * q.2) = p.1 * q.2 * (y * q.2) := by
      calc x * q.2 * (p.2 * q.2) = (x * p.2) * (q.2 * q.2) := by ac_rfl
        _ = (p.1 * y) * (q.2 * q.2) := by rw [h1]
        _ = _ := by ac_rfl
    have e2 : q.1 * y * (p.2 * q.2) = q.1 * p.2 * (y * q.2) := by ac_rfl
    rw [e1, e2])
  exact h
theorem rad_comm (p q : Int × Int) : rad p q = rad q p := by
  unfold rad
  rw [Int.add_comm, Int.mul_comm p.2 q.2]
theorem rad_r {p q : Int × Int} (hp : 0 < p.2) (hq : 0 < q.2) : rad p (rd q) = rad p q := by rw [rad_comm, rad_l hq hp, rad_comm]
theorem rmu_l {p q : Int × Int} (hp : 0 < p.2) (hq : 0 < q.2) : rmu (rd p) q = rmu p q := by
  have h := red_eq (n := (rd p).1 * q.1) (d := (rd p).2 * q.2) (m := p.1 * q.1) (e := p.2 * q.2) (Int.mul_pos (rd_pos hp) hq) (Int.mul_pos hp hq) (by
    have h1 := red_val (n := p.1) (d := p.2)
    show ((red p.1 p.2).1 * q.1) * (p.2 * q.2) = (p.1 * q.1) * ((red p.1 p.2).2 * q.2)
    generalize (red p.1 p.2).1 = x at *
    generalize (red p.1 p.2).2 = y at *
    calc x * q.1 * (p.2 * q.2) = (x * p.2) * (q.1 * q.2) := by ac_rfl
      _ = (p.1 * y) * (q.1 * q.2) := by rw [h1]
      _ = _ := by ac_rfl)
  exact h
theorem rmu_comm (p q : Int × Int) : rmu p q = rmu q p := by
  unfold rmu
  rw [Int.mul_comm p.1, Int.mul_comm p.2]
theorem rmu_r {p q : Int × Int} (hp : 0 < p.2) (hq : 0 < q.2) : rmu p (rd q) = rmu p q := by rw [rmu_comm, rmu_l hq hp, rmu_comm]
theorem rad_rmu_l {p q r : Int × Int} (hp : 0 < p.2) (hq : 0 < q.2) (hr : 0 < r.2) : rad (rmu p q) r = rad (p.1 * q.1, p.2 * q.2) r := rad_l (p := (p.1 * q.1, p.2 * q.2)) (Int.mul_pos hp hq) hr
theorem rad_pos {p q : Int × Int} (hp : 0 < p.2) (hq : 0 < q.2) : 0 < (rad p q).2 := red_den_pos (Int.mul_pos hp hq)
theorem rmu_pos {p q : Int × Int} (hp : 0 < p.2) (hq : 0 < q.2) : 0 < (rmu p q).2 := red_den_pos (Int.mul_pos hp hq)
/-! ### sizes -/
/-- below 2 ^ k -/
def Lt2 (z : Int) (k : Nat) : Prop := z.natAbs < 2 ^ k
theorem Lt2.mono {z : Int} {k j : Nat} (h : Lt2 z k) (hk : k ≤ j) : Lt2 z j := Nat.lt_of_lt_of_le h (Nat.pow_le_pow_right (by decide) hk)
theorem Lt2.mul {x y : Int} {a b : Nat} (hx : Lt2 x a) (hy : Lt2 y b) : Lt2 (x * y) (a + b) := L2.wide_lt hx hy
theorem Lt2.add {x y : Int} {a : Nat} (hx : Lt2 x a) (hy : Lt2 y a) : Lt2 (x + y) (a + 1) := by
  unfold Lt2 at *
  rw [Nat.pow_succ]
  have := Int.natAbs_add_le x y
  omega
theorem Lt2.neg {x : Int} {a : Nat} (hx : Lt2 x a) : Lt2 (-x) a := by
  unfold Lt2 at *
  rw [Int.natAbs_neg]
  exact hx
theorem Lt2.sub {x y : Int} {a : Nat} (hx : Lt2 x a) (hy : Lt2 y a) : Lt2 (x - y) (a + 1) := by
  rw [Int.sub_eq_add_neg]
  exact hx.add hy.neg
theorem Lt2.of_le {x y : Int} {a : Nat} (h : x.natAbs ≤ y.natAbs) (hy : Lt2 y a) : Lt2 x a := Nat.lt_of_le_of_lt h hy
theorem Lt2.num {n d : Int} {a : Nat} (hd : 0 < d) (h : Lt2 n a) : Lt2 (red n d).1 a := .of_le (red_num_le hd) h
theorem Lt2.den {n d : Int} {a : Nat} (hd : 0 < d) (h : Lt2 d a) : Lt2 (red n d).2 a := .of_le (by have := red_den_pos (n := n) hd; have := red_den_le (n := n) hd; omega) h
theorem Lt2.cmul {x y : Int} {a b : Nat} (hx : Lt2 x a) (hy : Lt2 y b) (h : a + b ≤ 999998) : L2.CMulW x y := L2.wide_mul (hx.mono (Nat.le_succ a)) (hy.mono (Nat.le_succ b)) (Nat.succ_pos _) (Nat.succ_pos _) (by omega)
theorem Lt2.cdiv {x y : Int} {a : Nat} (h0 : 0 < y) (hy : Lt2 y a) (h : a ≤ 8999) : L2.CDivW x y := L2.wide_div h0 (hy.mono (Nat.le_succ a)) (Nat.succ_pos _) (by omega)
/-- a fraction below 2 ^ a over 2 ^ b -/
structure Sz (p : Int × Int) (a b : Nat) : Prop where
  pos : 0 < p.2
  num : Lt2 p.1 a
  den : Lt2 p.2 b
theorem Sz.mono {p : Int × Int} {a b a' b' : Nat} (h : Sz p a b) (ha : a ≤ a') (hb : b ≤ b') : Sz p a' b' := ⟨h.pos, h.num.mono ha, h.den.mono hb⟩
theorem Sz.rd {p : Int × Int} {a b : Nat} (h : Sz p a b) : Sz (rd p) a b := ⟨rd_pos h.pos, h.num.num h.pos, h.den.den h.pos⟩
theorem Sz.rmu {p q : Int × Int} {a b c d : Nat} (h : Sz p a b) (k : Sz q c d) : Sz (PL.rmu p q) (a + c) (b + d) := (Sz.rd (p := (p.1 * q.1, p.2 * q.2)) ⟨Int.mul_pos h.pos k.pos, h.num.mul k.num, h.den.mul k.den⟩)
theorem Sz.rad {p q : Int × Int} {a b c d e : Nat} (h : Sz p a b) (k : Sz q c d) (h1 : a + d ≤ e) (h2 : c + b ≤ e) : Sz (PL.rad p q) (e + 1) (b + d) :=
  (Sz.rd (p := (p.1 * q.2 + q.1 * p.2, p.2 * q.2)) ⟨Int.mul_pos h.pos k.pos, ((h.num.mul k.den).mono h1).add ((k.num.mul h.den).mono h2), h.den.mul k.den⟩)
theorem Sz.int {n : Int} {a : Nat} (h : Lt2 n a) : Sz (n, 1) a 1 := ⟨(show (0 : Int) < 1 by decide), h, show (1 : Int).natAbs < 2 ^ 1 by decide⟩
/-! ### Euclid's steps end -/
/-- after k steps from (a, b) -/
def euc : Nat → Int × Int → Int × Int
  | 0, p => p
  | k + 1, p => euc k (if p.2 = 0 then p else (p.2, p.1 % p.2))
/-- b is so small that k turns end it -/
def Short : Nat → Int → Int → Prop
  | 0, _, b => b = 0
  | k + 1, a, b => b = 0 ∨ Short k b (a % b)
theorem Short.mono : ∀ {k : Nat} {a b : Int}, Short k a b → Short (k + 1) a b
  | 0, _, _, h => .inl h
  | k + 1, a, b, h => by
    rcases h with h | h
    · exact .inl h
    · exact .inr (Short.mono h)
theorem Short.more {k : Nat} {a b : Int} (h : Short k a b) : ∀ j, Short (k + j) a b
  | 0 => h
  | j + 1 => (Short.more h j).mono
theorem short_pow : ∀ (j : Nat) {a b : Int}, 0 ≤ b → b < 2 ^ j → Short (2 * j + 1) a b
  | 0, a, b, h0, h => .inl (by have : b < 1 := h; omega)
  | j + 1, a, b, h0, h => by
    by_cases hb : b = 0
    · exact .inl hb
    · right
      show Short (2 * (j + 1)) b (a % b)
      have r0 := Int.emod_nonneg a hb
      have r1 := Int.emod_lt_of_pos a (show 0 < b by omega)
      have hp : (2 : Int) ^ (j + 1) = 2 ^ j * 2 := Int.pow_succ ..
      generalize hr : a % b = r at *
      show r = 0 ∨ Short (2 * j + 1) r (b % r)
      by_cases hz : r = 0
      · exact .inl hz
      · right
        have s0 := Int.emod_nonneg b hz
        have s1 := Int.emod_lt_of_pos b (show 0 < r by omega)
        have hq : 1 ≤ b / r := (Int.le_ediv_iff_mul_le (by omega)).mpr (by omega)
        have he := Int.mul_ediv_add_emod b r
        have hm : r ≤ r * (b / r) := by
          have := Int.mul_le_mul_of_nonneg_left hq (show 0 ≤ r by omega)
          omega
        have h2 : 2 * (b % r) < b := by omega
        exact short_pow j s0 (by omega)
theorem short_2000 {a b : Int} (h0 : 0 ≤ b) (h : b < 2 ^ 999) : Short 2000 a b := (short_pow 999 (a := a) h0 h).more 1
theorem strOk_of (s : String) : PyData.strOk (Str.ofString s) = true := by
  rw [Str.ofString_eq_toList]
  unfold PyData.strOk
  simp only [Array.all_eq_true']
  intro i hi
  simp only [List.mem_toArray, List.mem_map] at hi
  obtain ⟨c, _, rfl⟩ := hi
  have := c.valid
  simp only [decide_eq_true_eq]
  rcases this with h | h
  · have : c.toNat < 0xd800 := h; omega
  · have : c.toNat < 0x110000 := h.2; omega
theorem strOk_app (x y : Str) (hx : PyData.strOk x = true) (hy : PyData.strOk y = true) : PyData.strOk (x ++ y) = true := by
  unfold PyData.strOk at *
  show (Str.append x y).cps.all _ = true
  unfold Str.append
  simp only [Array.all_append, hx, hy, Bool.and_self]
end PL

/-! != of instances of an own class that has == alone -/
namespace PySem.W
open PySem PySem.Calls PyProof.Rows
section
variable {prog : Program} {w : World} {M : Model} {A : Around} {E : Value → Shared → Prop} {s : Shared} {K : Frag} {x C f L : Addr} {ox : Obj} {od : Option Obj} {b : Value}
theorem tn_ifb {name : Str} {id : String} {args : List Value} {Q : Option Value → Shared → Prop} (X : K.In s.heap) (I : InstAt s.heap x ox C od) (hs : findIn K (.ref C) name = some (some (.builtin id)))
    (hb : ∀ self, bindSpecial (.builtin id) self = pure (.builtin id, [self])) (h : wpAny M A (call (.builtin id) (.ref x :: args)) (fun v => Q (some v)) E s) : wpAny M A (callSpecialIfBound? (.ref x) name args) Q E s := by
  have fin : wpAny M A (call (.builtin id) ([.ref x] ++ args) >>= fun v => pure (some v)) Q E s := wpAny_bind (wpAny_mono h (fun v s' h' => wpAny_pure h') fun _ _ h' => h')
  simp only [callSpecialIfBound?, bindSpecialIfBound?]
  refine wpAny_holding (wpAny_bind (wpAny_bind (wpAny_bind (I.type.here ((looks_findIn X hs).here ?_)))))
  refine wpAny_bind (wpAny_askSetting (wpAny_ite ?_))
  split
  · exact wpAny_bind ((Looks.of_pure (hb _)).here (wpAny_pure (by exact fin)))
  · exact wpAny_tryCatch (wpAny_bind ((Looks.of_pure (hb _)).here (wpAny_pure (by exact fin))))
theorem tn_one {Q : Value → Shared → Prop} (hu : A.in1.units < cLine) (X : K.In s.heap) (I : InstAt s.heap x ox C od) (hm : mroIn K C (.type "object") = some true) (he : findIn K (.ref C) "__eq__" = some (some (.ref f))) (hf : isFn K (.ref f) = true)
    (h : wpAny (model prog w) A.in1 (call (.ref f) [.ref x, b]) (fun v s' => ∃ c, v = .bool c ∧ Q (.bool (!c)) s') E s) : wpAny (model prog w) A (call (.builtin "object.__ne__") [.ref x, b]) Q E s := by
  refine wpAny_call (codeAny_call_builtin PySem.F.slot_tuple_iterator_ne.plain F.cmpEntry_ne (check_slot (i := "object.__ne__") (owner := "object") (n := "__ne__") (by decide +kernel) (by decide +kernel) (I.type.andThen (looks_mroIn X hm)) (F.cmpArgs_ne _ _) ?_))
  unfold Builtin.«object.__ne__»
  refine wpAny_bind (m := slotArgs "__ne__" 1 _) (wpAny_pure ?_)
  refine wpAny_bind (m := cRoomFor _ _) (wpAny_cRoomFor hu ?_)
  refine wpAny_bind (m := callSpecialIfBound? (.ref x) (Str.ofString "__eq__") _) (ifBound_K X I he hf (wpAny_mono h (fun r s' hq => ?_) fun _ _ y => y))
  obtain ⟨c, rfl, hq⟩ := hq
  exact wpAny_bind (wpAny_truthy_bool (wpAny_pure hq))
theorem tn_cmp {tb : Value} {Q : Value → Shared → Prop} (hu : A.units + 2 < cLine) (X : K.In s.heap) (I : InstAt s.heap x ox C od) (hb : Looks (model prog w) s.heap (typeOf b) tb) (hn : notFirst K C tb = true) (hm : mroIn K C (.type "object") = some true)
    (hne : findIn K (.ref C) "__ne__" = some (some (.builtin "object.__ne__"))) (he : findIn K (.ref C) "__eq__" = some (some (.ref f))) (hf : isFn K (.ref f) = true)
    (h : wpAny (model prog w) A.in1 (call (.ref f) [.ref x, b]) (fun v s' => ∃ c, v = .bool c ∧ Q (.bool (!c)) s') E s) : wpAny (model prog w) A (richCompare .NotEq (.ref x) b) Q E s := by
  have one : wpAny (model prog w) A (tryCompare (.ref x) (cmpInfo .NotEq).2.1 b) (fun r s' => ∃ v, r = some v ∧ Q v s') E s := by
    unfold tryCompare
    refine wpAny_bind (tn_ifb X I hne PySem.F.slot_tuple_iterator_ne.bind (tn_one (by show A.units + 1 < cLine; omega) X I hm he hf (wpAny_mono h (fun v s' hv => ?_) fun _ _ e => e)))
    obtain ⟨c, rfl, hq⟩ := hv
    exact ⟨c, rfl, wpAny_pure ⟨_, rfl, hq⟩⟩
  unfold richCompare
  simp only [oneThing_ref]
  refine wpAny_holding (wpAny_bind (wpAny_cRoomFor (by omega) ?_))
  refine wpAny_bind (I.type.here (wpAny_bind (hb.here ?_)))
  split
  · rename_i q
    have e : subIn K tb (.ref C) = some false := by
      rcases Bool.or_eq_true_iff.mp hn with e | e
      · rw [beq_iff_eq.mp e] at q; simp at q
      · exact beq_iff_eq.mp e
    refine wpAny_bind ((looks_subIn X e).here ?_)
    simp only [Bool.false_eq_true, if_false]
    refine wpAny_bind (wpAny_mono one (fun r s' z => ?_) fun _ _ e => e)
    obtain ⟨v, rfl, hq⟩ := z
    exact wpAny_pure hq
  · refine wpAny_bind (wpAny_pure ?_)
    simp only [Bool.false_eq_true, if_false]
    refine wpAny_bind (wpAny_mono one (fun r s' z => ?_) fun _ _ e => e)
    obtain ⟨v, rfl, hq⟩ := z
    exact wpAny_pure hq
end
end PySem.W
namespace TL
open PySem PySem.Spec PyProof.Rows L2
def neB (x : Str) (K : PySem.W.Frag) : Bool := He.eqO (PySem.W.findIn K (.ref (He.ga K x)) "__ne__") (some (some (.builtin "object.__ne__"))) && decide (PySem.W.mroIn K (He.ga K x) (.type "object") = some true)
section
variable {X : Cx} {CX : CXT} {k : Nat} {sp : Sp} {ps : List Str} {E : XK} {c : Str}
/-- a != b: the own == must hand back a truth value -/
theorem op_neOwn (hn : neB c X.K = true) (G : Okm X.prog X.w X.K X.mg X.base CX k c "__eq__" ps sp) (hr : Room (k + 1) X.A) (hx : Passes CX X E) : OpR X (compareOp .NotEq) (rOwn (He.ga X.K c) (fun vs H Q E => sp vs H (fun v H' => ∃ b, v = .bl b ∧ Q (.bl (!b)) H') E) E) := by
  obtain ⟨fd, F, hb, hc, hm⟩ := G
  intro pins s σ H x y v u Q I rx ry h
  obtain ⟨a, b, dx, dy, fs, gs, rfl, rfl, ha, hb', h⟩ := h
  cases rx
  cases ry
  obtain ⟨mA, J, _⟩ := ins_get I.hok ha
  obtain ⟨mB, J', _⟩ := ins_get I.hok hb'
  obtain ⟨od, J, _⟩ := J.look
  obtain ⟨od', J', _⟩ := J'.look
  obtain ⟨n1, n2⟩ := He.ba hn
  show wpAny (model X.prog X.w) X.A (richCompare .NotEq _ _) _ _ _
  have hr1 : Room k X.A.in1 := ⟨hr.hd, by have := hr.dp; show X.A.depth + 3 * k + 5 < recursionLimit; omega, by have := hr.un; show X.A.units + 1 + 16 * k + 200 < cLine; omega⟩
  refine PySem.W.tn_cmp (tb := .ref (He.ga X.K c)) (by have := hr.un; omega) I.kIn J J'.type (by simp [PySem.W.notFirst]) (of_decide_eq_true n2) (He.eqO_ok n1) hm.at_ hm.fn ?_
  have hl := F.len _ _ _ _ h
  refine wpAny_call (codeAny_mono (F.run X.A.in1 X.stack s H ⟨[.ref a, .ref b], []⟩ [.ref a, .ref b] [.ref a, .ref b] _ E hr1 I.env0.in1 (by
    have := hb s [.ref a, .ref b] I.kIn (by simpa using hl)
    simpa using this) (.cons rfl (.cons rfl .nil)) h) fun r s' hq => ?_)
  cases r with
  | error e => exact hx pins σ H s e s' I hq
  | ok fl =>
    cases fl with
    | ret w =>
      obtain ⟨z, H', I', rz, c', ez, q⟩ := I.after hq
      subst ez
      cases rz
      exact ⟨c', rfl, .bl (!c'), H', I', rfl, q⟩
    | next => exact False.elim hq
    | brk => exact False.elim hq
    | cont => exact False.elim hq
end
end TL

/-! comprehensions without a test whose elements make new things -/
namespace TL
open PySem PySem.Spec PyProof.Rows L2
/-- what is true of an element stands while things are made and the list grows -/
def LMono (R : V → Hp → Prop) : Prop := ∀ y D H1 H2, (∃ l, H1 D = some (.lst l)) → (∀ b o, b ≠ D → H1 b = some o → H2 b = some o) → R y H1 → R y H2
theorem lc_pv {Rel : Nat → V → Hp → Prop} (mono : ∀ i, LMono (Rel i)) {H : Hp} {D : Addr} (hD : H D = none) {i : Nat} {H' H4 : Hp} {ys : List V} {y : V}
    (hl : H' D = some (.lst ys)) (hn : ys.length = i) (hs : Same H H') (hr : ∀ j y, ys[j]? = some y → Rel j y H') (s4 : Same H' H4) (r4 : Rel i y H4) :
    ∃ acc, H4 D = some (.lst acc) ∧ acc = ys ∧ (∃ zs, upd H4 D (.lst (acc ++ [y])) D = some (.lst zs) ∧ zs.length = i + 1 ∧ Same H (upd H4 D (.lst (acc ++ [y]))) ∧ ∀ j y', zs[j]? = some y' → Rel j y' (upd H4 D (.lst (acc ++ [y])))) := by
  have h4 := s4 _ _ hl
  refine ⟨ys, h4, rfl, ys ++ [y], upd_same, by rw [List.length_append, hn]; rfl, fun b o e => by rw [upd_ne (ne_of_none e hD)]; exact s4 _ _ (hs _ _ e), fun j y' hj => ?_⟩
  have m : ∀ k z, Rel k z H4 → Rel k z (upd H4 D (.lst (ys ++ [y]))) := fun k z => mono k z D H4 _ ⟨_, h4⟩ (fun b o ne e => by rw [upd_ne ne]; exact e)
  by_cases hlt : j < ys.length
  · rw [List.getElem?_append_left hlt] at hj
    exact m _ _ (mono j y' D H' H4 ⟨_, hl⟩ (fun b o _ e => s4 _ _ e) (hr j y' hj))
  · have : j = ys.length := by
      have := (List.getElem?_eq_some_iff.mp hj).1
      rw [List.length_append] at this
      have e : [y].length = 1 := rfl
      omega
    subst this
    rw [List.getElem?_append_right (Nat.le_refl _), Nat.sub_self] at hj
    cases hj
    rw [hn]
    exact m _ _ r4
theorem lc_r {ta : TA} {g : TG} {te : TE} {vs : List Nat} {σ : L2.St} {H : Hp} {Q : VK} (n : Nat) (hn : n ≤ 100000) (h : ∀ R : List V → Hp → Prop, R [.int (n : Int)] H → ta σ H R) (Rel : Nat → V → Hp → Prop) (mono : ∀ i, LMono (Rel i))
    (step : ∀ (i : Nat) (D : Addr) (H' : Hp) (F : V → Hp → Prop), i < n → Same H H' → H D = none → (∀ y H4, Same H' H4 → Rel i y H4 → F y H4) → g (.int (i : Int)) (wipe σ vs) H' fun σ2 H2 => wipe σ2 vs = wipe σ vs ∧ te σ2 H2 F)
    (hd : ∀ D H' ys, H D = none → Same H H' → H' D = some (.lst ys) → ys.length = n → (∀ j y, ys[j]? = some y → Rel j y H') → Q (.ref D) H') : tLc (iRng1 ta) g tYes te vs σ H Q := by
  refine h _ ⟨n, rfl, by omega, by omega, fun D hD => ?_⟩
  refine lc_range (lo := 0) (n := n) (fun i H' => ∃ ys, H' D = some (.lst ys) ∧ ys.length = i ∧ Same H H' ∧ ∀ j y, ys[j]? = some y → Rel j y H') ⟨[], upd_same, rfl, fun b o e => by rw [upd_ne (ne_of_none e hD)]; exact e, fun j y e => by simp at e⟩ ?_ ?_
  · rintro i H' hi ⟨ys, hl, hk, hs, hr⟩
    rw [Int.zero_add]
    have st := step i D H' (fun y H4 => ∃ acc, H4 D = some (.lst acc) ∧ acc.length < sizeLine ∧ (∃ zs, upd H4 D (.lst (acc ++ [y])) D = some (.lst zs) ∧ zs.length = i + 1 ∧ Same H (upd H4 D (.lst (acc ++ [y]))) ∧ ∀ j y', zs[j]? = some y' → Rel j y' (upd H4 D (.lst (acc ++ [y]))))) hi hs hD (fun y H4 s4 r4 => by
      obtain ⟨acc, e1, e2, e3⟩ := lc_pv mono hD hl hk hs hr s4 r4
      exact ⟨acc, e1, by rw [e2, hk]; exact len_line (by omega), e3⟩)
    simp only [tYes, if_true]
    exact st
  · rintro H' ⟨ys, hl, hk, hs, hr⟩
    exact hd D H' ys hD hs hl hk hr
theorem lc_l {K : PySem.W.Frag} {tl : TE} {g : TG} {te : TE} {vs : List Nat} {σ : L2.St} {H : Hp} {Q : VK} {a : Addr} {xs : List V} (hn : xs.length ≤ 100000) (h : ∀ R : VK, R (.ref a) H → tl σ H R) (hx : SqL K H a xs) (Rel : Nat → V → Hp → Prop) (mono : ∀ i, LMono (Rel i))
    (step : ∀ (i : Nat) (x : V) (D : Addr) (H' : Hp) (F : V → Hp → Prop), xs[i]? = some x → Same H H' → H D = none → (∀ y H4, Same H' H4 → Rel i y H4 → F y H4) → g x (wipe σ vs) H' fun σ2 H2 => wipe σ2 vs = wipe σ vs ∧ te σ2 H2 F)
    (hd : ∀ D H' ys, H D = none → Same H H' → H' D = some (.lst ys) → ys.length = xs.length → (∀ j y, ys[j]? = some y → Rel j y H') → Q (.ref D) H') : tLc (iList K tl) g tYes te vs σ H Q := by
  refine h _ ⟨a, rfl, ⟨xs, hx⟩, fun D hD => ?_⟩
  refine lc_list (K := K) (a := a) (xs := xs) (fun i H' => ∃ ys, H' D = some (.lst ys) ∧ ys.length = i ∧ Same H H' ∧ ∀ j y, ys[j]? = some y → Rel j y H') ⟨[], upd_same, rfl, fun b o e => by rw [upd_ne (ne_of_none e hD)]; exact e, fun j y e => by simp at e⟩ ?_ ?_ ?_
  · rintro i H' _ ⟨ys, _, _, hs, _⟩
    exact hs.seq hx
  · rintro i x H' hi ⟨ys, hl, hk, hs, hr⟩
    have hil := (List.getElem?_eq_some_iff.mp hi).1
    have st := step i x D H' (fun y H4 => ∃ acc, H4 D = some (.lst acc) ∧ acc.length < sizeLine ∧ (∃ zs, upd H4 D (.lst (acc ++ [y])) D = some (.lst zs) ∧ zs.length = i + 1 ∧ Same H (upd H4 D (.lst (acc ++ [y]))) ∧ ∀ j y', zs[j]? = some y' → Rel j y' (upd H4 D (.lst (acc ++ [y]))))) hi hs hD (fun y H4 s4 r4 => by
      obtain ⟨acc, e1, e2, e3⟩ := lc_pv mono hD hl hk hs hr s4 r4
      exact ⟨acc, e1, by rw [e2, hk]; exact len_line (by omega), e3⟩)
    simp only [tYes, if_true]
    exact st
  · rintro H' ⟨ys, hl, hk, hs, hr⟩
    exact hd D H' ys hD hs hl hk hr
theorem lm_tup {ps : List V} : LMono (fun y H => ∃ t, y = .ref t ∧ H t = some (.tup ps)) := by
  rintro y D H1 H2 ⟨l, hl⟩ k ⟨t, rfl, ht⟩
  exact ⟨t, rfl, k t _ (ne_of ht hl (by intro z; cases z)) ht⟩
theorem for_tx {K : PySem.W.Frag} {te : TE} {g : TG} {tb : TS} {D : Ends} {σ : L2.St} {H : Hp} (cond : Hp → List V → Prop) (h : ∀ R : VK, (∀ (a : Addr) (H1 : Hp) (xs : List V), Same H H1 → H1 a = some (.tup xs) → cond H1 xs → R (.ref a) H1) → te σ H R)
    (k : ∀ (a : Addr) (H1 : Hp) (xs : List V), Same H H1 → H1 a = some (.tup xs) → cond H1 xs → ∃ Pv : Nat → L2.St → Hp → Prop, Pv 0 σ H1 ∧ (∀ i σ H, Pv i σ H → Same H1 H) ∧
      (∀ i x σ H, xs[i]? = some x → Pv i σ H → g x σ H fun σ2 H2 => tb { D with nx := Pv (i + 1), ct := Pv (i + 1), bk := D.nx } σ2 H2) ∧ ∀ σ H, Pv xs.length σ H → D.nx σ H) : tFor (iTup K te) g tb D σ H := by
  refine h _ fun a H1 xs s ha hc => ?_
  obtain ⟨Pv, p0, p1, p2, p3⟩ := k a H1 xs s ha hc
  exact ⟨a, rfl, ⟨_, SqT.of ha⟩, for_tup (xs := xs) Pv p0 (fun i σ H _ hp => SqT.of (p1 i σ H hp _ _ ha)) p2 p3⟩
theorem for_lx {K : PySem.W.Frag} {te : TE} {g : TG} {tb : TS} {D : Ends} {σ : L2.St} {H : Hp} (cond : Hp → List V → Prop) (h : ∀ R : VK, (∀ (a : Addr) (H1 : Hp) (xs : List V), Same H H1 → H1 a = some (.lst xs) → cond H1 xs → R (.ref a) H1) → te σ H R)
    (k : ∀ (a : Addr) (H1 : Hp) (xs : List V), Same H H1 → H1 a = some (.lst xs) → cond H1 xs → ∃ Pv : Nat → L2.St → Hp → Prop, Pv 0 σ H1 ∧ (∀ i σ H, Pv i σ H → Same H1 H) ∧
      (∀ i x σ H, xs[i]? = some x → Pv i σ H → g x σ H fun σ2 H2 => tb { D with nx := Pv (i + 1), ct := Pv (i + 1), bk := D.nx } σ2 H2) ∧ ∀ σ H, Pv xs.length σ H → D.nx σ H) : tFor (iList K te) g tb D σ H := by
  refine h _ fun a H1 xs s ha hc => ?_
  obtain ⟨Pv, p0, p1, p2, p3⟩ := k a H1 xs s ha hc
  exact ⟨a, rfl, ⟨_, SqL.of ha⟩, for_list (xs := xs) Pv p0 (fun i σ H _ hp => SqL.of (p1 i σ H hp _ _ ha)) p2 p3⟩
/-- != of two pairs of ints that are one -/
theorem ne_pair {K : PySem.W.Frag} {H : Hp} {a b : Addr} {x y : Int} {Q : VK} (ha : H a = some (.tup [.int x, .int y])) (hb : H b = some (.tup [.int x, .int y])) (q : Q (.bl false) H) : rNeD K (.ref a) (.ref b) H Q :=
  ⟨.tuple [.int x, .int y], .tuple [.int x, .int y], .tup (SqT.of ha) (.cons (.int _) (.cons (.int _) .nil)), .tup (SqT.of hb) (.cons (.int _) (.cons (.int _) .nil)), rfl, rfl, by
    have e : PyData.eqv (.tuple [.int x, .int y]) (.tuple [.int x, .int y]) = true := by simp [PyData.eqv, PyData.eqvAll]
    rw [e]
    exact q⟩
theorem dig_at {K : PySem.W.Frag} {H : Hp} {l : Addr} {ds : List Int} {k : Int} {Q : VK} (hl : H l = some (.lst (ds.map V.int))) (h0 : 0 ≤ k) (h1 : k < ds.length) (q : Q (.int (ds.getD k.toNat 0)) H) : rIxL K (.ref l) (.int k) H Q := by
  obtain ⟨j, rfl⟩ := Int.eq_ofNat_of_zero_le h0
  have hj : j < ds.length := by omega
  refine ixL_at j hl (v := .int (ds.getD j 0)) ?_ q
  rw [List.getElem?_map, List.getElem?_eq_getElem hj, List.getD_eq_getElem?_getD, List.getElem?_eq_getElem hj] <;> rfl
theorem dig_b {ds : List Int} {size : Int} (hb : ∀ d ∈ ds, 0 ≤ d ∧ d < size) {j : Nat} (hj : j < ds.length) : 0 ≤ ds.getD j 0 ∧ ds.getD j 0 < size := by
  rw [List.getD_eq_getElem?_getD, List.getElem?_eq_getElem hj]
  exact hb _ (List.getElem_mem hj)
end TL

namespace K30
open PySem PySem.Spec PyProof.Rows L2 TL PL
def top (i : Nat) : Stmt := PySem.Challenge.pw_tellsnone_k30_bounds.main.body.getD i (.Pass ⟨0, 0, 0, 0⟩)
abbrev s_Ratio_init : Stmt := inClass (top 5) 0
abbrev N_Ratio_init : List Str := ["self", "num", "den", "divisor", "rest"]
theorem sc_Ratio_init : FnScope N_Ratio_init ["self", "num", "den"] (defScope s_Ratio_init) := ⟨rfl, rfl, rfl, by decide +kernel, rfl, by decide +kernel, by decide +kernel⟩
abbrev s_Ratio_add : Stmt := inClass (top 5) 1
abbrev N_Ratio_add : List Str := ["self", "other"]
theorem sc_Ratio_add : FnScope N_Ratio_add ["self", "other"] (defScope s_Ratio_add) := ⟨rfl, rfl, rfl, by decide +kernel, rfl, by decide +kernel, by decide +kernel⟩
abbrev s_Ratio_sub : Stmt := inClass (top 5) 2
abbrev N_Ratio_sub : List Str := ["self", "other"]
theorem sc_Ratio_sub : FnScope N_Ratio_sub ["self", "other"] (defScope s_Ratio_sub) := ⟨rfl, rfl, rfl, by decide +kernel, rfl, by decide +kernel, by decide +kernel⟩
abbrev s_Ratio_mul : Stmt := inClass (top 5) 3
abbrev N_Ratio_mul : List Str := ["self", "other"]
theorem sc_Ratio_mul : FnScope N_Ratio_mul ["self", "other"] (defScope s_Ratio_mul) := ⟨rfl, rfl, rfl, by decide +kernel, rfl, by decide +kernel, by decide +kernel⟩
abbrev s_Ratio_eq : Stmt := inClass (top 5) 4
abbrev N_Ratio_eq : List Str := ["self", "other"]
theorem sc_Ratio_eq : FnScope N_Ratio_eq ["self", "other"] (defScope s_Ratio_eq) := ⟨rfl, rfl, rfl, by decide +kernel, rfl, by decide +kernel, by decide +kernel⟩
abbrev s_Ratio_str : Stmt := inClass (top 5) 5
abbrev N_Ratio_str : List Str := ["self"]
theorem sc_Ratio_str : FnScope N_Ratio_str ["self"] (defScope s_Ratio_str) := ⟨rfl, rfl, rfl, by decide +kernel, rfl, by decide +kernel, by decide +kernel⟩
abbrev s_Ratio_below : Stmt := inClass (top 5) 6
abbrev N_Ratio_below : List Str := ["self", "other"]
theorem sc_Ratio_below : FnScope N_Ratio_below ["self", "other"] (defScope s_Ratio_below) := ⟨rfl, rfl, rfl, by decide +kernel, rfl, by decide +kernel, by decide +kernel⟩
abbrev s_Bound_init : Stmt := inClass (top 7) 0
abbrev N_Bound_init : List Str := ["self", "flat", "first", "more", "limit", "ratio"]
theorem sc_Bound_init : FnScope N_Bound_init ["self", "flat", "first", "more", "limit"] (defScope s_Bound_init) := ⟨rfl, rfl, rfl, by decide +kernel, rfl, by decide +kernel, by decide +kernel⟩
abbrev s_Bound_eq : Stmt := inClass (top 7) 1
abbrev N_Bound_eq : List Str := ["self", "other"]
theorem sc_Bound_eq : FnScope N_Bound_eq ["self", "other"] (defScope s_Bound_eq) := ⟨rfl, rfl, rfl, by decide +kernel, rfl, by decide +kernel, by decide +kernel⟩
abbrev s_Bound_parts : Stmt := inClass (top 7) 2
abbrev N_Bound_parts : List Str := ["self"]
theorem sc_Bound_parts : FnScope N_Bound_parts ["self"] (defScope s_Bound_parts) := ⟨rfl, rfl, rfl, by decide +kernel, rfl, by decide +kernel, by decide +kernel⟩
abbrev s_Bound_at : Stmt := inClass (top 7) 3
abbrev N_Bound_at : List Str := ["self", "calls", "result"]
theorem sc_Bound_at : FnScope N_Bound_at ["self", "calls"] (defScope s_Bound_at) := ⟨rfl, rfl, rfl, by decide +kernel, rfl, by decide +kernel, by decide +kernel⟩
abbrev s_Bound_plus : Stmt := inClass (top 7) 4
abbrev N_Bound_plus : List Str := ["self", "other", "limit"]
theorem sc_Bound_plus : FnScope N_Bound_plus ["self", "other"] (defScope s_Bound_plus) := ⟨rfl, rfl, rfl, by decide +kernel, rfl, by decide +kernel, by decide +kernel⟩
abbrev s_Bound_within : Stmt := inClass (top 7) 5
abbrev N_Bound_within : List Str := ["self", "asks", "limit", "first"]
theorem sc_Bound_within : FnScope N_Bound_within ["self", "asks"] (defScope s_Bound_within) := ⟨rfl, rfl, rfl, by decide +kernel, rfl, by decide +kernel, by decide +kernel⟩
abbrev s_nothing : Stmt := top 8
abbrev N_nothing : List Str := []
theorem sc_nothing : FnScope N_nothing [] (defScope s_nothing) := ⟨rfl, rfl, rfl, by decide +kernel, rfl, by decide +kernel, by decide +kernel⟩
abbrev s_l_cell : Stmt := top 10
abbrev N_l_cell : List Str := ["_law_script", "_law_k"]
theorem sc_l_cell : FnScope N_l_cell ["_law_script", "_law_k"] (defScope s_l_cell) := ⟨rfl, rfl, rfl, by decide +kernel, rfl, by decide +kernel, by decide +kernel⟩
abbrev s_l_is_integer : Stmt := top 11
abbrev N_l_is_integer : List Str := ["_law_actual"]
theorem sc_l_is_integer : FnScope N_l_is_integer ["_law_actual"] (defScope s_l_is_integer) := ⟨rfl, rfl, rfl, by decide +kernel, rfl, by decide +kernel, by decide +kernel⟩
abbrev s_l_row : Stmt := top 12
abbrev N_l_row : List Str := ["_law_cell_here", "_law_count", "_law_size", "_law_state", "_law_row_here", "_law_k"]
theorem sc_l_row : FnScope N_l_row ["_law_cell_here", "_law_count", "_law_size"] (defScope s_l_row) := ⟨rfl, rfl, rfl, by decide +kernel, rfl, by decide +kernel, by decide +kernel⟩
abbrev s_l_less : Stmt := top 13
abbrev N_l_less : List Str := ["_law_num", "_law_den", "_law_a", "_law_b", "_law_k", "_law_c"]
theorem sc_l_less : FnScope N_l_less ["_law_num", "_law_den"] (defScope s_l_less) := ⟨rfl, rfl, rfl, by decide +kernel, rfl, by decide +kernel, by decide +kernel⟩
abbrev s_l_plus : Stmt := top 14
abbrev N_l_plus : List Str := ["_law_one", "_law_other"]
theorem sc_l_plus : FnScope N_l_plus ["_law_one", "_law_other"] (defScope s_l_plus) := ⟨rfl, rfl, rfl, by decide +kernel, rfl, by decide +kernel, by decide +kernel⟩
abbrev s_l_times : Stmt := top 15
abbrev N_l_times : List Str := ["_law_one", "_law_other"]
theorem sc_l_times : FnScope N_l_times ["_law_one", "_law_other"] (defScope s_l_times) := ⟨rfl, rfl, rfl, by decide +kernel, rfl, by decide +kernel, by decide +kernel⟩
abbrev s_l_drawn : Stmt := top 16
abbrev N_l_drawn : List Str := ["_law_cell_here", "_law_digits", "_law_tall", "_law_parts", "_law_k", "_law_part", "_law_limit"]
theorem sc_l_drawn : FnScope N_l_drawn ["_law_cell_here"] (defScope s_l_drawn) := ⟨rfl, rfl, rfl, by decide +kernel, rfl, by decide +kernel, by decide +kernel⟩
abbrev s_l_made : Stmt := top 17
abbrev N_l_made : List Str := ["_law_drawn_here", "_law_parts", "_law_pair"]
theorem sc_l_made : FnScope N_l_made ["_law_drawn_here"] (defScope s_l_made) := ⟨rfl, rfl, rfl, by decide +kernel, rfl, by decide +kernel, by decide +kernel⟩
abbrev s_l_at : Stmt := top 18
abbrev N_l_at : List Str := ["_law_drawn_here", "_law_calls", "_law_result"]
theorem sc_l_at : FnScope N_l_at ["_law_drawn_here", "_law_calls"] (defScope s_l_at) := ⟨rfl, rfl, rfl, by decide +kernel, rfl, by decide +kernel, by decide +kernel⟩
abbrev s_l_plus_of : Stmt := top 19
abbrev N_l_plus_of : List Str := ["_law_one", "_law_other", "_law_limits", "_law_drawn_here", "_law_limit", "_law_k"]
theorem sc_l_plus_of : FnScope N_l_plus_of ["_law_one", "_law_other"] (defScope s_l_plus_of) := ⟨rfl, rfl, rfl, by decide +kernel, rfl, by decide +kernel, by decide +kernel⟩
abbrev s_l_within : Stmt := top 20
abbrev N_l_within : List Str := ["_law_drawn_here", "_law_asks", "_law_limit", "_law_parts", "_law_first"]
theorem sc_l_within : FnScope N_l_within ["_law_drawn_here", "_law_asks"] (defScope s_l_within) := ⟨rfl, rfl, rfl, by decide +kernel, rfl, by decide +kernel, by decide +kernel⟩
abbrev s_l_is : Stmt := top 21
abbrev N_l_is : List Str := ["_law_actual", "_law_due", "_law_wide", "_law_pair", "_law_calls", "_law_told_here"]
theorem sc_l_is : FnScope N_l_is ["_law_actual", "_law_due", "_law_wide"] (defScope s_l_is) := ⟨rfl, rfl, rfl, by decide +kernel, rfl, by decide +kernel, by decide +kernel⟩
abbrev s_l_refused : Stmt := top 22
abbrev N_l_refused : List Str := ["_law_flat", "_law_first", "_law_more", "_law_limit", "e"]
theorem sc_l_refused : FnScope N_l_refused ["_law_flat", "_law_first", "_law_more", "_law_limit"] (defScope s_l_refused) := ⟨rfl, rfl, rfl, by decide +kernel, rfl, by decide +kernel, by decide +kernel⟩
abbrev s_l_told : Stmt := top 23
abbrev N_l_told : List Str := ["_law_drawn_here", "_law_pair"]
theorem sc_l_told : FnScope N_l_told ["_law_drawn_here"] (defScope s_l_told) := ⟨rfl, rfl, rfl, by decide +kernel, rfl, by decide +kernel, by decide +kernel⟩
abbrev s_law : Stmt := top 24
abbrev N_law : List Str := ["_law_script", "_law_one", "_law_other", "_law_asks", "_law_wide", "_law_bounds", "_law_plus_here", "_law_inner", "_law_empty", "_law_calls", "_law_low", "_law_zero", "_law_parts", "_law_part", "_law_below", "_law_k", "_law_row_here"]
theorem sc_law : FnScope N_law ["_law_script"] (defScope s_law) := ⟨rfl, rfl, rfl, by decide +kernel, rfl, by decide +kernel, by decide +kernel⟩
def fn : List He.DefD := [TL.mkM "Ratio" "__init__" "Ratio.__init__" s_Ratio_init [.int 1],
  TL.mkM "Ratio" "__add__" "Ratio.__add__" s_Ratio_add [],
  TL.mkM "Ratio" "__sub__" "Ratio.__sub__" s_Ratio_sub [],
  TL.mkM "Ratio" "__mul__" "Ratio.__mul__" s_Ratio_mul [],
  TL.mkM "Ratio" "__eq__" "Ratio.__eq__" s_Ratio_eq [],
  TL.mkM "Ratio" "__str__" "Ratio.__str__" s_Ratio_str [],
  TL.mkM "Ratio" "below" "Ratio.below" s_Ratio_below [],
  TL.mkM "Bound" "__init__" "Bound.__init__" s_Bound_init [.non],
  TL.mkM "Bound" "__eq__" "Bound.__eq__" s_Bound_eq [],
  TL.mkM "Bound" "parts" "Bound.parts" s_Bound_parts [],
  TL.mkM "Bound" "at" "Bound.at" s_Bound_at [],
  TL.mkM "Bound" "plus" "Bound.plus" s_Bound_plus [],
  TL.mkM "Bound" "within" "Bound.within" s_Bound_within [],
  TL.mkD "nothing" s_nothing [],
  TL.mkD "_law_cell" s_l_cell [],
  TL.mkD "_law_is_integer" s_l_is_integer [],
  TL.mkD "_law_row" s_l_row [],
  TL.mkD "_law_less" s_l_less [],
  TL.mkD "_law_plus" s_l_plus [],
  TL.mkD "_law_times" s_l_times [],
  TL.mkD "_law_drawn" s_l_drawn [],
  TL.mkD "_law_made" s_l_made [],
  TL.mkD "_law_at" s_l_at [],
  TL.mkD "_law_plus_of" s_l_plus_of [],
  TL.mkD "_law_within" s_l_within [],
  TL.mkD "_law_is" s_l_is [],
  TL.mkD "_law_refused" s_l_refused [],
  TL.mkD "_law_told" s_l_told [],
  TL.mkD "law" s_law []]
def exl : List (PySem.W.Frag → Bool) := [TL.selfB "Ratio", TL.neB "Bound", TL.insB "Ratio", TL.insB "Bound", TL.excB "BadBound", TL.isB "BadBound" "BadStep" false]
def fa : List He.Fa := [.free "abs", .exc "BadBound", .glo "BadBound", .glo "Ratio", .mkr "Ratio", .cls "Ratio", .meth "Ratio" "__add__", .meth "Ratio" "__sub__", .meth "Ratio" "__mul__", .free "isinstance", .meth "Ratio" "__eq__", .meth "Ratio" "__str__", .meth "Ratio" "below", .glo "Bound", .mkr "Bound", .cls "Bound", .meth "Bound" "__eq__", .free "str", .meth "Bound" "parts", .meth "Bound" "at", .meth "Bound" "plus", .meth "Bound" "within", .glo "nothing", .free "len", .glo "_law_cell", .free "bool", .free "int", .glo "_law_is_integer", .free "range", .glo "_law_row", .glo "_law_less", .glo "_law_plus", .glo "_law_times", .glo "_law_drawn", .glo "_law_made", .glo "_law_at", .free "min", .glo "_law_plus_of", .glo "_law_within", .free "list", .glo "_law_is", .exc "PlayError", .glo "PlayError", .glo "BadStep", .glo "_law_refused", .glo "_law_told", .glo "law", .noat "Ratio" "num", .noat "Ratio" "den", .noat "Bound" "flat", .noat "Bound" "first", .noat "Bound" "more", .noat "Bound" "limit", .exm "BadBound" "PlayError" true]
abbrev Tk := Tx fa fn exl
theorem nd_kn : ¬ ("num" : Str) = "den" := by decide +kernel
def RatF (p : Int × Int) : List (Str × V) := putF "den" (.int p.2) (putF "num" (.int p.1) [])
theorem RatF_num (p) : (RatF p).lookup ("num" : Str) = some (.int p.1) := by
  unfold RatF
  rw [lookup_putF, if_neg nd_kn, lookup_putF, if_pos rfl]
theorem RatF_den (p) : (RatF p).lookup ("den" : Str) = some (.int p.2) := by
  unfold RatF
  rw [lookup_putF, if_pos rfl]
theorem RatF_no (p) {m : Str} (h1 : ¬ m = "num") (h2 : ¬ m = "den") : (RatF p).lookup m = none := by
  unfold RatF
  rw [lookup_putF, if_neg h2, lookup_putF, if_neg h1] <;> rfl
section
variable {P : Program} {w : World} {K : PySem.W.Frag} {mg : Str → Option Value} {base : Heap}
def spCell (K : PySem.W.Frag) (a : Addr) (ns : List Int) : Sp := fun vs H Q _ => ∃ (k : Int), vs = [.ref a, .int k] ∧ SqL K H a (ns.map V.int) ∧ 0 ≤ k ∧ Q (.int (ns.getD k.toNat 0)) H
theorem ok_l_cell (T : Tk K mg) (a : Addr) (ns : List Int) : Okd P w K mg base (L2.CX P w) 1 "_law_cell" ["_law_script", "_law_k"] (spCell K a ns) := by
  refine Okd.of s_l_cell (T.df 14) (T.glo 24) sc_l_cell (fun _ _ _ _ _ _ us hl => match us, hl with | [_, _], _ => rfl) (fun vs H Q E h => ?_) (fun cdv A outer s H vs Q E h hr hpo tk px pxe => ?_)
  · obtain ⟨k, rfl, _⟩ := h; rfl
  obtain ⟨k, rfl, hS, hk, hQ⟩ := h
  refine ⟨_, (pss_cons (ps_if (pt_cmpR op_lt (pv 1) (pe_callB call_len_seq (by rfl) (T.free 23) (by decide +kernel) (pa_cons (pv 0) pa_nil)) (nomark _)) (pss_one (ps_ret (pe_ix ix_list (pv 0) (pv 1) (fun _ _ => rfl)))) pss_nil)
  (pss_one (ps_ret pe_int))), ?_⟩
  simp only [tSeq, tIfS, tTest, tOp, tVar, tC, tCB, tCons, tNil, tRet, tAsg, gName, tNext, tDrop, rI, rI0, rEq, rNe, sc_ii, sc_ss, sc_bb, sc_in, sc_ni, sc_nn, sc_si, sc_is, List.getElem?_cons_zero, List.getElem?_cons_succ, List.set_cons_zero, List.set_cons_succ, Option.some.injEq, exists_eq_left', exists_eq_left, L2.start, cxOf, List.cons.injEq, and_true, exists_and_left, exists_and_right, exists_eq', V.int.injEq, V.bl.injEq, V.str.injEq, V.ref.injEq, List.length_cons, List.length_nil, List.cons_append, List.nil_append, true_and, List.map, List.replicate, tAndV, tOrV, tNotV, tTest, tB, tNot, tAnd, tOr, Nat.zero_add, Nat.reduceAdd, Nat.reduceSub, Nat.sub_self, sFld, tFld, tPar, tMake, tCall, tMeth, tTup, tLst, HO.ins.injEq, and_assoc, reduceCtorEq, false_and, exists_false, false_or, or_false, tFmt, tJs, tBreak, tCont, tMakeS, tCallS, Int.zero_add, if_true, if_false, Bool.false_eq_true, Bool.not_true, Bool.not_false, tUn, rU, tNotN, tIsN, decide_true, decide_false, tBM, rAppend, HO.lst.injEq, HO.tup.injEq, wipe, tLstRg, tRg1]
  refine ⟨_, .inl hS, ?_⟩
  rw [List.length_map]
  refine ite2 (fun c => ?_) (fun c => ?_)
  · have c' : k < (ns.length : Int) := of_decide_eq_true c
    obtain ⟨j, rfl⟩ := Int.eq_ofNat_of_zero_le hk
    have hj : j < ns.length := by omega
    refine ⟨a, _, _, _, rfl, rfl, hS, atI_nat (v := .int (ns.getD j 0)) ?_, hQ⟩
    rw [List.getElem?_map, List.getElem?_eq_getElem hj, List.getD_eq_getElem?_getD, List.getElem?_eq_getElem hj]
    rfl
  · have c' : ¬ k < (ns.length : Int) := fun z => c (decide_eq_true z)
    have e : ns.getD k.toNat 0 = 0 := by
      rw [List.getD_eq_getElem?_getD, List.getElem?_eq_none (by omega)]; rfl
    rw [e] at hQ
    exact hQ
def spIsInt : Sp := fun vs H Q _ => ∃ i : Int, vs = [.int i] ∧ Q (.bl true) H
theorem ok_l_is_integer (T : Tk K mg) : Okd P w K mg base (L2.CX P w) 1 "_law_is_integer" ["_law_actual"] spIsInt := by
  refine Okd.of s_l_is_integer (T.df 15) (T.glo 27) sc_l_is_integer (fun _ _ _ _ _ _ us hl => match us, hl with | [_], _ => rfl) (fun vs H Q E h => ?_) (fun cdv A outer s H vs Q E h hr hpo tk px pxe => ?_)
  · obtain ⟨i, rfl, _⟩ := h; rfl
  obtain ⟨i, rfl, hQ⟩ := h
  refine ⟨_, (pss_one (ps_ret (pe_and (pe_callB call_isi (by rfl) (T.free 9) (by decide +kernel) (pa_cons (pv 0) (pa_cons (pe_bltn (v := .ty "int") (by rfl) (T.free 26) (by decide +kernel) rfl) pa_nil))) (pe_one (pe_not (pe_callB call_isi (by rfl) (T.free 9) (by decide +kernel) (pa_cons (pv 0) (pa_cons (pe_bltn (v := .ty "bool") (by rfl) (T.free 25) (by decide +kernel) rfl) pa_nil)))))))), ?_⟩
  simp only [tSeq, tIfS, tTest, tOp, tVar, tC, tCB, tCons, tNil, tRet, tAsg, gName, tNext, tDrop, rI, rI0, rEq, rNe, sc_ii, sc_ss, sc_bb, sc_in, sc_ni, sc_nn, sc_si, sc_is, List.getElem?_cons_zero, List.getElem?_cons_succ, List.set_cons_zero, List.set_cons_succ, Option.some.injEq, exists_eq_left', exists_eq_left, L2.start, cxOf, List.cons.injEq, and_true, exists_and_left, exists_and_right, exists_eq', V.int.injEq, V.bl.injEq, V.str.injEq, V.ref.injEq, List.length_cons, List.length_nil, List.cons_append, List.nil_append, true_and, List.map, List.replicate, tAndV, tOrV, tNotV, tTest, tB, tNot, tAnd, tOr, Nat.zero_add, Nat.reduceAdd, Nat.reduceSub, Nat.sub_self, sFld, tFld, tPar, tMake, tCall, tMeth, tTup, tLst, HO.ins.injEq, and_assoc, reduceCtorEq, false_and, exists_false, false_or, or_false, tFmt, tJs, tBreak, tCont, tMakeS, tCallS, Int.zero_add, if_true, if_false, Bool.false_eq_true, Bool.not_true, Bool.not_false, tUn, rU, tNotN, tIsN, decide_true, decide_false, tBM, rAppend, HO.lst.injEq, HO.tup.injEq, wipe, tLstRg, tRg1]
  refine isi_int (b := true) (by decide +kernel) ⟨true, rfl, iteT (isi_int (b := false) (by decide +kernel) ⟨false, rfl, hQ⟩)⟩
def spInit (K : PySem.W.Frag) : Sp := fun vs H Q E => ∃ (p dx : Addr) (n d : Int), vs = [.ref p, .int n, .int d] ∧ H p = some (.ins (He.ga K "Ratio") dx []) ∧ Lt2 d 900 ∧
  (d ≤ 0 → E (.ref (He.ga K "BadBound")) none H) ∧ (0 < d → ∀ H', (∀ b, b ≠ p → H' b = H b) → H' p = some (.ins (He.ga K "Ratio") dx (RatF (red n d))) → Q .non H')
theorem init_body (T : Tk K mg) : BodyOk P w K mg base N_Ratio_init "Ratio.__init__" s_Ratio_init (He.ma K (He.ga K "Ratio") "__init__") 0 (spInit K) := by
  intro cdv A outer s H vs Q E h hr hpo tk px pxe
  obtain ⟨p, dx, n, d, rfl, hp, hd, hbad, hok⟩ := h
  refine ⟨_, (pss_cons (ps_if (pt_cmpR op_le (pv 2) pe_int (nomark _)) (pss_one (ps_raise rfl tk (pmk_own PySem.F.excBase_ValueError (T.exc 1).1 (T.glo 2) (T.exc 1).2.1 (raises_own (T.exc 1).2.2.1 (T.exc 1).2.2.2) (by rfl)))) pss_nil)
  (pss_cons (ps_set (i := 3) sc_Ratio_init.nd rfl (Or.inl rfl) (pv 2))
  (pss_cons (ps_set (i := 4) sc_Ratio_init.nd rfl (Or.inl rfl) (pe_callB call_abs (by rfl) (T.free 0) (by decide +kernel) (pa_cons (pv 1) pa_nil)))
  (pss_cons (ps_while hpo (pt_truth (pv 4) (fun _ => rfl)) (pss_one (ps_par (i := 3) (j := 4) rfl sc_Ratio_init.nd rfl rfl (by decide) rfl rfl (pa_cons (pv 4) (pa_cons (pe_op op_mod (pv 3) (pv 4)) pa_nil)) (by rfl))))
  (pss_cons (ps_fld (pv 0) (pe_op op_fdivW (pv 1) (pv 3)) rfl)
  (pss_one (ps_fld (pv 0) (pe_op op_fdivW (pv 2) (pv 3)) rfl))))))), ?_⟩
  clear hr hpo tk px pxe
  simp only [tSeq, tIfS, tTest, tOp, tVar, tC, tCB, tCons, tNil, tRet, tAsg, gName, tNext, tDrop, rI, rI0, rEq, rNe, sc_ii, sc_ss, sc_bb, sc_in, sc_ni, sc_nn, sc_si, sc_is, List.getElem?_cons_zero, List.getElem?_cons_succ, List.set_cons_zero, List.set_cons_succ, Option.some.injEq, exists_eq_left', exists_eq_left, L2.start, cxOf, List.cons.injEq, and_true, exists_and_left, exists_and_right, exists_eq', V.int.injEq, V.bl.injEq, V.str.injEq, V.ref.injEq, List.length_cons, List.length_nil, List.cons_append, List.nil_append, true_and, List.map, List.replicate, tAndV, tOrV, tNotV, tTest, tB, tNot, tAnd, tOr, Nat.zero_add, Nat.reduceAdd, Nat.reduceSub, Nat.sub_self, sFld, tFld, tPar, tMake, tCall, tMeth, tTup, tLst, HO.ins.injEq, and_assoc, reduceCtorEq, false_and, exists_false, false_or, or_false, tFmt, tJs, tBreak, tCont, tMakeS, tCallS, Int.zero_add, if_true, if_false, Bool.false_eq_true, Bool.not_true, Bool.not_false, tUn, rU, tNotN, tIsN, decide_true, decide_false, tBM, rAppend, HO.lst.injEq, HO.tup.injEq, wipe, tLstRg, tRg1]
  refine ite2 (fun c => hbad (of_decide_eq_true c)) (fun c => ?_)
  have hd0 : 0 < d := by
    have : ¬ d ≤ 0 := fun z => c (decide_eq_true z)
    omega
  have habs : (if n < 0 then -n else n) = ((n.natAbs : Nat) : Int) := by split <;> omega
  rw [habs]
  refine ⟨fun m σ H' => ∃ a b : Int, σ = [some (.ref p), some (.int n), some (.int d), some (.int a), some (.int b)] ∧ H' = H ∧ 0 < a ∧ 0 ≤ b ∧ Int.gcd a b = Int.gcd n d ∧ b.toNat = m, ⟨_, d, _, rfl, rfl, hd0, by omega, ?_, rfl⟩, ?_⟩
  · rw [Int.gcd_comm n d, Int.gcd_eq_natAbs_gcd_natAbs, Int.gcd_eq_natAbs_gcd_natAbs, Int.natAbs_natCast]
  rintro m σ H' ⟨a, b, rfl, rfl, ha, hb, hg, rfl⟩
  refine ⟨.int b, rfl, _, rfl, ?_⟩
  refine ite2 (fun c => ?_) (fun c => ?_)
  · have hb0 : b ≠ 0 := by simpa using c
    have hbp : 0 < b := by omega
    refine ⟨_, fun _ _ h => h, ?_⟩
    simp only [tSeq, tIfS, tTest, tOp, tVar, tC, tCB, tCons, tNil, tRet, tAsg, gName, tNext, tDrop, rI, rI0, rEq, rNe, sc_ii, sc_ss, sc_bb, sc_in, sc_ni, sc_nn, sc_si, sc_is, List.getElem?_cons_zero, List.getElem?_cons_succ, List.set_cons_zero, List.set_cons_succ, Option.some.injEq, exists_eq_left', exists_eq_left, L2.start, cxOf, List.cons.injEq, and_true, exists_and_left, exists_and_right, exists_eq', V.int.injEq, V.bl.injEq, V.str.injEq, V.ref.injEq, List.length_cons, List.length_nil, List.cons_append, List.nil_append, true_and, List.map, List.replicate, tAndV, tOrV, tNotV, tTest, tB, tNot, tAnd, tOr, Nat.zero_add, Nat.reduceAdd, Nat.reduceSub, Nat.sub_self, sFld, tFld, tPar, tMake, tCall, tMeth, tTup, tLst, HO.ins.injEq, and_assoc, reduceCtorEq, false_and, exists_false, false_or, or_false, tFmt, tJs, tBreak, tCont, tMakeS, tCallS, Int.zero_add, if_true, if_false, Bool.false_eq_true, Bool.not_true, Bool.not_false, tUn, rU, tNotN, tIsN, decide_true, decide_false, tBM, rAppend, HO.lst.injEq, HO.tup.injEq, wipe, tLstRg, tRg1]
    have e0 := Int.emod_nonneg a hb0
    have e1 := Int.emod_lt_of_pos a hbp
    exact ⟨hbp, (a % b).toNat, by omega, hbp, e0, by rw [gcd_step (by omega) hbp, hg], rfl⟩
  · have hb0 : b = 0 := by simpa using c
    subst hb0
    have hga : a = (Int.gcd n d : Int) := by rw [← hg, Int.gcd_zero_right]; omega
    have hgl := gcd_le (n := n) hd0
    have hcd : ∀ z, CDivW z a := fun z => Lt2.cdiv (a := 900) ha (.of_le (by omega) hd) (by decide)
    simp only [tSeq, tIfS, tTest, tOp, tVar, tC, tCB, tCons, tNil, tRet, tAsg, gName, tNext, tDrop, rI, rI0, rEq, rNe, sc_ii, sc_ss, sc_bb, sc_in, sc_ni, sc_nn, sc_si, sc_is, List.getElem?_cons_zero, List.getElem?_cons_succ, List.set_cons_zero, List.set_cons_succ, Option.some.injEq, exists_eq_left', exists_eq_left, L2.start, cxOf, List.cons.injEq, and_true, exists_and_left, exists_and_right, exists_eq', V.int.injEq, V.bl.injEq, V.str.injEq, V.ref.injEq, List.length_cons, List.length_nil, List.cons_append, List.nil_append, true_and, List.map, List.replicate, tAndV, tOrV, tNotV, tTest, tB, tNot, tAnd, tOr, Nat.zero_add, Nat.reduceAdd, Nat.reduceSub, Nat.sub_self, sFld, tFld, tPar, tMake, tCall, tMeth, tTup, tLst, HO.ins.injEq, and_assoc, reduceCtorEq, false_and, exists_false, false_or, or_false, tFmt, tJs, tBreak, tCont, tMakeS, tCallS, Int.zero_add, if_true, if_false, Bool.false_eq_true, Bool.not_true, Bool.not_false, tUn, rU, tNotN, tIsN, decide_true, decide_false, tBM, rAppend, HO.lst.injEq, HO.tup.injEq, wipe, tLstRg, tRg1]
    refine ⟨hcd _, _, _, _, hp, T.cls 5, T.noat 47, (by decide), hcd _, _, _, _, upd_same, T.cls 5, T.noat 48, (by show 1 < 1000; decide), ?_⟩
    rw [upd_upd]
    refine hok hd0 _ (fun b hb => upd_ne hb) ?_
    rw [upd_same, hga]
    rfl
theorem mk_Ratio_2 (T : Tk K mg) : Oki P w K mg base (L2.CX P w) 1 "Ratio" ["self", "num", "den"] [] (spInit K) := by
  refine Oki.ofD s_Ratio_init [.int 1] 3 1 (T.df 0) (by simp) (by decide) (T.glo 3) (T.mkr 4) sc_Ratio_init (fun _ _ _ _ _ _ _ us its hu hi => match us, its, hu, hi with | [_, _, _], [_], _, _ => ⟨_, rfl, rfl⟩) (fun vs H Q E h => ?_) (init_body T)
  obtain ⟨p, dx, n, d, rfl, _⟩ := h; rfl
theorem mk_Ratio_1 (T : Tk K mg) : Oki P w K mg base (L2.CX P w) 1 "Ratio" ["self", "num", "den"] [.int 1] (spInit K) := by
  refine Oki.ofD s_Ratio_init [.int 1] 2 0 (T.df 0) (by simp) (by decide) (T.glo 3) (T.mkr 4) sc_Ratio_init (fun _ _ _ _ _ _ _ us its hu hi => match us, its, hu, hi with | [_, _], [_], _, _ => ⟨_, rfl, rfl⟩) (fun vs H Q E h => ?_) (init_body T)
  obtain ⟨p, dx, n, d, rfl, _⟩ := h; rfl
/-- a ratio stands at a -/
def RatAt (K : PySem.W.Frag) (H : Hp) (a : Addr) (p : Int × Int) : Prop := ∃ dx, H a = some (.ins (He.ga K "Ratio") dx (RatF p))
/-- + - * -/
def spArith (K : PySem.W.Frag) (f g : Int × Int → Int × Int → Int) : Sp := fun vs H Q _ => ∃ (a b : Addr) (p q : Int × Int), vs = [.ref a, .ref b] ∧ RatAt K H a p ∧ RatAt K H b q ∧ Lt2 p.1 300 ∧ Lt2 q.1 300 ∧ 0 < p.2 ∧ 0 < q.2 ∧ Lt2 p.2 300 ∧ Lt2 q.2 300 ∧
  ∀ (c : Addr) (H' : Hp), Same H H' → H c = none → RatAt K H' c (red (f p q) (g p q)) → Q (.ref c) H'
theorem CL (T : Tk K mg) : Cls K (He.ga K "Ratio") := T.cls 5
theorem NN (T : Tk K mg) : NoAttr K (He.ga K "Ratio") "num" := T.noat 47
theorem ND (T : Tk K mg) : NoAttr K (He.ga K "Ratio") "den" := T.noat 48
/-- a new ratio, behind the making -/
theorem made_ratio {H : Hp} {G : Addr → Hp → Prop} {n d : Int} (h0 : 0 < d) (hd : Lt2 d 900)
    (hQ : ∀ (c : Addr) (H' : Hp), Same H H' → H c = none → RatAt K H' c (red n d) → G c H') {E : XK} : ∀ x dx, H x = none → H dx = none → dx ≠ x →
    spInit K [.ref x, .int n, .int d] (upd (upd H dx (.own x)) x (.ins (He.ga K "Ratio") dx [])) (fun v H2 => v = .non ∧ G x H2) E := by
  intro x dx nx ndx ne
  refine ⟨x, dx, n, d, rfl, upd_same, hd, fun z => absurd h0 (by omega), fun _ H' k1 k2 => ⟨rfl, hQ x H' (fun b o e => ?_) nx ⟨dx, k2⟩⟩⟩
  have hb : b ≠ x := ne_of_none e nx
  rw [k1 b hb, upd_ne hb, upd_ne (ne_of_none e ndx)]
  exact e
theorem ok_Ratio_add (T : Tk K mg) : Okm P w K mg base (L2.CX P w) 3 "Ratio" "__add__" ["self", "other"] (spArith K (fun p q => p.1 * q.2 + q.1 * p.2) (fun p q => p.2 * q.2)) := by
  refine Okm.of s_Ratio_add (T.df 1) (T.cls 5) (T.meth 6) sc_Ratio_add (fun _ _ _ _ _ _ us hl => match us, hl with | [_, _], _ => rfl) (fun vs H Q E h => ?_) (fun cdv A outer s H vs Q E h hr hpo tk px pxe => ?_)
  · obtain ⟨a, b, p, q, rfl, _⟩ := h; rfl
  obtain ⟨a, b, p, q, rfl, ⟨dx, ha⟩, ⟨dy, hb⟩, p1, q1, p0, q0, p2, q2, hQ⟩ := h
  refine ⟨_, (pss_one (ps_ret (pmk (mk_Ratio_2 T) (hr.mono (by decide)) (by rfl) px (pa_cons (pe_op op_add (pe_op op_mulW (pe_fld (pv 0) rfl) (pe_fld (pv 1) rfl)) (pe_op op_mulW (pe_fld (pv 1) rfl) (pe_fld (pv 0) rfl))) (pa_cons (pe_op op_mulW (pe_fld (pv 0) rfl) (pe_fld (pv 1) rfl)) pa_nil))))), ?_⟩
  clear hr hpo tk px pxe
  have m1 := p1.cmul q2 (by decide); have m2 := q1.cmul p2 (by decide); have m3 := p2.cmul q2 (by decide)
  simp only [tSeq, tIfS, tTest, tOp, tVar, tC, tCB, tCons, tNil, tRet, tAsg, gName, tNext, tDrop, rI, rI0, rEq, rNe, sc_ii, sc_ss, sc_bb, sc_in, sc_ni, sc_nn, sc_si, sc_is, List.getElem?_cons_zero, List.getElem?_cons_succ, List.set_cons_zero, List.set_cons_succ, Option.some.injEq, exists_eq_left', exists_eq_left, L2.start, cxOf, List.cons.injEq, and_true, exists_and_left, exists_and_right, exists_eq', V.int.injEq, V.bl.injEq, V.str.injEq, V.ref.injEq, List.length_cons, List.length_nil, List.cons_append, List.nil_append, true_and, List.map, List.replicate, tAndV, tOrV, tNotV, tTest, tB, tNot, tAnd, tOr, Nat.zero_add, Nat.reduceAdd, Nat.reduceSub, Nat.sub_self, sFld, tFld, tPar, tMake, tCall, tMeth, tTup, tLst, HO.ins.injEq, and_assoc, reduceCtorEq, false_and, exists_false, false_or, or_false, tFmt, tJs, tBreak, tCont, tMakeS, tCallS, Int.zero_add, if_true, if_false, Bool.false_eq_true, Bool.not_true, Bool.not_false, tUn, rU, tNotN, tIsN, decide_true, decide_false, tBM, rAppend, HO.lst.injEq, HO.tup.injEq, wipe, tLstRg, tRg1, ha, hb, RatF_num, RatF_den, CL T, NN T, ND T, m1, m2, m3]
  exact made_ratio (Int.mul_pos p0 q0) ((p2.mul q2).mono (by decide)) hQ
theorem ok_Ratio_sub (T : Tk K mg) : Okm P w K mg base (L2.CX P w) 3 "Ratio" "__sub__" ["self", "other"] (spArith K (fun p q => p.1 * q.2 - q.1 * p.2) (fun p q => p.2 * q.2)) := by
  refine Okm.of s_Ratio_sub (T.df 2) (T.cls 5) (T.meth 7) sc_Ratio_sub (fun _ _ _ _ _ _ us hl => match us, hl with | [_, _], _ => rfl) (fun vs H Q E h => ?_) (fun cdv A outer s H vs Q E h hr hpo tk px pxe => ?_)
  · obtain ⟨a, b, p, q, rfl, _⟩ := h; rfl
  obtain ⟨a, b, p, q, rfl, ⟨dx, ha⟩, ⟨dy, hb⟩, p1, q1, p0, q0, p2, q2, hQ⟩ := h
  refine ⟨_, (pss_one (ps_ret (pmk (mk_Ratio_2 T) (hr.mono (by decide)) (by rfl) px (pa_cons (pe_op op_sub (pe_op op_mulW (pe_fld (pv 0) rfl) (pe_fld (pv 1) rfl)) (pe_op op_mulW (pe_fld (pv 1) rfl) (pe_fld (pv 0) rfl))) (pa_cons (pe_op op_mulW (pe_fld (pv 0) rfl) (pe_fld (pv 1) rfl)) pa_nil))))), ?_⟩
  clear hr hpo tk px pxe
  have m1 := p1.cmul q2 (by decide); have m2 := q1.cmul p2 (by decide); have m3 := p2.cmul q2 (by decide)
  simp only [tSeq, tIfS, tTest, tOp, tVar, tC, tCB, tCons, tNil, tRet, tAsg, gName, tNext, tDrop, rI, rI0, rEq, rNe, sc_ii, sc_ss, sc_bb, sc_in, sc_ni, sc_nn, sc_si, sc_is, List.getElem?_cons_zero, List.getElem?_cons_succ, List.set_cons_zero, List.set_cons_succ, Option.some.injEq, exists_eq_left', exists_eq_left, L2.start, cxOf, List.cons.injEq, and_true, exists_and_left, exists_and_right, exists_eq', V.int.injEq, V.bl.injEq, V.str.injEq, V.ref.injEq, List.length_cons, List.length_nil, List.cons_append, List.nil_append, true_and, List.map, List.replicate, tAndV, tOrV, tNotV, tTest, tB, tNot, tAnd, tOr, Nat.zero_add, Nat.reduceAdd, Nat.reduceSub, Nat.sub_self, sFld, tFld, tPar, tMake, tCall, tMeth, tTup, tLst, HO.ins.injEq, and_assoc, reduceCtorEq, false_and, exists_false, false_or, or_false, tFmt, tJs, tBreak, tCont, tMakeS, tCallS, Int.zero_add, if_true, if_false, Bool.false_eq_true, Bool.not_true, Bool.not_false, tUn, rU, tNotN, tIsN, decide_true, decide_false, tBM, rAppend, HO.lst.injEq, HO.tup.injEq, wipe, tLstRg, tRg1, ha, hb, RatF_num, RatF_den, CL T, NN T, ND T, m1, m2, m3]
  exact made_ratio (Int.mul_pos p0 q0) ((p2.mul q2).mono (by decide)) hQ
theorem ok_Ratio_mul (T : Tk K mg) : Okm P w K mg base (L2.CX P w) 3 "Ratio" "__mul__" ["self", "other"] (spArith K (fun p q => p.1 * q.1) (fun p q => p.2 * q.2)) := by
  refine Okm.of s_Ratio_mul (T.df 3) (T.cls 5) (T.meth 8) sc_Ratio_mul (fun _ _ _ _ _ _ us hl => match us, hl with | [_, _], _ => rfl) (fun vs H Q E h => ?_) (fun cdv A outer s H vs Q E h hr hpo tk px pxe => ?_)
  · obtain ⟨a, b, p, q, rfl, _⟩ := h; rfl
  obtain ⟨a, b, p, q, rfl, ⟨dx, ha⟩, ⟨dy, hb⟩, p1, q1, p0, q0, p2, q2, hQ⟩ := h
  refine ⟨_, (pss_one (ps_ret (pmk (mk_Ratio_2 T) (hr.mono (by decide)) (by rfl) px (pa_cons (pe_op op_mulW (pe_fld (pv 0) rfl) (pe_fld (pv 1) rfl)) (pa_cons (pe_op op_mulW (pe_fld (pv 0) rfl) (pe_fld (pv 1) rfl)) pa_nil))))), ?_⟩
  clear hr hpo tk px pxe
  have m1 := p1.cmul q1 (by decide); have m3 := p2.cmul q2 (by decide)
  simp only [tSeq, tIfS, tTest, tOp, tVar, tC, tCB, tCons, tNil, tRet, tAsg, gName, tNext, tDrop, rI, rI0, rEq, rNe, sc_ii, sc_ss, sc_bb, sc_in, sc_ni, sc_nn, sc_si, sc_is, List.getElem?_cons_zero, List.getElem?_cons_succ, List.set_cons_zero, List.set_cons_succ, Option.some.injEq, exists_eq_left', exists_eq_left, L2.start, cxOf, List.cons.injEq, and_true, exists_and_left, exists_and_right, exists_eq', V.int.injEq, V.bl.injEq, V.str.injEq, V.ref.injEq, List.length_cons, List.length_nil, List.cons_append, List.nil_append, true_and, List.map, List.replicate, tAndV, tOrV, tNotV, tTest, tB, tNot, tAnd, tOr, Nat.zero_add, Nat.reduceAdd, Nat.reduceSub, Nat.sub_self, sFld, tFld, tPar, tMake, tCall, tMeth, tTup, tLst, HO.ins.injEq, and_assoc, reduceCtorEq, false_and, exists_false, false_or, or_false, tFmt, tJs, tBreak, tCont, tMakeS, tCallS, Int.zero_add, if_true, if_false, Bool.false_eq_true, Bool.not_true, Bool.not_false, tUn, rU, tNotN, tIsN, decide_true, decide_false, tBM, rAppend, HO.lst.injEq, HO.tup.injEq, wipe, tLstRg, tRg1, ha, hb, RatF_num, RatF_den, CL T, NN T, ND T, m1, m3]
  exact made_ratio (Int.mul_pos p0 q0) ((p2.mul q2).mono (by decide)) hQ
def spBelow (K : PySem.W.Frag) : Sp := fun vs H Q _ => ∃ (a b : Addr) (p q : Int × Int), vs = [.ref a, .ref b] ∧ RatAt K H a p ∧ RatAt K H b q ∧ Lt2 p.1 300 ∧ Lt2 q.1 300 ∧ Lt2 p.2 300 ∧ Lt2 q.2 300 ∧ Q (.bl (decide (p.1 * q.2 < q.1 * p.2))) H
theorem ok_Ratio_below (T : Tk K mg) : Okm P w K mg base (L2.CX P w) 1 "Ratio" "below" ["self", "other"] (spBelow K) := by
  refine Okm.of s_Ratio_below (T.df 6) (T.cls 5) (T.meth 12) sc_Ratio_below (fun _ _ _ _ _ _ us hl => match us, hl with | [_, _], _ => rfl) (fun vs H Q E h => ?_) (fun cdv A outer s H vs Q E h hr hpo tk px pxe => ?_)
  · obtain ⟨a, b, p, q, rfl, _⟩ := h; rfl
  obtain ⟨a, b, p, q, rfl, ⟨dx, ha⟩, ⟨dy, hb⟩, p1, q1, p2, q2, hQ⟩ := h
  refine ⟨_, (pss_one (ps_ret (pe_cmpR op_lt (pe_op op_mulW (pe_fld (pv 0) rfl) (pe_fld (pv 1) rfl)) (pe_op op_mulW (pe_fld (pv 1) rfl) (pe_fld (pv 0) rfl)) (nomark _)))), ?_⟩
  clear hr hpo tk px pxe
  have m1 := p1.cmul q2 (by decide); have m2 := q1.cmul p2 (by decide)
  simp only [tSeq, tIfS, tTest, tOp, tVar, tC, tCB, tCons, tNil, tRet, tAsg, gName, tNext, tDrop, rI, rI0, rEq, rNe, sc_ii, sc_ss, sc_bb, sc_in, sc_ni, sc_nn, sc_si, sc_is, List.getElem?_cons_zero, List.getElem?_cons_succ, List.set_cons_zero, List.set_cons_succ, Option.some.injEq, exists_eq_left', exists_eq_left, L2.start, cxOf, List.cons.injEq, and_true, exists_and_left, exists_and_right, exists_eq', V.int.injEq, V.bl.injEq, V.str.injEq, V.ref.injEq, List.length_cons, List.length_nil, List.cons_append, List.nil_append, true_and, List.map, List.replicate, tAndV, tOrV, tNotV, tTest, tB, tNot, tAnd, tOr, Nat.zero_add, Nat.reduceAdd, Nat.reduceSub, Nat.sub_self, sFld, tFld, tPar, tMake, tCall, tMeth, tTup, tLst, HO.ins.injEq, and_assoc, reduceCtorEq, false_and, exists_false, false_or, or_false, tFmt, tJs, tBreak, tCont, tMakeS, tCallS, Int.zero_add, if_true, if_false, Bool.false_eq_true, Bool.not_true, Bool.not_false, tUn, rU, tNotN, tIsN, decide_true, decide_false, tBM, rAppend, HO.lst.injEq, HO.tup.injEq, wipe, tLstRg, tRg1, ha, hb, RatF_num, RatF_den, CL T, NN T, ND T, m1, m2]
  exact hQ
def spEq (K : PySem.W.Frag) : Sp := fun vs H Q _ => ∃ (a b : Addr) (p q : Int × Int), vs = [.ref a, .ref b] ∧ RatAt K H a p ∧ RatAt K H b q ∧ Q (.bl (decide (p = q))) H
theorem ok_Ratio_eq (T : Tk K mg) : Okm P w K mg base (L2.CX P w) 1 "Ratio" "__eq__" ["self", "other"] (spEq K) := by
  refine Okm.of s_Ratio_eq (T.df 4) (T.cls 5) (T.meth 10) sc_Ratio_eq (fun _ _ _ _ _ _ us hl => match us, hl with | [_, _], _ => rfl) (fun vs H Q E h => ?_) (fun cdv A outer s H vs Q E h hr hpo tk px pxe => ?_)
  · obtain ⟨a, b, p, q, rfl, _⟩ := h; rfl
  obtain ⟨a, b, p, q, rfl, ⟨dx, ha⟩, ⟨dy, hb⟩, hQ⟩ := h
  refine ⟨_, (pss_one (ps_ret (pe_and (pe_callB call_isi (by rfl) (T.free 9) (by decide +kernel) (pa_cons (pv 1) (pa_cons (pe_glob (v := .ref (He.ga K "Ratio")) (by rfl) (T.glo 3) rfl) pa_nil))) (pe_and (pe_cmpR op_eq (pe_fld (pv 0) rfl) (pe_fld (pv 1) rfl) (nomark _)) (pe_one (pe_cmpR op_eq (pe_fld (pv 0) rfl) (pe_fld (pv 1) rfl) (nomark _))))))), ?_⟩
  clear hr hpo tk px pxe
  simp only [tSeq, tIfS, tTest, tOp, tVar, tC, tCB, tCons, tNil, tRet, tAsg, gName, tNext, tDrop, rI, rI0, rEq, rNe, sc_ii, sc_ss, sc_bb, sc_in, sc_ni, sc_nn, sc_si, sc_is, List.getElem?_cons_zero, List.getElem?_cons_succ, List.set_cons_zero, List.set_cons_succ, Option.some.injEq, exists_eq_left', exists_eq_left, L2.start, cxOf, List.cons.injEq, and_true, exists_and_left, exists_and_right, exists_eq', V.int.injEq, V.bl.injEq, V.str.injEq, V.ref.injEq, List.length_cons, List.length_nil, List.cons_append, List.nil_append, true_and, List.map, List.replicate, tAndV, tOrV, tNotV, tTest, tB, tNot, tAnd, tOr, Nat.zero_add, Nat.reduceAdd, Nat.reduceSub, Nat.sub_self, sFld, tFld, tPar, tMake, tCall, tMeth, tTup, tLst, HO.ins.injEq, and_assoc, reduceCtorEq, false_and, exists_false, false_or, or_false, tFmt, tJs, tBreak, tCont, tMakeS, tCallS, Int.zero_add, if_true, if_false, Bool.false_eq_true, Bool.not_true, Bool.not_false, tUn, rU, tNotN, tIsN, decide_true, decide_false, tBM, rAppend, HO.lst.injEq, HO.tup.injEq, wipe, tLstRg, tRg1, ha, hb, RatF_num, RatF_den, CL T, NN T, ND T]
  refine isi_ins (insB_ok (CL T) (T.fx 2)) hb kit_self ⟨true, rfl, iteT ?_⟩
  simp only [tSeq, tIfS, tTest, tOp, tVar, tC, tCB, tCons, tNil, tRet, tAsg, gName, tNext, tDrop, rI, rI0, rEq, rNe, sc_ii, sc_ss, sc_bb, sc_in, sc_ni, sc_nn, sc_si, sc_is, List.getElem?_cons_zero, List.getElem?_cons_succ, List.set_cons_zero, List.set_cons_succ, Option.some.injEq, exists_eq_left', exists_eq_left, L2.start, cxOf, List.cons.injEq, and_true, exists_and_left, exists_and_right, exists_eq', V.int.injEq, V.bl.injEq, V.str.injEq, V.ref.injEq, List.length_cons, List.length_nil, List.cons_append, List.nil_append, true_and, List.map, List.replicate, tAndV, tOrV, tNotV, tTest, tB, tNot, tAnd, tOr, Nat.zero_add, Nat.reduceAdd, Nat.reduceSub, Nat.sub_self, sFld, tFld, tPar, tMake, tCall, tMeth, tTup, tLst, HO.ins.injEq, and_assoc, reduceCtorEq, false_and, exists_false, false_or, or_false, tFmt, tJs, tBreak, tCont, tMakeS, tCallS, Int.zero_add, if_true, if_false, Bool.false_eq_true, Bool.not_true, Bool.not_false, tUn, rU, tNotN, tIsN, decide_true, decide_false, tBM, rAppend, HO.lst.injEq, HO.tup.injEq, wipe, tLstRg, tRg1, ha, hb, RatF_num, RatF_den, CL T, NN T, ND T]
  have e : decide (p = q) = (if decide (p.1 = q.1) = true then decide (p.2 = q.2) else false) := by
    obtain ⟨p1, p2⟩ := p
    obtain ⟨q1, q2⟩ := q
    by_cases h1 : p1 = q1 <;> by_cases h2 : p2 = q2 <;> simp [h1, h2]
  rw [e] at hQ
  revert hQ
  split <;> exact id
def numS (i : Int) : Str := Str.ofString (toString i)
theorem numS_len {i : Int} {k : Nat} (h : i.natAbs < 10 ^ k) (h0 : 0 < k) : (numS i).length ≤ k + 1 := by
  cases i with
  | ofNat n =>
    have := toString_length_le (v := (n : Int)) (by omega) h0 (by
      have : ((n : Nat) : Int) < ((10 ^ k : Nat) : Int) := Int.ofNat_lt.mpr (by simpa using h)
      simpa using this)
    show (Str.ofString (toString (Int.ofNat n))).length ≤ k + 1
    exact Nat.le_succ_of_le this
  | negSucc n =>
    have := toString_length_le (v := ((n + 1 : Nat) : Int)) (by omega) h0 (by
      have : ((n + 1 : Nat) : Int) < ((10 ^ k : Nat) : Int) := Int.ofNat_lt.mpr (by simpa using h)
      simpa using this)
    have e : toString (Int.negSucc n) = "-" ++ toString ((n + 1 : Nat) : Int) := rfl
    unfold numS
    rw [e, PySem.ofString_length, String.length_append]
    rw [PySem.ofString_length] at this
    have z : ("-" : String).length = 1 := by decide
    omega
theorem log_of {z : Int} {k : Nat} (h : Lt2 z k) (h0 : 0 < k) (hk : k ≤ 1920) : z.natAbs.log2 < 1920 := Nat.lt_of_lt_of_le (PySem.Flt.log2_lt_of h0 h) hk
def ratText (p : Int × Int) : Str := if p.2 = 1 then numS p.1 else numS p.1 ++ ("/" : Str) ++ numS p.2
/-- numbers that are written -/
def Wr (z : Int) : Prop := z.natAbs < 10 ^ 60
theorem Wr.lt {z : Int} (h : Wr z) : Lt2 z 200 := Nat.lt_of_lt_of_le h (by decide)
theorem Wr.len {z : Int} (h : Wr z) : (numS z).length ≤ 61 := numS_len h (by decide)
def spStr (K : PySem.W.Frag) : Sp := fun vs H Q _ => ∃ (a : Addr) (p : Int × Int), vs = [.ref a] ∧ RatAt K H a p ∧ Wr p.1 ∧ Wr p.2 ∧ Q (.str (ratText p)) H
theorem ok_Ratio_str (T : Tk K mg) : Okm P w K mg base (L2.CX P w) 1 "Ratio" "__str__" ["self"] (spStr K) := by
  refine Okm.of s_Ratio_str (T.df 5) (T.cls 5) (T.meth 11) sc_Ratio_str (fun _ _ _ _ _ _ us hl => match us, hl with | [_], _ => rfl) (fun vs H Q E h => ?_) (fun cdv A outer s H vs Q E h hr hpo tk px pxe => ?_)
  · obtain ⟨a, p, rfl, _⟩ := h; rfl
  obtain ⟨a, p, rfl, ⟨dx, ha⟩, w1, w2, hQ⟩ := h
  refine ⟨_, (pss_cons (ps_if (pt_cmpR op_eq (pe_fld (pv 0) rfl) pe_int (nomark _)) (pss_one (ps_ret (pe_joined1 (pe_fmt (pe_fld (pv 0) rfl))))) pss_nil)
  (pss_one (ps_ret (pe_joined (PJ.cons (pe_fmt (pe_fld (pv 0) rfl)) (PJ.cons pe_str (PJ.cons (pe_fmt (pe_fld (pv 0) rfl)) PJ.nil))))))), ?_⟩
  clear hr hpo tk px pxe
  have l1 := log_of w1.lt (by decide) (by decide); have l2 := log_of w2.lt (by decide) (by decide)
  have n1 := w1.len; have n2 := w2.len
  simp only [tSeq, tIfS, tTest, tOp, tVar, tC, tCB, tCons, tNil, tRet, tAsg, gName, tNext, tDrop, rI, rI0, rEq, rNe, sc_ii, sc_ss, sc_bb, sc_in, sc_ni, sc_nn, sc_si, sc_is, List.getElem?_cons_zero, List.getElem?_cons_succ, List.set_cons_zero, List.set_cons_succ, Option.some.injEq, exists_eq_left', exists_eq_left, L2.start, cxOf, List.cons.injEq, and_true, exists_and_left, exists_and_right, exists_eq', V.int.injEq, V.bl.injEq, V.str.injEq, V.ref.injEq, List.length_cons, List.length_nil, List.cons_append, List.nil_append, true_and, List.map, List.replicate, tAndV, tOrV, tNotV, tTest, tB, tNot, tAnd, tOr, Nat.zero_add, Nat.reduceAdd, Nat.reduceSub, Nat.sub_self, sFld, tFld, tPar, tMake, tCall, tMeth, tTup, tLst, HO.ins.injEq, and_assoc, reduceCtorEq, false_and, exists_false, false_or, or_false, tFmt, tJs, tBreak, tCont, tMakeS, tCallS, Int.zero_add, if_true, if_false, Bool.false_eq_true, Bool.not_true, Bool.not_false, tUn, rU, tNotN, tIsN, decide_true, decide_false, tBM, rAppend, HO.lst.injEq, HO.tup.injEq, wipe, tLstRg, tRg1, ha, RatF_num, RatF_den, CL T, NN T, ND T, l1, l2]
  refine ite2 (fun c => ?_) (fun c => ?_)
  · have c' : p.2 = 1 := of_decide_eq_true c
    rw [ratText, if_pos c'] at hQ
    exact hQ
  · have c' : ¬ p.2 = 1 := fun z => c (decide_eq_true z)
    rw [ratText, if_neg c'] at hQ
    rw [empty_app]
    have z : (("/" : Str)).length = 1 := by decide +kernel
    have b : 10000 ≤ sizeLine := by decide
    refine ⟨Nat.le_trans n1 (Nat.le_trans (by decide) b), ?_, ?_, hQ⟩
    · rw [Str.length_append, z]
      exact Nat.le_trans (Nat.add_le_add_right n1 _) (Nat.le_trans (by decide) b)
    · rw [Str.length_append, Str.length_append, z]
      exact Nat.le_trans (Nat.add_le_add (Nat.add_le_add_right n1 _) n2) (Nat.le_trans (by decide) b)
def spLess : Sp := fun vs H Q _ => ∃ (n d : Int), vs = [.int n, .int d] ∧ 0 < d ∧ Lt2 d 900 ∧ ∀ c, H c = none → Q (.ref c) (upd H c (.tup [.int (red n d).1, .int (red n d).2]))
theorem ok_l_less (T : Tk K mg) : Okd P w K mg base (L2.CX P w) 1 "_law_less" ["_law_num", "_law_den"] spLess := by
  refine Okd.of s_l_less (T.df 17) (T.glo 30) sc_l_less (fun _ _ _ _ _ _ us hl => match us, hl with | [_, _], _ => rfl) (fun vs H Q E h => ?_) (fun cdv A outer s H vs Q E h hr hpo tk px pxe => ?_)
  · obtain ⟨n, d, rfl, _⟩ := h; rfl
  obtain ⟨n, d, rfl, hd0, hd, hQ⟩ := h
  refine ⟨_, (pss_cons (ps_set (i := 2) sc_l_less.nd rfl (Or.inl rfl) (pe_callB call_abs (by rfl) (T.free 0) (by decide +kernel) (pa_cons (pv 0) pa_nil)))
  (pss_cons (ps_set (i := 3) sc_l_less.nd rfl (Or.inl rfl) (pv 1))
  (pss_cons (ps_for hpo rfl (pi_range1 rfl (T.free 28) (pa_cons pe_int pa_nil)) (pg_name (i := 4) sc_l_less.nd rfl (Or.inl rfl)) (pss_cons (ps_if (pt_cmpR op_eq (pv 3) pe_int (nomark _)) (pss_one ps_break) pss_nil)
   (pss_cons (ps_set (i := 5) sc_l_less.nd rfl (Or.inl rfl) (pe_op op_mod (pe_callTy call_int1 (by rfl) (T.free 26) (by decide +kernel) (pa_cons (pv 2) pa_nil)) (pv 3)))
   (pss_cons (ps_set (i := 2) sc_l_less.nd rfl (Or.inl rfl) (pv 3))
   (pss_one (ps_set (i := 3) sc_l_less.nd rfl (Or.inl rfl) (pv 5)))))))
  (pss_one (ps_ret (pe_tup (pa_cons (pe_op op_fdivW (pv 0) (pv 2)) (pa_cons (pe_op op_fdivW (pv 1) (pv 2)) pa_nil)))))))), ?_⟩
  clear hr hpo tk px pxe
  simp only [tSeq, tIfS, tTest, tOp, tVar, tC, tCB, tCons, tNil, tRet, tAsg, gName, tNext, tDrop, rI, rI0, rEq, rNe, sc_ii, sc_ss, sc_bb, sc_in, sc_ni, sc_nn, sc_si, sc_is, List.getElem?_cons_zero, List.getElem?_cons_succ, List.set_cons_zero, List.set_cons_succ, Option.some.injEq, exists_eq_left', exists_eq_left, L2.start, cxOf, List.cons.injEq, and_true, exists_and_left, exists_and_right, exists_eq', V.int.injEq, V.bl.injEq, V.str.injEq, V.ref.injEq, List.length_cons, List.length_nil, List.cons_append, List.nil_append, true_and, List.map, List.replicate, tAndV, tOrV, tNotV, tTest, tB, tNot, tAnd, tOr, Nat.zero_add, Nat.reduceAdd, Nat.reduceSub, Nat.sub_self, sFld, tFld, tPar, tMake, tCall, tMeth, tTup, tLst, HO.ins.injEq, and_assoc, reduceCtorEq, false_and, exists_false, false_or, or_false, tFmt, tJs, tBreak, tCont, tMakeS, tCallS, Int.zero_add, if_true, if_false, Bool.false_eq_true, Bool.not_true, Bool.not_false, tUn, rU, tNotN, tIsN, decide_true, decide_false, tBM, rAppend, HO.lst.injEq, HO.tup.injEq, wipe, tLstRg, tRg1]
  have habs : (if n < 0 then -n else n) = ((n.natAbs : Nat) : Int) := by split <;> omega
  rw [habs]
  refine ⟨2000, rfl, by decide, by decide, for_range (n := 2000) (fun i σ H' => ∃ (a b : Int) (v c : Option V), σ = [some (.int n), some (.int d), some (.int a), some (.int b), v, c] ∧ H' = H ∧ 0 ≤ a ∧ 0 ≤ b ∧ Int.gcd a b = Int.gcd n d ∧ Short (2000 - i) a b) ?_ ?_ ?_⟩
  · refine ⟨_, d, none, none, rfl, rfl, by omega, by omega, ?_, short_2000 (by omega) ?_⟩
    · rw [Int.gcd_eq_natAbs_gcd_natAbs, Int.gcd_eq_natAbs_gcd_natAbs, Int.natAbs_natCast]
    · have h9 : Lt2 d 999 := hd.mono (by decide)
      have h8 : d.natAbs < 2 ^ 999 := h9
      have : ((d.natAbs : Nat) : Int) < ((2 ^ 999 : Nat) : Int) := Int.ofNat_lt.mpr h8
      rw [Int.natAbs_of_nonneg (by omega)] at this
      rw [Int.natCast_pow] at this
      exact this
  · rintro i σ H' hi ⟨a, b, v, c, rfl, rfl, ha, hb, hg, hs⟩
    simp only [tSeq, tIfS, tTest, tOp, tVar, tC, tCB, tCons, tNil, tRet, tAsg, gName, tNext, tDrop, rI, rI0, rEq, rNe, sc_ii, sc_ss, sc_bb, sc_in, sc_ni, sc_nn, sc_si, sc_is, List.getElem?_cons_zero, List.getElem?_cons_succ, List.set_cons_zero, List.set_cons_succ, Option.some.injEq, exists_eq_left', exists_eq_left, L2.start, cxOf, List.cons.injEq, and_true, exists_and_left, exists_and_right, exists_eq', V.int.injEq, V.bl.injEq, V.str.injEq, V.ref.injEq, List.length_cons, List.length_nil, List.cons_append, List.nil_append, true_and, List.map, List.replicate, tAndV, tOrV, tNotV, tTest, tB, tNot, tAnd, tOr, Nat.zero_add, Nat.reduceAdd, Nat.reduceSub, Nat.sub_self, sFld, tFld, tPar, tMake, tCall, tMeth, tTup, tLst, HO.ins.injEq, and_assoc, reduceCtorEq, false_and, exists_false, false_or, or_false, tFmt, tJs, tBreak, tCont, tMakeS, tCallS, Int.zero_add, if_true, if_false, Bool.false_eq_true, Bool.not_true, Bool.not_false, tUn, rU, tNotN, tIsN, decide_true, decide_false, tBM, rAppend, HO.lst.injEq, HO.tup.injEq, wipe, tLstRg, tRg1]
    refine ite2 (fun c => ?_) (fun c => ?_)
    · have hb0 : b = 0 := of_decide_eq_true c
      subst hb0
      have hga : a = (Int.gcd n d : Int) := by rw [← hg, Int.gcd_zero_right]; omega
      have h1 := gcd_pos (n := n) hd0
      have h2 := gcd_le (n := n) hd0
      have hcd : ∀ z, CDivW z a := fun z => Lt2.cdiv (a := 900) (by omega) (.of_le (by omega) hd) (by decide)
      refine ⟨hcd _, hcd _, by decide, ?_⟩
      rw [hga]
      exact hQ
    · have hb0 : b ≠ 0 := fun z => c (decide_eq_true z)
      have hs' : PL.Short ((2000 - (i + 1)) + 1) a b := by
        rw [show 2000 - (i + 1) + 1 = 2000 - i by omega]; exact hs
      exact ⟨by omega, hb, Int.emod_nonneg _ hb0, by rw [gcd_step ha (by omega), hg], hs'.resolve_left hb0⟩
  · rintro σ H' ⟨a, b, v, c, rfl, rfl, ha, hb, hg, hs⟩
    have hb0 : b = 0 := hs
    subst hb0
    simp only [tSeq, tIfS, tTest, tOp, tVar, tC, tCB, tCons, tNil, tRet, tAsg, gName, tNext, tDrop, rI, rI0, rEq, rNe, sc_ii, sc_ss, sc_bb, sc_in, sc_ni, sc_nn, sc_si, sc_is, List.getElem?_cons_zero, List.getElem?_cons_succ, List.set_cons_zero, List.set_cons_succ, Option.some.injEq, exists_eq_left', exists_eq_left, L2.start, cxOf, List.cons.injEq, and_true, exists_and_left, exists_and_right, exists_eq', V.int.injEq, V.bl.injEq, V.str.injEq, V.ref.injEq, List.length_cons, List.length_nil, List.cons_append, List.nil_append, true_and, List.map, List.replicate, tAndV, tOrV, tNotV, tTest, tB, tNot, tAnd, tOr, Nat.zero_add, Nat.reduceAdd, Nat.reduceSub, Nat.sub_self, sFld, tFld, tPar, tMake, tCall, tMeth, tTup, tLst, HO.ins.injEq, and_assoc, reduceCtorEq, false_and, exists_false, false_or, or_false, tFmt, tJs, tBreak, tCont, tMakeS, tCallS, Int.zero_add, if_true, if_false, Bool.false_eq_true, Bool.not_true, Bool.not_false, tUn, rU, tNotN, tIsN, decide_true, decide_false, tBM, rAppend, HO.lst.injEq, HO.tup.injEq, wipe, tLstRg, tRg1]
    have hga : a = (Int.gcd n d : Int) := by rw [← hg, Int.gcd_zero_right]; omega
    have h1 := gcd_pos (n := n) hd0
    have h2 := gcd_le (n := n) hd0
    have hcd : ∀ z, CDivW z a := fun z => Lt2.cdiv (a := 900) (by omega) (.of_le (by omega) hd) (by decide)
    refine ⟨hcd _, hcd _, by decide, ?_⟩
    rw [hga]
    exact hQ

end
end K30

namespace K30
open PySem PySem.Spec PyProof.Rows L2 TL PL
section
variable {P : Program} {w : World} {K : PySem.W.Frag} {mg : Str → Option Value} {base : Heap}
/-! ### bounds -/
theorem CB (T : Tk K mg) : Cls K (He.ga K "Bound") := T.cls 15
theorem NB1 (T : Tk K mg) : NoAttr K (He.ga K "Bound") "flat" := T.noat 49
theorem NB2 (T : Tk K mg) : NoAttr K (He.ga K "Bound") "first" := T.noat 50
theorem NB3 (T : Tk K mg) : NoAttr K (He.ga K "Bound") "more" := T.noat 51
theorem NB4 (T : Tk K mg) : NoAttr K (He.ga K "Bound") "limit" := T.noat 52
def lv : Option Int → V
  | none => .non
  | some i => .int i
def BndF (a b c : Addr) (l : Option Int) : List (Str × V) := putF "limit" (lv l) (putF "more" (.ref c) (putF "first" (.ref b) (putF "flat" (.ref a) [])))
theorem BndF_1 (a b c l) : (BndF a b c l).lookup ("flat" : Str) = some (.ref a) := by
  unfold BndF
  rw [lookup_putF, if_neg (by decide +kernel), lookup_putF, if_neg (by decide +kernel), lookup_putF, if_neg (by decide +kernel), lookup_putF, if_pos rfl]
theorem BndF_2 (a b c l) : (BndF a b c l).lookup ("first" : Str) = some (.ref b) := by
  unfold BndF
  rw [lookup_putF, if_neg (by decide +kernel), lookup_putF, if_neg (by decide +kernel), lookup_putF, if_pos rfl]
theorem BndF_3 (a b c l) : (BndF a b c l).lookup ("more" : Str) = some (.ref c) := by
  unfold BndF
  rw [lookup_putF, if_neg (by decide +kernel), lookup_putF, if_pos rfl]
theorem BndF_4 (a b c l) : (BndF a b c l).lookup ("limit" : Str) = some (lv l) := by
  unfold BndF
  rw [lookup_putF, if_pos rfl]
theorem BndF_no (a b c l) {m : Str} (h1 : ¬ m = "limit") (h2 : ¬ m = "more") (h3 : ¬ m = "first") (h4 : ¬ m = "flat") : (BndF a b c l).lookup m = none := by
  unfold BndF
  rw [lookup_putF, if_neg h1, lookup_putF, if_neg h2, lookup_putF, if_neg h3, lookup_putF, if_neg h4] <;> rfl
def badL : Option Int → Bool
  | none => false
  | some i => decide (i < 0)
/-- the three, the limit -/
structure B4 where
  a : Int × Int
  b : Int × Int
  c : Int × Int
  l : Option Int
deriving DecidableEq
def bad (x : B4) : Prop := x.a.1 < 0 ∨ x.b.1 < 0 ∨ x.c.1 < 0 ∨ badL x.l = true
def spBInit (K : PySem.W.Frag) : Sp := fun vs H Q E => ∃ (p dx a b c : Addr) (x : B4), vs = [.ref p, .ref a, .ref b, .ref c, lv x.l] ∧ H p = some (.ins (He.ga K "Bound") dx []) ∧ RatAt K H a x.a ∧ RatAt K H b x.b ∧ RatAt K H c x.c ∧
  (bad x → ∀ H', Same H H' → E (.ref (He.ga K "BadBound")) none H') ∧ (¬ bad x → ∀ H', (∀ q o, H q = some o → q ≠ p → H' q = some o) → H' p = some (.ins (He.ga K "Bound") dx (BndF a b c x.l)) → Q .non H')
theorem binit_body (T : Tk K mg) : BodyOk P w K mg base N_Bound_init "Bound.__init__" s_Bound_init (He.ma K (He.ga K "Bound") "__init__") 0 (spBInit K) := by
  intro cdv A outer s H vs Q E h hr hpo tk px pxe
  obtain ⟨p, dx, a, b, c, x, rfl, hp, ha, hb, hc, hbad, hok⟩ := h
  refine ⟨_, (pss_cons (ps_for hpo rfl (pi_tup (pe_tup (pa_cons (pv 1) (pa_cons (pv 2) (pa_cons (pv 3) pa_nil))))) (pg_name (i := 5) sc_Bound_init.nd rfl (Or.inl rfl)) (pss_one (ps_if (pt_cmpR op_lt (pe_fld (pv 5) rfl) pe_int (nomark _)) (pss_one (ps_raise rfl tk (pmk_own PySem.F.excBase_ValueError (T.exc 1).1 (T.glo 2) (T.exc 1).2.1 (raises_own (T.exc 1).2.2.1 (T.exc 1).2.2.2) (by rfl)))) pss_nil)))
  (pss_cons (ps_if (PW.pt (pw_and (pt_cmp (pc_notN (pv 4))) (pw_and1 (pt_cmpR op_lt (pv 4) pe_int (nomark _))))) (pss_one (ps_raise rfl tk (pmk_own PySem.F.excBase_ValueError (T.exc 1).1 (T.glo 2) (T.exc 1).2.1 (raises_own (T.exc 1).2.2.1 (T.exc 1).2.2.2) (by rfl)))) pss_nil)
  (pss_cons (ps_fld (pv 0) (pv 1) rfl)
  (pss_cons (ps_fld (pv 0) (pv 2) rfl)
  (pss_cons (ps_fld (pv 0) (pv 3) rfl)
  (pss_one (ps_fld (pv 0) (pv 4) rfl))))))), ?_⟩
  clear hr hpo tk px pxe
  simp only [tSeq, tIfS, tTest, tOp, tVar, tC, tCB, tCons, tNil, tRet, tAsg, gName, tNext, tDrop, rI, rI0, rEq, rNe, sc_ii, sc_ss, sc_bb, sc_in, sc_ni, sc_nn, sc_si, sc_is, List.getElem?_cons_zero, List.getElem?_cons_succ, List.set_cons_zero, List.set_cons_succ, Option.some.injEq, exists_eq_left', exists_eq_left, L2.start, cxOf, List.cons.injEq, and_true, exists_and_left, exists_and_right, exists_eq', V.int.injEq, V.bl.injEq, V.str.injEq, V.ref.injEq, List.length_cons, List.length_nil, List.cons_append, List.nil_append, true_and, List.map, List.replicate, tAndV, tOrV, tNotV, tTest, tB, tNot, tAnd, tOr, Nat.zero_add, Nat.reduceAdd, Nat.reduceSub, Nat.sub_self, sFld, tFld, tPar, tMake, tCall, tMeth, tTup, tLst, HO.ins.injEq, and_assoc, reduceCtorEq, false_and, exists_false, false_or, or_false, tFmt, tJs, tBreak, tCont, tMakeS, tCallS, Int.zero_add, if_true, if_false, Bool.false_eq_true, Bool.not_true, Bool.not_false, tUn, rU, tNotN, tIsN, decide_true, decide_false, tBM, rAppend, HO.lst.injEq, HO.tup.injEq, wipe, tLstRg, tRg1]
  refine ⟨_, rfl, _, rfl, _, rfl, (by show 3 ≤ sizeLine; decide), fun q nq => ?_⟩
  have sm : Same H (upd H q (.tup [.ref a, .ref b, .ref c])) := same_upd nq
  have hqq : upd H q (.tup [.ref a, .ref b, .ref c]) q = some (.tup [.ref a, .ref b, .ref c]) := upd_same
  generalize upd H q (.tup [.ref a, .ref b, .ref c]) = H1 at *
  obtain ⟨da, ha⟩ := ha; obtain ⟨db, hb⟩ := hb; obtain ⟨dc, hc⟩ := hc
  have ha := sm _ _ ha; have hb := sm _ _ hb; have hc := sm _ _ hc
  refine ⟨q, rfl, ⟨_, SqT.of hqq⟩, for_tup (xs := [.ref a, .ref b, .ref c]) (fun i σ H' => ∃ v, σ = [some (.ref p), some (.ref a), some (.ref b), some (.ref c), some (lv x.l), v] ∧ H' = H1 ∧ (1 ≤ i → 0 ≤ x.a.1) ∧ (2 ≤ i → 0 ≤ x.b.1) ∧ (3 ≤ i → 0 ≤ x.c.1)) ?_ ?_ ?_ ?_⟩
  · exact ⟨_, rfl, rfl, by omega, by omega, by omega⟩
  · rintro i σ H' _ ⟨v, rfl, rfl, _⟩
    exact SqT.of hqq
  · rintro i y σ H' hi ⟨v, rfl, rfl, z1, z2, z3⟩
    match i, hi with
    | 0, hi =>
      cases hi
      simp only [tSeq, tIfS, tTest, tOp, tVar, tC, tCB, tCons, tNil, tRet, tAsg, gName, tNext, tDrop, rI, rI0, rEq, rNe, sc_ii, sc_ss, sc_bb, sc_in, sc_ni, sc_nn, sc_si, sc_is, List.getElem?_cons_zero, List.getElem?_cons_succ, List.set_cons_zero, List.set_cons_succ, Option.some.injEq, exists_eq_left', exists_eq_left, L2.start, cxOf, List.cons.injEq, and_true, exists_and_left, exists_and_right, exists_eq', V.int.injEq, V.bl.injEq, V.str.injEq, V.ref.injEq, List.length_cons, List.length_nil, List.cons_append, List.nil_append, true_and, List.map, List.replicate, tAndV, tOrV, tNotV, tTest, tB, tNot, tAnd, tOr, Nat.zero_add, Nat.reduceAdd, Nat.reduceSub, Nat.sub_self, sFld, tFld, tPar, tMake, tCall, tMeth, tTup, tLst, HO.ins.injEq, and_assoc, reduceCtorEq, false_and, exists_false, false_or, or_false, tFmt, tJs, tBreak, tCont, tMakeS, tCallS, Int.zero_add, if_true, if_false, Bool.false_eq_true, Bool.not_true, Bool.not_false, tUn, rU, tNotN, tIsN, decide_true, decide_false, tBM, rAppend, HO.lst.injEq, HO.tup.injEq, wipe, tLstRg, tRg1, ha, RatF_num, CL T, NN T]
      refine ite2 (fun z => hbad (.inl (of_decide_eq_true z)) _ sm) (fun z => ?_)
      have z' : ¬ x.a.1 < 0 := fun y => z (decide_eq_true y)
      exact ⟨fun _ => by omega, by omega, by omega⟩
    | 1, hi =>
      cases hi
      simp only [tSeq, tIfS, tTest, tOp, tVar, tC, tCB, tCons, tNil, tRet, tAsg, gName, tNext, tDrop, rI, rI0, rEq, rNe, sc_ii, sc_ss, sc_bb, sc_in, sc_ni, sc_nn, sc_si, sc_is, List.getElem?_cons_zero, List.getElem?_cons_succ, List.set_cons_zero, List.set_cons_succ, Option.some.injEq, exists_eq_left', exists_eq_left, L2.start, cxOf, List.cons.injEq, and_true, exists_and_left, exists_and_right, exists_eq', V.int.injEq, V.bl.injEq, V.str.injEq, V.ref.injEq, List.length_cons, List.length_nil, List.cons_append, List.nil_append, true_and, List.map, List.replicate, tAndV, tOrV, tNotV, tTest, tB, tNot, tAnd, tOr, Nat.zero_add, Nat.reduceAdd, Nat.reduceSub, Nat.sub_self, sFld, tFld, tPar, tMake, tCall, tMeth, tTup, tLst, HO.ins.injEq, and_assoc, reduceCtorEq, false_and, exists_false, false_or, or_false, tFmt, tJs, tBreak, tCont, tMakeS, tCallS, Int.zero_add, if_true, if_false, Bool.false_eq_true, Bool.not_true, Bool.not_false, tUn, rU, tNotN, tIsN, decide_true, decide_false, tBM, rAppend, HO.lst.injEq, HO.tup.injEq, wipe, tLstRg, tRg1, hb, RatF_num, CL T, NN T]
      refine ite2 (fun z => hbad (.inr (.inl (of_decide_eq_true z))) _ sm) (fun z => ?_)
      have z' : ¬ x.b.1 < 0 := fun y => z (decide_eq_true y)
      exact ⟨fun _ => z1 (by omega), by omega, by omega⟩
    | 2, hi =>
      cases hi
      simp only [tSeq, tIfS, tTest, tOp, tVar, tC, tCB, tCons, tNil, tRet, tAsg, gName, tNext, tDrop, rI, rI0, rEq, rNe, sc_ii, sc_ss, sc_bb, sc_in, sc_ni, sc_nn, sc_si, sc_is, List.getElem?_cons_zero, List.getElem?_cons_succ, List.set_cons_zero, List.set_cons_succ, Option.some.injEq, exists_eq_left', exists_eq_left, L2.start, cxOf, List.cons.injEq, and_true, exists_and_left, exists_and_right, exists_eq', V.int.injEq, V.bl.injEq, V.str.injEq, V.ref.injEq, List.length_cons, List.length_nil, List.cons_append, List.nil_append, true_and, List.map, List.replicate, tAndV, tOrV, tNotV, tTest, tB, tNot, tAnd, tOr, Nat.zero_add, Nat.reduceAdd, Nat.reduceSub, Nat.sub_self, sFld, tFld, tPar, tMake, tCall, tMeth, tTup, tLst, HO.ins.injEq, and_assoc, reduceCtorEq, false_and, exists_false, false_or, or_false, tFmt, tJs, tBreak, tCont, tMakeS, tCallS, Int.zero_add, if_true, if_false, Bool.false_eq_true, Bool.not_true, Bool.not_false, tUn, rU, tNotN, tIsN, decide_true, decide_false, tBM, rAppend, HO.lst.injEq, HO.tup.injEq, wipe, tLstRg, tRg1, hc, RatF_num, CL T, NN T]
      refine ite2 (fun z => hbad (.inr (.inr (.inl (of_decide_eq_true z)))) _ sm) (fun z => ?_)
      have z' : ¬ x.c.1 < 0 := fun y => z (decide_eq_true y)
      exact ⟨fun _ => z1 (by omega), fun _ => z2 (by omega), by omega⟩
    | i + 3, hi => simp at hi
  · rintro σ H' ⟨v, rfl, rfl, z1, z2, z3⟩
    have z1 := z1 (by show 1 ≤ 3; decide); have z2 := z2 (by show 2 ≤ 3; decide); have z3 := z3 (by show 3 ≤ 3; decide)
    have hp := sm _ _ hp
    have fin : ¬ badL x.l = true → sFld K (tVar 0) (tVar 1) "flat" { nx := fun σ' H' => sFld K (tVar 0) (tVar 2) "first" { nx := fun σ' H' => sFld K (tVar 0) (tVar 3) "more" { nx := fun σ' H' => sFld K (tVar 0) (tVar 4) "limit" { nx := fun _ H' => Q .non H', rt := Q } σ' H', rt := Q } σ' H', rt := Q } σ' H', rt := Q } [some (.ref p), some (.ref a), some (.ref b), some (.ref c), some (lv x.l), v] H' := by
      intro hl
      have hnb : ¬ bad x := by
        rintro (h | h | h | h)
        · omega
        · omega
        · omega
        · exact hl h
      simp only [tSeq, tIfS, tTest, tOp, tVar, tC, tCB, tCons, tNil, tRet, tAsg, gName, tNext, tDrop, rI, rI0, rEq, rNe, sc_ii, sc_ss, sc_bb, sc_in, sc_ni, sc_nn, sc_si, sc_is, List.getElem?_cons_zero, List.getElem?_cons_succ, List.set_cons_zero, List.set_cons_succ, Option.some.injEq, exists_eq_left', exists_eq_left, L2.start, cxOf, List.cons.injEq, and_true, exists_and_left, exists_and_right, exists_eq', V.int.injEq, V.bl.injEq, V.str.injEq, V.ref.injEq, List.length_cons, List.length_nil, List.cons_append, List.nil_append, true_and, List.map, List.replicate, tAndV, tOrV, tNotV, tTest, tB, tNot, tAnd, tOr, Nat.zero_add, Nat.reduceAdd, Nat.reduceSub, Nat.sub_self, sFld, tFld, tPar, tMake, tCall, tMeth, tTup, tLst, HO.ins.injEq, and_assoc, reduceCtorEq, false_and, exists_false, false_or, or_false, tFmt, tJs, tBreak, tCont, tMakeS, tCallS, Int.zero_add, if_true, if_false, Bool.false_eq_true, Bool.not_true, Bool.not_false, tUn, rU, tNotN, tIsN, decide_true, decide_false, tBM, rAppend, HO.lst.injEq, HO.tup.injEq, wipe, tLstRg, tRg1, hp, upd_same, CB T, NB1 T, NB2 T, NB3 T, NB4 T]
      refine ⟨by decide, by show 1 < 1000; decide, by show 2 < 1000; decide, by show 3 < 1000; decide, ?_⟩
      refine hok hnb _ (fun q o e ne => ?_) (by rw [upd_same]; rfl)
      rw [upd_ne ne, upd_ne ne, upd_ne ne, upd_ne ne]
      exact sm _ _ e
    simp only [tSeq]
    cases hl : x.l with
    | none =>
      rw [hl] at fin
      simp only [tIfS, tTest, tOp, tVar, tC, tCB, tCons, tNil, tRet, tAsg, gName, tNext, tDrop, rI, rI0, rEq, rNe, sc_ii, sc_ss, sc_bb, sc_in, sc_ni, sc_nn, sc_si, sc_is, List.getElem?_cons_zero, List.getElem?_cons_succ, List.set_cons_zero, List.set_cons_succ, Option.some.injEq, exists_eq_left', exists_eq_left, L2.start, cxOf, List.cons.injEq, and_true, exists_and_left, exists_and_right, exists_eq', V.int.injEq, V.bl.injEq, V.str.injEq, V.ref.injEq, List.length_cons, List.length_nil, List.cons_append, List.nil_append, true_and, List.map, List.replicate, tAndV, tOrV, tNotV, tTest, tB, tNot, tAnd, tOr, Nat.zero_add, Nat.reduceAdd, Nat.reduceSub, Nat.sub_self, sFld, tFld, tPar, tMake, tCall, tMeth, tTup, tLst, HO.ins.injEq, and_assoc, reduceCtorEq, false_and, exists_false, false_or, or_false, tFmt, tJs, tBreak, tCont, tMakeS, tCallS, Int.zero_add, if_true, if_false, Bool.false_eq_true, Bool.not_true, Bool.not_false, tUn, rU, tNotN, tIsN, decide_true, decide_false, tBM, rAppend, HO.lst.injEq, HO.tup.injEq, wipe, tLstRg, tRg1, lv]
      exact fin (by simp [badL])
    | some l =>
      rw [hl] at fin
      simp only [tIfS, tTest, tOp, tVar, tC, tCB, tCons, tNil, tRet, tAsg, gName, tNext, tDrop, rI, rI0, rEq, rNe, sc_ii, sc_ss, sc_bb, sc_in, sc_ni, sc_nn, sc_si, sc_is, List.getElem?_cons_zero, List.getElem?_cons_succ, List.set_cons_zero, List.set_cons_succ, Option.some.injEq, exists_eq_left', exists_eq_left, L2.start, cxOf, List.cons.injEq, and_true, exists_and_left, exists_and_right, exists_eq', V.int.injEq, V.bl.injEq, V.str.injEq, V.ref.injEq, List.length_cons, List.length_nil, List.cons_append, List.nil_append, true_and, List.map, List.replicate, tAndV, tOrV, tNotV, tTest, tB, tNot, tAnd, tOr, Nat.zero_add, Nat.reduceAdd, Nat.reduceSub, Nat.sub_self, sFld, tFld, tPar, tMake, tCall, tMeth, tTup, tLst, HO.ins.injEq, and_assoc, reduceCtorEq, false_and, exists_false, false_or, or_false, tFmt, tJs, tBreak, tCont, tMakeS, tCallS, Int.zero_add, if_true, if_false, Bool.false_eq_true, Bool.not_true, Bool.not_false, tUn, rU, tNotN, tIsN, decide_true, decide_false, tBM, rAppend, HO.lst.injEq, HO.tup.injEq, wipe, tLstRg, tRg1, lv]
      refine ite2 (fun z => hbad (.inr (.inr (.inr (by rw [hl]; exact z)))) _ sm) (fun z => fin (by simpa [badL] using z))
theorem mk_Bound_4 (T : Tk K mg) : Oki P w K mg base (L2.CX P w) 1 "Bound" ["self", "flat", "first", "more", "limit"] [] (spBInit K) := by
  refine Oki.ofD s_Bound_init [.non] 5 1 (T.df 7) (by simp) (by decide) (T.glo 13) (T.mkr 14) sc_Bound_init (fun _ _ _ _ _ _ _ us its hu hi => match us, its, hu, hi with | [_, _, _, _, _], [_], _, _ => ⟨_, rfl, rfl⟩) (fun vs H Q E h => ?_) (binit_body T)
  obtain ⟨p, dx, a, b, c, x, rfl, _⟩ := h; rfl
theorem mk_Bound_3 (T : Tk K mg) : Oki P w K mg base (L2.CX P w) 1 "Bound" ["self", "flat", "first", "more", "limit"] [.non] (spBInit K) := by
  refine Oki.ofD s_Bound_init [.non] 4 0 (T.df 7) (by simp) (by decide) (T.glo 13) (T.mkr 14) sc_Bound_init (fun _ _ _ _ _ _ _ us its hu hi => match us, its, hu, hi with | [_, _, _, _], [_], _, _ => ⟨_, rfl, rfl⟩) (fun vs H Q E h => ?_) (binit_body T)
  obtain ⟨p, dx, a, b, c, x, rfl, _⟩ := h; rfl
/-- a bound stands at p -/
def BndAt (K : PySem.W.Frag) (H : Hp) (p : Addr) (x : B4) : Prop := ∃ dx a b c, H p = some (.ins (He.ga K "Bound") dx (BndF a b c x.l)) ∧ RatAt K H a x.a ∧ RatAt K H b x.b ∧ RatAt K H c x.c
theorem RatAt.same {H H' : Hp} {a : Addr} {p : Int × Int} (h : RatAt K H a p) (s : Same H H') : RatAt K H' a p := h.imp fun _ e => s _ _ e
theorem BndAt.same {H H' : Hp} {a : Addr} {x : B4} (h : BndAt K H a x) (s : Same H H') : BndAt K H' a x := by
  obtain ⟨dx, a, b, c, h1, h2, h3, h4⟩ := h
  exact ⟨dx, a, b, c, s _ _ h1, h2.same s, h3.same s, h4.same s⟩
/-- a new bound, behind the making -/
theorem made_bound {H : Hp} {G : Addr → Hp → Prop} {a b c : Addr} {x : B4} (hb : ¬ bad x) (h1 : RatAt K H a x.a) (h2 : RatAt K H b x.b) (h3 : RatAt K H c x.c)
    (hQ : ∀ (q : Addr) (H' : Hp), Same H H' → H q = none → BndAt K H' q x → G q H') {E : XK} : ∀ y dx, H y = none → H dx = none → dx ≠ y →
    spBInit K [.ref y, .ref a, .ref b, .ref c, lv x.l] (upd (upd H dx (.own y)) y (.ins (He.ga K "Bound") dx [])) (fun v H2 => v = .non ∧ G y H2) E := by
  intro y dx ny ndx ne
  have sm : Same H (upd (upd H dx (.own y)) y (.ins (He.ga K "Bound") dx [])) := fun b o e => by rw [upd_ne (ne_of_none e ny), upd_ne (ne_of_none e ndx)]; exact e
  refine ⟨y, dx, a, b, c, x, rfl, upd_same, h1.same sm, h2.same sm, h3.same sm, fun z => absurd z hb, fun _ H' k1 k2 => ⟨rfl, ?_⟩⟩
  have s2 : Same H H' := fun q o e => k1 q o (sm q o e) (ne_of_none e ny)
  exact hQ y H' s2 ny ⟨dx, a, b, c, k2, h1.same s2, h2.same s2, h3.same s2⟩
structure WrB (x : B4) : Prop where
  a1 : Wr x.a.1
  a2 : Wr x.a.2
  b1 : Wr x.b.1
  b2 : Wr x.b.2
  c1 : Wr x.c.1
  c2 : Wr x.c.2
def spParts (K : PySem.W.Frag) : Sp := fun vs H Q _ => ∃ (p : Addr) (x : B4), vs = [.ref p] ∧ BndAt K H p x ∧ WrB x ∧ ∀ q, H q = none → Q (.ref q) (upd H q (.tup [.str (ratText x.a), .str (ratText x.b), .str (ratText x.c), lv x.l]))
theorem ok_Bound_parts (T : Tk K mg) : Okm P w K mg base (L2.CX P w) 3 "Bound" "parts" ["self"] (spParts K) := by
  refine Okm.of s_Bound_parts (T.df 9) (T.cls 15) (T.meth 18) sc_Bound_parts (fun _ _ _ _ _ _ us hl => match us, hl with | [_], _ => rfl) (fun vs H Q E h => ?_) (fun cdv A outer s H vs Q E h hr hpo tk px pxe => ?_)
  · obtain ⟨p, x, rfl, _⟩ := h; rfl
  obtain ⟨p, x, rfl, ⟨dx, a, b, c, hp, ⟨da, ha⟩, ⟨db, hb⟩, ⟨dc, hc⟩⟩, W, hQ⟩ := h
  refine ⟨_, (pss_one (ps_ret (pe_tup (pa_cons (pe_callTy (call_strOwn (ok_Ratio_str T) (hr.mono (by decide)) px) (by rfl) (T.free 17) (by decide +kernel) (pa_cons (pe_fld (pv 0) rfl) pa_nil)) (pa_cons (pe_callTy (call_strOwn (ok_Ratio_str T) (hr.mono (by decide)) px) (by rfl) (T.free 17) (by decide +kernel) (pa_cons (pe_fld (pv 0) rfl) pa_nil)) (pa_cons (pe_callTy (call_strOwn (ok_Ratio_str T) (hr.mono (by decide)) px) (by rfl) (T.free 17) (by decide +kernel) (pa_cons (pe_fld (pv 0) rfl) pa_nil)) (pa_cons (pe_fld (pv 0) rfl) pa_nil))))))), ?_⟩
  clear hr hpo tk px pxe
  simp only [tSeq, tIfS, tTest, tOp, tVar, tC, tCB, tCons, tNil, tRet, tAsg, gName, tNext, tDrop, rI, rI0, rEq, rNe, sc_ii, sc_ss, sc_bb, sc_in, sc_ni, sc_nn, sc_si, sc_is, List.getElem?_cons_zero, List.getElem?_cons_succ, List.set_cons_zero, List.set_cons_succ, Option.some.injEq, exists_eq_left', exists_eq_left, L2.start, cxOf, List.cons.injEq, and_true, exists_and_left, exists_and_right, exists_eq', V.int.injEq, V.bl.injEq, V.str.injEq, V.ref.injEq, List.length_cons, List.length_nil, List.cons_append, List.nil_append, true_and, List.map, List.replicate, tAndV, tOrV, tNotV, tTest, tB, tNot, tAnd, tOr, Nat.zero_add, Nat.reduceAdd, Nat.reduceSub, Nat.sub_self, sFld, tFld, tPar, tMake, tCall, tMeth, tTup, tLst, HO.ins.injEq, and_assoc, reduceCtorEq, false_and, exists_false, false_or, or_false, tFmt, tJs, tBreak, tCont, tMakeS, tCallS, Int.zero_add, if_true, if_false, Bool.false_eq_true, Bool.not_true, Bool.not_false, tUn, rU, tNotN, tIsN, decide_true, decide_false, tBM, rAppend, HO.lst.injEq, HO.tup.injEq, wipe, tLstRg, tRg1, hp, BndF_1, BndF_2, BndF_3, BndF_4, CB T, NB1 T, NB2 T, NB3 T, NB4 T]
  refine ⟨a, da, _, rfl, ha, a, x.a, rfl, ⟨_, ha⟩, W.a1, W.a2, _, rfl, ?_⟩
  simp only [tSeq, tIfS, tTest, tOp, tVar, tC, tCB, tCons, tNil, tRet, tAsg, gName, tNext, tDrop, rI, rI0, rEq, rNe, sc_ii, sc_ss, sc_bb, sc_in, sc_ni, sc_nn, sc_si, sc_is, List.getElem?_cons_zero, List.getElem?_cons_succ, List.set_cons_zero, List.set_cons_succ, Option.some.injEq, exists_eq_left', exists_eq_left, L2.start, cxOf, List.cons.injEq, and_true, exists_and_left, exists_and_right, exists_eq', V.int.injEq, V.bl.injEq, V.str.injEq, V.ref.injEq, List.length_cons, List.length_nil, List.cons_append, List.nil_append, true_and, List.map, List.replicate, tAndV, tOrV, tNotV, tTest, tB, tNot, tAnd, tOr, Nat.zero_add, Nat.reduceAdd, Nat.reduceSub, Nat.sub_self, sFld, tFld, tPar, tMake, tCall, tMeth, tTup, tLst, HO.ins.injEq, and_assoc, reduceCtorEq, false_and, exists_false, false_or, or_false, tFmt, tJs, tBreak, tCont, tMakeS, tCallS, Int.zero_add, if_true, if_false, Bool.false_eq_true, Bool.not_true, Bool.not_false, tUn, rU, tNotN, tIsN, decide_true, decide_false, tBM, rAppend, HO.lst.injEq, HO.tup.injEq, wipe, tLstRg, tRg1, hp, BndF_1, BndF_2, BndF_3, BndF_4, CB T, NB1 T, NB2 T, NB3 T, NB4 T]
  refine ⟨b, db, _, rfl, hb, b, x.b, rfl, ⟨_, hb⟩, W.b1, W.b2, _, rfl, ?_⟩
  simp only [tSeq, tIfS, tTest, tOp, tVar, tC, tCB, tCons, tNil, tRet, tAsg, gName, tNext, tDrop, rI, rI0, rEq, rNe, sc_ii, sc_ss, sc_bb, sc_in, sc_ni, sc_nn, sc_si, sc_is, List.getElem?_cons_zero, List.getElem?_cons_succ, List.set_cons_zero, List.set_cons_succ, Option.some.injEq, exists_eq_left', exists_eq_left, L2.start, cxOf, List.cons.injEq, and_true, exists_and_left, exists_and_right, exists_eq', V.int.injEq, V.bl.injEq, V.str.injEq, V.ref.injEq, List.length_cons, List.length_nil, List.cons_append, List.nil_append, true_and, List.map, List.replicate, tAndV, tOrV, tNotV, tTest, tB, tNot, tAnd, tOr, Nat.zero_add, Nat.reduceAdd, Nat.reduceSub, Nat.sub_self, sFld, tFld, tPar, tMake, tCall, tMeth, tTup, tLst, HO.ins.injEq, and_assoc, reduceCtorEq, false_and, exists_false, false_or, or_false, tFmt, tJs, tBreak, tCont, tMakeS, tCallS, Int.zero_add, if_true, if_false, Bool.false_eq_true, Bool.not_true, Bool.not_false, tUn, rU, tNotN, tIsN, decide_true, decide_false, tBM, rAppend, HO.lst.injEq, HO.tup.injEq, wipe, tLstRg, tRg1, hp, BndF_1, BndF_2, BndF_3, BndF_4, CB T, NB1 T, NB2 T, NB3 T, NB4 T]
  refine ⟨c, dc, _, rfl, hc, c, x.c, rfl, ⟨_, hc⟩, W.c1, W.c2, _, rfl, ?_⟩
  simp only [tSeq, tIfS, tTest, tOp, tVar, tC, tCB, tCons, tNil, tRet, tAsg, gName, tNext, tDrop, rI, rI0, rEq, rNe, sc_ii, sc_ss, sc_bb, sc_in, sc_ni, sc_nn, sc_si, sc_is, List.getElem?_cons_zero, List.getElem?_cons_succ, List.set_cons_zero, List.set_cons_succ, Option.some.injEq, exists_eq_left', exists_eq_left, L2.start, cxOf, List.cons.injEq, and_true, exists_and_left, exists_and_right, exists_eq', V.int.injEq, V.bl.injEq, V.str.injEq, V.ref.injEq, List.length_cons, List.length_nil, List.cons_append, List.nil_append, true_and, List.map, List.replicate, tAndV, tOrV, tNotV, tTest, tB, tNot, tAnd, tOr, Nat.zero_add, Nat.reduceAdd, Nat.reduceSub, Nat.sub_self, sFld, tFld, tPar, tMake, tCall, tMeth, tTup, tLst, HO.ins.injEq, and_assoc, reduceCtorEq, false_and, exists_false, false_or, or_false, tFmt, tJs, tBreak, tCont, tMakeS, tCallS, Int.zero_add, if_true, if_false, Bool.false_eq_true, Bool.not_true, Bool.not_false, tUn, rU, tNotN, tIsN, decide_true, decide_false, tBM, rAppend, HO.lst.injEq, HO.tup.injEq, wipe, tLstRg, tRg1, hp, BndF_1, BndF_2, BndF_3, BndF_4, CB T, NB1 T, NB2 T, NB3 T, NB4 T]
  exact ⟨by decide, hQ⟩
def tx (x : B4) : Str × Str × Str × Option Int := (ratText x.a, ratText x.b, ratText x.c, x.l)
def ldt : Option Int → PyData
  | none => .none
  | some i => .int i
theorem ldt_ok {K : PySem.W.Frag} {H : Hp} : ∀ l, Dp K H (lv l) (ldt l)
  | none => .non
  | some i => .int i
theorem ldt_eqv : ∀ l m, PyData.eqv (ldt l) (ldt m) = decide (l = m)
  | none, none => rfl
  | none, some _ => rfl
  | some _, none => rfl
  | some i, some j => by
    by_cases h : i = j <;> simp [ldt, PyData.eqv, h]
theorem tx_eqv (x y : B4) : PyData.eqv (.tuple [.str (ratText x.a), .str (ratText x.b), .str (ratText x.c), ldt x.l]) (.tuple [.str (ratText y.a), .str (ratText y.b), .str (ratText y.c), ldt y.l]) = decide (tx x = tx y) := by
  have e : PyData.eqv (.tuple [.str (ratText x.a), .str (ratText x.b), .str (ratText x.c), ldt x.l]) (.tuple [.str (ratText y.a), .str (ratText y.b), .str (ratText y.c), ldt y.l]) =
      ((ratText x.a == ratText y.a) && ((ratText x.b == ratText y.b) && ((ratText x.c == ratText y.c) && decide (x.l = y.l)))) := by
    simp only [PyData.eqv, PyData.eqvAll, ldt_eqv, Bool.and_true]
  rw [e]
  by_cases h1 : ratText x.a = ratText y.a <;> by_cases h2 : ratText x.b = ratText y.b <;> by_cases h3 : ratText x.c = ratText y.c <;> by_cases h4 : x.l = y.l <;> simp [tx, h1, h2, h3, h4]
theorem ratText_ok (p : Int × Int) : PyData.strOk (ratText p) = true := by
  unfold ratText
  split
  · exact strOk_of _
  · exact strOk_app _ _ (strOk_app _ _ (strOk_of _) (strOk_of _)) (strOk_of _)
theorem ldt_shaped (a b c : Int × Int) (l : Option Int) : SeqAt.shaped (.tuple [.str (ratText a), .str (ratText b), .str (ratText c), ldt l]) = true := by
  have h1 := ratText_ok a; have h2 := ratText_ok b; have h3 := ratText_ok c
  unfold SeqAt.shaped
  cases l <;> simp [PyData.canLay0, PyData.canLayAll0, h1, h2, h3, ldt, PyData.depth, PyData.depthAll]
def spBEq (K : PySem.W.Frag) : Sp := fun vs H Q _ => ∃ (p q : Addr) (x y : B4), vs = [.ref p, .ref q] ∧ BndAt K H p x ∧ BndAt K H q y ∧ WrB x ∧ WrB y ∧ ∀ H', Same H H' → Q (.bl (decide (tx x = tx y))) H'
theorem ok_Bound_eq (T : Tk K mg) : Okm P w K mg base (L2.CX P w) 5 "Bound" "__eq__" ["self", "other"] (spBEq K) := by
  refine Okm.of s_Bound_eq (T.df 8) (T.cls 15) (T.meth 16) sc_Bound_eq (fun _ _ _ _ _ _ us hl => match us, hl with | [_, _], _ => rfl) (fun vs H Q E h => ?_) (fun cdv A outer s H vs Q E h hr hpo tk px pxe => ?_)
  · obtain ⟨p, q, x, y, rfl, _⟩ := h; rfl
  obtain ⟨p, q, x, y, rfl, h1, h2, W1, W2, hQ⟩ := h
  refine ⟨_, (pss_one (ps_ret (pe_and (pe_callB call_isi (by rfl) (T.free 9) (by decide +kernel) (pa_cons (pv 1) (pa_cons (pe_glob (v := .ref (He.ga K "Bound")) (by rfl) (T.glo 13) rfl) pa_nil))) (pe_one (pe_cmpR (op_eqD hr.units) (pm0 (ok_Bound_parts T) (hr.mono (by decide)) px (pv 0)) (pm0 (ok_Bound_parts T) (hr.mono (by decide)) px (pv 1)) (nomark _)))))), ?_⟩
  clear hr hpo tk px pxe
  obtain ⟨dx, a, b, c, hp, _⟩ := id h1
  obtain ⟨dy, a', b', c', hq, _⟩ := id h2
  simp only [tSeq, tIfS, tTest, tOp, tVar, tC, tCB, tCons, tNil, tRet, tAsg, gName, tNext, tDrop, rI, rI0, rEq, rNe, sc_ii, sc_ss, sc_bb, sc_in, sc_ni, sc_nn, sc_si, sc_is, List.getElem?_cons_zero, List.getElem?_cons_succ, List.set_cons_zero, List.set_cons_succ, Option.some.injEq, exists_eq_left', exists_eq_left, L2.start, cxOf, List.cons.injEq, and_true, exists_and_left, exists_and_right, exists_eq', V.int.injEq, V.bl.injEq, V.str.injEq, V.ref.injEq, List.length_cons, List.length_nil, List.cons_append, List.nil_append, true_and, List.map, List.replicate, tAndV, tOrV, tNotV, tTest, tB, tNot, tAnd, tOr, Nat.zero_add, Nat.reduceAdd, Nat.reduceSub, Nat.sub_self, sFld, tFld, tPar, tMake, tCall, tMeth, tTup, tLst, HO.ins.injEq, and_assoc, reduceCtorEq, false_and, exists_false, false_or, or_false, tFmt, tJs, tBreak, tCont, tMakeS, tCallS, Int.zero_add, if_true, if_false, Bool.false_eq_true, Bool.not_true, Bool.not_false, tUn, rU, tNotN, tIsN, decide_true, decide_false, tBM, rAppend, HO.lst.injEq, HO.tup.injEq, wipe, tLstRg, tRg1, hp, hq, CB T]
  refine isi_ins (insB_ok (CB T) (T.fx 3)) hq kit_self ⟨true, rfl, iteT ?_⟩
  simp only [tSeq, tIfS, tTest, tOp, tVar, tC, tCB, tCons, tNil, tRet, tAsg, gName, tNext, tDrop, rI, rI0, rEq, rNe, sc_ii, sc_ss, sc_bb, sc_in, sc_ni, sc_nn, sc_si, sc_is, List.getElem?_cons_zero, List.getElem?_cons_succ, List.set_cons_zero, List.set_cons_succ, Option.some.injEq, exists_eq_left', exists_eq_left, L2.start, cxOf, List.cons.injEq, and_true, exists_and_left, exists_and_right, exists_eq', V.int.injEq, V.bl.injEq, V.str.injEq, V.ref.injEq, List.length_cons, List.length_nil, List.cons_append, List.nil_append, true_and, List.map, List.replicate, tAndV, tOrV, tNotV, tTest, tB, tNot, tAnd, tOr, Nat.zero_add, Nat.reduceAdd, Nat.reduceSub, Nat.sub_self, sFld, tFld, tPar, tMake, tCall, tMeth, tTup, tLst, HO.ins.injEq, and_assoc, reduceCtorEq, false_and, exists_false, false_or, or_false, tFmt, tJs, tBreak, tCont, tMakeS, tCallS, Int.zero_add, if_true, if_false, Bool.false_eq_true, Bool.not_true, Bool.not_false, tUn, rU, tNotN, tIsN, decide_true, decide_false, tBM, rAppend, HO.lst.injEq, HO.tup.injEq, wipe, tLstRg, tRg1, hp, hq, CB T]
  refine ⟨BndF_no _ _ _ _ (by decide +kernel) (by decide +kernel) (by decide +kernel) (by decide +kernel), p, x, rfl, h1, W1, fun u nu => ?_⟩
  have su := same_upd (o := HO.tup [.str (ratText x.a), .str (ratText x.b), .str (ratText x.c), lv x.l]) nu
  refine ⟨dy, _, su _ _ hq, BndF_no _ _ _ _ (by decide +kernel) (by decide +kernel) (by decide +kernel) (by decide +kernel), q, y, rfl, h2.same su, W2, fun v nv => ?_⟩
  have sv := same_upd (o := HO.tup [.str (ratText y.a), .str (ratText y.b), .str (ratText y.c), lv y.l]) nv
  refine ⟨_, _, .tup (SqT.of (sv _ _ upd_same)) (.cons (.str _) (.cons (.str _) (.cons (.str _) (.cons (ldt_ok _) .nil)))), .tup (SqT.of upd_same) (.cons (.str _) (.cons (.str _) (.cons (.str _) (.cons (ldt_ok _) .nil)))), ldt_shaped .., ldt_shaped .., ?_⟩
  rw [tx_eqv]
  exact hQ _ (su.trans sv)
/-! ### at -/
def over : Option Int → Int → Bool
  | none, _ => false
  | some l, q => decide (l < q)
def val (x : B4) (q : Int) : Int × Int := rad (rad x.a (rmu x.b (q, 1))) (rmu x.c (q * (q - 1) / 2, 1))
def atv (x : B4) (q : Int) : Int × Int := if q = 0 then (0, 1) else if over x.l q = true then (1, 1) else if (val x q).2 < (val x q).1 then (1, 1) else val x q
/-- sizes of a bound's parts -/
structure SzB (x : B4) : Prop where
  a : Sz x.a 60 60
  b : Sz x.b 70 64
  c : Sz x.c 60 60
theorem lim_merge {l : Option Int} {q : Int} {A B : Prop} (hA : over l q = true → A) (hB : over l q = false → B) : if (!decide (lv l = V.non)) = true then ∃ x, lv l = V.int x ∧ if decide (x < q) = true then A else B else B := by
  cases l with
  | none => exact hB rfl
  | some i =>
    refine iteT ⟨i, rfl, ?_⟩
    cases e : decide (i < q) with
    | true => exact iteT (hA e)
    | false => exact iteF (hB e)
/-- two ratios by + or * -/
theorem arith_at {H : Hp} {Q : VK} {E : XK} {f g : Int × Int → Int × Int → Int} {a b : Addr} {p q : Int × Int} (ha : RatAt K H a p) (hb : RatAt K H b q) (zp : Sz p 300 300) (zq : Sz q 300 300)
    (hQ : ∀ (c : Addr) (H' : Hp), Same H H' → H c = none → RatAt K H' c (red (f p q) (g p q)) → Q (.ref c) H') : rOwn (He.ga K "Ratio") (spArith K f g) E (.ref a) (.ref b) H Q := by
  obtain ⟨dx, h1⟩ := id ha
  obtain ⟨dy, h2⟩ := id hb
  exact rOwn_at h1 h2 ⟨a, b, p, q, rfl, ha, hb, zp.num, zq.num, zp.pos, zq.pos, zp.den, zq.den, hQ⟩
def spAt (K : PySem.W.Frag) : Sp := fun vs H Q _ => ∃ (p : Addr) (x : B4) (q : Int), vs = [.ref p, .int q] ∧ BndAt K H p x ∧ SzB x ∧ 0 ≤ q ∧ Lt2 q 32 ∧ ∀ c H', Same H H' → H c = none → RatAt K H' c (atv x q) → Q (.ref c) H'
theorem rd_10 : red 0 1 = (0, 1) := rd_one 0
theorem rd_11 : red 1 1 = (1, 1) := rd_one 1
theorem rd_one' (n : Int) : red n 1 = (n, 1) := rd_one n
theorem Lt2_1 : Lt2 1 900 := Lt2.mono (k := 1) (show (1 : Int).natAbs < 2 ^ 1 by decide) (by decide)
theorem ok_Bound_at (T : Tk K mg) : Okm P w K mg base (L2.CX P w) 5 "Bound" "at" ["self", "calls"] (spAt K) := by
  refine Okm.of s_Bound_at (T.df 10) (T.cls 15) (T.meth 19) sc_Bound_at (fun _ _ _ _ _ _ us hl => match us, hl with | [_, _], _ => rfl) (fun vs H Q E h => ?_) (fun cdv A outer s H vs Q E h hr hpo tk px pxe => ?_)
  · obtain ⟨p, x, q, rfl, _⟩ := h; rfl
  obtain ⟨p, x, q, rfl, h1, Z, q0, q20, hQ⟩ := h
  refine ⟨_, (pss_cons (ps_if (pt_cmpR op_eq (pv 1) pe_int (nomark _)) (pss_one (ps_ret (pmk (mk_Ratio_1 T) (hr.mono (by decide)) (by rfl) px (pa_cons pe_int pa_nil)))) pss_nil)
  (pss_cons (ps_if (PW.pt (pw_and (pt_cmp (pc_notN (pe_fld (pv 0) rfl))) (pw_and1 (pt_cmpR op_gt (pv 1) (pe_fld (pv 0) rfl) (nomark _))))) (pss_one (ps_ret (pmk (mk_Ratio_1 T) (hr.mono (by decide)) (by rfl) px (pa_cons pe_int pa_nil)))) pss_nil)
  (pss_cons (ps_set (i := 2) sc_Bound_at.nd rfl (Or.inl rfl) (pe_op (op_own (T.fx 0) (ok_Ratio_add T) (hr.mono (by decide)) px) (pe_op (op_own (T.fx 0) (ok_Ratio_add T) (hr.mono (by decide)) px) (pe_fld (pv 0) rfl) (pe_op (op_own (T.fx 0) (ok_Ratio_mul T) (hr.mono (by decide)) px) (pe_fld (pv 0) rfl) (pmk (mk_Ratio_1 T) (hr.mono (by decide)) (by rfl) px (pa_cons (pv 1) pa_nil)))) (pe_op (op_own (T.fx 0) (ok_Ratio_mul T) (hr.mono (by decide)) px) (pe_fld (pv 0) rfl) (pmk (mk_Ratio_1 T) (hr.mono (by decide)) (by rfl) px (pa_cons (pe_op op_fdiv (pe_op op_mulW (pv 1) (pe_op op_sub (pv 1) pe_int)) pe_int) pa_nil)))))
  (pss_cons (ps_if (pt_val (pm (ok_Ratio_below T) (hr.mono (by decide)) px (pmk (mk_Ratio_1 T) (hr.mono (by decide)) (by rfl) px (pa_cons pe_int pa_nil)) (pa_cons (pv 2) pa_nil))) (pss_one (ps_ret (pmk (mk_Ratio_1 T) (hr.mono (by decide)) (by rfl) px (pa_cons pe_int pa_nil)))) pss_nil)
  (pss_one (ps_ret (pv 2))))))), ?_⟩
  clear hr hpo tk px pxe
  obtain ⟨dx, a, b, c, hp, ha, hb, hc⟩ := h1
  simp only [tSeq]
  simp only [tIfS, tTest, tOp, tVar, tC, tCB, tCons, tNil, tRet, tAsg, gName, tNext, tDrop, rI, rI0, rEq, rNe, sc_ii, sc_ss, sc_bb, sc_in, sc_ni, sc_nn, sc_si, sc_is, List.getElem?_cons_zero, List.getElem?_cons_succ, List.set_cons_zero, List.set_cons_succ, Option.some.injEq, exists_eq_left', exists_eq_left, L2.start, cxOf, List.cons.injEq, and_true, exists_and_left, exists_and_right, exists_eq', V.int.injEq, V.bl.injEq, V.str.injEq, V.ref.injEq, List.length_cons, List.length_nil, List.cons_append, List.nil_append, true_and, List.map, List.replicate, tAndV, tOrV, tNotV, tTest, tB, tNot, tAnd, tOr, Nat.zero_add, Nat.reduceAdd, Nat.reduceSub, Nat.sub_self, sFld, tFld, tPar, tMake, tCall, tMeth, tTup, tLst, HO.ins.injEq, and_assoc, reduceCtorEq, false_and, exists_false, false_or, or_false, tFmt, tJs, tBreak, tCont, tMakeS, tCallS, Int.zero_add, if_true, if_false, Bool.false_eq_true, Bool.not_true, Bool.not_false, tUn, rU, tNotN, tIsN, decide_true, decide_false, tBM, rAppend, HO.lst.injEq, HO.tup.injEq, wipe, tLstRg, tRg1, hp, BndF_1, BndF_2, BndF_3, BndF_4, CB T, NB1 T, NB2 T, NB3 T, NB4 T]
  refine ite2 (fun z => ?_) (fun z => ?_)
  · have e : q = 0 := of_decide_eq_true z
    refine made_ratio (by decide) Lt2_1 (fun c H' s nc r => ?_)
    rw [rd_10] at r
    exact hQ c H' s nc (by rw [atv, if_pos e]; exact r)
  have qn : q ≠ 0 := fun y => z (decide_eq_true y)
  have lim : over x.l q = true → ∀ x_1 dx_1, H x_1 = none → H dx_1 = none → dx_1 ≠ x_1 → spInit K [.ref x_1, .int 1, .int 1] (upd (upd H dx_1 (.own x_1)) x_1 (.ins (He.ga K "Ratio") dx_1 [])) (fun v H2 => v = .non ∧ Q (.ref x_1) H2) E0 := by
    intro ho
    refine made_ratio (G := fun y H2 => Q (.ref y) H2) (by decide) Lt2_1 (fun c H' s nc r => ?_)
    rw [rd_11] at r
    exact hQ c H' s nc (by rw [atv, if_neg qn, if_pos ho]; exact r)
  simp only [tSeq]
  simp only [tIfS, tTest, tOp, tVar, tC, tCB, tCons, tNil, tRet, tAsg, gName, tNext, tDrop, rI, rI0, rEq, rNe, sc_ii, sc_ss, sc_bb, sc_in, sc_ni, sc_nn, sc_si, sc_is, List.getElem?_cons_zero, List.getElem?_cons_succ, List.set_cons_zero, List.set_cons_succ, Option.some.injEq, exists_eq_left', exists_eq_left, L2.start, cxOf, List.cons.injEq, and_true, exists_and_left, exists_and_right, exists_eq', V.int.injEq, V.bl.injEq, V.str.injEq, V.ref.injEq, List.length_cons, List.length_nil, List.cons_append, List.nil_append, true_and, List.map, List.replicate, tAndV, tOrV, tNotV, tTest, tB, tNot, tAnd, tOr, Nat.zero_add, Nat.reduceAdd, Nat.reduceSub, Nat.sub_self, sFld, tFld, tPar, tMake, tCall, tMeth, tTup, tLst, HO.ins.injEq, and_assoc, reduceCtorEq, false_and, exists_false, false_or, or_false, tFmt, tJs, tBreak, tCont, tMakeS, tCallS, Int.zero_add, if_true, if_false, Bool.false_eq_true, Bool.not_true, Bool.not_false, tUn, rU, tNotN, tIsN, decide_true, decide_false, tBM, rAppend, HO.lst.injEq, HO.tup.injEq, wipe, tLstRg, tRg1, hp, BndF_1, BndF_2, BndF_3, BndF_4, CB T, NB1 T, NB2 T, NB3 T, NB4 T]
  refine lim_merge lim (fun ho => ?_)
  clear lim
  have hq2 : Lt2 (q * (q - 1)) 65 := q20.mul ((q20.sub (show (1 : Int).natAbs < 2 ^ 32 by decide)))
  have hq3 : Lt2 (q * (q - 1) / 2) 65 := .of_le (y := q * (q - 1)) (by
    have : 0 ≤ q * (q - 1) := Int.mul_nonneg q0 (by omega)
    omega) hq2
  have m1 : CMulW q (q - 1) := q20.cmul (q20.sub (show (1 : Int).natAbs < 2 ^ 32 by decide)) (by decide)
  have d2 : ∀ z, CDiv z 2 := fun z => ⟨by decide, by decide⟩
  have zq : Sz (q, 1) 32 1 := .int q20
  have zt : Sz (q * (q - 1) / 2, 1) 65 1 := .int hq3
  simp only [tSeq]
  simp only [tIfS, tTest, tOp, tVar, tC, tCB, tCons, tNil, tRet, tAsg, gName, tNext, tDrop, rI, rI0, rEq, rNe, sc_ii, sc_ss, sc_bb, sc_in, sc_ni, sc_nn, sc_si, sc_is, List.getElem?_cons_zero, List.getElem?_cons_succ, List.set_cons_zero, List.set_cons_succ, Option.some.injEq, exists_eq_left', exists_eq_left, L2.start, cxOf, List.cons.injEq, and_true, exists_and_left, exists_and_right, exists_eq', V.int.injEq, V.bl.injEq, V.str.injEq, V.ref.injEq, List.length_cons, List.length_nil, List.cons_append, List.nil_append, true_and, List.map, List.replicate, tAndV, tOrV, tNotV, tTest, tB, tNot, tAnd, tOr, Nat.zero_add, Nat.reduceAdd, Nat.reduceSub, Nat.sub_self, sFld, tFld, tPar, tMake, tCall, tMeth, tTup, tLst, HO.ins.injEq, and_assoc, reduceCtorEq, false_and, exists_false, false_or, or_false, tFmt, tJs, tBreak, tCont, tMakeS, tCallS, Int.zero_add, if_true, if_false, Bool.false_eq_true, Bool.not_true, Bool.not_false, tUn, rU, tNotN, tIsN, decide_true, decide_false, tBM, rAppend, HO.lst.injEq, HO.tup.injEq, wipe, tLstRg, tRg1, hp, BndF_1, BndF_2, BndF_3, BndF_4, CB T, NB1 T, NB2 T, NB3 T, NB4 T, m1, d2]
  refine made_ratio (by decide) Lt2_1 (fun o1 H1 s1 n1 r1 => ?_)
  rw [rd_one' q] at r1
  refine arith_at (hb.same s1) r1 (Z.b.mono (by decide) (by decide)) (zq.mono (by decide) (by decide)) (fun o2 H2 s2 n2 r2 => ?_)
  have z2 := Z.b.rmu zq
  refine arith_at ((ha.same s1).same s2) r2 (Z.a.mono (by decide) (by decide)) (z2.mono (by decide) (by decide)) (fun o3 H3 s3 n3 r3 => ?_)
  have z3 := Z.a.rad z2 (e := 180) (by decide) (by decide)
  have s13 := (s1.trans s2).trans s3
  have hp3 := s13 _ _ hp
  simp only [tIfS, tTest, tOp, tVar, tC, tCB, tCons, tNil, tRet, tAsg, gName, tNext, tDrop, rI, rI0, rEq, rNe, sc_ii, sc_ss, sc_bb, sc_in, sc_ni, sc_nn, sc_si, sc_is, List.getElem?_cons_zero, List.getElem?_cons_succ, List.set_cons_zero, List.set_cons_succ, Option.some.injEq, exists_eq_left', exists_eq_left, L2.start, cxOf, List.cons.injEq, and_true, exists_and_left, exists_and_right, exists_eq', V.int.injEq, V.bl.injEq, V.str.injEq, V.ref.injEq, List.length_cons, List.length_nil, List.cons_append, List.nil_append, true_and, List.map, List.replicate, tAndV, tOrV, tNotV, tTest, tB, tNot, tAnd, tOr, Nat.zero_add, Nat.reduceAdd, Nat.reduceSub, Nat.sub_self, sFld, tFld, tPar, tMake, tCall, tMeth, tTup, tLst, HO.ins.injEq, and_assoc, reduceCtorEq, false_and, exists_false, false_or, or_false, tFmt, tJs, tBreak, tCont, tMakeS, tCallS, Int.zero_add, if_true, if_false, Bool.false_eq_true, Bool.not_true, Bool.not_false, tUn, rU, tNotN, tIsN, decide_true, decide_false, tBM, rAppend, HO.lst.injEq, HO.tup.injEq, wipe, tLstRg, tRg1, hp3, BndF_1, BndF_2, BndF_3, BndF_4, CB T, NB1 T, NB2 T, NB3 T, NB4 T, m1, d2]
  refine made_ratio (by decide) Lt2_1 (fun o4 H4 s4 n4 r4 => ?_)
  rw [rd_one' (q * (q - 1) / 2)] at r4
  refine arith_at ((hc.same s13).same s4) r4 (Z.c.mono (by decide) (by decide)) (zt.mono (by decide) (by decide)) (fun o5 H5 s5 n5 r5 => ?_)
  have z5 := Z.c.rmu zt
  refine arith_at ((r3.same s4).same s5) r5 (z3.mono (by decide) (by decide)) (z5.mono (by decide) (by decide)) (fun o6 H6 s6 n6 r6 => ?_)
  have z6 : Sz (val x q) 300 300 := (z3.rad z5 (e := 262) (by decide) (by decide)).mono (by decide) (by decide)
  have s6' := (((s13.trans s4).trans s5).trans s6)
  replace r6 : RatAt K H6 o6 (val x q) := r6
  simp only [atv, if_neg qn, ho, Bool.false_eq_true, if_false] at hQ
  generalize val x q = v at r6 z6 hQ
  simp only [tSeq]
  simp only [tIfS, tTest, tOp, tVar, tC, tCB, tCons, tNil, tRet, tAsg, gName, tNext, tDrop, rI, rI0, rEq, rNe, sc_ii, sc_ss, sc_bb, sc_in, sc_ni, sc_nn, sc_si, sc_is, List.getElem?_cons_zero, List.getElem?_cons_succ, List.set_cons_zero, List.set_cons_succ, Option.some.injEq, exists_eq_left', exists_eq_left, L2.start, cxOf, List.cons.injEq, and_true, exists_and_left, exists_and_right, exists_eq', V.int.injEq, V.bl.injEq, V.str.injEq, V.ref.injEq, List.length_cons, List.length_nil, List.cons_append, List.nil_append, true_and, List.map, List.replicate, tAndV, tOrV, tNotV, tTest, tB, tNot, tAnd, tOr, Nat.zero_add, Nat.reduceAdd, Nat.reduceSub, Nat.sub_self, sFld, tFld, tPar, tMake, tCall, tMeth, tTup, tLst, HO.ins.injEq, and_assoc, reduceCtorEq, false_and, exists_false, false_or, or_false, tFmt, tJs, tBreak, tCont, tMakeS, tCallS, Int.zero_add, if_true, if_false, Bool.false_eq_true, Bool.not_true, Bool.not_false, tUn, rU, tNotN, tIsN, decide_true, decide_false, tBM, rAppend, HO.lst.injEq, HO.tup.injEq, wipe, tLstRg, tRg1]
  refine made_ratio (by decide) Lt2_1 (fun o7 H7 s7 n7 r7 => ?_)
  rw [rd_11] at r7
  obtain ⟨dz, r7'⟩ := id r7
  refine ⟨dz, _, r7', RatF_no _ (by decide +kernel) (by decide +kernel), ?_⟩
  have r6' := r6.same s7
  have z1 : Sz ((1 : Int), (1 : Int)) 1 1 := .int (show (1 : Int).natAbs < 2 ^ 1 by decide)
  have z1 := z1.mono (a' := 300) (b' := 300) (by decide) (by decide)
  refine ⟨o7, o6, _, _, rfl, r7, r6', z1.num, z6.num, z1.den, z6.den, ?_⟩
  have s7' := s6'.trans s7
  have n6' : H o6 = none := ((s13.trans s4).trans s5).free n6
  simp only [tIfS, tTest, tOp, tVar, tC, tCB, tCons, tNil, tRet, tAsg, gName, tNext, tDrop, rI, rI0, rEq, rNe, sc_ii, sc_ss, sc_bb, sc_in, sc_ni, sc_nn, sc_si, sc_is, List.getElem?_cons_zero, List.getElem?_cons_succ, List.set_cons_zero, List.set_cons_succ, Option.some.injEq, exists_eq_left', exists_eq_left, L2.start, cxOf, List.cons.injEq, and_true, exists_and_left, exists_and_right, exists_eq', V.int.injEq, V.bl.injEq, V.str.injEq, V.ref.injEq, List.length_cons, List.length_nil, List.cons_append, List.nil_append, true_and, List.map, List.replicate, tAndV, tOrV, tNotV, tTest, tB, tNot, tAnd, tOr, Nat.zero_add, Nat.reduceAdd, Nat.reduceSub, Nat.sub_self, sFld, tFld, tPar, tMake, tCall, tMeth, tTup, tLst, HO.ins.injEq, and_assoc, reduceCtorEq, false_and, exists_false, false_or, or_false, tFmt, tJs, tBreak, tCont, tMakeS, tCallS, Int.zero_add, if_true, if_false, Bool.false_eq_true, Bool.not_true, Bool.not_false, tUn, rU, tNotN, tIsN, decide_true, decide_false, tBM, rAppend, HO.lst.injEq, HO.tup.injEq, wipe, tLstRg, tRg1, Int.one_mul, Int.mul_one]
  refine ite2 (fun z => ?_) (fun z => ?_)
  · refine made_ratio (by decide) Lt2_1 (fun c H' s nc r => ?_)
    rw [rd_11] at r
    exact hQ c H' (s7'.trans s) (s7'.free nc) (by rw [if_pos (of_decide_eq_true z)]; exact r)
  · exact hQ o6 _ s7' n6' (by rw [if_neg (fun y => z (decide_eq_true y))]; exact r6')
end
end K30

namespace K30
open PySem PySem.Spec PyProof.Rows L2 TL PL
section
variable {P : Program} {w : World} {K : PySem.W.Frag} {mg : Str → Option Value} {base : Heap}
/-! ### plus, within, nothing -/
def minL : Option Int → Option Int → Option Int
  | none, m => m
  | some l, none => some l
  | some l, some m => if m < l then some m else some l
def plusB (x y : B4) : B4 := ⟨rad x.a y.a, rad x.b y.b, rad x.c y.c, minL x.l y.l⟩
structure Ok (x : B4) : Prop where
  a : 0 ≤ x.a.1
  b : 0 ≤ x.b.1
  c : 0 ≤ x.c.1
  l : badL x.l = false
theorem Ok.not {x : B4} (h : Ok x) : ¬ bad x := by
  rintro (z | z | z | z)
  · have := h.a; omega
  · have := h.b; omega
  · have := h.c; omega
  · rw [h.l] at z; cases z
theorem red_nn {n d : Int} (h : 0 ≤ n) (hd : 0 < d) : 0 ≤ (red n d).1 := Int.ediv_nonneg h (by have := gcd_pos (n := n) hd; omega)
theorem rad_nn {p q : Int × Int} (hp : 0 ≤ p.1) (hq : 0 ≤ q.1) (dp : 0 < p.2) (dq : 0 < q.2) : 0 ≤ (rad p q).1 := red_nn (Int.add_nonneg (Int.mul_nonneg hp (by omega)) (Int.mul_nonneg hq (by omega))) (Int.mul_pos dp dq)
theorem rmu_nn {p q : Int × Int} (hp : 0 ≤ p.1) (hq : 0 ≤ q.1) (dp : 0 < p.2) (dq : 0 < q.2) : 0 ≤ (rmu p q).1 := red_nn (Int.mul_nonneg hp hq) (Int.mul_pos dp dq)
theorem plusB_ok {x y : B4} (hx : Ok x) (hy : Ok y) (zx : SzB x) (zy : SzB y) : Ok (plusB x y) where
  a := rad_nn hx.a hy.a zx.a.pos zy.a.pos
  b := rad_nn hx.b hy.b zx.b.pos zy.b.pos
  c := rad_nn hx.c hy.c zx.c.pos zy.c.pos
  l := by
    have h1 := hx.l; have h2 := hy.l
    show badL (minL x.l y.l) = false
    generalize x.l = l at *
    generalize y.l = m at *
    cases l <;> cases m <;> simp only [minL] at * <;> try assumption
    split <;> assumption
def spPlus (K : PySem.W.Frag) : Sp := fun vs H Q _ => ∃ (p q : Addr) (x y : B4), vs = [.ref p, .ref q] ∧ BndAt K H p x ∧ BndAt K H q y ∧ Ok x ∧ Ok y ∧ SzB x ∧ SzB y ∧ ∀ c H', Same H H' → H c = none → BndAt K H' c (plusB x y) → Q (.ref c) H'
theorem ok_Bound_plus (T : Tk K mg) : Okm P w K mg base (L2.CX P w) 5 "Bound" "plus" ["self", "other"] (spPlus K) := by
  refine Okm.of s_Bound_plus (T.df 11) (T.cls 15) (T.meth 20) sc_Bound_plus (fun _ _ _ _ _ _ us hl => match us, hl with | [_, _], _ => rfl) (fun vs H Q E h => ?_) (fun cdv A outer s H vs Q E h hr hpo tk px pxe => ?_)
  · obtain ⟨p, q, x, y, rfl, _⟩ := h; rfl
  obtain ⟨p, q, x, y, rfl, h1, h2, kx, ky, zx, zy, hQ⟩ := h
  refine ⟨_, (pss_cons (ps_set (i := 2) sc_Bound_plus.nd rfl (Or.inl rfl) (pe_fld (pv 0) rfl))
  (C8.pss_cut (ps_if (PW.pt (pw_or (pt_cmp (pc_isN (pv 2))) (pw_or1 (PW.pt (pw_and (pt_cmp (pc_notN (pe_fld (pv 1) rfl))) (pw_and1 (pt_cmpR op_lt (pe_fld (pv 1) rfl) (pv 2) (nomark _)))))))) (pss_one (ps_set (i := 2) sc_Bound_plus.nd rfl (Or.inl rfl) (pe_fld (pv 1) rfl))) pss_nil)
  (pss_one (ps_ret (pmk (mk_Bound_4 T) (hr.mono (by decide)) (by rfl) px (pa_cons (pe_op (op_own (T.fx 0) (ok_Ratio_add T) (hr.mono (by decide)) px) (pe_fld (pv 0) rfl) (pe_fld (pv 1) rfl)) (pa_cons (pe_op (op_own (T.fx 0) (ok_Ratio_add T) (hr.mono (by decide)) px) (pe_fld (pv 0) rfl) (pe_fld (pv 1) rfl)) (pa_cons (pe_op (op_own (T.fx 0) (ok_Ratio_add T) (hr.mono (by decide)) px) (pe_fld (pv 0) rfl) (pe_fld (pv 1) rfl)) (pa_cons (pv 2) pa_nil))))))))), ?_⟩
  clear hr hpo tk px pxe
  obtain ⟨dx, a, b, c, hp, ha, hb, hc⟩ := h1
  obtain ⟨dy, a', b', c', hq, ha', hb', hc'⟩ := h2
  simp only [tSeq]
  simp only [tIfS, tTest, tOp, tVar, tC, tCB, tCons, tNil, tRet, tAsg, gName, tNext, tDrop, rI, rI0, rEq, rNe, sc_ii, sc_ss, sc_bb, sc_in, sc_ni, sc_nn, sc_si, sc_is, List.getElem?_cons_zero, List.getElem?_cons_succ, List.set_cons_zero, List.set_cons_succ, Option.some.injEq, exists_eq_left', exists_eq_left, L2.start, cxOf, List.cons.injEq, and_true, exists_and_left, exists_and_right, exists_eq', V.int.injEq, V.bl.injEq, V.str.injEq, V.ref.injEq, List.length_cons, List.length_nil, List.cons_append, List.nil_append, true_and, List.map, List.replicate, tAndV, tOrV, tNotV, tTest, tB, tNot, tAnd, tOr, Nat.zero_add, Nat.reduceAdd, Nat.reduceSub, Nat.sub_self, sFld, tFld, tPar, tMake, tCall, tMeth, tTup, tLst, HO.ins.injEq, and_assoc, reduceCtorEq, false_and, exists_false, false_or, or_false, tFmt, tJs, tBreak, tCont, tMakeS, tCallS, Int.zero_add, if_true, if_false, Bool.false_eq_true, Bool.not_true, Bool.not_false, tUn, rU, tNotN, tIsN, decide_true, decide_false, tBM, rAppend, HO.lst.injEq, HO.tup.injEq, wipe, tLstRg, tRg1, hp, BndF_1, BndF_2, BndF_3, BndF_4, CB T, NB1 T, NB2 T, NB3 T, NB4 T]
  refine ⟨fun σ' H' => σ' = [some (.ref p), some (.ref q), some (lv (minL x.l y.l))] ∧ H' = H, ?_, ?_⟩
  · simp only [tSeq, tIfS, tTest, tOp, tVar, tC, tCB, tCons, tNil, tRet, tAsg, gName, tNext, tDrop, rI, rI0, rEq, rNe, sc_ii, sc_ss, sc_bb, sc_in, sc_ni, sc_nn, sc_si, sc_is, List.getElem?_cons_zero, List.getElem?_cons_succ, List.set_cons_zero, List.set_cons_succ, Option.some.injEq, exists_eq_left', exists_eq_left, L2.start, cxOf, List.cons.injEq, and_true, exists_and_left, exists_and_right, exists_eq', V.int.injEq, V.bl.injEq, V.str.injEq, V.ref.injEq, List.length_cons, List.length_nil, List.cons_append, List.nil_append, true_and, List.map, List.replicate, tAndV, tOrV, tNotV, tTest, tB, tNot, tAnd, tOr, Nat.zero_add, Nat.reduceAdd, Nat.reduceSub, Nat.sub_self, sFld, tFld, tPar, tMake, tCall, tMeth, tTup, tLst, HO.ins.injEq, and_assoc, reduceCtorEq, false_and, exists_false, false_or, or_false, tFmt, tJs, tBreak, tCont, tMakeS, tCallS, Int.zero_add, if_true, if_false, Bool.false_eq_true, Bool.not_true, Bool.not_false, tUn, rU, tNotN, tIsN, decide_true, decide_false, tBM, rAppend, HO.lst.injEq, HO.tup.injEq, wipe, tLstRg, tRg1, hp, hq, BndF_1, BndF_2, BndF_3, BndF_4, CB T, NB1 T, NB2 T, NB3 T, NB4 T]
    cases hl : x.l with
    | none =>
      cases hm : y.l <;> simp [lv, minL]
    | some l =>
      cases hm : y.l with
      | none => simp [lv, minL]
      | some m => by_cases hml : m < l <;> simp [lv, minL, hml] <;> omega
  rintro σ' H' ⟨rfl, rfl⟩
  simp only [tSeq, tIfS, tTest, tOp, tVar, tC, tCB, tCons, tNil, tRet, tAsg, gName, tNext, tDrop, rI, rI0, rEq, rNe, sc_ii, sc_ss, sc_bb, sc_in, sc_ni, sc_nn, sc_si, sc_is, List.getElem?_cons_zero, List.getElem?_cons_succ, List.set_cons_zero, List.set_cons_succ, Option.some.injEq, exists_eq_left', exists_eq_left, L2.start, cxOf, List.cons.injEq, and_true, exists_and_left, exists_and_right, exists_eq', V.int.injEq, V.bl.injEq, V.str.injEq, V.ref.injEq, List.length_cons, List.length_nil, List.cons_append, List.nil_append, true_and, List.map, List.replicate, tAndV, tOrV, tNotV, tTest, tB, tNot, tAnd, tOr, Nat.zero_add, Nat.reduceAdd, Nat.reduceSub, Nat.sub_self, sFld, tFld, tPar, tMake, tCall, tMeth, tTup, tLst, HO.ins.injEq, and_assoc, reduceCtorEq, false_and, exists_false, false_or, or_false, tFmt, tJs, tBreak, tCont, tMakeS, tCallS, Int.zero_add, if_true, if_false, Bool.false_eq_true, Bool.not_true, Bool.not_false, tUn, rU, tNotN, tIsN, decide_true, decide_false, tBM, rAppend, HO.lst.injEq, HO.tup.injEq, wipe, tLstRg, tRg1, hp, hq, BndF_1, BndF_2, BndF_3, BndF_4, CB T, NB1 T, NB2 T, NB3 T, NB4 T]
  refine arith_at ha ha' (zx.a.mono (by decide) (by decide)) (zy.a.mono (by decide) (by decide)) (fun o1 H1 s1 n1 r1 => ?_)
  simp only [tSeq, tIfS, tTest, tOp, tVar, tC, tCB, tCons, tNil, tRet, tAsg, gName, tNext, tDrop, rI, rI0, rEq, rNe, sc_ii, sc_ss, sc_bb, sc_in, sc_ni, sc_nn, sc_si, sc_is, List.getElem?_cons_zero, List.getElem?_cons_succ, List.set_cons_zero, List.set_cons_succ, Option.some.injEq, exists_eq_left', exists_eq_left, L2.start, cxOf, List.cons.injEq, and_true, exists_and_left, exists_and_right, exists_eq', V.int.injEq, V.bl.injEq, V.str.injEq, V.ref.injEq, List.length_cons, List.length_nil, List.cons_append, List.nil_append, true_and, List.map, List.replicate, tAndV, tOrV, tNotV, tTest, tB, tNot, tAnd, tOr, Nat.zero_add, Nat.reduceAdd, Nat.reduceSub, Nat.sub_self, sFld, tFld, tPar, tMake, tCall, tMeth, tTup, tLst, HO.ins.injEq, and_assoc, reduceCtorEq, false_and, exists_false, false_or, or_false, tFmt, tJs, tBreak, tCont, tMakeS, tCallS, Int.zero_add, if_true, if_false, Bool.false_eq_true, Bool.not_true, Bool.not_false, tUn, rU, tNotN, tIsN, decide_true, decide_false, tBM, rAppend, HO.lst.injEq, HO.tup.injEq, wipe, tLstRg, tRg1, s1 _ _ hp, s1 _ _ hq, BndF_1, BndF_2, BndF_3, BndF_4, CB T, NB1 T, NB2 T, NB3 T, NB4 T]
  refine arith_at (hb.same s1) (hb'.same s1) (zx.b.mono (by decide) (by decide)) (zy.b.mono (by decide) (by decide)) (fun o2 H2 s2 n2 r2 => ?_)
  have s12 := s1.trans s2
  simp only [tSeq, tIfS, tTest, tOp, tVar, tC, tCB, tCons, tNil, tRet, tAsg, gName, tNext, tDrop, rI, rI0, rEq, rNe, sc_ii, sc_ss, sc_bb, sc_in, sc_ni, sc_nn, sc_si, sc_is, List.getElem?_cons_zero, List.getElem?_cons_succ, List.set_cons_zero, List.set_cons_succ, Option.some.injEq, exists_eq_left', exists_eq_left, L2.start, cxOf, List.cons.injEq, and_true, exists_and_left, exists_and_right, exists_eq', V.int.injEq, V.bl.injEq, V.str.injEq, V.ref.injEq, List.length_cons, List.length_nil, List.cons_append, List.nil_append, true_and, List.map, List.replicate, tAndV, tOrV, tNotV, tTest, tB, tNot, tAnd, tOr, Nat.zero_add, Nat.reduceAdd, Nat.reduceSub, Nat.sub_self, sFld, tFld, tPar, tMake, tCall, tMeth, tTup, tLst, HO.ins.injEq, and_assoc, reduceCtorEq, false_and, exists_false, false_or, or_false, tFmt, tJs, tBreak, tCont, tMakeS, tCallS, Int.zero_add, if_true, if_false, Bool.false_eq_true, Bool.not_true, Bool.not_false, tUn, rU, tNotN, tIsN, decide_true, decide_false, tBM, rAppend, HO.lst.injEq, HO.tup.injEq, wipe, tLstRg, tRg1, s12 _ _ hp, s12 _ _ hq, BndF_1, BndF_2, BndF_3, BndF_4, CB T, NB1 T, NB2 T, NB3 T, NB4 T]
  refine arith_at (hc.same s12) (hc'.same s12) (zx.c.mono (by decide) (by decide)) (zy.c.mono (by decide) (by decide)) (fun o3 H3 s3 n3 r3 => ?_)
  exact made_bound (x := plusB x y) (G := fun y H2 => Q (.ref y) H2) (plusB_ok kx ky zx zy).not ((r1.same s2).same s3) (r2.same s3) r3 (fun c H' s nc r => hQ c H' (((s12.trans s3)).trans s) ((s12.trans s3).free nc) r)
def divL (k : Int) : Option Int → Option Int
  | none => none
  | some l => some (l / k)
def zeroB : B4 := ⟨(0, 1), (0, 1), (0, 1), none⟩
def withinB (x : B4) (k : Int) : B4 := if k = 0 then zeroB else ⟨x.a, rad (rmu x.b (k, 1)) (rmu x.c (k * (k - 1) / 2, 1)), rmu x.c (k * k, 1), divL k x.l⟩
theorem zeroB_ok : Ok zeroB := ⟨by decide, by decide, by decide, rfl⟩
def spNothing (K : PySem.W.Frag) : Sp := fun vs H Q _ => vs = [] ∧ ∀ c H', Same H H' → H c = none → BndAt K H' c zeroB → Q (.ref c) H'
theorem ok_nothing (T : Tk K mg) : Okd P w K mg base (L2.CX P w) 3 "nothing" [] (spNothing K) := by
  refine Okd.of s_nothing (T.df 13) (T.glo 22) sc_nothing (fun _ _ _ _ _ _ us hl => match us, hl with | [], _ => rfl) (fun vs H Q E h => ?_) (fun cdv A outer s H vs Q E h hr hpo tk px pxe => ?_)
  · obtain ⟨rfl, _⟩ := h; rfl
  obtain ⟨rfl, hQ⟩ := h
  refine ⟨_, (pss_one (ps_ret (pmk (mk_Bound_3 T) (hr.mono (by decide)) (by rfl) px (pa_cons (pmk (mk_Ratio_1 T) (hr.mono (by decide)) (by rfl) px (pa_cons pe_int pa_nil)) (pa_cons (pmk (mk_Ratio_1 T) (hr.mono (by decide)) (by rfl) px (pa_cons pe_int pa_nil)) (pa_cons (pmk (mk_Ratio_1 T) (hr.mono (by decide)) (by rfl) px (pa_cons pe_int pa_nil)) pa_nil)))))), ?_⟩
  clear hr hpo tk px pxe
  simp only [tSeq, tIfS, tTest, tOp, tVar, tC, tCB, tCons, tNil, tRet, tAsg, gName, tNext, tDrop, rI, rI0, rEq, rNe, sc_ii, sc_ss, sc_bb, sc_in, sc_ni, sc_nn, sc_si, sc_is, List.getElem?_cons_zero, List.getElem?_cons_succ, List.set_cons_zero, List.set_cons_succ, Option.some.injEq, exists_eq_left', exists_eq_left, L2.start, cxOf, List.cons.injEq, and_true, exists_and_left, exists_and_right, exists_eq', V.int.injEq, V.bl.injEq, V.str.injEq, V.ref.injEq, List.length_cons, List.length_nil, List.cons_append, List.nil_append, true_and, List.map, List.replicate, tAndV, tOrV, tNotV, tTest, tB, tNot, tAnd, tOr, Nat.zero_add, Nat.reduceAdd, Nat.reduceSub, Nat.sub_self, sFld, tFld, tPar, tMake, tCall, tMeth, tTup, tLst, HO.ins.injEq, and_assoc, reduceCtorEq, false_and, exists_false, false_or, or_false, tFmt, tJs, tBreak, tCont, tMakeS, tCallS, Int.zero_add, if_true, if_false, Bool.false_eq_true, Bool.not_true, Bool.not_false, tUn, rU, tNotN, tIsN, decide_true, decide_false, tBM, rAppend, HO.lst.injEq, HO.tup.injEq, wipe, tLstRg, tRg1]
  refine made_ratio (by decide) Lt2_1 (fun o1 H1 s1 n1 r1 => ?_)
  rw [rd_10] at r1
  refine made_ratio (by decide) Lt2_1 (fun o2 H2 s2 n2 r2 => ?_)
  rw [rd_10] at r2
  refine made_ratio (by decide) Lt2_1 (fun o3 H3 s3 n3 r3 => ?_)
  rw [rd_10] at r3
  exact made_bound (x := zeroB) (G := fun y H2 => Q (.ref y) H2) zeroB_ok.not ((r1.same s2).same s3) (r2.same s3) r3 (fun c H' s nc r => hQ c H' (((s1.trans s2).trans s3).trans s) (((s1.trans s2).trans s3).free nc) r)
theorem withinB_ok {x : B4} {k : Int} (hx : Ok x) (z : SzB x) (hk : 0 ≤ k) : Ok (withinB x k) := by
  unfold withinB
  split
  · exact zeroB_ok
  · rename_i hne
    have h1 : 0 ≤ k * (k - 1) / 2 := Int.ediv_nonneg (Int.mul_nonneg hk (by omega)) (by decide)
    refine ⟨hx.a, rad_nn (rmu_nn hx.b hk z.b.pos (show (0 : Int) < 1 by decide)) (rmu_nn hx.c h1 z.c.pos (show (0 : Int) < 1 by decide)) (rmu_pos z.b.pos (by show (0 : Int) < 1; decide)) (rmu_pos z.c.pos (by show (0 : Int) < 1; decide)), rmu_nn hx.c (Int.mul_nonneg hk hk) z.c.pos (show (0 : Int) < 1 by decide), ?_⟩
    have hl := hx.l
    show badL (divL k x.l) = false
    generalize x.l = l at *
    cases l with
    | none => rfl
    | some i =>
      have : ¬ i < 0 := of_decide_eq_false hl
      exact decide_eq_false (by
        have := Int.ediv_nonneg (show 0 ≤ i by omega) hk
        omega)
def spWithin (K : PySem.W.Frag) : Sp := fun vs H Q _ => ∃ (p : Addr) (x : B4) (k : Int), vs = [.ref p, .int k] ∧ BndAt K H p x ∧ Ok x ∧ SzB x ∧ 0 ≤ k ∧ Lt2 k 10 ∧ ∀ c H', Same H H' → H c = none → BndAt K H' c (withinB x k) → Q (.ref c) H'
theorem ok_Bound_within (T : Tk K mg) : Okm P w K mg base (L2.CX P w) 5 "Bound" "within" ["self", "asks"] (spWithin K) := by
  refine Okm.of s_Bound_within (T.df 12) (T.cls 15) (T.meth 21) sc_Bound_within (fun _ _ _ _ _ _ us hl => match us, hl with | [_, _], _ => rfl) (fun vs H Q E h => ?_) (fun cdv A outer s H vs Q E h hr hpo tk px pxe => ?_)
  · obtain ⟨p, x, k, rfl, _⟩ := h; rfl
  obtain ⟨p, x, k, rfl, h1, kx, zx, k0, k10, hQ⟩ := h
  refine ⟨_, (pss_cons (ps_if (pt_cmpR op_eq (pv 1) pe_int (nomark _)) (pss_one (ps_ret (pf0 (ok_nothing T) (hr.mono (by decide)) (by rfl) px))) pss_nil)
  (pss_cons (ps_set (i := 2) sc_Bound_within.nd rfl (Or.inl rfl) (pe_fld (pv 0) rfl))
  (C8.pss_cut (ps_if (pt_cmp (pc_notN (pv 2))) (pss_one (ps_set (i := 2) sc_Bound_within.nd rfl (Or.inl rfl) (pe_op op_fdiv (pv 2) (pv 1)))) pss_nil)
  (pss_cons (ps_set (i := 3) sc_Bound_within.nd rfl (Or.inl rfl) (pe_op (op_own (T.fx 0) (ok_Ratio_add T) (hr.mono (by decide)) px) (pe_op (op_own (T.fx 0) (ok_Ratio_mul T) (hr.mono (by decide)) px) (pe_fld (pv 0) rfl) (pmk (mk_Ratio_1 T) (hr.mono (by decide)) (by rfl) px (pa_cons (pv 1) pa_nil))) (pe_op (op_own (T.fx 0) (ok_Ratio_mul T) (hr.mono (by decide)) px) (pe_fld (pv 0) rfl) (pmk (mk_Ratio_1 T) (hr.mono (by decide)) (by rfl) px (pa_cons (pe_op op_fdiv (pe_op op_mulW (pv 1) (pe_op op_sub (pv 1) pe_int)) pe_int) pa_nil)))))
  (pss_one (ps_ret (pmk (mk_Bound_4 T) (hr.mono (by decide)) (by rfl) px (pa_cons (pe_fld (pv 0) rfl) (pa_cons (pv 3) (pa_cons (pe_op (op_own (T.fx 0) (ok_Ratio_mul T) (hr.mono (by decide)) px) (pe_fld (pv 0) rfl) (pmk (mk_Ratio_1 T) (hr.mono (by decide)) (by rfl) px (pa_cons (pe_op op_mulW (pv 1) (pv 1)) pa_nil))) (pa_cons (pv 2) pa_nil))))))))))), ?_⟩
  clear hr hpo tk px pxe
  obtain ⟨dx, a, b, c, hp, ha, hb, hc⟩ := h1
  simp only [tSeq]
  simp only [tIfS, tTest, tOp, tVar, tC, tCB, tCons, tNil, tRet, tAsg, gName, tNext, tDrop, rI, rI0, rEq, rNe, sc_ii, sc_ss, sc_bb, sc_in, sc_ni, sc_nn, sc_si, sc_is, List.getElem?_cons_zero, List.getElem?_cons_succ, List.set_cons_zero, List.set_cons_succ, Option.some.injEq, exists_eq_left', exists_eq_left, L2.start, cxOf, List.cons.injEq, and_true, exists_and_left, exists_and_right, exists_eq', V.int.injEq, V.bl.injEq, V.str.injEq, V.ref.injEq, List.length_cons, List.length_nil, List.cons_append, List.nil_append, true_and, List.map, List.replicate, tAndV, tOrV, tNotV, tTest, tB, tNot, tAnd, tOr, Nat.zero_add, Nat.reduceAdd, Nat.reduceSub, Nat.sub_self, sFld, tFld, tPar, tMake, tCall, tMeth, tTup, tLst, HO.ins.injEq, and_assoc, reduceCtorEq, false_and, exists_false, false_or, or_false, tFmt, tJs, tBreak, tCont, tMakeS, tCallS, Int.zero_add, if_true, if_false, Bool.false_eq_true, Bool.not_true, Bool.not_false, tUn, rU, tNotN, tIsN, decide_true, decide_false, tBM, rAppend, HO.lst.injEq, HO.tup.injEq, wipe, tLstRg, tRg1]
  refine ite2 (fun z => ?_) (fun z => ?_)
  · have e : k = 0 := of_decide_eq_true z
    refine ⟨rfl, ?_⟩
    rw [withinB, if_pos e] at hQ
    exact hQ
  have kn : k ≠ 0 := fun y => z (decide_eq_true y)
  have hok := withinB_ok kx zx k0
  rw [withinB, if_neg kn] at hQ hok
  simp only [tSeq]
  simp only [tIfS, tTest, tOp, tVar, tC, tCB, tCons, tNil, tRet, tAsg, gName, tNext, tDrop, rI, rI0, rEq, rNe, sc_ii, sc_ss, sc_bb, sc_in, sc_ni, sc_nn, sc_si, sc_is, List.getElem?_cons_zero, List.getElem?_cons_succ, List.set_cons_zero, List.set_cons_succ, Option.some.injEq, exists_eq_left', exists_eq_left, L2.start, cxOf, List.cons.injEq, and_true, exists_and_left, exists_and_right, exists_eq', V.int.injEq, V.bl.injEq, V.str.injEq, V.ref.injEq, List.length_cons, List.length_nil, List.cons_append, List.nil_append, true_and, List.map, List.replicate, tAndV, tOrV, tNotV, tTest, tB, tNot, tAnd, tOr, Nat.zero_add, Nat.reduceAdd, Nat.reduceSub, Nat.sub_self, sFld, tFld, tPar, tMake, tCall, tMeth, tTup, tLst, HO.ins.injEq, and_assoc, reduceCtorEq, false_and, exists_false, false_or, or_false, tFmt, tJs, tBreak, tCont, tMakeS, tCallS, Int.zero_add, if_true, if_false, Bool.false_eq_true, Bool.not_true, Bool.not_false, tUn, rU, tNotN, tIsN, decide_true, decide_false, tBM, rAppend, HO.lst.injEq, HO.tup.injEq, wipe, tLstRg, tRg1, hp, BndF_1, BndF_2, BndF_3, BndF_4, CB T, NB1 T, NB2 T, NB3 T, NB4 T]
  refine ⟨fun σ' H' => σ' = [some (.ref p), some (.int k), some (lv (divL k x.l)), none] ∧ H' = H, ?_, ?_⟩
  · simp only [tSeq, tIfS, tTest, tOp, tVar, tC, tCB, tCons, tNil, tRet, tAsg, gName, tNext, tDrop, rI, rI0, rEq, rNe, sc_ii, sc_ss, sc_bb, sc_in, sc_ni, sc_nn, sc_si, sc_is, List.getElem?_cons_zero, List.getElem?_cons_succ, List.set_cons_zero, List.set_cons_succ, Option.some.injEq, exists_eq_left', exists_eq_left, L2.start, cxOf, List.cons.injEq, and_true, exists_and_left, exists_and_right, exists_eq', V.int.injEq, V.bl.injEq, V.str.injEq, V.ref.injEq, List.length_cons, List.length_nil, List.cons_append, List.nil_append, true_and, List.map, List.replicate, tAndV, tOrV, tNotV, tTest, tB, tNot, tAnd, tOr, Nat.zero_add, Nat.reduceAdd, Nat.reduceSub, Nat.sub_self, sFld, tFld, tPar, tMake, tCall, tMeth, tTup, tLst, HO.ins.injEq, and_assoc, reduceCtorEq, false_and, exists_false, false_or, or_false, tFmt, tJs, tBreak, tCont, tMakeS, tCallS, Int.zero_add, if_true, if_false, Bool.false_eq_true, Bool.not_true, Bool.not_false, tUn, rU, tNotN, tIsN, decide_true, decide_false, tBM, rAppend, HO.lst.injEq, HO.tup.injEq, wipe, tLstRg, tRg1]
    have hc : ∀ z, CDiv z k := fun z => ⟨by omega, by
      have : k.natAbs < 2 ^ 10 := k10
      omega⟩
    cases x.l with
    | none => simp [lv, divL]
    | some l => simp [lv, divL, hc]
  rintro σ' H' ⟨rfl, rfl⟩
  have hk1 : Lt2 (k - 1) 11 := k10.sub (show (1 : Int).natAbs < 2 ^ 10 by decide)
  have hq2 : Lt2 (k * (k - 1)) 21 := k10.mul hk1
  have hq3 : Lt2 (k * (k - 1) / 2) 21 := .of_le (y := k * (k - 1)) (by
    have : 0 ≤ k * (k - 1) := Int.mul_nonneg k0 (by omega)
    omega) hq2
  have m1 : CMulW k (k - 1) := k10.cmul hk1 (by decide)
  have m2 : CMulW k k := k10.cmul k10 (by decide)
  have d2 : ∀ z, CDiv z 2 := fun z => ⟨by decide, by decide⟩
  have zq : Sz (k, 1) 10 1 := .int k10
  have zt : Sz (k * (k - 1) / 2, 1) 21 1 := .int hq3
  have zk : Sz (k * k, 1) 20 1 := .int (k10.mul k10)
  simp only [tSeq]
  simp only [tIfS, tTest, tOp, tVar, tC, tCB, tCons, tNil, tRet, tAsg, gName, tNext, tDrop, rI, rI0, rEq, rNe, sc_ii, sc_ss, sc_bb, sc_in, sc_ni, sc_nn, sc_si, sc_is, List.getElem?_cons_zero, List.getElem?_cons_succ, List.set_cons_zero, List.set_cons_succ, Option.some.injEq, exists_eq_left', exists_eq_left, L2.start, cxOf, List.cons.injEq, and_true, exists_and_left, exists_and_right, exists_eq', V.int.injEq, V.bl.injEq, V.str.injEq, V.ref.injEq, List.length_cons, List.length_nil, List.cons_append, List.nil_append, true_and, List.map, List.replicate, tAndV, tOrV, tNotV, tTest, tB, tNot, tAnd, tOr, Nat.zero_add, Nat.reduceAdd, Nat.reduceSub, Nat.sub_self, sFld, tFld, tPar, tMake, tCall, tMeth, tTup, tLst, HO.ins.injEq, and_assoc, reduceCtorEq, false_and, exists_false, false_or, or_false, tFmt, tJs, tBreak, tCont, tMakeS, tCallS, Int.zero_add, if_true, if_false, Bool.false_eq_true, Bool.not_true, Bool.not_false, tUn, rU, tNotN, tIsN, decide_true, decide_false, tBM, rAppend, HO.lst.injEq, HO.tup.injEq, wipe, tLstRg, tRg1, hp, BndF_1, BndF_2, BndF_3, BndF_4, CB T, NB1 T, NB2 T, NB3 T, NB4 T]
  refine made_ratio (by decide) Lt2_1 (fun o1 H1 s1 n1 r1 => ?_)
  rw [rd_one' k] at r1
  refine arith_at (hb.same s1) r1 (zx.b.mono (by decide) (by decide)) (zq.mono (by decide) (by decide)) (fun o2 H2 s2 n2 r2 => ?_)
  replace r2 : RatAt K H2 o2 (rmu x.b (k, 1)) := r2
  have z2 := zx.b.rmu zq
  have s12 := s1.trans s2
  simp only [tIfS, tTest, tOp, tVar, tC, tCB, tCons, tNil, tRet, tAsg, gName, tNext, tDrop, rI, rI0, rEq, rNe, sc_ii, sc_ss, sc_bb, sc_in, sc_ni, sc_nn, sc_si, sc_is, List.getElem?_cons_zero, List.getElem?_cons_succ, List.set_cons_zero, List.set_cons_succ, Option.some.injEq, exists_eq_left', exists_eq_left, L2.start, cxOf, List.cons.injEq, and_true, exists_and_left, exists_and_right, exists_eq', V.int.injEq, V.bl.injEq, V.str.injEq, V.ref.injEq, List.length_cons, List.length_nil, List.cons_append, List.nil_append, true_and, List.map, List.replicate, tAndV, tOrV, tNotV, tTest, tB, tNot, tAnd, tOr, Nat.zero_add, Nat.reduceAdd, Nat.reduceSub, Nat.sub_self, sFld, tFld, tPar, tMake, tCall, tMeth, tTup, tLst, HO.ins.injEq, and_assoc, reduceCtorEq, false_and, exists_false, false_or, or_false, tFmt, tJs, tBreak, tCont, tMakeS, tCallS, Int.zero_add, if_true, if_false, Bool.false_eq_true, Bool.not_true, Bool.not_false, tUn, rU, tNotN, tIsN, decide_true, decide_false, tBM, rAppend, HO.lst.injEq, HO.tup.injEq, wipe, tLstRg, tRg1, s12 _ _ hp, BndF_1, BndF_2, BndF_3, BndF_4, CB T, NB1 T, NB2 T, NB3 T, NB4 T, m1, m2, d2]
  refine made_ratio (by decide) Lt2_1 (fun o3 H3 s3 n3 r3 => ?_)
  rw [rd_one' (k * (k - 1) / 2)] at r3
  refine arith_at ((hc.same s12).same s3) r3 (zx.c.mono (by decide) (by decide)) (zt.mono (by decide) (by decide)) (fun o4 H4 s4 n4 r4 => ?_)
  replace r4 : RatAt K H4 o4 (rmu x.c (k * (k - 1) / 2, 1)) := r4
  have z4 := zx.c.rmu zt
  refine arith_at ((r2.same s3).same s4) r4 (z2.mono (by decide) (by decide)) (z4.mono (by decide) (by decide)) (fun o5 H5 s5 n5 r5 => ?_)
  replace r5 : RatAt K H5 o5 (rad (rmu x.b (k, 1)) (rmu x.c (k * (k - 1) / 2, 1))) := r5
  have s15 := ((s12.trans s3).trans s4).trans s5
  have hp5 := s15 _ _ hp
  simp only [tIfS, tTest, tOp, tVar, tC, tCB, tCons, tNil, tRet, tAsg, gName, tNext, tDrop, rI, rI0, rEq, rNe, sc_ii, sc_ss, sc_bb, sc_in, sc_ni, sc_nn, sc_si, sc_is, List.getElem?_cons_zero, List.getElem?_cons_succ, List.set_cons_zero, List.set_cons_succ, Option.some.injEq, exists_eq_left', exists_eq_left, L2.start, cxOf, List.cons.injEq, and_true, exists_and_left, exists_and_right, exists_eq', V.int.injEq, V.bl.injEq, V.str.injEq, V.ref.injEq, List.length_cons, List.length_nil, List.cons_append, List.nil_append, true_and, List.map, List.replicate, tAndV, tOrV, tNotV, tTest, tB, tNot, tAnd, tOr, Nat.zero_add, Nat.reduceAdd, Nat.reduceSub, Nat.sub_self, sFld, tFld, tPar, tMake, tCall, tMeth, tTup, tLst, HO.ins.injEq, and_assoc, reduceCtorEq, false_and, exists_false, false_or, or_false, tFmt, tJs, tBreak, tCont, tMakeS, tCallS, Int.zero_add, if_true, if_false, Bool.false_eq_true, Bool.not_true, Bool.not_false, tUn, rU, tNotN, tIsN, decide_true, decide_false, tBM, rAppend, HO.lst.injEq, HO.tup.injEq, wipe, tLstRg, tRg1, hp5, BndF_1, BndF_2, BndF_3, BndF_4, CB T, NB1 T, NB2 T, NB3 T, NB4 T, m1, m2, d2]
  refine made_ratio (by decide) Lt2_1 (fun o6 H6 s6 n6 r6 => ?_)
  rw [rd_one' (k * k)] at r6
  refine arith_at ((hc.same s15).same s6) r6 (zx.c.mono (by decide) (by decide)) (zk.mono (by decide) (by decide)) (fun o7 H7 s7 n7 r7 => ?_)
  have s17 := (s15.trans s6).trans s7
  refine made_bound (x := ⟨x.a, rad (rmu x.b (k, 1)) (rmu x.c (k * (k - 1) / 2, 1)), rmu x.c (k * k, 1), divL k x.l⟩) (G := fun y H2 => Q (.ref y) H2) hok.not (ha.same s17) ((r5.same s6).same s7) r7 (fun c H' s nc r => hQ c H' (s17.trans s) (s17.free nc) r)
end
end K30

namespace K30
open PySem PySem.Spec PyProof.Rows L2 TL PL
section
variable {P : Program} {w : World} {K : PySem.W.Frag} {mg : Str → Option Value} {base : Heap}
/-! ### the law's own draws: a list of n numbers below a size -/
def spRow : Sp := fun vs H Q _ => ∃ (c size : Int) (n : Nat), vs = [.int c, .int (n : Int), .int size] ∧ 0 < size ∧ size < 1073741824 ∧ n ≤ 1000 ∧
  ∀ (l : Addr) (H' : Hp) (ds : List Int), Same H H' → H l = none → H' l = some (.lst (ds.map V.int)) → ds.length = n → (∀ d ∈ ds, 0 ≤ d ∧ d < size) → Q (.ref l) H'
theorem ok_l_row (T : Tk K mg) : Okd P w K mg base (L2.CX P w) 1 "_law_row" ["_law_cell_here", "_law_count", "_law_size"] spRow := by
  refine Okd.of s_l_row (T.df 16) (T.glo 29) sc_l_row (fun _ _ _ _ _ _ us hl => match us, hl with | [_, _, _], _ => rfl) (fun vs H Q E h => ?_) (fun cdv A outer s H vs Q E h hr hpo tk px pxe => ?_)
  · obtain ⟨c, size, n, rfl, _⟩ := h; rfl
  obtain ⟨c, size, n, rfl, s0, s1, hn, hQ⟩ := h
  refine ⟨_, (pss_cons (ps_set (i := 3) sc_l_row.nd rfl (Or.inl rfl) (pv 0))
  (pss_cons (ps_set (i := 4) sc_l_row.nd rfl (Or.inl rfl) (pe_lst pa_nil))
  (pss_cons (ps_for hpo rfl (pi_range1 rfl (T.free 28) (pa_cons (pv 1) pa_nil)) (pg_name (i := 5) sc_l_row.nd rfl (Or.inl rfl)) (pss_one (ps_if (pt_cmpR op_ge (pv 0) (pe_op op_pow pe_int pe_int) (nomark _)) (pss_cons (ps_expr (pe_bm PySem.F.plainAttrs_list PySem.F.slot_list_append PySem.F.type_list_append mt_append (pv 4) (pa_cons (pe_op op_mod (pe_callTy call_int1 (by rfl) (T.free 26) (by decide +kernel) (pa_cons (pv 3) pa_nil)) (pv 2)) pa_nil)))
    (pss_one (ps_set (i := 3) sc_l_row.nd rfl (Or.inl rfl) (pe_op op_fdiv (pv 3) (pv 2))))) (pss_cons (ps_set (i := 3) sc_l_row.nd rfl (Or.inl rfl) (pe_op op_mod (pe_op op_add (pe_op op_mul (pv 3) pe_int) pe_int) pe_int))
    (pss_one (ps_expr (pe_bm PySem.F.plainAttrs_list PySem.F.slot_list_append PySem.F.type_list_append mt_append (pv 4) (pa_cons (pe_op op_mod (pe_op op_mod (pe_callTy call_int1 (by rfl) (T.free 26) (by decide +kernel) (pa_cons (pe_op op_add (pe_op op_mul (pv 3) pe_int) (pe_op op_mul (pv 5) pe_int)) pa_nil)) pe_int) (pv 2)) pa_nil))))))))
  (pss_one (ps_ret (pv 4)))))), ?_⟩
  clear hr hpo tk px pxe
  simp only [tSeq, tIfS, tTest, tOp, tVar, tC, tCB, tCons, tNil, tRet, tAsg, gName, tNext, tDrop, rI, rI0, rEq, rNe, sc_ii, sc_ss, sc_bb, sc_in, sc_ni, sc_nn, sc_si, sc_is, List.getElem?_cons_zero, List.getElem?_cons_succ, List.set_cons_zero, List.set_cons_succ, Option.some.injEq, exists_eq_left', exists_eq_left, L2.start, cxOf, List.cons.injEq, and_true, exists_and_left, exists_and_right, exists_eq', V.int.injEq, V.bl.injEq, V.str.injEq, V.ref.injEq, List.length_cons, List.length_nil, List.cons_append, List.nil_append, true_and, List.map, List.replicate, tAndV, tOrV, tNotV, tTest, tB, tNot, tAnd, tOr, Nat.zero_add, Nat.reduceAdd, Nat.reduceSub, Nat.sub_self, sFld, tFld, tPar, tMake, tCall, tMeth, tTup, tLst, HO.ins.injEq, and_assoc, reduceCtorEq, false_and, exists_false, false_or, or_false, tFmt, tJs, tBreak, tCont, tMakeS, tCallS, Int.zero_add, if_true, if_false, Bool.false_eq_true, Bool.not_true, Bool.not_false, tUn, rU, tNotN, tIsN, decide_true, decide_false, tBM, rAppend, HO.lst.injEq, HO.tup.injEq, wipe, tLstRg, tRg1]
  refine ⟨by decide, fun l nl => ?_⟩
  refine for_r1 n (by omega) (fun R hR => by simp only [tSeq, tIfS, tTest, tOp, tVar, tC, tCB, tCons, tNil, tRet, tAsg, gName, tNext, tDrop, rI, rI0, rEq, rNe, sc_ii, sc_ss, sc_bb, sc_in, sc_ni, sc_nn, sc_si, sc_is, List.getElem?_cons_zero, List.getElem?_cons_succ, List.set_cons_zero, List.set_cons_succ, Option.some.injEq, exists_eq_left', exists_eq_left, L2.start, cxOf, List.cons.injEq, and_true, exists_and_left, exists_and_right, exists_eq', V.int.injEq, V.bl.injEq, V.str.injEq, V.ref.injEq, List.length_cons, List.length_nil, List.cons_append, List.nil_append, true_and, List.map, List.replicate, tAndV, tOrV, tNotV, tTest, tB, tNot, tAnd, tOr, Nat.zero_add, Nat.reduceAdd, Nat.reduceSub, Nat.sub_self, sFld, tFld, tPar, tMake, tCall, tMeth, tTup, tLst, HO.ins.injEq, and_assoc, reduceCtorEq, false_and, exists_false, false_or, or_false, tFmt, tJs, tBreak, tCont, tMakeS, tCallS, Int.zero_add, if_true, if_false, Bool.false_eq_true, Bool.not_true, Bool.not_false, tUn, rU, tNotN, tIsN, decide_true, decide_false, tBM, rAppend, HO.lst.injEq, HO.tup.injEq, wipe, tLstRg, tRg1]; exact hR) (fun i σ H' => ∃ (st : Int) (v : Option V) (ds : List Int), σ = [some (.int c), some (.int (n : Int)), some (.int size), some (.int st), some (.ref l), v] ∧ (∀ b o, H b = some o → b ≠ l → H' b = some o) ∧ H' l = some (.lst (ds.map V.int)) ∧ ds.length = i ∧ (∀ d ∈ ds, 0 ≤ d ∧ d < size)) ?_ ?_ ?_
  · exact ⟨c, none, [], rfl, fun b o e ne => by rw [upd_ne ne]; exact e, upd_same, rfl, fun d hd => by cases hd⟩
  · rintro i σ H' hi ⟨st, v, ds, rfl, hs, hl, hd, hb⟩
    have cp : CPow 10 18 := ⟨by decide, by decide, by decide⟩
    have ty := ty_lst (K := K) hl
    have cs : ∀ z, CDiv z size := fun z => ⟨s0, s1⟩
    have cm : ∀ a b : Int, b = 48271 ∨ b = 69621 ∨ b = 7919 → CMul a b := fun a b h => .inr (by rcases h with h | h | h <;> subst h <;> decide)
    have c1 := cm st 48271 (.inl rfl); have c2 := fun a => cm a 69621 (.inr (.inl rfl)); have c3 := cm i 7919 (.inr (.inr rfl))
    have ln : (ds.map V.int).length < sizeLine := by rw [List.length_map]; exact len_line (by omega)
    have p0 : (0 : Int) < 2147483647 := by decide
    have fin : ∀ z : Int, (∀ (b : Addr) (o : HO), H b = some o → b ≠ l → upd H' l (.lst (ds.map V.int ++ [.int (z % size)])) b = some o) ∧ ∃ x : List Int, ds.map V.int ++ [.int (z % size)] = x.map V.int ∧ x.length = i + 1 ∧ ∀ d, d ∈ x → 0 ≤ d ∧ d < size := fun z =>
      ⟨fun b o e ne => by rw [upd_ne ne]; exact hs b o e ne, ds ++ [z % size], by rw [List.map_append]; rfl, by rw [List.length_append, hd]; rfl, fun d hm => by
        rcases List.mem_append.mp hm with h | h
        · exact hb d h
        · rw [List.mem_singleton.mp h]
          exact ⟨Int.emod_nonneg _ (by omega), Int.emod_lt_of_pos _ s0⟩⟩
    simp only [gName]
    simp only [tSeq, tIfS, tTest, tOp, tVar, tC, tCB, tCons, tNil, tRet, tAsg, gName, tNext, tDrop, rI, rI0, rEq, rNe, sc_ii, sc_ss, sc_bb, sc_in, sc_ni, sc_nn, sc_si, sc_is, List.getElem?_cons_zero, List.getElem?_cons_succ, List.set_cons_zero, List.set_cons_succ, Option.some.injEq, exists_eq_left', exists_eq_left, L2.start, cxOf, List.cons.injEq, and_true, exists_and_left, exists_and_right, exists_eq', V.int.injEq, V.bl.injEq, V.str.injEq, V.ref.injEq, List.length_cons, List.length_nil, List.cons_append, List.nil_append, true_and, List.map, List.replicate, tAndV, tOrV, tNotV, tTest, tB, tNot, tAnd, tOr, Nat.zero_add, Nat.reduceAdd, Nat.reduceSub, Nat.sub_self, sFld, tFld, tPar, tMake, tCall, tMeth, tTup, tLst, HO.ins.injEq, and_assoc, reduceCtorEq, false_and, exists_false, false_or, or_false, tFmt, tJs, tBreak, tCont, tMakeS, tCallS, Int.zero_add, if_true, if_false, Bool.false_eq_true, Bool.not_true, Bool.not_false, tUn, rU, tNotN, tIsN, decide_true, decide_false, tBM, rAppend, HO.lst.injEq, HO.tup.injEq, wipe, tLstRg, tRg1, cp, ty, hl, cs, c1, c2, c3, ln, p0, s0, upd_same]
    exact ite2 (fun _ => fin _) (fun _ => fin _)
  · rintro σ H' ⟨st, v, ds, rfl, hs, hl, hd, hb⟩
    simp only [tSeq, tIfS, tTest, tOp, tVar, tC, tCB, tCons, tNil, tRet, tAsg, gName, tNext, tDrop, rI, rI0, rEq, rNe, sc_ii, sc_ss, sc_bb, sc_in, sc_ni, sc_nn, sc_si, sc_is, List.getElem?_cons_zero, List.getElem?_cons_succ, List.set_cons_zero, List.set_cons_succ, Option.some.injEq, exists_eq_left', exists_eq_left, L2.start, cxOf, List.cons.injEq, and_true, exists_and_left, exists_and_right, exists_eq', V.int.injEq, V.bl.injEq, V.str.injEq, V.ref.injEq, List.length_cons, List.length_nil, List.cons_append, List.nil_append, true_and, List.map, List.replicate, tAndV, tOrV, tNotV, tTest, tB, tNot, tAnd, tOr, Nat.zero_add, Nat.reduceAdd, Nat.reduceSub, Nat.sub_self, sFld, tFld, tPar, tMake, tCall, tMeth, tTup, tLst, HO.ins.injEq, and_assoc, reduceCtorEq, false_and, exists_false, false_or, or_false, tFmt, tJs, tBreak, tCont, tMakeS, tCallS, Int.zero_add, if_true, if_false, Bool.false_eq_true, Bool.not_true, Bool.not_false, tUn, rU, tNotN, tIsN, decide_true, decide_false, tBM, rAppend, HO.lst.injEq, HO.tup.injEq, wipe, tLstRg, tRg1]
    exact hQ l H' ds (fun b o e => hs b o e (ne_of_none e nl)) nl hl hd hb
/-- pairs of fractions as the law reckons them -/
def spPair (K : PySem.W.Frag) (f : Int × Int → Int × Int → Int × Int) : Sp := fun vs H Q _ => ∃ (a b : Addr) (p q : Int × Int), vs = [.ref a, .ref b] ∧ H a = some (.tup [.int p.1, .int p.2]) ∧ H b = some (.tup [.int q.1, .int q.2]) ∧ Sz p 300 300 ∧ Sz q 300 300 ∧
  ∀ c H', Same H H' → H c = none → H' c = some (.tup [.int (f p q).1, .int (f p q).2]) → Q (.ref c) H'
theorem ok_l_plus (T : Tk K mg) : Okd P w K mg base (L2.CX P w) 3 "_law_plus" ["_law_one", "_law_other"] (spPair K rad) := by
  refine Okd.of s_l_plus (T.df 18) (T.glo 31) sc_l_plus (fun _ _ _ _ _ _ us hl => match us, hl with | [_, _], _ => rfl) (fun vs H Q E h => ?_) (fun cdv A outer s H vs Q E h hr hpo tk px pxe => ?_)
  · obtain ⟨a, b, p, q, rfl, _⟩ := h; rfl
  obtain ⟨a, b, p, q, rfl, ha, hb, zp, zq, hQ⟩ := h
  refine ⟨_, (pss_one (ps_ret (pf (ok_l_less T) (hr.mono (by decide)) (by rfl) px (pa_cons (pe_op op_add (pe_op op_mulW (pe_ix ix_tup (pv 0) pe_int (fun _ _ => rfl)) (pe_ix ix_tup (pv 1) pe_int (fun _ _ => rfl))) (pe_op op_mulW (pe_ix ix_tup (pv 1) pe_int (fun _ _ => rfl)) (pe_ix ix_tup (pv 0) pe_int (fun _ _ => rfl)))) (pa_cons (pe_op op_mulW (pe_ix ix_tup (pv 0) pe_int (fun _ _ => rfl)) (pe_ix ix_tup (pv 1) pe_int (fun _ _ => rfl))) pa_nil))))), ?_⟩
  clear hr hpo tk px pxe
  simp only [tSeq, tIfS, tTest, tOp, tVar, tC, tCB, tCons, tNil, tRet, tAsg, gName, tNext, tDrop, rI, rI0, rEq, rNe, sc_ii, sc_ss, sc_bb, sc_in, sc_ni, sc_nn, sc_si, sc_is, List.getElem?_cons_zero, List.getElem?_cons_succ, List.set_cons_zero, List.set_cons_succ, Option.some.injEq, exists_eq_left', exists_eq_left, L2.start, cxOf, List.cons.injEq, and_true, exists_and_left, exists_and_right, exists_eq', V.int.injEq, V.bl.injEq, V.str.injEq, V.ref.injEq, List.length_cons, List.length_nil, List.cons_append, List.nil_append, true_and, List.map, List.replicate, tAndV, tOrV, tNotV, tTest, tB, tNot, tAnd, tOr, Nat.zero_add, Nat.reduceAdd, Nat.reduceSub, Nat.sub_self, sFld, tFld, tPar, tMake, tCall, tMeth, tTup, tLst, HO.ins.injEq, and_assoc, reduceCtorEq, false_and, exists_false, false_or, or_false, tFmt, tJs, tBreak, tCont, tMakeS, tCallS, Int.zero_add, if_true, if_false, Bool.false_eq_true, Bool.not_true, Bool.not_false, tUn, rU, tNotN, tIsN, decide_true, decide_false, tBM, rAppend, HO.lst.injEq, HO.tup.injEq, wipe, tLstRg, tRg1]
  have m1 : CMulW p.1 q.2 := zp.num.cmul zq.den (by decide)
  have m2 : CMulW q.1 p.2 := zq.num.cmul zp.den (by decide)
  have m3 : CMulW p.2 q.2 := zp.den.cmul zq.den (by decide)
  refine ixT_at 0 ha rfl (ixT_at 1 hb rfl ⟨_, rfl, _, rfl, m1, ixT_at 0 hb rfl (ixT_at 1 ha rfl ⟨_, rfl, _, rfl, m2, ixT_at 1 ha rfl (ixT_at 1 hb rfl ⟨_, rfl, _, rfl, m3, ?_⟩)⟩)⟩)
  exact ⟨_, _, rfl, Int.mul_pos zp.pos zq.pos, (zp.den.mul zq.den).mono (by decide), fun c hc => hQ c _ (same_upd hc) hc upd_same⟩
theorem ok_l_times (T : Tk K mg) : Okd P w K mg base (L2.CX P w) 3 "_law_times" ["_law_one", "_law_other"] (spPair K rmu) := by
  refine Okd.of s_l_times (T.df 19) (T.glo 32) sc_l_times (fun _ _ _ _ _ _ us hl => match us, hl with | [_, _], _ => rfl) (fun vs H Q E h => ?_) (fun cdv A outer s H vs Q E h hr hpo tk px pxe => ?_)
  · obtain ⟨a, b, p, q, rfl, _⟩ := h; rfl
  obtain ⟨a, b, p, q, rfl, ha, hb, zp, zq, hQ⟩ := h
  refine ⟨_, (pss_one (ps_ret (pf (ok_l_less T) (hr.mono (by decide)) (by rfl) px (pa_cons (pe_op op_mulW (pe_ix ix_tup (pv 0) pe_int (fun _ _ => rfl)) (pe_ix ix_tup (pv 1) pe_int (fun _ _ => rfl))) (pa_cons (pe_op op_mulW (pe_ix ix_tup (pv 0) pe_int (fun _ _ => rfl)) (pe_ix ix_tup (pv 1) pe_int (fun _ _ => rfl))) pa_nil))))), ?_⟩
  clear hr hpo tk px pxe
  simp only [tSeq, tIfS, tTest, tOp, tVar, tC, tCB, tCons, tNil, tRet, tAsg, gName, tNext, tDrop, rI, rI0, rEq, rNe, sc_ii, sc_ss, sc_bb, sc_in, sc_ni, sc_nn, sc_si, sc_is, List.getElem?_cons_zero, List.getElem?_cons_succ, List.set_cons_zero, List.set_cons_succ, Option.some.injEq, exists_eq_left', exists_eq_left, L2.start, cxOf, List.cons.injEq, and_true, exists_and_left, exists_and_right, exists_eq', V.int.injEq, V.bl.injEq, V.str.injEq, V.ref.injEq, List.length_cons, List.length_nil, List.cons_append, List.nil_append, true_and, List.map, List.replicate, tAndV, tOrV, tNotV, tTest, tB, tNot, tAnd, tOr, Nat.zero_add, Nat.reduceAdd, Nat.reduceSub, Nat.sub_self, sFld, tFld, tPar, tMake, tCall, tMeth, tTup, tLst, HO.ins.injEq, and_assoc, reduceCtorEq, false_and, exists_false, false_or, or_false, tFmt, tJs, tBreak, tCont, tMakeS, tCallS, Int.zero_add, if_true, if_false, Bool.false_eq_true, Bool.not_true, Bool.not_false, tUn, rU, tNotN, tIsN, decide_true, decide_false, tBM, rAppend, HO.lst.injEq, HO.tup.injEq, wipe, tLstRg, tRg1]
  have m1 : CMulW p.1 q.1 := zp.num.cmul zq.num (by decide)
  have m3 : CMulW p.2 q.2 := zp.den.cmul zq.den (by decide)
  refine ixT_at 0 ha rfl (ixT_at 0 hb rfl ⟨_, rfl, _, rfl, m1, ixT_at 1 ha rfl (ixT_at 1 hb rfl ⟨_, rfl, _, rfl, m3, ?_⟩)⟩)
  exact ⟨_, _, rfl, Int.mul_pos zp.pos zq.pos, (zp.den.mul zq.den).mono (by decide), fun c hc => hQ c _ (same_upd hc) hc upd_same⟩
end
end K30

namespace K30
open PySem PySem.Spec PyProof.Rows L2 TL PL
section
variable {P : Program} {w : World} {K : PySem.W.Frag} {mg : Str → Option Value} {base : Heap}
def TupAt (H : Hp) (t : Addr) (p : Int × Int) : Prop := H t = some (.tup [.int p.1, .int p.2])
/-- the law's own bound at v -/
def Drawn (H : Hp) (v : Addr) (x : B4) : Prop := ∃ l t0 t1 t2, H v = some (.tup [.ref l, lv x.l]) ∧ H l = some (.lst [.ref t0, .ref t1, .ref t2]) ∧ TupAt H t0 x.a ∧ TupAt H t1 x.b ∧ TupAt H t2 x.c
theorem Drawn.same {H H' : Hp} {v : Addr} {x : B4} (h : Drawn H v x) (s : Same H H') : Drawn H' v x := by
  obtain ⟨l, t0, t1, t2, h1, h2, h3, h4, h5⟩ := h
  exact ⟨l, t0, t1, t2, s _ _ h1, s _ _ h2, s _ _ h3, s _ _ h4, s _ _ h5⟩
def Fr (p : Int × Int) : Prop := 0 ≤ p.1 ∧ p.1 ≤ 99 ∧ 1 ≤ p.2 ∧ p.2 ≤ 1000000000
structure DrawnOk (x : B4) : Prop where
  a : Fr x.a
  b : Fr x.b
  c : Fr x.c
  l : ∀ i, x.l = some i → 0 ≤ i ∧ i ≤ 999
/-- an element: a pair -/
def RelP (m : Int) (y : V) (H : Hp) : Prop := ∃ (t : Addr) (p : Int × Int), y = .ref t ∧ TupAt H t p ∧ 0 ≤ p.1 ∧ p.1 ≤ 99 ∧ 1 ≤ p.2 ∧ p.2 ≤ m
theorem RelP.mono (m : Int) : LMono (RelP m) := by
  rintro y D H1 H2 ⟨l, hl⟩ k ⟨t, p, rfl, ht, h⟩
  exact ⟨t, p, rfl, k t _ (ne_of ht hl (by intro z; cases z)) ht, h⟩
/-- a list of three pairs -/
def L3 (m : Int) (H : Hp) (l : Addr) : Prop := ∃ ys : List V, H l = some (.lst ys) ∧ ys.length = 3 ∧ ∀ y ∈ ys, RelP m y H
def spDrawn : Sp := fun vs H Q _ => ∃ c : Int, vs = [.int c] ∧ ∀ (v : Addr) (H' : Hp) (x : B4), Same H H' → Drawn H' v x → DrawnOk x → Q (.ref v) H'
theorem ok_l_drawn (T : Tk K mg) : Okd P w K mg base (L2.CX P w) 3 "_law_drawn" ["_law_cell_here"] spDrawn := by
  refine Okd.of s_l_drawn (T.df 20) (T.glo 33) sc_l_drawn (fun _ _ _ _ _ _ us hl => match us, hl with | [_], _ => rfl) (fun vs H Q E h => ?_) (fun cdv A outer s H vs Q E h hr hpo tk px pxe => ?_)
  · obtain ⟨c, rfl, _⟩ := h; rfl
  obtain ⟨c, rfl, hQ⟩ := h
  refine ⟨_, (pss_cons (ps_set (i := 1) sc_l_drawn.nd rfl (Or.inr rfl) (pf (ok_l_row T) (hr.mono (by decide)) (by rfl) px (pa_cons (pv 0) (pa_cons pe_int (pa_cons pe_int pa_nil)))))
  (pss_cons (ps_set (i := 2) sc_l_drawn.nd rfl (Or.inr rfl) (pe_ix ix_tup (pe_tup (pa_cons pe_int (pa_cons pe_int (pa_cons pe_int pa_nil)))) (pe_op op_mod (pe_op op_fdiv (pe_ix ix_list (pv 1) pe_int (fun _ _ => rfl)) pe_int) pe_int) (fun _ _ => rfl)))
  (pss_cons (ps_setLc (i := 3) (own := [("_law_k", 4)]) (g := gName 4) (tt := tYes) (te := (tTup (tCons (tOp (rI CMul fun i j => V.int (i * j)) (tOp (rI (fun _ j => 0 < j) fun i j => V.int (i % j)) (tOp (rIxL K) (tVar 1) (tOp (rI CMul fun i j => V.int (i * j)) (tC (.int 2)) (tVar 4))) (tC (.int 100))) (tOp (rI (fun _ j => 0 < j) fun i j => V.int (i % j)) (tOp (rI CDiv fun i j => V.int (i / j)) (tOp (rIxL K) (tVar 1) (tOp (rI CMul fun i j => V.int (i * j)) (tC (.int 2)) (tVar 4))) (tC (.int 100))) (tC (.int 2)))) (tCons (tOp (rI0 fun i j => V.int (i + j)) (tC (.int 1)) (tOp (rI (fun _ j => 0 < j) fun i j => V.int (i % j)) (tOp (rIxL K) (tVar 1) (tOp (rI0 fun i j => V.int (i + j)) (tOp (rI CMul fun i j => V.int (i * j)) (tC (.int 2)) (tVar 4)) (tC (.int 1)))) (tVar 2))) tNil)))) (by rfl) sc_l_drawn.nd rfl rfl (sw_true rfl rfl rfl (by decide +kernel)) (pi_range1 rfl (T.free 28) (pa_cons pe_int pa_nil)) (blkOk_by (own := [("_law_k", 4)]) (N := N_l_drawn) (sc := defScope s_l_drawn) (by decide +kernel)) (fun _ _ _ _ _ => pg_name (i := 4) sc_l_drawn.nd rfl (Or.inl rfl)) (fun _ _ _ _ _ => pts_nil) (fun _ _ _ _ _ => (pe_tup (pa_cons (pe_op op_mul (pe_op op_mod (pe_ix (r := rIxL K) ix_list (pv 1) (pe_op op_mul pe_int (pv 4)) (fun _ _ => rfl)) pe_int) (pe_op op_mod (pe_op op_fdiv (pe_ix (r := rIxL K) ix_list (pv 1) (pe_op op_mul pe_int (pv 4)) (fun _ _ => rfl)) pe_int) pe_int)) (pa_cons (pe_op op_add pe_int (pe_op op_mod (pe_ix (r := rIxL K) ix_list (pv 1) (pe_op op_add (pe_op op_mul pe_int (pv 4)) pe_int) (fun _ _ => rfl)) (pv 2))) pa_nil)))))
  (C8.pss_cut (ps_if (pt_cmpR op_eq (pe_op op_mod (pe_op op_fdiv (pe_ix ix_list (pv 1) pe_int (fun _ _ => rfl)) pe_int) pe_int) pe_int (nomark _)) (pss_one (ps_setLc (i := 3) (own := [("_law_part", 5)]) (g := gName 5) (tt := tYes) (te := (tTup (tCons (tOp (rIxT K) (tVar 5) (tC (.int 0))) (tCons (tOp (rI CMul fun i j => V.int (i * j)) (tOp (rIxT K) (tVar 5) (tC (.int 1))) (tOp (rI CPow fun i j => V.int (i ^ j.toNat)) (tC (.int 10)) (tC (.int 6)))) tNil)))) (by rfl) sc_l_drawn.nd rfl rfl (sw_true rfl rfl rfl (by decide +kernel)) (pi_list (pv 3)) (blkOk_by (own := [("_law_part", 5)]) (N := N_l_drawn) (sc := defScope s_l_drawn) (by decide +kernel)) (fun _ _ _ _ _ => pg_name (i := 5) sc_l_drawn.nd rfl (Or.inl rfl)) (fun _ _ _ _ _ => pts_nil) (fun _ _ _ _ _ => (pe_tup (pa_cons (pe_ix (r := rIxT K) ix_tup (pv 5) pe_int (fun _ _ => rfl)) (pa_cons (pe_op op_mul (pe_ix (r := rIxT K) ix_tup (pv 5) pe_int (fun _ _ => rfl)) (pe_op op_pow pe_int pe_int)) pa_nil)))))) pss_nil)
  (pss_cons (ps_set (i := 6) sc_l_drawn.nd rfl (Or.inl rfl) pe_non)
  (C8.pss_cut (ps_if (pt_cmpR op_eq (pe_op op_mod (pe_ix ix_list (pv 1) pe_int (fun _ _ => rfl)) pe_int) pe_int (nomark _)) (pss_one (ps_set (i := 6) sc_l_drawn.nd rfl (Or.inl rfl) (pe_ix ix_tup (pe_tup (pa_cons (pe_op op_mod (pe_ix ix_list (pv 1) pe_int (fun _ _ => rfl)) pe_int) (pa_cons (pe_ix ix_list (pv 1) pe_int (fun _ _ => rfl)) pa_nil))) (pe_op op_fdiv (pe_op op_mod (pe_op op_fdiv (pe_ix ix_list (pv 1) pe_int (fun _ _ => rfl)) pe_int) pe_int) pe_int) (fun _ _ => rfl)))) pss_nil)
  (pss_one (ps_ret (pe_tup (pa_cons (pv 3) (pa_cons (pv 6) pa_nil))))))))))), ?_⟩
  clear hr hpo tk px pxe
  simp only [tSeq]
  simp only [tIfS, tTest, tOp, tVar, tC, tCB, tCons, tNil, tRet, tAsg, gName, tNext, tDrop, rI, rI0, rEq, rNe, sc_ii, sc_ss, sc_bb, sc_in, sc_ni, sc_nn, sc_si, sc_is, List.getElem?_cons_zero, List.getElem?_cons_succ, List.set_cons_zero, List.set_cons_succ, Option.some.injEq, exists_eq_left', exists_eq_left, L2.start, cxOf, List.cons.injEq, and_true, exists_and_left, exists_and_right, exists_eq', V.int.injEq, V.bl.injEq, V.str.injEq, V.ref.injEq, List.length_cons, List.length_nil, List.cons_append, List.nil_append, true_and, List.map, List.replicate, tAndV, tOrV, tNotV, tTest, tB, tNot, tAnd, tOr, Nat.zero_add, Nat.reduceAdd, Nat.reduceSub, Nat.sub_self, sFld, tFld, tPar, tMake, tCall, tMeth, tTup, tLst, HO.ins.injEq, and_assoc, reduceCtorEq, false_and, exists_false, false_or, or_false, tFmt, tJs, tBreak, tCont, tMakeS, tCallS, Int.zero_add, if_true, if_false, Bool.false_eq_true, Bool.not_true, Bool.not_false, tUn, rU, tNotN, tIsN, decide_true, decide_false, tBM, rAppend, HO.lst.injEq, HO.tup.injEq, wipe, tLstRg, tRg1]
  refine ⟨c, 1000, 8, rfl, by decide, by decide, by decide, fun l H1 ds s1 _ hl hd hb => ?_⟩
  have c8 : ∀ z, CDiv z 8 := fun z => ⟨by decide, by decide⟩
  have c100 : ∀ z, CDiv z 100 := fun z => ⟨by decide, by decide⟩
  have p3 : (0 : Int) < 3 := by decide
  have p100 : (0 : Int) < 100 := by decide
  have p2 : (0 : Int) < 2 := by decide
  have l2 : 2 ≤ sizeLine := by decide
  simp only [tSeq]
  simp only [tIfS, tTest, tOp, tVar, tC, tCB, tCons, tNil, tRet, tAsg, gName, tNext, tDrop, rI, rI0, rEq, rNe, sc_ii, sc_ss, sc_bb, sc_in, sc_ni, sc_nn, sc_si, sc_is, List.getElem?_cons_zero, List.getElem?_cons_succ, List.set_cons_zero, List.set_cons_succ, Option.some.injEq, exists_eq_left', exists_eq_left, L2.start, cxOf, List.cons.injEq, and_true, exists_and_left, exists_and_right, exists_eq', V.int.injEq, V.bl.injEq, V.str.injEq, V.ref.injEq, List.length_cons, List.length_nil, List.cons_append, List.nil_append, true_and, List.map, List.replicate, tAndV, tOrV, tNotV, tTest, tB, tNot, tAnd, tOr, Nat.zero_add, Nat.reduceAdd, Nat.reduceSub, Nat.sub_self, sFld, tFld, tPar, tMake, tCall, tMeth, tTup, tLst, HO.ins.injEq, and_assoc, reduceCtorEq, false_and, exists_false, false_or, or_false, tFmt, tJs, tBreak, tCont, tMakeS, tCallS, Int.zero_add, if_true, if_false, Bool.false_eq_true, Bool.not_true, Bool.not_false, tUn, rU, tNotN, tIsN, decide_true, decide_false, tBM, rAppend, HO.lst.injEq, HO.tup.injEq, wipe, tLstRg, tRg1, c8, p3]
  refine ⟨by decide, fun p np => ?_⟩
  have s2 := same_upd (o := HO.tup [V.int 50, V.int 50, V.int 1000]) np
  refine dig_at (s2 _ _ hl) (by decide) (by rw [hd]; decide) ⟨_, rfl, ?_⟩
  refine menu_new np (Int.emod_nonneg _ (by decide)) (Int.emod_lt_of_pos _ (by decide)) (fun v hv H2 s2 => ?_)
  obtain ⟨tall, rfl, ta, tb⟩ : ∃ x, v = V.int x ∧ 0 < x ∧ x ≤ 1000 := by
    simp only [List.mem_cons, List.not_mem_nil, or_false] at hv
    rcases hv with h | h | h <;> subst h <;> exact ⟨_, rfl, by decide, by decide⟩
  have s12 := s1.trans s2
  have hl := s2 _ _ hl
  simp only [tSeq]
  simp only [tIfS, tTest, tOp, tVar, tC, tCB, tCons, tNil, tRet, tAsg, gName, tNext, tDrop, rI, rI0, rEq, rNe, sc_ii, sc_ss, sc_bb, sc_in, sc_ni, sc_nn, sc_si, sc_is, List.getElem?_cons_zero, List.getElem?_cons_succ, List.set_cons_zero, List.set_cons_succ, Option.some.injEq, exists_eq_left', exists_eq_left, L2.start, cxOf, List.cons.injEq, and_true, exists_and_left, exists_and_right, exists_eq', V.int.injEq, V.bl.injEq, V.str.injEq, V.ref.injEq, List.length_cons, List.length_nil, List.cons_append, List.nil_append, true_and, List.map, List.replicate, tAndV, tOrV, tNotV, tTest, tB, tNot, tAnd, tOr, Nat.zero_add, Nat.reduceAdd, Nat.reduceSub, Nat.sub_self, sFld, tFld, tPar, tMake, tCall, tMeth, tTup, tLst, HO.ins.injEq, and_assoc, reduceCtorEq, false_and, exists_false, false_or, or_false, tFmt, tJs, tBreak, tCont, tMakeS, tCallS, Int.zero_add, if_true, if_false, Bool.false_eq_true, Bool.not_true, Bool.not_false, tUn, rU, tNotN, tIsN, decide_true, decide_false, tBM, rAppend, HO.lst.injEq, HO.tup.injEq, wipe, tLstRg, tRg1]
  refine lc_r 3 (by decide) (fun R hR => by simp only [tSeq, tIfS, tTest, tOp, tVar, tC, tCB, tCons, tNil, tRet, tAsg, gName, tNext, tDrop, rI, rI0, rEq, rNe, sc_ii, sc_ss, sc_bb, sc_in, sc_ni, sc_nn, sc_si, sc_is, List.getElem?_cons_zero, List.getElem?_cons_succ, List.set_cons_zero, List.set_cons_succ, Option.some.injEq, exists_eq_left', exists_eq_left, L2.start, cxOf, List.cons.injEq, and_true, exists_and_left, exists_and_right, exists_eq', V.int.injEq, V.bl.injEq, V.str.injEq, V.ref.injEq, List.length_cons, List.length_nil, List.cons_append, List.nil_append, true_and, List.map, List.replicate, tAndV, tOrV, tNotV, tTest, tB, tNot, tAnd, tOr, Nat.zero_add, Nat.reduceAdd, Nat.reduceSub, Nat.sub_self, sFld, tFld, tPar, tMake, tCall, tMeth, tTup, tLst, HO.ins.injEq, and_assoc, reduceCtorEq, false_and, exists_false, false_or, or_false, tFmt, tJs, tBreak, tCont, tMakeS, tCallS, Int.zero_add, if_true, if_false, Bool.false_eq_true, Bool.not_true, Bool.not_false, tUn, rU, tNotN, tIsN, decide_true, decide_false, tBM, rAppend, HO.lst.injEq, HO.tup.injEq, wipe, tLstRg, tRg1]; exact hR) (fun _ => RelP 1000) (fun _ => RelP.mono 1000) (fun i D H3 F hi s3 nD hF => ?_) (fun D H3 ys nD s3 hD hy hr => ?_)
  · have hl := s3 _ _ hl
    have m1 : CMul 2 (i : Int) := .inl (by decide)
    simp only [tSeq, tIfS, tTest, tOp, tVar, tC, tCB, tCons, tNil, tRet, tAsg, gName, tNext, tDrop, rI, rI0, rEq, rNe, sc_ii, sc_ss, sc_bb, sc_in, sc_ni, sc_nn, sc_si, sc_is, List.getElem?_cons_zero, List.getElem?_cons_succ, List.set_cons_zero, List.set_cons_succ, Option.some.injEq, exists_eq_left', exists_eq_left, L2.start, cxOf, List.cons.injEq, and_true, exists_and_left, exists_and_right, exists_eq', V.int.injEq, V.bl.injEq, V.str.injEq, V.ref.injEq, List.length_cons, List.length_nil, List.cons_append, List.nil_append, true_and, List.map, List.replicate, tAndV, tOrV, tNotV, tTest, tB, tNot, tAnd, tOr, Nat.zero_add, Nat.reduceAdd, Nat.reduceSub, Nat.sub_self, sFld, tFld, tPar, tMake, tCall, tMeth, tTup, tLst, HO.ins.injEq, and_assoc, reduceCtorEq, false_and, exists_false, false_or, or_false, tFmt, tJs, tBreak, tCont, tMakeS, tCallS, Int.zero_add, if_true, if_false, Bool.false_eq_true, Bool.not_true, Bool.not_false, tUn, rU, tNotN, tIsN, decide_true, decide_false, tBM, rAppend, HO.lst.injEq, HO.tup.injEq, wipe, tLstRg, tRg1, m1, c100, p100, p2, ta, l2]
    refine dig_at hl (by omega) (by omega) ⟨_, rfl, dig_at hl (by omega) (by omega) ⟨_, rfl, ?_⟩⟩
    obtain ⟨b1, b2⟩ := dig_b hb (j := (2 * (i : Int)).toNat) (by omega)
    generalize ds.getD (2 * (i : Int)).toNat 0 = x1 at *
    have x1a := Int.emod_nonneg x1 (show (100 : Int) ≠ 0 by decide); have x1b := Int.emod_lt_of_pos x1 p100
    have y1a := Int.emod_nonneg (x1 / 100) (show (2 : Int) ≠ 0 by decide); have y1b := Int.emod_lt_of_pos (x1 / 100) p2
    generalize x1 % 100 = u at *
    generalize x1 / 100 % 2 = z at *
    have cm : CMul u z := .inl ⟨by omega, by omega⟩
    have uz : 0 ≤ u * z ∧ u * z ≤ 99 := by
      have : z = 0 ∨ z = 1 := by omega
      rcases this with h | h <;> subst h <;> omega
    refine ⟨cm, dig_at hl (by omega) (by omega) ⟨_, rfl, fun p np => ?_⟩⟩
    have t0 := Int.emod_nonneg (ds.getD (2 * (i : Int) + 1).toNat 0) (show tall ≠ 0 by omega); have t1 := Int.emod_lt_of_pos (ds.getD (2 * (i : Int) + 1).toNat 0) ta
    exact hF _ _ (same_upd np) ⟨p, (_, _), rfl, upd_same, uz.1, uz.2, by show 1 ≤ 1 + _; omega, by show 1 + _ ≤ 1000; omega⟩
  · have L0 : L3 1000 H3 D := ⟨ys, hD, hy, fun y hm => by
      obtain ⟨j, hj, e⟩ := List.mem_iff_getElem.mp hm
      exact hr j y (by rw [List.getElem?_eq_getElem hj, e])⟩
    have hl := s3 _ _ hl
    have s13 := s12.trans s3
    have nD' := s12.free nD
    clear hD hy hr s3 s1 s12 s2
    refine ⟨fun σ' H' => ∃ (D' : Addr) (v : Option V), σ' = [some (.int c), some (.ref l), some (.int tall), some (.ref D'), none, v, none] ∧ Same H H' ∧ H' l = some (.lst (ds.map V.int)) ∧ L3 1000000000 H' D', ?_, ?_⟩
    · have c24 : ∀ z, CDiv z 24 := fun z => ⟨by decide, by decide⟩
      have p4 : (0 : Int) < 4 := by decide
      simp only [tSeq, tIfS, tTest, tOp, tVar, tC, tCB, tCons, tNil, tRet, tAsg, gName, tNext, tDrop, rI, rI0, rEq, rNe, sc_ii, sc_ss, sc_bb, sc_in, sc_ni, sc_nn, sc_si, sc_is, List.getElem?_cons_zero, List.getElem?_cons_succ, List.set_cons_zero, List.set_cons_succ, Option.some.injEq, exists_eq_left', exists_eq_left, L2.start, cxOf, List.cons.injEq, and_true, exists_and_left, exists_and_right, exists_eq', V.int.injEq, V.bl.injEq, V.str.injEq, V.ref.injEq, List.length_cons, List.length_nil, List.cons_append, List.nil_append, true_and, List.map, List.replicate, tAndV, tOrV, tNotV, tTest, tB, tNot, tAnd, tOr, Nat.zero_add, Nat.reduceAdd, Nat.reduceSub, Nat.sub_self, sFld, tFld, tPar, tMake, tCall, tMeth, tTup, tLst, HO.ins.injEq, and_assoc, reduceCtorEq, false_and, exists_false, false_or, or_false, tFmt, tJs, tBreak, tCont, tMakeS, tCallS, Int.zero_add, if_true, if_false, Bool.false_eq_true, Bool.not_true, Bool.not_false, tUn, rU, tNotN, tIsN, decide_true, decide_false, tBM, rAppend, HO.lst.injEq, HO.tup.injEq, wipe, tLstRg, tRg1, c24, p4]
      refine dig_at hl (by decide) (by rw [hd]; decide) ⟨_, rfl, ?_⟩
      refine ite2 (fun _ => ?_) (fun _ => ?_)
      · obtain ⟨ys, h1, h2, h3⟩ := L0
        refine lc_l (xs := ys) (by omega) (fun R hR => ⟨_, rfl, hR⟩) (SqL.of h1) (fun _ => RelP 1000000000) (fun _ => RelP.mono 1000000000) (fun i x D' H4 F hi s4 nD' hF => ?_) (fun D' H4 zs nD' s4 hD hy hr => ?_)
        · have cp : CPow 10 6 := ⟨by decide, by decide, by decide⟩
          obtain ⟨t, p, rfl, ht, q1, q2, q3, q4⟩ := h3 x (List.mem_of_getElem? hi)
          have ht := s4 _ _ ht
          simp only [tSeq, tIfS, tTest, tOp, tVar, tC, tCB, tCons, tNil, tRet, tAsg, gName, tNext, tDrop, rI, rI0, rEq, rNe, sc_ii, sc_ss, sc_bb, sc_in, sc_ni, sc_nn, sc_si, sc_is, List.getElem?_cons_zero, List.getElem?_cons_succ, List.set_cons_zero, List.set_cons_succ, Option.some.injEq, exists_eq_left', exists_eq_left, L2.start, cxOf, List.cons.injEq, and_true, exists_and_left, exists_and_right, exists_eq', V.int.injEq, V.bl.injEq, V.str.injEq, V.ref.injEq, List.length_cons, List.length_nil, List.cons_append, List.nil_append, true_and, List.map, List.replicate, tAndV, tOrV, tNotV, tTest, tB, tNot, tAnd, tOr, Nat.zero_add, Nat.reduceAdd, Nat.reduceSub, Nat.sub_self, sFld, tFld, tPar, tMake, tCall, tMeth, tTup, tLst, HO.ins.injEq, and_assoc, reduceCtorEq, false_and, exists_false, false_or, or_false, tFmt, tJs, tBreak, tCont, tMakeS, tCallS, Int.zero_add, if_true, if_false, Bool.false_eq_true, Bool.not_true, Bool.not_false, tUn, rU, tNotN, tIsN, decide_true, decide_false, tBM, rAppend, HO.lst.injEq, HO.tup.injEq, wipe, tLstRg, tRg1, cp, l2]
          refine ixT_at 0 ht rfl (ixT_at 1 ht rfl ⟨_, rfl, .inr (by decide), fun r nr => ?_⟩)
          exact hF _ _ (same_upd nr) ⟨r, (p.1, p.2 * 1000000), rfl, upd_same, q1, q2, by show 1 ≤ p.2 * 1000000; omega, by show p.2 * 1000000 ≤ 1000000000; omega⟩
        · exact ⟨D', rfl, s13.trans s4, s4 _ _ hl, zs, hD, by rw [hy, h2], fun y hm => by
            obtain ⟨j, hj, e⟩ := List.mem_iff_getElem.mp hm
            exact hr j y (by rw [List.getElem?_eq_getElem hj, e])⟩
      · obtain ⟨ys, h1, h2, h3⟩ := L0
        exact ⟨s13, hl, ys, h1, h2, fun y hm => by
          obtain ⟨t, p, e, ht, q1, q2, q3, q4⟩ := h3 y hm
          exact ⟨t, p, e, ht, q1, q2, q3, by omega⟩⟩
    · clear L0 hl s13 nD nD'
      rintro σ' H4 ⟨D', v, rfl, s4, hl, L0⟩
      simp only [tSeq]
      simp only [tIfS, tTest, tOp, tVar, tC, tCB, tCons, tNil, tRet, tAsg, gName, tNext, tDrop, rI, rI0, rEq, rNe, sc_ii, sc_ss, sc_bb, sc_in, sc_ni, sc_nn, sc_si, sc_is, List.getElem?_cons_zero, List.getElem?_cons_succ, List.set_cons_zero, List.set_cons_succ, Option.some.injEq, exists_eq_left', exists_eq_left, L2.start, cxOf, List.cons.injEq, and_true, exists_and_left, exists_and_right, exists_eq', V.int.injEq, V.bl.injEq, V.str.injEq, V.ref.injEq, List.length_cons, List.length_nil, List.cons_append, List.nil_append, true_and, List.map, List.replicate, tAndV, tOrV, tNotV, tTest, tB, tNot, tAnd, tOr, Nat.zero_add, Nat.reduceAdd, Nat.reduceSub, Nat.sub_self, sFld, tFld, tPar, tMake, tCall, tMeth, tTup, tLst, HO.ins.injEq, and_assoc, reduceCtorEq, false_and, exists_false, false_or, or_false, tFmt, tJs, tBreak, tCont, tMakeS, tCallS, Int.zero_add, if_true, if_false, Bool.false_eq_true, Bool.not_true, Bool.not_false, tUn, rU, tNotN, tIsN, decide_true, decide_false, tBM, rAppend, HO.lst.injEq, HO.tup.injEq, wipe, tLstRg, tRg1]
      refine ⟨fun σ' H5 => ∃ (li : Option Int), σ' = [some (.int c), some (.ref l), some (.int tall), some (.ref D'), none, v, some (lv li)] ∧ Same H H5 ∧ L3 1000000000 H5 D' ∧ (∀ i, li = some i → 0 ≤ i ∧ i ≤ 999), ?_, ?_⟩
      · have p10 : (0 : Int) < 10 := by decide
        have p4 : (0 : Int) < 4 := by decide
        have c2 : ∀ z, CDiv z 2 := fun z => ⟨by decide, by decide⟩
        have c3 : ∀ z, CDiv z 3 := fun z => ⟨by decide, by decide⟩
        simp only [tSeq, tIfS, tTest, tOp, tVar, tC, tCB, tCons, tNil, tRet, tAsg, gName, tNext, tDrop, rI, rI0, rEq, rNe, sc_ii, sc_ss, sc_bb, sc_in, sc_ni, sc_nn, sc_si, sc_is, List.getElem?_cons_zero, List.getElem?_cons_succ, List.set_cons_zero, List.set_cons_succ, Option.some.injEq, exists_eq_left', exists_eq_left, L2.start, cxOf, List.cons.injEq, and_true, exists_and_left, exists_and_right, exists_eq', V.int.injEq, V.bl.injEq, V.str.injEq, V.ref.injEq, List.length_cons, List.length_nil, List.cons_append, List.nil_append, true_and, List.map, List.replicate, tAndV, tOrV, tNotV, tTest, tB, tNot, tAnd, tOr, Nat.zero_add, Nat.reduceAdd, Nat.reduceSub, Nat.sub_self, sFld, tFld, tPar, tMake, tCall, tMeth, tTup, tLst, HO.ins.injEq, and_assoc, reduceCtorEq, false_and, exists_false, false_or, or_false, tFmt, tJs, tBreak, tCont, tMakeS, tCallS, Int.zero_add, if_true, if_false, Bool.false_eq_true, Bool.not_true, Bool.not_false, tUn, rU, tNotN, tIsN, decide_true, decide_false, tBM, rAppend, HO.lst.injEq, HO.tup.injEq, wipe, tLstRg, tRg1, p2, p10, p4, c2, c3, l2]
        refine dig_at hl (by decide) (by rw [hd]; decide) ⟨_, rfl, ?_⟩
        refine ite2 (fun _ => ?_) (fun _ => ⟨none, rfl, s4, L0, fun i e => by cases e⟩)
        refine dig_at hl (by decide) (by rw [hd]; decide) ⟨_, rfl, dig_at hl (by decide) (by rw [hd]; decide) (fun p np => dig_at ((same_upd np) _ _ hl) (by decide) (by rw [hd]; decide) ⟨_, rfl, ?_⟩)⟩
        have i0 := Int.emod_nonneg (ds.getD (Int.toNat 6) 0 / 2) (show (4 : Int) ≠ 0 by decide)
        have i1 := Int.emod_lt_of_pos (ds.getD (Int.toNat 6) 0 / 2) p4
        obtain ⟨b1, b2⟩ := dig_b hb (j := Int.toNat 7) (by rw [hd]; decide)
        refine menu_new np (by omega) (by show _ < (2 : Int); omega) (fun v hv H5 s5 => ?_)
        have L5 : L3 1000000000 H5 D' := by
          obtain ⟨ys, h1, h2, h3⟩ := L0
          exact ⟨ys, s5 _ _ h1, h2, fun y hm => by
            obtain ⟨t, p, e, ht, q⟩ := h3 y hm
            exact ⟨t, p, e, s5 _ _ ht, q⟩⟩
        have e0 := Int.emod_nonneg (ds.getD (Int.toNat 7) 0) (show (10 : Int) ≠ 0 by decide)
        have e1 := Int.emod_lt_of_pos (ds.getD (Int.toNat 7) 0) p10
        simp only [List.mem_cons, List.not_mem_nil, or_false] at hv
        rcases hv with h | h <;> subst h
        · exact ⟨some _, rfl, s4.trans s5, L5, fun i e => by cases e; omega⟩
        · exact ⟨some _, rfl, s4.trans s5, L5, fun i e => by cases e; omega⟩
      · clear hl L0 s4
        rintro σ' H5 ⟨li, rfl, s5, ⟨ys, h1, h2, h3⟩, hli⟩
        match ys, h2 with
        | [y0, y1, y2], _ =>
          obtain ⟨t0, q0, rfl, k0, z0⟩ := h3 y0 (by simp)
          obtain ⟨t1, q1, rfl, k1, z1⟩ := h3 y1 (by simp)
          obtain ⟨t2, q2, rfl, k2, z2⟩ := h3 y2 (by simp)
          simp only [tSeq, tIfS, tTest, tOp, tVar, tC, tCB, tCons, tNil, tRet, tAsg, gName, tNext, tDrop, rI, rI0, rEq, rNe, sc_ii, sc_ss, sc_bb, sc_in, sc_ni, sc_nn, sc_si, sc_is, List.getElem?_cons_zero, List.getElem?_cons_succ, List.set_cons_zero, List.set_cons_succ, Option.some.injEq, exists_eq_left', exists_eq_left, L2.start, cxOf, List.cons.injEq, and_true, exists_and_left, exists_and_right, exists_eq', V.int.injEq, V.bl.injEq, V.str.injEq, V.ref.injEq, List.length_cons, List.length_nil, List.cons_append, List.nil_append, true_and, List.map, List.replicate, tAndV, tOrV, tNotV, tTest, tB, tNot, tAnd, tOr, Nat.zero_add, Nat.reduceAdd, Nat.reduceSub, Nat.sub_self, sFld, tFld, tPar, tMake, tCall, tMeth, tTup, tLst, HO.ins.injEq, and_assoc, reduceCtorEq, false_and, exists_false, false_or, or_false, tFmt, tJs, tBreak, tCont, tMakeS, tCallS, Int.zero_add, if_true, if_false, Bool.false_eq_true, Bool.not_true, Bool.not_false, tUn, rU, tNotN, tIsN, decide_true, decide_false, tBM, rAppend, HO.lst.injEq, HO.tup.injEq, wipe, tLstRg, tRg1, l2]
          intro r nr
          have sr := same_upd (o := HO.tup [V.ref D', lv li]) nr
          exact hQ r _ ⟨q0, q1, q2, li⟩ (s5.trans sr) ⟨D', t0, t1, t2, upd_same, sr _ _ h1, sr _ _ k0, sr _ _ k1, sr _ _ k2⟩ ⟨z0, z1, z2, hli⟩
end
end K30

namespace K30
open PySem PySem.Spec PyProof.Rows L2 TL PL
section
variable {P : Program} {w : World} {K : PySem.W.Frag} {mg : Str → Option Value} {base : Heap}
def rdB (x : B4) : B4 := ⟨rd x.a, rd x.b, rd x.c, x.l⟩
def pick (x : B4) : Nat → Int × Int
  | 0 => x.a
  | 1 => x.b
  | _ => x.c
/-- the law's bounds: nothing below 0, sizes -/
structure Lb (x : B4) : Prop where
  ok : Ok x
  sz : SzB x
theorem Lb.pick {x : B4} (h : Lb x) (i : Nat) : 0 < (pick x i).2 ∧ Lt2 (pick x i).2 900 ∧ 0 ≤ (pick x i).1 := by
  match i with
  | 0 => exact ⟨h.sz.a.pos, h.sz.a.den.mono (by decide), h.ok.a⟩
  | 1 => exact ⟨h.sz.b.pos, h.sz.b.den.mono (by decide), h.ok.b⟩
  | i + 2 => exact ⟨h.sz.c.pos, h.sz.c.den.mono (by decide), h.ok.c⟩
theorem rdB_ok {x : B4} (h : Lb x) : Ok (rdB x) := ⟨red_nn h.ok.a h.sz.a.pos, red_nn h.ok.b h.sz.b.pos, red_nn h.ok.c h.sz.c.pos, h.ok.l⟩
theorem rdB_sz {x : B4} (h : SzB x) : SzB (rdB x) := ⟨h.a.rd, h.b.rd, h.c.rd⟩
theorem lm_rat {K : PySem.W.Frag} {p : Int × Int} : LMono (fun y H => ∃ o, y = .ref o ∧ RatAt K H o p) := by
  rintro y D H1 H2 ⟨l, hl⟩ k ⟨o, rfl, dx, ho⟩
  exact ⟨o, rfl, dx, k o _ (ne_of ho hl (by intro z; cases z)) ho⟩
def spMade (K : PySem.W.Frag) : Sp := fun vs H Q _ => ∃ (v : Addr) (x : B4), vs = [.ref v] ∧ Drawn H v x ∧ Lb x ∧ ∀ c H', Same H H' → H c = none → BndAt K H' c (rdB x) → Q (.ref c) H'
theorem ok_l_made (T : Tk K mg) : Okd P w K mg base (L2.CX P w) 3 "_law_made" ["_law_drawn_here"] (spMade K) := by
  refine Okd.of s_l_made (T.df 21) (T.glo 34) sc_l_made (fun _ _ _ _ _ _ us hl => match us, hl with | [_], _ => rfl) (fun vs H Q E h => ?_) (fun cdv A outer s H vs Q E h hr hpo tk px pxe => ?_)
  · obtain ⟨v, x, rfl, _⟩ := h; rfl
  obtain ⟨v, x, rfl, ⟨l, t0, t1, t2, hv, hl, h0, h1, h2⟩, L, hQ⟩ := h
  refine ⟨_, (pss_cons (ps_setLc (i := 1) (own := [("_law_pair", 2)]) (g := gName 2) (tt := tYes) (te := (tMake (He.ga K "Ratio") (spInit K) [] E0 (tCons (tOp (rIxT K) (tVar 2) (tC (.int 0))) (tCons (tOp (rIxT K) (tVar 2) (tC (.int 1))) tNil)))) (by rfl) sc_l_made.nd rfl rfl (sw_true rfl rfl rfl (by decide +kernel)) (pi_list (pe_ix ix_tup (pv 0) pe_int (fun _ _ => rfl))) (blkOk_by (own := [("_law_pair", 2)]) (N := N_l_made) (sc := defScope s_l_made) (by decide +kernel)) (fun _ _ _ _ _ => pg_name (i := 2) sc_l_made.nd rfl (Or.inl rfl)) (fun _ _ _ _ _ => pts_nil) (fun _ _ _ _ _ => (pmk (mk_Ratio_2 T) (hr.mono (by decide)) (by rfl) passL (pa_cons (pe_ix (r := rIxT K) ix_tup (pv 2) pe_int (fun _ _ => rfl)) (pa_cons (pe_ix (r := rIxT K) ix_tup (pv 2) pe_int (fun _ _ => rfl)) pa_nil)))))
  (pss_one (ps_ret (pmk (mk_Bound_4 T) (hr.mono (by decide)) (by rfl) px (pa_cons (pe_ix ix_list (pv 1) pe_int (fun _ _ => rfl)) (pa_cons (pe_ix ix_list (pv 1) pe_int (fun _ _ => rfl)) (pa_cons (pe_ix ix_list (pv 1) pe_int (fun _ _ => rfl)) (pa_cons (pe_ix ix_tup (pv 0) pe_int (fun _ _ => rfl)) pa_nil)))))))), ?_⟩
  clear hr hpo tk px pxe
  simp only [tSeq]
  simp only [tIfS, tTest, tOp, tVar, tC, tCB, tCons, tNil, tRet, tAsg, gName, tNext, tDrop, rI, rI0, rEq, rNe, sc_ii, sc_ss, sc_bb, sc_in, sc_ni, sc_nn, sc_si, sc_is, List.getElem?_cons_zero, List.getElem?_cons_succ, List.set_cons_zero, List.set_cons_succ, Option.some.injEq, exists_eq_left', exists_eq_left, L2.start, cxOf, List.cons.injEq, and_true, exists_and_left, exists_and_right, exists_eq', V.int.injEq, V.bl.injEq, V.str.injEq, V.ref.injEq, List.length_cons, List.length_nil, List.cons_append, List.nil_append, true_and, List.map, List.replicate, tAndV, tOrV, tNotV, tTest, tB, tNot, tAnd, tOr, Nat.zero_add, Nat.reduceAdd, Nat.reduceSub, Nat.sub_self, sFld, tFld, tPar, tMake, tCall, tMeth, tTup, tLst, HO.ins.injEq, and_assoc, reduceCtorEq, false_and, exists_false, false_or, or_false, tFmt, tJs, tBreak, tCont, tMakeS, tCallS, Int.zero_add, if_true, if_false, Bool.false_eq_true, Bool.not_true, Bool.not_false, tUn, rU, tNotN, tIsN, decide_true, decide_false, tBM, rAppend, HO.lst.injEq, HO.tup.injEq, wipe, tLstRg, tRg1]
  refine lc_l (xs := [.ref t0, .ref t1, .ref t2]) (by show 3 ≤ 100000; decide) (fun R hR => ⟨_, rfl, ixT_at 0 hv rfl hR⟩) (SqL.of hl) (fun i y H => ∃ o, y = .ref o ∧ RatAt K H o (rd (pick x i))) (fun _ => lm_rat) (fun i y D H1 F hi s1 nD hF => ?_) (fun D H1 ys nD s1 hD hy hr => ?_)
  · obtain ⟨t, rfl, ht⟩ : ∃ t, y = .ref t ∧ TupAt H t (pick x i) := by
      match i, hi with
      | 0, hi => cases hi; exact ⟨_, rfl, h0⟩
      | 1, hi => cases hi; exact ⟨_, rfl, h1⟩
      | 2, hi => cases hi; exact ⟨_, rfl, h2⟩
      | i + 3, hi => simp at hi
    have ht := s1 _ _ ht
    obtain ⟨p1, p2, p3⟩ := L.pick i
    simp only [tSeq, tIfS, tTest, tOp, tVar, tC, tCB, tCons, tNil, tRet, tAsg, gName, tNext, tDrop, rI, rI0, rEq, rNe, sc_ii, sc_ss, sc_bb, sc_in, sc_ni, sc_nn, sc_si, sc_is, List.getElem?_cons_zero, List.getElem?_cons_succ, List.set_cons_zero, List.set_cons_succ, Option.some.injEq, exists_eq_left', exists_eq_left, L2.start, cxOf, List.cons.injEq, and_true, exists_and_left, exists_and_right, exists_eq', V.int.injEq, V.bl.injEq, V.str.injEq, V.ref.injEq, List.length_cons, List.length_nil, List.cons_append, List.nil_append, true_and, List.map, List.replicate, tAndV, tOrV, tNotV, tTest, tB, tNot, tAnd, tOr, Nat.zero_add, Nat.reduceAdd, Nat.reduceSub, Nat.sub_self, sFld, tFld, tPar, tMake, tCall, tMeth, tTup, tLst, HO.ins.injEq, and_assoc, reduceCtorEq, false_and, exists_false, false_or, or_false, tFmt, tJs, tBreak, tCont, tMakeS, tCallS, Int.zero_add, if_true, if_false, Bool.false_eq_true, Bool.not_true, Bool.not_false, tUn, rU, tNotN, tIsN, decide_true, decide_false, tBM, rAppend, HO.lst.injEq, HO.tup.injEq, wipe, tLstRg, tRg1]
    refine ixT_at 0 ht rfl (ixT_at 1 ht rfl ?_)
    exact made_ratio (G := fun y H2 => F (.ref y) H2) p1 p2 (fun c H' s nc r => hF _ _ s ⟨c, rfl, r⟩)
  · match ys, hy with
    | [y0, y1, y2], _ =>
      obtain ⟨o0, rfl, r0⟩ := hr 0 y0 rfl
      obtain ⟨o1, rfl, r1⟩ := hr 1 y1 rfl
      obtain ⟨o2, rfl, r2⟩ := hr 2 y2 rfl
      refine ixL_at 0 hD rfl (ixL_at 1 hD rfl (ixL_at 2 hD rfl (ixT_at 1 (s1 _ _ hv) rfl ?_)))
      exact made_bound (x := rdB x) (G := fun y H2 => Q (.ref y) H2) (rdB_ok L).not r0 r1 r2 (fun c H' s nc r => hQ c H' (s1.trans s) (s1.free nc) r)
/-! ### the law's own formulas -/
def spLAt : Sp := fun vs H Q _ => ∃ (v : Addr) (x : B4) (q : Int), vs = [.ref v, .int q] ∧ Drawn H v x ∧ SzB x ∧ 0 ≤ q ∧ Lt2 q 32 ∧ ∀ c H', Same H H' → TupAt H' c (atv x q) → Q (.ref c) H'
theorem ok_l_at (T : Tk K mg) : Okd P w K mg base (L2.CX P w) 5 "_law_at" ["_law_drawn_here", "_law_calls"] spLAt := by
  refine Okd.of s_l_at (T.df 22) (T.glo 35) sc_l_at (fun _ _ _ _ _ _ us hl => match us, hl with | [_, _], _ => rfl) (fun vs H Q E h => ?_) (fun cdv A outer s H vs Q E h hr hpo tk px pxe => ?_)
  · obtain ⟨v, x, q, rfl, _⟩ := h; rfl
  obtain ⟨v, x, q, rfl, ⟨l, t0, t1, t2, hv, hl, h0, h1, h2⟩, Z, q0, q20, hQ⟩ := h
  refine ⟨_, (pss_cons (ps_if (pt_cmpR op_eq (pv 1) pe_int (nomark _)) (pss_one (ps_ret (pe_tup (pa_cons pe_int (pa_cons pe_int pa_nil))))) pss_nil)
  (C8.pss_cut (ps_if (PW.pt (pw_and (pt_cmp (pc_notN (pe_ix ix_tup (pv 0) pe_int (fun _ _ => rfl)))) (pw_and1 (pt_cmpR op_gt (pv 1) (pe_ix ix_tup (pv 0) pe_int (fun _ _ => rfl)) (nomark _))))) (pss_one (ps_ret (pe_tup (pa_cons pe_int (pa_cons pe_int pa_nil))))) pss_nil)
  (pss_cons (ps_set (i := 2) sc_l_at.nd rfl (Or.inl rfl) (pf (ok_l_plus T) (hr.mono (by decide)) (by rfl) px (pa_cons (pe_ix ix_list (pe_ix ix_tup (pv 0) pe_int (fun _ _ => rfl)) pe_int (fun _ _ => rfl)) (pa_cons (pf (ok_l_times T) (hr.mono (by decide)) (by rfl) px (pa_cons (pe_ix ix_list (pe_ix ix_tup (pv 0) pe_int (fun _ _ => rfl)) pe_int (fun _ _ => rfl)) (pa_cons (pe_tup (pa_cons (pv 1) (pa_cons pe_int pa_nil))) pa_nil))) pa_nil))))
  (pss_cons (ps_set (i := 2) sc_l_at.nd rfl (Or.inl rfl) (pf (ok_l_plus T) (hr.mono (by decide)) (by rfl) px (pa_cons (pv 2) (pa_cons (pf (ok_l_times T) (hr.mono (by decide)) (by rfl) px (pa_cons (pe_ix ix_list (pe_ix ix_tup (pv 0) pe_int (fun _ _ => rfl)) pe_int (fun _ _ => rfl)) (pa_cons (pe_tup (pa_cons (pe_op op_fdiv (pe_op op_mulW (pv 1) (pe_op op_sub (pv 1) pe_int)) pe_int) (pa_cons pe_int pa_nil))) pa_nil))) pa_nil))))
  (pss_cons (ps_if (pt_cmpR op_gt (pe_ix ix_tup (pv 2) pe_int (fun _ _ => rfl)) (pe_ix ix_tup (pv 2) pe_int (fun _ _ => rfl)) (nomark _)) (pss_one (ps_ret (pe_tup (pa_cons pe_int (pa_cons pe_int pa_nil))))) pss_nil)
  (pss_one (ps_ret (pv 2)))))))), ?_⟩
  clear hr hpo tk px pxe
  have l2 : 2 ≤ sizeLine := by decide
  simp only [tSeq]
  simp only [tIfS, tTest, tOp, tVar, tC, tCB, tCons, tNil, tRet, tAsg, gName, tNext, tDrop, rI, rI0, rEq, rNe, sc_ii, sc_ss, sc_bb, sc_in, sc_ni, sc_nn, sc_si, sc_is, List.getElem?_cons_zero, List.getElem?_cons_succ, List.set_cons_zero, List.set_cons_succ, Option.some.injEq, exists_eq_left', exists_eq_left, L2.start, cxOf, List.cons.injEq, and_true, exists_and_left, exists_and_right, exists_eq', V.int.injEq, V.bl.injEq, V.str.injEq, V.ref.injEq, List.length_cons, List.length_nil, List.cons_append, List.nil_append, true_and, List.map, List.replicate, tAndV, tOrV, tNotV, tTest, tB, tNot, tAnd, tOr, Nat.zero_add, Nat.reduceAdd, Nat.reduceSub, Nat.sub_self, sFld, tFld, tPar, tMake, tCall, tMeth, tTup, tLst, HO.ins.injEq, and_assoc, reduceCtorEq, false_and, exists_false, false_or, or_false, tFmt, tJs, tBreak, tCont, tMakeS, tCallS, Int.zero_add, if_true, if_false, Bool.false_eq_true, Bool.not_true, Bool.not_false, tUn, rU, tNotN, tIsN, decide_true, decide_false, tBM, rAppend, HO.lst.injEq, HO.tup.injEq, wipe, tLstRg, tRg1, l2]
  refine ite2 (fun z => ?_) (fun z => ?_)
  · intro p np
    have e : q = 0 := of_decide_eq_true z
    exact hQ p _ (same_upd np) (by rw [atv, if_pos e]; exact upd_same)
  have qn : q ≠ 0 := fun y => z (decide_eq_true y)
  refine ⟨fun σ' H' => σ' = [some (.ref v), some (.int q), none] ∧ H' = H ∧ over x.l q = false, ?_, ?_⟩
  · simp only [tSeq, tIfS, tTest, tOp, tVar, tC, tCB, tCons, tNil, tRet, tAsg, gName, tNext, tDrop, rI, rI0, rEq, rNe, sc_ii, sc_ss, sc_bb, sc_in, sc_ni, sc_nn, sc_si, sc_is, List.getElem?_cons_zero, List.getElem?_cons_succ, List.set_cons_zero, List.set_cons_succ, Option.some.injEq, exists_eq_left', exists_eq_left, L2.start, cxOf, List.cons.injEq, and_true, exists_and_left, exists_and_right, exists_eq', V.int.injEq, V.bl.injEq, V.str.injEq, V.ref.injEq, List.length_cons, List.length_nil, List.cons_append, List.nil_append, true_and, List.map, List.replicate, tAndV, tOrV, tNotV, tTest, tB, tNot, tAnd, tOr, Nat.zero_add, Nat.reduceAdd, Nat.reduceSub, Nat.sub_self, sFld, tFld, tPar, tMake, tCall, tMeth, tTup, tLst, HO.ins.injEq, and_assoc, reduceCtorEq, false_and, exists_false, false_or, or_false, tFmt, tJs, tBreak, tCont, tMakeS, tCallS, Int.zero_add, if_true, if_false, Bool.false_eq_true, Bool.not_true, Bool.not_false, tUn, rU, tNotN, tIsN, decide_true, decide_false, tBM, rAppend, HO.lst.injEq, HO.tup.injEq, wipe, tLstRg, tRg1, l2]
    refine ixT_at 1 hv rfl ?_
    cases hl' : x.l with
    | none => simp [lv, over]
    | some i =>
      rw [hl'] at hv
      simp only [tSeq, tIfS, tTest, tOp, tVar, tC, tCB, tCons, tNil, tRet, tAsg, gName, tNext, tDrop, rI, rI0, rEq, rNe, sc_ii, sc_ss, sc_bb, sc_in, sc_ni, sc_nn, sc_si, sc_is, List.getElem?_cons_zero, List.getElem?_cons_succ, List.set_cons_zero, List.set_cons_succ, Option.some.injEq, exists_eq_left', exists_eq_left, L2.start, cxOf, List.cons.injEq, and_true, exists_and_left, exists_and_right, exists_eq', V.int.injEq, V.bl.injEq, V.str.injEq, V.ref.injEq, List.length_cons, List.length_nil, List.cons_append, List.nil_append, true_and, List.map, List.replicate, tAndV, tOrV, tNotV, tTest, tB, tNot, tAnd, tOr, Nat.zero_add, Nat.reduceAdd, Nat.reduceSub, Nat.sub_self, sFld, tFld, tPar, tMake, tCall, tMeth, tTup, tLst, HO.ins.injEq, and_assoc, reduceCtorEq, false_and, exists_false, false_or, or_false, tFmt, tJs, tBreak, tCont, tMakeS, tCallS, Int.zero_add, if_true, if_false, Bool.false_eq_true, Bool.not_true, Bool.not_false, tUn, rU, tNotN, tIsN, decide_true, decide_false, tBM, rAppend, HO.lst.injEq, HO.tup.injEq, wipe, tLstRg, tRg1, lv]
      refine ixT_at 1 hv rfl ⟨i, rfl, ?_⟩
      refine ite2 (fun y => ?_) (fun y => by simpa [over] using y)
      intro p np
      exact hQ p _ (same_upd np) (by rw [atv, if_neg qn, hl', if_pos (show over (some i) q = true from y)]; exact upd_same)
  rintro σ' H' ⟨rfl, rfl, ho⟩
  simp only [atv, if_neg qn, ho, Bool.false_eq_true, if_false] at hQ
  have hk1 : Lt2 (q - 1) 33 := q20.sub (show (1 : Int).natAbs < 2 ^ 32 by decide)
  have hq2 : Lt2 (q * (q - 1)) 65 := q20.mul hk1
  have hq3 : Lt2 (q * (q - 1) / 2) 65 := .of_le (y := q * (q - 1)) (by
    have : 0 ≤ q * (q - 1) := Int.mul_nonneg q0 (by omega)
    omega) hq2
  have m1 : CMulW q (q - 1) := q20.cmul hk1 (by decide)
  have d2 : ∀ z, CDiv z 2 := fun z => ⟨by decide, by decide⟩
  have zq : Sz (q, 1) 32 1 := .int q20
  have zt : Sz (q * (q - 1) / 2, 1) 65 1 := .int hq3
  simp only [tSeq]
  simp only [tIfS, tTest, tOp, tVar, tC, tCB, tCons, tNil, tRet, tAsg, gName, tNext, tDrop, rI, rI0, rEq, rNe, sc_ii, sc_ss, sc_bb, sc_in, sc_ni, sc_nn, sc_si, sc_is, List.getElem?_cons_zero, List.getElem?_cons_succ, List.set_cons_zero, List.set_cons_succ, Option.some.injEq, exists_eq_left', exists_eq_left, L2.start, cxOf, List.cons.injEq, and_true, exists_and_left, exists_and_right, exists_eq', V.int.injEq, V.bl.injEq, V.str.injEq, V.ref.injEq, List.length_cons, List.length_nil, List.cons_append, List.nil_append, true_and, List.map, List.replicate, tAndV, tOrV, tNotV, tTest, tB, tNot, tAnd, tOr, Nat.zero_add, Nat.reduceAdd, Nat.reduceSub, Nat.sub_self, sFld, tFld, tPar, tMake, tCall, tMeth, tTup, tLst, HO.ins.injEq, and_assoc, reduceCtorEq, false_and, exists_false, false_or, or_false, tFmt, tJs, tBreak, tCont, tMakeS, tCallS, Int.zero_add, if_true, if_false, Bool.false_eq_true, Bool.not_true, Bool.not_false, tUn, rU, tNotN, tIsN, decide_true, decide_false, tBM, rAppend, HO.lst.injEq, HO.tup.injEq, wipe, tLstRg, tRg1, l2]
  refine ixT_at 0 hv rfl (ixL_at 0 hl rfl (ixT_at 0 hv rfl (ixL_at 1 hl rfl (fun p np => ?_))))
  have sp := same_upd (o := HO.tup [V.int q, V.int 1]) np
  refine ⟨t1, p, x.b, (q, 1), rfl, sp _ _ h1, upd_same, Z.b.mono (by decide) (by decide), zq.mono (by decide) (by decide), fun c1 H1 s1 n1 r1 => ?_⟩
  have z1 := Z.b.rmu zq
  refine ⟨t0, c1, x.a, rmu x.b (q, 1), rfl, s1 _ _ (sp _ _ h0), r1, Z.a.mono (by decide) (by decide), z1.mono (by decide) (by decide), fun c2 H2 s2 n2 r2 => ?_⟩
  have z2 := Z.a.rad z1 (e := 180) (by decide) (by decide)
  have s12 := (sp.trans s1).trans s2
  have hv2 := s12 _ _ hv; have hl2 := s12 _ _ hl; have h22 : TupAt H2 t2 x.c := s12 _ _ h2
  simp only [tSeq]
  simp only [tIfS, tTest, tOp, tVar, tC, tCB, tCons, tNil, tRet, tAsg, gName, tNext, tDrop, rI, rI0, rEq, rNe, sc_ii, sc_ss, sc_bb, sc_in, sc_ni, sc_nn, sc_si, sc_is, List.getElem?_cons_zero, List.getElem?_cons_succ, List.set_cons_zero, List.set_cons_succ, Option.some.injEq, exists_eq_left', exists_eq_left, L2.start, cxOf, List.cons.injEq, and_true, exists_and_left, exists_and_right, exists_eq', V.int.injEq, V.bl.injEq, V.str.injEq, V.ref.injEq, List.length_cons, List.length_nil, List.cons_append, List.nil_append, true_and, List.map, List.replicate, tAndV, tOrV, tNotV, tTest, tB, tNot, tAnd, tOr, Nat.zero_add, Nat.reduceAdd, Nat.reduceSub, Nat.sub_self, sFld, tFld, tPar, tMake, tCall, tMeth, tTup, tLst, HO.ins.injEq, and_assoc, reduceCtorEq, false_and, exists_false, false_or, or_false, tFmt, tJs, tBreak, tCont, tMakeS, tCallS, Int.zero_add, if_true, if_false, Bool.false_eq_true, Bool.not_true, Bool.not_false, tUn, rU, tNotN, tIsN, decide_true, decide_false, tBM, rAppend, HO.lst.injEq, HO.tup.injEq, wipe, tLstRg, tRg1, l2, m1, d2]
  refine ixT_at 0 hv2 rfl (ixL_at 2 hl2 rfl (fun p' np' => ?_))
  have sp' := same_upd (o := HO.tup [V.int (q * (q - 1) / 2), V.int 1]) np'
  refine ⟨t2, p', x.c, (q * (q - 1) / 2, 1), rfl, sp' _ _ h22, upd_same, Z.c.mono (by decide) (by decide), zt.mono (by decide) (by decide), fun c3 H3 s3 n3 r3 => ?_⟩
  have z3 := Z.c.rmu zt
  refine ⟨c2, c3, _, _, rfl, s3 _ _ (sp' _ _ r2), r3, z2.mono (by decide) (by decide), z3.mono (by decide) (by decide), fun c4 H4 s4 n4 r4 => ?_⟩
  replace r4 : H4 c4 = some (.tup [.int (val x q).1, .int (val x q).2]) := r4
  have s14 := ((s12.trans sp').trans s3).trans s4
  generalize val x q = w at hQ r4
  simp only [tSeq]
  simp only [tIfS, tTest, tOp, tVar, tC, tCB, tCons, tNil, tRet, tAsg, gName, tNext, tDrop, rI, rI0, rEq, rNe, sc_ii, sc_ss, sc_bb, sc_in, sc_ni, sc_nn, sc_si, sc_is, List.getElem?_cons_zero, List.getElem?_cons_succ, List.set_cons_zero, List.set_cons_succ, Option.some.injEq, exists_eq_left', exists_eq_left, L2.start, cxOf, List.cons.injEq, and_true, exists_and_left, exists_and_right, exists_eq', V.int.injEq, V.bl.injEq, V.str.injEq, V.ref.injEq, List.length_cons, List.length_nil, List.cons_append, List.nil_append, true_and, List.map, List.replicate, tAndV, tOrV, tNotV, tTest, tB, tNot, tAnd, tOr, Nat.zero_add, Nat.reduceAdd, Nat.reduceSub, Nat.sub_self, sFld, tFld, tPar, tMake, tCall, tMeth, tTup, tLst, HO.ins.injEq, and_assoc, reduceCtorEq, false_and, exists_false, false_or, or_false, tFmt, tJs, tBreak, tCont, tMakeS, tCallS, Int.zero_add, if_true, if_false, Bool.false_eq_true, Bool.not_true, Bool.not_false, tUn, rU, tNotN, tIsN, decide_true, decide_false, tBM, rAppend, HO.lst.injEq, HO.tup.injEq, wipe, tLstRg, tRg1, l2]
  refine ixT_at 0 r4 rfl (ixT_at 1 r4 rfl ⟨_, rfl, _, rfl, ?_⟩)
  refine ite2 (fun z => fun p np => ?_) (fun z => ?_)
  · exact hQ p _ (s14.trans (same_upd np)) (by rw [if_pos (of_decide_eq_true z)]; exact upd_same)
  · exact hQ c4 _ s14 (by rw [if_neg (fun y => z (decide_eq_true y))]; exact r4)
def spLPlus : Sp := fun vs H Q _ => ∃ (v u : Addr) (x y : B4), vs = [.ref v, .ref u] ∧ Drawn H v x ∧ Drawn H u y ∧ SzB x ∧ SzB y ∧ ∀ c H', Same H H' → Drawn H' c (plusB x y) → Q (.ref c) H'
theorem ok_l_plus_of (T : Tk K mg) : Okd P w K mg base (L2.CX P w) 5 "_law_plus_of" ["_law_one", "_law_other"] spLPlus := by
  refine Okd.of s_l_plus_of (T.df 23) (T.glo 37) sc_l_plus_of (fun _ _ _ _ _ _ us hl => match us, hl with | [_, _], _ => rfl) (fun vs H Q E h => ?_) (fun cdv A outer s H vs Q E h hr hpo tk px pxe => ?_)
  · obtain ⟨v, u, x, y, rfl, _⟩ := h; rfl
  obtain ⟨v, u, x, y, rfl, ⟨l, t0, t1, t2, hv, hl, h0, h1, h2⟩, ⟨l', t0', t1', t2', hu, hl', h0', h1', h2'⟩, Zx, Zy, hQ⟩ := h
  refine ⟨_, (C8.pss_cut (ps_setLc (i := 2) (own := [("_law_drawn_here", 3)]) (g := gName 3) (tt := (tB (tNotN (tOp (rIxT K) (tVar 3) (tC (.int 1)))))) (te := (tOp (rIxT K) (tVar 3) (tC (.int 1)))) (by rfl) sc_l_plus_of.nd rfl rfl (sw_true rfl rfl rfl (by decide +kernel)) (pi_tup (pe_tup (pa_cons (pv 0) (pa_cons (pv 1) pa_nil)))) (blkOk_by (own := [("_law_drawn_here", 3)]) (N := N_l_plus_of) (sc := defScope s_l_plus_of) (by decide +kernel)) (fun _ _ _ _ _ => pg_name (i := 3) sc_l_plus_of.nd rfl (Or.inl rfl)) (fun _ _ _ _ _ => pts_one (pt_cmp (pc_notN (pe_ix (r := rIxT K) ix_tup (pv 3) pe_int (fun _ _ => rfl))))) (fun _ _ _ _ _ => (pe_ix (r := rIxT K) ix_tup (pv 3) pe_int (fun _ _ => rfl))))
  (pss_cons (ps_set (i := 4) sc_l_plus_of.nd rfl (Or.inl rfl) pe_non)
  (C8.pss_cut (ps_if (pt_cmpR op_gt (pe_callB call_len_seq (by rfl) (T.free 23) (by decide +kernel) (pa_cons (pv 2) pa_nil)) pe_int (nomark _)) (pss_one (ps_set (i := 4) sc_l_plus_of.nd rfl (Or.inl rfl) (pe_callB (cr_min rfl) (by rfl) (T.free 36) (by decide +kernel) (pa_cons (pv 2) pa_nil)))) pss_nil)
  (pss_one (ps_ret (pe_tup (pa_cons (pe_lc (own := [("_law_k", 5)]) (g := gName 5) (tt := tYes) (te := (tCall (spPair K rad) [] E0 (tCons (tOp (rIxL K) (tOp (rIxT K) (tVar 0) (tC (.int 0))) (tVar 5)) (tCons (tOp (rIxL K) (tOp (rIxT K) (tVar 1) (tC (.int 0))) (tVar 5)) tNil)))) (by rfl) sc_l_plus_of.nd (pi_range1 rfl (T.free 28) (pa_cons pe_int pa_nil)) (blkOk_by (own := [("_law_k", 5)]) (N := N_l_plus_of) (sc := defScope s_l_plus_of) (by decide +kernel)) (fun _ _ _ _ _ => pg_name (i := 5) sc_l_plus_of.nd rfl (Or.inl rfl)) (fun _ _ _ _ _ => pts_nil) (fun _ _ _ _ _ => (pf (ok_l_plus T) (hr.mono (by decide)) (by rfl) passL (pa_cons (pe_ix (r := rIxL K) ix_list (pe_ix (r := rIxT K) ix_tup (pv 0) pe_int (fun _ _ => rfl)) (pv 5) (fun _ _ => rfl)) (pa_cons (pe_ix (r := rIxL K) ix_list (pe_ix (r := rIxT K) ix_tup (pv 1) pe_int (fun _ _ => rfl)) (pv 5) (fun _ _ => rfl)) pa_nil))))) (pa_cons (pv 4) pa_nil)))))))), ?_⟩
  clear hr hpo tk px pxe
  have l2 : 2 ≤ sizeLine := by decide
  refine ⟨fun σ' H' => ∃ D, σ' = [some (.ref v), some (.ref u), some (.ref D), none, none, none] ∧ Same H H' ∧ H' D = some (.lst ((x.l.toList ++ y.l.toList).map V.int)), ?_, ?_⟩
  · refine ⟨_, rfl, _, rfl, l2, fun p np => ⟨p, rfl, ⟨_, SqT.of upd_same⟩, fun D nD => ?_⟩⟩
    have sp := same_upd (o := HO.tup [V.ref v, V.ref u]) np
    have hp : upd H p (HO.tup [V.ref v, V.ref u]) p = some (.tup [V.ref v, V.ref u]) := upd_same
    have hv := sp _ _ hv; have hu := sp _ _ hu
    have nD' := sp.free nD
    generalize upd H p (HO.tup [V.ref v, V.ref u]) = H1 at *
    refine lc_tup (xs := [.ref v, .ref u]) (fun i H' => Same H1 H' ∧ H' D = some (.lst ((((if 1 ≤ i then x.l.toList else []) ++ (if 2 ≤ i then y.l.toList else [])).map V.int)))) ?_ ?_ ?_ ?_
    · exact ⟨same_upd nD, upd_same⟩
    · rintro i H' _ ⟨s, _⟩
      exact SqT.of (s _ _ hp)
    · rintro i z H' hi ⟨s, hD⟩
      match i, hi with
      | 0, hi =>
        cases hi
        simp only [tSeq, tIfS, tTest, tOp, tVar, tC, tCB, tCons, tNil, tRet, tAsg, gName, tNext, tDrop, rI, rI0, rEq, rNe, sc_ii, sc_ss, sc_bb, sc_in, sc_ni, sc_nn, sc_si, sc_is, List.getElem?_cons_zero, List.getElem?_cons_succ, List.set_cons_zero, List.set_cons_succ, Option.some.injEq, exists_eq_left', exists_eq_left, L2.start, cxOf, List.cons.injEq, and_true, exists_and_left, exists_and_right, exists_eq', V.int.injEq, V.bl.injEq, V.str.injEq, V.ref.injEq, List.length_cons, List.length_nil, List.cons_append, List.nil_append, true_and, List.map, List.replicate, tAndV, tOrV, tNotV, tTest, tB, tNot, tAnd, tOr, Nat.zero_add, Nat.reduceAdd, Nat.reduceSub, Nat.sub_self, sFld, tFld, tPar, tMake, tCall, tMeth, tTup, tLst, HO.ins.injEq, and_assoc, reduceCtorEq, false_and, exists_false, false_or, or_false, tFmt, tJs, tBreak, tCont, tMakeS, tCallS, Int.zero_add, if_true, if_false, Bool.false_eq_true, Bool.not_true, Bool.not_false, tUn, rU, tNotN, tIsN, decide_true, decide_false, tBM, rAppend, HO.lst.injEq, HO.tup.injEq, wipe, tLstRg, tRg1]
        refine ixT_at 1 (s _ _ hv) rfl ?_
        cases hl' : x.l with
        | none =>
          rw [hl'] at hD
          simp only [tSeq, tIfS, tTest, tOp, tVar, tC, tCB, tCons, tNil, tRet, tAsg, gName, tNext, tDrop, rI, rI0, rEq, rNe, sc_ii, sc_ss, sc_bb, sc_in, sc_ni, sc_nn, sc_si, sc_is, List.getElem?_cons_zero, List.getElem?_cons_succ, List.set_cons_zero, List.set_cons_succ, Option.some.injEq, exists_eq_left', exists_eq_left, L2.start, cxOf, List.cons.injEq, and_true, exists_and_left, exists_and_right, exists_eq', V.int.injEq, V.bl.injEq, V.str.injEq, V.ref.injEq, List.length_cons, List.length_nil, List.cons_append, List.nil_append, true_and, List.map, List.replicate, tAndV, tOrV, tNotV, tTest, tB, tNot, tAnd, tOr, Nat.zero_add, Nat.reduceAdd, Nat.reduceSub, Nat.sub_self, sFld, tFld, tPar, tMake, tCall, tMeth, tTup, tLst, HO.ins.injEq, and_assoc, reduceCtorEq, false_and, exists_false, false_or, or_false, tFmt, tJs, tBreak, tCont, tMakeS, tCallS, Int.zero_add, if_true, if_false, Bool.false_eq_true, Bool.not_true, Bool.not_false, tUn, rU, tNotN, tIsN, decide_true, decide_false, tBM, rAppend, HO.lst.injEq, HO.tup.injEq, wipe, tLstRg, tRg1, lv]
          exact ⟨s, hD⟩
        | some i =>
          rw [hl'] at hD
          simp only [tSeq, tIfS, tTest, tOp, tVar, tC, tCB, tCons, tNil, tRet, tAsg, gName, tNext, tDrop, rI, rI0, rEq, rNe, sc_ii, sc_ss, sc_bb, sc_in, sc_ni, sc_nn, sc_si, sc_is, List.getElem?_cons_zero, List.getElem?_cons_succ, List.set_cons_zero, List.set_cons_succ, Option.some.injEq, exists_eq_left', exists_eq_left, L2.start, cxOf, List.cons.injEq, and_true, exists_and_left, exists_and_right, exists_eq', V.int.injEq, V.bl.injEq, V.str.injEq, V.ref.injEq, List.length_cons, List.length_nil, List.cons_append, List.nil_append, true_and, List.map, List.replicate, tAndV, tOrV, tNotV, tTest, tB, tNot, tAnd, tOr, Nat.zero_add, Nat.reduceAdd, Nat.reduceSub, Nat.sub_self, sFld, tFld, tPar, tMake, tCall, tMeth, tTup, tLst, HO.ins.injEq, and_assoc, reduceCtorEq, false_and, exists_false, false_or, or_false, tFmt, tJs, tBreak, tCont, tMakeS, tCallS, Int.zero_add, if_true, if_false, Bool.false_eq_true, Bool.not_true, Bool.not_false, tUn, rU, tNotN, tIsN, decide_true, decide_false, tBM, rAppend, HO.lst.injEq, HO.tup.injEq, wipe, tLstRg, tRg1, lv]
          refine ixT_at (v := .int i) 1 (s _ _ hv) (by rw [hl'] <;> rfl) ⟨_, hD, (show (0 : Nat) < sizeLine by decide), fun b o e => by rw [upd_ne (ne_of_none e nD)]; exact s _ _ e, by rw [upd_same]; rfl⟩
      | 1, hi =>
        cases hi
        simp only [tSeq, tIfS, tTest, tOp, tVar, tC, tCB, tCons, tNil, tRet, tAsg, gName, tNext, tDrop, rI, rI0, rEq, rNe, sc_ii, sc_ss, sc_bb, sc_in, sc_ni, sc_nn, sc_si, sc_is, List.getElem?_cons_zero, List.getElem?_cons_succ, List.set_cons_zero, List.set_cons_succ, Option.some.injEq, exists_eq_left', exists_eq_left, L2.start, cxOf, List.cons.injEq, and_true, exists_and_left, exists_and_right, exists_eq', V.int.injEq, V.bl.injEq, V.str.injEq, V.ref.injEq, List.length_cons, List.length_nil, List.cons_append, List.nil_append, true_and, List.map, List.replicate, tAndV, tOrV, tNotV, tTest, tB, tNot, tAnd, tOr, Nat.zero_add, Nat.reduceAdd, Nat.reduceSub, Nat.sub_self, sFld, tFld, tPar, tMake, tCall, tMeth, tTup, tLst, HO.ins.injEq, and_assoc, reduceCtorEq, false_and, exists_false, false_or, or_false, tFmt, tJs, tBreak, tCont, tMakeS, tCallS, Int.zero_add, if_true, if_false, Bool.false_eq_true, Bool.not_true, Bool.not_false, tUn, rU, tNotN, tIsN, decide_true, decide_false, tBM, rAppend, HO.lst.injEq, HO.tup.injEq, wipe, tLstRg, tRg1]
        refine ixT_at 1 (s _ _ hu) rfl ?_
        cases hl' : y.l with
        | none =>
          rw [hl'] at hD
          simp only [tSeq, tIfS, tTest, tOp, tVar, tC, tCB, tCons, tNil, tRet, tAsg, gName, tNext, tDrop, rI, rI0, rEq, rNe, sc_ii, sc_ss, sc_bb, sc_in, sc_ni, sc_nn, sc_si, sc_is, List.getElem?_cons_zero, List.getElem?_cons_succ, List.set_cons_zero, List.set_cons_succ, Option.some.injEq, exists_eq_left', exists_eq_left, L2.start, cxOf, List.cons.injEq, and_true, exists_and_left, exists_and_right, exists_eq', V.int.injEq, V.bl.injEq, V.str.injEq, V.ref.injEq, List.length_cons, List.length_nil, List.cons_append, List.nil_append, true_and, List.map, List.replicate, tAndV, tOrV, tNotV, tTest, tB, tNot, tAnd, tOr, Nat.zero_add, Nat.reduceAdd, Nat.reduceSub, Nat.sub_self, sFld, tFld, tPar, tMake, tCall, tMeth, tTup, tLst, HO.ins.injEq, and_assoc, reduceCtorEq, false_and, exists_false, false_or, or_false, tFmt, tJs, tBreak, tCont, tMakeS, tCallS, Int.zero_add, if_true, if_false, Bool.false_eq_true, Bool.not_true, Bool.not_false, tUn, rU, tNotN, tIsN, decide_true, decide_false, tBM, rAppend, HO.lst.injEq, HO.tup.injEq, wipe, tLstRg, tRg1, lv]
          exact ⟨s, hD⟩
        | some i =>
          rw [hl'] at hD
          simp only [tSeq, tIfS, tTest, tOp, tVar, tC, tCB, tCons, tNil, tRet, tAsg, gName, tNext, tDrop, rI, rI0, rEq, rNe, sc_ii, sc_ss, sc_bb, sc_in, sc_ni, sc_nn, sc_si, sc_is, List.getElem?_cons_zero, List.getElem?_cons_succ, List.set_cons_zero, List.set_cons_succ, Option.some.injEq, exists_eq_left', exists_eq_left, L2.start, cxOf, List.cons.injEq, and_true, exists_and_left, exists_and_right, exists_eq', V.int.injEq, V.bl.injEq, V.str.injEq, V.ref.injEq, List.length_cons, List.length_nil, List.cons_append, List.nil_append, true_and, List.map, List.replicate, tAndV, tOrV, tNotV, tTest, tB, tNot, tAnd, tOr, Nat.zero_add, Nat.reduceAdd, Nat.reduceSub, Nat.sub_self, sFld, tFld, tPar, tMake, tCall, tMeth, tTup, tLst, HO.ins.injEq, and_assoc, reduceCtorEq, false_and, exists_false, false_or, or_false, tFmt, tJs, tBreak, tCont, tMakeS, tCallS, Int.zero_add, if_true, if_false, Bool.false_eq_true, Bool.not_true, Bool.not_false, tUn, rU, tNotN, tIsN, decide_true, decide_false, tBM, rAppend, HO.lst.injEq, HO.tup.injEq, wipe, tLstRg, tRg1, lv]
          refine ixT_at (v := .int i) 1 (s _ _ hu) (by rw [hl'] <;> rfl) ⟨_, hD, ?_, fun b o e => by rw [upd_ne (ne_of_none e nD)]; exact s _ _ e, ?_⟩
          · cases x.l
            · exact (show (0 : Nat) < sizeLine by decide)
            · exact (show (1 : Nat) < sizeLine by decide)
          · rw [upd_same]
            cases x.l <;> rfl
      | i + 2, hi => simp at hi
    · rintro H' ⟨s, hD⟩
      exact ⟨D, rfl, sp.trans s, hD⟩
  rintro σ' H1 ⟨D, rfl, s1, hD⟩
  simp only [tSeq]
  simp only [tIfS, tTest, tOp, tVar, tC, tCB, tCons, tNil, tRet, tAsg, gName, tNext, tDrop, rI, rI0, rEq, rNe, sc_ii, sc_ss, sc_bb, sc_in, sc_ni, sc_nn, sc_si, sc_is, List.getElem?_cons_zero, List.getElem?_cons_succ, List.set_cons_zero, List.set_cons_succ, Option.some.injEq, exists_eq_left', exists_eq_left, L2.start, cxOf, List.cons.injEq, and_true, exists_and_left, exists_and_right, exists_eq', V.int.injEq, V.bl.injEq, V.str.injEq, V.ref.injEq, List.length_cons, List.length_nil, List.cons_append, List.nil_append, true_and, List.map, List.replicate, tAndV, tOrV, tNotV, tTest, tB, tNot, tAnd, tOr, Nat.zero_add, Nat.reduceAdd, Nat.reduceSub, Nat.sub_self, sFld, tFld, tPar, tMake, tCall, tMeth, tTup, tLst, HO.ins.injEq, and_assoc, reduceCtorEq, false_and, exists_false, false_or, or_false, tFmt, tJs, tBreak, tCont, tMakeS, tCallS, Int.zero_add, if_true, if_false, Bool.false_eq_true, Bool.not_true, Bool.not_false, tUn, rU, tNotN, tIsN, decide_true, decide_false, tBM, rAppend, HO.lst.injEq, HO.tup.injEq, wipe, tLstRg, tRg1]
  refine ⟨fun σ' H' => H' = H1 ∧ σ' = [some (.ref v), some (.ref u), some (.ref D), none, some (lv (minL x.l y.l)), none], ?_, ?_⟩
  · simp only [tSeq, tIfS, tTest, tOp, tVar, tC, tCB, tCons, tNil, tRet, tAsg, gName, tNext, tDrop, rI, rI0, rEq, rNe, sc_ii, sc_ss, sc_bb, sc_in, sc_ni, sc_nn, sc_si, sc_is, List.getElem?_cons_zero, List.getElem?_cons_succ, List.set_cons_zero, List.set_cons_succ, Option.some.injEq, exists_eq_left', exists_eq_left, L2.start, cxOf, List.cons.injEq, and_true, exists_and_left, exists_and_right, exists_eq', V.int.injEq, V.bl.injEq, V.str.injEq, V.ref.injEq, List.length_cons, List.length_nil, List.cons_append, List.nil_append, true_and, List.map, List.replicate, tAndV, tOrV, tNotV, tTest, tB, tNot, tAnd, tOr, Nat.zero_add, Nat.reduceAdd, Nat.reduceSub, Nat.sub_self, sFld, tFld, tPar, tMake, tCall, tMeth, tTup, tLst, HO.ins.injEq, and_assoc, reduceCtorEq, false_and, exists_false, false_or, or_false, tFmt, tJs, tBreak, tCont, tMakeS, tCallS, Int.zero_add, if_true, if_false, Bool.false_eq_true, Bool.not_true, Bool.not_false, tUn, rU, tNotN, tIsN, decide_true, decide_false, tBM, rAppend, HO.lst.injEq, HO.tup.injEq, wipe, tLstRg, tRg1]
    refine ⟨_, .inl (SqL.of hD), ?_⟩
    cases hx : x.l with
    | none =>
      cases hy : y.l with
      | none => exact iteF rfl
      | some j =>
        rw [hx, hy] at hD
        refine iteT ⟨D, [j], rfl, SqL.of hD, Nat.succ_pos _, fun m hm _ => ?_⟩
        rw [List.mem_singleton.mp hm]
        exact ⟨rfl, rfl⟩
    | some i =>
      cases hy : y.l with
      | none =>
        rw [hx, hy] at hD
        refine iteT ⟨D, [i], rfl, SqL.of hD, Nat.succ_pos _, fun m hm _ => ?_⟩
        rw [List.mem_singleton.mp hm]
        exact ⟨rfl, rfl⟩
      | some j =>
        rw [hx, hy] at hD
        refine iteT ⟨D, [i, j], rfl, SqL.of hD, Nat.succ_pos _, fun m hm le => ?_⟩
        have h1 := le i (by simp)
        have h2 := le j (by simp)
        have : m = i ∨ m = j := by simpa using hm
        refine ⟨rfl, ?_⟩
        show V.int m = lv (if j < i then some j else some i)
        split
        · have : m = j := by omega
          rw [this]; rfl
        · have : m = i := by omega
          rw [this]; rfl
  rintro σ' H' ⟨rfl, rfl⟩
  simp only [tSeq, tIfS, tTest, tOp, tVar, tC, tCB, tCons, tNil, tRet, tAsg, gName, tNext, tDrop, rI, rI0, rEq, rNe, sc_ii, sc_ss, sc_bb, sc_in, sc_ni, sc_nn, sc_si, sc_is, List.getElem?_cons_zero, List.getElem?_cons_succ, List.set_cons_zero, List.set_cons_succ, Option.some.injEq, exists_eq_left', exists_eq_left, L2.start, cxOf, List.cons.injEq, and_true, exists_and_left, exists_and_right, exists_eq', V.int.injEq, V.bl.injEq, V.str.injEq, V.ref.injEq, List.length_cons, List.length_nil, List.cons_append, List.nil_append, true_and, List.map, List.replicate, tAndV, tOrV, tNotV, tTest, tB, tNot, tAnd, tOr, Nat.zero_add, Nat.reduceAdd, Nat.reduceSub, Nat.sub_self, sFld, tFld, tPar, tMake, tCall, tMeth, tTup, tLst, HO.ins.injEq, and_assoc, reduceCtorEq, false_and, exists_false, false_or, or_false, tFmt, tJs, tBreak, tCont, tMakeS, tCallS, Int.zero_add, if_true, if_false, Bool.false_eq_true, Bool.not_true, Bool.not_false, tUn, rU, tNotN, tIsN, decide_true, decide_false, tBM, rAppend, HO.lst.injEq, HO.tup.injEq, wipe, tLstRg, tRg1]
  have px : ∀ i, Sz (pick x i) 70 64 := fun i => by
    match i with
    | 0 => exact Zx.a.mono (by decide) (by decide)
    | 1 => exact Zx.b.mono (by decide) (by decide)
    | i + 2 => exact Zx.c.mono (by decide) (by decide)
  have py : ∀ i, Sz (pick y i) 70 64 := fun i => by
    match i with
    | 0 => exact Zy.a.mono (by decide) (by decide)
    | 1 => exact Zy.b.mono (by decide) (by decide)
    | i + 2 => exact Zy.c.mono (by decide) (by decide)
  refine lc_r 3 (by decide) (fun R hR => by simp only [tSeq, tIfS, tTest, tOp, tVar, tC, tCB, tCons, tNil, tRet, tAsg, gName, tNext, tDrop, rI, rI0, rEq, rNe, sc_ii, sc_ss, sc_bb, sc_in, sc_ni, sc_nn, sc_si, sc_is, List.getElem?_cons_zero, List.getElem?_cons_succ, List.set_cons_zero, List.set_cons_succ, Option.some.injEq, exists_eq_left', exists_eq_left, L2.start, cxOf, List.cons.injEq, and_true, exists_and_left, exists_and_right, exists_eq', V.int.injEq, V.bl.injEq, V.str.injEq, V.ref.injEq, List.length_cons, List.length_nil, List.cons_append, List.nil_append, true_and, List.map, List.replicate, tAndV, tOrV, tNotV, tTest, tB, tNot, tAnd, tOr, Nat.zero_add, Nat.reduceAdd, Nat.reduceSub, Nat.sub_self, sFld, tFld, tPar, tMake, tCall, tMeth, tTup, tLst, HO.ins.injEq, and_assoc, reduceCtorEq, false_and, exists_false, false_or, or_false, tFmt, tJs, tBreak, tCont, tMakeS, tCallS, Int.zero_add, if_true, if_false, Bool.false_eq_true, Bool.not_true, Bool.not_false, tUn, rU, tNotN, tIsN, decide_true, decide_false, tBM, rAppend, HO.lst.injEq, HO.tup.injEq, wipe, tLstRg, tRg1]; exact hR) (fun i y' H => ∃ t, y' = .ref t ∧ H t = some (.tup [.int (rad (pick x i) (pick y i)).1, .int (rad (pick x i) (pick y i)).2])) (fun _ => lm_tup) (fun i D' H2 F hi s2 nD hF => ?_) (fun D' H2 ys nD s2 hD' hy hr => ?_)
  · have s12 := s1.trans s2
    obtain ⟨u0, u1, k0, k1, k2, k3⟩ : ∃ u0 u1, [V.ref t0, V.ref t1, V.ref t2][i]? = some (.ref u0) ∧ [V.ref t0', V.ref t1', V.ref t2'][i]? = some (.ref u1) ∧ TupAt H2 u0 (pick x i) ∧ TupAt H2 u1 (pick y i) := by
      match i, hi with
      | 0, _ => exact ⟨_, _, rfl, rfl, s12 _ _ h0, s12 _ _ h0'⟩
      | 1, _ => exact ⟨_, _, rfl, rfl, s12 _ _ h1, s12 _ _ h1'⟩
      | 2, _ => exact ⟨_, _, rfl, rfl, s12 _ _ h2, s12 _ _ h2'⟩
    simp only [tSeq, tIfS, tTest, tOp, tVar, tC, tCB, tCons, tNil, tRet, tAsg, gName, tNext, tDrop, rI, rI0, rEq, rNe, sc_ii, sc_ss, sc_bb, sc_in, sc_ni, sc_nn, sc_si, sc_is, List.getElem?_cons_zero, List.getElem?_cons_succ, List.set_cons_zero, List.set_cons_succ, Option.some.injEq, exists_eq_left', exists_eq_left, L2.start, cxOf, List.cons.injEq, and_true, exists_and_left, exists_and_right, exists_eq', V.int.injEq, V.bl.injEq, V.str.injEq, V.ref.injEq, List.length_cons, List.length_nil, List.cons_append, List.nil_append, true_and, List.map, List.replicate, tAndV, tOrV, tNotV, tTest, tB, tNot, tAnd, tOr, Nat.zero_add, Nat.reduceAdd, Nat.reduceSub, Nat.sub_self, sFld, tFld, tPar, tMake, tCall, tMeth, tTup, tLst, HO.ins.injEq, and_assoc, reduceCtorEq, false_and, exists_false, false_or, or_false, tFmt, tJs, tBreak, tCont, tMakeS, tCallS, Int.zero_add, if_true, if_false, Bool.false_eq_true, Bool.not_true, Bool.not_false, tUn, rU, tNotN, tIsN, decide_true, decide_false, tBM, rAppend, HO.lst.injEq, HO.tup.injEq, wipe, tLstRg, tRg1]
    refine ixT_at 0 (s12 _ _ hv) rfl (ixL_at i (s12 _ _ hl) k0 (ixT_at 0 (s12 _ _ hu) rfl (ixL_at i (s12 _ _ hl') k1 ?_)))
    exact ⟨u0, u1, _, _, rfl, k2, k3, (px i).mono (by decide) (by decide), (py i).mono (by decide) (by decide), fun c H3 s3 _ r => hF _ _ s3 ⟨c, rfl, r⟩⟩
  · match ys, hy with
    | [y0, y1, y2], _ =>
      obtain ⟨o0, rfl, r0⟩ := hr 0 y0 rfl
      obtain ⟨o1, rfl, r1⟩ := hr 1 y1 rfl
      obtain ⟨o2, rfl, r2⟩ := hr 2 y2 rfl
      refine ⟨l2, fun p np => ?_⟩
      have sp := same_upd (o := HO.tup [V.ref D', lv (minL x.l y.l)]) np
      exact hQ p _ ((s1.trans s2).trans sp) ⟨D', o0, o1, o2, upd_same, sp _ _ hD', sp _ _ r0, sp _ _ r1, sp _ _ r2⟩
def withinL (x : B4) (k : Int) : B4 := if k = 0 then zeroB else ⟨x.a, rad (rmu x.b (k, 1)) (rmu x.c (k * (k - 1) / 2, 1)), rmu x.c (k * k, 1), divL k x.l⟩
def spLWithin : Sp := fun vs H Q _ => ∃ (v : Addr) (x : B4) (k : Int), vs = [.ref v, .int k] ∧ Drawn H v x ∧ SzB x ∧ 0 ≤ k ∧ Lt2 k 10 ∧ ∀ c H', Same H H' → Drawn H' c (withinB x k) → Q (.ref c) H'
theorem ok_l_within (T : Tk K mg) : Okd P w K mg base (L2.CX P w) 5 "_law_within" ["_law_drawn_here", "_law_asks"] spLWithin := by
  refine Okd.of s_l_within (T.df 24) (T.glo 38) sc_l_within (fun _ _ _ _ _ _ us hl => match us, hl with | [_, _], _ => rfl) (fun vs H Q E h => ?_) (fun cdv A outer s H vs Q E h hr hpo tk px pxe => ?_)
  · obtain ⟨v, x, k, rfl, _⟩ := h; rfl
  obtain ⟨v, x, k, rfl, ⟨l, t0, t1, t2, hv, hl, h0, h1, h2⟩, Z, k0, k10, hQ⟩ := h
  refine ⟨_, (pss_cons (ps_if (pt_cmpR op_eq (pv 1) pe_int (nomark _)) (pss_one (ps_ret (pe_tup (pa_cons (pe_lst (pa_cons (pe_tup (pa_cons pe_int (pa_cons pe_int pa_nil))) (pa_cons (pe_tup (pa_cons pe_int (pa_cons pe_int pa_nil))) (pa_cons (pe_tup (pa_cons pe_int (pa_cons pe_int pa_nil))) pa_nil)))) (pa_cons pe_non pa_nil))))) pss_nil)
  (pss_cons (ps_set (i := 2) sc_l_within.nd rfl (Or.inl rfl) (pe_ix ix_tup (pv 0) pe_int (fun _ _ => rfl)))
  (C8.pss_cut (ps_if (pt_cmp (pc_notN (pv 2))) (pss_one (ps_set (i := 2) sc_l_within.nd rfl (Or.inl rfl) (pe_op op_fdiv (pv 2) (pv 1)))) pss_nil)
  (pss_cons (ps_set (i := 3) sc_l_within.nd rfl (Or.inl rfl) (pe_ix ix_tup (pv 0) pe_int (fun _ _ => rfl)))
  (pss_cons (ps_set (i := 4) sc_l_within.nd rfl (Or.inl rfl) (pf (ok_l_plus T) (hr.mono (by decide)) (by rfl) px (pa_cons (pf (ok_l_times T) (hr.mono (by decide)) (by rfl) px (pa_cons (pe_ix ix_list (pv 3) pe_int (fun _ _ => rfl)) (pa_cons (pe_tup (pa_cons (pv 1) (pa_cons pe_int pa_nil))) pa_nil))) (pa_cons (pf (ok_l_times T) (hr.mono (by decide)) (by rfl) px (pa_cons (pe_ix ix_list (pv 3) pe_int (fun _ _ => rfl)) (pa_cons (pe_tup (pa_cons (pe_op op_fdiv (pe_op op_mulW (pv 1) (pe_op op_sub (pv 1) pe_int)) pe_int) (pa_cons pe_int pa_nil))) pa_nil))) pa_nil))))
  (pss_one (ps_ret (pe_tup (pa_cons (pe_lst (pa_cons (pe_ix ix_list (pv 3) pe_int (fun _ _ => rfl)) (pa_cons (pv 4) (pa_cons (pf (ok_l_times T) (hr.mono (by decide)) (by rfl) px (pa_cons (pe_ix ix_list (pv 3) pe_int (fun _ _ => rfl)) (pa_cons (pe_tup (pa_cons (pe_op op_mulW (pv 1) (pv 1)) (pa_cons pe_int pa_nil))) pa_nil))) pa_nil)))) (pa_cons (pv 2) pa_nil)))))))))), ?_⟩
  clear hr hpo tk px pxe
  have l2 : 2 ≤ sizeLine := by decide
  have l3 : 3 ≤ sizeLine := by decide
  simp only [tSeq]
  simp only [tIfS, tTest, tOp, tVar, tC, tCB, tCons, tNil, tRet, tAsg, gName, tNext, tDrop, rI, rI0, rEq, rNe, sc_ii, sc_ss, sc_bb, sc_in, sc_ni, sc_nn, sc_si, sc_is, List.getElem?_cons_zero, List.getElem?_cons_succ, List.set_cons_zero, List.set_cons_succ, Option.some.injEq, exists_eq_left', exists_eq_left, L2.start, cxOf, List.cons.injEq, and_true, exists_and_left, exists_and_right, exists_eq', V.int.injEq, V.bl.injEq, V.str.injEq, V.ref.injEq, List.length_cons, List.length_nil, List.cons_append, List.nil_append, true_and, List.map, List.replicate, tAndV, tOrV, tNotV, tTest, tB, tNot, tAnd, tOr, Nat.zero_add, Nat.reduceAdd, Nat.reduceSub, Nat.sub_self, sFld, tFld, tPar, tMake, tCall, tMeth, tTup, tLst, HO.ins.injEq, and_assoc, reduceCtorEq, false_and, exists_false, false_or, or_false, tFmt, tJs, tBreak, tCont, tMakeS, tCallS, Int.zero_add, if_true, if_false, Bool.false_eq_true, Bool.not_true, Bool.not_false, tUn, rU, tNotN, tIsN, decide_true, decide_false, tBM, rAppend, HO.lst.injEq, HO.tup.injEq, wipe, tLstRg, tRg1, l2, l3]
  refine ite2 (fun z => ?_) (fun z => ?_)
  · have e : k = 0 := of_decide_eq_true z
    intro p0 n0 p1 n1 p2 n2 p3 n3 p4 n4
    rw [withinB, if_pos e] at hQ
    have s0 := same_upd (o := HO.tup [V.int 0, V.int 1]) n0
    have s1 := same_upd (o := HO.tup [V.int 0, V.int 1]) n1
    have s2 := same_upd (o := HO.tup [V.int 0, V.int 1]) n2
    have s3 := same_upd (o := HO.lst [V.ref p0, V.ref p1, V.ref p2]) n3
    have s4 := same_upd (o := HO.tup [V.ref p3, V.non]) n4
    exact hQ p4 _ ((((s0.trans s1).trans s2).trans s3).trans s4) ⟨p3, p0, p1, p2, upd_same, s4 _ _ upd_same, s4 _ _ (s3 _ _ (s2 _ _ (s1 _ _ upd_same))), s4 _ _ (s3 _ _ (s2 _ _ upd_same)), s4 _ _ (s3 _ _ upd_same)⟩
  have kn : k ≠ 0 := fun y => z (decide_eq_true y)
  rw [withinB, if_neg kn] at hQ
  simp only [tSeq]
  simp only [tIfS, tTest, tOp, tVar, tC, tCB, tCons, tNil, tRet, tAsg, gName, tNext, tDrop, rI, rI0, rEq, rNe, sc_ii, sc_ss, sc_bb, sc_in, sc_ni, sc_nn, sc_si, sc_is, List.getElem?_cons_zero, List.getElem?_cons_succ, List.set_cons_zero, List.set_cons_succ, Option.some.injEq, exists_eq_left', exists_eq_left, L2.start, cxOf, List.cons.injEq, and_true, exists_and_left, exists_and_right, exists_eq', V.int.injEq, V.bl.injEq, V.str.injEq, V.ref.injEq, List.length_cons, List.length_nil, List.cons_append, List.nil_append, true_and, List.map, List.replicate, tAndV, tOrV, tNotV, tTest, tB, tNot, tAnd, tOr, Nat.zero_add, Nat.reduceAdd, Nat.reduceSub, Nat.sub_self, sFld, tFld, tPar, tMake, tCall, tMeth, tTup, tLst, HO.ins.injEq, and_assoc, reduceCtorEq, false_and, exists_false, false_or, or_false, tFmt, tJs, tBreak, tCont, tMakeS, tCallS, Int.zero_add, if_true, if_false, Bool.false_eq_true, Bool.not_true, Bool.not_false, tUn, rU, tNotN, tIsN, decide_true, decide_false, tBM, rAppend, HO.lst.injEq, HO.tup.injEq, wipe, tLstRg, tRg1]
  refine ixT_at 1 hv rfl ?_
  refine ⟨fun σ' H' => σ' = [some (.ref v), some (.int k), some (lv (divL k x.l)), none, none] ∧ H' = H, ?_, ?_⟩
  · simp only [tSeq, tIfS, tTest, tOp, tVar, tC, tCB, tCons, tNil, tRet, tAsg, gName, tNext, tDrop, rI, rI0, rEq, rNe, sc_ii, sc_ss, sc_bb, sc_in, sc_ni, sc_nn, sc_si, sc_is, List.getElem?_cons_zero, List.getElem?_cons_succ, List.set_cons_zero, List.set_cons_succ, Option.some.injEq, exists_eq_left', exists_eq_left, L2.start, cxOf, List.cons.injEq, and_true, exists_and_left, exists_and_right, exists_eq', V.int.injEq, V.bl.injEq, V.str.injEq, V.ref.injEq, List.length_cons, List.length_nil, List.cons_append, List.nil_append, true_and, List.map, List.replicate, tAndV, tOrV, tNotV, tTest, tB, tNot, tAnd, tOr, Nat.zero_add, Nat.reduceAdd, Nat.reduceSub, Nat.sub_self, sFld, tFld, tPar, tMake, tCall, tMeth, tTup, tLst, HO.ins.injEq, and_assoc, reduceCtorEq, false_and, exists_false, false_or, or_false, tFmt, tJs, tBreak, tCont, tMakeS, tCallS, Int.zero_add, if_true, if_false, Bool.false_eq_true, Bool.not_true, Bool.not_false, tUn, rU, tNotN, tIsN, decide_true, decide_false, tBM, rAppend, HO.lst.injEq, HO.tup.injEq, wipe, tLstRg, tRg1]
    have hc : ∀ z, CDiv z k := fun z => ⟨by omega, by
      have : k.natAbs < 2 ^ 10 := k10
      omega⟩
    cases x.l with
    | none => simp [lv, divL]
    | some l => simp [lv, divL, hc]
  rintro σ' H' ⟨rfl, rfl⟩
  have hk1 : Lt2 (k - 1) 11 := k10.sub (show (1 : Int).natAbs < 2 ^ 10 by decide)
  have hq2 : Lt2 (k * (k - 1)) 21 := k10.mul hk1
  have hq3 : Lt2 (k * (k - 1) / 2) 21 := .of_le (y := k * (k - 1)) (by
    have : 0 ≤ k * (k - 1) := Int.mul_nonneg k0 (by omega)
    omega) hq2
  have m1 : CMulW k (k - 1) := k10.cmul hk1 (by decide)
  have m2 : CMulW k k := k10.cmul k10 (by decide)
  have d2 : ∀ z, CDiv z 2 := fun z => ⟨by decide, by decide⟩
  have zq : Sz (k, 1) 10 1 := .int k10
  have zt : Sz (k * (k - 1) / 2, 1) 21 1 := .int hq3
  have zk : Sz (k * k, 1) 20 1 := .int (k10.mul k10)
  simp only [tSeq]
  simp only [tIfS, tTest, tOp, tVar, tC, tCB, tCons, tNil, tRet, tAsg, gName, tNext, tDrop, rI, rI0, rEq, rNe, sc_ii, sc_ss, sc_bb, sc_in, sc_ni, sc_nn, sc_si, sc_is, List.getElem?_cons_zero, List.getElem?_cons_succ, List.set_cons_zero, List.set_cons_succ, Option.some.injEq, exists_eq_left', exists_eq_left, L2.start, cxOf, List.cons.injEq, and_true, exists_and_left, exists_and_right, exists_eq', V.int.injEq, V.bl.injEq, V.str.injEq, V.ref.injEq, List.length_cons, List.length_nil, List.cons_append, List.nil_append, true_and, List.map, List.replicate, tAndV, tOrV, tNotV, tTest, tB, tNot, tAnd, tOr, Nat.zero_add, Nat.reduceAdd, Nat.reduceSub, Nat.sub_self, sFld, tFld, tPar, tMake, tCall, tMeth, tTup, tLst, HO.ins.injEq, and_assoc, reduceCtorEq, false_and, exists_false, false_or, or_false, tFmt, tJs, tBreak, tCont, tMakeS, tCallS, Int.zero_add, if_true, if_false, Bool.false_eq_true, Bool.not_true, Bool.not_false, tUn, rU, tNotN, tIsN, decide_true, decide_false, tBM, rAppend, HO.lst.injEq, HO.tup.injEq, wipe, tLstRg, tRg1]
  refine ixT_at 0 hv rfl ?_
  simp only [tSeq]
  simp only [tIfS, tTest, tOp, tVar, tC, tCB, tCons, tNil, tRet, tAsg, gName, tNext, tDrop, rI, rI0, rEq, rNe, sc_ii, sc_ss, sc_bb, sc_in, sc_ni, sc_nn, sc_si, sc_is, List.getElem?_cons_zero, List.getElem?_cons_succ, List.set_cons_zero, List.set_cons_succ, Option.some.injEq, exists_eq_left', exists_eq_left, L2.start, cxOf, List.cons.injEq, and_true, exists_and_left, exists_and_right, exists_eq', V.int.injEq, V.bl.injEq, V.str.injEq, V.ref.injEq, List.length_cons, List.length_nil, List.cons_append, List.nil_append, true_and, List.map, List.replicate, tAndV, tOrV, tNotV, tTest, tB, tNot, tAnd, tOr, Nat.zero_add, Nat.reduceAdd, Nat.reduceSub, Nat.sub_self, sFld, tFld, tPar, tMake, tCall, tMeth, tTup, tLst, HO.ins.injEq, and_assoc, reduceCtorEq, false_and, exists_false, false_or, or_false, tFmt, tJs, tBreak, tCont, tMakeS, tCallS, Int.zero_add, if_true, if_false, Bool.false_eq_true, Bool.not_true, Bool.not_false, tUn, rU, tNotN, tIsN, decide_true, decide_false, tBM, rAppend, HO.lst.injEq, HO.tup.injEq, wipe, tLstRg, tRg1, l2, m1, d2]
  refine ixL_at 1 hl rfl (fun p np => ?_)
  have sp := same_upd (o := HO.tup [V.int k, V.int 1]) np
  refine ⟨t1, p, x.b, (k, 1), rfl, sp _ _ h1, upd_same, Z.b.mono (by decide) (by decide), zq.mono (by decide) (by decide), fun c1 H1 s1 n1 r1 => ?_⟩
  have z1 := Z.b.rmu zq
  have s01 := sp.trans s1
  refine ixL_at 2 (s01 _ _ hl) rfl (fun p' np' => ?_)
  have sp' := same_upd (o := HO.tup [V.int (k * (k - 1) / 2), V.int 1]) np'
  refine ⟨t2, p', x.c, (k * (k - 1) / 2, 1), rfl, sp' _ _ (s01 _ _ h2), upd_same, Z.c.mono (by decide) (by decide), zt.mono (by decide) (by decide), fun c2 H2 s2 n2 r2 => ?_⟩
  have z2 := Z.c.rmu zt
  refine ⟨c1, c2, _, _, rfl, s2 _ _ (sp' _ _ r1), r2, z1.mono (by decide) (by decide), z2.mono (by decide) (by decide), fun c3 H3 s3 n3 r3 => ?_⟩
  have s03 := ((s01.trans sp').trans s2).trans s3
  simp only [tIfS, tTest, tOp, tVar, tC, tCB, tCons, tNil, tRet, tAsg, gName, tNext, tDrop, rI, rI0, rEq, rNe, sc_ii, sc_ss, sc_bb, sc_in, sc_ni, sc_nn, sc_si, sc_is, List.getElem?_cons_zero, List.getElem?_cons_succ, List.set_cons_zero, List.set_cons_succ, Option.some.injEq, exists_eq_left', exists_eq_left, L2.start, cxOf, List.cons.injEq, and_true, exists_and_left, exists_and_right, exists_eq', V.int.injEq, V.bl.injEq, V.str.injEq, V.ref.injEq, List.length_cons, List.length_nil, List.cons_append, List.nil_append, true_and, List.map, List.replicate, tAndV, tOrV, tNotV, tTest, tB, tNot, tAnd, tOr, Nat.zero_add, Nat.reduceAdd, Nat.reduceSub, Nat.sub_self, sFld, tFld, tPar, tMake, tCall, tMeth, tTup, tLst, HO.ins.injEq, and_assoc, reduceCtorEq, false_and, exists_false, false_or, or_false, tFmt, tJs, tBreak, tCont, tMakeS, tCallS, Int.zero_add, if_true, if_false, Bool.false_eq_true, Bool.not_true, Bool.not_false, tUn, rU, tNotN, tIsN, decide_true, decide_false, tBM, rAppend, HO.lst.injEq, HO.tup.injEq, wipe, tLstRg, tRg1, l2, l3, m2]
  refine ixL_at 0 (s03 _ _ hl) rfl (ixL_at 2 (s03 _ _ hl) rfl (fun q nq => ?_))
  have sq := same_upd (o := HO.tup [V.int (k * k), V.int 1]) nq
  refine ⟨t2, q, x.c, (k * k, 1), rfl, sq _ _ (s03 _ _ h2), upd_same, Z.c.mono (by decide) (by decide), zk.mono (by decide) (by decide), fun c4 H4 s4 n4 r4 => ?_⟩
  have s04 := (s03.trans sq).trans s4
  intro w nw u nu
  have sw := same_upd (o := HO.lst [V.ref t0, V.ref c3, V.ref c4]) nw
  have su := same_upd (o := HO.tup [V.ref w, lv (divL k x.l)]) nu
  exact hQ u _ ((s04.trans sw).trans su) ⟨w, t0, c3, c4, upd_same, su _ _ upd_same, su _ _ (sw _ _ (s04 _ _ h0)), su _ _ (sw _ _ (s4 _ _ (sq _ _ r3))), su _ _ (sw _ _ r4)⟩
/-- told: the parts in lowest terms -/
def spLTold : Sp := fun vs H Q _ => ∃ (v : Addr) (x : B4), vs = [.ref v] ∧ Drawn H v x ∧ SzB x ∧ ∀ c H', Same H H' → Drawn H' c (rdB x) → Q (.ref c) H'
theorem ok_l_told (T : Tk K mg) : Okd P w K mg base (L2.CX P w) 3 "_law_told" ["_law_drawn_here"] spLTold := by
  refine Okd.of s_l_told (T.df 27) (T.glo 45) sc_l_told (fun _ _ _ _ _ _ us hl => match us, hl with | [_], _ => rfl) (fun vs H Q E h => ?_) (fun cdv A outer s H vs Q E h hr hpo tk px pxe => ?_)
  · obtain ⟨v, x, rfl, _⟩ := h; rfl
  obtain ⟨v, x, rfl, ⟨l, t0, t1, t2, hv, hl, h0, h1, h2⟩, Z, hQ⟩ := h
  refine ⟨_, (pss_one (ps_ret (pe_tup (pa_cons (pe_lc (own := [("_law_pair", 1)]) (g := gName 1) (tt := tYes) (te := (tCall (spLess) [] E0 (tCons (tOp (rIxT K) (tVar 1) (tC (.int 0))) (tCons (tOp (rIxT K) (tVar 1) (tC (.int 1))) tNil)))) (by rfl) sc_l_told.nd (pi_list (pe_ix ix_tup (pv 0) pe_int (fun _ _ => rfl))) (blkOk_by (own := [("_law_pair", 1)]) (N := N_l_told) (sc := defScope s_l_told) (by decide +kernel)) (fun _ _ _ _ _ => pg_name (i := 1) sc_l_told.nd rfl (Or.inl rfl)) (fun _ _ _ _ _ => pts_nil) (fun _ _ _ _ _ => (pf (ok_l_less T) (hr.mono (by decide)) (by rfl) passL (pa_cons (pe_ix (r := rIxT K) ix_tup (pv 1) pe_int (fun _ _ => rfl)) (pa_cons (pe_ix (r := rIxT K) ix_tup (pv 1) pe_int (fun _ _ => rfl)) pa_nil))))) (pa_cons (pe_ix ix_tup (pv 0) pe_int (fun _ _ => rfl)) pa_nil))))), ?_⟩
  clear hr hpo tk px pxe
  have l2 : 2 ≤ sizeLine := by decide
  have px : ∀ i, Sz (pick x i) 70 64 := fun i => by
    match i with
    | 0 => exact Z.a.mono (by decide) (by decide)
    | 1 => exact Z.b.mono (by decide) (by decide)
    | i + 2 => exact Z.c.mono (by decide) (by decide)
  simp only [tSeq, tIfS, tTest, tOp, tVar, tC, tCB, tCons, tNil, tRet, tAsg, gName, tNext, tDrop, rI, rI0, rEq, rNe, sc_ii, sc_ss, sc_bb, sc_in, sc_ni, sc_nn, sc_si, sc_is, List.getElem?_cons_zero, List.getElem?_cons_succ, List.set_cons_zero, List.set_cons_succ, Option.some.injEq, exists_eq_left', exists_eq_left, L2.start, cxOf, List.cons.injEq, and_true, exists_and_left, exists_and_right, exists_eq', V.int.injEq, V.bl.injEq, V.str.injEq, V.ref.injEq, List.length_cons, List.length_nil, List.cons_append, List.nil_append, true_and, List.map, List.replicate, tAndV, tOrV, tNotV, tTest, tB, tNot, tAnd, tOr, Nat.zero_add, Nat.reduceAdd, Nat.reduceSub, Nat.sub_self, sFld, tFld, tPar, tMake, tCall, tMeth, tTup, tLst, HO.ins.injEq, and_assoc, reduceCtorEq, false_and, exists_false, false_or, or_false, tFmt, tJs, tBreak, tCont, tMakeS, tCallS, Int.zero_add, if_true, if_false, Bool.false_eq_true, Bool.not_true, Bool.not_false, tUn, rU, tNotN, tIsN, decide_true, decide_false, tBM, rAppend, HO.lst.injEq, HO.tup.injEq, wipe, tLstRg, tRg1, l2]
  refine lc_l (xs := [.ref t0, .ref t1, .ref t2]) (by show 3 ≤ 100000; decide) (fun R hR => ⟨_, rfl, ixT_at 0 hv rfl hR⟩) (SqL.of hl) (fun i y H => ∃ t, y = .ref t ∧ H t = some (.tup [.int (rd (pick x i)).1, .int (rd (pick x i)).2])) (fun _ => lm_tup) (fun i y D H1 F hi s1 nD hF => ?_) (fun D H1 ys nD s1 hD hy hr => ?_)
  · obtain ⟨t, rfl, ht⟩ : ∃ t, y = .ref t ∧ TupAt H t (pick x i) := by
      match i, hi with
      | 0, hi => cases hi; exact ⟨_, rfl, h0⟩
      | 1, hi => cases hi; exact ⟨_, rfl, h1⟩
      | 2, hi => cases hi; exact ⟨_, rfl, h2⟩
      | i + 3, hi => simp at hi
    have ht := s1 _ _ ht
    simp only [tSeq, tIfS, tTest, tOp, tVar, tC, tCB, tCons, tNil, tRet, tAsg, gName, tNext, tDrop, rI, rI0, rEq, rNe, sc_ii, sc_ss, sc_bb, sc_in, sc_ni, sc_nn, sc_si, sc_is, List.getElem?_cons_zero, List.getElem?_cons_succ, List.set_cons_zero, List.set_cons_succ, Option.some.injEq, exists_eq_left', exists_eq_left, L2.start, cxOf, List.cons.injEq, and_true, exists_and_left, exists_and_right, exists_eq', V.int.injEq, V.bl.injEq, V.str.injEq, V.ref.injEq, List.length_cons, List.length_nil, List.cons_append, List.nil_append, true_and, List.map, List.replicate, tAndV, tOrV, tNotV, tTest, tB, tNot, tAnd, tOr, Nat.zero_add, Nat.reduceAdd, Nat.reduceSub, Nat.sub_self, sFld, tFld, tPar, tMake, tCall, tMeth, tTup, tLst, HO.ins.injEq, and_assoc, reduceCtorEq, false_and, exists_false, false_or, or_false, tFmt, tJs, tBreak, tCont, tMakeS, tCallS, Int.zero_add, if_true, if_false, Bool.false_eq_true, Bool.not_true, Bool.not_false, tUn, rU, tNotN, tIsN, decide_true, decide_false, tBM, rAppend, HO.lst.injEq, HO.tup.injEq, wipe, tLstRg, tRg1]
    refine ixT_at 0 ht rfl (ixT_at 1 ht rfl ?_)
    exact ⟨_, _, rfl, (px i).pos, (px i).den.mono (by decide), fun c hc => hF _ _ (same_upd hc) ⟨c, rfl, upd_same⟩⟩
  · match ys, hy with
    | [y0, y1, y2], _ =>
      obtain ⟨o0, rfl, r0⟩ := hr 0 y0 rfl
      obtain ⟨o1, rfl, r1⟩ := hr 1 y1 rfl
      obtain ⟨o2, rfl, r2⟩ := hr 2 y2 rfl
      refine ixT_at 1 (s1 _ _ hv) rfl (fun p np => ?_)
      have sp := same_upd (o := HO.tup [V.ref D, lv x.l]) np
      exact hQ p _ (s1.trans sp) ⟨D, o0, o1, o2, upd_same, sp _ _ hD, sp _ _ r0, sp _ _ r1, sp _ _ r2⟩
end
end K30

namespace K30
open PySem PySem.Spec PyProof.Rows L2 TL PL
section
variable {P : Program} {w : World} {K : PySem.W.Frag} {mg : Str → Option Value} {base : Heap}
/-! ### the law's own checks -/
structure WrL (x : B4) : Prop where
  a1 : Wr x.a.1
  a2 : Wr x.a.2
  b1 : Wr x.b.1
  b2 : Wr x.b.2
  c1 : Wr x.c.1
  c2 : Wr x.c.2
theorem val_rd {x : B4} (h : SzB x) (q : Int) : val (rdB x) q = val x q := by
  have o1 : 0 < ((q, 1) : Int × Int).2 := show (0 : Int) < 1 by decide
  have o2 : 0 < ((q * (q - 1) / 2, 1) : Int × Int).2 := show (0 : Int) < 1 by decide
  show rad (rad (rd x.a) (rmu (rd x.b) (q, 1))) (rmu (rd x.c) (q * (q - 1) / 2, 1)) = _
  rw [rmu_l h.b.pos o1, rmu_l h.c.pos o2, rad_l h.a.pos (rmu_pos h.b.pos o1)]
  rfl
theorem atv_rd {x : B4} (h : SzB x) (q : Int) : atv (rdB x) q = atv x q := by
  unfold atv
  rw [val_rd h]
  rfl
theorem scal_lv (l m : Option Int) : scal (lv l) (lv m) = true := by cases l <;> cases m <;> rfl
theorem wr_rd {p : Int × Int} (h : 0 < p.2) (h1 : Wr p.1) (h2 : Wr p.2) : Wr (rd p).1 ∧ Wr (rd p).2 := ⟨Nat.lt_of_le_of_lt (red_num_le h) h1, Nat.lt_of_le_of_lt (by have := red_den_pos (n := p.1) h; have := red_den_le (n := p.1) h; show (red p.1 p.2).2.natAbs ≤ _; omega) h2⟩
theorem wrB_rd {x : B4} (h : WrL x) (z : SzB x) : WrB (rdB x) :=
  ⟨(wr_rd z.a.pos h.a1 h.a2).1, (wr_rd z.a.pos h.a1 h.a2).2, (wr_rd z.b.pos h.b1 h.b2).1, (wr_rd z.b.pos h.b1 h.b2).2, (wr_rd z.c.pos h.c1 h.c2).1, (wr_rd z.c.pos h.c1 h.c2).2⟩
theorem ifn {c : Bool} {A B : Prop} (h1 : c = false → A) (h2 : c = true → B) : if (!c) = true then A else B := by
  cases e : c with
  | false => exact h1 e
  | true => exact h2 e
/-- a Bound at p against the law's own at v: the same parts in lowest terms -/
def spLIs (K : PySem.W.Frag) : Sp := fun vs H Q _ => ∃ (p v : Addr) (x : B4) (wd : Int), vs = [.ref p, .ref v, .int wd] ∧ BndAt K H p (rdB x) ∧ Drawn H v x ∧ Lb x ∧ WrL x ∧ 0 ≤ wd ∧ wd < 1000000 ∧ ∀ H', Same H H' → Q (.bl true) H'
theorem ok_l_is (T : Tk K mg) : Okd P w K mg base (L2.CX P w) 7 "_law_is" ["_law_actual", "_law_due", "_law_wide"] (spLIs K) := by
  refine Okd.of s_l_is (T.df 25) (T.glo 40) sc_l_is (fun _ _ _ _ _ _ us hl => match us, hl with | [_, _, _], _ => rfl) (fun vs H Q E h => ?_) (fun cdv A outer s H vs Q E h hr hpo tk px pxe => ?_)
  · obtain ⟨p, v, x, wd, rfl, _⟩ := h; rfl
  obtain ⟨p, v, x, wd, rfl, hp, hv, L, W, w0, w1, hQ⟩ := h
  refine ⟨_, (pss_cons (ps_for hpo rfl (pi_tup (pe_tup (pa_cons (pe_tup (pa_cons (pe_fld (pv 0) rfl) (pa_cons (pe_ix ix_list (pe_ix ix_tup (pv 1) pe_int (fun _ _ => rfl)) pe_int (fun _ _ => rfl)) pa_nil))) (pa_cons (pe_tup (pa_cons (pe_fld (pv 0) rfl) (pa_cons (pe_ix ix_list (pe_ix ix_tup (pv 1) pe_int (fun _ _ => rfl)) pe_int (fun _ _ => rfl)) pa_nil))) (pa_cons (pe_tup (pa_cons (pe_fld (pv 0) rfl) (pa_cons (pe_ix ix_list (pe_ix ix_tup (pv 1) pe_int (fun _ _ => rfl)) pe_int (fun _ _ => rfl)) pa_nil))) pa_nil))))) (pg_name (i := 3) sc_l_is.nd rfl (Or.inl rfl)) (pss_one (ps_if (pt_cmpR (op_neD hr.units) (pe_tup (pa_cons (pe_fld (pe_ix ix_tup (pv 3) pe_int (fun _ _ => rfl)) rfl) (pa_cons (pe_fld (pe_ix ix_tup (pv 3) pe_int (fun _ _ => rfl)) rfl) pa_nil))) (pf (ok_l_less T) (hr.mono (by decide)) (by rfl) px (pa_cons (pe_ix ix_tup (pe_ix ix_tup (pv 3) pe_int (fun _ _ => rfl)) pe_int (fun _ _ => rfl)) (pa_cons (pe_ix ix_tup (pe_ix ix_tup (pv 3) pe_int (fun _ _ => rfl)) pe_int (fun _ _ => rfl)) pa_nil))) (nomark _)) (pss_one (ps_ret pe_bl)) pss_nil)))
  (pss_cons (ps_if (PW.pt (pw_or (pt_cmpR op_ne (pe_fld (pv 0) rfl) (pe_ix ix_tup (pv 1) pe_int (fun _ _ => rfl)) (nomark _)) (pw_or1 (pt_not (pt_cmpR (op_eqOwn (ok_Bound_eq T) (hr.mono (by decide)) px) (pv 0) (pf (ok_l_made T) (hr.mono (by decide)) (by rfl) px (pa_cons (pv 1) pa_nil)) (nomark _)))))) (pss_one (ps_ret pe_bl)) pss_nil)
  (pss_cons (ps_for hpo rfl (pi_list (pe_op op_cat (pe_listRg rfl (by rfl) (T.free 39) (prg_1 (by rfl) (T.free 28) pe_int)) (pe_lst (pa_cons (pv 2) (pa_cons (pe_op op_fdiv (pv 2) pe_int) (pa_cons (pe_op op_fdiv (pv 2) pe_int) pa_nil)))))) (pg_name (i := 4) sc_l_is.nd rfl (Or.inl rfl)) (pss_cons (ps_set (i := 5) sc_l_is.nd rfl (Or.inl rfl) (pm (ok_Bound_at T) (hr.mono (by decide)) px (pv 0) (pa_cons (pv 4) pa_nil)))
   (pss_one (ps_if (pt_cmpR (op_neD hr.units) (pe_tup (pa_cons (pe_fld (pv 5) rfl) (pa_cons (pe_fld (pv 5) rfl) pa_nil))) (pf (ok_l_at T) (hr.mono (by decide)) (by rfl) px (pa_cons (pv 1) (pa_cons (pv 4) pa_nil))) (nomark _)) (pss_one (ps_ret pe_bl)) pss_nil))))
  (pss_one (ps_ret pe_bl))))), ?_⟩
  clear hr hpo tk px pxe
  obtain ⟨dx, a, b, c, hb, ha0, ha1, ha2⟩ := id hp
  obtain ⟨l, t0, t1, t2, hv', hl, h0, h1, h2⟩ := id hv
  have l2 : 2 ≤ sizeLine := by decide
  have l3 : 3 ≤ sizeLine := by decide
  have px : ∀ i, Sz (pick x i) 70 64 := fun i => by
    match i with
    | 0 => exact L.sz.a.mono (by decide) (by decide)
    | 1 => exact L.sz.b.mono (by decide) (by decide)
    | i + 2 => exact L.sz.c.mono (by decide) (by decide)
  simp only [tSeq]
  refine for_tx (fun H1 xs => xs.length = 3 ∧ ∀ i z, xs[i]? = some z → ∃ q r t, z = .ref q ∧ H1 q = some (.tup [.ref r, .ref t]) ∧ RatAt K H1 r (rd (pick x i)) ∧ TupAt H1 t (pick x i)) (fun R hR => ?_) (fun u H1 xs s1 hu hxs => ?_)
  · simp only [tSeq, tIfS, tTest, tOp, tVar, tC, tCB, tCons, tNil, tRet, tAsg, gName, tNext, tDrop, rI, rI0, rEq, rNe, sc_ii, sc_ss, sc_bb, sc_in, sc_ni, sc_nn, sc_si, sc_is, List.getElem?_cons_zero, List.getElem?_cons_succ, List.set_cons_zero, List.set_cons_succ, Option.some.injEq, exists_eq_left', exists_eq_left, L2.start, cxOf, List.cons.injEq, and_true, exists_and_left, exists_and_right, exists_eq', V.int.injEq, V.bl.injEq, V.str.injEq, V.ref.injEq, List.length_cons, List.length_nil, List.cons_append, List.nil_append, true_and, List.map, List.replicate, tAndV, tOrV, tNotV, tTest, tB, tNot, tAnd, tOr, Nat.zero_add, Nat.reduceAdd, Nat.reduceSub, Nat.sub_self, sFld, tFld, tPar, tMake, tCall, tMeth, tTup, tLst, HO.ins.injEq, and_assoc, reduceCtorEq, false_and, exists_false, false_or, or_false, tFmt, tJs, tBreak, tCont, tMakeS, tCallS, Int.zero_add, if_true, if_false, Bool.false_eq_true, Bool.not_true, Bool.not_false, tUn, rU, tNotN, tIsN, decide_true, decide_false, tBM, rAppend, HO.lst.injEq, HO.tup.injEq, wipe, tLstRg, tRg1, hb, BndF_1, BndF_2, BndF_3, BndF_4, CB T, NB1 T, NB2 T, NB3 T, NB4 T, l2, l3]
    refine ixT_at 0 hv' rfl (ixL_at 0 hl rfl (fun q0 n0 => ?_))
    have s0 := same_upd (o := HO.tup [V.ref a, V.ref t0]) n0
    have e0 : upd H q0 (HO.tup [V.ref a, V.ref t0]) q0 = some (.tup [V.ref a, V.ref t0]) := upd_same
    generalize upd H q0 (HO.tup [V.ref a, V.ref t0]) = H0 at *
    simp only [tSeq, tIfS, tTest, tOp, tVar, tC, tCB, tCons, tNil, tRet, tAsg, gName, tNext, tDrop, rI, rI0, rEq, rNe, sc_ii, sc_ss, sc_bb, sc_in, sc_ni, sc_nn, sc_si, sc_is, List.getElem?_cons_zero, List.getElem?_cons_succ, List.set_cons_zero, List.set_cons_succ, Option.some.injEq, exists_eq_left', exists_eq_left, L2.start, cxOf, List.cons.injEq, and_true, exists_and_left, exists_and_right, exists_eq', V.int.injEq, V.bl.injEq, V.str.injEq, V.ref.injEq, List.length_cons, List.length_nil, List.cons_append, List.nil_append, true_and, List.map, List.replicate, tAndV, tOrV, tNotV, tTest, tB, tNot, tAnd, tOr, Nat.zero_add, Nat.reduceAdd, Nat.reduceSub, Nat.sub_self, sFld, tFld, tPar, tMake, tCall, tMeth, tTup, tLst, HO.ins.injEq, and_assoc, reduceCtorEq, false_and, exists_false, false_or, or_false, tFmt, tJs, tBreak, tCont, tMakeS, tCallS, Int.zero_add, if_true, if_false, Bool.false_eq_true, Bool.not_true, Bool.not_false, tUn, rU, tNotN, tIsN, decide_true, decide_false, tBM, rAppend, HO.lst.injEq, HO.tup.injEq, wipe, tLstRg, tRg1, s0 _ _ hb, BndF_1, BndF_2, BndF_3, BndF_4, CB T, NB1 T, NB2 T, NB3 T, NB4 T, l2, l3]
    refine ixT_at 0 (s0 _ _ hv') rfl (ixL_at 1 (s0 _ _ hl) rfl (fun q1 n1 => ?_))
    have s1 := same_upd (o := HO.tup [V.ref b, V.ref t1]) n1
    have e1 : upd H0 q1 (HO.tup [V.ref b, V.ref t1]) q1 = some (.tup [V.ref b, V.ref t1]) := upd_same
    generalize upd H0 q1 (HO.tup [V.ref b, V.ref t1]) = H1 at *
    have s01 := s0.trans s1
    simp only [tSeq, tIfS, tTest, tOp, tVar, tC, tCB, tCons, tNil, tRet, tAsg, gName, tNext, tDrop, rI, rI0, rEq, rNe, sc_ii, sc_ss, sc_bb, sc_in, sc_ni, sc_nn, sc_si, sc_is, List.getElem?_cons_zero, List.getElem?_cons_succ, List.set_cons_zero, List.set_cons_succ, Option.some.injEq, exists_eq_left', exists_eq_left, L2.start, cxOf, List.cons.injEq, and_true, exists_and_left, exists_and_right, exists_eq', V.int.injEq, V.bl.injEq, V.str.injEq, V.ref.injEq, List.length_cons, List.length_nil, List.cons_append, List.nil_append, true_and, List.map, List.replicate, tAndV, tOrV, tNotV, tTest, tB, tNot, tAnd, tOr, Nat.zero_add, Nat.reduceAdd, Nat.reduceSub, Nat.sub_self, sFld, tFld, tPar, tMake, tCall, tMeth, tTup, tLst, HO.ins.injEq, and_assoc, reduceCtorEq, false_and, exists_false, false_or, or_false, tFmt, tJs, tBreak, tCont, tMakeS, tCallS, Int.zero_add, if_true, if_false, Bool.false_eq_true, Bool.not_true, Bool.not_false, tUn, rU, tNotN, tIsN, decide_true, decide_false, tBM, rAppend, HO.lst.injEq, HO.tup.injEq, wipe, tLstRg, tRg1, s01 _ _ hb, BndF_1, BndF_2, BndF_3, BndF_4, CB T, NB1 T, NB2 T, NB3 T, NB4 T, l2, l3]
    refine ixT_at 0 (s01 _ _ hv') rfl (ixL_at 2 (s01 _ _ hl) rfl (fun q2 n2 => ?_))
    have s2 := same_upd (o := HO.tup [V.ref c, V.ref t2]) n2
    have e2 : upd H1 q2 (HO.tup [V.ref c, V.ref t2]) q2 = some (.tup [V.ref c, V.ref t2]) := upd_same
    generalize upd H1 q2 (HO.tup [V.ref c, V.ref t2]) = H2 at *
    intro q3 n3
    have s3 := same_upd (o := HO.tup [V.ref q0, V.ref q1, V.ref q2]) n3
    have s23 := s2.trans s3
    have s03 := s01.trans s23
    refine hR q3 _ _ s03 upd_same ⟨rfl, fun i z hz => ?_⟩
    match i, hz with
    | 0, hz => cases hz; exact ⟨q0, a, t0, rfl, s23 _ _ (s1 _ _ e0), ha0.same s03, s03 _ _ h0⟩
    | 1, hz => cases hz; exact ⟨q1, b, t1, rfl, s23 _ _ e1, ha1.same s03, s03 _ _ h1⟩
    | 2, hz => cases hz; exact ⟨q2, c, t2, rfl, s3 _ _ e2, ha2.same s03, s03 _ _ h2⟩
    | i + 3, hz => simp at hz
  obtain ⟨hx3, hxs⟩ := hxs
  refine ⟨fun i σ H' => ∃ w, σ = [some (.ref p), some (.ref v), some (.int wd), w, none, none] ∧ Same H1 H', ⟨_, rfl, Same.refl _⟩, fun i σ H' ⟨_, _, s⟩ => s, ?_, ?_⟩
  · rintro i z σ H' hz ⟨w, rfl, s⟩
    obtain ⟨q, r, t, rfl, k1, ⟨dr, k2⟩, k3⟩ := hxs i z hz
    have k1 := s _ _ k1; have k2 := s _ _ k2; have k3 := s _ _ k3
    simp only [tSeq, tIfS, tTest, tOp, tVar, tC, tCB, tCons, tNil, tRet, tAsg, gName, tNext, tDrop, rI, rI0, rEq, rNe, sc_ii, sc_ss, sc_bb, sc_in, sc_ni, sc_nn, sc_si, sc_is, List.getElem?_cons_zero, List.getElem?_cons_succ, List.set_cons_zero, List.set_cons_succ, Option.some.injEq, exists_eq_left', exists_eq_left, L2.start, cxOf, List.cons.injEq, and_true, exists_and_left, exists_and_right, exists_eq', V.int.injEq, V.bl.injEq, V.str.injEq, V.ref.injEq, List.length_cons, List.length_nil, List.cons_append, List.nil_append, true_and, List.map, List.replicate, tAndV, tOrV, tNotV, tTest, tB, tNot, tAnd, tOr, Nat.zero_add, Nat.reduceAdd, Nat.reduceSub, Nat.sub_self, sFld, tFld, tPar, tMake, tCall, tMeth, tTup, tLst, HO.ins.injEq, and_assoc, reduceCtorEq, false_and, exists_false, false_or, or_false, tFmt, tJs, tBreak, tCont, tMakeS, tCallS, Int.zero_add, if_true, if_false, Bool.false_eq_true, Bool.not_true, Bool.not_false, tUn, rU, tNotN, tIsN, decide_true, decide_false, tBM, rAppend, HO.lst.injEq, HO.tup.injEq, wipe, tLstRg, tRg1]
    refine ixT_at 0 k1 rfl ?_
    simp only [tSeq, tIfS, tTest, tOp, tVar, tC, tCB, tCons, tNil, tRet, tAsg, gName, tNext, tDrop, rI, rI0, rEq, rNe, sc_ii, sc_ss, sc_bb, sc_in, sc_ni, sc_nn, sc_si, sc_is, List.getElem?_cons_zero, List.getElem?_cons_succ, List.set_cons_zero, List.set_cons_succ, Option.some.injEq, exists_eq_left', exists_eq_left, L2.start, cxOf, List.cons.injEq, and_true, exists_and_left, exists_and_right, exists_eq', V.int.injEq, V.bl.injEq, V.str.injEq, V.ref.injEq, List.length_cons, List.length_nil, List.cons_append, List.nil_append, true_and, List.map, List.replicate, tAndV, tOrV, tNotV, tTest, tB, tNot, tAnd, tOr, Nat.zero_add, Nat.reduceAdd, Nat.reduceSub, Nat.sub_self, sFld, tFld, tPar, tMake, tCall, tMeth, tTup, tLst, HO.ins.injEq, and_assoc, reduceCtorEq, false_and, exists_false, false_or, or_false, tFmt, tJs, tBreak, tCont, tMakeS, tCallS, Int.zero_add, if_true, if_false, Bool.false_eq_true, Bool.not_true, Bool.not_false, tUn, rU, tNotN, tIsN, decide_true, decide_false, tBM, rAppend, HO.lst.injEq, HO.tup.injEq, wipe, tLstRg, tRg1, k2, RatF_num, RatF_den, CL T, NN T, ND T]
    refine ixT_at 0 k1 rfl ?_
    simp only [tSeq, tIfS, tTest, tOp, tVar, tC, tCB, tCons, tNil, tRet, tAsg, gName, tNext, tDrop, rI, rI0, rEq, rNe, sc_ii, sc_ss, sc_bb, sc_in, sc_ni, sc_nn, sc_si, sc_is, List.getElem?_cons_zero, List.getElem?_cons_succ, List.set_cons_zero, List.set_cons_succ, Option.some.injEq, exists_eq_left', exists_eq_left, L2.start, cxOf, List.cons.injEq, and_true, exists_and_left, exists_and_right, exists_eq', V.int.injEq, V.bl.injEq, V.str.injEq, V.ref.injEq, List.length_cons, List.length_nil, List.cons_append, List.nil_append, true_and, List.map, List.replicate, tAndV, tOrV, tNotV, tTest, tB, tNot, tAnd, tOr, Nat.zero_add, Nat.reduceAdd, Nat.reduceSub, Nat.sub_self, sFld, tFld, tPar, tMake, tCall, tMeth, tTup, tLst, HO.ins.injEq, and_assoc, reduceCtorEq, false_and, exists_false, false_or, or_false, tFmt, tJs, tBreak, tCont, tMakeS, tCallS, Int.zero_add, if_true, if_false, Bool.false_eq_true, Bool.not_true, Bool.not_false, tUn, rU, tNotN, tIsN, decide_true, decide_false, tBM, rAppend, HO.lst.injEq, HO.tup.injEq, wipe, tLstRg, tRg1, k2, RatF_num, RatF_den, CL T, NN T, ND T, l2]
    intro m nm
    have sm := same_upd (o := HO.tup [V.int (rd (pick x i)).1, V.int (rd (pick x i)).2]) nm
    refine ixT_at 1 (sm _ _ k1) rfl (ixT_at 0 (sm _ _ k3) rfl (ixT_at 1 (sm _ _ k1) rfl (ixT_at 1 (sm _ _ k3) rfl ?_)))
    refine ⟨_, _, rfl, (px i).pos, (px i).den.mono (by decide), fun o no => ?_⟩
    have so := same_upd (o := HO.tup [V.int (rd (pick x i)).1, V.int (rd (pick x i)).2]) no
    refine ne_pair (x := (rd (pick x i)).1) (y := (rd (pick x i)).2) (so _ _ upd_same) upd_same ⟨_, rfl, ?_⟩
    simp only [tSeq, tIfS, tTest, tOp, tVar, tC, tCB, tCons, tNil, tRet, tAsg, gName, tNext, tDrop, rI, rI0, rEq, rNe, sc_ii, sc_ss, sc_bb, sc_in, sc_ni, sc_nn, sc_si, sc_is, List.getElem?_cons_zero, List.getElem?_cons_succ, List.set_cons_zero, List.set_cons_succ, Option.some.injEq, exists_eq_left', exists_eq_left, L2.start, cxOf, List.cons.injEq, and_true, exists_and_left, exists_and_right, exists_eq', V.int.injEq, V.bl.injEq, V.str.injEq, V.ref.injEq, List.length_cons, List.length_nil, List.cons_append, List.nil_append, true_and, List.map, List.replicate, tAndV, tOrV, tNotV, tTest, tB, tNot, tAnd, tOr, Nat.zero_add, Nat.reduceAdd, Nat.reduceSub, Nat.sub_self, sFld, tFld, tPar, tMake, tCall, tMeth, tTup, tLst, HO.ins.injEq, and_assoc, reduceCtorEq, false_and, exists_false, false_or, or_false, tFmt, tJs, tBreak, tCont, tMakeS, tCallS, Int.zero_add, if_true, if_false, Bool.false_eq_true, Bool.not_true, Bool.not_false, tUn, rU, tNotN, tIsN, decide_true, decide_false, tBM, rAppend, HO.lst.injEq, HO.tup.injEq, wipe, tLstRg, tRg1]
    exact (s.trans sm).trans so
  rintro σ H' ⟨w, rfl, s⟩
  have s1 := s1.trans s
  clear hxs hx3 hu s
  simp only [tSeq]
  simp only [tIfS, tTest, tOp, tVar, tC, tCB, tCons, tNil, tRet, tAsg, gName, tNext, tDrop, rI, rI0, rEq, rNe, sc_ii, sc_ss, sc_bb, sc_in, sc_ni, sc_nn, sc_si, sc_is, List.getElem?_cons_zero, List.getElem?_cons_succ, List.set_cons_zero, List.set_cons_succ, Option.some.injEq, exists_eq_left', exists_eq_left, L2.start, cxOf, List.cons.injEq, and_true, exists_and_left, exists_and_right, exists_eq', V.int.injEq, V.bl.injEq, V.str.injEq, V.ref.injEq, List.length_cons, List.length_nil, List.cons_append, List.nil_append, true_and, List.map, List.replicate, tAndV, tOrV, tNotV, tTest, tB, tNot, tAnd, tOr, Nat.zero_add, Nat.reduceAdd, Nat.reduceSub, Nat.sub_self, sFld, tFld, tPar, tMake, tCall, tMeth, tTup, tLst, HO.ins.injEq, and_assoc, reduceCtorEq, false_and, exists_false, false_or, or_false, tFmt, tJs, tBreak, tCont, tMakeS, tCallS, Int.zero_add, if_true, if_false, Bool.false_eq_true, Bool.not_true, Bool.not_false, tUn, rU, tNotN, tIsN, decide_true, decide_false, tBM, rAppend, HO.lst.injEq, HO.tup.injEq, wipe, tLstRg, tRg1, s1 _ _ hb, BndF_1, BndF_2, BndF_3, BndF_4, CB T, NB1 T, NB2 T, NB3 T, NB4 T]
  refine ixT_at 1 (s1 _ _ hv') rfl ⟨scal_lv _ _, ?_⟩
  refine ifn (fun y => by cases hh : x.l <;> simp [rdB, hh] at y) (fun _ => ?_)
  refine ⟨v, x, rfl, hv.same s1, L, fun c' H' s2 nc hc => ?_⟩
  have s2 := s1.trans s2
  have WB := wrB_rd W L.sz
  obtain ⟨dc, _, _, _, hcc, _⟩ := id hc
  refine rOwn_at (s2 _ _ hb) hcc ⟨p, c', rdB x, rdB x, rfl, hp.same s2, hc, WB, WB, fun H3 s3 => ⟨_, rfl, ?_⟩⟩
  have s3 := s2.trans s3
  simp only [tSeq]
  simp only [tIfS, tTest, tOp, tVar, tC, tCB, tCons, tNil, tRet, tAsg, gName, tNext, tDrop, rI, rI0, rEq, rNe, sc_ii, sc_ss, sc_bb, sc_in, sc_ni, sc_nn, sc_si, sc_is, List.getElem?_cons_zero, List.getElem?_cons_succ, List.set_cons_zero, List.set_cons_succ, Option.some.injEq, exists_eq_left', exists_eq_left, L2.start, cxOf, List.cons.injEq, and_true, exists_and_left, exists_and_right, exists_eq', V.int.injEq, V.bl.injEq, V.str.injEq, V.ref.injEq, List.length_cons, List.length_nil, List.cons_append, List.nil_append, true_and, List.map, List.replicate, tAndV, tOrV, tNotV, tTest, tB, tNot, tAnd, tOr, Nat.zero_add, Nat.reduceAdd, Nat.reduceSub, Nat.sub_self, sFld, tFld, tPar, tMake, tCall, tMeth, tTup, tLst, HO.ins.injEq, and_assoc, reduceCtorEq, false_and, exists_false, false_or, or_false, tFmt, tJs, tBreak, tCont, tMakeS, tCallS, Int.zero_add, if_true, if_false, Bool.false_eq_true, Bool.not_true, Bool.not_false, tUn, rU, tNotN, tIsN, decide_true, decide_false, tBM, rAppend, HO.lst.injEq, HO.tup.injEq, wipe, tLstRg, tRg1, decide_true]
  have l2 : 2 ≤ sizeLine := by decide
  refine for_lx (fun _ xs => ∀ (i : Nat) z, xs[i]? = some z → ∃ k : Int, z = .int k ∧ 0 ≤ k ∧ k < 1000000) (fun R hR => ?_) (fun u H4 xs s4 hu hxs => ?_)
  · have c1 : CDiv wd 1000 := ⟨by decide, by decide⟩
    have c2 : CDiv wd 30000 := ⟨by decide, by decide⟩
    simp only [tSeq, tIfS, tTest, tOp, tVar, tC, tCB, tCons, tNil, tRet, tAsg, gName, tNext, tDrop, rI, rI0, rEq, rNe, sc_ii, sc_ss, sc_bb, sc_in, sc_ni, sc_nn, sc_si, sc_is, List.getElem?_cons_zero, List.getElem?_cons_succ, List.set_cons_zero, List.set_cons_succ, Option.some.injEq, exists_eq_left', exists_eq_left, L2.start, cxOf, List.cons.injEq, and_true, exists_and_left, exists_and_right, exists_eq', V.int.injEq, V.bl.injEq, V.str.injEq, V.ref.injEq, List.length_cons, List.length_nil, List.cons_append, List.nil_append, true_and, List.map, List.replicate, tAndV, tOrV, tNotV, tTest, tB, tNot, tAnd, tOr, Nat.zero_add, Nat.reduceAdd, Nat.reduceSub, Nat.sub_self, sFld, tFld, tPar, tMake, tCall, tMeth, tTup, tLst, HO.ins.injEq, and_assoc, reduceCtorEq, false_and, exists_false, false_or, or_false, tFmt, tJs, tBreak, tCont, tMakeS, tCallS, Int.zero_add, if_true, if_false, Bool.false_eq_true, Bool.not_true, Bool.not_false, tUn, rU, tNotN, tIsN, decide_true, decide_false, tBM, rAppend, HO.lst.injEq, HO.tup.injEq, wipe, tLstRg, tRg1, c1, c2, l3]
    refine ⟨RgOk.of_le (by decide) (by decide) (by decide) (by decide), fun q1 n1 q2 n2 => ?_⟩
    have s1 := same_upd (o := HO.lst (rgV 0 13)) n1
    have s2 := same_upd (o := HO.lst [V.int wd, V.int (wd / 1000), V.int (wd / 30000)]) n2
    refine ⟨q1, q2, _, _, rfl, rfl, s2 _ _ upd_same, upd_same, (show 13 + 3 ≤ sizeLine by decide), fun q3 n3 => ?_⟩
    refine hR q3 _ _ ((s1.trans s2).trans (same_upd n3)) upd_same (fun i z hz => ?_)
    have e := List.mem_of_getElem? hz
    rcases List.mem_append.mp e with e | e
    · obtain ⟨j, hj, rfl⟩ := List.mem_map.mp e
      have := List.mem_range.mp hj
      exact ⟨_, rfl, by omega, by omega⟩
    · simp only [List.mem_cons, List.not_mem_nil, or_false] at e
      rcases e with rfl | rfl | rfl
      · exact ⟨_, rfl, w0, w1⟩
      · exact ⟨_, rfl, by omega, by omega⟩
      · exact ⟨_, rfl, by omega, by omega⟩
  have s4 := s3.trans s4
  refine ⟨fun i σ H' => ∃ w u, σ = [some (.ref p), some (.ref v), some (.int wd), w, u.1, u.2] ∧ Same H4 H', ⟨_, (none, none), rfl, Same.refl _⟩, fun i σ H' ⟨_, _, _, s⟩ => s, ?_, ?_⟩
  · rintro i z σ H' hz ⟨w, u, rfl, s5⟩
    obtain ⟨k, rfl, k0, k1⟩ := hxs i z hz
    have s50 := s5
    have s5 := s4.trans s5
    have kl : Lt2 k 32 := show k.natAbs < 2 ^ 32 by omega
    simp only [tSeq]
    simp only [tIfS, tTest, tOp, tVar, tC, tCB, tCons, tNil, tRet, tAsg, gName, tNext, tDrop, rI, rI0, rEq, rNe, sc_ii, sc_ss, sc_bb, sc_in, sc_ni, sc_nn, sc_si, sc_is, List.getElem?_cons_zero, List.getElem?_cons_succ, List.set_cons_zero, List.set_cons_succ, Option.some.injEq, exists_eq_left', exists_eq_left, L2.start, cxOf, List.cons.injEq, and_true, exists_and_left, exists_and_right, exists_eq', V.int.injEq, V.bl.injEq, V.str.injEq, V.ref.injEq, List.length_cons, List.length_nil, List.cons_append, List.nil_append, true_and, List.map, List.replicate, tAndV, tOrV, tNotV, tTest, tB, tNot, tAnd, tOr, Nat.zero_add, Nat.reduceAdd, Nat.reduceSub, Nat.sub_self, sFld, tFld, tPar, tMake, tCall, tMeth, tTup, tLst, HO.ins.injEq, and_assoc, reduceCtorEq, false_and, exists_false, false_or, or_false, tFmt, tJs, tBreak, tCont, tMakeS, tCallS, Int.zero_add, if_true, if_false, Bool.false_eq_true, Bool.not_true, Bool.not_false, tUn, rU, tNotN, tIsN, decide_true, decide_false, tBM, rAppend, HO.lst.injEq, HO.tup.injEq, wipe, tLstRg, tRg1, s5 _ _ hb, CB T]
    refine ⟨BndF_no _ _ _ _ (by decide +kernel) (by decide +kernel) (by decide +kernel) (by decide +kernel), p, rdB x, k, rfl, hp.same s5, rdB_sz L.sz, k0, kl, fun c1 H6 s6 n6 r6 => ?_⟩
    obtain ⟨d6, r6⟩ := r6
    rw [atv_rd L.sz] at r6
    simp only [tIfS, tTest, tOp, tVar, tC, tCB, tCons, tNil, tRet, tAsg, gName, tNext, tDrop, rI, rI0, rEq, rNe, sc_ii, sc_ss, sc_bb, sc_in, sc_ni, sc_nn, sc_si, sc_is, List.getElem?_cons_zero, List.getElem?_cons_succ, List.set_cons_zero, List.set_cons_succ, Option.some.injEq, exists_eq_left', exists_eq_left, L2.start, cxOf, List.cons.injEq, and_true, exists_and_left, exists_and_right, exists_eq', V.int.injEq, V.bl.injEq, V.str.injEq, V.ref.injEq, List.length_cons, List.length_nil, List.cons_append, List.nil_append, true_and, List.map, List.replicate, tAndV, tOrV, tNotV, tTest, tB, tNot, tAnd, tOr, Nat.zero_add, Nat.reduceAdd, Nat.reduceSub, Nat.sub_self, sFld, tFld, tPar, tMake, tCall, tMeth, tTup, tLst, HO.ins.injEq, and_assoc, reduceCtorEq, false_and, exists_false, false_or, or_false, tFmt, tJs, tBreak, tCont, tMakeS, tCallS, Int.zero_add, if_true, if_false, Bool.false_eq_true, Bool.not_true, Bool.not_false, tUn, rU, tNotN, tIsN, decide_true, decide_false, tBM, rAppend, HO.lst.injEq, HO.tup.injEq, wipe, tLstRg, tRg1, r6, RatF_num, RatF_den, CL T, NN T, ND T, l2]
    intro m nm
    have sm := same_upd (o := HO.tup [V.int (atv x k).1, V.int (atv x k).2]) nm
    have s60 := (s50.trans s6).trans sm
    have s6 := (s5.trans s6).trans sm
    refine ⟨v, x, k, rfl, hv.same s6, L.sz, k0, kl, fun c2 H7 s7 r7 => ?_⟩
    refine ne_pair (x := (atv x k).1) (y := (atv x k).2) (s7 _ _ upd_same) r7 ⟨_, rfl, ?_⟩
    simp only [tSeq, tIfS, tTest, tOp, tVar, tC, tCB, tCons, tNil, tRet, tAsg, gName, tNext, tDrop, rI, rI0, rEq, rNe, sc_ii, sc_ss, sc_bb, sc_in, sc_ni, sc_nn, sc_si, sc_is, List.getElem?_cons_zero, List.getElem?_cons_succ, List.set_cons_zero, List.set_cons_succ, Option.some.injEq, exists_eq_left', exists_eq_left, L2.start, cxOf, List.cons.injEq, and_true, exists_and_left, exists_and_right, exists_eq', V.int.injEq, V.bl.injEq, V.str.injEq, V.ref.injEq, List.length_cons, List.length_nil, List.cons_append, List.nil_append, true_and, List.map, List.replicate, tAndV, tOrV, tNotV, tTest, tB, tNot, tAnd, tOr, Nat.zero_add, Nat.reduceAdd, Nat.reduceSub, Nat.sub_self, sFld, tFld, tPar, tMake, tCall, tMeth, tTup, tLst, HO.ins.injEq, and_assoc, reduceCtorEq, false_and, exists_false, false_or, or_false, tFmt, tJs, tBreak, tCont, tMakeS, tCallS, Int.zero_add, if_true, if_false, Bool.false_eq_true, Bool.not_true, Bool.not_false, tUn, rU, tNotN, tIsN, decide_true, decide_false, tBM, rAppend, HO.lst.injEq, HO.tup.injEq, wipe, tLstRg, tRg1]
    exact ⟨(_, _), rfl, rfl, s60.trans s7⟩
  · rintro σ H' ⟨w, u, rfl, s5⟩
    simp only [tIfS, tTest, tOp, tVar, tC, tCB, tCons, tNil, tRet, tAsg, gName, tNext, tDrop, rI, rI0, rEq, rNe, sc_ii, sc_ss, sc_bb, sc_in, sc_ni, sc_nn, sc_si, sc_is, List.getElem?_cons_zero, List.getElem?_cons_succ, List.set_cons_zero, List.set_cons_succ, Option.some.injEq, exists_eq_left', exists_eq_left, L2.start, cxOf, List.cons.injEq, and_true, exists_and_left, exists_and_right, exists_eq', V.int.injEq, V.bl.injEq, V.str.injEq, V.ref.injEq, List.length_cons, List.length_nil, List.cons_append, List.nil_append, true_and, List.map, List.replicate, tAndV, tOrV, tNotV, tTest, tB, tNot, tAnd, tOr, Nat.zero_add, Nat.reduceAdd, Nat.reduceSub, Nat.sub_self, sFld, tFld, tPar, tMake, tCall, tMeth, tTup, tLst, HO.ins.injEq, and_assoc, reduceCtorEq, false_and, exists_false, false_or, or_false, tFmt, tJs, tBreak, tCont, tMakeS, tCallS, Int.zero_add, if_true, if_false, Bool.false_eq_true, Bool.not_true, Bool.not_false, tUn, rU, tNotN, tIsN, decide_true, decide_false, tBM, rAppend, HO.lst.injEq, HO.tup.injEq, wipe, tLstRg, tRg1]
    exact hQ _ (s4.trans s5)
end
end K30

namespace K30
open PySem PySem.Spec PyProof.Rows L2 TL PL
section
variable {P : Program} {w : World} {K : PySem.W.Frag} {mg : Str → Option Value} {base : Heap}
/-! ### plain facts about the law's bounds -/
theorem numS_nat (n : Nat) : TL.tl (numS (n : Int)) = TL.numL n := TL.tl_num n
theorem numS_inj {a b : Int} (ha : 0 ≤ a) (hb : 0 ≤ b) (h : numS a = numS b) : a = b := by
  obtain ⟨n, rfl⟩ := Int.eq_ofNat_of_zero_le ha
  obtain ⟨m, rfl⟩ := Int.eq_ofNat_of_zero_le hb
  have e := congrArg TL.tl h
  rw [numS_nat, numS_nat] at e
  rw [TL.numL_inj e]
theorem no47 (n : Nat) : 47 ∉ TL.numL n := fun h => by have := TL.numL_digits n 47 h; omega
theorem split47 : ∀ {a c : List Nat} {b d : List Nat}, 47 ∉ a → 47 ∉ c → a ++ 47 :: b = c ++ 47 :: d → a = c ∧ b = d
  | [], [], _, _, _, _, h => ⟨rfl, by simpa using h⟩
  | [], y :: c, _, _, _, hc, h => by
    have : y = 47 := (List.cons.inj h).1.symm
    exact absurd (this ▸ List.mem_cons_self ..) hc
  | x :: a, [], _, _, ha, _, h => by
    have : x = 47 := (List.cons.inj h).1
    exact absurd (this ▸ List.mem_cons_self ..) ha
  | x :: a, y :: c, _, _, ha, hc, h => by
    obtain ⟨e1, e2⟩ := List.cons.inj h
    obtain ⟨e3, e4⟩ := split47 (fun m => ha (List.mem_cons_of_mem _ m)) (fun m => hc (List.mem_cons_of_mem _ m)) e2
    exact ⟨by rw [e1, e3], e4⟩
theorem ratText_inj {p q : Int × Int} (p0 : 0 ≤ p.1) (q0 : 0 ≤ q.1) (p1 : 0 < p.2) (q1 : 0 < q.2) (h : ratText p = ratText q) : p = q := by
  obtain ⟨a, b⟩ := p
  obtain ⟨c, d⟩ := q
  simp only at p0 q0 p1 q1
  have ha : 0 ≤ b := by omega
  have hd : 0 ≤ d := by omega
  unfold ratText at h
  simp only at h
  have sl : TL.tl ("/" : Str) = [47] := by decide +kernel
  by_cases e1 : b = 1
  · by_cases e2 : d = 1
    · rw [if_pos e1, if_pos e2] at h
      rw [numS_inj p0 q0 h, e1, e2]
    · rw [if_pos e1, if_neg e2] at h
      exfalso
      have e := congrArg TL.tl h
      obtain ⟨n, rfl⟩ := Int.eq_ofNat_of_zero_le p0
      rw [TL.tl_append, TL.tl_append, numS_nat, sl] at e
      exact no47 n (by rw [e]; simp)
  · by_cases e2 : d = 1
    · rw [if_neg e1, if_pos e2] at h
      exfalso
      have e := congrArg TL.tl h
      obtain ⟨n, rfl⟩ := Int.eq_ofNat_of_zero_le q0
      rw [TL.tl_append, TL.tl_append, numS_nat, sl] at e
      exact no47 n (by rw [← e]; simp)
    · rw [if_neg e1, if_neg e2] at h
      have e := congrArg TL.tl h
      obtain ⟨n, rfl⟩ := Int.eq_ofNat_of_zero_le p0
      obtain ⟨m, rfl⟩ := Int.eq_ofNat_of_zero_le q0
      obtain ⟨n', rfl⟩ := Int.eq_ofNat_of_zero_le ha
      obtain ⟨m', rfl⟩ := Int.eq_ofNat_of_zero_le hd
      rw [TL.tl_append, TL.tl_append, TL.tl_append, TL.tl_append, numS_nat, numS_nat, numS_nat, numS_nat, sl, List.append_assoc, List.append_assoc] at e
      obtain ⟨f1, f2⟩ := split47 (no47 n) (no47 m) (by simpa using e)
      rw [TL.numL_inj f1, TL.numL_inj f2]
theorem tx_iff {x y : B4} (hx : Ok x) (hy : Ok y) (zx : SzB x) (zy : SzB y) : tx x = tx y ↔ x = y := by
  constructor
  · intro h
    simp only [tx, Prod.mk.injEq] at h
    obtain ⟨h1, h2, h3, h4⟩ := h
    cases x; cases y
    have e1 := ratText_inj hx.a hy.a zx.a.pos zy.a.pos h1
    have e2 := ratText_inj hx.b hy.b zx.b.pos zy.b.pos h2
    have e3 := ratText_inj hx.c hy.c zx.c.pos zy.c.pos h3
    simp only at e1 e2 e3 h4
    rw [e1, e2, e3, h4]
  · intro h; rw [h]
def prD (p : Int × Int) : PyData := .tuple [.int p.1, .int p.2]
def drD (x : B4) : PyData := .tuple [.list [prD x.a, prD x.b, prD x.c], ldt x.l]
theorem drD_ok {H : Hp} {v : Addr} {x : B4} (h : Drawn H v x) : Dp K H (.ref v) (drD x) := by
  obtain ⟨l, t0, t1, t2, hv, hl, h0, h1, h2⟩ := h
  exact .tup (SqT.of hv) (.cons (.lst (SqL.of hl) (.cons (.tup (SqT.of h0) (.cons (.int _) (.cons (.int _) .nil))) (.cons (.tup (SqT.of h1) (.cons (.int _) (.cons (.int _) .nil))) (.cons (.tup (SqT.of h2) (.cons (.int _) (.cons (.int _) .nil))) .nil)))) (.cons (ldt_ok _) .nil))
theorem drD_eqv (x y : B4) : PyData.eqv (drD x) (drD y) = decide (x = y) := by
  obtain ⟨⟨a, a'⟩, ⟨b, b'⟩, ⟨c, c'⟩, l⟩ := x
  obtain ⟨⟨d, d'⟩, ⟨e, e'⟩, ⟨f, f'⟩, m⟩ := y
  simp only [drD, prD, PyData.eqv, PyData.eqvAll, ldt_eqv, B4.mk.injEq, Prod.mk.injEq]
  rw [Bool.eq_iff_iff]
  simp [and_assoc]
theorem drD_shaped (x : B4) : SeqAt.shaped (drD x) = true := by
  obtain ⟨a, b, c, l⟩ := x
  unfold SeqAt.shaped
  cases l <;> simp [drD, prD, PyData.canLay0, PyData.canLayAll0, ldt, PyData.depth, PyData.depthAll]
theorem red_neg {n d : Int} (h : n < 0) (hd : 0 < d) : (red n d).1 < 0 := by
  have e := red_num (n := n) (d := d)
  have g := gcd_pos (n := n) hd
  rcases Int.lt_or_le (red n d).1 0 with y | y
  · exact y
  · have := Int.mul_nonneg y (Int.le_of_lt g)
    omega
theorem Fr.sz {p : Int × Int} (h : Fr p) : Sz p 7 30 := by
  obtain ⟨h1, h2, h3, h4⟩ := h
  exact ⟨by omega, show p.1.natAbs < 2 ^ 7 by omega, show p.2.natAbs < 2 ^ 30 by omega⟩
theorem DrawnOk.lb {x : B4} (h : DrawnOk x) : Lb x := ⟨⟨h.a.1, h.b.1, h.c.1, by
  have := h.l
  cases e : x.l with
  | none => rfl
  | some i => exact decide_eq_false (by have := this i e; omega)⟩, ⟨h.a.sz.mono (by decide) (by decide), h.b.sz.mono (by decide) (by decide), h.c.sz.mono (by decide) (by decide)⟩⟩
theorem wr_of {z : Int} (h : Lt2 z 190) : Wr z := Nat.lt_of_lt_of_le h (by decide)
theorem SzB.wr {x : B4} (h : SzB x) : WrL x := ⟨wr_of (h.a.num.mono (by decide)), wr_of (h.a.den.mono (by decide)), wr_of (h.b.num.mono (by decide)), wr_of (h.b.den.mono (by decide)), wr_of (h.c.num.mono (by decide)), wr_of (h.c.den.mono (by decide))⟩
theorem SzB.wb {x : B4} (h : SzB x) : WrB x := ⟨h.wr.a1, h.wr.a2, h.wr.b1, h.wr.b2, h.wr.c1, h.wr.c2⟩
theorem plus_lb {x y : B4} (hx : DrawnOk x) (hy : DrawnOk y) : Lb (plusB x y) := ⟨plusB_ok hx.lb.ok hy.lb.ok hx.lb.sz hy.lb.sz,
  ⟨(hx.a.sz.rad hy.a.sz (e := 37) (by decide) (by decide)).mono (by decide) (by decide), (hx.b.sz.rad hy.b.sz (e := 37) (by decide) (by decide)).mono (by decide) (by decide), (hx.c.sz.rad hy.c.sz (e := 37) (by decide) (by decide)).mono (by decide) (by decide)⟩⟩
theorem plus_rd {x y : B4} (hx : SzB x) (hy : SzB y) : plusB (rdB x) (rdB y) = rdB (plusB x y) := by
  unfold plusB rdB
  simp only [rad_rd hx.a.pos hy.a.pos, rad_rd hx.b.pos hy.b.pos, rad_rd hx.c.pos hy.c.pos, B4.mk.injEq, and_true]
  exact ⟨(rd_rd (p := (x.a.1 * y.a.2 + y.a.1 * x.a.2, x.a.2 * y.a.2)) (Int.mul_pos hx.a.pos hy.a.pos)).symm, (rd_rd (p := (x.b.1 * y.b.2 + y.b.1 * x.b.2, x.b.2 * y.b.2)) (Int.mul_pos hx.b.pos hy.b.pos)).symm, (rd_rd (p := (x.c.1 * y.c.2 + y.c.1 * x.c.2, x.c.2 * y.c.2)) (Int.mul_pos hx.c.pos hy.c.pos)).symm⟩
theorem one_pos {n : Int} : 0 < ((n, 1) : Int × Int).2 := show (0 : Int) < 1 by decide
theorem rdB_zero : rdB zeroB = zeroB := by unfold rdB zeroB; simp only [rd_one]
theorem within_rd {x : B4} (hx : SzB x) (k : Int) : withinB (rdB x) k = rdB (withinB x k) := by
  unfold withinB
  split
  · exact rdB_zero.symm
  · show (⟨rd x.a, rad (rmu (rd x.b) (k, 1)) (rmu (rd x.c) (k * (k - 1) / 2, 1)), rmu (rd x.c) (k * k, 1), divL k x.l⟩ : B4) = ⟨rd x.a, rd (rad (rmu x.b (k, 1)) (rmu x.c (k * (k - 1) / 2, 1))), rd (rmu x.c (k * k, 1)), divL k x.l⟩
    rw [rmu_l hx.b.pos one_pos, rmu_l hx.c.pos one_pos, rmu_l hx.c.pos one_pos]
    have h1 : rd (rad (rmu x.b (k, 1)) (rmu x.c (k * (k - 1) / 2, 1))) = rad (rmu x.b (k, 1)) (rmu x.c (k * (k - 1) / 2, 1)) := rd_rd (p := ((rmu x.b (k, 1)).1 * (rmu x.c (k * (k - 1) / 2, 1)).2 + (rmu x.c (k * (k - 1) / 2, 1)).1 * (rmu x.b (k, 1)).2, _)) (Int.mul_pos (rmu_pos hx.b.pos one_pos) (rmu_pos hx.c.pos one_pos))
    have h2 : rd (rmu x.c (k * k, 1)) = rmu x.c (k * k, 1) := rd_rd (p := (x.c.1 * (k * k), x.c.2 * 1)) (by show 0 < x.c.2 * 1; have := hx.c.pos; omega)
    rw [h1, h2]
theorem tri {k : Int} : 2 * (k * (k - 1) / 2) = k * (k - 1) := by
  have h : (k * (k - 1)) % 2 = 0 := by
    have h1 : k % 2 = 0 ∨ k % 2 = 1 := by omega
    rcases h1 with h | h <;> rw [Int.mul_emod] <;> rw [h]
    · simp
    · rw [show (k - 1) % 2 = 0 by omega]; rfl
  omega
theorem lt2_10 {k : Int} (h0 : 0 ≤ k) (h : k < 1000) : Lt2 k 10 := show k.natAbs < 2 ^ 10 by omega
theorem zeroB_lb : Lb zeroB := ⟨zeroB_ok, ⟨⟨by decide, show (0 : Int).natAbs < 2 ^ 60 by decide, show (1 : Int).natAbs < 2 ^ 60 by decide⟩, ⟨by decide, show (0 : Int).natAbs < 2 ^ 70 by decide, show (1 : Int).natAbs < 2 ^ 64 by decide⟩, ⟨by decide, show (0 : Int).natAbs < 2 ^ 60 by decide, show (1 : Int).natAbs < 2 ^ 60 by decide⟩⟩⟩
theorem within_lb {x : B4} {k : Int} (hx : DrawnOk x) (h0 : 0 ≤ k) (h : k < 1000) : Lb (withinB x k) := by
  refine ⟨withinB_ok hx.lb.ok hx.lb.sz h0, ?_⟩
  have k10 := lt2_10 h0 h
  have kk : Lt2 (k * k) 20 := k10.mul k10
  have kt : Lt2 (k * (k - 1) / 2) 20 := by
    have := tri (k := k)
    have e : k * (k - 1) = k * k - k := by rw [Int.mul_sub, Int.mul_one]
    have n : 0 ≤ k * (k - 1) / 2 := Int.ediv_nonneg (by rcases Int.lt_or_eq_of_le h0 with y | y
                                                        · exact Int.mul_nonneg h0 (by omega)
                                                        · rw [← y]; decide) (by decide)
    exact .of_le (y := k * k) (by omega) kk
  unfold withinB
  split
  · exact zeroB_lb.sz
  · exact ⟨hx.a.sz.mono (by decide) (by decide), ((hx.b.sz.rmu (Sz.int k10)).rad (hx.c.sz.rmu (Sz.int kt)) (e := 60) (by decide) (by decide)).mono (by decide) (by decide), (hx.c.sz.rmu (Sz.int kk)).mono (by decide) (by decide)⟩
theorem val_flat {x : B4} (h : SzB x) (q : Int) : val x q = red ((x.a.1 * x.b.2 + x.b.1 * q * x.a.2) * x.c.2 + x.c.1 * (q * (q - 1) / 2) * (x.a.2 * x.b.2)) (x.a.2 * x.b.2 * x.c.2) := by
  have pb : 0 < (x.b.1 * q, x.b.2 * 1).2 := by show 0 < x.b.2 * 1; have := h.b.pos; omega
  have pc : 0 < (x.c.1 * (q * (q - 1) / 2), x.c.2 * 1).2 := by show 0 < x.c.2 * 1; have := h.c.pos; omega
  unfold val
  rw [show rmu x.b (q, 1) = rd (x.b.1 * q, x.b.2 * 1) from rfl, rad_r h.a.pos pb, show rmu x.c (q * (q - 1) / 2, 1) = rd (x.c.1 * (q * (q - 1) / 2), x.c.2 * 1) from rfl]
  have pab : 0 < (x.a.1 * (x.b.2 * 1) + x.b.1 * q * x.a.2, x.a.2 * (x.b.2 * 1)).2 := Int.mul_pos h.a.pos pb
  rw [show rad x.a (x.b.1 * q, x.b.2 * 1) = rd (x.a.1 * (x.b.2 * 1) + x.b.1 * q * x.a.2, x.a.2 * (x.b.2 * 1)) from rfl, rad_rd pab pc]
  simp only [rad, Int.mul_one]
theorem val_same {a1 a2 b1 b2 c1 c2 k q u s t : Int} (h1 : 2 * t = k * q * (k * q - 1)) (h2 : 2 * u = k * (k - 1)) (h3 : 2 * s = q * (q - 1)) :
    ((a1*(b2*c2) + (b1*k*c2 + c1*u*b2) * q * a2)*c2 + c1*(k*k) * s * (a2*(b2*c2))) * (a2*b2*c2) = ((a1*b2 + b1*(k*q)*a2) * c2 + c1*t*(a2*b2)) * (a2*(b2*c2)*c2) := by
  grind
theorem val_within {x : B4} (h : SzB x) {k : Int} (h0 : k ≠ 0) (q : Int) (hw : SzB ⟨x.a, (x.b.1 * k * x.c.2 + x.c.1 * (k * (k - 1) / 2) * x.b.2, x.b.2 * x.c.2), (x.c.1 * (k * k), x.c.2), none⟩) :
    val ⟨x.a, (x.b.1 * k * x.c.2 + x.c.1 * (k * (k - 1) / 2) * x.b.2, x.b.2 * x.c.2), (x.c.1 * (k * k), x.c.2), none⟩ q = val x (k * q) := by
  rw [val_flat hw, val_flat h]
  exact red_eq (Int.mul_pos (Int.mul_pos h.a.pos (Int.mul_pos h.b.pos h.c.pos)) h.c.pos) (Int.mul_pos (Int.mul_pos h.a.pos h.b.pos) h.c.pos) (val_same tri tri tri)
theorem over_div {l : Option Int} {k q : Int} (hk : 0 < k) : over (divL k l) q = over l (k * q) := by
  cases l with
  | none => rfl
  | some i =>
    show decide (i / k < q) = decide (i < k * q)
    refine decide_eq_decide.mpr ?_
    rw [Int.ediv_lt_iff_lt_mul hk, Int.mul_comm]
end
end K30

namespace K30
open PySem PySem.Spec PyProof.Rows L2 TL PL
section
variable {P : Program} {w : World} {K : PySem.W.Frag} {mg : Str → Option Value} {base : Heap}
/-! ### the law -/
/-- what the within at q calls is -/
theorem atv_within {x : B4} {k q : Int} (hx : DrawnOk x) (k0 : 0 ≤ k) (k1 : k < 1000) (q0 : 0 ≤ q) : atv (rdB (withinB x k)) q = atv (rdB x) (k * q) := by
  have Zx := hx.lb.sz
  rw [atv_rd (within_lb hx k0 k1).sz, atv_rd Zx]
  by_cases hq : q = 0
  · subst hq
    simp [atv]
  by_cases hk : k = 0
  · subst hk
    have z : withinB x 0 = zeroB := by unfold withinB; rw [if_pos rfl]
    rw [z, Int.zero_mul]
    have v : val zeroB q = (0, 1) := by
      rw [val_flat zeroB_lb.sz]
      show red ((0 * 1 + 0 * q * 1) * 1 + 0 * (q * (q - 1) / 2) * (1 * 1)) (1 * 1 * 1) = (0, 1)
      simp only [Int.zero_mul, Int.zero_add]
      exact rd_10
    have o : over zeroB.l q = false := rfl
    simp [atv, v, hq, o]
  have kp : 0 < k := by omega
  have e : k * q ≠ 0 := Int.mul_ne_zero hk hq
  have w : withinB x k = ⟨x.a, rad (rmu x.b (k, 1)) (rmu x.c (k * (k - 1) / 2, 1)), rmu x.c (k * k, 1), divL k x.l⟩ := by unfold withinB; rw [if_neg hk]
  have o : over (withinB x k).l q = over x.l (k * q) := by rw [w]; exact over_div kp
  have k10 := lt2_10 k0 k1
  have kk : Lt2 (k * k) 20 := k10.mul k10
  have kt : Lt2 (k * (k - 1) / 2) 20 := by
    have := tri (k := k)
    have e : k * (k - 1) = k * k - k := by rw [Int.mul_sub, Int.mul_one]
    have n : 0 ≤ k * (k - 1) / 2 := Int.ediv_nonneg (Int.mul_nonneg k0 (by omega)) (by decide)
    exact .of_le (y := k * k) (by omega) kk
  have S1 : Sz (x.b.1 * k * x.c.2 + x.c.1 * (k * (k - 1) / 2) * x.b.2, x.b.2 * x.c.2) 61 60 := ⟨Int.mul_pos Zx.b.pos Zx.c.pos, (((hx.b.sz.num.mul k10).mul hx.c.sz.den).mono (j := 60) (by decide)).add (((hx.c.sz.num.mul kt).mul hx.b.sz.den).mono (j := 60) (by decide)), hx.b.sz.den.mul hx.c.sz.den⟩
  have S2 : Sz (x.c.1 * (k * k), x.c.2) 27 30 := ⟨Zx.c.pos, hx.c.sz.num.mul kk, hx.c.sz.den⟩
  have hw : SzB ⟨x.a, (x.b.1 * k * x.c.2 + x.c.1 * (k * (k - 1) / 2) * x.b.2, x.b.2 * x.c.2), (x.c.1 * (k * k), x.c.2), none⟩ := ⟨Zx.a, S1.mono (by decide) (by decide), S2.mono (by decide) (by decide)⟩
  have v : val (withinB x k) q = val x (k * q) := by
    rw [← val_within Zx hk q hw, w]
    have pb : 0 < (x.b.1 * k, x.b.2 * 1).2 := by show 0 < x.b.2 * 1; have := Zx.b.pos; omega
    have pc : 0 < (x.c.1 * (k * (k - 1) / 2), x.c.2 * 1).2 := by show 0 < x.c.2 * 1; have := Zx.c.pos; omega
    have e1 : rad (rmu x.b (k, 1)) (rmu x.c (k * (k - 1) / 2, 1)) = rd (x.b.1 * k * x.c.2 + x.c.1 * (k * (k - 1) / 2) * x.b.2, x.b.2 * x.c.2) := by
      rw [show rmu x.b (k, 1) = rd (x.b.1 * k, x.b.2 * 1) from rfl, show rmu x.c (k * (k - 1) / 2, 1) = rd (x.c.1 * (k * (k - 1) / 2), x.c.2 * 1) from rfl, rad_rd pb pc]
      simp only [rad, rd, Int.mul_one]
    have e2 : rmu x.c (k * k, 1) = rd (x.c.1 * (k * k), x.c.2) := by simp only [rmu, rd, Int.mul_one]
    unfold val
    rw [e1, e2]
    simp only []
    rw [rmu_l S1.pos one_pos, rmu_l S2.pos one_pos]
  simp [atv, hq, e, o, v]
theorem atv_sz {x : B4} (h : SzB x) {q : Int} (q0 : 0 ≤ q) (q32 : Lt2 q 32) : Sz (atv x q) 300 300 := by
  have z1 : Sz ((1 : Int), (1 : Int)) 1 1 := .int (show (1 : Int).natAbs < 2 ^ 1 by decide)
  have z0 : Sz ((0 : Int), (1 : Int)) 1 1 := .int (show (0 : Int).natAbs < 2 ^ 1 by decide)
  have hq2 : Lt2 (q * (q - 1)) 65 := q32.mul (q32.sub (show (1 : Int).natAbs < 2 ^ 32 by decide))
  have hq3 : Lt2 (q * (q - 1) / 2) 65 := by
    by_cases y : q = 0
    · rw [y]; exact Lt2.mono (k := 1) (show (0 : Int).natAbs < 2 ^ 1 by decide) (by decide)
    · exact .of_le (y := q * (q - 1)) (by
        have : 0 ≤ q * (q - 1) := Int.mul_nonneg q0 (by omega)
        omega) hq2
  have z2 := h.b.rmu (.int q32)
  have z3 := h.a.rad z2 (e := 180) (by decide) (by decide)
  have z5 := h.c.rmu (.int hq3)
  have z6 : Sz (val x q) 300 300 := (z3.rad z5 (e := 262) (by decide) (by decide)).mono (by decide) (by decide)
  unfold atv
  split
  · exact z0.mono (by decide) (by decide)
  · split
    · exact z1.mono (by decide) (by decide)
    · split
      · exact z1.mono (by decide) (by decide)
      · exact z6
/-- a refusal -/
def spRef (K : PySem.W.Frag) : Sp := fun vs H Q _ => ∃ (a b c : Addr) (x : B4), vs = [.ref a, .ref b, .ref c, lv x.l] ∧ RatAt K H a x.a ∧ RatAt K H b x.b ∧ RatAt K H c x.c ∧ bad x ∧ ∀ H', Same H H' → Q (.bl true) H'
theorem ok_l_refused (T : Tk K mg) : Okd P w K mg base (L2.CX P w) 3 "_law_refused" ["_law_flat", "_law_first", "_law_more", "_law_limit"] (spRef K) := by
  refine Okd.of s_l_refused (T.df 26) (T.glo 44) sc_l_refused (fun _ _ _ _ _ _ us hl => match us, hl with | [_, _, _, _], _ => rfl) (fun vs H Q E h => ?_) (fun cdv A outer s H vs Q E h hr hpo tk px pxe => ?_)
  · obtain ⟨a, b, c, x, rfl, _⟩ := h; rfl
  obtain ⟨a, b, c, x, rfl, ha, hb, hc, hbad, hQ⟩ := h
  refine ⟨_, (pss_cons (ps_try_as (i := 4) (tb := fun W => (tDrop (tMakeS (He.ga K "Bound") (spBInit K) [] (WE W) (tCons (tVar 0) (tCons (tVar 1) (tCons (tVar 2) (tCons (tVar 3) tNil))))))) (ts := fun a cls d => (tRet (tAndV (tCB (rIsX K a cls d) (tCons (tVar 4) (tCons (tC (.ref (He.ga K "BadBound"))) tNil))) (tNotV (tCB (rIsX K a cls d) (tCons (tVar 4) (tCons (tC (.ref (He.ga K "BadStep"))) tNil))))))) rfl rfl sc_l_refused.nd rfl rfl ⟨by rfl, by decide, .inl (T.glo 42)⟩ takes0 (fun W pn xe tk hpo => (pss_one (ps_expr (by exact (pmkS (mk_Bound_4 T) (hr.mono (by decide)) (by rfl) (fun σ => passAt tk σ) (pa_cons (pv 0) (pa_cons (pv 1) (pa_cons (pv 2) (pa_cons (pv 3) pa_nil))))))))) (fun a oe cls d pn hz hf => (pss_one (ps_ret (pe_and (pe_callB (call_isX hz hf) (by rfl) (T.free 9) (by decide +kernel) (pa_cons (pv 4) (pa_cons (pe_glob (v := .ref (He.ga K "BadBound")) (by rfl) (T.glo 2) rfl) pa_nil))) (pe_one (pe_not (pe_callB (call_isX hz hf) (by rfl) (T.free 9) (by decide +kernel) (pa_cons (pv 4) (pa_cons (pe_glob (v := .ref (He.ga K "BadStep")) (by rfl) (T.glo 43) rfl) pa_nil))))))))))
  (pss_one (ps_ret pe_bl))), ?_⟩
  clear hr hpo tk px pxe
  simp only [tSeq, tIfS, tTest, tOp, tVar, tC, tCB, tCons, tNil, tRet, tAsg, gName, tNext, tDrop, rI, rI0, rEq, rNe, sc_ii, sc_ss, sc_bb, sc_in, sc_ni, sc_nn, sc_si, sc_is, List.getElem?_cons_zero, List.getElem?_cons_succ, List.set_cons_zero, List.set_cons_succ, Option.some.injEq, exists_eq_left', exists_eq_left, L2.start, cxOf, List.cons.injEq, and_true, exists_and_left, exists_and_right, exists_eq', V.int.injEq, V.bl.injEq, V.str.injEq, V.ref.injEq, List.length_cons, List.length_nil, List.cons_append, List.nil_append, true_and, List.map, List.replicate, tAndV, tOrV, tNotV, tTest, tB, tNot, tAnd, tOr, Nat.zero_add, Nat.reduceAdd, Nat.reduceSub, Nat.sub_self, sFld, tFld, tPar, tMake, tCall, tMeth, tTup, tLst, HO.ins.injEq, and_assoc, reduceCtorEq, false_and, exists_false, false_or, or_false, tFmt, tJs, tBreak, tCont, tMakeS, tCallS, Int.zero_add, if_true, if_false, Bool.false_eq_true, Bool.not_true, Bool.not_false, tUn, rU, tNotN, tIsN, decide_true, decide_false, tBM, rAppend, HO.lst.injEq, HO.tup.injEq, wipe, tLstRg, tRg1]
  intro y dx ny ndx ne
  have sm : Same H (upd (upd H dx (.own y)) y (.ins (He.ga K "Bound") dx [])) := fun b o e => by rw [upd_ne (ne_of_none e ny), upd_ne (ne_of_none e ndx)]; exact e
  refine ⟨y, dx, a, b, c, x, rfl, upd_same, ha.same sm, hb.same sm, hc.same sm, fun _ H1 s1 => ?_, fun z => absurd hbad z⟩
  refine ⟨true, T.exm 53, fun _ a ha => ?_, fun z => nomatch z⟩
  have sm := sm.trans s1
  simp only [tSeq, tIfS, tTest, tOp, tVar, tC, tCB, tCons, tNil, tRet, tAsg, gName, tNext, tDrop, rI, rI0, rEq, rNe, sc_ii, sc_ss, sc_bb, sc_in, sc_ni, sc_nn, sc_si, sc_is, List.getElem?_cons_zero, List.getElem?_cons_succ, List.set_cons_zero, List.set_cons_succ, Option.some.injEq, exists_eq_left', exists_eq_left, L2.start, cxOf, List.cons.injEq, and_true, exists_and_left, exists_and_right, exists_eq', V.int.injEq, V.bl.injEq, V.str.injEq, V.ref.injEq, List.length_cons, List.length_nil, List.cons_append, List.nil_append, true_and, List.map, List.replicate, tAndV, tOrV, tNotV, tTest, tB, tNot, tAnd, tOr, Nat.zero_add, Nat.reduceAdd, Nat.reduceSub, Nat.sub_self, sFld, tFld, tPar, tMake, tCall, tMeth, tTup, tLst, HO.ins.injEq, and_assoc, reduceCtorEq, false_and, exists_false, false_or, or_false, tFmt, tJs, tBreak, tCont, tMakeS, tCallS, Int.zero_add, if_true, if_false, Bool.false_eq_true, Bool.not_true, Bool.not_false, tUn, rU, tNotN, tIsN, decide_true, decide_false, tBM, rAppend, HO.lst.injEq, HO.tup.injEq, wipe, tLstRg, tRg1]
  have hE := excB_ok (T.fx 4)
  refine ⟨_, _, _, true, rfl, rfl, hE, rfl, .own _, kit_self, true, rfl, iteT ?_⟩
  refine ⟨_, _, _, false, rfl, rfl, hE, rfl, .own _, isB_ok (T.fx 5), false, rfl, ?_⟩
  exact hQ _ sm
end
end K30

namespace K30
open PySem PySem.Spec PyProof.Rows L2 TL PL
section
variable {P : Program} {w : World} {K : PySem.W.Frag} {mg : Str → Option Value} {base : Heap}
def spLaw (K : PySem.W.Frag) : Sp := fun vs H Q _ => ∃ (a : Addr) (ns : List Int), vs = [.ref a] ∧ SqL K H a (ns.map V.int) ∧ ns.length ≤ 63 ∧ ∀ H', Q (.bl true) H'
structure Sit (K : PySem.W.Frag) (H : Hp) (a : Addr) (ns : List Int) (D b1 b2 p v1 v2 : Addr) (x1 x2 : B4) : Prop where
  S : SqL K H a (ns.map V.int)
  D : H D = some (.lst [.ref b1, .ref b2])
  b1 : BndAt K H b1 (rdB x1)
  b2 : BndAt K H b2 (rdB x2)
  p : BndAt K H p (rdB (plusB x1 x2))
  v1 : Drawn H v1 x1
  v2 : Drawn H v2 x2
theorem Sit.same {H H' : Hp} {a : Addr} {ns : List Int} {D b1 b2 p v1 v2 : Addr} {x1 x2 : B4} (h : Sit K H a ns D b1 b2 p v1 v2 x1 x2) (s : Same H H') : Sit K H' a ns D b1 b2 p v1 v2 x1 x2 :=
  ⟨s.seq h.S, s _ _ h.D, h.b1.same s, h.b2.same s, h.p.same s, h.v1.same s, h.v2.same s⟩
theorem slice_row {H : Hp} {D2 q1 q2 : Addr} {L A B : List V} {lo : Option Int} {Q : VK} (h1 : H q1 = some (.lst A)) (h2 : H q2 = some (.lst B)) (hD : SqL K H D2 L) (n : A.length + B.length + (cutV L lo none).length ≤ 100) (q : ∀ p H', Same H H' → H' p = some (.lst (A ++ B ++ cutV L lo none)) → Q (.ref p) H') :
    rCat (.ref q1) (.ref q2) H fun x H1 => rSlL K (.ref D2) lo none H1 fun y H2 => rCat x y H2 Q := by
  have sz : 100 ≤ sizeLine := by decide
  refine ⟨q1, q2, _, _, rfl, rfl, h1, h2, by omega, fun p np => ?_⟩
  have s1 := same_upd (o := HO.lst (A ++ B)) np
  refine ⟨D2, L, rfl, s1.seq hD, fun r nr => ?_⟩
  have s2 := same_upd (o := HO.lst (cutV L lo none)) nr
  refine ⟨p, r, _, _, rfl, rfl, s2 _ _ upd_same, upd_same, by rw [List.length_append]; omega, fun z nz => ?_⟩
  exact q z _ ((s1.trans s2).trans (same_upd nz)) upd_same
theorem law_body (T : Tk K mg) : BodyLaw P w K mg base N_law "law" s_law (He.ga K "law") 8 (spLaw K) := by
  intro cdv A outer s H vs Q E h hr hpo tk px
  obtain ⟨a, ns, rfl, hS, hlen, hQ⟩ := h
  refine ⟨_, (pss_cons (ps_set (i := 1) sc_law.nd rfl (Or.inl rfl) (pf (ok_l_drawn T) (hr.mono (by decide)) (by rfl) px (pa_cons (pf (ok_l_cell T a ns) (hr.mono (by decide)) (by rfl) px (pa_cons (pv 0) (pa_cons pe_int pa_nil))) pa_nil)))
  (pss_cons (ps_set (i := 2) sc_law.nd rfl (Or.inl rfl) (pf (ok_l_drawn T) (hr.mono (by decide)) (by rfl) px (pa_cons (pf (ok_l_cell T a ns) (hr.mono (by decide)) (by rfl) px (pa_cons (pv 0) (pa_cons pe_int pa_nil))) pa_nil)))
  (pss_cons (ps_set (i := 3) sc_law.nd rfl (Or.inl rfl) (pe_op op_mod (pe_callTy call_int1 (by rfl) (T.free 26) (by decide +kernel) (pa_cons (pf (ok_l_cell T a ns) (hr.mono (by decide)) (by rfl) px (pa_cons (pv 0) (pa_cons pe_int pa_nil))) pa_nil)) pe_int))
  (C8.pss_cut (ps_if (pt_cmpR op_eq (pe_op op_mod (pe_callTy call_int1 (by rfl) (T.free 26) (by decide +kernel) (pa_cons (pf (ok_l_cell T a ns) (hr.mono (by decide)) (by rfl) px (pa_cons (pv 0) (pa_cons pe_int pa_nil))) pa_nil)) pe_int) pe_int (nomark _)) (pss_one (ps_set (i := 3) sc_law.nd rfl (Or.inl rfl) (pe_op op_mod (pe_op op_fdiv (pe_callTy call_int1 (by rfl) (T.free 26) (by decide +kernel) (pa_cons (pf (ok_l_cell T a ns) (hr.mono (by decide)) (by rfl) px (pa_cons (pv 0) (pa_cons pe_int pa_nil))) pa_nil)) pe_int) pe_int))) pss_nil)
  (pss_cons (ps_set (i := 4) sc_law.nd rfl (Or.inl rfl) (pe_op op_mod (pe_callB call_abs (by rfl) (T.free 0) (by decide +kernel) (pa_cons (pf (ok_l_cell T a ns) (hr.mono (by decide)) (by rfl) px (pa_cons (pv 0) (pa_cons pe_int pa_nil))) pa_nil)) pe_int))
  (pss_cons (ps_set (i := 5) sc_law.nd rfl (Or.inl rfl) (pe_lst (pa_cons (pf (ok_l_made T) (hr.mono (by decide)) (by rfl) px (pa_cons (pv 1) pa_nil)) (pa_cons (pf (ok_l_made T) (hr.mono (by decide)) (by rfl) px (pa_cons (pv 2) pa_nil)) pa_nil))))
  (pss_cons (ps_set (i := 6) sc_law.nd rfl (Or.inl rfl) (pm (ok_Bound_plus T) (hr.mono (by decide)) px (pe_ix ix_list (pv 5) pe_int (fun _ _ => rfl)) (pa_cons (pe_ix ix_list (pv 5) pe_int (fun _ _ => rfl)) pa_nil)))
  (pss_cons (ps_if (PW.pt (pw_or (pt_cmpR (op_neOwn (T.fx 1) (ok_Bound_eq T) (hr.mono (by decide)) px) (pm (ok_Bound_within T) (hr.mono (by decide)) px (pe_ix ix_list (pv 5) pe_int (fun _ _ => rfl)) (pa_cons (pv 3) pa_nil)) (pm (ok_Bound_within T) (hr.mono (by decide)) px (pf (ok_l_made T) (hr.mono (by decide)) (by rfl) px (pa_cons (pv 1) pa_nil)) (pa_cons (pv 3) pa_nil)) (nomark _)) (pw_or1 (pt_cmpR (op_neOwn (T.fx 1) (ok_Bound_eq T) (hr.mono (by decide)) px) (pm (ok_Bound_plus T) (hr.mono (by decide)) px (pe_ix ix_list (pv 5) pe_int (fun _ _ => rfl)) (pa_cons (pe_ix ix_list (pv 5) pe_int (fun _ _ => rfl)) pa_nil)) (pv 6) (nomark _))))) (pss_one (ps_ret pe_bl)) pss_nil)
  (pss_cons (ps_if (PW.pt (pw_or (pt_not (pt_val (pf (ok_l_is T) (hr.mono (by decide)) (by rfl) px (pa_cons (pe_ix ix_list (pv 5) pe_int (fun _ _ => rfl)) (pa_cons (pv 1) (pa_cons (pv 4) pa_nil)))))) (pw_or1 (pt_not (pt_val (pf (ok_l_is T) (hr.mono (by decide)) (by rfl) px (pa_cons (pe_ix ix_list (pv 5) pe_int (fun _ _ => rfl)) (pa_cons (pv 2) (pa_cons (pv 4) pa_nil))))))))) (pss_one (ps_ret pe_bl)) pss_nil)
  (pss_cons (ps_if (PW.pt (pw_or (pt_not (pt_val (pf (ok_l_is T) (hr.mono (by decide)) (by rfl) px (pa_cons (pf (ok_l_made T) (hr.mono (by decide)) (by rfl) px (pa_cons (pv 1) pa_nil)) (pa_cons (pv 1) (pa_cons (pv 4) pa_nil)))))) (pw_or1 (pt_not (pt_val (pf (ok_l_is T) (hr.mono (by decide)) (by rfl) px (pa_cons (pv 6) (pa_cons (pf (ok_l_plus_of T) (hr.mono (by decide)) (by rfl) px (pa_cons (pv 1) (pa_cons (pv 2) pa_nil))) (pa_cons (pv 4) pa_nil))))))))) (pss_one (ps_ret pe_bl)) pss_nil)
  (pss_cons (ps_set (i := 7) sc_law.nd rfl (Or.inl rfl) (pm (ok_Bound_within T) (hr.mono (by decide)) px (pf (ok_l_made T) (hr.mono (by decide)) (by rfl) px (pa_cons (pv 1) pa_nil)) (pa_cons (pv 3) pa_nil)))
  (pss_cons (ps_set (i := 8) sc_law.nd rfl (Or.inl rfl) (pe_tup (pa_cons (pe_lst (pa_cons (pe_tup (pa_cons pe_int (pa_cons pe_int pa_nil))) (pa_cons (pe_tup (pa_cons pe_int (pa_cons pe_int pa_nil))) (pa_cons (pe_tup (pa_cons pe_int (pa_cons pe_int pa_nil))) pa_nil)))) (pa_cons pe_non pa_nil))))
  (pss_cons (ps_if (PW.pt (pw_or (pt_not (pt_val (pf (ok_l_is T) (hr.mono (by decide)) (by rfl) px (pa_cons (pv 7) (pa_cons (pf (ok_l_within T) (hr.mono (by decide)) (by rfl) px (pa_cons (pv 1) (pa_cons (pv 3) pa_nil))) (pa_cons (pv 4) pa_nil)))))) (pw_or1 (pt_not (pt_val (pf (ok_l_is T) (hr.mono (by decide)) (by rfl) px (pa_cons (pf0 (ok_nothing T) (hr.mono (by decide)) (by rfl) px) (pa_cons (pv 8) (pa_cons (pv 4) pa_nil))))))))) (pss_one (ps_ret pe_bl)) pss_nil)
  (pss_cons (ps_for hpo rfl (pi_list (pe_op op_cat (pe_listRg rfl (by rfl) (T.free 39) (prg_1 (by rfl) (T.free 28) pe_int)) (pe_lst (pa_cons (pv 4) pa_nil)))) (pg_name (i := 9) sc_law.nd rfl (Or.inl rfl)) (pss_one (ps_if (pt_val (pm (ok_Ratio_below T) (hr.mono (by decide)) px (pm (ok_Bound_at T) (hr.mono (by decide)) px (pv 7) (pa_cons (pv 9) pa_nil)) (pa_cons (pm (ok_Bound_at T) (hr.mono (by decide)) px (pf (ok_l_made T) (hr.mono (by decide)) (by rfl) px (pa_cons (pv 1) pa_nil)) (pa_cons (pe_op op_mulW (pv 3) (pv 9)) pa_nil)) pa_nil))) (pss_one (ps_ret pe_bl)) pss_nil)))
  (pss_cons (ps_if (pt_cmpR op_ne (pe_cmpR (op_eqOwn (ok_Bound_eq T) (hr.mono (by decide)) px) (pf (ok_l_made T) (hr.mono (by decide)) (by rfl) px (pa_cons (pv 1) pa_nil)) (pf (ok_l_made T) (hr.mono (by decide)) (by rfl) px (pa_cons (pv 2) pa_nil)) (nomark _)) (pe_cmpR (op_eqD hr.units) (pf (ok_l_told T) (hr.mono (by decide)) (by rfl) px (pa_cons (pv 1) pa_nil)) (pf (ok_l_told T) (hr.mono (by decide)) (by rfl) px (pa_cons (pv 2) pa_nil)) (nomark _)) (nomark _)) (pss_one (ps_ret pe_bl)) pss_nil)
  (pss_cons (ps_set (i := 10) sc_law.nd rfl (Or.inl rfl) (pmk (mk_Ratio_2 T) (hr.mono (by decide)) (by rfl) px (pa_cons (pe_un un_neg pe_int) (pa_cons pe_int pa_nil))))
  (pss_cons (ps_set (i := 11) sc_law.nd rfl (Or.inl rfl) (pmk (mk_Ratio_1 T) (hr.mono (by decide)) (by rfl) px (pa_cons pe_int pa_nil)))
  (pss_cons (ps_if (PW.pt (pw_or (pt_not (pt_val (pf (ok_l_refused T) (hr.mono (by decide)) (by rfl) px (pa_cons (pv 10) (pa_cons (pv 11) (pa_cons (pv 11) (pa_cons pe_non pa_nil))))))) (pw_or1 (pt_not (pt_val (pf (ok_l_refused T) (hr.mono (by decide)) (by rfl) px (pa_cons (pv 11) (pa_cons (pv 10) (pa_cons (pv 11) (pa_cons pe_int pa_nil)))))))))) (pss_one (ps_ret pe_bl)) pss_nil)
  (pss_cons (ps_setLc (i := 12) (own := [("_law_part", 13)]) (g := gName 13) (tt := tYes) (te := (tMake (He.ga K "Ratio") (spInit K) [] E0 (tCons (tOp (rIxT K) (tVar 13) (tC (.int 0))) (tCons (tOp (rIxT K) (tVar 13) (tC (.int 1))) tNil)))) (by rfl) sc_law.nd rfl rfl (sw_true rfl rfl rfl (by decide +kernel)) (pi_list (pe_ix ix_tup (pv 1) pe_int (fun _ _ => rfl))) (blkOk_by (own := [("_law_part", 13)]) (N := N_law) (sc := defScope s_law) (by decide +kernel)) (fun _ _ _ _ _ => pg_name (i := 13) sc_law.nd rfl (Or.inl rfl)) (fun _ _ _ _ _ => pts_nil) (fun _ _ _ _ _ => (pmk (mk_Ratio_2 T) (hr.mono (by decide)) (by rfl) passL (pa_cons (pe_ix (r := rIxT K) ix_tup (pv 13) pe_int (fun _ _ => rfl)) (pa_cons (pe_ix (r := rIxT K) ix_tup (pv 13) pe_int (fun _ _ => rfl)) pa_nil)))))
  (pss_cons (ps_set (i := 14) sc_law.nd rfl (Or.inl rfl) (pmk (mk_Ratio_2 T) (hr.mono (by decide)) (by rfl) px (pa_cons (pe_op op_sub (pe_un un_neg pe_int) (pe_op op_mod (pe_op op_fdiv (pe_callTy call_int1 (by rfl) (T.free 26) (by decide +kernel) (pa_cons (pf (ok_l_cell T a ns) (hr.mono (by decide)) (by rfl) px (pa_cons (pv 0) (pa_cons pe_int pa_nil))) pa_nil)) pe_int) pe_int)) (pa_cons (pe_op op_add pe_int (pe_op op_mod (pv 4) pe_int)) pa_nil))))
  (pss_cons (ps_for hpo rfl (pi_range1 rfl (T.free 28) (pa_cons pe_int pa_nil)) (pg_name (i := 15) sc_law.nd rfl (Or.inl rfl)) (pss_cons (ps_set (i := 16) sc_law.nd rfl (Or.inl rfl) (pe_op op_cat (pe_op op_cat (pe_slice sl_list (pv 12) po_none (po_some (pv 15))) (pe_lst (pa_cons (pv 14) pa_nil))) (pe_slice sl_list (pv 12) (po_some (pe_op op_add (pv 15) pe_int)) po_none)))
   (pss_one (ps_if (pt_not (pt_val (pf (ok_l_refused T) (hr.mono (by decide)) (by rfl) px (pa_cons (pe_ix ix_list (pv 16) pe_int (fun _ _ => rfl)) (pa_cons (pe_ix ix_list (pv 16) pe_int (fun _ _ => rfl)) (pa_cons (pe_ix ix_list (pv 16) pe_int (fun _ _ => rfl)) (pa_cons (pe_ix ix_tup (pv 1) pe_int (fun _ _ => rfl)) pa_nil))))))) (pss_one (ps_ret pe_bl)) pss_nil))))
  (pss_cons (ps_if (pt_not (pt_val (pf (ok_l_refused T) (hr.mono (by decide)) (by rfl) px (pa_cons (pe_ix ix_list (pv 12) pe_int (fun _ _ => rfl)) (pa_cons (pe_ix ix_list (pv 12) pe_int (fun _ _ => rfl)) (pa_cons (pe_ix ix_list (pv 12) pe_int (fun _ _ => rfl)) (pa_cons (pe_op op_sub (pe_un un_neg pe_int) (pe_op op_mod (pv 4) pe_int)) pa_nil))))))) (pss_one (ps_ret pe_bl)) pss_nil)
  (pss_one (ps_ret (pe_and (pf (ok_l_refused T) (hr.mono (by decide)) (by rfl) px (pa_cons (pv 11) (pa_cons (pv 11) (pa_cons (pv 10) (pa_cons pe_non pa_nil))))) (pe_one (pf (ok_l_refused T) (hr.mono (by decide)) (by rfl) px (pa_cons (pv 11) (pa_cons (pv 11) (pa_cons (pv 11) (pa_cons (pe_un un_neg pe_int) pa_nil))))))))))))))))))))))))))))))), ?_⟩
  clear hr hpo tk px
  simp only [tSeq]
  simp only [tIfS, tTest, tOp, tVar, tC, tCB, tCons, tNil, tRet, tAsg, gName, tNext, tDrop, rI, rI0, rEq, rNe, sc_ii, sc_ss, sc_bb, sc_in, sc_ni, sc_nn, sc_si, sc_is, List.getElem?_cons_zero, List.getElem?_cons_succ, List.set_cons_zero, List.set_cons_succ, Option.some.injEq, exists_eq_left', exists_eq_left, L2.start, cxOf, List.cons.injEq, and_true, exists_and_left, exists_and_right, exists_eq', V.int.injEq, V.bl.injEq, V.str.injEq, V.ref.injEq, List.length_cons, List.length_nil, List.cons_append, List.nil_append, true_and, List.map, List.replicate, tAndV, tOrV, tNotV, tTest, tB, tNot, tAnd, tOr, Nat.zero_add, Nat.reduceAdd, Nat.reduceSub, Nat.sub_self, sFld, tFld, tPar, tMake, tCall, tMeth, tTup, tLst, HO.ins.injEq, and_assoc, reduceCtorEq, false_and, exists_false, false_or, or_false, tFmt, tJs, tBreak, tCont, tMakeS, tCallS, Int.zero_add, if_true, if_false, Bool.false_eq_true, Bool.not_true, Bool.not_false, tUn, rU, tNotN, tIsN, decide_true, decide_false, tBM, rAppend, HO.lst.injEq, HO.tup.injEq, wipe, tLstRg, tRg1]
  refine ⟨0, rfl, hS, by decide, ⟨_, rfl, fun v1 H1 x1 s1 hv1 d1 => ?_⟩⟩
  simp only [tSeq]
  simp only [tIfS, tTest, tOp, tVar, tC, tCB, tCons, tNil, tRet, tAsg, gName, tNext, tDrop, rI, rI0, rEq, rNe, sc_ii, sc_ss, sc_bb, sc_in, sc_ni, sc_nn, sc_si, sc_is, List.getElem?_cons_zero, List.getElem?_cons_succ, List.set_cons_zero, List.set_cons_succ, Option.some.injEq, exists_eq_left', exists_eq_left, L2.start, cxOf, List.cons.injEq, and_true, exists_and_left, exists_and_right, exists_eq', V.int.injEq, V.bl.injEq, V.str.injEq, V.ref.injEq, List.length_cons, List.length_nil, List.cons_append, List.nil_append, true_and, List.map, List.replicate, tAndV, tOrV, tNotV, tTest, tB, tNot, tAnd, tOr, Nat.zero_add, Nat.reduceAdd, Nat.reduceSub, Nat.sub_self, sFld, tFld, tPar, tMake, tCall, tMeth, tTup, tLst, HO.ins.injEq, and_assoc, reduceCtorEq, false_and, exists_false, false_or, or_false, tFmt, tJs, tBreak, tCont, tMakeS, tCallS, Int.zero_add, if_true, if_false, Bool.false_eq_true, Bool.not_true, Bool.not_false, tUn, rU, tNotN, tIsN, decide_true, decide_false, tBM, rAppend, HO.lst.injEq, HO.tup.injEq, wipe, tLstRg, tRg1]
  refine ⟨1, rfl, s1.seq hS, by decide, ⟨_, rfl, fun v2 H2 x2 s2 hv2 d2 => ?_⟩⟩
  have hv1 := hv1.same s2
  have s2 := s1.trans s2
  clear s1
  show tSeq _ _ _ _ _
  simp only [tSeq]
  simp only [tIfS, tTest, tOp, tVar, tC, tCB, tCons, tNil, tRet, tAsg, gName, tNext, tDrop, rI, rI0, rEq, rNe, sc_ii, sc_ss, sc_bb, sc_in, sc_ni, sc_nn, sc_si, sc_is, List.getElem?_cons_zero, List.getElem?_cons_succ, List.set_cons_zero, List.set_cons_succ, Option.some.injEq, exists_eq_left', exists_eq_left, L2.start, cxOf, List.cons.injEq, and_true, exists_and_left, exists_and_right, exists_eq', V.int.injEq, V.bl.injEq, V.str.injEq, V.ref.injEq, List.length_cons, List.length_nil, List.cons_append, List.nil_append, true_and, List.map, List.replicate, tAndV, tOrV, tNotV, tTest, tB, tNot, tAnd, tOr, Nat.zero_add, Nat.reduceAdd, Nat.reduceSub, Nat.sub_self, sFld, tFld, tPar, tMake, tCall, tMeth, tTup, tLst, HO.ins.injEq, and_assoc, reduceCtorEq, false_and, exists_false, false_or, or_false, tFmt, tJs, tBreak, tCont, tMakeS, tCallS, Int.zero_add, if_true, if_false, Bool.false_eq_true, Bool.not_true, Bool.not_false, tUn, rU, tNotN, tIsN, decide_true, decide_false, tBM, rAppend, HO.lst.injEq, HO.tup.injEq, wipe, tLstRg, tRg1]
  refine ⟨2, rfl, s2.seq hS, by decide, .inl ⟨_, rfl, by decide, ?_⟩⟩
  show C8.tCut _ _ _ _ _
  generalize hk0 : ns.getD (2 : Int).toNat 0 = c2
  refine ⟨fun σ' H' => ∃ k : Int, 0 ≤ k ∧ k < 1000 ∧ H' = H2 ∧ σ' = some (.ref a) :: some (.ref v1) :: some (.ref v2) :: some (.int k) :: List.replicate 13 none, ?_, ?_⟩
  · have f : ∀ (i : Int), 0 < (5 : Int) := fun _ => by decide
    simp only [tIfS, tTest, tOp, tVar, tC, tCB, tCons, tNil, tRet, tAsg, gName, tNext, tDrop, rI, rI0, rEq, rNe, sc_ii, sc_ss, sc_bb, sc_in, sc_ni, sc_nn, sc_si, sc_is, List.getElem?_cons_zero, List.getElem?_cons_succ, List.set_cons_zero, List.set_cons_succ, Option.some.injEq, exists_eq_left', exists_eq_left, L2.start, cxOf, List.cons.injEq, and_true, exists_and_left, exists_and_right, exists_eq', V.int.injEq, V.bl.injEq, V.str.injEq, V.ref.injEq, List.length_cons, List.length_nil, List.cons_append, List.nil_append, true_and, List.map, List.replicate, tAndV, tOrV, tNotV, tTest, tB, tNot, tAnd, tOr, Nat.zero_add, Nat.reduceAdd, Nat.reduceSub, Nat.sub_self, sFld, tFld, tPar, tMake, tCall, tMeth, tTup, tLst, HO.ins.injEq, and_assoc, reduceCtorEq, false_and, exists_false, false_or, or_false, tFmt, tJs, tBreak, tCont, tMakeS, tCallS, Int.zero_add, if_true, if_false, Bool.false_eq_true, Bool.not_true, Bool.not_false, tUn, rU, tNotN, tIsN, decide_true, decide_false, tBM, rAppend, HO.lst.injEq, HO.tup.injEq, wipe, tLstRg, tRg1]
    refine ⟨2, rfl, s2.seq hS, by decide, .inl ⟨_, rfl, by decide, ite2 (fun _ => ?_) (fun _ => ?_)⟩⟩
    · refine ⟨2, rfl, s2.seq hS, by decide, .inl ⟨_, rfl, ⟨by decide, by decide⟩, by decide, _, ?_, ?_, rfl, rfl⟩⟩ <;> omega
    · refine ⟨_, ?_, ?_, rfl, rfl⟩ <;> omega
  rintro σ H' ⟨k, k0, k1, rfl, rfl⟩
  clear hk0 c2
  have k10 := lt2_10 k0 k1
  simp only [tSeq]
  simp only [tIfS, tTest, tOp, tVar, tC, tCB, tCons, tNil, tRet, tAsg, gName, tNext, tDrop, rI, rI0, rEq, rNe, sc_ii, sc_ss, sc_bb, sc_in, sc_ni, sc_nn, sc_si, sc_is, List.getElem?_cons_zero, List.getElem?_cons_succ, List.set_cons_zero, List.set_cons_succ, Option.some.injEq, exists_eq_left', exists_eq_left, L2.start, cxOf, List.cons.injEq, and_true, exists_and_left, exists_and_right, exists_eq', V.int.injEq, V.bl.injEq, V.str.injEq, V.ref.injEq, List.length_cons, List.length_nil, List.cons_append, List.nil_append, true_and, List.map, List.replicate, tAndV, tOrV, tNotV, tTest, tB, tNot, tAnd, tOr, Nat.zero_add, Nat.reduceAdd, Nat.reduceSub, Nat.sub_self, sFld, tFld, tPar, tMake, tCall, tMeth, tTup, tLst, HO.ins.injEq, and_assoc, reduceCtorEq, false_and, exists_false, false_or, or_false, tFmt, tJs, tBreak, tCont, tMakeS, tCallS, Int.zero_add, if_true, if_false, Bool.false_eq_true, Bool.not_true, Bool.not_false, tUn, rU, tNotN, tIsN, decide_true, decide_false, tBM, rAppend, HO.lst.injEq, HO.tup.injEq, wipe, tLstRg, tRg1]
  refine ⟨3, rfl, s2.seq hS, by decide, ⟨_, rfl, by decide, ?_⟩⟩
  generalize ns.getD (3 : Int).toNat 0 = c3
  obtain ⟨wd, hwd, w0, w1⟩ : ∃ wd, (if c3 < 0 then -c3 else c3) % 1000000 = wd ∧ 0 ≤ wd ∧ wd < 1000000 := ⟨_, rfl, by omega, by omega⟩
  rw [hwd]
  clear hwd c3
  simp only [tSeq]
  simp only [tIfS, tTest, tOp, tVar, tC, tCB, tCons, tNil, tRet, tAsg, gName, tNext, tDrop, rI, rI0, rEq, rNe, sc_ii, sc_ss, sc_bb, sc_in, sc_ni, sc_nn, sc_si, sc_is, List.getElem?_cons_zero, List.getElem?_cons_succ, List.set_cons_zero, List.set_cons_succ, Option.some.injEq, exists_eq_left', exists_eq_left, L2.start, cxOf, List.cons.injEq, and_true, exists_and_left, exists_and_right, exists_eq', V.int.injEq, V.bl.injEq, V.str.injEq, V.ref.injEq, List.length_cons, List.length_nil, List.cons_append, List.nil_append, true_and, List.map, List.replicate, tAndV, tOrV, tNotV, tTest, tB, tNot, tAnd, tOr, Nat.zero_add, Nat.reduceAdd, Nat.reduceSub, Nat.sub_self, sFld, tFld, tPar, tMake, tCall, tMeth, tTup, tLst, HO.ins.injEq, and_assoc, reduceCtorEq, false_and, exists_false, false_or, or_false, tFmt, tJs, tBreak, tCont, tMakeS, tCallS, Int.zero_add, if_true, if_false, Bool.false_eq_true, Bool.not_true, Bool.not_false, tUn, rU, tNotN, tIsN, decide_true, decide_false, tBM, rAppend, HO.lst.injEq, HO.tup.injEq, wipe, tLstRg, tRg1]
  refine ⟨v1, x1, rfl, hv1, d1.lb, fun b1 H3 s3 n3 hb1 => ⟨v2, x2, rfl, hv2.same s3, d2.lb, fun b2 H4 s4 n4 hb2 => ⟨by decide, fun D nD => ?_⟩⟩⟩
  have sD := same_upd (o := HO.lst [V.ref b1, V.ref b2]) nD
  have hD : upd H4 D (HO.lst [V.ref b1, V.ref b2]) D = some (.lst [V.ref b1, V.ref b2]) := upd_same
  generalize upd H4 D (HO.lst [V.ref b1, V.ref b2]) = H5 at *
  have s5 := (s3.trans s4).trans sD
  have hb1 := (hb1.same s4).same sD
  have hb2 := hb2.same sD
  have hv1 := hv1.same s5
  have hv2 := hv2.same s5
  have sm := s2.trans s5
  clear s2 s3 s4 sD s5 n3 n4 nD
  have M1 := d1.lb
  have M2 := d2.lb
  have O1 := rdB_ok M1
  have O2 := rdB_ok M2
  have Z1 := rdB_sz M1.sz
  have Z2 := rdB_sz M2.sz
  obtain ⟨e1, _, _, _, i1, _⟩ := id hb1
  obtain ⟨e2, _, _, _, i2, _⟩ := id hb2
  have nn : ∀ (a b c : Addr) (l : Option Int), (BndF a b c l).lookup ("plus" : Str) = none ∧ (BndF a b c l).lookup ("within" : Str) = none ∧ (BndF a b c l).lookup ("at" : Str) = none := fun a b c l =>
    ⟨BndF_no _ _ _ _ (by decide +kernel) (by decide +kernel) (by decide +kernel) (by decide +kernel), BndF_no _ _ _ _ (by decide +kernel) (by decide +kernel) (by decide +kernel) (by decide +kernel), BndF_no _ _ _ _ (by decide +kernel) (by decide +kernel) (by decide +kernel) (by decide +kernel)⟩
  simp only [tSeq]
  simp only [tIfS, tTest, tOp, tVar, tC, tCB, tCons, tNil, tRet, tAsg, gName, tNext, tDrop, rI, rI0, rEq, rNe, sc_ii, sc_ss, sc_bb, sc_in, sc_ni, sc_nn, sc_si, sc_is, List.getElem?_cons_zero, List.getElem?_cons_succ, List.set_cons_zero, List.set_cons_succ, Option.some.injEq, exists_eq_left', exists_eq_left, L2.start, cxOf, List.cons.injEq, and_true, exists_and_left, exists_and_right, exists_eq', V.int.injEq, V.bl.injEq, V.str.injEq, V.ref.injEq, List.length_cons, List.length_nil, List.cons_append, List.nil_append, true_and, List.map, List.replicate, tAndV, tOrV, tNotV, tTest, tB, tNot, tAnd, tOr, Nat.zero_add, Nat.reduceAdd, Nat.reduceSub, Nat.sub_self, sFld, tFld, tPar, tMake, tCall, tMeth, tTup, tLst, HO.ins.injEq, and_assoc, reduceCtorEq, false_and, exists_false, false_or, or_false, tFmt, tJs, tBreak, tCont, tMakeS, tCallS, Int.zero_add, if_true, if_false, Bool.false_eq_true, Bool.not_true, Bool.not_false, tUn, rU, tNotN, tIsN, decide_true, decide_false, tBM, rAppend, HO.lst.injEq, HO.tup.injEq, wipe, tLstRg, tRg1]
  refine ixL_at 0 hD rfl ⟨_, rfl, _, _, i1, (nn _ _ _ _).1, ixL_at 1 hD rfl ⟨b1, b2, rdB x1, rdB x2, rfl, hb1, hb2, O1, O2, Z1, Z2, fun p H6 s6 n6 hp => ?_⟩⟩
  rw [plus_rd M1.sz M2.sz] at hp
  have Lp := plus_lb d1 d2
  simp only [tSeq]
  simp only [tIfS, tTest, tOp, tVar, tC, tCB, tCons, tNil, tRet, tAsg, gName, tNext, tDrop, rI, rI0, rEq, rNe, sc_ii, sc_ss, sc_bb, sc_in, sc_ni, sc_nn, sc_si, sc_is, List.getElem?_cons_zero, List.getElem?_cons_succ, List.set_cons_zero, List.set_cons_succ, Option.some.injEq, exists_eq_left', exists_eq_left, L2.start, cxOf, List.cons.injEq, and_true, exists_and_left, exists_and_right, exists_eq', V.int.injEq, V.bl.injEq, V.str.injEq, V.ref.injEq, List.length_cons, List.length_nil, List.cons_append, List.nil_append, true_and, List.map, List.replicate, tAndV, tOrV, tNotV, tTest, tB, tNot, tAnd, tOr, Nat.zero_add, Nat.reduceAdd, Nat.reduceSub, Nat.sub_self, sFld, tFld, tPar, tMake, tCall, tMeth, tTup, tLst, HO.ins.injEq, and_assoc, reduceCtorEq, false_and, exists_false, false_or, or_false, tFmt, tJs, tBreak, tCont, tMakeS, tCallS, Int.zero_add, if_true, if_false, Bool.false_eq_true, Bool.not_true, Bool.not_false, tUn, rU, tNotN, tIsN, decide_true, decide_false, tBM, rAppend, HO.lst.injEq, HO.tup.injEq, wipe, tLstRg, tRg1]
  have i1 := s6 _ _ i1
  have i2 := s6 _ _ i2
  have hD := s6 _ _ hD
  have hb1 := hb1.same s6
  have hb2 := hb2.same s6
  have hv1 := hv1.same s6
  have hv2 := hv2.same s6
  have sm := sm.trans s6
  clear s6 n6
  refine ixL_at 0 hD rfl ⟨_, rfl, _, _, i1, (nn _ _ _ _).2.1, ⟨b1, rdB x1, k, rfl, hb1, O1, Z1, k0, k10, fun c1 H7 s7 n7 hc1 => ?_⟩⟩
  refine ⟨v1, x1, rfl, hv1.same s7, M1, fun c2 H8 s8 n8 hc2 => ?_⟩
  obtain ⟨f2, _, _, _, j2, _⟩ := id hc2
  refine ⟨_, rfl, _, _, j2, (nn _ _ _ _).2.1, c2, rdB x1, k, rfl, hc2, O1, Z1, k0, k10, fun c3 H9 s9 n9 hc3 => ?_⟩
  rw [within_rd M1.sz] at hc1 hc3
  have Mw := within_lb d1 k0 k1
  have hc1 := (hc1.same s8).same s9
  obtain ⟨f1, _, _, _, j1, _⟩ := id hc1
  obtain ⟨f3, _, _, _, j3, _⟩ := id hc3
  refine rOwn_at j1 j3 ⟨c1, c3, _, _, rfl, hc1, hc3, (rdB_sz Mw.sz).wb, (rdB_sz Mw.sz).wb, fun H10 s10 => ⟨_, rfl, _, rfl, ?_⟩⟩
  have s79 := ((s7.trans s8).trans s9).trans s10
  have i1 := s79 _ _ i1
  have i2 := s79 _ _ i2
  have hD := s79 _ _ hD
  have hp := hp.same s79
  have hb1 := hb1.same s79
  have hb2 := hb2.same s79
  have hv1 := hv1.same s79
  have hv2 := hv2.same s79
  have sm := sm.trans s79
  clear s7 s8 s9 s10 s79 hc1 hc2 hc3 j1 j2 j3 n7 n8 n9
  simp only [tIfS, tTest, tOp, tVar, tC, tCB, tCons, tNil, tRet, tAsg, gName, tNext, tDrop, rI, rI0, rEq, rNe, sc_ii, sc_ss, sc_bb, sc_in, sc_ni, sc_nn, sc_si, sc_is, List.getElem?_cons_zero, List.getElem?_cons_succ, List.set_cons_zero, List.set_cons_succ, Option.some.injEq, exists_eq_left', exists_eq_left, L2.start, cxOf, List.cons.injEq, and_true, exists_and_left, exists_and_right, exists_eq', V.int.injEq, V.bl.injEq, V.str.injEq, V.ref.injEq, List.length_cons, List.length_nil, List.cons_append, List.nil_append, true_and, List.map, List.replicate, tAndV, tOrV, tNotV, tTest, tB, tNot, tAnd, tOr, Nat.zero_add, Nat.reduceAdd, Nat.reduceSub, Nat.sub_self, sFld, tFld, tPar, tMake, tCall, tMeth, tTup, tLst, HO.ins.injEq, and_assoc, reduceCtorEq, false_and, exists_false, false_or, or_false, tFmt, tJs, tBreak, tCont, tMakeS, tCallS, Int.zero_add, if_true, if_false, Bool.false_eq_true, Bool.not_true, Bool.not_false, tUn, rU, tNotN, tIsN, decide_true, decide_false, tBM, rAppend, HO.lst.injEq, HO.tup.injEq, wipe, tLstRg, tRg1, decide_true]
  refine ixL_at 0 hD rfl ⟨_, rfl, _, _, i1, (nn _ _ _ _).1, ixL_at 1 hD rfl ⟨b1, b2, rdB x1, rdB x2, rfl, hb1, hb2, O1, O2, Z1, Z2, fun c1 H7 s7 n7 hc1 => ?_⟩⟩
  rw [plus_rd M1.sz M2.sz] at hc1
  have hp7 := hp.same s7
  obtain ⟨f1, _, _, _, j1, _⟩ := id hc1
  obtain ⟨f3, _, _, _, j3, _⟩ := id hp7
  refine rOwn_at j1 j3 ⟨c1, p, _, _, rfl, hc1, hp7, (rdB_sz Lp.sz).wb, (rdB_sz Lp.sz).wb, fun H11 s11 => ⟨_, rfl, _, rfl, ?_⟩⟩
  have sit : Sit K H11 a ns D b1 b2 p v1 v2 x1 x2 := Sit.same ⟨sm.seq hS, hD, hb1, hb2, hp, hv1, hv2⟩ (s7.trans s11)
  clear s7 s11 n7 hc1 hp7 j1 j3 sm hS hD hb1 hb2 hp hv1 hv2 i1 i2
  simp only [decide_true]
  simp only [tIfS, tTest, tOp, tVar, tC, tCB, tCons, tNil, tRet, tAsg, gName, tNext, tDrop, rI, rI0, rEq, rNe, sc_ii, sc_ss, sc_bb, sc_in, sc_ni, sc_nn, sc_si, sc_is, List.getElem?_cons_zero, List.getElem?_cons_succ, List.set_cons_zero, List.set_cons_succ, Option.some.injEq, exists_eq_left', exists_eq_left, L2.start, cxOf, List.cons.injEq, and_true, exists_and_left, exists_and_right, exists_eq', V.int.injEq, V.bl.injEq, V.str.injEq, V.ref.injEq, List.length_cons, List.length_nil, List.cons_append, List.nil_append, true_and, List.map, List.replicate, tAndV, tOrV, tNotV, tTest, tB, tNot, tAnd, tOr, Nat.zero_add, Nat.reduceAdd, Nat.reduceSub, Nat.sub_self, sFld, tFld, tPar, tMake, tCall, tMeth, tTup, tLst, HO.ins.injEq, and_assoc, reduceCtorEq, false_and, exists_false, false_or, or_false, tFmt, tJs, tBreak, tCont, tMakeS, tCallS, Int.zero_add, if_true, if_false, Bool.false_eq_true, Bool.not_true, Bool.not_false, tUn, rU, tNotN, tIsN, decide_true, decide_false, tBM, rAppend, HO.lst.injEq, HO.tup.injEq, wipe, tLstRg, tRg1]
  simp only [tSeq]
  simp only [tIfS, tTest, tOp, tVar, tC, tCB, tCons, tNil, tRet, tAsg, gName, tNext, tDrop, rI, rI0, rEq, rNe, sc_ii, sc_ss, sc_bb, sc_in, sc_ni, sc_nn, sc_si, sc_is, List.getElem?_cons_zero, List.getElem?_cons_succ, List.set_cons_zero, List.set_cons_succ, Option.some.injEq, exists_eq_left', exists_eq_left, L2.start, cxOf, List.cons.injEq, and_true, exists_and_left, exists_and_right, exists_eq', V.int.injEq, V.bl.injEq, V.str.injEq, V.ref.injEq, List.length_cons, List.length_nil, List.cons_append, List.nil_append, true_and, List.map, List.replicate, tAndV, tOrV, tNotV, tTest, tB, tNot, tAnd, tOr, Nat.zero_add, Nat.reduceAdd, Nat.reduceSub, Nat.sub_self, sFld, tFld, tPar, tMake, tCall, tMeth, tTup, tLst, HO.ins.injEq, and_assoc, reduceCtorEq, false_and, exists_false, false_or, or_false, tFmt, tJs, tBreak, tCont, tMakeS, tCallS, Int.zero_add, if_true, if_false, Bool.false_eq_true, Bool.not_true, Bool.not_false, tUn, rU, tNotN, tIsN, decide_true, decide_false, tBM, rAppend, HO.lst.injEq, HO.tup.injEq, wipe, tLstRg, tRg1]
  refine ixL_at 0 sit.D rfl ⟨b1, v1, x1, wd, rfl, sit.b1, sit.v1, M1, M1.sz.wr, w0, w1, fun H12 s => ⟨_, rfl, ?_⟩⟩
  replace sit := sit.same s
  clear s
  simp only [tIfS, tTest, tOp, tVar, tC, tCB, tCons, tNil, tRet, tAsg, gName, tNext, tDrop, rI, rI0, rEq, rNe, sc_ii, sc_ss, sc_bb, sc_in, sc_ni, sc_nn, sc_si, sc_is, List.getElem?_cons_zero, List.getElem?_cons_succ, List.set_cons_zero, List.set_cons_succ, Option.some.injEq, exists_eq_left', exists_eq_left, L2.start, cxOf, List.cons.injEq, and_true, exists_and_left, exists_and_right, exists_eq', V.int.injEq, V.bl.injEq, V.str.injEq, V.ref.injEq, List.length_cons, List.length_nil, List.cons_append, List.nil_append, true_and, List.map, List.replicate, tAndV, tOrV, tNotV, tTest, tB, tNot, tAnd, tOr, Nat.zero_add, Nat.reduceAdd, Nat.reduceSub, Nat.sub_self, sFld, tFld, tPar, tMake, tCall, tMeth, tTup, tLst, HO.ins.injEq, and_assoc, reduceCtorEq, false_and, exists_false, false_or, or_false, tFmt, tJs, tBreak, tCont, tMakeS, tCallS, Int.zero_add, if_true, if_false, Bool.false_eq_true, Bool.not_true, Bool.not_false, tUn, rU, tNotN, tIsN, decide_true, decide_false, tBM, rAppend, HO.lst.injEq, HO.tup.injEq, wipe, tLstRg, tRg1]
  refine ixL_at 1 sit.D rfl ⟨b2, v2, x2, wd, rfl, sit.b2, sit.v2, M2, M2.sz.wr, w0, w1, fun H13 s => ⟨_, rfl, ?_⟩⟩
  replace sit := sit.same s
  clear s
  simp only [tIfS, tTest, tOp, tVar, tC, tCB, tCons, tNil, tRet, tAsg, gName, tNext, tDrop, rI, rI0, rEq, rNe, sc_ii, sc_ss, sc_bb, sc_in, sc_ni, sc_nn, sc_si, sc_is, List.getElem?_cons_zero, List.getElem?_cons_succ, List.set_cons_zero, List.set_cons_succ, Option.some.injEq, exists_eq_left', exists_eq_left, L2.start, cxOf, List.cons.injEq, and_true, exists_and_left, exists_and_right, exists_eq', V.int.injEq, V.bl.injEq, V.str.injEq, V.ref.injEq, List.length_cons, List.length_nil, List.cons_append, List.nil_append, true_and, List.map, List.replicate, tAndV, tOrV, tNotV, tTest, tB, tNot, tAnd, tOr, Nat.zero_add, Nat.reduceAdd, Nat.reduceSub, Nat.sub_self, sFld, tFld, tPar, tMake, tCall, tMeth, tTup, tLst, HO.ins.injEq, and_assoc, reduceCtorEq, false_and, exists_false, false_or, or_false, tFmt, tJs, tBreak, tCont, tMakeS, tCallS, Int.zero_add, if_true, if_false, Bool.false_eq_true, Bool.not_true, Bool.not_false, tUn, rU, tNotN, tIsN, decide_true, decide_false, tBM, rAppend, HO.lst.injEq, HO.tup.injEq, wipe, tLstRg, tRg1]
  simp only [tSeq]
  simp only [tIfS, tTest, tOp, tVar, tC, tCB, tCons, tNil, tRet, tAsg, gName, tNext, tDrop, rI, rI0, rEq, rNe, sc_ii, sc_ss, sc_bb, sc_in, sc_ni, sc_nn, sc_si, sc_is, List.getElem?_cons_zero, List.getElem?_cons_succ, List.set_cons_zero, List.set_cons_succ, Option.some.injEq, exists_eq_left', exists_eq_left, L2.start, cxOf, List.cons.injEq, and_true, exists_and_left, exists_and_right, exists_eq', V.int.injEq, V.bl.injEq, V.str.injEq, V.ref.injEq, List.length_cons, List.length_nil, List.cons_append, List.nil_append, true_and, List.map, List.replicate, tAndV, tOrV, tNotV, tTest, tB, tNot, tAnd, tOr, Nat.zero_add, Nat.reduceAdd, Nat.reduceSub, Nat.sub_self, sFld, tFld, tPar, tMake, tCall, tMeth, tTup, tLst, HO.ins.injEq, and_assoc, reduceCtorEq, false_and, exists_false, false_or, or_false, tFmt, tJs, tBreak, tCont, tMakeS, tCallS, Int.zero_add, if_true, if_false, Bool.false_eq_true, Bool.not_true, Bool.not_false, tUn, rU, tNotN, tIsN, decide_true, decide_false, tBM, rAppend, HO.lst.injEq, HO.tup.injEq, wipe, tLstRg, tRg1]
  refine ⟨v1, x1, rfl, sit.v1, M1, fun c2 H14 s n hc => ⟨c2, v1, x1, wd, rfl, hc, sit.v1.same s, M1, M1.sz.wr, w0, w1, fun H15 s' => ⟨_, rfl, ?_⟩⟩⟩
  replace sit := (sit.same s).same s'
  clear s s' n hc
  simp only [tIfS, tTest, tOp, tVar, tC, tCB, tCons, tNil, tRet, tAsg, gName, tNext, tDrop, rI, rI0, rEq, rNe, sc_ii, sc_ss, sc_bb, sc_in, sc_ni, sc_nn, sc_si, sc_is, List.getElem?_cons_zero, List.getElem?_cons_succ, List.set_cons_zero, List.set_cons_succ, Option.some.injEq, exists_eq_left', exists_eq_left, L2.start, cxOf, List.cons.injEq, and_true, exists_and_left, exists_and_right, exists_eq', V.int.injEq, V.bl.injEq, V.str.injEq, V.ref.injEq, List.length_cons, List.length_nil, List.cons_append, List.nil_append, true_and, List.map, List.replicate, tAndV, tOrV, tNotV, tTest, tB, tNot, tAnd, tOr, Nat.zero_add, Nat.reduceAdd, Nat.reduceSub, Nat.sub_self, sFld, tFld, tPar, tMake, tCall, tMeth, tTup, tLst, HO.ins.injEq, and_assoc, reduceCtorEq, false_and, exists_false, false_or, or_false, tFmt, tJs, tBreak, tCont, tMakeS, tCallS, Int.zero_add, if_true, if_false, Bool.false_eq_true, Bool.not_true, Bool.not_false, tUn, rU, tNotN, tIsN, decide_true, decide_false, tBM, rAppend, HO.lst.injEq, HO.tup.injEq, wipe, tLstRg, tRg1]
  refine ⟨v1, v2, x1, x2, rfl, sit.v1, sit.v2, M1.sz, M2.sz, fun c2 H14 s hc => ⟨p, c2, plusB x1 x2, wd, rfl, sit.p.same s, hc, Lp, Lp.sz.wr, w0, w1, fun H15 s' => ⟨_, rfl, ?_⟩⟩⟩
  replace sit := (sit.same s).same s'
  clear s s' hc
  simp only [tIfS, tTest, tOp, tVar, tC, tCB, tCons, tNil, tRet, tAsg, gName, tNext, tDrop, rI, rI0, rEq, rNe, sc_ii, sc_ss, sc_bb, sc_in, sc_ni, sc_nn, sc_si, sc_is, List.getElem?_cons_zero, List.getElem?_cons_succ, List.set_cons_zero, List.set_cons_succ, Option.some.injEq, exists_eq_left', exists_eq_left, L2.start, cxOf, List.cons.injEq, and_true, exists_and_left, exists_and_right, exists_eq', V.int.injEq, V.bl.injEq, V.str.injEq, V.ref.injEq, List.length_cons, List.length_nil, List.cons_append, List.nil_append, true_and, List.map, List.replicate, tAndV, tOrV, tNotV, tTest, tB, tNot, tAnd, tOr, Nat.zero_add, Nat.reduceAdd, Nat.reduceSub, Nat.sub_self, sFld, tFld, tPar, tMake, tCall, tMeth, tTup, tLst, HO.ins.injEq, and_assoc, reduceCtorEq, false_and, exists_false, false_or, or_false, tFmt, tJs, tBreak, tCont, tMakeS, tCallS, Int.zero_add, if_true, if_false, Bool.false_eq_true, Bool.not_true, Bool.not_false, tUn, rU, tNotN, tIsN, decide_true, decide_false, tBM, rAppend, HO.lst.injEq, HO.tup.injEq, wipe, tLstRg, tRg1]
  simp only [tSeq]
  simp only [tIfS, tTest, tOp, tVar, tC, tCB, tCons, tNil, tRet, tAsg, gName, tNext, tDrop, rI, rI0, rEq, rNe, sc_ii, sc_ss, sc_bb, sc_in, sc_ni, sc_nn, sc_si, sc_is, List.getElem?_cons_zero, List.getElem?_cons_succ, List.set_cons_zero, List.set_cons_succ, Option.some.injEq, exists_eq_left', exists_eq_left, L2.start, cxOf, List.cons.injEq, and_true, exists_and_left, exists_and_right, exists_eq', V.int.injEq, V.bl.injEq, V.str.injEq, V.ref.injEq, List.length_cons, List.length_nil, List.cons_append, List.nil_append, true_and, List.map, List.replicate, tAndV, tOrV, tNotV, tTest, tB, tNot, tAnd, tOr, Nat.zero_add, Nat.reduceAdd, Nat.reduceSub, Nat.sub_self, sFld, tFld, tPar, tMake, tCall, tMeth, tTup, tLst, HO.ins.injEq, and_assoc, reduceCtorEq, false_and, exists_false, false_or, or_false, tFmt, tJs, tBreak, tCont, tMakeS, tCallS, Int.zero_add, if_true, if_false, Bool.false_eq_true, Bool.not_true, Bool.not_false, tUn, rU, tNotN, tIsN, decide_true, decide_false, tBM, rAppend, HO.lst.injEq, HO.tup.injEq, wipe, tLstRg, tRg1]
  refine ⟨v1, x1, rfl, sit.v1, M1, fun c2 H14 s n hc => ?_⟩
  replace sit := sit.same s
  obtain ⟨f2, _, _, _, j2, _⟩ := id hc
  refine ⟨_, rfl, _, _, j2, (nn _ _ _ _).2.1, c2, rdB x1, k, rfl, hc, O1, Z1, k0, k10, fun wi H16 s' n' hw => ?_⟩
  rw [within_rd M1.sz] at hw
  have Mw := within_lb d1 k0 k1
  replace sit := sit.same s'
  clear s s' n n' hc j2
  simp only [tSeq]
  simp only [tIfS, tTest, tOp, tVar, tC, tCB, tCons, tNil, tRet, tAsg, gName, tNext, tDrop, rI, rI0, rEq, rNe, sc_ii, sc_ss, sc_bb, sc_in, sc_ni, sc_nn, sc_si, sc_is, List.getElem?_cons_zero, List.getElem?_cons_succ, List.set_cons_zero, List.set_cons_succ, Option.some.injEq, exists_eq_left', exists_eq_left, L2.start, cxOf, List.cons.injEq, and_true, exists_and_left, exists_and_right, exists_eq', V.int.injEq, V.bl.injEq, V.str.injEq, V.ref.injEq, List.length_cons, List.length_nil, List.cons_append, List.nil_append, true_and, List.map, List.replicate, tAndV, tOrV, tNotV, tTest, tB, tNot, tAnd, tOr, Nat.zero_add, Nat.reduceAdd, Nat.reduceSub, Nat.sub_self, sFld, tFld, tPar, tMake, tCall, tMeth, tTup, tLst, HO.ins.injEq, and_assoc, reduceCtorEq, false_and, exists_false, false_or, or_false, tFmt, tJs, tBreak, tCont, tMakeS, tCallS, Int.zero_add, if_true, if_false, Bool.false_eq_true, Bool.not_true, Bool.not_false, tUn, rU, tNotN, tIsN, decide_true, decide_false, tBM, rAppend, HO.lst.injEq, HO.tup.injEq, wipe, tLstRg, tRg1]
  have l2 : 2 ≤ sizeLine := by decide
  have l3 : 3 ≤ sizeLine := by decide
  refine ⟨l2, fun p1 m1 => ⟨l2, fun p2 m2 => ⟨l2, fun p3 m3 => ⟨l3, fun p4 m4 => ⟨l2, fun ve m5 => ?_⟩⟩⟩⟩⟩
  have g1 := same_upd (o := HO.tup [V.int 0, V.int 1]) m1
  have u1 : upd H16 p1 (HO.tup [V.int 0, V.int 1]) p1 = _ := upd_same
  generalize upd H16 p1 (HO.tup [V.int 0, V.int 1]) = G1 at *
  have g2 := same_upd (o := HO.tup [V.int 0, V.int 1]) m2
  have u2 : upd G1 p2 (HO.tup [V.int 0, V.int 1]) p2 = _ := upd_same
  generalize upd G1 p2 (HO.tup [V.int 0, V.int 1]) = G2 at *
  have g3 := same_upd (o := HO.tup [V.int 0, V.int 1]) m3
  have u3 : upd G2 p3 (HO.tup [V.int 0, V.int 1]) p3 = _ := upd_same
  generalize upd G2 p3 (HO.tup [V.int 0, V.int 1]) = G3 at *
  have g4 := same_upd (o := HO.lst [V.ref p1, V.ref p2, V.ref p3]) m4
  have u4 : upd G3 p4 (HO.lst [V.ref p1, V.ref p2, V.ref p3]) p4 = _ := upd_same
  generalize upd G3 p4 (HO.lst [V.ref p1, V.ref p2, V.ref p3]) = G4 at *
  have g5 := same_upd (o := HO.tup [V.ref p4, V.non]) m5
  have u5 : upd G4 ve (HO.tup [V.ref p4, V.non]) ve = _ := upd_same
  generalize upd G4 ve (HO.tup [V.ref p4, V.non]) = G5 at *
  have he : Drawn G5 ve zeroB := ⟨p4, p1, p2, p3, u5, g5 _ _ u4, g5 _ _ (g4 _ _ (g3 _ _ (g2 _ _ u1))), g5 _ _ (g4 _ _ (g3 _ _ u2)), g5 _ _ (g4 _ _ u3)⟩
  have g := (((g1.trans g2).trans g3).trans g4).trans g5
  replace sit := sit.same g
  replace hw := hw.same g
  clear g g1 g2 g3 g4 g5 u1 u2 u3 u4 u5 m1 m2 m3 m4 m5
  simp only [tSeq]
  simp only [tIfS, tTest, tOp, tVar, tC, tCB, tCons, tNil, tRet, tAsg, gName, tNext, tDrop, rI, rI0, rEq, rNe, sc_ii, sc_ss, sc_bb, sc_in, sc_ni, sc_nn, sc_si, sc_is, List.getElem?_cons_zero, List.getElem?_cons_succ, List.set_cons_zero, List.set_cons_succ, Option.some.injEq, exists_eq_left', exists_eq_left, L2.start, cxOf, List.cons.injEq, and_true, exists_and_left, exists_and_right, exists_eq', V.int.injEq, V.bl.injEq, V.str.injEq, V.ref.injEq, List.length_cons, List.length_nil, List.cons_append, List.nil_append, true_and, List.map, List.replicate, tAndV, tOrV, tNotV, tTest, tB, tNot, tAnd, tOr, Nat.zero_add, Nat.reduceAdd, Nat.reduceSub, Nat.sub_self, sFld, tFld, tPar, tMake, tCall, tMeth, tTup, tLst, HO.ins.injEq, and_assoc, reduceCtorEq, false_and, exists_false, false_or, or_false, tFmt, tJs, tBreak, tCont, tMakeS, tCallS, Int.zero_add, if_true, if_false, Bool.false_eq_true, Bool.not_true, Bool.not_false, tUn, rU, tNotN, tIsN, decide_true, decide_false, tBM, rAppend, HO.lst.injEq, HO.tup.injEq, wipe, tLstRg, tRg1]
  refine ⟨v1, x1, k, rfl, sit.v1, M1.sz, k0, k10, fun c2 H17 s hc => ⟨wi, c2, withinB x1 k, wd, rfl, hw.same s, hc, Mw, Mw.sz.wr, w0, w1, fun H18 s' => ⟨_, rfl, ?_⟩⟩⟩
  replace sit := (sit.same s).same s'
  replace hw := (hw.same s).same s'
  replace he := (he.same s).same s'
  clear s s' hc
  simp only [tIfS, tTest, tOp, tVar, tC, tCB, tCons, tNil, tRet, tAsg, gName, tNext, tDrop, rI, rI0, rEq, rNe, sc_ii, sc_ss, sc_bb, sc_in, sc_ni, sc_nn, sc_si, sc_is, List.getElem?_cons_zero, List.getElem?_cons_succ, List.set_cons_zero, List.set_cons_succ, Option.some.injEq, exists_eq_left', exists_eq_left, L2.start, cxOf, List.cons.injEq, and_true, exists_and_left, exists_and_right, exists_eq', V.int.injEq, V.bl.injEq, V.str.injEq, V.ref.injEq, List.length_cons, List.length_nil, List.cons_append, List.nil_append, true_and, List.map, List.replicate, tAndV, tOrV, tNotV, tTest, tB, tNot, tAnd, tOr, Nat.zero_add, Nat.reduceAdd, Nat.reduceSub, Nat.sub_self, sFld, tFld, tPar, tMake, tCall, tMeth, tTup, tLst, HO.ins.injEq, and_assoc, reduceCtorEq, false_and, exists_false, false_or, or_false, tFmt, tJs, tBreak, tCont, tMakeS, tCallS, Int.zero_add, if_true, if_false, Bool.false_eq_true, Bool.not_true, Bool.not_false, tUn, rU, tNotN, tIsN, decide_true, decide_false, tBM, rAppend, HO.lst.injEq, HO.tup.injEq, wipe, tLstRg, tRg1]
  refine ⟨rfl, fun c2 H19 s n hc => ⟨c2, ve, zeroB, wd, rfl, by rw [rdB_zero]; exact hc, he.same s, zeroB_lb, zeroB_lb.sz.wr, w0, w1, fun H20 s' => ⟨_, rfl, ?_⟩⟩⟩
  replace sit := (sit.same s).same s'
  replace hw := (hw.same s).same s'
  clear s s' hc he n
  simp only [tIfS, tTest, tOp, tVar, tC, tCB, tCons, tNil, tRet, tAsg, gName, tNext, tDrop, rI, rI0, rEq, rNe, sc_ii, sc_ss, sc_bb, sc_in, sc_ni, sc_nn, sc_si, sc_is, List.getElem?_cons_zero, List.getElem?_cons_succ, List.set_cons_zero, List.set_cons_succ, Option.some.injEq, exists_eq_left', exists_eq_left, L2.start, cxOf, List.cons.injEq, and_true, exists_and_left, exists_and_right, exists_eq', V.int.injEq, V.bl.injEq, V.str.injEq, V.ref.injEq, List.length_cons, List.length_nil, List.cons_append, List.nil_append, true_and, List.map, List.replicate, tAndV, tOrV, tNotV, tTest, tB, tNot, tAnd, tOr, Nat.zero_add, Nat.reduceAdd, Nat.reduceSub, Nat.sub_self, sFld, tFld, tPar, tMake, tCall, tMeth, tTup, tLst, HO.ins.injEq, and_assoc, reduceCtorEq, false_and, exists_false, false_or, or_false, tFmt, tJs, tBreak, tCont, tMakeS, tCallS, Int.zero_add, if_true, if_false, Bool.false_eq_true, Bool.not_true, Bool.not_false, tUn, rU, tNotN, tIsN, decide_true, decide_false, tBM, rAppend, HO.lst.injEq, HO.tup.injEq, wipe, tLstRg, tRg1]
  simp only [tSeq]
  refine for_lx (fun _ xs => ∀ (i : Nat) z, xs[i]? = some z → ∃ q : Int, z = .int q ∧ 0 ≤ q ∧ q < 1000000) (fun R hR => ?_) (fun u H21 xs s hu hxs => ?_)
  · simp only [tSeq, tIfS, tTest, tOp, tVar, tC, tCB, tCons, tNil, tRet, tAsg, gName, tNext, tDrop, rI, rI0, rEq, rNe, sc_ii, sc_ss, sc_bb, sc_in, sc_ni, sc_nn, sc_si, sc_is, List.getElem?_cons_zero, List.getElem?_cons_succ, List.set_cons_zero, List.set_cons_succ, Option.some.injEq, exists_eq_left', exists_eq_left, L2.start, cxOf, List.cons.injEq, and_true, exists_and_left, exists_and_right, exists_eq', V.int.injEq, V.bl.injEq, V.str.injEq, V.ref.injEq, List.length_cons, List.length_nil, List.cons_append, List.nil_append, true_and, List.map, List.replicate, tAndV, tOrV, tNotV, tTest, tB, tNot, tAnd, tOr, Nat.zero_add, Nat.reduceAdd, Nat.reduceSub, Nat.sub_self, sFld, tFld, tPar, tMake, tCall, tMeth, tTup, tLst, HO.ins.injEq, and_assoc, reduceCtorEq, false_and, exists_false, false_or, or_false, tFmt, tJs, tBreak, tCont, tMakeS, tCallS, Int.zero_add, if_true, if_false, Bool.false_eq_true, Bool.not_true, Bool.not_false, tUn, rU, tNotN, tIsN, decide_true, decide_false, tBM, rAppend, HO.lst.injEq, HO.tup.injEq, wipe, tLstRg, tRg1]
    refine ⟨RgOk.of_le (by decide) (by decide) (by decide) (by decide), fun q1 n1 => ⟨by decide, fun q2 n2 => ?_⟩⟩
    have s1 := same_upd (o := HO.lst (rgV 0 9)) n1
    have s2 := same_upd (o := HO.lst [V.int wd]) n2
    refine ⟨q1, q2, _, _, rfl, rfl, s2 _ _ upd_same, upd_same, (show 9 + 1 ≤ sizeLine by decide), fun q3 n3 => ?_⟩
    refine hR q3 _ _ ((s1.trans s2).trans (same_upd n3)) upd_same (fun i z hz => ?_)
    have e := List.mem_of_getElem? hz
    rcases List.mem_append.mp e with e | e
    · obtain ⟨j, hj, rfl⟩ := List.mem_map.mp e
      have := List.mem_range.mp hj
      exact ⟨_, rfl, by omega, by omega⟩
    · simp only [List.mem_cons, List.not_mem_nil, or_false] at e
      rcases e with rfl
      exact ⟨_, rfl, w0, w1⟩
  replace sit := sit.same s
  replace hw := hw.same s
  clear s hu
  refine ⟨fun i σ H' => ∃ u, σ = [some (.ref a), some (.ref v1), some (.ref v2), some (.int k), some (.int wd), some (.ref D), some (.ref p), some (.ref wi), some (.ref ve), u, none, none, none, none, none, none, none] ∧ Same H21 H', ⟨_, rfl, Same.refl _⟩, fun i σ H' ⟨_, _, s⟩ => s, ?_, ?_⟩
  · rintro i z σ H' hz ⟨u, rfl, s5⟩
    obtain ⟨q, rfl, q0, q1⟩ := hxs i z hz
    replace sit := sit.same s5
    replace hw := hw.same s5
    have ql : Lt2 q 32 := show q.natAbs < 2 ^ 32 by omega
    have kq0 : 0 ≤ k * q := Int.mul_nonneg k0 q0
    have kql : Lt2 (k * q) 32 := (k10.mul (y := q) (b := 20) (show q.natAbs < 2 ^ 20 by omega)).mono (by decide)
    have mq : CMulW k q := k10.cmul ql (by decide)
    obtain ⟨f2, _, _, _, j2, _⟩ := id hw
    simp only [tIfS, tTest, tOp, tVar, tC, tCB, tCons, tNil, tRet, tAsg, gName, tNext, tDrop, rI, rI0, rEq, rNe, sc_ii, sc_ss, sc_bb, sc_in, sc_ni, sc_nn, sc_si, sc_is, List.getElem?_cons_zero, List.getElem?_cons_succ, List.set_cons_zero, List.set_cons_succ, Option.some.injEq, exists_eq_left', exists_eq_left, L2.start, cxOf, List.cons.injEq, and_true, exists_and_left, exists_and_right, exists_eq', V.int.injEq, V.bl.injEq, V.str.injEq, V.ref.injEq, List.length_cons, List.length_nil, List.cons_append, List.nil_append, true_and, List.map, List.replicate, tAndV, tOrV, tNotV, tTest, tB, tNot, tAnd, tOr, Nat.zero_add, Nat.reduceAdd, Nat.reduceSub, Nat.sub_self, sFld, tFld, tPar, tMake, tCall, tMeth, tTup, tLst, HO.ins.injEq, and_assoc, reduceCtorEq, false_and, exists_false, false_or, or_false, tFmt, tJs, tBreak, tCont, tMakeS, tCallS, Int.zero_add, if_true, if_false, Bool.false_eq_true, Bool.not_true, Bool.not_false, tUn, rU, tNotN, tIsN, decide_true, decide_false, tBM, rAppend, HO.lst.injEq, HO.tup.injEq, wipe, tLstRg, tRg1]
    refine ⟨_, _, j2, (nn _ _ _ _).2.2, wi, _, q, rfl, hw, rdB_sz Mw.sz, q0, ql, fun o1 A1 t1 m1 hr1 => ?_⟩
    obtain ⟨dr1, kr1⟩ := id hr1
    refine ⟨_, rfl, _, _, kr1, RatF_no _ (by decide +kernel) (by decide +kernel), v1, x1, rfl, sit.v1.same t1, M1, fun c2 A2 t2 m2 hc => ?_⟩
    obtain ⟨f3, _, _, _, j3, _⟩ := id hc
    refine ⟨_, rfl, _, _, j3, (nn _ _ _ _).2.2, mq, c2, _, k * q, rfl, hc, Z1, kq0, kql, fun o2 A3 t3 m3 hr2 => ?_⟩
    have z1 := atv_sz (rdB_sz Mw.sz) q0 ql
    have z2 := atv_sz Z1 kq0 kql
    have hr1 := (hr1.same t2).same t3
    refine ⟨o1, o2, _, _, rfl, hr1, hr2, z1.num, z2.num, z1.den, z2.den, ?_⟩
    rw [atv_within d1 k0 k1 q0]
    refine ⟨_, rfl, ?_⟩
    rw [decide_eq_false (Int.lt_irrefl _)]
    exact ((s5.trans t1).trans t2).trans t3
  rintro σ H' ⟨u, rfl, s5⟩
  replace sit := sit.same s5
  clear hw hxs s5
  simp only [tSeq]
  simp only [tIfS, tTest, tOp, tVar, tC, tCB, tCons, tNil, tRet, tAsg, gName, tNext, tDrop, rI, rI0, rEq, rNe, sc_ii, sc_ss, sc_bb, sc_in, sc_ni, sc_nn, sc_si, sc_is, List.getElem?_cons_zero, List.getElem?_cons_succ, List.set_cons_zero, List.set_cons_succ, Option.some.injEq, exists_eq_left', exists_eq_left, L2.start, cxOf, List.cons.injEq, and_true, exists_and_left, exists_and_right, exists_eq', V.int.injEq, V.bl.injEq, V.str.injEq, V.ref.injEq, List.length_cons, List.length_nil, List.cons_append, List.nil_append, true_and, List.map, List.replicate, tAndV, tOrV, tNotV, tTest, tB, tNot, tAnd, tOr, Nat.zero_add, Nat.reduceAdd, Nat.reduceSub, Nat.sub_self, sFld, tFld, tPar, tMake, tCall, tMeth, tTup, tLst, HO.ins.injEq, and_assoc, reduceCtorEq, false_and, exists_false, false_or, or_false, tFmt, tJs, tBreak, tCont, tMakeS, tCallS, Int.zero_add, if_true, if_false, Bool.false_eq_true, Bool.not_true, Bool.not_false, tUn, rU, tNotN, tIsN, decide_true, decide_false, tBM, rAppend, HO.lst.injEq, HO.tup.injEq, wipe, tLstRg, tRg1]
  refine ⟨v1, x1, rfl, sit.v1, M1, fun c1 B1 t1 m1 hc1 => ⟨v2, x2, rfl, sit.v2.same t1, M2, fun c2 B2 t2 m2 hc2 => ?_⟩⟩
  replace sit := (sit.same t1).same t2
  have hc1 := hc1.same t2
  obtain ⟨f1, _, _, _, j1, _⟩ := id hc1
  obtain ⟨f2, _, _, _, j2, _⟩ := id hc2
  refine rOwn_at j1 j2 ⟨c1, c2, _, _, rfl, hc1, hc2, Z1.wb, Z2.wb, fun B3 t3 => ?_⟩
  replace sit := sit.same t3
  refine ⟨v1, x1, rfl, sit.v1, M1.sz, fun y1 B4 t4 hy1 => ⟨v2, x2, rfl, sit.v2.same t4, M2.sz, fun y2 B5 t5 hy2 => ?_⟩⟩
  replace sit := (sit.same t4).same t5
  have hy1 := hy1.same t5
  refine ⟨_, _, drD_ok hy1, drD_ok hy2, drD_shaped _, drD_shaped _, ?_⟩
  rw [drD_eqv, decide_eq_decide.mpr (tx_iff O1 O2 Z1 Z2)]
  refine ⟨rfl, ?_⟩
  rw [decide_eq_true (rfl : V.bl (decide (rdB x1 = rdB x2)) = V.bl (decide (rdB x1 = rdB x2)))]
  clear j1 j2 m1 m2
  simp only [tIfS, tTest, tOp, tVar, tC, tCB, tCons, tNil, tRet, tAsg, gName, tNext, tDrop, rI, rI0, rEq, rNe, sc_ii, sc_ss, sc_bb, sc_in, sc_ni, sc_nn, sc_si, sc_is, List.getElem?_cons_zero, List.getElem?_cons_succ, List.set_cons_zero, List.set_cons_succ, Option.some.injEq, exists_eq_left', exists_eq_left, L2.start, cxOf, List.cons.injEq, and_true, exists_and_left, exists_and_right, exists_eq', V.int.injEq, V.bl.injEq, V.str.injEq, V.ref.injEq, List.length_cons, List.length_nil, List.cons_append, List.nil_append, true_and, List.map, List.replicate, tAndV, tOrV, tNotV, tTest, tB, tNot, tAnd, tOr, Nat.zero_add, Nat.reduceAdd, Nat.reduceSub, Nat.sub_self, sFld, tFld, tPar, tMake, tCall, tMeth, tTup, tLst, HO.ins.injEq, and_assoc, reduceCtorEq, false_and, exists_false, false_or, or_false, tFmt, tJs, tBreak, tCont, tMakeS, tCallS, Int.zero_add, if_true, if_false, Bool.false_eq_true, Bool.not_true, Bool.not_false, tUn, rU, tNotN, tIsN, decide_true, decide_false, tBM, rAppend, HO.lst.injEq, HO.tup.injEq, wipe, tLstRg, tRg1]
  simp only [tSeq]
  simp only [tIfS, tTest, tOp, tVar, tC, tCB, tCons, tNil, tRet, tAsg, gName, tNext, tDrop, rI, rI0, rEq, rNe, sc_ii, sc_ss, sc_bb, sc_in, sc_ni, sc_nn, sc_si, sc_is, List.getElem?_cons_zero, List.getElem?_cons_succ, List.set_cons_zero, List.set_cons_succ, Option.some.injEq, exists_eq_left', exists_eq_left, L2.start, cxOf, List.cons.injEq, and_true, exists_and_left, exists_and_right, exists_eq', V.int.injEq, V.bl.injEq, V.str.injEq, V.ref.injEq, List.length_cons, List.length_nil, List.cons_append, List.nil_append, true_and, List.map, List.replicate, tAndV, tOrV, tNotV, tTest, tB, tNot, tAnd, tOr, Nat.zero_add, Nat.reduceAdd, Nat.reduceSub, Nat.sub_self, sFld, tFld, tPar, tMake, tCall, tMeth, tTup, tLst, HO.ins.injEq, and_assoc, reduceCtorEq, false_and, exists_false, false_or, or_false, tFmt, tJs, tBreak, tCont, tMakeS, tCallS, Int.zero_add, if_true, if_false, Bool.false_eq_true, Bool.not_true, Bool.not_false, tUn, rU, tNotN, tIsN, decide_true, decide_false, tBM, rAppend, HO.lst.injEq, HO.tup.injEq, wipe, tLstRg, tRg1]
  refine made_ratio (by decide) (Lt2.mono (k := 2) (show (3 : Int).natAbs < 2 ^ 2 by decide) (by decide)) (fun lo H1 s1 n1 hlo => ?_)
  replace sit := sit.same s1
  simp only [tSeq]
  simp only [tIfS, tTest, tOp, tVar, tC, tCB, tCons, tNil, tRet, tAsg, gName, tNext, tDrop, rI, rI0, rEq, rNe, sc_ii, sc_ss, sc_bb, sc_in, sc_ni, sc_nn, sc_si, sc_is, List.getElem?_cons_zero, List.getElem?_cons_succ, List.set_cons_zero, List.set_cons_succ, Option.some.injEq, exists_eq_left', exists_eq_left, L2.start, cxOf, List.cons.injEq, and_true, exists_and_left, exists_and_right, exists_eq', V.int.injEq, V.bl.injEq, V.str.injEq, V.ref.injEq, List.length_cons, List.length_nil, List.cons_append, List.nil_append, true_and, List.map, List.replicate, tAndV, tOrV, tNotV, tTest, tB, tNot, tAnd, tOr, Nat.zero_add, Nat.reduceAdd, Nat.reduceSub, Nat.sub_self, sFld, tFld, tPar, tMake, tCall, tMeth, tTup, tLst, HO.ins.injEq, and_assoc, reduceCtorEq, false_and, exists_false, false_or, or_false, tFmt, tJs, tBreak, tCont, tMakeS, tCallS, Int.zero_add, if_true, if_false, Bool.false_eq_true, Bool.not_true, Bool.not_false, tUn, rU, tNotN, tIsN, decide_true, decide_false, tBM, rAppend, HO.lst.injEq, HO.tup.injEq, wipe, tLstRg, tRg1]
  refine made_ratio (by decide) Lt2_1 (fun ze H2 s2 n2 hze => ?_)
  replace sit := sit.same s2
  replace hlo := hlo.same s2
  clear s1 n1 s2 n2
  have blo : (red (-1) 3).1 < 0 := red_neg (by decide) (by decide)
  simp only [tSeq]
  simp only [tIfS, tTest, tOp, tVar, tC, tCB, tCons, tNil, tRet, tAsg, gName, tNext, tDrop, rI, rI0, rEq, rNe, sc_ii, sc_ss, sc_bb, sc_in, sc_ni, sc_nn, sc_si, sc_is, List.getElem?_cons_zero, List.getElem?_cons_succ, List.set_cons_zero, List.set_cons_succ, Option.some.injEq, exists_eq_left', exists_eq_left, L2.start, cxOf, List.cons.injEq, and_true, exists_and_left, exists_and_right, exists_eq', V.int.injEq, V.bl.injEq, V.str.injEq, V.ref.injEq, List.length_cons, List.length_nil, List.cons_append, List.nil_append, true_and, List.map, List.replicate, tAndV, tOrV, tNotV, tTest, tB, tNot, tAnd, tOr, Nat.zero_add, Nat.reduceAdd, Nat.reduceSub, Nat.sub_self, sFld, tFld, tPar, tMake, tCall, tMeth, tTup, tLst, HO.ins.injEq, and_assoc, reduceCtorEq, false_and, exists_false, false_or, or_false, tFmt, tJs, tBreak, tCont, tMakeS, tCallS, Int.zero_add, if_true, if_false, Bool.false_eq_true, Bool.not_true, Bool.not_false, tUn, rU, tNotN, tIsN, decide_true, decide_false, tBM, rAppend, HO.lst.injEq, HO.tup.injEq, wipe, tLstRg, tRg1]
  refine ⟨lo, ze, ze, ⟨_, _, _, none⟩, rfl, hlo, hze, hze, .inl blo, fun H3 s => ⟨_, rfl, ?_⟩⟩
  replace sit := sit.same s
  replace hlo := hlo.same s
  replace hze := hze.same s
  clear s
  simp only [tIfS, tTest, tOp, tVar, tC, tCB, tCons, tNil, tRet, tAsg, gName, tNext, tDrop, rI, rI0, rEq, rNe, sc_ii, sc_ss, sc_bb, sc_in, sc_ni, sc_nn, sc_si, sc_is, List.getElem?_cons_zero, List.getElem?_cons_succ, List.set_cons_zero, List.set_cons_succ, Option.some.injEq, exists_eq_left', exists_eq_left, L2.start, cxOf, List.cons.injEq, and_true, exists_and_left, exists_and_right, exists_eq', V.int.injEq, V.bl.injEq, V.str.injEq, V.ref.injEq, List.length_cons, List.length_nil, List.cons_append, List.nil_append, true_and, List.map, List.replicate, tAndV, tOrV, tNotV, tTest, tB, tNot, tAnd, tOr, Nat.zero_add, Nat.reduceAdd, Nat.reduceSub, Nat.sub_self, sFld, tFld, tPar, tMake, tCall, tMeth, tTup, tLst, HO.ins.injEq, and_assoc, reduceCtorEq, false_and, exists_false, false_or, or_false, tFmt, tJs, tBreak, tCont, tMakeS, tCallS, Int.zero_add, if_true, if_false, Bool.false_eq_true, Bool.not_true, Bool.not_false, tUn, rU, tNotN, tIsN, decide_true, decide_false, tBM, rAppend, HO.lst.injEq, HO.tup.injEq, wipe, tLstRg, tRg1]
  refine ⟨ze, lo, ze, ⟨_, _, _, some 3⟩, rfl, hze, hlo, hze, .inr (.inl blo), fun H3 s => ⟨_, rfl, ?_⟩⟩
  replace sit := sit.same s
  replace hlo := hlo.same s
  replace hze := hze.same s
  clear s
  simp only [tIfS, tTest, tOp, tVar, tC, tCB, tCons, tNil, tRet, tAsg, gName, tNext, tDrop, rI, rI0, rEq, rNe, sc_ii, sc_ss, sc_bb, sc_in, sc_ni, sc_nn, sc_si, sc_is, List.getElem?_cons_zero, List.getElem?_cons_succ, List.set_cons_zero, List.set_cons_succ, Option.some.injEq, exists_eq_left', exists_eq_left, L2.start, cxOf, List.cons.injEq, and_true, exists_and_left, exists_and_right, exists_eq', V.int.injEq, V.bl.injEq, V.str.injEq, V.ref.injEq, List.length_cons, List.length_nil, List.cons_append, List.nil_append, true_and, List.map, List.replicate, tAndV, tOrV, tNotV, tTest, tB, tNot, tAnd, tOr, Nat.zero_add, Nat.reduceAdd, Nat.reduceSub, Nat.sub_self, sFld, tFld, tPar, tMake, tCall, tMeth, tTup, tLst, HO.ins.injEq, and_assoc, reduceCtorEq, false_and, exists_false, false_or, or_false, tFmt, tJs, tBreak, tCont, tMakeS, tCallS, Int.zero_add, if_true, if_false, Bool.false_eq_true, Bool.not_true, Bool.not_false, tUn, rU, tNotN, tIsN, decide_true, decide_false, tBM, rAppend, HO.lst.injEq, HO.tup.injEq, wipe, tLstRg, tRg1]
  simp only [tSeq]
  simp only [tIfS, tTest, tOp, tVar, tC, tCB, tCons, tNil, tRet, tAsg, gName, tNext, tDrop, rI, rI0, rEq, rNe, sc_ii, sc_ss, sc_bb, sc_in, sc_ni, sc_nn, sc_si, sc_is, List.getElem?_cons_zero, List.getElem?_cons_succ, List.set_cons_zero, List.set_cons_succ, Option.some.injEq, exists_eq_left', exists_eq_left, L2.start, cxOf, List.cons.injEq, and_true, exists_and_left, exists_and_right, exists_eq', V.int.injEq, V.bl.injEq, V.str.injEq, V.ref.injEq, List.length_cons, List.length_nil, List.cons_append, List.nil_append, true_and, List.map, List.replicate, tAndV, tOrV, tNotV, tTest, tB, tNot, tAnd, tOr, Nat.zero_add, Nat.reduceAdd, Nat.reduceSub, Nat.sub_self, sFld, tFld, tPar, tMake, tCall, tMeth, tTup, tLst, HO.ins.injEq, and_assoc, reduceCtorEq, false_and, exists_false, false_or, or_false, tFmt, tJs, tBreak, tCont, tMakeS, tCallS, Int.zero_add, if_true, if_false, Bool.false_eq_true, Bool.not_true, Bool.not_false, tUn, rU, tNotN, tIsN, decide_true, decide_false, tBM, rAppend, HO.lst.injEq, HO.tup.injEq, wipe, tLstRg, tRg1]
  obtain ⟨l, t0, t1, t2, hv, hl, h0, h1, h2⟩ := id sit.v1
  refine lc_l (xs := [.ref t0, .ref t1, .ref t2]) (by show 3 ≤ 100000; decide) (fun R hR => ⟨_, rfl, ixT_at 0 hv rfl hR⟩) (SqL.of hl) (fun i y H => ∃ o, y = .ref o ∧ RatAt K H o (rd (pick x1 i))) (fun _ => lm_rat) (fun i y D2 G1 F hi s1 nD hF => ?_) (fun D2 G1 ys nD s1 hD2 hy hr => ?_)
  · obtain ⟨t, rfl, ht⟩ : ∃ t, y = .ref t ∧ TupAt H3 t (pick x1 i) := by
      match i, hi with
      | 0, hi => cases hi; exact ⟨_, rfl, h0⟩
      | 1, hi => cases hi; exact ⟨_, rfl, h1⟩
      | 2, hi => cases hi; exact ⟨_, rfl, h2⟩
      | i + 3, hi => simp at hi
    have ht := s1 _ _ ht
    obtain ⟨p1, p2, p3⟩ := M1.pick i
    simp only [tSeq, tIfS, tTest, tOp, tVar, tC, tCB, tCons, tNil, tRet, tAsg, gName, tNext, tDrop, rI, rI0, rEq, rNe, sc_ii, sc_ss, sc_bb, sc_in, sc_ni, sc_nn, sc_si, sc_is, List.getElem?_cons_zero, List.getElem?_cons_succ, List.set_cons_zero, List.set_cons_succ, Option.some.injEq, exists_eq_left', exists_eq_left, L2.start, cxOf, List.cons.injEq, and_true, exists_and_left, exists_and_right, exists_eq', V.int.injEq, V.bl.injEq, V.str.injEq, V.ref.injEq, List.length_cons, List.length_nil, List.cons_append, List.nil_append, true_and, List.map, List.replicate, tAndV, tOrV, tNotV, tTest, tB, tNot, tAnd, tOr, Nat.zero_add, Nat.reduceAdd, Nat.reduceSub, Nat.sub_self, sFld, tFld, tPar, tMake, tCall, tMeth, tTup, tLst, HO.ins.injEq, and_assoc, reduceCtorEq, false_and, exists_false, false_or, or_false, tFmt, tJs, tBreak, tCont, tMakeS, tCallS, Int.zero_add, if_true, if_false, Bool.false_eq_true, Bool.not_true, Bool.not_false, tUn, rU, tNotN, tIsN, decide_true, decide_false, tBM, rAppend, HO.lst.injEq, HO.tup.injEq, wipe, tLstRg, tRg1]
    refine ixT_at 0 ht rfl (ixT_at 1 ht rfl ?_)
    exact made_ratio (G := fun y H2 => F (.ref y) H2) p1 p2 (fun c H' s nc r => hF _ _ s ⟨c, rfl, r⟩)
  match ys, hy with
  | [y0, y1, y2], _ =>
    obtain ⟨o0, rfl, r0⟩ := hr 0 y0 rfl
    obtain ⟨o1, rfl, r1⟩ := hr 1 y1 rfl
    obtain ⟨o2, rfl, r2⟩ := hr 2 y2 rfl
    replace sit := sit.same s1
    replace hlo := hlo.same s1
    replace hze := hze.same s1
    clear hv hl h0 h1 h2 s1 nD hr
    simp only [tSeq]
    simp only [tIfS, tTest, tOp, tVar, tC, tCB, tCons, tNil, tRet, tAsg, gName, tNext, tDrop, rI, rI0, rEq, rNe, sc_ii, sc_ss, sc_bb, sc_in, sc_ni, sc_nn, sc_si, sc_is, List.getElem?_cons_zero, List.getElem?_cons_succ, List.set_cons_zero, List.set_cons_succ, Option.some.injEq, exists_eq_left', exists_eq_left, L2.start, cxOf, List.cons.injEq, and_true, exists_and_left, exists_and_right, exists_eq', V.int.injEq, V.bl.injEq, V.str.injEq, V.ref.injEq, List.length_cons, List.length_nil, List.cons_append, List.nil_append, true_and, List.map, List.replicate, tAndV, tOrV, tNotV, tTest, tB, tNot, tAnd, tOr, Nat.zero_add, Nat.reduceAdd, Nat.reduceSub, Nat.sub_self, sFld, tFld, tPar, tMake, tCall, tMeth, tTup, tLst, HO.ins.injEq, and_assoc, reduceCtorEq, false_and, exists_false, false_or, or_false, tFmt, tJs, tBreak, tCont, tMakeS, tCallS, Int.zero_add, if_true, if_false, Bool.false_eq_true, Bool.not_true, Bool.not_false, tUn, rU, tNotN, tIsN, decide_true, decide_false, tBM, rAppend, HO.lst.injEq, HO.tup.injEq, wipe, tLstRg, tRg1]
    refine ⟨2, rfl, sit.S, by decide, .inl ⟨_, rfl, ⟨by decide, by decide⟩, by decide, by decide, ?_⟩⟩
    generalize ns.getD (2 : Int).toNat 0 = c3
    have bl : -1 - c3 / 7 % 90 < 0 := by omega
    have bp : 0 < 1 + wd % 50 := by omega
    refine made_ratio bp (show (1 + wd % 50).natAbs < 2 ^ 900 from Nat.lt_of_lt_of_le (show (1 + wd % 50).natAbs < 2 ^ 10 by omega) (Nat.pow_le_pow_right (by decide) (by decide))) (fun be G2 s2 n2 hbe => ?_)
    replace sit := sit.same s2
    replace hlo := hlo.same s2
    replace hze := hze.same s2
    replace r0 := r0.same s2
    replace r1 := r1.same s2
    replace r2 := r2.same s2
    replace hD2 := s2 _ _ hD2
    have hbn := red_neg bl bp
    generalize red (-1 - c3 / 7 % 90) (1 + wd % 50) = be' at hbe hbn
    clear s2 n2 bl bp c3
    simp only [tSeq]
    refine for_r1 3 (by decide) (fun R hR => ?_) (fun i σ H' => ∃ u w z, σ = [some (.ref a), some (.ref v1), some (.ref v2), some (.int k), some (.int wd), some (.ref D), some (.ref p), some (.ref wi), some (.ref ve), u, some (.ref lo), some (.ref ze), some (.ref D2), none, some (.ref be), w, z] ∧ Same G2 H') ⟨_, _, _, rfl, Same.refl _⟩ ?_ ?_
    · simp only [tSeq, tIfS, tTest, tOp, tVar, tC, tCB, tCons, tNil, tRet, tAsg, gName, tNext, tDrop, rI, rI0, rEq, rNe, sc_ii, sc_ss, sc_bb, sc_in, sc_ni, sc_nn, sc_si, sc_is, List.getElem?_cons_zero, List.getElem?_cons_succ, List.set_cons_zero, List.set_cons_succ, Option.some.injEq, exists_eq_left', exists_eq_left, L2.start, cxOf, List.cons.injEq, and_true, exists_and_left, exists_and_right, exists_eq', V.int.injEq, V.bl.injEq, V.str.injEq, V.ref.injEq, List.length_cons, List.length_nil, List.cons_append, List.nil_append, true_and, List.map, List.replicate, tAndV, tOrV, tNotV, tTest, tB, tNot, tAnd, tOr, Nat.zero_add, Nat.reduceAdd, Nat.reduceSub, Nat.sub_self, sFld, tFld, tPar, tMake, tCall, tMeth, tTup, tLst, HO.ins.injEq, and_assoc, reduceCtorEq, false_and, exists_false, false_or, or_false, tFmt, tJs, tBreak, tCont, tMakeS, tCallS, Int.zero_add, if_true, if_false, Bool.false_eq_true, Bool.not_true, Bool.not_false, tUn, rU, tNotN, tIsN, decide_true, decide_false, tBM, rAppend, HO.lst.injEq, HO.tup.injEq, wipe, tLstRg, tRg1]
      exact hR
    · rintro i σ H' hi ⟨u, w, z, rfl, s⟩
      have sit := sit.same s
      have hD2 := s _ _ hD2
      have r0 := r0.same s
      have r1 := r1.same s
      have r2 := r2.same s
      have hbe := hbe.same s
      obtain ⟨l, t0, t1, t2, hv, _⟩ := id sit.v1
      simp only [tSeq]
      simp only [tIfS, tTest, tOp, tVar, tC, tCB, tCons, tNil, tRet, tAsg, gName, tNext, tDrop, rI, rI0, rEq, rNe, sc_ii, sc_ss, sc_bb, sc_in, sc_ni, sc_nn, sc_si, sc_is, List.getElem?_cons_zero, List.getElem?_cons_succ, List.set_cons_zero, List.set_cons_succ, Option.some.injEq, exists_eq_left', exists_eq_left, L2.start, cxOf, List.cons.injEq, and_true, exists_and_left, exists_and_right, exists_eq', V.int.injEq, V.bl.injEq, V.str.injEq, V.ref.injEq, List.length_cons, List.length_nil, List.cons_append, List.nil_append, true_and, List.map, List.replicate, tAndV, tOrV, tNotV, tTest, tB, tNot, tAnd, tOr, Nat.zero_add, Nat.reduceAdd, Nat.reduceSub, Nat.sub_self, sFld, tFld, tPar, tMake, tCall, tMeth, tTup, tLst, HO.ins.injEq, and_assoc, reduceCtorEq, false_and, exists_false, false_or, or_false, tFmt, tJs, tBreak, tCont, tMakeS, tCallS, Int.zero_add, if_true, if_false, Bool.false_eq_true, Bool.not_true, Bool.not_false, tUn, rU, tNotN, tIsN, decide_true, decide_false, tBM, rAppend, HO.lst.injEq, HO.tup.injEq, wipe, tLstRg, tRg1, tSl, tPart, tNoPart]
      refine ⟨D2, _, rfl, SqL.of hD2, fun q1 n1 => ?_⟩
      have g1 := same_upd (o := HO.lst (cutV [V.ref o0, V.ref o1, V.ref o2] none (some (i : Int)))) n1
      have u1 : upd H' q1 (HO.lst (cutV [V.ref o0, V.ref o1, V.ref o2] none (some (i : Int)))) q1 = _ := upd_same
      generalize upd H' q1 (HO.lst (cutV [V.ref o0, V.ref o1, V.ref o2] none (some (i : Int)))) = F1 at *
      refine ⟨by decide, fun q2 n2 => ?_⟩
      have g2 := same_upd (o := HO.lst [V.ref be]) n2
      have u2 : upd F1 q2 (HO.lst [V.ref be]) q2 = _ := upd_same
      generalize upd F1 q2 (HO.lst [V.ref be]) = F2 at *
      have s12 := s.trans (g1.trans g2)
      replace r0 := r0.same (g1.trans g2)
      replace r1 := r1.same (g1.trans g2)
      replace r2 := r2.same (g1.trans g2)
      replace hbe := hbe.same (g1.trans g2)
      replace hv := (g1.trans g2) _ _ hv
      refine slice_row (g2 _ _ u1) u2 (SqL.of ((g1.trans g2) _ _ hD2)) ?_ (fun q3 F3 s3 u3 => ?_)
      · match i, hi with
        | 0, _ => exact (show 0 + 1 + 2 ≤ 100 by decide)
        | 1, _ => exact (show 1 + 1 + 1 ≤ 100 by decide)
        | 2, _ => exact (show 2 + 1 + 0 ≤ 100 by decide)
        | i + 3, hi => omega
      replace r0 := r0.same s3
      replace r1 := r1.same s3
      replace r2 := r2.same s3
      replace hbe := hbe.same s3
      replace hv := s3 _ _ hv
      clear g1 g2 u1 u2
      match i, hi with
      | 0, _ =>
        refine ixL_at 0 u3 rfl (ixL_at 1 u3 rfl (ixL_at 2 u3 rfl (ixT_at 1 hv rfl ?_)))
        exact ⟨be, o1, o2, ⟨be', rd (pick x1 1), rd (pick x1 2), x1.l⟩, rfl, hbe, r1, r2, .inl hbn, fun H6 s6 => ⟨_, rfl, by simpa using (s12.trans s3).trans s6⟩⟩
      | 1, _ =>
        refine ixL_at 0 u3 rfl (ixL_at 1 u3 rfl (ixL_at 2 u3 rfl (ixT_at 1 hv rfl ?_)))
        exact ⟨o0, be, o2, ⟨rd (pick x1 0), be', rd (pick x1 2), x1.l⟩, rfl, r0, hbe, r2, .inr (.inl hbn), fun H6 s6 => ⟨_, rfl, by simpa using (s12.trans s3).trans s6⟩⟩
      | 2, _ =>
        refine ixL_at 0 u3 rfl (ixL_at 1 u3 rfl (ixL_at 2 u3 rfl (ixT_at 1 hv rfl ?_)))
        exact ⟨o0, o1, be, ⟨rd (pick x1 0), rd (pick x1 1), be', x1.l⟩, rfl, r0, r1, hbe, .inr (.inr (.inl hbn)), fun H6 s6 => ⟨_, rfl, by simpa using (s12.trans s3).trans s6⟩⟩
      | i + 3, hi => omega
    · rintro σ H' ⟨u, w, z, rfl, s⟩
      replace sit := sit.same s
      replace hD2 := s _ _ hD2
      replace r0 := r0.same s
      replace r1 := r1.same s
      replace r2 := r2.same s
      replace hlo := hlo.same s
      replace hze := hze.same s
      simp only [tSeq]
      simp only [tIfS, tTest, tOp, tVar, tC, tCB, tCons, tNil, tRet, tAsg, gName, tNext, tDrop, rI, rI0, rEq, rNe, sc_ii, sc_ss, sc_bb, sc_in, sc_ni, sc_nn, sc_si, sc_is, List.getElem?_cons_zero, List.getElem?_cons_succ, List.set_cons_zero, List.set_cons_succ, Option.some.injEq, exists_eq_left', exists_eq_left, L2.start, cxOf, List.cons.injEq, and_true, exists_and_left, exists_and_right, exists_eq', V.int.injEq, V.bl.injEq, V.str.injEq, V.ref.injEq, List.length_cons, List.length_nil, List.cons_append, List.nil_append, true_and, List.map, List.replicate, tAndV, tOrV, tNotV, tTest, tB, tNot, tAnd, tOr, Nat.zero_add, Nat.reduceAdd, Nat.reduceSub, Nat.sub_self, sFld, tFld, tPar, tMake, tCall, tMeth, tTup, tLst, HO.ins.injEq, and_assoc, reduceCtorEq, false_and, exists_false, false_or, or_false, tFmt, tJs, tBreak, tCont, tMakeS, tCallS, Int.zero_add, if_true, if_false, Bool.false_eq_true, Bool.not_true, Bool.not_false, tUn, rU, tNotN, tIsN, decide_true, decide_false, tBM, rAppend, HO.lst.injEq, HO.tup.injEq, wipe, tLstRg, tRg1]
      refine ixL_at 0 hD2 rfl (ixL_at 1 hD2 rfl (ixL_at 2 hD2 rfl ?_))
      refine ⟨by decide, ?_⟩
      refine ⟨o0, o1, o2, ⟨_, _, _, some (-1 - wd % 7)⟩, rfl, r0, r1, r2, .inr (.inr (.inr (decide_eq_true (by omega)))), fun H6 s => ⟨_, rfl, ?_⟩⟩
      replace hlo := hlo.same s
      replace hze := hze.same s
      clear s
      simp only [tIfS, tTest, tOp, tVar, tC, tCB, tCons, tNil, tRet, tAsg, gName, tNext, tDrop, rI, rI0, rEq, rNe, sc_ii, sc_ss, sc_bb, sc_in, sc_ni, sc_nn, sc_si, sc_is, List.getElem?_cons_zero, List.getElem?_cons_succ, List.set_cons_zero, List.set_cons_succ, Option.some.injEq, exists_eq_left', exists_eq_left, L2.start, cxOf, List.cons.injEq, and_true, exists_and_left, exists_and_right, exists_eq', V.int.injEq, V.bl.injEq, V.str.injEq, V.ref.injEq, List.length_cons, List.length_nil, List.cons_append, List.nil_append, true_and, List.map, List.replicate, tAndV, tOrV, tNotV, tTest, tB, tNot, tAnd, tOr, Nat.zero_add, Nat.reduceAdd, Nat.reduceSub, Nat.sub_self, sFld, tFld, tPar, tMake, tCall, tMeth, tTup, tLst, HO.ins.injEq, and_assoc, reduceCtorEq, false_and, exists_false, false_or, or_false, tFmt, tJs, tBreak, tCont, tMakeS, tCallS, Int.zero_add, if_true, if_false, Bool.false_eq_true, Bool.not_true, Bool.not_false, tUn, rU, tNotN, tIsN, decide_true, decide_false, tBM, rAppend, HO.lst.injEq, HO.tup.injEq, wipe, tLstRg, tRg1]
      refine ⟨ze, ze, lo, ⟨_, _, red (-1) 3, none⟩, rfl, hze, hze, hlo, .inr (.inr (.inl blo)), fun H7 s => ⟨_, rfl, ?_⟩⟩
      refine iteT ?_
      exact ⟨ze, ze, ze, ⟨_, _, _, some (-1)⟩, rfl, hze.same s, hze.same s, hze.same s, .inr (.inr (.inr rfl)), fun H8 _ => hQ H8⟩
end
/-! ### the head -/
abbrev R : PySem.W.OpenRow := PySem.W.OpenLaw.row PySem.Challenge.rw_tellsnone_k30_bounds
abbrev exf : PySem.W.Frag → Bool := fun K => exl.all fun f => f K
abbrev hk : PySem.W.Hook := He.hookX 9 fa fn [] [] exf
def ob (s : PySem.W.SharedT) : He.AlX := He.obsX 9 fa fn [] [] exf (HandSHeadRun.getT s)
theorem ob_eq (s : PySem.W.SharedT) : ob s = hk.obs s.abs := He.obsX_eq (HandSHeadRun.getT_eq s)
def names : List PySem.Str := ["PlayError", "BadStep", "BadBound", "Ratio", "Bound", "nothing", "_law_cell", "_law_is_integer", "_law_row", "_law_less", "_law_plus", "_law_times", "_law_drawn", "_law_made", "_law_at", "_law_plus_of", "_law_within", "_law_is", "_law_refused", "_law_told"]
theorem run (w : World) : HandSHeadRun.RunEq R (PySem.W.view R.prog [24]) hk ob 12000 names w := by
  intro os
  kernel_rfl
theorem law_facts {P : Program} {w : World} {K : PySem.W.Frag} {h : Heap} {mg : Str → Option Value} {f : Addr} (X : K.In h) (G : h.Ns mainGlobals mg) (hfa : mg ("law" : Str) = some (.ref f)) (c : He.SaysX fa fn [] [] exf w h K) :
    ∃ fd : FuncData, (∀ (s : Shared) (v : Value), BindsTo s fd ⟨[v], []⟩ [("_law_script", v)]) ∧ ∀ base : Heap, K.In base → base.Ns mainGlobals mg → FnOk P w K mg base CX0 9 f fd ["_law_script"] (spLaw K) := by
  have T : Tk K mg := ⟨c.t.d, ⟨h, X, G⟩, c.more⟩
  obtain ⟨fd, F⟩ := T.df 28
  have e := hfa.symm.trans (T.glo 46)
  cases e
  have b := FunD.bindsA (ps := ["_law_script"]) F fun _ _ _ _ _ _ us hl => match us, hl with | [_], _ => rfl
  exact ⟨fd, fun s v => b s [v] rfl, fun base _ _ => F.ok sc_law (fun vs H Q E h => by obtain ⟨a, ns, rfl, _⟩ := h; rfl) (law_body T).to⟩
end K30
open PySem PySem.W PySem.Calls PyProof.Rows
set_option maxRecDepth 100000 in
set_option maxHeartbeats 0 in
theorem PySem.Challenge.cw_tellsnone_k30_bounds_holds : PySem.Challenge.rw_tellsnone_k30_bounds.Holds := by
  w_on; o_law
  refine HandSHeadRun.head_any (r := OpenLaw.row PySem.Challenge.rw_tellsnone_k30_bounds) (q := view (OpenLaw.row PySem.Challenge.rw_tellsnone_k30_bounds).prog [24]) (H := K30.hk) (ob := K30.ob) (M := 12000) (loose := K30.names) (d := HandSHeadRun.topDef (OpenLaw.row PySem.Challenge.rw_tellsnone_k30_bounds).prog 24) (kwd := []) K30.ob_eq
    (by kernel_rfl) (fun s => by kernel_rfl) K30.run (by kernel_rfl) (by kernel_rfl) (by kernel_rfl) (by rfl) (by first | assumption | decide +kernel) (by decide +kernel) ⟨rfl, rfl, rfl, rfl, rfl, by decide +kernel⟩ ?hw ?hc
  case hw => w_witness2
  case hc =>
    refine L2.walk_ofE (l := PySem.Challenge.rw_tellsnone_k30_bounds) (n := 63) (k := 9) (x := "_law_script") (CX := L2.CX0) rfl (by decide) (by kernel_rfl) ⟨rfl, by decide, by decide⟩ ?F (fun _ _ _ _ z => z)
    intro w mg fa h Y G hmg0
    obtain ⟨K, KX, c⟩ := Y
    have hmg : mg ("law" : PySem.Str) = some (.ref fa) := by
      have e : (HandSHeadRun.topDef (OpenLaw.row PySem.Challenge.rw_tellsnone_k30_bounds).prog 24).name = ("law" : PySem.Str) := by kernel_rfl
      rw [← e]
      exact hmg0
    obtain ⟨fd, hb, hF⟩ := K30.law_facts (P := (PySem.Challenge.rw_tellsnone_k30_bounds).prog) (w := w) KX G hmg c
    exact ⟨K, fd, K30.spLaw K, KX, hb, fun H a ns hl _ hS => ⟨a, ns, rfl, hS, hl, fun _ => rfl⟩, hF⟩

