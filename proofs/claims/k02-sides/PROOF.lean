import PyProof.Rows.All
import Wide.All
import OpenK.AllK
import Wide.FinOn
import KE.KStateDown
import HandS.Head0
import HandS.Head1
import HandS.Head2
import HandS.HeadEnd
import HandS.HeadHook1
import HandS.HeadHook2
import HandS.ForMost
import HandS.Exc
import HandS.TryOnly
import HandS.ExcOwn
import HandS.WordsExc
import HandS.ExcInit
import HandS.ExcInitHot
import HandS.ExcValue
import HandS.ExcIs
import HandS.ClsMeth
import HandS.IsInst
import HandS.Defaults
import HandS.DictTup
import HandS.Deep
import HandS.More
import HandS.Conv
import HandS.Wide
import KE.KExcIs
import PySem.Challenge.RW_rimnotes_k02_sides
set_option Elab.async false
set_option linter.all false
set_option maxRecDepth 100000
set_option maxHeartbeats 4000000
namespace Rim
open PySem PySem.Spec PyProof.Rows L2
/-! ### what the written part says, looked at in one run -/
abbrev Chk : Type := PySem.W.Frag → Bool
abbrev AlC : Type := Bool × List He.FnW
def obsC (chk : Chk) (fn : List He.DefD) (K : PySem.W.Frag) : AlC := (chk K && fn.all fun d => d.ok K, fn.map fun d => He.fnW K d.at_)
def valC (fn : List He.DefD) : AlC := (true, fn.map He.DefD.val)
def SaysC (chk : Chk) (fn : List He.DefD) (K : PySem.W.Frag) : Prop := obsC chk fn K = valC fn
def obsCG (as : List Addr) (chk : Chk) (fn : List He.DefD) (g : Addr → Option Obj) : AlC := obsC chk fn (He.frG g as)
def hookC (as : List Addr) (chk : Chk) (fn : List He.DefD) : PySem.W.Hook where
  α := AlC
  obs := fun s => obsCG as chk fn s.heap.get?
  val := fun _ => valC fn
  says := fun _ h => ∃ K : PySem.W.Frag, K.In h ∧ SaysC chk fn K
  of := fun _ _ e => ⟨_, He.frG_in, e⟩
  keeps := fun _ _ _ ⟨K, hK, c⟩ k => ⟨K, PySem.W.Frag.In.keeps hK k, c⟩
theorem obsCG_eq {as : List Addr} {chk : Chk} {fn : List He.DefD} {g : Addr → Option Obj} {s : Shared} (h : ∀ a, g a = s.heap.get? a) : obsCG as chk fn g = (hookC as chk fn).obs s := by
  have e : g = s.heap.get? := funext h
  rw [e] <;> rfl
theorem SaysC.fact {chk : Chk} {fn : List He.DefD} {K : PySem.W.Frag} (c : SaysC chk fn K) : chk K = true :=
  (He.ba (show (chk K && fn.all fun d => d.ok K) = true from congrArg (fun z : AlC => z.1) c)).1
theorem SaysC.def_ {chk : Chk} {fn : List He.DefD} {K : PySem.W.Frag} (c : SaysC chk fn K) (i : Nat) {d : He.DefD} (h : fn[i]? = some d := by rfl) : ∃ fd, FunD K d.name d.qual d.params d.body d.scope (d.dvs K) (d.kws K) (He.fAd K d.at_) fd := by
  have c2 := (He.ba (show (chk K && fn.all fun d => d.ok K) = true from congrArg (fun z : AlC => z.1) c)).2
  have e : fn.map (fun d => He.fnW K d.at_) = fn.map He.DefD.val := congrArg (fun z : AlC => z.2) c
  have e2 : (fn.map fun d => He.fnW K d.at_)[i]? = (fn.map He.DefD.val)[i]? := by rw [e]
  rw [List.getElem?_map, List.getElem?_map, h] at e2
  exact He.DefD.funD (Option.some.inj e2) (List.all_eq_true.mp c2 d (List.mem_of_getElem? h))
def addrs (n : Nat) : List Addr := List.range n

/-! ### R.__init__(self, ..), R an own class over ValueError without an __init__ of its own -/
structure ReC (K : PySem.W.Frag) (C : Addr) : Prop where
  rd : PySem.W.readsIn K C (.type "type") = true
  ga : PySem.W.specialIn K (.ref C) "__getattribute__" = some (some (.builtin "type.__getattribute__"))
  vi : PySem.W.findCls K (.ref C) (.type "type") "__init__" = some (.val (.builtin "ValueError.__init__"))
section
variable {X : Cx} {x : Str} {C : Addr} {e : Expr} {es : List Expr} {ta : TA} {p1 p2 pos : Pos}
theorem pe_reinit {pl : Sem Bool} (hg : Gl X x) (hm : X.mg x = some (.ref C)) (T : ReC X.K C) (ha : PA X (e :: es) ta) (hdb : (x == ("__debug__" : Str)) = false := by decide)
    (hc : eval (.Call (.Attribute (.Name x p1) "__init__" p2) (e :: es) [] pos) X.env = (do
      let ov ← eval (.Name x p1) X.env
      standAt p2.atName
      let (f, first) ← holding [ov] (getMethod ov "__init__" pl)
      callWith pos f first (backTo pos (starEach (e :: es) X.env)) (backToKw pos (keywordEach [] X.env))) := by rfl)
    (he : starEach (e :: es) X.env = (false, eval e X.env) :: starEach es X.env := by rfl) (hpl : (backTo pos (starEach es X.env)).any (·.1) = false := by rfl) :
    PE X (.Call (.Attribute (.Name x p1) "__init__" p2) (e :: es) [] pos) (tVeI X.K ta) := by
  refine ⟨fun pins s σ H Q I h => ?_⟩
  refine PySem.W.methodCall_KW (ld_glob I hg hm ?_ hdb) hc
  refine PySem.W.method_cls I.kIn T.ga ?_
  refine PySem.W.cls_value I.kIn T.rd T.vi (by decide +kernel) ?_
  show wpAny _ _ (callWith pos (Value.builtin "ValueError.__init__") [] (backTo pos (starEach (e :: es) X.env)) []) _ _ _
  refine PyProof.Rows.callWith_method1 (thn (ha.run pos pins _ σ H _ (I.tok _) h) fun us s1 ⟨vs, H1, I1, r1, a, C, ws, ev, hl, T, ea, q⟩ => ?_) he hpl
  subst ev
  cases r1 with
  | @cons _ u0 _ ur ra rw' =>
    obtain rfl : u0 = Value.ref a := ra
    have hlen : ur.length ≤ sizeLine := by
      rw [← Paired.length rw', sizeLine_eq]
      omega
    exact oinit_ok T I1 ea hlen fun s' J => ⟨.non, H1, J, rfl, q⟩
end
end Rim
set_option Elab.async false
set_option linter.all false
set_option maxRecDepth 100000
set_option maxHeartbeats 4000000
namespace Rim
open PySem PySem.Spec PyProof.Rows L2
/-! ### short names of readings -/
abbrev cl (K : PySem.W.Frag) (x : Str) : Addr := He.ga K x
abbrev rAddI : R2 := rI0 fun i j => .int (i + j)
abbrev rSubI : R2 := rI0 fun i j => .int (i - j)
abbrev rMulI : R2 := rI CMul fun i j => .int (i * j)
abbrev rModI : R2 := rI (fun _ j => 0 < j) fun i j => .int (i % j)
abbrev rDivI : R2 := rI CDiv fun i j => .int (i / j)
abbrev rShrI : R2 := rI (fun _ j => 0 ≤ j) fun i j => .int (i / 2 ^ j.toNat)
abbrev rPowI : R2 := rI CPow fun i j => .int (i ^ j.toNat)
abbrev rAndI : R2 := rI0 fun i j => .int (Builtin.bitAnd i j)
abbrev rLtI : R2 := rI0 fun i j => .bl (decide (i < j))
abbrev rLeI : R2 := rI0 fun i j => .bl (decide (i ≤ j))
abbrev rGtI : R2 := rI0 fun i j => .bl (decide (j < i))
abbrev rGeI : R2 := rI0 fun i j => .bl (decide (j ≤ i))
abbrev rNeg : V → Hp → VK → Prop := rU fun i => .int (-i)
abbrev rIsN : R2 := fun x y H Q => y = .non ∧ Q (.bl (decide (x = .non))) H
abbrev rNotN : R2 := fun x y H Q => y = .non ∧ Q (.bl (!decide (x = .non))) H
abbrev rAddStr : R2 := fun x y H Q => ∃ i j, x = .str i ∧ y = .str j ∧ i.length + j.length ≤ sizeLine ∧ Q (.str (i ++ j)) H
abbrev rInSign : R2 := fun x y H Q => ∃ (c : Nat) (z : Str), x = .str ⟨#[c]⟩ ∧ y = .str z ∧ Q (.bl (decide (c ∈ z.cps.toList))) H
abbrev rNotInSign : R2 := fun x y H Q => ∃ (c : Nat) (z : Str), x = .str ⟨#[c]⟩ ∧ y = .str z ∧ Q (.bl (!decide (c ∈ z.cps.toList))) H
abbrev tTru (K : PySem.W.Frag) (ta : TE) : TT := fun σ H Q => ta σ H fun x H' => ∃ k, TruV K x H' k ∧ Q k H'
abbrev rAbs : List V → Hp → VK → Prop := fun xs H Q => ∃ i, xs = [.int i] ∧ Q (.int (if i < 0 then -i else i)) H
abbrev rMax2 : List V → Hp → VK → Prop := fun xs H Q => ∃ i j, xs = [.int i, .int j] ∧ Q (.int (if j > i then j else i)) H
abbrev rMin2 : List V → Hp → VK → Prop := fun xs H Q => ∃ i j, xs = [.int i, .int j] ∧ Q (.int (if j < i then j else i)) H
abbrev rLenSeq (K : PySem.W.Frag) : List V → Hp → VK → Prop := fun xs H Q => ∃ p ys, xs = [.ref p] ∧ (SqL K H p ys ∨ SqT K H p ys) ∧ Q (.int ys.length) H
abbrev rLenStr : List V → Hp → VK → Prop := fun xs H Q => ∃ z, xs = [.str z] ∧ z.length ≤ sizeLine ∧ Q (.int z.length) H
abbrev rLenD : List V → Hp → VK → Prop := fun xs H Q => ∃ a kvs, xs = [V.ref a] ∧ H a = some (.dK kvs) ∧ Q (.int kvs.length) H
abbrev rListOf (K : PySem.W.Frag) : List V → Hp → VK → Prop := fun xs H Q => ∃ p ys, xs = [.ref p] ∧ (SqL K H p ys ∨ SqT K H p ys) ∧ ∀ l, H l = none → Q (.ref l) (upd H l (.lst ys))
abbrev rStrI : List V → Hp → VK → Prop := fun xs H Q => ∃ i, xs = [.int i] ∧ i.natAbs.log2 < 1920 ∧ Q (.str (toString i)) H
abbrev rInt1 : List V → Hp → VK → Prop := fun xs H Q => (∃ i, xs = [.int i] ∧ Q (.int i) H) ∨ ∃ k, xs = [.bl k] ∧ Q (.int (if k then 1 else 0)) H
abbrev rIntS : List V → Hp → VK → Prop := fun xs H Q => ∃ a n, xs = [.str a] ∧ PySem.intText? a = some n ∧ a.length ≤ 640 ∧ Q (.int n) H
abbrev rOrd : List V → Hp → VK → Prop := fun xs H Q => ∃ x, xs = [.str x] ∧ x.length = 1 ∧ Q (.int (x.cps.getD 0 0 : Nat)) H

/-! ### a def's exceptions go out as they came -/
section
variable {CXg P w K mg base N qual scope f cdv A outer s H E}
abbrev bodyCx (P : Program) (w : World) (K : PySem.W.Frag) (mg : Str → Option Value) (base : Heap) (N : List Str) (qual : Str) (scope : Scope) (f : Addr) (cdv : Value) (A : Around) (outer : List Env) (s : Shared) (H : Hp) (E : XK) : Cx :=
  cxOf (L2.CX P w) P w K mg base N qual scope f cdv A outer s H E
theorem takesE : Takes (bodyCx P w K mg base N qual scope f cdv A outer s H E) (fun cls d _ H => E cls d H) := takes_of rfl rfl rfl rfl
theorem passE : Passes (L2.CX P w) (bodyCx P w K mg base N qual scope f cdv A outer s H E) E :=
  fun pins σ H0 s0 e s' I c => passes_call (E := E) takesE (fun _ _ _ _ h => h) pins σ H0 s0 e s' I c
end
/-- a constant of the module -/
theorem pe_gk {X : Cx} {x : Str} {pos : Pos} {v : V} (hg : Gl X x) (h : ∃ u, X.mg x = some u ∧ RelV v u) (hd : (x == ("__debug__" : Str)) = false := by decide) : PE X (.Name x pos) (tC v) := by
  obtain ⟨u, hm, r⟩ := h
  exact pe_glob hg hm r hd

/-! ### errors made -/
/-- arguments, by what their reading comes to -/
def upA (t : TA) : TA := fun σ H R => ∃ R0 : List V → Hp → Prop, t σ H R0 ∧ ∀ vs H', R0 vs H' → R vs H'
theorem pa_up {X : Cx} {es : List Expr} {t : TA} (h : PA X es t) : PA X es (upA t) := by
  refine ⟨fun pos pins s σ H Q I ⟨R0, h0, h1⟩ => ?_⟩
  refine wpAny_mono (h.run pos pins s σ H R0 I h0) (fun us s' hq => ?_) fun _ _ z => z
  obtain ⟨vs, H', J, r, q⟩ := hq
  exact ⟨vs, H', J, r, h1 _ _ q⟩
theorem ps_imp {X : Cx} {st : Stmt} {t t' : TS} (h : PS X st t) (i : ∀ D σ H, t' D σ H → t D σ H) : PS X st t' :=
  ⟨fun pins s σ H D I hq => h.run pins s σ H D I (i D σ H hq)⟩
theorem upd_comm {H : Hp} {a b : Addr} {o u : HO} (h : a ≠ b) : upd (upd H a o) b u = upd (upd H b u) a o := by
  funext c
  by_cases hb : c = b
  · subst hb
    rw [upd_same, upd_ne (Ne.symm h), upd_same]
  · by_cases ha : c = a
    · subst ha
      rw [upd_ne hb, upd_same, upd_same]
    · rw [upd_ne hb, upd_ne ha, upd_ne ha, upd_ne hb]
/-- what an error's __init__ does: its fields, in their order -/
def spErr (K : PySem.W.Frag) (fs : List Str) : Sp := fun vs H Q _ => ∃ (a C : Addr) (ys : List V), vs = .ref a :: ys ∧ ys.length = fs.length ∧ H a = some (exo a C none) ∧ OexC K C ∧ (∀ f ∈ fs, PySem.W.findIn K (.ref C) f = some none) ∧
  ∀ dx, H dx = none → dx ≠ a → Q .non (upd (upd H dx (exd dx (fs.zip ys).reverse)) a (exo a C (some dx)))
/-- raise C(e, ..) -/
def tRaiseE (C : Addr) (fs : List Str) (W : WX) (ta : TA) : TS := fun _ σ H => ta σ H fun vs H1 => vs.length = fs.length ∧ ∀ d, H1 d = none → W (.ref C) (some d) σ (upd H1 d (.xd (fs.zip vs).reverse))
/-- what the written part says of an error class -/
structure ErrC (K : PySem.W.Frag) (C fI : Addr) (fs : List Str) : Prop where
  ox : OexC K C
  ini : PySem.W.findIn K (.ref C) "__init__" = some (some (.ref fI))
  ti : PySem.W.typeIn K (.ref fI) = some (.type "function")
  no : ∀ f ∈ fs, PySem.W.findIn K (.ref C) f = some none
  few : fs.length ≤ 1000
theorem ps_raiseE {X : Cx} {x : Str} {C fI : Addr} {fs : List Str} {k : Nat} {fd : FuncData} {ps : List Str} {W : WX} {e : Expr} {es : List Expr} {ta : TA} {p pos pos2 : Pos}
    (T : ErrC X.K C fI fs) (F : FnOk X.prog X.w X.K X.mg X.base (L2.CX X.prog X.w) k fI fd ps (spErr X.K fs)) (hr : Room (k + 1) X.A) (hb : Binds X.K fd ps []) (hm : X.mg x = some (.ref C)) (tk : Takes X W) (ha : PA X (e :: es) ta)
    (hc : X.calm = true := by rfl) (hg : Gl X x := by rfl) (hdb : (x == ("__debug__" : Str)) = false := by decide)
    (he : starEach (e :: es) X.env = (false, eval e X.env) :: starEach es X.env := by rfl) (hpl : (backTo pos (starEach es X.env)).any (·.1) = false := by rfl) :
    PS X (.Raise (some (.Call (.Name x p) (e :: es) [] pos)) none pos2) (tRaiseE C fs W ta) := by
  have mk := pmk_oex (X := X) (x := x) (p := p) (pos := pos) (dvs := []) T.ox T.ini T.ti F hr hb .nil passL hg hm (pa_up ha) hdb he hpl
  refine ps_imp (ps_raise hc tk mk) fun D σ H h => ?_
  refine ⟨_, h, fun vs H1 hq => ?_⟩
  obtain ⟨hl, q⟩ := hq
  refine ⟨by rw [hl]; exact T.few, fun a ha => ?_⟩
  rw [List.append_nil]
  refine ⟨a, C, vs, rfl, hl, upd_same, T.ox, T.no, fun dx hdx ne => ?_⟩
  have hdx0 : H1 dx = none := by rw [upd_ne ne] at hdx; exact hdx
  refine ⟨rfl, dx, _, upd_same, by rw [upd_ne ne, upd_same], hdx0, ?_⟩
  have e1 : del (upd (upd (upd H1 a (exo a C none)) dx (exd dx (fs.zip vs).reverse)) a (exo a C (some dx))) a = upd H1 dx (exd dx (fs.zip vs).reverse) := by
    funext b
    by_cases hb : b = a
    · subst hb
      rw [del_same, upd_ne (Ne.symm ne), ha]
    · rw [del_ne hb, upd_ne hb]
      by_cases hd : b = dx
      · subst hd
        rw [upd_same, upd_same]
      · rw [upd_ne hd, upd_ne hb, upd_ne hd]
  rw [e1, upd_upd]
  exact q dx hdx0
/-- raise C(), C without an __init__ of its own -/
def tRaise0 (C : Addr) (W : WX) : TS := fun _ σ H => W (.ref C) none σ H

/-! ### the __init__ of an error with one field, with two -/
theorem pure_err1 {K : PySem.W.Frag} {f m p : Str} (vs : List V) (H : Hp) (Q : VK) (E : XK) (h : spErr K [f] vs H Q E) :
    tSeq (tDrop (tVeI K (tCons (tVar 0) (tCons (tC (.str m)) tNil)))) (tOst K f (tVar 0) (tVar 1)) { nx := fun _ H' => Q .non H', rt := Q } (start ["self", p] vs) H := by
  obtain ⟨a, C, ys, rfl, hl, ha, T, no, k⟩ := h
  obtain ⟨y, rfl⟩ : ∃ y, ys = [y] := by
    match ys, hl with
    | [y], _ => exact ⟨y, rfl⟩
  refine ⟨_, rfl, a, C, [.str m], rfl, by simp, T, ha, ?_⟩
  refine ⟨_, rfl, _, rfl, a, C, rfl, T, no f (by simp), .inl ⟨ha, fun dx hd ne => ?_⟩⟩
  exact k dx hd ne
theorem pure_err2 {K : PySem.W.Frag} {f g m p q : Str} (vs : List V) (H : Hp) (Q : VK) (E : XK) (h : spErr K [f, g] vs H Q E) :
    tSeq (tDrop (tVeI K (tCons (tVar 0) (tCons (tC (.str m)) tNil)))) (tSeq (tOst K f (tVar 0) (tVar 1)) (tOst K g (tVar 0) (tVar 2))) { nx := fun _ H' => Q .non H', rt := Q } (start ["self", p, q] vs) H := by
  obtain ⟨a, C, ys, rfl, hl, ha, T, no, k⟩ := h
  obtain ⟨y, z, rfl⟩ : ∃ y z, ys = [y, z] := by
    match ys, hl with
    | [y, z], _ => exact ⟨y, z, rfl⟩
  refine ⟨_, rfl, a, C, [.str m], rfl, by simp, T, ha, ?_⟩
  refine ⟨_, rfl, _, rfl, a, C, rfl, T, no f (by simp), .inl ⟨ha, fun dx hd ne => ?_⟩⟩
  refine ⟨_, rfl, _, rfl, a, C, rfl, T, no g (by simp), .inr ⟨dx, [(f, y)], upd_same, by rw [upd_ne ne, upd_same], by simp, ?_⟩⟩
  have e : upd (upd (upd H dx (exd dx [(f, y)])) a (exo a C (some dx))) dx (exd dx ((g, z) :: [(f, y)])) = upd (upd H dx (exd dx (([f, g] : List Str).zip [y, z]).reverse)) a (exo a C (some dx)) := by
    rw [upd_comm (Ne.symm ne), upd_upd]
    rfl
  show Q .non (upd (upd (upd H dx (exd dx [(f, y)])) a (exo a C (some dx))) dx (exd dx ((g, z) :: [(f, y)])))
  rw [e]
  exact k dx hd ne
end Rim
set_option Elab.async false
set_option linter.all false
set_option maxRecDepth 100000
set_option maxHeartbeats 4000000
namespace Rim
open PySem PySem.Spec PyProof.Rows L2
/-! ### looks at the written part, and what they tell -/
theorem ck_at {L : List Chk} {fn : List He.DefD} {K : PySem.W.Frag} (c : SaysC (fun K => L.all fun f => f K) fn K) (i : Nat) {f : Chk} (h : L[i]? = some f := by rfl) : f K = true :=
  List.all_eq_true.mp c.fact f (List.mem_of_getElem? h)
def kGlo (x : Str) : Chk := fun K => (He.Fa.glo x).ok K
def kFree (x : Str) : Chk := fun K => (He.Fa.free x).ok K
def kCls (x : Str) : Chk := fun K => (He.Fa.cls x).ok K
def kNo (x f : Str) : Chk := fun K => (He.Fa.noat x f).ok K
def kMk (x : Str) : Chk := fun K => (He.Fa.mkr x).ok K
/-- the method m of the class x is that of the class y (where it is written) -/
def kMeth (x m y : Str) : Chk := fun K => (He.Fa.meth x m).ok K && decide (He.ma K (cl K x) m = He.ma K (cl K y) m)
theorem meth_of {K : PySem.W.Frag} {x m y : Str} (h : kMeth x m y K = true) : Meth K (cl K x) m (He.fAd K (y, some m)) := by
  obtain ⟨h1, h2⟩ := He.ba h
  have e : He.ma K (cl K x) m = He.fAd K (y, some m) := of_decide_eq_true h2
  rw [← e]
  exact He.meth_ok h1
theorem mk_of' {K : PySem.W.Frag} {x y : Str} (h : kMk x K = true) (h2 : kMeth x "__init__" y K = true) : Mk K (cl K x) (He.fAd K (y, some "__init__")) := by
  have e : He.ma K (cl K x) "__init__" = He.fAd K (y, some "__init__") := of_decide_eq_true (He.ba h2).2
  rw [← e]
  exact He.mkr_ok h
/-- R.__init__ is ValueError's -/
def isVal (r : Option PySem.W.CFound) (v : Value) : Bool := match r with
  | some (.val u) => decide (u = v)
  | _ => false
def kRe (x : Str) : Chk := fun K => PySem.W.readsIn K (cl K x) (.type "type") && (decide (PySem.W.specialIn K (.ref (cl K x)) "__getattribute__" = some (some (.builtin "type.__getattribute__"))) && isVal (PySem.W.findCls K (.ref (cl K x)) (.type "type") "__init__") (.builtin "ValueError.__init__"))
theorem re_of {K : PySem.W.Frag} {x : Str} (h : kRe x K = true) : ReC K (cl K x) := by
  obtain ⟨h1, h2⟩ := He.ba h
  obtain ⟨h2, h3⟩ := He.ba h2
  refine ⟨h1, of_decide_eq_true h2, ?_⟩
  unfold isVal at h3
  split at h3
  · rename_i u e
    rw [e, of_decide_eq_true h3]
  · cases h3
/-- an error's class object -/
def oxB (K : PySem.W.Frag) (C : Addr) : Bool := match K.lookup C with
  | some ⟨.type "type", _, .cls cd, sl⟩ => (match cd.mro, sl.toList with
    | .ref C' :: bm, [_, _, _, _, some (.builtin n), _] => decide (C' = C) && (decide (n = "ValueError.__new__") && (!cd.hasDel && (cd.hasDict && PySem.HandSPX.refsVE bm)))
    | _, _ => false)
  | _ => false
theorem oxB_ok {K : PySem.W.Frag} {C : Addr} (h : oxB K C = true) :
    ∃ nm q N bs bm sn sub ab col dd k0 k1 k2 k3 k5, K.lookup C = some (excClassObj nm q C N bs bm true sn sub ab col dd k0 k1 k2 k3 k5 "ValueError.__new__") ∧ PySem.HandSPX.refsVE bm = true := by
  unfold oxB at h
  split at h
  · rename_i dd cd sl ho
    split at h
    · rename_i C' bm k0 k1 k2 k3 n k5 hm hs
      obtain ⟨a1, h⟩ := He.ba h
      obtain ⟨a2, h⟩ := He.ba h
      obtain ⟨a3, h⟩ := He.ba h
      obtain ⟨a4, a5⟩ := He.ba h
      obtain ⟨nm, bs, mro, ns, qn, hd, sn, sub, ab, col, del⟩ := cd
      have b1 := of_decide_eq_true a1
      have b2 := of_decide_eq_true a2
      dsimp only at hm a3 a4
      have b3 : del = false := by cases del <;> first | rfl | cases a3
      subst b1 b2 b3 hm a4
      have e : sl = #[k0, k1, k2, k3, some (.builtin "ValueError.__new__"), k5] := by
        obtain ⟨l⟩ := sl
        simp only at hs
        rw [hs]
      subst e
      exact ⟨nm, qn, ns, bs, bm, sn, sub, ab, col, dd, k0, k1, k2, k3, k5, ho, a5⟩
    · cases h
  · cases h
def kOx (x : Str) : Chk := fun K => oxB K (cl K x) && (He.eqO (PySem.W.findIn K (.ref (cl K x)) "__setattr__") (some (some (.builtin "object.__setattr__"))) &&
  (decide (PySem.W.subIn K (.ref (cl K x)) (.type "BaseException") = some true) && (decide (PySem.W.typeIn K (.ref (cl K x)) = some (.type "type")) && PySem.W.keepIn K (.ref (cl K x)))))
theorem ox_of {K : PySem.W.Frag} {x : Str} (h : kOx x K = true) : OexC K (cl K x) := by
  obtain ⟨h1, h⟩ := He.ba h
  obtain ⟨h2, h⟩ := He.ba h
  obtain ⟨h3, h⟩ := He.ba h
  obtain ⟨h4, h5⟩ := He.ba h
  exact ⟨oxB_ok h1, He.eqO_ok h2, of_decide_eq_true h3, of_decide_eq_true h4, h5⟩
def kErr (x : Str) (fs : List Str) : Chk := fun K => kOx x K && (He.eqO (PySem.W.findIn K (.ref (cl K x)) "__init__") (some (some (.ref (He.fAd K (x, some "__init__"))))) &&
  (decide (PySem.W.typeIn K (.ref (He.fAd K (x, some "__init__"))) = some (.type "function")) && fs.all fun f => He.eqO (PySem.W.findIn K (.ref (cl K x)) f) (some none)))
theorem err_of {K : PySem.W.Frag} {x : Str} {fs : List Str} (h : kErr x fs K = true) (few : fs.length ≤ 1000 := by decide) : ErrC K (cl K x) (He.fAd K (x, some "__init__")) fs := by
  obtain ⟨h1, h⟩ := He.ba h
  obtain ⟨h2, h⟩ := He.ba h
  obtain ⟨h3, h4⟩ := He.ba h
  exact ⟨ox_of h1, He.eqO_ok h2, of_decide_eq_true h3, fun f hf => He.eqO_ok (List.all_eq_true.mp h4 f hf), few⟩
/-- except x: an error of the class y is (is not) one of these -/
def kExm (y x : Str) (b : Bool) : Chk := fun K => decide (PySem.W.exmOne K (.ref (cl K y)) (.ref (cl K x)) = some b)
theorem exm_of {K : PySem.W.Frag} {x y : Str} {b : Bool} (h : kExm y x b K = true) : PySem.W.exmOne K (.ref (cl K y)) (.ref (cl K x)) = some b := of_decide_eq_true h
/-- isinstance of an object of the class y against x -/
def kKit (y x : Str) (b : Bool) : Chk := fun K => decide (PySem.W.kitOne K (.ref (cl K y)) (.ref (cl K x)) = some b)
theorem kit_of' {K : PySem.W.Frag} {x y : Str} {b : Bool} (h : kKit y x b K = true) : PySem.W.kitOne K (.ref (cl K y)) (.ref (cl K x)) = some b := of_decide_eq_true h
def kKitT (y : Str) (t : String) (b : Bool) : Chk := fun K => decide (PySem.W.kitOne K (.ref (cl K y)) (.type t) = some b)
theorem kitT_of {K : PySem.W.Frag} {y : Str} {t : String} {b : Bool} (h : kKitT y t b K = true) : PySem.W.kitOne K (.ref (cl K y)) (.type t) = some b := of_decide_eq_true h
/-- what isinstance asks of instances of the class x -/
structure InsC (K : PySem.W.Frag) (C : Addr) : Prop where
  c : Cls K C
  ha : PySem.W.findIn K (.ref C) "__class__" = some (some (.builtin "object.__class__"))
  hn : PySem.W.specialIn K (.builtin "object.__class__") "__get__" = some (some (.builtin "getset_descriptor.__get__"))
  ht : PySem.W.takesIn K (.builtin "object.__class__") = some true
  hm : PySem.W.mroIn K C (.type "object") = some true
def kInsA (C : Addr) : Chk := fun K => He.eqO (PySem.W.findIn K (.ref C) "__class__") (some (some (.builtin "object.__class__"))) &&
  (decide (PySem.W.specialIn K (.builtin "object.__class__") "__get__" = some (some (.builtin "getset_descriptor.__get__"))) && (decide (PySem.W.takesIn K (.builtin "object.__class__") = some true) && decide (PySem.W.mroIn K C (.type "object") = some true)))
def kIns (x : Str) : Chk := fun K => kCls x K && kInsA (cl K x) K
theorem ins_of {K : PySem.W.Frag} {x : Str} (h : kIns x K = true) : InsC K (cl K x) := by
  obtain ⟨h1, h⟩ := He.ba h
  obtain ⟨h2, h⟩ := He.ba h
  obtain ⟨h3, h⟩ := He.ba h
  obtain ⟨h4, h5⟩ := He.ba h
  exact ⟨He.cls_ok h1, He.eqO_ok h2, of_decide_eq_true h3, of_decide_eq_true h4, of_decide_eq_true h5⟩
theorem InsC.ty {K : PySem.W.Frag} {C a dx : Addr} {H : Hp} {fs : List (Str × V)} (h : InsC K C) (e : H a = some (.ins C dx fs)) : TyX K H (.ref a) (.ref C) := .base (.ins e h.c h.ha h.hn h.ht h.hm)
/-- what isinstance asks of errors of the class x -/
def kExcC (x : Str) : Chk := fun K => He.eqO (PySem.W.findIn K (.ref (cl K x)) "__getattribute__") (some (some (.builtin "BaseException.__getattribute__"))) && (He.eqO (PySem.W.findIn K (.ref (cl K x)) "__getattr__") (some none) &&
  (decide (PySem.W.subIn K (.ref (cl K x)) (.type "BaseException") = some true) && (PySem.W.hasDictIn K (cl K x) && kInsA (cl K x) K)))
theorem excC_of {K : PySem.W.Frag} {x : Str} (h : kExcC x K = true) : ExcC K (cl K x) := by
  obtain ⟨h1, h⟩ := He.ba h
  obtain ⟨h2, h⟩ := He.ba h
  obtain ⟨h3, h⟩ := He.ba h
  obtain ⟨h4, h⟩ := He.ba h
  obtain ⟨h5, h⟩ := He.ba h
  obtain ⟨h6, h⟩ := He.ba h
  obtain ⟨h7, h8⟩ := He.ba h
  exact ⟨He.eqO_ok h1, He.eqO_ok h2, of_decide_eq_true h3, h4, He.eqO_ok h5, of_decide_eq_true h6, of_decide_eq_true h7, of_decide_eq_true h8⟩
/-- a constant -/
def kInt (x : Str) (i : Int) : Chk := fun K => (He.Fa.int x i).ok K
def kStr (x z : Str) : Chk := fun K => (He.Fa.str x z).ok K
section
variable {K : PySem.W.Frag} {h : Heap} {mg : Str → Option Value}
theorem gk_int (X : K.In h) (G : h.Ns mainGlobals mg) {x : Str} {i : Int} (c : kInt x i K = true) : ∃ u, mg x = some u ∧ RelV (.int i) u := by
  obtain ⟨t, e⟩ := He.int_ok X G c
  exact ⟨_, e, t, rfl⟩
theorem gk_str (X : K.In h) (G : h.Ns mainGlobals mg) {x z : Str} (c : kStr x z K = true) : ∃ u, mg x = some u ∧ RelV (.str z) u := by
  obtain ⟨t, e⟩ := He.str_ok X G c
  exact ⟨_, e, t, rfl⟩
end
end Rim
set_option Elab.async false
set_option linter.all false
set_option maxRecDepth 100000
set_option maxHeartbeats 4000000
namespace Rim
open PySem PySem.Spec PyProof.Rows L2
/-! ### an error that a def holds behind the except clause -/
/-- at a: an error of the class cls, its dict at d -/
def exq (cls : Value) (d : Option Addr) (a : Addr) : HO := .ext fun h => ∃ (oe : Obj) (vs : Array Value), h.get? a = some oe ∧ Zc cls d oe ∧ oe.data = .fields vs
theorem exq_ok {P : Program} {w : World} {H : Hp} {h : Heap} {cls : Value} {d : Option Addr} {a : Addr} {oe : Obj} {vs : Array Value} (e : h.get? a = some oe) (z : Zc cls d oe) (q : oe.data = .fields vs) : ObjOk P w H h a (exq cls d a) :=
  ⟨⟨oe, vs, e, z, q⟩, ⟨oe, e⟩, fun _ _ ⟨o, v, e', r⟩ k => ⟨o, v, k o e', r⟩⟩
theorem exq_at {P : Program} {w : World} {H : Hp} {h : Heap} {cls : Value} {d : Option Addr} {a : Addr} (x : HOk P w H h) (e : H a = some (exq cls d a)) : ∃ (oe : Obj) (vs : Array Value), h.get? a = some oe ∧ Zc cls d oe ∧ oe.data = .fields vs := by
  have y : ObjOk P w H h a (exq cls d a) := x a _ e
  exact y.1
/-- an untracked object that was not there at the entry is tracked from now on -/
theorem inv_track {X : Cx} {pins : List (Addr × Obj)} {σ : L2.St} {H : Hp} {s : Shared} {a : Addr} {o : HO} {oe : Obj} (I : Inv X ((a, oe) :: pins) σ H s)
    (n0 : ∀ u, X.s_0.heap.get? a = some u → X.H_0 a = none → a ∈ X.ex) (ok : ObjOk X.prog X.w (upd H a o) s.heap a o) (hp : ∀ q ∈ X.pn ++ pins, q.1 ≠ a) (hc : ∀ x c, X.env.cells.lookup x = some c → c ≠ a) :
    Inv X pins σ (upd H a o) s := by
  obtain ⟨ga, na, nl, nf, ncell⟩ := I.pin (a, oe) (List.mem_append_right _ (List.mem_cons_self ..))
  have nof : ∀ {b : Addr} {u : HO}, H b = some u → b ≠ a := fun {b u} e z => by
    rw [z, na] at e
    cases e
  refine { ok := I.ok, os := I.os, bare := I.bare, loc := I.loc, cell := I.cell, len := I.len, base := ?_, free := ?_, freeC := ?_, pin := ?_, hok := ?_ }
  · have B := I.base
    refine { keep := ?_, slot := ?_, free := fun b u e n hx => ?_, there := B.there, tups := fun b xs e => ?_, frzs := fun b u v e => ?_, tbls := fun b ps e => ?_ }
    · exact fun b u e n h1 h2 => B.keep b u e n h1 h2
    · exact fun b u e n h1 h2 => B.slot b u e n h1 h2
    · by_cases hb : b = a
      · subst hb
        exact absurd (n0 u e n) hx
      · rw [upd_ne hb]
        exact B.free b u e n hx
    · have q := B.tups b xs e
      rw [upd_ne (nof q)]
      exact q
    · have q := B.frzs b u v e
      rw [upd_ne (nof q)]
      exact q
    · obtain ⟨m, q⟩ := B.tbls b ps e
      exact ⟨m, by rw [upd_ne (nof q)]; exact q⟩
  · rw [upd_ne (Ne.symm nl)]
    exact I.free
  · intro x c e
    rw [upd_ne (hc x c e)]
    exact I.freeC x c e
  · intro q hq
    have mem : q ∈ X.pn ++ ((a, oe) :: pins) := by
      rcases List.mem_append.mp hq with h | h
      · exact List.mem_append_left _ h
      · exact List.mem_append_right _ (List.mem_cons_of_mem _ h)
    obtain ⟨q1, q2, q3, q4, q5⟩ := I.pin q mem
    exact ⟨q1, by rw [upd_ne (hp q hq)]; exact q2, q3, q4, q5⟩
  · intro b u e
    by_cases hb : b = a
    · subst hb
      rw [upd_same] at e
      cases e
      exact ok
    · rw [upd_ne hb] at e
      refine (I.hok b u e).stay (fun _ _ _ r => r) (fun c r => ?_) fun c xs r => ?_
      · rw [upd_ne (nof r)]
        exact r
      · rw [upd_ne (nof r)]
        exact r

/-- what «except x as n» wishes of an error of the body, where the error is held behind the suite -/
def wKeep (K : PySem.W.Frag) (c : Value) (i : Nat) (ts : Addr → Value → Option Addr → TS) (Wout : WX) (D : Ends) : WX := fun cls d σ H =>
  ∃ b, PySem.W.exmOne K cls c = some b ∧
    (b = true → ∀ a, H a = none → ts a cls d
      { nx := fun σ' H' => H' a = none → D.nx (σ'.set i none) (upd H' a (exq cls d a))
        rt := D.rt
        bk := fun σ' H' => H' a = none → D.bk (σ'.set i none) (upd H' a (exq cls d a))
        ct := fun σ' H' => H' a = none → D.ct (σ'.set i none) (upd H' a (exq cls d a)) } (σ.set i (some (.ref a))) H) ∧
    (b = false → Wout cls d σ H)
section
variable {X : Cx} {x n : Str} {c : Value} {i : Nat} {body suite : List Stmt} {b₀ : Stmt} {np pos pos' : Pos} {tb : WX → TS} {ts : Addr → Value → Option Addr → TS} {Wout : WX}
/-- the suite of a caught error, and what stands behind it -/
theorem suite_end {pins : List (Addr × Obj)} {σ6 : L2.St} {H6 : Hp} {s6 : Shared} {a : Addr} {oe : Obj} {vs : Array Value} {cls : Value} {d : Option Addr} {Q : Shared → Prop}
    (S : Inv (X.suite a ((a, oe) :: (X.pn ++ pins))) [] σ6 H6 s6) (ok : X.Ok) (hz : Zc cls d oe) (hd : oe.data = .fields vs)
    (hN : X.N.Nodup) (hi : X.N[i]? = some n) (hln : X.env.kindOf n = some .local)
    (n0 : ∀ u, X.s_0.heap.get? a = some u → X.H_0 a = none → a ∈ X.ex) (hp : ∀ q ∈ X.pn ++ pins, q.1 ≠ a) (hc : ∀ y e, X.env.cells.lookup y = some e → e ≠ a)
    (h : ∀ s7, H6 a = none → Inv X pins (σ6.set i none) (upd H6 a (exq cls d a)) s7 → Q s7) :
    wpAny (model X.prog X.w) X.A (do bindName X.env n .none; unbindBehindTheSuite X.env n pos') (fun _ s7 => Q s7) X.xe s6 := by
  have I : Inv X ((a, oe) :: pins) σ6 H6 s6 :=
    ⟨ok, S.os, S.bare, S.base, S.loc, S.cell, S.free, S.freeC, fun p hp => S.pin p (by
      rw [List.append_nil]
      rcases List.mem_append.mp hp with h | h
      · exact List.mem_cons_of_mem _ (List.mem_append_left _ h)
      · rcases List.mem_cons.mp h with e | h
        · rw [e]
          exact List.mem_cons_self ..
        · exact List.mem_cons_of_mem _ (List.mem_append_right _ h)), S.hok, S.len⟩
  refine gone_ok I hN hi hln fun s7 I7 => ?_
  have P := I7.pin (a, oe) (List.mem_append_right _ (List.mem_cons_self ..))
  exact h s7 P.2.1 (inv_track I7 n0 (exq_ok P.1 hz hd) hp hc)
theorem ps_try_keep (hs : X.stack = X.env :: X.outer) (hf : X.env.frame = some X.env.locals) (hN : X.N.Nodup) (hi : X.N[i]? = some n) (hln : X.env.kindOf n = some .local)
    (hcn : Names X x c) (tk : Takes X Wout)
    (hb : ∀ (W : WX) (pn : List (Addr × Obj)) (xe : Value → Shared → Prop), Takes (X.tr pn xe) W → PassesOwn (model X.prog X.w) X.A X.env xe → PSs (X.tr pn xe) body (tb W))
    (hsu : ∀ (a : Addr) (oe : Obj) (cls : Value) (d : Option Addr) (pn : List (Addr × Obj)), Zc cls d oe → (∃ vs, oe.data = .fields vs) → PSs (X.suite a ((a, oe) :: pn)) (b₀ :: suite) (ts a cls d)) :
    PS X (.Try body [.ExceptHandler (some (.Name x np)) (some n) (b₀ :: suite) pos'] [] [] pos) (fun D σ H => tb (wKeep X.K c i ts Wout D) D σ H) := by
  refine ⟨fun pins s σ H D I h => ?_⟩
  have ok := I.ok
  have hfr : X.A.frames = some (X.env :: X.outer) := ok.frames.trans (congrArg some hs)
  have hloc : Loc X.env.scope n := Or.inl hln
  refine wpAny_Try_except (wpAny_mono ((hb (wKeep X.K c i ts Wout D) (X.pn ++ pins) _ ?tk ?po).run [] s σ H D (I.toTry _) h) ?nrm fun _ _ z => z)
  case po => exact PassesOwn.looking
  case nrm =>
    intro f s1 hsp
    cases f with
    | next =>
      obtain ⟨σ', H', J, q⟩ := hsp
      exact wpAny_execs_nil ⟨σ', H', J.ofTry ok, q⟩
    | brk =>
      obtain ⟨σ', H', J, q⟩ := hsp
      exact ⟨σ', H', J.ofTry ok, q⟩
    | cont =>
      obtain ⟨σ', H', J, q⟩ := hsp
      exact ⟨σ', H', J.ofTry ok, q⟩
    | ret u =>
      obtain ⟨v, σ', H', J, r, q⟩ := hsp
      exact ⟨v, σ', H', J.ofTry ok, r, q⟩
  case tk =>
    rintro u s' ⟨a, B, sI, pins', σ', H', cls, d, rfl, J', nb, up, sky, na, os, ag, b, hb1, hyes, hno⟩
    have J : Inv X pins σ' H' sI := J'.ofTry ok
    have sky' : Sky B (X.env :: X.outer) a (Zc cls d) X.env.locals s'.heap := by
      rw [← hs]
      exact sky
    refine Sky.land Zc.steady hfr hf sky' fun h3 fl3 up3 => ?_
    have J3 : Inv X pins σ' H' { s' with heap := h3 } := J.landed nb fl3.1 (up.trans up3) os ag
    obtain ⟨oe3, vs3, he3, hz3, hd3⟩ := fl3.there
    -- the error is no frame
    have nfr : a ∉ frs (X.env :: X.outer) := fun hm => by
      obtain ⟨_, o', e', hnf⟩ := fl3.2.2.1.mem hm
      rw [he3] at e'
      cases e'
      exact hnf _ hd3
    have nL : a ≠ X.env.locals := fun z => nfr (List.mem_filterMap.mpr ⟨X.env, List.mem_cons_self .., hf.trans (congrArg some z.symm)⟩)
    have nF : a ∉ X.fs := fun hm => by
      obtain ⟨e, he, q⟩ := List.mem_filterMap.mp hm
      exact nfr (List.mem_filterMap.mpr ⟨e, List.mem_cons_of_mem _ he, q⟩)
    -- nor was it there when the body began
    have Ba : B.get? a = none := fl3.2.1
    have nfs : a ∉ frs X.stack := by
      rw [hs]
      exact nfr
    have nsI : sI.heap.get? a = none := by
      cases e : sI.heap.get? a with
      | none => rfl
      | some o =>
        have z := nb a o e nfs
        rw [Ba] at z
        cases z
    have n0 : ∀ u, X.s_0.heap.get? a = some u → X.H_0 a = none → a ∈ X.ex := fun u e n => by
      by_cases hx : a ∈ X.ex
      · exact hx
      · have z := J.base.keep a u e n nF hx
        rw [nsI] at z
        cases z
    have hpn : ∀ q ∈ X.pn ++ pins, q.1 ≠ a := fun q hq z => by
      have e := (J.pin q hq).1
      rw [z, nsI] at e
      cases e
    have hcl : ∀ y e, X.env.cells.lookup y = some e → e ≠ a := fun y e hy z => by
      obtain ⟨v, o, ho, _⟩ := J.cell y e hy
      rw [z, nsI] at ho
      cases ho
    have S3 := J3.suite he3 hd3 na nL nF
    refine wpAny_handleBy_cons (codeAny_handlers_test ?_) (fun q => by cases q)
    have LM := PySem.W.exm_one (M := model X.prog X.w) J3.kIn (fun A Q E s k q => wpAny_typeOf_ref (k _ _ he3) (by rw [hz3.1]; exact q)) hb1
    have test : ∀ {Q : Value → Shared → Prop} {E : Value → Shared → Prop}, Q c { s' with heap := h3 } →
        wpAny (model X.prog X.w) (X.A.mark (some (.ref a))) (eval (.Name x np) X.env) Q E { s' with heap := h3 } := fun {Q E} q => by
      rcases hcn with ⟨hg, hdbg, hm | ⟨hm, hv, hnn⟩⟩
      · exact ld_glob (X := X.suite a ((a, oe3) :: (X.pn ++ pins))) S3 hg hm q hdbg
      · exact ld_blt (X := X.suite a ((a, oe3) :: (X.pn ++ pins))) S3 hg hm hv q hnn hdbg
    refine test (LM.here ?_)
    cases b with
    | true =>
      refine codeAny_handlers_suite_as (HandSPX.lands_againZ fl3 fun h4 fl4 up4 => ?_)
      have J4 : Inv X pins σ' H' { s' with heap := h4 } := J.landed nb fl4.1 ((up.trans up3).trans up4) os ag
      obtain ⟨oe4, vs4, he4, hz4, hd4⟩ := fl4.there
      refine store_ok (X := X.suite a ((a, oe4) :: (X.pn ++ pins))) (v := .ref a) (J4.suite he4 hd4 na nL nF) hN hi hloc rfl (fun s5 S5 => ?_) (Or.inr hln)
      refine wpAny_mono ((hsu a oe4 cls d (X.pn ++ pins) hz4 ⟨_, hd4⟩).run [] s5 _ H' _ S5 (hyes rfl a na)) ?_ fun _ _ z => z.elim
      intro f s6 hsp
      cases f with
      | next =>
        obtain ⟨σ6, H6, S6, q6⟩ := hsp
        exact suite_end S6 ok hz4 hd4 hN hi hln n0 hpn hcl fun s7 e J7 => ⟨_, _, J7, q6 e⟩
      | brk =>
        obtain ⟨σ6, H6, S6, q6⟩ := hsp
        exact suite_end S6 ok hz4 hd4 hN hi hln n0 hpn hcl fun s7 e J7 => ⟨_, _, J7, q6 e⟩
      | cont =>
        obtain ⟨σ6, H6, S6, q6⟩ := hsp
        exact suite_end S6 ok hz4 hd4 hN hi hln n0 hpn hcl fun s7 e J7 => ⟨_, _, J7, q6 e⟩
      | ret u =>
        obtain ⟨v6, σ6, H6, S6, r6, q6⟩ := hsp
        exact gone_ok (S6.unsuite ok) hN hi hln fun s7 J7 => ⟨_, _, _, J7, r6, q6⟩
    | false =>
      refine wpAny_handleBy_nil ?_
      obtain ⟨_, _, _, oe, vs, T, oT, ts', he, hz, hd, h1, hr⟩ := id fl3
      unfold PySem.passOn
      refine wpAny_bind (wpAny_field he hd h1 ?_)
      rw [if_neg (by simp)]
      have fin : wpAny (model X.prog X.w) X.A (setFlight (.ref a) X.env.frame) (fun _ s4 => wpAny (model X.prog X.w) X.A (throw (.ref a) : Sem Flow) (SP X pins D) X.xe s4) X.xe { s' with heap := h3 } := by
        rw [hf]
        refine HandSPX.setFlight_upZ fl3 fun h4 hh4 up4 => ?_
        refine wpAny_throw (tk _ _ ⟨a, B, sI, pins, σ', H', cls, d, rfl, J, nb, (up.trans up3).trans up4, ?_, na, os, ag, hno rfl⟩)
        rw [hs]
        exact .inr (.inr hh4)
      first
        | exact wpAny_bind (wpAny_pure (wpAny_bind fin))
        | exact wpAny_bind fin
end
end Rim
set_option Elab.async false
set_option linter.all false
set_option maxRecDepth 100000
set_option maxHeartbeats 4000000
namespace Rim
open PySem PySem.Spec PyProof.Rows L2
/-! ### a held error: its class, its fields -/
/-- the fields of an error: its dict, if it has one -/
def DOk (H : Hp) (d : Option Addr) (fs : List (Str × V)) : Prop := match d with
  | none => fs = []
  | some p => H p = some (.xd fs)
/-- at x: an error of the class C (held), its dict d with the fields fs -/
structure ErrAt (H : Hp) (x C : Addr) (d : Option Addr) (fs : List (Str × V)) : Prop where
  ob : H x = some (exq (.ref C) d x)
  dk : DOk H d fs
theorem zc_inst {P : Program} {w : World} {H : Hp} {h : Heap} {a C : Addr} {d : Option Addr} {fs : List (Str × V)} {oe : Obj} {vs : Array Value} (hok : HOk P w H h) (ho : h.get? a = some oe) (z : Zc (.ref C) d oe) (q : oe.data = .fields vs) (k : DOk H d fs) :
    ∃ od, PySem.W.InstAt h a oe C od := by
  obtain ⟨oc, odd, oda, osl⟩ := oe
  obtain ⟨z1, z2⟩ := z
  dsimp only at z1 z2 q
  subst z1 z2 q
  cases odd with
  | none => exact ⟨none, ho, rfl, rfl, trivial⟩
  | some p =>
    have x : ObjOk P w H h p (.xd fs) := hok p _ k
    obtain ⟨mA, ⟨o, es, ep, e, r⟩, _⟩ := x
    exact ⟨some o, ho, rfl, rfl, e⟩
theorem excC_cls {K : PySem.W.Frag} {C : Addr} (h : ExcC K C) : (PySem.W.clsIn K C).isSome = true := by
  have q := h.hd
  unfold PySem.W.hasDictIn at q
  obtain ⟨cd, hc, _⟩ := PySem.W.any_some q
  rw [hc]
  rfl
/-- isinstance(x, c) | isinstance(x, (c, ..)) of a held error -/
def rIsQ (K : PySem.W.Frag) : List V → Hp → VK → Prop := fun xs H Q => ∃ (a C : Addr) (d : Option Addr) (fs : List (Str × V)) (c : V) (u : Value) (b : Bool), xs = [.ref a, c] ∧ ErrAt H a C d fs ∧ ExcC K C ∧ ClsV c u ∧ PySem.W.kitOne K (.ref C) u = some b ∧ Q (.bl b) H
def rIsQT (K : PySem.W.Frag) : List V → Hp → VK → Prop := fun xs H Q => ∃ (a C : Addr) (d : Option Addr) (fs : List (Str × V)) (tp : Addr) (cs : List V) (us : List Value) (b : Bool), xs = [.ref a, .ref tp] ∧ ErrAt H a C d fs ∧ ExcC K C ∧ H tp = some (.tup cs) ∧ Paired ClsV cs us ∧
  PySem.W.kitAny K (.ref C) us = some b ∧ Q (.bl b) H
section
variable {X : Cx}
theorem call_isQ : CallR X (.builtin "isinstance") (rIsQ X.K) := by
  intro pins s σ H xs us Q I r h
  obtain ⟨a, C, d, fs, c, u, b, rfl, A, T, k, e, q⟩ := h
  obtain ⟨u1, u2, rfl, r1, r2⟩ := vals2 r
  have e2 := k.eq r2
  subst e2
  cases (show u1 = Value.ref a from r1)
  obtain ⟨oe, vs, ho, hz, hd⟩ := exq_at I.hok A.ob
  obtain ⟨od, J⟩ := zc_inst I.hok ho hz hd A.dk
  exact PySem.W.kia_one (PySem.W.kitx_exc (od := od) (ox := oe) (excC_cls T) T.hg T.hk T.hs T.ha T.hn T.ht T.hm) I.kIn J e (fun z => nomatch z) fun tk => ⟨.bl b, H, I.tok tk, rfl, q⟩
theorem call_isQT : CallR X (.builtin "isinstance") (rIsQT X.K) := by
  intro pins s σ H xs us Q I r h
  obtain ⟨a, C, d, fs, tp, cs, ws, b, rfl, A, T, hT, k, e, q⟩ := h
  obtain ⟨u1, u2, rfl, r1, r2⟩ := vals2 r
  cases (show u1 = Value.ref a from r1)
  cases (show u2 = Value.ref tp from r2)
  obtain ⟨oe, vs, ho, hz, hd⟩ := exq_at I.hok A.ob
  obtain ⟨od, J⟩ := zc_inst I.hok ho hz hd A.dk
  obtain ⟨_, its, rv, o, h1, h2, n, h3⟩ := (show ObjOk X.prog X.w H s.heap tp (.tup cs) from I.hok tp _ hT)
  have e3 := ClsV.all k rv
  subst e3
  obtain ⟨oc, odd, dt, sl⟩ := o
  dsimp only at h2 h3
  subst h2 h3
  exact PySem.W.kia_tup (PySem.W.kitx_exc (od := od) (ox := oe) (excC_cls T) T.hg T.hk T.hs T.ha T.hn T.ht T.hm) I.kIn J h1 e (fun z => nomatch z) fun tk => ⟨.bl b, H, I.tok tk, rfl, q⟩
/-- isinstance of anything -/
abbrev rIsA (K : PySem.W.Frag) : List V → Hp → VK → Prop := fun xs H Q => rIsi K xs H Q ∨ rIsQ K xs H Q
abbrev rIsAT (K : PySem.W.Frag) : List V → Hp → VK → Prop := fun xs H Q => rIsiT K xs H Q ∨ rIsQT K xs H Q
theorem call_isA : CallR X (.builtin "isinstance") (rIsA X.K) := CallR.or call_isi call_isQ
theorem call_isAT : CallR X (.builtin "isinstance") (rIsAT X.K) := CallR.or call_isiT call_isQT
/-- x.f, x a held error -/
def tExF (K : PySem.W.Frag) (te : TE) (f : Str) : TE := fun σ H Q => te σ H fun x H1 => ∃ (a C p : Addr) (fs : List (Str × V)) (v : V), x = .ref a ∧ ErrAt H1 a C (some p) fs ∧ ExcC K C ∧ PySem.W.findIn K (.ref C) f = some none ∧ fs.lookup f = some v ∧ Q v H1
theorem pe_exf {e : Expr} {f : Str} {te : TE} {pos : Pos} (he : PE X e te) (hb : attributeBase e f X.env (eval e X.env) = eval e X.env := by rfl) : PE X (.Attribute e f pos) (tExF X.K te f) := by
  refine ⟨fun pins s σ H Q I h => ?_⟩
  refine attr_of hb (thn (he.run pins s σ H _ I h) fun u s1 hh => ?_)
  obtain ⟨x, H1, I1, rx, a, C, p, fs, v, ex, A, T, hno, hl, q⟩ := hh
  subst ex
  obtain rfl : u = Value.ref a := rx
  obtain ⟨oe, vs, ho, hz, hd⟩ := exq_at I1.hok A.ob
  have xd : ObjOk X.prog X.w H1 s1.heap p (.xd fs) := I1.hok p _ A.dk
  obtain ⟨mA, hns, hr⟩ := xd
  obtain ⟨od, hod, hlk⟩ := lookIn_ns hns
  obtain ⟨u, hu, ru⟩ := RelO.some_of (v := v) (o := mA f) (by rw [← hl]; exact hr f)
  have J : PySem.W.InstAt s1.heap a oe C (some od) := ⟨ho, hz.1, by unfold PySem.W.notCls; rw [hd], by rw [hz.2]; exact hod⟩
  refine HandSPX.exc_get I1.kIn J T.hg T.hk T.hs (PySem.W.findObj_own T.hd hno rfl (by rw [hlk, hu])) (handed_of ru) ?_
  exact ⟨v, H1, I1.tok _, ru, q⟩
end

/-! ### one of two readings -/
def tEither (t u : TE) : TE := fun σ H Q => t σ H Q ∨ u σ H Q
theorem pe_either {X : Cx} {e : Expr} {t u : TE} (h1 : PE X e t) (h2 : PE X e u) : PE X e (tEither t u) :=
  ⟨fun pins s σ H Q I h => h.elim (fun a => h1.run pins s σ H Q I a) fun b => h2.run pins s σ H Q I b⟩
def tOrS (t u : TS) : TS := fun D σ H => t D σ H ∨ u D σ H
/-- a constant of the module, told -/
abbrev ConstOk (mg : Str → Option Value) (x : Str) (v : V) : Prop := ∃ u, mg x = some u ∧ RelV v u
theorem binds_full {K : PySem.W.Frag} {fd : FuncData} {ps : List Str} (h : ∃ ds, Vals [] ds ∧ Binds K fd ps ds) : Binds K fd ps [] := by
  obtain ⟨ds, v, b⟩ := h
  cases v
  exact b
end Rim
namespace Rim
open PySem PySem.Spec PyProof.Rows L2
/-- a def that nothing leaves -/
theorem fnOk0 {P : Program} {w : World} {K : PySem.W.Frag} {mg : Str → Option Value} {base : Heap} {k : Nat} {f : Addr} {fd : FuncData} {ps : List Str} {sp : Sp} (F : FnOk P w K mg base (L2.CX P w) k f fd ps sp) (h : ∀ vs H Q E, sp vs H Q E → sp vs H Q E0) :
    FnOk P w K mg base CX0 k f fd ps sp := by
  refine ⟨F.len, fun A outer s H args us vs Q E hr e0 hb r hsp => ?_⟩
  refine codeAny_mono (F.run A outer s H args us vs Q E0 hr e0 hb r (h _ _ _ _ hsp)) fun res s' hq => ?_
  cases res with
  | ok fl => cases fl <;> exact hq
  | error e =>
    obtain ⟨_, _, _, _, _, _, _, _, _, _, _, _, z⟩ := hq
    exact z.elim
end Rim
set_option Elab.async false
set_option linter.all false
set_option maxRecDepth 100000
set_option maxHeartbeats 4000000
namespace Rim
open PySem PySem.Spec PyProof.Rows L2
/-! ### readings, step by step -/
section
variable {K : PySem.W.Frag} {σ : L2.St} {H : Hp} {Q : VK} {D : Ends} {v x y : V} {ta tb tc : TE} {t u : TS} {tt tu : TT} {aa : TA} {i j : Int} {n : Nat} {g : TG}
theorem w_var (h : σ[n]? = some (some v)) (k : Q v H) : tVar n σ H Q := ⟨v, h, k⟩
theorem w_c (k : Q v H) : tC v σ H Q := k
theorem w_seq (k : t { D with nx := u D } σ H) : tSeq t u D σ H := k
theorem w_next (k : D.nx σ H) : tNext D σ H := k
theorem w_asg (k : ta σ H fun x H1 => g x σ H1 D.nx) : tAsg ta g D σ H := k
theorem w_gname {N : L2.St → Hp → Prop} (k : N (σ.set n (some v)) H) : gName n v σ H N := k
theorem w_drop (k : ta σ H fun _ H1 => D.nx σ H1) : tDrop ta D σ H := k
theorem w_ret (k : ta σ H D.rt) : tRet ta D σ H := k
theorem w_retN (k : D.rt .non H) : tRetN D σ H := k
theorem w_if (k : tt σ H fun b H1 => if b = true then t D σ H1 else u D σ H1) : tIfS tt t u D σ H := k
theorem w_op {r : R2} (k : ta σ H fun x H1 => tb σ H1 fun y H2 => r x y H2 Q) : tOp r ta tb σ H Q := k
theorem w_un {r : V → Hp → VK → Prop} (k : ta σ H fun x H1 => r x H1 Q) : tUn r ta σ H Q := k
theorem w_rI0 {f : Int → Int → V} (k : Q (f i j) H) : rI0 f (.int i) (.int j) H Q := ⟨i, j, rfl, rfl, k⟩
theorem w_rI {C : Int → Int → Prop} {f : Int → Int → V} (c : C i j) (k : Q (f i j) H) : rI C f (.int i) (.int j) H Q := ⟨i, j, rfl, rfl, c, k⟩
theorem w_neg (k : Q (.int (-i)) H) : rNeg (.int i) H Q := ⟨i, rfl, k⟩
theorem w_test {R : Bool → Hp → Prop} (k : ta σ H fun x H' => ∃ b, x = .bl b ∧ R b H') : tTest ta σ H R := k
theorem w_b {R : Bool → Hp → Prop} (k : ta σ H fun x H1 => ∃ c, x = .bl c ∧ R c H1) : tB ta σ H R := k
theorem w_bl {R : Bool → Prop} {b : Bool} (k : R b) : ∃ c, V.bl b = .bl c ∧ R c := ⟨b, rfl, k⟩
theorem w_not {R : Bool → Hp → Prop} (k : tt σ H fun c H1 => R (!c) H1) : tNot tt σ H R := k
theorem w_and {R : Bool → Hp → Prop} (k : tt σ H fun c H1 => if c = true then tu σ H1 R else R false H1) : tAnd tt tu σ H R := k
theorem w_or {R : Bool → Hp → Prop} (k : tt σ H fun c H1 => if c = true then R true H1 else tu σ H1 R) : tOr tt tu σ H R := k
theorem w_andV (k : ta σ H fun x H1 => ∃ c, x = .bl c ∧ if c = true then tb σ H1 Q else Q (.bl false) H1) : tAndV ta tb σ H Q := k
theorem w_orV (k : ta σ H fun x H1 => ∃ c, x = .bl c ∧ if c = true then Q (.bl true) H1 else tb σ H1 Q) : tOrV ta tb σ H Q := k
theorem w_notV (k : ta σ H fun x H1 => ∃ c, x = .bl c ∧ Q (.bl (!c)) H1) : tNotV ta σ H Q := k
theorem w_tif (k : tt σ H fun c H1 => if c = true then ta σ H1 Q else tb σ H1 Q) : tIf tt ta tb σ H Q := k
theorem w_cb {r : List V → Hp → VK → Prop} (k : aa σ H fun vs H1 => r vs H1 Q) : tCB r aa σ H Q := k
theorem w_cons {R : List V → Hp → Prop} (k : ta σ H fun x H1 => aa σ H1 fun xs H2 => R (x :: xs) H2) : tCons ta aa σ H R := k
theorem w_nil {R : List V → Hp → Prop} (k : R [] H) : tNil σ H R := k
theorem w_call {sp : Sp} {dvs : List V} {E : XK} (k : aa σ H fun vs H1 => sp (vs ++ dvs) H1 Q E) : tCall sp dvs E aa σ H Q := k
theorem w_callS {sp : Sp} {E : L2.St → XK} (k : aa σ H fun vs H1 => sp vs H1 Q (E σ)) : tCallS sp E aa σ H Q := k
theorem w_tup (k : aa σ H fun xs H1 => xs.length ≤ sizeLine ∧ ∀ p, H1 p = none → Q (.ref p) (upd H1 p (.tup xs))) : tTup aa σ H Q := k
theorem w_lst (k : aa σ H fun xs H1 => xs.length ≤ sizeLine ∧ ∀ p, H1 p = none → Q (.ref p) (upd H1 p (.lst xs))) : tLst aa σ H Q := k
theorem w_new {o : Addr → HO} {xs : List V} (h : xs.length ≤ sizeLine) (k : ∀ p, H p = none → Q (.ref p) (upd H p (o p))) : xs.length ≤ sizeLine ∧ ∀ p, H p = none → Q (.ref p) (upd H p (o p)) := ⟨h, k⟩
theorem w_eq (h : scal x y = true) (k : Q (.bl (decide (x = y))) H) : rEq x y H Q := ⟨h, k⟩
theorem w_ne (h : scal x y = true) (k : Q (.bl (!decide (x = y))) H) : rNe x y H Q := ⟨h, k⟩
theorem w_eqD {d e : PyData} (h1 : Dp K H x d) (h2 : Dp K H y e) (s1 : SeqAt.shaped d = true) (s2 : SeqAt.shaped e = true) (k : Q (.bl (PyData.eqv d e)) H) : rEqD K x y H Q := ⟨d, e, h1, h2, s1, s2, k⟩
theorem w_neD {d e : PyData} (h1 : Dp K H x d) (h2 : Dp K H y e) (s1 : SeqAt.shaped d = true) (s2 : SeqAt.shaped e = true) (k : Q (.bl (!PyData.eqv d e)) H) : rNeD K x y H Q := ⟨d, e, h1, h2, s1, s2, k⟩
theorem w_fld {a C dx : Addr} {fs : List (Str × V)} {f : Str} (k : ta σ H fun x H1 => ∃ a C dx fs v, x = .ref a ∧ H1 a = some (.ins C dx fs) ∧ Cls K C ∧ NoAttr K C f ∧ fs.lookup f = some v ∧ Q v H1) : tFld K ta f σ H Q := k
theorem w_ixL {p : Addr} {xs : List V} (h : SqL K H p xs) (e : atI xs i = some v) (k : Q v H) : rIxL K (.ref p) (.int i) H Q := ⟨p, xs, i, v, rfl, rfl, h, e, k⟩
theorem w_ixT {p : Addr} {xs : List V} (h : SqT K H p xs) (e : atI xs i = some v) (k : Q v H) : rIxT K (.ref p) (.int i) H Q := ⟨p, xs, i, v, rfl, rfl, h, e, k⟩
theorem w_lenL {p : Addr} {xs : List V} (h : SqL K H p xs) (k : Q (.int xs.length) H) : rLenSeq K [.ref p] H Q := ⟨p, xs, rfl, .inl h, k⟩
theorem w_lenT {p : Addr} {xs : List V} (h : SqT K H p xs) (k : Q (.int xs.length) H) : rLenSeq K [.ref p] H Q := ⟨p, xs, rfl, .inr h, k⟩
theorem w_min2 (k : Q (.int (if j < i then j else i)) H) : rMin2 [.int i, .int j] H Q := ⟨i, j, rfl, k⟩
theorem w_max2 (k : Q (.int (if j > i then j else i)) H) : rMax2 [.int i, .int j] H Q := ⟨i, j, rfl, k⟩
theorem w_abs (k : Q (.int (if i < 0 then -i else i)) H) : rAbs [.int i] H Q := ⟨i, rfl, k⟩
theorem w_iT {A B : Prop} (k : A) : if true = true then A else B := iteT k
theorem w_iF {A B : Prop} (k : B) : if false = true then A else B := iteF k
theorem w_iNF {A B : Prop} (k : A) : if (!false) = true then A else B := iteT k
theorem w_iNT {A B : Prop} (k : B) : if (!true) = true then A else B := iteF k
theorem w_ite {b : Bool} {A B : Prop} (h1 : b = true → A) (h2 : b = false → B) : if b = true then A else B := by
  cases b with
  | true => exact iteT (h1 rfl)
  | false => exact iteF (h2 rfl)
theorem w_ited {c : Prop} [Decidable c] {A B : Prop} (h1 : c → A) (h2 : ¬ c → B) : if decide c = true then A else B := w_ite (fun e => h1 (of_decide_eq_true e)) fun e => h2 (of_decide_eq_false e)
theorem w_iten {c : Prop} [Decidable c] {A B : Prop} (h1 : ¬ c → A) (h2 : c → B) : if (!decide c) = true then A else B := w_ite (fun e => h1 (by simpa using e)) fun e => h2 (by simpa using e)
theorem sq_l {p : Addr} {xs : List V} (h : H p = some (.lst xs)) : SqL K H p xs := .inl (.inl h)
theorem sq_t {p : Addr} {xs : List V} (h : H p = some (.tup xs)) : SqT K H p xs := .inl (.inl h)
end
end Rim
set_option Elab.async false
set_option linter.all false
set_option maxRecDepth 100000
set_option maxHeartbeats 4000000
namespace Rim
open PySem PySem.Spec PyProof.Rows L2
/-! ### heaps that keep what they had -/
theorem same_sqT {K : PySem.W.Frag} {H H' : Hp} {a : Addr} {xs : List V} (e : Same H H') (h : SqT K H a xs) : SqT K H' a xs := by
  rcases h with (h | ⟨o, h⟩) | h
  · exact .inl (.inl (e _ _ h))
  · exact .inl (.inr ⟨o, e _ _ h⟩)
  · exact .inr h
mutual
theorem dp_same {K : PySem.W.Frag} {H H' : Hp} (e : Same H H') : ∀ {v : V} {d : PyData}, Dp K H v d → Dp K H' v d
  | _, _, .non => .non
  | _, _, .bl b => .bl b
  | _, _, .int i => .int i
  | _, _, .str x => .str x
  | _, _, .lst h r => .lst (e.seq h) (dpAll_same e r)
  | _, _, .tup h r => .tup (same_sqT e h) (dpAll_same e r)
theorem dpAll_same {K : PySem.W.Frag} {H H' : Hp} (e : Same H H') : ∀ {vs : List V} {ds : List PyData}, DpAll K H vs ds → DpAll K H' vs ds
  | _, _, .nil => .nil
  | _, _, .cons h r => .cons (dp_same e h) (dpAll_same e r)
end
theorem same_new {H : Hp} {p : Addr} {o : HO} (h : H p = none) : Same H (upd H p o) := fun b u e => by
  rw [upd_ne (ne_of_none e h)]
  exact e
/-- a new instance and its dict -/
theorem same_made {H : Hp} {x dx C : Addr} {fs : List (Str × V)} (nx : H x = none) (nd : H dx = none) : Same H (upd (upd H dx (.own x)) x (.ins C dx fs)) := fun b u e => by
  rw [upd_ne (ne_of_none e nx), upd_ne (ne_of_none e nd)]
  exact e
theorem atI_at {α : Type} {xs : List α} {i : Int} {v : α} (h0 : 0 ≤ i) (h : xs[i.toNat]? = some v) : atI xs i = some v := by
  have q := atI_nat h
  rwa [Int.toNat_of_nonneg h0] at q
/-- lists apart, all is as it was -/
def KeepNL (H H' : Hp) : Prop := ∀ b o, H b = some o → (∀ xs, o ≠ .lst xs) → H' b = some o
theorem KeepNL.refl (H : Hp) : KeepNL H H := fun _ _ h _ => h
theorem KeepNL.trans {H H1 H2 : Hp} (a : KeepNL H H1) (b : KeepNL H1 H2) : KeepNL H H2 := fun c o h n => b c o (a c o h n) n
theorem Same.nl {H H' : Hp} (a : Same H H') : KeepNL H H' := fun b o h _ => a b o h
theorem keepNL_lst {H : Hp} {l : Addr} {xs ys : List V} (h : H l = some (.lst xs)) : KeepNL H (upd H l (.lst ys)) := fun b o e n => by
  have ne : b ≠ l := fun z => by
    subst z
    rw [h] at e
    cases e
    exact n xs rfl
  rw [upd_ne ne]
  exact e
/-- an object that the first heap does not know may change -/
theorem same_mut {H H' : Hp} {p : Addr} {o : HO} (e : Same H H') (h : H p = none) : Same H (upd H' p o) := fun a u ha => by
  rw [upd_ne (ne_of_none ha h)]
  exact e a u ha

/-! ### comprehensions without a test: items one by one -/
theorem wipe_set1 {σ : L2.St} {n : Nat} {x : Option V} : wipe ((wipe σ [n]).set n x) [n] = wipe σ [n] := by
  show ((σ.set n none).set n x).set n none = σ.set n none
  rw [List.set_set, List.set_set]
section
variable {K : PySem.W.Frag} {σ : L2.St} {H1 : Hp} {Qd : Hp → Prop} {g : TG} {te : TE} {vs : List Nat} {D : Addr}
/-- [e for i in range(..)] -/
theorem lcR {lo : Int} {n : Nat} (hD : H1 D = none) (hn : n ≤ 1000000) (σs : Nat → L2.St) (P : Nat → V → Hp → Prop) (st : ∀ i v H H', KeepNL H H' → P i v H → P i v H')
    (hw : ∀ i, wipe (σs i) vs = wipe σ vs) (hg : ∀ i H' (R : L2.St → Hp → Prop), i < n → R (σs i) H' → g (.int (lo + i)) (wipe σ vs) H' R)
    (hs : ∀ i H' (R : VK), i < n → Same H1 H' → (∀ v H'', Same H' H'' → P i v H'' → R v H'') → te (σs i) H' R)
    (hd : ∀ (acc : List V) H', Same H1 H' → acc.length = n → (∀ i v, acc[i]? = some v → P i v H') → H' D = some (.lst acc) → Qd H') :
    ∃ W : Nat → Nat → Hp → Prop, (∃ m, W 0 m (upd H1 D (.lst []))) ∧ ∀ i m H, W i m H →
      ((Itr lo n).stop i H ∧ Qd H) ∨ ((Itr lo n).go i H ∧ ∃ Nx : Hp → Prop, (∀ H', Nx H' → ∃ m', m' < m ∧ W (i + 1) m' H') ∧ ∀ x H', (Itr lo n).yld i H x H' → g x (wipe σ vs) H' fun σ2 H2 => wipe σ2 vs = wipe σ vs ∧ tYes σ2 H2 fun b H3 =>
        if b = true then te σ2 H3 fun y H4 => ∃ acc, H4 D = some (.lst acc) ∧ acc.length < sizeLine ∧ Nx (upd H4 D (.lst (acc ++ [y]))) else Nx H3) := by
  refine lc_range (fun i H' => ∃ acc : List V, Same H1 H' ∧ acc.length = i ∧ (∀ j v, acc[j]? = some v → P j v H') ∧ H' D = some (.lst acc))
    ⟨[], same_new hD, rfl, fun (j : Nat) (v : V) (h : ([] : List V)[j]? = some v) => by simp at h, upd_same⟩ ?_ ?_
  · rintro i H' hi ⟨acc, hS, hl, hP, hDa⟩
    refine hg i H' _ hi ?_
    refine ⟨hw i, ?_⟩
    unfold tYes
    refine iteT ?_
    refine (hs i H' _ hi hS fun v H'' hS2 hv => ⟨acc, hS2 _ _ hDa, ?_, acc ++ [v], ?_, ?_, ?_, upd_same⟩)
    · rw [hl, sizeLine_eq]
      omega
    · exact same_mut (hS.trans hS2) hD
    · rw [List.length_append, hl]
      rfl
    · intro j y hj
      have kn : KeepNL H'' (upd H'' D (.lst (acc ++ [v]))) := keepNL_lst (hS2 _ _ hDa)
      by_cases h1 : j < acc.length
      · rw [List.getElem?_append_left h1] at hj
        exact st j y _ _ ((Same.nl hS2).trans kn) (hP j y hj)
      · have h2 : j = acc.length := by
          have := (List.getElem?_eq_some_iff.mp hj).1
          rw [List.length_append] at this
          simp at this
          omega
        subst h2
        rw [List.getElem?_append_right (Nat.le_refl _), Nat.sub_self] at hj
        cases hj
        rw [hl]
        exact st i v _ _ kn hv
  · rintro H' ⟨acc, hS, hl, hP, hDa⟩
    exact hd acc H' hS hl hP hDa
/-- [e for x in xs] -/
theorem lcL {a : Addr} {xs : List V} (hD : H1 D = none) (hq : SqL K H1 a xs) (hn : xs.length ≤ 1000000) (σs : Nat → V → L2.St) (P : Nat → V → Hp → Prop) (st : ∀ i v H H', KeepNL H H' → P i v H → P i v H')
    (hw : ∀ i x, wipe (σs i x) vs = wipe σ vs) (hg : ∀ i x H' (R : L2.St → Hp → Prop), xs[i]? = some x → Same H1 H' → R (σs i x) H' → g x (wipe σ vs) H' R)
    (hs : ∀ i x H' (R : VK), xs[i]? = some x → Same H1 H' → (∀ v H'', Same H' H'' → P i v H'' → R v H'') → te (σs i x) H' R)
    (hd : ∀ (acc : List V) H', Same H1 H' → acc.length = xs.length → (∀ i v, acc[i]? = some v → P i v H') → H' D = some (.lst acc) → Qd H') :
    ∃ W : Nat → Nat → Hp → Prop, (∃ m, W 0 m (upd H1 D (.lst []))) ∧ ∀ i m H, W i m H →
      ((Itl K a).stop i H ∧ Qd H) ∨ ((Itl K a).go i H ∧ ∃ Nx : Hp → Prop, (∀ H', Nx H' → ∃ m', m' < m ∧ W (i + 1) m' H') ∧ ∀ x H', (Itl K a).yld i H x H' → g x (wipe σ vs) H' fun σ2 H2 => wipe σ2 vs = wipe σ vs ∧ tYes σ2 H2 fun b H3 =>
        if b = true then te σ2 H3 fun y H4 => ∃ acc, H4 D = some (.lst acc) ∧ acc.length < sizeLine ∧ Nx (upd H4 D (.lst (acc ++ [y]))) else Nx H3) := by
  refine lc_list (K := K) (a := a) (xs := xs) (fun i H' => ∃ acc : List V, Same H1 H' ∧ acc.length = i ∧ (∀ j v, acc[j]? = some v → P j v H') ∧ H' D = some (.lst acc))
    ⟨[], same_new hD, rfl, fun (j : Nat) (v : V) (h : ([] : List V)[j]? = some v) => by simp at h, upd_same⟩ (fun i H' _ h => h.elim fun _ h => h.1.seq hq) ?_ ?_
  · rintro i x H' hx ⟨acc, hS, hl, hP, hDa⟩
    refine hg i x H' _ hx hS ?_
    refine ⟨hw i x, ?_⟩
    unfold tYes
    refine iteT ?_
    refine (hs i x H' _ hx hS fun v H'' hS2 hv => ⟨acc, hS2 _ _ hDa, ?_, acc ++ [v], ?_, ?_, ?_, upd_same⟩)
    · have := (List.getElem?_eq_some_iff.mp hx).1
      rw [hl, sizeLine_eq]
      omega
    · exact same_mut (hS.trans hS2) hD
    · rw [List.length_append, hl]
      rfl
    · intro j y hj
      have kn : KeepNL H'' (upd H'' D (.lst (acc ++ [v]))) := keepNL_lst (hS2 _ _ hDa)
      by_cases h1 : j < acc.length
      · rw [List.getElem?_append_left h1] at hj
        exact st j y _ _ ((Same.nl hS2).trans kn) (hP j y hj)
      · have h2 : j = acc.length := by
          have := (List.getElem?_eq_some_iff.mp hj).1
          rw [List.length_append] at this
          simp at this
          omega
        subst h2
        rw [List.getElem?_append_right (Nat.le_refl _), Nat.sub_self] at hj
        cases hj
        rw [hl]
        exact st i v _ _ kn hv
  · rintro H' ⟨acc, hS, hl, hP, hDa⟩
    exact hd acc H' hS hl hP hDa
end
end Rim
namespace Rim
open PySem PySem.Spec PyProof.Rows L2
section
variable {K : PySem.W.Frag} {σ : L2.St} {H : Hp} {Q : VK} {D : Ends} {g : TG} {tb : TS} {te : TE} {tt : TT} {wi : TI} {aa : TA} {ta : TE} {vs : List Nat}
/-- what a for asks, the walked thing being J -/
abbrev ForB (J : It) (g : TG) (tb : TS) (D : Ends) (σ : L2.St) (H : Hp) : Prop := ∃ W : Nat → Nat → L2.St → Hp → Prop, (∃ m, W 0 m σ H) ∧ ∀ i m σ H, W i m σ H →
  (J.stop i H ∧ D.nx σ H) ∨ (J.go i H ∧ ∃ N : L2.St → Hp → Prop, (∀ σ' H', N σ' H' → ∃ m', m' < m ∧ W (i + 1) m' σ' H') ∧ ∀ x H', J.yld i H x H' → g x σ H' fun σ2 H2 => tb { D with nx := N, ct := N, bk := D.nx } σ2 H2)
theorem w_for (k : wi σ H fun J H1 => ForB J g tb D σ H1) : tFor wi g tb D σ H := k
abbrev LcB (J : It) (g : TG) (tt : TT) (te : TE) (vs : List Nat) (σ : L2.St) (D : Addr) (H1 : Hp) (Qd : Hp → Prop) : Prop := ∃ W : Nat → Nat → Hp → Prop, (∃ m, W 0 m (upd H1 D (.lst []))) ∧ ∀ i m H, W i m H →
  (J.stop i H ∧ Qd H) ∨ (J.go i H ∧ ∃ Nx : Hp → Prop, (∀ H', Nx H' → ∃ m', m' < m ∧ W (i + 1) m' H') ∧ ∀ x H', J.yld i H x H' → g x (wipe σ vs) H' fun σ2 H2 => wipe σ2 vs = wipe σ vs ∧ tt σ2 H2 fun b H3 =>
    if b = true then te σ2 H3 fun y H4 => ∃ acc, H4 D = some (.lst acc) ∧ acc.length < sizeLine ∧ Nx (upd H4 D (.lst (acc ++ [y]))) else Nx H3)
theorem w_lc (k : wi σ H fun J H1 => ∀ D, H1 D = none → LcB J g tt te vs σ D H1 (Q (.ref D))) : tLc wi g tt te vs σ H Q := k
theorem w_rng1 {R : It → Hp → Prop} (k : aa σ H fun vs H1 => ∃ j : Int, vs = [.int j] ∧ -(2 ^ 62) ≤ j ∧ j < 2 ^ 62 ∧ R (Itr 0 j.toNat) H1) : iRng1 aa σ H R := k
theorem w_rng2 {R : It → Hp → Prop} (k : aa σ H fun vs H1 => ∃ i j : Int, vs = [.int i, .int j] ∧ (-(2 ^ 62) ≤ i ∧ i < 2 ^ 62 ∧ -(2 ^ 62) ≤ j ∧ j < 2 ^ 62) ∧ R (Itr i (j - i).toNat) H1) : iRng2 aa σ H R := k
theorem w_il {R : It → Hp → Prop} (k : ta σ H fun x H1 => ∃ a, x = .ref a ∧ (∃ xs, SqL K H1 a xs) ∧ R (Itl K a) H1) : iList K ta σ H R := k
theorem w_it {R : It → Hp → Prop} (k : ta σ H fun x H1 => ∃ a, x = .ref a ∧ (∃ xs, SqT K H1 a xs) ∧ R (Itt K a) H1) : iTup K ta σ H R := k
end
end Rim
namespace Rim
open PySem PySem.Spec PyProof.Rows L2
section
variable {K : PySem.W.Frag} {σ : L2.St} {H1 : Hp} {Qd : Hp → Prop} {te : TE} {D : Addr} {s : Nat}
theorem lcR1 {lo : Int} {n : Nat} (hD : H1 D = none) (hn : n ≤ 1000000) (P : Nat → V → Hp → Prop) (st : ∀ i v H H', KeepNL H H' → P i v H → P i v H')
    (hs : ∀ i H' (R : VK), i < n → Same H1 H' → (∀ v H'', Same H' H'' → P i v H'' → R v H'') → te ((wipe σ [s]).set s (some (.int (lo + (i : Int))))) H' R)
    (hd : ∀ (acc : List V) H', Same H1 H' → acc.length = n → (∀ i v, acc[i]? = some v → P i v H') → H' D = some (.lst acc) → Qd H') : LcB (Itr lo n) (gName s) tYes te [s] σ D H1 Qd :=
  lcR hD hn (fun i => (wipe σ [s]).set s (some (.int (lo + (i : Int))))) P st (fun i => wipe_set1) (fun i H' R _ h => h) hs hd
theorem lcL1 {a : Addr} {xs : List V} (hD : H1 D = none) (hq : SqL K H1 a xs) (hn : xs.length ≤ 1000000) (P : Nat → V → Hp → Prop) (st : ∀ i v H H', KeepNL H H' → P i v H → P i v H')
    (hs : ∀ i x H' (R : VK), xs[i]? = some x → Same H1 H' → (∀ v H'', Same H' H'' → P i v H'' → R v H'') → te ((wipe σ [s]).set s (some x)) H' R)
    (hd : ∀ (acc : List V) H', Same H1 H' → acc.length = xs.length → (∀ i v, acc[i]? = some v → P i v H') → H' D = some (.lst acc) → Qd H') : LcB (Itl K a) (gName s) tYes te [s] σ D H1 Qd :=
  lcL hD hq hn (fun i x => (wipe σ [s]).set s (some x)) P st (fun i x => wipe_set1) (fun i x H' R _ _ h => h) hs hd
end
theorem same_keepNL {H H' : Hp} (h : Same H H') {b : Addr} {o : HO} (e : H b = some o) : H' b = some o := h b o e
end Rim
namespace Rim
open PySem PySem.Spec PyProof.Rows L2
section
variable {K : PySem.W.Frag} {σ : L2.St} {H : Hp} {Q : VK} {ta : TE} {aa : TA} {C : Addr} {m : Str} {sp : Sp} {dvs : List V} {E : XK}
theorem w_make (k : aa σ H fun vs H1 => ∀ x dx, H1 x = none → H1 dx = none → dx ≠ x → sp (.ref x :: (vs ++ dvs)) (upd (upd H1 dx (.own x)) x (.ins C dx [])) (fun v H2 => v = .non ∧ Q (.ref x) H2) E) : tMake C sp dvs E aa σ H Q := k
theorem w_meth (k : ta σ H fun x H1 => ∃ a dx fs, x = .ref a ∧ H1 a = some (.ins C dx fs) ∧ fs.lookup m = none ∧ aa σ H1 fun vs H2 => sp (x :: (vs ++ dvs)) H2 Q E) : tMeth C m sp dvs E ta aa σ H Q := k
theorem w_fld' {f : Str} (k : ta σ H fun x H1 => ∃ a C dx fs v, x = .ref a ∧ H1 a = some (.ins C dx fs) ∧ Cls K C ∧ NoAttr K C f ∧ fs.lookup f = some v ∧ Q v H1) : tFld K ta f σ H Q := k
end
end Rim
set_option Elab.async false
set_option linter.all false
set_option maxRecDepth 100000
set_option maxHeartbeats 4000000
namespace Rim
open PySem PySem.Spec PyProof.Rows L2
abbrev fs_NoSide : List Str := ["side"]
def lcell (ns : List Int) (k : Int) : Int := if k < ns.length then ns.getD k.toNat 0 else 7919 * k + 13
def lmixed (c k : Int) : Int :=
  let a := (c + 7919 * k) % 2147483647
  let b := (a * 48271 + k) % 2147483647
  let d := b * (b + 7) % 2147483629
  d * (d + 3) % 2147483587
def sp__law_cell (K : PySem.W.Frag) : Sp := fun vs H Q _ => ∃ (a : Addr) (ns : List Int) (k : Int), vs = [.ref a, .int k] ∧ SqL K H a (ns.map V.int) ∧ 0 ≤ k ∧ k < 1000000 ∧ Q (.int (lcell ns k)) H
def sp__law_mixed (K : PySem.W.Frag) : Sp := fun vs H Q _ => ∃ (c k : Int), vs = [.int c, .int k] ∧ Q (.int (lmixed c k)) H
def sp__law_whole (K : PySem.W.Frag) : Sp := fun vs H Q _ => ∃ (i j : Int), vs = [.int i, .int j] ∧ Q (.bl (decide (i = j))) H
/-- a side -/
structure SideAt (H : Hp) (a C : Addr) (w : Int) : Prop where
  ob : ∃ dx, H a = some (.ins C dx [("width", .int w)])
structure SideFx (K : PySem.W.Frag) : Prop where
  cL : InsC K (cl K "LeftSide")
  cR : InsC K (cl K "RightSide")
  nL : NoAttr K (cl K "LeftSide") "width"
  nR : NoAttr K (cl K "RightSide") "width"
def sp_Side___init__ (K : PySem.W.Frag) : Sp := fun vs H Q _ => ∃ (a C dx : Addr) (w : Int), vs = [.ref a, .int w] ∧ H a = some (.ins C dx []) ∧ Cls K C ∧ NoAttr K C "width" ∧ Q .non (upd H a (.ins C dx [("width", .int w)]))
def spSelf (v : V) : Sp := fun vs H Q _ => ∃ a, vs = [.ref a] ∧ Q v H
def sp_LeftSide_word (K : PySem.W.Frag) : Sp := spSelf (.str "left")
def sp_RightSide_word (K : PySem.W.Frag) : Sp := spSelf (.str "right")
def sp_LeftSide_way (K : PySem.W.Frag) : Sp := spSelf (.int (-1))
def sp_RightSide_way (K : PySem.W.Frag) : Sp := spSelf (.int 1)
def sp_Side_rim (K : PySem.W.Frag) : Sp := spSelf (.int 0)
def sp_RightSide_rim (K : PySem.W.Frag) : Sp := fun vs H Q _ => ∃ (a : Addr) (w : Int), vs = [.ref a] ∧ SideAt H a (cl K "RightSide") w ∧ Q (.int (w + 1)) H
def sp_Side_across_at_LeftSide (K : PySem.W.Frag) : Sp := fun vs H Q _ => ∃ (a : Addr) (w x : Int), vs = [.ref a, .int x] ∧ SideAt H a (cl K "LeftSide") w ∧ Q (.int x) H
def sp_Side_across_at_RightSide (K : PySem.W.Frag) : Sp := fun vs H Q _ => ∃ (a : Addr) (w x : Int), vs = [.ref a, .int x] ∧ SideAt H a (cl K "RightSide") w ∧ Q (.int (w + 1 - x)) H
abbrev sp_NoSide___init__ (K : PySem.W.Frag) : Sp := spErr K fs_NoSide
/-- the side that a word tells, of any thing -/
def sp_side_of (K : PySem.W.Frag) : Sp := fun vs H Q E => ∃ (x : V) (d : PyData) (w : Int), vs = [x, .int w] ∧ Dp K H x d ∧ SeqAt.shaped d = true ∧
  (PyData.eqv d (.str "left") = true → ∀ a H', Same H H' → H a = none → SideAt H' a (cl K "LeftSide") w → Q (.ref a) H') ∧
  (PyData.eqv d (.str "left") = false → PyData.eqv d (.str "right") = true → ∀ a H', Same H H' → H a = none → SideAt H' a (cl K "RightSide") w → Q (.ref a) H') ∧
  (PyData.eqv d (.str "left") = false → PyData.eqv d (.str "right") = false → ∀ p, H p = none → E (.ref (cl K "NoSide")) (some p) (upd H p (.xd [("side", x)])))
end Rim
set_option Elab.async false
set_option linter.all false
set_option maxRecDepth 100000
set_option maxHeartbeats 4000000
namespace Rim
open PySem PySem.Spec PyProof.Rows L2
local macro_rules | `(tactic| walk_at "w1") => `(tactic| (with_reducible first
  | refine w_var rfl ?_ | refine w_c ?_ | refine w_seq ?_ | refine w_asg ?_ | refine w_gname ?_ | refine w_op ?_ | refine w_rI0 ?_ | refine w_cons ?_ | refine w_nil ?_ | refine w_test ?_ | refine w_bl ?_ | refine w_if ?_ | refine w_next ?_ | refine w_ret ?_ | refine w_b ?_
  | refine w_call ?_ | refine w_cb ?_ | refine w_not ?_ | refine w_and ?_ | refine w_or ?_ | refine w_andV ?_ | refine w_orV ?_ | refine w_notV ?_ | refine w_tif ?_ | refine w_tup ?_ | refine w_lst ?_ | refine w_drop ?_ | refine w_retN ?_ | refine w_un ?_ | refine w_neg ?_
  | refine w_callS ?_ | refine w_make ?_ | refine w_for ?_ | refine w_lc ?_ | refine w_rng1 ?_ | refine w_rng2 ?_ | refine w_il ?_ | refine w_it ?_ | refine w_iT ?_ | refine w_iF ?_ | refine w_iNT ?_ | refine w_iNF ?_ | refine w_eq rfl ?_ | refine w_ne rfl ?_ | refine w_min2 ?_ | refine w_max2 ?_ | refine w_abs ?_))
local macro_rules | `(tactic| walk_at "w") => `(tactic| ((try dsimp only [Bool.not_true, Bool.not_false]); repeat (walk_at "w1")))
local macro_rules | `(tactic| walk_at "if") => `(tactic| (first | (apply w_ited) | (apply w_iten) | (apply w_ite)))
def t__law_cell (K : PySem.W.Frag) (E : XK) : TS :=
  (tSeq (tIfS (tTest (tOp rLtI (tVar 1) (tCB (rLenSeq K) (tCons (tVar 0) tNil)))) (tRet (tOp (rIxL K) (tVar 0) (tVar 1))) tNext)
    (tRet (tOp rAddI (tOp rMulI (tC (.int 7919)) (tVar 1)) (tC (.int 13)))))
abbrev N__law_cell : List Str := ["_law_script", "_law_k"]
def t__law_mixed (K : PySem.W.Frag) (E : XK) : TS :=
  (tSeq (tAsg (tOp rModI (tOp rAddI (tVar 0) (tOp rMulI (tC (.int 7919)) (tVar 1))) (tC (.int 2147483647))) (gName 2))
    (tSeq (tAsg (tOp rModI (tOp rAddI (tOp rMulI (tVar 2) (tC (.int 48271))) (tVar 1)) (tC (.int 2147483647))) (gName 2))
    (tSeq (tAsg (tOp rModI (tOp rMulI (tVar 2) (tOp rAddI (tVar 2) (tC (.int 7)))) (tC (.int 2147483629))) (gName 2))
    (tRet (tOp rModI (tOp rMulI (tVar 2) (tOp rAddI (tVar 2) (tC (.int 3)))) (tC (.int 2147483587)))))))
abbrev N__law_mixed : List Str := ["_law_cell_here", "_law_k", "_law_number"]
def t_Side___init__ (K : PySem.W.Frag) (E : XK) : TS :=
  (sFld K (tVar 0) (tVar 1) "width")
abbrev N_Side___init__ : List Str := ["self", "width"]
def t_NoSide___init__ (K : PySem.W.Frag) (E : XK) : TS :=
  (tSeq (tDrop (tVeI K (tCons (tVar 0) (tCons (tC (.str ("neither left nor right" : Str))) tNil))))
    (tOst K "side" (tVar 0) (tVar 1)))
abbrev N_NoSide___init__ : List Str := ["self", "side"]
def t_side_of (K : PySem.W.Frag) (E : XK) : TS :=
  (tSeq (tIfS (tTest (tOp (rEqD K) (tVar 0) (tC (.str ("left" : Str))))) (tRet (tMake (cl K "LeftSide") (sp_Side___init__ K) [] E (tCons (tVar 1) tNil))) tNext)
    (tSeq (tIfS (tTest (tOp (rEqD K) (tVar 0) (tC (.str ("right" : Str))))) (tRet (tMake (cl K "RightSide") (sp_Side___init__ K) [] E (tCons (tVar 1) tNil))) tNext)
    (tRaiseE (cl K "NoSide") fs_NoSide (fun cls d _ H => E cls d H) (tCons (tVar 0) tNil))))
abbrev N_side_of : List Str := ["word", "width"]
def t_LeftSide_word (K : PySem.W.Frag) (E : XK) : TS :=
  (tRet (tC (.str ("left" : Str))))
abbrev N_LeftSide_word : List Str := ["self"]
def t_RightSide_word (K : PySem.W.Frag) (E : XK) : TS :=
  (tRet (tC (.str ("right" : Str))))
abbrev N_RightSide_word : List Str := ["self"]
def t_Side_rim (K : PySem.W.Frag) (E : XK) : TS :=
  (tRet (tC (.int 0)))
abbrev N_Side_rim : List Str := ["self"]
def t_RightSide_rim (K : PySem.W.Frag) (E : XK) : TS :=
  (tRet (tOp rAddI (tFld K (tVar 0) "width") (tC (.int 1))))
abbrev N_RightSide_rim : List Str := ["self"]
def t__law_whole (K : PySem.W.Frag) (E : XK) : TS :=
  (tRet (tAndV (tCB (rIsi K) (tCons (tVar 0) (tCons (tC (.ty "int")) tNil))) (tAndV (tNotV (tCB (rIsi K) (tCons (tVar 0) (tCons (tC (.ty "bool")) tNil)))) (tOp rEq (tVar 0) (tVar 1)))))
abbrev N__law_whole : List Str := ["_law_found", "_law_due"]
def t_LeftSide_way (K : PySem.W.Frag) (E : XK) : TS :=
  (tRet (tUn rNeg (tC (.int 1))))
abbrev N_LeftSide_way : List Str := ["self"]
def t_RightSide_way (K : PySem.W.Frag) (E : XK) : TS :=
  (tRet (tC (.int 1)))
abbrev N_RightSide_way : List Str := ["self"]
def t_Side_across_at_LeftSide (K : PySem.W.Frag) (E : XK) : TS :=
  (tRet (tOp rMulI (tOp rSubI (tMeth (cl K "LeftSide") "rim" (sp_Side_rim K) [] E (tVar 0) tNil) (tVar 1)) (tMeth (cl K "LeftSide") "way" (sp_LeftSide_way K) [] E (tVar 0) tNil)))
abbrev N_Side_across_at_LeftSide : List Str := ["self", "x"]
def t_Side_across_at_RightSide (K : PySem.W.Frag) (E : XK) : TS :=
  (tRet (tOp rMulI (tOp rSubI (tMeth (cl K "RightSide") "rim" (sp_RightSide_rim K) [] E (tVar 0) tNil) (tVar 1)) (tMeth (cl K "RightSide") "way" (sp_RightSide_way K) [] E (tVar 0) tNil)))
abbrev N_Side_across_at_RightSide : List Str := ["self", "x"]
section
variable {K : PySem.W.Frag}
theorem pure__law_cell (vs : List V) (H : Hp) (Q : VK) (E : XK) (h : sp__law_cell K vs H Q E) : t__law_cell K E { nx := fun _ H' => Q .non H', rt := Q } (L2.start N__law_cell vs) H := by
  obtain ⟨a, ns, k, rfl, hS, h0, h1, q⟩ := h
  unfold t__law_cell
  walk_at "w"
  refine w_lenL hS ?_
  walk_at "w"
  rw [List.length_map]
  walk_at "if" <;> intro c
  · walk_at "w"
    have hk : k.toNat < ns.length := by omega
    refine w_ixL hS (atI_at h0 (by rw [List.getElem?_map, List.getElem?_eq_getElem hk]; rfl)) ?_
    have e : lcell ns k = ns[k.toNat] := by
      unfold lcell
      rw [if_pos c, List.getD_eq_getElem?_getD, List.getElem?_eq_getElem hk]
      rfl
    rw [e] at q
    exact q
  · walk_at "w"
    refine w_rI (.inl (by decide)) ?_
    walk_at "w"
    have e : lcell ns k = 7919 * k + 13 := by
      unfold lcell
      rw [if_neg c]
    rw [e] at q
    exact q
theorem pure__law_mixed (vs : List V) (H : Hp) (Q : VK) (E : XK) (h : sp__law_mixed K vs H Q E) : t__law_mixed K E { nx := fun _ H' => Q .non H', rt := Q } (L2.start N__law_mixed vs) H := by
  obtain ⟨c, k, rfl, q⟩ := h
  unfold t__law_mixed
  walk_at "w"
  refine w_rI (.inl (by decide)) ?_
  walk_at "w"
  refine w_rI (by decide) ?_
  walk_at "w"
  refine w_rI (.inr (by decide)) ?_
  walk_at "w"
  refine w_rI (by decide) ?_
  walk_at "w"
  refine w_rI (.inl (by constructor <;> omega)) ?_
  walk_at "w"
  refine w_rI (by decide) ?_
  walk_at "w"
  refine w_rI (.inl (by constructor <;> omega)) ?_
  walk_at "w"
  refine w_rI (by decide) ?_
  exact q
theorem pure_Side___init__ (vs : List V) (H : Hp) (Q : VK) (E : XK) (h : sp_Side___init__ K vs H Q E) : t_Side___init__ K E { nx := fun _ H' => Q .non H', rt := Q } (L2.start N_Side___init__ vs) H := by
  obtain ⟨a, C, dx, w, rfl, ho, hc, hn, q⟩ := h
  exact ⟨_, rfl, _, rfl, a, C, dx, [], rfl, ho, hc, hn, by decide, q⟩
theorem pure_LeftSide_word (vs : List V) (H : Hp) (Q : VK) (E : XK) (h : sp_LeftSide_word K vs H Q E) : t_LeftSide_word K E { nx := fun _ H' => Q .non H', rt := Q } (L2.start N_LeftSide_word vs) H := by
  obtain ⟨a, rfl, q⟩ := h
  exact q
theorem pure_RightSide_word (vs : List V) (H : Hp) (Q : VK) (E : XK) (h : sp_RightSide_word K vs H Q E) : t_RightSide_word K E { nx := fun _ H' => Q .non H', rt := Q } (L2.start N_RightSide_word vs) H := by
  obtain ⟨a, rfl, q⟩ := h
  exact q
theorem pure_Side_rim (vs : List V) (H : Hp) (Q : VK) (E : XK) (h : sp_Side_rim K vs H Q E) : t_Side_rim K E { nx := fun _ H' => Q .non H', rt := Q } (L2.start N_Side_rim vs) H := by
  obtain ⟨a, rfl, q⟩ := h
  exact q
theorem pure_LeftSide_way (vs : List V) (H : Hp) (Q : VK) (E : XK) (h : sp_LeftSide_way K vs H Q E) : t_LeftSide_way K E { nx := fun _ H' => Q .non H', rt := Q } (L2.start N_LeftSide_way vs) H := by
  obtain ⟨a, rfl, q⟩ := h
  exact ⟨1, rfl, q⟩
theorem pure_RightSide_way (vs : List V) (H : Hp) (Q : VK) (E : XK) (h : sp_RightSide_way K vs H Q E) : t_RightSide_way K E { nx := fun _ H' => Q .non H', rt := Q } (L2.start N_RightSide_way vs) H := by
  obtain ⟨a, rfl, q⟩ := h
  exact q
theorem pure_RightSide_rim (S : SideFx K) (vs : List V) (H : Hp) (Q : VK) (E : XK) (h : sp_RightSide_rim K vs H Q E) : t_RightSide_rim K E { nx := fun _ H' => Q .non H', rt := Q } (L2.start N_RightSide_rim vs) H := by
  obtain ⟨a, w, rfl, ⟨dx, ho⟩, q⟩ := h
  unfold t_RightSide_rim
  walk_at "w"
  refine ⟨_, rfl, a, _, dx, _, _, rfl, ho, S.cR.c, S.nR, rfl, ?_⟩
  walk_at "w"
  exact q
theorem pure_Side_across_at_LeftSide (S : SideFx K) (vs : List V) (H : Hp) (Q : VK) (E : XK) (h : sp_Side_across_at_LeftSide K vs H Q E) : t_Side_across_at_LeftSide K E { nx := fun _ H' => Q .non H', rt := Q } (L2.start N_Side_across_at_LeftSide vs) H := by
  obtain ⟨a, w, x, rfl, ⟨dx, ho⟩, q⟩ := h
  unfold t_Side_across_at_LeftSide
  walk_at "w"
  refine ⟨_, rfl, a, dx, _, rfl, ho, rfl, a, rfl, ?_⟩
  walk_at "w"
  refine ⟨_, rfl, a, dx, _, rfl, ho, rfl, a, rfl, ?_⟩
  walk_at "w"
  refine w_rI (.inr (by decide)) ?_
  rw [show (0 - x) * -1 = x by omega]
  exact q
theorem pure_Side_across_at_RightSide (S : SideFx K) (vs : List V) (H : Hp) (Q : VK) (E : XK) (h : sp_Side_across_at_RightSide K vs H Q E) : t_Side_across_at_RightSide K E { nx := fun _ H' => Q .non H', rt := Q } (L2.start N_Side_across_at_RightSide vs) H := by
  obtain ⟨a, w, x, rfl, ⟨dx, ho⟩, q⟩ := h
  unfold t_Side_across_at_RightSide
  walk_at "w"
  refine ⟨_, rfl, a, dx, _, rfl, ho, rfl, a, w, rfl, ⟨dx, ho⟩, ?_⟩
  walk_at "w"
  refine ⟨_, rfl, a, dx, _, rfl, ho, rfl, a, rfl, ?_⟩
  walk_at "w"
  refine w_rI (.inr (by decide)) ?_
  rw [show (w + 1 - x) * 1 = w + 1 - x by omega]
  exact q
theorem pure__law_whole (vs : List V) (H : Hp) (Q : VK) (E : XK) (h : sp__law_whole K vs H Q E) : t__law_whole K E { nx := fun _ H' => Q .non H', rt := Q } (L2.start N__law_whole vs) H := by
  obtain ⟨i, j, rfl, q⟩ := h
  unfold t__law_whole
  walk_at "w"
  refine ⟨_, _, _, _, true, rfl, .ty _, .base (.int i), kit_ty (by decide +kernel), ?_⟩
  walk_at "w"
  refine ⟨_, _, _, _, false, rfl, .ty _, .base (.int i), kit_ty (by decide +kernel), ?_⟩
  walk_at "w"
  have e : decide (V.int i = V.int j) = decide (i = j) := by simp
  rw [e]
  exact q
theorem pure_side_of (S : SideFx K) (vs : List V) (H : Hp) (Q : VK) (E : XK) (h : sp_side_of K vs H Q E) : t_side_of K E { nx := fun _ H' => Q .non H', rt := Q } (L2.start N_side_of vs) H := by
  obtain ⟨x, d, w, rfl, hd, hs, qL, qR, qN⟩ := h
  unfold t_side_of
  walk_at "w"
  refine w_eqD hd (.str _) hs (by decide +kernel) ?_
  walk_at "w"
  walk_at "if" <;> intro c
  · walk_at "w"
    intro a dx na nd ne
    refine ⟨a, _, dx, w, rfl, upd_same, S.cL.c, S.nL, rfl, ?_⟩
    rw [upd_upd]
    exact qL c a _ (same_made na nd) na ⟨dx, upd_same⟩
  · walk_at "w"
    refine w_eqD hd (.str _) hs (by decide +kernel) ?_
    walk_at "w"
    walk_at "if" <;> intro c2
    · walk_at "w"
      intro a dx na nd ne
      refine ⟨a, _, dx, w, rfl, upd_same, S.cR.c, S.nR, rfl, ?_⟩
      rw [upd_upd]
      exact qR c c2 a _ (same_made na nd) na ⟨dx, upd_same⟩
    · walk_at "w"
      refine ⟨_, rfl, rfl, fun p hp => ?_⟩
      exact qN c c2 p hp
end
end Rim
set_option Elab.async false
set_option linter.all false
set_option maxRecDepth 100000
set_option maxHeartbeats 4000000
namespace Rim
open PySem PySem.Spec PyProof.Rows L2
local macro_rules | `(tactic| walk_at "w1") => `(tactic| (with_reducible first
  | refine w_var rfl ?_ | refine w_c ?_ | refine w_seq ?_ | refine w_asg ?_ | refine w_gname ?_ | refine w_op ?_ | refine w_rI0 ?_ | refine w_cons ?_ | refine w_nil ?_ | refine w_test ?_ | refine w_bl ?_ | refine w_if ?_ | refine w_next ?_ | refine w_ret ?_ | refine w_b ?_
  | refine w_call ?_ | refine w_cb ?_ | refine w_not ?_ | refine w_and ?_ | refine w_or ?_ | refine w_andV ?_ | refine w_orV ?_ | refine w_notV ?_ | refine w_tif ?_ | refine w_tup ?_ | refine w_lst ?_ | refine w_drop ?_ | refine w_retN ?_ | refine w_un ?_ | refine w_neg ?_
  | refine w_callS ?_ | refine w_make ?_ | refine w_for ?_ | refine w_lc ?_ | refine w_rng1 ?_ | refine w_rng2 ?_ | refine w_il ?_ | refine w_it ?_ | refine w_iT ?_ | refine w_iF ?_ | refine w_iNT ?_ | refine w_iNF ?_ | refine w_eq rfl ?_ | refine w_ne rfl ?_ | refine w_min2 ?_ | refine w_max2 ?_ | refine w_abs ?_))
local macro_rules | `(tactic| walk_at "w") => `(tactic| ((try dsimp only [Bool.not_true, Bool.not_false]); repeat (walk_at "w1")))
local macro_rules | `(tactic| walk_at "if") => `(tactic| (first | (apply w_ited) | (apply w_iten) | (apply w_ite)))
/-- isinstance among these classes -/
structure KitFx (K : PySem.W.Frag) : Prop where
  LS : PySem.W.kitOne K (.ref (cl K "LeftSide")) (.ref (cl K "Side")) = some true
  RS : PySem.W.kitOne K (.ref (cl K "RightSide")) (.ref (cl K "Side")) = some true
  LL : PySem.W.kitOne K (.ref (cl K "LeftSide")) (.ref (cl K "LeftSide")) = some true
  LR : PySem.W.kitOne K (.ref (cl K "LeftSide")) (.ref (cl K "RightSide")) = some false
  RL : PySem.W.kitOne K (.ref (cl K "RightSide")) (.ref (cl K "LeftSide")) = some false
  RR : PySem.W.kitOne K (.ref (cl K "RightSide")) (.ref (cl K "RightSide")) = some true
  NN : PySem.W.kitOne K (.ref (cl K "NoSide")) (.ref (cl K "NoSide")) = some true
  NV : PySem.W.kitOne K (.ref (cl K "NoSide")) (.type "ValueError") = some true
  NA : PySem.W.kitOne K (.ref (cl K "NoSide")) (.ref (cl K "NoSides")) = some false
  NB : PySem.W.kitOne K (.ref (cl K "NoSide")) (.ref (cl K "NoRow")) = some false
  NC : PySem.W.kitOne K (.ref (cl K "NoSide")) (.ref (cl K "NoSeat")) = some false
  ex : ExcC K (cl K "NoSide")
  no : PySem.W.findIn K (.ref (cl K "NoSide")) "side" = some none
  xm : PySem.W.exmOne K (.ref (cl K "NoSide")) (.ref (cl K "RimError")) = some true
abbrev sideC (K : PySem.W.Frag) (left : Bool) : Addr := cl K (if left then "LeftSide" else "RightSide")
def sp__law_side (K : PySem.W.Frag) : Sp := fun vs H Q _ => ∃ (a : Addr) (left : Bool) (w x : Int), vs = [.ref a, .bl left, .int w, .int x] ∧ SideAt H a (sideC K left) w ∧ Q (.bl true) H
def sp__law_refused (K : PySem.W.Frag) : Sp := fun vs H Q _ => ∃ (x : V) (d : PyData) (w : Int), vs = [x, .int w] ∧ Dp K H x d ∧ SeqAt.shaped d = true ∧ PyData.eqv d (.str "left") = false ∧ PyData.eqv d (.str "right") = false ∧ ∀ H', Same H H' → Q (.bl true) H'
def sp_law (K : PySem.W.Frag) : Sp := fun vs H Q _ => ∃ (a : Addr) (ns : List Int), vs = [.ref a] ∧ SqL K H a (ns.map V.int) ∧ ns.length ≤ 63 ∧ ∀ H', Q (.bl true) H'
def t__law_side (K : PySem.W.Frag) (E : XK) : TS :=
  (tSeq (tIfS (tOr (tNot (tB (tCB (rIsi K) (tCons (tVar 0) (tCons (tC (.ref (cl K "Side"))) tNil))))) (tOr (tTest (tOp rNe (tCB (rIsi K) (tCons (tVar 0) (tCons (tC (.ref (cl K "LeftSide"))) tNil))) (tVar 1))) (tTest (tOp rEq (tCB (rIsi K) (tCons (tVar 0) (tCons (tC (.ref (cl K "RightSide"))) tNil))) (tVar 1))))) (tRet (tC (.bl false))) tNext)
    (tSeq (tIfS (tB (tVar 1)) (tSeq (tIfS (tOr (tTest (tOp rNe (tEither (tMeth (cl K "LeftSide") "word" (sp_LeftSide_word K) [] E (tVar 0) tNil) (tMeth (cl K "RightSide") "word" (sp_RightSide_word K) [] E (tVar 0) tNil)) (tC (.str ("left" : Str))))) (tOr (tNot (tB (tCall (sp__law_whole K) [] E (tCons (tEither (tMeth (cl K "LeftSide") "rim" (sp_Side_rim K) [] E (tVar 0) tNil) (tMeth (cl K "RightSide") "rim" (sp_RightSide_rim K) [] E (tVar 0) tNil)) (tCons (tC (.int 0)) tNil))))) (tNot (tB (tCall (sp__law_whole K) [] E (tCons (tEither (tMeth (cl K "LeftSide") "way" (sp_LeftSide_way K) [] E (tVar 0) tNil) (tMeth (cl K "RightSide") "way" (sp_RightSide_way K) [] E (tVar 0) tNil)) (tCons (tUn rNeg (tC (.int 1))) tNil))))))) (tRet (tC (.bl false))) tNext)
    (tRet (tCall (sp__law_whole K) [] E (tCons (tEither (tMeth (cl K "LeftSide") "across" (sp_Side_across_at_LeftSide K) [] E (tVar 0) (tCons (tVar 3) tNil)) (tMeth (cl K "RightSide") "across" (sp_Side_across_at_RightSide K) [] E (tVar 0) (tCons (tVar 3) tNil))) (tCons (tVar 3) tNil))))) tNext)
    (tSeq (tIfS (tOr (tTest (tOp rNe (tEither (tMeth (cl K "LeftSide") "word" (sp_LeftSide_word K) [] E (tVar 0) tNil) (tMeth (cl K "RightSide") "word" (sp_RightSide_word K) [] E (tVar 0) tNil)) (tC (.str ("right" : Str))))) (tOr (tNot (tB (tCall (sp__law_whole K) [] E (tCons (tEither (tMeth (cl K "LeftSide") "rim" (sp_Side_rim K) [] E (tVar 0) tNil) (tMeth (cl K "RightSide") "rim" (sp_RightSide_rim K) [] E (tVar 0) tNil)) (tCons (tOp rAddI (tVar 2) (tC (.int 1))) tNil))))) (tNot (tB (tCall (sp__law_whole K) [] E (tCons (tEither (tMeth (cl K "LeftSide") "way" (sp_LeftSide_way K) [] E (tVar 0) tNil) (tMeth (cl K "RightSide") "way" (sp_RightSide_way K) [] E (tVar 0) tNil)) (tCons (tC (.int 1)) tNil))))))) (tRet (tC (.bl false))) tNext)
    (tRet (tCall (sp__law_whole K) [] E (tCons (tEither (tMeth (cl K "LeftSide") "across" (sp_Side_across_at_LeftSide K) [] E (tVar 0) (tCons (tVar 3) tNil)) (tMeth (cl K "RightSide") "across" (sp_Side_across_at_RightSide K) [] E (tVar 0) (tCons (tVar 3) tNil))) (tCons (tOp rSubI (tOp rAddI (tVar 2) (tC (.int 1))) (tVar 3)) tNil)))))))
abbrev N__law_side : List Str := ["_law_side_here", "_law_left", "_law_width", "_law_x"]
def tb1__law_refused (K : PySem.W.Frag) (E : XK) (W : WX) : TS :=
  (tDrop (tCallS (sp_side_of K) (WE W) (tCons (tVar 0) (tCons (tVar 1) tNil))))
def ts1__law_refused (K : PySem.W.Frag) (E : XK) (ae : Addr) (cls : Value) (dd : Option Addr) : TS :=
  (tAsg (tVar 3) (gName 2))
def t__law_refused (K : PySem.W.Frag) (E : XK) : TS :=
  (tSeq (tAsg (tC .non) (gName 2))
    (tSeq (fun D σ H => tb1__law_refused K E (wKeep K (.ref (cl K "RimError")) 3 (fun ae cls dd => ts1__law_refused K E ae cls dd) (fun cls d _ H => E cls d H) D) D σ H)
    (tSeq (tIfS (tOr (tNot (tB (tCB (rIsA K) (tCons (tVar 2) (tCons (tC (.ref (cl K "NoSide"))) tNil))))) (tNot (tB (tCB (rIsA K) (tCons (tVar 2) (tCons (tC (.ty "ValueError")) tNil)))))) (tRet (tC (.bl false))) tNext)
    (tRet (tAndV (tNotV (tCB (rIsAT K) (tCons (tVar 2) (tCons (tTup (tCons (tC (.ref (cl K "NoSides"))) (tCons (tC (.ref (cl K "NoRow"))) (tCons (tC (.ref (cl K "NoSeat"))) tNil)))) tNil)))) (tOp (rEqD K) (tExF K (tVar 2) "side") (tVar 0)))))))
abbrev N__law_refused : List Str := ["_law_thing", "_law_width", "_law_error", "e"]
def t_law (K : PySem.W.Frag) (E : XK) : TS :=
  (tSeq (tFor (iRng1 (tCons (tCB rMin2 (tCons (tC (.int 40)) (tCons (tOp rAddI (tC (.int 1)) (tCB (rLenSeq K) (tCons (tVar 0) tNil))) tNil))) tNil)) (gName 1)
    (tSeq (tAsg (tCall (sp__law_cell K) [] E (tCons (tVar 0) (tCons (tVar 1) tNil))) (gName 2))
    (tSeq (tAsg (tLc (iRng1 (tCons (tC (.int 2)) tNil)) (gName 3) tYes (tOp rAddI (tC (.int 1)) (tOp rModI (tCall (sp__law_mixed K) [] E0 (tCons (tVar 2) (tCons (tOp rAddI (tOp rMulI (tC (.int 4)) (tVar 1)) (tVar 3)) tNil))) (tC (.int 30)))) [3]) (gName 4))
    (tSeq (tAsg (tOp rAddI (tC (.int 1)) (tOp rModI (tCall (sp__law_mixed K) [] E (tCons (tVar 2) (tCons (tOp rAddI (tOp rMulI (tC (.int 4)) (tVar 1)) (tC (.int 2))) tNil))) (tCB (rMin K) (tCons (tVar 4) tNil)))) (gName 5))
    (tSeq (tAsg (tOp (rIxL K) (tLst (tCons (tC (.str ("left" : Str))) (tCons (tC (.str ("right" : Str))) tNil))) (tOp rModI (tCall (sp__law_mixed K) [] E (tCons (tVar 2) (tCons (tOp rAddI (tOp rMulI (tC (.int 4)) (tVar 1)) (tC (.int 3))) tNil))) (tC (.int 2)))) (gName 6))
    (tSeq (tAsg (tLc (iList K (tVar 4)) (gName 11) tYes (tCall (sp_side_of K) [] E0 (tCons (tVar 6) (tCons (tVar 11) tNil))) [11]) (gName 7))
    (tSeq (tAsg (tLst (tCons (tMake (cl K "LeftSide") (sp_Side___init__ K) [] E (tCons (tOp (rIxL K) (tVar 4) (tC (.int 0))) tNil)) (tCons (tMake (cl K "RightSide") (sp_Side___init__ K) [] E (tCons (tOp (rIxL K) (tVar 4) (tC (.int 1))) tNil)) tNil))) (gName 8))
    (tSeq (tFor (iRng1 (tCons (tC (.int 2)) tNil)) (gName 3)
    (tIfS (tOr (tNot (tB (tCall (sp__law_side K) [] E (tCons (tOp (rIxL K) (tVar 7) (tVar 3)) (tCons (tOp rEq (tVar 6) (tC (.str ("left" : Str)))) (tCons (tOp (rIxL K) (tVar 4) (tVar 3)) (tCons (tVar 5) tNil))))))) (tNot (tB (tCall (sp__law_side K) [] E (tCons (tOp (rIxL K) (tVar 8) (tVar 3)) (tCons (tOp rEq (tVar 3) (tC (.int 0))) (tCons (tOp (rIxL K) (tVar 4) (tVar 3)) (tCons (tVar 5) tNil)))))))) (tRet (tC (.bl false))) tNext))
    (tSeq (tAsg (tOp rDivI (tCall (sp__law_mixed K) [] E (tCons (tVar 2) (tCons (tOp rAddI (tOp rMulI (tC (.int 4)) (tVar 1)) (tC (.int 3))) tNil))) (tC (.int 2))) (gName 9))
    (tSeq (tAsg (tOp (rIxL K) (tLst (tCons (tC (.str ("both" : Str))) (tCons (tC (.str ("Left" : Str))) (tCons (tC (.str ("lef" : Str))) (tCons (tC (.str ("" : Str))) (tCons (tVar 9) (tCons (tC (.bl true)) (tCons (tC .non) (tCons (tLst (tCons (tC (.str ("left" : Str))) tNil)) (tCons (tTup (tCons (tC (.str ("left" : Str))) tNil)) tNil)))))))))) (tOp rModI (tVar 9) (tC (.int 9)))) (gName 10))
    (tIfS (tNot (tB (tCall (sp__law_refused K) [] E (tCons (tVar 10) (tCons (tOp (rIxL K) (tVar 4) (tC (.int 0))) tNil))))) (tRet (tC (.bl false))) tNext)))))))))))
    (tRet (tC (.bl true))))
abbrev N_law : List Str := ["_law_script", "_law_k", "_law_cell_here", "_law_j", "_law_widths", "_law_x", "_law_word", "_law_sides", "_law_others", "_law_number", "_law_thing", "_law_width"]
section
variable {K : PySem.W.Frag}
theorem pure__law_side (S : SideFx K) (F : KitFx K) (vs : List V) (H : Hp) (Q : VK) (E : XK) (h : sp__law_side K vs H Q E) : t__law_side K E { nx := fun _ H' => Q .non H', rt := Q } (L2.start N__law_side vs) H := by
  obtain ⟨a, left, w, x, rfl, A, q⟩ := h
  obtain ⟨dx, ho⟩ := A
  unfold t__law_side
  cases left with
  | true =>
    have tyx : TyX K H (.ref a) (.ref (cl K "LeftSide")) := S.cL.ty ho
    walk_at "w"
    refine ⟨_, _, _, _, true, rfl, .own _, tyx, F.LS, ?_⟩
    walk_at "w"
    refine ⟨_, _, _, _, true, rfl, .own _, tyx, F.LL, ?_⟩
    walk_at "w"
    rw [decide_eq_true rfl]
    walk_at "w"
    refine ⟨_, _, _, _, false, rfl, .own _, tyx, F.LR, ?_⟩
    walk_at "w"
    rw [decide_eq_false (by simp)]
    walk_at "w"
    refine .inl ⟨_, rfl, a, dx, _, rfl, ho, rfl, a, rfl, ?_⟩
    walk_at "w"
    rw [decide_eq_true rfl]
    walk_at "w"
    refine .inl ⟨_, rfl, a, dx, _, rfl, ho, rfl, a, rfl, ?_⟩
    walk_at "w"
    refine ⟨_, _, rfl, ?_⟩
    rw [decide_eq_true rfl]
    walk_at "w"
    refine .inl ⟨_, rfl, a, dx, _, rfl, ho, rfl, a, rfl, ?_⟩
    walk_at "w"
    refine ⟨_, _, rfl, ?_⟩
    rw [decide_eq_true rfl]
    walk_at "w"
    refine .inl ⟨_, rfl, a, dx, _, rfl, ho, rfl, _, rfl, a, w, x, rfl, ⟨dx, ho⟩, ?_⟩
    walk_at "w"
    refine ⟨_, _, rfl, ?_⟩
    rw [decide_eq_true rfl]
    exact q
  | false =>
    have tyx : TyX K H (.ref a) (.ref (cl K "RightSide")) := S.cR.ty ho
    walk_at "w"
    refine ⟨_, _, _, _, true, rfl, .own _, tyx, F.RS, ?_⟩
    walk_at "w"
    refine ⟨_, _, _, _, false, rfl, .own _, tyx, F.RL, ?_⟩
    walk_at "w"
    rw [decide_eq_true rfl]
    walk_at "w"
    refine ⟨_, _, _, _, true, rfl, .own _, tyx, F.RR, ?_⟩
    walk_at "w"
    rw [decide_eq_false (by simp)]
    walk_at "w"
    refine .inr ⟨_, rfl, a, dx, _, rfl, ho, rfl, a, rfl, ?_⟩
    walk_at "w"
    rw [decide_eq_true rfl]
    walk_at "w"
    refine .inr ⟨_, rfl, a, dx, _, rfl, ho, rfl, a, w, rfl, ⟨dx, ho⟩, ?_⟩
    walk_at "w"
    refine ⟨_, _, rfl, ?_⟩
    rw [decide_eq_true rfl]
    walk_at "w"
    refine .inr ⟨_, rfl, a, dx, _, rfl, ho, rfl, a, rfl, ?_⟩
    walk_at "w"
    refine ⟨_, _, rfl, ?_⟩
    rw [decide_eq_true rfl]
    walk_at "w"
    refine .inr ⟨_, rfl, a, dx, _, rfl, ho, rfl, _, rfl, a, w, x, rfl, ⟨dx, ho⟩, ?_⟩
    walk_at "w"
    refine ⟨_, _, rfl, ?_⟩
    rw [decide_eq_true rfl]
    exact q
theorem pure__law_refused (F : KitFx K) (vs : List V) (H : Hp) (Q : VK) (E : XK) (h : sp__law_refused K vs H Q E) : t__law_refused K E { nx := fun _ H' => Q .non H', rt := Q } (L2.start N__law_refused vs) H := by
  obtain ⟨x, d, w, rfl, hd, hs, hl, hr, q⟩ := h
  unfold t__law_refused
  walk_at "w"
  unfold tb1__law_refused
  walk_at "w"
  refine ⟨x, d, w, rfl, hd, hs, fun e => absurd (hl.symm.trans e) (by simp), fun _ e => absurd (hr.symm.trans e) (by simp), fun _ _ p hp => ?_⟩
  refine ⟨true, F.xm, fun _ a ha => ?_, fun z => nomatch z⟩
  unfold ts1__law_refused
  walk_at "w"
  intro ha'
  have hap : a ≠ p := fun z => by
    rw [z, upd_same] at ha
    cases ha
  have A : ErrAt (upd (upd H p (.xd [("side", x)])) a (exq (.ref (cl K "NoSide")) (some p) a)) a (cl K "NoSide") (some p) [("side", x)] := ⟨upd_same, by
    show upd _ a _ p = _
    rw [upd_ne (Ne.symm hap), upd_same]⟩
  have hS : Same H (upd (upd H p (.xd [("side", x)])) a (exq (.ref (cl K "NoSide")) (some p) a)) := (same_new hp).trans (same_new ha')
  generalize upd (upd H p (.xd [("side", x)])) a (exq (.ref (cl K "NoSide")) (some p) a) = H2 at A hS ⊢
  walk_at "w"
  refine .inr ⟨a, _, _, _, _, _, true, rfl, A, F.ex, .own _, F.NN, ?_⟩
  walk_at "w"
  refine .inr ⟨a, _, _, _, _, _, true, rfl, A, F.ex, .ty _, F.NV, ?_⟩
  walk_at "w"
  refine ⟨by show 3 ≤ sizeLine; decide, fun t ht => ?_⟩
  walk_at "w"
  have A2 : ErrAt (upd H2 t (.tup [.ref (cl K "NoSides"), .ref (cl K "NoRow"), .ref (cl K "NoSeat")])) a (cl K "NoSide") (some p) [("side", x)] := by
    refine ⟨?_, ?_⟩
    · rw [upd_ne (ne_of_none A.ob ht)]
      exact A.ob
    · show upd _ t _ p = _
      rw [upd_ne (ne_of_none A.dk ht)]
      exact A.dk
  refine .inr ⟨a, _, _, _, t, _, [.ref (cl K "NoSides"), .ref (cl K "NoRow"), .ref (cl K "NoSeat")], false, rfl, A2, F.ex, upd_same, .cons (.own _) (.cons (.own _) (.cons (.own _) .nil)), ?_, ?_⟩
  · exact kitAny_cons F.NA (fun _ => kitAny_cons F.NB (fun _ => kitAny_cons F.NC (fun _ => kitAny_nil) (by simp)) (by simp)) (by simp)
  walk_at "w"
  refine ⟨_, rfl, a, _, p, [("side", x)], x, rfl, A2, F.ex, F.no, rfl, ?_⟩
  walk_at "w"
  have hd2 : Dp K (upd H2 t (.tup [.ref (cl K "NoSides"), .ref (cl K "NoRow"), .ref (cl K "NoSeat")])) x d := dp_same (hS.trans (same_new ht)) hd
  refine w_eqD hd2 hd2 hs hs ?_
  rw [SeqAt.eqv_refl _ (SeqAt.canLay_of_shaped hs)]
  exact q _ (hS.trans (same_new ht))
end
end Rim
set_option Elab.async false
set_option linter.all false
set_option maxRecDepth 100000
set_option maxHeartbeats 4000000
namespace Rim
open PySem PySem.Spec PyProof.Rows L2
local macro_rules | `(tactic| walk_at "w1") => `(tactic| (with_reducible first
  | refine w_var rfl ?_ | refine w_c ?_ | refine w_seq ?_ | refine w_asg ?_ | refine w_gname ?_ | refine w_op ?_ | refine w_rI0 ?_ | refine w_cons ?_ | refine w_nil ?_ | refine w_test ?_ | refine w_bl ?_ | refine w_if ?_ | refine w_next ?_ | refine w_ret ?_ | refine w_b ?_
  | refine w_call ?_ | refine w_cb ?_ | refine w_not ?_ | refine w_and ?_ | refine w_or ?_ | refine w_andV ?_ | refine w_orV ?_ | refine w_notV ?_ | refine w_tif ?_ | refine w_tup ?_ | refine w_lst ?_ | refine w_drop ?_ | refine w_retN ?_ | refine w_un ?_ | refine w_neg ?_
  | refine w_callS ?_ | refine w_make ?_ | refine w_for ?_ | refine w_lc ?_ | refine w_rng1 ?_ | refine w_rng2 ?_ | refine w_il ?_ | refine w_it ?_ | refine w_iT ?_ | refine w_iF ?_ | refine w_iNT ?_ | refine w_iNF ?_ | refine w_eq rfl ?_ | refine w_ne rfl ?_ | refine w_min2 ?_ | refine w_max2 ?_ | refine w_abs ?_))
local macro_rules | `(tactic| walk_at "w") => `(tactic| ((try dsimp only [Bool.not_true, Bool.not_false]); repeat (walk_at "w1")))
local macro_rules | `(tactic| walk_at "if") => `(tactic| (first | (apply w_ited) | (apply w_iten) | (apply w_ite)))
section
variable {K : PySem.W.Frag}
theorem SideAt.keep {H H' : Hp} {a C : Addr} {w : Int} (k : KeepNL H H') (h : SideAt H a C w) : SideAt H' a C w := by
  obtain ⟨dx, e⟩ := h
  exact ⟨dx, k _ _ e (by intro xs z; cases z)⟩
theorem SideAt.same {H H' : Hp} {a C : Addr} {w : Int} (k : Same H H') (h : SideAt H a C w) : SideAt H' a C w := h.keep (Same.nl k)
theorem pure_law (S : SideFx K) (F : KitFx K) (vs : List V) (H : Hp) (Q : VK) (E : XK) (h : sp_law K vs H Q E) : t_law K E { nx := fun _ H' => Q .non H', rt := Q } (L2.start N_law vs) H := by
  obtain ⟨a, ns, rfl, hS, hlen, q⟩ := h
  unfold t_law
  walk_at "w"
  refine w_lenL hS ?_
  walk_at "w"
  rw [List.length_map]
  have hn : (if 1 + (ns.length : Int) < 40 then 1 + (ns.length : Int) else 40) ≤ 40 ∧ 0 ≤ (if 1 + (ns.length : Int) < 40 then 1 + (ns.length : Int) else 40) := by
    split <;> omega
  generalize (if 1 + (ns.length : Int) < 40 then 1 + (ns.length : Int) else 40) = n at hn
  refine ⟨n, rfl, by omega, by omega, ?_⟩
  refine for_range (lo := 0) (n := n.toNat) (fun i σ H' => ∃ v1 v2 v3 v4 v5 v6 v7 v8 v9 v10 v11 : Option V, σ = [some (.ref a), v1, v2, v3, v4, v5, v6, v7, v8, v9, v10, v11] ∧ Same H H') ⟨_, _, _, _, _, _, _, _, _, _, _, rfl, Same.refl H⟩ ?_ ?_
  · rintro i σ H1 hi ⟨v1, v2, v3, v4, v5, v6, v7, v8, v9, v10, v11, rfl, s1⟩
    have hi40 : (i : Int) < 40 := by omega
    walk_at "w"
    refine ⟨a, ns, _, rfl, s1.seq hS, by omega, by omega, ?_⟩
    generalize lcell ns (0 + (i : Int)) = c
    walk_at "w"
    -- the widths
    refine ⟨2, rfl, by decide, by decide, fun D1 hD1 => ?_⟩
    refine lcR1 (lo := 0) (n := 2) hD1 (by decide) (fun j v _ => ∃ w : Int, v = .int w ∧ 1 ≤ w) (fun _ _ _ _ _ h => h) ?_ ?_
    · intro j H2 R hj s2 hR
      walk_at "w"
      refine w_rI (.inl (by decide)) ?_
      walk_at "w"
      refine ⟨_, _, rfl, ?_⟩
      walk_at "w"
      refine w_rI (by decide) ?_
      walk_at "w"
      exact hR _ _ (Same.refl _) ⟨_, rfl, by omega⟩
    intro acc H2 s2 hl hP hacc
    obtain ⟨x0, x1, rfl⟩ : ∃ x0 x1, acc = [x0, x1] := by
      match acc, hl with
      | [x0, x1], _ => exact ⟨x0, x1, rfl⟩
    obtain ⟨w0, rfl, p0⟩ := hP 0 x0 rfl
    obtain ⟨w1, rfl, p1⟩ := hP 1 x1 rfl
    have s2' := s1.trans s2
    walk_at "w"
    -- the column
    refine w_rI (.inl (by decide)) ?_
    walk_at "w"
    refine ⟨_, _, rfl, ?_⟩
    walk_at "w"
    refine ⟨D1, [w0, w1], rfl, sq_l hacc, by simp, fun m hm _ => ?_⟩
    have hm1 : 1 ≤ m := by
      simp at hm
      omega
    refine w_rI (show 0 < m by omega) ?_
    generalize lmixed c (4 * (0 + (i : Int)) + 2) % m = xx
    walk_at "w"
    -- the word
    refine ⟨by show 2 ≤ sizeLine; decide, fun pl hpl => ?_⟩
    walk_at "w"
    refine w_rI (.inl (by decide)) ?_
    walk_at "w"
    refine ⟨_, _, rfl, ?_⟩
    walk_at "w"
    refine w_rI (by decide) ?_
    generalize lmixed c (4 * (0 + (i : Int)) + 3) = z
    obtain ⟨b, hb⟩ : ∃ b : Bool, z % 2 = if b then 0 else 1 := by
      rcases Int.emod_two_eq z with e | e
      · exact ⟨true, e⟩
      · exact ⟨false, e⟩
    rw [hb]
    refine w_ixL (v := .str (if b then "left" else "right")) (sq_l upd_same) (by cases b <;> rfl) ?_
    walk_at "w"
    have s3 : Same H2 (upd H2 pl (.lst [.str "left", .str "right"])) := same_new hpl
    have hacc3 := s3 _ _ hacc
    have s3' := s2'.trans s3
    generalize upd H2 pl (.lst [.str "left", .str "right"]) = H3 at s3 hacc3 s3' ⊢
    clear hacc hpl s2 s3 s2' pl
    -- the sides
    refine ⟨D1, rfl, ⟨_, sq_l hacc3⟩, fun D2 hD2 => ?_⟩
    refine lcL1 (K := K) (xs := [.int w0, .int w1]) hD2 (sq_l hacc3) (by simp) (fun j v H' => ∃ (sa : Addr) (w : Int), v = .ref sa ∧ ([w0, w1] : List Int)[j]? = some w ∧ SideAt H' sa (sideC K b) w)
      (fun j v H4 H5 k ⟨sa, w, e1, e2, h⟩ => ⟨sa, w, e1, e2, h.keep k⟩) ?_ ?_
    · intro j x H4 R hj s4 hR
      obtain ⟨w, rfl, hw⟩ : ∃ w : Int, x = .int w ∧ ([w0, w1] : List Int)[j]? = some w := by
        match j, hj with
        | 0, e => exact ⟨w0, (Option.some.inj e).symm, rfl⟩
        | 1, e => exact ⟨w1, (Option.some.inj e).symm, rfl⟩
        | (n + 2), e => simp at e
      walk_at "w"
      refine ⟨_, _, w, rfl, .str _, by cases b <;> decide +kernel, fun e a' H5 s5 _ A => ?_, fun e e' a' H5 s5 _ A => ?_, fun e e' => ?_⟩
      · have hb : b = true := by
          cases b with
          | true => rfl
          | false => exact absurd e (by decide +kernel)
        subst hb
        exact hR _ _ s5 ⟨a', w, rfl, hw, A⟩
      · have hb : b = false := by
          cases b with
          | false => rfl
          | true => exact absurd e (by decide +kernel)
        subst hb
        exact hR _ _ s5 ⟨a', w, rfl, hw, A⟩
      · cases b with
        | true => exact absurd e (by decide +kernel)
        | false => exact absurd e' (by decide +kernel)
    intro acc2 H4 s4 hl2 hP2 hacc2
    obtain ⟨y0, y1, rfl⟩ : ∃ y0 y1, acc2 = [y0, y1] := by
      match acc2, hl2 with
      | [y0, y1], _ => exact ⟨y0, y1, rfl⟩
    obtain ⟨sa0, w', rfl, ew, A0⟩ := hP2 0 y0 rfl
    cases ew
    obtain ⟨sa1, w', rfl, ew, A1⟩ := hP2 1 y1 rfl
    cases ew
    have hacc4 := s4 _ _ hacc3
    have s4' := s3'.trans s4
    clear hP2 s4 hacc3 hl2 hP
    walk_at "w"
    -- others
    refine w_ixL (sq_l hacc4) (v := .int w0) (by rfl) ?_
    intro o0 dx0 n0 nd0 ne0
    refine ⟨o0, _, dx0, w0, rfl, upd_same, S.cL.c, S.nL, rfl, ?_⟩
    rw [upd_upd]
    have s5 : Same H4 (upd (upd H4 dx0 (.own o0)) o0 (.ins (cl K "LeftSide") dx0 [("width", .int w0)])) := same_made n0 nd0
    have B0 : SideAt (upd (upd H4 dx0 (.own o0)) o0 (.ins (cl K "LeftSide") dx0 [("width", .int w0)])) o0 (cl K "LeftSide") w0 := ⟨dx0, upd_same⟩
    generalize upd (upd H4 dx0 (.own o0)) o0 (.ins (cl K "LeftSide") dx0 [("width", .int w0)]) = H5 at s5 B0 ⊢
    walk_at "w"
    refine w_ixL (sq_l (s5 _ _ hacc4)) (v := .int w1) (by rfl) ?_
    intro o1 dx1 n1 nd1 ne1
    refine ⟨o1, _, dx1, w1, rfl, upd_same, S.cR.c, S.nR, rfl, ?_⟩
    rw [upd_upd]
    have s6 : Same H5 (upd (upd H5 dx1 (.own o1)) o1 (.ins (cl K "RightSide") dx1 [("width", .int w1)])) := same_made n1 nd1
    have B1 : SideAt (upd (upd H5 dx1 (.own o1)) o1 (.ins (cl K "RightSide") dx1 [("width", .int w1)])) o1 (cl K "RightSide") w1 := ⟨dx1, upd_same⟩
    generalize upd (upd H5 dx1 (.own o1)) o1 (.ins (cl K "RightSide") dx1 [("width", .int w1)]) = H6 at s6 B1 ⊢
    walk_at "w"
    refine ⟨by show 2 ≤ sizeLine; decide, fun po hpo => ?_⟩
    have s7 : Same H6 (upd H6 po (.lst [.ref o0, .ref o1])) := same_new hpo
    have ho : (upd H6 po (.lst [.ref o0, .ref o1])) po = some (.lst [.ref o0, .ref o1]) := upd_same
    generalize upd H6 po (.lst [.ref o0, .ref o1]) = H7 at s7 ho ⊢
    have s47 : Same H4 H7 := (s5.trans s6).trans s7
    replace B0 := B0.same (s6.trans s7)
    replace B1 := B1.same s7
    replace A0 := A0.same s47
    replace A1 := A1.same s47
    replace hacc4 := s47 _ _ hacc4
    replace hacc2 := s47 _ _ hacc2
    replace s4' := s4'.trans s47
    clear s47 s7 s6 s5
    walk_at "w"
    -- both sides are looked at
    refine ⟨2, rfl, by decide, by decide, ?_⟩
    refine for_range (lo := 0) (n := 2) (fun j σ H' => ∃ u3 : Option V, σ = [some (.ref a), some (.int (0 + (i : Int))), some (.int c), u3, some (.ref D1), some (.int (1 + xx)), some (.str (if b then "left" else "right")), some (.ref D2), some (.ref po), v9, v10, v11] ∧ H' = H7) ⟨_, rfl, rfl⟩ ?_ ?_
    · rintro j σ H8 hj ⟨u3, rfl, rfl⟩
      have hj2 : j = 0 ∨ j = 1 := by omega
      rcases hj2 with rfl | rfl
      all_goals
        walk_at "w"
      · refine w_ixL (sq_l hacc2) (v := .ref sa0) (by rfl) ?_
        walk_at "w"
        refine w_ixL (sq_l hacc4) (v := .int w0) (by rfl) ?_
        walk_at "w"
        refine ⟨sa0, b, w0, 1 + xx, ?_, A0, ?_⟩
        · cases b <;> rfl
        walk_at "w"
        refine w_ixL (sq_l ho) (v := .ref o0) (by rfl) ?_
        walk_at "w"
        refine w_ixL (sq_l hacc4) (v := .int w0) (by rfl) ?_
        walk_at "w"
        refine ⟨o0, true, w0, _, rfl, B0, ?_⟩
        walk_at "w"
        exact ⟨_, rfl, rfl⟩
      · refine w_ixL (sq_l hacc2) (v := .ref sa1) (by rfl) ?_
        walk_at "w"
        refine w_ixL (sq_l hacc4) (v := .int w1) (by rfl) ?_
        walk_at "w"
        refine ⟨sa1, b, w1, 1 + xx, ?_, A1, ?_⟩
        · cases b <;> rfl
        walk_at "w"
        refine w_ixL (sq_l ho) (v := .ref o1) (by rfl) ?_
        walk_at "w"
        refine w_ixL (sq_l hacc4) (v := .int w1) (by rfl) ?_
        walk_at "w"
        refine ⟨o1, false, w1, _, rfl, B1, ?_⟩
        walk_at "w"
        exact ⟨_, rfl, rfl⟩
    rintro σ H8 ⟨u3, rfl, rfl⟩
    walk_at "w"
    -- the thing
    refine w_rI (.inl (by decide)) ?_
    walk_at "w"
    refine ⟨_, _, rfl, ?_⟩
    walk_at "w"
    refine w_rI ⟨by decide, by decide⟩ ?_
    generalize lmixed c (4 * (0 + (i : Int)) + 3) / 2 = z2
    walk_at "w"
    refine ⟨by show 1 ≤ sizeLine; decide, fun p1 hp1 => ?_⟩
    walk_at "w"
    refine ⟨by show 1 ≤ sizeLine; decide, fun p2 hp2 => ?_⟩
    walk_at "w"
    refine ⟨by show 9 ≤ sizeLine; decide, fun p3 hp3 => ?_⟩
    walk_at "w"
    refine w_rI (by decide) ?_
    have t1 : Same H8 (upd H8 p1 (.lst [.str "left"])) := same_new hp1
    have t2 : Same (upd H8 p1 (.lst [.str "left"])) (upd (upd H8 p1 (.lst [.str "left"])) p2 (.tup [.str "left"])) := same_new hp2
    have g1 : (upd (upd H8 p1 (.lst [.str "left"])) p2 (.tup [.str "left"])) p1 = some (.lst [.str "left"]) := t2 _ _ upd_same
    have g2 : (upd (upd H8 p1 (.lst [.str "left"])) p2 (.tup [.str "left"])) p2 = some (.tup [.str "left"]) := upd_same
    have t12 := t1.trans t2
    generalize upd (upd H8 p1 (.lst [.str "left"])) p2 (.tup [.str "left"]) = H9 at t12 g1 g2 hp3 ⊢
    have t3 : Same H9 (upd H9 p3 (.lst [.str "both", .str "Left", .str "lef", .str "", .int z2, .bl true, .non, .ref p1, .ref p2])) := same_new hp3
    have g3 : (upd H9 p3 (.lst [.str "both", .str "Left", .str "lef", .str "", .int z2, .bl true, .non, .ref p1, .ref p2])) p3 = some (.lst [.str "both", .str "Left", .str "lef", .str "", .int z2, .bl true, .non, .ref p1, .ref p2]) := upd_same
    generalize upd H9 p3 (.lst [.str "both", .str "Left", .str "lef", .str "", .int z2, .bl true, .non, .ref p1, .ref p2]) = HA at t3 g3 ⊢
    replace g1 := t3 _ _ g1
    replace g2 := t3 _ _ g2
    replace t12 := t12.trans t3
    obtain ⟨k, hk, hk9⟩ : ∃ k : Nat, z2 % 9 = (k : Int) ∧ k < 9 := ⟨(z2 % 9).toNat, by omega, by omega⟩
    rw [hk]
    have key : ∃ (v : V) (d : PyData), ([.str "both", .str "Left", .str "lef", .str "", .int z2, .bl true, .non, .ref p1, .ref p2] : List V)[k]? = some v ∧ Dp K HA v d ∧ SeqAt.shaped d = true ∧ PyData.eqv d (.str "left") = false ∧ PyData.eqv d (.str "right") = false := by
      have hk' : k = 0 ∨ k = 1 ∨ k = 2 ∨ k = 3 ∨ k = 4 ∨ k = 5 ∨ k = 6 ∨ k = 7 ∨ k = 8 := by omega
      rcases hk' with rfl | rfl | rfl | rfl | rfl | rfl | rfl | rfl | rfl
      · exact ⟨_, _, rfl, .str _, by decide +kernel, by decide +kernel, by decide +kernel⟩
      · exact ⟨_, _, rfl, .str _, by decide +kernel, by decide +kernel, by decide +kernel⟩
      · exact ⟨_, _, rfl, .str _, by decide +kernel, by decide +kernel, by decide +kernel⟩
      · exact ⟨_, _, rfl, .str _, by decide +kernel, by decide +kernel, by decide +kernel⟩
      · exact ⟨_, _, rfl, .int _, rfl, rfl, rfl⟩
      · exact ⟨_, _, rfl, .bl _, rfl, rfl, rfl⟩
      · exact ⟨_, _, rfl, .non, rfl, rfl, rfl⟩
      · exact ⟨_, _, rfl, .lst (sq_l g1) (.cons (.str _) .nil), by decide +kernel, rfl, rfl⟩
      · exact ⟨_, _, rfl, .tup (sq_t g2) (.cons (.str _) .nil), by decide +kernel, rfl, rfl⟩
    obtain ⟨v, d, hv, hd, hs, hl', hr'⟩ := key
    refine w_ixL (sq_l g3) (atI_nat hv) ?_
    walk_at "w"
    refine w_ixL (sq_l (t12 _ _ hacc4)) (v := .int w0) (by rfl) ?_
    walk_at "w"
    refine ⟨v, d, w0, rfl, hd, hs, hl', hr', fun HB tB => ?_⟩
    walk_at "w"
    exact ⟨_, _, _, _, _, _, _, _, _, _, _, rfl, (s4'.trans t12).trans tB⟩
  · rintro σ H1 ⟨v1, v2, v3, v4, v5, v6, v7, v8, v9, v10, v11, rfl, s1⟩
    walk_at "w"
    exact q H1
end
end Rim
set_option Elab.async false
set_option linter.all false
set_option maxRecDepth 100000
set_option maxHeartbeats 4000000
namespace Rim
open PySem PySem.Spec PyProof.Rows L2
/-! ### the facts of these classes -/
def kSideFx : Chk := fun K => kIns "LeftSide" K && (kIns "RightSide" K && (kNo "LeftSide" "width" K && kNo "RightSide" "width" K))
theorem sideFx_of {K : PySem.W.Frag} (h : kSideFx K = true) : SideFx K := by
  obtain ⟨h1, h⟩ := He.ba h
  obtain ⟨h2, h⟩ := He.ba h
  obtain ⟨h3, h4⟩ := He.ba h
  exact ⟨ins_of h1, ins_of h2, He.noat_ok h3, He.noat_ok h4⟩
def kitL : List Chk := [kKit "LeftSide" "Side" true, kKit "RightSide" "Side" true, kKit "LeftSide" "LeftSide" true, kKit "LeftSide" "RightSide" false, kKit "RightSide" "LeftSide" false, kKit "RightSide" "RightSide" true,
  kKit "NoSide" "NoSide" true, kKitT "NoSide" "ValueError" true, kKit "NoSide" "NoSides" false, kKit "NoSide" "NoRow" false, kKit "NoSide" "NoSeat" false, kExcC "NoSide", kNo "NoSide" "side", kExm "NoSide" "RimError" true]
def kKitFx : Chk := fun K => kitL.all fun f => f K
theorem kitFx_of {K : PySem.W.Frag} (h : kKitFx K = true) : KitFx K := by
  have a : ∀ (i : Nat) {f : Chk}, kitL[i]? = some f → f K = true := fun i f e => List.all_eq_true.mp h f (List.mem_of_getElem? e)
  exact ⟨kit_of' (a 0 rfl), kit_of' (a 1 rfl), kit_of' (a 2 rfl), kit_of' (a 3 rfl), kit_of' (a 4 rfl), kit_of' (a 5 rfl), kit_of' (a 6 rfl), kitT_of (a 7 rfl), kit_of' (a 8 rfl), kit_of' (a 9 rfl), kit_of' (a 10 rfl), excC_of (a 11 rfl), He.noat_ok (a 12 rfl), exm_of (a 13 rfl)⟩
end Rim
set_option Elab.async false
set_option linter.all false
set_option maxRecDepth 100000
set_option maxHeartbeats 4000000
namespace Rim
open PySem PySem.Spec PyProof.Rows L2
def top (i : Nat) : Stmt := PySem.Challenge.pw_rimnotes_k02_sides.main.body.getD i (.Pass ⟨0, 0, 0, 0⟩)
abbrev s__law_cell : Stmt := top 12
theorem sc__law_cell : FnScope ["_law_script", "_law_k"] ["_law_script", "_law_k"] (defScope s__law_cell) := ⟨rfl, rfl, rfl, by decide +kernel, rfl, by decide +kernel, by decide +kernel⟩
abbrev s__law_mixed : Stmt := top 13
theorem sc__law_mixed : FnScope ["_law_cell_here", "_law_k", "_law_number"] ["_law_cell_here", "_law_k"] (defScope s__law_mixed) := ⟨rfl, rfl, rfl, by decide +kernel, rfl, by decide +kernel, by decide +kernel⟩
abbrev s_Side___init__ : Stmt := inClass (top 7) 0
theorem sc_Side___init__ : FnScope ["self", "width"] ["self", "width"] (defScope s_Side___init__) := ⟨rfl, rfl, rfl, by decide +kernel, rfl, by decide +kernel, by decide +kernel⟩
abbrev s_NoSide___init__ : Stmt := inClass (top 3) 0
theorem sc_NoSide___init__ : FnScope ["self", "side"] ["self", "side"] (defScope s_NoSide___init__) := ⟨rfl, rfl, rfl, by decide +kernel, rfl, by decide +kernel, by decide +kernel⟩
abbrev s_side_of : Stmt := top 10
theorem sc_side_of : FnScope ["word", "width"] ["word", "width"] (defScope s_side_of) := ⟨rfl, rfl, rfl, by decide +kernel, rfl, by decide +kernel, by decide +kernel⟩
abbrev s_LeftSide_word : Stmt := inClass (top 8) 0
theorem sc_LeftSide_word : FnScope ["self"] ["self"] (defScope s_LeftSide_word) := ⟨rfl, rfl, rfl, by decide +kernel, rfl, by decide +kernel, by decide +kernel⟩
abbrev s_RightSide_word : Stmt := inClass (top 9) 0
theorem sc_RightSide_word : FnScope ["self"] ["self"] (defScope s_RightSide_word) := ⟨rfl, rfl, rfl, by decide +kernel, rfl, by decide +kernel, by decide +kernel⟩
abbrev s_Side_rim : Stmt := inClass (top 7) 2
theorem sc_Side_rim : FnScope ["self"] ["self"] (defScope s_Side_rim) := ⟨rfl, rfl, rfl, by decide +kernel, rfl, by decide +kernel, by decide +kernel⟩
abbrev s_RightSide_rim : Stmt := inClass (top 9) 1
theorem sc_RightSide_rim : FnScope ["self"] ["self"] (defScope s_RightSide_rim) := ⟨rfl, rfl, rfl, by decide +kernel, rfl, by decide +kernel, by decide +kernel⟩
abbrev s__law_whole : Stmt := top 14
theorem sc__law_whole : FnScope ["_law_found", "_law_due"] ["_law_found", "_law_due"] (defScope s__law_whole) := ⟨rfl, rfl, rfl, by decide +kernel, rfl, by decide +kernel, by decide +kernel⟩
abbrev s_LeftSide_way : Stmt := inClass (top 8) 1
theorem sc_LeftSide_way : FnScope ["self"] ["self"] (defScope s_LeftSide_way) := ⟨rfl, rfl, rfl, by decide +kernel, rfl, by decide +kernel, by decide +kernel⟩
abbrev s_RightSide_way : Stmt := inClass (top 9) 2
theorem sc_RightSide_way : FnScope ["self"] ["self"] (defScope s_RightSide_way) := ⟨rfl, rfl, rfl, by decide +kernel, rfl, by decide +kernel, by decide +kernel⟩
abbrev s_Side_across : Stmt := inClass (top 7) 4
theorem sc_Side_across : FnScope ["self", "x"] ["self", "x"] (defScope s_Side_across) := ⟨rfl, rfl, rfl, by decide +kernel, rfl, by decide +kernel, by decide +kernel⟩
abbrev s__law_side : Stmt := top 15
theorem sc__law_side : FnScope ["_law_side_here", "_law_left", "_law_width", "_law_x"] ["_law_side_here", "_law_left", "_law_width", "_law_x"] (defScope s__law_side) := ⟨rfl, rfl, rfl, by decide +kernel, rfl, by decide +kernel, by decide +kernel⟩
abbrev s__law_refused : Stmt := top 16
theorem sc__law_refused : FnScope ["_law_thing", "_law_width", "_law_error", "e"] ["_law_thing", "_law_width"] (defScope s__law_refused) := ⟨rfl, rfl, rfl, by decide +kernel, rfl, by decide +kernel, by decide +kernel⟩
abbrev s_law : Stmt := top 17
theorem sc_law : FnScope ["_law_script", "_law_k", "_law_cell_here", "_law_j", "_law_widths", "_law_x", "_law_word", "_law_sides", "_law_others", "_law_number", "_law_thing", "_law_width"] ["_law_script"] (defScope s_law) := ⟨rfl, rfl, rfl, by decide +kernel, rfl, by decide +kernel, by decide +kernel⟩
/-- what the written part says -/
structure Txt (K : PySem.W.Frag) (mg : Str → Option Value) : Prop where
  g_LeftSide : mg "LeftSide" = some (.ref (cl K "LeftSide"))
  g_NoRow : mg "NoRow" = some (.ref (cl K "NoRow"))
  g_NoSeat : mg "NoSeat" = some (.ref (cl K "NoSeat"))
  g_NoSide : mg "NoSide" = some (.ref (cl K "NoSide"))
  g_NoSides : mg "NoSides" = some (.ref (cl K "NoSides"))
  g_RightSide : mg "RightSide" = some (.ref (cl K "RightSide"))
  g_RimError : mg "RimError" = some (.ref (cl K "RimError"))
  g_Side : mg "Side" = some (.ref (cl K "Side"))
  b_ValueError : mg "ValueError" = none
  b_bool : mg "bool" = none
  b_int : mg "int" = none
  b_isinstance : mg "isinstance" = none
  b_len : mg "len" = none
  b_min : mg "min" = none
  b_range : mg "range" = none
  f__law_cell : mg "_law_cell" = some (.ref (He.fAd K ("_law_cell", none)))
  k__law_cell : PySem.W.keepIn K (.ref (He.fAd K ("_law_cell", none))) = true
  f__law_mixed : mg "_law_mixed" = some (.ref (He.fAd K ("_law_mixed", none)))
  k__law_mixed : PySem.W.keepIn K (.ref (He.fAd K ("_law_mixed", none))) = true
  f__law_refused : mg "_law_refused" = some (.ref (He.fAd K ("_law_refused", none)))
  k__law_refused : PySem.W.keepIn K (.ref (He.fAd K ("_law_refused", none))) = true
  f__law_side : mg "_law_side" = some (.ref (He.fAd K ("_law_side", none)))
  k__law_side : PySem.W.keepIn K (.ref (He.fAd K ("_law_side", none))) = true
  f__law_whole : mg "_law_whole" = some (.ref (He.fAd K ("_law_whole", none)))
  k__law_whole : PySem.W.keepIn K (.ref (He.fAd K ("_law_whole", none))) = true
  f_side_of : mg "side_of" = some (.ref (He.fAd K ("side_of", none)))
  k_side_of : PySem.W.keepIn K (.ref (He.fAd K ("side_of", none))) = true
  m_LeftSide_across : Meth K (cl K "LeftSide") "across" (He.fAd K ("Side", some "across"))
  m_LeftSide_rim : Meth K (cl K "LeftSide") "rim" (He.fAd K ("Side", some "rim"))
  m_LeftSide_way : Meth K (cl K "LeftSide") "way" (He.fAd K ("LeftSide", some "way"))
  m_LeftSide_word : Meth K (cl K "LeftSide") "word" (He.fAd K ("LeftSide", some "word"))
  m_RightSide_across : Meth K (cl K "RightSide") "across" (He.fAd K ("Side", some "across"))
  m_RightSide_rim : Meth K (cl K "RightSide") "rim" (He.fAd K ("RightSide", some "rim"))
  m_RightSide_way : Meth K (cl K "RightSide") "way" (He.fAd K ("RightSide", some "way"))
  m_RightSide_word : Meth K (cl K "RightSide") "word" (He.fAd K ("RightSide", some "word"))
  c_LeftSide : Cls K (cl K "LeftSide")
  c_RightSide : Cls K (cl K "RightSide")
  mk_LeftSide : Mk K (cl K "LeftSide") (He.fAd K ("Side", some "__init__"))
  mk_RightSide : Mk K (cl K "RightSide") (He.fAd K ("Side", some "__init__"))
  re_RimError : ReC K (cl K "RimError")
  x_NoSide : ErrC K (cl K "NoSide") (He.fAd K ("NoSide", some "__init__")) ["side"]
  sideFx : SideFx K
  kitFx : KitFx K
  g_law : mg "law" = some (.ref (cl K "law"))
def looks : List Chk := [kGlo "LeftSide",
  kGlo "NoRow",
  kGlo "NoSeat",
  kGlo "NoSide",
  kGlo "NoSides",
  kGlo "RightSide",
  kGlo "RimError",
  kGlo "Side",
  kFree "ValueError",
  kFree "bool",
  kFree "int",
  kFree "isinstance",
  kFree "len",
  kFree "min",
  kFree "range",
  kGlo "_law_cell",
  (He.Fa.keep "_law_cell").ok,
  kGlo "_law_mixed",
  (He.Fa.keep "_law_mixed").ok,
  kGlo "_law_refused",
  (He.Fa.keep "_law_refused").ok,
  kGlo "_law_side",
  (He.Fa.keep "_law_side").ok,
  kGlo "_law_whole",
  (He.Fa.keep "_law_whole").ok,
  kGlo "side_of",
  (He.Fa.keep "side_of").ok,
  kMeth "LeftSide" "across" "Side",
  kMeth "LeftSide" "rim" "Side",
  kMeth "LeftSide" "way" "LeftSide",
  kMeth "LeftSide" "word" "LeftSide",
  kMeth "RightSide" "across" "Side",
  kMeth "RightSide" "rim" "RightSide",
  kMeth "RightSide" "way" "RightSide",
  kMeth "RightSide" "word" "RightSide",
  kCls "LeftSide",
  kCls "RightSide",
  (fun K => kMk "LeftSide" K && kMeth "LeftSide" "__init__" "Side" K),
  (fun K => kMk "RightSide" K && kMeth "RightSide" "__init__" "Side" K),
  kRe "RimError",
  kErr "NoSide" ["side"],
  kSideFx,
  kKitFx,
  kGlo "law"]
section
variable {P : Program} {w : World} {K : PySem.W.Frag} {mg : Str → Option Value} {base : Heap}
abbrev FnP (K : PySem.W.Frag) (x q : Str) (st : Stmt) (dvs : List V) (f : Addr) (fd : FuncData) : Prop := FunD K x q (defArgs st) (defBody st) (defScope st) dvs [] f fd
set_option maxHeartbeats 4000000 in
theorem ok__law_cell (T : Txt K mg) {fd : FuncData} (F : FnP K "_law_cell" "_law_cell" s__law_cell [] (He.fAd K ("_law_cell", none)) fd) :
    FnOk P w K mg base (L2.CX P w) 1 (He.fAd K ("_law_cell", none)) fd ["_law_script", "_law_k"] (sp__law_cell K) := by
  refine F.ok sc__law_cell (fun vs H Q E h => ?_) (fun cdv A outer s H vs Q E hr h => ⟨t__law_cell K E, ?_, pure__law_cell vs H Q E h⟩)
  · first | (obtain ⟨_, rfl, _⟩ := h; rfl) | (obtain ⟨_, _, rfl, _⟩ := h; rfl) | (obtain ⟨_, _, _, rfl, _⟩ := h; rfl) | (obtain ⟨_, _, _, _, rfl, _⟩ := h; rfl) | (obtain ⟨_, _, _, _, _, rfl, _⟩ := h; rfl) | (obtain ⟨_, _, _, _, _, _, rfl, _⟩ := h; rfl) | (obtain ⟨_, _, _, _, _, _, _, rfl, _⟩ := h; rfl) | (obtain ⟨_, _, _, _, _, _, _, _, rfl, _⟩ := h; rfl) | (obtain ⟨_, _, _, _, _, _, _, _, _, rfl, _⟩ := h; rfl) | (obtain ⟨_, _, _, _, _, _, _, _, _, _, rfl, _⟩ := h; rfl) | (obtain ⟨_, _, _, _, _, _, _, _, _, _, _, rfl, _⟩ := h; rfl) | (obtain ⟨_, _, _, _, _, _, _, _, _, _, _, _, rfl, _⟩ := h; rfl) | (obtain ⟨_, _, _, rfl, hl, _⟩ := h; simp [hl])
  · skip
    exact (pss_cons (ps_if (pt_cmpR op_lt (pv 1) (pe_callB call_len_seq (by rfl) T.b_len (by decide +kernel) (pa_cons (pv 0) pa_nil)) (nomark _)) (pss_one (ps_ret (pe_ix ix_list (pv 0) (pv 1) (fun _ _ => rfl)))) pss_nil)
    (pss_one (ps_ret (pe_op op_add (pe_op op_mul pe_int (pv 1)) pe_int))))
set_option maxHeartbeats 4000000 in
theorem ok__law_mixed (T : Txt K mg) {fd : FuncData} (F : FnP K "_law_mixed" "_law_mixed" s__law_mixed [] (He.fAd K ("_law_mixed", none)) fd) :
    FnOk P w K mg base (L2.CX P w) 1 (He.fAd K ("_law_mixed", none)) fd ["_law_cell_here", "_law_k"] (sp__law_mixed K) := by
  refine F.ok sc__law_mixed (fun vs H Q E h => ?_) (fun cdv A outer s H vs Q E hr h => ⟨t__law_mixed K E, ?_, pure__law_mixed vs H Q E h⟩)
  · first | (obtain ⟨_, rfl, _⟩ := h; rfl) | (obtain ⟨_, _, rfl, _⟩ := h; rfl) | (obtain ⟨_, _, _, rfl, _⟩ := h; rfl) | (obtain ⟨_, _, _, _, rfl, _⟩ := h; rfl) | (obtain ⟨_, _, _, _, _, rfl, _⟩ := h; rfl) | (obtain ⟨_, _, _, _, _, _, rfl, _⟩ := h; rfl) | (obtain ⟨_, _, _, _, _, _, _, rfl, _⟩ := h; rfl) | (obtain ⟨_, _, _, _, _, _, _, _, rfl, _⟩ := h; rfl) | (obtain ⟨_, _, _, _, _, _, _, _, _, rfl, _⟩ := h; rfl) | (obtain ⟨_, _, _, _, _, _, _, _, _, _, rfl, _⟩ := h; rfl) | (obtain ⟨_, _, _, _, _, _, _, _, _, _, _, rfl, _⟩ := h; rfl) | (obtain ⟨_, _, _, _, _, _, _, _, _, _, _, _, rfl, _⟩ := h; rfl) | (obtain ⟨_, _, _, rfl, hl, _⟩ := h; simp [hl])
  · skip
    exact (pss_cons (ps_set (i := 2) sc__law_mixed.nd rfl (by first | exact Or.inl rfl | exact Or.inr rfl) (pe_op op_mod (pe_op op_add (pv 0) (pe_op op_mul pe_int (pv 1))) pe_int))
    (pss_cons (ps_set (i := 2) sc__law_mixed.nd rfl (by first | exact Or.inl rfl | exact Or.inr rfl) (pe_op op_mod (pe_op op_add (pe_op op_mul (pv 2) pe_int) (pv 1)) pe_int))
    (pss_cons (ps_set (i := 2) sc__law_mixed.nd rfl (by first | exact Or.inl rfl | exact Or.inr rfl) (pe_op op_mod (pe_op op_mul (pv 2) (pe_op op_add (pv 2) pe_int)) pe_int))
    (pss_one (ps_ret (pe_op op_mod (pe_op op_mul (pv 2) (pe_op op_add (pv 2) pe_int)) pe_int))))))
set_option maxHeartbeats 4000000 in
theorem ok_Side___init__ (T : Txt K mg) {fd : FuncData} (F : FnP K "__init__" "Side.__init__" s_Side___init__ [] (He.fAd K ("Side", some "__init__")) fd) :
    FnOk P w K mg base (L2.CX P w) 1 (He.fAd K ("Side", some "__init__")) fd ["self", "width"] (sp_Side___init__ K) := by
  refine F.ok sc_Side___init__ (fun vs H Q E h => ?_) (fun cdv A outer s H vs Q E hr h => ⟨t_Side___init__ K E, ?_, pure_Side___init__ vs H Q E h⟩)
  · first | (obtain ⟨_, rfl, _⟩ := h; rfl) | (obtain ⟨_, _, rfl, _⟩ := h; rfl) | (obtain ⟨_, _, _, rfl, _⟩ := h; rfl) | (obtain ⟨_, _, _, _, rfl, _⟩ := h; rfl) | (obtain ⟨_, _, _, _, _, rfl, _⟩ := h; rfl) | (obtain ⟨_, _, _, _, _, _, rfl, _⟩ := h; rfl) | (obtain ⟨_, _, _, _, _, _, _, rfl, _⟩ := h; rfl) | (obtain ⟨_, _, _, _, _, _, _, _, rfl, _⟩ := h; rfl) | (obtain ⟨_, _, _, _, _, _, _, _, _, rfl, _⟩ := h; rfl) | (obtain ⟨_, _, _, _, _, _, _, _, _, _, rfl, _⟩ := h; rfl) | (obtain ⟨_, _, _, _, _, _, _, _, _, _, _, rfl, _⟩ := h; rfl) | (obtain ⟨_, _, _, _, _, _, _, _, _, _, _, _, rfl, _⟩ := h; rfl) | (obtain ⟨_, _, _, rfl, hl, _⟩ := h; simp [hl])
  · skip
    exact (pss_one (ps_fld (pv 0) (pv 1) rfl))
set_option maxHeartbeats 4000000 in
theorem ok_NoSide___init__ (T : Txt K mg) {fd : FuncData} (F : FnP K "__init__" "NoSide.__init__" s_NoSide___init__ [] (He.fAd K ("NoSide", some "__init__")) fd) :
    FnOk P w K mg base (L2.CX P w) 1 (He.fAd K ("NoSide", some "__init__")) fd ["self", "side"] (sp_NoSide___init__ K) := by
  refine F.ok sc_NoSide___init__ (fun vs H Q E h => ?_) (fun cdv A outer s H vs Q E hr h => ⟨t_NoSide___init__ K E, ?_, pure_err1 vs H Q E h⟩)
  · first | (obtain ⟨_, rfl, _⟩ := h; rfl) | (obtain ⟨_, _, rfl, _⟩ := h; rfl) | (obtain ⟨_, _, _, rfl, _⟩ := h; rfl) | (obtain ⟨_, _, _, _, rfl, _⟩ := h; rfl) | (obtain ⟨_, _, _, _, _, rfl, _⟩ := h; rfl) | (obtain ⟨_, _, _, _, _, _, rfl, _⟩ := h; rfl) | (obtain ⟨_, _, _, _, _, _, _, rfl, _⟩ := h; rfl) | (obtain ⟨_, _, _, _, _, _, _, _, rfl, _⟩ := h; rfl) | (obtain ⟨_, _, _, _, _, _, _, _, _, rfl, _⟩ := h; rfl) | (obtain ⟨_, _, _, _, _, _, _, _, _, _, rfl, _⟩ := h; rfl) | (obtain ⟨_, _, _, _, _, _, _, _, _, _, _, rfl, _⟩ := h; rfl) | (obtain ⟨_, _, _, _, _, _, _, _, _, _, _, _, rfl, _⟩ := h; rfl) | (obtain ⟨_, _, _, rfl, hl, _⟩ := h; simp [hl])
  · skip
    exact (pss_cons (ps_expr (pe_reinit rfl T.g_RimError T.re_RimError (pa_cons (pv 0) (pa_cons pe_str pa_nil))))
    (pss_one (ps_ost (pv 0) (pv 1))))
set_option maxHeartbeats 4000000 in
theorem ok_side_of (T : Txt K mg) {fd : FuncData} (F : FnP K "side_of" "side_of" s_side_of [] (He.fAd K ("side_of", none)) fd)
    {fd_Side___init__ : FuncData} (G_Side___init__ : FnOk P w K mg base (L2.CX P w) 1 (He.fAd K ("Side", some "__init__")) fd_Side___init__ ["self", "width"] (sp_Side___init__ K))
    (b_Side___init__ : Binds K fd_Side___init__ ["self", "width"] [])
    {fd_NoSide___init__ : FuncData} (G_NoSide___init__ : FnOk P w K mg base (L2.CX P w) 1 (He.fAd K ("NoSide", some "__init__")) fd_NoSide___init__ ["self", "side"] (sp_NoSide___init__ K))
    (b_NoSide___init__ : Binds K fd_NoSide___init__ ["self", "side"] []) :
    FnOk P w K mg base (L2.CX P w) 3 (He.fAd K ("side_of", none)) fd ["word", "width"] (sp_side_of K) := by
  refine F.ok sc_side_of (fun vs H Q E h => ?_) (fun cdv A outer s H vs Q E hr h => ⟨t_side_of K E, ?_, pure_side_of T.sideFx vs H Q E h⟩)
  · first | (obtain ⟨_, rfl, _⟩ := h; rfl) | (obtain ⟨_, _, rfl, _⟩ := h; rfl) | (obtain ⟨_, _, _, rfl, _⟩ := h; rfl) | (obtain ⟨_, _, _, _, rfl, _⟩ := h; rfl) | (obtain ⟨_, _, _, _, _, rfl, _⟩ := h; rfl) | (obtain ⟨_, _, _, _, _, _, rfl, _⟩ := h; rfl) | (obtain ⟨_, _, _, _, _, _, _, rfl, _⟩ := h; rfl) | (obtain ⟨_, _, _, _, _, _, _, _, rfl, _⟩ := h; rfl) | (obtain ⟨_, _, _, _, _, _, _, _, _, rfl, _⟩ := h; rfl) | (obtain ⟨_, _, _, _, _, _, _, _, _, _, rfl, _⟩ := h; rfl) | (obtain ⟨_, _, _, _, _, _, _, _, _, _, _, rfl, _⟩ := h; rfl) | (obtain ⟨_, _, _, _, _, _, _, _, _, _, _, _, rfl, _⟩ := h; rfl) | (obtain ⟨_, _, _, rfl, hl, _⟩ := h; simp [hl])
  · skip
    exact (pss_cons (ps_if (pt_cmpR (op_eqD hr.units) (pv 0) pe_str (nomark _)) (pss_one (ps_ret (pe_make T.mk_LeftSide G_Side___init__ (hr.mono (by decide)) rfl T.g_LeftSide b_Side___init__ .nil passE (pa_cons (pv 1) pa_nil)))) pss_nil)
    (pss_cons (ps_if (pt_cmpR (op_eqD hr.units) (pv 0) pe_str (nomark _)) (pss_one (ps_ret (pe_make T.mk_RightSide G_Side___init__ (hr.mono (by decide)) rfl T.g_RightSide b_Side___init__ .nil passE (pa_cons (pv 1) pa_nil)))) pss_nil)
    (pss_one (ps_raiseE T.x_NoSide G_NoSide___init__ (hr.mono (by decide)) b_NoSide___init__ T.g_NoSide takesE (pa_cons (pv 0) pa_nil)))))
set_option maxHeartbeats 4000000 in
theorem ok_LeftSide_word (T : Txt K mg) {fd : FuncData} (F : FnP K "word" "LeftSide.word" s_LeftSide_word [] (He.fAd K ("LeftSide", some "word")) fd) :
    FnOk P w K mg base (L2.CX P w) 1 (He.fAd K ("LeftSide", some "word")) fd ["self"] (sp_LeftSide_word K) := by
  refine F.ok sc_LeftSide_word (fun vs H Q E h => ?_) (fun cdv A outer s H vs Q E hr h => ⟨t_LeftSide_word K E, ?_, pure_LeftSide_word vs H Q E h⟩)
  · first | (obtain ⟨_, rfl, _⟩ := h; rfl) | (obtain ⟨_, _, rfl, _⟩ := h; rfl) | (obtain ⟨_, _, _, rfl, _⟩ := h; rfl) | (obtain ⟨_, _, _, _, rfl, _⟩ := h; rfl) | (obtain ⟨_, _, _, _, _, rfl, _⟩ := h; rfl) | (obtain ⟨_, _, _, _, _, _, rfl, _⟩ := h; rfl) | (obtain ⟨_, _, _, _, _, _, _, rfl, _⟩ := h; rfl) | (obtain ⟨_, _, _, _, _, _, _, _, rfl, _⟩ := h; rfl) | (obtain ⟨_, _, _, _, _, _, _, _, _, rfl, _⟩ := h; rfl) | (obtain ⟨_, _, _, _, _, _, _, _, _, _, rfl, _⟩ := h; rfl) | (obtain ⟨_, _, _, _, _, _, _, _, _, _, _, rfl, _⟩ := h; rfl) | (obtain ⟨_, _, _, _, _, _, _, _, _, _, _, _, rfl, _⟩ := h; rfl) | (obtain ⟨_, _, _, rfl, hl, _⟩ := h; simp [hl])
  · skip
    exact (pss_one (ps_ret pe_str))
set_option maxHeartbeats 4000000 in
theorem ok_RightSide_word (T : Txt K mg) {fd : FuncData} (F : FnP K "word" "RightSide.word" s_RightSide_word [] (He.fAd K ("RightSide", some "word")) fd) :
    FnOk P w K mg base (L2.CX P w) 1 (He.fAd K ("RightSide", some "word")) fd ["self"] (sp_RightSide_word K) := by
  refine F.ok sc_RightSide_word (fun vs H Q E h => ?_) (fun cdv A outer s H vs Q E hr h => ⟨t_RightSide_word K E, ?_, pure_RightSide_word vs H Q E h⟩)
  · first | (obtain ⟨_, rfl, _⟩ := h; rfl) | (obtain ⟨_, _, rfl, _⟩ := h; rfl) | (obtain ⟨_, _, _, rfl, _⟩ := h; rfl) | (obtain ⟨_, _, _, _, rfl, _⟩ := h; rfl) | (obtain ⟨_, _, _, _, _, rfl, _⟩ := h; rfl) | (obtain ⟨_, _, _, _, _, _, rfl, _⟩ := h; rfl) | (obtain ⟨_, _, _, _, _, _, _, rfl, _⟩ := h; rfl) | (obtain ⟨_, _, _, _, _, _, _, _, rfl, _⟩ := h; rfl) | (obtain ⟨_, _, _, _, _, _, _, _, _, rfl, _⟩ := h; rfl) | (obtain ⟨_, _, _, _, _, _, _, _, _, _, rfl, _⟩ := h; rfl) | (obtain ⟨_, _, _, _, _, _, _, _, _, _, _, rfl, _⟩ := h; rfl) | (obtain ⟨_, _, _, _, _, _, _, _, _, _, _, _, rfl, _⟩ := h; rfl) | (obtain ⟨_, _, _, rfl, hl, _⟩ := h; simp [hl])
  · skip
    exact (pss_one (ps_ret pe_str))
set_option maxHeartbeats 4000000 in
theorem ok_Side_rim (T : Txt K mg) {fd : FuncData} (F : FnP K "rim" "Side.rim" s_Side_rim [] (He.fAd K ("Side", some "rim")) fd) :
    FnOk P w K mg base (L2.CX P w) 1 (He.fAd K ("Side", some "rim")) fd ["self"] (sp_Side_rim K) := by
  refine F.ok sc_Side_rim (fun vs H Q E h => ?_) (fun cdv A outer s H vs Q E hr h => ⟨t_Side_rim K E, ?_, pure_Side_rim vs H Q E h⟩)
  · first | (obtain ⟨_, rfl, _⟩ := h; rfl) | (obtain ⟨_, _, rfl, _⟩ := h; rfl) | (obtain ⟨_, _, _, rfl, _⟩ := h; rfl) | (obtain ⟨_, _, _, _, rfl, _⟩ := h; rfl) | (obtain ⟨_, _, _, _, _, rfl, _⟩ := h; rfl) | (obtain ⟨_, _, _, _, _, _, rfl, _⟩ := h; rfl) | (obtain ⟨_, _, _, _, _, _, _, rfl, _⟩ := h; rfl) | (obtain ⟨_, _, _, _, _, _, _, _, rfl, _⟩ := h; rfl) | (obtain ⟨_, _, _, _, _, _, _, _, _, rfl, _⟩ := h; rfl) | (obtain ⟨_, _, _, _, _, _, _, _, _, _, rfl, _⟩ := h; rfl) | (obtain ⟨_, _, _, _, _, _, _, _, _, _, _, rfl, _⟩ := h; rfl) | (obtain ⟨_, _, _, _, _, _, _, _, _, _, _, _, rfl, _⟩ := h; rfl) | (obtain ⟨_, _, _, rfl, hl, _⟩ := h; simp [hl])
  · skip
    exact (pss_one (ps_ret pe_int))
set_option maxHeartbeats 4000000 in
theorem ok_RightSide_rim (T : Txt K mg) {fd : FuncData} (F : FnP K "rim" "RightSide.rim" s_RightSide_rim [] (He.fAd K ("RightSide", some "rim")) fd) :
    FnOk P w K mg base (L2.CX P w) 1 (He.fAd K ("RightSide", some "rim")) fd ["self"] (sp_RightSide_rim K) := by
  refine F.ok sc_RightSide_rim (fun vs H Q E h => ?_) (fun cdv A outer s H vs Q E hr h => ⟨t_RightSide_rim K E, ?_, pure_RightSide_rim T.sideFx vs H Q E h⟩)
  · first | (obtain ⟨_, rfl, _⟩ := h; rfl) | (obtain ⟨_, _, rfl, _⟩ := h; rfl) | (obtain ⟨_, _, _, rfl, _⟩ := h; rfl) | (obtain ⟨_, _, _, _, rfl, _⟩ := h; rfl) | (obtain ⟨_, _, _, _, _, rfl, _⟩ := h; rfl) | (obtain ⟨_, _, _, _, _, _, rfl, _⟩ := h; rfl) | (obtain ⟨_, _, _, _, _, _, _, rfl, _⟩ := h; rfl) | (obtain ⟨_, _, _, _, _, _, _, _, rfl, _⟩ := h; rfl) | (obtain ⟨_, _, _, _, _, _, _, _, _, rfl, _⟩ := h; rfl) | (obtain ⟨_, _, _, _, _, _, _, _, _, _, rfl, _⟩ := h; rfl) | (obtain ⟨_, _, _, _, _, _, _, _, _, _, _, rfl, _⟩ := h; rfl) | (obtain ⟨_, _, _, _, _, _, _, _, _, _, _, _, rfl, _⟩ := h; rfl) | (obtain ⟨_, _, _, rfl, hl, _⟩ := h; simp [hl])
  · skip
    exact (pss_one (ps_ret (pe_op op_add (pe_fld (pv 0) rfl) pe_int)))
set_option maxHeartbeats 4000000 in
theorem ok__law_whole (T : Txt K mg) {fd : FuncData} (F : FnP K "_law_whole" "_law_whole" s__law_whole [] (He.fAd K ("_law_whole", none)) fd) :
    FnOk P w K mg base (L2.CX P w) 1 (He.fAd K ("_law_whole", none)) fd ["_law_found", "_law_due"] (sp__law_whole K) := by
  refine F.ok sc__law_whole (fun vs H Q E h => ?_) (fun cdv A outer s H vs Q E hr h => ⟨t__law_whole K E, ?_, pure__law_whole vs H Q E h⟩)
  · first | (obtain ⟨_, rfl, _⟩ := h; rfl) | (obtain ⟨_, _, rfl, _⟩ := h; rfl) | (obtain ⟨_, _, _, rfl, _⟩ := h; rfl) | (obtain ⟨_, _, _, _, rfl, _⟩ := h; rfl) | (obtain ⟨_, _, _, _, _, rfl, _⟩ := h; rfl) | (obtain ⟨_, _, _, _, _, _, rfl, _⟩ := h; rfl) | (obtain ⟨_, _, _, _, _, _, _, rfl, _⟩ := h; rfl) | (obtain ⟨_, _, _, _, _, _, _, _, rfl, _⟩ := h; rfl) | (obtain ⟨_, _, _, _, _, _, _, _, _, rfl, _⟩ := h; rfl) | (obtain ⟨_, _, _, _, _, _, _, _, _, _, rfl, _⟩ := h; rfl) | (obtain ⟨_, _, _, _, _, _, _, _, _, _, _, rfl, _⟩ := h; rfl) | (obtain ⟨_, _, _, _, _, _, _, _, _, _, _, _, rfl, _⟩ := h; rfl) | (obtain ⟨_, _, _, rfl, hl, _⟩ := h; simp [hl])
  · skip
    exact (pss_one (ps_ret (pe_and (pe_callB call_isi (by rfl) T.b_isinstance (by decide +kernel) (pa_cons (pv 0) (pa_cons (pe_bltn (by rfl) T.b_int (by decide +kernel) rfl) pa_nil))) (pe_and (pe_not (pe_callB call_isi (by rfl) T.b_isinstance (by decide +kernel) (pa_cons (pv 0) (pa_cons (pe_bltn (by rfl) T.b_bool (by decide +kernel) rfl) pa_nil)))) (pe_one (pe_cmpR op_eq (pv 0) (pv 1) (nomark _)))))))
set_option maxHeartbeats 4000000 in
theorem ok_LeftSide_way (T : Txt K mg) {fd : FuncData} (F : FnP K "way" "LeftSide.way" s_LeftSide_way [] (He.fAd K ("LeftSide", some "way")) fd) :
    FnOk P w K mg base (L2.CX P w) 1 (He.fAd K ("LeftSide", some "way")) fd ["self"] (sp_LeftSide_way K) := by
  refine F.ok sc_LeftSide_way (fun vs H Q E h => ?_) (fun cdv A outer s H vs Q E hr h => ⟨t_LeftSide_way K E, ?_, pure_LeftSide_way vs H Q E h⟩)
  · first | (obtain ⟨_, rfl, _⟩ := h; rfl) | (obtain ⟨_, _, rfl, _⟩ := h; rfl) | (obtain ⟨_, _, _, rfl, _⟩ := h; rfl) | (obtain ⟨_, _, _, _, rfl, _⟩ := h; rfl) | (obtain ⟨_, _, _, _, _, rfl, _⟩ := h; rfl) | (obtain ⟨_, _, _, _, _, _, rfl, _⟩ := h; rfl) | (obtain ⟨_, _, _, _, _, _, _, rfl, _⟩ := h; rfl) | (obtain ⟨_, _, _, _, _, _, _, _, rfl, _⟩ := h; rfl) | (obtain ⟨_, _, _, _, _, _, _, _, _, rfl, _⟩ := h; rfl) | (obtain ⟨_, _, _, _, _, _, _, _, _, _, rfl, _⟩ := h; rfl) | (obtain ⟨_, _, _, _, _, _, _, _, _, _, _, rfl, _⟩ := h; rfl) | (obtain ⟨_, _, _, _, _, _, _, _, _, _, _, _, rfl, _⟩ := h; rfl) | (obtain ⟨_, _, _, rfl, hl, _⟩ := h; simp [hl])
  · skip
    exact (pss_one (ps_ret (pe_un un_neg pe_int)))
set_option maxHeartbeats 4000000 in
theorem ok_RightSide_way (T : Txt K mg) {fd : FuncData} (F : FnP K "way" "RightSide.way" s_RightSide_way [] (He.fAd K ("RightSide", some "way")) fd) :
    FnOk P w K mg base (L2.CX P w) 1 (He.fAd K ("RightSide", some "way")) fd ["self"] (sp_RightSide_way K) := by
  refine F.ok sc_RightSide_way (fun vs H Q E h => ?_) (fun cdv A outer s H vs Q E hr h => ⟨t_RightSide_way K E, ?_, pure_RightSide_way vs H Q E h⟩)
  · first | (obtain ⟨_, rfl, _⟩ := h; rfl) | (obtain ⟨_, _, rfl, _⟩ := h; rfl) | (obtain ⟨_, _, _, rfl, _⟩ := h; rfl) | (obtain ⟨_, _, _, _, rfl, _⟩ := h; rfl) | (obtain ⟨_, _, _, _, _, rfl, _⟩ := h; rfl) | (obtain ⟨_, _, _, _, _, _, rfl, _⟩ := h; rfl) | (obtain ⟨_, _, _, _, _, _, _, rfl, _⟩ := h; rfl) | (obtain ⟨_, _, _, _, _, _, _, _, rfl, _⟩ := h; rfl) | (obtain ⟨_, _, _, _, _, _, _, _, _, rfl, _⟩ := h; rfl) | (obtain ⟨_, _, _, _, _, _, _, _, _, _, rfl, _⟩ := h; rfl) | (obtain ⟨_, _, _, _, _, _, _, _, _, _, _, rfl, _⟩ := h; rfl) | (obtain ⟨_, _, _, _, _, _, _, _, _, _, _, _, rfl, _⟩ := h; rfl) | (obtain ⟨_, _, _, rfl, hl, _⟩ := h; simp [hl])
  · skip
    exact (pss_one (ps_ret pe_int))
set_option maxHeartbeats 4000000 in
theorem ok_Side_across_at_LeftSide (T : Txt K mg) {fd : FuncData} (F : FnP K "across" "Side.across" s_Side_across [] (He.fAd K ("Side", some "across")) fd)
    {fd_Side_rim : FuncData} (G_Side_rim : FnOk P w K mg base (L2.CX P w) 1 (He.fAd K ("Side", some "rim")) fd_Side_rim ["self"] (sp_Side_rim K))
    (b_Side_rim : Binds K fd_Side_rim ["self"] [])
    {fd_LeftSide_way : FuncData} (G_LeftSide_way : FnOk P w K mg base (L2.CX P w) 1 (He.fAd K ("LeftSide", some "way")) fd_LeftSide_way ["self"] (sp_LeftSide_way K))
    (b_LeftSide_way : Binds K fd_LeftSide_way ["self"] []) :
    FnOk P w K mg base (L2.CX P w) 2 (He.fAd K ("Side", some "across")) fd ["self", "x"] (sp_Side_across_at_LeftSide K) := by
  refine F.ok sc_Side_across (fun vs H Q E h => ?_) (fun cdv A outer s H vs Q E hr h => ⟨t_Side_across_at_LeftSide K E, ?_, pure_Side_across_at_LeftSide T.sideFx vs H Q E h⟩)
  · first | (obtain ⟨_, rfl, _⟩ := h; rfl) | (obtain ⟨_, _, rfl, _⟩ := h; rfl) | (obtain ⟨_, _, _, rfl, _⟩ := h; rfl) | (obtain ⟨_, _, _, _, rfl, _⟩ := h; rfl) | (obtain ⟨_, _, _, _, _, rfl, _⟩ := h; rfl) | (obtain ⟨_, _, _, _, _, _, rfl, _⟩ := h; rfl) | (obtain ⟨_, _, _, _, _, _, _, rfl, _⟩ := h; rfl) | (obtain ⟨_, _, _, _, _, _, _, _, rfl, _⟩ := h; rfl) | (obtain ⟨_, _, _, _, _, _, _, _, _, rfl, _⟩ := h; rfl) | (obtain ⟨_, _, _, _, _, _, _, _, _, _, rfl, _⟩ := h; rfl) | (obtain ⟨_, _, _, _, _, _, _, _, _, _, _, rfl, _⟩ := h; rfl) | (obtain ⟨_, _, _, _, _, _, _, _, _, _, _, _, rfl, _⟩ := h; rfl) | (obtain ⟨_, _, _, rfl, hl, _⟩ := h; simp [hl])
  · skip
    exact (pss_one (ps_ret (pe_op op_mul (pe_op op_sub (pe_meth0 (pv 0) T.c_LeftSide T.m_LeftSide_rim G_Side_rim (hr.mono (by decide)) b_Side_rim .nil passE) (pv 1)) (pe_meth0 (pv 0) T.c_LeftSide T.m_LeftSide_way G_LeftSide_way (hr.mono (by decide)) b_LeftSide_way .nil passE))))
set_option maxHeartbeats 4000000 in
theorem ok_Side_across_at_RightSide (T : Txt K mg) {fd : FuncData} (F : FnP K "across" "Side.across" s_Side_across [] (He.fAd K ("Side", some "across")) fd)
    {fd_RightSide_rim : FuncData} (G_RightSide_rim : FnOk P w K mg base (L2.CX P w) 1 (He.fAd K ("RightSide", some "rim")) fd_RightSide_rim ["self"] (sp_RightSide_rim K))
    (b_RightSide_rim : Binds K fd_RightSide_rim ["self"] [])
    {fd_RightSide_way : FuncData} (G_RightSide_way : FnOk P w K mg base (L2.CX P w) 1 (He.fAd K ("RightSide", some "way")) fd_RightSide_way ["self"] (sp_RightSide_way K))
    (b_RightSide_way : Binds K fd_RightSide_way ["self"] []) :
    FnOk P w K mg base (L2.CX P w) 2 (He.fAd K ("Side", some "across")) fd ["self", "x"] (sp_Side_across_at_RightSide K) := by
  refine F.ok sc_Side_across (fun vs H Q E h => ?_) (fun cdv A outer s H vs Q E hr h => ⟨t_Side_across_at_RightSide K E, ?_, pure_Side_across_at_RightSide T.sideFx vs H Q E h⟩)
  · first | (obtain ⟨_, rfl, _⟩ := h; rfl) | (obtain ⟨_, _, rfl, _⟩ := h; rfl) | (obtain ⟨_, _, _, rfl, _⟩ := h; rfl) | (obtain ⟨_, _, _, _, rfl, _⟩ := h; rfl) | (obtain ⟨_, _, _, _, _, rfl, _⟩ := h; rfl) | (obtain ⟨_, _, _, _, _, _, rfl, _⟩ := h; rfl) | (obtain ⟨_, _, _, _, _, _, _, rfl, _⟩ := h; rfl) | (obtain ⟨_, _, _, _, _, _, _, _, rfl, _⟩ := h; rfl) | (obtain ⟨_, _, _, _, _, _, _, _, _, rfl, _⟩ := h; rfl) | (obtain ⟨_, _, _, _, _, _, _, _, _, _, rfl, _⟩ := h; rfl) | (obtain ⟨_, _, _, _, _, _, _, _, _, _, _, rfl, _⟩ := h; rfl) | (obtain ⟨_, _, _, _, _, _, _, _, _, _, _, _, rfl, _⟩ := h; rfl) | (obtain ⟨_, _, _, rfl, hl, _⟩ := h; simp [hl])
  · skip
    exact (pss_one (ps_ret (pe_op op_mul (pe_op op_sub (pe_meth0 (pv 0) T.c_RightSide T.m_RightSide_rim G_RightSide_rim (hr.mono (by decide)) b_RightSide_rim .nil passE) (pv 1)) (pe_meth0 (pv 0) T.c_RightSide T.m_RightSide_way G_RightSide_way (hr.mono (by decide)) b_RightSide_way .nil passE))))
set_option maxHeartbeats 4000000 in
theorem ok__law_side (T : Txt K mg) {fd : FuncData} (F : FnP K "_law_side" "_law_side" s__law_side [] (He.fAd K ("_law_side", none)) fd)
    {fd_LeftSide_word : FuncData} (G_LeftSide_word : FnOk P w K mg base (L2.CX P w) 1 (He.fAd K ("LeftSide", some "word")) fd_LeftSide_word ["self"] (sp_LeftSide_word K))
    (b_LeftSide_word : Binds K fd_LeftSide_word ["self"] [])
    {fd_RightSide_word : FuncData} (G_RightSide_word : FnOk P w K mg base (L2.CX P w) 1 (He.fAd K ("RightSide", some "word")) fd_RightSide_word ["self"] (sp_RightSide_word K))
    (b_RightSide_word : Binds K fd_RightSide_word ["self"] [])
    {fd_Side_rim : FuncData} (G_Side_rim : FnOk P w K mg base (L2.CX P w) 1 (He.fAd K ("Side", some "rim")) fd_Side_rim ["self"] (sp_Side_rim K))
    (b_Side_rim : Binds K fd_Side_rim ["self"] [])
    {fd_RightSide_rim : FuncData} (G_RightSide_rim : FnOk P w K mg base (L2.CX P w) 1 (He.fAd K ("RightSide", some "rim")) fd_RightSide_rim ["self"] (sp_RightSide_rim K))
    (b_RightSide_rim : Binds K fd_RightSide_rim ["self"] [])
    {fd__law_whole : FuncData} (G__law_whole : FnOk P w K mg base (L2.CX P w) 1 (He.fAd K ("_law_whole", none)) fd__law_whole ["_law_found", "_law_due"] (sp__law_whole K))
    (b__law_whole : Binds K fd__law_whole ["_law_found", "_law_due"] [])
    {fd_LeftSide_way : FuncData} (G_LeftSide_way : FnOk P w K mg base (L2.CX P w) 1 (He.fAd K ("LeftSide", some "way")) fd_LeftSide_way ["self"] (sp_LeftSide_way K))
    (b_LeftSide_way : Binds K fd_LeftSide_way ["self"] [])
    {fd_RightSide_way : FuncData} (G_RightSide_way : FnOk P w K mg base (L2.CX P w) 1 (He.fAd K ("RightSide", some "way")) fd_RightSide_way ["self"] (sp_RightSide_way K))
    (b_RightSide_way : Binds K fd_RightSide_way ["self"] [])
    {fd_Side_across_at_LeftSide : FuncData} (G_Side_across_at_LeftSide : FnOk P w K mg base (L2.CX P w) 2 (He.fAd K ("Side", some "across")) fd_Side_across_at_LeftSide ["self", "x"] (sp_Side_across_at_LeftSide K))
    (b_Side_across_at_LeftSide : Binds K fd_Side_across_at_LeftSide ["self", "x"] [])
    {fd_Side_across_at_RightSide : FuncData} (G_Side_across_at_RightSide : FnOk P w K mg base (L2.CX P w) 2 (He.fAd K ("Side", some "across")) fd_Side_across_at_RightSide ["self", "x"] (sp_Side_across_at_RightSide K))
    (b_Side_across_at_RightSide : Binds K fd_Side_across_at_RightSide ["self", "x"] []) :
    FnOk P w K mg base (L2.CX P w) 3 (He.fAd K ("_law_side", none)) fd ["_law_side_here", "_law_left", "_law_width", "_law_x"] (sp__law_side K) := by
  refine F.ok sc__law_side (fun vs H Q E h => ?_) (fun cdv A outer s H vs Q E hr h => ⟨t__law_side K E, ?_, pure__law_side T.sideFx T.kitFx vs H Q E h⟩)
  · first | (obtain ⟨_, rfl, _⟩ := h; rfl) | (obtain ⟨_, _, rfl, _⟩ := h; rfl) | (obtain ⟨_, _, _, rfl, _⟩ := h; rfl) | (obtain ⟨_, _, _, _, rfl, _⟩ := h; rfl) | (obtain ⟨_, _, _, _, _, rfl, _⟩ := h; rfl) | (obtain ⟨_, _, _, _, _, _, rfl, _⟩ := h; rfl) | (obtain ⟨_, _, _, _, _, _, _, rfl, _⟩ := h; rfl) | (obtain ⟨_, _, _, _, _, _, _, _, rfl, _⟩ := h; rfl) | (obtain ⟨_, _, _, _, _, _, _, _, _, rfl, _⟩ := h; rfl) | (obtain ⟨_, _, _, _, _, _, _, _, _, _, rfl, _⟩ := h; rfl) | (obtain ⟨_, _, _, _, _, _, _, _, _, _, _, rfl, _⟩ := h; rfl) | (obtain ⟨_, _, _, _, _, _, _, _, _, _, _, _, rfl, _⟩ := h; rfl) | (obtain ⟨_, _, _, rfl, hl, _⟩ := h; simp [hl])
  · skip
    exact (pss_cons (ps_if (PW.pt (pw_or (pt_not (pt_val (pe_callB call_isi (by rfl) T.b_isinstance (by decide +kernel) (pa_cons (pv 0) (pa_cons (pe_glob rfl T.g_Side rfl) pa_nil))))) (pw_or (pt_cmpR op_ne (pe_callB call_isi (by rfl) T.b_isinstance (by decide +kernel) (pa_cons (pv 0) (pa_cons (pe_glob rfl T.g_LeftSide rfl) pa_nil))) (pv 1) (nomark _)) (pw_or1 (pt_cmpR op_eq (pe_callB call_isi (by rfl) T.b_isinstance (by decide +kernel) (pa_cons (pv 0) (pa_cons (pe_glob rfl T.g_RightSide rfl) pa_nil))) (pv 1) (nomark _)))))) (pss_one (ps_ret pe_bl)) pss_nil)
    (pss_cons (ps_if (pt_val (pv 1)) (pss_cons (ps_if (PW.pt (pw_or (pt_cmpR op_ne (pe_either (pe_meth0 (pv 0) T.c_LeftSide T.m_LeftSide_word G_LeftSide_word (hr.mono (by decide)) b_LeftSide_word .nil passE) (pe_meth0 (pv 0) T.c_RightSide T.m_RightSide_word G_RightSide_word (hr.mono (by decide)) b_RightSide_word .nil passE)) pe_str (nomark _)) (pw_or (pt_not (pt_val (pe_call G__law_whole (hr.mono (by decide)) rfl T.f__law_whole T.k__law_whole b__law_whole .nil passE (pa_cons (pe_either (pe_meth0 (pv 0) T.c_LeftSide T.m_LeftSide_rim G_Side_rim (hr.mono (by decide)) b_Side_rim .nil passE) (pe_meth0 (pv 0) T.c_RightSide T.m_RightSide_rim G_RightSide_rim (hr.mono (by decide)) b_RightSide_rim .nil passE)) (pa_cons pe_int pa_nil))))) (pw_or1 (pt_not (pt_val (pe_call G__law_whole (hr.mono (by decide)) rfl T.f__law_whole T.k__law_whole b__law_whole .nil passE (pa_cons (pe_either (pe_meth0 (pv 0) T.c_LeftSide T.m_LeftSide_way G_LeftSide_way (hr.mono (by decide)) b_LeftSide_way .nil passE) (pe_meth0 (pv 0) T.c_RightSide T.m_RightSide_way G_RightSide_way (hr.mono (by decide)) b_RightSide_way .nil passE)) (pa_cons (pe_un un_neg pe_int) pa_nil))))))))) (pss_one (ps_ret pe_bl)) pss_nil)
    (pss_one (ps_ret (pe_call G__law_whole (hr.mono (by decide)) rfl T.f__law_whole T.k__law_whole b__law_whole .nil passE (pa_cons (pe_either (pe_meth (pv 0) T.c_LeftSide T.m_LeftSide_across G_Side_across_at_LeftSide (hr.mono (by decide)) b_Side_across_at_LeftSide .nil passE (pa_cons (pv 3) pa_nil)) (pe_meth (pv 0) T.c_RightSide T.m_RightSide_across G_Side_across_at_RightSide (hr.mono (by decide)) b_Side_across_at_RightSide .nil passE (pa_cons (pv 3) pa_nil))) (pa_cons (pv 3) pa_nil)))))) pss_nil)
    (pss_cons (ps_if (PW.pt (pw_or (pt_cmpR op_ne (pe_either (pe_meth0 (pv 0) T.c_LeftSide T.m_LeftSide_word G_LeftSide_word (hr.mono (by decide)) b_LeftSide_word .nil passE) (pe_meth0 (pv 0) T.c_RightSide T.m_RightSide_word G_RightSide_word (hr.mono (by decide)) b_RightSide_word .nil passE)) pe_str (nomark _)) (pw_or (pt_not (pt_val (pe_call G__law_whole (hr.mono (by decide)) rfl T.f__law_whole T.k__law_whole b__law_whole .nil passE (pa_cons (pe_either (pe_meth0 (pv 0) T.c_LeftSide T.m_LeftSide_rim G_Side_rim (hr.mono (by decide)) b_Side_rim .nil passE) (pe_meth0 (pv 0) T.c_RightSide T.m_RightSide_rim G_RightSide_rim (hr.mono (by decide)) b_RightSide_rim .nil passE)) (pa_cons (pe_op op_add (pv 2) pe_int) pa_nil))))) (pw_or1 (pt_not (pt_val (pe_call G__law_whole (hr.mono (by decide)) rfl T.f__law_whole T.k__law_whole b__law_whole .nil passE (pa_cons (pe_either (pe_meth0 (pv 0) T.c_LeftSide T.m_LeftSide_way G_LeftSide_way (hr.mono (by decide)) b_LeftSide_way .nil passE) (pe_meth0 (pv 0) T.c_RightSide T.m_RightSide_way G_RightSide_way (hr.mono (by decide)) b_RightSide_way .nil passE)) (pa_cons pe_int pa_nil))))))))) (pss_one (ps_ret pe_bl)) pss_nil)
    (pss_one (ps_ret (pe_call G__law_whole (hr.mono (by decide)) rfl T.f__law_whole T.k__law_whole b__law_whole .nil passE (pa_cons (pe_either (pe_meth (pv 0) T.c_LeftSide T.m_LeftSide_across G_Side_across_at_LeftSide (hr.mono (by decide)) b_Side_across_at_LeftSide .nil passE (pa_cons (pv 3) pa_nil)) (pe_meth (pv 0) T.c_RightSide T.m_RightSide_across G_Side_across_at_RightSide (hr.mono (by decide)) b_Side_across_at_RightSide .nil passE (pa_cons (pv 3) pa_nil))) (pa_cons (pe_op op_sub (pe_op op_add (pv 2) pe_int) (pv 3)) pa_nil))))))))
set_option maxHeartbeats 4000000 in
theorem ok__law_refused (T : Txt K mg) {fd : FuncData} (F : FnP K "_law_refused" "_law_refused" s__law_refused [] (He.fAd K ("_law_refused", none)) fd)
    {fd_side_of : FuncData} (G_side_of : FnOk P w K mg base (L2.CX P w) 3 (He.fAd K ("side_of", none)) fd_side_of ["word", "width"] (sp_side_of K))
    (b_side_of : Binds K fd_side_of ["word", "width"] []) :
    FnOk P w K mg base (L2.CX P w) 4 (He.fAd K ("_law_refused", none)) fd ["_law_thing", "_law_width"] (sp__law_refused K) := by
  refine F.ok sc__law_refused (fun vs H Q E h => ?_) (fun cdv A outer s H vs Q E hr h => ⟨t__law_refused K E, ?_, pure__law_refused T.kitFx vs H Q E h⟩)
  · first | (obtain ⟨_, rfl, _⟩ := h; rfl) | (obtain ⟨_, _, rfl, _⟩ := h; rfl) | (obtain ⟨_, _, _, rfl, _⟩ := h; rfl) | (obtain ⟨_, _, _, _, rfl, _⟩ := h; rfl) | (obtain ⟨_, _, _, _, _, rfl, _⟩ := h; rfl) | (obtain ⟨_, _, _, _, _, _, rfl, _⟩ := h; rfl) | (obtain ⟨_, _, _, _, _, _, _, rfl, _⟩ := h; rfl) | (obtain ⟨_, _, _, _, _, _, _, _, rfl, _⟩ := h; rfl) | (obtain ⟨_, _, _, _, _, _, _, _, _, rfl, _⟩ := h; rfl) | (obtain ⟨_, _, _, _, _, _, _, _, _, _, rfl, _⟩ := h; rfl) | (obtain ⟨_, _, _, _, _, _, _, _, _, _, _, rfl, _⟩ := h; rfl) | (obtain ⟨_, _, _, _, _, _, _, _, _, _, _, _, rfl, _⟩ := h; rfl) | (obtain ⟨_, _, _, rfl, hl, _⟩ := h; simp [hl])
  · skip
    exact (pss_cons (ps_set (i := 2) sc__law_refused.nd rfl (by first | exact Or.inl rfl | exact Or.inr rfl) pe_non)
    (pss_cons (ps_try_keep (i := 3) (tb := fun W => tb1__law_refused K E W) (ts := fun ae cls dd => ts1__law_refused K E ae cls dd) (Wout := fun cls d _ H => E cls d H) rfl rfl sc__law_refused.nd rfl rfl ⟨rfl, by decide, Or.inl T.g_RimError⟩ takesE
  (fun W pn xe tk po => (pss_one (ps_expr (pe_callS G_side_of (hr.mono (by decide)) rfl T.f_side_of T.k_side_of b_side_of (fun σ => passAt tk σ) (pa_cons (pv 0) (pa_cons (pv 1) pa_nil))))))
  (fun ae oe cls dd pn hz hf => (pss_one (ps_set (i := 2) sc__law_refused.nd rfl (by first | exact Or.inl rfl | exact Or.inr rfl) (pv 3)))))
    (pss_cons (ps_if (PW.pt (pw_or (pt_not (pt_val (pe_callB call_isA (by rfl) T.b_isinstance (by decide +kernel) (pa_cons (pv 2) (pa_cons (pe_glob rfl T.g_NoSide rfl) pa_nil))))) (pw_or1 (pt_not (pt_val (pe_callB call_isA (by rfl) T.b_isinstance (by decide +kernel) (pa_cons (pv 2) (pa_cons (pe_bltn (by rfl) T.b_ValueError (by decide +kernel) rfl) pa_nil)))))))) (pss_one (ps_ret pe_bl)) pss_nil)
    (pss_one (ps_ret (pe_and (pe_not (pe_callB call_isAT (by rfl) T.b_isinstance (by decide +kernel) (pa_cons (pv 2) (pa_cons (pe_tup (pa_cons (pe_glob rfl T.g_NoSides rfl) (pa_cons (pe_glob rfl T.g_NoRow rfl) (pa_cons (pe_glob rfl T.g_NoSeat rfl) pa_nil)))) pa_nil)))) (pe_one (pe_cmpR (op_eqD hr.units) (pe_exf (pv 2)) (pv 0) (nomark _)))))))))
set_option maxHeartbeats 4000000 in
theorem ok_law (T : Txt K mg) {fd : FuncData} (F : FnP K "law" "law" s_law [] (He.fAd K ("law", none)) fd)
    {fd__law_cell : FuncData} (G__law_cell : FnOk P w K mg base (L2.CX P w) 1 (He.fAd K ("_law_cell", none)) fd__law_cell ["_law_script", "_law_k"] (sp__law_cell K))
    (b__law_cell : Binds K fd__law_cell ["_law_script", "_law_k"] [])
    {fd__law_mixed : FuncData} (G__law_mixed : FnOk P w K mg base (L2.CX P w) 1 (He.fAd K ("_law_mixed", none)) fd__law_mixed ["_law_cell_here", "_law_k"] (sp__law_mixed K))
    (b__law_mixed : Binds K fd__law_mixed ["_law_cell_here", "_law_k"] [])
    {fd_side_of : FuncData} (G_side_of : FnOk P w K mg base (L2.CX P w) 3 (He.fAd K ("side_of", none)) fd_side_of ["word", "width"] (sp_side_of K))
    (b_side_of : Binds K fd_side_of ["word", "width"] [])
    {fd_Side___init__ : FuncData} (G_Side___init__ : FnOk P w K mg base (L2.CX P w) 1 (He.fAd K ("Side", some "__init__")) fd_Side___init__ ["self", "width"] (sp_Side___init__ K))
    (b_Side___init__ : Binds K fd_Side___init__ ["self", "width"] [])
    {fd__law_side : FuncData} (G__law_side : FnOk P w K mg base (L2.CX P w) 3 (He.fAd K ("_law_side", none)) fd__law_side ["_law_side_here", "_law_left", "_law_width", "_law_x"] (sp__law_side K))
    (b__law_side : Binds K fd__law_side ["_law_side_here", "_law_left", "_law_width", "_law_x"] [])
    {fd__law_refused : FuncData} (G__law_refused : FnOk P w K mg base (L2.CX P w) 4 (He.fAd K ("_law_refused", none)) fd__law_refused ["_law_thing", "_law_width"] (sp__law_refused K))
    (b__law_refused : Binds K fd__law_refused ["_law_thing", "_law_width"] []) :
    FnOk P w K mg base (L2.CX P w) 6 (He.fAd K ("law", none)) fd ["_law_script"] (sp_law K) := by
  refine F.ok sc_law (fun vs H Q E h => ?_) (fun cdv A outer s H vs Q E hr h => ⟨t_law K E, ?_, pure_law T.sideFx T.kitFx vs H Q E h⟩)
  · first | (obtain ⟨_, rfl, _⟩ := h; rfl) | (obtain ⟨_, _, rfl, _⟩ := h; rfl) | (obtain ⟨_, _, _, rfl, _⟩ := h; rfl) | (obtain ⟨_, _, _, _, rfl, _⟩ := h; rfl) | (obtain ⟨_, _, _, _, _, rfl, _⟩ := h; rfl) | (obtain ⟨_, _, _, _, _, _, rfl, _⟩ := h; rfl) | (obtain ⟨_, _, _, _, _, _, _, rfl, _⟩ := h; rfl) | (obtain ⟨_, _, _, _, _, _, _, _, rfl, _⟩ := h; rfl) | (obtain ⟨_, _, _, _, _, _, _, _, _, rfl, _⟩ := h; rfl) | (obtain ⟨_, _, _, _, _, _, _, _, _, _, rfl, _⟩ := h; rfl) | (obtain ⟨_, _, _, _, _, _, _, _, _, _, _, rfl, _⟩ := h; rfl) | (obtain ⟨_, _, _, _, _, _, _, _, _, _, _, _, rfl, _⟩ := h; rfl) | (obtain ⟨_, _, _, rfl, hl, _⟩ := h; simp [hl])
  · skip
    exact (pss_cons (ps_for (passes_of rfl) rfl (pi_range1 (by rfl) T.b_range (pa_cons (pe_callB (call_min2 rfl) (by rfl) T.b_min (by decide +kernel) (pa_cons pe_int (pa_cons (pe_op op_add pe_int (pe_callB call_len_seq (by rfl) T.b_len (by decide +kernel) (pa_cons (pv 0) pa_nil))) pa_nil))) pa_nil)) (pg_name (i := 1) sc_law.nd rfl (by first | exact Or.inl rfl | exact Or.inr rfl))
    (pss_cons (ps_set (i := 2) sc_law.nd rfl (by first | exact Or.inl rfl | exact Or.inr rfl) (pe_call G__law_cell (hr.mono (by decide)) rfl T.f__law_cell T.k__law_cell b__law_cell .nil passE (pa_cons (pv 0) (pa_cons (pv 1) pa_nil))))
    (pss_cons (ps_setLc (i := 4) (own := [("_law_j", 3)]) rfl sc_law.nd rfl rfl (sw_true rfl rfl rfl (by decide +kernel))  (pi_range1 (by rfl) T.b_range (pa_cons pe_int pa_nil)) (blkOk_by (own := [("_law_j", 3)]) (N := ["_law_script", "_law_k", "_law_cell_here", "_law_j", "_law_widths", "_law_x", "_law_word", "_law_sides", "_law_others", "_law_number", "_law_thing", "_law_width"]) (sc := defScope s_law) (by decide +kernel)) (fun _ _ _ _ _ => (pg_name (i := 3) sc_law.nd rfl (by first | exact Or.inl rfl | exact Or.inr rfl))) (fun _ _ _ _ _ => pts_nil) (fun _ _ _ _ _ => (pe_op op_add pe_int (pe_op op_mod (pe_call G__law_mixed (hr.mono (by decide)) rfl T.f__law_mixed T.k__law_mixed b__law_mixed .nil passL (pa_cons (pv 2) (pa_cons (pe_op op_add (pe_op op_mul pe_int (pv 1)) (pv 3)) pa_nil))) pe_int))))
    (pss_cons (ps_set (i := 5) sc_law.nd rfl (by first | exact Or.inl rfl | exact Or.inr rfl) (pe_op op_add pe_int (pe_op op_mod (pe_call G__law_mixed (hr.mono (by decide)) rfl T.f__law_mixed T.k__law_mixed b__law_mixed .nil passE (pa_cons (pv 2) (pa_cons (pe_op op_add (pe_op op_mul pe_int (pv 1)) pe_int) pa_nil))) (pe_callB (cr_min rfl) (by rfl) T.b_min (by decide +kernel) (pa_cons (pv 4) pa_nil)))))
    (pss_cons (ps_set (i := 6) sc_law.nd rfl (by first | exact Or.inl rfl | exact Or.inr rfl) (pe_ix ix_list (pe_lst (pa_cons pe_str (pa_cons pe_str pa_nil))) (pe_op op_mod (pe_call G__law_mixed (hr.mono (by decide)) rfl T.f__law_mixed T.k__law_mixed b__law_mixed .nil passE (pa_cons (pv 2) (pa_cons (pe_op op_add (pe_op op_mul pe_int (pv 1)) pe_int) pa_nil))) pe_int) (fun _ _ => rfl)))
    (pss_cons (ps_setLc (i := 7) (own := [("_law_width", 11)]) rfl sc_law.nd rfl rfl (sw_true rfl rfl rfl (by decide +kernel))  (pi_list (pv 4)) (blkOk_by (own := [("_law_width", 11)]) (N := ["_law_script", "_law_k", "_law_cell_here", "_law_j", "_law_widths", "_law_x", "_law_word", "_law_sides", "_law_others", "_law_number", "_law_thing", "_law_width"]) (sc := defScope s_law) (by decide +kernel)) (fun _ _ _ _ _ => (pg_name (i := 11) sc_law.nd rfl (by first | exact Or.inl rfl | exact Or.inr rfl))) (fun _ _ _ _ _ => pts_nil) (fun _ _ _ _ _ => (pe_call G_side_of (hr.mono (by decide)) rfl T.f_side_of T.k_side_of b_side_of .nil passL (pa_cons (pv 6) (pa_cons (pv 11) pa_nil)))))
    (pss_cons (ps_set (i := 8) sc_law.nd rfl (by first | exact Or.inl rfl | exact Or.inr rfl) (pe_lst (pa_cons (pe_make T.mk_LeftSide G_Side___init__ (hr.mono (by decide)) rfl T.g_LeftSide b_Side___init__ .nil passE (pa_cons (pe_ix ix_list (pv 4) pe_int (fun _ _ => rfl)) pa_nil)) (pa_cons (pe_make T.mk_RightSide G_Side___init__ (hr.mono (by decide)) rfl T.g_RightSide b_Side___init__ .nil passE (pa_cons (pe_ix ix_list (pv 4) pe_int (fun _ _ => rfl)) pa_nil)) pa_nil))))
    (pss_cons (ps_for (passes_of rfl) rfl (pi_range1 (by rfl) T.b_range (pa_cons pe_int pa_nil)) (pg_name (i := 3) sc_law.nd rfl (by first | exact Or.inl rfl | exact Or.inr rfl))
    (pss_one (ps_if (PW.pt (pw_or (pt_not (pt_val (pe_call G__law_side (hr.mono (by decide)) rfl T.f__law_side T.k__law_side b__law_side .nil passE (pa_cons (pe_ix ix_list (pv 7) (pv 3) (fun _ _ => rfl)) (pa_cons (pe_cmpR op_eq (pv 6) pe_str (nomark _)) (pa_cons (pe_ix ix_list (pv 4) (pv 3) (fun _ _ => rfl)) (pa_cons (pv 5) pa_nil))))))) (pw_or1 (pt_not (pt_val (pe_call G__law_side (hr.mono (by decide)) rfl T.f__law_side T.k__law_side b__law_side .nil passE (pa_cons (pe_ix ix_list (pv 8) (pv 3) (fun _ _ => rfl)) (pa_cons (pe_cmpR op_eq (pv 3) pe_int (nomark _)) (pa_cons (pe_ix ix_list (pv 4) (pv 3) (fun _ _ => rfl)) (pa_cons (pv 5) pa_nil)))))))))) (pss_one (ps_ret pe_bl)) pss_nil)))
    (pss_cons (ps_set (i := 9) sc_law.nd rfl (by first | exact Or.inl rfl | exact Or.inr rfl) (pe_op op_fdiv (pe_call G__law_mixed (hr.mono (by decide)) rfl T.f__law_mixed T.k__law_mixed b__law_mixed .nil passE (pa_cons (pv 2) (pa_cons (pe_op op_add (pe_op op_mul pe_int (pv 1)) pe_int) pa_nil))) pe_int))
    (pss_cons (ps_set (i := 10) sc_law.nd rfl (by first | exact Or.inl rfl | exact Or.inr rfl) (pe_ix ix_list (pe_lst (pa_cons pe_str (pa_cons pe_str (pa_cons pe_str (pa_cons pe_str (pa_cons (pv 9) (pa_cons pe_bl (pa_cons pe_non (pa_cons (pe_lst (pa_cons pe_str pa_nil)) (pa_cons (pe_tup (pa_cons pe_str pa_nil)) pa_nil)))))))))) (pe_op op_mod (pv 9) pe_int) (fun _ _ => rfl)))
    (pss_one (ps_if (pt_not (pt_val (pe_call G__law_refused (hr.mono (by decide)) rfl T.f__law_refused T.k__law_refused b__law_refused .nil passE (pa_cons (pv 10) (pa_cons (pe_ix ix_list (pv 4) pe_int (fun _ _ => rfl)) pa_nil))))) (pss_one (ps_ret pe_bl)) pss_nil))))))))))))
    (pss_one (ps_ret pe_bl)))
end
def fns : List He.DefD := [⟨("_law_cell", none), "_law_cell", "_law_cell", defArgs s__law_cell, defBody s__law_cell, defScope s__law_cell, [], []⟩,
  ⟨("_law_mixed", none), "_law_mixed", "_law_mixed", defArgs s__law_mixed, defBody s__law_mixed, defScope s__law_mixed, [], []⟩,
  ⟨("Side", some "__init__"), "__init__", "Side.__init__", defArgs s_Side___init__, defBody s_Side___init__, defScope s_Side___init__, [], []⟩,
  ⟨("NoSide", some "__init__"), "__init__", "NoSide.__init__", defArgs s_NoSide___init__, defBody s_NoSide___init__, defScope s_NoSide___init__, [], []⟩,
  ⟨("side_of", none), "side_of", "side_of", defArgs s_side_of, defBody s_side_of, defScope s_side_of, [], []⟩,
  ⟨("LeftSide", some "word"), "word", "LeftSide.word", defArgs s_LeftSide_word, defBody s_LeftSide_word, defScope s_LeftSide_word, [], []⟩,
  ⟨("RightSide", some "word"), "word", "RightSide.word", defArgs s_RightSide_word, defBody s_RightSide_word, defScope s_RightSide_word, [], []⟩,
  ⟨("Side", some "rim"), "rim", "Side.rim", defArgs s_Side_rim, defBody s_Side_rim, defScope s_Side_rim, [], []⟩,
  ⟨("RightSide", some "rim"), "rim", "RightSide.rim", defArgs s_RightSide_rim, defBody s_RightSide_rim, defScope s_RightSide_rim, [], []⟩,
  ⟨("_law_whole", none), "_law_whole", "_law_whole", defArgs s__law_whole, defBody s__law_whole, defScope s__law_whole, [], []⟩,
  ⟨("LeftSide", some "way"), "way", "LeftSide.way", defArgs s_LeftSide_way, defBody s_LeftSide_way, defScope s_LeftSide_way, [], []⟩,
  ⟨("RightSide", some "way"), "way", "RightSide.way", defArgs s_RightSide_way, defBody s_RightSide_way, defScope s_RightSide_way, [], []⟩,
  ⟨("Side", some "across"), "across", "Side.across", defArgs s_Side_across, defBody s_Side_across, defScope s_Side_across, [], []⟩,
  ⟨("_law_side", none), "_law_side", "_law_side", defArgs s__law_side, defBody s__law_side, defScope s__law_side, [], []⟩,
  ⟨("_law_refused", none), "_law_refused", "_law_refused", defArgs s__law_refused, defBody s__law_refused, defScope s__law_refused, [], []⟩,
  ⟨("law", none), "law", "law", defArgs s_law, defBody s_law, defScope s_law, [], []⟩]
theorem facts {P : Program} {w : World} {K : PySem.W.Frag} {h : Heap} {mg : Str → Option Value} {f : Addr} (X : K.In h) (G : h.Ns mainGlobals mg) (hfa : mg ("law" : Str) = some (.ref f)) (c : SaysC (fun K => looks.all fun f => f K) fns K) :
    ∃ fd : FuncData, (∀ (s : Shared) (v : Value), BindsTo s fd ⟨[v], []⟩ [(("_law_script" : Str), v)]) ∧ ∀ base : Heap, K.In base → base.Ns mainGlobals mg → FnOk P w K mg base CX0 6 f fd ["_law_script"] (sp_law K) := by
  have T : Txt K mg := ⟨(He.glo_ok X G (ck_at c 0)),
    (He.glo_ok X G (ck_at c 1)),
    (He.glo_ok X G (ck_at c 2)),
    (He.glo_ok X G (ck_at c 3)),
    (He.glo_ok X G (ck_at c 4)),
    (He.glo_ok X G (ck_at c 5)),
    (He.glo_ok X G (ck_at c 6)),
    (He.glo_ok X G (ck_at c 7)),
    (He.free_ok X G (ck_at c 8)),
    (He.free_ok X G (ck_at c 9)),
    (He.free_ok X G (ck_at c 10)),
    (He.free_ok X G (ck_at c 11)),
    (He.free_ok X G (ck_at c 12)),
    (He.free_ok X G (ck_at c 13)),
    (He.free_ok X G (ck_at c 14)),
    (He.glo_ok X G (ck_at c 15)),
    ((ck_at c 16)),
    (He.glo_ok X G (ck_at c 17)),
    ((ck_at c 18)),
    (He.glo_ok X G (ck_at c 19)),
    ((ck_at c 20)),
    (He.glo_ok X G (ck_at c 21)),
    ((ck_at c 22)),
    (He.glo_ok X G (ck_at c 23)),
    ((ck_at c 24)),
    (He.glo_ok X G (ck_at c 25)),
    ((ck_at c 26)),
    (meth_of (ck_at c 27)),
    (meth_of (ck_at c 28)),
    (meth_of (ck_at c 29)),
    (meth_of (ck_at c 30)),
    (meth_of (ck_at c 31)),
    (meth_of (ck_at c 32)),
    (meth_of (ck_at c 33)),
    (meth_of (ck_at c 34)),
    (He.cls_ok (ck_at c 35)),
    (He.cls_ok (ck_at c 36)),
    (mk_of' (He.ba (ck_at c 37)).1 (He.ba (ck_at c 37)).2),
    (mk_of' (He.ba (ck_at c 38)).1 (He.ba (ck_at c 38)).2),
    (re_of (ck_at c 39)),
    (err_of (ck_at c 40)),
    (sideFx_of (ck_at c 41)),
    (kitFx_of (ck_at c 42)),
    (He.glo_ok X G (ck_at c 43))⟩
  obtain ⟨fd__law_cell, F__law_cell⟩ := c.def_ 0
  obtain ⟨fd__law_mixed, F__law_mixed⟩ := c.def_ 1
  obtain ⟨fd_Side___init__, F_Side___init__⟩ := c.def_ 2
  obtain ⟨fd_NoSide___init__, F_NoSide___init__⟩ := c.def_ 3
  obtain ⟨fd_side_of, F_side_of⟩ := c.def_ 4
  obtain ⟨fd_LeftSide_word, F_LeftSide_word⟩ := c.def_ 5
  obtain ⟨fd_RightSide_word, F_RightSide_word⟩ := c.def_ 6
  obtain ⟨fd_Side_rim, F_Side_rim⟩ := c.def_ 7
  obtain ⟨fd_RightSide_rim, F_RightSide_rim⟩ := c.def_ 8
  obtain ⟨fd__law_whole, F__law_whole⟩ := c.def_ 9
  obtain ⟨fd_LeftSide_way, F_LeftSide_way⟩ := c.def_ 10
  obtain ⟨fd_RightSide_way, F_RightSide_way⟩ := c.def_ 11
  obtain ⟨fd_Side_across, F_Side_across⟩ := c.def_ 12
  obtain ⟨fd__law_side, F__law_side⟩ := c.def_ 13
  obtain ⟨fd__law_refused, F__law_refused⟩ := c.def_ 14
  obtain ⟨fd_law, F_law⟩ := c.def_ 15
  have b__law_cell : Binds K fd__law_cell ["_law_script", "_law_k"] [] := FunD.bindsN (ps := ["_law_script", "_law_k"]) F__law_cell fun _ _ _ _ _ _ us hl => match us, hl with | [_, _], _ => rfl
  have b__law_mixed : Binds K fd__law_mixed ["_law_cell_here", "_law_k"] [] := FunD.bindsN (ps := ["_law_cell_here", "_law_k"]) F__law_mixed fun _ _ _ _ _ _ us hl => match us, hl with | [_, _], _ => rfl
  have b_Side___init__ : Binds K fd_Side___init__ ["self", "width"] [] := FunD.bindsN (ps := ["self", "width"]) F_Side___init__ fun _ _ _ _ _ _ us hl => match us, hl with | [_, _], _ => rfl
  have b_NoSide___init__ : Binds K fd_NoSide___init__ ["self", "side"] [] := FunD.bindsN (ps := ["self", "side"]) F_NoSide___init__ fun _ _ _ _ _ _ us hl => match us, hl with | [_, _], _ => rfl
  have b_side_of : Binds K fd_side_of ["word", "width"] [] := FunD.bindsN (ps := ["word", "width"]) F_side_of fun _ _ _ _ _ _ us hl => match us, hl with | [_, _], _ => rfl
  have b_LeftSide_word : Binds K fd_LeftSide_word ["self"] [] := FunD.bindsN (ps := ["self"]) F_LeftSide_word fun _ _ _ _ _ _ us hl => match us, hl with | [_], _ => rfl
  have b_RightSide_word : Binds K fd_RightSide_word ["self"] [] := FunD.bindsN (ps := ["self"]) F_RightSide_word fun _ _ _ _ _ _ us hl => match us, hl with | [_], _ => rfl
  have b_Side_rim : Binds K fd_Side_rim ["self"] [] := FunD.bindsN (ps := ["self"]) F_Side_rim fun _ _ _ _ _ _ us hl => match us, hl with | [_], _ => rfl
  have b_RightSide_rim : Binds K fd_RightSide_rim ["self"] [] := FunD.bindsN (ps := ["self"]) F_RightSide_rim fun _ _ _ _ _ _ us hl => match us, hl with | [_], _ => rfl
  have b__law_whole : Binds K fd__law_whole ["_law_found", "_law_due"] [] := FunD.bindsN (ps := ["_law_found", "_law_due"]) F__law_whole fun _ _ _ _ _ _ us hl => match us, hl with | [_, _], _ => rfl
  have b_LeftSide_way : Binds K fd_LeftSide_way ["self"] [] := FunD.bindsN (ps := ["self"]) F_LeftSide_way fun _ _ _ _ _ _ us hl => match us, hl with | [_], _ => rfl
  have b_RightSide_way : Binds K fd_RightSide_way ["self"] [] := FunD.bindsN (ps := ["self"]) F_RightSide_way fun _ _ _ _ _ _ us hl => match us, hl with | [_], _ => rfl
  have b_Side_across : Binds K fd_Side_across ["self", "x"] [] := FunD.bindsN (ps := ["self", "x"]) F_Side_across fun _ _ _ _ _ _ us hl => match us, hl with | [_, _], _ => rfl
  have b__law_side : Binds K fd__law_side ["_law_side_here", "_law_left", "_law_width", "_law_x"] [] := FunD.bindsN (ps := ["_law_side_here", "_law_left", "_law_width", "_law_x"]) F__law_side fun _ _ _ _ _ _ us hl => match us, hl with | [_, _, _, _], _ => rfl
  have b__law_refused : Binds K fd__law_refused ["_law_thing", "_law_width"] [] := FunD.bindsN (ps := ["_law_thing", "_law_width"]) F__law_refused fun _ _ _ _ _ _ us hl => match us, hl with | [_, _], _ => rfl
  have e := hfa.symm.trans (He.glo_ok X G (x := "law") (ck_at c 43))
  cases e
  have b := FunD.bindsA (ps := ["_law_script"]) F_law fun _ _ _ _ _ _ us hl => match us, hl with | [_], _ => rfl
  refine ⟨fd_law, fun s v => b s [v] rfl, fun base _ _ => ?_⟩
  have G__law_cell := ok__law_cell (P := P) (w := w) (base := base) T F__law_cell 
  have G__law_mixed := ok__law_mixed (P := P) (w := w) (base := base) T F__law_mixed 
  have G_Side___init__ := ok_Side___init__ (P := P) (w := w) (base := base) T F_Side___init__ 
  have G_NoSide___init__ := ok_NoSide___init__ (P := P) (w := w) (base := base) T F_NoSide___init__ 
  have G_side_of := ok_side_of (P := P) (w := w) (base := base) T F_side_of G_Side___init__ b_Side___init__ G_NoSide___init__ b_NoSide___init__
  have G_LeftSide_word := ok_LeftSide_word (P := P) (w := w) (base := base) T F_LeftSide_word 
  have G_RightSide_word := ok_RightSide_word (P := P) (w := w) (base := base) T F_RightSide_word 
  have G_Side_rim := ok_Side_rim (P := P) (w := w) (base := base) T F_Side_rim 
  have G_RightSide_rim := ok_RightSide_rim (P := P) (w := w) (base := base) T F_RightSide_rim 
  have G__law_whole := ok__law_whole (P := P) (w := w) (base := base) T F__law_whole 
  have G_LeftSide_way := ok_LeftSide_way (P := P) (w := w) (base := base) T F_LeftSide_way 
  have G_RightSide_way := ok_RightSide_way (P := P) (w := w) (base := base) T F_RightSide_way 
  have G_Side_across_at_LeftSide := ok_Side_across_at_LeftSide (P := P) (w := w) (base := base) T F_Side_across G_Side_rim b_Side_rim G_LeftSide_way b_LeftSide_way
  have G_Side_across_at_RightSide := ok_Side_across_at_RightSide (P := P) (w := w) (base := base) T F_Side_across G_RightSide_rim b_RightSide_rim G_RightSide_way b_RightSide_way
  have G__law_side := ok__law_side (P := P) (w := w) (base := base) T F__law_side G_LeftSide_word b_LeftSide_word G_RightSide_word b_RightSide_word G_Side_rim b_Side_rim G_RightSide_rim b_RightSide_rim G__law_whole b__law_whole G_LeftSide_way b_LeftSide_way G_RightSide_way b_RightSide_way G_Side_across_at_LeftSide b_Side_across G_Side_across_at_RightSide b_Side_across
  have G__law_refused := ok__law_refused (P := P) (w := w) (base := base) T F__law_refused G_side_of b_side_of
  exact fnOk0 (ok_law (P := P) (w := w) (base := base) T F_law G__law_cell b__law_cell G__law_mixed b__law_mixed G_side_of b_side_of G_Side___init__ b_Side___init__ G__law_side b__law_side G__law_refused b__law_refused) fun _ _ _ _ h => h
abbrev R : PySem.W.OpenRow := PySem.W.OpenLaw.row PySem.Challenge.rw_rimnotes_k02_sides
abbrev hk : PySem.W.Hook := hookC (addrs 260) (fun K => looks.all fun f => f K) fns
def ob (s : PySem.W.SharedT) : AlC := obsCG (addrs 260) (fun K => looks.all fun f => f K) fns (HandSHeadRun.getT s)
theorem ob_eq (s : PySem.W.SharedT) : ob s = hk.obs s.abs := obsCG_eq (HandSHeadRun.getT_eq s)
def others0 : List Str := ["__name__", "RimError", "NoSides", "NoSide", "NoRow", "NoSeat", "Side", "LeftSide", "RightSide", "side_of", "_law_cell", "_law_mixed", "_law_whole", "_law_side", "_law_refused"]
def others : List Str := others0
theorem run (w : World) : HandSHeadRun.RunEq R (PySem.W.view R.prog [17]) hk ob 100000 others w := by
  intro os
  kernel_rfl
end Rim
open PySem PySem.W PySem.Calls PyProof.Rows
set_option maxRecDepth 100000 in
set_option maxHeartbeats 0 in
theorem PySem.Challenge.cw_rimnotes_k02_sides_holds : PySem.Challenge.rw_rimnotes_k02_sides.Holds := by
  w_on; o_law
  refine HandSHeadRun.head_any (r := OpenLaw.row PySem.Challenge.rw_rimnotes_k02_sides) (q := view (OpenLaw.row PySem.Challenge.rw_rimnotes_k02_sides).prog [17]) (H := Rim.hk) (ob := Rim.ob) (M := 100000) (loose := Rim.others) (d := HandSHeadRun.topDef (OpenLaw.row PySem.Challenge.rw_rimnotes_k02_sides).prog 17) (kwd := []) Rim.ob_eq
    (by kernel_rfl) (fun s => by kernel_rfl) Rim.run (by kernel_rfl) (by kernel_rfl) (by kernel_rfl) (by rfl) (by first | assumption | decide +kernel) (by decide +kernel) ⟨rfl, rfl, rfl, rfl, rfl, by decide +kernel⟩ ?hw ?hc
  case hw => w_witness2
  case hc =>
    refine L2.walk_ofE (l := PySem.Challenge.rw_rimnotes_k02_sides) (n := 63) (k := 6) (x := ("_law_script" : Str)) (CX := L2.CX0) rfl (by decide) (by kernel_rfl) ⟨rfl, by decide, by decide⟩ ?F (fun _ _ _ _ z => z)
    intro w mg fa h Y G hmg0
    obtain ⟨K, KX, c⟩ := Y
    have hmg : mg ("law" : PySem.Str) = some (.ref fa) := by
      have e : (HandSHeadRun.topDef (OpenLaw.row PySem.Challenge.rw_rimnotes_k02_sides).prog 17).name = ("law" : PySem.Str) := by kernel_rfl
      rw [← e]
      exact hmg0
    obtain ⟨fd, hb, hF⟩ := Rim.facts (P := (PySem.Challenge.rw_rimnotes_k02_sides).prog) (w := w) KX G hmg c
    exact ⟨K, fd, Rim.sp_law K, KX, hb, fun H a ns hl _ hS => ⟨a, ns, rfl, hS, hl, fun _ => rfl⟩, hF⟩
