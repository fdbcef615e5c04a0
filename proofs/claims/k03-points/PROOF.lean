import PyProof.Rows.All
import Wide.All
import OpenK.AllK
import Wide.FinOn
import KE.KStateDown
import HandS.Head0
import HandS.Head1
import HandS.Head2
import HandS.HeadEnd
import HandS.HeadHook1
import HandS.HeadHook2
import HandS.ForMost
import HandS.Exc
import HandS.TryOnly
import HandS.ExcOwn
import HandS.WordsExc
import HandS.ExcInit
import HandS.ExcInitHot
import HandS.ExcValue
import HandS.ExcIs
import HandS.ClsMeth
import HandS.IsInst
import HandS.Defaults
import HandS.DictTup
import HandS.Deep
import HandS.More
import HandS.Conv
import HandS.Wide
import KE.KExcIs
import HandS.HotCalls
import HandS.CallSlots
import KE.SortData
import PySem.Challenge.RW_rimnotes_k03_points_put
set_option Elab.async false
set_option linter.all false
set_option maxRecDepth 100000
set_option maxHeartbeats 4000000
namespace Rim
open PySem PySem.Spec PyProof.Rows L2
/-! ### what the written part says, looked at in one run -/
abbrev Chk : Type := PySem.W.Frag → Bool
abbrev AlC : Type := Bool × List He.FnW
def obsC (chk : Chk) (fn : List He.DefD) (K : PySem.W.Frag) : AlC := (chk K && fn.all fun d => d.ok K, fn.map fun d => He.fnW K d.at_)
def valC (fn : List He.DefD) : AlC := (true, fn.map He.DefD.val)
def SaysC (chk : Chk) (fn : List He.DefD) (K : PySem.W.Frag) : Prop := obsC chk fn K = valC fn
def obsCG (as : List Addr) (chk : Chk) (fn : List He.DefD) (g : Addr → Option Obj) : AlC := obsC chk fn (He.frG g as)
def hookC (as : List Addr) (chk : Chk) (fn : List He.DefD) : PySem.W.Hook where
  α := AlC
  obs := fun s => obsCG as chk fn s.heap.get?
  val := fun _ => valC fn
  says := fun _ h => ∃ K : PySem.W.Frag, K.In h ∧ SaysC chk fn K
  of := fun _ _ e => ⟨_, He.frG_in, e⟩
  keeps := fun _ _ _ ⟨K, hK, c⟩ k => ⟨K, PySem.W.Frag.In.keeps hK k, c⟩
theorem obsCG_eq {as : List Addr} {chk : Chk} {fn : List He.DefD} {g : Addr → Option Obj} {s : Shared} (h : ∀ a, g a = s.heap.get? a) : obsCG as chk fn g = (hookC as chk fn).obs s := by
  have e : g = s.heap.get? := funext h
  rw [e] <;> rfl
theorem SaysC.fact {chk : Chk} {fn : List He.DefD} {K : PySem.W.Frag} (c : SaysC chk fn K) : chk K = true :=
  (He.ba (show (chk K && fn.all fun d => d.ok K) = true from congrArg (fun z : AlC => z.1) c)).1
theorem SaysC.def_ {chk : Chk} {fn : List He.DefD} {K : PySem.W.Frag} (c : SaysC chk fn K) (i : Nat) {d : He.DefD} (h : fn[i]? = some d := by rfl) : ∃ fd, FunD K d.name d.qual d.params d.body d.scope (d.dvs K) (d.kws K) (He.fAd K d.at_) fd := by
  have c2 := (He.ba (show (chk K && fn.all fun d => d.ok K) = true from congrArg (fun z : AlC => z.1) c)).2
  have e : fn.map (fun d => He.fnW K d.at_) = fn.map He.DefD.val := congrArg (fun z : AlC => z.2) c
  have e2 : (fn.map fun d => He.fnW K d.at_)[i]? = (fn.map He.DefD.val)[i]? := by rw [e]
  rw [List.getElem?_map, List.getElem?_map, h] at e2
  exact He.DefD.funD (Option.some.inj e2) (List.all_eq_true.mp c2 d (List.mem_of_getElem? h))
def addrs (n : Nat) : List Addr := List.range n

/-! ### R.__init__(self, ..), R an own class over ValueError without an __init__ of its own -/
structure ReC (K : PySem.W.Frag) (C : Addr) : Prop where
  rd : PySem.W.readsIn K C (.type "type") = true
  ga : PySem.W.specialIn K (.ref C) "__getattribute__" = some (some (.builtin "type.__getattribute__"))
  vi : PySem.W.findCls K (.ref C) (.type "type") "__init__" = some (.val (.builtin "ValueError.__init__"))
section
variable {X : Cx} {x : Str} {C : Addr} {e : Expr} {es : List Expr} {ta : TA} {p1 p2 pos : Pos}
theorem pe_reinit {pl : Sem Bool} (hg : Gl X x) (hm : X.mg x = some (.ref C)) (T : ReC X.K C) (ha : PA X (e :: es) ta) (hdb : (x == ("__debug__" : Str)) = false := by decide)
    (hc : eval (.Call (.Attribute (.Name x p1) "__init__" p2) (e :: es) [] pos) X.env = (do
      let ov ← eval (.Name x p1) X.env
      standAt p2.atName
      let (f, first) ← holding [ov] (getMethod ov "__init__" pl)
      callWith pos f first (backTo pos (starEach (e :: es) X.env)) (backToKw pos (keywordEach [] X.env))) := by rfl)
    (he : starEach (e :: es) X.env = (false, eval e X.env) :: starEach es X.env := by rfl) (hpl : (backTo pos (starEach es X.env)).any (·.1) = false := by rfl) :
    PE X (.Call (.Attribute (.Name x p1) "__init__" p2) (e :: es) [] pos) (tVeI X.K ta) := by
  refine ⟨fun pins s σ H Q I h => ?_⟩
  refine PySem.W.methodCall_KW (ld_glob I hg hm ?_ hdb) hc
  refine PySem.W.method_cls I.kIn T.ga ?_
  refine PySem.W.cls_value I.kIn T.rd T.vi (by decide +kernel) ?_
  show wpAny _ _ (callWith pos (Value.builtin "ValueError.__init__") [] (backTo pos (starEach (e :: es) X.env)) []) _ _ _
  refine PyProof.Rows.callWith_method1 (thn (ha.run pos pins _ σ H _ (I.tok _) h) fun us s1 ⟨vs, H1, I1, r1, a, C, ws, ev, hl, T, ea, q⟩ => ?_) he hpl
  subst ev
  cases r1 with
  | @cons _ u0 _ ur ra rw' =>
    obtain rfl : u0 = Value.ref a := ra
    have hlen : ur.length ≤ sizeLine := by
      rw [← Paired.length rw', sizeLine_eq]
      omega
    exact oinit_ok T I1 ea hlen fun s' J => ⟨.non, H1, J, rfl, q⟩
end
end Rim
set_option Elab.async false
set_option linter.all false
set_option maxRecDepth 100000
set_option maxHeartbeats 4000000
namespace Rim
open PySem PySem.Spec PyProof.Rows L2
/-! ### short names of readings -/
abbrev cl (K : PySem.W.Frag) (x : Str) : Addr := He.ga K x
abbrev rAddI : R2 := rI0 fun i j => .int (i + j)
abbrev rSubI : R2 := rI0 fun i j => .int (i - j)
abbrev rMulI : R2 := rI CMul fun i j => .int (i * j)
abbrev rModI : R2 := rI (fun _ j => 0 < j) fun i j => .int (i % j)
abbrev rDivI : R2 := rI CDiv fun i j => .int (i / j)
abbrev rShrI : R2 := rI (fun _ j => 0 ≤ j) fun i j => .int (i / 2 ^ j.toNat)
abbrev rPowI : R2 := rI CPow fun i j => .int (i ^ j.toNat)
abbrev rAndI : R2 := rI0 fun i j => .int (Builtin.bitAnd i j)
abbrev rLtI : R2 := rI0 fun i j => .bl (decide (i < j))
abbrev rLeI : R2 := rI0 fun i j => .bl (decide (i ≤ j))
abbrev rGtI : R2 := rI0 fun i j => .bl (decide (j < i))
abbrev rGeI : R2 := rI0 fun i j => .bl (decide (j ≤ i))
abbrev rNeg : V → Hp → VK → Prop := rU fun i => .int (-i)
abbrev rIsN : R2 := fun x y H Q => y = .non ∧ Q (.bl (decide (x = .non))) H
abbrev rNotN : R2 := fun x y H Q => y = .non ∧ Q (.bl (!decide (x = .non))) H
abbrev rAddStr : R2 := fun x y H Q => ∃ i j, x = .str i ∧ y = .str j ∧ i.length + j.length ≤ sizeLine ∧ Q (.str (i ++ j)) H
abbrev rInSign : R2 := fun x y H Q => ∃ (c : Nat) (z : Str), x = .str ⟨#[c]⟩ ∧ y = .str z ∧ Q (.bl (decide (c ∈ z.cps.toList))) H
abbrev rNotInSign : R2 := fun x y H Q => ∃ (c : Nat) (z : Str), x = .str ⟨#[c]⟩ ∧ y = .str z ∧ Q (.bl (!decide (c ∈ z.cps.toList))) H
abbrev tTru (K : PySem.W.Frag) (ta : TE) : TT := fun σ H Q => ta σ H fun x H' => ∃ k, TruV K x H' k ∧ Q k H'
abbrev rAbs : List V → Hp → VK → Prop := fun xs H Q => ∃ i, xs = [.int i] ∧ Q (.int (if i < 0 then -i else i)) H
abbrev rMax2 : List V → Hp → VK → Prop := fun xs H Q => ∃ i j, xs = [.int i, .int j] ∧ Q (.int (if j > i then j else i)) H
abbrev rMin2 : List V → Hp → VK → Prop := fun xs H Q => ∃ i j, xs = [.int i, .int j] ∧ Q (.int (if j < i then j else i)) H
abbrev rLenSeq (K : PySem.W.Frag) : List V → Hp → VK → Prop := fun xs H Q => ∃ p ys, xs = [.ref p] ∧ (SqL K H p ys ∨ SqT K H p ys) ∧ Q (.int ys.length) H
abbrev rLenStr : List V → Hp → VK → Prop := fun xs H Q => ∃ z, xs = [.str z] ∧ z.length ≤ sizeLine ∧ Q (.int z.length) H
abbrev rLenD : List V → Hp → VK → Prop := fun xs H Q => ∃ a kvs, xs = [V.ref a] ∧ H a = some (.dK kvs) ∧ Q (.int kvs.length) H
abbrev rListOf (K : PySem.W.Frag) : List V → Hp → VK → Prop := fun xs H Q => ∃ p ys, xs = [.ref p] ∧ (SqL K H p ys ∨ SqT K H p ys) ∧ ∀ l, H l = none → Q (.ref l) (upd H l (.lst ys))
abbrev rStrI : List V → Hp → VK → Prop := fun xs H Q => ∃ i, xs = [.int i] ∧ i.natAbs.log2 < 1920 ∧ Q (.str (toString i)) H
abbrev rInt1 : List V → Hp → VK → Prop := fun xs H Q => (∃ i, xs = [.int i] ∧ Q (.int i) H) ∨ ∃ k, xs = [.bl k] ∧ Q (.int (if k then 1 else 0)) H
abbrev rIntS : List V → Hp → VK → Prop := fun xs H Q => ∃ a n, xs = [.str a] ∧ PySem.intText? a = some n ∧ a.length ≤ 640 ∧ Q (.int n) H
abbrev rOrd : List V → Hp → VK → Prop := fun xs H Q => ∃ x, xs = [.str x] ∧ x.length = 1 ∧ Q (.int (x.cps.getD 0 0 : Nat)) H

/-! ### a def's exceptions go out as they came -/
section
variable {CXg P w K mg base N qual scope f cdv A outer s H E}
abbrev bodyCx (P : Program) (w : World) (K : PySem.W.Frag) (mg : Str → Option Value) (base : Heap) (N : List Str) (qual : Str) (scope : Scope) (f : Addr) (cdv : Value) (A : Around) (outer : List Env) (s : Shared) (H : Hp) (E : XK) : Cx :=
  cxOf (L2.CX P w) P w K mg base N qual scope f cdv A outer s H E
theorem takesE : Takes (bodyCx P w K mg base N qual scope f cdv A outer s H E) (fun cls d _ H => E cls d H) := takes_of rfl rfl rfl rfl
theorem passE : Passes (L2.CX P w) (bodyCx P w K mg base N qual scope f cdv A outer s H E) E :=
  fun pins σ H0 s0 e s' I c => passes_call (E := E) takesE (fun _ _ _ _ h => h) pins σ H0 s0 e s' I c
end
/-- a constant of the module -/
theorem pe_gk {X : Cx} {x : Str} {pos : Pos} {v : V} (hg : Gl X x) (h : ∃ u, X.mg x = some u ∧ RelV v u) (hd : (x == ("__debug__" : Str)) = false := by decide) : PE X (.Name x pos) (tC v) := by
  obtain ⟨u, hm, r⟩ := h
  exact pe_glob hg hm r hd

/-! ### errors made -/
/-- arguments, by what their reading comes to -/
def upA (t : TA) : TA := fun σ H R => ∃ R0 : List V → Hp → Prop, t σ H R0 ∧ ∀ vs H', R0 vs H' → R vs H'
theorem pa_up {X : Cx} {es : List Expr} {t : TA} (h : PA X es t) : PA X es (upA t) := by
  refine ⟨fun pos pins s σ H Q I ⟨R0, h0, h1⟩ => ?_⟩
  refine wpAny_mono (h.run pos pins s σ H R0 I h0) (fun us s' hq => ?_) fun _ _ z => z
  obtain ⟨vs, H', J, r, q⟩ := hq
  exact ⟨vs, H', J, r, h1 _ _ q⟩
theorem ps_imp {X : Cx} {st : Stmt} {t t' : TS} (h : PS X st t) (i : ∀ D σ H, t' D σ H → t D σ H) : PS X st t' :=
  ⟨fun pins s σ H D I hq => h.run pins s σ H D I (i D σ H hq)⟩
theorem upd_comm {H : Hp} {a b : Addr} {o u : HO} (h : a ≠ b) : upd (upd H a o) b u = upd (upd H b u) a o := by
  funext c
  by_cases hb : c = b
  · subst hb
    rw [upd_same, upd_ne (Ne.symm h), upd_same]
  · by_cases ha : c = a
    · subst ha
      rw [upd_ne hb, upd_same, upd_same]
    · rw [upd_ne hb, upd_ne ha, upd_ne ha, upd_ne hb]
/-- what an error's __init__ does: its fields, in their order -/
def spErr (K : PySem.W.Frag) (fs : List Str) : Sp := fun vs H Q _ => ∃ (a C : Addr) (ys : List V), vs = .ref a :: ys ∧ ys.length = fs.length ∧ H a = some (exo a C none) ∧ OexC K C ∧ (∀ f ∈ fs, PySem.W.findIn K (.ref C) f = some none) ∧
  ∀ dx, H dx = none → dx ≠ a → Q .non (upd (upd H dx (exd dx (fs.zip ys).reverse)) a (exo a C (some dx)))
/-- raise C(e, ..) -/
def tRaiseE (C : Addr) (fs : List Str) (W : WX) (ta : TA) : TS := fun _ σ H => ta σ H fun vs H1 => vs.length = fs.length ∧ ∀ d, H1 d = none → W (.ref C) (some d) σ (upd H1 d (.xd (fs.zip vs).reverse))
/-- what the written part says of an error class -/
structure ErrC (K : PySem.W.Frag) (C fI : Addr) (fs : List Str) : Prop where
  ox : OexC K C
  ini : PySem.W.findIn K (.ref C) "__init__" = some (some (.ref fI))
  ti : PySem.W.typeIn K (.ref fI) = some (.type "function")
  no : ∀ f ∈ fs, PySem.W.findIn K (.ref C) f = some none
  few : fs.length ≤ 1000
theorem ps_raiseE {X : Cx} {x : Str} {C fI : Addr} {fs : List Str} {k : Nat} {fd : FuncData} {ps : List Str} {W : WX} {e : Expr} {es : List Expr} {ta : TA} {p pos pos2 : Pos}
    (T : ErrC X.K C fI fs) (F : FnOk X.prog X.w X.K X.mg X.base (L2.CX X.prog X.w) k fI fd ps (spErr X.K fs)) (hr : Room (k + 1) X.A) (hb : Binds X.K fd ps []) (hm : X.mg x = some (.ref C)) (tk : Takes X W) (ha : PA X (e :: es) ta)
    (hc : X.calm = true := by rfl) (hg : Gl X x := by rfl) (hdb : (x == ("__debug__" : Str)) = false := by decide)
    (he : starEach (e :: es) X.env = (false, eval e X.env) :: starEach es X.env := by rfl) (hpl : (backTo pos (starEach es X.env)).any (·.1) = false := by rfl) :
    PS X (.Raise (some (.Call (.Name x p) (e :: es) [] pos)) none pos2) (tRaiseE C fs W ta) := by
  have mk := pmk_oex (X := X) (x := x) (p := p) (pos := pos) (dvs := []) T.ox T.ini T.ti F hr hb .nil passL hg hm (pa_up ha) hdb he hpl
  refine ps_imp (ps_raise hc tk mk) fun D σ H h => ?_
  refine ⟨_, h, fun vs H1 hq => ?_⟩
  obtain ⟨hl, q⟩ := hq
  refine ⟨by rw [hl]; exact T.few, fun a ha => ?_⟩
  rw [List.append_nil]
  refine ⟨a, C, vs, rfl, hl, upd_same, T.ox, T.no, fun dx hdx ne => ?_⟩
  have hdx0 : H1 dx = none := by rw [upd_ne ne] at hdx; exact hdx
  refine ⟨rfl, dx, _, upd_same, by rw [upd_ne ne, upd_same], hdx0, ?_⟩
  have e1 : del (upd (upd (upd H1 a (exo a C none)) dx (exd dx (fs.zip vs).reverse)) a (exo a C (some dx))) a = upd H1 dx (exd dx (fs.zip vs).reverse) := by
    funext b
    by_cases hb : b = a
    · subst hb
      rw [del_same, upd_ne (Ne.symm ne), ha]
    · rw [del_ne hb, upd_ne hb]
      by_cases hd : b = dx
      · subst hd
        rw [upd_same, upd_same]
      · rw [upd_ne hd, upd_ne hb, upd_ne hd]
  rw [e1, upd_upd]
  exact q dx hdx0
/-- raise C(), C without an __init__ of its own -/
def tRaise0 (C : Addr) (W : WX) : TS := fun _ σ H => W (.ref C) none σ H

/-! ### the __init__ of an error with one field, with two -/
theorem pure_err1 {K : PySem.W.Frag} {f m p : Str} (vs : List V) (H : Hp) (Q : VK) (E : XK) (h : spErr K [f] vs H Q E) :
    tSeq (tDrop (tVeI K (tCons (tVar 0) (tCons (tC (.str m)) tNil)))) (tOst K f (tVar 0) (tVar 1)) { nx := fun _ H' => Q .non H', rt := Q } (start ["self", p] vs) H := by
  obtain ⟨a, C, ys, rfl, hl, ha, T, no, k⟩ := h
  obtain ⟨y, rfl⟩ : ∃ y, ys = [y] := by
    match ys, hl with
    | [y], _ => exact ⟨y, rfl⟩
  refine ⟨_, rfl, a, C, [.str m], rfl, by simp, T, ha, ?_⟩
  refine ⟨_, rfl, _, rfl, a, C, rfl, T, no f (by simp), .inl ⟨ha, fun dx hd ne => ?_⟩⟩
  exact k dx hd ne
theorem pure_err2 {K : PySem.W.Frag} {f g m p q : Str} (vs : List V) (H : Hp) (Q : VK) (E : XK) (h : spErr K [f, g] vs H Q E) :
    tSeq (tDrop (tVeI K (tCons (tVar 0) (tCons (tC (.str m)) tNil)))) (tSeq (tOst K f (tVar 0) (tVar 1)) (tOst K g (tVar 0) (tVar 2))) { nx := fun _ H' => Q .non H', rt := Q } (start ["self", p, q] vs) H := by
  obtain ⟨a, C, ys, rfl, hl, ha, T, no, k⟩ := h
  obtain ⟨y, z, rfl⟩ : ∃ y z, ys = [y, z] := by
    match ys, hl with
    | [y, z], _ => exact ⟨y, z, rfl⟩
  refine ⟨_, rfl, a, C, [.str m], rfl, by simp, T, ha, ?_⟩
  refine ⟨_, rfl, _, rfl, a, C, rfl, T, no f (by simp), .inl ⟨ha, fun dx hd ne => ?_⟩⟩
  refine ⟨_, rfl, _, rfl, a, C, rfl, T, no g (by simp), .inr ⟨dx, [(f, y)], upd_same, by rw [upd_ne ne, upd_same], by simp, ?_⟩⟩
  have e : upd (upd (upd H dx (exd dx [(f, y)])) a (exo a C (some dx))) dx (exd dx ((g, z) :: [(f, y)])) = upd (upd H dx (exd dx (([f, g] : List Str).zip [y, z]).reverse)) a (exo a C (some dx)) := by
    rw [upd_comm (Ne.symm ne), upd_upd]
    rfl
  show Q .non (upd (upd (upd H dx (exd dx [(f, y)])) a (exo a C (some dx))) dx (exd dx ((g, z) :: [(f, y)])))
  rw [e]
  exact k dx hd ne
end Rim
set_option Elab.async false
set_option linter.all false
set_option maxRecDepth 100000
set_option maxHeartbeats 4000000
namespace Rim
open PySem PySem.Spec PyProof.Rows L2
/-! ### looks at the written part, and what they tell -/
theorem ck_at {L : List Chk} {fn : List He.DefD} {K : PySem.W.Frag} (c : SaysC (fun K => L.all fun f => f K) fn K) (i : Nat) {f : Chk} (h : L[i]? = some f := by rfl) : f K = true :=
  List.all_eq_true.mp c.fact f (List.mem_of_getElem? h)
def kGlo (x : Str) : Chk := fun K => (He.Fa.glo x).ok K
def kFree (x : Str) : Chk := fun K => (He.Fa.free x).ok K
def kCls (x : Str) : Chk := fun K => (He.Fa.cls x).ok K
def kNo (x f : Str) : Chk := fun K => (He.Fa.noat x f).ok K
def kMk (x : Str) : Chk := fun K => (He.Fa.mkr x).ok K
/-- the method m of the class x is that of the class y (where it is written) -/
def kMeth (x m y : Str) : Chk := fun K => (He.Fa.meth x m).ok K && decide (He.ma K (cl K x) m = He.ma K (cl K y) m)
theorem meth_of {K : PySem.W.Frag} {x m y : Str} (h : kMeth x m y K = true) : Meth K (cl K x) m (He.fAd K (y, some m)) := by
  obtain ⟨h1, h2⟩ := He.ba h
  have e : He.ma K (cl K x) m = He.fAd K (y, some m) := of_decide_eq_true h2
  rw [← e]
  exact He.meth_ok h1
theorem mk_of' {K : PySem.W.Frag} {x y : Str} (h : kMk x K = true) (h2 : kMeth x "__init__" y K = true) : Mk K (cl K x) (He.fAd K (y, some "__init__")) := by
  have e : He.ma K (cl K x) "__init__" = He.fAd K (y, some "__init__") := of_decide_eq_true (He.ba h2).2
  rw [← e]
  exact He.mkr_ok h
/-- R.__init__ is ValueError's -/
def isVal (r : Option PySem.W.CFound) (v : Value) : Bool := match r with
  | some (.val u) => decide (u = v)
  | _ => false
def kRe (x : Str) : Chk := fun K => PySem.W.readsIn K (cl K x) (.type "type") && (decide (PySem.W.specialIn K (.ref (cl K x)) "__getattribute__" = some (some (.builtin "type.__getattribute__"))) && isVal (PySem.W.findCls K (.ref (cl K x)) (.type "type") "__init__") (.builtin "ValueError.__init__"))
theorem re_of {K : PySem.W.Frag} {x : Str} (h : kRe x K = true) : ReC K (cl K x) := by
  obtain ⟨h1, h2⟩ := He.ba h
  obtain ⟨h2, h3⟩ := He.ba h2
  refine ⟨h1, of_decide_eq_true h2, ?_⟩
  unfold isVal at h3
  split at h3
  · rename_i u e
    rw [e, of_decide_eq_true h3]
  · cases h3
/-- an error's class object -/
def oxB (K : PySem.W.Frag) (C : Addr) : Bool := match K.lookup C with
  | some ⟨.type "type", _, .cls cd, sl⟩ => (match cd.mro, sl.toList with
    | .ref C' :: bm, [_, _, _, _, some (.builtin n), _] => decide (C' = C) && (decide (n = "ValueError.__new__") && (!cd.hasDel && (cd.hasDict && PySem.HandSPX.refsVE bm)))
    | _, _ => false)
  | _ => false
theorem oxB_ok {K : PySem.W.Frag} {C : Addr} (h : oxB K C = true) :
    ∃ nm q N bs bm sn sub ab col dd k0 k1 k2 k3 k5, K.lookup C = some (excClassObj nm q C N bs bm true sn sub ab col dd k0 k1 k2 k3 k5 "ValueError.__new__") ∧ PySem.HandSPX.refsVE bm = true := by
  unfold oxB at h
  split at h
  · rename_i dd cd sl ho
    split at h
    · rename_i C' bm k0 k1 k2 k3 n k5 hm hs
      obtain ⟨a1, h⟩ := He.ba h
      obtain ⟨a2, h⟩ := He.ba h
      obtain ⟨a3, h⟩ := He.ba h
      obtain ⟨a4, a5⟩ := He.ba h
      obtain ⟨nm, bs, mro, ns, qn, hd, sn, sub, ab, col, del⟩ := cd
      have b1 := of_decide_eq_true a1
      have b2 := of_decide_eq_true a2
      dsimp only at hm a3 a4
      have b3 : del = false := by cases del <;> first | rfl | cases a3
      subst b1 b2 b3 hm a4
      have e : sl = #[k0, k1, k2, k3, some (.builtin "ValueError.__new__"), k5] := by
        obtain ⟨l⟩ := sl
        simp only at hs
        rw [hs]
      subst e
      exact ⟨nm, qn, ns, bs, bm, sn, sub, ab, col, dd, k0, k1, k2, k3, k5, ho, a5⟩
    · cases h
  · cases h
def kOx (x : Str) : Chk := fun K => oxB K (cl K x) && (He.eqO (PySem.W.findIn K (.ref (cl K x)) "__setattr__") (some (some (.builtin "object.__setattr__"))) &&
  (decide (PySem.W.subIn K (.ref (cl K x)) (.type "BaseException") = some true) && (decide (PySem.W.typeIn K (.ref (cl K x)) = some (.type "type")) && PySem.W.keepIn K (.ref (cl K x)))))
theorem ox_of {K : PySem.W.Frag} {x : Str} (h : kOx x K = true) : OexC K (cl K x) := by
  obtain ⟨h1, h⟩ := He.ba h
  obtain ⟨h2, h⟩ := He.ba h
  obtain ⟨h3, h⟩ := He.ba h
  obtain ⟨h4, h5⟩ := He.ba h
  exact ⟨oxB_ok h1, He.eqO_ok h2, of_decide_eq_true h3, of_decide_eq_true h4, h5⟩
def kErr (x : Str) (fs : List Str) : Chk := fun K => kOx x K && (He.eqO (PySem.W.findIn K (.ref (cl K x)) "__init__") (some (some (.ref (He.fAd K (x, some "__init__"))))) &&
  (decide (PySem.W.typeIn K (.ref (He.fAd K (x, some "__init__"))) = some (.type "function")) && fs.all fun f => He.eqO (PySem.W.findIn K (.ref (cl K x)) f) (some none)))
theorem err_of {K : PySem.W.Frag} {x : Str} {fs : List Str} (h : kErr x fs K = true) (few : fs.length ≤ 1000 := by decide) : ErrC K (cl K x) (He.fAd K (x, some "__init__")) fs := by
  obtain ⟨h1, h⟩ := He.ba h
  obtain ⟨h2, h⟩ := He.ba h
  obtain ⟨h3, h4⟩ := He.ba h
  exact ⟨ox_of h1, He.eqO_ok h2, of_decide_eq_true h3, fun f hf => He.eqO_ok (List.all_eq_true.mp h4 f hf), few⟩
/-- except x: an error of the class y is (is not) one of these -/
def kExm (y x : Str) (b : Bool) : Chk := fun K => decide (PySem.W.exmOne K (.ref (cl K y)) (.ref (cl K x)) = some b)
theorem exm_of {K : PySem.W.Frag} {x y : Str} {b : Bool} (h : kExm y x b K = true) : PySem.W.exmOne K (.ref (cl K y)) (.ref (cl K x)) = some b := of_decide_eq_true h
/-- isinstance of an object of the class y against x -/
def kKit (y x : Str) (b : Bool) : Chk := fun K => decide (PySem.W.kitOne K (.ref (cl K y)) (.ref (cl K x)) = some b)
theorem kit_of' {K : PySem.W.Frag} {x y : Str} {b : Bool} (h : kKit y x b K = true) : PySem.W.kitOne K (.ref (cl K y)) (.ref (cl K x)) = some b := of_decide_eq_true h
def kKitT (y : Str) (t : String) (b : Bool) : Chk := fun K => decide (PySem.W.kitOne K (.ref (cl K y)) (.type t) = some b)
theorem kitT_of {K : PySem.W.Frag} {y : Str} {t : String} {b : Bool} (h : kKitT y t b K = true) : PySem.W.kitOne K (.ref (cl K y)) (.type t) = some b := of_decide_eq_true h
/-- what isinstance asks of instances of the class x -/
structure InsC (K : PySem.W.Frag) (C : Addr) : Prop where
  c : Cls K C
  ha : PySem.W.findIn K (.ref C) "__class__" = some (some (.builtin "object.__class__"))
  hn : PySem.W.specialIn K (.builtin "object.__class__") "__get__" = some (some (.builtin "getset_descriptor.__get__"))
  ht : PySem.W.takesIn K (.builtin "object.__class__") = some true
  hm : PySem.W.mroIn K C (.type "object") = some true
def kInsA (C : Addr) : Chk := fun K => He.eqO (PySem.W.findIn K (.ref C) "__class__") (some (some (.builtin "object.__class__"))) &&
  (decide (PySem.W.specialIn K (.builtin "object.__class__") "__get__" = some (some (.builtin "getset_descriptor.__get__"))) && (decide (PySem.W.takesIn K (.builtin "object.__class__") = some true) && decide (PySem.W.mroIn K C (.type "object") = some true)))
def kIns (x : Str) : Chk := fun K => kCls x K && kInsA (cl K x) K
theorem ins_of {K : PySem.W.Frag} {x : Str} (h : kIns x K = true) : InsC K (cl K x) := by
  obtain ⟨h1, h⟩ := He.ba h
  obtain ⟨h2, h⟩ := He.ba h
  obtain ⟨h3, h⟩ := He.ba h
  obtain ⟨h4, h5⟩ := He.ba h
  exact ⟨He.cls_ok h1, He.eqO_ok h2, of_decide_eq_true h3, of_decide_eq_true h4, of_decide_eq_true h5⟩
theorem InsC.ty {K : PySem.W.Frag} {C a dx : Addr} {H : Hp} {fs : List (Str × V)} (h : InsC K C) (e : H a = some (.ins C dx fs)) : TyX K H (.ref a) (.ref C) := .base (.ins e h.c h.ha h.hn h.ht h.hm)
/-- what isinstance asks of errors of the class x -/
def kExcC (x : Str) : Chk := fun K => He.eqO (PySem.W.findIn K (.ref (cl K x)) "__getattribute__") (some (some (.builtin "BaseException.__getattribute__"))) && (He.eqO (PySem.W.findIn K (.ref (cl K x)) "__getattr__") (some none) &&
  (decide (PySem.W.subIn K (.ref (cl K x)) (.type "BaseException") = some true) && (PySem.W.hasDictIn K (cl K x) && kInsA (cl K x) K)))
theorem excC_of {K : PySem.W.Frag} {x : Str} (h : kExcC x K = true) : ExcC K (cl K x) := by
  obtain ⟨h1, h⟩ := He.ba h
  obtain ⟨h2, h⟩ := He.ba h
  obtain ⟨h3, h⟩ := He.ba h
  obtain ⟨h4, h⟩ := He.ba h
  obtain ⟨h5, h⟩ := He.ba h
  obtain ⟨h6, h⟩ := He.ba h
  obtain ⟨h7, h8⟩ := He.ba h
  exact ⟨He.eqO_ok h1, He.eqO_ok h2, of_decide_eq_true h3, h4, He.eqO_ok h5, of_decide_eq_true h6, of_decide_eq_true h7, of_decide_eq_true h8⟩
/-- a constant -/
def kInt (x : Str) (i : Int) : Chk := fun K => (He.Fa.int x i).ok K
def kStr (x z : Str) : Chk := fun K => (He.Fa.str x z).ok K
section
variable {K : PySem.W.Frag} {h : Heap} {mg : Str → Option Value}
theorem gk_int (X : K.In h) (G : h.Ns mainGlobals mg) {x : Str} {i : Int} (c : kInt x i K = true) : ∃ u, mg x = some u ∧ RelV (.int i) u := by
  obtain ⟨t, e⟩ := He.int_ok X G c
  exact ⟨_, e, t, rfl⟩
theorem gk_str (X : K.In h) (G : h.Ns mainGlobals mg) {x z : Str} (c : kStr x z K = true) : ∃ u, mg x = some u ∧ RelV (.str z) u := by
  obtain ⟨t, e⟩ := He.str_ok X G c
  exact ⟨_, e, t, rfl⟩
end
end Rim
set_option Elab.async false
set_option linter.all false
set_option maxRecDepth 100000
set_option maxHeartbeats 4000000
namespace Rim
open PySem PySem.Spec PyProof.Rows L2
/-! ### an error that a def holds behind the except clause -/
/-- at a: an error of the class cls, its dict at d -/
def exq (cls : Value) (d : Option Addr) (a : Addr) : HO := .ext fun h => ∃ (oe : Obj) (vs : Array Value), h.get? a = some oe ∧ Zc cls d oe ∧ oe.data = .fields vs
theorem exq_ok {P : Program} {w : World} {H : Hp} {h : Heap} {cls : Value} {d : Option Addr} {a : Addr} {oe : Obj} {vs : Array Value} (e : h.get? a = some oe) (z : Zc cls d oe) (q : oe.data = .fields vs) : ObjOk P w H h a (exq cls d a) :=
  ⟨⟨oe, vs, e, z, q⟩, ⟨oe, e⟩, fun _ _ ⟨o, v, e', r⟩ k => ⟨o, v, k o e', r⟩⟩
theorem exq_at {P : Program} {w : World} {H : Hp} {h : Heap} {cls : Value} {d : Option Addr} {a : Addr} (x : HOk P w H h) (e : H a = some (exq cls d a)) : ∃ (oe : Obj) (vs : Array Value), h.get? a = some oe ∧ Zc cls d oe ∧ oe.data = .fields vs := by
  have y : ObjOk P w H h a (exq cls d a) := x a _ e
  exact y.1
/-- an untracked object that was not there at the entry is tracked from now on -/
theorem inv_track {X : Cx} {pins : List (Addr × Obj)} {σ : L2.St} {H : Hp} {s : Shared} {a : Addr} {o : HO} {oe : Obj} (I : Inv X ((a, oe) :: pins) σ H s)
    (n0 : ∀ u, X.s_0.heap.get? a = some u → X.H_0 a = none → a ∈ X.ex) (ok : ObjOk X.prog X.w (upd H a o) s.heap a o) (hp : ∀ q ∈ X.pn ++ pins, q.1 ≠ a) (hc : ∀ x c, X.env.cells.lookup x = some c → c ≠ a) :
    Inv X pins σ (upd H a o) s := by
  obtain ⟨ga, na, nl, nf, ncell⟩ := I.pin (a, oe) (List.mem_append_right _ (List.mem_cons_self ..))
  have nof : ∀ {b : Addr} {u : HO}, H b = some u → b ≠ a := fun {b u} e z => by
    rw [z, na] at e
    cases e
  refine { ok := I.ok, os := I.os, bare := I.bare, loc := I.loc, cell := I.cell, len := I.len, base := ?_, free := ?_, freeC := ?_, pin := ?_, hok := ?_ }
  · have B := I.base
    refine { keep := ?_, slot := ?_, free := fun b u e n hx => ?_, there := B.there, tups := fun b xs e => ?_, frzs := fun b u v e => ?_, tbls := fun b ps e => ?_ }
    · exact fun b u e n h1 h2 => B.keep b u e n h1 h2
    · exact fun b u e n h1 h2 => B.slot b u e n h1 h2
    · by_cases hb : b = a
      · subst hb
        exact absurd (n0 u e n) hx
      · rw [upd_ne hb]
        exact B.free b u e n hx
    · have q := B.tups b xs e
      rw [upd_ne (nof q)]
      exact q
    · have q := B.frzs b u v e
      rw [upd_ne (nof q)]
      exact q
    · obtain ⟨m, q⟩ := B.tbls b ps e
      exact ⟨m, by rw [upd_ne (nof q)]; exact q⟩
  · rw [upd_ne (Ne.symm nl)]
    exact I.free
  · intro x c e
    rw [upd_ne (hc x c e)]
    exact I.freeC x c e
  · intro q hq
    have mem : q ∈ X.pn ++ ((a, oe) :: pins) := by
      rcases List.mem_append.mp hq with h | h
      · exact List.mem_append_left _ h
      · exact List.mem_append_right _ (List.mem_cons_of_mem _ h)
    obtain ⟨q1, q2, q3, q4, q5⟩ := I.pin q mem
    exact ⟨q1, by rw [upd_ne (hp q hq)]; exact q2, q3, q4, q5⟩
  · intro b u e
    by_cases hb : b = a
    · subst hb
      rw [upd_same] at e
      cases e
      exact ok
    · rw [upd_ne hb] at e
      refine (I.hok b u e).stay (fun _ _ _ r => r) (fun c r => ?_) fun c xs r => ?_
      · rw [upd_ne (nof r)]
        exact r
      · rw [upd_ne (nof r)]
        exact r

/-- what «except x as n» wishes of an error of the body, where the error is held behind the suite -/
def wKeep (K : PySem.W.Frag) (c : Value) (i : Nat) (ts : Addr → Value → Option Addr → TS) (Wout : WX) (D : Ends) : WX := fun cls d σ H =>
  ∃ b, PySem.W.exmOne K cls c = some b ∧
    (b = true → ∀ a, H a = none → ts a cls d
      { nx := fun σ' H' => H' a = none → D.nx (σ'.set i none) (upd H' a (exq cls d a))
        rt := D.rt
        bk := fun σ' H' => H' a = none → D.bk (σ'.set i none) (upd H' a (exq cls d a))
        ct := fun σ' H' => H' a = none → D.ct (σ'.set i none) (upd H' a (exq cls d a)) } (σ.set i (some (.ref a))) H) ∧
    (b = false → Wout cls d σ H)
section
variable {X : Cx} {x n : Str} {c : Value} {i : Nat} {body suite : List Stmt} {b₀ : Stmt} {np pos pos' : Pos} {tb : WX → TS} {ts : Addr → Value → Option Addr → TS} {Wout : WX}
/-- the suite of a caught error, and what stands behind it -/
theorem suite_end {pins : List (Addr × Obj)} {σ6 : L2.St} {H6 : Hp} {s6 : Shared} {a : Addr} {oe : Obj} {vs : Array Value} {cls : Value} {d : Option Addr} {Q : Shared → Prop}
    (S : Inv (X.suite a ((a, oe) :: (X.pn ++ pins))) [] σ6 H6 s6) (ok : X.Ok) (hz : Zc cls d oe) (hd : oe.data = .fields vs)
    (hN : X.N.Nodup) (hi : X.N[i]? = some n) (hln : X.env.kindOf n = some .local)
    (n0 : ∀ u, X.s_0.heap.get? a = some u → X.H_0 a = none → a ∈ X.ex) (hp : ∀ q ∈ X.pn ++ pins, q.1 ≠ a) (hc : ∀ y e, X.env.cells.lookup y = some e → e ≠ a)
    (h : ∀ s7, H6 a = none → Inv X pins (σ6.set i none) (upd H6 a (exq cls d a)) s7 → Q s7) :
    wpAny (model X.prog X.w) X.A (do bindName X.env n .none; unbindBehindTheSuite X.env n pos') (fun _ s7 => Q s7) X.xe s6 := by
  have I : Inv X ((a, oe) :: pins) σ6 H6 s6 :=
    ⟨ok, S.os, S.bare, S.base, S.loc, S.cell, S.free, S.freeC, fun p hp => S.pin p (by
      rw [List.append_nil]
      rcases List.mem_append.mp hp with h | h
      · exact List.mem_cons_of_mem _ (List.mem_append_left _ h)
      · rcases List.mem_cons.mp h with e | h
        · rw [e]
          exact List.mem_cons_self ..
        · exact List.mem_cons_of_mem _ (List.mem_append_right _ h)), S.hok, S.len⟩
  refine gone_ok I hN hi hln fun s7 I7 => ?_
  have P := I7.pin (a, oe) (List.mem_append_right _ (List.mem_cons_self ..))
  exact h s7 P.2.1 (inv_track I7 n0 (exq_ok P.1 hz hd) hp hc)
theorem ps_try_keep (hs : X.stack = X.env :: X.outer) (hf : X.env.frame = some X.env.locals) (hN : X.N.Nodup) (hi : X.N[i]? = some n) (hln : X.env.kindOf n = some .local)
    (hcn : Names X x c) (tk : Takes X Wout)
    (hb : ∀ (W : WX) (pn : List (Addr × Obj)) (xe : Value → Shared → Prop), Takes (X.tr pn xe) W → PassesOwn (model X.prog X.w) X.A X.env xe → PSs (X.tr pn xe) body (tb W))
    (hsu : ∀ (a : Addr) (oe : Obj) (cls : Value) (d : Option Addr) (pn : List (Addr × Obj)), Zc cls d oe → (∃ vs, oe.data = .fields vs) → PSs (X.suite a ((a, oe) :: pn)) (b₀ :: suite) (ts a cls d)) :
    PS X (.Try body [.ExceptHandler (some (.Name x np)) (some n) (b₀ :: suite) pos'] [] [] pos) (fun D σ H => tb (wKeep X.K c i ts Wout D) D σ H) := by
  refine ⟨fun pins s σ H D I h => ?_⟩
  have ok := I.ok
  have hfr : X.A.frames = some (X.env :: X.outer) := ok.frames.trans (congrArg some hs)
  have hloc : Loc X.env.scope n := Or.inl hln
  refine wpAny_Try_except (wpAny_mono ((hb (wKeep X.K c i ts Wout D) (X.pn ++ pins) _ ?tk ?po).run [] s σ H D (I.toTry _) h) ?nrm fun _ _ z => z)
  case po => exact PassesOwn.looking
  case nrm =>
    intro f s1 hsp
    cases f with
    | next =>
      obtain ⟨σ', H', J, q⟩ := hsp
      exact wpAny_execs_nil ⟨σ', H', J.ofTry ok, q⟩
    | brk =>
      obtain ⟨σ', H', J, q⟩ := hsp
      exact ⟨σ', H', J.ofTry ok, q⟩
    | cont =>
      obtain ⟨σ', H', J, q⟩ := hsp
      exact ⟨σ', H', J.ofTry ok, q⟩
    | ret u =>
      obtain ⟨v, σ', H', J, r, q⟩ := hsp
      exact ⟨v, σ', H', J.ofTry ok, r, q⟩
  case tk =>
    rintro u s' ⟨a, B, sI, pins', σ', H', cls, d, rfl, J', nb, up, sky, na, os, ag, b, hb1, hyes, hno⟩
    have J : Inv X pins σ' H' sI := J'.ofTry ok
    have sky' : Sky B (X.env :: X.outer) a (Zc cls d) X.env.locals s'.heap := by
      rw [← hs]
      exact sky
    refine Sky.land Zc.steady hfr hf sky' fun h3 fl3 up3 => ?_
    have J3 : Inv X pins σ' H' { s' with heap := h3 } := J.landed nb fl3.1 (up.trans up3) os ag
    obtain ⟨oe3, vs3, he3, hz3, hd3⟩ := fl3.there
    -- the error is no frame
    have nfr : a ∉ frs (X.env :: X.outer) := fun hm => by
      obtain ⟨_, o', e', hnf⟩ := fl3.2.2.1.mem hm
      rw [he3] at e'
      cases e'
      exact hnf _ hd3
    have nL : a ≠ X.env.locals := fun z => nfr (List.mem_filterMap.mpr ⟨X.env, List.mem_cons_self .., hf.trans (congrArg some z.symm)⟩)
    have nF : a ∉ X.fs := fun hm => by
      obtain ⟨e, he, q⟩ := List.mem_filterMap.mp hm
      exact nfr (List.mem_filterMap.mpr ⟨e, List.mem_cons_of_mem _ he, q⟩)
    -- nor was it there when the body began
    have Ba : B.get? a = none := fl3.2.1
    have nfs : a ∉ frs X.stack := by
      rw [hs]
      exact nfr
    have nsI : sI.heap.get? a = none := by
      cases e : sI.heap.get? a with
      | none => rfl
      | some o =>
        have z := nb a o e nfs
        rw [Ba] at z
        cases z
    have n0 : ∀ u, X.s_0.heap.get? a = some u → X.H_0 a = none → a ∈ X.ex := fun u e n => by
      by_cases hx : a ∈ X.ex
      · exact hx
      · have z := J.base.keep a u e n nF hx
        rw [nsI] at z
        cases z
    have hpn : ∀ q ∈ X.pn ++ pins, q.1 ≠ a := fun q hq z => by
      have e := (J.pin q hq).1
      rw [z, nsI] at e
      cases e
    have hcl : ∀ y e, X.env.cells.lookup y = some e → e ≠ a := fun y e hy z => by
      obtain ⟨v, o, ho, _⟩ := J.cell y e hy
      rw [z, nsI] at ho
      cases ho
    have S3 := J3.suite he3 hd3 na nL nF
    refine wpAny_handleBy_cons (codeAny_handlers_test ?_) (fun q => by cases q)
    have LM := PySem.W.exm_one (M := model X.prog X.w) J3.kIn (fun A Q E s k q => wpAny_typeOf_ref (k _ _ he3) (by rw [hz3.1]; exact q)) hb1
    have test : ∀ {Q : Value → Shared → Prop} {E : Value → Shared → Prop}, Q c { s' with heap := h3 } →
        wpAny (model X.prog X.w) (X.A.mark (some (.ref a))) (eval (.Name x np) X.env) Q E { s' with heap := h3 } := fun {Q E} q => by
      rcases hcn with ⟨hg, hdbg, hm | ⟨hm, hv, hnn⟩⟩
      · exact ld_glob (X := X.suite a ((a, oe3) :: (X.pn ++ pins))) S3 hg hm q hdbg
      · exact ld_blt (X := X.suite a ((a, oe3) :: (X.pn ++ pins))) S3 hg hm hv q hnn hdbg
    refine test (LM.here ?_)
    cases b with
    | true =>
      refine codeAny_handlers_suite_as (HandSPX.lands_againZ fl3 fun h4 fl4 up4 => ?_)
      have J4 : Inv X pins σ' H' { s' with heap := h4 } := J.landed nb fl4.1 ((up.trans up3).trans up4) os ag
      obtain ⟨oe4, vs4, he4, hz4, hd4⟩ := fl4.there
      refine store_ok (X := X.suite a ((a, oe4) :: (X.pn ++ pins))) (v := .ref a) (J4.suite he4 hd4 na nL nF) hN hi hloc rfl (fun s5 S5 => ?_) (Or.inr hln)
      refine wpAny_mono ((hsu a oe4 cls d (X.pn ++ pins) hz4 ⟨_, hd4⟩).run [] s5 _ H' _ S5 (hyes rfl a na)) ?_ fun _ _ z => z.elim
      intro f s6 hsp
      cases f with
      | next =>
        obtain ⟨σ6, H6, S6, q6⟩ := hsp
        exact suite_end S6 ok hz4 hd4 hN hi hln n0 hpn hcl fun s7 e J7 => ⟨_, _, J7, q6 e⟩
      | brk =>
        obtain ⟨σ6, H6, S6, q6⟩ := hsp
        exact suite_end S6 ok hz4 hd4 hN hi hln n0 hpn hcl fun s7 e J7 => ⟨_, _, J7, q6 e⟩
      | cont =>
        obtain ⟨σ6, H6, S6, q6⟩ := hsp
        exact suite_end S6 ok hz4 hd4 hN hi hln n0 hpn hcl fun s7 e J7 => ⟨_, _, J7, q6 e⟩
      | ret u =>
        obtain ⟨v6, σ6, H6, S6, r6, q6⟩ := hsp
        exact gone_ok (S6.unsuite ok) hN hi hln fun s7 J7 => ⟨_, _, _, J7, r6, q6⟩
    | false =>
      refine wpAny_handleBy_nil ?_
      obtain ⟨_, _, _, oe, vs, T, oT, ts', he, hz, hd, h1, hr⟩ := id fl3
      unfold PySem.passOn
      refine wpAny_bind (wpAny_field he hd h1 ?_)
      rw [if_neg (by simp)]
      have fin : wpAny (model X.prog X.w) X.A (setFlight (.ref a) X.env.frame) (fun _ s4 => wpAny (model X.prog X.w) X.A (throw (.ref a) : Sem Flow) (SP X pins D) X.xe s4) X.xe { s' with heap := h3 } := by
        rw [hf]
        refine HandSPX.setFlight_upZ fl3 fun h4 hh4 up4 => ?_
        refine wpAny_throw (tk _ _ ⟨a, B, sI, pins, σ', H', cls, d, rfl, J, nb, (up.trans up3).trans up4, ?_, na, os, ag, hno rfl⟩)
        rw [hs]
        exact .inr (.inr hh4)
      first
        | exact wpAny_bind (wpAny_pure (wpAny_bind fin))
        | exact wpAny_bind fin
end
end Rim
set_option Elab.async false
set_option linter.all false
set_option maxRecDepth 100000
set_option maxHeartbeats 4000000
namespace Rim
open PySem PySem.Spec PyProof.Rows L2
/-! ### a held error: its class, its fields -/
/-- the fields of an error: its dict, if it has one -/
def DOk (H : Hp) (d : Option Addr) (fs : List (Str × V)) : Prop := match d with
  | none => fs = []
  | some p => H p = some (.xd fs)
/-- at x: an error of the class C (held), its dict d with the fields fs -/
structure ErrAt (H : Hp) (x C : Addr) (d : Option Addr) (fs : List (Str × V)) : Prop where
  ob : H x = some (exq (.ref C) d x)
  dk : DOk H d fs
theorem zc_inst {P : Program} {w : World} {H : Hp} {h : Heap} {a C : Addr} {d : Option Addr} {fs : List (Str × V)} {oe : Obj} {vs : Array Value} (hok : HOk P w H h) (ho : h.get? a = some oe) (z : Zc (.ref C) d oe) (q : oe.data = .fields vs) (k : DOk H d fs) :
    ∃ od, PySem.W.InstAt h a oe C od := by
  obtain ⟨oc, odd, oda, osl⟩ := oe
  obtain ⟨z1, z2⟩ := z
  dsimp only at z1 z2 q
  subst z1 z2 q
  cases odd with
  | none => exact ⟨none, ho, rfl, rfl, trivial⟩
  | some p =>
    have x : ObjOk P w H h p (.xd fs) := hok p _ k
    obtain ⟨mA, ⟨o, es, ep, e, r⟩, _⟩ := x
    exact ⟨some o, ho, rfl, rfl, e⟩
theorem excC_cls {K : PySem.W.Frag} {C : Addr} (h : ExcC K C) : (PySem.W.clsIn K C).isSome = true := by
  have q := h.hd
  unfold PySem.W.hasDictIn at q
  obtain ⟨cd, hc, _⟩ := PySem.W.any_some q
  rw [hc]
  rfl
/-- isinstance(x, c) | isinstance(x, (c, ..)) of a held error -/
def rIsQ (K : PySem.W.Frag) : List V → Hp → VK → Prop := fun xs H Q => ∃ (a C : Addr) (d : Option Addr) (fs : List (Str × V)) (c : V) (u : Value) (b : Bool), xs = [.ref a, c] ∧ ErrAt H a C d fs ∧ ExcC K C ∧ ClsV c u ∧ PySem.W.kitOne K (.ref C) u = some b ∧ Q (.bl b) H
def rIsQT (K : PySem.W.Frag) : List V → Hp → VK → Prop := fun xs H Q => ∃ (a C : Addr) (d : Option Addr) (fs : List (Str × V)) (tp : Addr) (cs : List V) (us : List Value) (b : Bool), xs = [.ref a, .ref tp] ∧ ErrAt H a C d fs ∧ ExcC K C ∧ H tp = some (.tup cs) ∧ Paired ClsV cs us ∧
  PySem.W.kitAny K (.ref C) us = some b ∧ Q (.bl b) H
section
variable {X : Cx}
theorem call_isQ : CallR X (.builtin "isinstance") (rIsQ X.K) := by
  intro pins s σ H xs us Q I r h
  obtain ⟨a, C, d, fs, c, u, b, rfl, A, T, k, e, q⟩ := h
  obtain ⟨u1, u2, rfl, r1, r2⟩ := vals2 r
  have e2 := k.eq r2
  subst e2
  cases (show u1 = Value.ref a from r1)
  obtain ⟨oe, vs, ho, hz, hd⟩ := exq_at I.hok A.ob
  obtain ⟨od, J⟩ := zc_inst I.hok ho hz hd A.dk
  exact PySem.W.kia_one (PySem.W.kitx_exc (od := od) (ox := oe) (excC_cls T) T.hg T.hk T.hs T.ha T.hn T.ht T.hm) I.kIn J e (fun z => nomatch z) fun tk => ⟨.bl b, H, I.tok tk, rfl, q⟩
theorem call_isQT : CallR X (.builtin "isinstance") (rIsQT X.K) := by
  intro pins s σ H xs us Q I r h
  obtain ⟨a, C, d, fs, tp, cs, ws, b, rfl, A, T, hT, k, e, q⟩ := h
  obtain ⟨u1, u2, rfl, r1, r2⟩ := vals2 r
  cases (show u1 = Value.ref a from r1)
  cases (show u2 = Value.ref tp from r2)
  obtain ⟨oe, vs, ho, hz, hd⟩ := exq_at I.hok A.ob
  obtain ⟨od, J⟩ := zc_inst I.hok ho hz hd A.dk
  obtain ⟨_, its, rv, o, h1, h2, n, h3⟩ := (show ObjOk X.prog X.w H s.heap tp (.tup cs) from I.hok tp _ hT)
  have e3 := ClsV.all k rv
  subst e3
  obtain ⟨oc, odd, dt, sl⟩ := o
  dsimp only at h2 h3
  subst h2 h3
  exact PySem.W.kia_tup (PySem.W.kitx_exc (od := od) (ox := oe) (excC_cls T) T.hg T.hk T.hs T.ha T.hn T.ht T.hm) I.kIn J h1 e (fun z => nomatch z) fun tk => ⟨.bl b, H, I.tok tk, rfl, q⟩
/-- isinstance of anything -/
abbrev rIsA (K : PySem.W.Frag) : List V → Hp → VK → Prop := fun xs H Q => rIsi K xs H Q ∨ rIsQ K xs H Q
abbrev rIsAT (K : PySem.W.Frag) : List V → Hp → VK → Prop := fun xs H Q => rIsiT K xs H Q ∨ rIsQT K xs H Q
theorem call_isA : CallR X (.builtin "isinstance") (rIsA X.K) := CallR.or call_isi call_isQ
theorem call_isAT : CallR X (.builtin "isinstance") (rIsAT X.K) := CallR.or call_isiT call_isQT
/-- x.f, x a held error -/
def tExF (K : PySem.W.Frag) (te : TE) (f : Str) : TE := fun σ H Q => te σ H fun x H1 => ∃ (a C p : Addr) (fs : List (Str × V)) (v : V), x = .ref a ∧ ErrAt H1 a C (some p) fs ∧ ExcC K C ∧ PySem.W.findIn K (.ref C) f = some none ∧ fs.lookup f = some v ∧ Q v H1
theorem pe_exf {e : Expr} {f : Str} {te : TE} {pos : Pos} (he : PE X e te) (hb : attributeBase e f X.env (eval e X.env) = eval e X.env := by rfl) : PE X (.Attribute e f pos) (tExF X.K te f) := by
  refine ⟨fun pins s σ H Q I h => ?_⟩
  refine attr_of hb (thn (he.run pins s σ H _ I h) fun u s1 hh => ?_)
  obtain ⟨x, H1, I1, rx, a, C, p, fs, v, ex, A, T, hno, hl, q⟩ := hh
  subst ex
  obtain rfl : u = Value.ref a := rx
  obtain ⟨oe, vs, ho, hz, hd⟩ := exq_at I1.hok A.ob
  have xd : ObjOk X.prog X.w H1 s1.heap p (.xd fs) := I1.hok p _ A.dk
  obtain ⟨mA, hns, hr⟩ := xd
  obtain ⟨od, hod, hlk⟩ := lookIn_ns hns
  obtain ⟨u, hu, ru⟩ := RelO.some_of (v := v) (o := mA f) (by rw [← hl]; exact hr f)
  have J : PySem.W.InstAt s1.heap a oe C (some od) := ⟨ho, hz.1, by unfold PySem.W.notCls; rw [hd], by rw [hz.2]; exact hod⟩
  refine HandSPX.exc_get I1.kIn J T.hg T.hk T.hs (PySem.W.findObj_own T.hd hno rfl (by rw [hlk, hu])) (handed_of ru) ?_
  exact ⟨v, H1, I1.tok _, ru, q⟩
end

/-! ### one of two readings -/
def tEither (t u : TE) : TE := fun σ H Q => t σ H Q ∨ u σ H Q
theorem pe_either {X : Cx} {e : Expr} {t u : TE} (h1 : PE X e t) (h2 : PE X e u) : PE X e (tEither t u) :=
  ⟨fun pins s σ H Q I h => h.elim (fun a => h1.run pins s σ H Q I a) fun b => h2.run pins s σ H Q I b⟩
def tOrS (t u : TS) : TS := fun D σ H => t D σ H ∨ u D σ H
/-- a constant of the module, told -/
abbrev ConstOk (mg : Str → Option Value) (x : Str) (v : V) : Prop := ∃ u, mg x = some u ∧ RelV v u
theorem binds_full {K : PySem.W.Frag} {fd : FuncData} {ps : List Str} (h : ∃ ds, Vals [] ds ∧ Binds K fd ps ds) : Binds K fd ps [] := by
  obtain ⟨ds, v, b⟩ := h
  cases v
  exact b
end Rim
namespace Rim
open PySem PySem.Spec PyProof.Rows L2
/-- a def that nothing leaves -/
theorem fnOk0 {P : Program} {w : World} {K : PySem.W.Frag} {mg : Str → Option Value} {base : Heap} {k : Nat} {f : Addr} {fd : FuncData} {ps : List Str} {sp : Sp} (F : FnOk P w K mg base (L2.CX P w) k f fd ps sp) (h : ∀ vs H Q E, sp vs H Q E → sp vs H Q E0) :
    FnOk P w K mg base CX0 k f fd ps sp := by
  refine ⟨F.len, fun A outer s H args us vs Q E hr e0 hb r hsp => ?_⟩
  refine codeAny_mono (F.run A outer s H args us vs Q E0 hr e0 hb r (h _ _ _ _ hsp)) fun res s' hq => ?_
  cases res with
  | ok fl => cases fl <;> exact hq
  | error e =>
    obtain ⟨_, _, _, _, _, _, _, _, _, _, _, _, z⟩ := hq
    exact z.elim
end Rim
set_option Elab.async false
set_option linter.all false
set_option maxRecDepth 100000
set_option maxHeartbeats 4000000
namespace Rim
open PySem PySem.Spec PyProof.Rows L2
/-! ### readings, step by step -/
section
variable {K : PySem.W.Frag} {σ : L2.St} {H : Hp} {Q : VK} {D : Ends} {v x y : V} {ta tb tc : TE} {t u : TS} {tt tu : TT} {aa : TA} {i j : Int} {n : Nat} {g : TG}
theorem w_var (h : σ[n]? = some (some v)) (k : Q v H) : tVar n σ H Q := ⟨v, h, k⟩
theorem w_c (k : Q v H) : tC v σ H Q := k
theorem w_seq (k : t { D with nx := u D } σ H) : tSeq t u D σ H := k
theorem w_next (k : D.nx σ H) : tNext D σ H := k
theorem w_asg (k : ta σ H fun x H1 => g x σ H1 D.nx) : tAsg ta g D σ H := k
theorem w_gname {N : L2.St → Hp → Prop} (k : N (σ.set n (some v)) H) : gName n v σ H N := k
theorem w_drop (k : ta σ H fun _ H1 => D.nx σ H1) : tDrop ta D σ H := k
theorem w_ret (k : ta σ H D.rt) : tRet ta D σ H := k
theorem w_retN (k : D.rt .non H) : tRetN D σ H := k
theorem w_if (k : tt σ H fun b H1 => if b = true then t D σ H1 else u D σ H1) : tIfS tt t u D σ H := k
theorem w_op {r : R2} (k : ta σ H fun x H1 => tb σ H1 fun y H2 => r x y H2 Q) : tOp r ta tb σ H Q := k
theorem w_un {r : V → Hp → VK → Prop} (k : ta σ H fun x H1 => r x H1 Q) : tUn r ta σ H Q := k
theorem w_rI0 {f : Int → Int → V} (k : Q (f i j) H) : rI0 f (.int i) (.int j) H Q := ⟨i, j, rfl, rfl, k⟩
theorem w_rI {C : Int → Int → Prop} {f : Int → Int → V} (c : C i j) (k : Q (f i j) H) : rI C f (.int i) (.int j) H Q := ⟨i, j, rfl, rfl, c, k⟩
theorem w_neg (k : Q (.int (-i)) H) : rNeg (.int i) H Q := ⟨i, rfl, k⟩
theorem w_test {R : Bool → Hp → Prop} (k : ta σ H fun x H' => ∃ b, x = .bl b ∧ R b H') : tTest ta σ H R := k
theorem w_b {R : Bool → Hp → Prop} (k : ta σ H fun x H1 => ∃ c, x = .bl c ∧ R c H1) : tB ta σ H R := k
theorem w_bl {R : Bool → Prop} {b : Bool} (k : R b) : ∃ c, V.bl b = .bl c ∧ R c := ⟨b, rfl, k⟩
theorem w_not {R : Bool → Hp → Prop} (k : tt σ H fun c H1 => R (!c) H1) : tNot tt σ H R := k
theorem w_and {R : Bool → Hp → Prop} (k : tt σ H fun c H1 => if c = true then tu σ H1 R else R false H1) : tAnd tt tu σ H R := k
theorem w_or {R : Bool → Hp → Prop} (k : tt σ H fun c H1 => if c = true then R true H1 else tu σ H1 R) : tOr tt tu σ H R := k
theorem w_andV (k : ta σ H fun x H1 => ∃ c, x = .bl c ∧ if c = true then tb σ H1 Q else Q (.bl false) H1) : tAndV ta tb σ H Q := k
theorem w_orV (k : ta σ H fun x H1 => ∃ c, x = .bl c ∧ if c = true then Q (.bl true) H1 else tb σ H1 Q) : tOrV ta tb σ H Q := k
theorem w_notV (k : ta σ H fun x H1 => ∃ c, x = .bl c ∧ Q (.bl (!c)) H1) : tNotV ta σ H Q := k
theorem w_tif (k : tt σ H fun c H1 => if c = true then ta σ H1 Q else tb σ H1 Q) : tIf tt ta tb σ H Q := k
theorem w_cb {r : List V → Hp → VK → Prop} (k : aa σ H fun vs H1 => r vs H1 Q) : tCB r aa σ H Q := k
theorem w_cons {R : List V → Hp → Prop} (k : ta σ H fun x H1 => aa σ H1 fun xs H2 => R (x :: xs) H2) : tCons ta aa σ H R := k
theorem w_nil {R : List V → Hp → Prop} (k : R [] H) : tNil σ H R := k
theorem w_call {sp : Sp} {dvs : List V} {E : XK} (k : aa σ H fun vs H1 => sp (vs ++ dvs) H1 Q E) : tCall sp dvs E aa σ H Q := k
theorem w_callS {sp : Sp} {E : L2.St → XK} (k : aa σ H fun vs H1 => sp vs H1 Q (E σ)) : tCallS sp E aa σ H Q := k
theorem w_tup (k : aa σ H fun xs H1 => xs.length ≤ sizeLine ∧ ∀ p, H1 p = none → Q (.ref p) (upd H1 p (.tup xs))) : tTup aa σ H Q := k
theorem w_lst (k : aa σ H fun xs H1 => xs.length ≤ sizeLine ∧ ∀ p, H1 p = none → Q (.ref p) (upd H1 p (.lst xs))) : tLst aa σ H Q := k
theorem w_new {o : Addr → HO} {xs : List V} (h : xs.length ≤ sizeLine) (k : ∀ p, H p = none → Q (.ref p) (upd H p (o p))) : xs.length ≤ sizeLine ∧ ∀ p, H p = none → Q (.ref p) (upd H p (o p)) := ⟨h, k⟩
theorem w_eq (h : scal x y = true) (k : Q (.bl (decide (x = y))) H) : rEq x y H Q := ⟨h, k⟩
theorem w_ne (h : scal x y = true) (k : Q (.bl (!decide (x = y))) H) : rNe x y H Q := ⟨h, k⟩
theorem w_eqD {d e : PyData} (h1 : Dp K H x d) (h2 : Dp K H y e) (s1 : SeqAt.shaped d = true) (s2 : SeqAt.shaped e = true) (k : Q (.bl (PyData.eqv d e)) H) : rEqD K x y H Q := ⟨d, e, h1, h2, s1, s2, k⟩
theorem w_neD {d e : PyData} (h1 : Dp K H x d) (h2 : Dp K H y e) (s1 : SeqAt.shaped d = true) (s2 : SeqAt.shaped e = true) (k : Q (.bl (!PyData.eqv d e)) H) : rNeD K x y H Q := ⟨d, e, h1, h2, s1, s2, k⟩
theorem w_fld {a C dx : Addr} {fs : List (Str × V)} {f : Str} (k : ta σ H fun x H1 => ∃ a C dx fs v, x = .ref a ∧ H1 a = some (.ins C dx fs) ∧ Cls K C ∧ NoAttr K C f ∧ fs.lookup f = some v ∧ Q v H1) : tFld K ta f σ H Q := k
theorem w_ixL {p : Addr} {xs : List V} (h : SqL K H p xs) (e : atI xs i = some v) (k : Q v H) : rIxL K (.ref p) (.int i) H Q := ⟨p, xs, i, v, rfl, rfl, h, e, k⟩
theorem w_ixT {p : Addr} {xs : List V} (h : SqT K H p xs) (e : atI xs i = some v) (k : Q v H) : rIxT K (.ref p) (.int i) H Q := ⟨p, xs, i, v, rfl, rfl, h, e, k⟩
theorem w_lenL {p : Addr} {xs : List V} (h : SqL K H p xs) (k : Q (.int xs.length) H) : rLenSeq K [.ref p] H Q := ⟨p, xs, rfl, .inl h, k⟩
theorem w_lenT {p : Addr} {xs : List V} (h : SqT K H p xs) (k : Q (.int xs.length) H) : rLenSeq K [.ref p] H Q := ⟨p, xs, rfl, .inr h, k⟩
theorem w_min2 (k : Q (.int (if j < i then j else i)) H) : rMin2 [.int i, .int j] H Q := ⟨i, j, rfl, k⟩
theorem w_max2 (k : Q (.int (if j > i then j else i)) H) : rMax2 [.int i, .int j] H Q := ⟨i, j, rfl, k⟩
theorem w_abs (k : Q (.int (if i < 0 then -i else i)) H) : rAbs [.int i] H Q := ⟨i, rfl, k⟩
theorem w_iT {A B : Prop} (k : A) : if true = true then A else B := iteT k
theorem w_iF {A B : Prop} (k : B) : if false = true then A else B := iteF k
theorem w_iNF {A B : Prop} (k : A) : if (!false) = true then A else B := iteT k
theorem w_iNT {A B : Prop} (k : B) : if (!true) = true then A else B := iteF k
theorem w_ite {b : Bool} {A B : Prop} (h1 : b = true → A) (h2 : b = false → B) : if b = true then A else B := by
  cases b with
  | true => exact iteT (h1 rfl)
  | false => exact iteF (h2 rfl)
theorem w_ited {c : Prop} [Decidable c] {A B : Prop} (h1 : c → A) (h2 : ¬ c → B) : if decide c = true then A else B := w_ite (fun e => h1 (of_decide_eq_true e)) fun e => h2 (of_decide_eq_false e)
theorem w_iten {c : Prop} [Decidable c] {A B : Prop} (h1 : ¬ c → A) (h2 : c → B) : if (!decide c) = true then A else B := w_ite (fun e => h1 (by simpa using e)) fun e => h2 (by simpa using e)
theorem sq_l {p : Addr} {xs : List V} (h : H p = some (.lst xs)) : SqL K H p xs := .inl (.inl h)
theorem sq_t {p : Addr} {xs : List V} (h : H p = some (.tup xs)) : SqT K H p xs := .inl (.inl h)
end
end Rim
set_option Elab.async false
set_option linter.all false
set_option maxRecDepth 100000
set_option maxHeartbeats 4000000
namespace Rim
open PySem PySem.Spec PyProof.Rows L2
/-! ### heaps that keep what they had -/
theorem same_sqT {K : PySem.W.Frag} {H H' : Hp} {a : Addr} {xs : List V} (e : Same H H') (h : SqT K H a xs) : SqT K H' a xs := by
  rcases h with (h | ⟨o, h⟩) | h
  · exact .inl (.inl (e _ _ h))
  · exact .inl (.inr ⟨o, e _ _ h⟩)
  · exact .inr h
mutual
theorem dp_same {K : PySem.W.Frag} {H H' : Hp} (e : Same H H') : ∀ {v : V} {d : PyData}, Dp K H v d → Dp K H' v d
  | _, _, .non => .non
  | _, _, .bl b => .bl b
  | _, _, .int i => .int i
  | _, _, .str x => .str x
  | _, _, .lst h r => .lst (e.seq h) (dpAll_same e r)
  | _, _, .tup h r => .tup (same_sqT e h) (dpAll_same e r)
theorem dpAll_same {K : PySem.W.Frag} {H H' : Hp} (e : Same H H') : ∀ {vs : List V} {ds : List PyData}, DpAll K H vs ds → DpAll K H' vs ds
  | _, _, .nil => .nil
  | _, _, .cons h r => .cons (dp_same e h) (dpAll_same e r)
end
theorem same_new {H : Hp} {p : Addr} {o : HO} (h : H p = none) : Same H (upd H p o) := fun b u e => by
  rw [upd_ne (ne_of_none e h)]
  exact e
/-- a new instance and its dict -/
theorem same_made {H : Hp} {x dx C : Addr} {fs : List (Str × V)} (nx : H x = none) (nd : H dx = none) : Same H (upd (upd H dx (.own x)) x (.ins C dx fs)) := fun b u e => by
  rw [upd_ne (ne_of_none e nx), upd_ne (ne_of_none e nd)]
  exact e
theorem atI_at {α : Type} {xs : List α} {i : Int} {v : α} (h0 : 0 ≤ i) (h : xs[i.toNat]? = some v) : atI xs i = some v := by
  have q := atI_nat h
  rwa [Int.toNat_of_nonneg h0] at q
/-- lists apart, all is as it was -/
def KeepNL (H H' : Hp) : Prop := ∀ b o, H b = some o → (∀ xs, o ≠ .lst xs) → H' b = some o
theorem KeepNL.refl (H : Hp) : KeepNL H H := fun _ _ h _ => h
theorem KeepNL.trans {H H1 H2 : Hp} (a : KeepNL H H1) (b : KeepNL H1 H2) : KeepNL H H2 := fun c o h n => b c o (a c o h n) n
theorem Same.nl {H H' : Hp} (a : Same H H') : KeepNL H H' := fun b o h _ => a b o h
theorem keepNL_lst {H : Hp} {l : Addr} {xs ys : List V} (h : H l = some (.lst xs)) : KeepNL H (upd H l (.lst ys)) := fun b o e n => by
  have ne : b ≠ l := fun z => by
    subst z
    rw [h] at e
    cases e
    exact n xs rfl
  rw [upd_ne ne]
  exact e
/-- an object that the first heap does not know may change -/
theorem same_mut {H H' : Hp} {p : Addr} {o : HO} (e : Same H H') (h : H p = none) : Same H (upd H' p o) := fun a u ha => by
  rw [upd_ne (ne_of_none ha h)]
  exact e a u ha

/-! ### comprehensions without a test: items one by one -/
theorem wipe_set1 {σ : L2.St} {n : Nat} {x : Option V} : wipe ((wipe σ [n]).set n x) [n] = wipe σ [n] := by
  show ((σ.set n none).set n x).set n none = σ.set n none
  rw [List.set_set, List.set_set]
section
variable {K : PySem.W.Frag} {σ : L2.St} {H1 : Hp} {Qd : Hp → Prop} {g : TG} {te : TE} {vs : List Nat} {D : Addr}
/-- [e for i in range(..)] -/
theorem lcR {lo : Int} {n : Nat} (hD : H1 D = none) (hn : n ≤ 1000000) (σs : Nat → L2.St) (P : Nat → V → Hp → Prop) (st : ∀ i v H H', KeepNL H H' → P i v H → P i v H')
    (hw : ∀ i, wipe (σs i) vs = wipe σ vs) (hg : ∀ i H' (R : L2.St → Hp → Prop), i < n → R (σs i) H' → g (.int (lo + i)) (wipe σ vs) H' R)
    (hs : ∀ i H' (R : VK), i < n → Same H1 H' → (∀ v H'', Same H' H'' → P i v H'' → R v H'') → te (σs i) H' R)
    (hd : ∀ (acc : List V) H', Same H1 H' → acc.length = n → (∀ i v, acc[i]? = some v → P i v H') → H' D = some (.lst acc) → Qd H') :
    ∃ W : Nat → Nat → Hp → Prop, (∃ m, W 0 m (upd H1 D (.lst []))) ∧ ∀ i m H, W i m H →
      ((Itr lo n).stop i H ∧ Qd H) ∨ ((Itr lo n).go i H ∧ ∃ Nx : Hp → Prop, (∀ H', Nx H' → ∃ m', m' < m ∧ W (i + 1) m' H') ∧ ∀ x H', (Itr lo n).yld i H x H' → g x (wipe σ vs) H' fun σ2 H2 => wipe σ2 vs = wipe σ vs ∧ tYes σ2 H2 fun b H3 =>
        if b = true then te σ2 H3 fun y H4 => ∃ acc, H4 D = some (.lst acc) ∧ acc.length < sizeLine ∧ Nx (upd H4 D (.lst (acc ++ [y]))) else Nx H3) := by
  refine lc_range (fun i H' => ∃ acc : List V, Same H1 H' ∧ acc.length = i ∧ (∀ j v, acc[j]? = some v → P j v H') ∧ H' D = some (.lst acc))
    ⟨[], same_new hD, rfl, fun (j : Nat) (v : V) (h : ([] : List V)[j]? = some v) => by simp at h, upd_same⟩ ?_ ?_
  · rintro i H' hi ⟨acc, hS, hl, hP, hDa⟩
    refine hg i H' _ hi ?_
    refine ⟨hw i, ?_⟩
    unfold tYes
    refine iteT ?_
    refine (hs i H' _ hi hS fun v H'' hS2 hv => ⟨acc, hS2 _ _ hDa, ?_, acc ++ [v], ?_, ?_, ?_, upd_same⟩)
    · rw [hl, sizeLine_eq]
      omega
    · exact same_mut (hS.trans hS2) hD
    · rw [List.length_append, hl]
      rfl
    · intro j y hj
      have kn : KeepNL H'' (upd H'' D (.lst (acc ++ [v]))) := keepNL_lst (hS2 _ _ hDa)
      by_cases h1 : j < acc.length
      · rw [List.getElem?_append_left h1] at hj
        exact st j y _ _ ((Same.nl hS2).trans kn) (hP j y hj)
      · have h2 : j = acc.length := by
          have := (List.getElem?_eq_some_iff.mp hj).1
          rw [List.length_append] at this
          simp at this
          omega
        subst h2
        rw [List.getElem?_append_right (Nat.le_refl _), Nat.sub_self] at hj
        cases hj
        rw [hl]
        exact st i v _ _ kn hv
  · rintro H' ⟨acc, hS, hl, hP, hDa⟩
    exact hd acc H' hS hl hP hDa
/-- [e for x in xs] -/
theorem lcL {a : Addr} {xs : List V} (hD : H1 D = none) (hq : SqL K H1 a xs) (hn : xs.length ≤ 1000000) (σs : Nat → V → L2.St) (P : Nat → V → Hp → Prop) (st : ∀ i v H H', KeepNL H H' → P i v H → P i v H')
    (hw : ∀ i x, wipe (σs i x) vs = wipe σ vs) (hg : ∀ i x H' (R : L2.St → Hp → Prop), xs[i]? = some x → Same H1 H' → R (σs i x) H' → g x (wipe σ vs) H' R)
    (hs : ∀ i x H' (R : VK), xs[i]? = some x → Same H1 H' → (∀ v H'', Same H' H'' → P i v H'' → R v H'') → te (σs i x) H' R)
    (hd : ∀ (acc : List V) H', Same H1 H' → acc.length = xs.length → (∀ i v, acc[i]? = some v → P i v H') → H' D = some (.lst acc) → Qd H') :
    ∃ W : Nat → Nat → Hp → Prop, (∃ m, W 0 m (upd H1 D (.lst []))) ∧ ∀ i m H, W i m H →
      ((Itl K a).stop i H ∧ Qd H) ∨ ((Itl K a).go i H ∧ ∃ Nx : Hp → Prop, (∀ H', Nx H' → ∃ m', m' < m ∧ W (i + 1) m' H') ∧ ∀ x H', (Itl K a).yld i H x H' → g x (wipe σ vs) H' fun σ2 H2 => wipe σ2 vs = wipe σ vs ∧ tYes σ2 H2 fun b H3 =>
        if b = true then te σ2 H3 fun y H4 => ∃ acc, H4 D = some (.lst acc) ∧ acc.length < sizeLine ∧ Nx (upd H4 D (.lst (acc ++ [y]))) else Nx H3) := by
  refine lc_list (K := K) (a := a) (xs := xs) (fun i H' => ∃ acc : List V, Same H1 H' ∧ acc.length = i ∧ (∀ j v, acc[j]? = some v → P j v H') ∧ H' D = some (.lst acc))
    ⟨[], same_new hD, rfl, fun (j : Nat) (v : V) (h : ([] : List V)[j]? = some v) => by simp at h, upd_same⟩ (fun i H' _ h => h.elim fun _ h => h.1.seq hq) ?_ ?_
  · rintro i x H' hx ⟨acc, hS, hl, hP, hDa⟩
    refine hg i x H' _ hx hS ?_
    refine ⟨hw i x, ?_⟩
    unfold tYes
    refine iteT ?_
    refine (hs i x H' _ hx hS fun v H'' hS2 hv => ⟨acc, hS2 _ _ hDa, ?_, acc ++ [v], ?_, ?_, ?_, upd_same⟩)
    · have := (List.getElem?_eq_some_iff.mp hx).1
      rw [hl, sizeLine_eq]
      omega
    · exact same_mut (hS.trans hS2) hD
    · rw [List.length_append, hl]
      rfl
    · intro j y hj
      have kn : KeepNL H'' (upd H'' D (.lst (acc ++ [v]))) := keepNL_lst (hS2 _ _ hDa)
      by_cases h1 : j < acc.length
      · rw [List.getElem?_append_left h1] at hj
        exact st j y _ _ ((Same.nl hS2).trans kn) (hP j y hj)
      · have h2 : j = acc.length := by
          have := (List.getElem?_eq_some_iff.mp hj).1
          rw [List.length_append] at this
          simp at this
          omega
        subst h2
        rw [List.getElem?_append_right (Nat.le_refl _), Nat.sub_self] at hj
        cases hj
        rw [hl]
        exact st i v _ _ kn hv
  · rintro H' ⟨acc, hS, hl, hP, hDa⟩
    exact hd acc H' hS hl hP hDa
end
end Rim
namespace Rim
open PySem PySem.Spec PyProof.Rows L2
section
variable {K : PySem.W.Frag} {σ : L2.St} {H : Hp} {Q : VK} {D : Ends} {g : TG} {tb : TS} {te : TE} {tt : TT} {wi : TI} {aa : TA} {ta : TE} {vs : List Nat}
/-- what a for asks, the walked thing being J -/
abbrev ForB (J : It) (g : TG) (tb : TS) (D : Ends) (σ : L2.St) (H : Hp) : Prop := ∃ W : Nat → Nat → L2.St → Hp → Prop, (∃ m, W 0 m σ H) ∧ ∀ i m σ H, W i m σ H →
  (J.stop i H ∧ D.nx σ H) ∨ (J.go i H ∧ ∃ N : L2.St → Hp → Prop, (∀ σ' H', N σ' H' → ∃ m', m' < m ∧ W (i + 1) m' σ' H') ∧ ∀ x H', J.yld i H x H' → g x σ H' fun σ2 H2 => tb { D with nx := N, ct := N, bk := D.nx } σ2 H2)
theorem w_for (k : wi σ H fun J H1 => ForB J g tb D σ H1) : tFor wi g tb D σ H := k
abbrev LcB (J : It) (g : TG) (tt : TT) (te : TE) (vs : List Nat) (σ : L2.St) (D : Addr) (H1 : Hp) (Qd : Hp → Prop) : Prop := ∃ W : Nat → Nat → Hp → Prop, (∃ m, W 0 m (upd H1 D (.lst []))) ∧ ∀ i m H, W i m H →
  (J.stop i H ∧ Qd H) ∨ (J.go i H ∧ ∃ Nx : Hp → Prop, (∀ H', Nx H' → ∃ m', m' < m ∧ W (i + 1) m' H') ∧ ∀ x H', J.yld i H x H' → g x (wipe σ vs) H' fun σ2 H2 => wipe σ2 vs = wipe σ vs ∧ tt σ2 H2 fun b H3 =>
    if b = true then te σ2 H3 fun y H4 => ∃ acc, H4 D = some (.lst acc) ∧ acc.length < sizeLine ∧ Nx (upd H4 D (.lst (acc ++ [y]))) else Nx H3)
theorem w_lc (k : wi σ H fun J H1 => ∀ D, H1 D = none → LcB J g tt te vs σ D H1 (Q (.ref D))) : tLc wi g tt te vs σ H Q := k
theorem w_rng1 {R : It → Hp → Prop} (k : aa σ H fun vs H1 => ∃ j : Int, vs = [.int j] ∧ -(2 ^ 62) ≤ j ∧ j < 2 ^ 62 ∧ R (Itr 0 j.toNat) H1) : iRng1 aa σ H R := k
theorem w_rng2 {R : It → Hp → Prop} (k : aa σ H fun vs H1 => ∃ i j : Int, vs = [.int i, .int j] ∧ (-(2 ^ 62) ≤ i ∧ i < 2 ^ 62 ∧ -(2 ^ 62) ≤ j ∧ j < 2 ^ 62) ∧ R (Itr i (j - i).toNat) H1) : iRng2 aa σ H R := k
theorem w_il {R : It → Hp → Prop} (k : ta σ H fun x H1 => ∃ a, x = .ref a ∧ (∃ xs, SqL K H1 a xs) ∧ R (Itl K a) H1) : iList K ta σ H R := k
theorem w_it {R : It → Hp → Prop} (k : ta σ H fun x H1 => ∃ a, x = .ref a ∧ (∃ xs, SqT K H1 a xs) ∧ R (Itt K a) H1) : iTup K ta σ H R := k
end
end Rim
namespace Rim
open PySem PySem.Spec PyProof.Rows L2
section
variable {K : PySem.W.Frag} {σ : L2.St} {H1 : Hp} {Qd : Hp → Prop} {te : TE} {D : Addr} {s : Nat}
theorem lcR1 {lo : Int} {n : Nat} (hD : H1 D = none) (hn : n ≤ 1000000) (P : Nat → V → Hp → Prop) (st : ∀ i v H H', KeepNL H H' → P i v H → P i v H')
    (hs : ∀ i H' (R : VK), i < n → Same H1 H' → (∀ v H'', Same H' H'' → P i v H'' → R v H'') → te ((wipe σ [s]).set s (some (.int (lo + (i : Int))))) H' R)
    (hd : ∀ (acc : List V) H', Same H1 H' → acc.length = n → (∀ i v, acc[i]? = some v → P i v H') → H' D = some (.lst acc) → Qd H') : LcB (Itr lo n) (gName s) tYes te [s] σ D H1 Qd :=
  lcR hD hn (fun i => (wipe σ [s]).set s (some (.int (lo + (i : Int))))) P st (fun i => wipe_set1) (fun i H' R _ h => h) hs hd
theorem lcL1 {a : Addr} {xs : List V} (hD : H1 D = none) (hq : SqL K H1 a xs) (hn : xs.length ≤ 1000000) (P : Nat → V → Hp → Prop) (st : ∀ i v H H', KeepNL H H' → P i v H → P i v H')
    (hs : ∀ i x H' (R : VK), xs[i]? = some x → Same H1 H' → (∀ v H'', Same H' H'' → P i v H'' → R v H'') → te ((wipe σ [s]).set s (some x)) H' R)
    (hd : ∀ (acc : List V) H', Same H1 H' → acc.length = xs.length → (∀ i v, acc[i]? = some v → P i v H') → H' D = some (.lst acc) → Qd H') : LcB (Itl K a) (gName s) tYes te [s] σ D H1 Qd :=
  lcL hD hq hn (fun i x => (wipe σ [s]).set s (some x)) P st (fun i x => wipe_set1) (fun i x H' R _ _ h => h) hs hd
end
theorem same_keepNL {H H' : Hp} (h : Same H H') {b : Addr} {o : HO} (e : H b = some o) : H' b = some o := h b o e
end Rim
namespace Rim
open PySem PySem.Spec PyProof.Rows L2
section
variable {K : PySem.W.Frag} {σ : L2.St} {H : Hp} {Q : VK} {ta : TE} {aa : TA} {C : Addr} {m : Str} {sp : Sp} {dvs : List V} {E : XK}
theorem w_make (k : aa σ H fun vs H1 => ∀ x dx, H1 x = none → H1 dx = none → dx ≠ x → sp (.ref x :: (vs ++ dvs)) (upd (upd H1 dx (.own x)) x (.ins C dx [])) (fun v H2 => v = .non ∧ Q (.ref x) H2) E) : tMake C sp dvs E aa σ H Q := k
theorem w_meth (k : ta σ H fun x H1 => ∃ a dx fs, x = .ref a ∧ H1 a = some (.ins C dx fs) ∧ fs.lookup m = none ∧ aa σ H1 fun vs H2 => sp (x :: (vs ++ dvs)) H2 Q E) : tMeth C m sp dvs E ta aa σ H Q := k
theorem w_fld' {f : Str} (k : ta σ H fun x H1 => ∃ a C dx fs v, x = .ref a ∧ H1 a = some (.ins C dx fs) ∧ Cls K C ∧ NoAttr K C f ∧ fs.lookup f = some v ∧ Q v H1) : tFld K ta f σ H Q := k
end
end Rim
set_option Elab.async false
set_option linter.all false
set_option maxRecDepth 100000
set_option maxHeartbeats 4000000
namespace Rim
open PySem PySem.Spec PyProof.Rows L2
/-! ### except suites in which the error is tracked; several clauses -/
structure Cl where
  c : Value
  i : Option Nat
  ts : Addr → Value → Option Addr → TS
def slotIn (i : Option Nat) (σ : L2.St) (v : Option V) : L2.St := match i with
  | none => σ
  | some n => σ.set n v
/-- what the clauses wish of an error of the body -/
def wTrk (K : PySem.W.Frag) (Wout : WX) (D : Ends) : List Cl → WX
  | [] => Wout
  | k :: r => fun cls d σ H => ∃ b, PySem.W.exmOne K cls k.c = some b ∧
    (b = true → ∀ a, H a = none → k.ts a cls d
      { nx := fun σ' H' => D.nx (slotIn k.i σ' none) H', rt := D.rt, bk := fun σ' H' => D.bk (slotIn k.i σ' none) H', ct := fun σ' H' => D.ct (slotIn k.i σ' none) H' } (slotIn k.i σ (some (.ref a))) (upd H a (exq cls d a))) ∧
    (b = false → wTrk K Wout D r cls d σ H)
inductive ClsOk (X : Cx) : List ExceptHandler → List Cl → Prop
  | nil : ClsOk X [] []
  | as {x n : Str} {c : Value} {i : Nat} {b₀ : Stmt} {suite : List Stmt} {np pos' : Pos} {ts : Addr → Value → Option Addr → TS} {hds : List ExceptHandler} {l : List Cl}
      (hi : X.N[i]? = some n) (hln : X.env.kindOf n = some .local) (hcn : Names X x c)
      (hsu : ∀ (a : Addr) (cls : Value) (d : Option Addr) (pn : List (Addr × Obj)), PSs (X.suite a pn) (b₀ :: suite) (ts a cls d)) (r : ClsOk X hds l) :
      ClsOk X (.ExceptHandler (some (.Name x np)) (some n) (b₀ :: suite) pos' :: hds) (⟨c, some i, ts⟩ :: l)
  | only {x : Str} {c : Value} {b₀ : Stmt} {suite : List Stmt} {np pos' : Pos} {ts : Addr → Value → Option Addr → TS} {hds : List ExceptHandler} {l : List Cl}
      (hcn : Names X x c)
      (hsu : ∀ (a : Addr) (cls : Value) (d : Option Addr) (pn : List (Addr × Obj)), PSs (X.suite a pn) (b₀ :: suite) (ts a cls d)) (r : ClsOk X hds l) :
      ClsOk X (.ExceptHandler (some (.Name x np)) none (b₀ :: suite) pos' :: hds) (⟨c, none, ts⟩ :: l)
section
variable {X : Cx} {pins : List (Addr × Obj)} {σ : L2.St} {H : Hp} {s : Shared}
theorem inv_pin {a : Addr} {oe : Obj} {vs : Array Value} (I : Inv X pins σ H s) (ha : s.heap.get? a = some oe) (hd : oe.data = .fields vs) (na : H a = none) (nL : a ≠ X.env.locals) (nF : a ∉ X.fs) : Inv X ((a, oe) :: pins) σ H s := by
  refine { ok := I.ok, os := I.os, bare := I.bare, loc := I.loc, cell := I.cell, len := I.len, base := I.base, free := I.free, freeC := I.freeC, hok := I.hok, pin := fun p hp => ?_ }
  rcases List.mem_append.mp hp with h | h
  · exact I.pin p (List.mem_append_left _ h)
  · rcases List.mem_cons.mp h with e | h
    · rw [e]
      refine ⟨ha, na, nL, nF, fun v z => ?_⟩
      rw [show oe.data = _ from hd] at z
      cases z
    · exact I.pin p (List.mem_append_right _ h)
theorem inv_inSuite (I : Inv X pins σ H s) (a : Addr) : Inv (X.suite a (X.pn ++ pins)) [] σ H s := by
  refine { ok := I.ok.suite _ _, os := I.os, bare := I.bare, loc := I.loc, cell := I.cell, len := I.len, base := I.base, free := I.free, freeC := I.freeC, hok := I.hok, pin := fun p hp => ?_ }
  rw [List.append_nil] at hp
  exact I.pin p hp
theorem inv_outSuite {a : Addr} (ok : X.Ok) (I : Inv (X.suite a (X.pn ++ pins)) [] σ H s) : Inv X pins σ H s := by
  refine { ok := ok, os := I.os, bare := I.bare, loc := I.loc, cell := I.cell, len := I.len, base := I.base, free := I.free, freeC := I.freeC, hok := I.hok, pin := fun p hp => I.pin p ?_ }
  rw [List.append_nil]
  exact hp
end
section
variable {X : Cx} {body : List Stmt} {h₀ : ExceptHandler} {hs₀ : List ExceptHandler} {l₀ : List Cl} {pos : Pos} {tb : WX → TS} {Wout : WX}
theorem ps_try_trk (hs : X.stack = X.env :: X.outer) (hf : X.env.frame = some X.env.locals) (hN : X.N.Nodup) (tk : Takes X Wout)
    (hb : ∀ (W : WX) (pn : List (Addr × Obj)) (xe : Value → Shared → Prop), Takes (X.tr pn xe) W → PassesOwn (model X.prog X.w) X.A X.env xe → PSs (X.tr pn xe) body (tb W))
    (hcl0 : ClsOk X (h₀ :: hs₀) l₀) : PS X (.Try body (h₀ :: hs₀) [] [] pos) (fun D σ H => tb (wTrk X.K Wout D l₀) D σ H) := by
  refine ⟨fun pins s σ H D I h => ?_⟩
  have ok := I.ok
  have hfr : X.A.frames = some (X.env :: X.outer) := ok.frames.trans (congrArg some hs)
  refine wpAny_Try_except (wpAny_mono ((hb (wTrk X.K Wout D l₀) (X.pn ++ pins) _ ?tk ?po).run [] s σ H D (I.toTry _) h) ?nrm fun _ _ z => z)
  case po => exact PassesOwn.looking
  case nrm =>
    intro f s1 hsp
    cases f with
    | next =>
      obtain ⟨σ', H', J, q⟩ := hsp
      exact wpAny_execs_nil ⟨σ', H', J.ofTry ok, q⟩
    | brk =>
      obtain ⟨σ', H', J, q⟩ := hsp
      exact ⟨σ', H', J.ofTry ok, q⟩
    | cont =>
      obtain ⟨σ', H', J, q⟩ := hsp
      exact ⟨σ', H', J.ofTry ok, q⟩
    | ret u =>
      obtain ⟨v, σ', H', J, r, q⟩ := hsp
      exact ⟨v, σ', H', J.ofTry ok, r, q⟩
  case tk =>
    rintro u s' ⟨a, B, sI, pins', σ', H', cls, d, rfl, J', nb, up, sky, na, os, ag, wish⟩
    have J : Inv X pins σ' H' sI := J'.ofTry ok
    have sky' : Sky B (X.env :: X.outer) a (Zc cls d) X.env.locals s'.heap := by
      rw [← hs]
      exact sky
    refine Sky.land Zc.steady hfr hf sky' fun h3 fl3 up3 => ?_
    have J3 : Inv X pins σ' H' { s' with heap := h3 } := J.landed nb fl3.1 (up.trans up3) os ag
    obtain ⟨oe3, vs3, he3, hz3, hd3⟩ := fl3.there
    have nfr : a ∉ frs (X.env :: X.outer) := fun hm => by
      obtain ⟨_, o', e', hnf⟩ := fl3.2.2.1.mem hm
      rw [he3] at e'
      cases e'
      exact hnf _ hd3
    have nL : a ≠ X.env.locals := fun z => nfr (List.mem_filterMap.mpr ⟨X.env, List.mem_cons_self .., hf.trans (congrArg some z.symm)⟩)
    have nF : a ∉ X.fs := fun hm => by
      obtain ⟨e, he, q⟩ := List.mem_filterMap.mp hm
      exact nfr (List.mem_filterMap.mpr ⟨e, List.mem_cons_of_mem _ he, q⟩)
    have Ba : B.get? a = none := fl3.2.1
    have nfs : a ∉ frs X.stack := by
      rw [hs]
      exact nfr
    have nsI : sI.heap.get? a = none := by
      cases e : sI.heap.get? a with
      | none => rfl
      | some o =>
        have z := nb a o e nfs
        rw [Ba] at z
        cases z
    have n0 : ∀ u, X.s_0.heap.get? a = some u → X.H_0 a = none → a ∈ X.ex := fun u e n => by
      by_cases hx : a ∈ X.ex
      · exact hx
      · have z := J.base.keep a u e n nF hx
        rw [nsI] at z
        cases z
    have hpn : ∀ q ∈ X.pn ++ pins, q.1 ≠ a := fun q hq z => by
      have e := (J.pin q hq).1
      rw [z, nsI] at e
      cases e
    have hcl : ∀ y e, X.env.cells.lookup y = some e → e ≠ a := fun y e hy z => by
      obtain ⟨v, o, ho, _⟩ := J.cell y e hy
      rw [z, nsI] at ho
      cases ho
    have S3 := J3.suite he3 hd3 na nL nF
    -- tracked, once more landed
    have trk : ∀ h4, HandSPX.FlyingZ B (X.env :: X.outer) a (Zc cls d) h4 → h3.UpToSlots h4 → Inv X pins σ' (upd H' a (exq cls d a)) { s' with heap := h4 } := fun h4 fl4 up4 => by
      have J4 : Inv X pins σ' H' { s' with heap := h4 } := J.landed nb fl4.1 ((up.trans up3).trans up4) os ag
      obtain ⟨oe4, vs4, he4, hz4, hd4⟩ := fl4.there
      exact inv_track (inv_pin J4 he4 hd4 na nL nF) n0 (exq_ok he4 hz4 hd4) hpn hcl
    have loop : ∀ {hds : List ExceptHandler} {l : List Cl}, ClsOk X hds l → wTrk X.K Wout D l cls d σ' H' → wpAny (model X.prog X.w) X.A (handleBy (.ref a) X.env hds) (SP X pins D) X.xe { s' with heap := h3 } := by
      intro hds l r
      induction r with
      | nil =>
        intro hno
        refine wpAny_handleBy_nil ?_
        obtain ⟨_, _, _, oe, vs, T, oT, ts', he, hz, hd, h1, hr⟩ := id fl3
        unfold PySem.passOn
        refine wpAny_bind (wpAny_field he hd h1 ?_)
        rw [if_neg (by simp)]
        have fin : wpAny (model X.prog X.w) X.A (setFlight (.ref a) X.env.frame) (fun _ s4 => wpAny (model X.prog X.w) X.A (throw (.ref a) : Sem Flow) (SP X pins D) X.xe s4) X.xe { s' with heap := h3 } := by
          rw [hf]
          refine HandSPX.setFlight_upZ fl3 fun h4 hh4 up4 => ?_
          refine wpAny_throw (tk _ _ ⟨a, B, sI, pins, σ', H', cls, d, rfl, J, nb, (up.trans up3).trans up4, ?_, na, os, ag, hno⟩)
          rw [hs]
          exact .inr (.inr hh4)
        first
          | exact wpAny_bind (wpAny_pure (wpAny_bind fin))
          | exact wpAny_bind fin
      | @as x n c i b₀ suite np pos' ts hds l hi hln hcn hsu r ih =>
        rintro ⟨b, hb1, hyes, hno⟩
        refine wpAny_handleBy_cons (codeAny_handlers_test ?_) (fun q => by cases q)
        have LM := PySem.W.exm_one (M := model X.prog X.w) J3.kIn (fun A Q E s k q => wpAny_typeOf_ref (k _ _ he3) (by rw [hz3.1]; exact q)) hb1
        have test : ∀ {Q : Value → Shared → Prop} {E : Value → Shared → Prop}, Q c { s' with heap := h3 } →
            wpAny (model X.prog X.w) (X.A.mark (some (.ref a))) (eval (.Name x np) X.env) Q E { s' with heap := h3 } := fun {Q E} q => by
          rcases hcn with ⟨hg, hdbg, hm | ⟨hm, hv, hnn⟩⟩
          · exact ld_glob (X := X.suite a ((a, oe3) :: (X.pn ++ pins))) S3 hg hm q hdbg
          · exact ld_blt (X := X.suite a ((a, oe3) :: (X.pn ++ pins))) S3 hg hm hv q hnn hdbg
        refine test (LM.here ?_)
        cases b with
        | true =>
          refine codeAny_handlers_suite_as (HandSPX.lands_againZ fl3 fun h4 fl4 up4 => ?_)
          refine store_ok (X := X.suite a (X.pn ++ pins)) (v := .ref a) (inv_inSuite (trk h4 fl4 up4) a) hN hi (Or.inl hln) rfl (fun s5 S5 => ?_) (Or.inr hln)
          refine wpAny_mono ((hsu a cls d (X.pn ++ pins)).run [] s5 _ _ _ S5 (hyes rfl a na)) ?_ fun _ _ z => z.elim
          intro f s6 hsp
          cases f with
          | next =>
            obtain ⟨σ6, H6, S6, q6⟩ := hsp
            exact gone_ok (inv_outSuite ok S6) hN hi hln fun s7 J7 => ⟨_, _, J7, q6⟩
          | brk =>
            obtain ⟨σ6, H6, S6, q6⟩ := hsp
            exact gone_ok (inv_outSuite ok S6) hN hi hln fun s7 J7 => ⟨_, _, J7, q6⟩
          | cont =>
            obtain ⟨σ6, H6, S6, q6⟩ := hsp
            exact gone_ok (inv_outSuite ok S6) hN hi hln fun s7 J7 => ⟨_, _, J7, q6⟩
          | ret u =>
            obtain ⟨v6, σ6, H6, S6, r6, q6⟩ := hsp
            exact gone_ok (inv_outSuite ok S6) hN hi hln fun s7 J7 => ⟨_, _, _, J7, r6, q6⟩
        | false => exact ih (hno rfl)
      | @only x c b₀ suite np pos' ts hds l hcn hsu r ih =>
        rintro ⟨b, hb1, hyes, hno⟩
        refine wpAny_handleBy_cons (codeAny_handlers_test ?_) (fun q => by cases q)
        have LM := PySem.W.exm_one (M := model X.prog X.w) J3.kIn (fun A Q E s k q => wpAny_typeOf_ref (k _ _ he3) (by rw [hz3.1]; exact q)) hb1
        have test : ∀ {Q : Value → Shared → Prop} {E : Value → Shared → Prop}, Q c { s' with heap := h3 } →
            wpAny (model X.prog X.w) (X.A.mark (some (.ref a))) (eval (.Name x np) X.env) Q E { s' with heap := h3 } := fun {Q E} q => by
          rcases hcn with ⟨hg, hdbg, hm | ⟨hm, hv, hnn⟩⟩
          · exact ld_glob (X := X.suite a ((a, oe3) :: (X.pn ++ pins))) S3 hg hm q hdbg
          · exact ld_blt (X := X.suite a ((a, oe3) :: (X.pn ++ pins))) S3 hg hm hv q hnn hdbg
        refine test (LM.here ?_)
        cases b with
        | true =>
          refine codeAny_handlers_suite (HandSPX.lands_againZ fl3 fun h4 fl4 up4 => ?_)
          refine wpAny_mono ((hsu a cls d (X.pn ++ pins)).run [] _ _ _ _ (inv_inSuite (trk h4 fl4 up4) a) (hyes rfl a na)) ?_ fun _ _ z => z.elim
          intro f s6 hsp
          cases f with
          | next =>
            obtain ⟨σ6, H6, S6, q6⟩ := hsp
            exact ⟨_, _, inv_outSuite ok S6, q6⟩
          | brk =>
            obtain ⟨σ6, H6, S6, q6⟩ := hsp
            exact ⟨_, _, inv_outSuite ok S6, q6⟩
          | cont =>
            obtain ⟨σ6, H6, S6, q6⟩ := hsp
            exact ⟨_, _, inv_outSuite ok S6, q6⟩
          | ret u =>
            obtain ⟨v6, σ6, H6, S6, r6, q6⟩ := hsp
            exact ⟨_, _, _, inv_outSuite ok S6, r6, q6⟩
        | false => exact ih (hno rfl)
    exact loop hcl0 wish
end

/-! ### defs that raise nothing: called anywhere, within an except suite too -/
structure FnQ (P : Program) (w : World) (K : PySem.W.Frag) (mg : Str → Option Value) (base : Heap) (CX : CXT) (k : Nat) (f : Addr) (fd : FuncData) (ps : List Str) (sp : Sp) : Prop where
  len : ∀ vs H Q E, sp vs H Q E → vs.length = ps.length
  run : ∀ (A : Around) (outer : List Env) (s : Shared) (H : Hp) (args : Args) (us : List Value) (vs : List V) (Q : VK) (E : XK), L2H.RoomH k A → Env0 P w K mg base A outer s H → BindsTo s fd args (ps.zip us) → Vals vs us → sp vs H Q E →
    codeAny (model P w) A (.call (.ref f) args) (CR CX outer P w H s Q E) s
theorem FnQ.ok {P : Program} {w : World} {K : PySem.W.Frag} {mg : Str → Option Value} {base : Heap} {CX : CXT} {k : Nat} {f : Addr} {fd : FuncData} {ps : List Str} {sp : Sp} (F : FnQ P w K mg base CX k f fd ps sp) : FnOk P w K mg base CX k f fd ps sp :=
  ⟨F.len, fun A outer s H args us vs Q E hr e0 hb r h => F.run A outer s H args us vs Q E (L2H.roomH_of hr) e0 hb r h⟩
/-- the context of such a def's body -/
abbrev cxQ (CX : CXT) (P : Program) (w : World) (K : PySem.W.Frag) (mg : Str → Option Value) (base : Heap) (N : List Str) (qual : Str) (scope : Scope) (f : Addr) (cd : Value) (A : Around) (outer : List Env) (s : Shared) (H : Hp) (E : XK) : Cx :=
  { cxOf CX P w K mg base N qual scope f cd A outer s H E with calm := false }
section
variable {CX : CXT} {P : Program} {w : World} {K : PySem.W.Frag} {mg : Str → Option Value} {base : Heap} {N ps : List Str} {name qual : Str} {scope : Scope} {f : Addr} {cd : Value} {A : Around} {outer : List Env} {s s1 : Shared} {H : Hp} {E : XK} {us : List Value} {vs : List V}
theorem env0_mark (e0 : Env0 P w K mg base A outer s H) : Env0 P w K mg base { A with handled := none } outer s H := ⟨e0.frames, e0.mod, e0.bs, e0.bsz, e0.funs, e0.frf, e0.hok, e0.bare⟩
theorem inv_startQ (S : FnScope N ps scope) (e0 : Env0 P w K mg base A outer s H) (hl : vs.length = ps.length) (r : Vals vs us)
    (x : InCallC s s.heap.objs.size (bindL (envOfC qual scope s.heap.objs.size f cd).kindOf (ps.zip us) fun _ => none) (cellsFrom (s.heap.objs.size + 1) scope.names []) (bindC (envOfC qual scope s.heap.objs.size f cd).kindOf (ps.zip us) fun _ => none) s1) :
    Inv (cxQ CX P w K mg base N qual scope f cd A outer s H E) [] (L2.start N vs) H s1 := by
  have I := inv_start (CX := CX) (E := E) (N := N) (A := { A with handled := none }) S rfl (env0_mark e0) hl r x
  have ok := I.ok
  have ok2 : (cxQ CX P w K mg base N qual scope f cd A outer s H E).Ok :=
    ⟨ok.mod, ok.kind, ok.glob, ok.blt, ok.above, ok.inj, ok.has, ok.cab, fun z => absurd z Bool.false_ne_true, Around.frames_deeper e0.frames, ok.stk, ok.exf, ok.bs, ok.bsz, ok.noex, ok.exfs, ok.funs, ok.frf⟩
  exact ⟨ok2, I.os, I.bare, I.base, I.loc, I.cell, I.free, I.freeC, I.pin, I.hok, I.len⟩
theorem fnQ_of {k : Nat} {sp : Sp} {params : Arguments} {body : List Stmt} {dvs : List V} {kws : List (Str × V)} {fd : FuncData} (F : FunD K name qual params body scope dvs kws f fd) (S : FnScope N ps scope)
    (len : ∀ vs H Q E, sp vs H Q E → vs.length = ps.length)
    (hbody : ∀ (cdv : Value) (A : Around) (outer : List Env) (s : Shared) (H : Hp) (vs : List V) (Q : VK) (E : XK), L2H.RoomH k (A.deeper (envOfC qual scope s.heap.objs.size f cdv)) → sp vs H Q E →
      ∃ t, PSs (cxQ CX P w K mg base N qual scope f cdv A outer s H E) body t ∧ t { nx := fun _ H' => Q .non H', rt := Q } (L2.start N vs) H) :
    FnQ P w K mg base CX (k + 1) f fd ps sp := by
  obtain ⟨oc, od, dV, kV, doc, pm, an, cdv, ct, osl, rfl, lk, hcd, _, _⟩ := F.ex
  refine ⟨len, fun A outer s H args us vs Q E hr e0 hb r hsp => ?_⟩
  have hl := len _ _ _ _ hsp
  have KX : K.In s.heap := e0.mod.kin.keeps fun b o e => (e0.bs b o e).1
  have lim : s.heap.NoLimit := e0.mod.nolimit.keeps fun b o e => (e0.bs b o e).1
  refine codeAny_call_function hr.depth (KX _ _ lk) rfl S.co S.gen rfl (PySem.W.codeRec_of KX hcd) (hb _ _ _ _ ?_)
  refine wpAny_newFunctionEnv_cells S.kind (fun y hy => ?_) fun env he s1 x => ?_
  · rcases S.par y.1 (List.of_mem_zip hy).1 with q | q
    · exact Or.inl q
    · exact Or.inr ⟨q, PySem.W.cellsFrom_some _ _ _ (Or.inl q)⟩
  subst he
  refine ⟨lim.keeps x.toInCall.keep, codeAny_func ?_⟩
  obtain ⟨t, ht, hq⟩ := hbody cdv A outer s H vs Q E (hr.deeper _) hsp
  refine wpAny_mono (ht.run [] s1 _ H _ (inv_startQ S e0 hl r x) hq) (fun fl s' hs => ?_) fun e s' hs => hs
  cases fl with
  | ret u =>
    obtain ⟨v, σ', H', J, rv, q⟩ := hs
    exact ⟨v, H', J.os, J.bare, J.base, J.hok, rv, q⟩
  | next =>
    obtain ⟨σ', H', J, q⟩ := hs
    exact ⟨V.non, H', J.os, J.bare, J.base, J.hok, rfl, q⟩
  | brk =>
    obtain ⟨_, _, _, q⟩ := hs
    exact q.elim
  | cont =>
    obtain ⟨_, _, _, q⟩ := hs
    exact q.elim
end
section
variable {X : Cx} {CX : CXT} {k : Nat} {f : Addr} {fd : FuncData} {ps : List Str} {sp : Sp} {E : XK} {x : Str} {q pos : Pos} {e : Expr} {es : List Expr} {t : TA} {dvs : List V} {ds : List Value}
theorem run_fnQ {pins : List (Addr × Obj)} {σ : L2.St} {H : Hp} {s : Shared} {Q : VK} {us : List Value} {vs : List V} (F : FnQ X.prog X.w X.K X.mg X.base CX k f fd ps sp) (hr : L2H.RoomH k X.A) (hb : Binds X.K fd ps ds) (hd : Vals dvs ds) (hx : Passes CX X E)
    (I : Inv X pins σ H s) (r : Vals vs us) (h : sp (vs ++ dvs) H Q E) : wpAny (model X.prog X.w) X.A (call (.ref f) us) (EP X pins σ Q) X.xe s := by
  have r2 : Vals (vs ++ dvs) (us ++ ds) := r.append hd
  have hl : (us ++ ds).length = ps.length := r2.length.symm.trans (F.len _ _ _ _ h)
  refine wpAny_call (codeAny_mono (F.run X.A X.stack s H ⟨us, []⟩ _ _ Q E hr I.env0 (hb s us I.kIn hl) r2 h) fun r s' hq => ?_)
  match r, hq with
  | .error e, hq => exact hx pins σ H s e s' I hq
  | .ok (.ret u), hq => exact I.after hq
/-- f(..) of a def that raises nothing -/
theorem pe_callQ (F : FnQ X.prog X.w X.K X.mg X.base CX k f fd ps sp) (hr : L2H.RoomH k X.A) (hg : Gl X x) (hm : X.mg x = some (.ref f)) (hk : PySem.W.keepIn X.K (.ref f) = true) (hb : Binds X.K fd ps ds) (hd : Vals dvs ds) (hx : Passes CX X E)
    (ha : PA X (e :: es) t) (hdb : (x == ("__debug__" : Str)) = false := by decide) (he : starEach (e :: es) X.env = (false, eval e X.env) :: starEach es X.env := by rfl) (hpl : (backTo pos (starEach es X.env)).any (·.1) = false := by rfl) :
    PE X (.Call (.Name x q) (e :: es) [] pos) (tCall sp dvs E t) := by
  refine ⟨fun pins s σ H Q I h => ?_⟩
  refine wpAny_Call_Name_kw (ld_glob I hg hm ?_ hdb)
  refine PySem.W.callWith_K (h₀ := X.base) I.ok.mod.kin hk (thn (ha.run pos pins s σ H _ I h) fun us s1 hh => ?_) he hpl
  obtain ⟨vs, H1, I1, r, z⟩ := hh
  exact ⟨I1.kIn, run_fnQ F hr hb hd hx I1 r z⟩
end
end Rim
set_option Elab.async false
set_option linter.all false
set_option maxRecDepth 100000
set_option maxHeartbeats 4000000
namespace Rim
open PySem PySem.Spec PyProof.Rows L2
/-! ### raise C(), C an own class without an __init__ of its own -/
abbrev bmVE : List Value := [.type "ValueError", .type "Exception", .type "BaseException", .type "object"]
structure Err0 (K : PySem.W.Frag) (C : Addr) : Prop where
  ex : PySem.W.excIn K C bmVE "ValueError.__new__" = true
  kp : PySem.W.keepIn K (.ref C) = true
  sb : PySem.W.subIn K (.ref C) (.type "BaseException") = some true
  ty : PySem.W.typeIn K (.ref C) = some (.type "type")
def kErr0 (x : Str) : Chk := fun K => PySem.W.excIn K (cl K x) bmVE "ValueError.__new__" && (PySem.W.keepIn K (.ref (cl K x)) &&
  (decide (PySem.W.subIn K (.ref (cl K x)) (.type "BaseException") = some true) && decide (PySem.W.typeIn K (.ref (cl K x)) = some (.type "type"))))
theorem err0_of {K : PySem.W.Frag} {x : Str} (h : kErr0 x K = true) : Err0 K (cl K x) := by
  obtain ⟨h1, h⟩ := He.ba h
  obtain ⟨h2, h⟩ := He.ba h
  obtain ⟨h3, h4⟩ := He.ba h
  exact ⟨h1, h2, of_decide_eq_true h3, of_decide_eq_true h4⟩
theorem pmk_own0 {X : Cx} {C : Addr} {x : Str} {p pos : Pos} (T : Err0 X.K C) (gC : X.mg x = some (.ref C)) (hg : Gl X x) (hdb : (x == ("__debug__" : Str)) = false := by decide) :
    PMk X (.Call (.Name x p) [] [] pos) (fun _ H Q => Q (.ref C) none H) := by
  intro pins s σ H Q I h
  refine wpAny_Call_Name_kw (ld_glob I hg gC ?_ hdb)
  refine PySem.W.callWith_K0 I.kIn T.kp ?_
  obtain ⟨bm, N, nm, qn, bs, hdct, sn, sub, ab, col, dd, k0, k1, k2, k3, k5, mN, hC, hN, hni, tl⟩ := exc_obj I.kIn T.ex
  refine wpAny_call_exc_subT PySem.F.excBase_ValueError tl hC hN hni (fun h' e hm => ?_) (Nat.zero_le _)
  exact mk_of I hm (raises_own T.sb T.ty) h (I.hok.gone hm.new)
theorem ps_raise0 {X : Cx} {x : Str} {C : Addr} {W : WX} {p pos pos2 : Pos} (T : Err0 X.K C) (hm : X.mg x = some (.ref C)) (tk : Takes X W)
    (hc : X.calm = true := by rfl) (hg : Gl X x := by rfl) (hdb : (x == ("__debug__" : Str)) = false := by decide) :
    PS X (.Raise (some (.Call (.Name x p) [] [] pos)) none pos2) (tRaise0 C W) :=
  ps_imp (ps_raise hc tk (pmk_own0 T hm hg hdb)) fun D σ H h => h

/-! ### calls in a try's body: what is raised is wished for at the slots -/
section
variable {X : Cx} {CX : CXT} {k : Nat} {f C : Addr} {fd : FuncData} {ps : List Str} {sp : Sp} {dvs : List V} {ds : List Value} {E : L2.St → XK} {x m : Str} {p pos apos : Pos} {e o : Expr} {es : List Expr} {ta : TE} {t : TA}
def tMethS_ (C : Addr) (m : Str) (sp : Sp) (dvs : List V) (E : L2.St → XK) (ta : TE) (t : TA) : TE := fun σ H Q => ta σ H fun x H1 => ∃ a dx fs, x = .ref a ∧ H1 a = some (.ins C dx fs) ∧ fs.lookup m = none ∧ t σ H1 fun vs H2 => sp (x :: (vs ++ dvs)) H2 Q (E σ)
/-- an expression whose reading asks of this σ alone -/
theorem pe_at {e : Expr} {tf : L2.St → TE} (h : ∀ σ0, (∀ pins s H Q, Inv X pins σ0 H s → tf σ0 σ0 H Q → wpAny (model X.prog X.w) X.A (eval e X.env) (EP X pins σ0 Q) X.xe s)) : PE X e (fun σ H Q => tf σ σ H Q) :=
  ⟨fun pins s σ H Q I q => h σ pins s H Q I q⟩
theorem pe_methS {pl : Sem Bool} (he : PE X o ta) (c : Cls X.K C) (hm : Meth X.K C m f) (F : FnOk X.prog X.w X.K X.mg X.base CX k f fd ps sp) (hr : Room k X.A) (hb : Binds X.K fd ps ds) (hd : Vals dvs ds) (hx : ∀ σ, PassesAt CX X σ (E σ)) (ha : PA X (e :: es) t)
    (hst : starEach (e :: es) X.env = (false, eval e X.env) :: starEach es X.env := by rfl) (hpl : (backTo pos (starEach es X.env)).any (·.1) = false := by rfl)
    (ht : eval (.Call (.Attribute o m apos) (e :: es) [] pos) X.env = (do
      let ov ← eval o X.env
      standAt apos.atName
      let (f, first) ← holding [ov] (getMethod ov m pl)
      callWith pos f first (backTo pos (starEach (e :: es) X.env)) (backToKw pos (keywordEach [] X.env))) := by rfl) :
    PE X (.Call (.Attribute o m apos) (e :: es) [] pos) (tMethS_ C m sp dvs E ta t) := by
  refine ⟨fun pins s σ H Q I h => PySem.W.methodCall_KW (pl := pl) (thn (he.run pins s σ H _ I h) fun u s1 hh => ?_) ht⟩
  obtain ⟨x, H1, I1, rx, a, dx, fs, ex, ea, l, q⟩ := hh
  subst ex
  cases (show u = Value.ref a from rx)
  refine getmeth_ok I1 ea c hm l (PySem.W.callWith_K (first := [.ref a]) (h₀ := X.base) I.ok.mod.kin hm.kp (thn (ha.run pos pins s1 σ H1 _ I1 q) fun us s2 hh2 => ?_) hst hpl)
  obtain ⟨vs, H2, I2, r, q2⟩ := hh2
  exact ⟨I2.kIn, run_fnSD (us := .ref a :: us) (vs := .ref a :: vs) F hr hb hd (hx σ) I2 (.cons rfl r) q2⟩
theorem pe_methS0 {pl : Sem Bool} (he : PE X o ta) (c : Cls X.K C) (hm : Meth X.K C m f) (F : FnOk X.prog X.w X.K X.mg X.base CX k f fd ps sp) (hr : Room k X.A) (hb : Binds X.K fd ps ds) (hd : Vals dvs ds) (hx : ∀ σ, PassesAt CX X σ (E σ))
    (ht : eval (.Call (.Attribute o m apos) [] [] pos) X.env = (do
      let ov ← eval o X.env
      standAt apos.atName
      let (f, first) ← holding [ov] (getMethod ov m pl)
      callWith pos f first (backTo pos (starEach [] X.env)) (backToKw pos (keywordEach [] X.env))) := by rfl) :
    PE X (.Call (.Attribute o m apos) [] [] pos) (tMethS_ C m sp dvs E ta tNil) := by
  refine ⟨fun pins s σ H Q I h => PySem.W.methodCall_KW (pl := pl) (thn (he.run pins s σ H _ I h) fun u s1 hh => ?_) ht⟩
  obtain ⟨x, H1, I1, rx, a, dx, fs, ex, ea, l, q⟩ := hh
  subst ex
  cases (show u = Value.ref a from rx)
  exact getmeth_ok I1 ea c hm l (PySem.W.callWith_K0 (first := [.ref a]) I1.kIn hm.kp (run_fnSD (us := [.ref a]) (vs := [.ref a]) F hr hb hd (hx σ) I1 (.cons rfl .nil) q))
def tMakeS (C : Addr) (sp : Sp) (dvs : List V) (E : L2.St → XK) (t : TA) : TE := fun σ H Q => tMake C sp dvs (E σ) t σ H Q
/-- a call's exceptions, wished for at these slots, reach the context when its slots are these -/
theorem pe_makeS (M : Mk X.K C f) (F : FnOk X.prog X.w X.K X.mg X.base CX k f fd ps sp) (hr : Room (k + 1) X.A) (hg : Gl X x) (hm : X.mg x = some (.ref C)) (hb : Binds X.K fd ps ds) (hd : Vals dvs ds) (hx : ∀ σ, PassesAt CX X σ (E σ))
    (ha : PA X (e :: es) t) (hdb : (x == ("__debug__" : Str)) = false := by decide) (he : starEach (e :: es) X.env = (false, eval e X.env) :: starEach es X.env := by rfl) (hpl : (backTo pos (starEach es X.env)).any (·.1) = false := by rfl) :
    PE X (.Call (.Name x p) (e :: es) [] pos) (tMakeS C sp dvs E t) := by
  refine ⟨fun pins s σ H Q I h => wpAny_Call_Name_kw (ld_glob I hg hm ?_ hdb)⟩
  refine PySem.W.callWith_K (h₀ := X.base) I.ok.mod.kin M.kp (thn (ha.run pos pins s σ H _ I h) fun us s1 hh => ?_) he hpl
  obtain ⟨vs, H1, I1, r, h⟩ := hh
  refine ⟨I1.kIn, ?_⟩
  have hq := h (s1.heap.objs.size + 1) s1.heap.objs.size (I1.hok.fresh (Nat.le_succ _)) (I1.hok.fresh (Nat.le_refl _)) (Nat.ne_of_lt (Nat.lt_succ_self _))
  have I2 := Inv.made (C := C) I1
  have r2 : Vals (V.ref (s1.heap.objs.size + 1) :: (vs ++ dvs)) (Value.ref (s1.heap.objs.size + 1) :: (us ++ ds)) := .cons rfl (r.append hd)
  have hl : (Value.ref (s1.heap.objs.size + 1) :: us ++ ds).length = ps.length := r2.length.symm.trans (F.len _ _ _ _ hq)
  have run := F.run _ X.stack _ _ ⟨Value.ref (s1.heap.objs.size + 1) :: us, []⟩ _ _ _ (E σ) (hr.make C us []) (I2.env0.make C us []) (hb _ (Value.ref (s1.heap.objs.size + 1) :: us) I2.kIn hl) r2 hq
  refine wpAny_call (make_map (f := f) I1.kIn M.makes M.init (beq_iff_eq.mp M.fn) (codeAny_mono run fun r s' hq' => ?_))
  match r, hq' with
  | .error e, hq' => exact hx σ pins _ _ e s' I2 hq'
  | .ok (.ret u), hq' =>
    obtain ⟨v, H', I3, rv, ev, q3⟩ := I2.after hq'
    subst ev
    exact ⟨rv, V.ref (s1.heap.objs.size + 1), H', I3, rfl, q3⟩
end
section
variable {K : PySem.W.Frag} {σ : L2.St} {H : Hp} {Q : VK} {D : Ends} {ta : TE} {aa : TA} {C : Addr} {m : Str} {sp : Sp} {dvs : List V} {E : L2.St → XK} {W : WX}
theorem w_methS (k : ta σ H fun x H1 => ∃ a dx fs, x = .ref a ∧ H1 a = some (.ins C dx fs) ∧ fs.lookup m = none ∧ aa σ H1 fun vs H2 => sp (x :: (vs ++ dvs)) H2 Q (E σ)) : tMethS_ C m sp dvs E ta aa σ H Q := k
theorem w_makeS (k : aa σ H fun vs H1 => ∀ x dx, H1 x = none → H1 dx = none → dx ≠ x → sp (.ref x :: (vs ++ dvs)) (upd (upd H1 dx (.own x)) x (.ins C dx [])) (fun v H2 => v = .non ∧ Q (.ref x) H2) (E σ)) : tMakeS C sp dvs E aa σ H Q := k
theorem w_raise0 (k : W (.ref C) none σ H) : tRaise0 C W D σ H := k
theorem w_callSD (k : aa σ H fun vs H1 => sp (vs ++ dvs) H1 Q (E σ)) : tCallSD sp dvs E aa σ H Q := k
end
end Rim
set_option Elab.async false
set_option linter.all false
set_option maxRecDepth 100000
set_option maxHeartbeats 4000000
namespace Rim
open PySem PySem.Spec PyProof.Rows L2
/-! ### sorted(xs), sorted(d): items that read as data of one shape -/
abbrev VD : Type := V × PyData
def sortVD (ps : List VD) : List VD := ps.mergeSort (PySem.W.dataLe false Prod.snd)
/-- what a sorted list of data asks: all alike, all tuples that have an item (or none a tuple) -/
structure SortOk (ds : List PyData) : Prop where
  al : PySem.W.AllAlike ds
  so : PySem.W.Sortable ds
  dp : ∀ d ∈ ds, d.depth ≤ 60
  few : ds.length ≤ sizeLine
def rSortL (K : PySem.W.Frag) : List V → Hp → VK → Prop := fun xs H Q => ∃ (a : Addr) (ps : List VD), xs = [.ref a] ∧ SqL K H a (ps.map Prod.fst) ∧ (∀ p ∈ ps, Dp K H p.1 p.2) ∧ SortOk (ps.map Prod.snd) ∧
  ∀ q, H q = none → Q (.ref q) (upd H q (.lst ((sortVD ps).map Prod.fst)))
section
variable {X : Cx} {pins : List (Addr × Obj)} {σ : L2.St} {H : Hp} {s : Shared}
theorem each_vd (I : Inv X pins σ H s) : ∀ {ps : List VD} {us : List Value}, Vals (ps.map Prod.fst) us → (∀ p ∈ ps, Dp X.K H p.1 p.2) →
    PySem.W.EachIs (fun (u : Value) (p : VD) => RelV p.1 u) us ps ∧ PySem.W.EachIs (fun (u : Value) (p : VD) => ∃ as, Reads s.heap u p.2 as) us ps
  | [], us, r, _ => by
    cases r
    exact ⟨.nil, .nil⟩
  | p :: ps, us, r, h => by
    cases r with
    | cons ru rt =>
      obtain ⟨h1, h2⟩ := each_vd I rt fun q hq => h q (List.mem_cons_of_mem _ hq)
      exact ⟨.cons ru h1, .cons (Dp.reads I _ _ _ (h p (List.mem_cons_self ..)) ru) h2⟩
theorem vals_each : ∀ {ps : List VD} {us : List Value}, PySem.W.EachIs (fun (u : Value) (p : VD) => RelV p.1 u) us ps → Vals (ps.map Prod.fst) us
  | [], _, .nil => .nil
  | _ :: _, _, .cons h r => .cons h (vals_each r)
theorem sortVD_len (ps : List VD) : (sortVD ps).length = ps.length := by
  unfold sortVD
  exact List.length_mergeSort ps
theorem call_sortL (hu : X.A.units + 66 < cLine) : CallR X (.builtin "sorted") (rSortL X.K) := by
  intro pins s σ H xs us Q I r h
  obtain ⟨a, ps, rfl, hl, hd, so, q⟩ := h
  obtain ⟨u, rfl, rx⟩ := r.one
  cases rx
  obtain ⟨its, rv, pl, hz⟩ := I.list hl
  obtain ⟨e, er⟩ := each_vd I rv hd
  have hL : ps.length ≤ sizeLine := by
    have z := so.few
    rw [List.length_map] at z
    exact z
  refine PySem.W.sorted_data (enc := Prod.snd) pl.isList e er so.al so.so hL (fun b hb => ?_) fun out ho eo => ?_
  · have z := so.dp b.2 (List.mem_map.mpr ⟨b, hb, rfl⟩)
    omega
  · obtain ⟨c, hc⟩ := PyProof.Rows.sortedAll_at s.heap its out.toArray
    refine ⟨.ref (s.heap.objs.size + 1), _, I.laid (t' := s.toks) (o := .lst ((sortVD ps).map Prod.fst)) (fun _ _ => PyProof.Rows.sortedAll_old) (Nat.le_succ _) ?_, rfl, q _ (I.hok.fresh (Nat.le_succ _))⟩
    exact ⟨by rw [List.length_map, sortVD_len]; exact hL, out, c, vals_each eo, hc⟩

/-! keys that are tuples -/
def keyD : Key → PyData
  | .inl i => .int i
  | .inr x => .str x
def keysD (k : List Key) : PyData := .tuple (k.map keyD)
theorem dp_key {K : PySem.W.Frag} {H : Hp} (k : Key) : Dp K H (kV k) (keyD k) := by
  cases k with
  | inl i => exact .int i
  | inr x => exact .str x
theorem dpAll_keys {K : PySem.W.Frag} {H : Hp} : ∀ k : List Key, DpAll K H (k.map kV) (k.map keyD)
  | [] => .nil
  | x :: r => .cons (dp_key x) (dpAll_keys r)
theorem dp_keys {K : PySem.W.Frag} {H : Hp} {b : Addr} {k : List Key} (h : H b = some (.tup (k.map kV))) : Dp K H (.ref b) (keysD k) := .tup (sq_t h) (dpAll_keys k)
def sortKs (ks : List (List Key)) : List (List Key) := ks.mergeSort (PySem.W.dataLe false keysD)
/-- tuples at these places hold these keys -/
abbrev KeyAt (H : Hp) (ks : List (List Key)) (bs : List Addr) : Prop := Paired (fun k b => H b = some (.tup (List.map kV k))) ks bs
def rSortT : List V → Hp → VK → Prop := fun xs H Q => ∃ (a : Addr) (kvs : List (List Key × V)), xs = [.ref a] ∧ Rd H a (.dT kvs) ∧ SortOk (kvs.map fun kv => keysD kv.1) ∧
  ∀ p bs, H p = none → KeyAt H (sortKs (kvs.map (·.1))) bs → Q (.ref p) (upd H p (.lst (bs.map V.ref)))
theorem each_keys {hp : Heap} {P : Program} {w : World} (x : HOk P w H hp) : ∀ {kvs : List (List Key × V)} {ks : List (List Key × Addr × Value)}, KT H kvs ks →
    PySem.W.EachIs (fun (u : Value) (k : List Key) => ∃ b, u = .ref b ∧ H b = some (.tup (k.map kV)) ∧ (tupleKind (mixKind P w)).is hp k b) (ks.map fun x => Value.ref x.2.1) (kvs.map (·.1))
  | [], _, .nil => .nil
  | p :: kvs, _, .cons (b := q) h r => by
    refine .cons ⟨q.2.1, rfl, ?_, ?_⟩ (each_keys x r)
    · exact h.2.1
    · exact key_of x h.2.1
theorem keyAt_each : ∀ {ks : List (List Key)} {us : List Value} {hp : Heap} {P : Program} {w : World}, PySem.W.EachIs (fun (u : Value) (k : List Key) => ∃ b, u = .ref b ∧ H b = some (.tup (k.map kV)) ∧ (tupleKind (mixKind P w)).is hp k b) us ks →
    ∃ bs : List Addr, us = bs.map Value.ref ∧ KeyAt H ks bs
  | [], _, _, _, _, .nil => ⟨[], rfl, .nil⟩
  | k :: ks, _, _, _, _, .cons h r => by
    obtain ⟨b, rfl, h1, _⟩ := h
    obtain ⟨bs, rfl, h2⟩ := keyAt_each r
    exact ⟨b :: bs, rfl, .cons h1 h2⟩
theorem mem_each {α β : Type} {R : α → β → Prop} {P : β → Prop} : ∀ {us : List α} {ks : List β}, PySem.W.EachIs R us ks → (∀ k ∈ ks, P k) → PySem.W.EachIs (fun u k => R u k ∧ P k) us ks
  | [], _, .nil, _ => .nil
  | _ :: _, _, .cons h r, q => .cons ⟨h, q _ (List.mem_cons_self ..)⟩ (mem_each r fun k hk => q k (List.mem_cons_of_mem _ hk))
theorem reads_keys {hp : Heap} : ∀ {k : List Key} {vs : List Value} {as : List Addr}, PySem.ReadsAll hp vs (k.map keyD) as → as = []
  | [], _, _, .nil => rfl
  | x :: k, _, _, .cons h r => by
    rw [reads_keys r]
    cases x with
    | inl i =>
      cases h
      rfl
    | inr z =>
      cases h
      rfl
theorem reads_key {hp : Heap} {k : List Key} {u : Value} {as : List Addr} (h : PySem.Reads hp u (keysD k) as) : as = [] := by
  cases h with
  | tuple _ _ _ r => exact reads_keys r
theorem call_sortT (hc : X.calm = true) (hu : X.A.units + 66 < cLine) : CallR X (.builtin "sorted") rSortT := by
  intro pins s σ H xs us Q I r h
  obtain ⟨d, kvs, rfl, hd, so, q⟩ := h
  obtain ⟨u, rfl, rx⟩ := r.one
  cases rx
  obtain ⟨z, hs, ks, pr, o, es, ep, ho, hx, hdt, he, hn⟩ := (show ObjOk X.prog X.w H s.heap d (.dT kvs) from hd.ok I.hok)
  have l1 : es.size = ks.length := size_of_entries he
  have l2 : kvs.length = ks.length := Paired.length pr
  refine Calls.call_function_entry PyProof.Rows.kind_sorted PyProof.Rows.plain_sorted PyProof.Rows.entry_sorted (PyProof.Rows.args_sorted1 _) ?_
  unfold Builtin.«sorted»
  refine wpAny_bind (m := checkCount "sorted" 1 1 _) (wpAny_pure ?_)
  refine wpAny_bind (PySem.W.kdu_collect (A := X.A.in1) (kdl_raw hs hx hdt) (I.ok.hd hc) ho (by omega) fun h' tk acc hk it => ?_)
  have ea : acc.toList = ks.map fun x => Value.ref x.2.1 := by
    have hl : acc.toList.length = ks.length := by rw [Array.length_toList, it.1]; exact l1
    refine List.ext_getElem? fun j => ?_
    rw [List.getElem?_map]
    cases hj : acc.toList[j]? with
    | none =>
      have h1 := List.getElem?_eq_none_iff.mp hj
      rw [hl] at h1
      rw [List.getElem?_eq_none h1]
      rfl
    | some v =>
      rw [Array.getElem?_toList] at hj
      obtain ⟨en, hen, hv⟩ := it.2 j v hj
      have qe := entry_at he j
      rw [hen] at qe
      cases hb : ks[j]? with
      | none =>
        rw [hb] at qe
        cases qe
      | some b =>
        rw [hb] at qe
        have e2 : en = entryOfKey (tupleKind (mixKind X.prog X.w)) b := Option.some.inj qe
        rw [hv, e2]
        rfl
  have hlen : acc.toList.length = kvs.length := by rw [ea, List.length_map, l2]
  have I1 : Inv X pins σ H { s with heap := h', toks := tk } := I.kept hk
  refine wpAny_bind (wpAny_newList ?_ (by rw [hlen]; exact z))
  have hoL : (h'.push (seqObj "list" acc.toList.toArray 0)).get? h'.objs.size = some (seqObj "list" acc.toList.toArray 0) := Heap.get?_push_size _ rfl
  show wpAny _ _ _ _ _ { s with heap := h'.push (seqObj "list" acc.toList.toArray 0), toks := tk }
  have hf : H h'.objs.size = none := I1.hok.fresh (Nat.le_refl _)
  have I2 : Inv X pins σ H { s with heap := h'.push (seqObj "list" acc.toList.toArray 0), toks := tk } := I1.kept (t' := tk) fun b o e => Heap.get?_push_of_some _ e
  have e1 := each_keys (P := X.prog) (w := X.w) I1.hok pr
  rw [← ea] at e1
  have e2 : PySem.W.EachIs (fun (u : Value) (k : List Key) => ∃ as, Reads (h'.push (seqObj "list" acc.toList.toArray 0)) u (keysD k) as ∧ h'.objs.size ∉ as) acc.toList (kvs.map (·.1)) := by
    refine e1.mono fun u k hb => ?_
    obtain ⟨b, rfl, hb, _⟩ := hb
    obtain ⟨as, rd⟩ := Dp.reads I1 _ _ _ (dp_keys (K := X.K) hb) (rfl : RelV (.ref b) (.ref b))
    have e0 := reads_key rd
    subst e0
    exact ⟨[], PyProof.Rows.Reads.keeps (fun _ _ e => Heap.get?_push_of_some _ e) rd, fun hm => nomatch hm⟩
  have so' : SortOk ((kvs.map (·.1)).map keysD) := by
    rw [List.map_map]
    exact so
  refine wpAny_bind (wpAny_holding (PySem.W.list_sort_data (enc := keysD) (s := { s with heap := h'.push (seqObj "list" acc.toList.toArray 0), toks := tk }) hoL e1 e2 so'.al so'.so (by rw [List.length_map]; exact z) (fun b hb => ?_) fun out hlo eo => ?_))
  · have y := so'.dp _ (List.mem_map.mpr ⟨b, hb, rfl⟩)
    have hu' : X.A.in1.units = X.A.units + 1 := rfl
    omega
  · obtain ⟨bs, rfl, kb⟩ := keyAt_each eo
    obtain ⟨c, hcx⟩ := PyProof.Rows.sortedHeap_at (vs := acc.toList) (out := (bs.map Value.ref).toArray) hoL
    have lb : bs.length ≤ sizeLine := by
      rw [List.length_map, List.length_map] at hlo
      rw [hlo]
      exact z
    refine wpAny_pure ⟨_, rfl, .ref h'.objs.size, upd H h'.objs.size (.lst (bs.map V.ref)), I1.laid (t' := tk) (fun b u e => ?_) (Nat.le_refl _) ?_, rfl, q _ bs hf kb⟩
    · have hb : b < h'.objs.size := Heap.lt_size e
      rw [PyProof.Rows.sortedHeap_old (Nat.ne_of_lt hb) (by rw [size_push']; exact Nat.lt_succ_of_lt hb)]
      exact Heap.get?_push_of_some _ e
    · exact ⟨by rw [List.length_map]; exact lb, bs.map Value.ref, c, vals_refs bs, hcx⟩
end
end Rim
set_option Elab.async false
set_option linter.all false
set_option maxRecDepth 100000
set_option maxHeartbeats 4000000
namespace Rim
open PySem PySem.Spec PyProof.Rows L2
/-! ### walks over things that stay -/
structure Wk (J : It) (xs : List V) (ok : Hp → Prop) : Prop where
  go : ∀ i H, ok H → i < xs.length → J.go i H
  stop : ∀ H, ok H → J.stop xs.length H
  yld : ∀ i x H H', ok H → i < xs.length → J.yld i H x H' → H' = H ∧ xs[i]? = some x
theorem wk_list {K : PySem.W.Frag} (a : Addr) (xs : List V) : Wk (Itl K a) xs (fun H => SqL K H a xs) where
  go := fun i H h hi => ⟨xs, xs[i], h, List.getElem?_eq_getElem hi⟩
  stop := fun H h => ⟨xs, h, Nat.le_refl _⟩
  yld := fun i x H H' h _ y => ⟨y.1, y.2 xs h⟩
theorem wk_tup {K : PySem.W.Frag} (a : Addr) (xs : List V) : Wk (Itt K a) xs (fun H => SqT K H a xs) where
  go := fun i H h hi => ⟨xs, xs[i], h, List.getElem?_eq_getElem hi⟩
  stop := fun H h => ⟨xs, h, Nat.le_refl _⟩
  yld := fun i x H H' h _ y => ⟨y.1, y.2 xs h⟩
theorem wk_vals (d : Addr) (o : Obj) (kvs : List (Key × V)) : Wk (Itd d o kvs) (kvs.map (·.2)) (fun H => H d = some (.frz o (.dK kvs))) where
  go := fun i H h hi => ⟨h, by rwa [List.length_map] at hi⟩
  stop := fun H h => ⟨h, by rw [List.length_map]; exact Nat.le_refl _⟩
  yld := fun i x H H' h _ y => by
    obtain ⟨e, k, q⟩ := y
    exact ⟨e, by rw [List.getElem?_map, q]; rfl⟩
theorem wk_keys (d : Addr) (o : Obj) (kvs : List (Key × V)) : Wk (Itk d o kvs) (kvs.map fun kv => kV kv.1) (fun H => H d = some (.frz o (.dK kvs))) where
  go := fun i H h hi => ⟨h, by rwa [List.length_map] at hi⟩
  stop := fun H h => ⟨h, by rw [List.length_map]; exact Nat.le_refl _⟩
  yld := fun i x H H' h _ y => by
    obtain ⟨e, k, v, q, rfl⟩ := y
    exact ⟨e, by rw [List.getElem?_map, q]; rfl⟩
def rgL (lo : Int) (n : Nat) : List V := (List.range n).map fun (i : Nat) => V.int (lo + (i : Int))
theorem rgL_len {lo : Int} {n : Nat} : (rgL lo n).length = n := by
  unfold rgL
  rw [List.length_map, List.length_range]
theorem rgL_get {lo : Int} {n i : Nat} {x : V} (h : (rgL lo n)[i]? = some x) : i < n ∧ x = .int (lo + (i : Int)) := by
  unfold rgL at h
  rw [List.getElem?_map] at h
  cases hr : (List.range n)[i]? with
  | none =>
    rw [hr] at h
    cases h
  | some j =>
    rw [hr] at h
    obtain ⟨h1, h2⟩ := List.getElem?_eq_some_iff.mp hr
    rw [List.length_range] at h1
    rw [List.getElem_range] at h2
    subst h2
    cases h
    exact ⟨h1, rfl⟩
theorem wk_rng (lo : Int) (n : Nat) : Wk (Itr lo n) (rgL lo n) (fun _ => True) where
  go := fun i H _ hi => by rwa [rgL_len] at hi
  stop := fun H _ => by
    rw [rgL_len]
    exact Nat.le_refl _
  yld := fun i x H H' _ hi y => by
    obtain ⟨rfl, rfl⟩ := y
    rw [rgL_len] at hi
    refine ⟨rfl, ?_⟩
    unfold rgL
    rw [List.getElem?_map, List.getElem?_range hi]
    rfl
section
variable {J : It} {xs : List V} {ok : Hp → Prop} {g : TG} {tb : TS} {D : Ends} {σ : L2.St} {H : Hp}
theorem for_wk (S : Wk J xs ok) (P : Nat → L2.St → Hp → Prop) (h0 : P 0 σ H) (ho : ∀ i σ H, i ≤ xs.length → P i σ H → ok H)
    (hs : ∀ i x σ H, xs[i]? = some x → P i σ H → g x σ H fun σ2 H2 => tb { D with nx := P (i + 1), ct := P (i + 1), bk := D.nx } σ2 H2) (he : ∀ σ H, P xs.length σ H → D.nx σ H) : ForB J g tb D σ H := by
  refine ⟨fun i m σ H => m + i = xs.length ∧ P i σ H, ⟨xs.length, rfl, h0⟩, fun i m σ H hw => ?_⟩
  obtain ⟨hm, p⟩ := hw
  have hi : i ≤ xs.length := by omega
  by_cases hlt : i < xs.length
  · refine .inr ⟨S.go i H (ho i σ H hi p) hlt, P (i + 1), fun σ' H' p' => ⟨m - 1, by omega, by omega, p'⟩, fun x H' y => ?_⟩
    obtain ⟨rfl, hx⟩ := S.yld i x H H' (ho i σ H hi p) hlt y
    exact hs i x σ H' hx p
  · have e : i = xs.length := by omega
    subst e
    exact .inl ⟨S.stop H (ho _ σ H hi p), he σ H p⟩
end
section
variable {J : It} {xs : List V} {ok : Hp → Prop} {σ : L2.St} {H1 : Hp} {Qd : Hp → Prop} {g : TG} {tt : TT} {te : TE} {vs : List Nat} {D : Addr}
/-- the items of which f is true, in their order: what acc holds of each of the first i -/
def Got (f : Nat → Bool) (P : Nat → V → Hp → Prop) (i : Nat) (acc : List V) (H : Hp) : Prop :=
  acc.length = ((List.range i).filter f).length ∧ ∀ (j k : Nat), ((List.range i).filter f)[j]? = some k → ∃ v : V, acc[j]? = some v ∧ P k v H
theorem lc_wk (S : Wk J xs ok) (hD : H1 D = none) (hok : ok H1) (ks : ∀ H H', Same H H' → ok H → ok H') (hn : xs.length ≤ 1000000) (σs : Nat → V → L2.St) (f : Nat → Bool) (P : Nat → V → Hp → Prop) (st : ∀ i v H H', KeepNL H H' → P i v H → P i v H')
    (hw : ∀ i x, wipe (σs i x) vs = wipe σ vs) (hg : ∀ i x H' (R : L2.St → Hp → Prop), xs[i]? = some x → Same H1 H' → R (σs i x) H' → g x (wipe σ vs) H' R)
    (ht : ∀ i x H' (R : Bool → Hp → Prop), xs[i]? = some x → Same H1 H' → (∀ H3, Same H' H3 → R (f i) H3) → tt (σs i x) H' R)
    (hs : ∀ i x H' (R : VK), xs[i]? = some x → f i = true → Same H1 H' → (∀ v H'', Same H' H'' → P i v H'' → R v H'') → te (σs i x) H' R)
    (hd : ∀ (acc : List V) H', Same H1 H' → Got f P xs.length acc H' → H' D = some (.lst acc) → Qd H') : LcB J g tt te vs σ D H1 Qd := by
  refine ⟨fun i m H => m + i = xs.length ∧ ∃ acc : List V, Same H1 H ∧ Got f P i acc H ∧ H D = some (.lst acc), ⟨xs.length, rfl, [], same_new hD, ⟨rfl, fun (j k : Nat) (h : (List.filter f (List.range 0))[j]? = some k) => by simp at h⟩, upd_same⟩, fun i m H hw' => ?_⟩
  obtain ⟨hm, acc, hS, hG, hDa⟩ := hw'
  by_cases hlt : i < xs.length
  · refine .inr ⟨S.go i H (ks _ _ hS hok) hlt, fun H' => ∃ acc : List V, Same H1 H' ∧ Got f P (i + 1) acc H' ∧ H' D = some (.lst acc), fun H' p' => ⟨m - 1, by omega, by omega, p'⟩, fun x H' y => ?_⟩
    obtain ⟨rfl, hx⟩ := S.yld i x H H' (ks _ _ hS hok) hlt y
    refine hg i x H' _ hx hS ⟨hw i x, ?_⟩
    refine ht i x H' _ hx hS fun H3 hS3 => ?_
    have hr : List.range (i + 1) = List.range i ++ [i] := List.range_succ
    cases hf : f i with
    | true =>
      refine iteT (hs i x H3 _ hx hf (hS.trans hS3) fun v H4 hS4 hv => ?_)
      have hD4 : H4 D = some (.lst acc) := hS4 _ _ (hS3 _ _ hDa)
      have kn : KeepNL H4 (upd H4 D (.lst (acc ++ [v]))) := keepNL_lst hD4
      have kn' : KeepNL H' (upd H4 D (.lst (acc ++ [v]))) := (Same.nl (hS3.trans hS4)).trans kn
      have fl : (List.range (i + 1)).filter f = (List.range i).filter f ++ [i] := by
        rw [hr, List.filter_append, List.filter_cons_of_pos hf]
        rfl
      refine ⟨acc, hD4, ?_, acc ++ [v], same_mut ((hS.trans hS3).trans hS4) hD, ⟨?_, fun j k hj => ?_⟩, upd_same⟩
      · have h1 := hG.1
        have h2 : ((List.range i).filter f).length ≤ i := Nat.le_trans (List.length_filter_le _ _) (by rw [List.length_range]; exact Nat.le_refl _)
        rw [sizeLine_eq]
        omega
      · rw [fl, List.length_append, List.length_append, hG.1]
        rfl
      · rw [fl] at hj
        by_cases h1 : j < acc.length
        · rw [List.getElem?_append_left (by rw [← hG.1]; exact h1)] at hj
          obtain ⟨w, hw1, hw2⟩ := hG.2 j k hj
          exact ⟨w, by rw [List.getElem?_append_left h1]; exact hw1, st _ _ _ _ kn' hw2⟩
        · have h2 : j = acc.length := by
            have h3 := (List.getElem?_eq_some_iff.mp hj).1
            rw [List.length_append, ← hG.1] at h3
            simp at h3
            omega
          subst h2
          rw [hG.1, List.getElem?_append_right (Nat.le_refl _), Nat.sub_self] at hj
          cases hj
          exact ⟨v, by rw [List.getElem?_append_right (Nat.le_refl _), Nat.sub_self]; rfl, st _ _ _ _ kn hv⟩
    | false =>
      refine iteF ⟨acc, hS.trans hS3, ?_, hS3 _ _ hDa⟩
      have fl : (List.range (i + 1)).filter f = (List.range i).filter f := by
        rw [hr, List.filter_append, List.filter_cons_of_neg (by rw [hf]; exact Bool.false_ne_true)]
        simp
      refine ⟨by rw [fl]; exact hG.1, fun j k hj => ?_⟩
      rw [fl] at hj
      obtain ⟨w, hw1, hw2⟩ := hG.2 j k hj
      exact ⟨w, hw1, st _ _ _ _ (Same.nl hS3) hw2⟩
  · have e : i = xs.length := by omega
    subst e
    exact .inl ⟨S.stop H (ks _ _ hS hok), hd acc H hS hG hDa⟩
/-- without a test -/
theorem lc_wk1 {s : Nat} (S : Wk J xs ok) (hD : H1 D = none) (hok : ok H1) (ks : ∀ H H', Same H H' → ok H → ok H') (hn : xs.length ≤ 1000000) (P : Nat → V → Hp → Prop) (st : ∀ i v H H', KeepNL H H' → P i v H → P i v H')
    (hs : ∀ i x H' (R : VK), xs[i]? = some x → Same H1 H' → (∀ v H'', Same H' H'' → P i v H'' → R v H'') → te ((wipe σ [s]).set s (some x)) H' R)
    (hd : ∀ (acc : List V) H', Same H1 H' → acc.length = xs.length → (∀ i v, acc[i]? = some v → P i v H') → H' D = some (.lst acc) → Qd H') : LcB J (gName s) tYes te [s] σ D H1 Qd := by
  refine lc_wk S hD hok ks hn (fun i x => (wipe σ [s]).set s (some x)) (fun _ => true) P st (fun i x => wipe_set1) (fun i x H' R _ _ h => h) (fun i x H' R _ _ h => h H' (fun _ _ e => e)) (fun i x H' R hx _ hS h => hs i x H' R hx hS h) fun acc H' hS hG hDa => ?_
  have fl : (List.range xs.length).filter (fun _ => true) = List.range xs.length := List.filter_eq_self.mpr fun _ _ => rfl
  obtain ⟨h1, h2⟩ := hG
  rw [fl, List.length_range] at h1
  refine hd acc H' hS h1 (fun i v hv => ?_) hDa
  have hi : i < xs.length := by
    have := (List.getElem?_eq_some_iff.mp hv).1
    omega
  obtain ⟨w, hw1, hw2⟩ := h2 i i (by rw [fl, List.getElem?_range hi])
  rw [hv] at hw1
  cases hw1
  exact hw2
end
theorem upd_id {H : Hp} {d : Addr} {u : HO} (h : H d = some u) : upd H d u = H := by
  funext b
  by_cases hb : b = d
  · subst hb
    rw [upd_same, h]
  · rw [upd_ne hb]
/-- all but the thing at a is as it was -/
def But (a : Addr) (H H' : Hp) : Prop := ∀ b o, H b = some o → b ≠ a → H' b = some o
theorem But.refl {a : Addr} (H : Hp) : But a H H := fun _ _ h _ => h
theorem But.trans {a : Addr} {H H1 H2 : Hp} (h : But a H H1) (k : But a H1 H2) : But a H H2 := fun b o e n => k b o (h b o e n) n
theorem Same.but {a : Addr} {H H' : Hp} (h : Same H H') : But a H H' := fun b o e _ => h b o e
theorem but_upd {a : Addr} {H : Hp} {o : HO} : But a H (upd H a o) := fun b u e n => by
  rw [upd_ne n]
  exact e
/-! ### errors raised while a dict is walked: the dict is as it was -/
def unl (H0 : Hp) (E : XK) : XK := fun cls d H => ∃ (p : Addr) (od : Obj) (u : HO), H p = some (.frz od u) ∧ (∀ o' u', H0 p ≠ some (.frz o' u')) ∧ E cls d (upd H p u)
theorem takes_unl {X : Cx} {E : XK} (tk : Takes X (fun cls d _ H => E cls d H)) : Takes X (fun cls d _ H => unl X.H_0 E cls d H) := by
  rintro u s' ⟨a, B, sI, pins, σ, H, cls, d, e, I, nb, up, sky, na, os, ag, p, od, v, hp, hn, w⟩
  have ne : a ≠ p := fun z => by
    rw [z, hp] at na
    cases na
  exact tk u s' ⟨a, B, sI, pins, σ, _, cls, d, e, I.unlock hp hn, nb, up, sky, by rw [upd_ne ne]; exact na, os, ag, w⟩
end Rim
set_option Elab.async false
set_option linter.all false
set_option maxRecDepth 100000
set_option maxHeartbeats 4000000
namespace Rim
open PySem PySem.Spec PyProof.Rows L2
local macro_rules | `(tactic| walk_at "w1") => `(tactic| (with_reducible first
  | refine w_var rfl ?_ | refine w_c ?_ | refine w_seq ?_ | refine w_asg ?_ | refine w_gname ?_ | refine w_op ?_ | refine w_rI0 ?_ | refine w_cons ?_ | refine w_nil ?_ | refine w_test ?_ | refine w_bl ?_ | refine w_if ?_ | refine w_next ?_ | refine w_ret ?_ | refine w_b ?_
  | refine w_call ?_ | refine w_cb ?_ | refine w_not ?_ | refine w_and ?_ | refine w_or ?_ | refine w_andV ?_ | refine w_orV ?_ | refine w_notV ?_ | refine w_tif ?_ | refine w_tup ?_ | refine w_lst ?_ | refine w_drop ?_ | refine w_retN ?_ | refine w_un ?_ | refine w_neg ?_
  | refine w_callS ?_ | refine w_make ?_ | refine w_for ?_ | refine w_lc ?_ | refine w_rng1 ?_ | refine w_rng2 ?_ | refine w_il ?_ | refine w_it ?_ | refine w_iT ?_ | refine w_iF ?_ | refine w_iNT ?_ | refine w_iNF ?_ | refine w_eq rfl ?_ | refine w_ne rfl ?_ | refine w_min2 ?_ | refine w_max2 ?_ | refine w_abs ?_))
local macro_rules | `(tactic| walk_at "w") => `(tactic| ((try dsimp only [Bool.not_true, Bool.not_false]); repeat (walk_at "w1")))
local macro_rules | `(tactic| walk_at "if") => `(tactic| (first | (apply w_ited) | (apply w_iten) | (apply w_ite)))
local macro_rules | `(tactic| walk_at "len") => `(tactic| (first | (rw [sizeLine_eq]; exact Nat.le_of_ble_eq_true rfl) | (show _ ≤ sizeLine; rw [sizeLine_eq]; exact Nat.le_of_ble_eq_true rfl)))
/-! ### things of any kind -/
inductive Thg (K : PySem.W.Frag) (H : Hp) : V → PyData → Prop
  | non : Thg K H .non .none
  | bl (b : Bool) : Thg K H (.bl b) (.bool b)
  | int (i : Int) : Thg K H (.int i) (.int i)
  | str (x : Str) : Thg K H (.str x) (.str x)
  | lst {a : Addr} {xs : List V} {ds : List PyData} : H a = some (.lst xs) → DpAll K H xs ds → Thg K H (.ref a) (.list ds)
  | tup {a : Addr} {xs : List V} {ds : List PyData} : H a = some (.tup xs) → DpAll K H xs ds → Thg K H (.ref a) (.tuple ds)
theorem Thg.dp {K : PySem.W.Frag} {H : Hp} {v : V} {d : PyData} (h : Thg K H v d) : Dp K H v d := by
  cases h with
  | non => exact .non
  | bl b => exact .bl b
  | int i => exact .int i
  | str x => exact .str x
  | lst h r => exact .lst (sq_l h) r
  | tup h r => exact .tup (sq_t h) r
def tyD : PyData → String
  | .none => "NoneType"
  | .bool _ => "bool"
  | .int _ => "int"
  | .str _ => "str"
  | .list _ => "list"
  | .tuple _ => "tuple"
  | _ => ""
theorem Thg.ty {K : PySem.W.Frag} {H : Hp} {v : V} {d : PyData} (h : Thg K H v d) : TyX K H v (.type (tyD d)) := by
  cases h with
  | non => exact .base .non
  | bl b => exact .base (.bl b)
  | int i => exact .base (.int i)
  | str x => exact .base (.str x)
  | lst h r => exact .base (.lst h)
  | tup h r => exact .base (.tup h)
theorem Thg.same {K : PySem.W.Frag} {H H' : Hp} (e : Same H H') {v : V} {d : PyData} (h : Thg K H v d) : Thg K H' v d := by
  cases h with
  | non => exact .non
  | bl b => exact .bl b
  | int i => exact .int i
  | str x => exact .str x
  | lst h r => exact .lst (e _ _ h) (dpAll_same e r)
  | tup h r => exact .tup (e _ _ h) (dpAll_same e r)
/-- isinstance of a thing against a built-in type -/
def isIB (d : PyData) : Bool := match d with
  | .int _ => true
  | .bool _ => true
  | _ => false
def isBB (d : PyData) : Bool := match d with
  | .bool _ => true
  | _ => false
def isSB (d : PyData) : Bool := match d with
  | .str _ => true
  | _ => false
def isLB (d : PyData) : Bool := match d with
  | .list _ => true
  | _ => false
def isTB (d : PyData) : Bool := match d with
  | .tuple _ => true
  | _ => false
section
variable {K : PySem.W.Frag} {H : Hp} {Q : VK} {v : V} {d : PyData}
theorem w_isI (h : Thg K H v d) (k : Q (.bl (isIB d)) H) : rIsi K [v, .ty "int"] H Q := by
  refine ⟨_, _, _, _, isIB d, rfl, .ty _, h.ty, ?_, k⟩
  cases h <;> exact kit_ty (by simp only [tyD, isIB]; decide +kernel)
theorem w_isB (h : Thg K H v d) (k : Q (.bl (isBB d)) H) : rIsi K [v, .ty "bool"] H Q := by
  refine ⟨_, _, _, _, isBB d, rfl, .ty _, h.ty, ?_, k⟩
  cases h <;> exact kit_ty (by simp only [tyD, isBB]; decide +kernel)
theorem w_isS (h : Thg K H v d) (k : Q (.bl (isSB d)) H) : rIsi K [v, .ty "str"] H Q := by
  refine ⟨_, _, _, _, isSB d, rfl, .ty _, h.ty, ?_, k⟩
  cases h <;> exact kit_ty (by simp only [tyD, isSB]; decide +kernel)
theorem w_isL (h : Thg K H v d) (k : Q (.bl (isLB d)) H) : rIsi K [v, .ty "list"] H Q := by
  refine ⟨_, _, _, _, isLB d, rfl, .ty _, h.ty, ?_, k⟩
  cases h <;> exact kit_ty (by simp only [tyD, isLB]; decide +kernel)
theorem w_isTp (h : Thg K H v d) (k : Q (.bl (isTB d)) H) : rIsi K [v, .ty "tuple"] H Q := by
  refine ⟨_, _, _, _, isTB d, rfl, .ty _, h.ty, ?_, k⟩
  cases h <;> exact kit_ty (by simp only [tyD, isTB]; decide +kernel)
theorem w_chainLe {σ : L2.St} {ta tb tc : TE} (k : ta σ H fun x H1 => tb σ H1 fun y H2 => rLeI x y H2 fun z H3 => ∃ k, z = .bl k ∧ (if k = true then tc σ H3 fun w' H4 => rLeI y w' H4 Q else Q (.bl false) H3)) : tChain rLeI rLeI ta tb tc σ H Q := k
end
/-- data that is not deep -/
def tidy (n : Nat) (d : PyData) : Prop := d.canLay0 = true ∧ d.depth ≤ n
theorem tidy_shaped {n : Nat} {d : PyData} (h : tidy n d) (hn : n ≤ 64 := by decide) : SeqAt.shaped d = true := by
  unfold SeqAt.shaped
  rw [h.1, Bool.true_and]
  exact decide_eq_true (Nat.le_trans h.2 hn)
theorem tidy_all {n : Nat} : ∀ {ds : List PyData}, (∀ d ∈ ds, tidy n d) → PyData.canLayAll0 ds = true ∧ PyData.depthAll ds ≤ n
  | [], _ => by simp [PyData.canLayAll0, PyData.depthAll]
  | d :: ds, h => by
    obtain ⟨h1, h2⟩ := tidy_all fun x hx => h x (List.mem_cons_of_mem _ hx)
    obtain ⟨h3, h4⟩ := h d (List.mem_cons_self ..)
    simp only [PyData.canLayAll0, PyData.depthAll, h1, h3, Bool.and_self, true_and]
    exact Nat.max_le.mpr ⟨h4, h2⟩
theorem tidy_list {n : Nat} {ds : List PyData} (h : ∀ d ∈ ds, tidy n d) : tidy (n + 1) (.list ds) := by
  obtain ⟨h1, h2⟩ := tidy_all h
  refine ⟨by simpa only [PyData.canLay0] using h1, ?_⟩
  simp only [PyData.depth]
  omega
theorem tidy_tuple {n : Nat} {ds : List PyData} (h : ∀ d ∈ ds, tidy n d) : tidy (n + 1) (.tuple ds) := by
  obtain ⟨h1, h2⟩ := tidy_all h
  refine ⟨by simpa only [PyData.canLay0] using h1, ?_⟩
  simp only [PyData.depth]
  omega
theorem tidy.mono {n m : Nat} {d : PyData} (h : tidy n d) (hm : n ≤ m) : tidy m d := ⟨h.1, Nat.le_trans h.2 hm⟩
theorem tidy_int {n : Nat} (i : Int) : tidy n (.int i) := ⟨by simp only [PyData.canLay0], by simp only [PyData.depth]; omega⟩
theorem tidy_bl {n : Nat} (b : Bool) : tidy n (.bool b) := ⟨by simp only [PyData.canLay0], by simp only [PyData.depth]; omega⟩
theorem tidy_non {n : Nat} : tidy n .none := ⟨by simp only [PyData.canLay0], by simp only [PyData.depth]; omega⟩
theorem tidy_str {n : Nat} {x : Str} (h : PyData.strOk x = true) : tidy n (.str x) := ⟨by simpa only [PyData.canLay0] using h, by simp only [PyData.depth]; omega⟩
def LET : Str := "abcdefghijklmnopqrstuvwxyz"
def letC (c : Nat) : Bool := decide (c ∈ LET.cps.toList)
/-- a whole number from lo to hi -/
def wholeB (d : PyData) (lo hi : Int) : Bool := match d with
  | .int i => decide (lo ≤ i) && decide (i ≤ hi)
  | _ => false
def nameS (s : Str) : Bool := match s.cps.toList with
  | [c] => letC c
  | _ => false
theorem nameS_one {s : Str} (h : nameS s = true) : ∃ c, s = ⟨#[c]⟩ ∧ c ∈ LET.cps.toList := by
  obtain ⟨⟨l⟩⟩ := s
  match l, h with
  | [c], h => exact ⟨c, rfl, of_decide_eq_true h⟩
theorem letOk : ∀ c ∈ LET.cps.toList, PyData.strOk ⟨#[c]⟩ = true := by decide +kernel
theorem nameS_ok {s : Str} (h : nameS s = true) : PyData.strOk s = true := by
  obtain ⟨c, rfl, hc⟩ := nameS_one h
  exact letOk c hc
def nameB (d : PyData) : Bool := match d with
  | .str s => nameS s
  | _ => false
def sp_is_whole (K : PySem.W.Frag) : Sp := fun vs H Q _ => ∃ (v : V) (d : PyData) (lo hi : Int), vs = [v, .int lo, .int hi] ∧ Thg K H v d ∧ Q (.bl (wholeB d lo hi)) H
def sp_is_name (K : PySem.W.Frag) : Sp := fun vs H Q _ => ∃ (v : V) (d : PyData), vs = [v] ∧ Thg K H v d ∧ (∀ s, d = .str s → s.length ≤ sizeLine) ∧ Q (.bl (nameB d)) H
def t_is_whole (K : PySem.W.Frag) (E : XK) : TS :=
  (tSeq (tIfS (tOr (tNot (tB (tCB (rIsi K) (tCons (tVar 0) (tCons (tC (.ty "int")) tNil))))) (tB (tCB (rIsi K) (tCons (tVar 0) (tCons (tC (.ty "bool")) tNil))))) (tRet (tC (.bl false))) tNext)
    (tRet (tChain rLeI rLeI (tVar 1) (tVar 0) (tVar 2))))
abbrev N_is_whole : List Str := ["thing", "low", "high"]
def t_is_name (K : PySem.W.Frag) (E : XK) : TS :=
  (tRet (tAndV (tCB (rIsi K) (tCons (tVar 0) (tCons (tC (.ty "str")) tNil))) (tAndV (tOp rEq (tCB rLenStr (tCons (tVar 0) tNil)) (tC (.int 1))) (tOp rInSign (tVar 0) (tC (.str "abcdefghijklmnopqrstuvwxyz"))))))
abbrev N_is_name : List Str := ["thing"]
section
variable {K : PySem.W.Frag}
theorem pure_is_whole (vs : List V) (H : Hp) (Q : VK) (E : XK) (h : sp_is_whole K vs H Q E) : t_is_whole K E { nx := fun _ H' => Q .non H', rt := Q } (L2.start N_is_whole vs) H := by
  obtain ⟨v, d, lo, hi, rfl, th, q⟩ := h
  unfold t_is_whole
  walk_at "w"
  refine w_isI th ?_
  walk_at "w"
  cases hI : isIB d
  · walk_at "w"
    have e : wholeB d lo hi = false := by cases d <;> simp_all [isIB, wholeB]
    rw [e] at q
    exact q
  walk_at "w"
  refine w_isB th ?_
  walk_at "w"
  cases th with
  | int i =>
    rw [show isBB (.int i) = false from rfl]
    walk_at "w"
    refine w_chainLe ?_
    walk_at "w"
    walk_at "if" <;> intro c
    · walk_at "w"
      have e : wholeB (.int i) lo hi = decide (i ≤ hi) := by simp [wholeB, c]
      rw [e] at q
      exact q
    · have e : wholeB (.int i) lo hi = false := by simp [wholeB, c]
      rw [e] at q
      exact q
  | bl b =>
    rw [show isBB (.bool b) = true from rfl]
    walk_at "w"
    exact q
  | non => cases hI
  | str x => cases hI
  | lst h r => cases hI
  | tup h r => cases hI
theorem pure_is_name (vs : List V) (H : Hp) (Q : VK) (E : XK) (h : sp_is_name K vs H Q E) : t_is_name K E { nx := fun _ H' => Q .non H', rt := Q } (L2.start N_is_name vs) H := by
  obtain ⟨v, d, rfl, th, hs, q⟩ := h
  unfold t_is_name
  walk_at "w"
  refine w_isS th ?_
  walk_at "w"
  cases th with
  | str x =>
    rw [show isSB (.str x) = true from rfl]
    walk_at "w"
    refine ⟨x, rfl, hs x rfl, ?_⟩
    walk_at "w"
    have e : nameB (.str x) = nameS x := rfl
    rw [e] at q
    by_cases hl : x.length = 1
    · rw [decide_eq_true (by rw [hl]; rfl)]
      walk_at "w"
      obtain ⟨⟨l⟩⟩ := x
      match l, hl with
      | [c], _ => exact ⟨c, _, rfl, rfl, q⟩
    · rw [decide_eq_false (fun z => hl (by injection z with z; omega))]
      walk_at "w"
      have e : nameS x = false := by
        unfold nameS
        split
        · rename_i c hc
          exact absurd (by show x.cps.size = 1; rw [← Array.length_toList, hc]; rfl) hl
        · rfl
      rw [e] at q
      exact q
  | int i =>
    rw [show isSB (.int i) = false from rfl]
    walk_at "w"
    exact q
  | bl b =>
    rw [show isSB (.bool b) = false from rfl]
    walk_at "w"
    exact q
  | non =>
    rw [show isSB .none = false from rfl]
    walk_at "w"
    exact q
  | lst h r =>
    rw [show ∀ ds, isSB (.list ds) = false from fun _ => rfl]
    walk_at "w"
    exact q
  | tup h r =>
    rw [show ∀ ds, isSB (.tuple ds) = false from fun _ => rfl]
    walk_at "w"
    exact q
end
end Rim
set_option Elab.async false
set_option linter.all false
set_option maxRecDepth 100000
set_option maxHeartbeats 4000000
namespace Rim
open PySem PySem.Spec PyProof.Rows L2
local macro_rules | `(tactic| walk_at "w1") => `(tactic| (with_reducible first
  | refine w_var rfl ?_ | refine w_c ?_ | refine w_seq ?_ | refine w_asg ?_ | refine w_gname ?_ | refine w_op ?_ | refine w_rI0 ?_ | refine w_cons ?_ | refine w_nil ?_ | refine w_test ?_ | refine w_bl ?_ | refine w_if ?_ | refine w_next ?_ | refine w_ret ?_ | refine w_b ?_
  | refine w_call ?_ | refine w_cb ?_ | refine w_not ?_ | refine w_and ?_ | refine w_or ?_ | refine w_andV ?_ | refine w_orV ?_ | refine w_notV ?_ | refine w_tif ?_ | refine w_tup ?_ | refine w_lst ?_ | refine w_drop ?_ | refine w_retN ?_ | refine w_un ?_ | refine w_neg ?_
  | refine w_callS ?_ | refine w_make ?_ | refine w_for ?_ | refine w_lc ?_ | refine w_rng1 ?_ | refine w_rng2 ?_ | refine w_il ?_ | refine w_it ?_ | refine w_iT ?_ | refine w_iF ?_ | refine w_iNT ?_ | refine w_iNF ?_ | refine w_eq rfl ?_ | refine w_ne rfl ?_ | refine w_min2 ?_ | refine w_max2 ?_ | refine w_abs ?_))
local macro_rules | `(tactic| walk_at "w") => `(tactic| ((try dsimp only [Bool.not_true, Bool.not_false]); repeat (walk_at "w1")))
local macro_rules | `(tactic| walk_at "if") => `(tactic| (first | (apply w_ited) | (apply w_iten) | (apply w_ite)))
local macro_rules | `(tactic| walk_at "len") => `(tactic| (first | (rw [sizeLine_eq]; exact Nat.le_of_ble_eq_true rfl) | (show _ ≤ sizeLine; rw [sizeLine_eq]; exact Nat.le_of_ble_eq_true rfl)))
/-! ### error classes, facts of all at once -/
structure ErrFx (K : PySem.W.Frag) (L : List Str) : Prop where
  kit : ∀ y ∈ L, ∀ x ∈ L, PySem.W.kitOne K (.ref (cl K y)) (.ref (cl K x)) = some (decide (y = x))
  exc : ∀ y ∈ L, ExcC K (cl K y)
  rim : ∀ y ∈ L, PySem.W.exmOne K (.ref (cl K y)) (.ref (cl K "RimError")) = some true
  val : ∀ y ∈ L, PySem.W.kitOne K (.ref (cl K y)) (.type "ValueError") = some true
def kErrFx (L : List Str) : Chk := fun K => (L.all fun y => L.all fun x => kKit y x (decide (y = x)) K) && ((L.all fun y => kExcC y K) && ((L.all fun y => kExm y "RimError" true K) && L.all fun y => kKitT y "ValueError" true K))
theorem errFx_of {K : PySem.W.Frag} {L : List Str} (h : kErrFx L K = true) : ErrFx K L := by
  obtain ⟨h1, h⟩ := He.ba h
  obtain ⟨h2, h⟩ := He.ba h
  obtain ⟨h3, h4⟩ := He.ba h
  exact ⟨fun y hy x hx => kit_of' (List.all_eq_true.mp (List.all_eq_true.mp h1 y hy) x hx), fun y hy => excC_of (List.all_eq_true.mp h2 y hy), fun y hy => exm_of (List.all_eq_true.mp h3 y hy), fun y hy => kitT_of (List.all_eq_true.mp h4 y hy)⟩

theorem paired_mono {α β : Type} {R S : α → β → Prop} {as : List α} {bs : List β} (h : Paired R as bs) (m : ∀ a b, R a b → S a b) : Paired S as bs := by
  induction h with
  | nil => exact .nil
  | cons h r ih => exact .cons (m _ _ h) ih
/-! ### pictures -/
structure Pt where
  name : Str
  x : Int
  y : Int
  sides : Str
  low : Int
  high : Int
  deriving DecidableEq
structure Pic where
  w : Int
  h : Int
  pts : List Pt
  op : List (Str × Int)
/-- where a picture lies: itself, its dict, the dicts of its points and seats, the points and their dicts -/
structure Loc where
  p : Addr
  dx : Addr
  d : Addr
  o : Addr
  as : List (Addr × Addr)
structure PicFx (K : PySem.W.Frag) : Prop where
  cP : InsC K (cl K "Picture")
  cD : InsC K (cl K "Point")
  nP : ∀ f ∈ (["width", "height", "dots", "opened"] : List Str), NoAttr K (cl K "Picture") f
  nD : ∀ f ∈ (["name", "x", "y", "sides", "low", "high"] : List Str), NoAttr K (cl K "Point") f
def kPicFx : Chk := fun K => kIns "Picture" K && (kIns "Point" K && ((["width", "height", "dots", "opened"] : List Str).all (fun f => kNo "Picture" f K) && (["name", "x", "y", "sides", "low", "high"] : List Str).all (fun f => kNo "Point" f K)))
theorem picFx_of {K : PySem.W.Frag} (h : kPicFx K = true) : PicFx K := by
  obtain ⟨h1, h⟩ := He.ba h
  obtain ⟨h2, h⟩ := He.ba h
  obtain ⟨h3, h4⟩ := He.ba h
  exact ⟨ins_of h1, ins_of h2, fun f hf => He.noat_ok (List.all_eq_true.mp h3 f hf), fun f hf => He.noat_ok (List.all_eq_true.mp h4 f hf)⟩
def ptFs (p : Pt) : List (Str × V) := [("name", .str p.name), ("x", .int p.x), ("y", .int p.y), ("sides", .str p.sides), ("low", .int p.low), ("high", .int p.high)]
def ptO (K : PySem.W.Frag) (p : Pt) (dx : Addr) : HO := .ins (cl K "Point") dx (ptFs p)
def ptRow (p : Pt) : List V := [.str p.name, .int p.x, .int p.y, .str p.sides, .int p.low, .int p.high]
def dotsK : List Pt → List (Addr × Addr) → List (Key × V)
  | p :: ps, a :: as => (Sum.inr p.name, V.ref a.1) :: dotsK ps as
  | _, _ => []
def opK (l : List (Str × Int)) : List (List Key × V) := l.map fun s => ([Sum.inr s.1, Sum.inl s.2], V.bl true)
def picFs (L : Loc) (P : Pic) : List (Str × V) := [("width", .int P.w), ("height", .int P.h), ("dots", .ref L.d), ("opened", .ref L.o)]
structure PicAt (K : PySem.W.Frag) (H : Hp) (L : Loc) (P : Pic) : Prop where
  ob : H L.p = some (.ins (cl K "Picture") L.dx (picFs L P))
  dots : H L.d = some (.dK (dotsK P.pts L.as))
  opened : H L.o = some (.dT (opK P.op))
  pts : Paired (fun p a => H a.1 = some (ptO K p a.2)) P.pts L.as
/-- what holds of every picture that is told -/
structure Pic.Ok (P : Pic) : Prop where
  w1 : 1 ≤ P.w
  w30 : P.w ≤ 30
  h1 : 1 ≤ P.h
  h16 : P.h ≤ 16
  few : P.pts.length ≤ 12
  names : (P.pts.map (·.name)).Nodup
  letters : ∀ p ∈ P.pts, nameS p.name = true
  cells : ∀ p ∈ P.pts, 1 ≤ p.x ∧ p.x ≤ P.w ∧ 1 ≤ p.y ∧ p.y ≤ P.h
  sides : ∀ p ∈ P.pts, p.sides = "left" ∨ p.sides = "right" ∨ p.sides = "both"
  wins : ∀ p ∈ P.pts, 1 ≤ p.low ∧ p.low ≤ p.high ∧ p.high ≤ P.h
  xs : (P.pts.map (·.x)).Nodup
  ys : (P.pts.map (·.y)).Nodup
  ops : P.op.Nodup
  rows : ∀ s ∈ P.op, (s.1 = "left" ∨ s.1 = "right") ∧ 1 ≤ s.2 ∧ s.2 ≤ P.h
section
variable {K : PySem.W.Frag} {H H' : Hp} {L : Loc} {P : Pic}
theorem PicAt.len (A : PicAt K H L P) : P.pts.length = L.as.length := Paired.length A.pts
theorem PicAt.same (e : Same H H') (A : PicAt K H L P) : PicAt K H' L P := by
  exact ⟨e _ _ A.ob, e _ _ A.dots, e _ _ A.opened, paired_mono A.pts fun _ _ h => e _ _ h⟩
theorem dotsK_len : ∀ {ps : List Pt} {as : List (Addr × Addr)}, ps.length = as.length → (dotsK ps as).length = ps.length
  | [], [], _ => rfl
  | _ :: ps, _ :: as, h => by
    show (dotsK ps as).length + 1 = ps.length + 1
    rw [dotsK_len (by simpa using h)]
theorem dotsK_val : ∀ {ps : List Pt} {as : List (Addr × Addr)} (n : Str), ps.length = as.length → (valV (dotsK ps as) (Sum.inr n)).isSome = ps.any fun p => decide (p.name = n)
  | [], [], _, _ => rfl
  | p :: ps, a :: as, n, h => by
    have ih := dotsK_val (ps := ps) (as := as) n (by simpa using h)
    show (valV ((Sum.inr p.name, V.ref a.1) :: dotsK ps as) (Sum.inr n)).isSome = _
    rw [List.any_cons]
    by_cases e : p.name = n
    · rw [valV_pos (p := (Sum.inr p.name, V.ref a.1)) (k := Sum.inr n) (congrArg Sum.inr e), decide_eq_true e]
      rfl
    · rw [valV_neg (p := (Sum.inr p.name, V.ref a.1)) (k := Sum.inr n) (fun z => e (Sum.inr.inj z)), decide_eq_false e, ih]
      rfl
/-- the point of a name, and where it lies -/
theorem dotsK_get : ∀ {ps : List Pt} {as : List (Addr × Addr)} {n : Str} {v : V}, ps.length = as.length → valV (dotsK ps as) (Sum.inr n) = some v → ∃ (i : Nat) (p : Pt) (a : Addr × Addr), ps[i]? = some p ∧ as[i]? = some a ∧ p.name = n ∧ v = .ref a.1 ∧ ps.find? (fun p => decide (p.name = n)) = some p
  | [], [], _, _, _, h => nomatch h
  | p :: ps, a :: as, n, v, hl, h => by
    by_cases e : p.name = n
    · have z : valV (dotsK (p :: ps) (a :: as)) (Sum.inr n) = some (V.ref a.1) := valV_pos (p := (Sum.inr p.name, V.ref a.1)) (k := Sum.inr n) (congrArg Sum.inr e)
      rw [z] at h
      cases h
      exact ⟨0, p, a, rfl, rfl, e, rfl, by rw [List.find?_cons_of_pos (by simpa using e)]⟩
    · have z : valV (dotsK (p :: ps) (a :: as)) (Sum.inr n) = valV (dotsK ps as) (Sum.inr n) := valV_neg (p := (Sum.inr p.name, V.ref a.1)) (k := Sum.inr n) (fun z => e (Sum.inr.inj z))
      rw [z] at h
      obtain ⟨i, p', a', h1, h2, h3, h4, h5⟩ := dotsK_get (by simpa using hl) h
      exact ⟨i + 1, p', a', by simpa using h1, by simpa using h2, h3, h4, by rw [List.find?_cons_of_neg (by simpa using e)]; exact h5⟩
theorem dotsK_vals : ∀ {ps : List Pt} {as : List (Addr × Addr)}, ps.length = as.length → (dotsK ps as).map (·.2) = as.map fun a => V.ref a.1
  | [], [], _ => rfl
  | _ :: ps, _ :: as, h => by
    show _ :: (dotsK ps as).map (·.2) = _ :: as.map fun a => V.ref a.1
    rw [dotsK_vals (by simpa using h)]
theorem dotsK_snoc : ∀ {ps : List Pt} {as : List (Addr × Addr)} (p : Pt) (a : Addr × Addr), ps.length = as.length → dotsK (ps ++ [p]) (as ++ [a]) = dotsK ps as ++ [(Sum.inr p.name, V.ref a.1)]
  | [], [], _, _, _ => rfl
  | q :: ps, b :: as, p, a, h => by
    show _ :: dotsK (ps ++ [p]) (as ++ [a]) = _ :: (dotsK ps as ++ _)
    rw [dotsK_snoc p a (by simpa using h)]
theorem paired_at {α β : Type} {R : α → β → Prop} {as : List α} {bs : List β} (h : Paired R as bs) : ∀ {i : Nat} {a : α} {b : β}, as[i]? = some a → bs[i]? = some b → R a b := by
  induction h with
  | nil => intro i a b ha
           cases ha
  | cons h r ih =>
    intro i a b ha hb
    cases i with
    | zero =>
      cases ha
      cases hb
      exact h
    | succ j =>
      rw [List.getElem?_cons_succ] at ha hb
      exact ih ha hb
theorem paired_snoc {α β : Type} {R : α → β → Prop} {as : List α} {bs : List β} {a : α} {b : β} (h : Paired R as bs) (k : R a b) : Paired R (as ++ [a]) (bs ++ [b]) := by
  induction h with
  | nil => exact .cons k .nil
  | cons h r ih => exact .cons h ih
end

/-! ### what the deeds of a picture promise -/
abbrev fs_NoName : List Str := ["name"]
abbrev fs_NoCell : List Str := ["x", "y"]
abbrev fs_NoSides : List Str := ["sides"]
abbrev fs_NoWindow : List Str := ["low", "high"]
abbrev fs_OldPoint : List Str := ["name"]
abbrev fs_SameColumn : List Str := ["name"]
abbrev fs_SameRow : List Str := ["name"]
abbrev sp_NoName___init__ (K : PySem.W.Frag) : Sp := spErr K fs_NoName
abbrev sp_NoCell___init__ (K : PySem.W.Frag) : Sp := spErr K fs_NoCell
abbrev sp_NoSides___init__ (K : PySem.W.Frag) : Sp := spErr K fs_NoSides
abbrev sp_NoWindow___init__ (K : PySem.W.Frag) : Sp := spErr K fs_NoWindow
abbrev sp_OldPoint___init__ (K : PySem.W.Frag) : Sp := spErr K fs_OldPoint
abbrev sp_SameColumn___init__ (K : PySem.W.Frag) : Sp := spErr K fs_SameColumn
abbrev sp_SameRow___init__ (K : PySem.W.Frag) : Sp := spErr K fs_SameRow
/-- an own error of the class c goes out, its fields fs -/
def Bad (K : PySem.W.Frag) (H : Hp) (E : XK) (c : Str) (fs : List (Str × V)) : Prop := ∀ p, H p = none → E (.ref (cl K c)) (some p) (upd H p (.xd fs))
def sp_Point___init__ (K : PySem.W.Frag) : Sp := fun vs H Q _ => ∃ (a dx : Addr) (p : Pt), vs = .ref a :: ptRow p ∧ H a = some (.ins (cl K "Point") dx []) ∧ Q .non (upd H a (ptO K p dx))
def sp_Point_told (K : PySem.W.Frag) : Sp := fun vs H Q _ => ∃ (a dx : Addr) (p : Pt), vs = [.ref a] ∧ H a = some (ptO K p dx) ∧ ∀ t, H t = none → Q (.ref t) (upd H t (.tup (ptRow p)))
def sizeB (w h : PyData) : Bool := wholeB w 1 30 && wholeB h 1 16
def sp_Picture___init__ (K : PySem.W.Frag) : Sp := fun vs H Q E => ∃ (a dx : Addr) (v w : V) (d e : PyData), vs = [.ref a, v, w] ∧ H a = some (.ins (cl K "Picture") dx []) ∧ Thg K H v d ∧ Thg K H w e ∧
  (sizeB d e = false → E (.ref (cl K "NoSize")) none H) ∧
  ∀ i j, d = .int i → e = .int j → sizeB d e = true → ∀ L H', L.p = a → L.dx = dx → H L.d = none → H L.o = none → L.as = [] → But a H H' → PicAt K H' L ⟨i, j, [], []⟩ → Q .non H'
def sp_Picture_look_cell (K : PySem.W.Frag) : Sp := fun vs H Q E => ∃ (L : Loc) (P : Pic) (v w : V) (d e : PyData), vs = [.ref L.p, v, w] ∧ PicAt K H L P ∧ Thg K H v d ∧ Thg K H w e ∧
  ((wholeB d 1 P.w && wholeB e 1 P.h) = true → Q .non H) ∧ ((wholeB d 1 P.w && wholeB e 1 P.h) = false → Bad K H E "NoCell" [("y", w), ("x", v)])
/-- the point that keeps the cell (x, y) from another one -/
def colOf (P : Pic) (x : Int) (n : Str) : Option Pt := P.pts.find? fun p => decide (p.x = x) && !decide (p.name = n)
def rowOf (P : Pic) (y : Int) (n : Str) : Option Pt := P.pts.find? fun p => decide (p.y = y) && !decide (p.name = n)
def sp_Picture_look_free (K : PySem.W.Frag) : Sp := fun vs H Q E => ∃ (L : Loc) (P : Pic) (x y : Int) (n : Str), vs = [.ref L.p, .int x, .int y, .str n] ∧ PicAt K H L P ∧
  (colOf P x n = none → rowOf P y n = none → Q .non H) ∧ (∀ p, colOf P x n = some p → Bad K H E "SameColumn" [("name", .str p.name)]) ∧
  (∀ p, colOf P x n = none → rowOf P y n = some p → Bad K H E "SameRow" [("name", .str p.name)])
/-- why a point is refused -/
inductive Ver
  | ok | name | cell | sides | window | old | many | col (n : Str) | row (n : Str)
def sidesB (d : PyData) : Bool := PyData.eqv d (.str "left") || (PyData.eqv d (.str "right") || PyData.eqv d (.str "both"))
structure Args where
  name : PyData
  x : PyData
  y : PyData
  sides : PyData
  low : PyData
  high : PyData
def lowI (d : PyData) : Int := match d with
  | .int i => i
  | _ => 0
def strI (d : PyData) : Str := match d with
  | .str s => s
  | _ => ""
def Args.pt (a : Args) : Pt := ⟨strI a.name, lowI a.x, lowI a.y, strI a.sides, lowI a.low, lowI a.high⟩
def verdict (P : Pic) (a : Args) : Ver :=
  if nameB a.name = false then .name else if (wholeB a.x 1 P.w && wholeB a.y 1 P.h) = false then .cell else if sidesB a.sides = false then .sides
  else if (wholeB a.low 1 P.h && wholeB a.high (lowI a.low) P.h) = false then .window
  else if (P.pts.any fun p => decide (p.name = strI a.name)) = true then .old else if 12 ≤ P.pts.length then .many
  else match colOf P (lowI a.x) (strI a.name) with
    | some p => .col p.name
    | none => match rowOf P (lowI a.y) (strI a.name) with
      | some p => .row p.name
      | none => .ok
/-- the things that are handed in -/
structure ArgV where
  name : V
  x : V
  y : V
  sides : V
  low : V
  high : V
structure ArgsAt (K : PySem.W.Frag) (H : Hp) (v : ArgV) (a : Args) : Prop where
  name : Thg K H v.name a.name
  x : Thg K H v.x a.x
  y : Thg K H v.y a.y
  sides : Thg K H v.sides a.sides
  low : Thg K H v.low a.low
  high : Thg K H v.high a.high
  few : ∀ s, a.name = .str s → s.length ≤ sizeLine
  shp : ∀ d ∈ [a.name, a.x, a.y, a.sides, a.low, a.high], tidy 4 d
def Args.fit (a : Args) (P : Pic) : Args := { a with high := match a.high with | .none => .int P.h | d => d }
def ArgV.fit (v : ArgV) (P : Pic) : ArgV := { v with high := match v.high with | .non => .int P.h | d => d }
/-- how a refusal goes out -/
def Refused (K : PySem.W.Frag) (H : Hp) (E : XK) (v : ArgV) : Ver → Prop
  | .ok => True
  | .name => Bad K H E "NoName" [("name", v.name)]
  | .cell => Bad K H E "NoCell" [("y", v.y), ("x", v.x)]
  | .sides => Bad K H E "NoSides" [("sides", v.sides)]
  | .window => Bad K H E "NoWindow" [("high", v.high), ("low", v.low)]
  | .old => Bad K H E "OldPoint" [("name", v.name)]
  | .many => E (.ref (cl K "TooMany")) none H
  | .col n => Bad K H E "SameColumn" [("name", .str n)]
  | .row n => Bad K H E "SameRow" [("name", .str n)]
def sp_Picture_put (K : PySem.W.Frag) : Sp := fun vs H Q E => ∃ (L : Loc) (P : Pic) (v : ArgV) (a : Args), vs = [.ref L.p, v.name, v.x, v.y, v.sides, v.low, v.high] ∧ PicAt K H L P ∧ P.Ok ∧ ArgsAt K H v a ∧
  (verdict P (a.fit P) ≠ .ok → Refused K H E (v.fit P) (verdict P (a.fit P))) ∧
  (verdict P (a.fit P) = .ok → ∀ b H', H b.1 = none → But L.d H H' → PicAt K H' { L with as := L.as ++ [b] } { P with pts := P.pts ++ [(a.fit P).pt] } → Q .non H')
def rowsAt (H : Hp) (ps : List Pt) (vs : List V) : Prop := Paired (fun p v => ∃ t, v = V.ref t ∧ H t = some (.tup (ptRow p))) ps vs
def sp_Picture_points (K : PySem.W.Frag) : Sp := fun vs H Q _ => ∃ (L : Loc) (P : Pic), vs = [.ref L.p] ∧ PicAt K H L P ∧ P.pts.length ≤ 1000 ∧ ∀ l xs H', Same H H' → H l = none → H' l = some (.lst xs) → rowsAt H' P.pts xs → Q (.ref l) H'
def seatK (s : Str × Int) : List Key := [Sum.inr s.1, Sum.inl s.2]
def sp_Picture_seats (K : PySem.W.Frag) : Sp := fun vs H Q _ => ∃ (L : Loc) (P : Pic), vs = [.ref L.p] ∧ PicAt K H L P ∧ P.op.length ≤ 1000 ∧
  ∀ l bs, H l = none → KeyAt H (sortKs (P.op.map seatK)) bs → Q (.ref l) (upd H l (.lst (bs.map V.ref)))
end Rim
set_option Elab.async false
set_option linter.all false
set_option maxRecDepth 100000
set_option maxHeartbeats 4000000
namespace Rim
open PySem PySem.Spec PyProof.Rows L2
local macro_rules | `(tactic| walk_at "w1") => `(tactic| (with_reducible first
  | refine w_var rfl ?_ | refine w_c ?_ | refine w_seq ?_ | refine w_asg ?_ | refine w_gname ?_ | refine w_op ?_ | refine w_rI0 ?_ | refine w_cons ?_ | refine w_nil ?_ | refine w_test ?_ | refine w_bl ?_ | refine w_if ?_ | refine w_next ?_ | refine w_ret ?_ | refine w_b ?_
  | refine w_call ?_ | refine w_cb ?_ | refine w_not ?_ | refine w_and ?_ | refine w_or ?_ | refine w_andV ?_ | refine w_orV ?_ | refine w_notV ?_ | refine w_tif ?_ | refine w_tup ?_ | refine w_lst ?_ | refine w_drop ?_ | refine w_retN ?_ | refine w_un ?_ | refine w_neg ?_
  | refine w_callS ?_ | refine w_make ?_ | refine w_for ?_ | refine w_lc ?_ | refine w_rng1 ?_ | refine w_rng2 ?_ | refine w_il ?_ | refine w_it ?_ | refine w_iT ?_ | refine w_iF ?_ | refine w_iNT ?_ | refine w_iNF ?_ | refine w_eq rfl ?_ | refine w_ne rfl ?_ | refine w_min2 ?_ | refine w_max2 ?_ | refine w_abs ?_))
local macro_rules | `(tactic| walk_at "w") => `(tactic| ((try dsimp only [Bool.not_true, Bool.not_false]); repeat (walk_at "w1")))
local macro_rules | `(tactic| walk_at "if") => `(tactic| (first | (apply w_ited) | (apply w_iten) | (apply w_ite)))
local macro_rules | `(tactic| walk_at "len") => `(tactic| (first | (rw [sizeLine_eq]; exact Nat.le_of_ble_eq_true rfl) | (show _ ≤ sizeLine; rw [sizeLine_eq]; exact Nat.le_of_ble_eq_true rfl)))
def t_Point___init__ (K : PySem.W.Frag) (E : XK) : TS :=
  (tSeq (sFld K (tVar 0) (tVar 1) "name")
    (tSeq (sFld K (tVar 0) (tVar 2) "x")
    (tSeq (sFld K (tVar 0) (tVar 3) "y")
    (tSeq (sFld K (tVar 0) (tVar 4) "sides")
    (tSeq (sFld K (tVar 0) (tVar 5) "low")
    (sFld K (tVar 0) (tVar 6) "high"))))))
abbrev N_Point___init__ : List Str := ["self", "name", "x", "y", "sides", "low", "high"]
def t_Point_told (K : PySem.W.Frag) (E : XK) : TS :=
  (tRet (tTup (tCons (tFld K (tVar 0) "name") (tCons (tFld K (tVar 0) "x") (tCons (tFld K (tVar 0) "y") (tCons (tFld K (tVar 0) "sides") (tCons (tFld K (tVar 0) "low") (tCons (tFld K (tVar 0) "high") tNil))))))))
abbrev N_Point_told : List Str := ["self"]
def t_Picture___init__ (K : PySem.W.Frag) (E : XK) : TS :=
  (tSeq (tIfS (tOr (tNot (tB (tCall (sp_is_whole K) [] E (tCons (tVar 1) (tCons (tC (.int 1)) (tCons (tC (.int 30)) tNil)))))) (tNot (tB (tCall (sp_is_whole K) [] E (tCons (tVar 2) (tCons (tC (.int 1)) (tCons (tC (.int 16)) tNil))))))) (tRaise0 (cl K "NoSize") (fun cls d _ H => E cls d H)) tNext)
    (tSeq (sFld K (tVar 0) (tVar 1) "width")
    (tSeq (sFld K (tVar 0) (tVar 2) "height")
    (tSeq (sFld K (tVar 0) tDNewK "dots")
    (sFld K (tVar 0) tDNewT "opened")))))
abbrev N_Picture___init__ : List Str := ["self", "width", "height"]
def t_Picture_look_cell (K : PySem.W.Frag) (E : XK) : TS :=
  (tIfS (tOr (tNot (tB (tCall (sp_is_whole K) [] E (tCons (tVar 1) (tCons (tC (.int 1)) (tCons (tFld K (tVar 0) "width") tNil)))))) (tNot (tB (tCall (sp_is_whole K) [] E (tCons (tVar 2) (tCons (tC (.int 1)) (tCons (tFld K (tVar 0) "height") tNil))))))) (tRaiseE (cl K "NoCell") fs_NoCell (fun cls d _ H => E cls d H) (tCons (tVar 1) (tCons (tVar 2) tNil))) tNext)
abbrev N_Picture_look_cell : List Str := ["self", "x", "y"]
def t_Picture_look_free (K : PySem.W.Frag) (E EU : XK) : TS :=
  (tSeq (tLock (tFor (iVals (tFld K (tVar 0) "dots")) (gName 4)
    (tIfS (tAnd (tTest (tOp rEq (tFld K (tVar 4) "x") (tVar 1))) (tTest (tOp rNe (tFld K (tVar 4) "name") (tVar 3)))) (tRaiseE (cl K "SameColumn") fs_SameColumn (fun cls d _ H => EU cls d H) (tCons (tFld K (tVar 4) "name") tNil)) tNext)))
    (tLock (tFor (iVals (tFld K (tVar 0) "dots")) (gName 4)
    (tIfS (tAnd (tTest (tOp rEq (tFld K (tVar 4) "y") (tVar 2))) (tTest (tOp rNe (tFld K (tVar 4) "name") (tVar 3)))) (tRaiseE (cl K "SameRow") fs_SameRow (fun cls d _ H => EU cls d H) (tCons (tFld K (tVar 4) "name") tNil)) tNext))))
abbrev N_Picture_look_free : List Str := ["self", "x", "y", "name", "other"]
def t_Picture_put (K : PySem.W.Frag) (E : XK) : TS :=
  (tSeq (tIfS (tTest (tOp rIsN (tVar 6) (tC .non))) (tAsg (tFld K (tVar 0) "height") (gName 6)) tNext)
    (tSeq (tIfS (tNot (tB (tCall (sp_is_name K) [] E (tCons (tVar 1) tNil)))) (tRaiseE (cl K "NoName") fs_NoName (fun cls d _ H => E cls d H) (tCons (tVar 1) tNil)) tNext)
    (tSeq (tDrop (tMeth (cl K "Picture") "look_cell" (sp_Picture_look_cell K) [] E (tVar 0) (tCons (tVar 2) (tCons (tVar 3) tNil))))
    (tSeq (tIfS (tAnd (tTest (tOp (rNeD K) (tVar 4) (tC (.str ("left" : Str))))) (tAnd (tTest (tOp (rNeD K) (tVar 4) (tC (.str ("right" : Str))))) (tTest (tOp (rNeD K) (tVar 4) (tC (.str ("both" : Str))))))) (tRaiseE (cl K "NoSides") fs_NoSides (fun cls d _ H => E cls d H) (tCons (tVar 4) tNil)) tNext)
    (tSeq (tIfS (tOr (tNot (tB (tCall (sp_is_whole K) [] E (tCons (tVar 5) (tCons (tC (.int 1)) (tCons (tFld K (tVar 0) "height") tNil)))))) (tNot (tB (tCall (sp_is_whole K) [] E (tCons (tVar 6) (tCons (tVar 5) (tCons (tFld K (tVar 0) "height") tNil))))))) (tRaiseE (cl K "NoWindow") fs_NoWindow (fun cls d _ H => E cls d H) (tCons (tVar 5) (tCons (tVar 6) tNil))) tNext)
    (tSeq (tIfS (tB (tDIn (tVar 1) (tFld K (tVar 0) "dots"))) (tRaiseE (cl K "OldPoint") fs_OldPoint (fun cls d _ H => E cls d H) (tCons (tVar 1) tNil)) tNext)
    (tSeq (tIfS (tTest (tOp rGeI (tCB rLenD (tCons (tFld K (tVar 0) "dots") tNil)) (tC (.int 12)))) (tRaise0 (cl K "TooMany") (fun cls d _ H => E cls d H)) tNext)
    (tSeq (tDrop (tMeth (cl K "Picture") "look_free" (sp_Picture_look_free K) [] E (tVar 0) (tCons (tVar 2) (tCons (tVar 3) (tCons (tVar 1) tNil)))))
    (sDPut (tFld K (tVar 0) "dots") (tVar 1) (tMake (cl K "Point") (sp_Point___init__ K) [] E (tCons (tVar 1) (tCons (tVar 2) (tCons (tVar 3) (tCons (tVar 4) (tCons (tVar 5) (tCons (tVar 6) tNil))))))))))))))))
abbrev N_Picture_put : List Str := ["self", "name", "x", "y", "sides", "low", "high"]
def t_Picture_points (K : PySem.W.Frag) (E : XK) : TS :=
  (tRet (tLockE (tLc (iVals (tFld K (tVar 0) "dots")) (gName 1) tYes (tMeth (cl K "Point") "told" (sp_Point_told K) [] E0 (tVar 1) tNil) [1])))
abbrev N_Picture_points : List Str := ["self", "point"]
def t_Picture_seats (K : PySem.W.Frag) (E : XK) : TS :=
  (tRet (tCB rSortT (tCons (tFld K (tVar 0) "opened") tNil)))
abbrev N_Picture_seats : List Str := ["self"]
theorem paired_of {α β : Type} {R : α → β → Prop} : ∀ {as : List α} {bs : List β}, as.length = bs.length → (∀ (i : Nat) a b, as[i]? = some a → bs[i]? = some b → R a b) → Paired R as bs
  | [], [], _, _ => .nil
  | a :: as, b :: bs, hl, h => .cons (h 0 a b rfl rfl) (paired_of (by simpa using hl) fun i x y hx hy => h (i + 1) x y (by simpa using hx) (by simpa using hy))
section
variable {K : PySem.W.Frag}
theorem w_sfld {D : Ends} {σ : L2.St} {H : Hp} {ta tv : TE} {f : Str} (k : tv σ H fun y H1 => ta σ H1 fun x H2 => ∃ a C dx fs, x = .ref a ∧ H2 a = some (.ins C dx fs) ∧ Cls K C ∧ NoAttr K C f ∧ fs.length < 1000 ∧ D.nx σ (upd H2 a (.ins C dx (putF f y fs)))) : sFld K ta tv f D σ H := k
theorem putF_lt {f : Str} {v : V} : ∀ {fs : List (Str × V)} {n : Nat}, fs.length < n → (putF f v fs).length < n + 1
  | [], n, h => by
    show 1 < n + 1
    omega
  | (g, x) :: r, n, h => by
    unfold putF
    split
    · exact Nat.lt_succ_of_lt h
    · obtain ⟨m, rfl⟩ : ∃ m, n = m + 1 := ⟨n - 1, by simp at h; omega⟩
      have := putF_lt (f := f) (v := v) (fs := r) (n := m) (by simp at h; omega)
      show (putF f v r).length + 1 < m + 1 + 1
      omega
theorem w_dnewK {σ : L2.St} {H : Hp} {Q : VK} (k : ∀ p, H p = none → Q (.ref p) (upd H p (.dK []))) : tDNewK σ H Q := k
theorem w_dnewT {σ : L2.St} {H : Hp} {Q : VK} (k : ∀ p, H p = none → Q (.ref p) (upd H p (.dT []))) : tDNewT σ H Q := k
theorem w_raiseE {D : Ends} {σ : L2.St} {H : Hp} {C : Addr} {fs : List Str} {W : WX} {ta : TA} (k : ta σ H fun vs H1 => vs.length = fs.length ∧ ∀ d, H1 d = none → W (.ref C) (some d) σ (upd H1 d (.xd (fs.zip vs).reverse))) : tRaiseE C fs W ta D σ H := k
theorem pure_Point___init__ (S : PicFx K) (vs : List V) (H : Hp) (Q : VK) (E : XK) (h : sp_Point___init__ K vs H Q E) : t_Point___init__ K E { nx := fun _ H' => Q .non H', rt := Q } (L2.start N_Point___init__ vs) H := by
  obtain ⟨a, dx, p, rfl, ho, q⟩ := h
  unfold t_Point___init__ ptRow
  walk_at "w"
  refine ⟨_, rfl, _, rfl, a, _, dx, _, rfl, ho, S.cD.c, S.nD _ (by decide), by decide, ?_⟩
  refine w_seq ⟨_, rfl, _, rfl, a, _, dx, _, rfl, upd_same, S.cD.c, S.nD _ (by decide), by repeat (first | decide | refine putF_lt ?_), ?_⟩
  refine w_seq ⟨_, rfl, _, rfl, a, _, dx, _, rfl, upd_same, S.cD.c, S.nD _ (by decide), by repeat (first | decide | refine putF_lt ?_), ?_⟩
  refine w_seq ⟨_, rfl, _, rfl, a, _, dx, _, rfl, upd_same, S.cD.c, S.nD _ (by decide), by repeat (first | decide | refine putF_lt ?_), ?_⟩
  refine w_seq ⟨_, rfl, _, rfl, a, _, dx, _, rfl, upd_same, S.cD.c, S.nD _ (by decide), by repeat (first | decide | refine putF_lt ?_), ?_⟩
  refine ⟨_, rfl, _, rfl, a, _, dx, _, rfl, upd_same, S.cD.c, S.nD _ (by decide), by repeat (first | decide | refine putF_lt ?_), ?_⟩
  simp only [upd_upd]
  have e : putF "high" (V.int p.high) (putF "low" (V.int p.low) (putF "sides" (V.str p.sides) (putF "y" (V.int p.y) (putF "x" (V.int p.x) (putF "name" (V.str p.name) []))))) = ptFs p := by rfl
  rw [e]
  exact q
theorem pure_Point_told (S : PicFx K) (vs : List V) (H : Hp) (Q : VK) (E : XK) (h : sp_Point_told K vs H Q E) : t_Point_told K E { nx := fun _ H' => Q .non H', rt := Q } (L2.start N_Point_told vs) H := by
  obtain ⟨a, dx, p, rfl, ho, q⟩ := h
  unfold t_Point_told
  have F : ∀ f ∈ (["name", "x", "y", "sides", "low", "high"] : List Str), ∀ v, (ptFs p).lookup f = some v → ∀ {R : VK}, R v H → tFld K (tVar 0) f (L2.start N_Point_told [.ref a]) H R := fun f hf v hv R hr => ⟨_, rfl, a, _, dx, _, v, rfl, ho, S.cD.c, S.nD f hf, hv, hr⟩
  walk_at "w"
  refine F "name" (by decide) _ rfl ?_
  walk_at "w"
  refine F "x" (by decide) _ rfl ?_
  walk_at "w"
  refine F "y" (by decide) _ rfl ?_
  walk_at "w"
  refine F "sides" (by decide) _ rfl ?_
  walk_at "w"
  refine F "low" (by decide) _ rfl ?_
  walk_at "w"
  refine F "high" (by decide) _ rfl ?_
  walk_at "w"
  exact ⟨by rw [sizeLine_eq]; show 6 ≤ _; omega, q⟩
theorem pure_Picture___init__ (S : PicFx K) (vs : List V) (H : Hp) (Q : VK) (E : XK) (h : sp_Picture___init__ K vs H Q E) : t_Picture___init__ K E { nx := fun _ H' => Q .non H', rt := Q } (L2.start N_Picture___init__ vs) H := by
  obtain ⟨a, dx, v, w, d, e, rfl, ho, hv, hw, qN, q⟩ := h
  unfold t_Picture___init__
  walk_at "w"
  refine ⟨v, d, 1, 30, rfl, hv, ?_⟩
  walk_at "w"
  cases hd : wholeB d 1 30
  · walk_at "w"
    exact qN (by unfold sizeB; rw [hd]; rfl)
  walk_at "w"
  refine ⟨w, e, 1, 16, rfl, hw, ?_⟩
  walk_at "w"
  cases he : wholeB e 1 16
  · walk_at "w"
    exact qN (by unfold sizeB; rw [hd, he]; rfl)
  walk_at "w"
  cases hv with
  | int i =>
    cases hw with
    | int j =>
      refine ⟨_, rfl, _, rfl, a, _, dx, _, rfl, ho, S.cP.c, S.nP _ (by decide), by decide, ?_⟩
      refine w_seq ⟨_, rfl, _, rfl, a, _, dx, _, rfl, upd_same, S.cP.c, S.nP _ (by decide), by repeat (first | decide | refine putF_lt ?_), ?_⟩
      refine w_seq (w_sfld (w_dnewK fun pd hpd => ?_))
      rw [upd_upd] at hpd ⊢
      have na : a ≠ pd := fun z => by
        rw [← z, upd_same] at hpd
        cases hpd
      have hpd0 : H pd = none := by rwa [upd_ne (Ne.symm na)] at hpd
      refine ⟨_, rfl, a, _, dx, _, rfl, by rw [upd_ne na, upd_same], S.cP.c, S.nP _ (by decide), by repeat (first | decide | refine putF_lt ?_), ?_⟩
      refine w_sfld (w_dnewT fun po hpo => ?_)
      have nb : a ≠ po := fun z => by
        rw [← z, upd_same] at hpo
        cases hpo
      have nd : pd ≠ po := fun z => by
        rw [← z, upd_ne (Ne.symm na), upd_same] at hpo
        cases hpo
      have hpo0 : H po = none := by rwa [upd_ne (Ne.symm nb), upd_ne (Ne.symm nd), upd_ne (Ne.symm nb)] at hpo
      refine ⟨_, rfl, a, _, dx, _, rfl, by rw [upd_ne nb, upd_same], S.cP.c, S.nP _ (by decide), by repeat (first | decide | refine putF_lt ?_), ?_⟩
      refine q i j rfl rfl (by unfold sizeB; rw [hd, he]; rfl) ⟨a, dx, pd, po, []⟩ _ rfl rfl hpd0 hpo0 rfl (fun b o hb nb' => ?_) ⟨?_, ?_, ?_, .nil⟩
      · have h1 : b ≠ po := fun z => by
          rw [z, hpo0] at hb
          cases hb
        have h2 : b ≠ pd := fun z => by
          rw [z, hpd0] at hb
          cases hb
        rw [upd_ne nb', upd_ne h1, upd_ne nb', upd_ne h2, upd_ne nb']
        exact hb
      · rw [upd_same]
        rfl
      · show upd _ a _ pd = _
        rw [upd_ne (Ne.symm na), upd_ne nd, upd_ne (Ne.symm na), upd_same]
        rfl
      · show upd _ a _ po = _
        rw [upd_ne (Ne.symm nb), upd_same]
        rfl
    | non => cases he
    | bl b => cases he
    | str x => cases he
    | lst h r => cases he
    | tup h r => cases he
  | non => cases hd
  | bl b => cases hd
  | str x => cases hd
  | lst h r => cases hd
  | tup h r => cases hd
theorem pure_Picture_look_cell (S : PicFx K) (vs : List V) (H : Hp) (Q : VK) (E : XK) (h : sp_Picture_look_cell K vs H Q E) : t_Picture_look_cell K E { nx := fun _ H' => Q .non H', rt := Q } (L2.start N_Picture_look_cell vs) H := by
  obtain ⟨L, P, v, w, d, e, rfl, A, hv, hw, q, qN⟩ := h
  unfold t_Picture_look_cell
  have bad : (wholeB d 1 P.w && wholeB e 1 P.h) = false → ∀ D : Ends, tRaiseE (cl K "NoCell") fs_NoCell (fun cls d _ H => E cls d H) (tCons (tVar 1) (tCons (tVar 2) tNil)) D (L2.start N_Picture_look_cell [.ref L.p, v, w]) H := fun z D => by
    walk_at "w"
    refine w_raiseE ?_
    walk_at "w"
    exact ⟨rfl, fun p hp => qN z p hp⟩
  walk_at "w"
  refine ⟨_, rfl, L.p, _, _, _, _, rfl, A.ob, S.cP.c, S.nP _ (by decide), rfl, ?_⟩
  walk_at "w"
  refine ⟨v, d, 1, P.w, rfl, hv, ?_⟩
  walk_at "w"
  cases hd : wholeB d 1 P.w
  · walk_at "w"
    exact bad (by rw [hd]; rfl) _
  walk_at "w"
  refine ⟨_, rfl, L.p, _, _, _, _, rfl, A.ob, S.cP.c, S.nP _ (by decide), rfl, ?_⟩
  walk_at "w"
  refine ⟨w, e, 1, P.h, rfl, hw, ?_⟩
  walk_at "w"
  cases he : wholeB e 1 P.h
  · walk_at "w"
    exact bad (by rw [hd, he]; rfl) _
  walk_at "w"
  exact q (by rw [hd, he]; rfl)
theorem find_at {α : Type} {f : α → Bool} {l : List α} {i : Nat} {x : α} (h : (l.take i).find? f = none) (e : l[i]? = some x) (t : f x = true) : l.find? f = some x := by
  have hi := (List.getElem?_eq_some_iff.mp e).1
  have e2 := (List.getElem?_eq_some_iff.mp e).2
  rw [← List.take_append_drop i l, List.find?_append, h, List.drop_eq_getElem_cons hi, e2, List.find?_cons_of_pos t]
  rfl
theorem find_next {α : Type} {f : α → Bool} {l : List α} {i : Nat} {x : α} (h : (l.take i).find? f = none) (e : l[i]? = some x) (t : f x = false) : (l.take (i + 1)).find? f = none := by
  rw [List.take_succ, e, List.find?_append, h]
  show List.find? f [x] = none
  rw [List.find?_cons_of_neg (by rw [t]; exact Bool.false_ne_true)]
  rfl
/-- a picture while its points are walked -/
theorem frz_ob {H : Hp} {L : Loc} {P : Pic} {od : Obj} (A : PicAt K H L P) : upd H L.d (.frz od (.dK (dotsK P.pts L.as))) L.p = some (.ins (cl K "Picture") L.dx (picFs L P)) := by
  rw [upd_ne (ne_of A.ob A.dots (fun z => nomatch z))]
  exact A.ob
theorem frz_pt {H : Hp} {L : Loc} {P : Pic} {od : Obj} (A : PicAt K H L P) {i : Nat} {p : Pt} {a : Addr × Addr} (hp : P.pts[i]? = some p) (ha : L.as[i]? = some a) : upd H L.d (.frz od (.dK (dotsK P.pts L.as))) a.1 = some (ptO K p a.2) := by
  have e := paired_at A.pts hp ha
  rw [upd_ne (ne_of e A.dots (fun z => nomatch z))]
  exact e
theorem upd_back {H : Hp} {d p : Addr} {o u f : HO} (hd : H d = some u) (hp : upd H d f p = none) : upd (upd (upd H d f) p o) d u = upd H p o ∧ H p = none := by
  have n : p ≠ d := fun z => by
    rw [z, upd_same] at hp
    cases hp
  rw [upd_ne n] at hp
  refine ⟨?_, hp⟩
  funext b
  by_cases h1 : b = d
  · subst h1
    rw [upd_same, upd_ne (Ne.symm n), hd]
  · rw [upd_ne h1]
    by_cases h2 : b = p
    · subst h2
      rw [upd_same, upd_same]
    · rw [upd_ne h2, upd_ne h1, upd_ne h2]
theorem pts_val {L : Loc} {P : Pic} {H : Hp} (A : PicAt K H L P) {i : Nat} {x : V} (hx : ((dotsK P.pts L.as).map (·.2))[i]? = some x) : ∃ (p : Pt) (a : Addr × Addr), P.pts[i]? = some p ∧ L.as[i]? = some a ∧ x = .ref a.1 := by
  rw [dotsK_vals A.len, List.getElem?_map] at hx
  cases ha : L.as[i]? with
  | none =>
    rw [ha] at hx
    cases hx
  | some a =>
    rw [ha] at hx
    cases hx
    have hi := (List.getElem?_eq_some_iff.mp ha).1
    rw [← A.len] at hi
    exact ⟨P.pts[i], a, List.getElem?_eq_getElem hi, rfl, rfl⟩
theorem vals_len {L : Loc} {P : Pic} {H : Hp} (A : PicAt K H L P) : ((dotsK P.pts L.as).map (·.2)).length = P.pts.length := by
  rw [List.length_map, dotsK_len A.len]
theorem pure_Picture_look_free (S : PicFx K) (vs : List V) (H : Hp) (Q : VK) (E : XK) (h : sp_Picture_look_free K vs H Q E) : t_Picture_look_free K E (unl H E) { nx := fun _ H' => Q .non H', rt := Q } (L2.start N_Picture_look_free vs) H := by
  obtain ⟨L, P, x, y, n, rfl, A, q, qC, qR⟩ := h
  unfold t_Picture_look_free
  have hmu : Mut (some (.dK (dotsK P.pts L.as))) := trivial
  have hnf : ∀ o' u', H L.d ≠ some (.frz o' u') := fun o' u' z => by
    rw [A.dots] at z
    cases z
  refine w_seq ⟨L.d, _, A.dots, hmu, fun od => ?_⟩
  walk_at "w"
  refine ⟨_, rfl, L.p, _, _, _, _, rfl, frz_ob A, S.cP.c, S.nP _ (by decide), rfl, ?_⟩
  refine ⟨L.d, od, _, rfl, upd_same, ?_⟩
  refine for_wk (wk_vals _ _ _) (fun i σ H' => H' = upd H L.d (.frz od (.dK (dotsK P.pts L.as))) ∧ (∃ z, σ = [some (.ref L.p), some (.int x), some (.int y), some (.str n), z]) ∧ (P.pts.take i).find? (fun p => decide (p.x = x) && !decide (p.name = n)) = none)
    ⟨rfl, ⟨none, rfl⟩, rfl⟩ (fun i σ H' _ h => by rw [h.1]; exact upd_same) ?_ ?_
  · rintro i v σ H' hv ⟨rfl, ⟨z, rfl⟩, hno⟩
    obtain ⟨p, a, hp, ha, rfl⟩ := pts_val A hv
    walk_at "w"
    refine ⟨_, rfl, a.1, _, _, _, _, rfl, frz_pt A hp ha, S.cD.c, S.nD _ (by decide), rfl, ?_⟩
    walk_at "w"
    by_cases c1 : p.x = x
    · rw [decide_eq_true (by rw [c1])]
      walk_at "w"
      refine ⟨_, rfl, a.1, _, _, _, _, rfl, frz_pt A hp ha, S.cD.c, S.nD _ (by decide), rfl, ?_⟩
      walk_at "w"
      by_cases c2 : p.name = n
      · rw [decide_eq_true (by rw [c2])]
        walk_at "w"
        exact ⟨rfl, ⟨_, rfl⟩, find_next hno hp (by simp [c1, c2])⟩
      · rw [decide_eq_false (fun z => c2 (V.str.inj z))]
        walk_at "w"
        refine w_raiseE ?_
        walk_at "w"
        refine ⟨_, rfl, a.1, _, _, _, _, rfl, frz_pt A hp ha, S.cD.c, S.nD _ (by decide), rfl, ?_⟩
        refine w_nil ⟨rfl, fun e he => ?_⟩
        obtain ⟨h1, h2⟩ := upd_back (o := .xd (fs_SameColumn.zip [V.str p.name]).reverse) A.dots he
        refine ⟨L.d, od, _, by rw [upd_ne (fun z => by rw [← z, upd_same] at he; cases he), upd_same], hnf, ?_⟩
        rw [h1]
        exact qC p (find_at hno hp (by simp [c1, c2])) e h2
    · rw [decide_eq_false (fun z => c1 (V.int.inj z))]
      walk_at "w"
      exact ⟨rfl, ⟨_, rfl⟩, find_next hno hp (by simp [c1])⟩
  · rintro σ H' ⟨rfl, ⟨z, rfl⟩, hno⟩
    rw [vals_len A, List.take_length] at hno
    refine ⟨upd_same, ?_⟩
    rw [upd_upd, upd_id A.dots]
    refine ⟨L.d, _, A.dots, hmu, fun od => ?_⟩
    walk_at "w"
    refine ⟨_, rfl, L.p, _, _, _, _, rfl, frz_ob A, S.cP.c, S.nP _ (by decide), rfl, ?_⟩
    refine ⟨L.d, od, _, rfl, upd_same, ?_⟩
    refine for_wk (wk_vals _ _ _) (fun i σ H' => H' = upd H L.d (.frz od (.dK (dotsK P.pts L.as))) ∧ (∃ z, σ = [some (.ref L.p), some (.int x), some (.int y), some (.str n), z]) ∧ (P.pts.take i).find? (fun p => decide (p.y = y) && !decide (p.name = n)) = none)
      ⟨rfl, ⟨z, rfl⟩, rfl⟩ (fun i σ H' _ h => by rw [h.1]; exact upd_same) ?_ ?_
    · rintro i v σ H' hv ⟨rfl, ⟨z, rfl⟩, hno2⟩
      obtain ⟨p, a, hp, ha, rfl⟩ := pts_val A hv
      walk_at "w"
      refine ⟨_, rfl, a.1, _, _, _, _, rfl, frz_pt A hp ha, S.cD.c, S.nD _ (by decide), rfl, ?_⟩
      walk_at "w"
      by_cases c1 : p.y = y
      · rw [decide_eq_true (by rw [c1])]
        walk_at "w"
        refine ⟨_, rfl, a.1, _, _, _, _, rfl, frz_pt A hp ha, S.cD.c, S.nD _ (by decide), rfl, ?_⟩
        walk_at "w"
        by_cases c2 : p.name = n
        · rw [decide_eq_true (by rw [c2])]
          walk_at "w"
          exact ⟨rfl, ⟨_, rfl⟩, find_next hno2 hp (by simp [c1, c2])⟩
        · rw [decide_eq_false (fun z => c2 (V.str.inj z))]
          walk_at "w"
          refine w_raiseE ?_
          walk_at "w"
          refine ⟨_, rfl, a.1, _, _, _, _, rfl, frz_pt A hp ha, S.cD.c, S.nD _ (by decide), rfl, ?_⟩
          refine w_nil ⟨rfl, fun e he => ?_⟩
          obtain ⟨h1, h2⟩ := upd_back (o := .xd (fs_SameRow.zip [V.str p.name]).reverse) A.dots he
          refine ⟨L.d, od, _, by rw [upd_ne (fun z => by rw [← z, upd_same] at he; cases he), upd_same], hnf, ?_⟩
          rw [h1]
          exact qR p hno (find_at hno2 hp (by simp [c1, c2])) e h2
      · rw [decide_eq_false (fun z => c1 (V.int.inj z))]
        walk_at "w"
        exact ⟨rfl, ⟨_, rfl⟩, find_next hno2 hp (by simp [c1])⟩
    · rintro σ H' ⟨rfl, ⟨z, rfl⟩, hno2⟩
      rw [vals_len A, List.take_length] at hno2
      refine ⟨upd_same, ?_⟩
      rw [upd_upd, upd_id A.dots]
      exact q hno hno2
theorem pure_Picture_points (S : PicFx K) (vs : List V) (H : Hp) (Q : VK) (E : XK) (h : sp_Picture_points K vs H Q E) : t_Picture_points K E { nx := fun _ H' => Q .non H', rt := Q } (L2.start N_Picture_points vs) H := by
  obtain ⟨L, P, rfl, A, hfew, q⟩ := h
  unfold t_Picture_points
  have hmu : Mut (some (.dK (dotsK P.pts L.as))) := trivial
  walk_at "w"
  refine ⟨L.d, _, A.dots, hmu, fun od => ?_⟩
  walk_at "w"
  refine ⟨_, rfl, L.p, _, _, _, _, rfl, frz_ob A, S.cP.c, S.nP _ (by decide), rfl, ?_⟩
  refine ⟨L.d, od, _, rfl, upd_same, fun D hD => ?_⟩
  refine lc_wk1 (wk_vals _ _ _) hD upd_same (fun H1 H2 e h => e _ _ h) (by rw [vals_len A]; omega) (fun i v H' => ∀ p, P.pts[i]? = some p → ∃ t, v = .ref t ∧ H' t = some (.tup (ptRow p)))
    (fun i v H1 H2 k h p hp => ?_) (fun i v H' R hv hS k => ?_) (fun acc H' hS hl hP hDa => ?_)
  · obtain ⟨t, h1, h2⟩ := h p hp
    exact ⟨t, h1, k _ _ h2 (fun _ z => nomatch z)⟩
  · obtain ⟨p, a, hp, ha, rfl⟩ := pts_val A hv
    refine ⟨_, rfl, a.1, _, _, rfl, hS _ _ (frz_pt A hp ha), rfl, ?_⟩
    refine w_nil ⟨a.1, a.2, p, rfl, hS _ _ (frz_pt A hp ha), fun t ht => ?_⟩
    refine k _ _ (same_new ht) fun p' hp' => ?_
    rw [hp] at hp'
    cases hp'
    exact ⟨t, rfl, upd_same⟩
  · rw [vals_len A] at hl
    have hd : H' L.d = some (.frz od (.dK (dotsK P.pts L.as))) := hS _ _ upd_same
    refine ⟨hd, ?_⟩
    have nD : D ≠ L.d := fun z => by
      rw [z, upd_same] at hD
      cases hD
    have hD0 : H D = none := by rwa [upd_ne nD] at hD
    refine q D acc _ (fun b o e => ?_) hD0 (by rw [upd_ne nD]; exact hDa) ?_
    · by_cases hb : b = L.d
      · subst hb
        rw [upd_same, ← A.dots, e]
      · rw [upd_ne hb]
        exact hS _ _ (by rw [upd_ne hb]; exact e)
    · refine paired_of hl.symm fun i p v hp hv => ?_
      obtain ⟨t, h1, h2⟩ := hP i v hv p hp
      refine ⟨t, h1, ?_⟩
      rw [upd_ne (ne_of h2 hd (fun z => nomatch z))]
      exact h2
theorem pure_Picture_seats (S : PicFx K) (vs : List V) (H : Hp) (Q : VK) (E : XK) (h : sp_Picture_seats K vs H Q E) : t_Picture_seats K E { nx := fun _ H' => Q .non H', rt := Q } (L2.start N_Picture_seats vs) H := by
  obtain ⟨L, P, rfl, A, hfew, q⟩ := h
  unfold t_Picture_seats
  walk_at "w"
  refine ⟨_, rfl, L.p, _, _, _, _, rfl, A.ob, S.cP.c, S.nP _ (by decide), rfl, ?_⟩
  walk_at "w"
  have ek : (opK P.op).map (·.1) = P.op.map seatK := by
    unfold opK
    rw [List.map_map]
    rfl
  refine ⟨L.o, opK P.op, rfl, .inl A.opened, ?_, fun l bs hl hb => ?_⟩
  · have e2 : ((opK P.op).map fun kv => keysD kv.1) = P.op.map fun s => keysD (seatK s) := by
      unfold opK
      rw [List.map_map]
      rfl
    rw [e2]
    refine ⟨PySem.W.AllAlike.of fun s t => rfl, PySem.W.Sortable.tuples fun s => ⟨_, _, rfl⟩, fun d hd => ?_, ?_⟩
    · obtain ⟨s, _, rfl⟩ := List.mem_map.mp hd
      show 1 ≤ 60
      omega
    · rw [List.length_map, sizeLine_eq]
      omega
  · rw [ek] at hb
    exact q l bs hl hb
end
end Rim
set_option Elab.async false
set_option linter.all false
set_option maxRecDepth 100000
set_option maxHeartbeats 4000000
namespace Rim
open PySem PySem.Spec PyProof.Rows L2
local macro_rules | `(tactic| walk_at "w1") => `(tactic| (with_reducible first
  | refine w_var rfl ?_ | refine w_c ?_ | refine w_seq ?_ | refine w_asg ?_ | refine w_gname ?_ | refine w_op ?_ | refine w_rI0 ?_ | refine w_cons ?_ | refine w_nil ?_ | refine w_test ?_ | refine w_bl ?_ | refine w_if ?_ | refine w_next ?_ | refine w_ret ?_ | refine w_b ?_
  | refine w_call ?_ | refine w_cb ?_ | refine w_not ?_ | refine w_and ?_ | refine w_or ?_ | refine w_andV ?_ | refine w_orV ?_ | refine w_notV ?_ | refine w_tif ?_ | refine w_tup ?_ | refine w_lst ?_ | refine w_drop ?_ | refine w_retN ?_ | refine w_un ?_ | refine w_neg ?_
  | refine w_callS ?_ | refine w_make ?_ | refine w_for ?_ | refine w_lc ?_ | refine w_rng1 ?_ | refine w_rng2 ?_ | refine w_il ?_ | refine w_it ?_ | refine w_iT ?_ | refine w_iF ?_ | refine w_iNT ?_ | refine w_iNF ?_ | refine w_eq rfl ?_ | refine w_ne rfl ?_ | refine w_min2 ?_ | refine w_max2 ?_ | refine w_abs ?_))
local macro_rules | `(tactic| walk_at "w") => `(tactic| ((try dsimp only [Bool.not_true, Bool.not_false]); repeat (walk_at "w1")))
local macro_rules | `(tactic| walk_at "if") => `(tactic| (first | (apply w_ited) | (apply w_iten) | (apply w_ite)))
local macro_rules | `(tactic| walk_at "len") => `(tactic| (first | (rw [sizeLine_eq]; exact Nat.le_of_ble_eq_true rfl) | (show _ ≤ sizeLine; rw [sizeLine_eq]; exact Nat.le_of_ble_eq_true rfl)))
section
variable {K : PySem.W.Frag}
theorem w_din {σ : L2.St} {H : Hp} {Q : VK} {ty td : TE} (k : ty σ H fun y H1 => td σ H1 fun x H2 => ∃ a o, x = .ref a ∧ DGet H2 a y o ∧ Q (.bl o.isSome) H2) : tDIn ty td σ H Q := k
theorem w_dput {D : Ends} {σ : L2.St} {H : Hp} {td ty tv : TE} (k : tv σ H fun v H1 => td σ H1 fun x H2 => ty σ H2 fun y H3 => ∃ a H4, x = .ref a ∧ DPut H3 a y v H4 ∧ D.nx σ H4) : sDPut td ty tv D σ H := k
theorem w_isN {H : Hp} {Q : VK} {v : V} (k : Q (.bl (decide (v = .non))) H) : rIsN v .non H Q := ⟨rfl, k⟩
theorem Thg.isN {H : Hp} {v : V} {d : PyData} (h : Thg K H v d) : (v = .non ↔ d = .none) := by
  cases h <;> simp
theorem fit_of {P : Pic} {v : ArgV} {a : Args} (h : v.high ≠ .non) (k : a.high ≠ .none) : v.fit P = v ∧ a.fit P = a := by
  constructor
  · unfold ArgV.fit
    split
    · exact absurd ‹_› h
    · cases v
      simp_all
  · unfold Args.fit
    split
    · exact absurd ‹_› k
    · cases a
      simp_all
/-- the three words of a point's sides -/
theorem w_sides {σ : L2.St} {H : Hp} {R : Bool → Hp → Prop} {v : V} {d : PyData} {i : Nat} (g : Thg K H v d) (sh : SeqAt.shaped d = true) (k : R (!sidesB d) H) (hv : σ[i]? = some (some v) := by rfl) :
    tAnd (tTest (tOp (rNeD K) (tVar i) (tC (.str ("left" : Str))))) (tAnd (tTest (tOp (rNeD K) (tVar i) (tC (.str ("right" : Str))))) (tTest (tOp (rNeD K) (tVar i) (tC (.str ("both" : Str)))))) σ H R := by
  walk_at "w"
  refine w_var hv ?_
  walk_at "w"
  refine w_neD g.dp (.str _) sh (by decide +kernel) ?_
  unfold sidesB at k
  cases h1 : PyData.eqv d (.str "left")
  · rw [h1] at k
    walk_at "w"
    refine w_var hv ?_
    walk_at "w"
    refine w_neD g.dp (.str _) sh (by decide +kernel) ?_
    cases h2 : PyData.eqv d (.str "right")
    · rw [h2] at k
      walk_at "w"
      refine w_var hv ?_
      walk_at "w"
      refine w_neD g.dp (.str _) sh (by decide +kernel) ?_
      walk_at "w"
      exact k
    · rw [h2] at k
      walk_at "w"
      exact k
  · rw [h1] at k
    walk_at "w"
    exact k
theorem sidesB_str {s : Str} (h : sidesB (.str s) = true) : s = "left" ∨ s = "right" ∨ s = "both" := by
  unfold sidesB at h
  simp only [PyData.eqv, Bool.or_eq_true, beq_iff_eq] at h
  exact h
theorem sides_of {K : PySem.W.Frag} {H : Hp} {v : V} {d : PyData} (g : Thg K H v d) (h : sidesB d = true) : ∃ s, d = .str s ∧ v = .str s ∧ (s = "left" ∨ s = "right" ∨ s = "both") := by
  cases g with
  | str s => exact ⟨s, rfl, rfl, sidesB_str h⟩
  | non => cases h
  | bl b => cases h
  | int i => cases h
  | lst h1 r => simp [sidesB, PyData.eqv] at h
  | tup h1 r => simp [sidesB, PyData.eqv] at h
theorem whole_of {K : PySem.W.Frag} {H : Hp} {v : V} {d : PyData} {lo hi : Int} (g : Thg K H v d) (h : wholeB d lo hi = true) : ∃ i, d = .int i ∧ v = .int i ∧ lo ≤ i ∧ i ≤ hi := by
  cases g with
  | int i =>
    refine ⟨i, rfl, rfl, ?_⟩
    simpa [wholeB] using h
  | non => cases h
  | bl b => cases h
  | str x => cases h
  | lst h1 r => cases h
  | tup h1 r => cases h
theorem name_of {K : PySem.W.Frag} {H : Hp} {v : V} {d : PyData} (g : Thg K H v d) (h : nameB d = true) : ∃ s, d = .str s ∧ v = .str s ∧ nameS s = true := by
  cases g with
  | str s => exact ⟨s, rfl, rfl, h⟩
  | non => cases h
  | bl b => cases h
  | int i => cases h
  | lst h1 r => cases h
  | tup h1 r => cases h
/-- all but the last: the height stands in for None -/
def sp_put0 (K : PySem.W.Frag) : Sp := fun vs H Q E => ∃ (L : Loc) (P : Pic) (v : ArgV) (a : Args), vs = [.ref L.p, v.name, v.x, v.y, v.sides, v.low, v.high] ∧ PicAt K H L P ∧ P.Ok ∧ ArgsAt K H v a ∧
  (verdict P a ≠ .ok → Refused K H E v (verdict P a)) ∧
  (verdict P a = .ok → ∀ b H', H b.1 = none → But L.d H H' → PicAt K H' { L with as := L.as ++ [b] } { P with pts := P.pts ++ [a.pt] } → Q .non H')
theorem pure_put0 (S : PicFx K) (vs : List V) (H : Hp) (Q : VK) (E : XK) (h : sp_put0 K vs H Q E) (D : Ends) (hD : D = { nx := fun _ H' => Q .non H', rt := Q }) :
    tSeq (tIfS (tNot (tB (tCall (sp_is_name K) [] E (tCons (tVar 1) tNil)))) (tRaiseE (cl K "NoName") fs_NoName (fun cls d _ H => E cls d H) (tCons (tVar 1) tNil)) tNext)
    (tSeq (tDrop (tMeth (cl K "Picture") "look_cell" (sp_Picture_look_cell K) [] E (tVar 0) (tCons (tVar 2) (tCons (tVar 3) tNil))))
    (tSeq (tIfS (tAnd (tTest (tOp (rNeD K) (tVar 4) (tC (.str ("left" : Str))))) (tAnd (tTest (tOp (rNeD K) (tVar 4) (tC (.str ("right" : Str))))) (tTest (tOp (rNeD K) (tVar 4) (tC (.str ("both" : Str))))))) (tRaiseE (cl K "NoSides") fs_NoSides (fun cls d _ H => E cls d H) (tCons (tVar 4) tNil)) tNext)
    (tSeq (tIfS (tOr (tNot (tB (tCall (sp_is_whole K) [] E (tCons (tVar 5) (tCons (tC (.int 1)) (tCons (tFld K (tVar 0) "height") tNil)))))) (tNot (tB (tCall (sp_is_whole K) [] E (tCons (tVar 6) (tCons (tVar 5) (tCons (tFld K (tVar 0) "height") tNil))))))) (tRaiseE (cl K "NoWindow") fs_NoWindow (fun cls d _ H => E cls d H) (tCons (tVar 5) (tCons (tVar 6) tNil))) tNext)
    (tSeq (tIfS (tB (tDIn (tVar 1) (tFld K (tVar 0) "dots"))) (tRaiseE (cl K "OldPoint") fs_OldPoint (fun cls d _ H => E cls d H) (tCons (tVar 1) tNil)) tNext)
    (tSeq (tIfS (tTest (tOp rGeI (tCB rLenD (tCons (tFld K (tVar 0) "dots") tNil)) (tC (.int 12)))) (tRaise0 (cl K "TooMany") (fun cls d _ H => E cls d H)) tNext)
    (tSeq (tDrop (tMeth (cl K "Picture") "look_free" (sp_Picture_look_free K) [] E (tVar 0) (tCons (tVar 2) (tCons (tVar 3) (tCons (tVar 1) tNil)))))
    (sDPut (tFld K (tVar 0) "dots") (tVar 1) (tMake (cl K "Point") (sp_Point___init__ K) [] E (tCons (tVar 1) (tCons (tVar 2) (tCons (tVar 3) (tCons (tVar 4) (tCons (tVar 5) (tCons (tVar 6) tNil)))))))))))))) D (L2.start N_Picture_put vs) H := by
  subst hD
  obtain ⟨L, P, v, a, rfl, A, ok, G, qB, q⟩ := h
  have SW : ∀ {R : VK}, R (.int P.h) H → tFld K (tVar 0) "height" (L2.start N_Picture_put [.ref L.p, v.name, v.x, v.y, v.sides, v.low, v.high]) H R := fun r => ⟨_, rfl, L.p, _, _, _, _, rfl, A.ob, S.cP.c, S.nP _ (by decide), rfl, r⟩
  have SD : ∀ {R : VK}, R (.ref L.d) H → tFld K (tVar 0) "dots" (L2.start N_Picture_put [.ref L.p, v.name, v.x, v.y, v.sides, v.low, v.high]) H R := fun r => ⟨_, rfl, L.p, _, _, _, _, rfl, A.ob, S.cP.c, S.nP _ (by decide), rfl, r⟩
  walk_at "w"
  refine ⟨v.name, a.name, rfl, G.name, G.few, ?_⟩
  walk_at "w"
  cases hn : nameB a.name
  · walk_at "w"
    refine w_raiseE ?_
    walk_at "w"
    have e : verdict P a = .name := by unfold verdict; rw [if_pos hn]
    rw [e] at qB
    exact ⟨rfl, fun p hp => qB (by simp) p hp⟩
  walk_at "w"
  refine ⟨_, rfl, L.p, _, _, rfl, A.ob, rfl, ?_⟩
  walk_at "w"
  refine ⟨L, P, v.x, v.y, a.x, a.y, rfl, A, G.x, G.y, fun hc => ?_, fun hc => ?_⟩
  rotate_left
  · have e : verdict P a = .cell := by
      unfold verdict
      rw [if_neg (by simp [hn]), if_pos hc]
    rw [e] at qB
    exact qB (by simp)
  refine w_seq (w_if (w_sides G.sides (tidy_shaped (G.shp _ (by simp))) ?_))
  cases hs : sidesB a.sides
  · walk_at "w"
    refine w_raiseE ?_
    walk_at "w"
    have e : verdict P a = .sides := by
      unfold verdict
      rw [if_neg (by simp [hn]), if_neg (by simp [hc]), if_pos hs]
    rw [e] at qB
    exact ⟨rfl, fun p hp => qB (by simp) p hp⟩
  walk_at "w"
  have bad : (wholeB a.low 1 P.h && wholeB a.high (lowI a.low) P.h) = false → ∀ D : Ends, tRaiseE (cl K "NoWindow") fs_NoWindow (fun cls d _ H => E cls d H) (tCons (tVar 5) (tCons (tVar 6) tNil)) D (L2.start N_Picture_put [.ref L.p, v.name, v.x, v.y, v.sides, v.low, v.high]) H := fun z D => by
    walk_at "w"
    refine w_raiseE ?_
    walk_at "w"
    have e : verdict P a = .window := by
      unfold verdict
      rw [if_neg (by simp [hn]), if_neg (by simp [hc]), if_neg (by simp [hs]), if_pos z]
    rw [e] at qB
    exact ⟨rfl, fun p hp => qB (by simp) p hp⟩
  refine SW ?_
  walk_at "w"
  refine ⟨v.low, a.low, 1, P.h, rfl, G.low, ?_⟩
  walk_at "w"
  cases hl : wholeB a.low 1 P.h
  · walk_at "w"
    exact bad (by rw [hl]; rfl) _
  walk_at "w"
  obtain ⟨lo, el, evl, lo1, loh⟩ := whole_of G.low hl
  refine SW ?_
  walk_at "w"
  refine ⟨v.high, a.high, lo, P.h, by rw [evl]; rfl, G.high, ?_⟩
  walk_at "w"
  cases hh : wholeB a.high lo P.h
  · walk_at "w"
    exact bad (by rw [hl, el]; exact hh) _
  walk_at "w"
  obtain ⟨hi, eh, evh, hi1, hih⟩ := whole_of G.high hh
  obtain ⟨nm, en, evn, hnm⟩ := name_of G.name hn
  have hc' := hc
  rw [Bool.and_eq_true] at hc'
  obtain ⟨x, ex, evx, x1, xw⟩ := whole_of G.x hc'.1
  obtain ⟨y, ey, evy, y1, yh⟩ := whole_of G.y hc'.2
  obtain ⟨sd, es, evs, hsd⟩ := sides_of G.sides hs
  have hwin : (wholeB a.low 1 P.h && wholeB a.high (lowI a.low) P.h) = true := by rw [hl, el]; exact hh
  refine w_din (w_var rfl (SD ⟨L.d, valV (dotsK P.pts L.as) (Sum.inr nm), rfl, by rw [evn]; exact DGet.k (k := Sum.inr nm) A.dots, ?_⟩))
  rw [dotsK_val nm A.len]
  have vd : verdict P a = if (P.pts.any fun p => decide (p.name = nm)) = true then .old else if 12 ≤ P.pts.length then .many
      else match colOf P x nm with
        | some p => .col p.name
        | none => match rowOf P y nm with
          | some p => .row p.name
          | none => .ok := by
    unfold verdict
    rw [if_neg (by simp [hn]), if_neg (by simp [hc]), if_neg (by simp [hs]), if_neg (by simp [hwin]), en, ex, ey]
    rfl
  cases hold : P.pts.any fun p => decide (p.name = nm)
  rotate_left
  · walk_at "w"
    refine w_raiseE ?_
    walk_at "w"
    rw [vd, if_pos hold] at qB
    exact ⟨rfl, fun p hp => qB (by simp) p hp⟩
  rw [if_neg (by rw [hold]; exact Bool.false_ne_true)] at vd
  walk_at "w"
  refine SD ?_
  walk_at "w"
  refine ⟨L.d, _, rfl, A.dots, ?_⟩
  walk_at "w"
  rw [dotsK_len A.len]
  walk_at "if" <;> intro hm
  · walk_at "w"
    rw [vd, if_pos (by omega)] at qB
    exact qB (by simp)
  rw [if_neg (by omega)] at vd
  walk_at "w"
  refine ⟨_, rfl, L.p, _, _, rfl, A.ob, rfl, ?_⟩
  walk_at "w"
  refine ⟨L, P, x, y, nm, by rw [evx, evy, evn]; rfl, A, fun hC hR => ?_, fun p hC => ?_, fun p hC hR => ?_⟩
  rotate_left
  · rw [vd, hC] at qB
    exact qB (by simp)
  · rw [vd, hC, hR] at qB
    exact qB (by simp)
  walk_at "w"
  rw [hC, hR] at vd
  refine w_dput ?_
  walk_at "w"
  intro b dx nb nd ne
  refine ⟨b, dx, a.pt, ?_, upd_same, rfl, ?_⟩
  · show _ = _ :: ptRow a.pt
    unfold Args.pt ptRow
    rw [evn, evx, evy, evs, evl, evh, en, ex, ey, es, el, eh]
    rfl
  rw [upd_upd]
  have sm : Same H (upd (upd H dx (.own b)) b (ptO K a.pt dx)) := same_made nb nd
  refine ⟨_, rfl, L.p, _, _, _, _, rfl, sm _ _ A.ob, S.cP.c, S.nP _ (by decide), rfl, ?_⟩
  refine w_var rfl ⟨L.d, _, rfl, by rw [evn]; exact DPut.k (k := Sum.inr nm) (sm _ _ A.dots) (by rw [dotsK_len A.len, sizeLine_eq]; omega), ?_⟩
  have enew : putK (dotsK P.pts L.as) (Sum.inr nm) (V.ref b) = dotsK (P.pts ++ [a.pt]) (L.as ++ [(b, dx)]) := by
    rw [dotsK_snoc _ _ A.len]
    have e1 : valV (dotsK P.pts L.as) (Sum.inr nm) = none := by
      have z := dotsK_val (ps := P.pts) (as := L.as) nm A.len
      rw [hold] at z
      cases h : valV (dotsK P.pts L.as) (Sum.inr nm) with
      | none => rfl
      | some w =>
        rw [h] at z
        cases z
    rw [putK_new _ e1]
    unfold Args.pt
    rw [en]
    rfl
  rw [enew]
  have nbd : b ≠ L.d := fun z => by
    rw [z, A.dots] at nb
    cases nb
  refine q vd (b, dx) _ nb ((Same.but sm).trans but_upd) ⟨?_, upd_same, ?_, ?_⟩
  · show upd _ L.d _ L.p = _
    rw [upd_ne (ne_of A.ob A.dots (fun z => nomatch z))]
    exact sm _ _ A.ob
  · show upd _ L.d _ L.o = _
    rw [upd_ne (ne_of A.opened A.dots (fun z => nomatch z))]
    exact sm _ _ A.opened
  · refine paired_snoc (paired_mono A.pts fun p c h => ?_) ?_
    · rw [upd_ne (ne_of h A.dots (fun z => nomatch z))]
      exact sm _ _ h
    · show upd _ L.d _ b = _
      rw [upd_ne nbd, upd_same]
theorem pure_Picture_put (S : PicFx K) (vs : List V) (H : Hp) (Q : VK) (E : XK) (h : sp_Picture_put K vs H Q E) : t_Picture_put K E { nx := fun _ H' => Q .non H', rt := Q } (L2.start N_Picture_put vs) H := by
  obtain ⟨L, P, v, a, rfl, A, ok, G, qB, q⟩ := h
  unfold t_Picture_put
  walk_at "w"
  refine w_isN ?_
  walk_at "w"
  walk_at "if" <;> intro hv
  · walk_at "w"
    refine ⟨_, rfl, L.p, _, _, _, _, rfl, A.ob, S.cP.c, S.nP _ (by decide), rfl, ?_⟩
    refine w_gname ?_
    have e1 : v.fit P = { v with high := .int P.h } := by
      unfold ArgV.fit
      rw [hv]
    have e2 : a.fit P = { a with high := .int P.h } := by
      unfold Args.fit
      rw [G.high.isN.mp hv]
    refine pure_put0 S [.ref L.p, v.name, v.x, v.y, v.sides, v.low, .int P.h] H Q E ⟨L, P, v.fit P, a.fit P, by rw [e1], A, ok, ?_, qB, q⟩ _ rfl
    rw [e1, e2]
    refine ⟨G.name, G.x, G.y, G.sides, G.low, .int _, G.few, fun d hd => ?_⟩
    simp only [List.mem_cons, List.not_mem_nil, or_false] at hd
    rcases hd with h | h | h | h | h | h
    · exact G.shp d (by rw [h]; simp)
    · exact G.shp d (by rw [h]; simp)
    · exact G.shp d (by rw [h]; simp)
    · exact G.shp d (by rw [h]; simp)
    · exact G.shp d (by rw [h]; simp)
    · rw [h]
      exact tidy_int _
  · refine w_next ?_
    obtain ⟨e1, e2⟩ := fit_of (P := P) (v := v) (a := a) hv (fun z => hv (G.high.isN.mpr z))
    rw [e2] at qB q
    rw [e1] at qB
    exact pure_put0 S _ H Q E ⟨L, P, v, a, rfl, A, ok, G, qB, q⟩ _ rfl
end
end Rim
set_option Elab.async false
set_option linter.all false
set_option maxRecDepth 100000
set_option maxHeartbeats 4000000
namespace Rim
open PySem PySem.Spec PyProof.Rows L2
local macro_rules | `(tactic| walk_at "w1") => `(tactic| (with_reducible first
  | refine w_var rfl ?_ | refine w_c ?_ | refine w_seq ?_ | refine w_asg ?_ | refine w_gname ?_ | refine w_op ?_ | refine w_rI0 ?_ | refine w_cons ?_ | refine w_nil ?_ | refine w_test ?_ | refine w_bl ?_ | refine w_if ?_ | refine w_next ?_ | refine w_ret ?_ | refine w_b ?_
  | refine w_call ?_ | refine w_cb ?_ | refine w_not ?_ | refine w_and ?_ | refine w_or ?_ | refine w_andV ?_ | refine w_orV ?_ | refine w_notV ?_ | refine w_tif ?_ | refine w_tup ?_ | refine w_lst ?_ | refine w_drop ?_ | refine w_retN ?_ | refine w_un ?_ | refine w_neg ?_
  | refine w_callS ?_ | refine w_make ?_ | refine w_for ?_ | refine w_lc ?_ | refine w_rng1 ?_ | refine w_rng2 ?_ | refine w_il ?_ | refine w_it ?_ | refine w_iT ?_ | refine w_iF ?_ | refine w_iNT ?_ | refine w_iNF ?_ | refine w_eq rfl ?_ | refine w_ne rfl ?_ | refine w_min2 ?_ | refine w_max2 ?_ | refine w_abs ?_))
local macro_rules | `(tactic| walk_at "w") => `(tactic| ((try dsimp only [Bool.not_true, Bool.not_false]); repeat (walk_at "w1")))
local macro_rules | `(tactic| walk_at "if") => `(tactic| (first | (apply w_ited) | (apply w_iten) | (apply w_ite)))
local macro_rules | `(tactic| walk_at "len") => `(tactic| (first | (rw [sizeLine_eq]; exact Nat.le_of_ble_eq_true rfl) | (show _ ≤ sizeLine; rw [sizeLine_eq]; exact Nat.le_of_ble_eq_true rfl)))
/-! ### the script's cells -/
def lcell (ns : List Int) (k : Int) : Int := if k < ns.length then ns.getD k.toNat 0 else 7919 * k + 13
def sp__law_cell (K : PySem.W.Frag) : Sp := fun vs H Q _ => ∃ (a : Addr) (ns : List Int) (k : Int), vs = [.ref a, .int k] ∧ SqL K H a (ns.map V.int) ∧ 0 ≤ k ∧ k < 1000000 ∧ Q (.int (lcell ns k)) H
def t__law_cell (K : PySem.W.Frag) (E : XK) : TS :=
  (tSeq (tIfS (tTest (tOp rLtI (tVar 1) (tCB (rLenSeq K) (tCons (tVar 0) tNil)))) (tRet (tOp (rIxL K) (tVar 0) (tVar 1))) tNext)
    (tRet (tOp rAddI (tOp rMulI (tC (.int 7919)) (tVar 1)) (tC (.int 13)))))
abbrev N__law_cell : List Str := ["_law_script", "_law_k"]
section
variable {K : PySem.W.Frag}
theorem pure__law_cell (vs : List V) (H : Hp) (Q : VK) (E : XK) (h : sp__law_cell K vs H Q E) : t__law_cell K E { nx := fun _ H' => Q .non H', rt := Q } (L2.start N__law_cell vs) H := by
  obtain ⟨a, ns, k, rfl, hS, h0, h1, q⟩ := h
  unfold t__law_cell
  walk_at "w"
  refine w_lenL hS ?_
  walk_at "w"
  rw [List.length_map]
  walk_at "if" <;> intro c
  · walk_at "w"
    have hk : k.toNat < ns.length := by omega
    refine w_ixL hS (atI_at h0 (by rw [List.getElem?_map, List.getElem?_eq_getElem hk]; rfl)) ?_
    have e : lcell ns k = ns[k.toNat] := by
      unfold lcell
      rw [if_pos c, List.getD_eq_getElem?_getD, List.getElem?_eq_getElem hk]
      rfl
    rw [e] at q
    exact q
  · walk_at "w"
    refine w_rI (.inl (by decide)) ?_
    walk_at "w"
    have e : lcell ns k = 7919 * k + 13 := by
      unfold lcell
      rw [if_neg c]
    rw [e] at q
    exact q
end
end Rim
set_option Elab.async false
set_option linter.all false
set_option maxRecDepth 100000
set_option maxHeartbeats 4000000
namespace Rim
open PySem PySem.Spec PyProof.Rows L2
local macro_rules | `(tactic| walk_at "w1") => `(tactic| (with_reducible first
  | refine w_var rfl ?_ | refine w_c ?_ | refine w_seq ?_ | refine w_asg ?_ | refine w_gname ?_ | refine w_op ?_ | refine w_rI0 ?_ | refine w_cons ?_ | refine w_nil ?_ | refine w_test ?_ | refine w_bl ?_ | refine w_if ?_ | refine w_next ?_ | refine w_ret ?_ | refine w_b ?_
  | refine w_call ?_ | refine w_cb ?_ | refine w_not ?_ | refine w_and ?_ | refine w_or ?_ | refine w_andV ?_ | refine w_orV ?_ | refine w_notV ?_ | refine w_tif ?_ | refine w_tup ?_ | refine w_lst ?_ | refine w_drop ?_ | refine w_retN ?_ | refine w_un ?_ | refine w_neg ?_
  | refine w_callS ?_ | refine w_make ?_ | refine w_for ?_ | refine w_lc ?_ | refine w_rng1 ?_ | refine w_rng2 ?_ | refine w_il ?_ | refine w_it ?_ | refine w_iT ?_ | refine w_iF ?_ | refine w_iNT ?_ | refine w_iNF ?_ | refine w_eq rfl ?_ | refine w_ne rfl ?_ | refine w_min2 ?_ | refine w_max2 ?_ | refine w_abs ?_))
local macro_rules | `(tactic| walk_at "w") => `(tactic| ((try dsimp only [Bool.not_true, Bool.not_false]); repeat (walk_at "w1")))
local macro_rules | `(tactic| walk_at "if") => `(tactic| (first | (apply w_ited) | (apply w_iten) | (apply w_ite)))
local macro_rules | `(tactic| walk_at "len") => `(tactic| (first | (rw [sizeLine_eq]; exact Nat.le_of_ble_eq_true rfl) | (show _ ≤ sizeLine; rw [sizeLine_eq]; exact Nat.le_of_ble_eq_true rfl)))
def lmixed (c k : Int) : Int :=
  let a := (c + 7919 * k) % 2147483647
  let b := (a * 48271 + k) % 2147483647
  let d := b * (b + 7) % 2147483629
  d * (d + 3) % 2147483587
def sp__law_mixed (K : PySem.W.Frag) : Sp := fun vs H Q _ => ∃ (c k : Int), vs = [.int c, .int k] ∧ Q (.int (lmixed c k)) H
/-! ### how an error is told -/
abbrev LE : List Str := ["NoName", "NoCell", "NoSides", "NoWindow", "OldPoint", "TooMany", "SameColumn", "SameRow", "NoPoint", "NoSide", "NoRow", "OldSeat", "NoSeat", "NoSize", "NoRoom", "NoNotes", "TooFull", "TooTall", "BadLine", "BadDrawing", "NoLine"]
inductive Told : Str → List (Str × V) → List V → Prop
  | name (v : V) : Told "NoName" [("name", v)] [.str "name", v]
  | cell (x y : V) : Told "NoCell" [("y", y), ("x", x)] [.str "cell", x, y]
  | sides (v : V) : Told "NoSides" [("sides", v)] [.str "sides", v]
  | window (l h : V) : Told "NoWindow" [("high", h), ("low", l)] [.str "window", l, h]
  | old (v : V) : Told "OldPoint" [("name", v)] [.str "old", v]
  | many : Told "TooMany" [] [.str "many"]
  | col (v : V) : Told "SameColumn" [("name", v)] [.str "column", v]
  | row (v : V) : Told "SameRow" [("name", v)] [.str "row", v]
def sp__law_told_more (K : PySem.W.Frag) : Sp := fun vs H Q _ => ∃ (a : Addr) (c : Str) (d : Option Addr) (fs : List (Str × V)) (ys : List V), vs = [.ref a] ∧ ErrAt H a (cl K c) d fs ∧ Told c fs ys ∧
  ∀ l H', Same H H' → H l = none → H' l = some (.lst []) → Q (.ref l) H'
def sp__law_told (K : PySem.W.Frag) : Sp := fun vs H Q _ => ∃ (a : Addr) (c : Str) (d : Option Addr) (fs : List (Str × V)) (ys : List V), vs = [.ref a] ∧ ErrAt H a (cl K c) d fs ∧ (fs ≠ [] → d.isSome = true) ∧ Told c fs ys ∧
  ∀ l H', Same H H' → H l = none → H' l = some (.lst ys) → Q (.ref l) H'
def t__law_mixed (K : PySem.W.Frag) (E : XK) : TS :=
  (tSeq (tAsg (tOp rModI (tOp rAddI (tVar 0) (tOp rMulI (tC (.int 7919)) (tVar 1))) (tC (.int 2147483647))) (gName 2))
    (tSeq (tAsg (tOp rModI (tOp rAddI (tOp rMulI (tVar 2) (tC (.int 48271))) (tVar 1)) (tC (.int 2147483647))) (gName 2))
    (tSeq (tAsg (tOp rModI (tOp rMulI (tVar 2) (tOp rAddI (tVar 2) (tC (.int 7)))) (tC (.int 2147483629))) (gName 2))
    (tRet (tOp rModI (tOp rMulI (tVar 2) (tOp rAddI (tVar 2) (tC (.int 3)))) (tC (.int 2147483587)))))))
abbrev N__law_mixed : List Str := ["_law_cell_here", "_law_k", "_law_number"]
def t__law_told (K : PySem.W.Frag) (E : XK) : TS :=
  (tSeq (tAsg (tLst tNil) (gName 1))
    (tSeq (tIfS (tB (tCB (rIsA K) (tCons (tVar 0) (tCons (tC (.ref (cl K "NoName"))) tNil)))) (tAsg (tOp rCat (tVar 1) (tLst (tCons (tC (.str ("name" : Str))) (tCons (tExF K (tVar 0) "name") tNil)))) (gName 1)) tNext)
    (tSeq (tIfS (tB (tCB (rIsA K) (tCons (tVar 0) (tCons (tC (.ref (cl K "NoCell"))) tNil)))) (tAsg (tOp rCat (tVar 1) (tLst (tCons (tC (.str ("cell" : Str))) (tCons (tExF K (tVar 0) "x") (tCons (tExF K (tVar 0) "y") tNil))))) (gName 1)) tNext)
    (tSeq (tIfS (tB (tCB (rIsA K) (tCons (tVar 0) (tCons (tC (.ref (cl K "NoSides"))) tNil)))) (tAsg (tOp rCat (tVar 1) (tLst (tCons (tC (.str ("sides" : Str))) (tCons (tExF K (tVar 0) "sides") tNil)))) (gName 1)) tNext)
    (tSeq (tIfS (tB (tCB (rIsA K) (tCons (tVar 0) (tCons (tC (.ref (cl K "NoWindow"))) tNil)))) (tAsg (tOp rCat (tVar 1) (tLst (tCons (tC (.str ("window" : Str))) (tCons (tExF K (tVar 0) "low") (tCons (tExF K (tVar 0) "high") tNil))))) (gName 1)) tNext)
    (tSeq (tIfS (tB (tCB (rIsA K) (tCons (tVar 0) (tCons (tC (.ref (cl K "OldPoint"))) tNil)))) (tAsg (tOp rCat (tVar 1) (tLst (tCons (tC (.str ("old" : Str))) (tCons (tExF K (tVar 0) "name") tNil)))) (gName 1)) tNext)
    (tSeq (tIfS (tB (tCB (rIsA K) (tCons (tVar 0) (tCons (tC (.ref (cl K "TooMany"))) tNil)))) (tAsg (tOp rCat (tVar 1) (tLst (tCons (tC (.str ("many" : Str))) tNil))) (gName 1)) tNext)
    (tSeq (tIfS (tB (tCB (rIsA K) (tCons (tVar 0) (tCons (tC (.ref (cl K "SameColumn"))) tNil)))) (tAsg (tOp rCat (tVar 1) (tLst (tCons (tC (.str ("column" : Str))) (tCons (tExF K (tVar 0) "name") tNil)))) (gName 1)) tNext)
    (tSeq (tIfS (tB (tCB (rIsA K) (tCons (tVar 0) (tCons (tC (.ref (cl K "SameRow"))) tNil)))) (tAsg (tOp rCat (tVar 1) (tLst (tCons (tC (.str ("row" : Str))) (tCons (tExF K (tVar 0) "name") tNil)))) (gName 1)) tNext)
    (tRet (tOp rCat (tVar 1) (tCall (sp__law_told_more K) [] E0 (tCons (tVar 0) tNil)))))))))))))
abbrev N__law_told : List Str := ["_law_e", "_law_found"]
def t__law_told_more (K : PySem.W.Frag) (E : XK) : TS :=
  (tSeq (tAsg (tLst tNil) (gName 1))
    (tSeq (tIfS (tB (tCB (rIsA K) (tCons (tVar 0) (tCons (tC (.ref (cl K "NoPoint"))) tNil)))) (tAsg (tOp rCat (tVar 1) (tLst (tCons (tC (.str ("point" : Str))) (tCons (tExF K (tVar 0) "name") tNil)))) (gName 1)) tNext)
    (tSeq (tIfS (tB (tCB (rIsA K) (tCons (tVar 0) (tCons (tC (.ref (cl K "NoSide"))) tNil)))) (tAsg (tOp rCat (tVar 1) (tLst (tCons (tC (.str ("side" : Str))) (tCons (tExF K (tVar 0) "side") tNil)))) (gName 1)) tNext)
    (tSeq (tIfS (tB (tCB (rIsA K) (tCons (tVar 0) (tCons (tC (.ref (cl K "NoRow"))) tNil)))) (tAsg (tOp rCat (tVar 1) (tLst (tCons (tC (.str ("no row" : Str))) (tCons (tExF K (tVar 0) "row") tNil)))) (gName 1)) tNext)
    (tSeq (tIfS (tB (tCB (rIsA K) (tCons (tVar 0) (tCons (tC (.ref (cl K "OldSeat"))) tNil)))) (tAsg (tOp rCat (tVar 1) (tLst (tCons (tC (.str ("open" : Str))) (tCons (tExF K (tVar 0) "side") (tCons (tExF K (tVar 0) "row") tNil))))) (gName 1)) tNext)
    (tSeq (tIfS (tB (tCB (rIsA K) (tCons (tVar 0) (tCons (tC (.ref (cl K "NoSeat"))) tNil)))) (tAsg (tOp rCat (tVar 1) (tLst (tCons (tC (.str ("shut" : Str))) (tCons (tExF K (tVar 0) "side") (tCons (tExF K (tVar 0) "row") tNil))))) (gName 1)) tNext)
    (tSeq (tIfS (tB (tCB (rIsAT K) (tCons (tVar 0) (tCons (tTup (tCons (tC (.ref (cl K "NoSize"))) (tCons (tC (.ref (cl K "NoRoom"))) (tCons (tC (.ref (cl K "NoNotes"))) (tCons (tC (.ref (cl K "TooFull"))) (tCons (tC (.ref (cl K "TooTall"))) (tCons (tC (.ref (cl K "BadLine"))) (tCons (tC (.ref (cl K "BadDrawing"))) (tCons (tC (.ref (cl K "NoLine"))) tNil))))))))) tNil)))) (tAsg (tOp rCat (tVar 1) (tLst (tCons (tC (.str ("odd" : Str))) tNil))) (gName 1)) tNext)
    (tSeq (tIfS (tNot (tB (tCB (rIsA K) (tCons (tVar 0) (tCons (tC (.ty "ValueError")) tNil))))) (tAsg (tOp rCat (tVar 1) (tLst (tCons (tC (.str ("odd" : Str))) tNil))) (gName 1)) tNext)
    (tRet (tVar 1))))))))))
abbrev N__law_told_more : List Str := ["_law_e", "_law_found"]
structure TellFx (K : PySem.W.Frag) : Prop where
  er : ErrFx K LE
  fld : ∀ q ∈ ([("NoName", "name"), ("NoCell", "x"), ("NoCell", "y"), ("NoSides", "sides"), ("NoWindow", "low"), ("NoWindow", "high"), ("OldPoint", "name"), ("SameColumn", "name"), ("SameRow", "name")] : List (Str × Str)), PySem.W.findIn K (.ref (cl K q.1)) q.2 = some none
section
variable {K : PySem.W.Frag}
theorem w_isE {H : Hp} {Q : VK} {a : Addr} {c x : Str} {d : Option Addr} {fs : List (Str × V)} {L : List Str} (F : ErrFx K L) (A : ErrAt H a (cl K c) d fs) (hc : c ∈ L) (hx : x ∈ L) (k : Q (.bl (decide (c = x))) H) : rIsA K [.ref a, .ref (cl K x)] H Q :=
  .inr ⟨a, cl K c, d, fs, _, _, _, rfl, A, F.exc c hc, .own _, F.kit c hc x hx, k⟩
theorem w_isEV {H : Hp} {Q : VK} {a : Addr} {c : Str} {d : Option Addr} {fs : List (Str × V)} {L : List Str} (F : ErrFx K L) (A : ErrAt H a (cl K c) d fs) (hc : c ∈ L) (k : Q (.bl true) H) : rIsA K [.ref a, .ty "ValueError"] H Q :=
  .inr ⟨a, cl K c, d, fs, _, _, _, rfl, A, F.exc c hc, .ty _, F.val c hc, k⟩
theorem kitAny_no {C : Value} : ∀ {us : List Value}, (∀ u ∈ us, PySem.W.kitOne K C u = some false) → PySem.W.kitAny K C us = some false
  | [], _ => rfl
  | u :: us, h => by
    unfold PySem.W.kitAny
    rw [h u (List.mem_cons_self ..)]
    exact kitAny_no fun v hv => h v (List.mem_cons_of_mem _ hv)
theorem clsV_own : ∀ cs : List Str, Paired ClsV (cs.map fun c => V.ref (cl K c)) (cs.map fun c => Value.ref (cl K c))
  | [] => .nil
  | c :: cs => .cons (.own _) (clsV_own cs)
theorem w_isEN {H : Hp} {Q : VK} {a tp : Addr} {c : Str} {d : Option Addr} {fs : List (Str × V)} {L cs : List Str} (F : ErrFx K L) (A : ErrAt H a (cl K c) d fs) (hc : c ∈ L) (hcs : ∀ x ∈ cs, x ∈ L ∧ c ≠ x) (ht : H tp = some (.tup (cs.map fun c => V.ref (cl K c)))) (k : Q (.bl false) H) : rIsAT K [.ref a, .ref tp] H Q :=
  .inr ⟨a, cl K c, d, fs, tp, _, _, false, rfl, A, F.exc c hc, ht, clsV_own cs, kitAny_no (fun u hu => by
    obtain ⟨x, hx, rfl⟩ := List.mem_map.mp hu
    rw [F.kit c hc x (hcs x hx).1, decide_eq_false (hcs x hx).2]), k⟩
theorem ErrAt.same {H H' : Hp} {a C : Addr} {d : Option Addr} {fs : List (Str × V)} (e : Same H H') (A : ErrAt H a C d fs) : ErrAt H' a C d fs := by
  refine ⟨e _ _ A.ob, ?_⟩
  cases d with
  | none => exact A.dk
  | some p => exact e _ _ A.dk
theorem pure__law_mixed (vs : List V) (H : Hp) (Q : VK) (E : XK) (h : sp__law_mixed K vs H Q E) : t__law_mixed K E { nx := fun _ H' => Q .non H', rt := Q } (L2.start N__law_mixed vs) H := by
  obtain ⟨c, k, rfl, q⟩ := h
  unfold t__law_mixed
  walk_at "w"
  refine w_rI (.inl (by decide)) ?_
  walk_at "w"
  refine w_rI (by decide) ?_
  walk_at "w"
  refine w_rI (.inr (by decide)) ?_
  walk_at "w"
  refine w_rI (by decide) ?_
  walk_at "w"
  refine w_rI (.inl (by constructor <;> omega)) ?_
  walk_at "w"
  refine w_rI (by decide) ?_
  walk_at "w"
  refine w_rI (.inl (by constructor <;> omega)) ?_
  walk_at "w"
  refine w_rI (by decide) ?_
  exact q
theorem told_in {c : Str} {fs : List (Str × V)} {ys : List V} (h : Told c fs ys) : c ∈ LE ∧ ∀ x ∈ (["NoPoint", "NoSide", "NoRow", "OldSeat", "NoSeat", "NoSize", "NoRoom", "NoNotes", "TooFull", "TooTall", "BadLine", "BadDrawing", "NoLine"] : List Str), c ≠ x := by
  cases h <;> exact ⟨by decide, by decide⟩
theorem pure__law_told_more (F : TellFx K) (vs : List V) (H : Hp) (Q : VK) (E : XK) (h : sp__law_told_more K vs H Q E) : t__law_told_more K E { nx := fun _ H' => Q .non H', rt := Q } (L2.start N__law_told_more vs) H := by
  obtain ⟨a, c, d, fs, ys, rfl, A0, T, q⟩ := h
  obtain ⟨hc, hno⟩ := told_in T
  unfold t__law_told_more
  walk_at "w"
  refine ⟨by walk_at "len", fun l hl => ?_⟩
  have A := A0.same (same_new (o := .lst []) hl)
  walk_at "w"
  refine w_isE F.er A hc (by decide) ?_
  rw [decide_eq_false (hno _ (by decide))]
  walk_at "w"
  refine w_isE F.er A hc (by decide) ?_
  rw [decide_eq_false (hno _ (by decide))]
  walk_at "w"
  refine w_isE F.er A hc (by decide) ?_
  rw [decide_eq_false (hno _ (by decide))]
  walk_at "w"
  refine w_isE F.er A hc (by decide) ?_
  rw [decide_eq_false (hno _ (by decide))]
  walk_at "w"
  refine w_isE F.er A hc (by decide) ?_
  rw [decide_eq_false (hno _ (by decide))]
  walk_at "w"
  refine ⟨by walk_at "len", fun t ht => ?_⟩
  refine w_isEN (cs := ["NoSize", "NoRoom", "NoNotes", "TooFull", "TooTall", "BadLine", "BadDrawing", "NoLine"]) F.er (A.same (same_new ht)) hc (fun x hx => ⟨?_, hno x ?_⟩) upd_same ?_
  · exact List.mem_of_mem_drop (i := 13) (by simpa using hx)
  · exact List.mem_of_mem_drop (i := 5) (by simpa using hx)
  walk_at "w"
  refine w_isEV F.er (A.same (same_new ht)) hc ?_
  walk_at "w"
  refine q l _ ((same_new hl).trans (same_new ht)) hl ?_
  rw [upd_ne (fun z => by rw [z, upd_same] at ht; cases ht), upd_same]
/-- a new list behind two others -/
theorem cat_new {H : Hp} {Q : VK} {l : Addr} {xs ys : List V} (hl : H l = some (.lst xs)) (hlen : xs.length + ys.length ≤ sizeLine) (k : ∀ r H', Same H H' → H r = none → H' r = some (.lst (xs ++ ys)) → Q (.ref r) H') :
    ys.length ≤ sizeLine ∧ ∀ z, H z = none → rCat (.ref l) (.ref z) (upd H z (.lst ys)) Q := by
  refine ⟨by omega, fun z hz => ⟨l, z, xs, ys, rfl, rfl, same_new hz _ _ hl, upd_same, hlen, fun r hr => ?_⟩⟩
  refine k r _ ((same_new hz).trans (same_new hr)) ?_ upd_same
  by_cases e : r = z
  · subst e
    exact hz
  · rwa [upd_ne e] at hr
theorem w_exf {σ : L2.St} {H : Hp} {Q : VK} {te : TE} {f : Str} {a C p : Addr} {fs : List (Str × V)} {v : V} (h : te σ H = fun R => R (.ref a) H) (A : ErrAt H a C (some p) fs) (X : ExcC K C) (n : PySem.W.findIn K (.ref C) f = some none) (l : fs.lookup f = some v) (k : Q v H) : tExF K te f σ H Q := by
  unfold tExF
  rw [h]
  exact ⟨a, C, p, fs, v, rfl, A, X, n, l, k⟩
theorem none_back {H H' : Hp} {r : Addr} (e : Same H H') (h : H' r = none) : H r = none := by
  cases z : H r with
  | none => rfl
  | some o =>
    rw [e _ _ z] at h
    cases h
theorem pure__law_told (F : TellFx K) (vs : List V) (H : Hp) (Q : VK) (E : XK) (h : sp__law_told K vs H Q E) : t__law_told K E { nx := fun _ H' => Q .non H', rt := Q } (L2.start N__law_told vs) H := by
  obtain ⟨a, c, d, fs, ys, rfl, A, hd, T, q⟩ := h
  have hc := (told_in T).1
  replace q : ∀ l H', Same H H' → H l = none → H' l = some (.lst ys) → Q (.ref l) H' := q
  unfold t__law_told
  walk_at "w"
  refine ⟨by walk_at "len", fun l hl0 => ?_⟩
  have hl : upd H l (.lst []) l = some (.lst []) := upd_same
  have hS0 : Same H (upd H l (.lst [])) := same_new hl0
  replace A := A.same hS0
  replace q : ∀ l' H', Same (upd H l (.lst [])) H' → upd H l (.lst []) l' = none → H' l' = some (.lst ys) → Q (.ref l') H' := fun l' H' s n => q l' H' (hS0.trans s) (none_back hS0 n)
  generalize upd H l (.lst []) = H0 at hl A q ⊢
  clear hS0 hl0
  have go : ∀ (p : Addr), d = some p → True := fun _ _ => trivial
  cases T with
  | name v =>
    obtain ⟨p, rfl⟩ := Option.isSome_iff_exists.mp (hd (by simp))
    (walk_at "w"; refine w_isE F.er A hc (by decide) ?_; rw [decide_eq_true rfl]; walk_at "w"); (refine ⟨_, rfl, a, _, p, _, _, rfl, A, F.er.exc _ hc, F.fld ("NoName", "name") (by decide), rfl, ?_⟩; walk_at "w"); (refine cat_new hl (by walk_at "len") fun l H1 hS hn hl => ?_; replace A := A.same hS; replace q := fun l' H' (s : Same H1 H') n => q l' H' (Same.trans hS s) (none_back hS n))
    (walk_at "w"; refine w_isE F.er A hc (by decide) ?_; rw [decide_eq_false (by decide)]); (walk_at "w"; refine w_isE F.er A hc (by decide) ?_; rw [decide_eq_false (by decide)]); (walk_at "w"; refine w_isE F.er A hc (by decide) ?_; rw [decide_eq_false (by decide)]); (walk_at "w"; refine w_isE F.er A hc (by decide) ?_; rw [decide_eq_false (by decide)]); (walk_at "w"; refine w_isE F.er A hc (by decide) ?_; rw [decide_eq_false (by decide)]); (walk_at "w"; refine w_isE F.er A hc (by decide) ?_; rw [decide_eq_false (by decide)]); (walk_at "w"; refine w_isE F.er A hc (by decide) ?_; rw [decide_eq_false (by decide)])
    (walk_at "w"; refine ⟨a, _, _, _, _, rfl, A, (.name v), fun z H2 hS2 hz hz2 => ⟨l, z, _, [], rfl, rfl, hS2 _ _ hl, hz2, by walk_at "len", fun r hr => ?_⟩⟩; exact q r _ (Same.trans hS2 (same_new hr)) (none_back hS2 hr) (by rw [List.append_nil]; exact upd_same))
  | cell x y =>
    obtain ⟨p, rfl⟩ := Option.isSome_iff_exists.mp (hd (by simp))
    (walk_at "w"; refine w_isE F.er A hc (by decide) ?_; rw [decide_eq_false (by decide)]); (walk_at "w"; refine w_isE F.er A hc (by decide) ?_; rw [decide_eq_true rfl]; walk_at "w"); (refine ⟨_, rfl, a, _, p, _, _, rfl, A, F.er.exc _ hc, F.fld ("NoCell", "x") (by decide), rfl, ?_⟩; walk_at "w"); (refine ⟨_, rfl, a, _, p, _, _, rfl, A, F.er.exc _ hc, F.fld ("NoCell", "y") (by decide), rfl, ?_⟩; walk_at "w"); (refine cat_new hl (by walk_at "len") fun l H1 hS hn hl => ?_; replace A := A.same hS; replace q := fun l' H' (s : Same H1 H') n => q l' H' (Same.trans hS s) (none_back hS n))
    (walk_at "w"; refine w_isE F.er A hc (by decide) ?_; rw [decide_eq_false (by decide)]); (walk_at "w"; refine w_isE F.er A hc (by decide) ?_; rw [decide_eq_false (by decide)]); (walk_at "w"; refine w_isE F.er A hc (by decide) ?_; rw [decide_eq_false (by decide)]); (walk_at "w"; refine w_isE F.er A hc (by decide) ?_; rw [decide_eq_false (by decide)]); (walk_at "w"; refine w_isE F.er A hc (by decide) ?_; rw [decide_eq_false (by decide)]); (walk_at "w"; refine w_isE F.er A hc (by decide) ?_; rw [decide_eq_false (by decide)])
    (walk_at "w"; refine ⟨a, _, _, _, _, rfl, A, (.cell x y), fun z H2 hS2 hz hz2 => ⟨l, z, _, [], rfl, rfl, hS2 _ _ hl, hz2, by walk_at "len", fun r hr => ?_⟩⟩; exact q r _ (Same.trans hS2 (same_new hr)) (none_back hS2 hr) (by rw [List.append_nil]; exact upd_same))
  | sides v =>
    obtain ⟨p, rfl⟩ := Option.isSome_iff_exists.mp (hd (by simp))
    (walk_at "w"; refine w_isE F.er A hc (by decide) ?_; rw [decide_eq_false (by decide)]); (walk_at "w"; refine w_isE F.er A hc (by decide) ?_; rw [decide_eq_false (by decide)]); (walk_at "w"; refine w_isE F.er A hc (by decide) ?_; rw [decide_eq_true rfl]; walk_at "w"); (refine ⟨_, rfl, a, _, p, _, _, rfl, A, F.er.exc _ hc, F.fld ("NoSides", "sides") (by decide), rfl, ?_⟩; walk_at "w"); (refine cat_new hl (by walk_at "len") fun l H1 hS hn hl => ?_; replace A := A.same hS; replace q := fun l' H' (s : Same H1 H') n => q l' H' (Same.trans hS s) (none_back hS n))
    (walk_at "w"; refine w_isE F.er A hc (by decide) ?_; rw [decide_eq_false (by decide)]); (walk_at "w"; refine w_isE F.er A hc (by decide) ?_; rw [decide_eq_false (by decide)]); (walk_at "w"; refine w_isE F.er A hc (by decide) ?_; rw [decide_eq_false (by decide)]); (walk_at "w"; refine w_isE F.er A hc (by decide) ?_; rw [decide_eq_false (by decide)]); (walk_at "w"; refine w_isE F.er A hc (by decide) ?_; rw [decide_eq_false (by decide)])
    (walk_at "w"; refine ⟨a, _, _, _, _, rfl, A, (.sides v), fun z H2 hS2 hz hz2 => ⟨l, z, _, [], rfl, rfl, hS2 _ _ hl, hz2, by walk_at "len", fun r hr => ?_⟩⟩; exact q r _ (Same.trans hS2 (same_new hr)) (none_back hS2 hr) (by rw [List.append_nil]; exact upd_same))
  | window lo hi =>
    obtain ⟨p, rfl⟩ := Option.isSome_iff_exists.mp (hd (by simp))
    (walk_at "w"; refine w_isE F.er A hc (by decide) ?_; rw [decide_eq_false (by decide)]); (walk_at "w"; refine w_isE F.er A hc (by decide) ?_; rw [decide_eq_false (by decide)]); (walk_at "w"; refine w_isE F.er A hc (by decide) ?_; rw [decide_eq_false (by decide)]); (walk_at "w"; refine w_isE F.er A hc (by decide) ?_; rw [decide_eq_true rfl]; walk_at "w"); (refine ⟨_, rfl, a, _, p, _, _, rfl, A, F.er.exc _ hc, F.fld ("NoWindow", "low") (by decide), rfl, ?_⟩; walk_at "w"); (refine ⟨_, rfl, a, _, p, _, _, rfl, A, F.er.exc _ hc, F.fld ("NoWindow", "high") (by decide), rfl, ?_⟩; walk_at "w"); (refine cat_new hl (by walk_at "len") fun l H1 hS hn hl => ?_; replace A := A.same hS; replace q := fun l' H' (s : Same H1 H') n => q l' H' (Same.trans hS s) (none_back hS n))
    (walk_at "w"; refine w_isE F.er A hc (by decide) ?_; rw [decide_eq_false (by decide)]); (walk_at "w"; refine w_isE F.er A hc (by decide) ?_; rw [decide_eq_false (by decide)]); (walk_at "w"; refine w_isE F.er A hc (by decide) ?_; rw [decide_eq_false (by decide)]); (walk_at "w"; refine w_isE F.er A hc (by decide) ?_; rw [decide_eq_false (by decide)])
    (walk_at "w"; refine ⟨a, _, _, _, _, rfl, A, (.window lo hi), fun z H2 hS2 hz hz2 => ⟨l, z, _, [], rfl, rfl, hS2 _ _ hl, hz2, by walk_at "len", fun r hr => ?_⟩⟩; exact q r _ (Same.trans hS2 (same_new hr)) (none_back hS2 hr) (by rw [List.append_nil]; exact upd_same))
  | old v =>
    obtain ⟨p, rfl⟩ := Option.isSome_iff_exists.mp (hd (by simp))
    (walk_at "w"; refine w_isE F.er A hc (by decide) ?_; rw [decide_eq_false (by decide)]); (walk_at "w"; refine w_isE F.er A hc (by decide) ?_; rw [decide_eq_false (by decide)]); (walk_at "w"; refine w_isE F.er A hc (by decide) ?_; rw [decide_eq_false (by decide)]); (walk_at "w"; refine w_isE F.er A hc (by decide) ?_; rw [decide_eq_false (by decide)]); (walk_at "w"; refine w_isE F.er A hc (by decide) ?_; rw [decide_eq_true rfl]; walk_at "w"); (refine ⟨_, rfl, a, _, p, _, _, rfl, A, F.er.exc _ hc, F.fld ("OldPoint", "name") (by decide), rfl, ?_⟩; walk_at "w"); (refine cat_new hl (by walk_at "len") fun l H1 hS hn hl => ?_; replace A := A.same hS; replace q := fun l' H' (s : Same H1 H') n => q l' H' (Same.trans hS s) (none_back hS n))
    (walk_at "w"; refine w_isE F.er A hc (by decide) ?_; rw [decide_eq_false (by decide)]); (walk_at "w"; refine w_isE F.er A hc (by decide) ?_; rw [decide_eq_false (by decide)]); (walk_at "w"; refine w_isE F.er A hc (by decide) ?_; rw [decide_eq_false (by decide)])
    (walk_at "w"; refine ⟨a, _, _, _, _, rfl, A, (.old v), fun z H2 hS2 hz hz2 => ⟨l, z, _, [], rfl, rfl, hS2 _ _ hl, hz2, by walk_at "len", fun r hr => ?_⟩⟩; exact q r _ (Same.trans hS2 (same_new hr)) (none_back hS2 hr) (by rw [List.append_nil]; exact upd_same))
  | many =>
    (walk_at "w"; refine w_isE F.er A hc (by decide) ?_; rw [decide_eq_false (by decide)]); (walk_at "w"; refine w_isE F.er A hc (by decide) ?_; rw [decide_eq_false (by decide)]); (walk_at "w"; refine w_isE F.er A hc (by decide) ?_; rw [decide_eq_false (by decide)]); (walk_at "w"; refine w_isE F.er A hc (by decide) ?_; rw [decide_eq_false (by decide)]); (walk_at "w"; refine w_isE F.er A hc (by decide) ?_; rw [decide_eq_false (by decide)]); (walk_at "w"; refine w_isE F.er A hc (by decide) ?_; rw [decide_eq_true rfl]; walk_at "w"); (refine cat_new hl (by walk_at "len") fun l H1 hS hn hl => ?_; replace A := A.same hS; replace q := fun l' H' (s : Same H1 H') n => q l' H' (Same.trans hS s) (none_back hS n))
    (walk_at "w"; refine w_isE F.er A hc (by decide) ?_; rw [decide_eq_false (by decide)]); (walk_at "w"; refine w_isE F.er A hc (by decide) ?_; rw [decide_eq_false (by decide)])
    (walk_at "w"; refine ⟨a, _, _, _, _, rfl, A, .many, fun z H2 hS2 hz hz2 => ⟨l, z, _, [], rfl, rfl, hS2 _ _ hl, hz2, by walk_at "len", fun r hr => ?_⟩⟩; exact q r _ (Same.trans hS2 (same_new hr)) (none_back hS2 hr) (by rw [List.append_nil]; exact upd_same))
  | col v =>
    obtain ⟨p, rfl⟩ := Option.isSome_iff_exists.mp (hd (by simp))
    (walk_at "w"; refine w_isE F.er A hc (by decide) ?_; rw [decide_eq_false (by decide)]); (walk_at "w"; refine w_isE F.er A hc (by decide) ?_; rw [decide_eq_false (by decide)]); (walk_at "w"; refine w_isE F.er A hc (by decide) ?_; rw [decide_eq_false (by decide)]); (walk_at "w"; refine w_isE F.er A hc (by decide) ?_; rw [decide_eq_false (by decide)]); (walk_at "w"; refine w_isE F.er A hc (by decide) ?_; rw [decide_eq_false (by decide)]); (walk_at "w"; refine w_isE F.er A hc (by decide) ?_; rw [decide_eq_false (by decide)]); (walk_at "w"; refine w_isE F.er A hc (by decide) ?_; rw [decide_eq_true rfl]; walk_at "w"); (refine ⟨_, rfl, a, _, p, _, _, rfl, A, F.er.exc _ hc, F.fld ("SameColumn", "name") (by decide), rfl, ?_⟩; walk_at "w"); (refine cat_new hl (by walk_at "len") fun l H1 hS hn hl => ?_; replace A := A.same hS; replace q := fun l' H' (s : Same H1 H') n => q l' H' (Same.trans hS s) (none_back hS n))
    (walk_at "w"; refine w_isE F.er A hc (by decide) ?_; rw [decide_eq_false (by decide)])
    (walk_at "w"; refine ⟨a, _, _, _, _, rfl, A, (.col v), fun z H2 hS2 hz hz2 => ⟨l, z, _, [], rfl, rfl, hS2 _ _ hl, hz2, by walk_at "len", fun r hr => ?_⟩⟩; exact q r _ (Same.trans hS2 (same_new hr)) (none_back hS2 hr) (by rw [List.append_nil]; exact upd_same))
  | row v =>
    obtain ⟨p, rfl⟩ := Option.isSome_iff_exists.mp (hd (by simp))
    (walk_at "w"; refine w_isE F.er A hc (by decide) ?_; rw [decide_eq_false (by decide)]); (walk_at "w"; refine w_isE F.er A hc (by decide) ?_; rw [decide_eq_false (by decide)]); (walk_at "w"; refine w_isE F.er A hc (by decide) ?_; rw [decide_eq_false (by decide)]); (walk_at "w"; refine w_isE F.er A hc (by decide) ?_; rw [decide_eq_false (by decide)]); (walk_at "w"; refine w_isE F.er A hc (by decide) ?_; rw [decide_eq_false (by decide)]); (walk_at "w"; refine w_isE F.er A hc (by decide) ?_; rw [decide_eq_false (by decide)]); (walk_at "w"; refine w_isE F.er A hc (by decide) ?_; rw [decide_eq_false (by decide)]); (walk_at "w"; refine w_isE F.er A hc (by decide) ?_; rw [decide_eq_true rfl]; walk_at "w"); (refine ⟨_, rfl, a, _, p, _, _, rfl, A, F.er.exc _ hc, F.fld ("SameRow", "name") (by decide), rfl, ?_⟩; walk_at "w"); (refine cat_new hl (by walk_at "len") fun l H1 hS hn hl => ?_; replace A := A.same hS; replace q := fun l' H' (s : Same H1 H') n => q l' H' (Same.trans hS s) (none_back hS n))
    (walk_at "w"; refine ⟨a, _, _, _, _, rfl, A, (.row v), fun z H2 hS2 hz hz2 => ⟨l, z, _, [], rfl, rfl, hS2 _ _ hl, hz2, by walk_at "len", fun r hr => ?_⟩⟩; exact q r _ (Same.trans hS2 (same_new hr)) (none_back hS2 hr) (by rw [List.append_nil]; exact upd_same))
end
end Rim
set_option Elab.async false
set_option linter.all false
set_option maxRecDepth 100000
set_option maxHeartbeats 4000000
namespace Rim
open PySem PySem.Spec PyProof.Rows L2
local macro_rules | `(tactic| walk_at "w1") => `(tactic| (with_reducible first
  | refine w_var rfl ?_ | refine w_c ?_ | refine w_seq ?_ | refine w_asg ?_ | refine w_gname ?_ | refine w_op ?_ | refine w_rI0 ?_ | refine w_cons ?_ | refine w_nil ?_ | refine w_test ?_ | refine w_bl ?_ | refine w_if ?_ | refine w_next ?_ | refine w_ret ?_ | refine w_b ?_
  | refine w_call ?_ | refine w_cb ?_ | refine w_not ?_ | refine w_and ?_ | refine w_or ?_ | refine w_andV ?_ | refine w_orV ?_ | refine w_notV ?_ | refine w_tif ?_ | refine w_tup ?_ | refine w_lst ?_ | refine w_drop ?_ | refine w_retN ?_ | refine w_un ?_ | refine w_neg ?_
  | refine w_callS ?_ | refine w_make ?_ | refine w_for ?_ | refine w_lc ?_ | refine w_rng1 ?_ | refine w_rng2 ?_ | refine w_il ?_ | refine w_it ?_ | refine w_iT ?_ | refine w_iF ?_ | refine w_iNT ?_ | refine w_iNF ?_ | refine w_eq rfl ?_ | refine w_ne rfl ?_ | refine w_min2 ?_ | refine w_max2 ?_ | refine w_abs ?_))
local macro_rules | `(tactic| walk_at "w") => `(tactic| ((try dsimp only [Bool.not_true, Bool.not_false]); repeat (walk_at "w1")))
local macro_rules | `(tactic| walk_at "if") => `(tactic| (first | (apply w_ited) | (apply w_iten) | (apply w_ite)))
local macro_rules | `(tactic| walk_at "len") => `(tactic| (first | (rw [sizeLine_eq]; exact Nat.le_of_ble_eq_true rfl) | (show _ ≤ sizeLine; rw [sizeLine_eq]; exact Nat.le_of_ble_eq_true rfl)))
def ArgV.list (v : ArgV) : List V := [v.name, v.x, v.y, v.sides, v.low, v.high]
def sp__law_is_whole (K : PySem.W.Frag) : Sp := sp_is_whole K
def shortB (d : PyData) : Prop := tidy 4 d ∧ ∀ s, d = .str s → s.length ≤ sizeLine
def sp__law_odd (K : PySem.W.Frag) : Sp := fun vs H Q _ => ∃ (n sz : Int), vs = [.int n, .int sz] ∧ 0 ≤ n ∧ 1 ≤ sz ∧
  ∀ v d H', Same H H' → (∀ l, H l ≠ none → Thg K (del H' l) v d) → Thg K H' v d → wholeB d 1 sz = false → shortB d → Q v H'
def sp__law_args (K : PySem.W.Frag) : Sp := fun vs H Q _ => ∃ (c k w h : Int) (sz : Addr), vs = [.int c, .int k, .ref sz] ∧ SqT K H sz [.int w, .int h] ∧ 1 ≤ w ∧ 1 ≤ h ∧
  ∀ l v a H', Same H H' → H l = none → H' l = some (.lst v.list) → ArgsAt K H' v a → Q (.ref l) H'
def t__law_is_whole (K : PySem.W.Frag) (E : XK) : TS :=
  (tRet (tAndV (tCB (rIsi K) (tCons (tVar 0) (tCons (tC (.ty "int")) tNil))) (tAndV (tNotV (tCB (rIsi K) (tCons (tVar 0) (tCons (tC (.ty "bool")) tNil)))) (tChain rLeI rLeI (tVar 1) (tVar 0) (tVar 2)))))
abbrev N__law_is_whole : List Str := ["_law_thing", "_law_low", "_law_high"]
def t__law_odd (K : PySem.W.Frag) (E : XK) : TS :=
  (tSeq (tAsg (tOp rAddI (tOp rAddI (tVar 1) (tC (.int 1))) (tOp rMulI (tOp rModI (tOp rDivI (tVar 0) (tC (.int 9))) (tOp rPowI (tC (.int 10)) (tC (.int 9)))) (tOp rPowI (tC (.int 10)) (tC (.int 11))))) (gName 2))
    (tRet (tOp (rIxL K) (tLst (tCons (tC (.int 0)) (tCons (tOp rAddI (tVar 1) (tC (.int 1))) (tCons (tOp rSubI (tC (.int 0)) (tVar 2)) (tCons (tVar 2) (tCons (tC (.bl true)) (tCons (tC .non) (tCons (tC (.str ("1" : Str))) (tCons (tLst (tCons (tC (.int 1)) tNil)) (tCons (tTup (tCons (tC (.int 1)) tNil)) tNil)))))))))) (tOp rModI (tVar 0) (tC (.int 9))))))
abbrev N__law_odd : List Str := ["_law_number", "_law_size", "_law_far"]
def t__law_args (K : PySem.W.Frag) (E : XK) : TS :=
  (tSeq (tAsg (tLc (iRng1 (tCons (tC (.int 8)) tNil)) (gName 3) tYes (tCall (sp__law_mixed K) [] E0 (tCons (tVar 0) (tCons (tOp rAddI (tOp rMulI (tC (.int 16)) (tVar 1)) (tVar 3)) tNil))) [3]) (gName 4))
    (tSeq (tAsg (tVar 2) (gTup K 2 (gCons (gName 5) (gCons (gName 6) gNil))))
    (tSeq (tAsg (tLst (tCons (tOp rIxS (tC (.str ("abcdefghijklmnopqrstuvwxyz" : Str))) (tOp rModI (tOp (rIxL K) (tVar 4) (tC (.int 0))) (tC (.int 26)))) (tCons (tOp rAddI (tC (.int 1)) (tOp rModI (tOp (rIxL K) (tVar 4) (tC (.int 1))) (tVar 5))) (tCons (tOp rAddI (tC (.int 1)) (tOp rModI (tOp (rIxL K) (tVar 4) (tC (.int 2))) (tVar 6))) tNil)))) (gName 7))
    (tSeq (tAsg (tOp rAddI (tC (.int 1)) (tOp rModI (tOp (rIxL K) (tVar 4) (tC (.int 3))) (tVar 6))) (gName 8))
    (tSeq (tAsg (tOp rCat (tVar 7) (tLst (tCons (tOp (rIxL K) (tLst (tCons (tC (.str ("both" : Str))) (tCons (tC (.str ("left" : Str))) (tCons (tC (.str ("right" : Str))) tNil)))) (tOp rModI (tOp (rIxL K) (tVar 4) (tC (.int 4))) (tC (.int 3)))) (tCons (tVar 8) (tCons (tOp rAddI (tVar 8) (tOp rModI (tOp (rIxL K) (tVar 4) (tC (.int 5))) (tOp rSubI (tOp rAddI (tVar 6) (tC (.int 1))) (tVar 8)))) tNil))))) (gName 7))
    (tSeq (tFor (iRng1 (tCons (tOp rAddI (tOp rDivI (tOp rModI (tOp (rIxL K) (tVar 4) (tC (.int 6))) (tC (.int 5))) (tC (.int 3))) (tOp rDivI (tOp rModI (tOp rDivI (tOp (rIxL K) (tVar 4) (tC (.int 6))) (tC (.int 5))) (tC (.int 5))) (tC (.int 4)))) tNil)) (gName 3)
    (tSeq (tAsg (tOp rModI (tOp rDivI (tOp (rIxL K) (tVar 4) (tC (.int 7))) (tOp rAddI (tOp rMulI (tC (.int 7)) (tVar 3)) (tC (.int 1)))) (tC (.int 6))) (gName 9))
    (tSeq (tAsg (tOp rDivI (tOp (rIxL K) (tVar 4) (tVar 3)) (tC (.int 32))) (gName 10))
    (tIfS (tTest (tOp rEq (tVar 9) (tC (.int 0)))) (tAsg (tOp (rIxL K) (tLst (tCons (tC (.str ("" : Str))) (tCons (tC (.str ("A" : Str))) (tCons (tC (.str ("ab" : Str))) (tCons (tC (.str ("1" : Str))) (tCons (tC .non) (tCons (tC (.int 7)) (tCons (tC (.bl true)) (tCons (tLst (tCons (tC (.str ("a" : Str))) tNil)) (tCons (tTup (tCons (tC (.str ("a" : Str))) tNil)) tNil)))))))))) (tOp rModI (tVar 10) (tC (.int 9)))) (gSub (tVar 7) (tC (.int 0)) rSetL)) (tIfS (tTest (tOp rEq (tVar 9) (tC (.int 3)))) (tAsg (tOp (rIxL K) (tLst (tCons (tC (.str ("" : Str))) (tCons (tC (.str ("Both" : Str))) (tCons (tC (.str ("lef" : Str))) (tCons (tC .non) (tCons (tC (.int 1)) (tCons (tC (.bl true)) (tCons (tLst (tCons (tC (.str ("left" : Str))) tNil)) (tCons (tTup (tCons (tC (.str ("left" : Str))) (tCons (tC (.str ("right" : Str))) tNil))) tNil))))))))) (tOp rModI (tVar 10) (tC (.int 8)))) (gSub (tVar 7) (tC (.int 3)) rSetL)) (tAsg (tCall (sp__law_odd K) [] E (tCons (tVar 10) (tCons (tOp (rIxL K) (tLst (tCons (tC (.int 0)) (tCons (tVar 5) (tCons (tVar 6) (tCons (tC (.int 0)) (tCons (tVar 6) (tCons (tVar 6) tNil))))))) (tVar 9)) tNil))) (gSub (tVar 7) (tVar 9) rSetL)))))))
    (tRet (tVar 7))))))))
abbrev N__law_args : List Str := ["_law_cell_here", "_law_k", "_law_size", "_law_j", "_law_draws", "_law_width", "_law_height", "_law_args_here", "_law_low", "_law_at", "_law_odd_here"]
section
variable {K : PySem.W.Frag}
theorem pure__law_is_whole (vs : List V) (H : Hp) (Q : VK) (E : XK) (h : sp__law_is_whole K vs H Q E) : t__law_is_whole K E { nx := fun _ H' => Q .non H', rt := Q } (L2.start N__law_is_whole vs) H := by
  obtain ⟨v, d, lo, hi, rfl, th, q⟩ := h
  unfold t__law_is_whole
  walk_at "w"
  refine w_isI th ?_
  walk_at "w"
  cases hI : isIB d
  · walk_at "w"
    have e : wholeB d lo hi = false := by cases d <;> simp_all [isIB, wholeB]
    rw [e] at q
    exact q
  walk_at "w"
  refine w_isB th ?_
  walk_at "w"
  cases th with
  | int i =>
    rw [show isBB (.int i) = false from rfl]
    walk_at "w"
    refine w_chainLe ?_
    walk_at "w"
    walk_at "if" <;> intro c
    · walk_at "w"
      have e : wholeB (.int i) lo hi = decide (i ≤ hi) := by simp [wholeB, c]
      rw [e] at q
      exact q
    · have e : wholeB (.int i) lo hi = false := by simp [wholeB, c]
      rw [e] at q
      exact q
  | bl b =>
    rw [show isBB (.bool b) = true from rfl]
    walk_at "w"
    exact q
  | non => cases hI
  | str x => cases hI
  | lst h r => cases hI
  | tup h r => cases hI
theorem pick {ps : List VD} {i : Int} (h0 : 0 ≤ i) (h1 : i < ps.length) : ∃ p ∈ ps, atI (ps.map Prod.fst) i = some p.1 := by
  have hi : i.toNat < ps.length := by omega
  refine ⟨ps[i.toNat], List.getElem_mem hi, atI_at h0 ?_⟩
  rw [List.getElem?_map, List.getElem?_eq_getElem hi]
  rfl
theorem shortB_int (i : Int) : shortB (.int i) := ⟨tidy_int i, fun s z => nomatch z⟩
theorem shortB_bl (b : Bool) : shortB (.bool b) := ⟨tidy_bl b, fun s z => nomatch z⟩
theorem shortB_non : shortB .none := ⟨tidy_non, fun s z => nomatch z⟩
theorem shortB_str {x : Str} (g : PyData.strOk x = true) (h : x.length ≤ 1000) : shortB (.str x) := ⟨tidy_str g, fun s z => by
  cases z
  rw [sizeLine_eq]
  omega⟩
theorem same_del {H H' : Hp} {l : Addr} (e : Same H H') : Same (del H l) (del H' l) := fun b o h => by
  by_cases hb : b = l
  · rw [hb, del_same] at h
    cases h
  · rw [del_ne hb] at h ⊢
    exact e b o h
theorem del_sub {H : Hp} {l : Addr} : Same (del H l) H := fun b o h => by
  by_cases hb : b = l
  · rw [hb, del_same] at h
    cases h
  · rwa [del_ne hb] at h
theorem del_upd {H : Hp} {l : Addr} {o : HO} : del (upd H l o) l = del H l := by
  funext b
  by_cases hb : b = l
  · rw [hb, del_same, del_same]
  · rw [del_ne hb, del_ne hb, upd_ne hb]
theorem pure__law_odd (vs : List V) (H : Hp) (Q : VK) (E : XK) (h : sp__law_odd K vs H Q E) : t__law_odd K E { nx := fun _ H' => Q .non H', rt := Q } (L2.start N__law_odd vs) H := by
  obtain ⟨n, sz, rfl, n0, s1, q⟩ := h
  unfold t__law_odd
  walk_at "w"
  refine w_rI ⟨by decide, by decide⟩ ?_
  walk_at "w"
  refine w_rI ⟨by decide, by decide, by decide⟩ ?_
  refine w_rI (by decide) ?_
  walk_at "w"
  refine w_rI ⟨by decide, by decide, by decide⟩ ?_
  refine w_rI (.inr (by decide)) ?_
  walk_at "w"
  have hf : 0 ≤ n / 9 % 10 ^ Int.toNat 9 * 10 ^ Int.toNat 11 := Int.mul_nonneg (Int.emod_nonneg _ (by decide)) (by decide)
  generalize n / 9 % 10 ^ Int.toNat 9 * 10 ^ Int.toNat 11 = f at hf ⊢
  refine ⟨by walk_at "len", fun p hp => ?_⟩
  walk_at "w"
  refine ⟨by walk_at "len", fun t ht => ?_⟩
  walk_at "w"
  refine ⟨by walk_at "len", fun l hl => ?_⟩
  walk_at "w"
  refine w_rI (by decide) ?_
  have s1' := same_new (o := HO.lst [V.int 1]) hp
  have s2' := same_new (o := HO.tup [V.int 1]) ht
  have npt : t ≠ p := fun z => by
    rw [z, upd_same] at ht
    cases ht
  have ht0 : H t = none := by rwa [upd_ne npt] at ht
  have g7 : ∀ z, (H z ≠ none ∨ H z = none ∧ z ≠ p ∧ z ≠ t) → Thg K (del (upd (upd H p (.lst [.int 1])) t (.tup [.int 1])) z) (.ref p) (.list [.int 1]) := fun z hz => by
    refine .lst (xs := [.int 1]) ?_ (.cons (.int 1) .nil)
    rw [del_ne (fun y => by rcases hz with h | h; exact h (y ▸ hp); exact h.2.1 y.symm), upd_ne (Ne.symm npt), upd_same]
  have g8 : ∀ z, (H z ≠ none ∨ H z = none ∧ z ≠ p ∧ z ≠ t) → Thg K (del (upd (upd H p (.lst [.int 1])) t (.tup [.int 1])) z) (.ref t) (.tuple [.int 1]) := fun z hz => by
    refine .tup (xs := [.int 1]) ?_ (.cons (.int 1) .nil)
    rw [del_ne (fun y => by rcases hz with h | h; exact h (y ▸ ht0); exact h.2.2 y.symm), upd_same]
  have sA : Same H (upd (upd H p (.lst [.int 1])) t (.tup [.int 1])) := s1'.trans s2'
  have hlp : l ≠ p ∧ l ≠ t := ⟨fun z => (by rw [z, upd_ne (Ne.symm npt), upd_same] at hl; cases hl), fun z => (by rw [z, upd_same] at hl; cases hl)⟩
  have hl0 : H l = none := none_back sA hl
  generalize upd (upd H p (.lst [.int 1])) t (.tup [.int 1]) = H2 at g7 g8 sA hl ⊢
  obtain ⟨x, hx, e⟩ := pick (ps := [(.int 0, .int 0), (.int (sz + 1), .int (sz + 1)), (.int (0 - (sz + 1 + f)), .int (0 - (sz + 1 + f))), (.int (sz + 1 + f), .int (sz + 1 + f)), (.bl true, .bool true), (.non, .none), (.str "1", .str "1"), (.ref p, .list [.int 1]), (.ref t, .tuple [.int 1])]) (i := n % 9) (by omega) (by show n % 9 < 9; omega)
  refine w_ixL (sq_l upd_same) e ?_
  have all : ∀ x ∈ ([(.int 0, .int 0), (.int (sz + 1), .int (sz + 1)), (.int (0 - (sz + 1 + f)), .int (0 - (sz + 1 + f))), (.int (sz + 1 + f), .int (sz + 1 + f)), (.bl true, .bool true), (.non, .none), (.str "1", .str "1"), (.ref p, .list [.int 1]), (.ref t, .tuple [.int 1])] : List VD), (∀ z, (H z ≠ none ∨ H z = none ∧ z ≠ p ∧ z ≠ t) → Thg K (del H2 z) x.1 x.2) ∧ wholeB x.2 1 sz = false ∧ shortB x.2 := by
    intro x hx
    simp only [List.mem_cons, List.not_mem_nil, or_false] at hx
    rcases hx with rfl | rfl | rfl | rfl | rfl | rfl | rfl | rfl | rfl
    · exact ⟨fun _ _ => .int _, by simp [wholeB], shortB_int _⟩
    · exact ⟨fun _ _ => .int _, by simp only [wholeB, Bool.and_eq_false_iff, decide_eq_false_iff_not]; omega, shortB_int _⟩
    · exact ⟨fun _ _ => .int _, by simp only [wholeB, Bool.and_eq_false_iff, decide_eq_false_iff_not]; omega, shortB_int _⟩
    · exact ⟨fun _ _ => .int _, by simp only [wholeB, Bool.and_eq_false_iff, decide_eq_false_iff_not]; omega, shortB_int _⟩
    · exact ⟨fun _ _ => .bl _, rfl, shortB_bl _⟩
    · exact ⟨fun _ _ => .non, rfl, shortB_non⟩
    · exact ⟨fun _ _ => .str _, rfl, shortB_str (by decide +kernel) (by decide)⟩
    · exact ⟨g7, rfl, show tidy 4 (.list [.int 1]) from ⟨by decide +kernel, by decide +kernel⟩, fun s z => nomatch z⟩
    · exact ⟨g8, rfl, show tidy 4 (.tuple [.int 1]) from ⟨by decide +kernel, by decide +kernel⟩, fun s z => nomatch z⟩
  obtain ⟨h1, h2, h3⟩ := all x hx
  refine q _ _ _ (sA.trans (same_new hl)) (fun z hz => (h1 z (.inl hz)).same (same_del (same_new hl))) ?_ h2 h3
  have y := h1 l (.inr ⟨hl0, hlp⟩)
  exact y.same (fun b o e => same_new hl b o (by
    by_cases hb : b = l
    · rw [hb, del_same] at e
      cases e
    · rwa [del_ne hb] at e))
theorem w_tup2 {H : Hp} {σ : L2.St} {N : L2.St → Hp → Prop} {a : Addr} {x y : V} {i j : Nat} (h : SqT K H a [x, y]) (k : N ((σ.set i (some x)).set j (some y)) H) : gTup K 2 (gCons (gName i) (gCons (gName j) gNil)) (.ref a) σ H N :=
  ⟨a, _, rfl, h, rfl, x, _, rfl, y, _, rfl, rfl, k⟩
theorem lm_nn (c k : Int) : 0 ≤ lmixed c k := Int.emod_nonneg _ (by decide)
/-- a letter of the alphabet -/
theorem let_at {i : Int} (h0 : 0 ≤ i) (h1 : i < 26) : ∃ c : Nat, atI ("abcdefghijklmnopqrstuvwxyz" : Str).cps.toList i = some c ∧ letC c = true := by
  have hi : i.toNat < LET.cps.toList.length := by
    show i.toNat < 26
    omega
  refine ⟨LET.cps.toList[i.toNat], atI_at h0 (List.getElem?_eq_getElem hi), ?_⟩
  unfold letC
  exact decide_eq_true (List.getElem_mem hi)
theorem ArgsAt.same {H H' : Hp} {v : ArgV} {a : Args} (e : Same H H') (h : ArgsAt K H v a) : ArgsAt K H' v a := ⟨h.name.same e, h.x.same e, h.y.same e, h.sides.same e, h.low.same e, h.high.same e, h.few, h.shp⟩
/-- six things in a list that none of them has -/
def SixAt (K : PySem.W.Frag) (H : Hp) (l : Addr) : Prop := ∃ v a, H l = some (.lst (ArgV.list v)) ∧ ArgsAt K (del H l) v a
/-- one of the six is put anew -/
theorem six_set {H : Hp} {l : Addr} {v : V} {d : PyData} {i : Int} (S : SixAt K H l) (h0 : 0 ≤ i) (h6 : i < 6) (t : Thg K (del H l) v d) (sh : shortB d) {Q : Hp → Prop} (k : ∀ o, SixAt K (upd H l o) l → Q (upd H l o)) : rSetL (.ref l) (.int i) v H Q := by
  obtain ⟨w, a, hl, A⟩ := S
  have cs : i = 0 ∨ i = 1 ∨ i = 2 ∨ i = 3 ∨ i = 4 ∨ i = 5 := by omega
  have md : ∀ {b : Args} {u : ArgV}, (∀ e ∈ [b.name, b.x, b.y, b.sides, b.low, b.high], e = d ∨ e ∈ [a.name, a.x, a.y, a.sides, a.low, a.high]) → ∀ e ∈ [b.name, b.x, b.y, b.sides, b.low, b.high], tidy 4 e := fun h e he => by
    rcases h e he with h | h
    · rw [h]
      exact sh.1
    · exact A.shp e h
  rcases cs with rfl | rfl | rfl | rfl | rfl | rfl
  · exact ⟨l, _, _, 0, rfl, rfl, hl, rfl, k _ ⟨{ w with name := v }, { a with name := d }, upd_same, by rw [del_upd]; exact ⟨t, A.x, A.y, A.sides, A.low, A.high, sh.2, md (u := w) (by simp)⟩⟩⟩
  · exact ⟨l, _, _, 1, rfl, rfl, hl, rfl, k _ ⟨{ w with x := v }, { a with x := d }, upd_same, by rw [del_upd]; exact ⟨A.name, t, A.y, A.sides, A.low, A.high, A.few, md (u := w) (by simp)⟩⟩⟩
  · exact ⟨l, _, _, 2, rfl, rfl, hl, rfl, k _ ⟨{ w with y := v }, { a with y := d }, upd_same, by rw [del_upd]; exact ⟨A.name, A.x, t, A.sides, A.low, A.high, A.few, md (u := w) (by simp)⟩⟩⟩
  · exact ⟨l, _, _, 3, rfl, rfl, hl, rfl, k _ ⟨{ w with sides := v }, { a with sides := d }, upd_same, by rw [del_upd]; exact ⟨A.name, A.x, A.y, t, A.low, A.high, A.few, md (u := w) (by simp)⟩⟩⟩
  · exact ⟨l, _, _, 4, rfl, rfl, hl, rfl, k _ ⟨{ w with low := v }, { a with low := d }, upd_same, by rw [del_upd]; exact ⟨A.name, A.x, A.y, A.sides, t, A.high, A.few, md (u := w) (by simp)⟩⟩⟩
  · exact ⟨l, _, _, 5, rfl, rfl, hl, rfl, k _ ⟨{ w with high := v }, { a with high := d }, upd_same, by rw [del_upd]; exact ⟨A.name, A.x, A.y, A.sides, A.low, t, A.few, md (u := w) (by simp)⟩⟩⟩
theorem two_new {H : Hp} {l p t L : Addr} {o1 o2 o3 : HO} (hl : H l ≠ none) (hp : H p = none) (ht : upd H p o1 t = none) (hL : upd (upd H p o1) t o2 L = none) :
    Same H (upd (upd (upd H p o1) t o2) L o3) ∧ del (upd (upd (upd H p o1) t o2) L o3) l p = some o1 ∧ del (upd (upd (upd H p o1) t o2) L o3) l t = some o2 := by
  have n1 : t ≠ p := fun z => by
    rw [z, upd_same] at ht
    cases ht
  have n2 : L ≠ t := fun z => by
    rw [z, upd_same] at hL
    cases hL
  have n3 : L ≠ p := fun z => by
    rw [z, upd_ne (Ne.symm n1), upd_same] at hL
    cases hL
  have n4 : p ≠ l := fun z => hl (z ▸ hp)
  have ht0 : H t = none := by rwa [upd_ne n1] at ht
  have n5 : t ≠ l := fun z => hl (z ▸ ht0)
  refine ⟨((same_new hp).trans (same_new ht)).trans (same_new hL), ?_, ?_⟩
  · rw [del_ne n4, upd_ne (Ne.symm n3), upd_ne (Ne.symm n1), upd_same]
  · rw [del_ne n5, upd_ne (Ne.symm n2), upd_same]
theorem six_same {H H' : Hp} {l : Addr} (e : Same H H') (S : SixAt K H l) : SixAt K H' l := by
  obtain ⟨v, a, hl, A⟩ := S
  exact ⟨v, a, e _ _ hl, A.same (same_del e)⟩
theorem six_some {H : Hp} {l : Addr} (S : SixAt K H l) : H l ≠ none := by
  obtain ⟨v, a, hl, A⟩ := S
  rw [hl]
  exact fun z => nomatch z
theorem pure__law_args (vs : List V) (H : Hp) (Q : VK) (E : XK) (h : sp__law_args K vs H Q E) : t__law_args K E { nx := fun _ H' => Q .non H', rt := Q } (L2.start N__law_args vs) H := by
  obtain ⟨c, k, w, h, sz, rfl, hsz, w1, h1, q⟩ := h
  unfold t__law_args
  walk_at "w"
  refine ⟨8, rfl, by decide, by decide, fun D hD => ?_⟩
  refine lcR1 hD (by decide) (fun i v _ => v = .int (lmixed c (16 * k + (i : Int)))) (fun _ _ _ _ _ e => e) (fun i H' R hi hS kk => ?_) (fun acc H1 hS hl hP hDa => ?_)
  · walk_at "w"
    refine w_rI (.inl (by decide)) ?_
    walk_at "w"
    refine ⟨c, _, rfl, ?_⟩
    exact kk _ _ (fun _ _ e => e) (by rw [Int.zero_add])
  have hacc : acc = (List.range 8).map fun (i : Nat) => V.int (lmixed c (16 * k + (i : Int))) := by
    refine List.ext_getElem? fun i => ?_
    by_cases hi : i < 8
    · rw [List.getElem?_map, List.getElem?_range hi]
      cases e : acc[i]? with
      | none =>
        have := List.getElem?_eq_none_iff.mp e
        rw [hl] at this
        exact absurd this (by omega)
      | some x =>
        rw [hP i x e]
        rfl
    · rw [List.getElem?_eq_none (by rw [hl]; omega), List.getElem?_eq_none (by rw [List.length_map, List.length_range]; omega)]
  have hdr : ∀ j : Int, 0 ≤ j → j < 8 → atI acc j = some (.int (lmixed c (16 * k + j))) := fun j j0 j8 => by
    refine atI_at j0 ?_
    rw [hacc, List.getElem?_map, List.getElem?_range (by omega)]
    show some (V.int (lmixed c (16 * k + ((j.toNat : Nat) : Int)))) = _
    rw [Int.toNat_of_nonneg j0]
  clear hP hl hacc
  generalize hdd : (fun j : Int => lmixed c (16 * k + j)) = dr at hdr
  have dr0 : ∀ j, 0 ≤ dr j := fun j => by
    rw [← hdd]
    exact lm_nn _ _
  replace hdr : ∀ j : Int, 0 ≤ j → j < 8 → atI acc j = some (.int (dr j)) := fun j a b => by
    rw [← hdd]
    exact hdr j a b
  have dk : ∀ {H' : Hp}, Same H1 H' → ∀ {j : Int} {R : VK}, 0 ≤ j → j < 8 → R (.int (dr j)) H' → rIxL K (.ref D) (.int j) H' R := fun hS' j R j0 j8 r => w_ixL (sq_l (hS' _ _ hDa)) (hdr j j0 j8) r
  have rr : Same H1 H1 := fun _ _ e => e
  walk_at "w"
  refine w_tup2 (same_sqT hS hsz) ?_
  walk_at "w"
  refine dk rr (by decide) (by decide) ?_
  walk_at "w"
  refine w_rI (by decide) ?_
  walk_at "w"
  obtain ⟨ch, e1, e2⟩ := let_at (i := dr 0 % 26) (by omega) (by omega)
  refine ⟨_, _, ch, rfl, rfl, by walk_at "len", e1, ?_⟩
  walk_at "w"
  refine dk rr (by decide) (by decide) ?_
  walk_at "w"
  refine w_rI (show 0 < w by omega) ?_
  walk_at "w"
  refine dk rr (by decide) (by decide) ?_
  walk_at "w"
  refine w_rI (show 0 < h by omega) ?_
  walk_at "w"
  refine ⟨by walk_at "len", fun l1 hl1 => ?_⟩
  walk_at "w"
  have q1 := same_new (o := .lst [.str ⟨#[ch]⟩, .int (1 + dr 1 % w), .int (1 + dr 2 % h)]) hl1
  refine dk q1 (by decide) (by decide) ?_
  walk_at "w"
  refine w_rI (show 0 < h by omega) ?_
  walk_at "w"
  refine ⟨by walk_at "len", fun lw hlw => ?_⟩
  walk_at "w"
  have q2 := same_new (o := .lst [.str "both", .str "left", .str "right"]) hlw
  refine dk (q1.trans q2) (by decide) (by decide) ?_
  walk_at "w"
  refine w_rI (by decide) ?_
  obtain ⟨sd, hsd, esd⟩ := pick (ps := [(.str "both", .str "both"), (.str "left", .str "left"), (.str "right", .str "right")]) (i := dr 4 % 3) (by omega) (by show dr 4 % 3 < 3; omega)
  refine w_ixL (sq_l upd_same) esd ?_
  walk_at "w"
  refine dk (q1.trans q2) (by decide) (by decide) ?_
  walk_at "w"
  have hlow : 0 < h + 1 - (1 + dr 3 % h) := by
    have := Int.emod_lt_of_pos (dr 3) (show 0 < h by omega)
    omega
  refine w_rI hlow ?_
  walk_at "w"
  have q12 := q1.trans q2
  have hl1' := q2 _ _ upd_same
  generalize upd (upd H1 l1 _) lw _ = H2 at q12 hl1' ⊢
  refine cat_new hl1' (by walk_at "len") fun l H3 hS3 hl0 hl => ?_
  walk_at "w"
  have six0 : SixAt K H3 l := by
    refine ⟨⟨.str ⟨#[ch]⟩, .int (1 + dr 1 % w), .int (1 + dr 2 % h), sd.1, .int (1 + dr 3 % h), .int (1 + dr 3 % h + dr 5 % (h + 1 - (1 + dr 3 % h)))⟩, ⟨.str ⟨#[ch]⟩, .int (1 + dr 1 % w), .int (1 + dr 2 % h), sd.2, .int (1 + dr 3 % h), .int (1 + dr 3 % h + dr 5 % (h + 1 - (1 + dr 3 % h)))⟩, hl, ?_⟩
    have hs : Thg K (del H3 l) sd.1 sd.2 ∧ shortB sd.2 := by
      simp only [List.mem_cons, List.not_mem_nil, or_false] at hsd
      rcases hsd with rfl | rfl | rfl
      · exact ⟨.str _, shortB_str (by decide +kernel) (by decide)⟩
      · exact ⟨.str _, shortB_str (by decide +kernel) (by decide)⟩
      · exact ⟨.str _, shortB_str (by decide +kernel) (by decide)⟩
    refine ⟨.str _, .int _, .int _, hs.1, .int _, .int _, fun s z => by cases z; walk_at "len", fun d hd => ?_⟩
    simp only [List.mem_cons, List.not_mem_nil, or_false] at hd
    rcases hd with h | h | h | h | h | h
    · rw [h]
      exact tidy_str (nameS_ok e2)
    · rw [h]
      exact tidy_int _
    · rw [h]
      exact tidy_int _
    · rw [h]
      exact hs.2.1
    · rw [h]
      exact tidy_int _
    · rw [h]
      exact tidy_int _
  have hl0' : H1 l = none := none_back q12 hl0
  have q3 := q12.trans hS3
  clear hl hS3 hl0 hl1' q12 hsd esd
  refine dk q3 (by decide) (by decide) ?_
  walk_at "w"
  refine w_rI (by decide) ?_
  walk_at "w"
  refine w_rI ⟨by decide, by decide⟩ ?_
  walk_at "w"
  refine dk q3 (by decide) (by decide) ?_
  walk_at "w"
  refine w_rI ⟨by decide, by decide⟩ ?_
  walk_at "w"
  refine w_rI (by decide) ?_
  walk_at "w"
  refine w_rI ⟨by decide, by decide⟩ ?_
  walk_at "w"
  have hn : 0 ≤ dr 6 % 5 / 3 + dr 6 / 5 % 5 / 4 ∧ dr 6 % 5 / 3 + dr 6 / 5 % 5 / 4 ≤ 2 := by omega
  generalize dr 6 % 5 / 3 + dr 6 / 5 % 5 / 4 = n at hn ⊢
  refine ⟨n, rfl, by omega, by omega, ?_⟩
  refine for_wk (wk_rng _ _) (fun i σ H' => (∃ z3 z9 z10, σ = [some (.int c), some (.int k), some (.ref sz), z3, some (.ref D), some (.int w), some (.int h), some (.ref l), some (.int (1 + dr 3 % h)), z9, z10]) ∧ Same H1 H' ∧ SixAt K H' l)
    ⟨⟨_, _, _, rfl⟩, q3, six0⟩ (fun _ _ _ _ _ => trivial) ?_ ?_
  · rintro i x σ H' hx ⟨⟨z3, z9, z10, rfl⟩, q4, six⟩
    obtain ⟨hi, rfl⟩ := rgL_get hx
    have hi2 : (0 : Int) + (i : Int) < 2 := by omega
    have hi0 : (0 : Int) ≤ 0 + (i : Int) := by omega
    generalize (0 : Int) + (i : Int) = j at hi2 hi0 ⊢
    walk_at "w"
    refine dk q4 (by decide) (by decide) ?_
    walk_at "w"
    refine w_rI (.inl (by decide)) ?_
    walk_at "w"
    refine w_rI ⟨by omega, by omega⟩ ?_
    walk_at "w"
    refine w_rI (by decide) ?_
    walk_at "w"
    refine dk q4 hi0 (by omega) ?_
    walk_at "w"
    refine w_rI ⟨by decide, by decide⟩ ?_
    walk_at "w"
    have hat : 0 ≤ dr 7 / (7 * j + 1) % 6 ∧ dr 7 / (7 * j + 1) % 6 < 6 := by omega
    generalize dr 7 / (7 * j + 1) % 6 = at_ at hat ⊢
    have hod : 0 ≤ dr j / 32 := by have := dr0 j; omega
    generalize dr j / 32 = od at hod ⊢
    have fin : ∀ (σ' : L2.St) (H2 : Hp) (v : V) (d : PyData) (i : Int), Same H' H2 → 0 ≤ i → i < 6 → Thg K (del H2 l) v d → shortB d → (∃ z3 z9 z10, σ' = [some (.int c), some (.int k), some (.ref sz), z3, some (.ref D), some (.int w), some (.int h), some (.ref l), some (.int (1 + dr 3 % h)), z9, z10]) →
        rSetL (.ref l) (.int i) v H2 (fun H3 => (∃ z3 z9 z10, σ' = [some (.int c), some (.int k), some (.ref sz), z3, some (.ref D), some (.int w), some (.int h), some (.ref l), some (.int (1 + dr 3 % h)), z9, z10]) ∧ Same H1 H3 ∧ SixAt K H3 l) := fun σ' H2 v d i e2 i0 i6 t sh hσ =>
      six_set (six_same e2 six) i0 i6 t sh fun o S => ⟨hσ, same_mut (q4.trans e2) hl0', S⟩
    walk_at "if" <;> intro c1
    · walk_at "w"
      refine ⟨by walk_at "len", fun p hp => ?_⟩
      walk_at "w"
      refine ⟨by walk_at "len", fun t ht => ?_⟩
      walk_at "w"
      refine ⟨by walk_at "len", fun L hL => ?_⟩
      walk_at "w"
      refine w_rI (by decide) ?_
      obtain ⟨x, hx, e⟩ := pick (ps := [(.str "", .str ""), (.str "A", .str "A"), (.str "ab", .str "ab"), (.str "1", .str "1"), (.non, .none), (.int 7, .int 7), (.bl true, .bool true), (.ref p, .list [.str "a"]), (.ref t, .tuple [.str "a"])]) (i := od % 9) (by omega) (by show od % 9 < 9; omega)
      refine w_ixL (sq_l upd_same) e ?_
      obtain ⟨e2, dp, dt⟩ := two_new (o3 := .lst [.str "", .str "A", .str "ab", .str "1", .non, .int 7, .bl true, .ref p, .ref t]) (six_some six) hp ht hL
      have all : Thg K (del (upd (upd (upd H' p (.lst [.str "a"])) t (.tup [.str "a"])) L (.lst [.str "", .str "A", .str "ab", .str "1", .non, .int 7, .bl true, .ref p, .ref t])) l) x.1 x.2 ∧ shortB x.2 := by
        simp only [List.mem_cons, List.not_mem_nil, or_false] at hx
        rcases hx with rfl | rfl | rfl | rfl | rfl | rfl | rfl | rfl | rfl
        · exact ⟨.str _, shortB_str (by decide +kernel) (by decide)⟩
        · exact ⟨.str _, shortB_str (by decide +kernel) (by decide)⟩
        · exact ⟨.str _, shortB_str (by decide +kernel) (by decide)⟩
        · exact ⟨.str _, shortB_str (by decide +kernel) (by decide)⟩
        · exact ⟨.non, shortB_non⟩
        · exact ⟨.int _, shortB_int _⟩
        · exact ⟨.bl _, shortB_bl _⟩
        · exact ⟨.lst dp (.cons (.str _) .nil), show tidy 4 (.list [.str "a"]) from ⟨by decide +kernel, by decide +kernel⟩, fun s z => nomatch z⟩
        · exact ⟨.tup dt (.cons (.str _) .nil), show tidy 4 (.tuple [.str "a"]) from ⟨by decide +kernel, by decide +kernel⟩, fun s z => nomatch z⟩
      refine ⟨_, rfl, ?_⟩
      exact fin _ _ _ _ _ e2 (by decide) (by decide) all.1 all.2 ⟨_, _, _, rfl⟩
    · walk_at "w"
      walk_at "if" <;> intro c2
      · walk_at "w"
        refine ⟨by walk_at "len", fun p hp => ?_⟩
        walk_at "w"
        refine ⟨by walk_at "len", fun t ht => ?_⟩
        walk_at "w"
        refine ⟨by walk_at "len", fun L hL => ?_⟩
        walk_at "w"
        refine w_rI (by decide) ?_
        obtain ⟨x, hx, e⟩ := pick (ps := [(.str "", .str ""), (.str "Both", .str "Both"), (.str "lef", .str "lef"), (.non, .none), (.int 1, .int 1), (.bl true, .bool true), (.ref p, .list [.str "left"]), (.ref t, .tuple [.str "left", .str "right"])]) (i := od % 8) (by omega) (by show od % 8 < 8; omega)
        refine w_ixL (sq_l upd_same) e ?_
        obtain ⟨e2, dp, dt⟩ := two_new (o3 := .lst [.str "", .str "Both", .str "lef", .non, .int 1, .bl true, .ref p, .ref t]) (six_some six) hp ht hL
        have all : Thg K (del (upd (upd (upd H' p (.lst [.str "left"])) t (.tup [.str "left", .str "right"])) L (.lst [.str "", .str "Both", .str "lef", .non, .int 1, .bl true, .ref p, .ref t])) l) x.1 x.2 ∧ shortB x.2 := by
          simp only [List.mem_cons, List.not_mem_nil, or_false] at hx
          rcases hx with rfl | rfl | rfl | rfl | rfl | rfl | rfl | rfl
          · exact ⟨.str _, shortB_str (by decide +kernel) (by decide)⟩
          · exact ⟨.str _, shortB_str (by decide +kernel) (by decide)⟩
          · exact ⟨.str _, shortB_str (by decide +kernel) (by decide)⟩
          · exact ⟨.non, shortB_non⟩
          · exact ⟨.int _, shortB_int _⟩
          · exact ⟨.bl _, shortB_bl _⟩
          · exact ⟨.lst dp (.cons (.str _) .nil), show tidy 4 (.list [.str "left"]) from ⟨by decide +kernel, by decide +kernel⟩, fun s z => nomatch z⟩
          · exact ⟨.tup dt (.cons (.str _) (.cons (.str _) .nil)), show tidy 4 (.tuple [.str "left", .str "right"]) from ⟨by decide +kernel, by decide +kernel⟩, fun s z => nomatch z⟩
        refine ⟨_, rfl, ?_⟩
        exact fin _ _ _ _ _ e2 (by decide) (by decide) all.1 all.2 ⟨_, _, _, rfl⟩
      · walk_at "w"
        refine ⟨by walk_at "len", fun L hL => ?_⟩
        obtain ⟨x, hx, e⟩ := pick (ps := [(.int 0, .int 0), (.int w, .int w), (.int h, .int h), (.int 0, .int 0), (.int h, .int h), (.int h, .int h)]) (i := at_) hat.1 hat.2
        walk_at "w"
        refine w_ixL (sq_l upd_same) e ?_
        have hx1 : ∃ s : Int, x.1 = .int s ∧ 1 ≤ s := by
          have cs : at_ = 1 ∨ at_ = 2 ∨ at_ = 4 ∨ at_ = 5 := by
            have h1 : at_ ≠ 0 := fun z => c1 (by rw [z])
            have h2 : at_ ≠ 3 := fun z => c2 (by rw [z])
            omega
          rcases cs with rfl | rfl | rfl | rfl
          · exact ⟨w, (Option.some.inj (show some (V.int w) = some x.1 from e)).symm, w1⟩
          · exact ⟨h, (Option.some.inj (show some (V.int h) = some x.1 from e)).symm, h1⟩
          · exact ⟨h, (Option.some.inj (show some (V.int h) = some x.1 from e)).symm, h1⟩
          · exact ⟨h, (Option.some.inj (show some (V.int h) = some x.1 from e)).symm, h1⟩
        obtain ⟨s, es, s1⟩ := hx1
        walk_at "w"
        refine ⟨od, s, by rw [es]; rfl, hod, s1, fun v d H2 e2 t1 _ _ sh => ?_⟩
        walk_at "w"
        have e3 := (same_new (o := HO.lst [.int 0, .int w, .int h, .int 0, .int h, .int h]) hL).trans e2
        refine ⟨_, rfl, _, rfl, ?_⟩
        refine fin _ _ _ _ _ e3 hat.1 hat.2 (t1 l ?_) sh ⟨_, _, _, rfl⟩
        have := six_some six
        intro z
        have hLl : L ≠ l := fun y => this (y ▸ hL)
        rw [upd_ne (Ne.symm hLl)] at z
        exact this z
  · rintro σ H' ⟨⟨z3, z9, z10, rfl⟩, q4, v, a, hl, A⟩
    walk_at "w"
    exact q l v a H' (hS.trans q4) (none_back hS hl0') hl (A.same del_sub)
end
end Rim
set_option Elab.async false
set_option linter.all false
set_option maxRecDepth 100000
set_option maxHeartbeats 4000000
namespace Rim
open PySem PySem.Spec PyProof.Rows L2
local macro_rules | `(tactic| walk_at "w1") => `(tactic| (with_reducible first
  | refine w_var rfl ?_ | refine w_c ?_ | refine w_seq ?_ | refine w_asg ?_ | refine w_gname ?_ | refine w_op ?_ | refine w_rI0 ?_ | refine w_cons ?_ | refine w_nil ?_ | refine w_test ?_ | refine w_bl ?_ | refine w_if ?_ | refine w_next ?_ | refine w_ret ?_ | refine w_b ?_
  | refine w_call ?_ | refine w_cb ?_ | refine w_not ?_ | refine w_and ?_ | refine w_or ?_ | refine w_andV ?_ | refine w_orV ?_ | refine w_notV ?_ | refine w_tif ?_ | refine w_tup ?_ | refine w_lst ?_ | refine w_drop ?_ | refine w_retN ?_ | refine w_un ?_ | refine w_neg ?_
  | refine w_callS ?_ | refine w_make ?_ | refine w_for ?_ | refine w_lc ?_ | refine w_rng1 ?_ | refine w_rng2 ?_ | refine w_il ?_ | refine w_it ?_ | refine w_iT ?_ | refine w_iF ?_ | refine w_iNT ?_ | refine w_iNF ?_ | refine w_eq rfl ?_ | refine w_ne rfl ?_ | refine w_min2 ?_ | refine w_max2 ?_ | refine w_abs ?_))
local macro_rules | `(tactic| walk_at "w") => `(tactic| ((try dsimp only [Bool.not_true, Bool.not_false]); repeat (walk_at "w1")))
local macro_rules | `(tactic| walk_at "if") => `(tactic| (first | (apply w_ited) | (apply w_iten) | (apply w_ite)))
local macro_rules | `(tactic| walk_at "len") => `(tactic| (first | (rw [sizeLine_eq]; exact Nat.le_of_ble_eq_true rfl) | (show _ ≤ sizeLine; rw [sizeLine_eq]; exact Nat.le_of_ble_eq_true rfl)))
/-- what is due, told -/
def dueVs (v : ArgV) : Ver → List V
  | .ok => []
  | .name => [.str "name", v.name]
  | .cell => [.str "cell", v.x, v.y]
  | .sides => [.str "sides", v.sides]
  | .window => [.str "window", v.low, v.high]
  | .old => [.str "old", v.name]
  | .many => [.str "many"]
  | .col n => [.str "column", .str n]
  | .row n => [.str "row", .str n]
/-- the rows of the points, in a list -/
def RowsL (K : PySem.W.Frag) (H : Hp) (r : Addr) (ps : List Pt) : Prop := ∃ vs, H r = some (.lst vs) ∧ rowsAt H ps vs
def sp__law_due (K : PySem.W.Frag) : Sp := fun vs H Q _ => ∃ (sz r l : Addr) (P : Pic) (v : ArgV) (a : Args), vs = [.ref sz, .ref r, .ref l] ∧ SqT K H sz [.int P.w, .int P.h] ∧ RowsL K H r P.pts ∧ P.Ok ∧ H l = some (.lst v.list) ∧ ArgsAt K H v a ∧
  ∀ q H', Same H H' → H q = none → H' q = some (.lst (dueVs v (verdict P a))) → Q (.ref q) H'
def t__law_due (K : PySem.W.Frag) (E : XK) : TS :=
  (tSeq (tAsg (tVar 2) (gLst K 6 (gCons (gName 3) (gCons (gName 4) (gCons (gName 5) (gCons (gName 6) (gCons (gName 7) (gCons (gName 8) gNil))))))))
    (tSeq (tIfS (tOr (tNot (tB (tCB (rIsi K) (tCons (tVar 3) (tCons (tC (.ty "str")) tNil))))) (tOr (tTest (tOp rNe (tCB rLenStr (tCons (tVar 3) tNil)) (tC (.int 1)))) (tTest (tOp rNotInSign (tVar 3) (tC (.str ("abcdefghijklmnopqrstuvwxyz" : Str))))))) (tRet (tLst (tCons (tC (.str ("name" : Str))) (tCons (tVar 3) tNil)))) tNext)
    (tSeq (tIfS (tOr (tNot (tB (tCall (sp__law_is_whole K) [] E (tCons (tVar 4) (tCons (tC (.int 1)) (tCons (tOp (rIxT K) (tVar 0) (tC (.int 0))) tNil)))))) (tNot (tB (tCall (sp__law_is_whole K) [] E (tCons (tVar 5) (tCons (tC (.int 1)) (tCons (tOp (rIxT K) (tVar 0) (tC (.int 1))) tNil))))))) (tRet (tLst (tCons (tC (.str ("cell" : Str))) (tCons (tVar 4) (tCons (tVar 5) tNil))))) tNext)
    (tSeq (tIfS (tTest (tOp (rNotInD K) (tVar 6) (tLst (tCons (tC (.str ("left" : Str))) (tCons (tC (.str ("right" : Str))) (tCons (tC (.str ("both" : Str))) tNil)))))) (tRet (tLst (tCons (tC (.str ("sides" : Str))) (tCons (tVar 6) tNil)))) tNext)
    (tSeq (tIfS (tOr (tNot (tB (tCall (sp__law_is_whole K) [] E (tCons (tVar 7) (tCons (tC (.int 1)) (tCons (tOp (rIxT K) (tVar 0) (tC (.int 1))) tNil)))))) (tNot (tB (tCall (sp__law_is_whole K) [] E (tCons (tVar 8) (tCons (tVar 7) (tCons (tOp (rIxT K) (tVar 0) (tC (.int 1))) tNil))))))) (tRet (tLst (tCons (tC (.str ("window" : Str))) (tCons (tVar 7) (tCons (tVar 8) tNil))))) tNext)
    (tSeq (tIfS (tTest (tOp (rIn K false) (tVar 3) (tLc (iList K (tVar 1)) (gName 9) tYes (tOp (rIxT K) (tVar 9) (tC (.int 0))) [9]))) (tRet (tLst (tCons (tC (.str ("old" : Str))) (tCons (tVar 3) tNil)))) tNext)
    (tSeq (tIfS (tTest (tOp rGtI (tCB (rLenSeq K) (tCons (tVar 1) tNil)) (tC (.int 11)))) (tRet (tLst (tCons (tC (.str ("many" : Str))) tNil))) tNext)
    (tSeq (tFor (iList K (tLst (tCons (tC (.int 1)) (tCons (tC (.int 2)) tNil)))) (gName 10)
    (tFor (iList K (tVar 1)) (gName 9)
    (tIfS (tTest (tOp (rEqD K) (tOp (rIxT K) (tVar 9) (tVar 10)) (tOp (rIxL K) (tVar 2) (tVar 10)))) (tRet (tLst (tCons (tOp (rIxL K) (tLst (tCons (tC (.str ("column" : Str))) (tCons (tC (.str ("row" : Str))) tNil))) (tOp rSubI (tVar 10) (tC (.int 1)))) (tCons (tOp (rIxT K) (tVar 9) (tC (.int 0))) tNil)))) tNext)))
    (tRet (tLst tNil))))))))))
abbrev N__law_due : List Str := ["_law_size", "_law_rows", "_law_args_here", "_law_name", "_law_x", "_law_y", "_law_sides", "_law_low", "_law_high", "_law_row", "_law_at"]
section
variable {K : PySem.W.Frag}
theorem RowsL.same {H H' : Hp} {r : Addr} {ps : List Pt} (e : Same H H') (h : RowsL K H r ps) : RowsL K H' r ps := by
  obtain ⟨vs, h1, h2⟩ := h
  refine ⟨vs, e _ _ h1, paired_mono h2 fun p v h => ?_⟩
  obtain ⟨t, h3, h4⟩ := h
  exact ⟨t, h3, e _ _ h4⟩
theorem rows_at {H : Hp} {ps : List Pt} {vs : List V} (h : rowsAt H ps vs) {i : Nat} {x : V} (hx : vs[i]? = some x) : ∃ p t, ps[i]? = some p ∧ x = .ref t ∧ H t = some (.tup (ptRow p)) := by
  have hl := Paired.length h
  have hi := (List.getElem?_eq_some_iff.mp hx).1
  have e : ps[i]? = some ps[i] := List.getElem?_eq_getElem (by omega)
  obtain ⟨t, h1, h2⟩ := paired_at h e hx
  exact ⟨_, t, e, h1, h2⟩
/-- a list told at the end -/
theorem due_ret {H : Hp} {Q : VK} {xs : List V} (hl : xs.length ≤ sizeLine) (q : ∀ q H', Same H H' → H q = none → H' q = some (.lst xs) → Q (.ref q) H') : xs.length ≤ sizeLine ∧ ∀ p, H p = none → Q (.ref p) (upd H p (.lst xs)) :=
  ⟨hl, fun p hp => q p _ (same_new hp) hp upd_same⟩
theorem w_lst6 {H : Hp} {σ : L2.St} {N : L2.St → Hp → Prop} {a : Addr} {x1 x2 x3 x4 x5 x6 : V} {i1 i2 i3 i4 i5 i6 : Nat} (h : SqL K H a [x1, x2, x3, x4, x5, x6]) (k : N ((((((σ.set i1 (some x1)).set i2 (some x2)).set i3 (some x3)).set i4 (some x4)).set i5 (some x5)).set i6 (some x6)) H) :
    gLst K 6 (gCons (gName i1) (gCons (gName i2) (gCons (gName i3) (gCons (gName i4) (gCons (gName i5) (gCons (gName i6) gNil)))))) (.ref a) σ H N :=
  ⟨a, _, rfl, h, rfl, x1, _, rfl, x2, _, rfl, x3, _, rfl, x4, _, rfl, x5, _, rfl, x6, _, rfl, rfl, k⟩
theorem sides_in {H : Hp} {v : V} {d : PyData} (g : Thg K H v d) : (([.str "left", .str "right", .str "both"] : List PyData).any fun z => PyData.eqv z d) = sidesB d := by
  cases g with
  | str s =>
    have c : ∀ w : Str, PyData.eqv (.str w) (.str s) = PyData.eqv (.str s) (.str w) := fun w => by
      simp only [PyData.eqv]
      exact Bool.eq_iff_iff.mpr ⟨fun h => by simpa using (beq_iff_eq.mp h).symm, fun h => by simpa using (beq_iff_eq.mp h).symm⟩
    simp only [List.any_cons, List.any_nil, Bool.or_false, sidesB, c]
  | non => rfl
  | bl b => rfl
  | int i => rfl
  | lst h r => simp [sidesB, PyData.eqv]
  | tup h r => simp [sidesB, PyData.eqv]
theorem in_names (s : Str) : ∀ ps : List Pt, inV (.str s) (ps.map fun p => V.str p.name) = ps.any fun p => decide (p.name = s)
  | [] => rfl
  | p :: ps => by
    have ih := in_names s ps
    show (p.name == s || inV (.str s) (ps.map fun p => V.str p.name)) = (decide (p.name = s) || _)
    rw [ih]
    congr 1
theorem find_congr {α : Type} {f g : α → Bool} : ∀ {l : List α}, (∀ x ∈ l, f x = g x) → l.find? f = l.find? g
  | [], _ => rfl
  | x :: l, h => by
    rw [List.find?_cons, List.find?_cons, h x (List.mem_cons_self ..), find_congr fun y hy => h y (List.mem_cons_of_mem _ hy)]
theorem pure__law_due (vs : List V) (H : Hp) (Q : VK) (E : XK) (h : sp__law_due K vs H Q E) : t__law_due K E { nx := fun _ H' => Q .non H', rt := Q } (L2.start N__law_due vs) H := by
  obtain ⟨sz, r, l, P, v, a, rfl, hsz, hr, ok, hl, A, q⟩ := h
  unfold t__law_due
  have SW : ∀ {H' : Hp} {R : VK}, Same H H' → R (.int P.w) H' → rIxT K (.ref sz) (.int 0) H' R := fun e r => w_ixT (same_sqT e hsz) rfl r
  have SH : ∀ {H' : Hp} {R : VK}, Same H H' → R (.int P.h) H' → rIxT K (.ref sz) (.int 1) H' R := fun e r => w_ixT (same_sqT e hsz) rfl r
  have rr : Same H H := fun _ _ e => e
  walk_at "w"
  refine w_lst6 (sq_l hl) ?_
  walk_at "w"
  -- the name
  have nm : nameB a.name = false → verdict P a = .name := fun z => by
    unfold verdict
    rw [if_pos z]
  refine w_isS A.name ?_
  walk_at "w"
  cases hS : isSB a.name
  · walk_at "w"
    have e : nameB a.name = false := by cases h : a.name <;> simp_all [isSB, nameB]
    rw [nm e] at q
    exact due_ret (by walk_at "len") q
  walk_at "w"
  obtain ⟨s, es, evs⟩ : ∃ s, a.name = .str s ∧ v.name = .str s := by
    have g := A.name
    cases h : a.name with
    | str s =>
      rw [h] at g
      generalize v.name = z at g
      cases g
      exact ⟨s, rfl, rfl⟩
    | _ =>
      rw [h] at hS
      cases hS
  refine ⟨s, by rw [evs], A.few s es, ?_⟩
  walk_at "w"
  have nmS : nameB a.name = nameS s := by rw [es]; rfl
  by_cases hl1 : s.length = 1
  rotate_left
  · rw [decide_eq_false (fun z => hl1 (by injection z with z; omega))]
    walk_at "w"
    have e : nameB a.name = false := by
      rw [nmS]
      unfold nameS
      split
      · rename_i c hc
        exact absurd (by show s.cps.size = 1; rw [← Array.length_toList, hc]; rfl) hl1
      · rfl
    rw [nm e] at q
    exact due_ret (by walk_at "len") q
  rw [decide_eq_true (by rw [hl1]; rfl)]
  walk_at "w"
  obtain ⟨c, rfl⟩ : ∃ c, s = ⟨#[c]⟩ := by
    obtain ⟨⟨l⟩⟩ := s
    match l, hl1 with
    | [c], _ => exact ⟨c, rfl⟩
  refine ⟨c, _, by rw [evs], rfl, ?_⟩
  walk_at "w"
  walk_at "if" <;> intro hc
  · walk_at "w"
    have e : nameB a.name = false := by
      rw [nmS]
      exact decide_eq_false hc
    rw [nm e] at q
    exact due_ret (by walk_at "len") q
  have hn : nameB a.name = true := by
    rw [nmS]
    exact decide_eq_true hc
  walk_at "w"
  -- the cell
  have cel : (wholeB a.x 1 P.w && wholeB a.y 1 P.h) = false → verdict P a = .cell := fun z => by
    unfold verdict
    rw [if_neg (by simp [hn]), if_pos z]
  refine SW rr ?_
  walk_at "w"
  refine ⟨v.x, a.x, 1, P.w, rfl, A.x, ?_⟩
  walk_at "w"
  cases hx : wholeB a.x 1 P.w
  · walk_at "w"
    rw [cel (by rw [hx]; rfl)] at q
    exact due_ret (by walk_at "len") q
  walk_at "w"
  refine SH rr ?_
  walk_at "w"
  refine ⟨v.y, a.y, 1, P.h, rfl, A.y, ?_⟩
  walk_at "w"
  cases hy : wholeB a.y 1 P.h
  · walk_at "w"
    rw [cel (by rw [hx, hy]; rfl)] at q
    exact due_ret (by walk_at "len") q
  walk_at "w"
  have hcell : (wholeB a.x 1 P.w && wholeB a.y 1 P.h) = true := by rw [hx, hy]; rfl
  obtain ⟨x, ex, evx, x1, xw⟩ := whole_of A.x hx
  obtain ⟨y, ey, evy, y1, yh⟩ := whole_of A.y hy
  -- the sides
  refine ⟨by walk_at "len", fun p hp => ?_⟩
  have e1 := same_new (o := .lst [.str "left", .str "right", .str "both"]) hp
  refine ⟨a.sides, _, (A.sides.same e1).dp, .lst (sq_l upd_same) (.cons (.str _) (.cons (.str _) (.cons (.str _) .nil))), tidy_shaped (A.shp _ (by simp)), by decide +kernel, ?_⟩
  rw [sides_in A.sides]
  generalize upd H p _ = H1 at e1 ⊢
  walk_at "w"
  cases hs : sidesB a.sides
  · walk_at "w"
    have e : verdict P a = .sides := by
      unfold verdict
      rw [if_neg (by simp [hn]), if_neg (by simp [hcell]), if_pos hs]
    rw [e] at q
    exact due_ret (by walk_at "len") fun z H' e2 hz => q z H' (e1.trans e2) (none_back e1 hz)
  walk_at "w"
  -- the window
  have win : (wholeB a.low 1 P.h && wholeB a.high (lowI a.low) P.h) = false → verdict P a = .window := fun z => by
    unfold verdict
    rw [if_neg (by simp [hn]), if_neg (by simp [hcell]), if_neg (by simp [hs]), if_pos z]
  refine SH e1 ?_
  walk_at "w"
  refine ⟨v.low, a.low, 1, P.h, rfl, A.low.same e1, ?_⟩
  walk_at "w"
  cases hlo : wholeB a.low 1 P.h
  · walk_at "w"
    rw [win (by rw [hlo]; rfl)] at q
    exact due_ret (by walk_at "len") fun z H' e2 hz => q z H' (e1.trans e2) (none_back e1 hz)
  walk_at "w"
  obtain ⟨lo, elo, evlo, lo1, loh⟩ := whole_of A.low hlo
  refine SH e1 ?_
  walk_at "w"
  refine ⟨v.high, a.high, lo, P.h, by rw [evlo]; rfl, A.high.same e1, ?_⟩
  walk_at "w"
  cases hhi : wholeB a.high lo P.h
  · walk_at "w"
    rw [win (by rw [hlo, elo]; exact hhi)] at q
    exact due_ret (by walk_at "len") fun z H' e2 hz => q z H' (e1.trans e2) (none_back e1 hz)
  walk_at "w"
  have hwin : (wholeB a.low 1 P.h && wholeB a.high (lowI a.low) P.h) = true := by rw [hlo, elo]; exact hhi
  have vd : verdict P a = if (P.pts.any fun p => decide (p.name = ⟨#[c]⟩)) = true then .old else if 12 ≤ P.pts.length then .many
      else match colOf P x ⟨#[c]⟩ with
        | some p => .col p.name
        | none => match rowOf P y ⟨#[c]⟩ with
          | some p => .row p.name
          | none => .ok := by
    unfold verdict
    rw [if_neg (by simp [hn]), if_neg (by simp [hcell]), if_neg (by simp [hs]), if_neg (by simp [hwin]), es, ex, ey]
    rfl
  -- the names
  obtain ⟨rvs, hrl, hrows⟩ := RowsL.same e1 hr
  have hlen := Paired.length hrows
  refine ⟨r, rfl, ⟨_, sq_l hrl⟩, fun D hD => ?_⟩
  refine lcL1 hD (sq_l hrl) (by rw [← hlen]; have := ok.few; omega) (fun i z _ => ∀ p, P.pts[i]? = some p → z = .str p.name) (fun _ _ _ _ _ e => e) (fun i z H' R hz hS kk => ?_) (fun acc H2 hS hal hP hDa => ?_)
  · obtain ⟨p, t, hp, rfl, ht⟩ := rows_at hrows hz
    walk_at "w"
    refine w_ixT (sq_t (hS _ _ ht)) rfl ?_
    refine kk _ _ (fun _ _ e => e) fun p' hp' => ?_
    rw [hp] at hp'
    cases hp'
    rfl
  have hacc : acc = P.pts.map fun p => V.str p.name := by
    refine List.ext_getElem? fun i => ?_
    rw [List.getElem?_map]
    cases e : P.pts[i]? with
    | none =>
      have := List.getElem?_eq_none_iff.mp e
      rw [List.getElem?_eq_none (by omega)]
      rfl
    | some p =>
      have hi := (List.getElem?_eq_some_iff.mp e).1
      have hi' : acc[i]? = some acc[i] := List.getElem?_eq_getElem (by omega)
      rw [hi', hP i _ hi' p e]
      rfl
  have eI : inV v.name acc = P.pts.any fun p => decide (p.name = ⟨#[c]⟩) := by rw [evs, hacc, in_names]
  refine ⟨D, acc, rfl, .inl (sq_l hDa), by rw [evs]; rfl, by rw [hacc, List.all_map]; exact List.all_eq_true.mpr fun _ _ => rfl, ?_⟩
  rw [if_neg Bool.false_ne_true, eI]
  have e2 := e1.trans hS
  have hrl2 := hS _ _ hrl
  have hrows2 : rowsAt H2 P.pts rvs := paired_mono hrows fun p v h => by
    obtain ⟨t, h3, h4⟩ := h
    exact ⟨t, h3, hS _ _ h4⟩
  clear hrows hrl hP hal hDa hD hS
  walk_at "w"
  cases hold : P.pts.any fun p => decide (p.name = ⟨#[c]⟩)
  rotate_left
  · walk_at "w"
    rw [vd, if_pos hold] at q
    exact due_ret (by walk_at "len") fun z H' e3 hz => q z H' (e2.trans e3) (none_back e2 hz)
  rw [if_neg (by rw [hold]; exact Bool.false_ne_true)] at vd
  walk_at "w"
  refine w_lenL (sq_l hrl2) ?_
  walk_at "w"
  walk_at "if" <;> intro hm
  · walk_at "w"
    rw [vd, if_pos (by omega)] at q
    exact due_ret (by walk_at "len") fun z H' e3 hz => q z H' (e2.trans e3) (none_back e2 hz)
  rw [if_neg (by omega)] at vd
  walk_at "w"
  refine ⟨by walk_at "len", fun L hL => ?_⟩
  have e3 := same_new (o := .lst [.int 1, .int 2]) hL
  refine ⟨L, rfl, ⟨_, sq_l upd_same⟩, ?_⟩
  have hLL : upd H2 L (.lst [.int 1, .int 2]) L = some (.lst [.int 1, .int 2]) := upd_same
  have e4 := e2.trans e3
  have hrl3 := e3 _ _ hrl2
  have hrows3 : rowsAt (upd H2 L (.lst [.int 1, .int 2])) P.pts rvs := paired_mono hrows2 fun p v h => by
    obtain ⟨t, h3, h4⟩ := h
    exact ⟨t, h3, e3 _ _ h4⟩
  generalize upd H2 L (.lst [.int 1, .int 2]) = H3 at hLL e4 hrl3 hrows3 ⊢
  clear e3 hrl2 hrows2
  have inner : ∀ (at_ wi : Int) (word : Str) (val : Pt → Int) (D : Ends) (z9 : Option V) (H' : Hp), Same H3 H' → (∀ p, atI (ptRow p) at_ = some (.int (val p))) → atI v.list at_ = some (.int wi) → atI [V.str "column", .str "row"] (at_ - 1) = some (.str word) →
      (∀ p, P.pts.find? (fun p => decide (val p = wi)) = some p → ∀ q H'', Same H H'' → H q = none → H'' q = some (.lst [.str word, .str p.name]) → D.rt (.ref q) H'') →
      (P.pts.find? (fun p => decide (val p = wi)) = none → ∀ z9 H'', Same H3 H'' → D.nx [some (.ref sz), some (.ref r), some (.ref l), some v.name, some v.x, some v.y, some v.sides, some v.low, some v.high, z9, some (.int at_)] H'') →
      tFor (iList K (tVar 1)) (gName 9) (tIfS (tTest (tOp (rEqD K) (tOp (rIxT K) (tVar 9) (tVar 10)) (tOp (rIxL K) (tVar 2) (tVar 10)))) (tRet (tLst (tCons (tOp (rIxL K) (tLst (tCons (tC (.str ("column" : Str))) (tCons (tC (.str ("row" : Str))) tNil))) (tOp rSubI (tVar 10) (tC (.int 1)))) (tCons (tOp (rIxT K) (tVar 9) (tC (.int 0))) tNil)))) tNext) D
        [some (.ref sz), some (.ref r), some (.ref l), some v.name, some v.x, some v.y, some v.sides, some v.low, some v.high, z9, some (.int at_)] H' := by
    intro at_ wi word val D z9 H' e5 hval hwi hword hret hnx
    walk_at "w"
    refine ⟨r, rfl, ⟨_, sq_l (e5 _ _ hrl3)⟩, ?_⟩
    refine for_wk (wk_list r rvs) (fun i σ H' => (∃ z9, σ = [some (.ref sz), some (.ref r), some (.ref l), some v.name, some v.x, some v.y, some v.sides, some v.low, some v.high, z9, some (.int at_)]) ∧ Same H3 H' ∧ (P.pts.take i).find? (fun p => decide (val p = wi)) = none)
      ⟨⟨_, rfl⟩, e5, rfl⟩ (fun i σ H' _ h => sq_l (h.2.1 _ _ hrl3)) ?_ ?_
    · rintro i z σ H' hz ⟨⟨z9, rfl⟩, e6, hno⟩
      obtain ⟨p, t, hp, rfl, ht⟩ := rows_at hrows3 hz
      walk_at "w"
      refine w_ixT (sq_t (e6 _ _ ht)) (hval p) ?_
      walk_at "w"
      refine w_ixL (sq_l ((e4.trans e6) _ _ hl)) hwi ?_
      refine w_eqD (.int _) (.int _) (by rfl) (by rfl) ?_
      walk_at "w"
      have eb : PyData.eqv (.int (val p)) (.int wi) = decide (val p = wi) := by
        simp only [PyData.eqv]
        rfl
      rw [eb]
      walk_at "if" <;> intro c1
      · walk_at "w"
        refine ⟨by walk_at "len", fun p2 hp2 => ?_⟩
        walk_at "w"
        refine w_ixL (sq_l upd_same) hword ?_
        walk_at "w"
        have e7 := same_new (o := .lst [.str "column", .str "row"]) hp2
        refine w_ixT (sq_t (e7 _ _ (e6 _ _ ht))) rfl ?_
        walk_at "w"
        refine ⟨by walk_at "len", fun q2 hq2 => ?_⟩
        exact hret p (find_at hno hp (decide_eq_true c1)) q2 _ (((e4.trans e6).trans e7).trans (same_new hq2)) (none_back ((e4.trans e6).trans e7) hq2) upd_same
      · walk_at "w"
        exact ⟨⟨_, rfl⟩, e6, find_next hno hp (decide_eq_false c1)⟩
    · rintro σ H' ⟨⟨z9, rfl⟩, e6, hno⟩
      rw [← hlen, List.take_length] at hno
      exact hnx hno z9 H' e6
  have colE : colOf P x ⟨#[c]⟩ = P.pts.find? fun p => decide (p.x = x) := by
    refine find_congr fun p hp => ?_
    have := List.any_eq_false.mp hold p hp
    rw [Bool.not_eq_true] at this
    rw [this]
    simp
  have rowE : rowOf P y ⟨#[c]⟩ = P.pts.find? fun p => decide (p.y = y) := by
    refine find_congr fun p hp => ?_
    have := List.any_eq_false.mp hold p hp
    rw [Bool.not_eq_true] at this
    rw [this]
    simp
  refine for_wk (wk_list L [.int 1, .int 2]) (fun i σ H' => (∃ z9 z10, σ = [some (.ref sz), some (.ref r), some (.ref l), some v.name, some v.x, some v.y, some v.sides, some v.low, some v.high, z9, z10]) ∧ Same H3 H' ∧ (0 < i → colOf P x ⟨#[c]⟩ = none) ∧ (1 < i → rowOf P y ⟨#[c]⟩ = none))
    ⟨⟨_, _, rfl⟩, fun _ _ e => e, fun h => absurd h (by omega), fun h => absurd h (by omega)⟩ (fun i σ H' _ h => sq_l (h.2.1 _ _ hLL)) ?_ ?_
  · rintro i z σ H' hz ⟨⟨z9, z10, rfl⟩, e5, g1, g2⟩
    match i, hz with
    | 0, hz =>
      cases hz
      refine w_gname (inner 1 x "column" Pt.x _ z9 H' e5 (fun _ => rfl) (by rw [← evx]; rfl) rfl (fun p hp q2 H'' e6 hq hq2 => ?_) fun hno z9 H'' e6 => ?_)
      · rw [vd, colE, hp] at q
        exact q q2 H'' e6 hq hq2
      · exact ⟨⟨_, _, rfl⟩, e6, fun _ => by rw [colE]; exact hno, fun h => absurd h (by omega)⟩
    | 1, hz =>
      cases hz
      refine w_gname (inner 2 y "row" Pt.y _ z9 H' e5 (fun _ => rfl) (by rw [← evy]; rfl) rfl (fun p hp q2 H'' e6 hq hq2 => ?_) fun hno z9 H'' e6 => ?_)
      · rw [vd, g1 (by omega), rowE, hp] at q
        exact q q2 H'' e6 hq hq2
      · exact ⟨⟨_, _, rfl⟩, e6, fun _ => g1 (by omega), fun _ => by rw [rowE]; exact hno⟩
    | i + 2, hz => cases hz
  · rintro σ H' ⟨⟨z9, z10, rfl⟩, e5, g1, g2⟩
    walk_at "w"
    rw [vd, g1 (by decide), g2 (by decide)] at q
    exact due_ret (by walk_at "len") fun z H'' e6 hz => q z H'' ((e4.trans e5).trans e6) (none_back (e4.trans e5) hz)
end
end Rim
set_option Elab.async false
set_option linter.all false
set_option maxRecDepth 100000
set_option maxHeartbeats 4000000
namespace Rim
open PySem PySem.Spec PyProof.Rows L2
local macro_rules | `(tactic| walk_at "w1") => `(tactic| (with_reducible first
  | refine w_var rfl ?_ | refine w_c ?_ | refine w_seq ?_ | refine w_asg ?_ | refine w_gname ?_ | refine w_op ?_ | refine w_rI0 ?_ | refine w_cons ?_ | refine w_nil ?_ | refine w_test ?_ | refine w_bl ?_ | refine w_if ?_ | refine w_next ?_ | refine w_ret ?_ | refine w_b ?_
  | refine w_call ?_ | refine w_cb ?_ | refine w_not ?_ | refine w_and ?_ | refine w_or ?_ | refine w_andV ?_ | refine w_orV ?_ | refine w_notV ?_ | refine w_tif ?_ | refine w_tup ?_ | refine w_lst ?_ | refine w_drop ?_ | refine w_retN ?_ | refine w_un ?_ | refine w_neg ?_
  | refine w_callS ?_ | refine w_make ?_ | refine w_for ?_ | refine w_lc ?_ | refine w_rng1 ?_ | refine w_rng2 ?_ | refine w_il ?_ | refine w_it ?_ | refine w_iT ?_ | refine w_iF ?_ | refine w_iNT ?_ | refine w_iNF ?_ | refine w_eq rfl ?_ | refine w_ne rfl ?_ | refine w_min2 ?_ | refine w_max2 ?_ | refine w_abs ?_))
local macro_rules | `(tactic| walk_at "w") => `(tactic| ((try dsimp only [Bool.not_true, Bool.not_false]); repeat (walk_at "w1")))
local macro_rules | `(tactic| walk_at "if") => `(tactic| (first | (apply w_ited) | (apply w_iten) | (apply w_ite)))
local macro_rules | `(tactic| walk_at "len") => `(tactic| (first | (rw [sizeLine_eq]; exact Nat.le_of_ble_eq_true rfl) | (show _ ≤ sizeLine; rw [sizeLine_eq]; exact Nat.le_of_ble_eq_true rfl)))
/-- with some of the last things left out -/
def ArgV.cut (m : Int) (v : ArgV) : ArgV := { v with sides := if 2 < m then .str "both" else v.sides, low := if 1 < m then .int 1 else v.low, high := if 0 < m then .non else v.high }
def Args.cut (m : Int) (a : Args) : Args := { a with sides := if 2 < m then .str "both" else a.sides, low := if 1 < m then .int 1 else a.low, high := if 0 < m then .none else a.high }
def sp__law_put (K : PySem.W.Frag) : Sp := fun vs H Q E => ∃ (L : Loc) (P : Pic) (l : Addr) (v : ArgV) (a : Args) (m : Int), vs = [.ref L.p, .ref l, .int m] ∧ 0 ≤ m ∧ m ≤ 3 ∧ H l = some (.lst v.list) ∧ PicAt K H L P ∧ P.Ok ∧ ArgsAt K H v a ∧
  (verdict P ((a.cut m).fit P) ≠ .ok → Refused K H E ((v.cut m).fit P) (verdict P ((a.cut m).fit P))) ∧
  (verdict P ((a.cut m).fit P) = .ok → ∀ b H', H b.1 = none → But L.d H H' → PicAt K H' { L with as := L.as ++ [b] } { P with pts := P.pts ++ [((a.cut m).fit P).pt] } → Q .non H')
def sp__law_tried (K : PySem.W.Frag) : Sp := fun vs H Q _ => ∃ (L : Loc) (P : Pic) (sz r l : Addr) (v : ArgV) (a : Args) (m : Int), vs = [.ref L.p, .ref sz, .ref r, .ref l, .int m] ∧ 0 ≤ m ∧ m ≤ 3 ∧ H l = some (.lst v.list) ∧ PicAt K H L P ∧ P.Ok ∧ ArgsAt K H v a ∧
  SqT K H sz [.int P.w, .int P.h] ∧ RowsL K H r P.pts ∧
  ∀ L' P' H', (∀ b o, H b = some o → b ≠ L.d → b ≠ r → H' b = some o) → L'.p = L.p → L'.d = L.d → L'.o = L.o → P'.w = P.w → P'.h = P.h → P'.op = P.op → PicAt K H' L' P' → P'.Ok → RowsL K H' r P'.pts → Q (.bl true) H'
def t__law_put (K : PySem.W.Frag) (E : XK) : TS :=
  (tSeq (tIfS (tTest (tOp rEq (tVar 2) (tC (.int 3)))) (tRet (tMeth (cl K "Picture") "put" (sp_Picture_put K) [.str ("both" : Str), .int 1, .non] E (tVar 0) (tCons (tOp (rIxL K) (tVar 1) (tC (.int 0))) (tCons (tOp (rIxL K) (tVar 1) (tC (.int 1))) (tCons (tOp (rIxL K) (tVar 1) (tC (.int 2))) tNil))))) tNext)
    (tSeq (tIfS (tTest (tOp rEq (tVar 2) (tC (.int 2)))) (tRet (tMeth (cl K "Picture") "put" (sp_Picture_put K) [.int 1, .non] E (tVar 0) (tCons (tOp (rIxL K) (tVar 1) (tC (.int 0))) (tCons (tOp (rIxL K) (tVar 1) (tC (.int 1))) (tCons (tOp (rIxL K) (tVar 1) (tC (.int 2))) (tCons (tOp (rIxL K) (tVar 1) (tC (.int 3))) tNil)))))) tNext)
    (tSeq (tIfS (tTest (tOp rEq (tVar 2) (tC (.int 1)))) (tRet (tMeth (cl K "Picture") "put" (sp_Picture_put K) [.non] E (tVar 0) (tCons (tOp (rIxL K) (tVar 1) (tC (.int 0))) (tCons (tOp (rIxL K) (tVar 1) (tC (.int 1))) (tCons (tOp (rIxL K) (tVar 1) (tC (.int 2))) (tCons (tOp (rIxL K) (tVar 1) (tC (.int 3))) (tCons (tOp (rIxL K) (tVar 1) (tC (.int 4))) tNil))))))) tNext)
    (tRet (tMeth (cl K "Picture") "put" (sp_Picture_put K) [] E (tVar 0) (tCons (tOp (rIxL K) (tVar 1) (tC (.int 0))) (tCons (tOp (rIxL K) (tVar 1) (tC (.int 1))) (tCons (tOp (rIxL K) (tVar 1) (tC (.int 2))) (tCons (tOp (rIxL K) (tVar 1) (tC (.int 3))) (tCons (tOp (rIxL K) (tVar 1) (tC (.int 4))) (tCons (tOp (rIxL K) (tVar 1) (tC (.int 5))) tNil)))))))))))
abbrev N__law_put : List Str := ["_law_picture", "_law_args_here", "_law_many"]
def tb1__law_tried (K : PySem.W.Frag) (E : XK) (W : WX) : TS :=
  (tIfS (tTest (tOp rNotN (tCallS (sp__law_put K) (WE W) (tCons (tVar 0) (tCons (tVar 3) (tCons (tVar 4) tNil)))) (tC .non))) (tRet (tC (.bl false))) tNext)
def ts1a__law_tried (K : PySem.W.Frag) (E : XK) (ae : Addr) (cls : Value) (dd : Option Addr) : TS :=
  (tAsg (tCall (sp__law_told K) [] E0 (tCons (tVar 8) tNil)) (gName 7))
def t__law_tried (K : PySem.W.Frag) (E : XK) : TS :=
  (tSeq (tAsg (tCB (rListOf K) (tCons (tVar 3) tNil)) (gName 5))
    (tSeq (tIfS (tTest (tOp rGtI (tVar 4) (tC (.int 2)))) (tAsg (tC (.str ("both" : Str))) (gSub (tVar 5) (tC (.int 3)) rSetL)) tNext)
    (tSeq (tIfS (tTest (tOp rGtI (tVar 4) (tC (.int 1)))) (tAsg (tC (.int 1)) (gSub (tVar 5) (tC (.int 4)) rSetL)) tNext)
    (tSeq (tIfS (tOr (tTest (tOp rGtI (tVar 4) (tC (.int 0)))) (tTest (tOp rIsN (tOp (rIxL K) (tVar 3) (tC (.int 5))) (tC .non)))) (tAsg (tOp (rIxT K) (tVar 1) (tC (.int 1))) (gSub (tVar 5) (tC (.int 5)) rSetL)) tNext)
    (tSeq (tAsg (tCall (sp__law_due K) [] E (tCons (tVar 1) (tCons (tVar 2) (tCons (tVar 5) tNil)))) (gName 6))
    (tSeq (tAsg (tLst tNil) (gName 7))
    (tSeq (fun D σ H => tb1__law_tried K E (wTrk K (fun cls d _ H => E cls d H) D [⟨.ref (cl K "RimError"), some 8, fun ae cls dd => ts1a__law_tried K E ae cls dd⟩]) D σ H)
    (tSeq (tIfS (tTest (tOp (rNeD K) (tVar 7) (tVar 6))) (tRet (tC (.bl false))) tNext)
    (tSeq (tIfS (tTest (tOp (rEqD K) (tVar 6) (tLst tNil))) (tDrop (tBM K "list" rAppend (tVar 2) (tCons (tThen (tVar 5) (kTup K)) tNil))) tNext)
    (tRet (tC (.bl true))))))))))))
abbrev N__law_tried : List Str := ["_law_picture", "_law_size", "_law_rows", "_law_args_here", "_law_many", "_law_due_args", "_law_due_here", "_law_told_here", "_law_e"]
section
variable {K : PySem.W.Frag}
theorem cut_at {H : Hp} {v : ArgV} {a : Args} {m : Int} (A : ArgsAt K H v a) : ArgsAt K H (v.cut m) (a.cut m) := by
  refine ⟨A.name, A.x, A.y, ?_, ?_, ?_, A.few, fun d hd => ?_⟩
  · show Thg K H (if 2 < m then _ else _) (if 2 < m then _ else _)
    split
    · exact .str _
    · exact A.sides
  · show Thg K H (if 1 < m then _ else _) (if 1 < m then _ else _)
    split
    · exact .int _
    · exact A.low
  · show Thg K H (if 0 < m then _ else _) (if 0 < m then _ else _)
    split
    · exact .non
    · exact A.high
  · simp only [List.mem_cons, List.not_mem_nil, or_false] at hd
    rcases hd with h | h | h | h | h | h
    · exact A.shp d (by rw [h]; simp [Args.cut])
    · exact A.shp d (by rw [h]; simp [Args.cut])
    · exact A.shp d (by rw [h]; simp [Args.cut])
    · rw [h]
      show tidy 4 (if 2 < m then _ else _)
      split
      · exact tidy_str (by decide +kernel)
      · exact A.shp _ (by simp)
    · rw [h]
      show tidy 4 (if 1 < m then _ else _)
      split
      · exact tidy_int _
      · exact A.shp _ (by simp)
    · rw [h]
      show tidy 4 (if 0 < m then _ else _)
      split
      · exact tidy_non
      · exact A.shp _ (by simp)
theorem fit_at {H : Hp} {P : Pic} {v : ArgV} {a : Args} (A : ArgsAt K H v a) : ArgsAt K H (v.fit P) (a.fit P) := by
  by_cases h : v.high = .non
  · have e1 : v.fit P = { v with high := .int P.h } := by
      unfold ArgV.fit
      rw [h]
    have e2 : a.fit P = { a with high := .int P.h } := by
      unfold Args.fit
      rw [A.high.isN.mp h]
    rw [e1, e2]
    refine ⟨A.name, A.x, A.y, A.sides, A.low, .int _, A.few, fun d hd => ?_⟩
    simp only [List.mem_cons, List.not_mem_nil, or_false] at hd
    rcases hd with h | h | h | h | h | h
    · exact A.shp d (by rw [h]; simp)
    · exact A.shp d (by rw [h]; simp)
    · exact A.shp d (by rw [h]; simp)
    · exact A.shp d (by rw [h]; simp)
    · exact A.shp d (by rw [h]; simp)
    · rw [h]
      exact tidy_int _
  · obtain ⟨e1, e2⟩ := fit_of (P := P) (v := v) (a := a) h (fun z => h (A.high.isN.mpr z))
    rw [e1, e2]
    exact A
theorem pure__law_put (vs : List V) (H : Hp) (Q : VK) (E : XK) (h : sp__law_put K vs H Q E) : t__law_put K E { nx := fun _ H' => Q .non H', rt := Q } (L2.start N__law_put vs) H := by
  obtain ⟨L, P, l, v, a, m, rfl, m0, m3, hl, A, ok, G, qB, q⟩ := h
  unfold t__law_put
  have ix : ∀ {i : Int} {x : V} {R : VK}, atI v.list i = some x → R x H → rIxL K (.ref l) (.int i) H R := fun e r => w_ixL (sq_l hl) e r
  have G' := cut_at (m := m) G
  have cs : m = 0 ∨ m = 1 ∨ m = 2 ∨ m = 3 := by omega
  rcases cs with rfl | rfl | rfl | rfl
  · walk_at "w"
    rw [decide_eq_false (by decide)]
    walk_at "w"
    rw [decide_eq_false (by decide)]
    walk_at "w"
    rw [decide_eq_false (by decide)]
    walk_at "w"
    refine ⟨_, rfl, L.p, _, _, rfl, A.ob, rfl, ?_⟩
    walk_at "w"
    refine ix rfl ?_
    walk_at "w"
    refine ix rfl ?_
    walk_at "w"
    refine ix rfl ?_
    walk_at "w"
    refine ix rfl ?_
    walk_at "w"
    refine ix rfl ?_
    walk_at "w"
    refine ix rfl ?_
    walk_at "w"
    exact ⟨L, P, _, _, rfl, A, ok, G', qB, q⟩
  · walk_at "w"
    rw [decide_eq_false (by decide)]
    walk_at "w"
    rw [decide_eq_false (by decide)]
    walk_at "w"
    rw [decide_eq_true rfl]
    walk_at "w"
    refine ⟨_, rfl, L.p, _, _, rfl, A.ob, rfl, ?_⟩
    walk_at "w"
    refine ix rfl ?_
    walk_at "w"
    refine ix rfl ?_
    walk_at "w"
    refine ix rfl ?_
    walk_at "w"
    refine ix rfl ?_
    walk_at "w"
    refine ix rfl ?_
    walk_at "w"
    exact ⟨L, P, _, _, rfl, A, ok, G', qB, q⟩
  · walk_at "w"
    rw [decide_eq_false (by decide)]
    walk_at "w"
    rw [decide_eq_true rfl]
    walk_at "w"
    refine ⟨_, rfl, L.p, _, _, rfl, A.ob, rfl, ?_⟩
    walk_at "w"
    refine ix rfl ?_
    walk_at "w"
    refine ix rfl ?_
    walk_at "w"
    refine ix rfl ?_
    walk_at "w"
    refine ix rfl ?_
    walk_at "w"
    exact ⟨L, P, _, _, rfl, A, ok, G', qB, q⟩
  · walk_at "w"
    rw [decide_eq_true rfl]
    walk_at "w"
    refine ⟨_, rfl, L.p, _, _, rfl, A.ob, rfl, ?_⟩
    walk_at "w"
    refine ix rfl ?_
    walk_at "w"
    refine ix rfl ?_
    walk_at "w"
    refine ix rfl ?_
    walk_at "w"
    exact ⟨L, P, _, _, rfl, A, ok, G', qB, q⟩
end
end Rim
set_option Elab.async false
set_option linter.all false
set_option maxRecDepth 100000
set_option maxHeartbeats 4000000
namespace Rim
open PySem PySem.Spec PyProof.Rows L2
local macro_rules | `(tactic| walk_at "w1") => `(tactic| (with_reducible first
  | refine w_var rfl ?_ | refine w_c ?_ | refine w_seq ?_ | refine w_asg ?_ | refine w_gname ?_ | refine w_op ?_ | refine w_rI0 ?_ | refine w_cons ?_ | refine w_nil ?_ | refine w_test ?_ | refine w_bl ?_ | refine w_if ?_ | refine w_next ?_ | refine w_ret ?_ | refine w_b ?_
  | refine w_call ?_ | refine w_cb ?_ | refine w_not ?_ | refine w_and ?_ | refine w_or ?_ | refine w_andV ?_ | refine w_orV ?_ | refine w_notV ?_ | refine w_tif ?_ | refine w_tup ?_ | refine w_lst ?_ | refine w_drop ?_ | refine w_retN ?_ | refine w_un ?_ | refine w_neg ?_
  | refine w_callS ?_ | refine w_make ?_ | refine w_for ?_ | refine w_lc ?_ | refine w_rng1 ?_ | refine w_rng2 ?_ | refine w_il ?_ | refine w_it ?_ | refine w_iT ?_ | refine w_iF ?_ | refine w_iNT ?_ | refine w_iNF ?_ | refine w_eq rfl ?_ | refine w_ne rfl ?_ | refine w_min2 ?_ | refine w_max2 ?_ | refine w_abs ?_))
local macro_rules | `(tactic| walk_at "w") => `(tactic| ((try dsimp only [Bool.not_true, Bool.not_false]); repeat (walk_at "w1")))
local macro_rules | `(tactic| walk_at "if") => `(tactic| (first | (apply w_ited) | (apply w_iten) | (apply w_ite)))
local macro_rules | `(tactic| walk_at "len") => `(tactic| (first | (rw [sizeLine_eq]; exact Nat.le_of_ble_eq_true rfl) | (show _ ≤ sizeLine; rw [sizeLine_eq]; exact Nat.le_of_ble_eq_true rfl)))
section
variable {K : PySem.W.Frag}
theorem find_none {α : Type} {f : α → Bool} {l : List α} (h : l.find? f = none) : ∀ x ∈ l, f x = false := fun x hx => by
  have := List.find?_eq_none.mp h x hx
  simpa using this
/-- a point that is taken is good -/
theorem verdict_ok {H : Hp} {P : Pic} {v : ArgV} {a : Args} (G : ArgsAt K H v a) (e : verdict P a = .ok) : ∃ (nm sd : Str) (x y lo hi : Int), a = ⟨.str nm, .int x, .int y, .str sd, .int lo, .int hi⟩ ∧ v = ⟨.str nm, .int x, .int y, .str sd, .int lo, .int hi⟩ ∧ nameS nm = true ∧
    (1 ≤ x ∧ x ≤ P.w ∧ 1 ≤ y ∧ y ≤ P.h) ∧ (sd = "left" ∨ sd = "right" ∨ sd = "both") ∧ (1 ≤ lo ∧ lo ≤ hi ∧ hi ≤ P.h) ∧ (∀ p ∈ P.pts, p.name ≠ nm) ∧ P.pts.length < 12 ∧ (∀ p ∈ P.pts, p.x ≠ x) ∧ ∀ p ∈ P.pts, p.y ≠ y := by
  unfold verdict at e
  split at e
  · cases e
  rename_i h1
  split at e
  · cases e
  rename_i h2
  split at e
  · cases e
  rename_i h3
  split at e
  · cases e
  rename_i h4
  split at e
  · cases e
  rename_i h5
  split at e
  · cases e
  rename_i h6
  rw [Bool.not_eq_false] at h1 h2 h3 h4
  rw [Bool.and_eq_true] at h2 h4
  obtain ⟨nm, en, evn, hnm⟩ := name_of G.name h1
  obtain ⟨x, ex, evx, x1, xw⟩ := whole_of G.x h2.1
  obtain ⟨y, ey, evy, y1, yh⟩ := whole_of G.y h2.2
  obtain ⟨sd, es, evs, hsd⟩ := sides_of G.sides h3
  obtain ⟨lo, el, evl, lo1, loh⟩ := whole_of G.low h4.1
  have h4' := h4.2
  rw [el] at h4'
  obtain ⟨hi, eh, evh, hi1, hih⟩ := whole_of G.high h4'
  obtain ⟨an, ax, ay, as_, al, ah⟩ := a
  obtain ⟨wn, wx, wy, ws, wl, wh⟩ := v
  dsimp only at en ex ey es el eh evn evx evy evs evl evh
  subst en ex ey es el eh evn evx evy evs evl evh
  have hn : ∀ p ∈ P.pts, p.name ≠ nm := fun p hp z => h5 (List.any_eq_true.mpr ⟨p, hp, decide_eq_true z⟩)
  split at e
  · cases e
  rename_i c1
  split at e
  · cases e
  rename_i c2
  refine ⟨nm, sd, x, y, lo, hi, rfl, rfl, hnm, ⟨x1, xw, y1, yh⟩, hsd, ⟨lo1, hi1, hih⟩, hn, by omega, fun p hp z => ?_, fun p hp z => ?_⟩
  · have := find_none c1 p hp
    simp only [lowI, strI, z, decide_true, Bool.true_and, Bool.not_eq_false', decide_eq_true_eq] at this
    exact hn p hp (of_decide_eq_true this)
  · have := find_none c2 p hp
    simp only [lowI, strI, z, decide_true, Bool.true_and, Bool.not_eq_false', decide_eq_true_eq] at this
    exact hn p hp (of_decide_eq_true this)
theorem ok_put {H : Hp} {P : Pic} {v : ArgV} {a : Args} (ok : P.Ok) (G : ArgsAt K H v a) (e : verdict P a = .ok) : Pic.Ok { P with pts := P.pts ++ [a.pt] } := by
  obtain ⟨nm, sd, x, y, lo, hi, rfl, rfl, hnm, hc, hsd, hw, hn, hf, hx, hy⟩ := verdict_ok G e
  have all : ∀ {R : Pt → Prop}, (∀ p ∈ P.pts, R p) → R ⟨nm, x, y, sd, lo, hi⟩ → ∀ p ∈ P.pts ++ [⟨nm, x, y, sd, lo, hi⟩], R p := fun h1 h2 p hp => by
    rcases List.mem_append.mp hp with h | h
    · exact h1 p h
    · rw [List.mem_singleton.mp h]
      exact h2
  have nodup : ∀ {β : Type} (f : Pt → β), (P.pts.map f).Nodup → (∀ p ∈ P.pts, f p ≠ f ⟨nm, x, y, sd, lo, hi⟩) → (List.map f (P.pts ++ [(⟨nm, x, y, sd, lo, hi⟩ : Pt)])).Nodup := fun f h1 h2 => by
    rw [List.map_append]
    refine List.nodup_append.mpr ⟨h1, by simp, fun b hb c hc => ?_⟩
    obtain ⟨p, hp, rfl⟩ := List.mem_map.mp hb
    rw [List.map_cons, List.map_nil, List.mem_singleton] at hc
    rw [hc]
    exact h2 p hp
  exact ⟨ok.w1, ok.w30, ok.h1, ok.h16, by show (P.pts ++ [_]).length ≤ 12; rw [List.length_append]; show _ + 1 ≤ 12; omega, nodup _ ok.names hn, all ok.letters hnm, all ok.cells hc, all ok.sides hsd, all ok.wins hw, nodup _ ok.xs hx, nodup _ ok.ys hy, ok.ops, ok.rows⟩
/-! ### what is due, as data -/
def dueDs (a : Args) : Ver → List PyData
  | .ok => []
  | .name => [.str "name", a.name]
  | .cell => [.str "cell", a.x, a.y]
  | .sides => [.str "sides", a.sides]
  | .window => [.str "window", a.low, a.high]
  | .old => [.str "old", a.name]
  | .many => [.str "many"]
  | .col n => [.str "column", .str n]
  | .row n => [.str "row", .str n]
def verTidy : Ver → Prop
  | .col n => PyData.strOk n = true
  | .row n => PyData.strOk n = true
  | _ => True
theorem verdict_tidy {P : Pic} {a : Args} (ok : P.Ok) : verTidy (verdict P a) := by
  unfold verdict
  repeat' split
  all_goals first
    | trivial
    | (rename_i p h; exact nameS_ok (ok.letters p (List.mem_of_find?_eq_some h)))
    | (rename_i h1 p h; exact nameS_ok (ok.letters p (List.mem_of_find?_eq_some h)))
theorem due_dp {H : Hp} {v : ArgV} {a : Args} (A : ArgsAt K H v a) : ∀ ver, DpAll K H (dueVs v ver) (dueDs a ver)
  | .ok => .nil
  | .name => .cons (.str _) (.cons A.name.dp .nil)
  | .cell => .cons (.str _) (.cons A.x.dp (.cons A.y.dp .nil))
  | .sides => .cons (.str _) (.cons A.sides.dp .nil)
  | .window => .cons (.str _) (.cons A.low.dp (.cons A.high.dp .nil))
  | .old => .cons (.str _) (.cons A.name.dp .nil)
  | .many => .cons (.str _) .nil
  | .col n => .cons (.str _) (.cons (.str _) .nil)
  | .row n => .cons (.str _) (.cons (.str _) .nil)
theorem due_tidy {H : Hp} {v : ArgV} {a : Args} (A : ArgsAt K H v a) : ∀ ver, verTidy ver → tidy 5 (.list (dueDs a ver)) := fun ver hv => tidy_list (n := 4) fun d hd => by
  have w : ∀ x : Str, PyData.strOk x = true → tidy 4 (.str x) := fun x h => tidy_str h
  cases ver <;> simp only [dueDs, List.mem_cons, List.not_mem_nil, or_false] at hd
  · rcases hd with rfl | rfl
    · exact w _ (by decide +kernel)
    · exact A.shp _ (by simp)
  · rcases hd with rfl | rfl | rfl
    · exact w _ (by decide +kernel)
    · exact A.shp _ (by simp)
    · exact A.shp _ (by simp)
  · rcases hd with rfl | rfl
    · exact w _ (by decide +kernel)
    · exact A.shp _ (by simp)
  · rcases hd with rfl | rfl | rfl
    · exact w _ (by decide +kernel)
    · exact A.shp _ (by simp)
    · exact A.shp _ (by simp)
  · rcases hd with rfl | rfl
    · exact w _ (by decide +kernel)
    · exact A.shp _ (by simp)
  · subst hd
    exact w _ (by decide +kernel)
  · rcases hd with rfl | rfl
    · exact w _ (by decide +kernel)
    · exact w _ hv
  · rcases hd with rfl | rfl
    · exact w _ (by decide +kernel)
    · exact w _ hv
/-- an error that is told as it is due goes out as it must -/
theorem refused_of {H : Hp} {E : XK} {v : ArgV} {ver : Ver} (h : ∀ c fs, Told c fs (dueVs v ver) → (fs = [] → E (.ref (cl K c)) none H) ∧ (fs ≠ [] → Bad K H E c fs)) : ver ≠ .ok → Refused K H E v ver := by
  intro hne
  cases ver with
  | ok => exact absurd rfl hne
  | name => exact (h _ _ (.name _)).2 (by simp)
  | cell => exact (h _ _ (.cell _ _)).2 (by simp)
  | sides => exact (h _ _ (.sides _)).2 (by simp)
  | window => exact (h _ _ (.window _ _)).2 (by simp)
  | old => exact (h _ _ (.old _)).2 (by simp)
  | many => exact (h _ _ .many).1 rfl
  | col n => exact (h _ _ (.col _)).2 (by simp)
  | row n => exact (h _ _ (.row _)).2 (by simp)
def t_tried2 (K : PySem.W.Frag) (E : XK) : TS :=
  (tSeq (tAsg (tCall (sp__law_due K) [] E (tCons (tVar 1) (tCons (tVar 2) (tCons (tVar 5) tNil)))) (gName 6))
    (tSeq (tAsg (tLst tNil) (gName 7))
    (tSeq (fun D σ H => tb1__law_tried K E (wTrk K (fun cls d _ H => E cls d H) D [⟨.ref (cl K "RimError"), some 8, fun ae cls dd => ts1a__law_tried K E ae cls dd⟩]) D σ H)
    (tSeq (tIfS (tTest (tOp (rNeD K) (tVar 7) (tVar 6))) (tRet (tC (.bl false))) tNext)
    (tSeq (tIfS (tTest (tOp (rEqD K) (tVar 6) (tLst tNil))) (tDrop (tBM K "list" rAppend (tVar 2) (tCons (tThen (tVar 5) (kTup K)) tNil))) tNext)
    (tRet (tC (.bl true))))))))
theorem err_out (F : TellFx K) {E : XK} {D : Ends} {c : Str} {fs : List (Str × V)} {ys : List V} {o : Option Addr} {H : Hp} {s0 s1 s2 s3 s4 s5 s6 s7 s8 : Option V} (T : Told c fs ys) (hd : DOk H o fs) (ho : fs ≠ [] → o.isSome = true)
    (k : ∀ z8 t H', Same H H' → H' t = some (.lst ys) → D.nx [s0, s1, s2, s3, s4, s5, s6, some (.ref t), z8] H') :
    wTrk K (fun cls d _ H => E cls d H) D [⟨.ref (cl K "RimError"), some 8, fun ae cls dd => ts1a__law_tried K E ae cls dd⟩] (.ref (cl K c)) o [s0, s1, s2, s3, s4, s5, s6, s7, s8] H := by
  obtain ⟨hc, _⟩ := told_in T
  refine ⟨true, F.er.rim c hc, fun _ a ha => ?_, fun z => nomatch z⟩
  show ts1a__law_tried K E a (.ref (cl K c)) o _ _ _
  unfold ts1a__law_tried
  have e1 := same_new (o := exq (.ref (cl K c)) o a) ha
  refine w_asg (w_call (w_cons (w_var rfl (w_nil ?_))))
  refine ⟨a, c, o, fs, ys, rfl, ⟨upd_same, ?_⟩, ho, T, fun l H' e2 hl hl2 => ?_⟩
  · cases o with
    | none => exact hd
    | some p => exact e1 _ _ hd
  · exact w_gname (k _ l H' (e1.trans e2) hl2)
theorem pure_tried2 (F : TellFx K) (L : Loc) (P : Pic) (sz r l d : Addr) (v w : ArgV) (a b : Args) (m : Int) (H0 H : Hp) (D : Ends) (E : XK) (hw : w = (v.cut m).fit P) (hb : b = (a.cut m).fit P) (m0 : 0 ≤ m) (m3 : m ≤ 3)
    (hl : H0 l = some (.lst v.list)) (A : PicAt K H0 L P) (ok : P.Ok) (G : ArgsAt K H0 v a) (hsz : SqT K H0 sz [.int P.w, .int P.h]) (hr : RowsL K H0 r P.pts) (e0 : Same H0 H) (hd0 : H0 d = none) (hd : H d = some (.lst w.list))
    (q : ∀ L' P' H', (∀ b o, H0 b = some o → b ≠ L.d → b ≠ r → H' b = some o) → L'.p = L.p → L'.d = L.d → L'.o = L.o → P'.w = P.w → P'.h = P.h → P'.op = P.op → PicAt K H' L' P' → P'.Ok → RowsL K H' r P'.pts → D.rt (.bl true) H') :
    t_tried2 K E D [some (.ref L.p), some (.ref sz), some (.ref r), some (.ref l), some (.int m), some (.ref d), none, none, none] H := by
  have G1 : ArgsAt K H0 w b := by
    rw [hw, hb]
    exact fit_at (cut_at G)
  unfold t_tried2
  walk_at "w"
  refine ⟨sz, r, d, P, w, b, rfl, same_sqT e0 hsz, hr.same e0, ok, hd, G1.same e0, fun u H1 e1 hu hu1 => ?_⟩
  walk_at "w"
  refine ⟨by walk_at "len", fun t ht => ?_⟩
  walk_at "w"
  have e2 := same_new (o := .lst []) ht
  have eA := (e0.trans e1).trans e2
  have hd2 := (e1.trans e2) _ _ hd
  have hu2 := e2 _ _ hu1
  have ht2 : upd H1 t (.lst []) t = some (.lst []) := upd_same
  have hu0 : H0 u = none := none_back e0 hu
  have ht0 : H0 t = none := none_back (e0.trans e1) ht
  generalize upd H1 t (.lst []) = H2 at eA hd2 hu2 ht2 ⊢
  clear e1 e2 ht hu hu1 hd e0
  -- behind a refusal
  have after : ∀ z8 t' H3, verdict P b ≠ .ok → Same H2 H3 → H3 t' = some (.lst (dueVs w (verdict P b))) → (tSeq (tIfS (tTest (tOp (rNeD K) (tVar 7) (tVar 6))) (tRet (tC (.bl false))) tNext)
      (tSeq (tIfS (tTest (tOp (rEqD K) (tVar 6) (tLst tNil))) (tDrop (tBM K "list" rAppend (tVar 2) (tCons (tThen (tVar 5) (kTup K)) tNil))) tNext)
      (tRet (tC (.bl true))))) D [some (.ref L.p), some (.ref sz), some (.ref r), some (.ref l), some (.int m), some (.ref d), some (.ref u), some (.ref t'), z8] H3 := by
    intro z8 t' H3 hne e3 ht'
    have eB := eA.trans e3
    walk_at "w"
    have dd := due_dp (G1.same eB) (verdict P b)
    have td := due_tidy (G1.same eB) (verdict P b) (verdict_tidy ok)
    refine w_neD (.lst (sq_l ht') dd) (.lst (sq_l (e3 _ _ hu2)) dd) (tidy_shaped td) (tidy_shaped td) ?_
    rw [PySem.SeqAt.eqv_refl _ td.1]
    walk_at "w"
    refine ⟨by walk_at "len", fun y hy => ?_⟩
    have e4 := same_new (o := .lst []) hy
    have eC := eB.trans e4
    have dd' := due_dp (G1.same eC) (verdict P b)
    refine w_eqD (.lst (sq_l (e4 _ _ (e3 _ _ hu2))) dd') (.lst (sq_l upd_same) .nil) (tidy_shaped td) (by decide +kernel) ?_
    have ne : PyData.eqv (.list (dueDs b (verdict P b))) (.list []) = false := by
      cases h : verdict P b <;> first | exact absurd h hne | simp [dueDs, PyData.eqv, PyData.eqvAll]
    rw [ne]
    walk_at "w"
    exact q L P _ (fun b o hb _ _ => eC _ _ hb) rfl rfl rfl rfl rfl rfl (A.same eC) ok (hr.same eC)
  unfold tb1__law_tried
  walk_at "w"
  rw [hw] at after
  rw [hb] at after
  refine ⟨L, P, l, v, a, m, rfl, m0, m3, eA _ _ hl, A.same eA, ok, G.same eA, fun hne => refused_of (fun c fs T => ⟨fun hf => ?_, fun hf p hp => ?_⟩) hne, fun hok c H3 hc hbut hP => ?_⟩
  · subst hf
    exact err_out F T rfl (fun z => absurd rfl z) fun z8 t' H3 e3 ht3 => after z8 t' H3 hne e3 ht3
  · exact err_out F T (o := some p) upd_same (fun _ => rfl) fun z8 t' H3 e3 ht3 => after z8 t' H3 hne ((same_new hp).trans e3) ht3
  · rw [← hb] at hok hP
    refine ⟨rfl, ?_⟩
    have keep : ∀ b o, H2 b = some o → b ≠ L.d → H3 b = some o := hbut
    have nd : ∀ {z : Addr} {xs : List V}, H2 z = some (.lst xs) → z ≠ L.d := fun h y => by
      rw [y, (eA _ _ A.dots)] at h
      cases h
    have hu3 := keep _ _ hu2 (nd hu2)
    have ht3 := keep _ _ ht2 (nd ht2)
    have hd3 := keep _ _ hd2 (nd hd2)
    rw [decide_eq_true rfl]
    walk_at "w"
    rw [hok] at hu3
    refine w_neD (.lst (sq_l ht3) .nil) (.lst (sq_l hu3) .nil) (by decide +kernel) (by decide +kernel) ?_
    rw [show PyData.eqv (.list []) (.list []) = true from by simp [PyData.eqv, PyData.eqvAll]]
    walk_at "w"
    refine ⟨by walk_at "len", fun y hy => ?_⟩
    have e4 := same_new (o := .lst []) hy
    refine w_eqD (.lst (sq_l (e4 _ _ hu3)) .nil) (.lst (sq_l upd_same) .nil) (by decide +kernel) (by decide +kernel) ?_
    rw [show PyData.eqv (.list []) (.list []) = true from by simp [PyData.eqv, PyData.eqvAll]]
    walk_at "w"
    obtain ⟨rvs, hrl, hrows⟩ := hr
    have nr : r ≠ L.d := fun z => by
      rw [z, A.dots] at hrl
      cases hrl
    have hrl3 := keep _ _ (eA _ _ hrl) nr
    have hrl4 := e4 _ _ hrl3
    have hd4 := e4 _ _ hd3
    refine ⟨_, rfl, .inl ⟨rfl, _, sq_l hrl4⟩, ?_⟩
    refine w_cons ⟨_, rfl, .inl ⟨d, _, rfl, sq_l hd4, fun g hg => ?_⟩⟩
    have e5 := same_new (o := .tup w.list) hg
    have hlen := Paired.length hrows
    refine w_nil ⟨r, rvs, .ref g, rfl, rfl, e5 _ _ hrl4, by rw [sizeLine_eq, ← hlen]; have := ok.few; omega, ?_⟩
    walk_at "w"
    have hP5 := (hP.same e4).same e5
    obtain ⟨nm, sd, x, y', lo, hi, hb1, hw1, _⟩ := verdict_ok G1 hok
    have ept : ptRow b.pt = w.list := by
      rw [hb1, hw1]
      rfl
    have nrp : ∀ {z : Addr} {o : HO}, upd (upd H3 y (.lst [])) g (.tup w.list) z = some o → (∀ xs, o ≠ .lst xs) → z ≠ r := fun h hn z => by
      rw [z, e5 _ _ hrl4] at h
      cases h
      exact hn _ rfl
    refine q { L with as := L.as ++ [c] } { P with pts := P.pts ++ [b.pt] } _ (fun b o hb h1 h2 => ?_) rfl rfl rfl rfl rfl rfl ⟨?_, ?_, ?_, ?_⟩ (ok_put ok G1 hok) ⟨_, upd_same, ?_⟩
    · rw [upd_ne h2]
      exact e5 _ _ (e4 _ _ (keep _ _ (eA _ _ hb) h1))
    · rw [upd_ne (nrp hP5.ob (fun _ z => nomatch z))]
      exact hP5.ob
    · rw [upd_ne (nrp hP5.dots (fun _ z => nomatch z))]
      exact hP5.dots
    · rw [upd_ne (nrp hP5.opened (fun _ z => nomatch z))]
      exact hP5.opened
    · exact paired_mono hP5.pts fun p a h => by
        rw [upd_ne (nrp h (fun _ z => nomatch z))]
        exact h
    · refine paired_snoc (paired_mono hrows fun p u h => ?_) ⟨g, rfl, ?_⟩
      · obtain ⟨t1, h3, h4⟩ := h
        have h5 := e5 _ _ (e4 _ _ (keep _ _ (eA _ _ h4) (fun z => by rw [z, A.dots] at h4; cases h4)))
        exact ⟨t1, h3, by rw [upd_ne (nrp h5 (fun _ z => nomatch z))]; exact h5⟩
      · rw [ept, upd_ne (nrp (z := g) upd_same (fun _ z => nomatch z)), upd_same]
theorem pure__law_tried (F : TellFx K) (vs : List V) (H : Hp) (Q : VK) (E : XK) (h : sp__law_tried K vs H Q E) : t__law_tried K E { nx := fun _ H' => Q .non H', rt := Q } (L2.start N__law_tried vs) H := by
  obtain ⟨L, P, sz, r, l, v, a, m, rfl, m0, m3, hl, A, ok, G, hsz, hr, q⟩ := h
  unfold t__law_tried
  walk_at "w"
  refine ⟨l, _, rfl, .inl (sq_l hl), fun d hd => ?_⟩
  have hdl : d ≠ l := fun z => by
    rw [z, hl] at hd
    cases hd
  have key : ∀ (w : ArgV), w = (v.cut m).fit P → ∀ H', Same H H' → H' d = some (.lst w.list) → t_tried2 K E { nx := fun _ H' => Q .non H', rt := Q } [some (.ref L.p), some (.ref sz), some (.ref r), some (.ref l), some (.int m), some (.ref d), none, none, none] H' :=
    fun w hw H' e hd' => pure_tried2 F L P sz r l d v w a _ m H H' _ E hw rfl m0 m3 hl A ok G hsz hr e hd hd' q
  have sS : ∀ {xs : List V}, Same H (upd (upd H d (.lst v.list)) d (.lst xs)) := by
    intro xs
    rw [upd_upd]
    exact same_new hd
  have put3 : ∀ {H' : Hp} {x : V} {i : Int} {j : Nat} {xs : List V} {Q : Hp → Prop}, H' d = some (.lst xs) → ixN xs.length i = some j → Q (upd H' d (.lst (xs.set j x))) → rSetL (.ref d) (.int i) x H' Q := fun h1 h2 h3 => ⟨d, _, _, _, rfl, rfl, h1, h2, h3⟩
  have hs1 : ∀ {xs : List V} {R : VK}, R (.int P.h) (upd H d (.lst xs)) → rIxT K (.ref sz) (.int 1) (upd H d (.lst xs)) R := fun r => w_ixT (same_sqT (same_new hd) hsz) rfl r
  have cs : m = 0 ∨ m = 1 ∨ m = 2 ∨ m = 3 := by omega
  rcases cs with rfl | rfl | rfl | rfl
  · walk_at "w"
    rw [decide_eq_false (by decide)]
    walk_at "w"
    rw [decide_eq_false (by decide)]
    walk_at "w"
    rw [decide_eq_false (by decide)]
    walk_at "w"
    refine w_ixL (sq_l ((same_new hd) _ _ hl)) rfl ?_
    walk_at "w"
    refine w_isN ?_
    walk_at "w"
    walk_at "if" <;> intro hv
    · walk_at "w"
      refine hs1 ?_
      refine ⟨_, rfl, ?_⟩
      refine put3 upd_same rfl ?_
      rw [upd_upd]
      refine key _ rfl _ (same_new hd) ?_
      rw [upd_same]
      have e : (v.cut 0).fit P = { v with high := .int P.h } := by
        unfold ArgV.fit
        rw [show (v.cut 0).high = .non from hv]
        rfl
      rw [e]
      rfl
    · refine w_next (key _ rfl _ (same_new hd) ?_)
      rw [upd_same]
      have e : (v.cut 0).fit P = v := by
        unfold ArgV.fit
        rw [show v.cut 0 = v from rfl]
        split
        · exact absurd ‹_› hv
        · rfl
      rw [e]
  · walk_at "w"
    rw [decide_eq_false (by decide)]
    walk_at "w"
    rw [decide_eq_false (by decide)]
    walk_at "w"
    rw [decide_eq_true (by decide)]
    walk_at "w"
    refine hs1 ?_
    refine ⟨_, rfl, ?_⟩
    refine put3 upd_same rfl ?_
    rw [upd_upd]
    refine key _ rfl _ (same_new hd) ?_
    rw [upd_same]
    rfl
  · walk_at "w"
    rw [decide_eq_false (by decide)]
    walk_at "w"
    rw [decide_eq_true (by decide)]
    walk_at "w"
    refine ⟨_, rfl, ?_⟩
    refine put3 upd_same rfl ?_
    rw [upd_upd]
    walk_at "w"
    rw [decide_eq_true (by decide)]
    walk_at "w"
    refine hs1 ?_
    refine ⟨_, rfl, ?_⟩
    refine put3 upd_same rfl ?_
    rw [upd_upd]
    refine key _ rfl _ (same_new hd) ?_
    rw [upd_same]
    rfl
  · walk_at "w"
    rw [decide_eq_true (by decide)]
    walk_at "w"
    refine ⟨_, rfl, ?_⟩
    refine put3 upd_same rfl ?_
    rw [upd_upd]
    walk_at "w"
    rw [decide_eq_true (by decide)]
    walk_at "w"
    refine ⟨_, rfl, ?_⟩
    refine put3 upd_same rfl ?_
    rw [upd_upd]
    walk_at "w"
    rw [decide_eq_true (by decide)]
    walk_at "w"
    refine hs1 ?_
    refine ⟨_, rfl, ?_⟩
    refine put3 upd_same rfl ?_
    rw [upd_upd]
    refine key _ rfl _ (same_new hd) ?_
    rw [upd_same]
    rfl
end
end Rim
set_option Elab.async false
set_option linter.all false
set_option maxRecDepth 100000
set_option maxHeartbeats 4000000
namespace Rim
open PySem PySem.Spec PyProof.Rows L2
local macro_rules | `(tactic| walk_at "w1") => `(tactic| (with_reducible first
  | refine w_var rfl ?_ | refine w_c ?_ | refine w_seq ?_ | refine w_asg ?_ | refine w_gname ?_ | refine w_op ?_ | refine w_rI0 ?_ | refine w_cons ?_ | refine w_nil ?_ | refine w_test ?_ | refine w_bl ?_ | refine w_if ?_ | refine w_next ?_ | refine w_ret ?_ | refine w_b ?_
  | refine w_call ?_ | refine w_cb ?_ | refine w_not ?_ | refine w_and ?_ | refine w_or ?_ | refine w_andV ?_ | refine w_orV ?_ | refine w_notV ?_ | refine w_tif ?_ | refine w_tup ?_ | refine w_lst ?_ | refine w_drop ?_ | refine w_retN ?_ | refine w_un ?_ | refine w_neg ?_
  | refine w_callS ?_ | refine w_make ?_ | refine w_for ?_ | refine w_lc ?_ | refine w_rng1 ?_ | refine w_rng2 ?_ | refine w_il ?_ | refine w_it ?_ | refine w_iT ?_ | refine w_iF ?_ | refine w_iNT ?_ | refine w_iNF ?_ | refine w_eq rfl ?_ | refine w_ne rfl ?_ | refine w_min2 ?_ | refine w_max2 ?_ | refine w_abs ?_))
local macro_rules | `(tactic| walk_at "w") => `(tactic| ((try dsimp only [Bool.not_true, Bool.not_false]); repeat (walk_at "w1")))
local macro_rules | `(tactic| walk_at "if") => `(tactic| (first | (apply w_ited) | (apply w_iten) | (apply w_ite)))
local macro_rules | `(tactic| walk_at "len") => `(tactic| (first | (rw [sizeLine_eq]; exact Nat.le_of_ble_eq_true rfl) | (show _ ≤ sizeLine; rw [sizeLine_eq]; exact Nat.le_of_ble_eq_true rfl)))
def sp__law_right (K : PySem.W.Frag) : Sp := fun vs H Q _ => ∃ (L : Loc) (P : Pic) (sz r : Addr), vs = [.ref L.p, .ref sz, .ref r] ∧ PicAt K H L P ∧ P.Ok ∧ P.op = [] ∧ SqT K H sz [.int P.w, .int P.h] ∧ RowsL K H r P.pts ∧ ∀ H', Same H H' → Q (.bl true) H'
def sp__law_no_size (K : PySem.W.Frag) : Sp := fun vs H Q _ => ∃ (n : Int), vs = [.int n] ∧ 0 ≤ n ∧ ∀ H', Same H H' → Q (.bl true) H'
def sp__law_eleven (K : PySem.W.Frag) : Sp := fun vs H Q _ => ∃ (L : Loc) (P : Pic) (c : Int), vs = [.ref L.p, .int c] ∧ PicAt K H L P ∧ P.Ok ∧ P.pts = [] ∧ 12 ≤ P.w ∧ 12 ≤ P.h ∧
  ∀ r L' P' H', But L.d H H' → H r = none → L'.p = L.p → L'.d = L.d → L'.o = L.o → P'.w = P.w → P'.h = P.h → P'.op = P.op → PicAt K H' L' P' → P'.Ok → RowsL K H' r P'.pts → Q (.ref r) H'
def t__law_right (K : PySem.W.Frag) (E : XK) : TS :=
  (tSeq (tAsg (tMeth (cl K "Picture") "points" (sp_Picture_points K) [] E (tVar 0) tNil) (gName 3))
    (tSeq (tIfS (tOr (tNot (tB (tCB (rIsi K) (tCons (tVar 3) (tCons (tC (.ty "list")) tNil))))) (tOr (tTest (tOp (rNeD K) (tVar 3) (tVar 2))) (tTest (tOp (rNeD K) (tMeth (cl K "Picture") "seats" (sp_Picture_seats K) [] E (tVar 0) tNil) (tLst tNil))))) (tRet (tC (.bl false))) tNext)
    (tSeq (tFor (iList K (tVar 3)) (gName 4)
    (tIfS (tOr (tNot (tB (tCB (rIsi K) (tCons (tVar 4) (tCons (tC (.ty "tuple")) tNil))))) (tTest (tOp rGtI (tCB (rLenSeq K) (tCons (tLc (iTup K (tVar 4)) (gName 5) (tB (tCB (rIsi K) (tCons (tVar 5) (tCons (tC (.ty "bool")) tNil)))) (tVar 5) [5]) tNil)) (tC (.int 0))))) (tRet (tC (.bl false))) tNext))
    (tSeq (tDrop (tBM K "list" rAppend (tVar 3) (tCons (tC (.int 0)) tNil)))
    (tRet (tAndV (tOp (rEqD K) (tTup (tCons (tFld K (tVar 0) "width") (tCons (tFld K (tVar 0) "height") tNil))) (tVar 1)) (tOp (rEqD K) (tMeth (cl K "Picture") "points" (sp_Picture_points K) [] E (tVar 0) tNil) (tVar 2))))))))
abbrev N__law_right : List Str := ["_law_picture", "_law_size", "_law_rows", "_law_found", "_law_row", "_law_one"]
def tb1__law_no_size (K : PySem.W.Frag) (E : XK) (W : WX) : TS :=
  (tDrop (tMakeS (cl K "Picture") (sp_Picture___init__ K) [] (WE W) (tCons (tOp (rIxL K) (tVar 1) (tC (.int 0))) (tCons (tOp (rIxL K) (tVar 1) (tC (.int 1))) tNil))))
def ts1a__law_no_size (K : PySem.W.Frag) (E : XK) (ae : Addr) (cls : Value) (dd : Option Addr) : TS :=
  (tAsg (tVar 4) (gName 3))
def t__law_no_size (K : PySem.W.Frag) (E : XK) : TS :=
  (tSeq (tAsg (tLst (tCons (tOp rAddI (tC (.int 1)) (tOp rModI (tVar 0) (tC (.int 30)))) (tCons (tOp rAddI (tC (.int 1)) (tOp rModI (tOp rDivI (tVar 0) (tC (.int 30))) (tC (.int 16)))) tNil))) (gName 1))
    (tSeq (tAsg (tOp rModI (tOp rDivI (tVar 0) (tC (.int 480))) (tC (.int 2))) (gName 2))
    (tSeq (tAsg (tCall (sp__law_odd K) [] E (tCons (tOp rDivI (tVar 0) (tC (.int 960))) (tCons (tOp (rIxL K) (tLst (tCons (tC (.int 30)) (tCons (tC (.int 16)) tNil))) (tVar 2)) tNil))) (gSub (tVar 1) (tVar 2) rSetL))
    (tSeq (tAsg (tC .non) (gName 3))
    (tSeq (fun D σ H => tb1__law_no_size K E (wTrk K (fun cls d _ H => E cls d H) D [⟨.ref (cl K "RimError"), some 4, fun ae cls dd => ts1a__law_no_size K E ae cls dd⟩]) D σ H)
    (tSeq (tIfS (tOr (tNot (tB (tCB (rIsA K) (tCons (tVar 3) (tCons (tC (.ref (cl K "NoSize"))) tNil))))) (tNot (tB (tCB (rIsA K) (tCons (tVar 3) (tCons (tC (.ty "ValueError")) tNil)))))) (tRet (tC (.bl false))) tNext)
    (tRet (tNotV (tCB (rIsAT K) (tCons (tVar 3) (tCons (tTup (tCons (tC (.ref (cl K "NoCell"))) (tCons (tC (.ref (cl K "NoRow"))) (tCons (tC (.ref (cl K "NoName"))) (tCons (tC (.ref (cl K "NoSide"))) (tCons (tC (.ref (cl K "TooMany"))) (tCons (tC (.ref (cl K "NoWindow"))) tNil))))))) tNil)))))))))))
abbrev N__law_no_size : List Str := ["_law_number", "_law_size", "_law_at", "_law_error", "_law_e"]
def t__law_eleven (K : PySem.W.Frag) (E : XK) : TS :=
  (tSeq (tAsg (tLst tNil) (gName 2))
    (tSeq (tAsg (tCall (sp__law_mixed K) [] E (tCons (tVar 1) (tCons (tC (.int 20)) tNil))) (gName 3))
    (tSeq (tFor (iRng1 (tCons (tC (.int 11)) tNil)) (gName 4)
    (tSeq (tAsg (tTup (tCons (tOp rIxS (tC (.str ("abcdefghijklmnopqrstuvwxyz" : Str))) (tOp rModI (tOp rAddI (tVar 3) (tOp rMulI (tC (.int 3)) (tVar 4))) (tC (.int 26)))) (tCons (tOp rAddI (tC (.int 1)) (tVar 4)) (tCons (tOp rAddI (tC (.int 1)) (tOp rModI (tOp rAddI (tVar 3) (tOp rMulI (tC (.int 5)) (tVar 4))) (tC (.int 12)))) (tCons (tC (.str ("both" : Str))) (tCons (tC (.int 1)) tNil)))))) (gName 5))
    (tSeq (tAsg (tOp (rCatT K) (tVar 5) (tTup (tCons (tFld K (tVar 0) "height") tNil))) (gName 5))
    (tSeq (tDrop (tMeth (cl K "Picture") "put" (sp_Picture_put K) [.str ("both" : Str), .int 1, .non] E (tVar 0) (tCons (tOp (rIxT K) (tVar 5) (tC (.int 0))) (tCons (tOp (rIxT K) (tVar 5) (tC (.int 1))) (tCons (tOp (rIxT K) (tVar 5) (tC (.int 2))) tNil)))))
    (tDrop (tBM K "list" rAppend (tVar 2) (tCons (tVar 5) tNil)))))))
    (tRet (tVar 2)))))
abbrev N__law_eleven : List Str := ["_law_picture", "_law_cell_here", "_law_rows", "_law_first", "_law_k", "_law_row"]
section
variable {K : PySem.W.Frag}
def rowD (p : Pt) : PyData := .tuple [.str p.name, .int p.x, .int p.y, .str p.sides, .int p.low, .int p.high]
theorem row_dp {H : Hp} {p : Pt} : DpAll K H (ptRow p) [.str p.name, .int p.x, .int p.y, .str p.sides, .int p.low, .int p.high] :=
  .cons (.str _) (.cons (.int _) (.cons (.int _) (.cons (.str _) (.cons (.int _) (.cons (.int _) .nil)))))
theorem rows_dp {H : Hp} {ps : List Pt} {vs : List V} (h : rowsAt H ps vs) : DpAll K H vs (ps.map rowD) := by
  unfold rowsAt at h
  induction h with
  | nil => exact .nil
  | cons h r ih =>
    obtain ⟨t, rfl, ht⟩ := h
    exact .cons (.tup (sq_t ht) row_dp) ih
theorem sides_ok {s : Str} (h : s = "left" ∨ s = "right" ∨ s = "both") : PyData.strOk s = true := by
  rcases h with rfl | rfl | rfl <;> decide +kernel
theorem rowD_tidy {P : Pic} (ok : P.Ok) : ∀ p ∈ P.pts, tidy 1 (rowD p) := fun p hp => tidy_tuple (n := 0) fun d hd => by
  simp only [List.mem_cons, List.not_mem_nil, or_false] at hd
  rcases hd with rfl | rfl | rfl | rfl | rfl | rfl
  · exact tidy_str (nameS_ok (ok.letters p hp))
  · exact tidy_int _
  · exact tidy_int _
  · exact tidy_str (sides_ok (ok.sides p hp))
  · exact tidy_int _
  · exact tidy_int _
theorem rows_tidy {P : Pic} (ok : P.Ok) : tidy 2 (.list (P.pts.map rowD)) := tidy_list (n := 1) fun d hd => by
  obtain ⟨p, hp, rfl⟩ := List.mem_map.mp hd
  exact rowD_tidy ok p hp
theorem pure__law_right (S : PicFx K) (vs : List V) (H : Hp) (Q : VK) (E : XK) (h : sp__law_right K vs H Q E) : t__law_right K E { nx := fun _ H' => Q .non H', rt := Q } (L2.start N__law_right vs) H := by
  obtain ⟨L, P, sz, r, rfl, A, ok, hop, hsz, hr, q⟩ := h
  unfold t__law_right
  have td := rows_tidy ok
  walk_at "w"
  refine ⟨_, rfl, L.p, _, _, rfl, A.ob, rfl, ?_⟩
  refine w_nil ⟨L, P, rfl, A, by have := ok.few; omega, fun l xs H1 e1 hl hl1 hx => ?_⟩
  walk_at "w"
  have dpx : DpAll K H1 xs (P.pts.map rowD) := rows_dp hx
  refine w_isL (.lst hl1 dpx) ?_
  rw [show ∀ ds, isLB (.list ds) = true from fun _ => rfl]
  walk_at "w"
  obtain ⟨rvs, hrl, hrows⟩ := hr.same e1
  refine w_neD (.lst (sq_l hl1) dpx) (.lst (sq_l hrl) (rows_dp hrows)) (tidy_shaped td) (tidy_shaped td) ?_
  rw [PySem.SeqAt.eqv_refl _ td.1]
  walk_at "w"
  refine ⟨_, rfl, L.p, _, _, rfl, (A.same e1).ob, rfl, ?_⟩
  refine w_nil ⟨L, P, rfl, A.same e1, by rw [hop]; exact Nat.zero_le _, fun z bs hz hk => ?_⟩
  rw [hop] at hk
  have hbs : bs = [] := by
    have : sortKs ([].map seatK) = [] := by
      unfold sortKs
      simp
    rw [this] at hk
    cases hk
    rfl
  subst hbs
  walk_at "w"
  refine ⟨by walk_at "len", fun y hy => ?_⟩
  have e2 := same_new (o := .lst (([] : List Addr).map V.ref)) hz
  have e3 := same_new (o := .lst []) hy
  refine w_neD (.lst (sq_l (e3 _ _ upd_same)) .nil) (.lst (sq_l upd_same) .nil) (by decide +kernel) (by decide +kernel) ?_
  rw [show PyData.eqv (.list []) (.list []) = true from by simp [PyData.eqv, PyData.eqvAll]]
  walk_at "w"
  have e23 := e2.trans e3
  have hl2 := e23 _ _ hl1
  have hx2 : rowsAt (upd (upd H1 z (.lst (([] : List Addr).map V.ref))) y (.lst [])) P.pts xs := paired_mono hx fun p v h => by
    obtain ⟨t, h3, h4⟩ := h
    exact ⟨t, h3, e23 _ _ h4⟩
  have eA := e1.trans e23
  generalize upd (upd H1 z (.lst (([] : List Addr).map V.ref))) y (.lst []) = H2 at eA hl2 hx2 ⊢
  clear e23 e2 e3 hy hz hx dpx hl1 hrl hrows e1
  have hxl := Paired.length hx2
  refine ⟨l, rfl, ⟨_, sq_l hl2⟩, ?_⟩
  refine for_wk (wk_list l xs) (fun i σ H' => (∃ z4 z5, σ = [some (.ref L.p), some (.ref sz), some (.ref r), some (.ref l), z4, z5]) ∧ Same H2 H') ⟨⟨_, _, rfl⟩, fun _ _ e => e⟩ (fun i σ H' _ h => sq_l (h.2 _ _ hl2)) ?_ ?_
  · rintro i v σ H' hv ⟨⟨z4, z5, rfl⟩, e4⟩
    obtain ⟨p, t, hp, rfl, ht⟩ := rows_at hx2 hv
    have ht4 := e4 _ _ ht
    walk_at "w"
    refine w_isTp (.tup ht4 row_dp) ?_
    rw [show ∀ ds, isTB (.tuple ds) = true from fun _ => rfl]
    walk_at "w"
    refine ⟨t, rfl, ⟨_, sq_t ht4⟩, fun D hD => ?_⟩
    refine lc_wk (wk_tup t (ptRow p)) hD (sq_t ht4) (fun H1 H2 e h => same_sqT e h) (by show 6 ≤ _; omega) (fun i x => (wipe _ [5]).set 5 (some x)) (fun _ => false) (fun _ _ _ => True) (fun _ _ _ _ _ e => e) (fun i x => wipe_set1) (fun i x H' R _ _ h => h)
      (fun i x H3 R hx e5 k => ?_) (fun i x H' R _ hf => absurd hf Bool.false_ne_true) (fun acc H3 e5 hG hDa => ?_)
    · have hxx : ∃ d, Thg K H3 x d ∧ isBB d = false := by
        match i, hx with
        | 0, hx => cases hx; exact ⟨_, .str _, rfl⟩
        | 1, hx => cases hx; exact ⟨_, .int _, rfl⟩
        | 2, hx => cases hx; exact ⟨_, .int _, rfl⟩
        | 3, hx => cases hx; exact ⟨_, .str _, rfl⟩
        | 4, hx => cases hx; exact ⟨_, .int _, rfl⟩
        | 5, hx => cases hx; exact ⟨_, .int _, rfl⟩
        | j + 6, hx => cases hx
      obtain ⟨d, g, gb⟩ := hxx
      walk_at "w"
      refine w_isB g ?_
      rw [gb]
      walk_at "w"
      exact k H3 (fun _ _ e => e)
    · have ha : acc = [] := by
        have := hG.1
        rw [List.filter_eq_nil_iff.mpr (fun _ _ => Bool.false_ne_true)] at this
        exact List.length_eq_zero_iff.mp this
      subst ha
      walk_at "w"
      refine w_lenL (sq_l hDa) ?_
      walk_at "w"
      rw [decide_eq_false (by simp)]
      walk_at "w"
      exact ⟨⟨_, _, rfl⟩, e4.trans e5⟩
  · rintro σ H' ⟨⟨z4, z5, rfl⟩, e4⟩
    have hl4 := e4 _ _ hl2
    walk_at "w"
    refine ⟨_, rfl, .inl ⟨rfl, _, sq_l hl4⟩, ?_⟩
    walk_at "w"
    refine ⟨l, xs, _, rfl, rfl, hl4, by rw [sizeLine_eq, ← hxl]; have := ok.few; omega, ?_⟩
    have e5 : Same H (upd H' l (.lst (xs ++ [V.int 0]))) := same_mut (eA.trans e4) hl
    generalize upd H' l (.lst (xs ++ [V.int 0])) = H3 at e5 ⊢
    walk_at "w"
    refine ⟨_, rfl, L.p, _, _, _, _, rfl, (A.same e5).ob, S.cP.c, S.nP _ (by decide), rfl, ?_⟩
    walk_at "w"
    refine ⟨_, rfl, L.p, _, _, _, _, rfl, (A.same e5).ob, S.cP.c, S.nP _ (by decide), rfl, ?_⟩
    walk_at "w"
    refine ⟨by walk_at "len", fun t ht => ?_⟩
    have e6 := same_new (o := .tup [.int P.w, .int P.h]) ht
    have hz2 := same_sqT (e5.trans e6) hsz
    have tz : tidy 1 (.tuple [.int P.w, .int P.h]) := tidy_tuple (n := 0) fun d hd => by
      simp only [List.mem_cons, List.not_mem_nil, or_false] at hd
      rcases hd with rfl | rfl <;> exact tidy_int _
    walk_at "w"
    refine w_eqD (.tup (sq_t upd_same) (.cons (.int _) (.cons (.int _) .nil))) (.tup hz2 (.cons (.int _) (.cons (.int _) .nil))) (tidy_shaped tz) (tidy_shaped tz) ?_
    rw [PySem.SeqAt.eqv_refl _ tz.1]
    walk_at "w"
    have A6 := A.same (e5.trans e6)
    refine ⟨_, rfl, L.p, _, _, rfl, A6.ob, rfl, ?_⟩
    refine w_nil ⟨L, P, rfl, A6, by have := ok.few; omega, fun l2 xs2 H4 e7 hl2 hl3 hx3 => ?_⟩
    walk_at "w"
    obtain ⟨rvs, hrl, hrows⟩ := hr.same ((e5.trans e6).trans e7)
    refine w_eqD (.lst (sq_l hl3) (rows_dp hx3)) (.lst (sq_l hrl) (rows_dp hrows)) (tidy_shaped td) (tidy_shaped td) ?_
    rw [PySem.SeqAt.eqv_refl _ td.1]
    exact q _ ((e5.trans e6).trans e7)
theorem pure__law_no_size (S : PicFx K) (F : TellFx K) (vs : List V) (H : Hp) (Q : VK) (E : XK) (h : sp__law_no_size K vs H Q E) : t__law_no_size K E { nx := fun _ H' => Q .non H', rt := Q } (L2.start N__law_no_size vs) H := by
  obtain ⟨n, rfl, n0, q⟩ := h
  unfold t__law_no_size
  walk_at "w"
  refine w_rI (by decide) ?_
  walk_at "w"
  refine w_rI ⟨by decide, by decide⟩ ?_
  walk_at "w"
  refine w_rI (by decide) ?_
  walk_at "w"
  refine ⟨by walk_at "len", fun l hl => ?_⟩
  walk_at "w"
  refine w_rI ⟨by decide, by decide⟩ ?_
  walk_at "w"
  refine w_rI (by decide) ?_
  walk_at "w"
  refine w_rI ⟨by decide, by decide⟩ ?_
  walk_at "w"
  have hat : n / 480 % 2 = 0 ∨ n / 480 % 2 = 1 := by omega
  have hod : 0 ≤ n / 960 := by omega
  have hw : 1 ≤ 1 + n % 30 ∧ 1 + n % 30 ≤ 30 := by omega
  have hh : 1 ≤ 1 + n / 30 % 16 ∧ 1 + n / 30 % 16 ≤ 16 := by omega
  generalize n / 480 % 2 = at_ at hat ⊢
  generalize n / 960 = od at hod ⊢
  generalize 1 + n % 30 = w at hw ⊢
  generalize 1 + n / 30 % 16 = h at hh ⊢
  refine ⟨by walk_at "len", fun p hp => ?_⟩
  walk_at "w"
  have e1 := same_new (o := .lst [.int w, .int h]) hl
  have e2 := same_new (o := .lst [.int 30, .int 16]) hp
  have hl2 := e2 _ _ upd_same
  have e12 := e1.trans e2
  have sz : ∃ z : Int, atI [V.int 30, V.int 16] at_ = some (.int z) ∧ 1 ≤ z ∧ ((at_ = 0 ∧ z = 30) ∨ (at_ = 1 ∧ z = 16)) := by
    rcases hat with rfl | rfl
    · exact ⟨30, rfl, by decide, .inl ⟨rfl, rfl⟩⟩
    · exact ⟨16, rfl, by decide, .inr ⟨rfl, rfl⟩⟩
  obtain ⟨z, ez, z1, hz⟩ := sz
  refine w_ixL (sq_l upd_same) ez ?_
  walk_at "w"
  refine ⟨od, z, rfl, hod, z1, fun v d H2 e3 t1 g hb sh => ?_⟩
  have hl3 := e3 _ _ hl2
  have e13 := e12.trans e3
  have e14 : ∀ {xs : List V}, Same H (upd H2 l (.lst xs)) := fun {xs} => same_mut e13 hl
  have gv : ∀ {xs : List V}, Thg K (upd H2 l (.lst xs)) v d := (t1 l (by rw [hl2]; exact fun z => nomatch z)).same (fun b o hb => by
    by_cases hbl : b = l
    · rw [hbl, del_same] at hb
      cases hb
    · rw [del_ne hbl] at hb
      rw [upd_ne hbl]
      exact hb)
  have go : ∀ (a b : V) (da db : PyData), Thg K (upd H2 l (.lst [a, b])) a da → Thg K (upd H2 l (.lst [a, b])) b db → sizeB da db = false → tSeq (tAsg (tC .non) (gName 3))
      (tSeq (fun D σ H => tb1__law_no_size K E (wTrk K (fun cls d _ H => E cls d H) D [⟨.ref (cl K "RimError"), some 4, fun ae cls dd => ts1a__law_no_size K E ae cls dd⟩]) D σ H)
      (tSeq (tIfS (tOr (tNot (tB (tCB (rIsA K) (tCons (tVar 3) (tCons (tC (.ref (cl K "NoSize"))) tNil))))) (tNot (tB (tCB (rIsA K) (tCons (tVar 3) (tCons (tC (.ty "ValueError")) tNil)))))) (tRet (tC (.bl false))) tNext)
      (tRet (tNotV (tCB (rIsAT K) (tCons (tVar 3) (tCons (tTup (tCons (tC (.ref (cl K "NoCell"))) (tCons (tC (.ref (cl K "NoRow"))) (tCons (tC (.ref (cl K "NoName"))) (tCons (tC (.ref (cl K "NoSide"))) (tCons (tC (.ref (cl K "TooMany"))) (tCons (tC (.ref (cl K "NoWindow"))) tNil))))))) tNil)))))))
      { nx := fun _ H' => Q .non H', rt := Q } [some (.int n), some (.ref l), some (.int at_), none, none] (upd H2 l (.lst [a, b])) := by
    intro a b da db ga gb hbad
    have hl5 : upd H2 l (.lst [a, b]) l = some (.lst [a, b]) := upd_same
    have e5 := e14 (xs := [a, b])
    generalize upd H2 l (.lst [a, b]) = H5 at ga gb hl5 e5 ⊢
    walk_at "w"
    unfold tb1__law_no_size
    refine w_drop (w_makeS ?_)
    walk_at "w"
    refine w_ixL (sq_l hl5) rfl ?_
    walk_at "w"
    refine w_ixL (sq_l hl5) rfl ?_
    walk_at "w"
    intro x dx nx nd ne
    have e6 := same_made (C := cl K "Picture") (fs := []) nx nd
    refine ⟨x, dx, a, b, da, db, rfl, upd_same, ga.same e6, gb.same e6, fun _ => ?_, fun i j _ _ hg => absurd (hbad.symm.trans hg) (by simp)⟩
    have e7 := e5.trans e6
    generalize upd (upd H5 dx (.own x)) x (.ins (cl K "Picture") dx []) = H7 at e7 ⊢
    refine ⟨true, F.er.rim "NoSize" (by decide), fun _ ae hae => ?_, fun z => nomatch z⟩
    show ts1a__law_no_size K E ae (.ref (cl K "NoSize")) none _ _ _
    unfold ts1a__law_no_size
    have e8 := same_new (o := exq (.ref (cl K "NoSize")) none ae) hae
    have A : ErrAt (upd H7 ae (exq (.ref (cl K "NoSize")) none ae)) ae (cl K "NoSize") none [] := ⟨upd_same, rfl⟩
    have e9 := e7.trans e8
    generalize upd H7 ae (exq (.ref (cl K "NoSize")) none ae) = H9 at A e9 ⊢
    refine w_asg (w_var rfl (w_gname ?_))
    dsimp only [slotIn]
    refine w_seq (σ := [some (.int n), some (.ref l), some (.int at_), some (.ref ae), none]) (w_if ?_)
    walk_at "w"
    refine w_isE F.er A (by decide) (by decide) ?_
    rw [decide_eq_true rfl]
    walk_at "w"
    refine w_isEV F.er A (by decide) ?_
    walk_at "w"
    refine ⟨by walk_at "len", fun tp htp => ?_⟩
    have e10 := same_new (o := .tup [.ref (cl K "NoCell"), .ref (cl K "NoRow"), .ref (cl K "NoName"), .ref (cl K "NoSide"), .ref (cl K "TooMany"), .ref (cl K "NoWindow")]) htp
    walk_at "w"
    refine w_isEN (cs := ["NoCell", "NoRow", "NoName", "NoSide", "TooMany", "NoWindow"]) F.er (A.same e10) (by decide) (by decide) upd_same ?_
    walk_at "w"
    exact q _ (e9.trans e10)
  rcases hz with ⟨rfl, rfl⟩ | ⟨rfl, rfl⟩
  · refine ⟨_, rfl, _, rfl, l, _, _, 0, rfl, rfl, hl3, rfl, ?_⟩
    refine go v (.int h) d (.int h) gv (.int _) ?_
    unfold sizeB
    rw [hb]
    rfl
  · refine ⟨_, rfl, _, rfl, l, _, _, 1, rfl, rfl, hl3, rfl, ?_⟩
    refine go (.int w) v (.int w) d (.int _) gv ?_
    unfold sizeB
    rw [hb, Bool.and_false]
theorem sidesB_of {s : Str} (h : s = "left" ∨ s = "right" ∨ s = "both") : sidesB (.str s) = true := by
  rcases h with rfl | rfl | rfl <;> simp [sidesB, PyData.eqv]
theorem verdict_good {P : Pic} {nm sd : Str} {x y lo hi : Int} (hn : nameS nm = true) (hc : 1 ≤ x ∧ x ≤ P.w ∧ 1 ≤ y ∧ y ≤ P.h) (hs : sd = "left" ∨ sd = "right" ∨ sd = "both") (hw : 1 ≤ lo ∧ lo ≤ hi ∧ hi ≤ P.h)
    (hnm : ∀ p ∈ P.pts, p.name ≠ nm) (hl : P.pts.length < 12) (hx : ∀ p ∈ P.pts, p.x ≠ x) (hy : ∀ p ∈ P.pts, p.y ≠ y) : verdict P ⟨.str nm, .int x, .int y, .str sd, .int lo, .int hi⟩ = .ok := by
  have w : ∀ {i lo hi : Int}, lo ≤ i → i ≤ hi → wholeB (.int i) lo hi = true := fun h1 h2 => by simp [wholeB, h1, h2]
  have c1 : colOf P x nm = none := List.find?_eq_none.mpr fun p hp => by simp [hx p hp]
  have c2 : rowOf P y nm = none := List.find?_eq_none.mpr fun p hp => by simp [hy p hp]
  unfold verdict
  rw [if_neg (by show ¬ nameS nm = false; rw [hn]; simp), if_neg (by rw [w hc.1 hc.2.1, w hc.2.2.1 hc.2.2.2]; simp), if_neg (by rw [sidesB_of hs]; simp),
    if_neg (by show ¬ (wholeB (.int lo) 1 P.h && wholeB (.int hi) lo P.h) = false; rw [w hw.1 (by omega), w hw.2.1 hw.2.2]; simp),
    if_neg (by show ¬ (P.pts.any fun p => decide (p.name = nm)) = true; rw [List.any_eq_true]; rintro ⟨p, hp, h⟩; exact hnm p hp (of_decide_eq_true h)), if_neg (by omega)]
  show (match colOf P x nm with
    | some p => Ver.col p.name
    | none => match rowOf P y nm with
      | some p => Ver.row p.name
      | none => Ver.ok) = Ver.ok
  rw [c1, c2]
def letterS (i : Int) : Str := ⟨#[97 + (i % 26).toNat]⟩
theorem let_nth : ∀ k : Nat, k < 26 → LET.cps.toList[k]? = some (97 + k) := by decide +kernel
theorem let_in : ∀ k : Nat, k < 26 → letC (97 + k) = true := by decide +kernel
theorem letterS_at (i : Int) : atI ("abcdefghijklmnopqrstuvwxyz" : Str).cps.toList (i % 26) = some (97 + (i % 26).toNat) := atI_at (by omega) (let_nth _ (by omega))
theorem letterS_name (i : Int) : nameS (letterS i) = true := let_in _ (by omega)
theorem letterS_inj {i j : Int} (h : letterS i = letterS j) : i % 26 = j % 26 := by
  unfold letterS at h
  injection h with h
  have := congrArg (fun a : Array Nat => a.toList) h
  simp at this
  omega
def ptE (f h : Int) (j : Int) : Pt := ⟨letterS (f + 3 * j), 1 + j, 1 + (f + 5 * j) % 12, "both", 1, h⟩
theorem pure__law_eleven (S : PicFx K) (vs : List V) (H : Hp) (Q : VK) (E : XK) (h : sp__law_eleven K vs H Q E) : t__law_eleven K E { nx := fun _ H' => Q .non H', rt := Q } (L2.start N__law_eleven vs) H := by
  obtain ⟨L, P, c, rfl, A, ok, hp0, hw, hh, q⟩ := h
  unfold t__law_eleven
  walk_at "w"
  refine ⟨by walk_at "len", fun r hr => ?_⟩
  walk_at "w"
  refine ⟨c, 20, rfl, ?_⟩
  walk_at "w"
  refine ⟨11, rfl, by decide, by decide, ?_⟩
  generalize lmixed c 20 = f
  have e0 := same_new (o := .lst []) hr
  have nrd : r ≠ L.d := fun z => by
    rw [z, A.dots] at hr
    cases hr
  refine for_wk (wk_rng _ _) (fun i σ H' => (∃ z4 z5, σ = [some (.ref L.p), some (.int c), some (.ref r), some (.int f), z4, z5]) ∧ But L.d H H' ∧ ∃ L' P', L'.p = L.p ∧ L'.d = L.d ∧ L'.o = L.o ∧ P'.w = P.w ∧ P'.h = P.h ∧ P'.op = P.op ∧ PicAt K H' L' P' ∧ P'.Ok ∧ P'.pts = (List.range i).map (fun (j : Nat) => ptE f P.h (j : Int)) ∧ RowsL K H' r P'.pts)
    ⟨⟨_, _, rfl⟩, Same.but e0, L, P, rfl, rfl, rfl, rfl, rfl, rfl, A.same e0, ok, hp0, by rw [hp0]; exact ⟨[], upd_same, .nil⟩⟩ (fun _ _ _ _ _ => trivial) ?_ ?_
  · rintro i x σ H' hx ⟨⟨z4, z5, rfl⟩, hb, L', P', lp, ld, lo, pw, ph, po, A', ok', hpts, rvs, hrl, hrows⟩
    obtain ⟨hi, rfl⟩ := rgL_get hx
    have hi11 : (i : Int) < 11 := by omega
    rw [Int.zero_add]
    walk_at "w"
    refine w_rI (.inl (by decide)) ?_
    walk_at "w"
    refine w_rI (by decide) ?_
    walk_at "w"
    refine ⟨_, _, _, rfl, rfl, by walk_at "len", letterS_at _, ?_⟩
    walk_at "w"
    refine w_rI (.inl (by decide)) ?_
    walk_at "w"
    refine w_rI (by decide) ?_
    walk_at "w"
    refine ⟨by walk_at "len", fun t ht => ?_⟩
    walk_at "w"
    have e1 := same_new (o := .tup [.str (letterS (f + 3 * (i : Int))), .int (1 + (i : Int)), .int (1 + (f + 5 * (i : Int)) % 12), .str "both", .int 1]) ht
    have A1 := A'.same e1
    refine ⟨_, rfl, L.p, _, _, _, _, rfl, by rw [← lp]; exact A1.ob, S.cP.c, S.nP _ (by decide), rfl, ?_⟩
    walk_at "w"
    refine ⟨by walk_at "len", fun t2 ht2 => ?_⟩
    have e2 := same_new (o := .tup [.int P'.h]) ht2
    refine ⟨t, t2, [.str (letterS (f + 3 * (i : Int))), .int (1 + (i : Int)), .int (1 + (f + 5 * (i : Int)) % 12), .str "both", .int 1], [.int P.h], rfl, rfl, sq_t (e2 _ _ upd_same), sq_t (by rw [← ph]; exact upd_same), by simp, by walk_at "len", fun z => absurd z (by simp), fun _ u hu => ?_⟩
    generalize hE : upd (upd (upd H' t _) t2 _) u _ = H2
    have eA : Same H' H2 := by
      rw [← hE]
      exact (e1.trans e2).trans (same_new hu)
    have hu2 : H2 u = some (.tup (ptRow (ptE f P.h (i : Int)))) := by
      rw [← hE]
      exact upd_same
    have hrl2 := eA _ _ hrl
    have hrows2 : rowsAt H2 P'.pts rvs := paired_mono hrows fun p v h => by
      obtain ⟨t', h3, h4⟩ := h
      exact ⟨t', h3, eA _ _ h4⟩
    have A2 := A'.same eA
    have hb2 := hb.trans (Same.but eA)
    clear hE
    walk_at "w"
    refine ⟨_, rfl, L.p, _, _, rfl, by rw [← lp]; exact A2.ob, rfl, ?_⟩
    walk_at "w"
    refine w_ixT (sq_t hu2) rfl ?_
    walk_at "w"
    refine w_ixT (sq_t hu2) rfl ?_
    walk_at "w"
    refine w_ixT (sq_t hu2) rfl ?_
    walk_at "w"
    have vd : verdict P' (Args.fit ⟨.str (letterS (f + 3 * (i : Int))), .int (1 + (i : Int)), .int (1 + (f + 5 * (i : Int)) % 12), .str "both", .int 1, .none⟩ P') = .ok := by
      refine verdict_good (hi := P'.h) (letterS_name _) ⟨by omega, by omega, by omega, by omega⟩ (.inr (.inr rfl)) ⟨by decide, ok'.h1, Int.le_refl _⟩ ?_ ?_ ?_ ?_
      · intro p hp z
        rw [hpts] at hp
        obtain ⟨j, hj, rfl⟩ := List.mem_map.mp hp
        have hj' := List.mem_range.mp hj
        have := letterS_inj z
        omega
      · rw [hpts, List.length_map, List.length_range]
        omega
      · intro p hp z
        rw [hpts] at hp
        obtain ⟨j, hj, rfl⟩ := List.mem_map.mp hp
        have hj' := List.mem_range.mp hj
        have z' : 1 + (j : Int) = 1 + (i : Int) := z
        omega
      · intro p hp z
        rw [hpts] at hp
        obtain ⟨j, hj, rfl⟩ := List.mem_map.mp hp
        have hj' := List.mem_range.mp hj
        have z' : 1 + (f + 5 * (j : Int)) % 12 = 1 + (f + 5 * (i : Int)) % 12 := z
        omega
    have G : ArgsAt K H2 ⟨.str (letterS (f + 3 * (i : Int))), .int (1 + (i : Int)), .int (1 + (f + 5 * (i : Int)) % 12), .str "both", .int 1, .non⟩ ⟨.str (letterS (f + 3 * (i : Int))), .int (1 + (i : Int)), .int (1 + (f + 5 * (i : Int)) % 12), .str "both", .int 1, .none⟩ := by
      refine ⟨.str _, .int _, .int _, .str _, .int _, .non, fun s z => by cases z; walk_at "len", fun d hd => ?_⟩
      simp only [List.mem_cons, List.not_mem_nil, or_false] at hd
      rcases hd with rfl | rfl | rfl | rfl | rfl | rfl
      · exact tidy_str (nameS_ok (letterS_name _))
      · exact tidy_int _
      · exact tidy_int _
      · exact tidy_str (by decide +kernel)
      · exact tidy_int _
      · exact tidy_non
    refine ⟨L', P', _, _, by rw [lp]; rfl, A2, ok', G, fun hne => absurd vd hne, fun _ b H3 hbn hb3 A3 => ?_⟩
    have ok3 := ok_put ok' (fit_at G) vd
    rw [ld] at hb3
    walk_at "w"
    have hrl3 := hb3 _ _ hrl2 nrd
    refine ⟨_, rfl, .inl ⟨rfl, _, sq_l hrl3⟩, ?_⟩
    have hlen := Paired.length hrows2
    walk_at "w"
    refine ⟨r, rvs, _, rfl, rfl, hrl3, by rw [sizeLine_eq, ← hlen]; have := ok'.few; omega, ?_⟩
    have nrp : ∀ {z : Addr} {o : HO}, H3 z = some o → (∀ xs, o ≠ .lst xs) → z ≠ r := fun h hn z => by
      rw [z, hrl3] at h
      cases h
      exact hn _ rfl
    have ept : (Args.fit ⟨.str (letterS (f + 3 * (i : Int))), .int (1 + (i : Int)), .int (1 + (f + 5 * (i : Int)) % 12), .str "both", .int 1, .none⟩ P').pt = ptE f P.h (i : Int) := by
      rw [← ph]
      rfl
    rw [ept] at A3 ok3
    refine ⟨⟨_, _, rfl⟩, fun b' o hb' hn => ?_, { L' with as := L'.as ++ [b] }, _, lp, ld, lo, ?_, ?_, ?_, ⟨?_, ?_, ?_, ?_⟩, ok3, ?_, _, upd_same, ?_⟩
    · by_cases hbr : b' = r
      · rw [hbr, hr] at hb'
        cases hb'
      · rw [upd_ne hbr]
        exact hb3 _ _ (hb2 _ _ hb' hn) hn
    · exact pw
    · exact ph
    · exact po
    · rw [upd_ne (nrp A3.ob (fun _ z => nomatch z))]
      exact A3.ob
    · rw [upd_ne (nrp A3.dots (fun _ z => nomatch z))]
      exact A3.dots
    · rw [upd_ne (nrp A3.opened (fun _ z => nomatch z))]
      exact A3.opened
    · exact paired_mono A3.pts fun p a h => by
        rw [upd_ne (nrp h (fun _ z => nomatch z))]
        exact h
    · show P'.pts ++ [_] = _
      rw [hpts, List.range_succ, List.map_append]
      rfl
    · refine paired_snoc (paired_mono hrows2 fun p v h => ?_) ⟨u, rfl, ?_⟩
      · obtain ⟨t1, h3, h4⟩ := h
        have h5 := hb3 _ _ h4 (fun z => by rw [z, ← ld, A2.dots] at h4; cases h4)
        exact ⟨t1, h3, by rw [upd_ne (nrp h5 (fun _ z => nomatch z))]; exact h5⟩
      · have h5 := hb3 _ _ hu2 (fun z => by rw [z, ← ld, A2.dots] at hu2; cases hu2)
        rw [upd_ne (nrp h5 (fun _ z => nomatch z))]
        exact h5
  · rintro σ H' ⟨⟨z4, z5, rfl⟩, hb, L', P', lp, ld, lo, pw, ph, po, A', ok', hpts, hrows⟩
    walk_at "w"
    exact q r L' P' H' hb hr lp ld lo pw ph po A' ok' hrows
end
end Rim
set_option Elab.async false
set_option linter.all false
set_option maxRecDepth 100000
set_option maxHeartbeats 4000000
namespace Rim
open PySem PySem.Spec PyProof.Rows L2
local macro_rules | `(tactic| walk_at "w1") => `(tactic| (with_reducible first
  | refine w_var rfl ?_ | refine w_c ?_ | refine w_seq ?_ | refine w_asg ?_ | refine w_gname ?_ | refine w_op ?_ | refine w_rI0 ?_ | refine w_cons ?_ | refine w_nil ?_ | refine w_test ?_ | refine w_bl ?_ | refine w_if ?_ | refine w_next ?_ | refine w_ret ?_ | refine w_b ?_
  | refine w_call ?_ | refine w_cb ?_ | refine w_not ?_ | refine w_and ?_ | refine w_or ?_ | refine w_andV ?_ | refine w_orV ?_ | refine w_notV ?_ | refine w_tif ?_ | refine w_tup ?_ | refine w_lst ?_ | refine w_drop ?_ | refine w_retN ?_ | refine w_un ?_ | refine w_neg ?_
  | refine w_callS ?_ | refine w_make ?_ | refine w_for ?_ | refine w_lc ?_ | refine w_rng1 ?_ | refine w_rng2 ?_ | refine w_il ?_ | refine w_it ?_ | refine w_iT ?_ | refine w_iF ?_ | refine w_iNT ?_ | refine w_iNF ?_ | refine w_eq rfl ?_ | refine w_ne rfl ?_ | refine w_min2 ?_ | refine w_max2 ?_ | refine w_abs ?_))
local macro_rules | `(tactic| walk_at "w") => `(tactic| ((try dsimp only [Bool.not_true, Bool.not_false]); repeat (walk_at "w1")))
local macro_rules | `(tactic| walk_at "if") => `(tactic| (first | (apply w_ited) | (apply w_iten) | (apply w_ite)))
local macro_rules | `(tactic| walk_at "len") => `(tactic| (first | (rw [sizeLine_eq]; exact Nat.le_of_ble_eq_true rfl) | (show _ ≤ sizeLine; rw [sizeLine_eq]; exact Nat.le_of_ble_eq_true rfl)))
def sp_law (K : PySem.W.Frag) : Sp := fun vs H Q _ => ∃ (a : Addr) (ns : List Int), vs = [.ref a] ∧ SqL K H a (ns.map V.int) ∧ ns.length ≤ 63 ∧ ∀ H', Q (.bl true) H'
def t_law (K : PySem.W.Frag) (E : XK) : TS :=
  (tSeq (tAsg (tLst tNil) (gName 1))
    (tSeq (tFor (iRng1 (tCons (tC (.int 2)) tNil)) (gName 2)
    (tSeq (tAsg (tCall (sp__law_mixed K) [] E (tCons (tCall (sp__law_cell K) [] E (tCons (tVar 0) (tCons (tC (.int 0)) tNil))) (tCons (tVar 2) tNil))) (gName 3))
    (tSeq (tDrop (tBM K "list" rAppend (tVar 1) (tCons (tTup (tCons (tOp rAddI (tC (.int 1)) (tOp rModI (tVar 3) (tC (.int 30)))) (tCons (tOp rAddI (tC (.int 1)) (tOp rModI (tOp rDivI (tVar 3) (tC (.int 30))) (tC (.int 16)))) tNil))) tNil)))
    (tIfS (tNot (tB (tCall (sp__law_no_size K) [] E (tCons (tCall (sp__law_mixed K) [] E (tCons (tCall (sp__law_cell K) [] E (tCons (tVar 0) (tCons (tC (.int 0)) tNil))) (tCons (tOp rAddI (tC (.int 10)) (tVar 2)) tNil))) tNil)))) (tRet (tC (.bl false))) tNext))))
    (tSeq (tAsg (tLst (tCons (tLst tNil) (tCons (tLst tNil) tNil))) (gName 4))
    (tSeq (tIfS (tTest (tOp rEq (tOp rModI (tCall (sp__law_mixed K) [] E (tCons (tCall (sp__law_cell K) [] E (tCons (tVar 0) (tCons (tC (.int 0)) tNil))) (tCons (tC (.int 2)) tNil))) (tC (.int 2))) (tC (.int 1)))) (tAsg (tTup (tCons (tOp rAddI (tC (.int 12)) (tOp rModI (tOp (rIxT K) (tOp (rIxL K) (tVar 1) (tC (.int 1))) (tC (.int 0))) (tC (.int 19)))) (tCons (tOp rAddI (tC (.int 12)) (tOp rModI (tOp (rIxT K) (tOp (rIxL K) (tVar 1) (tC (.int 1))) (tC (.int 1))) (tC (.int 5)))) tNil))) (gSub (tVar 1) (tC (.int 1)) rSetL)) tNext)
    (tSeq (tAsg (tLc (iList K (tVar 1)) (gName 9) tYes (tMake (cl K "Picture") (sp_Picture___init__ K) [] E0 (tCons (tOp (rIxT K) (tVar 9) (tC (.int 0))) (tCons (tOp (rIxT K) (tVar 9) (tC (.int 1))) tNil))) [9]) (gName 5))
    (tSeq (tIfS (tTest (tOp rEq (tOp rModI (tCall (sp__law_mixed K) [] E (tCons (tCall (sp__law_cell K) [] E (tCons (tVar 0) (tCons (tC (.int 0)) tNil))) (tCons (tC (.int 2)) tNil))) (tC (.int 2))) (tC (.int 1)))) (tAsg (tCall (sp__law_eleven K) [] E (tCons (tOp (rIxL K) (tVar 5) (tC (.int 1))) (tCons (tCall (sp__law_cell K) [] E (tCons (tVar 0) (tCons (tC (.int 0)) tNil))) tNil))) (gSub (tVar 4) (tC (.int 1)) rSetL)) tNext)
    (tSeq (tFor (iRng2 (tCons (tC (.int 1)) (tCons (tCB rMin2 (tCons (tCB (rLenSeq K) (tCons (tVar 0) tNil)) (tCons (tC (.int 46)) tNil))) tNil))) (gName 6)
    (tSeq (tAsg (tCall (sp__law_mixed K) [] E (tCons (tOp (rIxL K) (tVar 0) (tVar 6)) (tCons (tVar 6) tNil))) (gName 3))
    (tSeq (tAsg (tOp rModI (tVar 3) (tC (.int 2))) (gName 7))
    (tSeq (tAsg (tCall (sp__law_args K) [] E (tCons (tOp (rIxL K) (tVar 0) (tVar 6)) (tCons (tVar 6) (tCons (tOp (rIxL K) (tVar 1) (tVar 7)) tNil)))) (gName 8))
    (tSeq (tIfS (tNot (tB (tCall (sp__law_tried K) [] E (tCons (tOp (rIxL K) (tVar 5) (tVar 7)) (tCons (tOp (rIxL K) (tVar 1) (tVar 7)) (tCons (tOp (rIxL K) (tVar 4) (tVar 7)) (tCons (tVar 8) (tCons (tCB rMax2 (tCons (tC (.int 0)) (tCons (tOp rSubI (tOp rModI (tOp rDivI (tVar 3) (tC (.int 2))) (tC (.int 7))) (tC (.int 3))) tNil))) tNil)))))))) (tRet (tC (.bl false))) tNext)
    (tIfS (tNot (tB (tCall (sp__law_right K) [] E (tCons (tOp (rIxL K) (tVar 5) (tVar 7)) (tCons (tOp (rIxL K) (tVar 1) (tVar 7)) (tCons (tOp (rIxL K) (tVar 4) (tVar 7)) tNil)))))) (tRet (tC (.bl false))) tNext))))))
    (tRet (tAndV (tCall (sp__law_right K) [] E (tCons (tOp (rIxL K) (tVar 5) (tC (.int 0))) (tCons (tOp (rIxL K) (tVar 1) (tC (.int 0))) (tCons (tOp (rIxL K) (tVar 4) (tC (.int 0))) tNil)))) (tCall (sp__law_right K) [] E (tCons (tOp (rIxL K) (tVar 5) (tC (.int 1))) (tCons (tOp (rIxL K) (tVar 1) (tC (.int 1))) (tCons (tOp (rIxL K) (tVar 4) (tC (.int 1))) tNil)))))))))))))
abbrev N_law : List Str := ["_law_script", "_law_sizes", "_law_j", "_law_number", "_law_rows", "_law_pictures", "_law_k", "_law_at", "_law_args_here", "_law_size"]
section
variable {J : It} {xs : List V} {ok : Hp → Prop} {σ : L2.St} {H1 : Hp} {Qd : Hp → Prop} {g : TG} {tt : TT} {te : TE} {vs : List Nat} {D : Addr}
theorem lc_inv (S : Wk J xs ok) (A : Nat → List V → Hp → Prop) (h0 : A 0 [] (upd H1 D (.lst []))) (ho : ∀ i acc H, i ≤ xs.length → A i acc H → ok H)
    (hs : ∀ i x acc H, xs[i]? = some x → A i acc H → g x (wipe σ vs) H fun σ2 H2 => wipe σ2 vs = wipe σ vs ∧ tt σ2 H2 fun b H3 => if b = true then te σ2 H3 fun y H4 => ∃ acc', H4 D = some (.lst acc') ∧ acc'.length < sizeLine ∧ ∃ acc2, A (i + 1) acc2 (upd H4 D (.lst (acc' ++ [y]))) else ∃ acc', A (i + 1) acc' H3)
    (hd : ∀ acc H, A xs.length acc H → Qd H) : LcB J g tt te vs σ D H1 Qd := by
  refine ⟨fun i m H => m + i = xs.length ∧ ∃ acc, A i acc H, ⟨xs.length, rfl, [], h0⟩, fun i m H hw => ?_⟩
  obtain ⟨hm, acc, hA⟩ := hw
  have hi : i ≤ xs.length := by omega
  by_cases hlt : i < xs.length
  · refine .inr ⟨S.go i H (ho i acc H hi hA) hlt, fun H' => ∃ acc, A (i + 1) acc H', fun H' p' => ⟨m - 1, by omega, by omega, p'⟩, fun x H' y => ?_⟩
    obtain ⟨rfl, hx⟩ := S.yld i x H H' (ho i acc H hi hA) hlt y
    exact hs i x acc H' hx hA
  · have e : i = xs.length := by omega
    subst e
    exact .inl ⟨S.stop H (ho _ acc H hi hA), hd acc H hA⟩
end
section
variable {K : PySem.W.Frag}
/-- a picture, its rows and its size -/
structure Half (K : PySem.W.Frag) (H : Hp) (L : Loc) (P : Pic) (r t : Addr) : Prop where
  pic : PicAt K H L P
  ok : P.Ok
  op : P.op = []
  rows : RowsL K H r P.pts
  tup : H t = some (.tup [.int P.w, .int P.h])
def But2 (d r : Addr) (H H' : Hp) : Prop := ∀ b o, H b = some o → b ≠ d → b ≠ r → H' b = some o
theorem Half.same {H H' : Hp} {L : Loc} {P : Pic} {r t : Addr} (e : Same H H') (h : Half K H L P r t) : Half K H' L P r t := ⟨h.pic.same e, h.ok, h.op, h.rows.same e, e _ _ h.tup⟩
theorem Half.but {H H' : Hp} {L : Loc} {P : Pic} {r t d r' : Addr} {kvs : List (Key × V)} {ys : List V} (h : Half K H L P r t) (hd : H d = some (.dK kvs)) (hr : H r' = some (.lst ys)) (nd : L.d ≠ d) (nr : r ≠ r') (e : But2 d r' H H') : Half K H' L P r t := by
  have ne : ∀ {z : Addr} {o : HO}, H z = some o → (∀ k, o ≠ .dK k) → (∀ x, o ≠ .lst x) → H' z = some o := fun hz h1 h2 => e _ _ hz (fun y => by
      rw [y, hd] at hz
      cases hz
      exact h1 _ rfl) fun y => by
      rw [y, hr] at hz
      cases hz
      exact h2 _ rfl
  refine ⟨⟨ne h.pic.ob (fun _ z => nomatch z) (fun _ z => nomatch z), ?_, ne h.pic.opened (fun _ z => nomatch z) (fun _ z => nomatch z), paired_mono h.pic.pts fun p a g => ne g (fun _ z => nomatch z) (fun _ z => nomatch z)⟩, h.ok, h.op, ?_, ne h.tup (fun _ z => nomatch z) (fun _ z => nomatch z)⟩
  · refine e _ _ h.pic.dots nd fun y => ?_
    have := h.pic.dots
    rw [y, hr] at this
    cases this
  · obtain ⟨vs, h1, h2⟩ := h.rows
    refine ⟨vs, e _ _ h1 (fun y => ?_) nr, paired_mono h2 fun p v g => ?_⟩
    · rw [y, hd] at h1
      cases h1
    · obtain ⟨t, g1, g2⟩ := g
      exact ⟨t, g1, ne g2 (fun _ z => nomatch z) (fun _ z => nomatch z)⟩
theorem ok_empty {w h : Int} (h1 : 1 ≤ w) (h2 : w ≤ 30) (h3 : 1 ≤ h) (h4 : h ≤ 16) : Pic.Ok ⟨w, h, [], []⟩ :=
  ⟨h1, h2, h3, h4, Nat.zero_le _, by simp, by simp, by simp, by simp, by simp, by simp, by simp, by simp, by simp⟩
/-- from the main loop on -/
def t_law3 (K : PySem.W.Frag) (E : XK) : TS :=
  (tSeq (tFor (iRng2 (tCons (tC (.int 1)) (tCons (tCB rMin2 (tCons (tCB (rLenSeq K) (tCons (tVar 0) tNil)) (tCons (tC (.int 46)) tNil))) tNil))) (gName 6)
    (tSeq (tAsg (tCall (sp__law_mixed K) [] E (tCons (tOp (rIxL K) (tVar 0) (tVar 6)) (tCons (tVar 6) tNil))) (gName 3))
    (tSeq (tAsg (tOp rModI (tVar 3) (tC (.int 2))) (gName 7))
    (tSeq (tAsg (tCall (sp__law_args K) [] E (tCons (tOp (rIxL K) (tVar 0) (tVar 6)) (tCons (tVar 6) (tCons (tOp (rIxL K) (tVar 1) (tVar 7)) tNil)))) (gName 8))
    (tSeq (tIfS (tNot (tB (tCall (sp__law_tried K) [] E (tCons (tOp (rIxL K) (tVar 5) (tVar 7)) (tCons (tOp (rIxL K) (tVar 1) (tVar 7)) (tCons (tOp (rIxL K) (tVar 4) (tVar 7)) (tCons (tVar 8) (tCons (tCB rMax2 (tCons (tC (.int 0)) (tCons (tOp rSubI (tOp rModI (tOp rDivI (tVar 3) (tC (.int 2))) (tC (.int 7))) (tC (.int 3))) tNil))) tNil)))))))) (tRet (tC (.bl false))) tNext)
    (tIfS (tNot (tB (tCall (sp__law_right K) [] E (tCons (tOp (rIxL K) (tVar 5) (tVar 7)) (tCons (tOp (rIxL K) (tVar 1) (tVar 7)) (tCons (tOp (rIxL K) (tVar 4) (tVar 7)) tNil)))))) (tRet (tC (.bl false))) tNext))))))
    (tRet (tAndV (tCall (sp__law_right K) [] E (tCons (tOp (rIxL K) (tVar 5) (tC (.int 0))) (tCons (tOp (rIxL K) (tVar 1) (tC (.int 0))) (tCons (tOp (rIxL K) (tVar 4) (tC (.int 0))) tNil)))) (tCall (sp__law_right K) [] E (tCons (tOp (rIxL K) (tVar 5) (tC (.int 1))) (tCons (tOp (rIxL K) (tVar 1) (tC (.int 1))) (tCons (tOp (rIxL K) (tVar 4) (tC (.int 1))) tNil)))))))
theorem pure_law3 (a s R p r0 r1 t0 t1 : Addr) (ns : List Int) (L0 L1 : Loc) (P0 P1 : Pic) (z2 z3 z6 z7 z8 z9 : Option V) (H0 H : Hp) (D : Ends) (E : XK) (hS : SqL K H0 a (ns.map V.int)) (h63 : ns.length ≤ 63) (e0 : Same H0 H)
    (hs : H s = some (.lst [.ref t0, .ref t1])) (hR : H R = some (.lst [.ref r0, .ref r1])) (hp : H p = some (.lst [.ref L0.p, .ref L1.p])) (A0 : Half K H L0 P0 r0 t0) (A1 : Half K H L1 P1 r1 t1)
    (nd : L0.d ≠ L1.d) (nr : r0 ≠ r1) (f0 : H0 L0.d = none) (f1 : H0 L1.d = none) (g0 : H0 r0 = none) (g1 : H0 r1 = none) (out : s ≠ r0 ∧ s ≠ r1 ∧ R ≠ r0 ∧ R ≠ r1 ∧ p ≠ r0 ∧ p ≠ r1)
    (q : ∀ H', D.rt (.bl true) H') : t_law3 K E D [some (.ref a), some (.ref s), z2, z3, some (.ref R), some (.ref p), z6, z7, z8, z9] H := by
  unfold t_law3
  walk_at "w"
  refine w_lenL (e0.seq hS) ?_
  walk_at "w"
  rw [List.length_map]
  refine ⟨1, _, rfl, by refine ⟨by decide, by decide, ?_, ?_⟩ <;> split <;> omega, ?_⟩
  have hmn : (if (46 : Int) < (ns.length : Int) then (46 : Int) else (ns.length : Int)) ≤ ns.length := by split <;> omega
  generalize (if (46 : Int) < (ns.length : Int) then (46 : Int) else (ns.length : Int)) = n at hmn ⊢
  refine for_wk (wk_rng _ _) (fun i σ H' => (∃ z2 z3 z6 z7 z8 z9, σ = [some (.ref a), some (.ref s), z2, z3, some (.ref R), some (.ref p), z6, z7, z8, z9]) ∧ Same H0 H' ∧ H' s = some (.lst [.ref t0, .ref t1]) ∧ H' R = some (.lst [.ref r0, .ref r1]) ∧ H' p = some (.lst [.ref L0.p, .ref L1.p]) ∧
      ∃ L0' L1' P0' P1', L0'.p = L0.p ∧ L0'.d = L0.d ∧ L1'.p = L1.p ∧ L1'.d = L1.d ∧ Half K H' L0' P0' r0 t0 ∧ Half K H' L1' P1' r1 t1)
    ⟨⟨_, _, _, _, _, _, rfl⟩, e0, hs, hR, hp, L0, L1, P0, P1, rfl, rfl, rfl, rfl, A0, A1⟩ (fun _ _ _ _ _ => trivial) ?_ ?_
  · rintro i x σ H1 hx ⟨⟨z2, z3, z6, z7, z8, z9, rfl⟩, e1, hs1, hR1, hp1, L0', L1', P0', P1', lp0, ld0, lp1, ld1, B0, B1⟩
    obtain ⟨hi, rfl⟩ := rgL_get hx
    have hk : (1 + (i : Int)).toNat < ns.length := by omega
    have hk0 : (0 : Int) ≤ 1 + (i : Int) := by omega
    have hkA : ∀ {H' : Hp} {R : VK}, Same H0 H' → R (.int (ns.getD (1 + (i : Int)).toNat 0)) H' → rIxL K (.ref a) (.int (1 + (i : Int))) H' R := fun e r => w_ixL (e.seq hS) (atI_at hk0 (by rw [List.getElem?_map, List.getElem?_eq_getElem hk, List.getD_eq_getElem?_getD, List.getElem?_eq_getElem hk]; rfl)) r
    generalize ns.getD (1 + (i : Int)).toNat 0 = c at hkA
    generalize 1 + (i : Int) = k at hkA ⊢
    walk_at "w"
    refine hkA e1 ?_
    walk_at "w"
    refine ⟨c, k, rfl, ?_⟩
    walk_at "w"
    refine w_rI (by decide) ?_
    refine w_gname ?_
    have hm := lm_nn c k
    generalize lmixed c k = m at hm ⊢
    have hat : m % 2 = 0 ∨ m % 2 = 1 := by omega
    have hmn2 : 0 ≤ (if m / 2 % 7 - 3 > (0 : Int) then m / 2 % 7 - 3 else (0 : Int)) ∧ (if m / 2 % 7 - 3 > (0 : Int) then m / 2 % 7 - 3 else (0 : Int)) ≤ 3 := by split <;> omega
    -- one of the two halves
    have step : ∀ (at_ : Int) (La Lb : Loc) (Pa Pb : Pic) (ra rb ta tb : Addr), atI [V.ref t0, V.ref t1] at_ = some (.ref ta) → atI [V.ref r0, V.ref r1] at_ = some (.ref ra) → atI [V.ref L0.p, V.ref L1.p] at_ = some (.ref La.p) →
        Half K H1 La Pa ra ta → Half K H1 Lb Pb rb tb → Lb.d ≠ La.d → rb ≠ ra → H0 La.d = none → H0 ra = none → s ≠ ra → R ≠ ra → p ≠ ra → ∀ (D' : Ends), 
        (∀ H2 La' Pa' (z8 : Option V), Same H0 H2 → H2 s = some (.lst [.ref t0, .ref t1]) → H2 R = some (.lst [.ref r0, .ref r1]) → H2 p = some (.lst [.ref L0.p, .ref L1.p]) → La'.p = La.p → La'.d = La.d → Half K H2 La' Pa' ra ta → Half K H2 Lb Pb rb tb → D'.nx [some (.ref a), some (.ref s), z2, some (.int m), some (.ref R), some (.ref p), some (.int k), some (.int at_), z8, z9] H2) →
        (tSeq (tAsg (tCall (sp__law_args K) [] E (tCons (tOp (rIxL K) (tVar 0) (tVar 6)) (tCons (tVar 6) (tCons (tOp (rIxL K) (tVar 1) (tVar 7)) tNil)))) (gName 8))
    (tSeq (tIfS (tNot (tB (tCall (sp__law_tried K) [] E (tCons (tOp (rIxL K) (tVar 5) (tVar 7)) (tCons (tOp (rIxL K) (tVar 1) (tVar 7)) (tCons (tOp (rIxL K) (tVar 4) (tVar 7)) (tCons (tVar 8) (tCons (tCB rMax2 (tCons (tC (.int 0)) (tCons (tOp rSubI (tOp rModI (tOp rDivI (tVar 3) (tC (.int 2))) (tC (.int 7))) (tC (.int 3))) tNil))) tNil)))))))) (tRet (tC (.bl false))) tNext)
    (tIfS (tNot (tB (tCall (sp__law_right K) [] E (tCons (tOp (rIxL K) (tVar 5) (tVar 7)) (tCons (tOp (rIxL K) (tVar 1) (tVar 7)) (tCons (tOp (rIxL K) (tVar 4) (tVar 7)) tNil)))))) (tRet (tC (.bl false))) tNext))) D' [some (.ref a), some (.ref s), z2, some (.int m), some (.ref R), some (.ref p), some (.int k), some (.int at_), z8, z9] H1 := by
      intro at_ La Lb Pa Pb ra rb ta tb et er ep Ba Bb hnd hnr hfd hfr hsr hRr hpr D' kk
      walk_at "w"
      refine hkA e1 ?_
      walk_at "w"
      refine w_ixL (sq_l hs1) et ?_
      walk_at "w"
      refine ⟨c, k, Pa.w, Pa.h, ta, rfl, sq_t Ba.tup, Ba.ok.w1, Ba.ok.h1, fun l v ar H2 e2 hl hl2 G => ?_⟩
      walk_at "w"
      refine w_ixL (sq_l (e2 _ _ hp1)) ep ?_
      walk_at "w"
      refine w_ixL (sq_l (e2 _ _ hs1)) et ?_
      walk_at "w"
      refine w_ixL (sq_l (e2 _ _ hR1)) er ?_
      walk_at "w"
      refine w_rI ⟨by decide, by decide⟩ ?_
      walk_at "w"
      refine w_rI (by decide) ?_
      walk_at "w"
      have Ba2 := Ba.same e2
      have Bb2 := Bb.same e2
      refine ⟨La, Pa, ta, ra, l, v, ar, _, rfl, hmn2.1, hmn2.2, hl2, Ba2.pic, Ba2.ok, G, sq_t Ba2.tup, Ba2.rows, fun La' Pa' H3 b3 lp ld lo pw ph po A3 ok3 r3 => ?_⟩
      have b3' : But2 La.d ra H2 H3 := b3
      obtain ⟨rv, hrv, _⟩ := id Ba2.rows
      have keep : ∀ {z : Addr} {xs : List V}, H2 z = some (.lst xs) → z ≠ ra → H3 z = some (.lst xs) := fun h n => b3 _ _ h (fun y => by
        rw [y, Ba2.pic.dots] at h
        cases h) n
      have tup3 : H3 ta = some (.tup [.int Pa'.w, .int Pa'.h]) := by
        rw [pw, ph]
        exact b3 _ _ Ba2.tup (fun y => by
          have z := Ba2.tup
          rw [y, Ba2.pic.dots] at z
          cases z) (fun y => by
          have z := Ba2.tup
          rw [y, hrv] at z
          cases z)
      have half3 : Half K H3 La' Pa' ra ta := ⟨A3, ok3, by rw [po]; exact Ba2.op, r3, tup3⟩
      have halfb := Bb2.but Ba2.pic.dots hrv hnd hnr b3'
      have s3 := keep (e2 _ _ hs1) hsr
      have R3 := keep (e2 _ _ hR1) hRr
      have p3 := keep (e2 _ _ hp1) hpr
      have e3 : Same H0 H3 := fun b o hb => b3 _ _ (e2 _ _ (e1 _ _ hb)) (fun y => by
        rw [y, hfd] at hb
        cases hb) (fun y => by
        rw [y, hfr] at hb
        cases hb)
      walk_at "w"
      refine w_ixL (sq_l p3) ep ?_
      walk_at "w"
      refine w_ixL (sq_l s3) et ?_
      walk_at "w"
      refine w_ixL (sq_l R3) er ?_
      walk_at "w"
      refine ⟨La', Pa', ta, ra, by rw [lp]; rfl, A3, ok3, half3.op, sq_t tup3, r3, fun H4 e4 => ?_⟩
      walk_at "w"
      exact kk H4 La' Pa' _ (e3.trans e4) (e4 _ _ s3) (e4 _ _ R3) (e4 _ _ p3) lp ld (half3.same e4) (halfb.same e4)
    rcases hat with hat | hat
    · rw [hat]
      refine step 0 L0' L1' P0' P1' r0 r1 t0 t1 rfl rfl (by rw [lp0]; rfl) B0 B1 (by rw [ld0, ld1]; exact Ne.symm nd) (Ne.symm nr) (by rw [ld0]; exact f0) g0 out.1 out.2.2.1 out.2.2.2.2.1 _ fun H2 La' Pa' z8 e2 s2 R2 p2 lp ld B2 C2 => ?_
      exact ⟨⟨_, _, _, _, _, _, rfl⟩, e2, s2, R2, p2, La', L1', Pa', P1', lp.trans lp0, ld.trans ld0, lp1, ld1, B2, C2⟩
    · rw [hat]
      refine step 1 L1' L0' P1' P0' r1 r0 t1 t0 rfl rfl (by rw [lp1]; rfl) B1 B0 (by rw [ld0, ld1]; exact nd) nr (by rw [ld1]; exact f1) g1 out.2.1 out.2.2.2.1 out.2.2.2.2.2 _ fun H2 La' Pa' z8 e2 s2 R2 p2 lp ld B2 C2 => ?_
      exact ⟨⟨_, _, _, _, _, _, rfl⟩, e2, s2, R2, p2, L0', La', P0', Pa', lp0, ld0, lp.trans lp1, ld.trans ld1, C2, B2⟩
  · rintro σ H1 ⟨⟨z2, z3, z6, z7, z8, z9, rfl⟩, e1, hs1, hR1, hp1, L0', L1', P0', P1', lp0, ld0, lp1, ld1, B0, B1⟩
    walk_at "w"
    refine w_ixL (sq_l hp1) rfl ?_
    walk_at "w"
    refine w_ixL (sq_l hs1) rfl ?_
    walk_at "w"
    refine w_ixL (sq_l hR1) rfl ?_
    walk_at "w"
    refine ⟨L0', P0', t0, r0, by rw [lp0]; rfl, B0.pic, B0.ok, B0.op, sq_t B0.tup, B0.rows, fun H2 e2 => ?_⟩
    walk_at "w"
    refine w_ixL (sq_l (e2 _ _ hp1)) rfl ?_
    walk_at "w"
    refine w_ixL (sq_l (e2 _ _ hs1)) rfl ?_
    walk_at "w"
    refine w_ixL (sq_l (e2 _ _ hR1)) rfl ?_
    walk_at "w"
    have B1' := B1.same e2
    exact ⟨L1', P1', t1, r1, by rw [lp1]; rfl, B1'.pic, B1'.ok, B1'.op, sq_t B1'.tup, B1'.rows, fun H3 _ => q H3⟩
/-- from the pictures on -/
def t_law2 (K : PySem.W.Frag) (E : XK) : TS :=
  (tSeq (tAsg (tLc (iList K (tVar 1)) (gName 9) tYes (tMake (cl K "Picture") (sp_Picture___init__ K) [] E0 (tCons (tOp (rIxT K) (tVar 9) (tC (.int 0))) (tCons (tOp (rIxT K) (tVar 9) (tC (.int 1))) tNil))) [9]) (gName 5))
    (tSeq (tIfS (tTest (tOp rEq (tOp rModI (tCall (sp__law_mixed K) [] E (tCons (tCall (sp__law_cell K) [] E (tCons (tVar 0) (tCons (tC (.int 0)) tNil))) (tCons (tC (.int 2)) tNil))) (tC (.int 2))) (tC (.int 1)))) (tAsg (tCall (sp__law_eleven K) [] E (tCons (tOp (rIxL K) (tVar 5) (tC (.int 1))) (tCons (tCall (sp__law_cell K) [] E (tCons (tVar 0) (tCons (tC (.int 0)) tNil))) tNil))) (gSub (tVar 4) (tC (.int 1)) rSetL)) tNext)
    (t_law3 K E)))
theorem w_mk {H : Hp} {R : Addr → Hp → Prop} {w h : Int} {E : XK} (w1 : 1 ≤ w) (w30 : w ≤ 30) (h1 : 1 ≤ h) (h16 : h ≤ 16) (k : ∀ L H', Same H H' → H L.d = none → PicAt K H' L ⟨w, h, [], []⟩ → R L.p H') :
    ∀ x dx, H x = none → H dx = none → dx ≠ x → sp_Picture___init__ K (.ref x :: ([.int w, .int h] ++ [])) (upd (upd H dx (.own x)) x (.ins (cl K "Picture") dx [])) (fun v H2 => v = .non ∧ R x H2) E := by
  intro x dx nx nd ne
  have e1 := same_made (C := cl K "Picture") (fs := []) nx nd
  refine ⟨x, dx, .int w, .int h, .int w, .int h, rfl, upd_same, .int _, .int _, fun hb => ?_, fun i j ei ej _ L H5 hp hdx hLd hLo _ hbut hP => ⟨rfl, ?_⟩⟩
  · exfalso
    have : sizeB (.int w) (.int h) = true := by
      simp [sizeB, wholeB, w1, w30, h1, h16]
    rw [this] at hb
    cases hb
  · cases ei
    cases ej
    rw [← hp]
    refine k L H5 (fun b o hb => hbut b o (e1 b o hb) fun z => ?_) (none_back e1 hLd) hP
    rw [z, nx] at hb
    cases hb
theorem pure_law2 (a s R r0 r1 t0 t1 : Addr) (w0 h0 w1 h1 : Int) (ns : List Int) (z2 z3 : Option V) (H0 H : Hp) (D : Ends) (E : XK) (hS : SqL K H0 a (ns.map V.int)) (h63 : ns.length ≤ 63) (e0 : Same H0 H)
    (hs : H s = some (.lst [.ref t0, .ref t1])) (hR : H R = some (.lst [.ref r0, .ref r1])) (hr0 : H r0 = some (.lst [])) (hr1 : H r1 = some (.lst [])) (ht0 : H t0 = some (.tup [.int w0, .int h0])) (ht1 : H t1 = some (.tup [.int w1, .int h1]))
    (b0 : 1 ≤ w0 ∧ w0 ≤ 30 ∧ 1 ≤ h0 ∧ h0 ≤ 16) (b1 : 1 ≤ w1 ∧ w1 ≤ 30 ∧ 1 ≤ h1 ∧ h1 ≤ 16) (big : lmixed (lcell ns 0) 2 % 2 = 1 → 12 ≤ w1 ∧ 12 ≤ h1) (nr : r0 ≠ r1) (g0 : H0 r0 = none) (g1 : H0 r1 = none) (gR : H0 R = none) (out : s ≠ r0 ∧ s ≠ r1 ∧ R ≠ r0 ∧ R ≠ r1)
    (q : ∀ H', D.rt (.bl true) H') (S : PicFx K) : t_law2 K E D [some (.ref a), some (.ref s), z2, z3, some (.ref R), none, none, none, none, none] H := by
  unfold t_law2
  walk_at "w"
  refine ⟨s, rfl, ⟨_, sq_l hs⟩, fun p hp => ?_⟩
  refine lc_inv (wk_list s [.ref t0, .ref t1]) (fun i acc H' => Same H H' ∧ H' p = some (.lst acc) ∧ match i with
      | 0 => acc = []
      | 1 => ∃ L0 : Loc, acc = [V.ref L0.p] ∧ PicAt K H' L0 ⟨w0, h0, [], []⟩ ∧ H L0.d = none
      | _ => ∃ L0 L1 : Loc, acc = [V.ref L0.p, V.ref L1.p] ∧ PicAt K H' L0 ⟨w0, h0, [], []⟩ ∧ H L0.d = none ∧ PicAt K H' L1 ⟨w1, h1, [], []⟩ ∧ H L1.d = none ∧ L0.d ≠ L1.d)
    ⟨same_new hp, upd_same, rfl⟩ (fun i acc H' _ h => sq_l (h.1 _ _ hs)) ?_ ?_
  · rintro i x acc H1 hx ⟨e1, hpa, hi⟩
    match i, hx, hi with
    | 0, hx, hi =>
      cases hx
      subst hi
      walk_at "w"
      refine ⟨rfl, ?_⟩
      unfold tYes
      refine iteT ?_
      walk_at "w"
      refine w_ixT (sq_t (e1 _ _ ht0)) rfl ?_
      walk_at "w"
      refine w_ixT (sq_t (e1 _ _ ht0)) rfl ?_
      refine w_nil (w_mk b0.1 b0.2.1 b0.2.2.1 b0.2.2.2 fun L H2 e2 hd hP => ?_)
      have kn := keepNL_lst (ys := [V.ref L.p]) (e2 _ _ hpa)
      refine ⟨[], e2 _ _ hpa, by walk_at "len", [V.ref L.p], same_mut (e1.trans e2) hp, upd_same, L, rfl, ⟨kn _ _ hP.ob (fun _ z => nomatch z), kn _ _ hP.dots (fun _ z => nomatch z), kn _ _ hP.opened (fun _ z => nomatch z), paired_mono hP.pts fun p a h => kn _ _ h (fun _ z => nomatch z)⟩, none_back e1 hd⟩
    | 1, hx, hi =>
      cases hx
      obtain ⟨L0, rfl, hP0, hd0⟩ := hi
      walk_at "w"
      refine ⟨rfl, ?_⟩
      unfold tYes
      refine iteT ?_
      walk_at "w"
      refine w_ixT (sq_t (e1 _ _ ht1)) rfl ?_
      walk_at "w"
      refine w_ixT (sq_t (e1 _ _ ht1)) rfl ?_
      refine w_nil (w_mk b1.1 b1.2.1 b1.2.2.1 b1.2.2.2 fun L H2 e2 hd hP => ?_)
      have kn := keepNL_lst (ys := [V.ref L0.p, V.ref L.p]) (e2 _ _ hpa)
      have hP0' := hP0.same e2
      refine ⟨[V.ref L0.p], e2 _ _ hpa, by walk_at "len", [V.ref L0.p, V.ref L.p], same_mut (e1.trans e2) hp, upd_same, L0, L, rfl, ⟨kn _ _ hP0'.ob (fun _ z => nomatch z), kn _ _ hP0'.dots (fun _ z => nomatch z), kn _ _ hP0'.opened (fun _ z => nomatch z), paired_mono hP0'.pts fun p a h => kn _ _ h (fun _ z => nomatch z)⟩, hd0,
        ⟨kn _ _ hP.ob (fun _ z => nomatch z), kn _ _ hP.dots (fun _ z => nomatch z), kn _ _ hP.opened (fun _ z => nomatch z), paired_mono hP.pts fun p a h => kn _ _ h (fun _ z => nomatch z)⟩, none_back e1 hd, fun z => ?_⟩
      rw [← z, hP0.dots] at hd
      cases hd
    | i + 2, hx, hi => cases hx
  · rintro acc H1 ⟨e1, hpa, L0, L1, rfl, hP0, hd0, hP1, hd1, hnd⟩
    have eA := e0.trans e1
    walk_at "w"
    refine ⟨a, ns, 0, rfl, eA.seq hS, by decide, by decide, ?_⟩
    walk_at "w"
    refine ⟨_, _, rfl, ?_⟩
    walk_at "w"
    refine w_rI (by decide) ?_
    walk_at "w"
    have npr : ∀ {z : Addr} {o : HO}, H z = some o → p ≠ z := fun h y => by
      rw [← y, hp] at h
      cases h
    have A0 : Half K H1 L0 ⟨w0, h0, [], []⟩ r0 t0 := ⟨hP0, ok_empty b0.1 b0.2.1 b0.2.2.1 b0.2.2.2, rfl, ⟨[], e1 _ _ hr0, .nil⟩, e1 _ _ ht0⟩
    walk_at "if" <;> intro hb
    · obtain ⟨g12, g12h⟩ := big (by simpa using hb)
      walk_at "w"
      refine w_ixL (sq_l hpa) rfl ?_
      walk_at "w"
      refine ⟨a, ns, 0, rfl, eA.seq hS, by decide, by decide, ?_⟩
      walk_at "w"
      refine ⟨L1, _, _, rfl, hP1, ok_empty b1.1 b1.2.1 b1.2.2.1 b1.2.2.2, rfl, g12, g12h, fun r L' P' H2 hbut hrn lp ld lo pw ph po hP' ok' hrows => ?_⟩
      have keep : ∀ {z : Addr} {o : HO}, H1 z = some o → (∀ k, o ≠ .dK k) → H2 z = some o := fun h n => hbut _ _ h fun y => by
        rw [y, hP1.dots] at h
        cases h
        exact n _ rfl
      have hR2 := keep (e1 _ _ hR) (fun _ z => nomatch z)
      refine ⟨_, rfl, R, _, _, 1, rfl, rfl, hR2, rfl, ?_⟩
      have nRr : ∀ {z : Addr} {o : HO}, H1 z = some o → z ≠ r := fun h y => by
        rw [y, hrn] at h
        cases h
      have up : ∀ {z : Addr} {o : HO}, H2 z = some o → z ≠ R → upd H2 R (.lst ([V.ref r0, V.ref r1].set 1 (V.ref r))) z = some o := fun h n => by
        rw [upd_ne n]
        exact h
      obtain ⟨rv, hrv, hrw⟩ := hrows
      have neR : ∀ {z : Addr} {o : HO}, H2 z = some o → (∀ k, o ≠ .lst k) → z ≠ R := fun h n y => by
        rw [y, hR2] at h
        cases h
        exact n _ rfl
      have hRr : R ≠ r := nRr (e1 _ _ hR)
      have half1 : Half K (upd H2 R (.lst ([V.ref r0, V.ref r1].set 1 (V.ref r)))) L' P' r t1 := by
        refine ⟨⟨up hP'.ob (neR hP'.ob (fun _ z => nomatch z)), up hP'.dots (neR hP'.dots (fun _ z => nomatch z)), up hP'.opened (neR hP'.opened (fun _ z => nomatch z)), paired_mono hP'.pts fun p a h => up h (neR h (fun _ z => nomatch z))⟩, ok', po, ⟨rv, up hrv (Ne.symm hRr), paired_mono hrw fun p v h => ?_⟩, ?_⟩
        · obtain ⟨t, h3, h4⟩ := h
          exact ⟨t, h3, up h4 (neR h4 (fun _ z => nomatch z))⟩
        · rw [pw, ph]
          have := keep (e1 _ _ ht1) (fun _ z => nomatch z)
          exact up this (neR this (fun _ z => nomatch z))
      have half0 : Half K (upd H2 R (.lst ([V.ref r0, V.ref r1].set 1 (V.ref r)))) L0 ⟨w0, h0, [], []⟩ r0 t0 := by
        have k0 := hbut _ _ hP0.dots hnd
        have k1 := keep hP0.ob (fun _ z => nomatch z)
        have k2 := keep hP0.opened (fun _ z => nomatch z)
        have k3 := keep (e1 _ _ hr0) (fun _ z => nomatch z)
        have k4 := keep (e1 _ _ ht0) (fun _ z => nomatch z)
        exact ⟨⟨up k1 (neR k1 (fun _ z => nomatch z)), up k0 (neR k0 (fun _ z => nomatch z)), up k2 (neR k2 (fun _ z => nomatch z)), paired_mono hP0.pts fun p a h => (by have k := keep h (fun _ z => nomatch z); exact up k (neR k (fun _ z => nomatch z)))⟩, A0.ok, rfl, ⟨[], up k3 (Ne.symm out.2.2.1), .nil⟩, up k4 (neR k4 (fun _ z => nomatch z))⟩
      refine pure_law3 a s R p r0 r t0 t1 ns L0 L' _ P' _ _ _ _ _ _ H0 _ D E hS h63 (fun b o hb => ?_) ?_ upd_same ?_ half0 half1 (by rw [ld]; exact hnd) (nRr (e1 _ _ hr0)) (none_back e0 hd0) (by rw [ld]; exact none_back e0 hd1) g0 (none_back eA hrn) ⟨out.1, nRr (e1 _ _ hs), out.2.2.1, hRr, npr hr0, nRr hpa⟩ q
      · rw [upd_ne (fun z => by rw [z, gR] at hb; cases hb)]
        exact hbut _ _ (eA _ _ hb) (fun z => by
          have := none_back e0 hd1
          rw [← z, hb] at this
          cases this)
      · have k := keep (e1 _ _ hs) (fun _ z => nomatch z)
        refine up k fun z => ?_
        rw [z, hR2] at k
        injection k with k
        injection k with k
        injection k with k1 k2
        injection k1 with k1
        rw [← k1] at ht0
        rw [hr0] at ht0
        cases ht0
      · have k := keep hpa (fun _ z => nomatch z)
        rw [lp]
        exact up k (npr hR)
    · refine w_next ?_
      have A1 : Half K H1 L1 ⟨w1, h1, [], []⟩ r1 t1 := ⟨hP1, ok_empty b1.1 b1.2.1 b1.2.2.1 b1.2.2.2, rfl, ⟨[], e1 _ _ hr1, .nil⟩, e1 _ _ ht1⟩
      exact pure_law3 a s R p r0 r1 t0 t1 ns L0 L1 _ _ _ _ _ _ _ _ H0 H1 D E hS h63 eA (e1 _ _ hs) (e1 _ _ hR) hpa A0 A1 hnd nr (none_back e0 hd0) (none_back e0 hd1) g0 g1 ⟨out.1, out.2.1, out.2.2.1, out.2.2.2, npr hr0, npr hr1⟩ q
theorem pure_law (S : PicFx K) (vs : List V) (H : Hp) (Q : VK) (E : XK) (h : sp_law K vs H Q E) : t_law K E { nx := fun _ H' => Q .non H', rt := Q } (L2.start N_law vs) H := by
  obtain ⟨a, ns, rfl, hS, h63, q⟩ := h
  unfold t_law
  have rr : Same H H := fun _ _ e => e
  walk_at "w"
  refine ⟨by walk_at "len", fun s hs => ?_⟩
  have e0 := same_new (o := .lst []) hs
  walk_at "w"
  refine ⟨2, rfl, by decide, by decide, ?_⟩
  refine for_wk (wk_rng _ _) (fun i σ H' => (∃ z2 z3, σ = [some (.ref a), some (.ref s), z2, z3, none, none, none, none, none, none]) ∧ Same H H' ∧
      ∃ ts : List (Addr × Int × Int), ts.length = i ∧ H' s = some (.lst (ts.map fun t => V.ref t.1)) ∧ ∀ t ∈ ts, H' t.1 = some (.tup [.int t.2.1, .int t.2.2]) ∧ 1 ≤ t.2.1 ∧ t.2.1 ≤ 30 ∧ 1 ≤ t.2.2 ∧ t.2.2 ≤ 16)
    ⟨⟨_, _, rfl⟩, e0, [], rfl, upd_same, fun _ z => nomatch z⟩ (fun _ _ _ _ _ => trivial) ?_ ?_
  · rintro i x σ H' hx ⟨⟨z2, z3, rfl⟩, e1, ts, hl, hs1, hts⟩
    obtain ⟨hi, rfl⟩ := rgL_get hx
    rw [Int.zero_add]
    walk_at "w"
    refine ⟨a, ns, 0, rfl, e1.seq hS, by decide, by decide, ?_⟩
    walk_at "w"
    refine ⟨_, _, rfl, ?_⟩
    walk_at "w"
    have hm := lm_nn (lcell ns 0) (i : Int)
    generalize lmixed (lcell ns 0) (i : Int) = m at hm ⊢
    refine ⟨_, rfl, .inl ⟨rfl, _, sq_l hs1⟩, ?_⟩
    walk_at "w"
    refine w_rI (by decide) ?_
    walk_at "w"
    refine w_rI ⟨by decide, by decide⟩ ?_
    walk_at "w"
    refine w_rI (by decide) ?_
    walk_at "w"
    refine ⟨by walk_at "len", fun t ht => ?_⟩
    have e2 := same_new (o := .tup [.int (1 + m % 30), .int (1 + m / 30 % 16)]) ht
    refine w_nil ⟨s, _, _, rfl, rfl, e2 _ _ hs1, by rw [List.length_map, hl, sizeLine_eq]; omega, ?_⟩
    have hts' : s ≠ t := fun z => by
      rw [← z, hs1] at ht
      cases ht
    have e3 : Same H (upd (upd H' t (.tup [.int (1 + m % 30), .int (1 + m / 30 % 16)])) s (.lst (ts.map (fun t => V.ref t.1) ++ [V.ref t]))) := same_mut (e1.trans e2) hs
    walk_at "w"
    refine ⟨a, ns, 0, rfl, e3.seq hS, by decide, by decide, ?_⟩
    walk_at "w"
    refine ⟨_, _, rfl, ?_⟩
    walk_at "w"
    refine ⟨_, rfl, lm_nn _ _, fun H2 e4 => ?_⟩
    walk_at "w"
    refine ⟨⟨_, _, rfl⟩, e3.trans e4, ts ++ [(t, 1 + m % 30, 1 + m / 30 % 16)], by rw [List.length_append, hl]; rfl, ?_, fun t' ht' => ?_⟩
    · refine e4 _ _ ?_
      rw [upd_same, List.map_append]
      rfl
    · rcases List.mem_append.mp ht' with h | h
      · obtain ⟨g1, g2⟩ := hts t' h
        refine ⟨e4 _ _ ?_, g2⟩
        rw [upd_ne (fun z => by rw [z, hs1] at g1; cases g1)]
        exact e2 _ _ g1
      · rw [List.mem_singleton.mp h]
        refine ⟨e4 _ _ ?_, by show 1 ≤ 1 + m % 30; omega, by show 1 + m % 30 ≤ 30; omega, by show 1 ≤ 1 + m / 30 % 16; omega, by show 1 + m / 30 % 16 ≤ 16; omega⟩
        show upd _ s _ t = _
        rw [upd_ne (Ne.symm hts'), upd_same]
  · rintro σ H1 ⟨⟨z2, z3, rfl⟩, e1, ts, hl, hs1, hts⟩
    rw [rgL_len] at hl
    obtain ⟨⟨t0, w0, h0⟩, ⟨t1, w1, h1⟩, rfl⟩ : ∃ x y, ts = [x, y] := by
      match ts, hl with
      | [x, y], _ => exact ⟨x, y, rfl⟩
    obtain ⟨ht0, b0⟩ := hts _ (List.mem_cons_self ..)
    obtain ⟨ht1, b1⟩ := hts _ (List.mem_cons_of_mem _ (List.mem_cons_self ..))
    dsimp only at ht0 ht1 b0 b1
    clear hts hl
    walk_at "w"
    refine ⟨by walk_at "len", fun r0 hr0 => ?_⟩
    walk_at "w"
    refine ⟨by walk_at "len", fun r1 hr1 => ?_⟩
    walk_at "w"
    refine ⟨by walk_at "len", fun R hR => ?_⟩
    have f1 := same_new (o := .lst []) hr0
    have f2 := same_new (o := .lst []) hr1
    have f3 := same_new (o := .lst [.ref r0, .ref r1]) hR
    have n10 : r1 ≠ r0 := fun z => by
      rw [z, upd_same] at hr1
      cases hr1
    have nR1 : R ≠ r1 := fun z => by
      rw [z, upd_same] at hR
      cases hR
    have nR0 : R ≠ r0 := fun z => by
      rw [z, upd_ne (Ne.symm n10), upd_same] at hR
      cases hR
    have eB := (f1.trans f2).trans f3
    have k0 := f3 _ _ (f2 _ _ upd_same)
    have k1 := f3 _ _ (upd_same : upd (upd H1 r0 (.lst [])) r1 (.lst []) r1 = _)
    have g0 : H1 r0 = none := hr0
    have g1 : H1 r1 = none := none_back f1 hr1
    have gR : H1 R = none := none_back (f1.trans f2) hR
    have ns0 : s ≠ r0 := fun z => by
      rw [z, g0] at hs1
      cases hs1
    have ns1 : s ≠ r1 := fun z => by
      rw [z, g1] at hs1
      cases hs1
    have nsR : s ≠ R := fun z => by
      rw [z, gR] at hs1
      cases hs1
    have kR : upd (upd (upd H1 r0 (.lst [])) r1 (.lst [])) R (.lst [.ref r0, .ref r1]) R = some (.lst [.ref r0, .ref r1]) := upd_same
    generalize upd (upd (upd H1 r0 (.lst [])) r1 (.lst [])) R (.lst [.ref r0, .ref r1]) = H2 at eB k0 k1 kR ⊢
    clear f1 f2 f3 hr0 hr1 hR
    have eC := e1.trans eB
    walk_at "w"
    refine ⟨a, ns, 0, rfl, eC.seq hS, by decide, by decide, ?_⟩
    walk_at "w"
    refine ⟨_, _, rfl, ?_⟩
    walk_at "w"
    refine w_rI (by decide) ?_
    walk_at "w"
    have hs2 := eB _ _ hs1
    have ht02 := eB _ _ ht0
    have ht12 := eB _ _ ht1
    walk_at "if" <;> intro hb
    · walk_at "w"
      refine w_ixL (sq_l hs2) rfl ?_
      walk_at "w"
      refine w_ixT (sq_t ht12) rfl ?_
      walk_at "w"
      refine w_rI (by decide) ?_
      walk_at "w"
      refine w_ixL (sq_l hs2) rfl ?_
      walk_at "w"
      refine w_ixT (sq_t ht12) rfl ?_
      walk_at "w"
      refine w_rI (by decide) ?_
      walk_at "w"
      refine ⟨by walk_at "len", fun t ht => ?_⟩
      have e3 := same_new (o := .tup [.int (12 + w1 % 19), .int (12 + h1 % 5)]) ht
      have hs3 := e3 _ _ hs2
      refine ⟨_, rfl, s, _, _, 1, rfl, rfl, hs3, rfl, ?_⟩
      have up : ∀ {z : Addr} {o : HO}, upd H2 t (.tup [.int (12 + w1 % 19), .int (12 + h1 % 5)]) z = some o → z ≠ s → upd (upd H2 t (.tup [.int (12 + w1 % 19), .int (12 + h1 % 5)])) s (.lst ([V.ref t0, V.ref t1].set 1 (V.ref t))) z = some o := fun h n => by
        rw [upd_ne n]
        exact h
      have nts : ∀ {z : Addr} {xs : List V}, upd H2 t (.tup [.int (12 + w1 % 19), .int (12 + h1 % 5)]) z = some (.tup xs) → z ≠ s := fun h y => by
        rw [y, hs3] at h
        cases h
      refine pure_law2 a s R r0 r1 t0 t w0 h0 (12 + w1 % 19) (12 + h1 % 5) ns _ _ H _ _ E hS h63 (same_mut (eC.trans e3) hs) upd_same (up (e3 _ _ kR) (Ne.symm nsR)) (up (e3 _ _ k0) (Ne.symm ns0)) (up (e3 _ _ k1) (Ne.symm ns1)) (up (e3 _ _ ht02) (nts (e3 _ _ ht02))) (up upd_same (nts upd_same)) b0 ⟨by omega, by omega, by omega, by omega⟩ (fun _ => ⟨by omega, by omega⟩) (Ne.symm n10)
        (none_back e1 g0) (none_back e1 g1) (none_back e1 gR) ⟨ns0, ns1, nR0, nR1⟩ q S
    · refine w_next ?_
      exact pure_law2 a s R r0 r1 t0 t1 w0 h0 w1 h1 ns _ _ H H2 _ E hS h63 eC hs2 kR k0 k1 ht02 ht12 b0 b1 (fun z => absurd (by rw [z]) hb) (Ne.symm n10) (none_back e1 g0) (none_back e1 g1) (none_back e1 gR) ⟨ns0, ns1, nR0, nR1⟩ q S
end
end Rim
set_option Elab.async false
set_option linter.all false
set_option maxRecDepth 100000
set_option maxHeartbeats 4000000
namespace Rim
open PySem PySem.Spec PyProof.Rows L2
def t_NoName___init__ (K : PySem.W.Frag) (E : XK) : TS :=
  (tSeq (tDrop (tVeI K (tCons (tVar 0) (tCons (tC (.str ("no name" : Str))) tNil))))
    (tOst K "name" (tVar 0) (tVar 1)))
abbrev N_NoName___init__ : List Str := ["self", "name"]
def t_NoCell___init__ (K : PySem.W.Frag) (E : XK) : TS :=
  (tSeq (tDrop (tVeI K (tCons (tVar 0) (tCons (tC (.str ("no cell of the frame" : Str))) tNil))))
    (tSeq (tOst K "x" (tVar 0) (tVar 1))
    (tOst K "y" (tVar 0) (tVar 2))))
abbrev N_NoCell___init__ : List Str := ["self", "x", "y"]
def t_NoSides___init__ (K : PySem.W.Frag) (E : XK) : TS :=
  (tSeq (tDrop (tVeI K (tCons (tVar 0) (tCons (tC (.str ("neither left nor right nor both" : Str))) tNil))))
    (tOst K "sides" (tVar 0) (tVar 1)))
abbrev N_NoSides___init__ : List Str := ["self", "sides"]
def t_NoWindow___init__ (K : PySem.W.Frag) (E : XK) : TS :=
  (tSeq (tDrop (tVeI K (tCons (tVar 0) (tCons (tC (.str ("no window" : Str))) tNil))))
    (tSeq (tOst K "low" (tVar 0) (tVar 1))
    (tOst K "high" (tVar 0) (tVar 2))))
abbrev N_NoWindow___init__ : List Str := ["self", "low", "high"]
def t_OldPoint___init__ (K : PySem.W.Frag) (E : XK) : TS :=
  (tSeq (tDrop (tVeI K (tCons (tVar 0) (tCons (tC (.str ("a point has this name" : Str))) tNil))))
    (tOst K "name" (tVar 0) (tVar 1)))
abbrev N_OldPoint___init__ : List Str := ["self", "name"]
def t_SameColumn___init__ (K : PySem.W.Frag) (E : XK) : TS :=
  (tSeq (tDrop (tVeI K (tCons (tVar 0) (tCons (tC (.str ("a point lies in the column" : Str))) tNil))))
    (tOst K "name" (tVar 0) (tVar 1)))
abbrev N_SameColumn___init__ : List Str := ["self", "name"]
def t_SameRow___init__ (K : PySem.W.Frag) (E : XK) : TS :=
  (tSeq (tDrop (tVeI K (tCons (tVar 0) (tCons (tC (.str ("a point lies in the row" : Str))) tNil))))
    (tOst K "name" (tVar 0) (tVar 1)))
abbrev N_SameRow___init__ : List Str := ["self", "name"]
abbrev tellL : List (Str × Str) := [("NoName", "name"), ("NoCell", "x"), ("NoCell", "y"), ("NoSides", "sides"), ("NoWindow", "low"), ("NoWindow", "high"), ("OldPoint", "name"), ("SameColumn", "name"), ("SameRow", "name")]
def kTellFx : Chk := fun K => kErrFx LE K && tellL.all fun q => kNo q.1 q.2 K
theorem tellFx_of {K : PySem.W.Frag} (h : kTellFx K = true) : TellFx K := by
  obtain ⟨h1, h2⟩ := He.ba h
  exact ⟨errFx_of h1, fun q hq => He.noat_ok (List.all_eq_true.mp h2 q hq)⟩
theorem _root_.L2H.RoomH.units {k : Nat} {A : Around} (r : L2H.RoomH k A) : A.units + 64 < cLine := by
  have := r.un
  omega
theorem _root_.L2.Room.units65 {k : Nat} {A : Around} (r : Room k A) : A.units + 65 < cLine := by
  have := r.un
  omega
theorem _root_.L2.Room.units66 {k : Nat} {A : Around} (r : Room k A) : A.units + 66 < cLine := by
  have := r.un
  omega
end Rim
set_option Elab.async false
set_option linter.all false
set_option maxRecDepth 100000
set_option maxHeartbeats 4000000
namespace Rim
open PySem PySem.Spec PyProof.Rows L2
def top (i : Nat) : Stmt := PySem.Challenge.pw_rimnotes_k03_points_put.main.body.getD i (.Pass ⟨0, 0, 0, 0⟩)
abbrev s__law_cell : Stmt := top 35
theorem sc__law_cell : FnScope ["_law_script", "_law_k"] ["_law_script", "_law_k"] (defScope s__law_cell) := ⟨rfl, rfl, rfl, by decide +kernel, rfl, by decide +kernel, by decide +kernel⟩
abbrev s__law_mixed : Stmt := top 36
theorem sc__law_mixed : FnScope ["_law_cell_here", "_law_k", "_law_number"] ["_law_cell_here", "_law_k"] (defScope s__law_mixed) := ⟨rfl, rfl, rfl, by decide +kernel, rfl, by decide +kernel, by decide +kernel⟩
abbrev s__law_odd : Stmt := top 40
theorem sc__law_odd : FnScope ["_law_number", "_law_size", "_law_far"] ["_law_number", "_law_size"] (defScope s__law_odd) := ⟨rfl, rfl, rfl, by decide +kernel, rfl, by decide +kernel, by decide +kernel⟩
abbrev s_is_whole : Stmt := top 26
theorem sc_is_whole : FnScope ["thing", "low", "high"] ["thing", "low", "high"] (defScope s_is_whole) := ⟨rfl, rfl, rfl, by decide +kernel, rfl, by decide +kernel, by decide +kernel⟩
abbrev s_Picture___init__ : Stmt := inClass (top 33) 0
theorem sc_Picture___init__ : FnScope ["self", "width", "height"] ["self", "width", "height"] (defScope s_Picture___init__) := ⟨rfl, rfl, rfl, by decide +kernel, rfl, by decide +kernel, by decide +kernel⟩
abbrev s__law_no_size : Stmt := top 46
theorem sc__law_no_size : FnScope ["_law_number", "_law_size", "_law_at", "_law_error", "_law_e"] ["_law_number"] (defScope s__law_no_size) := ⟨rfl, rfl, rfl, by decide +kernel, rfl, by decide +kernel, by decide +kernel⟩
abbrev s_is_name : Stmt := top 27
theorem sc_is_name : FnScope ["thing"] ["thing"] (defScope s_is_name) := ⟨rfl, rfl, rfl, by decide +kernel, rfl, by decide +kernel, by decide +kernel⟩
abbrev s_NoName___init__ : Stmt := inClass (top 4) 0
theorem sc_NoName___init__ : FnScope ["self", "name"] ["self", "name"] (defScope s_NoName___init__) := ⟨rfl, rfl, rfl, by decide +kernel, rfl, by decide +kernel, by decide +kernel⟩
abbrev s_NoCell___init__ : Stmt := inClass (top 5) 0
theorem sc_NoCell___init__ : FnScope ["self", "x", "y"] ["self", "x", "y"] (defScope s_NoCell___init__) := ⟨rfl, rfl, rfl, by decide +kernel, rfl, by decide +kernel, by decide +kernel⟩
abbrev s_Picture_look_cell : Stmt := inClass (top 33) 2
theorem sc_Picture_look_cell : FnScope ["self", "x", "y"] ["self", "x", "y"] (defScope s_Picture_look_cell) := ⟨rfl, rfl, rfl, by decide +kernel, rfl, by decide +kernel, by decide +kernel⟩
abbrev s_NoSides___init__ : Stmt := inClass (top 6) 0
theorem sc_NoSides___init__ : FnScope ["self", "sides"] ["self", "sides"] (defScope s_NoSides___init__) := ⟨rfl, rfl, rfl, by decide +kernel, rfl, by decide +kernel, by decide +kernel⟩
abbrev s_NoWindow___init__ : Stmt := inClass (top 7) 0
theorem sc_NoWindow___init__ : FnScope ["self", "low", "high"] ["self", "low", "high"] (defScope s_NoWindow___init__) := ⟨rfl, rfl, rfl, by decide +kernel, rfl, by decide +kernel, by decide +kernel⟩
abbrev s_OldPoint___init__ : Stmt := inClass (top 8) 0
theorem sc_OldPoint___init__ : FnScope ["self", "name"] ["self", "name"] (defScope s_OldPoint___init__) := ⟨rfl, rfl, rfl, by decide +kernel, rfl, by decide +kernel, by decide +kernel⟩
abbrev s_SameColumn___init__ : Stmt := inClass (top 11) 0
theorem sc_SameColumn___init__ : FnScope ["self", "name"] ["self", "name"] (defScope s_SameColumn___init__) := ⟨rfl, rfl, rfl, by decide +kernel, rfl, by decide +kernel, by decide +kernel⟩
abbrev s_SameRow___init__ : Stmt := inClass (top 12) 0
theorem sc_SameRow___init__ : FnScope ["self", "name"] ["self", "name"] (defScope s_SameRow___init__) := ⟨rfl, rfl, rfl, by decide +kernel, rfl, by decide +kernel, by decide +kernel⟩
abbrev s_Picture_look_free : Stmt := inClass (top 33) 3
theorem sc_Picture_look_free : FnScope ["self", "x", "y", "name", "other"] ["self", "x", "y", "name"] (defScope s_Picture_look_free) := ⟨rfl, rfl, rfl, by decide +kernel, rfl, by decide +kernel, by decide +kernel⟩
abbrev s_Point___init__ : Stmt := inClass (top 32) 0
theorem sc_Point___init__ : FnScope ["self", "name", "x", "y", "sides", "low", "high"] ["self", "name", "x", "y", "sides", "low", "high"] (defScope s_Point___init__) := ⟨rfl, rfl, rfl, by decide +kernel, rfl, by decide +kernel, by decide +kernel⟩
abbrev s_Picture_put : Stmt := inClass (top 33) 5
theorem sc_Picture_put : FnScope ["self", "name", "x", "y", "sides", "low", "high"] ["self", "name", "x", "y", "sides", "low", "high"] (defScope s_Picture_put) := ⟨rfl, rfl, rfl, by decide +kernel, rfl, by decide +kernel, by decide +kernel⟩
abbrev s__law_eleven : Stmt := top 47
theorem sc__law_eleven : FnScope ["_law_picture", "_law_cell_here", "_law_rows", "_law_first", "_law_k", "_law_row"] ["_law_picture", "_law_cell_here"] (defScope s__law_eleven) := ⟨rfl, rfl, rfl, by decide +kernel, rfl, by decide +kernel, by decide +kernel⟩
abbrev s__law_args : Stmt := top 41
theorem sc__law_args : FnScope ["_law_cell_here", "_law_k", "_law_size", "_law_j", "_law_draws", "_law_width", "_law_height", "_law_args_here", "_law_low", "_law_at", "_law_odd_here"] ["_law_cell_here", "_law_k", "_law_size"] (defScope s__law_args) := ⟨rfl, rfl, rfl, by decide +kernel, rfl, by decide +kernel, by decide +kernel⟩
abbrev s__law_is_whole : Stmt := top 39
theorem sc__law_is_whole : FnScope ["_law_thing", "_law_low", "_law_high"] ["_law_thing", "_law_low", "_law_high"] (defScope s__law_is_whole) := ⟨rfl, rfl, rfl, by decide +kernel, rfl, by decide +kernel, by decide +kernel⟩
abbrev s__law_due : Stmt := top 42
theorem sc__law_due : FnScope ["_law_size", "_law_rows", "_law_args_here", "_law_name", "_law_x", "_law_y", "_law_sides", "_law_low", "_law_high", "_law_row", "_law_at"] ["_law_size", "_law_rows", "_law_args_here"] (defScope s__law_due) := ⟨rfl, rfl, rfl, by decide +kernel, rfl, by decide +kernel, by decide +kernel⟩
abbrev s__law_put : Stmt := top 43
theorem sc__law_put : FnScope ["_law_picture", "_law_args_here", "_law_many"] ["_law_picture", "_law_args_here", "_law_many"] (defScope s__law_put) := ⟨rfl, rfl, rfl, by decide +kernel, rfl, by decide +kernel, by decide +kernel⟩
abbrev s__law_told_more : Stmt := top 38
theorem sc__law_told_more : FnScope ["_law_e", "_law_found"] ["_law_e"] (defScope s__law_told_more) := ⟨rfl, rfl, rfl, by decide +kernel, rfl, by decide +kernel, by decide +kernel⟩
abbrev s__law_told : Stmt := top 37
theorem sc__law_told : FnScope ["_law_e", "_law_found"] ["_law_e"] (defScope s__law_told) := ⟨rfl, rfl, rfl, by decide +kernel, rfl, by decide +kernel, by decide +kernel⟩
abbrev s__law_tried : Stmt := top 44
theorem sc__law_tried : FnScope ["_law_picture", "_law_size", "_law_rows", "_law_args_here", "_law_many", "_law_due_args", "_law_due_here", "_law_told_here", "_law_e"] ["_law_picture", "_law_size", "_law_rows", "_law_args_here", "_law_many"] (defScope s__law_tried) := ⟨rfl, rfl, rfl, by decide +kernel, rfl, by decide +kernel, by decide +kernel⟩
abbrev s_Point_told : Stmt := inClass (top 32) 1
theorem sc_Point_told : FnScope ["self"] ["self"] (defScope s_Point_told) := ⟨rfl, rfl, rfl, by decide +kernel, rfl, by decide +kernel, by decide +kernel⟩
abbrev s_Picture_points : Stmt := inClass (top 33) 10
theorem sc_Picture_points : FnScope ["self", "point"] ["self"] (defScope s_Picture_points) := ⟨rfl, rfl, rfl, by decide +kernel, rfl, by decide +kernel, by decide +kernel⟩
abbrev s_Picture_seats : Stmt := inClass (top 33) 11
theorem sc_Picture_seats : FnScope ["self"] ["self"] (defScope s_Picture_seats) := ⟨rfl, rfl, rfl, by decide +kernel, rfl, by decide +kernel, by decide +kernel⟩
abbrev s__law_right : Stmt := top 45
theorem sc__law_right : FnScope ["_law_picture", "_law_size", "_law_rows", "_law_found", "_law_row", "_law_one"] ["_law_picture", "_law_size", "_law_rows"] (defScope s__law_right) := ⟨rfl, rfl, rfl, by decide +kernel, rfl, by decide +kernel, by decide +kernel⟩
abbrev s_law : Stmt := top 48
theorem sc_law : FnScope ["_law_script", "_law_sizes", "_law_j", "_law_number", "_law_rows", "_law_pictures", "_law_k", "_law_at", "_law_args_here", "_law_size"] ["_law_script"] (defScope s_law) := ⟨rfl, rfl, rfl, by decide +kernel, rfl, by decide +kernel, by decide +kernel⟩
/-- what the written part says -/
structure Txt (K : PySem.W.Frag) (mg : Str → Option Value) : Prop where
  g_BadDrawing : mg "BadDrawing" = some (.ref (cl K "BadDrawing"))
  g_BadLine : mg "BadLine" = some (.ref (cl K "BadLine"))
  g_NoCell : mg "NoCell" = some (.ref (cl K "NoCell"))
  g_NoLine : mg "NoLine" = some (.ref (cl K "NoLine"))
  g_NoName : mg "NoName" = some (.ref (cl K "NoName"))
  g_NoNotes : mg "NoNotes" = some (.ref (cl K "NoNotes"))
  g_NoPoint : mg "NoPoint" = some (.ref (cl K "NoPoint"))
  g_NoRoom : mg "NoRoom" = some (.ref (cl K "NoRoom"))
  g_NoRow : mg "NoRow" = some (.ref (cl K "NoRow"))
  g_NoSeat : mg "NoSeat" = some (.ref (cl K "NoSeat"))
  g_NoSide : mg "NoSide" = some (.ref (cl K "NoSide"))
  g_NoSides : mg "NoSides" = some (.ref (cl K "NoSides"))
  g_NoSize : mg "NoSize" = some (.ref (cl K "NoSize"))
  g_NoWindow : mg "NoWindow" = some (.ref (cl K "NoWindow"))
  g_OldPoint : mg "OldPoint" = some (.ref (cl K "OldPoint"))
  g_OldSeat : mg "OldSeat" = some (.ref (cl K "OldSeat"))
  g_Picture : mg "Picture" = some (.ref (cl K "Picture"))
  g_Point : mg "Point" = some (.ref (cl K "Point"))
  g_RimError : mg "RimError" = some (.ref (cl K "RimError"))
  g_SameColumn : mg "SameColumn" = some (.ref (cl K "SameColumn"))
  g_SameRow : mg "SameRow" = some (.ref (cl K "SameRow"))
  g_TooFull : mg "TooFull" = some (.ref (cl K "TooFull"))
  g_TooMany : mg "TooMany" = some (.ref (cl K "TooMany"))
  g_TooTall : mg "TooTall" = some (.ref (cl K "TooTall"))
  b_ValueError : mg "ValueError" = none
  b_bool : mg "bool" = none
  b_int : mg "int" = none
  b_isinstance : mg "isinstance" = none
  b_len : mg "len" = none
  b_list : mg "list" = none
  b_max : mg "max" = none
  b_min : mg "min" = none
  b_range : mg "range" = none
  b_sorted : mg "sorted" = none
  b_str : mg "str" = none
  b_tuple : mg "tuple" = none
  f__law_args : mg "_law_args" = some (.ref (He.fAd K ("_law_args", none)))
  k__law_args : PySem.W.keepIn K (.ref (He.fAd K ("_law_args", none))) = true
  f__law_cell : mg "_law_cell" = some (.ref (He.fAd K ("_law_cell", none)))
  k__law_cell : PySem.W.keepIn K (.ref (He.fAd K ("_law_cell", none))) = true
  f__law_due : mg "_law_due" = some (.ref (He.fAd K ("_law_due", none)))
  k__law_due : PySem.W.keepIn K (.ref (He.fAd K ("_law_due", none))) = true
  f__law_eleven : mg "_law_eleven" = some (.ref (He.fAd K ("_law_eleven", none)))
  k__law_eleven : PySem.W.keepIn K (.ref (He.fAd K ("_law_eleven", none))) = true
  f__law_is_whole : mg "_law_is_whole" = some (.ref (He.fAd K ("_law_is_whole", none)))
  k__law_is_whole : PySem.W.keepIn K (.ref (He.fAd K ("_law_is_whole", none))) = true
  f__law_mixed : mg "_law_mixed" = some (.ref (He.fAd K ("_law_mixed", none)))
  k__law_mixed : PySem.W.keepIn K (.ref (He.fAd K ("_law_mixed", none))) = true
  f__law_no_size : mg "_law_no_size" = some (.ref (He.fAd K ("_law_no_size", none)))
  k__law_no_size : PySem.W.keepIn K (.ref (He.fAd K ("_law_no_size", none))) = true
  f__law_odd : mg "_law_odd" = some (.ref (He.fAd K ("_law_odd", none)))
  k__law_odd : PySem.W.keepIn K (.ref (He.fAd K ("_law_odd", none))) = true
  f__law_put : mg "_law_put" = some (.ref (He.fAd K ("_law_put", none)))
  k__law_put : PySem.W.keepIn K (.ref (He.fAd K ("_law_put", none))) = true
  f__law_right : mg "_law_right" = some (.ref (He.fAd K ("_law_right", none)))
  k__law_right : PySem.W.keepIn K (.ref (He.fAd K ("_law_right", none))) = true
  f__law_told : mg "_law_told" = some (.ref (He.fAd K ("_law_told", none)))
  k__law_told : PySem.W.keepIn K (.ref (He.fAd K ("_law_told", none))) = true
  f__law_told_more : mg "_law_told_more" = some (.ref (He.fAd K ("_law_told_more", none)))
  k__law_told_more : PySem.W.keepIn K (.ref (He.fAd K ("_law_told_more", none))) = true
  f__law_tried : mg "_law_tried" = some (.ref (He.fAd K ("_law_tried", none)))
  k__law_tried : PySem.W.keepIn K (.ref (He.fAd K ("_law_tried", none))) = true
  f_is_name : mg "is_name" = some (.ref (He.fAd K ("is_name", none)))
  k_is_name : PySem.W.keepIn K (.ref (He.fAd K ("is_name", none))) = true
  f_is_whole : mg "is_whole" = some (.ref (He.fAd K ("is_whole", none)))
  k_is_whole : PySem.W.keepIn K (.ref (He.fAd K ("is_whole", none))) = true
  m_Picture_look_cell : Meth K (cl K "Picture") "look_cell" (He.fAd K ("Picture", some "look_cell"))
  m_Picture_look_free : Meth K (cl K "Picture") "look_free" (He.fAd K ("Picture", some "look_free"))
  m_Picture_points : Meth K (cl K "Picture") "points" (He.fAd K ("Picture", some "points"))
  m_Picture_put : Meth K (cl K "Picture") "put" (He.fAd K ("Picture", some "put"))
  m_Picture_seats : Meth K (cl K "Picture") "seats" (He.fAd K ("Picture", some "seats"))
  m_Point_told : Meth K (cl K "Point") "told" (He.fAd K ("Point", some "told"))
  c_Picture : Cls K (cl K "Picture")
  c_Point : Cls K (cl K "Point")
  mk_Picture : Mk K (cl K "Picture") (He.fAd K ("Picture", some "__init__"))
  mk_Point : Mk K (cl K "Point") (He.fAd K ("Point", some "__init__"))
  re_RimError : ReC K (cl K "RimError")
  x_NoCell : ErrC K (cl K "NoCell") (He.fAd K ("NoCell", some "__init__")) ["x", "y"]
  x_NoName : ErrC K (cl K "NoName") (He.fAd K ("NoName", some "__init__")) ["name"]
  x_NoSides : ErrC K (cl K "NoSides") (He.fAd K ("NoSides", some "__init__")) ["sides"]
  x_NoSize : Err0 K (cl K "NoSize")
  x_NoWindow : ErrC K (cl K "NoWindow") (He.fAd K ("NoWindow", some "__init__")) ["low", "high"]
  x_OldPoint : ErrC K (cl K "OldPoint") (He.fAd K ("OldPoint", some "__init__")) ["name"]
  x_SameColumn : ErrC K (cl K "SameColumn") (He.fAd K ("SameColumn", some "__init__")) ["name"]
  x_SameRow : ErrC K (cl K "SameRow") (He.fAd K ("SameRow", some "__init__")) ["name"]
  x_TooMany : Err0 K (cl K "TooMany")
  g_HIGHEST : ConstOk mg "HIGHEST" (.int 16)
  g_LETTERS : ConstOk mg "LETTERS" (.str "abcdefghijklmnopqrstuvwxyz")
  g_MOST_POINTS : ConstOk mg "MOST_POINTS" (.int 12)
  g_WIDEST : ConstOk mg "WIDEST" (.int 30)
  picFx : PicFx K
  tellFx : TellFx K
  g_law : mg "law" = some (.ref (cl K "law"))
def looks : List Chk := [kGlo "BadDrawing",
  kGlo "BadLine",
  kGlo "NoCell",
  kGlo "NoLine",
  kGlo "NoName",
  kGlo "NoNotes",
  kGlo "NoPoint",
  kGlo "NoRoom",
  kGlo "NoRow",
  kGlo "NoSeat",
  kGlo "NoSide",
  kGlo "NoSides",
  kGlo "NoSize",
  kGlo "NoWindow",
  kGlo "OldPoint",
  kGlo "OldSeat",
  kGlo "Picture",
  kGlo "Point",
  kGlo "RimError",
  kGlo "SameColumn",
  kGlo "SameRow",
  kGlo "TooFull",
  kGlo "TooMany",
  kGlo "TooTall",
  kFree "ValueError",
  kFree "bool",
  kFree "int",
  kFree "isinstance",
  kFree "len",
  kFree "list",
  kFree "max",
  kFree "min",
  kFree "range",
  kFree "sorted",
  kFree "str",
  kFree "tuple",
  kGlo "_law_args",
  (He.Fa.keep "_law_args").ok,
  kGlo "_law_cell",
  (He.Fa.keep "_law_cell").ok,
  kGlo "_law_due",
  (He.Fa.keep "_law_due").ok,
  kGlo "_law_eleven",
  (He.Fa.keep "_law_eleven").ok,
  kGlo "_law_is_whole",
  (He.Fa.keep "_law_is_whole").ok,
  kGlo "_law_mixed",
  (He.Fa.keep "_law_mixed").ok,
  kGlo "_law_no_size",
  (He.Fa.keep "_law_no_size").ok,
  kGlo "_law_odd",
  (He.Fa.keep "_law_odd").ok,
  kGlo "_law_put",
  (He.Fa.keep "_law_put").ok,
  kGlo "_law_right",
  (He.Fa.keep "_law_right").ok,
  kGlo "_law_told",
  (He.Fa.keep "_law_told").ok,
  kGlo "_law_told_more",
  (He.Fa.keep "_law_told_more").ok,
  kGlo "_law_tried",
  (He.Fa.keep "_law_tried").ok,
  kGlo "is_name",
  (He.Fa.keep "is_name").ok,
  kGlo "is_whole",
  (He.Fa.keep "is_whole").ok,
  kMeth "Picture" "look_cell" "Picture",
  kMeth "Picture" "look_free" "Picture",
  kMeth "Picture" "points" "Picture",
  kMeth "Picture" "put" "Picture",
  kMeth "Picture" "seats" "Picture",
  kMeth "Point" "told" "Point",
  kCls "Picture",
  kCls "Point",
  (fun K => kMk "Picture" K && kMeth "Picture" "__init__" "Picture" K),
  (fun K => kMk "Point" K && kMeth "Point" "__init__" "Point" K),
  kRe "RimError",
  kErr "NoCell" ["x", "y"],
  kErr "NoName" ["name"],
  kErr "NoSides" ["sides"],
  kErr0 "NoSize",
  kErr "NoWindow" ["low", "high"],
  kErr "OldPoint" ["name"],
  kErr "SameColumn" ["name"],
  kErr "SameRow" ["name"],
  kErr0 "TooMany",
  kInt "HIGHEST" 16,
  kStr "LETTERS" "abcdefghijklmnopqrstuvwxyz",
  kInt "MOST_POINTS" 12,
  kInt "WIDEST" 30,
  kPicFx,
  kTellFx,
  kGlo "law"]
section
variable {P : Program} {w : World} {K : PySem.W.Frag} {mg : Str → Option Value} {base : Heap}
abbrev FnP (K : PySem.W.Frag) (x q : Str) (st : Stmt) (dvs : List V) (f : Addr) (fd : FuncData) : Prop := FunD K x q (defArgs st) (defBody st) (defScope st) dvs [] f fd
set_option maxHeartbeats 4000000 in
theorem ok__law_cell (T : Txt K mg) {fd : FuncData} (F : FnP K "_law_cell" "_law_cell" s__law_cell [] (He.fAd K ("_law_cell", none)) fd) :
    FnOk P w K mg base (L2.CX P w) 1 (He.fAd K ("_law_cell", none)) fd ["_law_script", "_law_k"] (sp__law_cell K) := by
  refine F.ok sc__law_cell (fun vs H Q E h => ?_) (fun cdv A outer s H vs Q E hr h => ⟨t__law_cell K E, ?_, pure__law_cell vs H Q E h⟩)
  · first | (obtain ⟨_, rfl, _⟩ := h; rfl) | (obtain ⟨_, _, rfl, _⟩ := h; rfl) | (obtain ⟨_, _, _, rfl, _⟩ := h; rfl) | (obtain ⟨_, _, _, _, rfl, _⟩ := h; rfl) | (obtain ⟨_, _, _, _, _, rfl, _⟩ := h; rfl) | (obtain ⟨_, _, _, _, _, _, rfl, _⟩ := h; rfl) | (obtain ⟨_, _, _, _, _, _, _, rfl, _⟩ := h; rfl) | (obtain ⟨_, _, _, _, _, _, _, _, rfl, _⟩ := h; rfl) | (obtain ⟨_, _, _, _, _, _, _, _, _, rfl, _⟩ := h; rfl) | (obtain ⟨_, _, _, _, _, _, _, _, _, _, rfl, _⟩ := h; rfl) | (obtain ⟨_, _, _, _, _, _, _, _, _, _, _, rfl, _⟩ := h; rfl) | (obtain ⟨_, _, _, _, _, _, _, _, _, _, _, _, rfl, _⟩ := h; rfl) | (obtain ⟨_, _, _, rfl, hl, _⟩ := h; simp [hl])
  · skip
    exact (pss_cons (ps_if (pt_cmpR op_lt (pv 1) (pe_callB call_len_seq (by rfl) T.b_len (by decide +kernel) (pa_cons (pv 0) pa_nil)) (nomark _)) (pss_one (ps_ret (pe_ix ix_list (pv 0) (pv 1) (fun _ _ => rfl)))) pss_nil)
    (pss_one (ps_ret (pe_op op_add (pe_op op_mul pe_int (pv 1)) pe_int))))
set_option maxHeartbeats 4000000 in
theorem ok__law_mixed (T : Txt K mg) {fd : FuncData} (F : FnP K "_law_mixed" "_law_mixed" s__law_mixed [] (He.fAd K ("_law_mixed", none)) fd) :
    FnOk P w K mg base (L2.CX P w) 1 (He.fAd K ("_law_mixed", none)) fd ["_law_cell_here", "_law_k"] (sp__law_mixed K) := by
  refine F.ok sc__law_mixed (fun vs H Q E h => ?_) (fun cdv A outer s H vs Q E hr h => ⟨t__law_mixed K E, ?_, pure__law_mixed vs H Q E h⟩)
  · first | (obtain ⟨_, rfl, _⟩ := h; rfl) | (obtain ⟨_, _, rfl, _⟩ := h; rfl) | (obtain ⟨_, _, _, rfl, _⟩ := h; rfl) | (obtain ⟨_, _, _, _, rfl, _⟩ := h; rfl) | (obtain ⟨_, _, _, _, _, rfl, _⟩ := h; rfl) | (obtain ⟨_, _, _, _, _, _, rfl, _⟩ := h; rfl) | (obtain ⟨_, _, _, _, _, _, _, rfl, _⟩ := h; rfl) | (obtain ⟨_, _, _, _, _, _, _, _, rfl, _⟩ := h; rfl) | (obtain ⟨_, _, _, _, _, _, _, _, _, rfl, _⟩ := h; rfl) | (obtain ⟨_, _, _, _, _, _, _, _, _, _, rfl, _⟩ := h; rfl) | (obtain ⟨_, _, _, _, _, _, _, _, _, _, _, rfl, _⟩ := h; rfl) | (obtain ⟨_, _, _, _, _, _, _, _, _, _, _, _, rfl, _⟩ := h; rfl) | (obtain ⟨_, _, _, rfl, hl, _⟩ := h; simp [hl])
  · skip
    exact (pss_cons (ps_set (i := 2) sc__law_mixed.nd rfl (by first | exact Or.inl rfl | exact Or.inr rfl) (pe_op op_mod (pe_op op_add (pv 0) (pe_op op_mul pe_int (pv 1))) pe_int))
    (pss_cons (ps_set (i := 2) sc__law_mixed.nd rfl (by first | exact Or.inl rfl | exact Or.inr rfl) (pe_op op_mod (pe_op op_add (pe_op op_mul (pv 2) pe_int) (pv 1)) pe_int))
    (pss_cons (ps_set (i := 2) sc__law_mixed.nd rfl (by first | exact Or.inl rfl | exact Or.inr rfl) (pe_op op_mod (pe_op op_mul (pv 2) (pe_op op_add (pv 2) pe_int)) pe_int))
    (pss_one (ps_ret (pe_op op_mod (pe_op op_mul (pv 2) (pe_op op_add (pv 2) pe_int)) pe_int))))))
set_option maxHeartbeats 4000000 in
theorem ok__law_odd (T : Txt K mg) {fd : FuncData} (F : FnP K "_law_odd" "_law_odd" s__law_odd [] (He.fAd K ("_law_odd", none)) fd) :
    FnOk P w K mg base (L2.CX P w) 1 (He.fAd K ("_law_odd", none)) fd ["_law_number", "_law_size"] (sp__law_odd K) := by
  refine F.ok sc__law_odd (fun vs H Q E h => ?_) (fun cdv A outer s H vs Q E hr h => ⟨t__law_odd K E, ?_, pure__law_odd vs H Q E h⟩)
  · first | (obtain ⟨_, rfl, _⟩ := h; rfl) | (obtain ⟨_, _, rfl, _⟩ := h; rfl) | (obtain ⟨_, _, _, rfl, _⟩ := h; rfl) | (obtain ⟨_, _, _, _, rfl, _⟩ := h; rfl) | (obtain ⟨_, _, _, _, _, rfl, _⟩ := h; rfl) | (obtain ⟨_, _, _, _, _, _, rfl, _⟩ := h; rfl) | (obtain ⟨_, _, _, _, _, _, _, rfl, _⟩ := h; rfl) | (obtain ⟨_, _, _, _, _, _, _, _, rfl, _⟩ := h; rfl) | (obtain ⟨_, _, _, _, _, _, _, _, _, rfl, _⟩ := h; rfl) | (obtain ⟨_, _, _, _, _, _, _, _, _, _, rfl, _⟩ := h; rfl) | (obtain ⟨_, _, _, _, _, _, _, _, _, _, _, rfl, _⟩ := h; rfl) | (obtain ⟨_, _, _, _, _, _, _, _, _, _, _, _, rfl, _⟩ := h; rfl) | (obtain ⟨_, _, _, rfl, hl, _⟩ := h; simp [hl])
  · skip
    exact (pss_cons (ps_set (i := 2) sc__law_odd.nd rfl (by first | exact Or.inl rfl | exact Or.inr rfl) (pe_op op_add (pe_op op_add (pv 1) pe_int) (pe_op op_mul (pe_op op_mod (pe_op op_fdiv (pv 0) pe_int) (pe_op op_pow pe_int pe_int)) (pe_op op_pow pe_int pe_int))))
    (pss_one (ps_ret (pe_ix ix_list (pe_lst (pa_cons pe_int (pa_cons (pe_op op_add (pv 1) pe_int) (pa_cons (pe_op op_sub pe_int (pv 2)) (pa_cons (pv 2) (pa_cons pe_bl (pa_cons pe_non (pa_cons pe_str (pa_cons (pe_lst (pa_cons pe_int pa_nil)) (pa_cons (pe_tup (pa_cons pe_int pa_nil)) pa_nil)))))))))) (pe_op op_mod (pv 0) pe_int) (fun _ _ => rfl)))))
set_option maxHeartbeats 4000000 in
theorem ok_is_whole (T : Txt K mg) {fd : FuncData} (F : FnP K "is_whole" "is_whole" s_is_whole [] (He.fAd K ("is_whole", none)) fd) :
    FnOk P w K mg base (L2.CX P w) 1 (He.fAd K ("is_whole", none)) fd ["thing", "low", "high"] (sp_is_whole K) := by
  refine F.ok sc_is_whole (fun vs H Q E h => ?_) (fun cdv A outer s H vs Q E hr h => ⟨t_is_whole K E, ?_, pure_is_whole vs H Q E h⟩)
  · first | (obtain ⟨_, rfl, _⟩ := h; rfl) | (obtain ⟨_, _, rfl, _⟩ := h; rfl) | (obtain ⟨_, _, _, rfl, _⟩ := h; rfl) | (obtain ⟨_, _, _, _, rfl, _⟩ := h; rfl) | (obtain ⟨_, _, _, _, _, rfl, _⟩ := h; rfl) | (obtain ⟨_, _, _, _, _, _, rfl, _⟩ := h; rfl) | (obtain ⟨_, _, _, _, _, _, _, rfl, _⟩ := h; rfl) | (obtain ⟨_, _, _, _, _, _, _, _, rfl, _⟩ := h; rfl) | (obtain ⟨_, _, _, _, _, _, _, _, _, rfl, _⟩ := h; rfl) | (obtain ⟨_, _, _, _, _, _, _, _, _, _, rfl, _⟩ := h; rfl) | (obtain ⟨_, _, _, _, _, _, _, _, _, _, _, rfl, _⟩ := h; rfl) | (obtain ⟨_, _, _, _, _, _, _, _, _, _, _, _, rfl, _⟩ := h; rfl) | (obtain ⟨_, _, _, rfl, hl, _⟩ := h; simp [hl])
  · skip
    exact (pss_cons (ps_if (PW.pt (pw_or (pt_not (pt_val (pe_callB call_isi (by rfl) T.b_isinstance (by decide +kernel) (pa_cons (pv 0) (pa_cons (pe_bltn (by rfl) T.b_int (by decide +kernel) rfl) pa_nil))))) (pw_or1 (pt_val (pe_callB call_isi (by rfl) T.b_isinstance (by decide +kernel) (pa_cons (pv 0) (pa_cons (pe_bltn (by rfl) T.b_bool (by decide +kernel) rfl) pa_nil))))))) (pss_one (ps_ret pe_bl)) pss_nil)
    (pss_one (ps_ret (pe_chain op_le op_le (pv 1) (pv 0) (pv 2)))))
set_option maxHeartbeats 4000000 in
theorem ok_Picture___init__ (T : Txt K mg) {fd : FuncData} (F : FnP K "__init__" "Picture.__init__" s_Picture___init__ [] (He.fAd K ("Picture", some "__init__")) fd)
    {fd_is_whole : FuncData} (G_is_whole : FnOk P w K mg base (L2.CX P w) 1 (He.fAd K ("is_whole", none)) fd_is_whole ["thing", "low", "high"] (sp_is_whole K))
    (b_is_whole : Binds K fd_is_whole ["thing", "low", "high"] []) :
    FnOk P w K mg base (L2.CX P w) 2 (He.fAd K ("Picture", some "__init__")) fd ["self", "width", "height"] (sp_Picture___init__ K) := by
  refine F.ok sc_Picture___init__ (fun vs H Q E h => ?_) (fun cdv A outer s H vs Q E hr h => ⟨t_Picture___init__ K E, ?_, pure_Picture___init__ T.picFx vs H Q E h⟩)
  · first | (obtain ⟨_, rfl, _⟩ := h; rfl) | (obtain ⟨_, _, rfl, _⟩ := h; rfl) | (obtain ⟨_, _, _, rfl, _⟩ := h; rfl) | (obtain ⟨_, _, _, _, rfl, _⟩ := h; rfl) | (obtain ⟨_, _, _, _, _, rfl, _⟩ := h; rfl) | (obtain ⟨_, _, _, _, _, _, rfl, _⟩ := h; rfl) | (obtain ⟨_, _, _, _, _, _, _, rfl, _⟩ := h; rfl) | (obtain ⟨_, _, _, _, _, _, _, _, rfl, _⟩ := h; rfl) | (obtain ⟨_, _, _, _, _, _, _, _, _, rfl, _⟩ := h; rfl) | (obtain ⟨_, _, _, _, _, _, _, _, _, _, rfl, _⟩ := h; rfl) | (obtain ⟨_, _, _, _, _, _, _, _, _, _, _, rfl, _⟩ := h; rfl) | (obtain ⟨_, _, _, _, _, _, _, _, _, _, _, _, rfl, _⟩ := h; rfl) | (obtain ⟨_, _, _, rfl, hl, _⟩ := h; simp [hl])
  · skip
    exact (pss_cons (ps_if (PW.pt (pw_or (pt_not (pt_val (pe_call G_is_whole (hr.mono (by decide)) rfl T.f_is_whole T.k_is_whole b_is_whole .nil passE (pa_cons (pv 1) (pa_cons pe_int (pa_cons (pe_gk rfl T.g_WIDEST) pa_nil)))))) (pw_or1 (pt_not (pt_val (pe_call G_is_whole (hr.mono (by decide)) rfl T.f_is_whole T.k_is_whole b_is_whole .nil passE (pa_cons (pv 2) (pa_cons pe_int (pa_cons (pe_gk rfl T.g_HIGHEST) pa_nil))))))))) (pss_one (ps_raise0 T.x_NoSize T.g_NoSize takesE)) pss_nil)
    (pss_cons (ps_fld (pv 0) (pv 1) rfl)
    (pss_cons (ps_fld (pv 0) (pv 2) rfl)
    (pss_cons (ps_fld (pv 0) pe_dnewK rfl)
    (pss_one (ps_fld (pv 0) pe_dnewT rfl))))))
set_option maxHeartbeats 4000000 in
theorem ok__law_no_size (T : Txt K mg) {fd : FuncData} (F : FnP K "_law_no_size" "_law_no_size" s__law_no_size [] (He.fAd K ("_law_no_size", none)) fd)
    {fd__law_odd : FuncData} (G__law_odd : FnOk P w K mg base (L2.CX P w) 1 (He.fAd K ("_law_odd", none)) fd__law_odd ["_law_number", "_law_size"] (sp__law_odd K))
    (b__law_odd : Binds K fd__law_odd ["_law_number", "_law_size"] [])
    {fd_Picture___init__ : FuncData} (G_Picture___init__ : FnOk P w K mg base (L2.CX P w) 2 (He.fAd K ("Picture", some "__init__")) fd_Picture___init__ ["self", "width", "height"] (sp_Picture___init__ K))
    (b_Picture___init__ : Binds K fd_Picture___init__ ["self", "width", "height"] []) :
    FnOk P w K mg base (L2.CX P w) 4 (He.fAd K ("_law_no_size", none)) fd ["_law_number"] (sp__law_no_size K) := by
  refine F.ok sc__law_no_size (fun vs H Q E h => ?_) (fun cdv A outer s H vs Q E hr h => ⟨t__law_no_size K E, ?_, pure__law_no_size T.picFx T.tellFx vs H Q E h⟩)
  · first | (obtain ⟨_, rfl, _⟩ := h; rfl) | (obtain ⟨_, _, rfl, _⟩ := h; rfl) | (obtain ⟨_, _, _, rfl, _⟩ := h; rfl) | (obtain ⟨_, _, _, _, rfl, _⟩ := h; rfl) | (obtain ⟨_, _, _, _, _, rfl, _⟩ := h; rfl) | (obtain ⟨_, _, _, _, _, _, rfl, _⟩ := h; rfl) | (obtain ⟨_, _, _, _, _, _, _, rfl, _⟩ := h; rfl) | (obtain ⟨_, _, _, _, _, _, _, _, rfl, _⟩ := h; rfl) | (obtain ⟨_, _, _, _, _, _, _, _, _, rfl, _⟩ := h; rfl) | (obtain ⟨_, _, _, _, _, _, _, _, _, _, rfl, _⟩ := h; rfl) | (obtain ⟨_, _, _, _, _, _, _, _, _, _, _, rfl, _⟩ := h; rfl) | (obtain ⟨_, _, _, _, _, _, _, _, _, _, _, _, rfl, _⟩ := h; rfl) | (obtain ⟨_, _, _, rfl, hl, _⟩ := h; simp [hl])
  · skip
    exact (pss_cons (ps_set (i := 1) sc__law_no_size.nd rfl (by first | exact Or.inl rfl | exact Or.inr rfl) (pe_lst (pa_cons (pe_op op_add pe_int (pe_op op_mod (pv 0) pe_int)) (pa_cons (pe_op op_add pe_int (pe_op op_mod (pe_op op_fdiv (pv 0) pe_int) pe_int)) pa_nil))))
    (pss_cons (ps_set (i := 2) sc__law_no_size.nd rfl (by first | exact Or.inl rfl | exact Or.inr rfl) (pe_op op_mod (pe_op op_fdiv (pv 0) pe_int) pe_int))
    (pss_cons (ps_asg (pe_call G__law_odd (hr.mono (by decide)) rfl T.f__law_odd T.k__law_odd b__law_odd .nil passE (pa_cons (pe_op op_fdiv (pv 0) pe_int) (pa_cons (pe_ix ix_list (pe_lst (pa_cons pe_int (pa_cons pe_int pa_nil))) (pv 2) (fun _ _ => rfl)) pa_nil))) (pg_sub (pv 1) (pv 2) set_list))
    (pss_cons (ps_set (i := 3) sc__law_no_size.nd rfl (by first | exact Or.inl rfl | exact Or.inr rfl) pe_non)
    (pss_cons (ps_try_trk (tb := fun W => tb1__law_no_size K E W) (Wout := fun cls d _ H => E cls d H) (l₀ := [⟨.ref (cl K "RimError"), some 4, fun ae cls dd => ts1a__law_no_size K E ae cls dd⟩]) rfl rfl sc__law_no_size.nd takesE
  (fun W pn xe tk po => (pss_one (ps_expr (pe_makeS T.mk_Picture G_Picture___init__ (hr.mono (by decide)) rfl T.g_Picture b_Picture___init__ .nil (fun σ => passAt tk σ) (pa_cons (pe_ix ix_list (pv 1) pe_int (fun _ _ => rfl)) (pa_cons (pe_ix ix_list (pv 1) pe_int (fun _ _ => rfl)) pa_nil))))))
  (.as rfl rfl ⟨rfl, by decide, Or.inl T.g_RimError⟩ (fun ae cls dd pn => (pss_one (ps_set (i := 3) sc__law_no_size.nd rfl (by first | exact Or.inl rfl | exact Or.inr rfl) (pv 4)))) .nil))
    (pss_cons (ps_if (PW.pt (pw_or (pt_not (pt_val (pe_callB call_isA (by rfl) T.b_isinstance (by decide +kernel) (pa_cons (pv 3) (pa_cons (pe_glob rfl T.g_NoSize rfl) pa_nil))))) (pw_or1 (pt_not (pt_val (pe_callB call_isA (by rfl) T.b_isinstance (by decide +kernel) (pa_cons (pv 3) (pa_cons (pe_bltn (by rfl) T.b_ValueError (by decide +kernel) rfl) pa_nil)))))))) (pss_one (ps_ret pe_bl)) pss_nil)
    (pss_one (ps_ret (pe_not (pe_callB call_isAT (by rfl) T.b_isinstance (by decide +kernel) (pa_cons (pv 3) (pa_cons (pe_tup (pa_cons (pe_glob rfl T.g_NoCell rfl) (pa_cons (pe_glob rfl T.g_NoRow rfl) (pa_cons (pe_glob rfl T.g_NoName rfl) (pa_cons (pe_glob rfl T.g_NoSide rfl) (pa_cons (pe_glob rfl T.g_TooMany rfl) (pa_cons (pe_glob rfl T.g_NoWindow rfl) pa_nil))))))) pa_nil))))))))))))
set_option maxHeartbeats 4000000 in
theorem ok_is_name (T : Txt K mg) {fd : FuncData} (F : FnP K "is_name" "is_name" s_is_name [] (He.fAd K ("is_name", none)) fd) :
    FnOk P w K mg base (L2.CX P w) 1 (He.fAd K ("is_name", none)) fd ["thing"] (sp_is_name K) := by
  refine F.ok sc_is_name (fun vs H Q E h => ?_) (fun cdv A outer s H vs Q E hr h => ⟨t_is_name K E, ?_, pure_is_name vs H Q E h⟩)
  · first | (obtain ⟨_, rfl, _⟩ := h; rfl) | (obtain ⟨_, _, rfl, _⟩ := h; rfl) | (obtain ⟨_, _, _, rfl, _⟩ := h; rfl) | (obtain ⟨_, _, _, _, rfl, _⟩ := h; rfl) | (obtain ⟨_, _, _, _, _, rfl, _⟩ := h; rfl) | (obtain ⟨_, _, _, _, _, _, rfl, _⟩ := h; rfl) | (obtain ⟨_, _, _, _, _, _, _, rfl, _⟩ := h; rfl) | (obtain ⟨_, _, _, _, _, _, _, _, rfl, _⟩ := h; rfl) | (obtain ⟨_, _, _, _, _, _, _, _, _, rfl, _⟩ := h; rfl) | (obtain ⟨_, _, _, _, _, _, _, _, _, _, rfl, _⟩ := h; rfl) | (obtain ⟨_, _, _, _, _, _, _, _, _, _, _, rfl, _⟩ := h; rfl) | (obtain ⟨_, _, _, _, _, _, _, _, _, _, _, _, rfl, _⟩ := h; rfl) | (obtain ⟨_, _, _, rfl, hl, _⟩ := h; simp [hl])
  · skip
    exact (pss_one (ps_ret (pe_and (pe_callB call_isi (by rfl) T.b_isinstance (by decide +kernel) (pa_cons (pv 0) (pa_cons (pe_bltn (by rfl) T.b_str (by decide +kernel) rfl) pa_nil))) (pe_and (pe_cmpR op_eq (pe_callB call_len_str (by rfl) T.b_len (by decide +kernel) (pa_cons (pv 0) pa_nil)) pe_int (nomark _)) (pe_one (pe_cmpR op_in_sign (pv 0) (pe_gk rfl T.g_LETTERS) (by rfl)))))))
set_option maxHeartbeats 4000000 in
theorem ok_NoName___init__ (T : Txt K mg) {fd : FuncData} (F : FnP K "__init__" "NoName.__init__" s_NoName___init__ [] (He.fAd K ("NoName", some "__init__")) fd) :
    FnOk P w K mg base (L2.CX P w) 1 (He.fAd K ("NoName", some "__init__")) fd ["self", "name"] (sp_NoName___init__ K) := by
  refine F.ok sc_NoName___init__ (fun vs H Q E h => ?_) (fun cdv A outer s H vs Q E hr h => ⟨t_NoName___init__ K E, ?_, pure_err1 vs H Q E h⟩)
  · first | (obtain ⟨_, rfl, _⟩ := h; rfl) | (obtain ⟨_, _, rfl, _⟩ := h; rfl) | (obtain ⟨_, _, _, rfl, _⟩ := h; rfl) | (obtain ⟨_, _, _, _, rfl, _⟩ := h; rfl) | (obtain ⟨_, _, _, _, _, rfl, _⟩ := h; rfl) | (obtain ⟨_, _, _, _, _, _, rfl, _⟩ := h; rfl) | (obtain ⟨_, _, _, _, _, _, _, rfl, _⟩ := h; rfl) | (obtain ⟨_, _, _, _, _, _, _, _, rfl, _⟩ := h; rfl) | (obtain ⟨_, _, _, _, _, _, _, _, _, rfl, _⟩ := h; rfl) | (obtain ⟨_, _, _, _, _, _, _, _, _, _, rfl, _⟩ := h; rfl) | (obtain ⟨_, _, _, _, _, _, _, _, _, _, _, rfl, _⟩ := h; rfl) | (obtain ⟨_, _, _, _, _, _, _, _, _, _, _, _, rfl, _⟩ := h; rfl) | (obtain ⟨_, _, _, rfl, hl, _⟩ := h; simp [hl])
  · skip
    exact (pss_cons (ps_expr (pe_reinit rfl T.g_RimError T.re_RimError (pa_cons (pv 0) (pa_cons pe_str pa_nil))))
    (pss_one (ps_ost (pv 0) (pv 1))))
set_option maxHeartbeats 4000000 in
theorem ok_NoCell___init__ (T : Txt K mg) {fd : FuncData} (F : FnP K "__init__" "NoCell.__init__" s_NoCell___init__ [] (He.fAd K ("NoCell", some "__init__")) fd) :
    FnOk P w K mg base (L2.CX P w) 1 (He.fAd K ("NoCell", some "__init__")) fd ["self", "x", "y"] (sp_NoCell___init__ K) := by
  refine F.ok sc_NoCell___init__ (fun vs H Q E h => ?_) (fun cdv A outer s H vs Q E hr h => ⟨t_NoCell___init__ K E, ?_, pure_err2 vs H Q E h⟩)
  · first | (obtain ⟨_, rfl, _⟩ := h; rfl) | (obtain ⟨_, _, rfl, _⟩ := h; rfl) | (obtain ⟨_, _, _, rfl, _⟩ := h; rfl) | (obtain ⟨_, _, _, _, rfl, _⟩ := h; rfl) | (obtain ⟨_, _, _, _, _, rfl, _⟩ := h; rfl) | (obtain ⟨_, _, _, _, _, _, rfl, _⟩ := h; rfl) | (obtain ⟨_, _, _, _, _, _, _, rfl, _⟩ := h; rfl) | (obtain ⟨_, _, _, _, _, _, _, _, rfl, _⟩ := h; rfl) | (obtain ⟨_, _, _, _, _, _, _, _, _, rfl, _⟩ := h; rfl) | (obtain ⟨_, _, _, _, _, _, _, _, _, _, rfl, _⟩ := h; rfl) | (obtain ⟨_, _, _, _, _, _, _, _, _, _, _, rfl, _⟩ := h; rfl) | (obtain ⟨_, _, _, _, _, _, _, _, _, _, _, _, rfl, _⟩ := h; rfl) | (obtain ⟨_, _, _, rfl, hl, _⟩ := h; simp [hl])
  · skip
    exact (pss_cons (ps_expr (pe_reinit rfl T.g_RimError T.re_RimError (pa_cons (pv 0) (pa_cons pe_str pa_nil))))
    (pss_cons (ps_ost (pv 0) (pv 1))
    (pss_one (ps_ost (pv 0) (pv 2)))))
set_option maxHeartbeats 4000000 in
theorem ok_Picture_look_cell (T : Txt K mg) {fd : FuncData} (F : FnP K "look_cell" "Picture.look_cell" s_Picture_look_cell [] (He.fAd K ("Picture", some "look_cell")) fd)
    {fd_is_whole : FuncData} (G_is_whole : FnOk P w K mg base (L2.CX P w) 1 (He.fAd K ("is_whole", none)) fd_is_whole ["thing", "low", "high"] (sp_is_whole K))
    (b_is_whole : Binds K fd_is_whole ["thing", "low", "high"] [])
    {fd_NoCell___init__ : FuncData} (G_NoCell___init__ : FnOk P w K mg base (L2.CX P w) 1 (He.fAd K ("NoCell", some "__init__")) fd_NoCell___init__ ["self", "x", "y"] (sp_NoCell___init__ K))
    (b_NoCell___init__ : Binds K fd_NoCell___init__ ["self", "x", "y"] []) :
    FnOk P w K mg base (L2.CX P w) 3 (He.fAd K ("Picture", some "look_cell")) fd ["self", "x", "y"] (sp_Picture_look_cell K) := by
  refine F.ok sc_Picture_look_cell (fun vs H Q E h => ?_) (fun cdv A outer s H vs Q E hr h => ⟨t_Picture_look_cell K E, ?_, pure_Picture_look_cell T.picFx vs H Q E h⟩)
  · first | (obtain ⟨_, rfl, _⟩ := h; rfl) | (obtain ⟨_, _, rfl, _⟩ := h; rfl) | (obtain ⟨_, _, _, rfl, _⟩ := h; rfl) | (obtain ⟨_, _, _, _, rfl, _⟩ := h; rfl) | (obtain ⟨_, _, _, _, _, rfl, _⟩ := h; rfl) | (obtain ⟨_, _, _, _, _, _, rfl, _⟩ := h; rfl) | (obtain ⟨_, _, _, _, _, _, _, rfl, _⟩ := h; rfl) | (obtain ⟨_, _, _, _, _, _, _, _, rfl, _⟩ := h; rfl) | (obtain ⟨_, _, _, _, _, _, _, _, _, rfl, _⟩ := h; rfl) | (obtain ⟨_, _, _, _, _, _, _, _, _, _, rfl, _⟩ := h; rfl) | (obtain ⟨_, _, _, _, _, _, _, _, _, _, _, rfl, _⟩ := h; rfl) | (obtain ⟨_, _, _, _, _, _, _, _, _, _, _, _, rfl, _⟩ := h; rfl) | (obtain ⟨_, _, _, rfl, hl, _⟩ := h; simp [hl])
  · skip
    exact (pss_one (ps_if (PW.pt (pw_or (pt_not (pt_val (pe_call G_is_whole (hr.mono (by decide)) rfl T.f_is_whole T.k_is_whole b_is_whole .nil passE (pa_cons (pv 1) (pa_cons pe_int (pa_cons (pe_fld (pv 0) rfl) pa_nil)))))) (pw_or1 (pt_not (pt_val (pe_call G_is_whole (hr.mono (by decide)) rfl T.f_is_whole T.k_is_whole b_is_whole .nil passE (pa_cons (pv 2) (pa_cons pe_int (pa_cons (pe_fld (pv 0) rfl) pa_nil))))))))) (pss_one (ps_raiseE T.x_NoCell G_NoCell___init__ (hr.mono (by decide)) b_NoCell___init__ T.g_NoCell takesE (pa_cons (pv 1) (pa_cons (pv 2) pa_nil)))) pss_nil))
set_option maxHeartbeats 4000000 in
theorem ok_NoSides___init__ (T : Txt K mg) {fd : FuncData} (F : FnP K "__init__" "NoSides.__init__" s_NoSides___init__ [] (He.fAd K ("NoSides", some "__init__")) fd) :
    FnOk P w K mg base (L2.CX P w) 1 (He.fAd K ("NoSides", some "__init__")) fd ["self", "sides"] (sp_NoSides___init__ K) := by
  refine F.ok sc_NoSides___init__ (fun vs H Q E h => ?_) (fun cdv A outer s H vs Q E hr h => ⟨t_NoSides___init__ K E, ?_, pure_err1 vs H Q E h⟩)
  · first | (obtain ⟨_, rfl, _⟩ := h; rfl) | (obtain ⟨_, _, rfl, _⟩ := h; rfl) | (obtain ⟨_, _, _, rfl, _⟩ := h; rfl) | (obtain ⟨_, _, _, _, rfl, _⟩ := h; rfl) | (obtain ⟨_, _, _, _, _, rfl, _⟩ := h; rfl) | (obtain ⟨_, _, _, _, _, _, rfl, _⟩ := h; rfl) | (obtain ⟨_, _, _, _, _, _, _, rfl, _⟩ := h; rfl) | (obtain ⟨_, _, _, _, _, _, _, _, rfl, _⟩ := h; rfl) | (obtain ⟨_, _, _, _, _, _, _, _, _, rfl, _⟩ := h; rfl) | (obtain ⟨_, _, _, _, _, _, _, _, _, _, rfl, _⟩ := h; rfl) | (obtain ⟨_, _, _, _, _, _, _, _, _, _, _, rfl, _⟩ := h; rfl) | (obtain ⟨_, _, _, _, _, _, _, _, _, _, _, _, rfl, _⟩ := h; rfl) | (obtain ⟨_, _, _, rfl, hl, _⟩ := h; simp [hl])
  · skip
    exact (pss_cons (ps_expr (pe_reinit rfl T.g_RimError T.re_RimError (pa_cons (pv 0) (pa_cons pe_str pa_nil))))
    (pss_one (ps_ost (pv 0) (pv 1))))
set_option maxHeartbeats 4000000 in
theorem ok_NoWindow___init__ (T : Txt K mg) {fd : FuncData} (F : FnP K "__init__" "NoWindow.__init__" s_NoWindow___init__ [] (He.fAd K ("NoWindow", some "__init__")) fd) :
    FnOk P w K mg base (L2.CX P w) 1 (He.fAd K ("NoWindow", some "__init__")) fd ["self", "low", "high"] (sp_NoWindow___init__ K) := by
  refine F.ok sc_NoWindow___init__ (fun vs H Q E h => ?_) (fun cdv A outer s H vs Q E hr h => ⟨t_NoWindow___init__ K E, ?_, pure_err2 vs H Q E h⟩)
  · first | (obtain ⟨_, rfl, _⟩ := h; rfl) | (obtain ⟨_, _, rfl, _⟩ := h; rfl) | (obtain ⟨_, _, _, rfl, _⟩ := h; rfl) | (obtain ⟨_, _, _, _, rfl, _⟩ := h; rfl) | (obtain ⟨_, _, _, _, _, rfl, _⟩ := h; rfl) | (obtain ⟨_, _, _, _, _, _, rfl, _⟩ := h; rfl) | (obtain ⟨_, _, _, _, _, _, _, rfl, _⟩ := h; rfl) | (obtain ⟨_, _, _, _, _, _, _, _, rfl, _⟩ := h; rfl) | (obtain ⟨_, _, _, _, _, _, _, _, _, rfl, _⟩ := h; rfl) | (obtain ⟨_, _, _, _, _, _, _, _, _, _, rfl, _⟩ := h; rfl) | (obtain ⟨_, _, _, _, _, _, _, _, _, _, _, rfl, _⟩ := h; rfl) | (obtain ⟨_, _, _, _, _, _, _, _, _, _, _, _, rfl, _⟩ := h; rfl) | (obtain ⟨_, _, _, rfl, hl, _⟩ := h; simp [hl])
  · skip
    exact (pss_cons (ps_expr (pe_reinit rfl T.g_RimError T.re_RimError (pa_cons (pv 0) (pa_cons pe_str pa_nil))))
    (pss_cons (ps_ost (pv 0) (pv 1))
    (pss_one (ps_ost (pv 0) (pv 2)))))
set_option maxHeartbeats 4000000 in
theorem ok_OldPoint___init__ (T : Txt K mg) {fd : FuncData} (F : FnP K "__init__" "OldPoint.__init__" s_OldPoint___init__ [] (He.fAd K ("OldPoint", some "__init__")) fd) :
    FnOk P w K mg base (L2.CX P w) 1 (He.fAd K ("OldPoint", some "__init__")) fd ["self", "name"] (sp_OldPoint___init__ K) := by
  refine F.ok sc_OldPoint___init__ (fun vs H Q E h => ?_) (fun cdv A outer s H vs Q E hr h => ⟨t_OldPoint___init__ K E, ?_, pure_err1 vs H Q E h⟩)
  · first | (obtain ⟨_, rfl, _⟩ := h; rfl) | (obtain ⟨_, _, rfl, _⟩ := h; rfl) | (obtain ⟨_, _, _, rfl, _⟩ := h; rfl) | (obtain ⟨_, _, _, _, rfl, _⟩ := h; rfl) | (obtain ⟨_, _, _, _, _, rfl, _⟩ := h; rfl) | (obtain ⟨_, _, _, _, _, _, rfl, _⟩ := h; rfl) | (obtain ⟨_, _, _, _, _, _, _, rfl, _⟩ := h; rfl) | (obtain ⟨_, _, _, _, _, _, _, _, rfl, _⟩ := h; rfl) | (obtain ⟨_, _, _, _, _, _, _, _, _, rfl, _⟩ := h; rfl) | (obtain ⟨_, _, _, _, _, _, _, _, _, _, rfl, _⟩ := h; rfl) | (obtain ⟨_, _, _, _, _, _, _, _, _, _, _, rfl, _⟩ := h; rfl) | (obtain ⟨_, _, _, _, _, _, _, _, _, _, _, _, rfl, _⟩ := h; rfl) | (obtain ⟨_, _, _, rfl, hl, _⟩ := h; simp [hl])
  · skip
    exact (pss_cons (ps_expr (pe_reinit rfl T.g_RimError T.re_RimError (pa_cons (pv 0) (pa_cons pe_str pa_nil))))
    (pss_one (ps_ost (pv 0) (pv 1))))
set_option maxHeartbeats 4000000 in
theorem ok_SameColumn___init__ (T : Txt K mg) {fd : FuncData} (F : FnP K "__init__" "SameColumn.__init__" s_SameColumn___init__ [] (He.fAd K ("SameColumn", some "__init__")) fd) :
    FnOk P w K mg base (L2.CX P w) 1 (He.fAd K ("SameColumn", some "__init__")) fd ["self", "name"] (sp_SameColumn___init__ K) := by
  refine F.ok sc_SameColumn___init__ (fun vs H Q E h => ?_) (fun cdv A outer s H vs Q E hr h => ⟨t_SameColumn___init__ K E, ?_, pure_err1 vs H Q E h⟩)
  · first | (obtain ⟨_, rfl, _⟩ := h; rfl) | (obtain ⟨_, _, rfl, _⟩ := h; rfl) | (obtain ⟨_, _, _, rfl, _⟩ := h; rfl) | (obtain ⟨_, _, _, _, rfl, _⟩ := h; rfl) | (obtain ⟨_, _, _, _, _, rfl, _⟩ := h; rfl) | (obtain ⟨_, _, _, _, _, _, rfl, _⟩ := h; rfl) | (obtain ⟨_, _, _, _, _, _, _, rfl, _⟩ := h; rfl) | (obtain ⟨_, _, _, _, _, _, _, _, rfl, _⟩ := h; rfl) | (obtain ⟨_, _, _, _, _, _, _, _, _, rfl, _⟩ := h; rfl) | (obtain ⟨_, _, _, _, _, _, _, _, _, _, rfl, _⟩ := h; rfl) | (obtain ⟨_, _, _, _, _, _, _, _, _, _, _, rfl, _⟩ := h; rfl) | (obtain ⟨_, _, _, _, _, _, _, _, _, _, _, _, rfl, _⟩ := h; rfl) | (obtain ⟨_, _, _, rfl, hl, _⟩ := h; simp [hl])
  · skip
    exact (pss_cons (ps_expr (pe_reinit rfl T.g_RimError T.re_RimError (pa_cons (pv 0) (pa_cons pe_str pa_nil))))
    (pss_one (ps_ost (pv 0) (pv 1))))
set_option maxHeartbeats 4000000 in
theorem ok_SameRow___init__ (T : Txt K mg) {fd : FuncData} (F : FnP K "__init__" "SameRow.__init__" s_SameRow___init__ [] (He.fAd K ("SameRow", some "__init__")) fd) :
    FnOk P w K mg base (L2.CX P w) 1 (He.fAd K ("SameRow", some "__init__")) fd ["self", "name"] (sp_SameRow___init__ K) := by
  refine F.ok sc_SameRow___init__ (fun vs H Q E h => ?_) (fun cdv A outer s H vs Q E hr h => ⟨t_SameRow___init__ K E, ?_, pure_err1 vs H Q E h⟩)
  · first | (obtain ⟨_, rfl, _⟩ := h; rfl) | (obtain ⟨_, _, rfl, _⟩ := h; rfl) | (obtain ⟨_, _, _, rfl, _⟩ := h; rfl) | (obtain ⟨_, _, _, _, rfl, _⟩ := h; rfl) | (obtain ⟨_, _, _, _, _, rfl, _⟩ := h; rfl) | (obtain ⟨_, _, _, _, _, _, rfl, _⟩ := h; rfl) | (obtain ⟨_, _, _, _, _, _, _, rfl, _⟩ := h; rfl) | (obtain ⟨_, _, _, _, _, _, _, _, rfl, _⟩ := h; rfl) | (obtain ⟨_, _, _, _, _, _, _, _, _, rfl, _⟩ := h; rfl) | (obtain ⟨_, _, _, _, _, _, _, _, _, _, rfl, _⟩ := h; rfl) | (obtain ⟨_, _, _, _, _, _, _, _, _, _, _, rfl, _⟩ := h; rfl) | (obtain ⟨_, _, _, _, _, _, _, _, _, _, _, _, rfl, _⟩ := h; rfl) | (obtain ⟨_, _, _, rfl, hl, _⟩ := h; simp [hl])
  · skip
    exact (pss_cons (ps_expr (pe_reinit rfl T.g_RimError T.re_RimError (pa_cons (pv 0) (pa_cons pe_str pa_nil))))
    (pss_one (ps_ost (pv 0) (pv 1))))
set_option maxHeartbeats 4000000 in
theorem ok_Picture_look_free (T : Txt K mg) {fd : FuncData} (F : FnP K "look_free" "Picture.look_free" s_Picture_look_free [] (He.fAd K ("Picture", some "look_free")) fd)
    {fd_SameColumn___init__ : FuncData} (G_SameColumn___init__ : FnOk P w K mg base (L2.CX P w) 1 (He.fAd K ("SameColumn", some "__init__")) fd_SameColumn___init__ ["self", "name"] (sp_SameColumn___init__ K))
    (b_SameColumn___init__ : Binds K fd_SameColumn___init__ ["self", "name"] [])
    {fd_SameRow___init__ : FuncData} (G_SameRow___init__ : FnOk P w K mg base (L2.CX P w) 1 (He.fAd K ("SameRow", some "__init__")) fd_SameRow___init__ ["self", "name"] (sp_SameRow___init__ K))
    (b_SameRow___init__ : Binds K fd_SameRow___init__ ["self", "name"] []) :
    FnOk P w K mg base (L2.CX P w) 3 (He.fAd K ("Picture", some "look_free")) fd ["self", "x", "y", "name"] (sp_Picture_look_free K) := by
  refine F.ok sc_Picture_look_free (fun vs H Q E h => ?_) (fun cdv A outer s H vs Q E hr h => ⟨t_Picture_look_free K E (unl H E), ?_, pure_Picture_look_free T.picFx vs H Q E h⟩)
  · first | (obtain ⟨_, rfl, _⟩ := h; rfl) | (obtain ⟨_, _, rfl, _⟩ := h; rfl) | (obtain ⟨_, _, _, rfl, _⟩ := h; rfl) | (obtain ⟨_, _, _, _, rfl, _⟩ := h; rfl) | (obtain ⟨_, _, _, _, _, rfl, _⟩ := h; rfl) | (obtain ⟨_, _, _, _, _, _, rfl, _⟩ := h; rfl) | (obtain ⟨_, _, _, _, _, _, _, rfl, _⟩ := h; rfl) | (obtain ⟨_, _, _, _, _, _, _, _, rfl, _⟩ := h; rfl) | (obtain ⟨_, _, _, _, _, _, _, _, _, rfl, _⟩ := h; rfl) | (obtain ⟨_, _, _, _, _, _, _, _, _, _, rfl, _⟩ := h; rfl) | (obtain ⟨_, _, _, _, _, _, _, _, _, _, _, rfl, _⟩ := h; rfl) | (obtain ⟨_, _, _, _, _, _, _, _, _, _, _, _, rfl, _⟩ := h; rfl) | (obtain ⟨_, _, _, rfl, hl, _⟩ := h; simp [hl])
  · skip
    exact (pss_cons (ps_lock (ps_for (passes_of rfl) rfl (pi_values (pe_fld (pv 0) rfl)) (pg_name (i := 4) sc_Picture_look_free.nd rfl (by first | exact Or.inl rfl | exact Or.inr rfl))
    (pss_one (ps_if (PW.pt (pw_and (pt_cmpR op_eq (pe_fld (pv 4) rfl) (pv 1) (nomark _)) (pw_and1 (pt_cmpR op_ne (pe_fld (pv 4) rfl) (pv 3) (nomark _))))) (pss_one (ps_raiseE T.x_SameColumn G_SameColumn___init__ (hr.mono (by decide)) b_SameColumn___init__ T.g_SameColumn (takes_unl takesE) (pa_cons (pe_fld (pv 4) rfl) pa_nil))) pss_nil))))
    (pss_one (ps_lock (ps_for (passes_of rfl) rfl (pi_values (pe_fld (pv 0) rfl)) (pg_name (i := 4) sc_Picture_look_free.nd rfl (by first | exact Or.inl rfl | exact Or.inr rfl))
    (pss_one (ps_if (PW.pt (pw_and (pt_cmpR op_eq (pe_fld (pv 4) rfl) (pv 2) (nomark _)) (pw_and1 (pt_cmpR op_ne (pe_fld (pv 4) rfl) (pv 3) (nomark _))))) (pss_one (ps_raiseE T.x_SameRow G_SameRow___init__ (hr.mono (by decide)) b_SameRow___init__ T.g_SameRow (takes_unl takesE) (pa_cons (pe_fld (pv 4) rfl) pa_nil))) pss_nil))))))
set_option maxHeartbeats 4000000 in
theorem ok_Point___init__ (T : Txt K mg) {fd : FuncData} (F : FnP K "__init__" "Point.__init__" s_Point___init__ [] (He.fAd K ("Point", some "__init__")) fd) :
    FnOk P w K mg base (L2.CX P w) 1 (He.fAd K ("Point", some "__init__")) fd ["self", "name", "x", "y", "sides", "low", "high"] (sp_Point___init__ K) := by
  refine F.ok sc_Point___init__ (fun vs H Q E h => ?_) (fun cdv A outer s H vs Q E hr h => ⟨t_Point___init__ K E, ?_, pure_Point___init__ T.picFx vs H Q E h⟩)
  · first | (obtain ⟨_, rfl, _⟩ := h; rfl) | (obtain ⟨_, _, rfl, _⟩ := h; rfl) | (obtain ⟨_, _, _, rfl, _⟩ := h; rfl) | (obtain ⟨_, _, _, _, rfl, _⟩ := h; rfl) | (obtain ⟨_, _, _, _, _, rfl, _⟩ := h; rfl) | (obtain ⟨_, _, _, _, _, _, rfl, _⟩ := h; rfl) | (obtain ⟨_, _, _, _, _, _, _, rfl, _⟩ := h; rfl) | (obtain ⟨_, _, _, _, _, _, _, _, rfl, _⟩ := h; rfl) | (obtain ⟨_, _, _, _, _, _, _, _, _, rfl, _⟩ := h; rfl) | (obtain ⟨_, _, _, _, _, _, _, _, _, _, rfl, _⟩ := h; rfl) | (obtain ⟨_, _, _, _, _, _, _, _, _, _, _, rfl, _⟩ := h; rfl) | (obtain ⟨_, _, _, _, _, _, _, _, _, _, _, _, rfl, _⟩ := h; rfl) | (obtain ⟨_, _, _, rfl, hl, _⟩ := h; simp [hl])
  · skip
    exact (pss_cons (ps_fld (pv 0) (pv 1) rfl)
    (pss_cons (ps_fld (pv 0) (pv 2) rfl)
    (pss_cons (ps_fld (pv 0) (pv 3) rfl)
    (pss_cons (ps_fld (pv 0) (pv 4) rfl)
    (pss_cons (ps_fld (pv 0) (pv 5) rfl)
    (pss_one (ps_fld (pv 0) (pv 6) rfl)))))))
set_option maxHeartbeats 4000000 in
theorem ok_Picture_put (T : Txt K mg) {fd : FuncData} (F : FnP K "put" "Picture.put" s_Picture_put [.str ("both" : Str), .int 1, .non] (He.fAd K ("Picture", some "put")) fd)
    {fd_is_name : FuncData} (G_is_name : FnOk P w K mg base (L2.CX P w) 1 (He.fAd K ("is_name", none)) fd_is_name ["thing"] (sp_is_name K))
    (b_is_name : Binds K fd_is_name ["thing"] [])
    {fd_NoName___init__ : FuncData} (G_NoName___init__ : FnOk P w K mg base (L2.CX P w) 1 (He.fAd K ("NoName", some "__init__")) fd_NoName___init__ ["self", "name"] (sp_NoName___init__ K))
    (b_NoName___init__ : Binds K fd_NoName___init__ ["self", "name"] [])
    {fd_Picture_look_cell : FuncData} (G_Picture_look_cell : FnOk P w K mg base (L2.CX P w) 3 (He.fAd K ("Picture", some "look_cell")) fd_Picture_look_cell ["self", "x", "y"] (sp_Picture_look_cell K))
    (b_Picture_look_cell : Binds K fd_Picture_look_cell ["self", "x", "y"] [])
    {fd_NoSides___init__ : FuncData} (G_NoSides___init__ : FnOk P w K mg base (L2.CX P w) 1 (He.fAd K ("NoSides", some "__init__")) fd_NoSides___init__ ["self", "sides"] (sp_NoSides___init__ K))
    (b_NoSides___init__ : Binds K fd_NoSides___init__ ["self", "sides"] [])
    {fd_is_whole : FuncData} (G_is_whole : FnOk P w K mg base (L2.CX P w) 1 (He.fAd K ("is_whole", none)) fd_is_whole ["thing", "low", "high"] (sp_is_whole K))
    (b_is_whole : Binds K fd_is_whole ["thing", "low", "high"] [])
    {fd_NoWindow___init__ : FuncData} (G_NoWindow___init__ : FnOk P w K mg base (L2.CX P w) 1 (He.fAd K ("NoWindow", some "__init__")) fd_NoWindow___init__ ["self", "low", "high"] (sp_NoWindow___init__ K))
    (b_NoWindow___init__ : Binds K fd_NoWindow___init__ ["self", "low", "high"] [])
    {fd_OldPoint___init__ : FuncData} (G_OldPoint___init__ : FnOk P w K mg base (L2.CX P w) 1 (He.fAd K ("OldPoint", some "__init__")) fd_OldPoint___init__ ["self", "name"] (sp_OldPoint___init__ K))
    (b_OldPoint___init__ : Binds K fd_OldPoint___init__ ["self", "name"] [])
    {fd_Picture_look_free : FuncData} (G_Picture_look_free : FnOk P w K mg base (L2.CX P w) 3 (He.fAd K ("Picture", some "look_free")) fd_Picture_look_free ["self", "x", "y", "name"] (sp_Picture_look_free K))
    (b_Picture_look_free : Binds K fd_Picture_look_free ["self", "x", "y", "name"] [])
    {fd_Point___init__ : FuncData} (G_Point___init__ : FnOk P w K mg base (L2.CX P w) 1 (He.fAd K ("Point", some "__init__")) fd_Point___init__ ["self", "name", "x", "y", "sides", "low", "high"] (sp_Point___init__ K))
    (b_Point___init__ : Binds K fd_Point___init__ ["self", "name", "x", "y", "sides", "low", "high"] []) :
    FnOk P w K mg base (L2.CX P w) 5 (He.fAd K ("Picture", some "put")) fd ["self", "name", "x", "y", "sides", "low", "high"] (sp_Picture_put K) := by
  refine F.ok sc_Picture_put (fun vs H Q E h => ?_) (fun cdv A outer s H vs Q E hr h => ⟨t_Picture_put K E, ?_, pure_Picture_put T.picFx vs H Q E h⟩)
  · first | (obtain ⟨_, rfl, _⟩ := h; rfl) | (obtain ⟨_, _, rfl, _⟩ := h; rfl) | (obtain ⟨_, _, _, rfl, _⟩ := h; rfl) | (obtain ⟨_, _, _, _, rfl, _⟩ := h; rfl) | (obtain ⟨_, _, _, _, _, rfl, _⟩ := h; rfl) | (obtain ⟨_, _, _, _, _, _, rfl, _⟩ := h; rfl) | (obtain ⟨_, _, _, _, _, _, _, rfl, _⟩ := h; rfl) | (obtain ⟨_, _, _, _, _, _, _, _, rfl, _⟩ := h; rfl) | (obtain ⟨_, _, _, _, _, _, _, _, _, rfl, _⟩ := h; rfl) | (obtain ⟨_, _, _, _, _, _, _, _, _, _, rfl, _⟩ := h; rfl) | (obtain ⟨_, _, _, _, _, _, _, _, _, _, _, rfl, _⟩ := h; rfl) | (obtain ⟨_, _, _, _, _, _, _, _, _, _, _, _, rfl, _⟩ := h; rfl) | (obtain ⟨_, _, _, rfl, hl, _⟩ := h; simp [hl])
  · have hu := hu_of hr
    exact (pss_cons (ps_if (pt_cmpR op_isN (pv 6) pe_non (nomark _)) (pss_one (ps_set (i := 6) sc_Picture_put.nd rfl (by first | exact Or.inl rfl | exact Or.inr rfl) (pe_fld (pv 0) rfl))) pss_nil)
    (pss_cons (ps_if (pt_not (pt_val (pe_call G_is_name (hr.mono (by decide)) rfl T.f_is_name T.k_is_name b_is_name .nil passE (pa_cons (pv 1) pa_nil)))) (pss_one (ps_raiseE T.x_NoName G_NoName___init__ (hr.mono (by decide)) b_NoName___init__ T.g_NoName takesE (pa_cons (pv 1) pa_nil))) pss_nil)
    (pss_cons (ps_expr (pe_meth (pv 0) T.c_Picture T.m_Picture_look_cell G_Picture_look_cell (hr.mono (by decide)) b_Picture_look_cell .nil passE (pa_cons (pv 2) (pa_cons (pv 3) pa_nil))))
    (pss_cons (ps_if (PW.pt (pw_and (pt_cmpR (op_neD hr.units) (pv 4) pe_str (nomark _)) (pw_and (pt_cmpR (op_neD hr.units) (pv 4) pe_str (nomark _)) (pw_and1 (pt_cmpR (op_neD hr.units) (pv 4) pe_str (nomark _)))))) (pss_one (ps_raiseE T.x_NoSides G_NoSides___init__ (hr.mono (by decide)) b_NoSides___init__ T.g_NoSides takesE (pa_cons (pv 4) pa_nil))) pss_nil)
    (pss_cons (ps_if (PW.pt (pw_or (pt_not (pt_val (pe_call G_is_whole (hr.mono (by decide)) rfl T.f_is_whole T.k_is_whole b_is_whole .nil passE (pa_cons (pv 5) (pa_cons pe_int (pa_cons (pe_fld (pv 0) rfl) pa_nil)))))) (pw_or1 (pt_not (pt_val (pe_call G_is_whole (hr.mono (by decide)) rfl T.f_is_whole T.k_is_whole b_is_whole .nil passE (pa_cons (pv 6) (pa_cons (pv 5) (pa_cons (pe_fld (pv 0) rfl) pa_nil))))))))) (pss_one (ps_raiseE T.x_NoWindow G_NoWindow___init__ (hr.mono (by decide)) b_NoWindow___init__ T.g_NoWindow takesE (pa_cons (pv 5) (pa_cons (pv 6) pa_nil)))) pss_nil)
    (pss_cons (ps_if (pt_cmp (pc_din hu (pv 1) (pe_fld (pv 0) rfl))) (pss_one (ps_raiseE T.x_OldPoint G_OldPoint___init__ (hr.mono (by decide)) b_OldPoint___init__ T.g_OldPoint takesE (pa_cons (pv 1) pa_nil))) pss_nil)
    (pss_cons (ps_if (pt_cmpR op_ge (pe_callB call_lenD (by rfl) T.b_len (by decide +kernel) (pa_cons (pe_fld (pv 0) rfl) pa_nil)) (pe_gk rfl T.g_MOST_POINTS) (nomark _)) (pss_one (ps_raise0 T.x_TooMany T.g_TooMany takesE)) pss_nil)
    (pss_cons (ps_expr (pe_meth (pv 0) T.c_Picture T.m_Picture_look_free G_Picture_look_free (hr.mono (by decide)) b_Picture_look_free .nil passE (pa_cons (pv 2) (pa_cons (pv 3) (pa_cons (pv 1) pa_nil)))))
    (pss_one (ps_dput hu (pe_fld (pv 0) rfl) (pv 1) (pe_make T.mk_Point G_Point___init__ (hr.mono (by decide)) rfl T.g_Point b_Point___init__ .nil passE (pa_cons (pv 1) (pa_cons (pv 2) (pa_cons (pv 3) (pa_cons (pv 4) (pa_cons (pv 5) (pa_cons (pv 6) pa_nil))))))) rfl))))))))))
set_option maxHeartbeats 4000000 in
theorem ok__law_eleven (T : Txt K mg) {fd : FuncData} (F : FnP K "_law_eleven" "_law_eleven" s__law_eleven [] (He.fAd K ("_law_eleven", none)) fd)
    {fd__law_mixed : FuncData} (G__law_mixed : FnOk P w K mg base (L2.CX P w) 1 (He.fAd K ("_law_mixed", none)) fd__law_mixed ["_law_cell_here", "_law_k"] (sp__law_mixed K))
    (b__law_mixed : Binds K fd__law_mixed ["_law_cell_here", "_law_k"] [])
    {fd_Picture_put : FuncData} (G_Picture_put : FnOk P w K mg base (L2.CX P w) 5 (He.fAd K ("Picture", some "put")) fd_Picture_put ["self", "name", "x", "y", "sides", "low", "high"] (sp_Picture_put K))
    {ds_Picture_put_3 : List Value} (v_Picture_put_3 : Vals [.str ("both" : Str), .int 1, .non] ds_Picture_put_3) (b_Picture_put_3 : Binds K fd_Picture_put ["self", "name", "x", "y", "sides", "low", "high"] ds_Picture_put_3) :
    FnOk P w K mg base (L2.CX P w) 6 (He.fAd K ("_law_eleven", none)) fd ["_law_picture", "_law_cell_here"] (sp__law_eleven K) := by
  refine F.ok sc__law_eleven (fun vs H Q E h => ?_) (fun cdv A outer s H vs Q E hr h => ⟨t__law_eleven K E, ?_, pure__law_eleven T.picFx vs H Q E h⟩)
  · first | (obtain ⟨_, rfl, _⟩ := h; rfl) | (obtain ⟨_, _, rfl, _⟩ := h; rfl) | (obtain ⟨_, _, _, rfl, _⟩ := h; rfl) | (obtain ⟨_, _, _, _, rfl, _⟩ := h; rfl) | (obtain ⟨_, _, _, _, _, rfl, _⟩ := h; rfl) | (obtain ⟨_, _, _, _, _, _, rfl, _⟩ := h; rfl) | (obtain ⟨_, _, _, _, _, _, _, rfl, _⟩ := h; rfl) | (obtain ⟨_, _, _, _, _, _, _, _, rfl, _⟩ := h; rfl) | (obtain ⟨_, _, _, _, _, _, _, _, _, rfl, _⟩ := h; rfl) | (obtain ⟨_, _, _, _, _, _, _, _, _, _, rfl, _⟩ := h; rfl) | (obtain ⟨_, _, _, _, _, _, _, _, _, _, _, rfl, _⟩ := h; rfl) | (obtain ⟨_, _, _, _, _, _, _, _, _, _, _, _, rfl, _⟩ := h; rfl) | (obtain ⟨_, _, _, rfl, hl, _⟩ := h; simp [hl])
  · skip
    exact (pss_cons (ps_set (i := 2) sc__law_eleven.nd rfl (by first | exact Or.inl rfl | exact Or.inr rfl) (pe_lst pa_nil))
    (pss_cons (ps_set (i := 3) sc__law_eleven.nd rfl (by first | exact Or.inl rfl | exact Or.inr rfl) (pe_call G__law_mixed (hr.mono (by decide)) rfl T.f__law_mixed T.k__law_mixed b__law_mixed .nil passE (pa_cons (pv 1) (pa_cons pe_int pa_nil))))
    (pss_cons (ps_for (passes_of rfl) rfl (pi_range1 (by rfl) T.b_range (pa_cons pe_int pa_nil)) (pg_name (i := 4) sc__law_eleven.nd rfl (by first | exact Or.inl rfl | exact Or.inr rfl))
    (pss_cons (ps_set (i := 5) sc__law_eleven.nd rfl (by first | exact Or.inl rfl | exact Or.inr rfl) (pe_tup (pa_cons (pe_ix ix_str pe_str (pe_op op_mod (pe_op op_add (pv 3) (pe_op op_mul pe_int (pv 4))) pe_int) (fun _ _ => rfl)) (pa_cons (pe_op op_add pe_int (pv 4)) (pa_cons (pe_op op_add pe_int (pe_op op_mod (pe_op op_add (pv 3) (pe_op op_mul pe_int (pv 4))) pe_int)) (pa_cons pe_str (pa_cons pe_int pa_nil)))))))
    (pss_cons (ps_set (i := 5) sc__law_eleven.nd rfl (by first | exact Or.inl rfl | exact Or.inr rfl) (pe_op op_catT (pv 5) (pe_tup (pa_cons (pe_fld (pv 0) rfl) pa_nil))))
    (pss_cons (ps_expr (pe_meth (pv 0) T.c_Picture T.m_Picture_put G_Picture_put (hr.mono (by decide)) b_Picture_put_3 v_Picture_put_3 passE (pa_cons (pe_ix ix_tup (pv 5) pe_int (fun _ _ => rfl)) (pa_cons (pe_ix ix_tup (pv 5) pe_int (fun _ _ => rfl)) (pa_cons (pe_ix ix_tup (pv 5) pe_int (fun _ _ => rfl)) pa_nil)))))
    (pss_one (ps_expr (pe_bm PySem.F.plainAttrs_list PySem.F.slot_list_append PySem.F.type_list_append mt_append (pv 2) (pa_cons (pv 5) pa_nil))))))))
    (pss_one (ps_ret (pv 2))))))
set_option maxHeartbeats 4000000 in
theorem ok__law_args (T : Txt K mg) {fd : FuncData} (F : FnP K "_law_args" "_law_args" s__law_args [] (He.fAd K ("_law_args", none)) fd)
    {fd__law_mixed : FuncData} (G__law_mixed : FnOk P w K mg base (L2.CX P w) 1 (He.fAd K ("_law_mixed", none)) fd__law_mixed ["_law_cell_here", "_law_k"] (sp__law_mixed K))
    (b__law_mixed : Binds K fd__law_mixed ["_law_cell_here", "_law_k"] [])
    {fd__law_odd : FuncData} (G__law_odd : FnOk P w K mg base (L2.CX P w) 1 (He.fAd K ("_law_odd", none)) fd__law_odd ["_law_number", "_law_size"] (sp__law_odd K))
    (b__law_odd : Binds K fd__law_odd ["_law_number", "_law_size"] []) :
    FnOk P w K mg base (L2.CX P w) 2 (He.fAd K ("_law_args", none)) fd ["_law_cell_here", "_law_k", "_law_size"] (sp__law_args K) := by
  refine F.ok sc__law_args (fun vs H Q E h => ?_) (fun cdv A outer s H vs Q E hr h => ⟨t__law_args K E, ?_, pure__law_args vs H Q E h⟩)
  · first | (obtain ⟨_, rfl, _⟩ := h; rfl) | (obtain ⟨_, _, rfl, _⟩ := h; rfl) | (obtain ⟨_, _, _, rfl, _⟩ := h; rfl) | (obtain ⟨_, _, _, _, rfl, _⟩ := h; rfl) | (obtain ⟨_, _, _, _, _, rfl, _⟩ := h; rfl) | (obtain ⟨_, _, _, _, _, _, rfl, _⟩ := h; rfl) | (obtain ⟨_, _, _, _, _, _, _, rfl, _⟩ := h; rfl) | (obtain ⟨_, _, _, _, _, _, _, _, rfl, _⟩ := h; rfl) | (obtain ⟨_, _, _, _, _, _, _, _, _, rfl, _⟩ := h; rfl) | (obtain ⟨_, _, _, _, _, _, _, _, _, _, rfl, _⟩ := h; rfl) | (obtain ⟨_, _, _, _, _, _, _, _, _, _, _, rfl, _⟩ := h; rfl) | (obtain ⟨_, _, _, _, _, _, _, _, _, _, _, _, rfl, _⟩ := h; rfl) | (obtain ⟨_, _, _, rfl, hl, _⟩ := h; simp [hl])
  · skip
    exact (pss_cons (ps_setLc (i := 4) (own := [("_law_j", 3)]) rfl sc__law_args.nd rfl rfl (sw_true rfl rfl rfl (by decide +kernel))  (pi_range1 (by rfl) T.b_range (pa_cons pe_int pa_nil)) (blkOk_by (own := [("_law_j", 3)]) (N := ["_law_cell_here", "_law_k", "_law_size", "_law_j", "_law_draws", "_law_width", "_law_height", "_law_args_here", "_law_low", "_law_at", "_law_odd_here"]) (sc := defScope s__law_args) (by decide +kernel)) (fun _ _ _ _ _ => (pg_name (i := 3) sc__law_args.nd rfl (by first | exact Or.inl rfl | exact Or.inr rfl))) (fun _ _ _ _ _ => pts_nil) (fun _ _ _ _ _ => (pe_call G__law_mixed (hr.mono (by decide)) rfl T.f__law_mixed T.k__law_mixed b__law_mixed .nil passL (pa_cons (pv 0) (pa_cons (pe_op op_add (pe_op op_mul pe_int (pv 1)) (pv 3)) pa_nil)))))
    (pss_cons (ps_asg (pv 2) (pg_tup rfl (pgs_cons (pg_name (i := 5) sc__law_args.nd rfl (by first | exact Or.inl rfl | exact Or.inr rfl)) (pgs_cons (pg_name (i := 6) sc__law_args.nd rfl (by first | exact Or.inl rfl | exact Or.inr rfl)) pgs_nil))))
    (pss_cons (ps_set (i := 7) sc__law_args.nd rfl (by first | exact Or.inl rfl | exact Or.inr rfl) (pe_lst (pa_cons (pe_ix ix_str pe_str (pe_op op_mod (pe_ix ix_list (pv 4) pe_int (fun _ _ => rfl)) pe_int) (fun _ _ => rfl)) (pa_cons (pe_op op_add pe_int (pe_op op_mod (pe_ix ix_list (pv 4) pe_int (fun _ _ => rfl)) (pv 5))) (pa_cons (pe_op op_add pe_int (pe_op op_mod (pe_ix ix_list (pv 4) pe_int (fun _ _ => rfl)) (pv 6))) pa_nil)))))
    (pss_cons (ps_set (i := 8) sc__law_args.nd rfl (by first | exact Or.inl rfl | exact Or.inr rfl) (pe_op op_add pe_int (pe_op op_mod (pe_ix ix_list (pv 4) pe_int (fun _ _ => rfl)) (pv 6))))
    (pss_cons (ps_set (i := 7) sc__law_args.nd rfl (by first | exact Or.inl rfl | exact Or.inr rfl) (pe_op op_cat (pv 7) (pe_lst (pa_cons (pe_ix ix_list (pe_lst (pa_cons pe_str (pa_cons pe_str (pa_cons pe_str pa_nil)))) (pe_op op_mod (pe_ix ix_list (pv 4) pe_int (fun _ _ => rfl)) pe_int) (fun _ _ => rfl)) (pa_cons (pv 8) (pa_cons (pe_op op_add (pv 8) (pe_op op_mod (pe_ix ix_list (pv 4) pe_int (fun _ _ => rfl)) (pe_op op_sub (pe_op op_add (pv 6) pe_int) (pv 8)))) pa_nil))))))
    (pss_cons (ps_for (passes_of rfl) rfl (pi_range1 (by rfl) T.b_range (pa_cons (pe_op op_add (pe_op op_fdiv (pe_op op_mod (pe_ix ix_list (pv 4) pe_int (fun _ _ => rfl)) pe_int) pe_int) (pe_op op_fdiv (pe_op op_mod (pe_op op_fdiv (pe_ix ix_list (pv 4) pe_int (fun _ _ => rfl)) pe_int) pe_int) pe_int)) pa_nil)) (pg_name (i := 3) sc__law_args.nd rfl (by first | exact Or.inl rfl | exact Or.inr rfl))
    (pss_cons (ps_set (i := 9) sc__law_args.nd rfl (by first | exact Or.inl rfl | exact Or.inr rfl) (pe_op op_mod (pe_op op_fdiv (pe_ix ix_list (pv 4) pe_int (fun _ _ => rfl)) (pe_op op_add (pe_op op_mul pe_int (pv 3)) pe_int)) pe_int))
    (pss_cons (ps_set (i := 10) sc__law_args.nd rfl (by first | exact Or.inl rfl | exact Or.inr rfl) (pe_op op_fdiv (pe_ix ix_list (pv 4) (pv 3) (fun _ _ => rfl)) pe_int))
    (pss_one (ps_if (pt_cmpR op_eq (pv 9) pe_int (nomark _)) (pss_one (ps_asg (pe_ix ix_list (pe_lst (pa_cons pe_str (pa_cons pe_str (pa_cons pe_str (pa_cons pe_str (pa_cons pe_non (pa_cons pe_int (pa_cons pe_bl (pa_cons (pe_lst (pa_cons pe_str pa_nil)) (pa_cons (pe_tup (pa_cons pe_str pa_nil)) pa_nil)))))))))) (pe_op op_mod (pv 10) pe_int) (fun _ _ => rfl)) (pg_sub (pv 7) pe_int set_list))) (pss_one (ps_if (pt_cmpR op_eq (pv 9) pe_int (nomark _)) (pss_one (ps_asg (pe_ix ix_list (pe_lst (pa_cons pe_str (pa_cons pe_str (pa_cons pe_str (pa_cons pe_non (pa_cons pe_int (pa_cons pe_bl (pa_cons (pe_lst (pa_cons pe_str pa_nil)) (pa_cons (pe_tup (pa_cons pe_str (pa_cons pe_str pa_nil))) pa_nil))))))))) (pe_op op_mod (pv 10) pe_int) (fun _ _ => rfl)) (pg_sub (pv 7) pe_int set_list))) (pss_one (ps_asg (pe_call G__law_odd (hr.mono (by decide)) rfl T.f__law_odd T.k__law_odd b__law_odd .nil passE (pa_cons (pv 10) (pa_cons (pe_ix ix_list (pe_lst (pa_cons pe_int (pa_cons (pv 5) (pa_cons (pv 6) (pa_cons pe_int (pa_cons (pv 6) (pa_cons (pv 6) pa_nil))))))) (pv 9) (fun _ _ => rfl)) pa_nil))) (pg_sub (pv 7) (pv 9) set_list))))))))))
    (pss_one (ps_ret (pv 7)))))))))
set_option maxHeartbeats 4000000 in
theorem ok__law_is_whole (T : Txt K mg) {fd : FuncData} (F : FnP K "_law_is_whole" "_law_is_whole" s__law_is_whole [] (He.fAd K ("_law_is_whole", none)) fd) :
    FnOk P w K mg base (L2.CX P w) 1 (He.fAd K ("_law_is_whole", none)) fd ["_law_thing", "_law_low", "_law_high"] (sp__law_is_whole K) := by
  refine F.ok sc__law_is_whole (fun vs H Q E h => ?_) (fun cdv A outer s H vs Q E hr h => ⟨t__law_is_whole K E, ?_, pure__law_is_whole vs H Q E h⟩)
  · first | (obtain ⟨_, rfl, _⟩ := h; rfl) | (obtain ⟨_, _, rfl, _⟩ := h; rfl) | (obtain ⟨_, _, _, rfl, _⟩ := h; rfl) | (obtain ⟨_, _, _, _, rfl, _⟩ := h; rfl) | (obtain ⟨_, _, _, _, _, rfl, _⟩ := h; rfl) | (obtain ⟨_, _, _, _, _, _, rfl, _⟩ := h; rfl) | (obtain ⟨_, _, _, _, _, _, _, rfl, _⟩ := h; rfl) | (obtain ⟨_, _, _, _, _, _, _, _, rfl, _⟩ := h; rfl) | (obtain ⟨_, _, _, _, _, _, _, _, _, rfl, _⟩ := h; rfl) | (obtain ⟨_, _, _, _, _, _, _, _, _, _, rfl, _⟩ := h; rfl) | (obtain ⟨_, _, _, _, _, _, _, _, _, _, _, rfl, _⟩ := h; rfl) | (obtain ⟨_, _, _, _, _, _, _, _, _, _, _, _, rfl, _⟩ := h; rfl) | (obtain ⟨_, _, _, rfl, hl, _⟩ := h; simp [hl])
  · skip
    exact (pss_one (ps_ret (pe_and (pe_callB call_isi (by rfl) T.b_isinstance (by decide +kernel) (pa_cons (pv 0) (pa_cons (pe_bltn (by rfl) T.b_int (by decide +kernel) rfl) pa_nil))) (pe_and (pe_not (pe_callB call_isi (by rfl) T.b_isinstance (by decide +kernel) (pa_cons (pv 0) (pa_cons (pe_bltn (by rfl) T.b_bool (by decide +kernel) rfl) pa_nil)))) (pe_one (pe_chain op_le op_le (pv 1) (pv 0) (pv 2)))))))
set_option maxHeartbeats 4000000 in
theorem ok__law_due (T : Txt K mg) {fd : FuncData} (F : FnP K "_law_due" "_law_due" s__law_due [] (He.fAd K ("_law_due", none)) fd)
    {fd__law_is_whole : FuncData} (G__law_is_whole : FnOk P w K mg base (L2.CX P w) 1 (He.fAd K ("_law_is_whole", none)) fd__law_is_whole ["_law_thing", "_law_low", "_law_high"] (sp__law_is_whole K))
    (b__law_is_whole : Binds K fd__law_is_whole ["_law_thing", "_law_low", "_law_high"] []) :
    FnOk P w K mg base (L2.CX P w) 2 (He.fAd K ("_law_due", none)) fd ["_law_size", "_law_rows", "_law_args_here"] (sp__law_due K) := by
  refine F.ok sc__law_due (fun vs H Q E h => ?_) (fun cdv A outer s H vs Q E hr h => ⟨t__law_due K E, ?_, pure__law_due vs H Q E h⟩)
  · first | (obtain ⟨_, rfl, _⟩ := h; rfl) | (obtain ⟨_, _, rfl, _⟩ := h; rfl) | (obtain ⟨_, _, _, rfl, _⟩ := h; rfl) | (obtain ⟨_, _, _, _, rfl, _⟩ := h; rfl) | (obtain ⟨_, _, _, _, _, rfl, _⟩ := h; rfl) | (obtain ⟨_, _, _, _, _, _, rfl, _⟩ := h; rfl) | (obtain ⟨_, _, _, _, _, _, _, rfl, _⟩ := h; rfl) | (obtain ⟨_, _, _, _, _, _, _, _, rfl, _⟩ := h; rfl) | (obtain ⟨_, _, _, _, _, _, _, _, _, rfl, _⟩ := h; rfl) | (obtain ⟨_, _, _, _, _, _, _, _, _, _, rfl, _⟩ := h; rfl) | (obtain ⟨_, _, _, _, _, _, _, _, _, _, _, rfl, _⟩ := h; rfl) | (obtain ⟨_, _, _, _, _, _, _, _, _, _, _, _, rfl, _⟩ := h; rfl) | (obtain ⟨_, _, _, rfl, hl, _⟩ := h; simp [hl])
  · skip
    exact (pss_cons (ps_asg (pv 2) (pg_lst rfl (pgs_cons (pg_name (i := 3) sc__law_due.nd rfl (by first | exact Or.inl rfl | exact Or.inr rfl)) (pgs_cons (pg_name (i := 4) sc__law_due.nd rfl (by first | exact Or.inl rfl | exact Or.inr rfl)) (pgs_cons (pg_name (i := 5) sc__law_due.nd rfl (by first | exact Or.inl rfl | exact Or.inr rfl)) (pgs_cons (pg_name (i := 6) sc__law_due.nd rfl (by first | exact Or.inl rfl | exact Or.inr rfl)) (pgs_cons (pg_name (i := 7) sc__law_due.nd rfl (by first | exact Or.inl rfl | exact Or.inr rfl)) (pgs_cons (pg_name (i := 8) sc__law_due.nd rfl (by first | exact Or.inl rfl | exact Or.inr rfl)) pgs_nil))))))))
    (pss_cons (ps_if (PW.pt (pw_or (pt_not (pt_val (pe_callB call_isi (by rfl) T.b_isinstance (by decide +kernel) (pa_cons (pv 3) (pa_cons (pe_bltn (by rfl) T.b_str (by decide +kernel) rfl) pa_nil))))) (pw_or (pt_cmpR op_ne (pe_callB call_len_str (by rfl) T.b_len (by decide +kernel) (pa_cons (pv 3) pa_nil)) pe_int (nomark _)) (pw_or1 (pt_cmpR op_notIn_sign (pv 3) pe_str (by rfl)))))) (pss_one (ps_ret (pe_lst (pa_cons pe_str (pa_cons (pv 3) pa_nil))))) pss_nil)
    (pss_cons (ps_if (PW.pt (pw_or (pt_not (pt_val (pe_call G__law_is_whole (hr.mono (by decide)) rfl T.f__law_is_whole T.k__law_is_whole b__law_is_whole .nil passE (pa_cons (pv 4) (pa_cons pe_int (pa_cons (pe_ix ix_tup (pv 0) pe_int (fun _ _ => rfl)) pa_nil)))))) (pw_or1 (pt_not (pt_val (pe_call G__law_is_whole (hr.mono (by decide)) rfl T.f__law_is_whole T.k__law_is_whole b__law_is_whole .nil passE (pa_cons (pv 5) (pa_cons pe_int (pa_cons (pe_ix ix_tup (pv 0) pe_int (fun _ _ => rfl)) pa_nil))))))))) (pss_one (ps_ret (pe_lst (pa_cons pe_str (pa_cons (pv 4) (pa_cons (pv 5) pa_nil)))))) pss_nil)
    (pss_cons (ps_if (pt_cmpR (op_notInD hr.units65) (pv 6) (pe_lst (pa_cons pe_str (pa_cons pe_str (pa_cons pe_str pa_nil)))) (by first | rfl | exact nomark _ | with_unfolding_all rfl)) (pss_one (ps_ret (pe_lst (pa_cons pe_str (pa_cons (pv 6) pa_nil))))) pss_nil)
    (pss_cons (ps_if (PW.pt (pw_or (pt_not (pt_val (pe_call G__law_is_whole (hr.mono (by decide)) rfl T.f__law_is_whole T.k__law_is_whole b__law_is_whole .nil passE (pa_cons (pv 7) (pa_cons pe_int (pa_cons (pe_ix ix_tup (pv 0) pe_int (fun _ _ => rfl)) pa_nil)))))) (pw_or1 (pt_not (pt_val (pe_call G__law_is_whole (hr.mono (by decide)) rfl T.f__law_is_whole T.k__law_is_whole b__law_is_whole .nil passE (pa_cons (pv 8) (pa_cons (pv 7) (pa_cons (pe_ix ix_tup (pv 0) pe_int (fun _ _ => rfl)) pa_nil))))))))) (pss_one (ps_ret (pe_lst (pa_cons pe_str (pa_cons (pv 7) (pa_cons (pv 8) pa_nil)))))) pss_nil)
    (pss_cons (ps_if (pt_cmpR op_in_seq (pv 3) (pe_lc (own := [("_law_row", 9)]) rfl sc__law_due.nd  (pi_list (pv 1)) (blkOk_by (own := [("_law_row", 9)]) (N := ["_law_size", "_law_rows", "_law_args_here", "_law_name", "_law_x", "_law_y", "_law_sides", "_law_low", "_law_high", "_law_row", "_law_at"]) (sc := defScope s__law_due) (by decide +kernel)) (fun _ _ _ _ _ => (pg_name (i := 9) sc__law_due.nd rfl (by first | exact Or.inl rfl | exact Or.inr rfl))) (fun _ _ _ _ _ => pts_nil) (fun _ _ _ _ _ => (pe_ix ix_tup (pv 9) pe_int (fun _ _ => rfl)))) (by first | rfl | exact nomark _ | with_unfolding_all rfl)) (pss_one (ps_ret (pe_lst (pa_cons pe_str (pa_cons (pv 3) pa_nil))))) pss_nil)
    (pss_cons (ps_if (pt_cmpR op_gt (pe_callB call_len_seq (by rfl) T.b_len (by decide +kernel) (pa_cons (pv 1) pa_nil)) pe_int (nomark _)) (pss_one (ps_ret (pe_lst (pa_cons pe_str pa_nil)))) pss_nil)
    (pss_cons (ps_for (passes_of rfl) rfl (pi_list (pe_lst (pa_cons pe_int (pa_cons pe_int pa_nil)))) (pg_name (i := 10) sc__law_due.nd rfl (by first | exact Or.inl rfl | exact Or.inr rfl))
    (pss_one (ps_for (passes_of rfl) rfl (pi_list (pv 1)) (pg_name (i := 9) sc__law_due.nd rfl (by first | exact Or.inl rfl | exact Or.inr rfl))
    (pss_one (ps_if (pt_cmpR (op_eqD hr.units) (pe_ix ix_tup (pv 9) (pv 10) (fun _ _ => rfl)) (pe_ix ix_list (pv 2) (pv 10) (fun _ _ => rfl)) (nomark _)) (pss_one (ps_ret (pe_lst (pa_cons (pe_ix ix_list (pe_lst (pa_cons pe_str (pa_cons pe_str pa_nil))) (pe_op op_sub (pv 10) pe_int) (fun _ _ => rfl)) (pa_cons (pe_ix ix_tup (pv 9) pe_int (fun _ _ => rfl)) pa_nil))))) pss_nil)))))
    (pss_one (ps_ret (pe_lst pa_nil)))))))))))
set_option maxHeartbeats 4000000 in
theorem ok__law_put (T : Txt K mg) {fd : FuncData} (F : FnP K "_law_put" "_law_put" s__law_put [] (He.fAd K ("_law_put", none)) fd)
    {fd_Picture_put : FuncData} (G_Picture_put : FnOk P w K mg base (L2.CX P w) 5 (He.fAd K ("Picture", some "put")) fd_Picture_put ["self", "name", "x", "y", "sides", "low", "high"] (sp_Picture_put K))
    (b_Picture_put : Binds K fd_Picture_put ["self", "name", "x", "y", "sides", "low", "high"] [])
    {ds_Picture_put_1 : List Value} (v_Picture_put_1 : Vals [.non] ds_Picture_put_1) (b_Picture_put_1 : Binds K fd_Picture_put ["self", "name", "x", "y", "sides", "low", "high"] ds_Picture_put_1)
    {ds_Picture_put_2 : List Value} (v_Picture_put_2 : Vals [.int 1, .non] ds_Picture_put_2) (b_Picture_put_2 : Binds K fd_Picture_put ["self", "name", "x", "y", "sides", "low", "high"] ds_Picture_put_2)
    {ds_Picture_put_3 : List Value} (v_Picture_put_3 : Vals [.str ("both" : Str), .int 1, .non] ds_Picture_put_3) (b_Picture_put_3 : Binds K fd_Picture_put ["self", "name", "x", "y", "sides", "low", "high"] ds_Picture_put_3) :
    FnOk P w K mg base (L2.CX P w) 6 (He.fAd K ("_law_put", none)) fd ["_law_picture", "_law_args_here", "_law_many"] (sp__law_put K) := by
  refine F.ok sc__law_put (fun vs H Q E h => ?_) (fun cdv A outer s H vs Q E hr h => ⟨t__law_put K E, ?_, pure__law_put vs H Q E h⟩)
  · first | (obtain ⟨_, rfl, _⟩ := h; rfl) | (obtain ⟨_, _, rfl, _⟩ := h; rfl) | (obtain ⟨_, _, _, rfl, _⟩ := h; rfl) | (obtain ⟨_, _, _, _, rfl, _⟩ := h; rfl) | (obtain ⟨_, _, _, _, _, rfl, _⟩ := h; rfl) | (obtain ⟨_, _, _, _, _, _, rfl, _⟩ := h; rfl) | (obtain ⟨_, _, _, _, _, _, _, rfl, _⟩ := h; rfl) | (obtain ⟨_, _, _, _, _, _, _, _, rfl, _⟩ := h; rfl) | (obtain ⟨_, _, _, _, _, _, _, _, _, rfl, _⟩ := h; rfl) | (obtain ⟨_, _, _, _, _, _, _, _, _, _, rfl, _⟩ := h; rfl) | (obtain ⟨_, _, _, _, _, _, _, _, _, _, _, rfl, _⟩ := h; rfl) | (obtain ⟨_, _, _, _, _, _, _, _, _, _, _, _, rfl, _⟩ := h; rfl) | (obtain ⟨_, _, _, rfl, hl, _⟩ := h; simp [hl])
  · skip
    exact (pss_cons (ps_if (pt_cmpR op_eq (pv 2) pe_int (nomark _)) (pss_one (ps_ret (pe_meth (pv 0) T.c_Picture T.m_Picture_put G_Picture_put (hr.mono (by decide)) b_Picture_put_3 v_Picture_put_3 passE (pa_cons (pe_ix ix_list (pv 1) pe_int (fun _ _ => rfl)) (pa_cons (pe_ix ix_list (pv 1) pe_int (fun _ _ => rfl)) (pa_cons (pe_ix ix_list (pv 1) pe_int (fun _ _ => rfl)) pa_nil)))))) pss_nil)
    (pss_cons (ps_if (pt_cmpR op_eq (pv 2) pe_int (nomark _)) (pss_one (ps_ret (pe_meth (pv 0) T.c_Picture T.m_Picture_put G_Picture_put (hr.mono (by decide)) b_Picture_put_2 v_Picture_put_2 passE (pa_cons (pe_ix ix_list (pv 1) pe_int (fun _ _ => rfl)) (pa_cons (pe_ix ix_list (pv 1) pe_int (fun _ _ => rfl)) (pa_cons (pe_ix ix_list (pv 1) pe_int (fun _ _ => rfl)) (pa_cons (pe_ix ix_list (pv 1) pe_int (fun _ _ => rfl)) pa_nil))))))) pss_nil)
    (pss_cons (ps_if (pt_cmpR op_eq (pv 2) pe_int (nomark _)) (pss_one (ps_ret (pe_meth (pv 0) T.c_Picture T.m_Picture_put G_Picture_put (hr.mono (by decide)) b_Picture_put_1 v_Picture_put_1 passE (pa_cons (pe_ix ix_list (pv 1) pe_int (fun _ _ => rfl)) (pa_cons (pe_ix ix_list (pv 1) pe_int (fun _ _ => rfl)) (pa_cons (pe_ix ix_list (pv 1) pe_int (fun _ _ => rfl)) (pa_cons (pe_ix ix_list (pv 1) pe_int (fun _ _ => rfl)) (pa_cons (pe_ix ix_list (pv 1) pe_int (fun _ _ => rfl)) pa_nil)))))))) pss_nil)
    (pss_one (ps_ret (pe_meth (pv 0) T.c_Picture T.m_Picture_put G_Picture_put (hr.mono (by decide)) b_Picture_put .nil passE (pa_cons (pe_ix ix_list (pv 1) pe_int (fun _ _ => rfl)) (pa_cons (pe_ix ix_list (pv 1) pe_int (fun _ _ => rfl)) (pa_cons (pe_ix ix_list (pv 1) pe_int (fun _ _ => rfl)) (pa_cons (pe_ix ix_list (pv 1) pe_int (fun _ _ => rfl)) (pa_cons (pe_ix ix_list (pv 1) pe_int (fun _ _ => rfl)) (pa_cons (pe_ix ix_list (pv 1) pe_int (fun _ _ => rfl)) pa_nil))))))))))))
set_option maxHeartbeats 4000000 in
theorem ok__law_told_more (T : Txt K mg) {fd : FuncData} (F : FnP K "_law_told_more" "_law_told_more" s__law_told_more [] (He.fAd K ("_law_told_more", none)) fd) :
    FnQ P w K mg base (L2.CX P w) 1 (He.fAd K ("_law_told_more", none)) fd ["_law_e"] (sp__law_told_more K) := by
  refine fnQ_of F sc__law_told_more (fun vs H Q E h => ?_) (fun cdv A outer s H vs Q E hr h => ⟨t__law_told_more K E, ?_, pure__law_told_more T.tellFx vs H Q E h⟩)
  · first | (obtain ⟨_, rfl, _⟩ := h; rfl) | (obtain ⟨_, _, rfl, _⟩ := h; rfl) | (obtain ⟨_, _, _, rfl, _⟩ := h; rfl) | (obtain ⟨_, _, _, _, rfl, _⟩ := h; rfl) | (obtain ⟨_, _, _, _, _, rfl, _⟩ := h; rfl) | (obtain ⟨_, _, _, _, _, _, rfl, _⟩ := h; rfl) | (obtain ⟨_, _, _, _, _, _, _, rfl, _⟩ := h; rfl) | (obtain ⟨_, _, _, _, _, _, _, _, rfl, _⟩ := h; rfl) | (obtain ⟨_, _, _, _, _, _, _, _, _, rfl, _⟩ := h; rfl) | (obtain ⟨_, _, _, _, _, _, _, _, _, _, rfl, _⟩ := h; rfl) | (obtain ⟨_, _, _, _, _, _, _, _, _, _, _, rfl, _⟩ := h; rfl) | (obtain ⟨_, _, _, _, _, _, _, _, _, _, _, _, rfl, _⟩ := h; rfl) | (obtain ⟨_, _, _, rfl, hl, _⟩ := h; simp [hl])
  · skip
    exact (pss_cons (ps_set (i := 1) sc__law_told_more.nd rfl (by first | exact Or.inl rfl | exact Or.inr rfl) (pe_lst pa_nil))
    (pss_cons (ps_if (pt_val (pe_callB call_isA (by rfl) T.b_isinstance (by decide +kernel) (pa_cons (pv 0) (pa_cons (pe_glob rfl T.g_NoPoint rfl) pa_nil)))) (pss_one (ps_set (i := 1) sc__law_told_more.nd rfl (by first | exact Or.inl rfl | exact Or.inr rfl) (pe_op op_cat (pv 1) (pe_lst (pa_cons pe_str (pa_cons (pe_exf (pv 0)) pa_nil)))))) pss_nil)
    (pss_cons (ps_if (pt_val (pe_callB call_isA (by rfl) T.b_isinstance (by decide +kernel) (pa_cons (pv 0) (pa_cons (pe_glob rfl T.g_NoSide rfl) pa_nil)))) (pss_one (ps_set (i := 1) sc__law_told_more.nd rfl (by first | exact Or.inl rfl | exact Or.inr rfl) (pe_op op_cat (pv 1) (pe_lst (pa_cons pe_str (pa_cons (pe_exf (pv 0)) pa_nil)))))) pss_nil)
    (pss_cons (ps_if (pt_val (pe_callB call_isA (by rfl) T.b_isinstance (by decide +kernel) (pa_cons (pv 0) (pa_cons (pe_glob rfl T.g_NoRow rfl) pa_nil)))) (pss_one (ps_set (i := 1) sc__law_told_more.nd rfl (by first | exact Or.inl rfl | exact Or.inr rfl) (pe_op op_cat (pv 1) (pe_lst (pa_cons pe_str (pa_cons (pe_exf (pv 0)) pa_nil)))))) pss_nil)
    (pss_cons (ps_if (pt_val (pe_callB call_isA (by rfl) T.b_isinstance (by decide +kernel) (pa_cons (pv 0) (pa_cons (pe_glob rfl T.g_OldSeat rfl) pa_nil)))) (pss_one (ps_set (i := 1) sc__law_told_more.nd rfl (by first | exact Or.inl rfl | exact Or.inr rfl) (pe_op op_cat (pv 1) (pe_lst (pa_cons pe_str (pa_cons (pe_exf (pv 0)) (pa_cons (pe_exf (pv 0)) pa_nil))))))) pss_nil)
    (pss_cons (ps_if (pt_val (pe_callB call_isA (by rfl) T.b_isinstance (by decide +kernel) (pa_cons (pv 0) (pa_cons (pe_glob rfl T.g_NoSeat rfl) pa_nil)))) (pss_one (ps_set (i := 1) sc__law_told_more.nd rfl (by first | exact Or.inl rfl | exact Or.inr rfl) (pe_op op_cat (pv 1) (pe_lst (pa_cons pe_str (pa_cons (pe_exf (pv 0)) (pa_cons (pe_exf (pv 0)) pa_nil))))))) pss_nil)
    (pss_cons (ps_if (pt_val (pe_callB call_isAT (by rfl) T.b_isinstance (by decide +kernel) (pa_cons (pv 0) (pa_cons (pe_tup (pa_cons (pe_glob rfl T.g_NoSize rfl) (pa_cons (pe_glob rfl T.g_NoRoom rfl) (pa_cons (pe_glob rfl T.g_NoNotes rfl) (pa_cons (pe_glob rfl T.g_TooFull rfl) (pa_cons (pe_glob rfl T.g_TooTall rfl) (pa_cons (pe_glob rfl T.g_BadLine rfl) (pa_cons (pe_glob rfl T.g_BadDrawing rfl) (pa_cons (pe_glob rfl T.g_NoLine rfl) pa_nil))))))))) pa_nil)))) (pss_one (ps_set (i := 1) sc__law_told_more.nd rfl (by first | exact Or.inl rfl | exact Or.inr rfl) (pe_op op_cat (pv 1) (pe_lst (pa_cons pe_str pa_nil))))) pss_nil)
    (pss_cons (ps_if (pt_not (pt_val (pe_callB call_isA (by rfl) T.b_isinstance (by decide +kernel) (pa_cons (pv 0) (pa_cons (pe_bltn (by rfl) T.b_ValueError (by decide +kernel) rfl) pa_nil))))) (pss_one (ps_set (i := 1) sc__law_told_more.nd rfl (by first | exact Or.inl rfl | exact Or.inr rfl) (pe_op op_cat (pv 1) (pe_lst (pa_cons pe_str pa_nil))))) pss_nil)
    (pss_one (ps_ret (pv 1)))))))))))
set_option maxHeartbeats 4000000 in
theorem ok__law_told (T : Txt K mg) {fd : FuncData} (F : FnP K "_law_told" "_law_told" s__law_told [] (He.fAd K ("_law_told", none)) fd)
    {fd__law_told_more : FuncData} (G__law_told_more : FnQ P w K mg base (L2.CX P w) 1 (He.fAd K ("_law_told_more", none)) fd__law_told_more ["_law_e"] (sp__law_told_more K))
    (b__law_told_more : Binds K fd__law_told_more ["_law_e"] []) :
    FnQ P w K mg base (L2.CX P w) 2 (He.fAd K ("_law_told", none)) fd ["_law_e"] (sp__law_told K) := by
  refine fnQ_of F sc__law_told (fun vs H Q E h => ?_) (fun cdv A outer s H vs Q E hr h => ⟨t__law_told K E, ?_, pure__law_told T.tellFx vs H Q E h⟩)
  · first | (obtain ⟨_, rfl, _⟩ := h; rfl) | (obtain ⟨_, _, rfl, _⟩ := h; rfl) | (obtain ⟨_, _, _, rfl, _⟩ := h; rfl) | (obtain ⟨_, _, _, _, rfl, _⟩ := h; rfl) | (obtain ⟨_, _, _, _, _, rfl, _⟩ := h; rfl) | (obtain ⟨_, _, _, _, _, _, rfl, _⟩ := h; rfl) | (obtain ⟨_, _, _, _, _, _, _, rfl, _⟩ := h; rfl) | (obtain ⟨_, _, _, _, _, _, _, _, rfl, _⟩ := h; rfl) | (obtain ⟨_, _, _, _, _, _, _, _, _, rfl, _⟩ := h; rfl) | (obtain ⟨_, _, _, _, _, _, _, _, _, _, rfl, _⟩ := h; rfl) | (obtain ⟨_, _, _, _, _, _, _, _, _, _, _, rfl, _⟩ := h; rfl) | (obtain ⟨_, _, _, _, _, _, _, _, _, _, _, _, rfl, _⟩ := h; rfl) | (obtain ⟨_, _, _, rfl, hl, _⟩ := h; simp [hl])
  · skip
    exact (pss_cons (ps_set (i := 1) sc__law_told.nd rfl (by first | exact Or.inl rfl | exact Or.inr rfl) (pe_lst pa_nil))
    (pss_cons (ps_if (pt_val (pe_callB call_isA (by rfl) T.b_isinstance (by decide +kernel) (pa_cons (pv 0) (pa_cons (pe_glob rfl T.g_NoName rfl) pa_nil)))) (pss_one (ps_set (i := 1) sc__law_told.nd rfl (by first | exact Or.inl rfl | exact Or.inr rfl) (pe_op op_cat (pv 1) (pe_lst (pa_cons pe_str (pa_cons (pe_exf (pv 0)) pa_nil)))))) pss_nil)
    (pss_cons (ps_if (pt_val (pe_callB call_isA (by rfl) T.b_isinstance (by decide +kernel) (pa_cons (pv 0) (pa_cons (pe_glob rfl T.g_NoCell rfl) pa_nil)))) (pss_one (ps_set (i := 1) sc__law_told.nd rfl (by first | exact Or.inl rfl | exact Or.inr rfl) (pe_op op_cat (pv 1) (pe_lst (pa_cons pe_str (pa_cons (pe_exf (pv 0)) (pa_cons (pe_exf (pv 0)) pa_nil))))))) pss_nil)
    (pss_cons (ps_if (pt_val (pe_callB call_isA (by rfl) T.b_isinstance (by decide +kernel) (pa_cons (pv 0) (pa_cons (pe_glob rfl T.g_NoSides rfl) pa_nil)))) (pss_one (ps_set (i := 1) sc__law_told.nd rfl (by first | exact Or.inl rfl | exact Or.inr rfl) (pe_op op_cat (pv 1) (pe_lst (pa_cons pe_str (pa_cons (pe_exf (pv 0)) pa_nil)))))) pss_nil)
    (pss_cons (ps_if (pt_val (pe_callB call_isA (by rfl) T.b_isinstance (by decide +kernel) (pa_cons (pv 0) (pa_cons (pe_glob rfl T.g_NoWindow rfl) pa_nil)))) (pss_one (ps_set (i := 1) sc__law_told.nd rfl (by first | exact Or.inl rfl | exact Or.inr rfl) (pe_op op_cat (pv 1) (pe_lst (pa_cons pe_str (pa_cons (pe_exf (pv 0)) (pa_cons (pe_exf (pv 0)) pa_nil))))))) pss_nil)
    (pss_cons (ps_if (pt_val (pe_callB call_isA (by rfl) T.b_isinstance (by decide +kernel) (pa_cons (pv 0) (pa_cons (pe_glob rfl T.g_OldPoint rfl) pa_nil)))) (pss_one (ps_set (i := 1) sc__law_told.nd rfl (by first | exact Or.inl rfl | exact Or.inr rfl) (pe_op op_cat (pv 1) (pe_lst (pa_cons pe_str (pa_cons (pe_exf (pv 0)) pa_nil)))))) pss_nil)
    (pss_cons (ps_if (pt_val (pe_callB call_isA (by rfl) T.b_isinstance (by decide +kernel) (pa_cons (pv 0) (pa_cons (pe_glob rfl T.g_TooMany rfl) pa_nil)))) (pss_one (ps_set (i := 1) sc__law_told.nd rfl (by first | exact Or.inl rfl | exact Or.inr rfl) (pe_op op_cat (pv 1) (pe_lst (pa_cons pe_str pa_nil))))) pss_nil)
    (pss_cons (ps_if (pt_val (pe_callB call_isA (by rfl) T.b_isinstance (by decide +kernel) (pa_cons (pv 0) (pa_cons (pe_glob rfl T.g_SameColumn rfl) pa_nil)))) (pss_one (ps_set (i := 1) sc__law_told.nd rfl (by first | exact Or.inl rfl | exact Or.inr rfl) (pe_op op_cat (pv 1) (pe_lst (pa_cons pe_str (pa_cons (pe_exf (pv 0)) pa_nil)))))) pss_nil)
    (pss_cons (ps_if (pt_val (pe_callB call_isA (by rfl) T.b_isinstance (by decide +kernel) (pa_cons (pv 0) (pa_cons (pe_glob rfl T.g_SameRow rfl) pa_nil)))) (pss_one (ps_set (i := 1) sc__law_told.nd rfl (by first | exact Or.inl rfl | exact Or.inr rfl) (pe_op op_cat (pv 1) (pe_lst (pa_cons pe_str (pa_cons (pe_exf (pv 0)) pa_nil)))))) pss_nil)
    (pss_one (ps_ret (pe_op op_cat (pv 1) (pe_callQ G__law_told_more (hr.mono (by decide)) rfl T.f__law_told_more T.k__law_told_more b__law_told_more .nil passL (pa_cons (pv 0) pa_nil))))))))))))))
set_option maxHeartbeats 4000000 in
theorem ok__law_tried (T : Txt K mg) {fd : FuncData} (F : FnP K "_law_tried" "_law_tried" s__law_tried [] (He.fAd K ("_law_tried", none)) fd)
    {fd__law_due : FuncData} (G__law_due : FnOk P w K mg base (L2.CX P w) 2 (He.fAd K ("_law_due", none)) fd__law_due ["_law_size", "_law_rows", "_law_args_here"] (sp__law_due K))
    (b__law_due : Binds K fd__law_due ["_law_size", "_law_rows", "_law_args_here"] [])
    {fd__law_put : FuncData} (G__law_put : FnOk P w K mg base (L2.CX P w) 6 (He.fAd K ("_law_put", none)) fd__law_put ["_law_picture", "_law_args_here", "_law_many"] (sp__law_put K))
    (b__law_put : Binds K fd__law_put ["_law_picture", "_law_args_here", "_law_many"] [])
    {fd__law_told : FuncData} (G__law_told : FnQ P w K mg base (L2.CX P w) 2 (He.fAd K ("_law_told", none)) fd__law_told ["_law_e"] (sp__law_told K))
    (b__law_told : Binds K fd__law_told ["_law_e"] []) :
    FnOk P w K mg base (L2.CX P w) 7 (He.fAd K ("_law_tried", none)) fd ["_law_picture", "_law_size", "_law_rows", "_law_args_here", "_law_many"] (sp__law_tried K) := by
  refine F.ok sc__law_tried (fun vs H Q E h => ?_) (fun cdv A outer s H vs Q E hr h => ⟨t__law_tried K E, ?_, pure__law_tried T.tellFx vs H Q E h⟩)
  · first | (obtain ⟨_, rfl, _⟩ := h; rfl) | (obtain ⟨_, _, rfl, _⟩ := h; rfl) | (obtain ⟨_, _, _, rfl, _⟩ := h; rfl) | (obtain ⟨_, _, _, _, rfl, _⟩ := h; rfl) | (obtain ⟨_, _, _, _, _, rfl, _⟩ := h; rfl) | (obtain ⟨_, _, _, _, _, _, rfl, _⟩ := h; rfl) | (obtain ⟨_, _, _, _, _, _, _, rfl, _⟩ := h; rfl) | (obtain ⟨_, _, _, _, _, _, _, _, rfl, _⟩ := h; rfl) | (obtain ⟨_, _, _, _, _, _, _, _, _, rfl, _⟩ := h; rfl) | (obtain ⟨_, _, _, _, _, _, _, _, _, _, rfl, _⟩ := h; rfl) | (obtain ⟨_, _, _, _, _, _, _, _, _, _, _, rfl, _⟩ := h; rfl) | (obtain ⟨_, _, _, _, _, _, _, _, _, _, _, _, rfl, _⟩ := h; rfl) | (obtain ⟨_, _, _, rfl, hl, _⟩ := h; simp [hl])
  · skip
    exact (pss_cons (ps_set (i := 5) sc__law_tried.nd rfl (by first | exact Or.inl rfl | exact Or.inr rfl) (pe_callTy call_list_of (by rfl) T.b_list (by decide +kernel) (pa_cons (pv 3) pa_nil)))
    (pss_cons (ps_if (pt_cmpR op_gt (pv 4) pe_int (nomark _)) (pss_one (ps_asg pe_str (pg_sub (pv 5) pe_int set_list))) pss_nil)
    (pss_cons (ps_if (pt_cmpR op_gt (pv 4) pe_int (nomark _)) (pss_one (ps_asg pe_int (pg_sub (pv 5) pe_int set_list))) pss_nil)
    (pss_cons (ps_if (PW.pt (pw_or (pt_cmpR op_gt (pv 4) pe_int (nomark _)) (pw_or1 (pt_cmpR op_isN (pe_ix ix_list (pv 3) pe_int (fun _ _ => rfl)) pe_non (nomark _))))) (pss_one (ps_asg (pe_ix ix_tup (pv 1) pe_int (fun _ _ => rfl)) (pg_sub (pv 5) pe_int set_list))) pss_nil)
    (pss_cons (ps_set (i := 6) sc__law_tried.nd rfl (by first | exact Or.inl rfl | exact Or.inr rfl) (pe_call G__law_due (hr.mono (by decide)) rfl T.f__law_due T.k__law_due b__law_due .nil passE (pa_cons (pv 1) (pa_cons (pv 2) (pa_cons (pv 5) pa_nil)))))
    (pss_cons (ps_set (i := 7) sc__law_tried.nd rfl (by first | exact Or.inl rfl | exact Or.inr rfl) (pe_lst pa_nil))
    (pss_cons (ps_try_trk (tb := fun W => tb1__law_tried K E W) (Wout := fun cls d _ H => E cls d H) (l₀ := [⟨.ref (cl K "RimError"), some 8, fun ae cls dd => ts1a__law_tried K E ae cls dd⟩]) rfl rfl sc__law_tried.nd takesE
  (fun W pn xe tk po => (pss_one (ps_if (pt_cmpR op_notN (pe_callS G__law_put (hr.mono (by decide)) rfl T.f__law_put T.k__law_put b__law_put (fun σ => passAt tk σ) (pa_cons (pv 0) (pa_cons (pv 3) (pa_cons (pv 4) pa_nil)))) pe_non (nomark _)) (pss_one (ps_ret pe_bl)) pss_nil)))
  (.as rfl rfl ⟨rfl, by decide, Or.inl T.g_RimError⟩ (fun ae cls dd pn => (pss_one (ps_set (i := 7) sc__law_tried.nd rfl (by first | exact Or.inl rfl | exact Or.inr rfl) (pe_callQ G__law_told (L2H.roomH_mark (hr.mono (by decide)) _) rfl T.f__law_told T.k__law_told b__law_told .nil passL (pa_cons (pv 8) pa_nil))))) .nil))
    (pss_cons (ps_if (pt_cmpR (op_neD hr.units) (pv 7) (pv 6) (nomark _)) (pss_one (ps_ret pe_bl)) pss_nil)
    (pss_cons (ps_if (pt_cmpR (op_eqD hr.units) (pv 6) (pe_lst pa_nil) (nomark _)) (pss_one (ps_expr (pe_bm PySem.F.plainAttrs_list PySem.F.slot_list_append PySem.F.type_list_append mt_append (pv 2) (pa_cons (pe_tupleOf (by rfl) T.b_tuple (pv 5)) pa_nil)))) pss_nil)
    (pss_one (ps_ret pe_bl)))))))))))
set_option maxHeartbeats 4000000 in
theorem ok_Point_told (T : Txt K mg) {fd : FuncData} (F : FnP K "told" "Point.told" s_Point_told [] (He.fAd K ("Point", some "told")) fd) :
    FnOk P w K mg base (L2.CX P w) 1 (He.fAd K ("Point", some "told")) fd ["self"] (sp_Point_told K) := by
  refine F.ok sc_Point_told (fun vs H Q E h => ?_) (fun cdv A outer s H vs Q E hr h => ⟨t_Point_told K E, ?_, pure_Point_told T.picFx vs H Q E h⟩)
  · first | (obtain ⟨_, rfl, _⟩ := h; rfl) | (obtain ⟨_, _, rfl, _⟩ := h; rfl) | (obtain ⟨_, _, _, rfl, _⟩ := h; rfl) | (obtain ⟨_, _, _, _, rfl, _⟩ := h; rfl) | (obtain ⟨_, _, _, _, _, rfl, _⟩ := h; rfl) | (obtain ⟨_, _, _, _, _, _, rfl, _⟩ := h; rfl) | (obtain ⟨_, _, _, _, _, _, _, rfl, _⟩ := h; rfl) | (obtain ⟨_, _, _, _, _, _, _, _, rfl, _⟩ := h; rfl) | (obtain ⟨_, _, _, _, _, _, _, _, _, rfl, _⟩ := h; rfl) | (obtain ⟨_, _, _, _, _, _, _, _, _, _, rfl, _⟩ := h; rfl) | (obtain ⟨_, _, _, _, _, _, _, _, _, _, _, rfl, _⟩ := h; rfl) | (obtain ⟨_, _, _, _, _, _, _, _, _, _, _, _, rfl, _⟩ := h; rfl) | (obtain ⟨_, _, _, rfl, hl, _⟩ := h; simp [hl])
  · skip
    exact (pss_one (ps_ret (pe_tup (pa_cons (pe_fld (pv 0) rfl) (pa_cons (pe_fld (pv 0) rfl) (pa_cons (pe_fld (pv 0) rfl) (pa_cons (pe_fld (pv 0) rfl) (pa_cons (pe_fld (pv 0) rfl) (pa_cons (pe_fld (pv 0) rfl) pa_nil)))))))))
set_option maxHeartbeats 4000000 in
theorem ok_Picture_points (T : Txt K mg) {fd : FuncData} (F : FnP K "points" "Picture.points" s_Picture_points [] (He.fAd K ("Picture", some "points")) fd)
    {fd_Point_told : FuncData} (G_Point_told : FnOk P w K mg base (L2.CX P w) 1 (He.fAd K ("Point", some "told")) fd_Point_told ["self"] (sp_Point_told K))
    (b_Point_told : Binds K fd_Point_told ["self"] []) :
    FnOk P w K mg base (L2.CX P w) 2 (He.fAd K ("Picture", some "points")) fd ["self"] (sp_Picture_points K) := by
  refine F.ok sc_Picture_points (fun vs H Q E h => ?_) (fun cdv A outer s H vs Q E hr h => ⟨t_Picture_points K E, ?_, pure_Picture_points T.picFx vs H Q E h⟩)
  · first | (obtain ⟨_, rfl, _⟩ := h; rfl) | (obtain ⟨_, _, rfl, _⟩ := h; rfl) | (obtain ⟨_, _, _, rfl, _⟩ := h; rfl) | (obtain ⟨_, _, _, _, rfl, _⟩ := h; rfl) | (obtain ⟨_, _, _, _, _, rfl, _⟩ := h; rfl) | (obtain ⟨_, _, _, _, _, _, rfl, _⟩ := h; rfl) | (obtain ⟨_, _, _, _, _, _, _, rfl, _⟩ := h; rfl) | (obtain ⟨_, _, _, _, _, _, _, _, rfl, _⟩ := h; rfl) | (obtain ⟨_, _, _, _, _, _, _, _, _, rfl, _⟩ := h; rfl) | (obtain ⟨_, _, _, _, _, _, _, _, _, _, rfl, _⟩ := h; rfl) | (obtain ⟨_, _, _, _, _, _, _, _, _, _, _, rfl, _⟩ := h; rfl) | (obtain ⟨_, _, _, _, _, _, _, _, _, _, _, _, rfl, _⟩ := h; rfl) | (obtain ⟨_, _, _, rfl, hl, _⟩ := h; simp [hl])
  · skip
    exact (pss_one (ps_ret (pe_lock (pe_lc (own := [("point", 1)]) rfl sc_Picture_points.nd  (pi_values (pe_fld (pv 0) rfl)) (blkOk_by (own := [("point", 1)]) (N := ["self", "point"]) (sc := defScope s_Picture_points) (by decide +kernel)) (fun _ _ _ _ _ => (pg_name (i := 1) sc_Picture_points.nd rfl (by first | exact Or.inl rfl | exact Or.inr rfl))) (fun _ _ _ _ _ => pts_nil) (fun _ _ _ _ _ => (pe_meth0 (pv 1) T.c_Point T.m_Point_told G_Point_told (hr.mono (by decide)) b_Point_told .nil passL))))))
set_option maxHeartbeats 4000000 in
theorem ok_Picture_seats (T : Txt K mg) {fd : FuncData} (F : FnP K "seats" "Picture.seats" s_Picture_seats [] (He.fAd K ("Picture", some "seats")) fd) :
    FnOk P w K mg base (L2.CX P w) 1 (He.fAd K ("Picture", some "seats")) fd ["self"] (sp_Picture_seats K) := by
  refine F.ok sc_Picture_seats (fun vs H Q E h => ?_) (fun cdv A outer s H vs Q E hr h => ⟨t_Picture_seats K E, ?_, pure_Picture_seats T.picFx vs H Q E h⟩)
  · first | (obtain ⟨_, rfl, _⟩ := h; rfl) | (obtain ⟨_, _, rfl, _⟩ := h; rfl) | (obtain ⟨_, _, _, rfl, _⟩ := h; rfl) | (obtain ⟨_, _, _, _, rfl, _⟩ := h; rfl) | (obtain ⟨_, _, _, _, _, rfl, _⟩ := h; rfl) | (obtain ⟨_, _, _, _, _, _, rfl, _⟩ := h; rfl) | (obtain ⟨_, _, _, _, _, _, _, rfl, _⟩ := h; rfl) | (obtain ⟨_, _, _, _, _, _, _, _, rfl, _⟩ := h; rfl) | (obtain ⟨_, _, _, _, _, _, _, _, _, rfl, _⟩ := h; rfl) | (obtain ⟨_, _, _, _, _, _, _, _, _, _, rfl, _⟩ := h; rfl) | (obtain ⟨_, _, _, _, _, _, _, _, _, _, _, rfl, _⟩ := h; rfl) | (obtain ⟨_, _, _, _, _, _, _, _, _, _, _, _, rfl, _⟩ := h; rfl) | (obtain ⟨_, _, _, rfl, hl, _⟩ := h; simp [hl])
  · skip
    exact (pss_one (ps_ret (pe_callB (call_sortT rfl hr.units66) (by rfl) T.b_sorted (by decide +kernel) (pa_cons (pe_fld (pv 0) rfl) pa_nil))))
set_option maxHeartbeats 4000000 in
theorem ok__law_right (T : Txt K mg) {fd : FuncData} (F : FnP K "_law_right" "_law_right" s__law_right [] (He.fAd K ("_law_right", none)) fd)
    {fd_Picture_points : FuncData} (G_Picture_points : FnOk P w K mg base (L2.CX P w) 2 (He.fAd K ("Picture", some "points")) fd_Picture_points ["self"] (sp_Picture_points K))
    (b_Picture_points : Binds K fd_Picture_points ["self"] [])
    {fd_Picture_seats : FuncData} (G_Picture_seats : FnOk P w K mg base (L2.CX P w) 1 (He.fAd K ("Picture", some "seats")) fd_Picture_seats ["self"] (sp_Picture_seats K))
    (b_Picture_seats : Binds K fd_Picture_seats ["self"] []) :
    FnOk P w K mg base (L2.CX P w) 3 (He.fAd K ("_law_right", none)) fd ["_law_picture", "_law_size", "_law_rows"] (sp__law_right K) := by
  refine F.ok sc__law_right (fun vs H Q E h => ?_) (fun cdv A outer s H vs Q E hr h => ⟨t__law_right K E, ?_, pure__law_right T.picFx vs H Q E h⟩)
  · first | (obtain ⟨_, rfl, _⟩ := h; rfl) | (obtain ⟨_, _, rfl, _⟩ := h; rfl) | (obtain ⟨_, _, _, rfl, _⟩ := h; rfl) | (obtain ⟨_, _, _, _, rfl, _⟩ := h; rfl) | (obtain ⟨_, _, _, _, _, rfl, _⟩ := h; rfl) | (obtain ⟨_, _, _, _, _, _, rfl, _⟩ := h; rfl) | (obtain ⟨_, _, _, _, _, _, _, rfl, _⟩ := h; rfl) | (obtain ⟨_, _, _, _, _, _, _, _, rfl, _⟩ := h; rfl) | (obtain ⟨_, _, _, _, _, _, _, _, _, rfl, _⟩ := h; rfl) | (obtain ⟨_, _, _, _, _, _, _, _, _, _, rfl, _⟩ := h; rfl) | (obtain ⟨_, _, _, _, _, _, _, _, _, _, _, rfl, _⟩ := h; rfl) | (obtain ⟨_, _, _, _, _, _, _, _, _, _, _, _, rfl, _⟩ := h; rfl) | (obtain ⟨_, _, _, rfl, hl, _⟩ := h; simp [hl])
  · skip
    exact (pss_cons (ps_set (i := 3) sc__law_right.nd rfl (by first | exact Or.inl rfl | exact Or.inr rfl) (pe_meth0 (pv 0) T.c_Picture T.m_Picture_points G_Picture_points (hr.mono (by decide)) b_Picture_points .nil passE))
    (pss_cons (ps_if (PW.pt (pw_or (pt_not (pt_val (pe_callB call_isi (by rfl) T.b_isinstance (by decide +kernel) (pa_cons (pv 3) (pa_cons (pe_bltn (by rfl) T.b_list (by decide +kernel) rfl) pa_nil))))) (pw_or (pt_cmpR (op_neD hr.units) (pv 3) (pv 2) (nomark _)) (pw_or1 (pt_cmpR (op_neD hr.units) (pe_meth0 (pv 0) T.c_Picture T.m_Picture_seats G_Picture_seats (hr.mono (by decide)) b_Picture_seats .nil passE) (pe_lst pa_nil) (nomark _)))))) (pss_one (ps_ret pe_bl)) pss_nil)
    (pss_cons (ps_for (passes_of rfl) rfl (pi_list (pv 3)) (pg_name (i := 4) sc__law_right.nd rfl (by first | exact Or.inl rfl | exact Or.inr rfl))
    (pss_one (ps_if (PW.pt (pw_or (pt_not (pt_val (pe_callB call_isi (by rfl) T.b_isinstance (by decide +kernel) (pa_cons (pv 4) (pa_cons (pe_bltn (by rfl) T.b_tuple (by decide +kernel) rfl) pa_nil))))) (pw_or1 (pt_cmpR op_gt (pe_callB call_len_seq (by rfl) T.b_len (by decide +kernel) (pa_cons (pe_lc (own := [("_law_one", 5)]) rfl sc__law_right.nd  (pi_tup (pv 4)) (blkOk_by (own := [("_law_one", 5)]) (N := ["_law_picture", "_law_size", "_law_rows", "_law_found", "_law_row", "_law_one"]) (sc := defScope s__law_right) (by decide +kernel)) (fun _ _ _ _ _ => (pg_name (i := 5) sc__law_right.nd rfl (by first | exact Or.inl rfl | exact Or.inr rfl))) (fun _ _ _ _ _ => (pts_one (pt_val (pe_callB call_isi (by rfl) T.b_isinstance (by decide +kernel) (pa_cons (pv 5) (pa_cons (pe_bltn (by rfl) T.b_bool (by decide +kernel) rfl) pa_nil)))))) (fun _ _ _ _ _ => (pv 5))) pa_nil)) pe_int (nomark _))))) (pss_one (ps_ret pe_bl)) pss_nil)))
    (pss_cons (ps_expr (pe_bm PySem.F.plainAttrs_list PySem.F.slot_list_append PySem.F.type_list_append mt_append (pv 3) (pa_cons pe_int pa_nil)))
    (pss_one (ps_ret (pe_and (pe_cmpR (op_eqD hr.units) (pe_tup (pa_cons (pe_fld (pv 0) rfl) (pa_cons (pe_fld (pv 0) rfl) pa_nil))) (pv 1) (nomark _)) (pe_one (pe_cmpR (op_eqD hr.units) (pe_meth0 (pv 0) T.c_Picture T.m_Picture_points G_Picture_points (hr.mono (by decide)) b_Picture_points .nil passE) (pv 2) (nomark _))))))))))
set_option maxHeartbeats 4000000 in
theorem ok_law (T : Txt K mg) {fd : FuncData} (F : FnP K "law" "law" s_law [] (He.fAd K ("law", none)) fd)
    {fd__law_cell : FuncData} (G__law_cell : FnOk P w K mg base (L2.CX P w) 1 (He.fAd K ("_law_cell", none)) fd__law_cell ["_law_script", "_law_k"] (sp__law_cell K))
    (b__law_cell : Binds K fd__law_cell ["_law_script", "_law_k"] [])
    {fd__law_mixed : FuncData} (G__law_mixed : FnOk P w K mg base (L2.CX P w) 1 (He.fAd K ("_law_mixed", none)) fd__law_mixed ["_law_cell_here", "_law_k"] (sp__law_mixed K))
    (b__law_mixed : Binds K fd__law_mixed ["_law_cell_here", "_law_k"] [])
    {fd__law_no_size : FuncData} (G__law_no_size : FnOk P w K mg base (L2.CX P w) 4 (He.fAd K ("_law_no_size", none)) fd__law_no_size ["_law_number"] (sp__law_no_size K))
    (b__law_no_size : Binds K fd__law_no_size ["_law_number"] [])
    {fd_Picture___init__ : FuncData} (G_Picture___init__ : FnOk P w K mg base (L2.CX P w) 2 (He.fAd K ("Picture", some "__init__")) fd_Picture___init__ ["self", "width", "height"] (sp_Picture___init__ K))
    (b_Picture___init__ : Binds K fd_Picture___init__ ["self", "width", "height"] [])
    {fd__law_eleven : FuncData} (G__law_eleven : FnOk P w K mg base (L2.CX P w) 6 (He.fAd K ("_law_eleven", none)) fd__law_eleven ["_law_picture", "_law_cell_here"] (sp__law_eleven K))
    (b__law_eleven : Binds K fd__law_eleven ["_law_picture", "_law_cell_here"] [])
    {fd__law_args : FuncData} (G__law_args : FnOk P w K mg base (L2.CX P w) 2 (He.fAd K ("_law_args", none)) fd__law_args ["_law_cell_here", "_law_k", "_law_size"] (sp__law_args K))
    (b__law_args : Binds K fd__law_args ["_law_cell_here", "_law_k", "_law_size"] [])
    {fd__law_tried : FuncData} (G__law_tried : FnOk P w K mg base (L2.CX P w) 7 (He.fAd K ("_law_tried", none)) fd__law_tried ["_law_picture", "_law_size", "_law_rows", "_law_args_here", "_law_many"] (sp__law_tried K))
    (b__law_tried : Binds K fd__law_tried ["_law_picture", "_law_size", "_law_rows", "_law_args_here", "_law_many"] [])
    {fd__law_right : FuncData} (G__law_right : FnOk P w K mg base (L2.CX P w) 3 (He.fAd K ("_law_right", none)) fd__law_right ["_law_picture", "_law_size", "_law_rows"] (sp__law_right K))
    (b__law_right : Binds K fd__law_right ["_law_picture", "_law_size", "_law_rows"] []) :
    FnOk P w K mg base (L2.CX P w) 9 (He.fAd K ("law", none)) fd ["_law_script"] (sp_law K) := by
  refine F.ok sc_law (fun vs H Q E h => ?_) (fun cdv A outer s H vs Q E hr h => ⟨t_law K E, ?_, pure_law T.picFx vs H Q E h⟩)
  · first | (obtain ⟨_, rfl, _⟩ := h; rfl) | (obtain ⟨_, _, rfl, _⟩ := h; rfl) | (obtain ⟨_, _, _, rfl, _⟩ := h; rfl) | (obtain ⟨_, _, _, _, rfl, _⟩ := h; rfl) | (obtain ⟨_, _, _, _, _, rfl, _⟩ := h; rfl) | (obtain ⟨_, _, _, _, _, _, rfl, _⟩ := h; rfl) | (obtain ⟨_, _, _, _, _, _, _, rfl, _⟩ := h; rfl) | (obtain ⟨_, _, _, _, _, _, _, _, rfl, _⟩ := h; rfl) | (obtain ⟨_, _, _, _, _, _, _, _, _, rfl, _⟩ := h; rfl) | (obtain ⟨_, _, _, _, _, _, _, _, _, _, rfl, _⟩ := h; rfl) | (obtain ⟨_, _, _, _, _, _, _, _, _, _, _, rfl, _⟩ := h; rfl) | (obtain ⟨_, _, _, _, _, _, _, _, _, _, _, _, rfl, _⟩ := h; rfl) | (obtain ⟨_, _, _, rfl, hl, _⟩ := h; simp [hl])
  · skip
    exact (pss_cons (ps_set (i := 1) sc_law.nd rfl (by first | exact Or.inl rfl | exact Or.inr rfl) (pe_lst pa_nil))
    (pss_cons (ps_for (passes_of rfl) rfl (pi_range1 (by rfl) T.b_range (pa_cons pe_int pa_nil)) (pg_name (i := 2) sc_law.nd rfl (by first | exact Or.inl rfl | exact Or.inr rfl))
    (pss_cons (ps_set (i := 3) sc_law.nd rfl (by first | exact Or.inl rfl | exact Or.inr rfl) (pe_call G__law_mixed (hr.mono (by decide)) rfl T.f__law_mixed T.k__law_mixed b__law_mixed .nil passE (pa_cons (pe_call G__law_cell (hr.mono (by decide)) rfl T.f__law_cell T.k__law_cell b__law_cell .nil passE (pa_cons (pv 0) (pa_cons pe_int pa_nil))) (pa_cons (pv 2) pa_nil))))
    (pss_cons (ps_expr (pe_bm PySem.F.plainAttrs_list PySem.F.slot_list_append PySem.F.type_list_append mt_append (pv 1) (pa_cons (pe_tup (pa_cons (pe_op op_add pe_int (pe_op op_mod (pv 3) pe_int)) (pa_cons (pe_op op_add pe_int (pe_op op_mod (pe_op op_fdiv (pv 3) pe_int) pe_int)) pa_nil))) pa_nil)))
    (pss_one (ps_if (pt_not (pt_val (pe_call G__law_no_size (hr.mono (by decide)) rfl T.f__law_no_size T.k__law_no_size b__law_no_size .nil passE (pa_cons (pe_call G__law_mixed (hr.mono (by decide)) rfl T.f__law_mixed T.k__law_mixed b__law_mixed .nil passE (pa_cons (pe_call G__law_cell (hr.mono (by decide)) rfl T.f__law_cell T.k__law_cell b__law_cell .nil passE (pa_cons (pv 0) (pa_cons pe_int pa_nil))) (pa_cons (pe_op op_add pe_int (pv 2)) pa_nil))) pa_nil)))) (pss_one (ps_ret pe_bl)) pss_nil)))))
    (pss_cons (ps_set (i := 4) sc_law.nd rfl (by first | exact Or.inl rfl | exact Or.inr rfl) (pe_lst (pa_cons (pe_lst pa_nil) (pa_cons (pe_lst pa_nil) pa_nil))))
    (pss_cons (ps_if (pt_cmpR op_eq (pe_op op_mod (pe_call G__law_mixed (hr.mono (by decide)) rfl T.f__law_mixed T.k__law_mixed b__law_mixed .nil passE (pa_cons (pe_call G__law_cell (hr.mono (by decide)) rfl T.f__law_cell T.k__law_cell b__law_cell .nil passE (pa_cons (pv 0) (pa_cons pe_int pa_nil))) (pa_cons pe_int pa_nil))) pe_int) pe_int (nomark _)) (pss_one (ps_asg (pe_tup (pa_cons (pe_op op_add pe_int (pe_op op_mod (pe_ix ix_tup (pe_ix ix_list (pv 1) pe_int (fun _ _ => rfl)) pe_int (fun _ _ => rfl)) pe_int)) (pa_cons (pe_op op_add pe_int (pe_op op_mod (pe_ix ix_tup (pe_ix ix_list (pv 1) pe_int (fun _ _ => rfl)) pe_int (fun _ _ => rfl)) pe_int)) pa_nil))) (pg_sub (pv 1) pe_int set_list))) pss_nil)
    (pss_cons (ps_setLc (i := 5) (own := [("_law_size", 9)]) rfl sc_law.nd rfl rfl (sw_true rfl rfl rfl (by decide +kernel))  (pi_list (pv 1)) (blkOk_by (own := [("_law_size", 9)]) (N := ["_law_script", "_law_sizes", "_law_j", "_law_number", "_law_rows", "_law_pictures", "_law_k", "_law_at", "_law_args_here", "_law_size"]) (sc := defScope s_law) (by decide +kernel)) (fun _ _ _ _ _ => (pg_name (i := 9) sc_law.nd rfl (by first | exact Or.inl rfl | exact Or.inr rfl))) (fun _ _ _ _ _ => pts_nil) (fun _ _ _ _ _ => (pe_make T.mk_Picture G_Picture___init__ (hr.mono (by decide)) rfl T.g_Picture b_Picture___init__ .nil passL (pa_cons (pe_ix ix_tup (pv 9) pe_int (fun _ _ => rfl)) (pa_cons (pe_ix ix_tup (pv 9) pe_int (fun _ _ => rfl)) pa_nil)))))
    (pss_cons (ps_if (pt_cmpR op_eq (pe_op op_mod (pe_call G__law_mixed (hr.mono (by decide)) rfl T.f__law_mixed T.k__law_mixed b__law_mixed .nil passE (pa_cons (pe_call G__law_cell (hr.mono (by decide)) rfl T.f__law_cell T.k__law_cell b__law_cell .nil passE (pa_cons (pv 0) (pa_cons pe_int pa_nil))) (pa_cons pe_int pa_nil))) pe_int) pe_int (nomark _)) (pss_one (ps_asg (pe_call G__law_eleven (hr.mono (by decide)) rfl T.f__law_eleven T.k__law_eleven b__law_eleven .nil passE (pa_cons (pe_ix ix_list (pv 5) pe_int (fun _ _ => rfl)) (pa_cons (pe_call G__law_cell (hr.mono (by decide)) rfl T.f__law_cell T.k__law_cell b__law_cell .nil passE (pa_cons (pv 0) (pa_cons pe_int pa_nil))) pa_nil))) (pg_sub (pv 4) pe_int set_list))) pss_nil)
    (pss_cons (ps_for (passes_of rfl) rfl (pi_range2 (by rfl) T.b_range (pa_cons pe_int (pa_cons (pe_callB (call_min2 rfl) (by rfl) T.b_min (by decide +kernel) (pa_cons (pe_callB call_len_seq (by rfl) T.b_len (by decide +kernel) (pa_cons (pv 0) pa_nil)) (pa_cons pe_int pa_nil))) pa_nil))) (pg_name (i := 6) sc_law.nd rfl (by first | exact Or.inl rfl | exact Or.inr rfl))
    (pss_cons (ps_set (i := 3) sc_law.nd rfl (by first | exact Or.inl rfl | exact Or.inr rfl) (pe_call G__law_mixed (hr.mono (by decide)) rfl T.f__law_mixed T.k__law_mixed b__law_mixed .nil passE (pa_cons (pe_ix ix_list (pv 0) (pv 6) (fun _ _ => rfl)) (pa_cons (pv 6) pa_nil))))
    (pss_cons (ps_set (i := 7) sc_law.nd rfl (by first | exact Or.inl rfl | exact Or.inr rfl) (pe_op op_mod (pv 3) pe_int))
    (pss_cons (ps_set (i := 8) sc_law.nd rfl (by first | exact Or.inl rfl | exact Or.inr rfl) (pe_call G__law_args (hr.mono (by decide)) rfl T.f__law_args T.k__law_args b__law_args .nil passE (pa_cons (pe_ix ix_list (pv 0) (pv 6) (fun _ _ => rfl)) (pa_cons (pv 6) (pa_cons (pe_ix ix_list (pv 1) (pv 7) (fun _ _ => rfl)) pa_nil)))))
    (pss_cons (ps_if (pt_not (pt_val (pe_call G__law_tried (hr.mono (by decide)) rfl T.f__law_tried T.k__law_tried b__law_tried .nil passE (pa_cons (pe_ix ix_list (pv 5) (pv 7) (fun _ _ => rfl)) (pa_cons (pe_ix ix_list (pv 1) (pv 7) (fun _ _ => rfl)) (pa_cons (pe_ix ix_list (pv 4) (pv 7) (fun _ _ => rfl)) (pa_cons (pv 8) (pa_cons (pe_callB (call_max2 rfl) (by rfl) T.b_max (by decide +kernel) (pa_cons pe_int (pa_cons (pe_op op_sub (pe_op op_mod (pe_op op_fdiv (pv 3) pe_int) pe_int) pe_int) pa_nil))) pa_nil)))))))) (pss_one (ps_ret pe_bl)) pss_nil)
    (pss_one (ps_if (pt_not (pt_val (pe_call G__law_right (hr.mono (by decide)) rfl T.f__law_right T.k__law_right b__law_right .nil passE (pa_cons (pe_ix ix_list (pv 5) (pv 7) (fun _ _ => rfl)) (pa_cons (pe_ix ix_list (pv 1) (pv 7) (fun _ _ => rfl)) (pa_cons (pe_ix ix_list (pv 4) (pv 7) (fun _ _ => rfl)) pa_nil)))))) (pss_one (ps_ret pe_bl)) pss_nil)))))))
    (pss_one (ps_ret (pe_and (pe_call G__law_right (hr.mono (by decide)) rfl T.f__law_right T.k__law_right b__law_right .nil passE (pa_cons (pe_ix ix_list (pv 5) pe_int (fun _ _ => rfl)) (pa_cons (pe_ix ix_list (pv 1) pe_int (fun _ _ => rfl)) (pa_cons (pe_ix ix_list (pv 4) pe_int (fun _ _ => rfl)) pa_nil)))) (pe_one (pe_call G__law_right (hr.mono (by decide)) rfl T.f__law_right T.k__law_right b__law_right .nil passE (pa_cons (pe_ix ix_list (pv 5) pe_int (fun _ _ => rfl)) (pa_cons (pe_ix ix_list (pv 1) pe_int (fun _ _ => rfl)) (pa_cons (pe_ix ix_list (pv 4) pe_int (fun _ _ => rfl)) pa_nil)))))))))))))))
end
def fns : List He.DefD := [⟨("_law_cell", none), "_law_cell", "_law_cell", defArgs s__law_cell, defBody s__law_cell, defScope s__law_cell, [], []⟩,
  ⟨("_law_mixed", none), "_law_mixed", "_law_mixed", defArgs s__law_mixed, defBody s__law_mixed, defScope s__law_mixed, [], []⟩,
  ⟨("_law_odd", none), "_law_odd", "_law_odd", defArgs s__law_odd, defBody s__law_odd, defScope s__law_odd, [], []⟩,
  ⟨("is_whole", none), "is_whole", "is_whole", defArgs s_is_whole, defBody s_is_whole, defScope s_is_whole, [], []⟩,
  ⟨("Picture", some "__init__"), "__init__", "Picture.__init__", defArgs s_Picture___init__, defBody s_Picture___init__, defScope s_Picture___init__, [], []⟩,
  ⟨("_law_no_size", none), "_law_no_size", "_law_no_size", defArgs s__law_no_size, defBody s__law_no_size, defScope s__law_no_size, [], []⟩,
  ⟨("is_name", none), "is_name", "is_name", defArgs s_is_name, defBody s_is_name, defScope s_is_name, [], []⟩,
  ⟨("NoName", some "__init__"), "__init__", "NoName.__init__", defArgs s_NoName___init__, defBody s_NoName___init__, defScope s_NoName___init__, [], []⟩,
  ⟨("NoCell", some "__init__"), "__init__", "NoCell.__init__", defArgs s_NoCell___init__, defBody s_NoCell___init__, defScope s_NoCell___init__, [], []⟩,
  ⟨("Picture", some "look_cell"), "look_cell", "Picture.look_cell", defArgs s_Picture_look_cell, defBody s_Picture_look_cell, defScope s_Picture_look_cell, [], []⟩,
  ⟨("NoSides", some "__init__"), "__init__", "NoSides.__init__", defArgs s_NoSides___init__, defBody s_NoSides___init__, defScope s_NoSides___init__, [], []⟩,
  ⟨("NoWindow", some "__init__"), "__init__", "NoWindow.__init__", defArgs s_NoWindow___init__, defBody s_NoWindow___init__, defScope s_NoWindow___init__, [], []⟩,
  ⟨("OldPoint", some "__init__"), "__init__", "OldPoint.__init__", defArgs s_OldPoint___init__, defBody s_OldPoint___init__, defScope s_OldPoint___init__, [], []⟩,
  ⟨("SameColumn", some "__init__"), "__init__", "SameColumn.__init__", defArgs s_SameColumn___init__, defBody s_SameColumn___init__, defScope s_SameColumn___init__, [], []⟩,
  ⟨("SameRow", some "__init__"), "__init__", "SameRow.__init__", defArgs s_SameRow___init__, defBody s_SameRow___init__, defScope s_SameRow___init__, [], []⟩,
  ⟨("Picture", some "look_free"), "look_free", "Picture.look_free", defArgs s_Picture_look_free, defBody s_Picture_look_free, defScope s_Picture_look_free, [], []⟩,
  ⟨("Point", some "__init__"), "__init__", "Point.__init__", defArgs s_Point___init__, defBody s_Point___init__, defScope s_Point___init__, [], []⟩,
  ⟨("Picture", some "put"), "put", "Picture.put", defArgs s_Picture_put, defBody s_Picture_put, defScope s_Picture_put, [.str ("both" : Str), .int 1, .non], []⟩,
  ⟨("_law_eleven", none), "_law_eleven", "_law_eleven", defArgs s__law_eleven, defBody s__law_eleven, defScope s__law_eleven, [], []⟩,
  ⟨("_law_args", none), "_law_args", "_law_args", defArgs s__law_args, defBody s__law_args, defScope s__law_args, [], []⟩,
  ⟨("_law_is_whole", none), "_law_is_whole", "_law_is_whole", defArgs s__law_is_whole, defBody s__law_is_whole, defScope s__law_is_whole, [], []⟩,
  ⟨("_law_due", none), "_law_due", "_law_due", defArgs s__law_due, defBody s__law_due, defScope s__law_due, [], []⟩,
  ⟨("_law_put", none), "_law_put", "_law_put", defArgs s__law_put, defBody s__law_put, defScope s__law_put, [], []⟩,
  ⟨("_law_told_more", none), "_law_told_more", "_law_told_more", defArgs s__law_told_more, defBody s__law_told_more, defScope s__law_told_more, [], []⟩,
  ⟨("_law_told", none), "_law_told", "_law_told", defArgs s__law_told, defBody s__law_told, defScope s__law_told, [], []⟩,
  ⟨("_law_tried", none), "_law_tried", "_law_tried", defArgs s__law_tried, defBody s__law_tried, defScope s__law_tried, [], []⟩,
  ⟨("Point", some "told"), "told", "Point.told", defArgs s_Point_told, defBody s_Point_told, defScope s_Point_told, [], []⟩,
  ⟨("Picture", some "points"), "points", "Picture.points", defArgs s_Picture_points, defBody s_Picture_points, defScope s_Picture_points, [], []⟩,
  ⟨("Picture", some "seats"), "seats", "Picture.seats", defArgs s_Picture_seats, defBody s_Picture_seats, defScope s_Picture_seats, [], []⟩,
  ⟨("_law_right", none), "_law_right", "_law_right", defArgs s__law_right, defBody s__law_right, defScope s__law_right, [], []⟩,
  ⟨("law", none), "law", "law", defArgs s_law, defBody s_law, defScope s_law, [], []⟩]
end Rim
set_option Elab.async false
set_option linter.all false
set_option maxRecDepth 100000
set_option maxHeartbeats 4000000
namespace Rim
open PySem PySem.Spec PyProof.Rows L2
theorem facts {P : Program} {w : World} {K : PySem.W.Frag} {h : Heap} {mg : Str → Option Value} {f : Addr} (X : K.In h) (G : h.Ns mainGlobals mg) (hfa : mg ("law" : Str) = some (.ref f)) (c : SaysC (fun K => looks.all fun f => f K) fns K) :
    ∃ fd : FuncData, (∀ (s : Shared) (v : Value), BindsTo s fd ⟨[v], []⟩ [(("_law_script" : Str), v)]) ∧ ∀ base : Heap, K.In base → base.Ns mainGlobals mg → FnOk P w K mg base CX0 9 f fd ["_law_script"] (sp_law K) := by
  have T : Txt K mg := ⟨(He.glo_ok X G (ck_at c 0)),
    (He.glo_ok X G (ck_at c 1)),
    (He.glo_ok X G (ck_at c 2)),
    (He.glo_ok X G (ck_at c 3)),
    (He.glo_ok X G (ck_at c 4)),
    (He.glo_ok X G (ck_at c 5)),
    (He.glo_ok X G (ck_at c 6)),
    (He.glo_ok X G (ck_at c 7)),
    (He.glo_ok X G (ck_at c 8)),
    (He.glo_ok X G (ck_at c 9)),
    (He.glo_ok X G (ck_at c 10)),
    (He.glo_ok X G (ck_at c 11)),
    (He.glo_ok X G (ck_at c 12)),
    (He.glo_ok X G (ck_at c 13)),
    (He.glo_ok X G (ck_at c 14)),
    (He.glo_ok X G (ck_at c 15)),
    (He.glo_ok X G (ck_at c 16)),
    (He.glo_ok X G (ck_at c 17)),
    (He.glo_ok X G (ck_at c 18)),
    (He.glo_ok X G (ck_at c 19)),
    (He.glo_ok X G (ck_at c 20)),
    (He.glo_ok X G (ck_at c 21)),
    (He.glo_ok X G (ck_at c 22)),
    (He.glo_ok X G (ck_at c 23)),
    (He.free_ok X G (ck_at c 24)),
    (He.free_ok X G (ck_at c 25)),
    (He.free_ok X G (ck_at c 26)),
    (He.free_ok X G (ck_at c 27)),
    (He.free_ok X G (ck_at c 28)),
    (He.free_ok X G (ck_at c 29)),
    (He.free_ok X G (ck_at c 30)),
    (He.free_ok X G (ck_at c 31)),
    (He.free_ok X G (ck_at c 32)),
    (He.free_ok X G (ck_at c 33)),
    (He.free_ok X G (ck_at c 34)),
    (He.free_ok X G (ck_at c 35)),
    (He.glo_ok X G (ck_at c 36)),
    ((ck_at c 37)),
    (He.glo_ok X G (ck_at c 38)),
    ((ck_at c 39)),
    (He.glo_ok X G (ck_at c 40)),
    ((ck_at c 41)),
    (He.glo_ok X G (ck_at c 42)),
    ((ck_at c 43)),
    (He.glo_ok X G (ck_at c 44)),
    ((ck_at c 45)),
    (He.glo_ok X G (ck_at c 46)),
    ((ck_at c 47)),
    (He.glo_ok X G (ck_at c 48)),
    ((ck_at c 49)),
    (He.glo_ok X G (ck_at c 50)),
    ((ck_at c 51)),
    (He.glo_ok X G (ck_at c 52)),
    ((ck_at c 53)),
    (He.glo_ok X G (ck_at c 54)),
    ((ck_at c 55)),
    (He.glo_ok X G (ck_at c 56)),
    ((ck_at c 57)),
    (He.glo_ok X G (ck_at c 58)),
    ((ck_at c 59)),
    (He.glo_ok X G (ck_at c 60)),
    ((ck_at c 61)),
    (He.glo_ok X G (ck_at c 62)),
    ((ck_at c 63)),
    (He.glo_ok X G (ck_at c 64)),
    ((ck_at c 65)),
    (meth_of (ck_at c 66)),
    (meth_of (ck_at c 67)),
    (meth_of (ck_at c 68)),
    (meth_of (ck_at c 69)),
    (meth_of (ck_at c 70)),
    (meth_of (ck_at c 71)),
    (He.cls_ok (ck_at c 72)),
    (He.cls_ok (ck_at c 73)),
    (mk_of' (He.ba (ck_at c 74)).1 (He.ba (ck_at c 74)).2),
    (mk_of' (He.ba (ck_at c 75)).1 (He.ba (ck_at c 75)).2),
    (re_of (ck_at c 76)),
    (err_of (ck_at c 77)),
    (err_of (ck_at c 78)),
    (err_of (ck_at c 79)),
    (err0_of (ck_at c 80)),
    (err_of (ck_at c 81)),
    (err_of (ck_at c 82)),
    (err_of (ck_at c 83)),
    (err_of (ck_at c 84)),
    (err0_of (ck_at c 85)),
    (gk_int X G (ck_at c 86)),
    (gk_str X G (ck_at c 87)),
    (gk_int X G (ck_at c 88)),
    (gk_int X G (ck_at c 89)),
    (picFx_of (ck_at c 90)),
    (tellFx_of (ck_at c 91)),
    (He.glo_ok X G (ck_at c 92))⟩
  obtain ⟨fd__law_cell, F__law_cell⟩ := c.def_ 0
  obtain ⟨fd__law_mixed, F__law_mixed⟩ := c.def_ 1
  obtain ⟨fd__law_odd, F__law_odd⟩ := c.def_ 2
  obtain ⟨fd_is_whole, F_is_whole⟩ := c.def_ 3
  obtain ⟨fd_Picture___init__, F_Picture___init__⟩ := c.def_ 4
  obtain ⟨fd__law_no_size, F__law_no_size⟩ := c.def_ 5
  obtain ⟨fd_is_name, F_is_name⟩ := c.def_ 6
  obtain ⟨fd_NoName___init__, F_NoName___init__⟩ := c.def_ 7
  obtain ⟨fd_NoCell___init__, F_NoCell___init__⟩ := c.def_ 8
  obtain ⟨fd_Picture_look_cell, F_Picture_look_cell⟩ := c.def_ 9
  obtain ⟨fd_NoSides___init__, F_NoSides___init__⟩ := c.def_ 10
  obtain ⟨fd_NoWindow___init__, F_NoWindow___init__⟩ := c.def_ 11
  obtain ⟨fd_OldPoint___init__, F_OldPoint___init__⟩ := c.def_ 12
  obtain ⟨fd_SameColumn___init__, F_SameColumn___init__⟩ := c.def_ 13
  obtain ⟨fd_SameRow___init__, F_SameRow___init__⟩ := c.def_ 14
  obtain ⟨fd_Picture_look_free, F_Picture_look_free⟩ := c.def_ 15
  obtain ⟨fd_Point___init__, F_Point___init__⟩ := c.def_ 16
  obtain ⟨fd_Picture_put, F_Picture_put⟩ := c.def_ 17
  obtain ⟨fd__law_eleven, F__law_eleven⟩ := c.def_ 18
  obtain ⟨fd__law_args, F__law_args⟩ := c.def_ 19
  obtain ⟨fd__law_is_whole, F__law_is_whole⟩ := c.def_ 20
  obtain ⟨fd__law_due, F__law_due⟩ := c.def_ 21
  obtain ⟨fd__law_put, F__law_put⟩ := c.def_ 22
  obtain ⟨fd__law_told_more, F__law_told_more⟩ := c.def_ 23
  obtain ⟨fd__law_told, F__law_told⟩ := c.def_ 24
  obtain ⟨fd__law_tried, F__law_tried⟩ := c.def_ 25
  obtain ⟨fd_Point_told, F_Point_told⟩ := c.def_ 26
  obtain ⟨fd_Picture_points, F_Picture_points⟩ := c.def_ 27
  obtain ⟨fd_Picture_seats, F_Picture_seats⟩ := c.def_ 28
  obtain ⟨fd__law_right, F__law_right⟩ := c.def_ 29
  obtain ⟨fd_law, F_law⟩ := c.def_ 30
  have b__law_cell : Binds K fd__law_cell ["_law_script", "_law_k"] [] := FunD.bindsN (ps := ["_law_script", "_law_k"]) F__law_cell fun _ _ _ _ _ _ us hl => match us, hl with | [_, _], _ => rfl
  have b__law_mixed : Binds K fd__law_mixed ["_law_cell_here", "_law_k"] [] := FunD.bindsN (ps := ["_law_cell_here", "_law_k"]) F__law_mixed fun _ _ _ _ _ _ us hl => match us, hl with | [_, _], _ => rfl
  have b__law_odd : Binds K fd__law_odd ["_law_number", "_law_size"] [] := FunD.bindsN (ps := ["_law_number", "_law_size"]) F__law_odd fun _ _ _ _ _ _ us hl => match us, hl with | [_, _], _ => rfl
  have b_is_whole : Binds K fd_is_whole ["thing", "low", "high"] [] := FunD.bindsN (ps := ["thing", "low", "high"]) F_is_whole fun _ _ _ _ _ _ us hl => match us, hl with | [_, _, _], _ => rfl
  have b_Picture___init__ : Binds K fd_Picture___init__ ["self", "width", "height"] [] := FunD.bindsN (ps := ["self", "width", "height"]) F_Picture___init__ fun _ _ _ _ _ _ us hl => match us, hl with | [_, _, _], _ => rfl
  have b__law_no_size : Binds K fd__law_no_size ["_law_number"] [] := FunD.bindsN (ps := ["_law_number"]) F__law_no_size fun _ _ _ _ _ _ us hl => match us, hl with | [_], _ => rfl
  have b_is_name : Binds K fd_is_name ["thing"] [] := FunD.bindsN (ps := ["thing"]) F_is_name fun _ _ _ _ _ _ us hl => match us, hl with | [_], _ => rfl
  have b_NoName___init__ : Binds K fd_NoName___init__ ["self", "name"] [] := FunD.bindsN (ps := ["self", "name"]) F_NoName___init__ fun _ _ _ _ _ _ us hl => match us, hl with | [_, _], _ => rfl
  have b_NoCell___init__ : Binds K fd_NoCell___init__ ["self", "x", "y"] [] := FunD.bindsN (ps := ["self", "x", "y"]) F_NoCell___init__ fun _ _ _ _ _ _ us hl => match us, hl with | [_, _, _], _ => rfl
  have b_Picture_look_cell : Binds K fd_Picture_look_cell ["self", "x", "y"] [] := FunD.bindsN (ps := ["self", "x", "y"]) F_Picture_look_cell fun _ _ _ _ _ _ us hl => match us, hl with | [_, _, _], _ => rfl
  have b_NoSides___init__ : Binds K fd_NoSides___init__ ["self", "sides"] [] := FunD.bindsN (ps := ["self", "sides"]) F_NoSides___init__ fun _ _ _ _ _ _ us hl => match us, hl with | [_, _], _ => rfl
  have b_NoWindow___init__ : Binds K fd_NoWindow___init__ ["self", "low", "high"] [] := FunD.bindsN (ps := ["self", "low", "high"]) F_NoWindow___init__ fun _ _ _ _ _ _ us hl => match us, hl with | [_, _, _], _ => rfl
  have b_OldPoint___init__ : Binds K fd_OldPoint___init__ ["self", "name"] [] := FunD.bindsN (ps := ["self", "name"]) F_OldPoint___init__ fun _ _ _ _ _ _ us hl => match us, hl with | [_, _], _ => rfl
  have b_SameColumn___init__ : Binds K fd_SameColumn___init__ ["self", "name"] [] := FunD.bindsN (ps := ["self", "name"]) F_SameColumn___init__ fun _ _ _ _ _ _ us hl => match us, hl with | [_, _], _ => rfl
  have b_SameRow___init__ : Binds K fd_SameRow___init__ ["self", "name"] [] := FunD.bindsN (ps := ["self", "name"]) F_SameRow___init__ fun _ _ _ _ _ _ us hl => match us, hl with | [_, _], _ => rfl
  have b_Picture_look_free : Binds K fd_Picture_look_free ["self", "x", "y", "name"] [] := FunD.bindsN (ps := ["self", "x", "y", "name"]) F_Picture_look_free fun _ _ _ _ _ _ us hl => match us, hl with | [_, _, _, _], _ => rfl
  have b_Point___init__ : Binds K fd_Point___init__ ["self", "name", "x", "y", "sides", "low", "high"] [] := FunD.bindsN (ps := ["self", "name", "x", "y", "sides", "low", "high"]) F_Point___init__ fun _ _ _ _ _ _ us hl => match us, hl with | [_, _, _, _, _, _, _], _ => rfl
  have b_Picture_put : Binds K fd_Picture_put ["self", "name", "x", "y", "sides", "low", "high"] [] := binds_full (by exact F_Picture_put.binds1 (ps := ["self", "name", "x", "y", "sides", "low", "high"]) 7 3 (fun z => by cases z) (by rfl) fun _ _ _ _ _ _ _ us its hl hi => match us, its, hl, hi with | [_, _, _, _, _, _, _], [_, _, _], _, _ => ⟨_, rfl, rfl⟩)
  obtain ⟨ds_Picture_put_1, v_Picture_put_1, b_Picture_put_1⟩ := F_Picture_put.binds1 (ps := ["self", "name", "x", "y", "sides", "low", "high"]) 6 2 (fun z => by cases z) (by rfl) fun _ _ _ _ _ _ _ us its hl hi => match us, its, hl, hi with | [_, _, _, _, _, _], [_, _, _], _, _ => ⟨_, rfl, rfl⟩
  obtain ⟨ds_Picture_put_2, v_Picture_put_2, b_Picture_put_2⟩ := F_Picture_put.binds1 (ps := ["self", "name", "x", "y", "sides", "low", "high"]) 5 1 (fun z => by cases z) (by rfl) fun _ _ _ _ _ _ _ us its hl hi => match us, its, hl, hi with | [_, _, _, _, _], [_, _, _], _, _ => ⟨_, rfl, rfl⟩
  obtain ⟨ds_Picture_put_3, v_Picture_put_3, b_Picture_put_3⟩ := F_Picture_put.binds1 (ps := ["self", "name", "x", "y", "sides", "low", "high"]) 4 0 (fun z => by cases z) (by rfl) fun _ _ _ _ _ _ _ us its hl hi => match us, its, hl, hi with | [_, _, _, _], [_, _, _], _, _ => ⟨_, rfl, rfl⟩
  have b__law_eleven : Binds K fd__law_eleven ["_law_picture", "_law_cell_here"] [] := FunD.bindsN (ps := ["_law_picture", "_law_cell_here"]) F__law_eleven fun _ _ _ _ _ _ us hl => match us, hl with | [_, _], _ => rfl
  have b__law_args : Binds K fd__law_args ["_law_cell_here", "_law_k", "_law_size"] [] := FunD.bindsN (ps := ["_law_cell_here", "_law_k", "_law_size"]) F__law_args fun _ _ _ _ _ _ us hl => match us, hl with | [_, _, _], _ => rfl
  have b__law_is_whole : Binds K fd__law_is_whole ["_law_thing", "_law_low", "_law_high"] [] := FunD.bindsN (ps := ["_law_thing", "_law_low", "_law_high"]) F__law_is_whole fun _ _ _ _ _ _ us hl => match us, hl with | [_, _, _], _ => rfl
  have b__law_due : Binds K fd__law_due ["_law_size", "_law_rows", "_law_args_here"] [] := FunD.bindsN (ps := ["_law_size", "_law_rows", "_law_args_here"]) F__law_due fun _ _ _ _ _ _ us hl => match us, hl with | [_, _, _], _ => rfl
  have b__law_put : Binds K fd__law_put ["_law_picture", "_law_args_here", "_law_many"] [] := FunD.bindsN (ps := ["_law_picture", "_law_args_here", "_law_many"]) F__law_put fun _ _ _ _ _ _ us hl => match us, hl with | [_, _, _], _ => rfl
  have b__law_told_more : Binds K fd__law_told_more ["_law_e"] [] := FunD.bindsN (ps := ["_law_e"]) F__law_told_more fun _ _ _ _ _ _ us hl => match us, hl with | [_], _ => rfl
  have b__law_told : Binds K fd__law_told ["_law_e"] [] := FunD.bindsN (ps := ["_law_e"]) F__law_told fun _ _ _ _ _ _ us hl => match us, hl with | [_], _ => rfl
  have b__law_tried : Binds K fd__law_tried ["_law_picture", "_law_size", "_law_rows", "_law_args_here", "_law_many"] [] := FunD.bindsN (ps := ["_law_picture", "_law_size", "_law_rows", "_law_args_here", "_law_many"]) F__law_tried fun _ _ _ _ _ _ us hl => match us, hl with | [_, _, _, _, _], _ => rfl
  have b_Point_told : Binds K fd_Point_told ["self"] [] := FunD.bindsN (ps := ["self"]) F_Point_told fun _ _ _ _ _ _ us hl => match us, hl with | [_], _ => rfl
  have b_Picture_points : Binds K fd_Picture_points ["self"] [] := FunD.bindsN (ps := ["self"]) F_Picture_points fun _ _ _ _ _ _ us hl => match us, hl with | [_], _ => rfl
  have b_Picture_seats : Binds K fd_Picture_seats ["self"] [] := FunD.bindsN (ps := ["self"]) F_Picture_seats fun _ _ _ _ _ _ us hl => match us, hl with | [_], _ => rfl
  have b__law_right : Binds K fd__law_right ["_law_picture", "_law_size", "_law_rows"] [] := FunD.bindsN (ps := ["_law_picture", "_law_size", "_law_rows"]) F__law_right fun _ _ _ _ _ _ us hl => match us, hl with | [_, _, _], _ => rfl
  have e := hfa.symm.trans (He.glo_ok X G (x := "law") (ck_at c 92))
  cases e
  have b := FunD.bindsA (ps := ["_law_script"]) F_law fun _ _ _ _ _ _ us hl => match us, hl with | [_], _ => rfl
  refine ⟨fd_law, fun s v => b s [v] rfl, fun base _ _ => ?_⟩
  have G__law_cell := ok__law_cell (P := P) (w := w) (base := base) T F__law_cell 
  have G__law_mixed := ok__law_mixed (P := P) (w := w) (base := base) T F__law_mixed 
  have G__law_odd := ok__law_odd (P := P) (w := w) (base := base) T F__law_odd 
  have G_is_whole := ok_is_whole (P := P) (w := w) (base := base) T F_is_whole 
  have G_Picture___init__ := ok_Picture___init__ (P := P) (w := w) (base := base) T F_Picture___init__ G_is_whole b_is_whole
  have G__law_no_size := ok__law_no_size (P := P) (w := w) (base := base) T F__law_no_size G__law_odd b__law_odd G_Picture___init__ b_Picture___init__
  have G_is_name := ok_is_name (P := P) (w := w) (base := base) T F_is_name 
  have G_NoName___init__ := ok_NoName___init__ (P := P) (w := w) (base := base) T F_NoName___init__ 
  have G_NoCell___init__ := ok_NoCell___init__ (P := P) (w := w) (base := base) T F_NoCell___init__ 
  have G_Picture_look_cell := ok_Picture_look_cell (P := P) (w := w) (base := base) T F_Picture_look_cell G_is_whole b_is_whole G_NoCell___init__ b_NoCell___init__
  have G_NoSides___init__ := ok_NoSides___init__ (P := P) (w := w) (base := base) T F_NoSides___init__ 
  have G_NoWindow___init__ := ok_NoWindow___init__ (P := P) (w := w) (base := base) T F_NoWindow___init__ 
  have G_OldPoint___init__ := ok_OldPoint___init__ (P := P) (w := w) (base := base) T F_OldPoint___init__ 
  have G_SameColumn___init__ := ok_SameColumn___init__ (P := P) (w := w) (base := base) T F_SameColumn___init__ 
  have G_SameRow___init__ := ok_SameRow___init__ (P := P) (w := w) (base := base) T F_SameRow___init__ 
  have G_Picture_look_free := ok_Picture_look_free (P := P) (w := w) (base := base) T F_Picture_look_free G_SameColumn___init__ b_SameColumn___init__ G_SameRow___init__ b_SameRow___init__
  have G_Point___init__ := ok_Point___init__ (P := P) (w := w) (base := base) T F_Point___init__ 
  have G_Picture_put := ok_Picture_put (P := P) (w := w) (base := base) T F_Picture_put G_is_name b_is_name G_NoName___init__ b_NoName___init__ G_Picture_look_cell b_Picture_look_cell G_NoSides___init__ b_NoSides___init__ G_is_whole b_is_whole G_NoWindow___init__ b_NoWindow___init__ G_OldPoint___init__ b_OldPoint___init__ G_Picture_look_free b_Picture_look_free G_Point___init__ b_Point___init__
  have G__law_eleven := ok__law_eleven (P := P) (w := w) (base := base) T F__law_eleven G__law_mixed b__law_mixed G_Picture_put v_Picture_put_3 b_Picture_put_3
  have G__law_args := ok__law_args (P := P) (w := w) (base := base) T F__law_args G__law_mixed b__law_mixed G__law_odd b__law_odd
  have G__law_is_whole := ok__law_is_whole (P := P) (w := w) (base := base) T F__law_is_whole 
  have G__law_due := ok__law_due (P := P) (w := w) (base := base) T F__law_due G__law_is_whole b__law_is_whole
  have G__law_put := ok__law_put (P := P) (w := w) (base := base) T F__law_put G_Picture_put b_Picture_put v_Picture_put_1 b_Picture_put_1 v_Picture_put_2 b_Picture_put_2 v_Picture_put_3 b_Picture_put_3
  have G__law_told_more := ok__law_told_more (P := P) (w := w) (base := base) T F__law_told_more 
  have G__law_told := ok__law_told (P := P) (w := w) (base := base) T F__law_told G__law_told_more b__law_told_more
  have G__law_tried := ok__law_tried (P := P) (w := w) (base := base) T F__law_tried G__law_due b__law_due G__law_put b__law_put G__law_told b__law_told
  have G_Point_told := ok_Point_told (P := P) (w := w) (base := base) T F_Point_told 
  have G_Picture_points := ok_Picture_points (P := P) (w := w) (base := base) T F_Picture_points G_Point_told b_Point_told
  have G_Picture_seats := ok_Picture_seats (P := P) (w := w) (base := base) T F_Picture_seats 
  have G__law_right := ok__law_right (P := P) (w := w) (base := base) T F__law_right G_Picture_points b_Picture_points G_Picture_seats b_Picture_seats
  exact fnOk0 (ok_law (P := P) (w := w) (base := base) T F_law G__law_cell b__law_cell G__law_mixed b__law_mixed G__law_no_size b__law_no_size G_Picture___init__ b_Picture___init__ G__law_eleven b__law_eleven G__law_args b__law_args G__law_tried b__law_tried G__law_right b__law_right) fun _ _ _ _ h => h
abbrev R : PySem.W.OpenRow := PySem.W.OpenLaw.row PySem.Challenge.rw_rimnotes_k03_points_put
abbrev hk : PySem.W.Hook := hookC (addrs 700) (fun K => looks.all fun f => f K) fns
def ob (s : PySem.W.SharedT) : AlC := obsCG (addrs 700) (fun K => looks.all fun f => f K) fns (HandSHeadRun.getT s)
theorem ob_eq (s : PySem.W.SharedT) : ob s = hk.obs s.abs := obsCG_eq (HandSHeadRun.getT_eq s)
def others0 : List Str := ["_wall", "__name__", "RimError", "NoSize", "NoName", "NoCell", "NoSides", "NoWindow", "OldPoint", "NoPoint", "TooMany", "SameColumn", "SameRow", "NoSide", "NoRow", "OldSeat", "NoSeat", "NoRoom", "NoNotes", "TooFull", "TooTall", "BadLine", "BadDrawing", "NoLine", "LETTERS", "is_whole", "is_name", "WIDEST", "HIGHEST", "MOST_POINTS"]
def others1 : List Str := ["Point", "Picture", "_law_cell", "_law_mixed", "_law_told", "_law_told_more", "_law_is_whole", "_law_odd", "_law_args", "_law_due", "_law_put", "_law_tried", "_law_right", "_law_no_size", "_law_eleven"]
def others : List Str := others0 ++ others1
theorem run (w : World) : HandSHeadRun.RunEq R (PySem.W.view R.prog [48]) hk ob 100000 others w := by
  intro os
  kernel_rfl
end Rim
open PySem PySem.W PySem.Calls PyProof.Rows
set_option maxRecDepth 100000 in
set_option maxHeartbeats 0 in
theorem PySem.Challenge.cw_rimnotes_k03_points_put_holds : PySem.Challenge.rw_rimnotes_k03_points_put.Holds := by
  w_on; o_law
  refine HandSHeadRun.head_any (r := OpenLaw.row PySem.Challenge.rw_rimnotes_k03_points_put) (q := view (OpenLaw.row PySem.Challenge.rw_rimnotes_k03_points_put).prog [48]) (H := Rim.hk) (ob := Rim.ob) (M := 100000) (loose := Rim.others) (d := HandSHeadRun.topDef (OpenLaw.row PySem.Challenge.rw_rimnotes_k03_points_put).prog 48) (kwd := []) Rim.ob_eq
    (by kernel_rfl) (fun s => by kernel_rfl) Rim.run (by kernel_rfl) (by kernel_rfl) (by kernel_rfl) (by rfl) (by first | assumption | decide +kernel) (by decide +kernel) ⟨rfl, rfl, rfl, rfl, rfl, by decide +kernel⟩ ?hw ?hc
  case hw => w_witness2
  case hc =>
    refine L2.walk_ofE (l := PySem.Challenge.rw_rimnotes_k03_points_put) (n := 63) (k := 9) (x := ("_law_script" : Str)) (CX := L2.CX0) rfl (by decide) (by kernel_rfl) ⟨rfl, by decide, by decide⟩ ?F (fun _ _ _ _ z => z)
    intro w mg fa h Y G hmg0
    obtain ⟨K, KX, c⟩ := Y
    have hmg : mg ("law" : PySem.Str) = some (.ref fa) := by
      have e : (HandSHeadRun.topDef (OpenLaw.row PySem.Challenge.rw_rimnotes_k03_points_put).prog 48).name = ("law" : PySem.Str) := by kernel_rfl
      rw [← e]
      exact hmg0
    obtain ⟨fd, hb, hF⟩ := Rim.facts (P := (PySem.Challenge.rw_rimnotes_k03_points_put).prog) (w := w) KX G hmg c
    exact ⟨K, fd, Rim.sp_law K, KX, hb, fun H a ns hl _ hS => ⟨a, ns, rfl, hS, hl, fun _ => rfl⟩, hF⟩
